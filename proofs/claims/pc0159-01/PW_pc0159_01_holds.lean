import PyProof.Rows.All
import KE.BytesMake
import Wide.FinOn
import OpenK.AllK
import Wide.All
import Lean
import PySem.Challenge.RW_pc0159_01
set_option Elab.async false
set_option maxRecDepth 100000
set_option maxHeartbeats 0
set_option linter.all false
namespace Mine
section
open PyProof.Rows PySem PySem.W
noncomputable def aAb:List Char:=[' ','A','C','C','E','P','T',' ','A','C','C','E','S','S',' ','A','D','D',' ','A','D','V','A','N','C','I','N','G',' ','A','F','T','E','R',' ','A','L','L',' ','A','L','P','H','A','B','E','T','I','C',' ','A','L','P','H','A','B','E','T','I','C','-','L','O','W','E','R',' ','A','L','P','H','A','B','E','T','I','C','-','U','P','P','E','R',' ','A','L','P','H','A','N','U','M','E','R','I','C',' ','A','L','P','H','A','N','U','M','E','R','I','C','-','E','D','I','T','E','D',' ','A','L','S','O',' ','A','L','T','E','R','N','A','T','E',' ','A','N','D',' ','A','N','Y',' ','A','R','E',' ','A','R','E','A',' ','A','R','E','A','S',' ','A','S','C','E','N','D','I','N','G',' ','A','S','S','I','G','N',' ','A','T',' ','A','U','T','H','O','R',' ','B','E','F','O','R','E',' ','B','I','N','A','R','Y',' ','B','L','A','N','K',' ','B','L','O','C','K',' ','B','Y',' ','C','A','L','L',' ','C','H','A','R','A','C','T','E','R',' ','C','H','A','R','A','C','T','E','R','S',' ','C','L','O','S','E',' ','C','O','M','P',' ','C','O','M','P','-','3',' ','C','O','M','P','U','T','A','T','I','O','N','A','L',' ','C','O','M','P','U','T','A','T','I','O','N','A','L','-','3',' ','C','O','M','P','U','T','E',' ','C','O','N','F','I','G','U','R','A','T','I','O','N',' ','C','O','N','T','A','I','N','S',' ','C','O','N','T','E','N','T',' ','C','O','N','T','I','N','U','E',' ','C','O','N','V','E','R','T','I','N','G',' ','C','O','P','Y',' ','C','O','R','R',' ','C','O','R','R','E','S','P','O','N','D','I','N','G',' ','C','O','U','N','T',' ','D','A','T','A',' ','D','A','T','E','-','C','O','M','P','I','L','E','D',' ','D','A','T','E','-','W','R','I','T','T','E','N',' ','D','E','L','E','T','E',' ','D','E','L','I','M','I','T','E','D',' ','D','E','L','I','M','I','T','E','R',' ','D','E','P','E','N','D','I','N','G',' ','D','E','S','C','E','N','D','I','N','G',' ','D','I','S','P','L','A','Y',' ','D','I','V','I','D','E',' ','D','I','V','I','S','I','O','N',' ','D','O','W','N',' ','D','U','P','L','I','C','A','T','E','S',' ','D','Y','N','A','M','I','C',' ','E','L','S','E',' ','E','N','D',' ','E','N','D','-','A','D','D',' ','E','N','D','-','C','A','L','L',' ','E','N','D','-','C','O','M','P','U','T','E',' ','E','N','D','-','D','E','L','E','T','E',' ','E','N','D','-','D','I','V','I','D','E',' ','E','N','D','-','E','V','A','L','U','A','T','E',' ','E','N','D','-','I','F',' ','E','N','D','-','M','U','L','T','I','P','L','Y',' ','E','N','D','-','P','E','R','F','O','R','M',' ','E','N','D','-','R','E','A','D',' ','E','N','D','-','R','E','T','U','R','N',' ','E','N','D','-','R','E','W','R','I','T','E',' ','E','N','D','-','S','E','A','R','C','H',' ','E','N','D','-','S','T','A','R','T',' ','E','N','D','-','S','T','R','I','N','G',' ','E','N','D','-','S','U','B','T','R','A','C','T',' ','E','N','D','-','U','N','S','T','R','I','N','G',' ','E','N','D','-','W','R','I','T','E',' ','E','N','V','I','R','O','N','M','E','N','T',' ','E','Q','U','A','L',' ','E','R','R','O','R',' ','E','V','A','L','U','A','T','E',' ','E','X','C','E','P','T','I','O','N',' ','E','X','I','T',' ','E','X','T','E','N','D',' ','E','X','T','E','R','N','A','L',' ','F','A','L','S','E',' ','F','D',' ','F','I','L','E',' ','F','I','L','E','-','C','O','N','T','R','O','L',' ','F','I','L','L','E','R',' ','F','I','R','S','T',' ','F','O','R',' ','F','R','O','M',' ','G','I','V','I','N','G',' ','G','L','O','B','A','L',' ','G','O',' ','G','R','E','A','T','E','R',' ','H','I','G','H','-','V','A','L','U','E',' ','H','I','G','H','-','V','A','L','U','E','S',' ','I','-','O',' ','I','-','O','-','C','O','N','T','R','O','L',' ','I','D','E','N','T','I','F','I','C','A','T','I','O','N',' ','I','F',' ','I','N',' ','I','N','D','E','X',' ','I','N','D','E','X','E','D',' ','I','N','I','T','I','A','L',' ','I','N','I','T','I','A','L','I','Z','E',' ','I','N','P','U','T',' ','I','N','P','U','T','-','O','U','T','P','U','T',' ','I','N','S','P','E','C','T',' ','I','N','S','T','A','L','L','A','T','I','O','N',' ','I','N','T','O',' ','I','N','V','A','L','I','D',' ','I','S',' ','J','U','S','T',' ','J','U','S','T','I','F','I','E','D',' ','K','E','Y',' ','L','A','B','E','L',' ','L','E','A','D','I','N','G',' ','L','E','F','T',' ','L','E','S','S',' ','L','I','N','E',' ','L','I','N','E','S',' ','L','I','N','K','A','G','E',' ','L','O','C','K',' ','L','O','W','-','V','A','L','U','E',' ','L','O','W','-','V','A','L','U','E','S',' ','M','E','R','G','E',' ','M','O','D','E',' ','M','O','V','E',' ','M','U','L','T','I','P','L','Y',' ','N','A','T','I','V','E',' ','N','E','G','A','T','I','V','E',' ','N','E','X','T',' ','N','O',' ','N','O','T',' ','N','U','M','E','R','I','C',' ','N','U','M','E','R','I','C','-','E','D','I','T','E','D',' ','O','B','J','E','C','T','-','C','O','M','P','U','T','E','R',' ','O','C','C','U','R','S',' ','O','F',' ','O','F','F',' ','O','M','I','T','T','E','D',' ','O','N',' ','O','P','E','N',' ','O','P','T','I','O','N','A','L',' ','O','R',' ','O','R','D','E','R',' ','O','R','G','A','N','I','Z','A','T','I','O','N',' ','O','T','H','E','R',' ','O','U','T','P','U','T',' ','O','V','E','R','F','L','O','W',' ','P','A','C','K','E','D','-','D','E','C','I','M','A','L',' ','P','E','R','F','O','R','M',' ','P','I','C',' ','P','I','C','T','U','R','E',' ','P','O','I','N','T','E','R',' ','P','O','S','I','T','I','V','E',' ','P','R','O','C','E','D','U','R','E',' ','P','R','O','C','E','E','D',' ','P','R','O','G','R','A','M',' ','P','R','O','G','R','A','M','-','I','D',' ','Q','U','O','T','E',' ','Q','U','O','T','E','S',' ','R','A','N','D','O','M',' ','R','E','A','D',' ','R','E','C','O','R','D',' ','R','E','C','O','R','D','S',' ','R','E','D','E','F','I','N','E','S',' ','R','E','F','E','R','E','N','C','E',' ','R','E','L','A','T','I','V','E',' ','R','E','L','E','A','S','E',' ','R','E','M','A','I','N','D','E','R',' ','R','E','N','A','M','E','S',' ','R','E','P','L','A','C','E',' ','R','E','P','L','A','C','I','N','G',' ','R','E','T','U','R','N',' ','R','E','W','R','I','T','E',' ','R','I','G','H','T',' ','R','O','U','N','D','E','D',' ','R','U','N',' ','S','A','M','E',' ','S','D',' ','S','E','A','R','C','H',' ','S','E','C','T','I','O','N',' ','S','E','C','U','R','I','T','Y',' ','S','E','L','E','C','T',' ','S','E','N','T','E','N','C','E',' ','S','E','P','A','R','A','T','E',' ','S','E','Q','U','E','N','T','I','A','L',' ','S','E','T',' ','S','I','G','N',' ','S','I','Z','E',' ','S','O','R','T',' ','S','O','R','T','-','M','E','R','G','E',' ','S','O','U','R','C','E','-','C','O','M','P','U','T','E','R',' ','S','P','A','C','E',' ','S','P','A','C','E','S',' ','S','P','E','C','I','A','L','-','N','A','M','E','S',' ','S','T','A','N','D','A','R','D',' ','S','T','A','R','T',' ','S','T','A','T','U','S',' ','S','T','O','P',' ','S','T','R','I','N','G',' ','S','U','B','T','R','A','C','T',' ','S','Y','N','C',' ','S','Y','N','C','H','R','O','N','I','Z','E','D',' ','T','A','L','L','Y','I','N','G',' ','T','E','S','T',' ','T','H','A','N',' ','T','H','E','N',' ','T','H','R','O','U','G','H',' ','T','H','R','U',' ','T','I','M','E','S',' ','T','O',' ','T','R','A','I','L','I','N','G',' ','T','R','U','E',' ','U','N','S','T','R','I','N','G',' ','U','N','T','I','L',' ','U','P',' ','U','P','O','N',' ','U','S','A','G','E',' ','U','S','I','N','G',' ','V','A','L','U','E',' ','V','A','L','U','E','S',' ','V','A','R','Y','I','N','G',' ','W','H','E','N',' ','W','I','T','H',' ','W','O','R','K','I','N','G','-','S','T','O','R','A','G','E',' ','W','R','I','T','E',' ','Z','E','R','O',' ','Z','E','R','O','E','S',' ','Z','E','R','O','S',' ']
noncomputable def fE:String:=" ACCEPT ACCESS ADD ADVANCING AFTER ALL ALPHABETIC ALPHABETIC-LOWER ALPHABETIC-UPPER ALPHANUMERIC ALPHANUMERIC-EDITED ALSO ALTERNATE AND ANY ARE AREA AREAS ASCENDING ASSIGN AT AUTHOR BEFORE BINARY BLANK BLOCK BY CALL CHARACTER CHARACTERS CLOSE COMP COMP-3 COMPUTATIONAL COMPUTATIONAL-3 COMPUTE CONFIGURATION CONTAINS CONTENT CONTINUE CONVERTING COPY CORR CORRESPONDING COUNT DATA DATE-COMPILED DATE-WRITTEN DELETE DELIMITED DELIMITER DEPENDING DESCENDING DISPLAY DIVIDE DIVISION DOWN DUPLICATES DYNAMIC ELSE END END-ADD END-CALL END-COMPUTE END-DELETE END-DIVIDE END-EVALUATE END-IF END-MULTIPLY END-PERFORM END-READ END-RETURN END-REWRITE END-SEARCH END-START END-STRING END-SUBTRACT END-UNSTRING END-WRITE ENVIRONMENT EQUAL ERROR EVALUATE EXCEPTION EXIT EXTEND EXTERNAL FALSE FD FILE FILE-CONTROL FILLER FIRST FOR FROM GIVING GLOBAL GO GREATER HIGH-VALUE HIGH-VALUES I-O I-O-CONTROL IDENTIFICATION IF IN INDEX INDEXED INITIAL INITIALIZE INPUT INPUT-OUTPUT INSPECT INSTALLATION INTO INVALID IS JUST JUSTIFIED KEY LABEL LEADING LEFT LESS LINE LINES LINKAGE LOCK LOW-VALUE LOW-VALUES MERGE MODE MOVE MULTIPLY NATIVE NEGATIVE NEXT NO NOT NUMERIC NUMERIC-EDITED OBJECT-COMPUTER OCCURS OF OFF OMITTED ON OPEN OPTIONAL OR ORDER ORGANIZATION OTHER OUTPUT OVERFLOW PACKED-DECIMAL PERFORM PIC PICTURE POINTER POSITIVE PROCEDURE PROCEED PROGRAM PROGRAM-ID QUOTE QUOTES RANDOM READ RECORD RECORDS REDEFINES REFERENCE RELATIVE RELEASE REMAINDER RENAMES REPLACE REPLACING RETURN REWRITE RIGHT ROUNDED RUN SAME SD SEARCH SECTION SECURITY SELECT SENTENCE SEPARATE SEQUENTIAL SET SIGN SIZE SORT SORT-MERGE SOURCE-COMPUTER SPACE SPACES SPECIAL-NAMES STANDARD START STATUS STOP STRING SUBTRACT SYNC SYNCHRONIZED TALLYING TEST THAN THEN THROUGH THRU TIMES TO TRAILING TRUE UNSTRING UNTIL UP UPON USAGE USING VALUE VALUES VARYING WHEN WITH WORKING-STORAGE WRITE ZERO ZEROES ZEROS "
noncomputable def oQ:List Nat:=aAb.map Char.toNat
theorem aHK:fE=String.ofList aAb:=by kernel_rfl
theorem oS:Str.ofString fE=⟨oQ.toArray⟩:=by
 rw [aHK,Fast.ofString_ofList]; rfl
theorem aD5:(frameAttrs.all fun n=>n.cps[0]? != some 32)=true:=by kernel_rfl
theorem aHJ:attrL (Str.ofString fE)=true:=by
 have e0:(Str.ofString fE).cps[0]? = some 32:=by rw [oS]; decide +kernel
 have e1:frameAttrs.contains (Str.ofString fE)=false:=by
  rw [Bool.eq_false_iff]
  intro h
  have hm:=List.contains_iff_mem.mp h
  have:=List.all_eq_true.mp aD5 _ hm
  rw [e0] at this
  exact absurd this (by decide)
 have e2:(Str.ofString fE).opensWith "__" = false:=by
  rw [oS]; decide +kernel
 unfold attrL
 rw [e1,e2]; rfl
theorem aHM:roadStr (Str.ofString fE)=false:=by
 unfold roadStr
 rw [oS]
 show ((oQ.toArray.any fun c=>c == 123 || c == 125) || (oQ.toArray.any (· == 46) && !oQ.toArray.any (· ≤ 32)))=false
 simp only [List.any_toArray]
 decide +kernel
abbrev lk0:Look:={ strict:=false,foot:=none }
theorem aHN:lk0.str (Str.ofString fE)=true:=by
 unfold Look.str
 rw [aHM]
 have:lk0.word (Str.ofString fE)=true:=by
  unfold Look.word
  rw [aHJ]; rfl
 rw [this]; simp
theorem sJ (lk:Look):∀ a b:List Stmt,noRoadLSs lk (a++b)=(noRoadLSs lk a && noRoadLSs lk b)
 | [],b=>by simp [noRoadLSs]
 | s::a,b=>by
  show (noRoadLS lk s && noRoadLSs lk (a++b))=((noRoadLS lk s && noRoadLSs lk a) && noRoadLSs lk b)
  rw [sJ lk a b,Bool.and_assoc]
theorem aF6 (lk:Look) (l:List Stmt) (n:Nat) (h1:noRoadLSs lk (l.take n)=true) (h2:noRoadLSs lk ((l.drop n).take 1)=true) (h3:noRoadLSs lk (l.drop (n + 1))=true):noRoadLSs lk l=true:=by
 rw [← List.take_append_drop n l,sJ,h1,← List.take_append_drop 1 (l.drop n),sJ,h2,List.drop_drop,h3]; rfl
abbrev prg:Program:=PySem.Challenge.rw_pc0159_01.prog
abbrev body:List Stmt:=prg.main.body
theorem aGL:noRoadLSs lk0 (body.take 88)=true:=by kernel_rfl
theorem aGN:noRoadLSs lk0 (body.drop 89)=true:=by kernel_rfl
theorem aGM:noRoadLSs lk0 ((body.drop 88).take 1)=true:=by
 show (((!(Option.isSome (none:Option (List Str))) || true) && (lk0.name "RESERVED" && true) && lk0.str (Str.ofString fE)) && true)=true
 rw [aHN]; decide +kernel
theorem aBS:((["vars","dir","locals"]:List Str).all fun n=>!readsOut prg body n)=true:=by kernel_rfl
theorem aIW:((importedModules body).all cThrough.contains)=true:=by kernel_rfl
theorem aFr:({ strict:=!(importedModules body).all cThrough.contains,foot:=none,bare:=(["vars","dir","locals"]:List Str).filter (readsOut prg body) }:Look)=lk0:=by
 rw [aIW]
 have:(["vars","dir","locals"]:List Str).filter (readsOut prg body)=[]:=by
  rw [List.filter_eq_nil_iff]
  intro n hn
  have:=List.all_eq_true.mp aBS n hn
  simpa using this
 rw [this]; rfl
theorem aH7:noRoadLSs { strict:=!(importedModules body).all cThrough.contains,foot:=none,bare:=(["vars","dir","locals"]:List Str).filter (readsOut prg body) } body=true:=by
 rw [aFr]; exact aF6 lk0 body 88 aGL aGM aGN
theorem aFs:looksOpen prg=true:=by
 unfold looksOpen
 refine look_both (look_both (look_both (look_both (look_both ?_ ?_) ?_) ?_) ?_) ?_
 ·kernel_rfl
 ·kernel_rfl
 ·kernel_rfl
 ·kernel_rfl
 ·exact aH7
 ·kernel_rfl
abbrev lw:OpenLaw:=PySem.Challenge.rw_pc0159_01
theorem aGO:lw.row.partSaid=true:=by
 unfold OpenRow.partSaid
 iterate 13 refine look_both ?_ ?_
 ·exact aFs
 all_goals kernel_rfl
theorem aH8 : lw.row.wellSaid=true:=by
 unfold OpenRow.wellSaid
 refine look_both (look_both aGO ?_) ?_
 all_goals kernel_rfl
theorem aIg:lw.wellSaid=true:=by
 unfold OpenLaw.wellSaid
 iterate 18 refine look_both ?_ ?_
 ·exact aH8
 all_goals kernel_rfl
noncomputable def qC (P:Params):BT:=(.node (boot_o_0 P) (.node (boot_o_1 P) (.node (boot_o_3 P) (.node (boot_o_7 P) .nil .nil) .nil) (.node (boot_o_5 P) (.node (boot_o_9 P) .nil .nil) .nil)) (.node (boot_o_2 P) (.node (boot_o_4 P) (.node (boot_o_8 P) .nil .nil) .nil) (.node (boot_o_6 P) (.node (boot_o_10 P) .nil .nil) .nil)))
theorem aB8 (P:Params):absHeap (qC P) 11 {} = boot_heap P:=by kernel_rfl
noncomputable def oT (stp:SharedT→Thread→Option (SharedT×Thread)) (ok:Thread→Bool):Nat→SharedT→Thread→Option SharedT
 | 0,_,_=>none
 | n + 1,s,t=>match through t with
  | true=>some s
  | false=>match ok t with
   | false=>none
   | true=>match stp s t with
    | some (s',t')=>oT stp ok n s' t'
    | none=>none
theorem aAi {p:Program} {w:World} {n₀:Nat} {ann:Option Value}:∀ {n:Nat} {s s' : SharedT} {t:Thread},oT (stepT (denote treeTable) p w) (stepOk n₀ ann) n s t=some s'→topRun treeTable p w n₀ ann n s.abs t=some s'.abs
 | 0,_,_,_,h=>by cases h
 | n + 1,s,s',t,h=>by
  unfold oT at h
  unfold topRun
  cases ht:through t with
  | true=>rw [ht] at h; cases h; rfl
  | false =>
   rw [ht] at h
   cases hk:stepOk n₀ ann t with
   | false=>rw [hk] at h; cases h
   | true =>
    rw [hk] at h
    cases hs:stepT (denote treeTable) p w s t with
    | none=>rw [hs] at h; cases h
    | some r =>
     obtain ⟨s₂,t₂⟩:=r
     rw [hs] at h
     rw [stepT_spec hs]
     exact aAi h
noncomputable def aF (i:Nat):Stmt:=(prg.main.body[i]?).getD (.Pass ⟨0,0,0,0⟩)
noncomputable def aM (i j:Nat):Stmt:=match aF i with
 | .ClassDef _ _ _ b _ _ _ _ _ _ _=>(b[j]?).getD (.Pass ⟨0,0,0,0⟩)
 | _=>.Pass ⟨0,0,0,0⟩
noncomputable def tC:Str:=match aF 88 with
 | .Assign _ (.Constant (.str x) _ _) _=>x
 | _=>Str.empty
noncomputable def aI (st:Stmt) (qual:Str) (dV pm cd:Value):Obj:=match st with
 | .FunctionDef name args body _ _ _ sc _ _ _=>⟨.type "function",none,.func (fnOf name qual args body sc dV .none .none pm none cd .none),#[]⟩
 | _=>⟨.none,none,.freed,#[]⟩
noncomputable def cdO (n q:Str) (t a b r u:Nat) (x y z:Value) (f:Nat):Obj:=⟨.type "code",none,.fields #[.str n t,.str q (t + 1),.str "/claim/cut.py" (t + 2),.int a 0,.int b 0,.int 0 0,.int 0 0,.int 3 0,.ref r,.bool true,.int 181 0,.ref u,.none,x,y,z,.int f 0,.int a 0,.str "/claim/cut.py" (f + 1)],#[]⟩
noncomputable def kv (P:Params) (x:Str) (t:Nat) (v:Value):DictEntry:=⟨PyData.keyHash P x,.str x t,v⟩
noncomputable def kfrag (P:Params):Frag :=
 (nat_lit 3,⟨.type "dict",none,.dict (List.toArray [kv P "__name__" 165 (.str "law_pc0159_01" 1366),kv P "__doc__" 166 .none,kv P "__package__" 167 .none,kv P "__loader__" 168 (.builtin "__main__.__loader__#opaque"),kv P "__spec__" 169 .none,kv P "__annotations__" 170 (.ref 6),kv P "__builtins__" 171 (.ref 4),kv P "__file__" 173 (.str "/claim/cut.py" 172),kv P "__cached__" 174 .none,kv P "_wall" 193 (.ref 21),kv P "MOST_NEST" 197 (.int 12 196),kv P "VERBS" 231 (.ref 22),kv P "is_verb_here" 238 (.ref 29),kv P "body_at" 248 (.ref 36),kv P "statement_at" 259 (.ref 43),kv P "LedgerError" 301 (.ref 69),kv P "TokenFault" 317 (.ref 82),kv P "GrammarFault" 333 (.ref 94),kv P "FIGURES" 337 (.str "0123456789" 336),kv P "cut_quotient" 345 (.ref 103),kv P "decimal" 354 (.ref 111),kv P "negated" 361 (.ref 118),kv P "units_at" 372 (.ref 125),kv P "is_whole" 379 (.ref 132),kv P "whole_of" 386 (.ref 139),kv P "worth_of" 395 (.ref 146),kv P "read_decimal" 408 (.ref 153),kv P "MOST_SUBSCRIPTS" 412 (.int 7 411),kv P "FIGURE_NAMES" 446 (.ref 154),kv P "is_part_next" 455 (.ref 161),kv P "read_subscripts" 464 (.ref 168),kv P "read_part" 474 (.ref 175),kv P "read_ref" 486 (.ref 182),kv P "read_all" 494 (.ref 189),kv P "read_figure" 501 (.ref 196),kv P "read_operand" 510 (.ref 203),kv P "MOST_DEEP_expressions" 514 (.int 20 513),kv P "read_expression" 521 (.ref 210),kv P "sign_among" 530 (.ref 217),kv P "read_sum" 540 (.ref 224),kv P "read_product" 550 (.ref 231),kv P "read_factor" 561 (.ref 238),kv P "is_lone_number" 570 (.ref 245),kv P "read_power" 579 (.ref 252),kv P "read_primary" 589 (.ref 259),kv P "FIGURE_WORDS" 593 (.str " ZERO ZEROS ZEROES SPACE SPACES HIGH-VALUE HIGH-VALUES LOW-VALUE LOW-VALUES QUOTE QUOTES ALL " 592),kv P "word_ahead" 603 (.ref 266),kv P "phrase_words" 610 (.ref 273),kv P "opening_length" 624 (.ref 280),kv P "body_here" 633 (.ref 287),kv P "branches_here" 646 (.ref 294),kv P "begins_operand" 653 (.ref 301),kv P "ref_here" 660 (.ref 308),kv P "is_numeric_operand" 667 (.ref 315),kv P "refuse_at" 676 (.ref 322),kv P "number_here" 685 (.ref 329),kv P "numbers_here" 693 (.ref 336),kv P "targets_here" 703 (.ref 343),kv P "goal_rows" 709 (.ref 348),kv P "sole_operand" 717 (.ref 355),kv P "given_rows" 724 (.ref 362),kv P "size_branches" 734 (.ref 369),kv P "read_corresponding" 748 (.ref 376),kv P "passes_corresponding" 755 (.ref 383),kv P "read_add" 766 (.ref 390),kv P "read_subtract" 777 (.ref 397),kv P "ref_behind" 787 (.ref 404),kv P "read_read" 800 (.ref 411),kv P "read_delete" 810 (.ref 418),kv P "MOST_DEEP_conditions" 814 (.int 20 813),kv P "OPPOSITES" 833 (.ref 419),kv P "CLASSES" 838 (.ref 420),kv P "WORDS_OF_SIGNS" 854 (.ref 421),kv P "WORDS_OF_RELATIONS" 864 (.ref 422),kv P "RELATIONS" 870 (.ref 423),kv P "word_here" 880 (.ref 431),kv P "is_relation_at" 889 (.ref 438),kv P "place_of_word" 897 (.ref 445),kv P "is_predicate_here" 906 (.ref 452),kv P "is_bare_relation_here" 913 (.ref 459),kv P "ConditionReader" 1041 (.ref 553),kv P "read_condition" 1050 (.ref 565),kv P "read_if" 1063 (.ref 572),kv P "read_mode" 1072 (.ref 579),kv P "read_args" 1082 (.ref 586),kv P "read_call" 1093 (.ref 593),kv P "MOST_OCTET" 1097 (.int 255 1096),kv P "RESERVED" 1099 (.str tC 1098),kv P "is_reserved" 1106 (.ref 600),kv P "octets_of_text" 1112 (.ref 605),kv P "Reader" 1319 (.ref 774),kv P "Token" 1365 (.ref 804),kv P "_law_pen" 1376 (.ref 815),kv P "_law_draw" 1385 (.ref 822),kv P "_law_words" 1391 (.ref 827),kv P "_law_bare" 1398 (.ref 834),kv P "_law_verbs" 1405 (.ref 841),kv P "_law_openings" 1411 (.ref 848),kv P "_law_opening_tokens" 1425 (.ref 855),kv P "_law_taker" 1431 (.ref 860),kv P "_law_close" 1437 (.ref 865),kv P "_law_open" 1451 (.ref 872),kv P "_law_take" 1457 (.ref 877),kv P "_law_innermost" 1463 (.ref 882),kv P "_law_laid" 1469 (.ref 887),kv P "_law_choose" 1477 (.ref 894),kv P "_law_right" 1483 (.ref 899),kv P "law" 1496 (.ref 906)]) 108,#[]⟩) ::
 (nat_lit 20,cdO "_wall" "_wall" 187 1 1 15 16 (.ref 17) (.ref 18) (.ref 19) 191) ::
 (nat_lit 21,aI (aF 0) "_wall" (.none) (.str "__main__" 164) (.ref 20)) ::
 (nat_lit 22,⟨.type "tuple",none,.seq #[.str "ADD" 198,.str "SUBTRACT" 199,.str "MULTIPLY" 200,.str "DIVIDE" 201,.str "COMPUTE" 202,.str "MOVE" 203,.str "INITIALIZE" 204,.str "SET" 205,.str "STRING" 206,.str "UNSTRING" 207,.str "INSPECT" 208,.str "SEARCH" 209,.str "ACCEPT" 210,.str "DISPLAY" 211,.str "IF" 212,.str "EVALUATE" 213,.str "PERFORM" 214,.str "GO" 215,.str "EXIT" 216,.str "STOP" 217,.str "CALL" 218,.str "CONTINUE" 219,.str "OPEN" 220,.str "CLOSE" 221,.str "READ" 222,.str "WRITE" 223,.str "REWRITE" 224,.str "DELETE" 225,.str "START" 226,.str "SORT" 227,.str "MERGE" 228,.str "RELEASE" 229,.str "RETURN" 230] 0,#[]⟩) ::
 (nat_lit 28,cdO "is_verb_here" "is_verb_here" 232 7 1 23 24 (.ref 25) (.ref 26) (.ref 27) 236) ::
 (nat_lit 29,aI (aF 4) "is_verb_here" (.none) (.str "ledgerspeak.procread" 194) (.ref 28)) ::
 (nat_lit 35,cdO "body_at" "body_at" 239 9 3 30 31 (.ref 32) (.ref 33) (.ref 34) 246) ::
 (nat_lit 36,aI (aF 5) "body_at" (.none) (.str "ledgerspeak.procread" 194) (.ref 35)) ::
 (nat_lit 42,cdO "statement_at" "statement_at" 249 14 3 37 38 (.ref 39) (.ref 40) (.ref 41) 257) ::
 (nat_lit 43,aI (aF 6) "statement_at" (.none) (.str "ledgerspeak.procread" 194) (.ref 42)) ::
 (nat_lit 102,cdO "cut_quotient" "cut_quotient" 338 36 2 97 98 (.ref 99) (.ref 100) (.ref 101) 343) ::
 (nat_lit 103,aI (aF 13) "cut_quotient" (.none) (.str "ledgerspeak.decimals" 334) (.ref 102)) ::
 (nat_lit 104,⟨.type "tuple",none,.seq #[.int 0 346] 0,#[]⟩) ::
 (nat_lit 110,cdO "decimal" "decimal" 347 40 2 105 106 (.ref 107) (.ref 108) (.ref 109) 352) ::
 (nat_lit 111,aI (aF 14) "decimal" (.ref 104) (.str "ledgerspeak.decimals" 334) (.ref 110)) ::
 (nat_lit 117,cdO "negated" "negated" 355 47 1 112 113 (.ref 114) (.ref 115) (.ref 116) 359) ::
 (nat_lit 118,aI (aF 15) "negated" (.none) (.str "ledgerspeak.decimals" 334) (.ref 117)) ::
 (nat_lit 124,cdO "units_at" "units_at" 362 49 3 119 120 (.ref 121) (.ref 122) (.ref 123) 370) ::
 (nat_lit 125,aI (aF 16) "units_at" (.none) (.str "ledgerspeak.decimals" 334) (.ref 124)) ::
 (nat_lit 131,cdO "is_whole" "is_whole" 373 57 1 126 127 (.ref 128) (.ref 129) (.ref 130) 377) ::
 (nat_lit 132,aI (aF 17) "is_whole" (.none) (.str "ledgerspeak.decimals" 334) (.ref 131)) ::
 (nat_lit 138,cdO "whole_of" "whole_of" 380 59 1 133 134 (.ref 135) (.ref 136) (.ref 137) 384) ::
 (nat_lit 139,aI (aF 18) "whole_of" (.none) (.str "ledgerspeak.decimals" 334) (.ref 138)) ::
 (nat_lit 145,cdO "worth_of" "worth_of" 387 61 1 140 141 (.ref 142) (.ref 143) (.ref 144) 393) ::
 (nat_lit 146,aI (aF 19) "worth_of" (.none) (.str "ledgerspeak.decimals" 334) (.ref 145)) ::
 (nat_lit 152,cdO "read_decimal" "read_decimal" 396 66 1 147 148 (.ref 149) (.ref 150) (.ref 151) 406) ::
 (nat_lit 153,aI (aF 20) "read_decimal" (.none) (.str "ledgerspeak.decimals" 334) (.ref 152)) ::
 (nat_lit 154,⟨.type "dict",none,.dict (List.toArray [kv P "ZERO" 413 (.str "ZERO" 414),kv P "ZEROS" 415 (.str "ZERO" 416),kv P "ZEROES" 417 (.str "ZERO" 418),kv P "SPACE" 419 (.str "SPACE" 420),kv P "SPACES" 421 (.str "SPACE" 422),kv P "HIGH-VALUE" 423 (.str "HIGH" 424),kv P "HIGH-VALUES" 425 (.str "HIGH" 426),kv P "LOW-VALUE" 427 (.str "LOW" 428),kv P "LOW-VALUES" 429 (.str "LOW" 430),kv P "QUOTE" 431 (.str "QUOTE" 432),kv P "QUOTES" 433 (.str "QUOTE" 434)]) 11,#[]⟩) ::
 (nat_lit 160,cdO "is_part_next" "is_part_next" 447 84 1 155 156 (.ref 157) (.ref 158) (.ref 159) 453) ::
 (nat_lit 161,aI (aF 24) "is_part_next" (.none) (.str "ledgerspeak.references" 409) (.ref 160)) ::
 (nat_lit 167,cdO "read_subscripts" "read_subscripts" 456 97 2 162 163 (.ref 164) (.ref 165) (.ref 166) 462) ::
 (nat_lit 168,aI (aF 25) "read_subscripts" (.none) (.str "ledgerspeak.references" 409) (.ref 167)) ::
 (nat_lit 174,cdO "read_part" "read_part" 465 105 2 169 170 (.ref 171) (.ref 172) (.ref 173) 472) ::
 (nat_lit 175,aI (aF 26) "read_part" (.none) (.str "ledgerspeak.references" 409) (.ref 174)) ::
 (nat_lit 181,cdO "read_ref" "read_ref" 475 112 2 176 177 (.ref 178) (.ref 179) (.ref 180) 484) ::
 (nat_lit 182,aI (aF 27) "read_ref" (.none) (.str "ledgerspeak.references" 409) (.ref 181)) ::
 (nat_lit 188,cdO "read_all" "read_all" 487 122 1 183 184 (.ref 185) (.ref 186) (.ref 187) 492) ::
 (nat_lit 189,aI (aF 28) "read_all" (.none) (.str "ledgerspeak.references" 409) (.ref 188)) ::
 (nat_lit 195,cdO "read_figure" "read_figure" 495 129 1 190 191 (.ref 192) (.ref 193) (.ref 194) 499) ::
 (nat_lit 196,aI (aF 29) "read_figure" (.none) (.str "ledgerspeak.references" 409) (.ref 195)) ::
 (nat_lit 202,cdO "read_operand" "read_operand" 502 133 2 197 198 (.ref 199) (.ref 200) (.ref 201) 508) ::
 (nat_lit 203,aI (aF 30) "read_operand" (.none) (.str "ledgerspeak.references" 409) (.ref 202)) ::
 (nat_lit 209,cdO "read_expression" "read_expression" 515 144 1 204 205 (.ref 206) (.ref 207) (.ref 208) 519) ::
 (nat_lit 210,aI (aF 33) "read_expression" (.none) (.str "ledgerspeak.expressions" 511) (.ref 209)) ::
 (nat_lit 216,cdO "sign_among" "sign_among" 522 146 2 211 212 (.ref 213) (.ref 214) (.ref 215) 528) ::
 (nat_lit 217,aI (aF 34) "sign_among" (.none) (.str "ledgerspeak.expressions" 511) (.ref 216)) ::
 (nat_lit 223,cdO "read_sum" "read_sum" 531 151 2 218 219 (.ref 220) (.ref 221) (.ref 222) 538) ::
 (nat_lit 224,aI (aF 35) "read_sum" (.none) (.str "ledgerspeak.expressions" 511) (.ref 223)) ::
 (nat_lit 230,cdO "read_product" "read_product" 541 159 2 225 226 (.ref 227) (.ref 228) (.ref 229) 548) ::
 (nat_lit 231,aI (aF 36) "read_product" (.none) (.str "ledgerspeak.expressions" 511) (.ref 230)) ::
 (nat_lit 237,cdO "read_factor" "read_factor" 551 165 2 232 233 (.ref 234) (.ref 235) (.ref 236) 559) ::
 (nat_lit 238,aI (aF 37) "read_factor" (.none) (.str "ledgerspeak.expressions" 511) (.ref 237)) ::
 (nat_lit 244,cdO "is_lone_number" "is_lone_number" 562 175 1 239 240 (.ref 241) (.ref 242) (.ref 243) 568) ::
 (nat_lit 245,aI (aF 38) "is_lone_number" (.none) (.str "ledgerspeak.expressions" 511) (.ref 244)) ::
 (nat_lit 251,cdO "read_power" "read_power" 571 180 2 246 247 (.ref 248) (.ref 249) (.ref 250) 577) ::
 (nat_lit 252,aI (aF 39) "read_power" (.none) (.str "ledgerspeak.expressions" 511) (.ref 251)) ::
 (nat_lit 258,cdO "read_primary" "read_primary" 580 186 2 253 254 (.ref 255) (.ref 256) (.ref 257) 587) ::
 (nat_lit 259,aI (aF 40) "read_primary" (.none) (.str "ledgerspeak.expressions" 511) (.ref 258)) ::
 (nat_lit 265,cdO "word_ahead" "word_ahead" 594 196 3 260 261 (.ref 262) (.ref 263) (.ref 264) 601) ::
 (nat_lit 266,aI (aF 43) "word_ahead" (.none) (.str "ledgerspeak.readarith" 590) (.ref 265)) ::
 (nat_lit 272,cdO "phrase_words" "phrase_words" 604 199 1 267 268 (.ref 269) (.ref 270) (.ref 271) 608) ::
 (nat_lit 273,aI (aF 44) "phrase_words" (.none) (.str "ledgerspeak.readarith" 590) (.ref 272)) ::
 (nat_lit 279,cdO "opening_length" "opening_length" 611 209 2 274 275 (.ref 276) (.ref 277) (.ref 278) 622) ::
 (nat_lit 280,aI (aF 45) "opening_length" (.none) (.str "ledgerspeak.readarith" 590) (.ref 279)) ::
 (nat_lit 286,cdO "body_here" "body_here" 625 229 2 281 282 (.ref 283) (.ref 284) (.ref 285) 631) ::
 (nat_lit 287,aI (aF 46) "body_here" (.none) (.str "ledgerspeak.readarith" 590) (.ref 286)) ::
 (nat_lit 293,cdO "branches_here" "branches_here" 634 234 3 288 289 (.ref 290) (.ref 291) (.ref 292) 644) ::
 (nat_lit 294,aI (aF 47) "branches_here" (.none) (.str "ledgerspeak.readarith" 590) (.ref 293)) ::
 (nat_lit 300,cdO "begins_operand" "begins_operand" 647 243 1 295 296 (.ref 297) (.ref 298) (.ref 299) 651) ::
 (nat_lit 301,aI (aF 48) "begins_operand" (.none) (.str "ledgerspeak.readarith" 590) (.ref 300)) ::
 (nat_lit 307,cdO "ref_here" "ref_here" 654 247 1 302 303 (.ref 304) (.ref 305) (.ref 306) 658) ::
 (nat_lit 308,aI (aF 49) "ref_here" (.none) (.str "ledgerspeak.readarith" 590) (.ref 307)) ::
 (nat_lit 314,cdO "is_numeric_operand" "is_numeric_operand" 661 251 1 309 310 (.ref 311) (.ref 312) (.ref 313) 665) ::
 (nat_lit 315,aI (aF 50) "is_numeric_operand" (.none) (.str "ledgerspeak.readarith" 590) (.ref 314)) ::
 (nat_lit 321,cdO "refuse_at" "refuse_at" 668 253 3 316 317 (.ref 318) (.ref 319) (.ref 320) 674) ::
 (nat_lit 322,aI (aF 51) "refuse_at" (.none) (.str "ledgerspeak.readarith" 590) (.ref 321)) ::
 (nat_lit 328,cdO "number_here" "number_here" 677 256 1 323 324 (.ref 325) (.ref 326) (.ref 327) 683) ::
 (nat_lit 329,aI (aF 52) "number_here" (.none) (.str "ledgerspeak.readarith" 590) (.ref 328)) ::
 (nat_lit 335,cdO "numbers_here" "numbers_here" 686 264 1 330 331 (.ref 332) (.ref 333) (.ref 334) 691) ::
 (nat_lit 336,aI (aF 53) "numbers_here" (.none) (.str "ledgerspeak.readarith" 590) (.ref 335)) ::
 (nat_lit 342,cdO "targets_here" "targets_here" 694 269 1 337 338 (.ref 339) (.ref 340) (.ref 341) 701) ::
 (nat_lit 343,aI (aF 54) "targets_here" (.none) (.str "ledgerspeak.readarith" 590) (.ref 342)) ::
 (nat_lit 347,cdO "goal_rows" "goal_rows" 704 276 3 344 345 .none .none (.ref 346) 707) ::
 (nat_lit 348,aI (aF 55) "goal_rows" (.none) (.str "ledgerspeak.readarith" 590) (.ref 347)) ::
 (nat_lit 354,cdO "sole_operand" "sole_operand" 710 281 2 349 350 (.ref 351) (.ref 352) (.ref 353) 715) ::
 (nat_lit 355,aI (aF 56) "sole_operand" (.none) (.str "ledgerspeak.readarith" 590) (.ref 354)) ::
 (nat_lit 361,cdO "given_rows" "given_rows" 718 287 1 356 357 (.ref 358) (.ref 359) (.ref 360) 722) ::
 (nat_lit 362,aI (aF 57) "given_rows" (.none) (.str "ledgerspeak.readarith" 590) (.ref 361)) ::
 (nat_lit 368,cdO "size_branches" "size_branches" 725 289 3 363 364 (.ref 365) (.ref 366) (.ref 367) 732) ::
 (nat_lit 369,aI (aF 58) "size_branches" (.none) (.str "ledgerspeak.readarith" 590) (.ref 368)) ::
 (nat_lit 375,cdO "read_corresponding" "read_corresponding" 735 293 5 370 371 (.ref 372) (.ref 373) (.ref 374) 746) ::
 (nat_lit 376,aI (aF 59) "read_corresponding" (.none) (.str "ledgerspeak.readarith" 590) (.ref 375)) ::
 (nat_lit 382,cdO "passes_corresponding" "passes_corresponding" 749 299 1 377 378 (.ref 379) (.ref 380) (.ref 381) 753) ::
 (nat_lit 383,aI (aF 60) "passes_corresponding" (.none) (.str "ledgerspeak.readarith" 590) (.ref 382)) ::
 (nat_lit 389,cdO "read_add" "read_add" 756 301 2 384 385 (.ref 386) (.ref 387) (.ref 388) 764) ::
 (nat_lit 390,aI (aF 61) "read_add" (.none) (.str "ledgerspeak.readarith" 590) (.ref 389)) ::
 (nat_lit 396,cdO "read_subtract" "read_subtract" 767 319 2 391 392 (.ref 393) (.ref 394) (.ref 395) 775) ::
 (nat_lit 397,aI (aF 62) "read_subtract" (.none) (.str "ledgerspeak.readarith" 590) (.ref 396)) ::
 (nat_lit 403,cdO "ref_behind" "ref_behind" 780 333 2 398 399 (.ref 400) (.ref 401) (.ref 402) 785) ::
 (nat_lit 404,aI (aF 64) "ref_behind" (.none) (.str "ledgerspeak.readfiles" 778) (.ref 403)) ::
 (nat_lit 410,cdO "read_read" "read_read" 788 335 2 405 406 (.ref 407) (.ref 408) (.ref 409) 798) ::
 (nat_lit 411,aI (aF 65) "read_read" (.none) (.str "ledgerspeak.readfiles" 778) (.ref 410)) ::
 (nat_lit 417,cdO "read_delete" "read_delete" 801 348 2 412 413 (.ref 414) (.ref 415) (.ref 416) 808) ::
 (nat_lit 418,aI (aF 66) "read_delete" (.none) (.str "ledgerspeak.readfiles" 778) (.ref 417)) ::
 (nat_lit 419,⟨.type "dict",none,.dict (List.toArray [kv P "=" 815 (.str "<>" 816),kv P "<>" 817 (.str "=" 818),kv P "<" 819 (.str ">=" 820),kv P ">=" 821 (.str "<" 822),kv P ">" 823 (.str "<=" 824),kv P "<=" 825 (.str ">" 826)]) 6,#[]⟩) ::
 (nat_lit 420,⟨.type "tuple",none,.seq #[.str "NUMERIC" 834,.str "ALPHABETIC" 835,.str "ALPHABETIC-LOWER" 836,.str "ALPHABETIC-UPPER" 837] 0,#[]⟩) ::
 (nat_lit 421,⟨.type "dict",none,.dict (List.toArray [kv P "POSITIVE" 839 (.str "POSITIVE" 840),kv P "NEGATIVE" 841 (.str "NEGATIVE" 842),kv P "ZERO" 843 (.str "ZERO" 844),kv P "ZEROS" 845 (.str "ZERO" 846),kv P "ZEROES" 847 (.str "ZERO" 848)]) 5,#[]⟩) ::
 (nat_lit 422,⟨.type "dict",none,.dict (List.toArray [kv P "GREATER" 855 (.str ">" 856),kv P "LESS" 857 (.str "<" 858),kv P "EQUAL" 859 (.str "=" 860)]) 3,#[]⟩) ::
 (nat_lit 423,⟨.type "tuple",none,.seq #[.str "=" 865,.str "<" 866,.str ">" 867,.str "<=" 868,.str ">=" 869] 0,#[]⟩) ::
 (nat_lit 424,⟨.type "tuple",none,.seq #[.int 0 871] 0,#[]⟩) ::
 (nat_lit 430,cdO "word_here" "word_here" 872 362 2 425 426 (.ref 427) (.ref 428) (.ref 429) 878) ::
 (nat_lit 431,aI (aF 74) "word_here" (.ref 424) (.str "ledgerspeak.conditions" 811) (.ref 430)) ::
 (nat_lit 437,cdO "is_relation_at" "is_relation_at" 881 365 2 432 433 (.ref 434) (.ref 435) (.ref 436) 887) ::
 (nat_lit 438,aI (aF 75) "is_relation_at" (.none) (.str "ledgerspeak.conditions" 811) (.ref 437)) ::
 (nat_lit 444,cdO "place_of_word" "place_of_word" 890 370 1 439 440 (.ref 441) (.ref 442) (.ref 443) 895) ::
 (nat_lit 445,aI (aF 76) "place_of_word" (.none) (.str "ledgerspeak.conditions" 811) (.ref 444)) ::
 (nat_lit 451,cdO "is_predicate_here" "is_predicate_here" 898 373 1 446 447 (.ref 448) (.ref 449) (.ref 450) 904) ::
 (nat_lit 452,aI (aF 77) "is_predicate_here" (.none) (.str "ledgerspeak.conditions" 811) (.ref 451)) ::
 (nat_lit 458,cdO "is_bare_relation_here" "is_bare_relation_here" 907 377 1 453 454 (.ref 455) (.ref 456) (.ref 457) 911) ::
 (nat_lit 459,aI (aF 78) "is_bare_relation_here" (.none) (.str "ledgerspeak.conditions" 811) (.ref 458)) ::
 (nat_lit 472,cdO "__init__" "ConditionReader.__init__" 926 381 4 467 468 (.ref 469) (.ref 470) (.ref 471) 933) ::
 (nat_lit 473,aI (aM 79 0) "ConditionReader.__init__" (.none) (.str "ledgerspeak.conditions" 811) (.ref 472)) ::
 (nat_lit 479,cdO "either" "ConditionReader.either" 936 387 1 474 475 (.ref 476) (.ref 477) (.ref 478) 941) ::
 (nat_lit 480,aI (aM 79 1) "ConditionReader.either" (.none) (.str "ledgerspeak.conditions" 811) (.ref 479)) ::
 (nat_lit 486,cdO "both" "ConditionReader.both" 944 393 1 481 482 (.ref 483) (.ref 484) (.ref 485) 949) ::
 (nat_lit 487,aI (aM 79 2) "ConditionReader.both" (.none) (.str "ledgerspeak.conditions" 811) (.ref 486)) ::
 (nat_lit 493,cdO "turned" "ConditionReader.turned" 952 399 1 488 489 (.ref 490) (.ref 491) (.ref 492) 956) ::
 (nat_lit 494,aI (aM 79 3) "ConditionReader.turned" (.none) (.str "ledgerspeak.conditions" 811) (.ref 493)) ::
 (nat_lit 500,cdO "single" "ConditionReader.single" 959 405 1 495 496 (.ref 497) (.ref 498) (.ref 499) 967) ::
 (nat_lit 501,aI (aM 79 4) "ConditionReader.single" (.none) (.str "ledgerspeak.conditions" 811) (.ref 500)) ::
 (nat_lit 507,cdO "unbracketed" "ConditionReader.unbracketed" 970 419 1 502 503 (.ref 504) (.ref 505) (.ref 506) 975) ::
 (nat_lit 508,aI (aM 79 5) "ConditionReader.unbracketed" (.none) (.str "ledgerspeak.conditions" 811) (.ref 507)) ::
 (nat_lit 514,cdO "in_brackets" "ConditionReader.in_brackets" 978 430 1 509 510 (.ref 511) (.ref 512) (.ref 513) 983) ::
 (nat_lit 515,aI (aM 79 6) "ConditionReader.in_brackets" (.none) (.str "ledgerspeak.conditions" 811) (.ref 514)) ::
 (nat_lit 521,cdO "subject_of_last" "ConditionReader.subject_of_last" 986 439 1 516 517 (.ref 518) (.ref 519) (.ref 520) 990) ::
 (nat_lit 522,aI (aM 79 7) "ConditionReader.subject_of_last" (.none) (.str "ledgerspeak.conditions" 811) (.ref 521)) ::
 (nat_lit 528,cdO "sign_of_last" "ConditionReader.sign_of_last" 993 444 1 523 524 (.ref 525) (.ref 526) (.ref 527) 997) ::
 (nat_lit 529,aI (aM 79 8) "ConditionReader.sign_of_last" (.none) (.str "ledgerspeak.conditions" 811) (.ref 528)) ::
 (nat_lit 535,cdO "predicate" "ConditionReader.predicate" 1000 449 2 530 531 (.ref 532) (.ref 533) (.ref 534) 1008) ::
 (nat_lit 536,aI (aM 79 9) "ConditionReader.predicate" (.none) (.str "ledgerspeak.conditions" 811) (.ref 535)) ::
 (nat_lit 542,cdO "relation" "ConditionReader.relation" 1011 463 2 537 538 (.ref 539) (.ref 540) (.ref 541) 1018) ::
 (nat_lit 543,aI (aM 79 10) "ConditionReader.relation" (.none) (.str "ledgerspeak.conditions" 811) (.ref 542)) ::
 (nat_lit 549,cdO "sign_here" "ConditionReader.sign_here" 1021 470 1 544 545 (.ref 546) (.ref 547) (.ref 548) 1027) ::
 (nat_lit 550,aI (aM 79 11) "ConditionReader.sign_here" (.none) (.str "ledgerspeak.conditions" 811) (.ref 549)) ::
 (nat_lit 552,⟨.type "dict",none,.dict (List.toArray [kv P "__module__" 921 (.str "ledgerspeak.conditions" 811),kv P "__firstlineno__" 925 (.int 379 924),kv P "__init__" 935 (.ref 473),kv P "either" 943 (.ref 480),kv P "both" 951 (.ref 487),kv P "turned" 958 (.ref 494),kv P "single" 969 (.ref 501),kv P "unbracketed" 977 (.ref 508),kv P "in_brackets" 985 (.ref 515),kv P "subject_of_last" 992 (.ref 522),kv P "sign_of_last" 999 (.ref 529),kv P "predicate" 1010 (.ref 536),kv P "relation" 1020 (.ref 543),kv P "sign_here" 1029 (.ref 550),kv P "__static_attributes__" 1034 (.ref 551),kv P "__dict__" 1036 (.ref 554),kv P "__weakref__" 1038 (.ref 555),kv P "__doc__" 1039 .none]) 4,#[]⟩) ::
 (nat_lit 553,⟨.type "type",none,.cls { name:="ConditionReader",bases:=[.type "object"],mro:=[.ref 553,.type "object"],ns:=552,qualname:="ConditionReader",hasDict:=true,slotNames:=[],subclasses:=[],abstract:=false,hasDel:=false },#[none,none,some (.str "ConditionReader" 914),some (.str "ConditionReader" 922),some (.builtin "object.__new__"),some (.bool true)]⟩) ::
 (nat_lit 558,⟨.type "tuple",none,.seq #[.none] 0,#[]⟩) ::
 (nat_lit 564,cdO "read_condition" "read_condition" 1042 482 2 559 560 (.ref 561) (.ref 562) (.ref 563) 1048) ::
 (nat_lit 565,aI (aF 80) "read_condition" (.ref 558) (.str "ledgerspeak.conditions" 811) (.ref 564)) ::
 (nat_lit 571,cdO "read_if" "read_if" 1053 487 2 566 567 (.ref 568) (.ref 569) (.ref 570) 1061) ::
 (nat_lit 572,aI (aF 82) "read_if" (.none) (.str "ledgerspeak.readflow" 1051) (.ref 571)) ::
 (nat_lit 578,cdO "read_mode" "read_mode" 1064 495 2 573 574 (.ref 575) (.ref 576) (.ref 577) 1070) ::
 (nat_lit 579,aI (aF 83) "read_mode" (.none) (.str "ledgerspeak.readflow" 1051) (.ref 578)) ::
 (nat_lit 585,cdO "read_args" "read_args" 1073 504 1 580 581 (.ref 582) (.ref 583) (.ref 584) 1080) ::
 (nat_lit 586,aI (aF 84) "read_args" (.none) (.str "ledgerspeak.readflow" 1051) (.ref 585)) ::
 (nat_lit 592,cdO "read_call" "read_call" 1083 517 2 587 588 (.ref 589) (.ref 590) (.ref 591) 1091) ::
 (nat_lit 593,aI (aF 85) "read_call" (.none) (.str "ledgerspeak.readflow" 1051) (.ref 592)) ::
 (nat_lit 599,cdO "is_reserved" "is_reserved" 1100 527 1 594 595 (.ref 596) (.ref 597) (.ref 598) 1104) ::
 (nat_lit 600,aI (aF 89) "is_reserved" (.none) (.str "ledgerspeak.reader" 1094) (.ref 599)) ::
 (nat_lit 604,cdO "octets_of_text" "octets_of_text" 1107 529 1 601 602 .none .none (.ref 603) 1110) ::
 (nat_lit 605,aI (aF 90) "octets_of_text" (.none) (.str "ledgerspeak.reader" 1094) (.ref 604)) ::
 (nat_lit 613,⟨.type "tuple",none,.seq #[.int 0 1125] 0,#[]⟩) ::
 (nat_lit 619,cdO "__init__" "Reader.__init__" 1126 536 3 614 615 (.ref 616) (.ref 617) (.ref 618) 1132) ::
 (nat_lit 620,aI (aM 91 0) "Reader.__init__" (.ref 613) (.str "ledgerspeak.reader" 1094) (.ref 619)) ::
 (nat_lit 621,⟨.type "tuple",none,.seq #[.int 0 1135] 0,#[]⟩) ::
 (nat_lit 627,cdO "peek" "Reader.peek" 1136 541 2 622 623 (.ref 624) (.ref 625) (.ref 626) 1141) ::
 (nat_lit 628,aI (aM 91 1) "Reader.peek" (.ref 621) (.str "ledgerspeak.reader" 1094) (.ref 627)) ::
 (nat_lit 634,cdO "is_done" "Reader.is_done" 1144 546 1 629 630 (.ref 631) (.ref 632) (.ref 633) 1148) ::
 (nat_lit 635,aI (aM 91 2) "Reader.is_done" (.none) (.str "ledgerspeak.reader" 1094) (.ref 634)) ::
 (nat_lit 641,cdO "fault" "Reader.fault" 1151 549 2 636 637 (.ref 638) (.ref 639) (.ref 640) 1156) ::
 (nat_lit 642,aI (aM 91 3) "Reader.fault" (.none) (.str "ledgerspeak.reader" 1094) (.ref 641)) ::
 (nat_lit 648,cdO "take" "Reader.take" 1159 554 1 643 644 (.ref 645) (.ref 646) (.ref 647) 1164) ::
 (nat_lit 649,aI (aM 91 4) "Reader.take" (.none) (.str "ledgerspeak.reader" 1094) (.ref 648)) ::
 (nat_lit 650,⟨.type "tuple",none,.seq #[.int 0 1167] 0,#[]⟩) ::
 (nat_lit 656,cdO "is_kind" "Reader.is_kind" 1168 561 3 651 652 (.ref 653) (.ref 654) (.ref 655) 1175) ::
 (nat_lit 657,aI (aM 91 5) "Reader.is_kind" (.ref 650) (.str "ledgerspeak.reader" 1094) (.ref 656)) ::
 (nat_lit 663,cdO "is_word" "Reader.is_word" 1178 565 2 658 659 (.ref 660) (.ref 661) (.ref 662) 1185) ::
 (nat_lit 664,aI (aM 91 6) "Reader.is_word" (.none) (.str "ledgerspeak.reader" 1094) (.ref 663)) ::
 (nat_lit 670,cdO "skip" "Reader.skip" 1188 573 2 665 666 (.ref 667) (.ref 668) (.ref 669) 1193) ::
 (nat_lit 671,aI (aM 91 7) "Reader.skip" (.none) (.str "ledgerspeak.reader" 1094) (.ref 670)) ::
 (nat_lit 677,cdO "need" "Reader.need" 1196 579 2 672 673 (.ref 674) (.ref 675) (.ref 676) 1201) ::
 (nat_lit 678,aI (aM 91 8) "Reader.need" (.none) (.str "ledgerspeak.reader" 1094) (.ref 677)) ::
 (nat_lit 684,cdO "one_of" "Reader.one_of" 1204 583 2 679 680 (.ref 681) (.ref 682) (.ref 683) 1210) ::
 (nat_lit 685,aI (aM 91 9) "Reader.one_of" (.none) (.str "ledgerspeak.reader" 1094) (.ref 684)) ::
 (nat_lit 691,cdO "word" "Reader.word" 1213 589 1 686 687 (.ref 688) (.ref 689) (.ref 690) 1217) ::
 (nat_lit 692,aI (aM 91 10) "Reader.word" (.none) (.str "ledgerspeak.reader" 1094) (.ref 691)) ::
 (nat_lit 693,⟨.type "tuple",none,.seq #[.int 0 1220] 0,#[]⟩) ::
 (nat_lit 699,cdO "is_name" "Reader.is_name" 1221 594 2 694 695 (.ref 696) (.ref 697) (.ref 698) 1226) ::
 (nat_lit 700,aI (aM 91 11) "Reader.is_name" (.ref 693) (.str "ledgerspeak.reader" 1094) (.ref 699)) ::
 (nat_lit 706,cdO "name" "Reader.name" 1229 597 1 701 702 (.ref 703) (.ref 704) (.ref 705) 1233) ::
 (nat_lit 707,aI (aM 91 12) "Reader.name" (.none) (.str "ledgerspeak.reader" 1094) (.ref 706)) ::
 (nat_lit 713,cdO "names" "Reader.names" 1236 602 1 708 709 (.ref 710) (.ref 711) (.ref 712) 1241) ::
 (nat_lit 714,aI (aM 91 13) "Reader.names" (.none) (.str "ledgerspeak.reader" 1094) (.ref 713)) ::
 (nat_lit 715,⟨.type "tuple",none,.seq #[.int 0 1244] 0,#[]⟩) ::
 (nat_lit 721,cdO "is_sign" "Reader.is_sign" 1245 608 3 716 717 (.ref 718) (.ref 719) (.ref 720) 1251) ::
 (nat_lit 722,aI (aM 91 14) "Reader.is_sign" (.ref 715) (.str "ledgerspeak.reader" 1094) (.ref 721)) ::
 (nat_lit 728,cdO "skip_sign" "Reader.skip_sign" 1254 611 2 723 724 (.ref 725) (.ref 726) (.ref 727) 1259) ::
 (nat_lit 729,aI (aM 91 15) "Reader.skip_sign" (.none) (.str "ledgerspeak.reader" 1094) (.ref 728)) ::
 (nat_lit 735,cdO "need_sign" "Reader.need_sign" 1262 617 2 730 731 (.ref 732) (.ref 733) (.ref 734) 1267) ::
 (nat_lit 736,aI (aM 91 16) "Reader.need_sign" (.none) (.str "ledgerspeak.reader" 1094) (.ref 735)) ::
 (nat_lit 742,cdO "is_number" "Reader.is_number" 1270 621 1 737 738 (.ref 739) (.ref 740) (.ref 741) 1274) ::
 (nat_lit 743,aI (aM 91 17) "Reader.is_number" (.none) (.str "ledgerspeak.reader" 1094) (.ref 742)) ::
 (nat_lit 749,cdO "signed" "Reader.signed" 1277 626 1 744 745 (.ref 746) (.ref 747) (.ref 748) 1283) ::
 (nat_lit 750,aI (aM 91 18) "Reader.signed" (.none) (.str "ledgerspeak.reader" 1094) (.ref 749)) ::
 (nat_lit 756,cdO "whole" "Reader.whole" 1286 635 1 751 752 (.ref 753) (.ref 754) (.ref 755) 1291) ::
 (nat_lit 757,aI (aM 91 19) "Reader.whole" (.none) (.str "ledgerspeak.reader" 1094) (.ref 756)) ::
 (nat_lit 763,cdO "literal" "Reader.literal" 1294 644 1 758 759 (.ref 760) (.ref 761) (.ref 762) 1298) ::
 (nat_lit 764,aI (aM 91 20) "Reader.literal" (.none) (.str "ledgerspeak.reader" 1094) (.ref 763)) ::
 (nat_lit 770,cdO "octets" "Reader.octets" 1301 649 1 765 766 (.ref 767) (.ref 768) (.ref 769) 1306) ::
 (nat_lit 771,aI (aM 91 21) "Reader.octets" (.none) (.str "ledgerspeak.reader" 1094) (.ref 770)) ::
 (nat_lit 773,⟨.type "dict",none,.dict (List.toArray [kv P "__module__" 1120 (.str "ledgerspeak.reader" 1094),kv P "__firstlineno__" 1124 (.int 534 1123),kv P "__init__" 1134 (.ref 620),kv P "peek" 1143 (.ref 628),kv P "is_done" 1150 (.ref 635),kv P "fault" 1158 (.ref 642),kv P "take" 1166 (.ref 649),kv P "is_kind" 1177 (.ref 657),kv P "is_word" 1187 (.ref 664),kv P "skip" 1195 (.ref 671),kv P "need" 1203 (.ref 678),kv P "one_of" 1212 (.ref 685),kv P "word" 1219 (.ref 692),kv P "is_name" 1228 (.ref 700),kv P "name" 1235 (.ref 707),kv P "names" 1243 (.ref 714),kv P "is_sign" 1253 (.ref 722),kv P "skip_sign" 1261 (.ref 729),kv P "need_sign" 1269 (.ref 736),kv P "is_number" 1276 (.ref 743),kv P "signed" 1285 (.ref 750),kv P "whole" 1293 (.ref 757),kv P "literal" 1300 (.ref 764),kv P "octets" 1308 (.ref 771),kv P "__static_attributes__" 1312 (.ref 772),kv P "__dict__" 1314 (.ref 775),kv P "__weakref__" 1316 (.ref 776),kv P "__doc__" 1317 .none]) 4,#[]⟩) ::
 (nat_lit 774,⟨.type "type",none,.cls { name:="Reader",bases:=[.type "object"],mro:=[.ref 774,.type "object"],ns:=773,qualname:="Reader",hasDict:=true,slotNames:=[],subclasses:=[],abstract:=false,hasDel:=false },#[none,none,some (.str "Reader" 1113),some (.str "Reader" 1121),some (.builtin "object.__new__"),some (.bool true)]⟩) ::
 (nat_lit 786,⟨.type "tuple",none,.seq #[.int 0 1334,.int 0 1335] 0,#[]⟩) ::
 (nat_lit 787,⟨.type "tuple",none,.seq #[.ref 786,.bool false] 0,#[]⟩) ::
 (nat_lit 793,cdO "__init__" "Token.__init__" 1336 660 5 788 789 (.ref 790) (.ref 791) (.ref 792) 1344) ::
 (nat_lit 794,aI (aM 93 0) "Token.__init__" (.ref 787) (.str "ledgerspeak.tokens" 1320) (.ref 793)) ::
 (nat_lit 800,cdO "told" "Token.told" 1347 666 1 795 796 (.ref 797) (.ref 798) (.ref 799) 1351) ::
 (nat_lit 801,aI (aM 93 1) "Token.told" (.none) (.str "ledgerspeak.tokens" 1320) (.ref 800)) ::
 (nat_lit 803,⟨.type "dict",none,.dict (List.toArray [kv P "__module__" 1329 (.str "ledgerspeak.tokens" 1320),kv P "__firstlineno__" 1333 (.int 658 1332),kv P "__init__" 1346 (.ref 794),kv P "told" 1353 (.ref 801),kv P "__static_attributes__" 1358 (.ref 802),kv P "__dict__" 1360 (.ref 805),kv P "__weakref__" 1362 (.ref 806),kv P "__doc__" 1363 .none]) 4,#[]⟩) ::
 (nat_lit 804,⟨.type "type",none,.cls { name:="Token",bases:=[.type "object"],mro:=[.ref 804,.type "object"],ns:=803,qualname:="Token",hasDict:=true,slotNames:=[],subclasses:=[],abstract:=false,hasDel:=false },#[none,none,some (.str "Token" 1322),some (.str "Token" 1330),some (.builtin "object.__new__"),some (.bool true)]⟩) ::
 (nat_lit 814,cdO "_law_pen" "_law_pen" 1368 669 1 809 810 (.ref 811) (.ref 812) (.ref 813) 1374) ::
 (nat_lit 815,aI (aF 95) "_law_pen" (.none) (.str "law_pc0159_01" 1366) (.ref 814)) ::
 (nat_lit 821,cdO "_law_draw" "_law_draw" 1377 674 2 816 817 (.ref 818) (.ref 819) (.ref 820) 1383) ::
 (nat_lit 822,aI (aF 96) "_law_draw" (.none) (.str "law_pc0159_01" 1366) (.ref 821)) ::
 (nat_lit 826,cdO "_law_words" "_law_words" 1386 681 1 823 824 .none .none (.ref 825) 1389) ::
 (nat_lit 827,aI (aF 97) "_law_words" (.none) (.str "law_pc0159_01" 1366) (.ref 826)) ::
 (nat_lit 833,cdO "_law_bare" "_law_bare" 1392 683 1 828 829 (.ref 830) (.ref 831) (.ref 832) 1396) ::
 (nat_lit 834,aI (aF 98) "_law_bare" (.none) (.str "law_pc0159_01" 1366) (.ref 833)) ::
 (nat_lit 840,cdO "_law_verbs" "_law_verbs" 1399 685 0 835 836 (.ref 837) (.ref 838) (.ref 839) 1403) ::
 (nat_lit 841,aI (aF 99) "_law_verbs" (.none) (.str "law_pc0159_01" 1366) (.ref 840)) ::
 (nat_lit 847,cdO "_law_openings" "_law_openings" 1406 688 0 842 843 (.ref 844) (.ref 845) (.ref 846) 1409) ::
 (nat_lit 848,aI (aF 100) "_law_openings" (.none) (.str "law_pc0159_01" 1366) (.ref 847)) ::
 (nat_lit 854,cdO "_law_opening_tokens" "_law_opening_tokens" 1412 690 2 849 850 (.ref 851) (.ref 852) (.ref 853) 1423) ::
 (nat_lit 855,aI (aF 101) "_law_opening_tokens" (.none) (.str "law_pc0159_01" 1366) (.ref 854)) ::
 (nat_lit 859,cdO "_law_taker" "_law_taker" 1426 695 2 856 857 .none .none (.ref 858) 1429) ::
 (nat_lit 860,aI (aF 102) "_law_taker" (.none) (.str "law_pc0159_01" 1366) (.ref 859)) ::
 (nat_lit 864,cdO "_law_close" "_law_close" 1432 701 2 861 862 .none .none (.ref 863) 1435) ::
 (nat_lit 865,aI (aF 103) "_law_close" (.none) (.str "law_pc0159_01" 1366) (.ref 864)) ::
 (nat_lit 871,cdO "_law_open" "_law_open" 1438 709 3 866 867 (.ref 868) (.ref 869) (.ref 870) 1449) ::
 (nat_lit 872,aI (aF 104) "_law_open" (.none) (.str "law_pc0159_01" 1366) (.ref 871)) ::
 (nat_lit 876,cdO "_law_take" "_law_take" 1452 718 3 873 874 .none .none (.ref 875) 1455) ::
 (nat_lit 877,aI (aF 105) "_law_take" (.none) (.str "law_pc0159_01" 1366) (.ref 876)) ::
 (nat_lit 881,cdO "_law_innermost" "_law_innermost" 1458 723 2 878 879 .none .none (.ref 880) 1461) ::
 (nat_lit 882,aI (aF 106) "_law_innermost" (.none) (.str "law_pc0159_01" 1366) (.ref 881)) ::
 (nat_lit 886,cdO "_law_laid" "_law_laid" 1464 725 1 883 884 .none .none (.ref 885) 1467) ::
 (nat_lit 887,aI (aF 107) "_law_laid" (.none) (.str "law_pc0159_01" 1366) (.ref 886)) ::
 (nat_lit 893,cdO "_law_choose" "_law_choose" 1470 747 1 888 889 (.ref 890) (.ref 891) (.ref 892) 1475) ::
 (nat_lit 894,aI (aF 108) "_law_choose" (.none) (.str "law_pc0159_01" 1366) (.ref 893)) ::
 (nat_lit 898,cdO "_law_right" "_law_right" 1478 752 1 895 896 .none .none (.ref 897) 1481) ::
 (nat_lit 899,aI (aF 109) "_law_right" (.none) (.str "law_pc0159_01" 1366) (.ref 898)) ::
 (nat_lit 905,cdO "law" "law" 1484 758 1 900 901 (.ref 902) (.ref 903) (.ref 904) 1494) ::
 (nat_lit 906,aI (aF 110) "law" (.none) (.str "law_pc0159_01" 1366) (.ref 905))::[]
noncomputable def iR:List Nat:=[3,20,21,22,28,29,35,36,42,43,102,103,104,110,111,117,118,124,125,131,132,138,139,145,146,152,153,154,160,161,167,168,174,175,181,182,188,189,195,196,202,203,209,210,216,217,223,224,230,231,237,238,244,245,251,252,258,259,265,266,272,273,279,280,286,287,293,294,300,301,307,308,314,315,321,322,328,329,335,336,342,343,347,348,354,355,361,362,368,369,375,376,382,383,389,390,396,397,403,404,410,411,417,418,419,420,421,422,423,424,430,431,437,438,444,445,451,452,458,459,472,473,479,480,486,487,493,494,500,501,507,508,514,515,521,522,528,529,535,536,542,543,549,550,552,553,558,564,565,571,572,578,579,585,586,592,593,599,600,604,605,613,619,620,621,627,628,634,635,641,642,648,649,650,656,657,663,664,670,671,677,678,684,685,691,692,693,699,700,706,707,713,714,715,721,722,728,729,735,736,742,743,749,750,756,757,763,764,770,771,773,774,786,787,793,794,800,801,803,804,814,815,821,822,826,827,833,834,840,841,847,848,854,855,859,860,864,865,871,872,876,877,881,882,886,887,893,894,898,899,905,906]
theorem xS (P:Params):iR=(kfrag P).map (·.1):=by kernel_rfl
noncomputable def aS:List Nat:=[38,254,560,889]
noncomputable def q0:Program:={ prg with main:={ prg.main with body:=prg.main.body.drop 110 } }
noncomputable def jX:List Str:=(prg.boundNames.filter fun n=>n != ("law" : Str) && !startupNames.contains n).eraseDups
noncomputable def Xt0:Shared→Bool:=fun s=>xlAt q0 [] s && recOk [] s
noncomputable def aAr (w:World) (os:OsState):SharedT:=⟨qC w.params,11,{},#[],boot_drawn,boot_toks,os⟩
abbrev oB:List Str:=importedModules prg.main.body
noncomputable def aFt (P:Params) (s:Shared):Bool:=staticsOk oB (boot_heap P) s.heap && namesBound prg s.heap && gensDone s && laidKept (boot_heap P) s.heap
noncomputable def kJ (w:World):Prop:=∀ os,(oT (stepT (denote treeTable) prg w) (stepOk 11 (some (.ref 6))) 6000 (aAr w os) (topStub prg)).map (fun s=>((aFt w.params s.abs,openSeen q0 jX oB Xt0 true s.abs),(iR.map s.tree.get,aS.map s.tree.get,s.n,s.toks)))=some ((true,openGood q0 jX),((kfrag w.params).map fun p=>some p.2,aS.map fun _=>some (tabObj #[]),907,1497))
theorem aH9 (w:World):kJ (w.withFollow "special-get-raises" false):=by
 unfold kJ
 rw [PySem.W.Fast.te10156331382660048174,PySem.W.Fast.te11892475500146522536,PySem.W.Fast.te14364793385576792824,PySem.W.Fast.te4187177175401517315]
 intro os
 kernel_rfl
theorem run_t (w:World):kJ (w.withFollow "special-get-raises" true):=by
 unfold kJ
 rw [PySem.W.Fast.te10156331382660048174,PySem.W.Fast.te11892475500146522536,PySem.W.Fast.te14364793385576792824,PySem.W.Fast.te4187177175401517315]
 intro os
 kernel_rfl
theorem run_ends (w:World):kJ w:=byRow2 "special-get-raises" aH9 run_t w
noncomputable def Yf0 (s:Shared):List (Option Obj)×List (Option Obj)×Nat×Nat:=(iR.map s.heap.get?,aS.map s.heap.get?,s.heap.objs.size,s.toks)
noncomputable def Ya0 (w:World):List (Option Obj)×List (Option Obj)×Nat×Nat:=((kfrag w.params).map fun p=>some p.2,aS.map fun _=>some (tabObj #[]),907,1497)
theorem aEV:∀ a ∈ iR,a < 907:=by decide +kernel
theorem aE0 (P:Params):(kfrag P).map (fun p=>alive p.2)=(kfrag P).map (fun p=>some p.2):=by kernel_rfl
theorem aGC:∀ w:World,(fencedOpening treeTable prg w 6000).map (fun s=>(s.heap,s.gens,s.drawn,s.toks))=some (boot_heap w.params,Array.mk [],boot_drawn,boot_toks) :=
 boot_open (p:=prg) (N:=6000) (by kernel_rfl) (by decide +kernel) (fun s=>by kernel_rfl)
theorem aIq:∀ w:World,((boot_heap w.params).isNs mainGlobals && (#[]:Array GenState).size == 0,(boot_heap w.params).objs.size,(boot_heap w.params).nsMap mainGlobals "__annotations__")=(true,11,some (.ref 6)):=fun w=>by kernel_rfl
theorem pU {t:BT} {n:Nat} {life:Life}:∀ {l:List Addr} {os:List Obj},(∀ a ∈ l,a < n)→l.map t.get=os.map some→l.map (absHeap t n life).get? = os.map alive
 | [],[],_,_=>rfl
 | [],_::_,_,e=>by cases e
 | _::_,[],_,e=>by cases e
 | a::l,o::os,h,e=>by
  rw [List.map_cons,List.map_cons] at e
  injection e with e1 e2
  rw [List.map_cons,List.map_cons,abs_get (h a (.head _)) e1,pU (fun b hb=>h b (.tail _ hb)) e2]
theorem aFm:LeftO prg q0 jX Xt0 Yf0 Ya0 6000:=fun w=>by
 obtain ⟨⟨h,gs,d,k,os⟩,e,e'⟩:=Option.map_eq_some_iff.mp (aGC w)
 obtain ⟨rfl,rfl,rfl,rfl⟩:h=boot_heap w.params∧gs = #[]∧d=boot_drawn∧k=boot_toks:=by simpa using e'
 obtain ⟨z1,z2,z3⟩:_∧_∧_:=by simpa only [Prod.mk.injEq] using aIq w
 obtain ⟨s,hs,hl⟩:=Option.map_eq_some_iff.mp (run_ends w os)
 have r:=aAi hs
 have hst:(aAr w os).abs=⟨boot_heap w.params,#[],boot_drawn,boot_toks,os⟩:=by
  show (⟨absHeap (qC w.params) 11 {},#[],boot_drawn,boot_toks,os⟩:Shared)=_
  rw [aB8]
 rw [hst] at r
 simp only [Prod.mk.injEq] at hl
 obtain ⟨⟨l1,l2⟩,l3,l4,l5,l6⟩:=hl
 have t:topFrom treeTable prg w 6000 ⟨boot_heap w.params,#[],boot_drawn,boot_toks,os⟩=some s.abs:=by
  unfold topFrom
  dsimp only
  rw [z1,z2,z3,r]
  show (match staticsOk oB (boot_heap w.params) s.abs.heap && namesBound prg s.abs.heap && gensDone s.abs && laidKept (boot_heap w.params) s.abs.heap with | true=>_ | false=>_)=_
  have l1' : (staticsOk oB (boot_heap w.params) s.abs.heap && namesBound prg s.abs.heap && gensDone s.abs && laidKept (boot_heap w.params) s.abs.heap)=true:=l1
  rw [l1']
 unfold openEnds
 rw [e]
 show (topFrom treeTable prg w 6000 _).map _=_
 rw [t]
 refine congrArg some (Prod.ext l2 ?_)
 show (iR.map (absHeap s.tree s.n s.life).get?,aS.map (absHeap s.tree s.n s.life).get?,(absHeap s.tree s.n s.life).objs.size,s.toks)=Ya0 w
 have e1:(kfrag w.params).map (fun p=>some p.2)=((kfrag w.params).map (·.2)).map some:=by rw [List.map_map]; rfl
 have e2:(aS.map fun _=>some (tabObj #[]))=((aS.map fun _=>tabObj #[]).map some):=by rw [List.map_map]; rfl
 rw [e1] at l3
 rw [e2] at l4
 rw [l5,pU aEV l3,pU (by decide) l4,absHeap_size,l6]
 unfold Ya0
 refine Prod.ext ?_ (Prod.ext ?_ rfl)
 ·show List.map alive (List.map (·.2) (kfrag w.params))=_
  rw [List.map_map]
  exact aE0 w.params
 ·rfl
noncomputable def d0:DefRec:=((defOf q0 ("law" : Str)).map (·.1)).getD ⟨Str.empty,⟨[],[],none,[],[],none,[]⟩,[],{ kind:=.function,names:=[],isGenerator:=false,isCoroutine:=false,more:=[] },⟨0,0,0,0⟩⟩
theorem aDj:defOf q0 lw.row.name=some (d0,[]):=by kernel_rfl
theorem aJx:lw.row.prog.theDef lw.row.name=some (d0.params,d0.body,d0.scope):=by kernel_rfl
theorem ok0:(chainsOk q0 && opensWell lw.row.prog && (frees lw.row.toRowW && lw.row.within.isEmpty))=true:=by kernel_rfl
theorem kw0:kwWritten? d0.params.kwonlyargs d0.params.kw_defaults=some []:=by kernel_rfl
theorem aHe:lw.row.toRowW.promised:=by w_witness2
theorem aEf (call:WalkX q0 jX (XL q0 []) Yf0 Ya0 lw.row.toRowW d0 [] fun f vs=>PySem.call f vs):lw.Holds :=
 holds_law aIg fun said'=>holds_openX (q:=q0) (loose:=jX) (Xt:=Xt0) (XP:=XL q0 []) (Yf:=Yf0) (Ya:=Ya0) (N:=6000) aFm
  (fun _ e=>xl_of _ (Bool.and_eq_true_iff.mp e).1) XL.keeps aDj aJx kw0 (fun _ e=>recFacts_of (Bool.and_eq_true_iff.mp e).2) rfl said' ok0 ⟨rfl,rfl,rfl,rfl,rfl,by kernel_rfl⟩ aHe call
end
theorem nx {P : Prop} {β : Type _} {a : β} (e : none = some a) : P := nomatch e
theorem sn {P : Prop} {β : Type _} {a : β} (e : some a = none) : P := nomatch e
theorem ft {P : Prop} (e : false = true) : P := nomatch e
theorem tf {P : Prop} (e : true = false) : P := nomatch e
theorem sp1 {α β : Type _} {a c : α} {b d : β} (e : some (a, b) = some (c, d)) : c = a := by cases e; rfl
theorem sp2 {α β : Type _} {a c : α} {b d : β} (e : some (a, b) = some (c, d)) : d = b := by cases e; rfl
theorem so {α : Type _} {a c : α} (e : some a = some c) : c = a := by cases e; rfl
theorem optE {α : Type _} {o : Option α} {P : Prop} (n : o = none → P) (s : ∀ a, o = some a → P) : P := match o, n, s with
  | none, n, _ => n rfl
  | some a, _, s => s a rfl
theorem boolE {b : Bool} {P : Prop} (t : b = true → P) (f : b = false → P) : P := match b, t, f with
  | true, t, _ => t rfl
  | false, _, f => f rfl
theorem boolF {b : Bool} {P : Prop} (f : b = false → P) (t : b = true → P) : P := boolE t f
theorem lel {a b c : Nat} (h : a ≤ b) (d : Nat.ble b c = true) : a ≤ c := Nat.le_trans h (Nat.le_of_ble_eq_true d)
theorem lll {a b c : Nat} (h : a ≤ b) (d : Nat.ble (b + 1) c = true) : a < c := Nat.le_trans (Nat.succ_le_succ h) (Nat.le_of_ble_eq_true d)
theorem adl {a b c d : Nat} (h : a + b ≤ c) (e : Nat.ble c d = true) : a ≤ d := lel (Nat.le_trans (Nat.le_add_right a b) h) e
theorem adr {a b c d : Nat} (h : a + b ≤ c) (e : Nat.ble c d = true) : b ≤ d := lel (Nat.le_trans (Nat.le_add_left b a) h) e
theorem eel {a b c d : Nat} (h : a = b) (i : b ≤ c) (e : Nat.ble c d = true) : a ≤ d := h ▸ lel i e
theorem eer {a b c d : Nat} (h : b = a) (i : b ≤ c) (e : Nat.ble c d = true) : a ≤ d := h ▸ lel i e
theorem el {a b c : Nat} (e : a = b) (h : b ≤ c) : a ≤ c := e ▸ h
theorem i63 {a : Nat} (h : a ≤ 1000000) : (a : Int) < 2 ^ 63 := by lia
theorem b63 {k : Int} (h : -1000000 ≤ k ∧ k ≤ 1000000) : -2 ^ 63 ≤ k ∧ k < 2 ^ 63 := by lia
theorem u1 {a b c : Nat} (h : a + (b + 1) < c) : a + 1 + b < c := by rw [Nat.add_assoc, Nat.add_comm 1]; exact h
theorem mid {a b c d : Nat} (h : a + b ≤ c) (e : b = d) : a + d ≤ c := e ▸ h
theorem eR {a b : Nat} (h : a ≤ b) : b - a + a = b := Nat.sub_add_cancel h
theorem mln {α β : Type _} {f : α → β} {l : List α} {k : Nat} (h : l.length ≤ k) : (l.map f).length ≤ k := el (List.length_map f) h
theorem le2 {a b c d k : Nat} (h : a ≤ c) (i : b ≤ d) (e : Nat.ble (c + d) k = true) : a + b ≤ k := lel (Nat.add_le_add h i) e
theorem zm (m : Nat) {a b c : Nat} (h : a ≤ b) (e : Nat.ble (m * b) c = true) : 0 + m * a ≤ c := by rw [Nat.zero_add]; exact lel (Nat.mul_le_mul_left m h) e
theorem sb2 {a b : Nat} (h : 2 ≤ a) (i : 2 ≤ b) (n : a ≠ b) : a - 2 ≠ b - 2 := by lia
theorem lt3 {k : Nat} (h : k < 3) : k = 0 ∨ k = 1 ∨ k = 2 := by lia
theorem s5 {a b l c : Nat} (h : a ≤ b + 5) (i : b + 5 * (l + 1) ≤ c) : a + 5 * l ≤ c := by lia
theorem s9 {n l : Nat} : n + 9 + 9 * l = n + 9 * (l + 1) := by lia
local macro_rules
| `(tactic| cases $e:term) => `(tactic| first | (have h := so $e; (try clear $e); subst h) | ((have h1 := sp1 $e; have h2 := sp2 $e; (try clear $e); (first | subst h1 | cases h1)) <;> (first | subst h2 | cases h2)) | (have h := so $e; (try clear $e); cases h))
| `(tactic| cases $x:term $alts:inductionAlts) => do
  let c ← #["Option", "List", "Bool", "Mine.V", "Mine.PV", "PySem.Expr", "Mine.Fl", "Mine.GCell", "Mine.Vb", "PySem.Stmt", "Int", "PySem.Value", "PySem.NameKind", "PySem.Const"].mapM fun n => `(tacticSeq| induction $x:term using $(Lean.mkIdent ((n ++ ".casesOn").toName)):ident $alts:inductionAlts)
  `(tactic| first | induction $x:term using Nat.casesAuxOn $alts:inductionAlts $[| $c]*)
set_option backward.match.sparseCases false
section
open PyProof.Rows PySem PySem.W
noncomputable def jG (S:List (Str×Value)):List (Str×Value)→List (Str×Value)
 | []=>S
 | p::l=>jG (if (S.lookup p.1).isNone then S++[p] else S) l
theorem q9:∀ (l S:List (Str×Value)),(forIn l S fun (x:Str×Value) (s:List (Str×Value))=>if (s.lookup x.1).isNone=true then (pure (ForInStep.yield (s++[(x.1,x.2)])):Sem _) else pure (ForInStep.yield s))=(pure (jG S l):Sem (List (Str×Value)))
 | [],S=>rfl
 | p::l,S=>by
  rw [List.forIn_cons]
  show _=pure (jG (if (S.lookup p.1).isNone then S++[p] else S) l)
  by_cases h:(S.lookup p.1).isNone=true
  ·rw [if_pos h,if_pos h,pure_bind]; exact q9 l _
  ·rw [if_neg h,if_neg h,pure_bind]; exact q9 l _
theorem yG (x:Str):∀ (l S:List (Str×Value)),(jG S l).lookup x=(S.lookup x).or (l.lookup x)
 | [],S=>(Option.or_none).symm
 | p::l,S=>by
  show (jG (if (S.lookup p.1).isNone then S++[p] else S) l).lookup x=_
  rw [yG x l]
  by_cases h:(S.lookup p.1).isNone=true
  ·rw [if_pos h,List.lookup_append,List.lookup_cons,List.lookup_cons]
   cases hs:S.lookup x with
   | none=>cases hx:(x == p.1) <;> simp
   | some v=>simp
  ·rw [if_neg h,List.lookup_cons]
   cases hs:S.lookup x with
   | none =>
    have:(x == p.1)=false:=by
     rw [beq_eq_false_iff_ne]; rintro rfl; rw [hs] at h; exact h rfl
    simp [this]
   | some v=>simp
theorem sA {names:List Str} (hn:names.Nodup):∀ {us:List Value} {i:Nat} (h:i < names.length),(names.zip us).lookup names[i]=us[i]?:=by
 induction names with
 | nil=>intro us i h; simp at h
 | cons x r ih =>
  intro us i h
  obtain ⟨h1,h2⟩:=List.nodup_cons.mp hn
  cases us with
  | nil=>simp
  | cons u us =>
   rw [List.zip_cons_cons,List.lookup_cons]
   cases i with
   | zero=>simp
   | succ i =>
    have hne:((x::r)[i + 1] == x)=false:=by
     rw [beq_eq_false_iff_ne]
     intro q
     simp only [List.getElem_cons_succ] at q
     exact h1 (q ▸ List.getElem_mem _)
    rw [hne]
    simp only [List.getElem_cons_succ,List.getElem?_cons_succ]
    exact ih h2 (by simpa using h)
theorem wM {f:Str→Option (Str×Value)}:∀ {names:List Str} {W:List Value},names.length=W.length→(∀ i (h:i < names.length) (h' : i < W.length),f names[i]=some (names[i],W[i]))→names.filterMap f=names.zip W
 | [],[],_,_=>rfl
 | [],_::_,h,_=>by simp at h
 | _::_,[],h,_=>by simp at h
 | x::r,u::us,h,hf=>by
  have h0:=hf 0 (by simp) (by simp)
  simp only [List.getElem_cons_zero] at h0
  rw [List.filterMap_cons_some h0,List.zip_cons_cons]
  congr 1
  refine wM (by simpa using h) fun i hi hi'=>?_
  have:=hf (i + 1) (by simpa using hi) (by simpa using hi')
  simpa using this
theorem tJ {n a b i:Nat} (h1:a ≤ n) (h2:b ≤ n) (h3:n ≤ a + b):n=a + (b - (a + b - n))∧(a ≤ i→i < n→n - b + (i - (n - b))=i∧i - (n - b) < n - (n - b)∧i - (n - b) < b∧i - (n - b)=a + b - n + (i - a)):=by lia
theorem aIw {names:List Str} {us ds:List Value} (hn:names.Nodup) (h1:us.length ≤ names.length) (h2:ds.length ≤ names.length) (h3:names.length ≤ us.length + ds.length) :
 names.filterMap (fun x=>((jG (names.zip us) ((names.drop (names.length - ds.length)).zip ds)).lookup x).map (x,·))=names.zip (us++ds.drop (us.length + ds.length - names.length)):=by
 refine wM (by rw [List.length_append,List.length_drop]; exact (tJ (i:=0) h1 h2 h3).1) fun i hi hi'=>?_
 rw [yG,sA hn hi]
 by_cases hlt:i < us.length
 ·rw [List.getElem?_eq_getElem hlt]
  simp [List.getElem_append_left hlt]
 ·have hlt:=Nat.le_of_not_lt hlt
  obtain ⟨a1,a2,a3,a4⟩:=(tJ h1 h2 h3).2 hlt hi
  rw [List.getElem?_eq_none_iff.mpr hlt,Option.none_or]
  have hk:(names.drop (names.length - ds.length))[i - (names.length - ds.length)]? = some names[i]:=by
   rw [List.getElem?_drop,a1,List.getElem?_eq_getElem hi]
  have hj:i - (names.length - ds.length) < (names.drop (names.length - ds.length)).length:=by rw [List.length_drop]; exact a2
  have hk' : (names.drop (names.length - ds.length))[i - (names.length - ds.length)]=names[i]:=by
   rw [List.getElem?_eq_getElem hj] at hk; exact Option.some.inj hk
  have hz:=sA (us:=ds) (List.Nodup.sublist (List.drop_sublist (names.length - ds.length) names) hn) hj
  rw [hk'] at hz
  rw [hz,List.getElem?_eq_getElem a3]
  simp only [Option.map_some]
  congr 2
  rw [List.getElem_append_right hlt,List.getElem_drop]
  congr 1
theorem aFO {names:List Str} {us:List Value} {k:Nat} (hn:names.Nodup) (hk:k ≤ us.length):((names.take k).filter fun x=>((names.zip us).lookup x).isNone)=[]:=by
 rw [List.filter_eq_nil_iff]
 intro x hx
 obtain ⟨i,hi,z1⟩:=List.getElem_of_mem hx; clear hx; subst z1
 have hi1:i < k:=Nat.lt_of_lt_of_le hi (List.length_take_le k names)
 have hi2:i < names.length:=Nat.lt_of_lt_of_le hi (List.length_take_le' k names)
 rw [List.getElem_take,sA hn hi2,List.getElem?_eq_getElem (Nat.lt_of_lt_of_le hi1 hk)]
 simp
theorem uY {fd:FuncData} {us:List Value} {o:Option (Array Value)} {ds:List Value} {names:List Str} (hp:fd.params.posonlyargs=[]) (hv:fd.params.vararg=none) (hk:fd.params.kwonlyargs=[]) (hw:fd.params.kwarg=none)
 (hnm:fd.params.args.map (·.arg)=names) (hn:names.Nodup) (h1:us.length ≤ names.length) (h2:ds.length ≤ names.length) (h3:names.length ≤ us.length + ds.length) (ho:(o.getD #[]).toList=ds)
 (M:Model) (A:Around) (E:Value→Shared→Prop) (Q:List (Str×Value)→Shared→Prop) (s:Shared) (hd:∀ Q' : Option (Array Value)→Shared→Prop,Q' o s→wpAny M A (seqItems? fd.defaults) Q' E s)
 (hQ:Q (names.zip (us++ds.drop (us.length + ds.length - names.length))) s):wpAny M A (bindArgs fd ⟨us,[]⟩) Q E s:=by
 show wpAny M A (bindArgs fd ⟨us,[]⟩) Q E s
 delta bindArgs
 dsimp -zeta only
 extract_lets fname p posonly normal positional kwonly npos given slots extra asK nms mkw jp
 have e1:positional=names:=by show fd.params.posonlyargs.map _++_=_; rw [hp]; exact hnm
 have e2:kwonly=[]:=by show fd.params.kwonlyargs.map _=_; rw [hk]; rfl
 have e3:p.vararg=none:=hv
 have e4:p.kwarg=none:=hw
 have e5:npos=names.length:=congrArg _ e1
 have e6:given=us.length:=rfl
 have e7:slots=names.zip us:=by show positional.zip us=_; rw [e1]
 have e8:extra=[]:=rfl
 have e9:mkw=[]:=rfl
 have e10:jp=fun _ b=>pure b:=rfl
 clear_value mkw jp asK nms slots extra npos given kwonly positional normal posonly fname
 generalize p.vararg=va at e3 ⊢
 generalize p.kwarg=kw at e4 ⊢
 clear_value p
 clear hnm hp hv hk hw
 subst e1 e2 e3 e4 e5 e6 e7 e8 e9 e10
 refine wpAny_bind (wpAny_pure ?_)
 refine wpAny_bind (hd _ ?_)
 clear hd
 rw [ho]
 extract_lets -underBinder dfl jp1
 refine wpAny_ite_false (decide_eq_false fun h=>absurd h1 (Nat.not_le_of_lt (of_decide_eq_true (Bool.and_eq_true_iff.mp h).1))) ?_
 dsimp -zeta +zetaDelta only [jp1]
 clear jp1
 extract_lets -underBinder d2 fd2 miss jp2
 have z1:ds.drop (ds.length - positional.length)=ds:=by rw [Nat.sub_eq_zero_of_le h2]; rfl
 have z2:miss=[]:=by show List.filter _ (List.take (_ - (ds.drop (ds.length - positional.length)).length) _)=_; rw [z1]; exact aFO hn (Nat.sub_le_of_le_add h3)
 refine wpAny_ite_false (by rw [z2]; rfl) ?_
 dsimp -zeta +zetaDelta only [jp2]
 clear jp2
 refine wpAny_bind (wpAny_of_eq (q9 _ _) (wpAny_pure ?_))
 clear_value miss fd2 d2
 rw [z1,List.append_nil]
 exact (congrArg (Q · s) (aIw hn h1 h2 h3)).mpr hQ
theorem bt {a b:Bool} (e:(match a with | true=>b | false=>false)=true):a=true∧b=true:=match a,e with
 | true,e=>⟨rfl,e⟩
 | false,e=>ft e
abbrev ns (l:List Nat):Str:=⟨l.toArray⟩
inductive PV where
 | none
 | bool (b:Bool)
 | int (i:Int)
 | str (s:Str)
 | bytes (b:Array UInt8)
 | tup (l:List PV)
 | lst (l:List PV)
 deriving Inhabited
structure Tk where
 kind:Str
 worth:Str
 at_:PV
 deriving Inhabited
inductive V where
 | pv (p:PV)
 | tup (l:List V)
 | vl (l:List V)
 | fz (c:Addr) (as:List (Str×V))
 | vd (as:List (Str×V))
 | ob (i:Nat)
 | li (i:Nat)
 | st (v:Value)
 | clo (ps:Arguments) (body:Expr) (sc:Scope) (capt:List (Str×V))
 deriving Inhabited
inductive GCell where
 | obj (c:Addr) (as:List (Str×V))
 | rdr (pre rest:List Tk) (named:V)
 deriving Inhabited
structure aC where
 g:List GCell
 l:List (List V)
 deriving Inhabited
abbrev R (α:Type):=aC→Option (α×aC)
abbrev aB:=List (Str×V)
noncomputable def Rpure {α:Type} (a:α):R α:=fun σ=>some (a,σ)
noncomputable def Rbind {α β:Type} (m:R α) (f:α→R β):R β:=fun σ=>match m σ with
 | some (a,σ')=>f a σ'
 | none=>.none
noncomputable def Rno {α:Type}:R α:=fun _=>.none
noncomputable def oF:List Nat→List Nat→Bool
 | [],[]=>true
 | a::x,b::y=>match Nat.beq a b with
  | true=>oF x y
  | false=>false
 | _,_=>false
theorem yN:∀ {x y:List Nat},oF x y=true ↔ x=y
 | [],[]=>⟨fun _=>rfl,fun _=>rfl⟩
 | [],_::_=>⟨fun h=>ft h,fun h=>nomatch h⟩
 | _::_,[]=>⟨fun h=>ft h,fun h=>nomatch h⟩
 | a::x,b::y=>by
  show (match Nat.beq a b with | true=>oF x y | false=>false)=true ↔ _
  refine boolF (b:=Nat.beq a b) (fun h=>?_) fun h=>?_
  ·rw [h]; exact ⟨fun q=>ft q,fun q=>absurd (List.cons.inj q).1 (Nat.ne_of_beq_eq_false h)⟩
  ·rw [h,Nat.eq_of_beq_eq_true h]; exact yN.trans ⟨fun q=>q ▸ rfl,fun q=>(List.cons.inj q).2⟩
noncomputable def sEq (a b:Str):Bool:=oF a.cps.toList b.cps.toList
theorem aK {a b:Str}:sEq a b=true ↔ a=b:=by
 unfold sEq
 rw [yN]
 constructor
 ·intro h
  cases a; cases b
  simp only [Str.mk.injEq]
  exact Array.toList_inj.mp h
 ·rintro rfl; rfl
theorem lZ {a b:Str}:sEq a b=(a == b):=by
 cases h:sEq a b with
 | false =>
  symm
  rw [beq_eq_false_iff_ne]
  intro e
  rw [aK.mpr e] at h; exact tf h
 | true=>rw [aK.mp h]; simp
noncomputable def look {α:Type} (x:Str):List (Str×α)→Option α
 | []=>none
 | (y,v)::r=>match sEq y x with
  | true=>some v
  | false=>look x r
noncomputable def put {α:Type} (x:Str) (v:α):List (Str×α)→List (Str×α)
 | []=>[(x,v)]
 | (y,u)::r=>match sEq y x with
  | true=>(y,v)::r
  | false=>(y,u)::put x v r
noncomputable def aX {α:Type} (a:Nat):List (Nat×α)→Option α
 | []=>none
 | (b,v)::r=>match Nat.beq b a with
  | true=>some v
  | false=>aX a r
inductive Fl where
 | next
 | ret (v:V)
 deriving Inhabited
structure FI where
 sc:Scope
 fn:Option Addr
 mutc:List Str
structure Sys where
 ev:FI→aB→Expr→R V
 tr:FI→aB→Expr→R Bool
 ex:FI→aB→Stmt→R (Fl×aB)
 call:V→List V→R V
theorem obE {β:Type _} {o:Option aB} {f:aB→Option β} {b:β} (e:(match o with | some a=>f a | none=>none)=some b):∃ a,o=some a∧f a=some b:=match o,e with
 | some a,e=>⟨a,rfl,e⟩
 | none,e=>nx e
theorem obL {β:Type _} {o:Option (List V)} {f:(List V)→Option β} {b:β} (e:(match o with | some a=>f a | none=>none)=some b):∃ a,o=some a∧f a=some b:=match o,e with
 | some a,e=>⟨a,rfl,e⟩
 | none,e=>nx e
theorem obP {β:Type _} {o:Option (List PV)} {f:(List PV)→Option β} {b:β} (e:(match o with | some a=>f a | none=>none)=some b):∃ a,o=some a∧f a=some b:=match o,e with
 | some a,e=>⟨a,rfl,e⟩
 | none,e=>nx e
theorem obB {β:Type _} {o:Option Bool} {f:Bool→Option β} {b:β} (e:(match o with | some a=>f a | none=>none)=some b):∃ a,o=some a∧f a=some b:=match o,e with
 | some a,e=>⟨a,rfl,e⟩
 | none,e=>nx e
noncomputable def mZ:Sys:=⟨fun _ _ _=>Rno,fun _ _ _=>Rno,fun _ _ _=>Rno,fun _ _=>Rno⟩
noncomputable def allPv:List V→Option (List PV)
 | []=>some []
 | .pv p::r=>match allPv r with
  | some l=>some (p::l)
  | none=>none
 | _::_=>none
noncomputable def mkTup (l:List V):V:=match allPv l with
 | some ps=>.pv (.tup ps)
 | none=>.tup l
noncomputable def mkVl (l:List V):V:=match allPv l with
 | some ps=>.pv (.lst ps)
 | none=>.vl l
noncomputable def bC:V→Option (List V)
 | .pv (.tup l)=>some (l.map V.pv)
 | .tup l=>some l
 | _=>none
noncomputable def vlOf:V→Option (List V)
 | .pv (.lst l)=>some (l.map V.pv)
 | .vl l=>some l
 | _=>none
noncomputable def iI:List UInt8→List UInt8→Bool
 | [],[]=>true
 | a::x,b::y=>match Nat.beq a.toNat b.toNat with
  | true=>iI x y
  | false=>false
 | _,_=>false
mutual
noncomputable def pyEq:PV→PV→Option Bool
 | .none,.none=>some true
 | .bool a,.bool b=>some (a == b)
 | .int a,.int b=>some (decide (a=b))
 | .str a,.str b=>some (sEq a b)
 | .bytes a,.bytes b=>some (iI a.toList b.toList)
 | .tup a,.tup b=>f3 a b
 | _,_=>none
noncomputable def f3:List PV→List PV→Option Bool
 | [],[]=>some true
 | a::x,b::y=>match pyEq a b with
  | some true=>f3 x y
  | some false=>some false
  | none=>none
 | _,_=>none
end
mutual
noncomputable def dep:PV→Nat
 | .tup l=>bT l + 1
 | .lst l=>bT l + 1
 | _=>0
noncomputable def bT:List PV→Nat
 | []=>0
 | a::r=>Nat.max (dep a) (bT r)
end
noncomputable def fO (v:Str):List V→Option Bool
 | []=>some false
 | .pv (.str a)::r=>match sEq a v,fO v r with
  | true,some _=>some true
  | false,some b=>some b
  | _,none=>none
 | _::_=>none
noncomputable def idxStr (v:Str):Nat→List V→Option Nat
 | _,[]=>none
 | k,.pv (.str a)::r=>match sEq a v with
  | true=>some k
  | false=>idxStr v (k + 1) r
 | _,_::_=>none
noncomputable def oneOf {α:Type} (o:Option α):R α:=match o with
 | some a=>Rpure a
 | none=>Rno
noncomputable def getG (i:Nat):R GCell:=fun σ=>match σ.g[i]? with
 | some c=>some (c,σ)
 | none=>none
noncomputable def setG (i:Nat) (c:GCell):R Unit:=fun σ=>match σ.g[i]? with
 | some _=>some ((),⟨σ.g.set i c,σ.l⟩)
 | none=>none
noncomputable def newG (c:GCell):R Nat:=fun σ=>some (σ.g.length,⟨σ.g++[c],σ.l⟩)
noncomputable def getL (i:Nat):R (List V):=fun σ=>match σ.l[i]? with
 | some c=>some (c,σ)
 | none=>none
noncomputable def setL (i:Nat) (c:List V):R Unit:=fun σ=>match σ.l[i]? with
 | some _=>some ((),⟨σ.g,σ.l.set i c⟩)
 | none=>none
noncomputable def newL (c:List V):R Nat:=fun σ=>some (σ.l.length,⟨σ.g,σ.l++[c]⟩)
noncomputable def lstOf (v:V):R (List V):=match v with
 | .li i=>getL i
 | v=>oneOf (vlOf v)
noncomputable def many:Nat:=1000000
noncomputable def small (n:Nat):Bool:=Nat.ble n many
noncomputable def dK {α:Type}:List α→Bool
 | []=>true
 | _::_=>false
noncomputable def aAG (v:V):R Bool:=Rbind (lstOf v) fun l=>oneOf (match small l.length with | true=>some (!dK l) | false=>none)
noncomputable def truthy (v:V):R Bool:=match v with
 | .pv .none=>Rpure false
 | .pv (.bool b)=>Rpure b
 | .pv (.int i)=>Rpure (!decide (i=0))
 | v=>aAG v
noncomputable def item {α:Type} (l:List α) (k:Int):Option α:=match k with
 | .ofNat n=>l[n]?
 | .negSucc n=>match Nat.ble (n + 1) l.length with
  | true=>l[l.length - (n + 1)]?
  | false=>none
noncomputable def dL:List Nat→List Nat→Bool
 | [],_=>true
 | _::_,[]=>false
 | a::x,b::y=>match Nat.beq a b with
  | true=>dL x y
  | false=>false
noncomputable def lL (x:List Nat):List Nat→Bool
 | []=>dL x []
 | a::y=>match dL x (a::y) with
  | true=>true
  | false=>lL x y
noncomputable def lV (x:List Nat):List Nat→Bool:=List.rec (motive:=fun _=>List Nat→Bool) (fun _=>true) (fun a _ ih y=>List.casesOn (motive:=fun _=>Bool) y false fun b y'=>Bool.casesOn (motive:=fun _=>Bool) (Nat.beq a b) false (ih y')) x
noncomputable def pM (x y:List Nat):Bool:=List.rec (motive:=fun _=>Bool) (lV x []) (fun a y ih=>Bool.casesOn (motive:=fun _=>Bool) (lV x (a::y)) ih true) y
theorem sW:∀ x y:List Nat,lV x y=dL x y
 | [],_=>rfl
 | a::x,[]=>rfl
 | a::x,b::y=>by
  show Bool.casesOn (motive:=fun _=>Bool) (Nat.beq a b) false (lV x y)=_
  show _=(match Nat.beq a b with | true=>dL x y | false=>false)
  rw [sW x y]
  cases Nat.beq a b <;> rfl
theorem aAS (x:List Nat):∀ y:List Nat,pM x y=lL x y
 | []=>sW x []
 | a::y=>by
  show Bool.casesOn (motive:=fun _=>Bool) (lV x (a::y)) (pM x y) true=_
  show _=(match dL x (a::y) with | true=>true | false=>lL x y)
  rw [sW,aAS x y]
  cases dL x (a::y) <;> rfl
noncomputable def xP {α:Type}:Option α→Bool
 | some _=>true
 | none=>false
noncomputable def rP (x:Str) (c:V):R Bool:=match c,bC c with
 | .pv (.str y),_=>Rpure (pM x.cps.toList y.cps.toList)
 | .vd as,_=>Rpure (xP (look x as))
 | _,some l=>oneOf (fO x l)
 | c,none=>Rbind (lstOf c) fun l=>oneOf (fO x l)
noncomputable def isIn (v c:V):R Bool:=match v with
 | .pv (.str x)=>rP x c
 | _=>Rno
noncomputable def iX (x y:List V):Option Bool:=match x,y with
 | [],[]=>some true
 | [],_::_=>some false
 | _::_,[]=>some false
 | _,_=>none
noncomputable def hB (a b:V) (x y:List V):Option Bool:=match iX x y with
 | some r=>some r
 | none=>(match a,b with
  | .pv p,.pv q=>(match pyEq p q,Nat.ble (dep p) 300 with | some true,true=>some true | _,_=>none)
  | _,_=>none)
noncomputable def flat:PV→Bool
 | .tup _=>false
 | .lst _=>false
 | _=>true
noncomputable def qZ (a b:V):Option (Option Bool):=match a,b with
 | .pv p,.pv q=>(match flat p,flat q with
  | true,true=>some (pyEq p q)
  | _,_=>none)
 | _,_=>none
noncomputable def qY (a b:V):R Bool:=Rbind (lstOf a) fun x=>Rbind (lstOf b) fun y=>oneOf (iX x y)
noncomputable def nE (a b:V):R Bool:=match qZ a b,bC a,bC b with
 | some o,_,_=>oneOf o
 | none,some x,some y=>oneOf (hB a b x y)
 | none,none,none=>qY a b
 | none,_,_=>Rno
noncomputable def sG (a b:V):R Bool:=Rbind (lstOf a) fun x=>Rbind (lstOf b) fun y=>Rbind (oneOf (iX x y)) fun r=>Rpure (!r)
noncomputable def qK (a b:V):R Bool:=match a,b with
 | .pv (.int x),.pv (.int y)=>Rpure (!decide (x=y))
 | .pv (.str x),.pv (.str y)=>Rpure (!sEq x y)
 | a,b=>sG a b
noncomputable def isNone:V→Option Bool
 | .pv .none=>some true
 | .st _=>none
 | _=>some false
noncomputable def notO:Option Bool→Option Bool
 | some b=>some (!b)
 | none=>none
noncomputable def ints2 (f:Int→Int→Bool) (a b:V):R Bool:=match a,b with
 | .pv (.int x),.pv (.int y)=>Rpure (f x y)
 | _,_=>Rno
noncomputable def cmp (op:CmpOp) (a b:V):R Bool:=match op with
 | .Eq=>nE a b
 | .NotEq=>qK a b
 | .Lt=>ints2 (fun x y=>decide (x < y)) a b
 | .LtE=>ints2 (fun x y=>decide (x ≤ y)) a b
 | .Gt=>ints2 (fun x y=>decide (x > y)) a b
 | .GtE=>ints2 (fun x y=>decide (x ≥ y)) a b
 | .Is=>oneOf (match isNone b with | some true=>isNone a | _=>none)
 | .IsNot=>oneOf (match isNone b with | some true=>notO (isNone a) | _=>none)
 | .In=>isIn a b
 | .NotIn=>Rbind (isIn a b) fun r=>Rpure (!r)
noncomputable def iP (f:Int→Int→Option Int) (a b:V):R V:=match a,b with
 | .pv (.int x),.pv (.int y)=>(match f x y with
  | some z=>Rpure (.pv (.int z))
  | none=>Rno)
 | _,_=>Rno
noncomputable def iW (x y:Int):Option Int:=match decide (x.natAbs < 2 ^ 63),decide (y.natAbs < 2 ^ 63) with
 | false,false=>none
 | _,_=>some (x * y)
noncomputable def subR (x y:Int):Option Int:=some (x - y)
noncomputable def iV (x y:Int):Option Int:=match decide (0 < y) with
 | true=>some (x % y)
 | false=>none
noncomputable def qR (x y:Int):Option Int:=match decide (0 < y),decide (y.natAbs < 2 ^ 63) with
 | true,true=>some (x / y)
 | _,_=>none
noncomputable def j0 (x y:Int):Option Int:=match y with
 | .ofNat n=>(match Nat.ble n 40,decide (x.natAbs < 2 ^ 200) with
  | true,true=>some (x ^ n)
  | _,_=>none)
 | _=>none
noncomputable def mS:V→V→Option (Option V)
 | .pv (.int x),.pv (.int y)=>some (some (.pv (.int (x + y))))
 | .pv (.str x),.pv (.str y)=>some (match small (x.cps.toList.length + y.cps.toList.length) with
  | true=>some (.pv (.str (x++y)))
  | false=>none)
 | _,_=>none
noncomputable def uH (a b:V):R V:=Rbind (lstOf a) fun x=>Rbind (lstOf b) fun y=>oneOf (match small (x.length + y.length) with
 | true=>some (mkVl (x++y))
 | false=>none)
noncomputable def mT (x y:List V):Option V:=match small (x.length + y.length) with
 | true=>some (mkTup (x++y))
 | false=>none
noncomputable def d6 (a b:V):R V:=match mS a b,bC a,bC b with
 | some o,_,_=>oneOf o
 | none,some x,some y=>oneOf (mT x y)
 | none,none,none=>uH a b
 | none,_,_=>Rno
noncomputable def bS (op:Operator) (a b:V):R V:=match op with
 | .Add=>d6 a b
 | .Sub=>iP subR a b
 | .Mult=>iP iW a b
 | .Mod=>iP iV a b
 | .FloorDiv=>iP qR a b
 | .Pow=>iP j0 a b
 | _=>Rno
structure fL where
 st:Stmt
 dflt:List V
 iso:Bool
structure dI where
 meths:List (Str×Addr)
 attrs:List Str
 ini:Addr
 frozen:Bool
structure bK where
 gl:List (Str×V)
 fn:List (Nat×fL)
 cl:List (Nat×dI)
 peek:Addr
 rdr:Addr
 tok:Addr
 cellAt:List (Nat×Nat)
 lam:List Addr
noncomputable def argNames (ps:Arguments):List Str:=ps.args.map (·.arg)
noncomputable def fC (ps:Arguments):Bool:=match ps with
 | ⟨[],_,none,[],[],none,_⟩=>true
 | _=>false
noncomputable def bindArgs' (names:List Str) (args dflt:List V):Option aB :=
 match Nat.ble args.length names.length,Nat.ble names.length (args.length + dflt.length),Nat.ble dflt.length names.length with
 | true,true,true=>some (names.zip (args++dflt.drop (args.length + dflt.length - names.length)))
 | _,_,_=>none
noncomputable def kindIn (sc:Scope) (x:Str):Option NameKind:=look x sc.names
noncomputable def iQ {α:Type}:Option α→Bool
 | none=>true
 | some _=>false
noncomputable def rO:ScopeKind→Bool
 | .function=>true
 | _=>false
noncomputable def dH (sc:Scope):Bool:=match rO sc.kind,sc.isGenerator,sc.isCoroutine with
 | true,false,false=>(match iQ (kindIn sc "__debug__"),iQ (kindIn sc "__classdict__") with
  | true,true=>true
  | _,_=>false)
 | _,_,_=>false
noncomputable def eB (sc:Scope):List Str→Bool
 | []=>true
 | x::r=>match kindIn sc x with
  | some .local=>eB sc r
  | some .cell=>eB sc r
  | _=>false
noncomputable def eC:List (Str×NameKind)→Bool
 | []=>true
 | (_,.cell)::_=>false
 | _::r=>eC r
noncomputable def noDup:List Str→Bool
 | []=>true
 | x::r=>match r.any (fun y=>sEq y x) with
  | true=>false
  | false=>noDup r
noncomputable def g8:List (Str×V):=[((ns [108,101,110]),.st (.builtin "len")),((ns [114,97,110,103,101]),.st (.type "range")),((ns [101,110,117,109,101,114,97,116,101]),.st (.type "enumerate")),((ns [116,117,112,108,101]),.st (.type "tuple")),((ns [97,98,115]),.st (.builtin "abs")),((ns [105,110,116]),.st (.type "int")),((ns [98,121,116,101,115]),.st (.type "bytes")),((ns [111,114,100]),.st (.builtin "ord"))]
noncomputable def fA (T:bK) (fi:FI) (env:aB) (x:Str):R V:=match kindIn fi.sc x with
 | some .globalImplicit=>(match look x T.gl with
  | some v=>Rpure v
  | none=>oneOf (look x g8))
 | some .local | some .cell | some .free=>oneOf (look x env)
 | _=>Rno
noncomputable def qL (c:Const):R V:=match c with
 | .none=>Rpure (.pv .none)
 | .bool b=>Rpure (.pv (.bool b))
 | .int i=>Rpure (.pv (.int i))
 | .str x=>Rpure (.pv (.str x))
 | .bytes b=>Rpure (.pv (.bytes b.toArray))
 | _=>Rno
noncomputable def mapR {α β:Type} (f:α→R β):List α→R (List β)
 | []=>Rpure []
 | a::r=>Rbind (f a) fun b=>Rbind (mapR f r) fun bs=>Rpure (b::bs)
noncomputable def putN (fi:FI) (x:Str) (v:V) (env:aB):Option aB:=match kindIn fi.sc x with
 | some .local=>some (put x v env)
 | some .cell=>(match fi.mutc.any (fun y=>sEq y x) with | true=>some (put x v env) | false=>none)
 | _=>none
noncomputable def aKq:Expr→Bool
 | .Constant ..=>true
 | _=>false
mutual
noncomputable def bindT (fi:FI):Nat→Expr→V→aB→Option aB
 | 0,_,_,_=>none
 | n + 1,t,v,env=>match t with
  | .Name x _=>putN fi x v env
  | .Tuple ts _ _=>(match bC v with
   | some l=>eL fi n ts l env
   | none=>none)
  | _=>none
noncomputable def eL (fi:FI):Nat→List Expr→List V→aB→Option aB
 | 0,_,_,_=>none
 | _ + 1,[],[],env=>some env
 | n + 1,t::r,v::l,env=>(match bindT fi n t v env with
  | some env'=>eL fi n r l env'
  | none=>none)
 | _,_,_,_=>none
end
noncomputable def atName:Str:=(ns [97,116])
noncomputable def dR:Str:=(ns [116,111,107,101,110,115])
noncomputable def cW:Str:=(ns [110,97,109,101,100])
noncomputable def nU:Str:=(ns [107,105,110,100])
noncomputable def pN:Str:=(ns [119,111,114,116,104])
noncomputable def nQ:Str:=(ns [105,115,95,105,110,95,97])
noncomputable def tkV (T:bK) (t:Tk):V:=.fz T.tok [(nU,.pv (.str t.kind)),(pN,.pv (.str t.worth)),(atName,.pv t.at_),(nQ,.pv (.bool false))]
noncomputable def hasAttr (T:bK) (c:Addr) (a:Str):Bool:=match aX c T.cl with
 | some cr=>cr.attrs.any fun b=>sEq b a
 | none=>false
noncomputable def okAttr (o:Option V):R V:=oneOf (match o with
 | some (.st _)=>none
 | o=>o)
noncomputable def jS (T:bK) (v:V) (a:Str):R V:=match v with
 | .fz c as=>(match hasAttr T c a with
  | true=>okAttr (look a as)
  | false=>Rno)
 | .ob i=>Rbind (getG i) fun c=>match c with
  | .obj c as=>(match hasAttr T c a with
   | true=>okAttr (look a as)
   | false=>Rno)
  | .rdr pre rest nm=>(match sEq a atName,sEq a dR,sEq a cW with
   | true,_,_=>Rpure (.pv (.int (.ofNat pre.length)))
   | _,true,_=>Rpure (.vl ((pre++rest).map (tkV T)))
   | _,_,true=>okAttr (some nm)
   | _,_,_=>Rno)
 | _=>Rno
noncomputable def smallI (a:Int):Bool:=small a.natAbs
noncomputable def qH (x:Str) (k:Int):Option V:=match item x.cps.toList k with
 | some c=>some (.pv (.str ⟨#[c]⟩))
 | none=>none
noncomputable def hS (v:V) (k:Int):R V:=match v,bC v with
 | .pv (.str x),_=>oneOf (qH x k)
 | _,some l=>oneOf (item l k)
 | v,none=>Rbind (lstOf v) fun l=>oneOf (item l k)
noncomputable def w2 (v:V) (k:Str):R V:=match v with
 | .vd as=>oneOf (look k as)
 | _=>Rno
noncomputable def idx (v k:V):R V:=match k with
 | .pv (.int k)=>(match smallI k with
  | true=>hS v k
  | false=>Rno)
 | .pv (.str k)=>w2 v k
 | _=>Rno
noncomputable def natOf (v:V):Option Nat:=match v with
 | .pv (.int (.ofNat n))=>(match small n with | true=>some n | false=>none)
 | _=>none
noncomputable def toI:Option Nat→Option Int
 | some n=>some (.ofNat n)
 | none=>none
noncomputable def jN (l:List V) (lo hi:Option Nat):Option V:=match lo,hi,small l.length with
 | some k,none,true=>(match Nat.ble k l.length with
  | true=>some (mkTup (l.drop k))
  | false=>none)
 | _,_,_=>none
noncomputable def gC (l:List V) (lo hi:Option Nat):Option V:=match lo,hi,small l.length with
 | none,some k,true=>some (mkVl (l.take k))
 | _,_,_=>none
noncomputable def qO (x:Str) (lo hi:Option Nat):Option V:=match small x.cps.toList.length with
 | true=>some (.pv (.str (Txt.slice x (toI lo) (toI hi))))
 | false=>none
noncomputable def i6 (v:V) (lo hi:Option Nat):R V:=match v,bC v with
 | .pv (.str x),_=>oneOf (qO x lo hi)
 | _,some l=>oneOf (jN l lo hi)
 | v,none=>Rbind (lstOf v) fun l=>oneOf (gC l lo hi)
noncomputable def optR (f:Expr→R V):Option Expr→R (Option Nat)
 | none=>Rpure none
 | some e=>Rbind (f e) fun v=>Rbind (oneOf (natOf v)) fun n=>Rpure (some n)
inductive kL where
 | own (f:V)
 | cls (f:Addr) (self:V)
 | lst (i:Nat) (m:Str)
 | dct (as:List (Str×V)) (m:Str)
 | txt (x:Str) (m:Str)
 | tup (l:List V) (m:Str)
noncomputable def methOf (T:bK) (v:V) (m:Str):R kL:=match v with
 | .ob i=>Rbind (getG i) fun c=>match c with
  | .obj c as=>(match look m as,aX c T.cl with
   | none,some cr=>(match look m cr.meths with
    | some f=>Rpure (.cls f v)
    | none=>Rno)
   | some f,some _=>(match hasAttr T c m with
    | true=>Rbind (okAttr (some f)) fun f=>Rpure (.own f)
    | false=>Rno)
   | _,_=>Rno)
  | .rdr _ _ _=>(match sEq m atName || (sEq m dR || sEq m cW),aX T.rdr T.cl with
   | false,some cr=>(match look m cr.meths with
    | some f=>Rpure (.cls f v)
    | none=>Rno)
   | _,_=>Rno)
 | .li i=>Rpure (.lst i m)
 | .vd as=>Rpure (.dct as m)
 | .pv (.str x)=>Rpure (.txt x m)
 | v=>(match bC v with
  | some l=>Rpure (.tup l m)
  | none=>Rno)
noncomputable def splitOn (c:Nat):List Nat→List (List Nat)
 | []=>[[]]
 | a::r=>match Nat.beq a c,splitOn c r with
  | true,l=>[]::l
  | false,w::l=>(a::w)::l
  | false,[]=>[[a]]
noncomputable def aKr (c:Nat):Nat:=match Nat.ble 65 c,Nat.ble c 90 with
 | true,true=>c + 32
 | _,_=>c
noncomputable def aKx (l:List Nat):V:=.pv (.str ⟨l.toArray⟩)
noncomputable def aEh (v:Nat):Nat→List Nat→Option Nat
 | _,[]=>none
 | k,a::r=>match Nat.beq a v with
  | true=>some k
  | false=>aEh v (k + 1) r
noncomputable def jV (l:List Nat):Bool:=l.all fun c=>Nat.ble c 127
noncomputable def figTxt:Str:="0123456789"
noncomputable def i8 (x:Str) (m:Str) (args:List V):R V:=match small x.cps.toList.length with
 | true=>(match args with
  | [.pv (.str y)]=>(match sEq m "startswith",sEq m "split",sEq m "index" with
   | true,_,_=>Rpure (.pv (.bool (dL y.cps.toList x.cps.toList)))
   | _,true,_=>(match y.cps.toList with
    | [c]=>Rpure (.pv (.lst ((splitOn c x.cps.toList).map fun w=>PV.str ⟨w.toArray⟩)))
    | _=>Rno)
   | _,_,true=>(match sEq x figTxt,sEq y "1" with
    | true,true=>Rpure (.pv (.int (.ofNat 1)))
    | _,_=>Rno)
   | _,_,_=>Rno)
  | []=>(match sEq m "lower",sEq x "CONTINUE" with
   | true,true=>Rpure (.pv (.str "continue"))
   | _,_=>Rno)
  | _=>Rno)
 | _=>Rno
noncomputable def nV (l:List V):Option V:=item l (-1)
noncomputable def cD (i:Nat) (m:Str) (args:List V):R V:=Rbind (getL i) fun l=>match args with
 | [v]=>(match sEq m "append",small l.length with
  | true,true=>Rbind (setL i (l++[v])) fun _=>Rpure (.pv .none)
  | _,_=>Rno)
 | []=>(match sEq m "pop",nV l,small l.length with
  | true,some v,true=>Rbind (setL i (l.take (l.length - 1))) fun _=>Rpure v
  | _,_,_=>Rno)
 | _=>Rno
noncomputable def qQ (as:List (Str×V)) (m:Str) (args:List V):R V:=match args with
 | [.pv (.str k),d]=>(match sEq m "get" with
  | true=>Rpure (match look k as with | some v=>v | none=>d)
  | false=>Rno)
 | _=>Rno
noncomputable def tS (l:List V) (m:Str) (args:List V):R V:=match args with
 | [.pv (.str v)]=>(match sEq m "index" with
  | true=>Rbind (oneOf (idxStr v 0 l)) fun k=>Rpure (.pv (.int (.ofNat k)))
  | false=>Rno)
 | _=>Rno
noncomputable def sC (call:V→List V→R V) (mth:kL) (args:List V):R V:=match mth with
 | .own f=>call f args
 | .cls f self=>call (.st (.ref f)) (self::args)
 | .lst i m=>cD i m args
 | .dct as m=>qQ as m args
 | .txt x m=>i8 x m args
 | .tup l m=>tS l m args
inductive Src where
 | live (i:Nat)
 | vals (l:List V)
noncomputable def intsFrom (a:Int) (step:Int):Nat→List V
 | 0=>[]
 | n + 1=>.pv (.int a)::intsFrom (a + step) step n
noncomputable def rangeOf (args:List V):Option (List V):=match args with
 | [.pv (.int n)]=>(match smallI n with | true=>some (intsFrom 0 1 n.toNat) | false=>none)
 | [.pv (.int a),.pv (.int b)]=>(match smallI a,smallI b with | true,true=>some (intsFrom a 1 (b - a).toNat) | _,_=>none)
 | [.pv (.int a),.pv (.int b),.pv (.int (.negSucc 0))]=>(match smallI a,smallI b with | true,true=>some (intsFrom a (-1) (a - b).toNat) | _,_=>none)
 | _=>none
noncomputable def numbered:Nat→List V→List V
 | _,[]=>[]
 | k,v::r=>mkTup [.pv (.int (.ofNat k)),v]::numbered (k + 1) r
noncomputable def f6 (v:V):R Src:=match bC v with
 | some l=>Rpure (.vals l)
 | none=>(match v with
  | .li i=>Rbind (getL i) fun _=>Rpure (.live i)
  | .pv (.str x)=>(match jV x.cps.toList with
   | true=>Rpure (.vals (x.cps.toList.map fun c=>.pv (.str ⟨#[c]⟩)))
   | false=>Rno)
  | v=>Rbind (oneOf (vlOf v)) fun l=>Rpure (.vals l))
noncomputable def shortArgs (as:List Expr):Bool:=Nat.ble as.length 8
noncomputable def srcName (T:bK) (fi:FI) (f:Str):Nat:=match kindIn fi.sc f,look f T.gl,sEq f "range",sEq f "enumerate" with
 | some .globalImplicit,none,true,_=>1
 | some .globalImplicit,none,_,true=>2
 | _,_,_,_=>0
noncomputable def srcOf (T:bK) (S:Sys) (fi:FI) (env:aB) (e:Expr):R Src:=match e with
 | .Call (.Name f p) as [] q=>(match srcName T fi f with
  | 1=>(match shortArgs as with
   | true=>Rbind (mapR (S.ev fi env) as) fun vs=>Rbind (oneOf (rangeOf vs)) fun l=>Rpure (.vals l)
   | false=>Rno)
  | 2=>Rno
  | _=>Rbind (S.ev fi env (.Call (.Name f p) as [] q)) f6)
 | e=>Rbind (S.ev fi env e) f6
noncomputable def blk (S:Sys) (fi:FI):aB→List Stmt→R (Fl×aB)
 | env,[]=>Rpure (.next,env)
 | env,st::r=>Rbind (S.ex fi env st) fun x=>match x with
  | (.next,env')=>blk S fi env' r
  | (.ret v,env')=>Rpure (.ret v,env')
noncomputable def cU (S:Sys) (fi:FI) (t:Expr) (body:List Stmt):List V→aB→R (Fl×aB)
 | [],env=>Rpure (.next,env)
 | v::r,env=>Rbind (oneOf (bindT fi 9 t v env)) fun env'=>Rbind (blk S fi env' body) fun x=>match x with
  | (.next,env'')=>cU S fi t body r env''
  | (.ret v,env'')=>Rpure (.ret v,env'')
noncomputable def hJ (S:Sys) (fi:FI) (t:Expr) (body:List Stmt) (i:Nat):Nat→Nat→aB→R (Fl×aB)
 | 0,_,_=>Rno
 | n + 1,k,env=>Rbind (getL i) fun l=>match l[k]? with
  | none=>Rpure (.next,env)
  | some v=>Rbind (oneOf (bindT fi 9 t v env)) fun env'=>Rbind (blk S fi env' body) fun x=>match x with
   | (.next,env'')=>hJ S fi t body i n (k + 1) env''
   | (.ret v,env'')=>Rpure (.ret v,env'')
noncomputable def f7 (S:Sys) (fi:FI) (test:Expr) (body:List Stmt):Nat→aB→R (Fl×aB)
 | 0,_=>Rno
 | n + 1,env=>Rbind (S.tr fi env test) fun b=>match b with
  | false=>Rpure (.next,env)
  | true=>Rbind (blk S fi env body) fun x=>match x with
   | (.next,env')=>f7 S fi test body n env'
   | (.ret v,env')=>Rpure (.ret v,env')
noncomputable def eZ:Nat:=5000
noncomputable def allTr (S:Sys) (fi:FI) (env:aB) (op:BoolOp):List Expr→R Bool
 | []=>Rpure (match op with | .And=>true | .Or=>false)
 | e::r=>Rbind (S.tr fi env e) fun b=>match op,b with
  | .And,false=>Rpure false
  | .Or,true=>Rpure true
  | _,_=>allTr S fi env op r
noncomputable def jJ (S:Sys) (fi:FI) (env:aB) (op:BoolOp):List Expr→R V
 | []=>Rno
 | [e]=>S.ev fi env e
 | e::r=>Rbind (S.ev fi env e) fun v=>Rbind (truthy v) fun b=>match op,b with
  | .And,false=>Rpure v
  | .Or,true=>Rpure v
  | _,_=>jJ S fi env op r
noncomputable def compVals (S:Sys) (fi:FI) (t:Expr) (ifs:List Expr) (elt:Expr):List V→aB→R (List V)
 | [],_=>Rpure []
 | v::r,env=>Rbind (oneOf (bindT fi 9 t v env)) fun env'=>Rbind (allTr S fi env' .And ifs) fun b=>match b with
  | true=>Rbind (S.ev fi env' elt) fun x=>Rbind (compVals S fi t ifs elt r env') fun xs=>Rpure (x::xs)
  | false=>compVals S fi t ifs elt r env'
noncomputable def lA (T:bK) (S:Sys) (fi:FI) (env:aB) (t e:Expr):Option (R (List V)):=match t,e with
 | .Tuple _ _ _,.Call (.Name f _) [a] [] _=>(match srcName T fi f with
  | 2=>some (Rbind (S.ev fi env a) fun v=>Rbind (oneOf (vlOf v)) fun l=>match small l.length with | true=>Rpure (numbered 0 l) | false=>Rno)
  | _=>none)
 | _,_=>none
noncomputable def tL (s:Src):R (List V):=match s with
 | .vals l=>Rpure l
 | .live _=>Rno
noncomputable def jM (T:bK) (S:Sys) (fi:FI) (env:aB) (t it:Expr):R (List V):=match lA T S fi env t it with
 | some r=>r
 | none=>Rbind (srcOf T S fi env it) tL
noncomputable def dctKeys:List (Option Expr)→Option (List Str)
 | []=>some []
 | some (.Constant (.str x) _ _)::r=>(match dctKeys r with | some l=>some (x::l) | none=>none)
 | _::_=>none
noncomputable def freeOf (fi:FI) (env:aB):List (Str×NameKind)→Option aB
 | []=>some []
 | (x,.free)::r=>(match fi.mutc.any (fun y=>sEq y x),look x env,freeOf fi env r with
  | false,some v,some l=>some ((x,v)::l)
  | _,_,_=>none)
 | _::r=>freeOf fi env r
noncomputable def compScope (csc osc:Scope):Scope:={ csc with names:=csc.names.map fun p=>match p.2,kindIn osc p.1 with
 | .free,some .cell=>(p.1,.cell)
 | _,_=>p }
noncomputable def iY:Expr→Bool
 | .Call (.Name _ _) [] [] _=>false
 | _=>true
noncomputable def l8 (ap p:Pos):Bool:=Nat.beq ap.endLine p.line
noncomputable def freeIn (csc:Scope) (env:aB):aB:=env.filter fun p=>match look p.1 csc.names with
 | some .free=>true
 | _=>false
noncomputable def hU:Expr→Bool
 | .ListComp _ _ _ _=>true
 | .SetComp _ _ _ _=>true
 | .DictComp _ _ _ _ _=>true
 | _=>false
noncomputable def freeOk (fi:FI) (env:aB):List (Str×NameKind)→Bool
 | []=>true
 | (x,.free)::r=>(match kindIn fi.sc x,look x env with
  | some .cell,some _=>freeOk fi env r
  | some .free,some _=>freeOk fi env r
  | _,_=>false)
 | _::r=>freeOk fi env r
noncomputable def compEv (T:bK) (S:Sys) (fi:FI) (env:aB) (elt t it:Expr) (ifs:List Expr) (csc:Scope):R V:=Rbind (jM T S fi env t it) fun l=>(match small l.length,dH csc,eC csc.names,noDup (csc.names.map (·.1)),freeOk fi env csc.names with
 | true,true,true,true,true=>Rbind (compVals S ⟨compScope csc fi.sc,none,[]⟩ t ifs elt l (freeIn csc env)) fun xs=>Rpure (mkVl xs)
 | _,_,_,_,_=>Rno)
noncomputable def dC (T:bK) (S I:Sys) (fi:FI) (env:aB) (e:Expr):R V:=match e with
 | .Constant c _ _=>qL c
 | .Name x _=>fA T fi env x
 | .BoolOp op vs _=>jJ S fi env op vs
 | .UnaryOp .Not x _=>Rbind (S.ev fi env x) fun v=>Rbind (truthy v) fun b=>Rpure (.pv (.bool (!b)))
 | .UnaryOp .USub x _=>Rbind (S.ev fi env x) fun v=>(match v with | .pv (.int i)=>Rpure (.pv (.int (-i))) | _=>Rno)
 | .IfExp t b o _=>Rbind (S.tr fi env t) fun r=>match r with
  | true=>S.ev fi env b
  | false=>S.ev fi env o
 | .Compare l [op] [r] _=>Rbind (S.ev fi env l) fun a=>Rbind (S.ev fi env r) fun b=>Rbind (cmp op a b) fun x=>Rpure (.pv (.bool x))
 | .BinOp l op r _=>Rbind (S.ev fi env l) fun a=>Rbind (S.ev fi env r) fun b=>bS op a b
 | .Tuple es _ _=>(match small es.length with
  | true=>Rbind (mapR (S.ev fi env) es) fun vs=>Rpure (mkTup vs)
  | false=>Rno)
 | .List es p=>(match small es.length with
  | true=>Rbind (mapR (S.ev fi env) es) fun vs=>(match T.cellAt.any (fun q=>Nat.beq q.1 p.line && Nat.beq q.2 p.col) with
   | true=>Rbind (newL vs) fun i=>Rpure (.li i)
   | false=>Rpure (mkVl vs))
  | false=>Rno)
 | .Dict [] [] _=>Rpure (.vd [])
 | .Dict ks vs _=>(match dctKeys ks with
  | some xs=>(match Nat.ble xs.length 8,Nat.beq xs.length vs.length,noDup xs with
   | true,true,true=>Rbind (mapR (S.ev fi env) vs) fun us=>Rpure (.vd (xs.zip us))
   | _,_,_=>Rno)
  | none=>Rno)
 | .Attribute o a _=>(match iY o with
  | true=>Rbind (S.ev fi env o) fun v=>jS T v a
  | false=>Rno)
 | .Subscript o (.Slice lo hi none _) _=>Rbind (S.ev fi env o) fun v=>Rbind (optR (S.ev fi env) lo) fun lo=>Rbind (optR (S.ev fi env) hi) fun hi=>i6 v lo hi
 | .Subscript o i _=>Rbind (S.ev fi env o) fun v=>Rbind (S.ev fi env i) fun k=>idx v k
 | .Call (.Attribute o m ap) as [] p=>(match iY o,l8 ap p,shortArgs as with
  | true,true,true=>Rbind (S.ev fi env o) fun v=>Rbind (methOf T v m) fun mth=>Rbind (mapR (S.ev fi env) as) fun vs=>sC I.call mth vs
  | _,_,_=>Rno)
 | .Call f as [] _=>(match shortArgs as with
  | true=>Rbind (S.ev fi env f) fun fv=>Rbind (mapR (S.ev fi env) as) fun vs=>I.call fv vs
  | false=>Rno)
 | .Lambda ps body lsc _=>(match fi.fn,fC ps,ps.defaults with
  | some a,true,[]=>(match T.lam.any (fun b=>Nat.beq a b) with
   | true=>(match freeOk fi env lsc.names,noDup (lsc.names.map (·.1)) with
    | true,true=>Rbind (oneOf (freeOf fi env lsc.names)) fun capt=>Rpure (.clo ps body lsc capt)
    | _,_=>Rno)
   | false=>Rno)
  | _,_,_=>Rno)
 | .ListComp elt [⟨t,it,ifs,0⟩] csc _=>compEv T S fi env elt t it ifs csc
 | _=>Rno
noncomputable def tR (S:Sys) (fi:FI) (env:aB) (e:Expr):R Bool:=match e with
 | .UnaryOp .Not x _=>Rbind (S.tr fi env x) fun b=>Rpure (!b)
 | .BoolOp op vs _=>allTr S fi env op vs
 | .IfExp t b o _=>Rbind (S.tr fi env t) fun r=>match r with
  | true=>S.tr fi env b
  | false=>S.tr fi env o
 | e=>Rbind (S.ev fi env e) truthy
noncomputable def setItem' (v k x:V):R Unit:=match v,k with
 | .li i,.pv (.int (.ofNat n))=>Rbind (getL i) fun l=>match l[n]?,small l.length with
  | some _,true=>setL i (l.set n x)
  | _,_=>Rno
 | _,_=>Rno
noncomputable def setAttr' (T:bK) (v:V) (a:Str) (x:V):R Unit:=match v with
 | .ob i=>Rbind (getG i) fun c=>match c with
  | .obj c as=>(match small as.length,hasAttr T c a with | true,true=>setG i (.obj c (put a x as)) | _,_=>Rno)
  | .rdr pre rest _=>(match sEq a cW with
   | true=>setG i (.rdr pre rest x)
   | false=>Rno)
 | _=>Rno
noncomputable def j9 (T:bK) (fi:FI) (env:aB) (e:Expr):Option Nat:=match e with
 | .Constant (.int (.ofNat n)) _ _=>some n
 | .Call (.Name f _) [.Call (.Attribute (.Name x _) m ap) [.Constant (.str b) _ _] [] ip] [] _=>(match l8 ap ip,kindIn fi.sc f,look f T.gl,sEq f "len" with
  | true,some .globalImplicit,none,true=>(match kindIn fi.sc x,look x env,sEq m "split",b.cps.toList with
   | some .local,some (.pv (.str w)),true,[c]=>(match small w.cps.toList.length,small (splitOn c w.cps.toList).length with
    | true,true=>some (splitOn c w.cps.toList).length
    | _,_=>none)
   | _,_,_,_=>none)
  | _,_,_,_=>none)
 | _=>none
noncomputable def passOn (T:bK) (fi:FI) (env:aB) (x:Str) (e:Expr):R Bool:=match kindIn fi.sc x,look x env with
 | some .local,some (.ob i)=>Rbind (getG i) fun c=>(match c with
  | .rdr pre rest nm=>(match j9 T fi env e with
   | some k=>(match Nat.ble k rest.length with
    | true=>Rbind (setG i (.rdr (pre++rest.take k) (rest.drop k) nm)) fun _=>Rpure true
    | false=>Rno)
   | none=>Rno)
  | _=>Rpure false)
 | _,_=>Rpure false
noncomputable def kA (t e:Expr):Bool:=match t,e with
 | .Tuple _ _ _,.Tuple vs _ _=>(match vs.all (foldedForSure 8),vs.all (constantsAlone 8) with
  | false,true=>false
  | _,_=>true)
 | _,_=>true
noncomputable def d9 (T:bK) (S:Sys) (fi:FI) (env:aB) (st:Stmt):R (Fl×aB):=match st with
 | .Assign [.Attribute (.Name x p1) a p2] (.BinOp (.Attribute (.Name y p3) b p4) .Add e p5) p6=>(match sEq a atName,sEq b atName,sEq x y with
  | true,true,true=>Rbind (passOn T fi env x e) fun d=>(match d with
   | true=>Rpure (.next,env)
   | false=>Rbind (S.ev fi env (.BinOp (.Attribute (.Name y p3) b p4) .Add e p5)) fun v=>Rbind (S.ev fi env (.Name x p1)) fun ov=>Rbind (setAttr' T ov a v) fun _=>Rpure (.next,env))
  | _,_,_=>Rno)
 | .Assign [.Attribute o a _] e _=>Rbind (S.ev fi env e) fun v=>Rbind (S.ev fi env o) fun ov=>Rbind (setAttr' T ov a v) fun _=>Rpure (.next,env)
 | .Assign [.Subscript o i _] e _=>Rbind (S.ev fi env e) fun v=>Rbind (S.ev fi env o) fun ov=>Rbind (S.ev fi env i) fun k=>Rbind (setItem' ov k v) fun _=>Rpure (.next,env)
 | .Assign [.Name x _] (.ListComp elt [⟨t,it,ifs,0⟩] csc _) _=>Rbind (compEv T S fi env elt t it ifs csc) fun v=>Rbind (oneOf (putN fi x v env)) fun env'=>Rpure (.next,env')
 | .Assign [t] e _=>(match hU e,kA t e with
  | false,true=>Rbind (S.ev fi env e) fun v=>Rbind (oneOf (bindT fi 9 t v env)) fun env'=>Rpure (.next,env')
  | _,_=>Rno)
 | .Expr e _=>(match hU e with
  | false=>Rbind (S.ev fi env e) fun _=>Rpure (.next,env)
  | true=>Rno)
 | .If t b o _=>Rbind (S.tr fi env t) fun r=>match r with
  | true=>blk S fi env b
  | false=>blk S fi env o
 | .While t b [] _=>f7 S fi t b eZ env
 | .For t it b [] _=>Rbind (srcOf T S fi env it) fun src=>match src with
  | .vals l=>cU S fi t b l env
  | .live i=>hJ S fi t b i eZ 0 env
 | .Return (some e) _=>Rbind (S.ev fi env e) fun v=>Rpure (.ret v,env)
 | .Return none _=>Rpure (.ret (.pv .none),env)
 | _=>Rno
noncomputable def kX:List V→Option (List UInt8)
 | []=>some []
 | .pv (.int (.ofNat n))::r=>(match Nat.ble n 255,kX r with
  | true,some l=>some (UInt8.ofNat n::l)
  | _,_=>none)
 | _::_=>none
noncomputable def dE (n:Nat):R V:=match small n with
 | true=>Rpure (.pv (.int (.ofNat n)))
 | false=>Rno
noncomputable def nW (v:V):R V:=match v,bC v with
 | .pv (.str x),_=>dE x.cps.toList.length
 | _,some l=>dE l.length
 | v,none=>Rbind (lstOf v) fun l=>dE l.length
noncomputable def pT (v:V):R V:=match v with
 | .pv (.int i)=>Rpure (.pv (.int (.ofNat i.natAbs)))
 | _=>Rno
noncomputable def sQ (v:V):R V:=match v with
 | .pv (.str x)=>(match x.cps.toList with | [c]=>Rpure (.pv (.int (.ofNat c))) | _=>Rno)
 | _=>Rno
noncomputable def vE (b:String) (args:List V):R V:=match args with
 | [v]=>(match decide (b = "len"),decide (b = "abs"),decide (b = "ord") with
  | true,_,_=>nW v
  | _,true,_=>pT v
  | _,_,true=>sQ v
  | _,_,_=>Rno)
 | _=>Rno
noncomputable def pG (v:V):R V:=Rbind (lstOf v) fun l=>(match small l.length with | true=>Rpure (mkTup l) | false=>Rno)
noncomputable def rM (v:V):R V:=match v with
 | .pv (.int i)=>Rpure (.pv (.int i))
 | .pv (.bool b)=>Rpure (.pv (.int (match b with | true=>1 | false=>0)))
 | _=>Rno
noncomputable def m9 (v:V):R V:=Rbind (oneOf (vlOf v)) fun l=>Rbind (oneOf (kX l)) fun bs=>match small l.length with
 | true=>Rpure (.pv (.bytes bs.toArray))
 | false=>Rno
noncomputable def aAL (t:String) (args:List V):R V:=match args with
 | [v]=>(match decide (t = "tuple"),decide (t = "int"),decide (t = "bytes") with
  | true,_,_=>pG v
  | _,true,_=>rM v
  | _,_,true=>m9 v
  | _,_,_=>Rno)
 | _=>Rno
mutual
noncomputable def okV (n:Nat):V→Bool
 | .pv _=>true
 | .tup l=>okVs n l
 | .vl l=>okVs n l
 | .fz _ as=>okAs n as
 | .vd as=>okAs n as
 | .ob i=>Nat.blt i n
 | .li _=>false
 | .st _=>true
 | .clo _ _ _ as=>okAs n as
noncomputable def okVs (n:Nat):List V→Bool
 | []=>true
 | v::r=>match okV n v with | true=>okVs n r | false=>false
noncomputable def okAs (n:Nat):List (Str×V)→Bool
 | []=>true
 | (_,v)::r=>match okV n v with | true=>okAs n r | false=>false
end
noncomputable def okG (n:Nat):GCell→Bool
 | .obj _ as=>okAs n as
 | .rdr _ _ nm=>okV n nm
noncomputable def okGs (n:Nat):List GCell→Bool
 | []=>true
 | c::r=>match okG n c with | true=>okGs n r | false=>false
noncomputable def eH (v:V):R V:=match v with
 | .li i=>Rbind (getL i) fun l=>Rpure (mkVl l)
 | v=>Rpure v
noncomputable def rQ:V→Bool
 | .li _=>true
 | _=>false
noncomputable def lF:V→Bool
 | .pv p=>flat p
 | _=>false
noncomputable def gI (args:List V) (body:List V→R V):R V:=fun σ=>match okVs σ.g.length args,okGs σ.g.length σ.g with
 | true,true=>(match body args ⟨σ.g,[]⟩ with
  | some (v,σ')=>(match eH v σ' with
   | some (v',_)=>(match okV σ.g.length v',okGs σ.g.length (σ'.g.take σ.g.length) with
    | true,true=>some (v',⟨σ'.g.take σ.g.length,σ.l⟩)
    | _,_=>none)
   | none=>none)
  | none=>none)
 | _,_=>none
noncomputable def lM (args:List V) (body:List V→R V):R V:=fun σ=>match dK σ.g,mapR eH args σ with
 | true,some (args',_)=>(match okVs 0 args',body args' ⟨[],[]⟩ with
  | true,some (v,_)=>(match lF v with
   | true=>some (v,⟨[],σ.l⟩)
   | false=>none)
  | _,_=>none)
 | _,_=>none
noncomputable def rS (args:List V) (body:List V→R V):R V:=match args.any rQ with
 | true=>lM args body
 | false=>gI args body
noncomputable def mutcOf (ps:Arguments) (sc:Scope):List Str:=(sc.names.filter fun p=>match p.2,(argNames ps).any (fun y=>sEq y p.1) with
 | .cell,false=>true
 | _,_=>false).map (·.1)
noncomputable def cB (S:Sys) (a:Addr) (st:Stmt) (dflt args:List V):R V:=match st with
 | .FunctionDef _ ps body _ _ _ sc _ _ _=>(match fC ps,dH sc,eB sc (argNames ps),noDup (argNames ps) with
  | true,true,true,true=>Rbind (oneOf (bindArgs' (argNames ps) args dflt)) fun env=>Rbind (blk S ⟨sc,some a,mutcOf ps sc⟩ env body) fun x=>match x with
   | (.ret v,_)=>Rpure v
   | (.next,_)=>Rpure (.pv .none)
  | _,_,_,_=>Rno)
 | _=>Rno
noncomputable def lG (S:Sys) (a:Addr) (r:fL) (args:List V):R V:=match r.iso with
 | true=>rS args (cB S a r.st r.dflt)
 | false=>cB S a r.st r.dflt args
noncomputable def mA (a b c d:Str):Bool:=match sEq a nU,sEq b pN,sEq c atName,sEq d nQ with
 | true,true,true,true=>true
 | _,_,_,_=>false
noncomputable def kB (T:bK) (v:V):Option Tk:=match v with
 | .fz c [(n1,.pv (.str k)),(n2,.pv (.str w)),(n3,.pv p),(n4,.pv (.bool false))]=>(match Nat.beq c T.tok,mA n1 n2 n3 n4 with
  | true,true=>some ⟨k,w,p⟩
  | _,_=>none)
 | _=>none
noncomputable def toTks (T:bK):List V→Option (List Tk)
 | []=>some []
 | v::r=>(match kB T v,toTks T r with
  | some t,some l=>some (t::l)
  | _,_=>none)
mutual
noncomputable def okW (n:Nat):V→Bool
 | .pv _=>true
 | .tup l=>okWs n l
 | .vl l=>okWs n l
 | .fz _ as=>okWas n as
 | .vd as=>okWas n as
 | .ob i=>Nat.blt i n
 | .li _=>true
 | .st _=>true
 | .clo _ _ _ as=>okWas n as
noncomputable def okWs (n:Nat):List V→Bool
 | []=>true
 | v::r=>match okW n v with | true=>okWs n r | false=>false
noncomputable def okWas (n:Nat):List (Str×V)→Bool
 | []=>true
 | (_,v)::r=>match okW n v with | true=>okWas n r | false=>false
end
noncomputable def okWG (n:Nat):GCell→Bool
 | .obj _ as=>okWas n as
 | .rdr _ _ nm=>okW n nm
noncomputable def okWGs (n:Nat):List GCell→Bool
 | []=>true
 | c::r=>match okWG n c with | true=>okWGs n r | false=>false
noncomputable def okWLs (n:Nat):List (List V)→Bool
 | []=>true
 | l::r=>match okWs n l with | true=>okWLs n r | false=>false
noncomputable def rD (a:Addr) (as:List (Str×V)) (i:Nat):R V:=fun σ=>match Nat.beq σ.g.length (i + 1),okWas i as,okWGs i (σ.g.take i),okWLs i σ.l with
 | true,true,true,true=>some (.fz a as,⟨σ.g.take i,σ.l⟩)
 | _,_,_,_=>none
noncomputable def o9 (T:bK) (as:List (Str×V)) (i:Nat):R V:=match as with
 | [(n1,tv),(n2,.pv (.int (.ofNat 0))),(n3,nm)]=>(match sEq n1 dR,sEq n2 atName,sEq n3 cW with
  | true,true,true=>Rbind (oneOf (vlOf tv)) fun l=>Rbind (oneOf (toTks T l)) fun ts=>(match small ts.length with | true=>Rbind (setG i (.rdr [] ts nm)) fun _=>Rpure (.ob i) | false=>Rno)
  | _,_,_=>Rno)
 | _=>Rno
noncomputable def sealG (T:bK) (a:Addr) (cr:dI) (i:Nat):R V:=Rbind (getG i) fun c=>match c with
 | .obj b as=>(match Nat.beq a b,cr.frozen,Nat.beq a T.rdr with
  | true,true,_=>rD a as i
  | true,false,true=>o9 T as i
  | true,false,false=>Rpure (.ob i)
  | _,_,_=>Rno)
 | _=>Rno
noncomputable def dZ (T:bK) (rest:List Tk) (k:Nat):V:=match rest[k]? with
 | some t=>tkV T t
 | none=>.pv .none
noncomputable def oO (T:bK) (args:List V):R V:=match args with
 | [.ob i]=>Rbind (getG i) fun c=>(match c with
  | .rdr _ rest _=>Rpure (dZ T rest 0)
  | _=>Rno)
 | [.ob i,.pv (.int (.ofNat k))]=>Rbind (getG i) fun c=>(match c with
  | .rdr _ rest _=>Rpure (dZ T rest k)
  | _=>Rno)
 | _=>Rno
abbrev Orc:=V→List V→Option (R V)
noncomputable def bI (T:bK) (O:Orc) (I:Sys) (f:V) (args:List V):R V:=match O f args with
 | some r=>r
 | none=>(match f with
  | .st (.ref a)=>(match aX a T.fn with
   | some r=>lG I a r args
   | none=>(match aX a T.cl with
    | some cr=>Rbind (newG (.obj a [])) fun i=>Rbind (I.call (.st (.ref cr.ini)) (.ob i::args)) fun v=>(match v with | .pv .none=>sealG T a cr i | _=>Rno)
    | none=>Rno))
  | .st (.builtin b)=>vE b args
  | .st (.type t)=>aAL t args
  | .clo ps body sc capt=>(match Nat.beq args.length (argNames ps).length,fC ps,dH sc,eB sc (argNames ps),eC sc.names,noDup (argNames ps) with
   | true,true,true,true,true,true=>I.ev ⟨sc,none,[]⟩ ((argNames ps).zip args++capt) body
   | _,_,_,_,_,_=>Rno)
  | _=>Rno)
noncomputable def aAs (T:bK) (O:Orc) (S I:Sys):Sys:=⟨dC T S I,tR S,d9 T S,bI T O I⟩
noncomputable def gH (T:bK) (O:Orc) (I:Sys):Nat→Sys
 | 0=>mZ
 | n + 1=>aAs T O (gH T O I n) I
noncomputable def sH:Nat:=40
noncomputable def sys (T:bK) (O:Orc):Nat→Sys
 | 0=>mZ
 | u + 1=>gH T O (sys T O u) sH
noncomputable def aHH:List Nat:=[32,65,67,67,69,80,84,32,65,67,67,69,83,83,32,65,68,68,32,65,68,86,65,78,67,73,78,71,32,65,70,84,69,82,32,65,76,76,32,65,76,80,72,65,66,69,84,73,67,32,65,76,80,72,65,66,69,84,73,67,45,76,79,87,69,82,32,65,76,80,72,65,66,69,84,73,67,45,85,80,80,69,82,32,65,76,80,72,65,78,85,77,69,82,73,67,32,65,76,80,72,65,78,85,77,69,82,73,67,45,69,68,73,84,69,68,32,65,76,83,79,32,65,76,84,69,82,78,65,84,69,32,65,78,68,32,65,78,89,32,65,82,69,32,65,82,69,65,32,65,82,69,65,83,32,65,83,67,69,78,68,73,78,71,32,65,83,83,73,71,78,32,65,84,32,65,85,84,72,79,82,32,66,69,70,79,82,69,32,66,73,78,65,82,89,32,66,76,65,78,75,32,66,76,79,67,75,32,66,89,32,67,65,76,76,32,67,72,65,82,65,67,84,69,82,32,67,72,65,82,65,67,84,69,82,83,32,67,76,79,83,69,32,67,79,77,80,32,67,79,77,80,45,51,32,67,79,77,80,85,84,65,84,73,79,78,65,76,32,67,79,77,80,85,84,65,84,73,79,78,65,76,45,51,32,67,79,77,80,85,84,69,32,67,79,78,70,73,71,85,82,65,84,73,79,78,32,67,79,78,84,65,73,78,83,32,67,79,78,84,69,78,84,32,67,79,78,84,73,78,85,69,32,67,79,78,86,69,82,84,73,78,71,32,67,79,80,89,32,67,79,82,82,32,67,79,82,82,69,83,80,79,78,68,73,78,71,32,67,79,85,78,84,32,68,65,84,65,32,68,65,84,69,45,67,79,77,80,73,76,69,68,32,68,65,84,69,45,87,82,73,84,84,69,78,32,68,69,76,69,84,69,32,68,69,76,73,77,73,84,69,68,32,68,69,76,73,77,73,84,69,82,32,68,69,80,69,78,68,73,78,71,32,68,69,83,67,69,78,68,73,78,71,32,68,73,83,80,76,65,89,32,68,73,86,73,68,69,32,68,73,86,73,83,73,79,78,32,68,79,87,78,32,68,85,80,76,73,67,65,84,69,83,32,68,89,78,65,77,73,67,32,69,76,83,69,32,69,78,68,32,69,78,68,45,65,68,68,32,69,78,68,45,67,65,76,76,32,69,78,68,45,67,79,77,80,85,84,69,32,69,78,68,45,68,69,76,69,84,69,32,69,78,68,45,68,73,86,73,68,69,32,69,78,68,45,69,86,65,76,85,65,84,69,32,69,78,68,45,73,70,32,69,78,68,45,77,85,76,84,73,80,76,89,32,69,78,68,45,80,69,82,70,79,82,77,32,69,78,68,45,82,69,65,68,32,69,78,68,45,82,69,84,85,82,78,32,69,78,68,45,82,69,87,82,73,84,69,32,69,78,68,45,83,69,65,82,67,72,32,69,78,68,45,83,84,65,82,84,32,69,78,68,45,83,84,82,73,78,71,32,69,78,68,45,83,85,66,84,82,65,67,84,32,69,78,68,45,85,78,83,84,82,73,78,71,32,69,78,68,45,87,82,73,84,69,32,69,78,86,73,82,79,78,77,69,78,84,32,69,81,85,65,76,32,69,82,82,79,82,32,69,86,65,76,85,65,84,69,32,69,88,67,69,80,84,73,79,78,32,69,88,73,84,32,69,88,84,69,78,68,32,69,88,84,69,82,78,65,76,32,70,65,76,83,69,32,70,68,32,70,73,76,69,32,70,73,76,69,45,67,79,78,84,82,79,76,32,70,73,76,76,69,82,32,70,73,82,83,84,32,70,79,82,32,70,82,79,77,32,71,73,86,73,78,71,32,71,76,79,66,65,76,32,71,79,32,71,82,69,65,84,69,82,32,72,73,71,72,45,86,65,76,85,69,32,72,73,71,72,45,86,65,76,85,69,83,32,73,45,79,32,73,45,79,45,67,79,78,84,82,79,76,32,73,68,69,78,84,73,70,73,67,65,84,73,79,78,32,73,70,32,73,78,32,73,78,68,69,88,32,73,78,68,69,88,69,68,32,73,78,73,84,73,65,76,32,73,78,73,84,73,65,76,73,90,69,32,73,78,80,85,84,32,73,78,80,85,84,45,79,85,84,80,85,84,32,73,78,83,80,69,67,84,32,73,78,83,84,65,76,76,65,84,73,79,78,32,73,78,84,79,32,73,78,86,65,76,73,68,32,73,83,32,74,85,83,84,32,74,85,83,84,73,70,73,69,68,32,75,69,89,32,76,65,66,69,76,32,76,69,65,68,73,78,71,32,76,69,70,84,32,76,69,83,83,32,76,73,78,69,32,76,73,78,69,83,32,76,73,78,75,65,71,69,32,76,79,67,75,32,76,79,87,45,86,65,76,85,69,32,76,79,87,45,86,65,76,85,69,83,32,77,69,82,71,69,32,77,79,68,69,32,77,79,86,69,32,77,85,76,84,73,80,76,89,32,78,65,84,73,86,69,32,78,69,71,65,84,73,86,69,32,78,69,88,84,32,78,79,32,78,79,84,32,78,85,77,69,82,73,67,32,78,85,77,69,82,73,67,45,69,68,73,84,69,68,32,79,66,74,69,67,84,45,67,79,77,80,85,84,69,82,32,79,67,67,85,82,83,32,79,70,32,79,70,70,32,79,77,73,84,84,69,68,32,79,78,32,79,80,69,78,32,79,80,84,73,79,78,65,76,32,79,82,32,79,82,68,69,82,32,79,82,71,65,78,73,90,65,84,73,79,78,32,79,84,72,69,82,32,79,85,84,80,85,84,32,79,86,69,82,70,76,79,87,32,80,65,67,75,69,68,45,68,69,67,73,77,65,76,32,80,69,82,70,79,82,77,32,80,73,67,32,80,73,67,84,85,82,69,32,80,79,73,78,84,69,82,32,80,79,83,73,84,73,86,69,32,80,82,79,67,69,68,85,82,69,32,80,82,79,67,69,69,68,32,80,82,79,71,82,65,77,32,80,82,79,71,82,65,77,45,73,68,32,81,85,79,84,69,32,81,85,79,84,69,83,32,82,65,78,68,79,77,32,82,69,65,68,32,82,69,67,79,82,68,32,82,69,67,79,82,68,83,32,82,69,68,69,70,73,78,69,83,32,82,69,70,69,82,69,78,67,69,32,82,69,76,65,84,73,86,69,32,82,69,76,69,65,83,69,32,82,69,77,65,73,78,68,69,82,32,82,69,78,65,77,69,83,32,82,69,80,76,65,67,69,32,82,69,80,76,65,67,73,78,71,32,82,69,84,85,82,78,32,82,69,87,82,73,84,69,32,82,73,71,72,84,32,82,79,85,78,68,69,68,32,82,85,78,32,83,65,77,69,32,83,68,32,83,69,65,82,67,72,32,83,69,67,84,73,79,78,32,83,69,67,85,82,73,84,89,32,83,69,76,69,67,84,32,83,69,78,84,69,78,67,69,32,83,69,80,65,82,65,84,69,32,83,69,81,85,69,78,84,73,65,76,32,83,69,84,32,83,73,71,78,32,83,73,90,69,32,83,79,82,84,32,83,79,82,84,45,77,69,82,71,69,32,83,79,85,82,67,69,45,67,79,77,80,85,84,69,82,32,83,80,65,67,69,32,83,80,65,67,69,83,32,83,80,69,67,73,65,76,45,78,65,77,69,83,32,83,84,65,78,68,65,82,68,32,83,84,65,82,84,32,83,84,65,84,85,83,32,83,84,79,80,32,83,84,82,73,78,71,32,83,85,66,84,82,65,67,84,32,83,89,78,67,32,83,89,78,67,72,82,79,78,73,90,69,68,32,84,65,76,76,89,73,78,71,32,84,69,83,84,32,84,72,65,78,32,84,72,69,78,32,84,72,82,79,85,71,72,32,84,72,82,85,32,84,73,77,69,83,32,84,79,32,84,82,65,73,76,73,78,71,32,84,82,85,69,32,85,78,83,84,82,73,78,71,32,85,78,84,73,76,32,85,80,32,85,80,79,78,32,85,83,65,71,69,32,85,83,73,78,71,32,86,65,76,85,69,32,86,65,76,85,69,83,32,86,65,82,89,73,78,71,32,87,72,69,78,32,87,73,84,72,32,87,79,82,75,73,78,71,45,83,84,79,82,65,71,69,32,87,82,73,84,69,32,90,69,82,79,32,90,69,82,79,69,83,32,90,69,82,79,83,32]
noncomputable def tB:Str:=⟨aHH.toArray⟩
theorem aHI:tC=tB:=by
 show Str.ofString fE=_
 rw [oS]
 exact congrArg (fun l=>(⟨List.toArray l⟩:Str)) (by decide +kernel)
noncomputable def bU:List (Nat×fL) :=
 (29,⟨aF 4,[],false⟩) ::
 (36,⟨aF 5,[],true⟩) ::
 (43,⟨aF 6,[],false⟩) ::
 (103,⟨aF 13,[],false⟩) ::
 (111,⟨aF 14,[.pv (.int 0)],false⟩) ::
 (118,⟨aF 15,[],false⟩) ::
 (125,⟨aF 16,[],false⟩) ::
 (132,⟨aF 17,[],false⟩) ::
 (139,⟨aF 18,[],false⟩) ::
 (146,⟨aF 19,[],false⟩) ::
 (153,⟨aF 20,[],false⟩) ::
 (161,⟨aF 24,[],false⟩) ::
 (168,⟨aF 25,[],false⟩) ::
 (175,⟨aF 26,[],false⟩) ::
 (182,⟨aF 27,[],true⟩) ::
 (189,⟨aF 28,[],false⟩) ::
 (196,⟨aF 29,[],false⟩) ::
 (203,⟨aF 30,[],false⟩) ::
 (210,⟨aF 33,[],false⟩) ::
 (217,⟨aF 34,[],false⟩) ::
 (224,⟨aF 35,[],false⟩) ::
 (231,⟨aF 36,[],false⟩) ::
 (238,⟨aF 37,[],false⟩) ::
 (245,⟨aF 38,[],false⟩) ::
 (252,⟨aF 39,[],false⟩) ::
 (259,⟨aF 40,[],false⟩) ::
 (266,⟨aF 43,[],false⟩) ::
 (273,⟨aF 44,[],false⟩) ::
 (280,⟨aF 45,[],false⟩) ::
 (287,⟨aF 46,[],false⟩) ::
 (294,⟨aF 47,[],true⟩) ::
 (301,⟨aF 48,[],false⟩) ::
 (308,⟨aF 49,[],false⟩) ::
 (315,⟨aF 50,[],false⟩) ::
 (322,⟨aF 51,[],false⟩) ::
 (329,⟨aF 52,[],false⟩) ::
 (336,⟨aF 53,[],false⟩) ::
 (343,⟨aF 54,[],true⟩) ::
 (348,⟨aF 55,[],false⟩) ::
 (355,⟨aF 56,[],false⟩) ::
 (362,⟨aF 57,[],false⟩) ::
 (369,⟨aF 58,[],false⟩) ::
 (376,⟨aF 59,[],false⟩) ::
 (383,⟨aF 60,[],false⟩) ::
 (390,⟨aF 61,[],false⟩) ::
 (397,⟨aF 62,[],false⟩) ::
 (404,⟨aF 64,[],false⟩) ::
 (411,⟨aF 65,[],false⟩) ::
 (418,⟨aF 66,[],false⟩) ::
 (431,⟨aF 74,[.pv (.int 0)],false⟩) ::
 (438,⟨aF 75,[],false⟩) ::
 (445,⟨aF 76,[],false⟩) ::
 (452,⟨aF 77,[],false⟩) ::
 (459,⟨aF 78,[],false⟩) ::
 (473,⟨aM 79 0,[],false⟩) ::
 (480,⟨aM 79 1,[],false⟩) ::
 (487,⟨aM 79 2,[],false⟩) ::
 (494,⟨aM 79 3,[],false⟩) ::
 (501,⟨aM 79 4,[],false⟩) ::
 (508,⟨aM 79 5,[],false⟩) ::
 (515,⟨aM 79 6,[],false⟩) ::
 (522,⟨aM 79 7,[],false⟩) ::
 (529,⟨aM 79 8,[],false⟩) ::
 (536,⟨aM 79 9,[],false⟩) ::
 (543,⟨aM 79 10,[],false⟩) ::
 (550,⟨aM 79 11,[],false⟩) ::
 (565,⟨aF 80,[.pv .none],true⟩) ::
 (572,⟨aF 82,[],false⟩) ::
 (579,⟨aF 83,[],false⟩) ::
 (586,⟨aF 84,[],false⟩) ::
 (593,⟨aF 85,[],false⟩) ::
 (600,⟨aF 89,[],false⟩) ::
 (605,⟨aF 90,[],false⟩) ::
 (620,⟨aM 91 0,[.pv (.int 0)],false⟩) ::
 (635,⟨aM 91 2,[],false⟩) ::
 (642,⟨aM 91 3,[],false⟩) ::
 (649,⟨aM 91 4,[],false⟩) ::
 (657,⟨aM 91 5,[.pv (.int 0)],false⟩) ::
 (664,⟨aM 91 6,[],false⟩) ::
 (671,⟨aM 91 7,[],false⟩) ::
 (678,⟨aM 91 8,[],false⟩) ::
 (685,⟨aM 91 9,[],false⟩) ::
 (692,⟨aM 91 10,[],false⟩) ::
 (700,⟨aM 91 11,[.pv (.int 0)],false⟩) ::
 (707,⟨aM 91 12,[],false⟩) ::
 (714,⟨aM 91 13,[],false⟩) ::
 (722,⟨aM 91 14,[.pv (.int 0)],false⟩) ::
 (729,⟨aM 91 15,[],false⟩) ::
 (736,⟨aM 91 16,[],false⟩) ::
 (743,⟨aM 91 17,[],false⟩) ::
 (750,⟨aM 91 18,[],false⟩) ::
 (757,⟨aM 91 19,[],false⟩) ::
 (764,⟨aM 91 20,[],false⟩) ::
 (771,⟨aM 91 21,[],false⟩) ::
 (794,⟨aM 93 0,[.pv (.tup [.int 0,.int 0]),.pv (.bool false)],false⟩) ::
 (801,⟨aM 93 1,[],false⟩) ::
 (815,⟨aF 95,[],false⟩) ::
 (822,⟨aF 96,[],false⟩) ::
 (827,⟨aF 97,[],false⟩) ::
 (834,⟨aF 98,[],false⟩) ::
 (841,⟨aF 99,[],false⟩) ::
 (848,⟨aF 100,[],false⟩) ::
 (855,⟨aF 101,[],false⟩) ::
 (860,⟨aF 102,[],false⟩) ::
 (865,⟨aF 103,[],false⟩) ::
 (872,⟨aF 104,[],false⟩) ::
 (877,⟨aF 105,[],false⟩) ::
 (882,⟨aF 106,[],false⟩) ::
 (887,⟨aF 107,[],true⟩) ::
 (894,⟨aF 108,[],false⟩) ::
 (899,⟨aF 109,[],true⟩) ::
 (906,⟨aF 110,[],false⟩)::[]
noncomputable def iO:List (Str×V) :=
 ((ns [77,79,83,84,95,78,69,83,84]),.pv (.int 12)) ::
 ((ns [86,69,82,66,83]),.pv (.tup [.str (ns [65,68,68]),.str (ns [83,85,66,84,82,65,67,84]),.str (ns [77,85,76,84,73,80,76,89]),.str (ns [68,73,86,73,68,69]),.str (ns [67,79,77,80,85,84,69]),.str (ns [77,79,86,69]),.str (ns [73,78,73,84,73,65,76,73,90,69]),.str (ns [83,69,84]),.str (ns [83,84,82,73,78,71]),.str (ns [85,78,83,84,82,73,78,71]),.str (ns [73,78,83,80,69,67,84]),.str (ns [83,69,65,82,67,72]),.str (ns [65,67,67,69,80,84]),.str (ns [68,73,83,80,76,65,89]),.str (ns [73,70]),.str (ns [69,86,65,76,85,65,84,69]),.str (ns [80,69,82,70,79,82,77]),.str (ns [71,79]),.str (ns [69,88,73,84]),.str (ns [83,84,79,80]),.str (ns [67,65,76,76]),.str (ns [67,79,78,84,73,78,85,69]),.str (ns [79,80,69,78]),.str (ns [67,76,79,83,69]),.str (ns [82,69,65,68]),.str (ns [87,82,73,84,69]),.str (ns [82,69,87,82,73,84,69]),.str (ns [68,69,76,69,84,69]),.str (ns [83,84,65,82,84]),.str (ns [83,79,82,84]),.str (ns [77,69,82,71,69]),.str (ns [82,69,76,69,65,83,69]),.str (ns [82,69,84,85,82,78])])) ::
 ((ns [105,115,95,118,101,114,98,95,104,101,114,101]),.st (.ref 29)) ::
 ((ns [98,111,100,121,95,97,116]),.st (.ref 36)) ::
 ((ns [115,116,97,116,101,109,101,110,116,95,97,116]),.st (.ref 43)) ::
 ((ns [70,73,71,85,82,69,83]),.pv (.str (ns [48,49,50,51,52,53,54,55,56,57]))) ::
 ((ns [99,117,116,95,113,117,111,116,105,101,110,116]),.st (.ref 103)) ::
 ((ns [100,101,99,105,109,97,108]),.st (.ref 111)) ::
 ((ns [110,101,103,97,116,101,100]),.st (.ref 118)) ::
 ((ns [117,110,105,116,115,95,97,116]),.st (.ref 125)) ::
 ((ns [105,115,95,119,104,111,108,101]),.st (.ref 132)) ::
 ((ns [119,104,111,108,101,95,111,102]),.st (.ref 139)) ::
 ((ns [119,111,114,116,104,95,111,102]),.st (.ref 146)) ::
 ((ns [114,101,97,100,95,100,101,99,105,109,97,108]),.st (.ref 153)) ::
 ((ns [77,79,83,84,95,83,85,66,83,67,82,73,80,84,83]),.pv (.int 7)) ::
 ((ns [70,73,71,85,82,69,95,78,65,77,69,83]),.vd [((ns [90,69,82,79]),.pv (.str (ns [90,69,82,79]))),((ns [90,69,82,79,83]),.pv (.str (ns [90,69,82,79]))),((ns [90,69,82,79,69,83]),.pv (.str (ns [90,69,82,79]))),((ns [83,80,65,67,69]),.pv (.str (ns [83,80,65,67,69]))),((ns [83,80,65,67,69,83]),.pv (.str (ns [83,80,65,67,69]))),((ns [72,73,71,72,45,86,65,76,85,69]),.pv (.str (ns [72,73,71,72]))),((ns [72,73,71,72,45,86,65,76,85,69,83]),.pv (.str (ns [72,73,71,72]))),((ns [76,79,87,45,86,65,76,85,69]),.pv (.str (ns [76,79,87]))),((ns [76,79,87,45,86,65,76,85,69,83]),.pv (.str (ns [76,79,87]))),((ns [81,85,79,84,69]),.pv (.str (ns [81,85,79,84,69]))),((ns [81,85,79,84,69,83]),.pv (.str (ns [81,85,79,84,69])))]) ::
 ((ns [105,115,95,112,97,114,116,95,110,101,120,116]),.st (.ref 161)) ::
 ((ns [114,101,97,100,95,115,117,98,115,99,114,105,112,116,115]),.st (.ref 168)) ::
 ((ns [114,101,97,100,95,112,97,114,116]),.st (.ref 175)) ::
 ((ns [114,101,97,100,95,114,101,102]),.st (.ref 182)) ::
 ((ns [114,101,97,100,95,97,108,108]),.st (.ref 189)) ::
 ((ns [114,101,97,100,95,102,105,103,117,114,101]),.st (.ref 196)) ::
 ((ns [114,101,97,100,95,111,112,101,114,97,110,100]),.st (.ref 203)) ::
 ((ns [77,79,83,84,95,68,69,69,80,95,101,120,112,114,101,115,115,105,111,110,115]),.pv (.int 20)) ::
 ((ns [114,101,97,100,95,101,120,112,114,101,115,115,105,111,110]),.st (.ref 210)) ::
 ((ns [115,105,103,110,95,97,109,111,110,103]),.st (.ref 217)) ::
 ((ns [114,101,97,100,95,115,117,109]),.st (.ref 224)) ::
 ((ns [114,101,97,100,95,112,114,111,100,117,99,116]),.st (.ref 231)) ::
 ((ns [114,101,97,100,95,102,97,99,116,111,114]),.st (.ref 238)) ::
 ((ns [105,115,95,108,111,110,101,95,110,117,109,98,101,114]),.st (.ref 245)) ::
 ((ns [114,101,97,100,95,112,111,119,101,114]),.st (.ref 252)) ::
 ((ns [114,101,97,100,95,112,114,105,109,97,114,121]),.st (.ref 259)) ::
 ((ns [70,73,71,85,82,69,95,87,79,82,68,83]),.pv (.str (ns [32,90,69,82,79,32,90,69,82,79,83,32,90,69,82,79,69,83,32,83,80,65,67,69,32,83,80,65,67,69,83,32,72,73,71,72,45,86,65,76,85,69,32,72,73,71,72,45,86,65,76,85,69,83,32,76,79,87,45,86,65,76,85,69,32,76,79,87,45,86,65,76,85,69,83,32,81,85,79,84,69,32,81,85,79,84,69,83,32,65,76,76,32]))) ::
 ((ns [119,111,114,100,95,97,104,101,97,100]),.st (.ref 266)) ::
 ((ns [112,104,114,97,115,101,95,119,111,114,100,115]),.st (.ref 273)) ::
 ((ns [111,112,101,110,105,110,103,95,108,101,110,103,116,104]),.st (.ref 280)) ::
 ((ns [98,111,100,121,95,104,101,114,101]),.st (.ref 287)) ::
 ((ns [98,114,97,110,99,104,101,115,95,104,101,114,101]),.st (.ref 294)) ::
 ((ns [98,101,103,105,110,115,95,111,112,101,114,97,110,100]),.st (.ref 301)) ::
 ((ns [114,101,102,95,104,101,114,101]),.st (.ref 308)) ::
 ((ns [105,115,95,110,117,109,101,114,105,99,95,111,112,101,114,97,110,100]),.st (.ref 315)) ::
 ((ns [114,101,102,117,115,101,95,97,116]),.st (.ref 322)) ::
 ((ns [110,117,109,98,101,114,95,104,101,114,101]),.st (.ref 329)) ::
 ((ns [110,117,109,98,101,114,115,95,104,101,114,101]),.st (.ref 336)) ::
 ((ns [116,97,114,103,101,116,115,95,104,101,114,101]),.st (.ref 343)) ::
 ((ns [103,111,97,108,95,114,111,119,115]),.st (.ref 348)) ::
 ((ns [115,111,108,101,95,111,112,101,114,97,110,100]),.st (.ref 355)) ::
 ((ns [103,105,118,101,110,95,114,111,119,115]),.st (.ref 362)) ::
 ((ns [115,105,122,101,95,98,114,97,110,99,104,101,115]),.st (.ref 369)) ::
 ((ns [114,101,97,100,95,99,111,114,114,101,115,112,111,110,100,105,110,103]),.st (.ref 376)) ::
 ((ns [112,97,115,115,101,115,95,99,111,114,114,101,115,112,111,110,100,105,110,103]),.st (.ref 383)) ::
 ((ns [114,101,97,100,95,97,100,100]),.st (.ref 390)) ::
 ((ns [114,101,97,100,95,115,117,98,116,114,97,99,116]),.st (.ref 397)) ::
 ((ns [114,101,102,95,98,101,104,105,110,100]),.st (.ref 404)) ::
 ((ns [114,101,97,100,95,114,101,97,100]),.st (.ref 411)) ::
 ((ns [114,101,97,100,95,100,101,108,101,116,101]),.st (.ref 418)) ::
 ((ns [77,79,83,84,95,68,69,69,80,95,99,111,110,100,105,116,105,111,110,115]),.pv (.int 20)) ::
 ((ns [79,80,80,79,83,73,84,69,83]),.vd [((ns [61]),.pv (.str (ns [60,62]))),((ns [60,62]),.pv (.str (ns [61]))),((ns [60]),.pv (.str (ns [62,61]))),((ns [62,61]),.pv (.str (ns [60]))),((ns [62]),.pv (.str (ns [60,61]))),((ns [60,61]),.pv (.str (ns [62])))]) ::
 ((ns [67,76,65,83,83,69,83]),.pv (.tup [.str (ns [78,85,77,69,82,73,67]),.str (ns [65,76,80,72,65,66,69,84,73,67]),.str (ns [65,76,80,72,65,66,69,84,73,67,45,76,79,87,69,82]),.str (ns [65,76,80,72,65,66,69,84,73,67,45,85,80,80,69,82])])) ::
 ((ns [87,79,82,68,83,95,79,70,95,83,73,71,78,83]),.vd [((ns [80,79,83,73,84,73,86,69]),.pv (.str (ns [80,79,83,73,84,73,86,69]))),((ns [78,69,71,65,84,73,86,69]),.pv (.str (ns [78,69,71,65,84,73,86,69]))),((ns [90,69,82,79]),.pv (.str (ns [90,69,82,79]))),((ns [90,69,82,79,83]),.pv (.str (ns [90,69,82,79]))),((ns [90,69,82,79,69,83]),.pv (.str (ns [90,69,82,79])))]) ::
 ((ns [87,79,82,68,83,95,79,70,95,82,69,76,65,84,73,79,78,83]),.vd [((ns [71,82,69,65,84,69,82]),.pv (.str (ns [62]))),((ns [76,69,83,83]),.pv (.str (ns [60]))),((ns [69,81,85,65,76]),.pv (.str (ns [61])))]) ::
 ((ns [82,69,76,65,84,73,79,78,83]),.pv (.tup [.str (ns [61]),.str (ns [60]),.str (ns [62]),.str (ns [60,61]),.str (ns [62,61])])) ::
 ((ns [119,111,114,100,95,104,101,114,101]),.st (.ref 431)) ::
 ((ns [105,115,95,114,101,108,97,116,105,111,110,95,97,116]),.st (.ref 438)) ::
 ((ns [112,108,97,99,101,95,111,102,95,119,111,114,100]),.st (.ref 445)) ::
 ((ns [105,115,95,112,114,101,100,105,99,97,116,101,95,104,101,114,101]),.st (.ref 452)) ::
 ((ns [105,115,95,98,97,114,101,95,114,101,108,97,116,105,111,110,95,104,101,114,101]),.st (.ref 459)) ::
 ((ns [67,111,110,100,105,116,105,111,110,82,101,97,100,101,114]),.st (.ref 553)) ::
 ((ns [114,101,97,100,95,99,111,110,100,105,116,105,111,110]),.st (.ref 565)) ::
 ((ns [114,101,97,100,95,105,102]),.st (.ref 572)) ::
 ((ns [114,101,97,100,95,109,111,100,101]),.st (.ref 579)) ::
 ((ns [114,101,97,100,95,97,114,103,115]),.st (.ref 586)) ::
 ((ns [114,101,97,100,95,99,97,108,108]),.st (.ref 593)) ::
 ((ns [77,79,83,84,95,79,67,84,69,84]),.pv (.int 255)) ::
 ((ns [82,69,83,69,82,86,69,68]),.pv (.str tB)) ::
 ((ns [105,115,95,114,101,115,101,114,118,101,100]),.st (.ref 600)) ::
 ((ns [111,99,116,101,116,115,95,111,102,95,116,101,120,116]),.st (.ref 605)) ::
 ((ns [82,101,97,100,101,114]),.st (.ref 774)) ::
 ((ns [84,111,107,101,110]),.st (.ref 804)) ::
 ((ns [95,108,97,119,95,112,101,110]),.st (.ref 815)) ::
 ((ns [95,108,97,119,95,100,114,97,119]),.st (.ref 822)) ::
 ((ns [95,108,97,119,95,119,111,114,100,115]),.st (.ref 827)) ::
 ((ns [95,108,97,119,95,98,97,114,101]),.st (.ref 834)) ::
 ((ns [95,108,97,119,95,118,101,114,98,115]),.st (.ref 841)) ::
 ((ns [95,108,97,119,95,111,112,101,110,105,110,103,115]),.st (.ref 848)) ::
 ((ns [95,108,97,119,95,111,112,101,110,105,110,103,95,116,111,107,101,110,115]),.st (.ref 855)) ::
 ((ns [95,108,97,119,95,116,97,107,101,114]),.st (.ref 860)) ::
 ((ns [95,108,97,119,95,99,108,111,115,101]),.st (.ref 865)) ::
 ((ns [95,108,97,119,95,111,112,101,110]),.st (.ref 872)) ::
 ((ns [95,108,97,119,95,116,97,107,101]),.st (.ref 877)) ::
 ((ns [95,108,97,119,95,105,110,110,101,114,109,111,115,116]),.st (.ref 882)) ::
 ((ns [95,108,97,119,95,108,97,105,100]),.st (.ref 887)) ::
 ((ns [95,108,97,119,95,99,104,111,111,115,101]),.st (.ref 894)) ::
 ((ns [95,108,97,119,95,114,105,103,104,116]),.st (.ref 899)) ::
 ((ns [108,97,119]),.st (.ref 906))::[]
noncomputable def cN:List (Nat×dI):=[
 (553,⟨[((ns [95,95,105,110,105,116,95,95]),473),((ns [101,105,116,104,101,114]),480),((ns [98,111,116,104]),487),((ns [116,117,114,110,101,100]),494),((ns [115,105,110,103,108,101]),501),((ns [117,110,98,114,97,99,107,101,116,101,100]),508),((ns [105,110,95,98,114,97,99,107,101,116,115]),515),((ns [115,117,98,106,101,99,116,95,111,102,95,108,97,115,116]),522),((ns [115,105,103,110,95,111,102,95,108,97,115,116]),529),((ns [112,114,101,100,105,99,97,116,101]),536),((ns [114,101,108,97,116,105,111,110]),543),((ns [115,105,103,110,95,104,101,114,101]),550)],[(ns [114,101,97,100,101,114]),(ns [105,115,95,110,97,109,101,100]),(ns [100,101,112,116,104]),(ns [108,97,115,116])],473,false⟩),
 (774,⟨[((ns [95,95,105,110,105,116,95,95]),620),((ns [112,101,101,107]),628),((ns [105,115,95,100,111,110,101]),635),((ns [102,97,117,108,116]),642),((ns [116,97,107,101]),649),((ns [105,115,95,107,105,110,100]),657),((ns [105,115,95,119,111,114,100]),664),((ns [115,107,105,112]),671),((ns [110,101,101,100]),678),((ns [111,110,101,95,111,102]),685),((ns [119,111,114,100]),692),((ns [105,115,95,110,97,109,101]),700),((ns [110,97,109,101]),707),((ns [110,97,109,101,115]),714),((ns [105,115,95,115,105,103,110]),722),((ns [115,107,105,112,95,115,105,103,110]),729),((ns [110,101,101,100,95,115,105,103,110]),736),((ns [105,115,95,110,117,109,98,101,114]),743),((ns [115,105,103,110,101,100]),750),((ns [119,104,111,108,101]),757),((ns [108,105,116,101,114,97,108]),764),((ns [111,99,116,101,116,115]),771)],[(ns [116,111,107,101,110,115]),(ns [97,116]),(ns [110,97,109,101,100])],620,false⟩),
 (804,⟨[((ns [95,95,105,110,105,116,95,95]),794),((ns [116,111,108,100]),801)],[(ns [107,105,110,100]),(ns [119,111,114,116,104]),(ns [97,116]),(ns [105,115,95,105,110,95,97])],794,true⟩)]
noncomputable def TT:bK:={
 gl:=iO,fn:=bU,cl:=cN,peek:=628,rdr:=774,tok:=804
 cellAt:=[(10,17),(114,17),(235,15),(270,11),(673,11),(717,75),(722,72),(726,39),(726,43),(764,12)]
 lam:=[43,259,565,894] }
noncomputable def aA:Orc:=fun f args=>match f with
 | .st (.ref a)=>(match Nat.beq a 628 with
  | true=>some (oO TT args)
  | false=>none)
 | _=>none
structure Gh where
 w:World
 g:List (Addr×Addr)
 l:List Addr
 ex:List Addr
noncomputable def Gh.gm (G:Gh):List Addr:=G.g.map (·.1)++G.g.map (·.2)
noncomputable def Gh.mu (G:Gh):List Addr:=G.gm++G.l++aS
noncomputable def Gh.own (G:Gh):List Addr:=G.mu++G.ex
noncomputable def cT (h:Heap) (a:Addr) (us:List Value):Prop:=∃ n,h.get? a=some { cls:=.type "tuple",data:=.seq us.toArray n }
noncomputable def cL (h:Heap) (a:Addr) (us:List Value):Prop:=h.IsList a us.toArray
noncomputable def c9 (h:Heap) (a:Addr) (us:List Value):Prop:=∃ n,h.get? a=some { cls:=.type "list",data:=.seq us.toArray n }
noncomputable def iF (h:Heap) (d:Addr) (us:List (Str×Value)):Prop:=h.Ns1 d (fun x=>look x us)
noncomputable def t6 (w:World) (h:Heap) (d:Addr) (us:List (Str×Value)):Prop:=(d == sysModules)=false∧h.DictOf (strKind lw.row.prog w) d us
structure cY (h:Heap) (a d c:Addr) (us:List (Str×Value)):Prop where
 e:h.get? a=some (instObj c d)
 D:iF h d us
 ne:a ≠ d
inductive jD (G:Gh) (u:Value) (T:Addr→List Value→Prop) (R:List Value→Prop):Prop
 | mk (a:Addr) (us:List Value) (e:u = .ref a) (ha:a ∉ G.own) (ht:T a us) (hs:R us)
inductive FzC (G:Gh) (h:Heap) (c:Addr) (u:Value) (R:List (Str×Value)→Prop):Prop
 | mk (a d:Addr) (us:List (Str×Value)) (e:u = .ref a) (ha:a ∉ G.own) (hd:d ∉ G.own) (hi:cY h a d c us) (hs:R us)
inductive VdC (G:Gh) (h:Heap) (u:Value) (R:List (Str×Value)→Prop):Prop
 | mk (d:Addr) (us:List (Str×Value)) (e:u = .ref d) (hd:d ∉ G.own) (hi:t6 G.w h d us) (hs:R us)
inductive t5 {α:Type} (us:List α) (H:α→Prop) (R:List α→Prop):Prop
 | mk (u:α) (r:List α) (e:us=u::r) (h1:H u) (h2:R r)
inductive aA1 (x:Str) (us:List (Str×Value)) (H:Value→Prop) (R:List (Str×Value)→Prop):Prop
 | mk (u:Value) (r:List (Str×Value)) (e:us=(x,u)::r) (h1:H u) (h2:R r)
mutual
@[reducible] noncomputable def PR (G:Gh) (h:Heap):PV→Value→Prop
 | .none,u=>u = .none
 | .bool b,u=>u = .bool b
 | .int i,u=>∃ t,u = .int i t
 | .str s,u=>∃ t,u = .str s t
 | .bytes b,u=>∃ t,u = .bytes b t
 | .tup l,u=>jD G u (cT h) (PRs G h l)
 | .lst l,u=>jD G u (cL h) (PRs G h l)
@[reducible] noncomputable def PRs (G:Gh) (h:Heap):List PV→List Value→Prop
 | [],us=>us=[]
 | p::l,us=>t5 us (PR G h p) (PRs G h l)
end
inductive aAY (G:Gh) (h:Heap) (cl:List (Str×Addr)) (x:Str) (u:Value):Prop
 | mk (c:Addr) (e:cl.lookup x=some c) (hc:h.IsCell c (some u)) (hn:c ∉ G.own)
noncomputable def mK (G:Gh) (h:Heap) (cl:List (Str×Addr)) (us:List (Str×Value)):Prop:=∀ x u,look x us=some u→aAY G h cl x u
inductive iE (G:Gh) (h:Heap) (f:Addr) (ps:Arguments) (body:Expr) (sc:Scope) (us:List (Str×Value)):Prop
 | mk (qual:Str) (pm:Value) (c' : Addr) (ctv:Value) (cl:List (Str×Addr)) (hf:f ∉ G.own) (e:h.get? f=some (kla_obj "<lambda>" qual ps body sc cl pm c' ctv)) (hcr:h.CodeRec (.ref c') qual) (hc:c' ∉ G.own) (hcl:mK G h cl us)
  (hi:∀ x y c,cl.lookup x=some c→cl.lookup y=some c→x=y) (hd:∀ x c,cl.lookup x=some c→(look x us).isSome=true) (hk:∀ x u,look x us=some u→kindIn sc x=some .free)
inductive aAZ (G:Gh) (h:Heap) (ps:Arguments) (body:Expr) (sc:Scope) (u:Value) (R:List (Str×Value)→Prop):Prop
 | mk (f:Addr) (us:List (Str×Value)) (e:u = .ref f) (hc:iE G h f ps body sc us) (hs:R us)
mutual
@[reducible] noncomputable def VR (G:Gh) (h:Heap):V→Value→Prop
 | .pv p,u=>PR G h p u
 | .tup l,u=>jD G u (cT h) (VRs G h l)
 | .vl l,u=>jD G u (cL h) (VRs G h l)
 | .fz c as,u=>FzC G h c u (VRas G h as)
 | .vd as,u=>VdC G h u (VRas G h as)
 | .ob i,u=>∃ p,G.g[i]? = some p∧u = .ref p.1
 | .li i,u=>∃ a,G.l[i]? = some a∧u = .ref a
 | .st v,u=>u=v
 | .clo ps body sc capt,u=>aAZ G h ps body sc u (VRas G h capt)
@[reducible] noncomputable def VRs (G:Gh) (h:Heap):List V→List Value→Prop
 | [],us=>us=[]
 | p::l,us=>t5 us (VR G h p) (VRs G h l)
@[reducible] noncomputable def VRas (G:Gh) (h:Heap):List (Str×V)→List (Str×Value)→Prop
 | [],us=>us=[]
 | (x,p)::l,us=>aA1 x us (VR G h p) (VRas G h l)
end
structure Stp (X:List Addr) (G:Gh) (h:Heap) (G' : Gh) (h' : Heap):Prop where
 keep:∀ b o,h.get? b=some o→b ∉ G.mu→b ∉ X→h'.get? b=some o
 live:∀ b o,h.get? b=some o→∃ o',h'.get? b=some o'
 pg:∀ (i:Nat) p,G.g[i]? = some p→G'.g[i]? = some p
 pl:∀ (i:Nat) p,G.l[i]? = some p→G'.l[i]? = some p
 ex:G'.ex=G.ex
 pw:G'.w=G.w
 new:∀ b ∈ G'.mu,b ∈ G.mu∨h.get? b=none
theorem Stp.own {X G h G' h'} (S:Stp X G h G' h') {b:Addr} (hb:b ∈ G'.own):b ∈ G.own∨h.get? b=none:=by
 rcases List.mem_append.mp hb with hb | hb
 ·rcases S.new b hb with q | q
  ·exact .inl (List.mem_append_left _ q)
  ·exact .inr q
 ·rw [S.ex] at hb; exact .inl (List.mem_append_right _ hb)
theorem Stp.refl {X G h}:Stp X G h G h:=⟨fun _ _ e _ _=>e,fun _ o e=>⟨o,e⟩,fun _ _ e=>e,fun _ _ e=>e,rfl,rfl,fun _ hb=>.inl hb⟩
theorem Heap.get?_alive {h:Heap} {b:Addr} {o:Obj} (e:h.get? b=some o):b < h.objs.size:=Heap.lt_size e
theorem Stp.trans {X G h G₁ h₁ G₂ h₂} (S:Stp X G h G₁ h₁) (T:Stp X G₁ h₁ G₂ h₂):Stp X G h G₂ h₂ where
 keep b o e hm hx:=T.keep b o (S.keep b o e hm hx) (fun q=>by
  rcases S.new b q with q | q
  ·exact hm q
  ·rw [e] at q; exact sn q) hx
 live b o e:=let ⟨o',e'⟩:=S.live b o e; T.live b o' e'
 pg i p e:=T.pg i p (S.pg i p e)
 pl i p e:=T.pl i p (S.pl i p e)
 ex:=T.ex.trans S.ex
 pw:=T.pw.trans S.pw
 new b hb:=by
  rcases T.new b hb with q | q
  ·exact S.new b q
  ·cases hq:h.get? b with
   | none=>exact .inr rfl
   | some o=>obtain ⟨o',e'⟩:=S.live b o hq; rw [e'] at q; exact sn q
theorem Stp.weak {X Y G h G' h'} (S:Stp X G h G' h') (hxy:∀ b ∈ X,b ∈ Y):Stp Y G h G' h' :=
 ⟨fun b o e hm hy=>S.keep b o e hm (fun q=>hy (hxy b q)),S.live,S.pg,S.pl,S.ex,S.pw,S.new⟩
theorem Stp.stays {X G h G' h'} (S:Stp X G h G' h') (hX:∀ b ∈ X,b ∈ G.ex) {b:Addr} {o:Obj} (e:h.get? b=some o) (hb:b ∉ G.own):h'.get? b=some o∧b ∉ G'.own:=by
 refine ⟨S.keep b o e (fun q=>hb (List.mem_append_left _ q)) (fun q=>hb (List.mem_append_right _ (hX b q))),fun q=>?_⟩
 rcases S.own q with q | q
 ·exact hb q
 ·rw [e] at q; exact sn q
structure Car (G:Gh) (h:Heap) (G' : Gh) (h' : Heap):Prop where
 pw:G'.w=G.w
 stays:∀ {b:Addr} {o:Obj},h.get? b=some o→b ∉ G.own→h'.get? b=some o∧b ∉ G'.own
 pg:∀ (i:Nat) p,G.g[i]? = some p→G'.g[i]? = some p
 pl:∀ (i:Nat) p,G.l[i]? = some p→G'.l[i]? = some p
theorem Stp.car {X G h G' h'} (S:Stp X G h G' h') (hX:∀ b ∈ X,b ∈ G.ex):Car G h G' h':=⟨S.pw,fun e hb=>S.stays hX e hb,S.pg,S.pl⟩
theorem Stp.car0 {G h G' h'} (S:Stp [] G h G' h'):Car G h G' h':=S.car fun _ hb=>nomatch hb
theorem c9.at {h:Heap} {a us} (x:c9 h a us):cL h a us:=let ⟨n,e⟩:=x; ⟨_,e,rfl,n,rfl⟩
theorem cT.get {h:Heap} {a us} (x:cT h a us):∃ o,h.get? a=some o:=let ⟨_,e⟩:=x; ⟨_,e⟩
theorem gX {h:Heap} {d us} (x:iF h d us):∃ o,h.get? d=some o:=let ⟨_,_,_,e,_⟩:=x; ⟨_,e⟩
theorem iF.of_get {h h' : Heap} {d us} (x:iF h d us) (k:∀ o,h.get? d=some o→h'.get? d=some o):iF h' d us :=
 Heap.Ns1.at x k
section
variable {G:Gh} {h:Heap} {G' : Gh} {h' : Heap}
mutual
theorem PR.step (S:Car G h G' h'):∀ {p:PV} {u:Value},PR G h p u→PR G' h' p u
 | .none,_,x=>x
 | .bool _,_,x=>x
 | .int _,_,x=>x
 | .str _,_,x=>x
 | .bytes _,_,x=>x
 | .tup l,u,x=>by
  obtain ⟨a,us,e,ha,⟨n,hg⟩,hs⟩:=x
  have:=S.stays hg ha
  exact ⟨a,us,e,this.2,⟨n,this.1⟩,PRs.step S hs⟩
 | .lst l,u,x=>by
  obtain ⟨a,us,e,ha,⟨o,hg,r⟩,hs⟩:=x
  have:=S.stays hg ha
  exact ⟨a,us,e,this.2,⟨o,this.1,r⟩,PRs.step S hs⟩
theorem PRs.step (S:Car G h G' h'):∀ {l:List PV} {us:List Value},PRs G h l us→PRs G' h' l us
 | [],_,x=>x
 | _::_,_,x=>by
  obtain ⟨u,r,e,h1,h2⟩:=x
  exact ⟨u,r,e,PR.step S h1,PRs.step S h2⟩
end
theorem cY.step (S:Car G h G' h') {a d c us} (x:cY h a d c us) (ha:a ∉ G.own) (hd:d ∉ G.own):cY h' a d c us∧a ∉ G'.own∧d ∉ G'.own:=by
 obtain ⟨e,D,ne⟩:=x
 have h1:=S.stays e ha
 obtain ⟨o,eo⟩:=gX D
 have h2:=S.stays eo hd
 exact ⟨⟨h1.1,D.of_get (fun o e=>(S.stays e hd).1),ne⟩,h1.2,h2.2⟩
theorem mK.step (S:Car G h G' h') {cl us} (x:mK G h cl us):mK G' h' cl us:=fun y u e=>by
 obtain ⟨c,e1,⟨o,e2,e3⟩,hc⟩:=x y u e
 have:=S.stays e2 hc
 exact ⟨c,e1,⟨o,this.1,e3⟩,this.2⟩
theorem iE.step (S:Car G h G' h') {f ps body sc us} (x:iE G h f ps body sc us):iE G' h' f ps body sc us:=by
 obtain ⟨qual,pm,c',ctv,cl,hf,e,⟨c2,o,vs,t,ec,eo,ed,ev⟩,hc,hcl,hi,hd,hk⟩:=x
 cases ec
 have h1:=S.stays e hf
 have h2:=S.stays eo hc
 exact ⟨qual,pm,c',ctv,cl,h1.2,h1.1,⟨c',o,vs,t,rfl,h2.1,ed,ev⟩,h2.2,hcl.step S,hi,hd,hk⟩
mutual
theorem VR.step (S:Car G h G' h'):∀ {p:V} {u:Value},VR G h p u→VR G' h' p u
 | .pv _,_,x=>by exact PR.step S x
 | .tup l,u,x=>by
  obtain ⟨a,us,e,ha,⟨n,hg⟩,hs⟩:=x
  have:=S.stays hg ha
  exact ⟨a,us,e,this.2,⟨n,this.1⟩,VRs.step S hs⟩
 | .vl l,u,x=>by
  obtain ⟨a,us,e,ha,⟨o,hg,r⟩,hs⟩:=x
  have:=S.stays hg ha
  exact ⟨a,us,e,this.2,⟨o,this.1,r⟩,VRs.step S hs⟩
 | .fz c as,u,x=>by
  obtain ⟨a,d,us,e,ha,hd,hi,hs⟩:=x
  have:=hi.step S ha hd
  exact ⟨a,d,us,e,this.2.1,this.2.2,this.1,VRas.step S hs⟩
 | .vd as,u,x=>by
  obtain ⟨d,us,e,hd,⟨hi0,hi⟩,hs⟩:=x
  obtain ⟨o,es,ep,eo,r⟩:=hi
  have:=S.stays eo hd
  exact ⟨d,us,e,this.2,⟨hi0,S.pw ▸ ⟨o,es,ep,this.1,r⟩⟩,VRas.step S hs⟩
 | .ob i,u,x=>by obtain ⟨p,e,q⟩:=x; exact ⟨p,S.pg i p e,q⟩
 | .li i,u,x=>by obtain ⟨p,e,q⟩:=x; exact ⟨p,S.pl i p e,q⟩
 | .st _,_,x=>x
 | .clo ps body sc capt,u,x=>by
  obtain ⟨f,us,e,hc,hs⟩:=x
  exact ⟨f,us,e,hc.step S,VRas.step S hs⟩
theorem VRs.step (S:Car G h G' h'):∀ {l:List V} {us:List Value},VRs G h l us→VRs G' h' l us
 | [],_,x=>x
 | _::_,_,x=>by
  obtain ⟨u,r,e,h1,h2⟩:=x
  exact ⟨u,r,e,VR.step S h1,VRs.step S h2⟩
theorem VRas.step (S:Car G h G' h'):∀ {l:List (Str×V)} {us:List (Str×Value)},VRas G h l us→VRas G' h' l us
 | [],_,x=>x
 | (_,_)::_,_,x=>by
  obtain ⟨u,r,e,h1,h2⟩:=x
  exact ⟨u,r,e,VR.step S h1,VRas.step S h2⟩
end
end
noncomputable def gN (pre rest:List Tk) (nm:V):List (Str×V):=[(dR,.vl ((pre++rest).map (tkV TT))),(atName,.pv (.int (.ofNat pre.length))),(cW,nm)]
noncomputable def GR (G:Gh) (h:Heap) (p:Addr×Addr):GCell→Prop
 | .obj c as=>∃ us,cY h p.1 p.2 c us∧VRas G h as us
 | .rdr pre rest nm=>(pre++rest).length ≤ 1000000∧∃ us,cY h p.1 p.2 774 us∧VRas G h (gN pre rest nm) us
noncomputable def LR (G:Gh) (h:Heap) (a:Addr) (l:List V):Prop:=∃ us,c9 h a us∧VRs G h l us
noncomputable def fW (P:Addr):Str:=match Nat.beq P 38,Nat.beq P 254,Nat.beq P 560 with
 | true,_,_=>"statement_at.<locals>.<lambda>"
 | _,true,_=>"read_primary.<locals>.<lambda>"
 | _,_,true=>"read_condition.<locals>.<lambda>"
 | _,_,_=>"_law_choose.<locals>.<lambda>"
noncomputable def jF (G:Gh) (h:Heap) (P:Addr):Prop:=∃ ps,h.get? P=some (tabObj ps)∧TriplesOk ps.toList ∧
 ∀ pos cv,codeAmong pos ps.toList=some cv→∃ c',cv = .ref c'∧c' ∉ G.own∧h.CodeRec cv (fW P)
structure Inv (w:World) (g:Heap) (G:Gh) (σ:aC) (h:Heap):Prop where
 pw:G.w=w
 keep:∀ b o,g.get? b=some o→h.get? b=some o
 fresh:∀ b ∈ G.own,g.get? b=none
 nodup:G.own.Nodup
 alive:∀ b ∈ G.ex,∃ o,h.get? b=some o
 lg:G.g.length=σ.g.length
 ll:G.l.length=σ.l.length
 gs:∀ (i:Nat) p c,G.g[i]? = some p→σ.g[i]? = some c→GR G h p c
 ls:∀ (i:Nat) a l,G.l[i]? = some a→σ.l[i]? = some l→LR G h a l
 tabs:∀ P ∈ aS,jF G h P
section
variable {w:World} {g:Heap} {G:Gh} {σ:aC} {h h' : Heap}
theorem Stp.ext {X:List Addr} (k:∀ b o,h.get? b=some o→h'.get? b=some o):Stp X G h G h' :=
 ⟨fun b o e _ _=>k b o e,fun b o e=>⟨o,k b o e⟩,fun _ _ e=>e,fun _ _ e=>e,rfl,rfl,fun _ hb=>.inl hb⟩
theorem c9.ext {a us} (k:∀ b o,h.get? b=some o→h'.get? b=some o) (x:c9 h a us):c9 h' a us:=let ⟨n,e⟩:=x; ⟨n,k _ _ e⟩
theorem cY.ext {a d c us} (k:∀ b o,h.get? b=some o→h'.get? b=some o) (x:cY h a d c us):cY h' a d c us :=
 let ⟨e,D,ne⟩:=x; ⟨k _ _ e,D.of_get fun o e=>k _ _ e,ne⟩
theorem GR.ext {p c} (k:∀ b o,h.get? b=some o→h'.get? b=some o) (x:GR G h p c):GR G h' p c:=by
 have S:Car G h G h':=(Stp.ext (X:=[]) k).car0
 cases c with
 | obj c as=>obtain ⟨us,x1,x2⟩:=x; exact ⟨us,x1.ext k,x2.step S⟩
 | rdr pre rest nm=>obtain ⟨hb,us,x1,x2⟩:=x; exact ⟨hb,us,x1.ext k,x2.step S⟩
theorem LR.ext {a l} (k:∀ b o,h.get? b=some o→h'.get? b=some o) (x:LR G h a l):LR G h' a l :=
 let ⟨us,x1,x2⟩:=x; ⟨us,x1.ext k,x2.step (Stp.ext (X:=[]) k).car0⟩
theorem jF.step {G' : Gh} {P:Addr} (S:Car G h G' h') (e:∀ o,h.get? P=some o→h'.get? P=some o) (x:jF G h P):jF G' h' P:=by
 obtain ⟨ps,h1,h2,h3⟩:=x
 refine ⟨ps,e _ h1,h2,fun pos cv hc=>?_⟩
 obtain ⟨c',z1,hc',⟨c2,o,vs,t,ec,eo,ed,ev⟩⟩:=h3 pos cv hc; clear hc; subst z1
 cases ec
 have:=S.stays eo hc'
 exact ⟨c',rfl,this.2,⟨c',o,vs,t,rfl,this.1,ed,ev⟩⟩
theorem Inv.ext (I:Inv w g G σ h) (k:∀ b o,h.get? b=some o→h'.get? b=some o):Inv w g G σ h' :=
 ⟨I.pw,fun b o e=>k b o (I.keep b o e),I.fresh,I.nodup,fun b hb=>let ⟨o,e⟩:=I.alive b hb; ⟨o,k b o e⟩,I.lg,I.ll,fun i p c e1 e2=>(I.gs i p c e1 e2).ext k,
  fun i a l e1 e2=>(I.ls i a l e1 e2).ext k,fun P hP=>(I.tabs P hP).step (Stp.ext (X:=[]) k).car0 fun o e=>k _ _ e⟩
theorem Inv.inG (I:Inv w g G σ h) {i:Nat} {c:GCell} (e:σ.g[i]? = some c):∃ p,G.g[i]? = some p∧GR G h p c:=by
 obtain ⟨hi,_⟩:=List.getElem?_eq_some_iff.mp e
 have:i < G.g.length:=I.lg ▸ hi
 exact ⟨G.g[i],List.getElem?_eq_getElem this,I.gs i _ c (List.getElem?_eq_getElem this) e⟩
theorem Inv.inL (I:Inv w g G σ h) {i:Nat} {l:List V} (e:σ.l[i]? = some l):∃ a,G.l[i]? = some a∧LR G h a l:=by
 obtain ⟨hi,_⟩:=List.getElem?_eq_some_iff.mp e
 have:i < G.l.length:=I.ll ▸ hi
 exact ⟨G.l[i],List.getElem?_eq_getElem this,I.ls i _ l (List.getElem?_eq_getElem this) e⟩
end
theorem bG (h:Heap) (o:Obj):∀ b o',h.get? b=some o'→(h.push o).get? b=some o':=fun _ _ e=>Heap.get?_push_of_some _ e
theorem lW (h:Heap) (o:Obj):h.objs.size ≤ (h.push o).objs.size:=by rw [Heap.size_push]; exact Nat.le_succ _
theorem Inv.there {w g G σ h} (I:Inv w g G σ h) {b:Addr} (hb:b ∈ G.own):∃ o,h.get? b=some o:=by
 rcases List.mem_append.mp hb with hb | hb
 ·rcases List.mem_append.mp hb with hb | hb
  ·rcases List.mem_append.mp hb with hb | hb
   ·rcases List.mem_append.mp hb with hb | hb
    ·obtain ⟨p,hp,e⟩:=List.mem_map.mp hb
     obtain ⟨i,hi,z1⟩:=List.getElem_of_mem hp; clear hp; subst z1
     have hi' : i < σ.g.length:=I.lg ▸ hi
     have:=I.gs i _ _ (List.getElem?_eq_getElem hi) (List.getElem?_eq_getElem hi')
     cases hc:σ.g[i] with
     | obj c as=>rw [hc] at this; obtain ⟨us,x,_⟩:=this; exact ⟨_,e ▸ x.1⟩
     | rdr pre rest nm=>rw [hc] at this; obtain ⟨_,us,x,_⟩:=this; exact ⟨_,e ▸ x.1⟩
    ·obtain ⟨p,hp,e⟩:=List.mem_map.mp hb
     obtain ⟨i,hi,z1⟩:=List.getElem_of_mem hp; clear hp; subst z1
     have hi' : i < σ.g.length:=I.lg ▸ hi
     have:=I.gs i _ _ (List.getElem?_eq_getElem hi) (List.getElem?_eq_getElem hi')
     cases hc:σ.g[i] with
     | obj c as=>rw [hc] at this; obtain ⟨us,x,_⟩:=this; obtain ⟨o,eo⟩:=gX x.D; exact ⟨_,e ▸ eo⟩
     | rdr pre rest nm=>rw [hc] at this; obtain ⟨_,us,x,_⟩:=this; obtain ⟨o,eo⟩:=gX x.D; exact ⟨_,e ▸ eo⟩
   ·obtain ⟨i,hi,e⟩:=List.getElem_of_mem hb
    have hi' : i < σ.l.length:=I.ll ▸ hi
    obtain ⟨us,⟨n,x⟩,_⟩:=I.ls i _ _ (List.getElem?_eq_getElem hi) (List.getElem?_eq_getElem hi')
    exact ⟨_,e ▸ x⟩
  ·obtain ⟨ps,x,_⟩:=I.tabs _ hb
   exact ⟨_,x⟩
 ·exact I.alive _ hb
theorem Inv.newN {w g G σ h} (I:Inv w g G σ h) {b:Addr} (hb:h.get? b=none):b ∉ G.own:=fun hm=>by
 obtain ⟨o,e⟩:=I.there hm
 rw [e] at hb; exact sn hb
theorem dY {h:Heap} {b:Addr} (hb:h.objs.size ≤ b):h.get? b=none:=Heap.get?_none_of_le hb
theorem Inv.new {w g G σ h} (I:Inv w g G σ h):h.objs.size ∉ G.own:=I.newN (dY (Nat.le_refl _))
theorem Inv.newLe {w g G σ h} (I:Inv w g G σ h) {b:Addr} (hb:h.objs.size ≤ b):b ∉ G.own:=I.newN (dY hb)
inductive aAW {α β:Type} (m:R α) (f:α→R β) (σ σ' : aC) (b:β):Prop
 | mk (a:α) (σ₁:aC) (e1:m σ=some (a,σ₁)) (e2:f a σ₁=some (b,σ'))
theorem aH {α β:Type} {m:R α} {f:α→R β} {σ σ' : aC} {b:β} (e:Rbind m f σ=some (b,σ')):aAW m f σ σ' b:=by
 unfold Rbind at e
 refine optE (o:=m σ) (fun h=>?_) fun r h=>?_
 ·rw [h] at e; exact nx e
 ·rw [h] at e; exact ⟨r.1,r.2,h,e⟩
theorem jK {a b:Bool} {α:Type} {x y:α} (e:(match a,b with | true,true=>some x | _,_=>none)=some y):a=true∧b=true∧y=x:=by
 cases a with
 | false=>exact nx e
 | true =>
  cases b with
  | false=>exact nx e
  | true=>exact ⟨rfl,rfl,so e⟩
theorem aD9 {a b c:Bool} {α:Type} {x y:α} (e:(match a,b,c with | true,true,true=>some x | _,_,_=>none)=some y):a=true∧b=true∧c=true∧y=x:=by
 rcases a with _ | _
 ·exact nx e
 rcases b with _ | _
 ·exact nx e
 rcases c with _ | _
 ·exact nx e
 exact ⟨rfl,rfl,rfl,so e⟩
theorem aEa {a b c d:Bool} {α:Type} {x y:α} (e:(match a,b,c,d with | true,true,true,true=>some x | _,_,_,_=>none)=some y):a=true∧b=true∧c=true∧d=true∧y=x:=by
 rcases a with _ | _
 ·exact nx e
 rcases b with _ | _
 ·exact nx e
 rcases c with _ | _
 ·exact nx e
 rcases d with _ | _
 ·exact nx e
 exact ⟨rfl,rfl,rfl,rfl,so e⟩
theorem aKp {a b:Bool} {α:Type} {m:R α} {x:α} {σ σ' : aC} (e:(match a,b with | true,true=>m | _,_=>Rno) σ=some (x,σ')):a=true∧b=true∧m σ=some (x,σ'):=by
 rcases a with _ | _
 ·exact nx e
 rcases b with _ | _
 ·exact nx e
 exact ⟨rfl,rfl,e⟩
theorem rG {a b c:Bool} {α:Type} {m:R α} {x:α} {σ σ' : aC} (e:(match a,b,c with | true,true,true=>m | _,_,_=>Rno) σ=some (x,σ')):a=true∧b=true∧c=true∧m σ=some (x,σ'):=by
 rcases a with _ | _
 ·exact nx e
 rcases b with _ | _
 ·exact nx e
 rcases c with _ | _
 ·exact nx e
 exact ⟨rfl,rfl,rfl,e⟩
theorem aEb {a b c d:Bool} {α:Type} {m:R α} {x:α} {σ σ' : aC} (e:(match a,b,c,d with | true,true,true,true=>m | _,_,_,_=>Rno) σ=some (x,σ')):a=true∧b=true∧c=true∧d=true∧m σ=some (x,σ'):=by
 rcases a with _ | _
 ·exact nx e
 rcases b with _ | _
 ·exact nx e
 rcases c with _ | _
 ·exact nx e
 rcases d with _ | _
 ·exact nx e
 exact ⟨rfl,rfl,rfl,rfl,e⟩
theorem aEc {a b c d f:Bool} {α:Type} {m:R α} {x:α} {σ σ' : aC} (e:(match a,b,c,d,f with | true,true,true,true,true=>m | _,_,_,_,_=>Rno) σ=some (x,σ')):a=true∧b=true∧c=true∧d=true∧f=true∧m σ=some (x,σ'):=by
 rcases a with _ | _
 ·exact nx e
 rcases b with _ | _
 ·exact nx e
 rcases c with _ | _
 ·exact nx e
 rcases d with _ | _
 ·exact nx e
 rcases f with _ | _
 ·exact nx e
 exact ⟨rfl,rfl,rfl,rfl,rfl,e⟩
theorem aEd {a b c d f k:Bool} {α:Type} {m:R α} {x:α} {σ σ' : aC} (e:(match a,b,c,d,f,k with | true,true,true,true,true,true=>m | _,_,_,_,_,_=>Rno) σ=some (x,σ')):a=true∧b=true∧c=true∧d=true∧f=true∧k=true∧m σ=some (x,σ'):=by
 rcases a with _ | _
 ·exact nx e
 rcases b with _ | _
 ·exact nx e
 rcases c with _ | _
 ·exact nx e
 rcases d with _ | _
 ·exact nx e
 rcases f with _ | _
 ·exact nx e
 rcases k with _ | _
 ·exact nx e
 exact ⟨rfl,rfl,rfl,rfl,rfl,rfl,e⟩
theorem bB {α:Type} {o:Option α} {a:α} {σ σ' : aC} (e:oneOf o σ=some (a,σ')):o=some a∧σ' = σ:=by
 unfold oneOf at e
 cases o with
 | none=>exact nx e
 | some b=>cases e; exact ⟨rfl,rfl⟩
theorem fZ {α:Type} {a b:α} {σ σ' : aC} (e:Rpure a σ=some (b,σ')):b=a∧σ' = σ:=by cases e; exact ⟨rfl,rfl⟩
section
variable {G:Gh} {h:Heap}
theorem PRs.len:∀ {l:List PV} {us:List Value},PRs G h l us→us.length=l.length
 | [],_,x=>by rw [x]; rfl
 | _::l,_,x=>by obtain ⟨u,r,rfl,_,h2⟩:=x; simp [PRs.len h2]
theorem VRs.len:∀ {l:List V} {us:List Value},VRs G h l us→us.length=l.length
 | [],_,x=>by rw [x]; rfl
 | _::l,_,x=>by obtain ⟨u,r,rfl,_,h2⟩:=x; simp [VRs.len h2]
theorem VRas.len:∀ {l:List (Str×V)} {us:List (Str×Value)},VRas G h l us→us.length=l.length
 | [],_,x=>by rw [x]; rfl
 | (_,_)::l,_,x=>by obtain ⟨u,r,rfl,_,h2⟩:=x; simp [VRas.len h2]
theorem PRs.toV:∀ {l:List PV} {us:List Value},PRs G h l us→VRs G h (l.map V.pv) us
 | [],_,x=>by simpa only [PRs,VRs,List.map] using x
 | _::l,_,x=>by
  obtain ⟨u,r,e,h1,h2⟩:=x
  simp only [List.map,VRs,VR]
  exact ⟨u,r,e,h1,h2.toV⟩
theorem VRs.toP:∀ {l:List V} {ps:List PV} {us:List Value},allPv l=some ps→VRs G h l us→PRs G h ps us
 | [],_,_,e,x=>so e ▸ x
 | v::l,ps,us,e,x=>by
  obtain ⟨u,r,z,h1,h2⟩:=x
  cases v with
  | pv p =>
   obtain ⟨q,hl,e⟩:=obP e
   obtain rfl:=so e
   exact ⟨u,r,z,h1,VRs.toP hl h2⟩
  | _=>exact nx e
theorem VRs.get:∀ {l:List V} {us:List Value},VRs G h l us→∀ {i:Nat} {v:V},l[i]? = some v→∃ u,us[i]? = some u∧VR G h v u
 | [],_,_,i,v,e=>by exact nx e
 | p::l,us,x,i,v,e=>by
  obtain ⟨u,r,rfl,h1,h2⟩:=x
  cases i with
  | zero=>cases e; exact ⟨u,rfl,h1⟩
  | succ i=>exact h2.get (i:=i) (by exact (e))
theorem VRs.append:∀ {l l' : List V} {us us' : List Value},VRs G h l us→VRs G h l' us'→VRs G h (l++l') (us++us')
 | [],_,us,us',x,y=>by obtain rfl:=x; exact y
 | p::l,l',us,us',x,y=>by
  obtain ⟨u,r,rfl,h1,h2⟩:=x
  simp only [List.cons_append,VRs]
  exact ⟨u,_,rfl,h1,h2.append y⟩
theorem VRs.take:∀ {l:List V} {us:List Value} {n:Nat},VRs G h l us→VRs G h (l.take n) (us.take n)
 | [],us,n,x=>by obtain rfl:=x; simp [VRs]
 | p::l,us,n,x=>by
  obtain ⟨u,r,rfl,h1,h2⟩:=x
  cases n with
  | zero=>simp [VRs]
  | succ n=>simp only [List.take_succ_cons,VRs]; exact ⟨u,_,rfl,h1,h2.take⟩
theorem VRs.drop:∀ {l:List V} {us:List Value} {n:Nat},VRs G h l us→VRs G h (l.drop n) (us.drop n)
 | [],us,n,x=>by obtain rfl:=x; simp [VRs]
 | p::l,us,n,x=>by
  cases n with
  | zero=>exact x
  | succ n =>
   obtain ⟨u,r,rfl,h1,h2⟩:=x
   simpa only [List.drop_succ_cons] using h2.drop
theorem VRs.set:∀ {l:List V} {us:List Value} {n:Nat} {v:V} {u:Value},VRs G h l us→VR G h v u→VRs G h (l.set n v) (us.set n u)
 | [],us,n,v,u,x,_=>by obtain rfl:=x; simp [VRs]
 | p::l,us,n,v,u,x,y=>by
  obtain ⟨w,r,rfl,h1,h2⟩:=x
  cases n with
  | zero=>simp only [List.set_cons_zero,VRs]; exact ⟨u,r,rfl,y,h2⟩
  | succ n=>simp only [List.set_cons_succ,VRs]; exact ⟨w,_,rfl,h1,h2.set y⟩
theorem eJ {v:V} {l:List V} {u:Value} (e:bC v=some l) (x:VR G h v u):jD G u (cT h) (VRs G h l):=by
 cases v with
 | pv p =>
  cases p with
  | tup l' =>
   obtain rfl:=so e
   obtain ⟨a,us,e,ha,ht,hs⟩:=x
   exact ⟨a,us,e,ha,ht,hs.toV⟩
  | _=>exact nx e
 | tup l'=>obtain rfl:=so e; exact x
 | _=>exact nx e
theorem mD {v:V} {l:List V} {u:Value} (e:vlOf v=some l) (x:VR G h v u):jD G u (cL h) (VRs G h l):=by
 cases v with
 | pv p =>
  cases p with
  | lst l' =>
   obtain rfl:=so e
   obtain ⟨a,us,e,ha,ht,hs⟩:=x
   exact ⟨a,us,e,ha,ht,hs.toV⟩
  | _=>exact nx e
 | vl l'=>obtain rfl:=so e; exact x
 | _=>exact nx e
theorem lO {l:List V} {a:Addr} {us:List Value} (ha:a ∉ G.own) (ht:cT h a us) (x:VRs G h l us):VR G h (mkTup l) (.ref a):=by
 unfold mkTup
 split
 ·rename_i ps e; exact ⟨a,us,rfl,ha,ht,x.toP e⟩
 ·exact ⟨a,us,rfl,ha,ht,x⟩
theorem lP {l:List V} {a:Addr} {us:List Value} (ha:a ∉ G.own) (ht:cL h a us) (x:VRs G h l us):VR G h (mkVl l) (.ref a):=by
 unfold mkVl
 split
 ·rename_i ps e; exact ⟨a,us,rfl,ha,ht,x.toP e⟩
 ·exact ⟨a,us,rfl,ha,ht,x⟩
inductive uA (h:Heap) (σ σ' : aC) (u:Value) (R:List Value→Prop):Prop
 | mk (hs:σ' = σ) (a:Addr) (us:List Value) (e:u = .ref a) (ht:cL h a us) (hr:R us)
theorem eO {w:World} {g:Heap} {σ σ' : aC} (I:Inv w g G σ h) {v:V} {l:List V} {u:Value} (e:lstOf v σ=some (l,σ')) (x:VR G h v u):uA h σ σ' u (VRs G h l):=by
 have gen:oneOf (vlOf v) σ=some (l,σ')→uA h σ σ' u (VRs G h l):=fun e=>by
  obtain ⟨e1,e2⟩:=bB e
  obtain ⟨a,us,h0,_,h1,h2⟩:=mD e1 x
  exact ⟨e2,a,us,h0,h1,h2⟩
 cases v with
 | li i =>
  have e:=(show (match σ.l[i]? with | some c=>some (c,σ) | none=>none)=some (l,σ') from e)
  cases hl:σ.l[i]? with
  | none=>rw [hl] at e; exact nx e
  | some l' =>
   rw [hl] at e
   obtain ⟨a,ea,e2⟩:=x
   obtain ⟨us,h1,h2⟩:=I.ls _ _ _ ea hl
   exact ⟨sp2 e,a,us,e2,h1.at,sp1 e ▸ h2⟩
 | _=>exact gen e
end
theorem eY {α:Type} {x y:Str} {v:α} {r:List (Str×α)}:look x ((y,v)::r)=match sEq y x with | true=>some v | false=>look x r:=rfl
theorem sY {α:Type} {x y:Str} {v u:α} {r:List (Str×α)}:put x v ((y,u)::r)=match sEq y x with | true=>(y,v)::r | false=>(y,u)::put x v r:=rfl
theorem dF {α:Type} (x:Str):∀ l:List (Str×α),look x l=l.lookup x
 | []=>rfl
 | (y,v)::r=>by
  rw [eY,List.lookup_cons,lZ,dF x r]
  cases h:(y == x) with
  | false =>
   have:(x == y)=false:=by rw [beq_eq_false_iff_ne] at h ⊢; exact Ne.symm h
   rw [this]
  | true =>
   have:y=x:=beq_iff_eq.mp h
   clear h; subst this; simp
theorem VRas.look {G:Gh} {h:Heap} {x:Str}:∀ {l:List (Str×V)} {us:List (Str×Value)},VRas G h l us→∀ {v:V},look x l=some v→∃ u,Mine.look x us=some u∧VR G h v u
 | [],_,_,v,e=>by exact nx e
 | (y,p)::l,us,z,v,e=>by
  obtain ⟨u,r,rfl,h1,h2⟩:=z
  rw [eY] at e ⊢
  refine boolF (b:=sEq y x) (fun q=>?_) fun q=>?_
  ·rw [q] at e ⊢; exact h2.look e
  ·rw [q] at e ⊢; exact ⟨u,rfl,so e ▸ h1⟩
theorem VRas.look_none {G:Gh} {h:Heap} {x:Str}:∀ {l:List (Str×V)} {us:List (Str×Value)},VRas G h l us→Mine.look x l=none→Mine.look x us=none
 | [],us,z,_=>by obtain rfl:=z; rfl
 | (y,p)::l,us,z,e=>by
  obtain ⟨u,r,rfl,h1,h2⟩:=z
  rw [eY] at e ⊢
  refine boolF (b:=sEq y x) (fun q=>?_) fun q=>?_
  ·rw [q] at e ⊢; exact h2.look_none e
  ·rw [q] at e; exact sn e
theorem VRas.put {G:Gh} {h:Heap} {x:Str} {v:V} {w:Value} (hv:VR G h v w):∀ {l:List (Str×V)} {us:List (Str×Value)},VRas G h l us→VRas G h (put x v l) (Mine.put x w us)
 | [],us,z=>by obtain rfl:=z; exact ⟨w,[],rfl,hv,rfl⟩
 | (y,p)::l,us,z=>by
  obtain ⟨u,r,rfl,h1,h2⟩:=z
  rw [sY,sY]
  cases sEq y x with
  | true=>exact ⟨w,r,rfl,hv,h2⟩
  | false=>exact ⟨u,_,rfl,h1,h2.put hv⟩
theorem look_put {α:Type} (x y:Str) (v:α):∀ l:List (Str×α),look y (put x v l)=if y=x then some v else look y l
 | []=>by
  show (match sEq x y with | true=>some v | false=>none)=_
  refine boolF (b:=sEq x y) (fun h=>?_) fun h=>?_
  ·rw [h,if_neg fun e:y=x=>by rw [aK.mpr e.symm] at h; exact tf h]; rfl
  ·rw [h,if_pos (aK.mp h).symm]
 | (z,u)::r=>by
  rw [sY,eY]
  refine boolF (b:=sEq z x) (fun hz=>?_) fun hz=>?_
  ·rw [hz]
   show look y ((z,u)::put x v r)=_
   rw [eY]
   refine boolF (b:=sEq z y) (fun h=>?_) fun h=>?_
   ·rw [h]; exact look_put x y v r
   ·rw [h,if_neg fun e:y=x=>by rw [aK.mpr ((aK.mp h).trans e)] at hz; exact tf hz]
  ·rw [hz]
   show look y ((z,v)::r)=_
   rw [eY,← aK.mp hz]
   refine boolF (b:=sEq z y) (fun h=>?_) fun h=>?_
   ·rw [h,if_neg fun e:y=z=>by rw [aK.mpr e.symm] at h; exact tf h]
   ·rw [h,if_pos (aK.mp h).symm]
noncomputable def gK (a:Addr):Option (Addr×Addr):=match Nat.beq a 43,Nat.beq a 259,Nat.beq a 565,Nat.beq a 894 with
 | true,_,_,_=>some (42,38)
 | _,true,_,_=>some (258,254)
 | _,_,true,_=>some (564,560)
 | _,_,_,true=>some (893,889)
 | _,_,_,_=>none
structure Frm (G:Gh) (h:Heap) (fi:FI) (env:aB) (ME:Env) (fo:List Addr):Prop where
 sc:ME.scope=fi.sc
 kind:fi.sc.kind = .function
 gl:ME.globals=mainGlobals
 bu:ME.builtins=builtinsNs
 fsub:∀ b ∈ fo,b ∈ G.ex
 loc:ME.locals ∈ fo
 ns:∃ m,h.Ns ME.locals m∧∀ x v,kindIn fi.sc x=some .local→look x env=some v→∃ u,m x=some u∧VR G h v u
 cel:∀ x v,kindIn fi.sc x=some .cell∨kindIn fi.sc x=some .free→look x env=some v→∃ c u,ME.cells.lookup x=some c∧h.IsCell c (some u)∧VR G h v u∧c ∉ G.mu
 imm:∀ x c,fi.mutc.any (fun y=>sEq y x)=false→ME.cells.lookup x=some c→c ∉ fo
 tur:∀ x,fi.mutc.any (fun y=>sEq y x)=true→kindIn fi.sc x=some .cell→∃ c v₀,ME.cells.lookup x=some c∧h.IsCell c v₀∧c ∈ fo
 inj:∀ x y c,ME.cells.lookup x=some c→ME.cells.lookup y=some c→x=y
 dbg:kindIn fi.sc "__debug__" = none∧kindIn fi.sc "__classdict__" = none
 cal:∀ x c,ME.cells.lookup x=some c→∃ o,h.get? c=some o
 lam:∀ a,fi.fn=some a→∀ c P,gK a=some (c,P)→ME.code = .ref c∧ME.qual++"<lambda>" = fW P∧(∀ x c',ME.cells.lookup x=some c'→fi.mutc.any (fun y=>sEq y x)=false→c' ∉ G.own)
theorem Inv.ex_mu {w g G σ h} (I:Inv w g G σ h) {b:Addr} (hb:b ∈ G.ex):b ∉ G.mu:=fun hm=>(List.nodup_append.mp I.nodup).2.2 b hm b hb rfl
theorem IsCell.stay {h h' : Heap} {c:Addr} {v:Option Value} (x:h.IsCell c v) (k:∀ o,h.get? c=some o→h'.get? c=some o):h'.IsCell c v:=let ⟨o,e,d⟩:=x; ⟨o,k o e,d⟩
theorem Frm.step {w g G σ h G' h' fi env ME fo} (I:Inv w g G σ h) (F:Frm G h fi env ME fo) (S:Stp [] G h G' h'):Frm G' h' fi env ME fo:=by
 have C:=S.car0
 have ke:∀ b ∈ G.ex,∀ o,h.get? b=some o→h'.get? b=some o:=fun b hb o e=>S.keep b o e (I.ex_mu hb) (fun q=>nomatch q)
 refine ⟨F.sc,F.kind,F.gl,F.bu,fun b hb=>S.ex ▸ F.fsub b hb,F.loc,?_,?_,F.imm,?_,F.inj,F.dbg,fun x c e=>let ⟨o,q⟩:=F.cal x c e; S.live c o q,?_⟩
 ·obtain ⟨m,⟨o,es,ep,e,d⟩,h2⟩:=F.ns
  exact ⟨m,⟨o,es,ep,ke _ (F.fsub _ F.loc) _ e,d⟩,fun x v hk hv=>let ⟨u,e1,e2⟩:=h2 x v hk hv; ⟨u,e1,e2.step C⟩⟩
 ·intro x v hk hv
  obtain ⟨c,u,e1,e2,e3,e4⟩:=F.cel x v hk hv
  refine ⟨c,u,e1,IsCell.stay e2 (fun o e=>S.keep c o e e4 fun q=>nomatch q),e3.step C,fun q=>?_⟩
  obtain ⟨o,e,_⟩:=e2
  rcases S.new c q with q | q
  ·exact e4 q
  ·rw [e] at q; exact sn q
 ·intro x h1 h2
  obtain ⟨c,v₀,e1,e2,e3⟩:=F.tur x h1 h2
  exact ⟨c,v₀,e1,IsCell.stay e2 (ke c (F.fsub c e3)),e3⟩
 ·intro a ha c P hc
  obtain ⟨q1,q2,q3⟩:=F.lam a ha c P hc
  refine ⟨q1,q2,fun x c' hx hm hown=>?_⟩
  rcases S.own hown with q | q
  ·exact q3 x c' hx hm q
  ·obtain ⟨o,e⟩:=F.cal x c' hx; rw [e] at q; exact sn q
end
section
variable {w:PySem.World} {g:PySem.Heap} {mg mb:PySem.Str→Option PySem.Value} {A:PySem.Around} {E:PySem.Value→PySem.Shared→Prop} {s s₁:PySem.Shared} {G G₁:Gh} {σ σ₁ σ' : aC} {n m:Nat} {S I' : Sys} {fi:FI} {env env' : aB} {ME:PySem.Env} {fo:List PySem.Addr} {h h' h₁ h₂:PySem.Heap}
section
open PyProof.Rows PySem PySem.Calls PySem.W
abbrev MW (w:World):Model:=model lw.row.prog w
noncomputable def G0 (w:World):Gh:=⟨w,[],[],[]⟩
structure jB (w:World) (g:Heap) (a:Addr) (r:fL):Prop where
 at_:∃ qual dV pm c,g.get? a=some (aI r.st qual dV pm (.ref c))∧g.CodeRec (.ref c) qual ∧
  ((dV = .none∧r.dflt=[])∨∃ t us,dV = .ref t∧cT g t us∧VRs (G0 w) g r.dflt us)∧(∀ c' P,gK a=some (c',P)→c' = c∧qual++".<locals>."++"<lambda>" = fW P)
structure aZ (w:World) (g:Heap) (mg mb:Str→Option Value):Prop where
 K:(kfrag w.params).In g
 nmg:g.Ns mainGlobals mg
 nmb:g.Ns builtinsNs mb
 lim:g.NoLimit
 gl:∀ x v,look x iO=some v→∃ u,mg x=some u∧VR (G0 w) g v u
 bt:∀ x v,look x iO=none→look x g8=some v→mg x=none∧∃ u,v = .st u∧mb x=some u
 fn:∀ a r,aX a bU=some r→jB w g a r
 bmain:g.BuiltinsAt mg 38∧g.BuiltinsAt mg 254∧g.BuiltinsAt mg 560∧g.BuiltinsAt mg 889
 code:∀ c P,(c,P) ∈ [((42:Addr),(38:Addr)),(258,254),(564,560),(893,889)]→CodeHd g c P
noncomputable def aU (n:Nat) (A:Around):Prop:=A.depth + n ≤ 990∧A.units + 8 * n ≤ 9500∧A.handled=none
theorem tD {a n j:Nat} (h:a + 8 * (n + 1) ≤ 9500) (hj:j ≤ 8):a + j + 8 * n ≤ 9500:=by lia
theorem aU.le {n m:Nat} {A:Around} (R:aU n A) (h:m ≤ n):aU m A:=⟨Nat.le_trans (Nat.add_le_add_left h _) R.1,Nat.le_trans (Nat.add_le_add_left (Nat.mul_le_mul_left 8 h) _) R.2.1,R.2.2⟩
theorem aU.in1 {n:Nat} {A:Around} (R:aU (n + 1) A):aU n A.in1:=⟨Nat.le_of_succ_le R.1,tD (j:=1) R.2.1 (by decide),R.2.2⟩
theorem aU.deeper {n:Nat} {A:Around} {e:Env} (R:aU (n + 1) A):aU n (A.deeper e):=⟨Nat.succ_add_eq_add_succ A.depth n ▸ R.1,tD (j:=3) R.2.1 (by decide),R.2.2⟩
noncomputable def aP {α:Type} (w:World) (g:Heap) (G:Gh) (σ' : aC) (s:Shared) (Rel:Gh→Heap→α→Prop) (Q:α→Shared→Prop):Prop :=
 ∀ a s' G',Inv w g G' σ' s'.heap→Stp [] G s.heap G' s'.heap→Rel G' s'.heap a→s'.gens=s.gens→s'.os=s.os→Q a s'
theorem aP.same {α:Type} {Rel:Gh→Heap→α→Prop} {Q:α→Shared→Prop} {a:α} {d:Drawn} {t:Nat} (P:aP w g G σ s Rel Q) (I:Inv w g G σ s.heap) (h:Rel G s.heap a):Q a { s with drawn:=d,toks:=t } :=
 P a { s with drawn:=d,toks:=t } G I .refl h rfl rfl
theorem aP.here {α:Type} {Rel:Gh→Heap→α→Prop} {Q:α→Shared→Prop} {a:α} (P:aP w g G σ s Rel Q) (I:Inv w g G σ s.heap) (h:Rel G s.heap a):Q a s :=
 P a s G I .refl h rfl rfl
theorem aP.grown {α:Type} {Rel:Gh→Heap→α→Prop} {Q:α→Shared→Prop} {a:α} {h' : Heap} {d:Drawn} {t:Nat} (P:aP w g G σ s Rel Q) (I:Inv w g G σ s.heap)
 (k:∀ b o,s.heap.get? b=some o→h'.get? b=some o) (h:Rel G h' a):Q a ⟨h',s.gens,d,t,s.os⟩ :=
 P a ⟨h',s.gens,d,t,s.os⟩ G (I.ext k) (.ext k) h rfl rfl
theorem Inv.base (I:Inv w g G σ s.heap):Car (G0 w) g G s.heap :=
 ⟨I.pw,fun e _=>⟨I.keep _ _ e,fun hb=>by rw [I.fresh _ hb] at e; exact nx e⟩,fun i p e=>by simp [G0] at e,fun i p e=>by simp [G0] at e⟩
theorem aZ.has (B:aZ w g mg mb) (I:Inv w g G σ s.heap):(kfrag w.params).In s.heap:=B.K.keeps I.keep
theorem qM {c:Const} {v:V} {ME:Env} {Q:Value→Shared→Prop} (e:qL c σ=some (v,σ')) (I:Inv w g G σ s.heap) (P:aP w g G σ' s (fun G h u=>VR G h v u) Q) :
 wpAny (MW w) A (constValue ME c) Q E s:=by
 cases c with
 | none=>cases e; exact wpAny_pure (P.here I (by exact rfl))
 | bool b=>cases e; exact wpAny_pure (P.here I (by exact rfl))
 | int i=>cases e; exact wpAny_mkInt (P.same I (by exact ⟨_,rfl⟩))
 | str x=>cases e; exact wpAny_mkText (P.same I (by exact ⟨_,rfl⟩))
 | bytes b=>cases e; exact wpAny_mkTextBytes (P.same I (by exact ⟨_,rfl⟩))
 | _=>exact nx e
theorem Frm.kindOf {h:Heap} {fi env ME fo} (F:Frm G h fi env ME fo) (x:Str):ME.kindOf x=kindIn fi.sc x:=by
 unfold Env.kindOf kindIn
 rw [F.sc,dF]
theorem Frm.dbg' {h:Heap} {fi env ME fo} (F:Frm G h fi env ME fo) {x:Str} {k:NameKind} (e:kindIn fi.sc x=some k):(x == ("__debug__" : Str))=false∧(x == ("__classdict__" : Str))=false:=by
 constructor
 ·rw [beq_eq_false_iff_ne]; rintro rfl; rw [F.dbg.1] at e; exact nx e
 ·rw [beq_eq_false_iff_ne]; rintro rfl; rw [F.dbg.2] at e; exact nx e
theorem lQ (B:aZ w g mg mb) {fi:FI} {env:aB} {ME:Env} {fo:List Addr} {x:Str} {pos:Pos} {v:V} {Q:Value→Shared→Prop} (e:fA TT fi env x σ=some (v,σ'))
 (I:Inv w g G σ s.heap) (F:Frm G s.heap fi env ME fo) (P:aP w g G σ' s (fun G h u=>VR G h v u) Q):wpAny (MW w) A (eval (.Name x pos) ME) Q E s:=by
 unfold fA at e
 have hsk:ME.scope.kind = .function:=F.sc ▸ F.kind
 refine optE (o:=kindIn fi.sc x) (fun hk=>?_) fun k hk=>?_
 ·simp only [hk] at e; exact nx e
 ·have hk':=(F.kindOf x).trans hk
  cases k with
  | globalExplicit=>simp only [hk] at e; exact nx e
  | globalImplicit =>
   simp only [hk] at e
   cases hv:look x TT.gl with
   | none =>
    simp only [hv] at e
    obtain ⟨e1,z1⟩:=bB e; clear e; subst z1
    obtain ⟨h1,u,z1,h2⟩:=B.bt x v hv e1; clear e1; subst z1
    exact Name_function_global hsk hk' (loadGlobal_builtin (F.gl ▸ B.nmg.keeps I.keep) h1 (F.bu ▸ B.nmb.keeps I.keep) h2 (P.here I (by exact rfl))) (F.dbg' hk).1
   | some v' =>
    simp only [hv] at e
    cases e
    obtain ⟨u,h1,h2⟩:=B.gl x _ hv
    exact Name_function_global hsk hk' (loadGlobal_global (F.gl ▸ B.nmg.keeps I.keep) h1 (P.here I (h2.step I.base))) (F.dbg' hk).1
  | «local» =>
   simp only [hk] at e
   obtain ⟨e1,z1⟩:=bB e; clear e; subst z1
   obtain ⟨m,h1,h2⟩:=F.ns
   obtain ⟨u,h3,h4⟩:=h2 x v hk e1
   exact wpAny_Name (wpAny_loadName_local hsk hk' h1 h3 (P.here I h4)) (F.dbg' hk).1
  | cell =>
   simp only [hk] at e
   obtain ⟨e1,z1⟩:=bB e; clear e; subst z1
   obtain ⟨c,u,h1,h2,h3,_⟩:=F.cel x v (.inl hk) e1
   exact wpAny_Name (wpAny_loadName_cell hsk hk' h1 h2 (P.here I h3)) (F.dbg' hk).1
  | free =>
   simp only [hk] at e
   obtain ⟨e1,z1⟩:=bB e; clear e; subst z1
   obtain ⟨c,u,h1,h2,h3,_⟩:=F.cel x v (.inr hk) e1
   exact wpAny_Name (wpAny_loadName_free hsk hk' h1 h2 (P.here I h3) (F.dbg' hk).2) (F.dbg' hk).1
end
section
open PyProof.Rows PySem PySem.Calls PySem.SeqAt PySem.W
theorem cT.isTuple {h:Heap} {a us} (x:cT h a us):h.IsTuple a us.toArray:=let ⟨n,e⟩:=x; ⟨_,e,rfl,n,rfl⟩
theorem cL.isList {h:Heap} {a us} (x:cL h a us):h.IsList a us.toArray:=x
theorem cL.new (h:Heap) (us:List Value):cL (h.push { cls:=.type "list",data:=.seq us.toArray }) h.objs.size us:=⟨_,Heap.get?_push_size _ rfl,rfl,0,rfl⟩
theorem cT.ext {h h' : Heap} {a us} (k:∀ b o,h.get? b=some o→h'.get? b=some o) (x:cT h a us):cT h' a us:=let ⟨n,e⟩:=x; ⟨n,k _ _ e⟩
theorem cR {n:Nat} (e:small n=true):n ≤ 1000000:=Nat.le_of_ble_eq_true e
theorem iB:4000000 ≤ sizeLine:=by rw [sizeLine_eq]; decide
theorem fF {a:Nat} (h:a ≤ 1000000):a ≤ sizeLine:=Nat.le_trans h (Nat.le_trans (by decide) iB)
theorem pX (n:Nat):((List.range n).all fun _=>true)=true:=by simp
theorem z6 {a b:PV} {l m:List PV} (e:f3 (a::l) (b::m)=some true):pyEq a b=some true∧f3 l m=some true:=by
 have e:=(show (match pyEq a b with | some true=>f3 l m | some false=>some false | none=>none)=some true from e)
 cases h:pyEq a b with
 | none=>rw [h] at e; exact nx e
 | some r =>
  rw [h] at e
  cases r with
  | false=>exact tf (so e)
  | true=>exact ⟨rfl,e⟩
theorem sZ:∀ {l m:List PV},f3 l m=some true→l.length=m.length
 | [],[],_=>rfl
 | [],_::_,e=>nx e
 | _::_,[],e=>nx e
 | a::l,b::m,e=>congrArg Nat.succ (sZ (z6 e).2)
theorem qF:∀ {a b:List UInt8},iI a b=(a == b)
 | [],[]=>rfl
 | [],_::_=>rfl
 | _::_,[]=>rfl
 | x::a,y::b=>by
  show (match Nat.beq x.toNat y.toNat with | true=>iI a b | false=>false)=_
  rw [List.cons_beq_cons]
  refine boolF (b:=Nat.beq x.toNat y.toNat) (fun h=>?_) fun h=>?_
  ·rw [h,beq_eq_false_iff_ne.mpr fun e:x=y=>Nat.ne_of_beq_eq_false h (e ▸ rfl)]; rfl
  ·rw [h,UInt8.toNat_inj.mp (Nat.eq_of_beq_eq_true h),beq_self_eq_true]; exact qF.trans (Bool.true_and _).symm
mutual
theorem aDI (G:Gh) (s:Shared):∀ (p q:PV) (u v:Value) (A:Around),PR G s.heap p u→PR G s.heap q v→pyEq p q=some true→A.units + dep p < cLine→EqAt A s u v true
 | .none,q,u,v,A,hp,hq,e,_=>by
  cases q with
  | none=>rw [(hp:u = .none),(hq:v = .none)]; exact .same _
  | _=>exact nx e
 | .bool a,q,u,v,A,hp,hq,e,_=>by
  cases q with
  | bool b=>rw [(hp:u = .bool a),(hq:v = .bool b),eq_of_beq (so e).symm]; exact .same _
  | _=>exact nx e
 | .int a,q,u,v,A,hp,hq,e,_=>by
  cases q with
  | int b =>
   obtain ⟨t,z⟩:=hp; obtain ⟨t',z'⟩:=hq
   rw [z,z',← of_decide_eq_true (so e).symm]
   exact beq_self_eq_true a ▸ EqAt.int_int a t a t' (A:=A) (s:=s)
  | _=>exact nx e
 | .str a,q,u,v,A,hp,hq,e,_=>by
  cases q with
  | str b =>
   obtain ⟨t,z⟩:=hp; obtain ⟨t',z'⟩:=hq
   rw [z,z',← aK.mp (so e).symm]
   exact beq_self_eq_true a ▸ EqAt.str_str a t a t' (A:=A) (s:=s)
  | _=>exact nx e
 | .bytes a,q,u,v,A,hp,hq,e,_=>by
  cases q with
  | bytes b =>
   obtain ⟨t,z⟩:=hp; obtain ⟨t',z'⟩:=hq
   have e:=(so e).symm
   rw [qF] at e
   rw [z,z',← Array.toList_inj.mp (eq_of_beq e)]
   intro prog w E Q h
   unfold eqBool
   refine wpAny_holding ?_
   refine wpAny_ite_split (fun _=>wpAny_bind (wpAny_rule (wpAny_pure h))) (fun _=>wpAny_bind ?_)
   exact eq_bytes (by rw [beq_self_eq_true]; exact wpAny_truthy_bool h)
  | _=>exact nx e
 | .lst a,q,u,v,A,hp,hq,e,_=>by cases q <;> exact nx e
 | .tup l,q,u,v,A,hp,hq,e,hu=>by
  cases q with
  | tup m =>
   have e:f3 l m=some true:=e
   obtain ⟨a,us,z,_,ha,hl⟩:=hp
   obtain ⟨b,vs,z',_,hb,hm⟩:=hq
   rw [z,z']
   by_cases hab:a=b
   ·exact hab ▸ .same _
   ·refine .of_refs hab ?_
    have hlen:us.length=vs.length:=hl.len.trans ((sZ e).trans hm.len.symm)
    have hu:A.units + (bT l + 1) < cLine:=hu
    have:=RcAt.tuples (A:=A) (s:=s) (e:=fun _=>true) ha.isTuple hb.isTuple (Nat.lt_of_le_of_lt (Nat.le_add_right _ _) hu) (fun j h1 h2=>by
     simpa using qX G s l m us vs A.in1 hl hm e (u1 hu) j (by exact (h1)) (by exact (h2)))
    rw [pX] at this
    simpa [hlen] using this
  | _=>exact nx e
theorem qX (G:Gh) (s:Shared):∀ (l m:List PV) (us vs:List Value) (A:Around),PRs G s.heap l us→PRs G s.heap m vs→f3 l m=some true→A.units + bT l < cLine →
 ∀ (j:Nat) (h1:j < us.length) (h2:j < vs.length),EqAt A s us[j] vs[j] true
 | [],_,us,vs,A,hl,_,_,_,j,h1,_=>by obtain rfl:=hl; simp at h1
 | a::l,[],us,vs,A,_,hm,_,_,j,_,h2=>by obtain rfl:=hm; simp at h2
 | a::l,b::m,us,vs,A,hl,hm,e,hu,j,h1,h2=>by
  obtain ⟨u,us,rfl,hu1,hl⟩:=hl
  obtain ⟨v,vs,rfl,hv1,hm⟩:=hm
  have hu:A.units + Nat.max (dep a) (bT l) < cLine:=hu
  obtain ⟨hab,e⟩:=z6 e
  ··cases j with
    | zero=>exact aDI G s a b u v A hu1 hv1 hab (Nat.lt_of_le_of_lt (Nat.add_le_add_left (Nat.le_max_left _ _) _) hu)
    | succ j=>exact qX G s l m us vs A hl hm e (Nat.lt_of_le_of_lt (Nat.add_le_add_left (Nat.le_max_right _ _) _) hu) j (by simpa using h1) (by simpa using h2)
end
theorem mC {v:V} {b:Bool} {u:Value} {Q:Bool→Shared→Prop} (e:truthy v σ=some (b,σ')) (I:Inv w g G σ s.heap) (x:VR G s.heap v u) (P:aP w g G σ' s (fun _ _ c=>c=b) Q):wpAny (MW w) A (PySem.truthy u) Q E s:=by
 have lst:aAG v σ=some (b,σ')→wpAny (MW w) A (PySem.truthy u) Q E s:=fun e=>by
  obtain ⟨l,σ₁,hl,e1⟩:=aH e
  obtain ⟨e2,rfl⟩:=bB e1
  obtain ⟨z1,a,us,z2,h1,h2⟩:=eO I hl x; clear x; subst z1 z2
  refine boolF (b:=small l.length) (fun hs=>?_) fun hs=>?_
  ·rw [hs] at e2; exact nx e2
  ·rw [hs] at e2
   cases e2
   have hlen:=h2.len
   refine wpAny_truthy_list h1.isList (i63 (el hlen (cR hs))) (P.same I ?_)
   clear hs P; cases l with
   | nil=>obtain rfl:=h2; rfl
   | cons y r=>obtain ⟨_,_,rfl,_⟩:=h2; rfl
 cases v with
 | pv p =>
  cases p with
  | none=>clear lst; cases e; obtain rfl:=x; exact truthy_none (P.here I rfl)
  | bool c=>clear lst; cases e; obtain rfl:=x; exact wpAny_truthy_bool (P.here I rfl)
  | int i =>
   clear lst; cases e; obtain ⟨t,rfl⟩:=x
   refine truthy_int (P.here I ?_)
   by_cases h:i=0 <;> simp [h]
  | _=>exact lst e
 | _=>exact lst e
inductive aA6 (f:Int→Int→Option Int) (a b v:V) (σ σ' : aC):Prop
 | mk (x y z:Int) (ha:a = .pv (.int x)) (hb:b = .pv (.int y)) (hf:f x y=some z) (hv:v = .pv (.int z)) (hs:σ' = σ)
theorem aEE {f:Int→Int→Option Int} {a b v:V} (e:iP f a b σ=some (v,σ')):aA6 f a b v σ σ':=by
 cases a with
 | pv p =>
  cases p with
  | int x =>
   cases b with
   | pv q =>
    cases q with
    | int y =>
     have e:=(show (match f x y with | some z=>Rpure (V.pv (.int z)) | none=>Rno) σ=some (v,σ') from e)
     refine optE (o:=f x y) (fun h=>?_) fun z h=>?_
     ·rw [h] at e; exact nx e
     ·rw [h] at e; exact ⟨x,y,z,rfl,rfl,h,sp1 (a:=V.pv (.int z)) (b:=σ) e,sp2 (a:=V.pv (.int z)) (b:=σ) e⟩
    | _=>exact nx e
   | _=>exact nx e
  | _=>exact nx e
 | _=>exact nx e
theorem ints2R_ok {op:Operator} {f:Int→Int→Option Int} {a b v:V} {u u' : Value} {Q:Value→Shared→Prop} (e:iP f a b σ=some (v,σ')) (I:Inv w g G σ s.heap) (xa:VR G s.heap a u) (xb:VR G s.heap b u')
 (P:aP w g G σ' s (fun G h r=>VR G h v r) Q) (k:∀ {x y z:Int} {t t' : Tok},f x y=some z→(∀ t d tk,Q (.int z t) { s with drawn:=d,toks:=tk })→wpAny (MW w) A (binaryOp op (.int x t) (.int y t')) Q E s):wpAny (MW w) A (binaryOp op u u') Q E s:=by
 obtain ⟨x,y,z,ha,hb,hf,hv,hs⟩:=aEE e
 rw [ha] at xa
 rw [hb] at xb
 obtain ⟨t,z1⟩:=xa
 obtain ⟨t',z2⟩:=xb
 rw [z1,z2]
 exact k hf fun t d tk=>P.same (hs ▸ I) (hv ▸ (by exact ⟨_,rfl⟩))
theorem xK {x:Int} {k:Nat} (h:x.natAbs < 2 ^ k):Builtin.Int.intBits x ≤ k:=by
 unfold Builtin.Int.intBits
 split
 ·exact Nat.zero_le _
 ·rename_i hx
  have:x.natAbs ≠ 0:=by simpa using hx
  exact (Nat.log2_lt this).mpr h
theorem rL {x:Int} (h:x.natAbs < 2 ^ 63):Builtin.Int.intBits x ≤ 64:=Nat.le_trans (xK h) (by decide)
theorem aG9 {x:Int} {m:Nat} (h1:m ≤ 40) (h2:x.natAbs < 2 ^ 200):(Builtin.Int.intBits x:Int) * (Int.ofNat m) ≤ 2 ^ 27:=by
 have:=xK h2
 have h3:Builtin.Int.intBits x * m ≤ 200 * 40:=Nat.mul_le_mul this h1
 have h4:((Builtin.Int.intBits x * m:Nat):Int) ≤ ((200 * 40:Nat):Int):=Int.ofNat_le.mpr h3
 have h5:((Builtin.Int.intBits x * m:Nat):Int)=(Builtin.Int.intBits x:Int) * (Int.ofNat m):=by push_cast; rfl
 rw [← h5]
 exact Int.le_trans h4 (by decide)
theorem aDb {l b:Addr} {vs ws:List Value} {Q:Value→Shared→Prop} (hl:cL s.heap l vs) (hb:cL s.heap b ws)
 (h:Q (.ref s.heap.objs.size) { s with heap:=s.heap.push { cls:=.type "list",data:=.seq (vs++ws).toArray } }) (hsz:vs.length + ws.length ≤ sizeLine) :
 wpAny (MW w) A (binaryOp .Add (.ref l) (.ref b)) Q E s:=by
 obtain ⟨⟨cls,dd,data,sl⟩,ho,hc,n,hd⟩:=id hl
 obtain ⟨⟨cls2,dd2,data2,sl2⟩,ho2,hc2,n2,hd2⟩:=id hb
 simp only at hc hd hc2 hd2
 subst hc hd hc2 hd2
 have e:vs.toArray++ws.toArray=(vs++ws).toArray:=by simp
 refine concat_meets ⟨_,ho,rfl⟩ ⟨_,ho2,rfl⟩ noFill_list_add seq_list_add PySem.F.slot_list_add PySem.F.entry_list_add (PySem.F.args_list_add_2 _ _) (list_addW l b vs.toArray ws.toArray n n2 dd dd2 sl sl2 (by exact (hsz))) ⟨ho,ho2,?_⟩
 rw [e]; exact h
theorem aDc {t b:Addr} {vs ws:List Value} {Q:Value→Shared→Prop} (ht:cT s.heap t vs) (hb:cT s.heap b ws)
 (h0:vs=[]→Q (.ref b) s) (h1:ws=[]→Q (.ref t) s)
 (h2:Q (.ref s.heap.objs.size) { s with heap:=s.heap.push { cls:=.type "tuple",data:=.seq (vs++ws).toArray } }) (hsz:vs.length + ws.length ≤ sizeLine) :
 wpAny (MW w) A (binaryOp .Add (.ref t) (.ref b)) Q E s:=by
 obtain ⟨n,ho⟩:=ht
 obtain ⟨n2,ho2⟩:=hb
 have e:vs.toArray++ws.toArray=(vs++ws).toArray:=by simp
 by_cases hv:vs=[]
 ·exact concat_meets ⟨_,ho,rfl⟩ ⟨_,ho2,rfl⟩ noFill_tuple_add seq_tuple_add PySem.F.slot_tuple_add PySem.F.entry_tuple_add (PySem.F.args_tuple_add_2 _ _)
   (tuple_addW0 t b vs.toArray ws.toArray n n2 none none #[] #[] (by simp [hv])) ⟨ho,ho2,h0 hv⟩
 ·by_cases hw:ws=[]
  ·exact concat_meets ⟨_,ho,rfl⟩ ⟨_,ho2,rfl⟩ noFill_tuple_add seq_tuple_add PySem.F.slot_tuple_add PySem.F.entry_tuple_add (PySem.F.args_tuple_add_2 _ _)
    (tuple_addW1 t b vs.toArray ws.toArray n n2 none none #[] #[] (by simpa using hv) (by simp [hw])) ⟨ho,ho2,h1 hw⟩
  ·refine concat_meets ⟨_,ho,rfl⟩ ⟨_,ho2,rfl⟩ noFill_tuple_add seq_tuple_add PySem.F.slot_tuple_add PySem.F.entry_tuple_add (PySem.F.args_tuple_add_2 _ _)
    (tuple_addW2 t b vs.toArray ws.toArray n n2 none none #[] #[] (by simpa using hv) (by simpa using hw) (by rw [List.size_toArray,List.size_toArray]; exact hsz)) ⟨ho,ho2,?_⟩
   rw [e]; exact h2
theorem sI (I:Inv w g G σ s.heap) {l:List V} {us:List Value} (x:VRs G s.heap l us):VR G (s.heap.push { cls:=.type "list",data:=.seq us.toArray }) (mkVl l) (.ref s.heap.objs.size) :=
 lP I.new (cL.new _ _) (x.step (Stp.ext (X:=[]) (bG _ _)).car0)
theorem oG (I:Inv w g G σ s.heap) {l:List V} {us:List Value} (x:VRs G s.heap l us):VR G (s.heap.push { cls:=.type "tuple",data:=.seq us.toArray }) (mkTup l) (.ref s.heap.objs.size) :=
 lO I.new ⟨0,Heap.get?_push_size _ rfl⟩ (x.step (Stp.ext (X:=[]) (bG _ _)).car0)
theorem aBq {a b:V} {o:Option V} {C:Prop} (e:mS a b=some o) (i:∀ x y,a = .pv (.int x)→b = .pv (.int y)→o=some (.pv (.int (x + y)))→C)
 (t:∀ x y,a = .pv (.str x)→b = .pv (.str y)→o=(match small (x.cps.toList.length + y.cps.toList.length) with | true=>some (.pv (.str (x++y))) | false=>none)→C):C:=by
 cases a with
 | pv p =>
  cases p with
  | int x =>
   cases b with
   | pv q=>cases q with
    | int y=>exact i x y rfl rfl (so e)
    | _=>exact nx e
   | _=>exact nx e
  | str x =>
   cases b with
   | pv q=>cases q with
    | str y=>exact t x y rfl rfl (so e)
    | _=>exact nx e
   | _=>exact nx e
  | _=>exact nx e
 | _=>exact nx e
theorem aBr {a b v:V} {u u' : Value} {Q:Value→Shared→Prop} (e:d6 a b σ=some (v,σ')) (I:Inv w g G σ s.heap) (xa:VR G s.heap a u) (xb:VR G s.heap b u')
 (P:aP w g G σ' s (fun G h r=>VR G h v r) Q):wpAny (MW w) A (binaryOp .Add u u') Q E s:=by
 have e:=(show (match mS a b,bC a,bC b with | some o,_,_=>oneOf o | none,some x,some y=>oneOf (mT x y) | none,none,none=>uH a b | none,_,_=>Rno) σ=some (v,σ') from e)
 refine optE (o:=mS a b) (fun hp=>?_) fun o hp=>?_
 ·rw [hp] at e
  refine optE (o:=bC a) (fun ht=>?_) fun x ht=>?_
  ·cases ht' : bC b with
   | none =>
    rw [ht,ht'] at e
    obtain ⟨x,σ₁,h1,e1⟩:=aH (m:=lstOf a) e; clear e
    obtain ⟨y,σ₂,h2,e2⟩:=aH e1; clear e1
    obtain ⟨e3,z1⟩:=bB e2; clear e2; subst z1
    obtain ⟨z1,p,us,z2,hp2,hp3⟩:=eO I h1 xa; clear xa h1; subst z1 z2
    obtain ⟨z1,q,vs,z2,hq2,hq3⟩:=eO I h2 xb; clear xb h2; subst z1 z2
    refine boolF (b:=small (x.length + y.length)) (fun hs=>?_) fun hs=>?_
    ·rw [hs] at e3; exact nx e3
    ·rw [hs] at e3
     cases e3
     have hl:=hp3.len
     have hl':=hq3.len
     exact aDb hp2 hq2 (P.grown I (bG _ _) (sI I (hp3.append hq3))) (by rw [hl,hl']; exact fF (cR hs))
   | some y=>rw [ht,ht'] at e; exact nx e
  ·cases ht' : bC b with
   | none=>rw [ht,ht'] at e; exact nx e
   | some y =>
    rw [ht,ht'] at e
    obtain ⟨e1,z1⟩:=bB (show oneOf (mT x y) σ=_ from e); clear e; subst z1
    unfold mT at e1
    refine boolF (b:=small (x.length + y.length)) (fun hs=>?_) fun hs=>?_
    ·rw [hs] at e1; exact nx e1
    ·rw [hs] at e1
     cases e1
     obtain ⟨p,us,z1,hp1,hp2,hp3⟩:=eJ ht xa; clear xa ht; subst z1
     obtain ⟨q,vs,z1,hq1,hq2,hq3⟩:=eJ ht' xb; clear xb ht'; subst z1
     have hl:=hp3.len
     have hl':=hq3.len
     refine aDc hp2 hq2 (fun h=>P.here I ?_) (fun h=>P.here I ?_) (P.grown I (bG _ _) (oG I (hp3.append hq3))) (by rw [hl,hl']; exact fF (cR hs))
     ·clear hs P hp2 hp3; subst h
      have:x=[]:=List.length_eq_zero_iff.mp (by exact (hl.symm))
      clear hl; subst this
      exact lO hq1 hq2 (by exact (hq3))
     ·clear hs P hq2 hq3; subst h
      have:y=[]:=List.length_eq_zero_iff.mp (by exact (hl'.symm))
      clear hl'; subst this
      exact lO hp1 hp2 (by simpa using hp3)
 ·rw [hp] at e
  obtain ⟨e1,z1⟩:=bB (show oneOf o σ=_ from e); clear e; subst z1
  subst e1
  refine aBq hp (fun x y z1 z2 z3=>?_) fun x y z1 z2 z3=>?_
  ·clear hp; subst z1 z2; cases z3
   obtain ⟨t,rfl⟩:=xa; obtain ⟨t',rfl⟩:=xb
   exact add_int (P.same I (by exact ⟨_,rfl⟩))
  ·clear hp; subst z1 z2
   refine boolF (b:=small (x.cps.toList.length + y.cps.toList.length)) (fun hs=>?_) fun hs=>?_
   ·rw [hs] at z3; exact sn z3
   ·rw [hs] at z3
    cases z3
    obtain ⟨t,rfl⟩:=xa; obtain ⟨t',rfl⟩:=xb
    refine add_str (fun t' tk=>P.same I (by exact ⟨_,rfl⟩)) ?_
    show x.cps.size + y.cps.size ≤ _
    exact fF (cR hs)
section
variable {x y z:Int} {t t' : Tok} {Q:Value→Shared→Prop}
theorem aFR (hf:iW x y=some z) (q:∀ t d tk,Q (.int z t) { s with drawn:=d,toks:=tk }):wpAny (MW w) A (binaryOp .Mult (.int x t) (.int y t')) Q E s:=by
 unfold iW at hf
 refine boolF (b:=decide (x.natAbs < 2 ^ 63)) (fun h1=>?_) fun h1=>?_
 ·refine boolF (b:=decide (y.natAbs < 2 ^ 63)) (fun h2=>?_) fun h2=>?_
  ·rw [h1,h2] at hf; exact nx hf
  ·rw [h1,h2] at hf; exact mul_int (so hf ▸ q _ _ _) (IntMulOk.of_right (rL (of_decide_eq_true h2)))
 ·rw [h1] at hf; exact mul_int (so (c:=z) (a:=x * y) hf ▸ q _ _ _) (IntMulOk.of_left (rL (of_decide_eq_true h1)))
theorem aFQ (hf:iV x y=some z) (q:∀ t d tk,Q (.int z t) { s with drawn:=d,toks:=tk }):wpAny (MW w) A (binaryOp .Mod (.int x t) (.int y t')) Q E s:=by
 unfold iV at hf
 refine boolF (b:=decide (0 < y)) (fun h1=>?_) fun h1=>?_
 ·rw [h1] at hf; exact nx hf
 ·rw [h1] at hf
  have h1:=of_decide_eq_true h1
  have hz:z=Int.fmod x y:=(so hf).trans (Int.fmod_eq_emod_of_nonneg _ (Int.le_of_lt h1)).symm
  exact mod_int' (Int.ne_of_gt h1) (hz ▸ q _ _ _)
theorem aDo (hf:qR x y=some z) (q:∀ t d tk,Q (.int z t) { s with drawn:=d,toks:=tk }):wpAny (MW w) A (binaryOp .FloorDiv (.int x t) (.int y t')) Q E s:=by
 obtain ⟨h1,h2,hz⟩:=jK (a:=decide (0 < y)) (b:=decide (y.natAbs < 2 ^ 63)) hf
 have h1:=of_decide_eq_true h1
 have h2:=rL (of_decide_eq_true h2)
 have hz:z=Int.fdiv x y:=hz.trans (Int.fdiv_eq_ediv_of_nonneg _ (Int.le_of_lt h1)).symm
 refine floordiv_int (Int.ne_of_gt h1) (hz ▸ q _ _ _) (.inl ?_)
 clear q hf hz
 unfold Builtin.divisionGoesByPylong
 unfold Builtin.Int.intBits at h2
 have hy:(y == 0)=false:=beq_eq_false_iff_ne.mpr (Int.ne_of_gt h1)
 simp only [hy] at h2 ⊢
 have:y.natAbs.log2 / 30 + 1 ≤ 300:=by simp at h2; exact Nat.succ_le_succ (Nat.le_trans (Nat.div_le_div_right h2) (by decide))
 simp; exact fun q=>absurd this (Nat.not_le_of_lt q)
theorem aG8 (hf:j0 x y=some z) (q:∀ t d tk,Q (.int z t) { s with drawn:=d,toks:=tk }):wpAny (MW w) A (binaryOp .Pow (.int x t) (.int y t')) Q E s:=by
 cases y with
 | negSucc m=>exact nx hf
 | ofNat m =>
  obtain ⟨h1,h2,hz⟩:=jK (a:=Nat.ble m 40) (b:=decide (x.natAbs < 2 ^ 200)) hf
  exact pow_int (Int.natCast_nonneg _) (aG9 (Nat.le_of_ble_eq_true h1) (of_decide_eq_true h2)) (hz ▸ q _ _ _)
end
theorem u0 {op:Operator} {a b v:V} {u u' : Value} {Q:Value→Shared→Prop} (e:bS op a b σ=some (v,σ')) (I:Inv w g G σ s.heap) (xa:VR G s.heap a u) (xb:VR G s.heap b u')
 (P:aP w g G σ' s (fun G h r=>VR G h v r) Q):wpAny (MW w) A (binaryOp op u u') Q E s:=by
 cases op with
 | Sub=>exact ints2R_ok (f:=subR) e I xa xb P fun {x y z t t'} hf q=>sub_int ((so hf:z=x - y) ▸ q _ _ _)
 | Mult=>exact ints2R_ok (f:=iW) e I xa xb P aFR
 | Mod=>exact ints2R_ok (f:=iV) e I xa xb P aFQ
 | FloorDiv=>exact ints2R_ok (f:=qR) e I xa xb P aDo
 | Pow=>exact ints2R_ok (f:=j0) e I xa xb P aG8
 | Add=>exact aBr e I xa xb P
 | _=>exact nx e
theorem lK:∀ {x y:List Nat},dL x y=true ↔ y.take x.length=x
 | [],_=>⟨fun _=>rfl,fun _=>rfl⟩
 | _::_,[]=>⟨fun h=>ft h,fun h=>nomatch h⟩
 | a::x,b::y=>by
  show (match Nat.beq a b with | true=>dL x y | false=>false)=true ↔ _
  refine boolF (b:=Nat.beq a b) (fun h=>?_) fun h=>?_
  ·rw [h]
   exact ⟨fun q=>ft q,fun e=>absurd (List.cons.inj e).1.symm (Nat.ne_of_beq_eq_false h)⟩
  ·rw [h,Nat.eq_of_beq_eq_true h]
   exact lK.trans ⟨fun e=>congrArg (b::·) e,fun e=>(List.cons.inj e).2⟩
theorem xQ {x:List Nat}:∀ {y:List Nat},lL x y=true ↔ ∃ i,i + x.length ≤ y.length∧(y.drop i).take x.length=x
 | []=>by
  show dL x []=true ↔ _
  rw [lK]
  constructor
  ·intro h
   refine ⟨0,?_,h⟩
   rw [← h,List.take_nil]; exact Nat.le_refl _
  ·rintro ⟨i,h1,h2⟩
   rw [List.drop_nil] at h2; exact h2
 | a::y=>by
  show (match dL x (a::y) with | true=>true | false=>lL x y)=true ↔ _
  refine boolF (b:=dL x (a::y)) (fun h=>?_) fun h=>?_
  ·rw [h]
   refine xQ.trans ?_
   constructor
   ·rintro ⟨i,h1,h2⟩; exact ⟨i + 1,by rw [Nat.add_right_comm]; exact Nat.succ_le_succ h1,h2⟩
   ·rintro ⟨i,h1,h2⟩
    cases i with
    | zero=>rw [lK.mpr (show (a::y).take x.length=x from h2)] at h; exact tf h
    | succ i=>exact ⟨i,by rw [Nat.add_right_comm] at h1; exact Nat.le_of_succ_le_succ h1,h2⟩
  ·have:=lK.mp h
   rw [h]
   refine ⟨fun _=>⟨0,?_,this⟩,fun _=>rfl⟩
   rw [Nat.zero_add]
   exact el (congrArg List.length this).symm (List.length_take_le' _ _)
theorem aAT (x y:Str):(!(Builtin.Str.occurrences y x 0 y.length 1).isEmpty)=pM x.cps.toList y.cps.toList:=by
 rw [aAS]
 rw [Bool.eq_iff_iff,StrLaws.found_iff,xQ]
 constructor
 ·rintro ⟨i,h1,h2⟩
  refine ⟨i,by simpa [Str.length] using h1,?_⟩
  unfold Builtin.Str.subAt at h2
  have:=eq_of_beq h2
  have:=congrArg Array.toList this
  simpa [Array.toList_extract,Str.length] using this
 ·rintro ⟨i,h1,h2⟩
  refine ⟨i,by simpa [Str.length] using h1,?_⟩
  unfold Builtin.Str.subAt
  rw [beq_iff_eq]
  apply Array.toList_inj.mp
  simpa [Array.toList_extract,Str.length] using h2
theorem pJ (x:Str):∀ us:List (Str×Value),valueAt us x=look x us
 | []=>rfl
 | (y,v)::r=>by
  rw [eY]
  unfold valueAt
  rw [List.find?_cons]
  cases h:sEq y x with
  | false =>
   have : ¬ y=x:=fun e=>by rw [aK.mpr e] at h; exact tf h
   simp only [this,decide_false]
   have ih:=pJ x r
   unfold valueAt at ih
   exact ih
  | true=>have:=aK.mp h; clear h; subst this; simp
noncomputable def eS (x:Str):Value→Bool
 | .str y _=>y == x
 | _=>false
theorem pY (A:Around) (x:Str) (t:Tok):∀ {l:List V} {us:List Value} {b:Bool},VRs G s.heap l us→fO x l=some b→(∀ y,y ∈ us→EqAt A s y (.str x t) (eS x y))∧us.any (eS x)=b
 | [],us,b,h,e=>by obtain rfl:=h; cases e; exact ⟨fun _ h=>(nomatch h),rfl⟩
 | p::l,us,b,h,e=>by
  obtain ⟨u,r,rfl,h1,h2⟩:=h
  cases p with
  | pv p =>
   cases p with
   | str a =>
    have e:=(show (match sEq a x,fO x l with | true,some _=>some true | false,some b=>some b | _,none=>none)=some b from e)
    obtain ⟨t',rfl⟩:=h1
    cases hr:fO x l with
    | none=>rw [hr] at e; cases hs:sEq a x <;> rw [hs] at e <;> exact nx e
    | some b' =>
     obtain ⟨k1,k2⟩:=pY A x t h2 hr
     refine ⟨fun y hy=>?_,?_⟩
     ·rcases List.mem_cons.mp hy with rfl | hy
      ·exact EqAt.str_str a t' x t
      ·exact k1 y hy
     ·rw [List.any_cons,k2]
      show ((a == x) || b')=b
      rw [← lZ]
      rw [hr] at e
      cases hs:sEq a x <;> rw [hs] at e <;> cases e <;> rfl
   | _=>exact nx e
  | _=>exact nx e
theorem rR {a:V} {u:Value} {b:Bool} (x:VR G s.heap a u) (e:isNone a=some b):(u == .none)=b:=by
 ·cases a with
  | pv p =>
   cases p with
   | none=>obtain rfl:=x; exact (so e).symm
   | bool b=>obtain rfl:=x; exact (so e).symm
   | int b=>obtain ⟨_,rfl⟩:=x; exact (so e).symm
   | str b=>obtain ⟨_,rfl⟩:=x; exact (so e).symm
   | bytes b=>obtain ⟨_,rfl⟩:=x; exact (so e).symm
   | tup l=>obtain ⟨_,_,rfl,_⟩:=x; exact (so e).symm
   | lst l=>obtain ⟨_,_,rfl,_⟩:=x; exact (so e).symm
  | tup l=>obtain ⟨_,_,rfl,_⟩:=x; exact (so e).symm
  | vl l=>obtain ⟨_,_,rfl,_⟩:=x; exact (so e).symm
  | fz c as=>obtain ⟨_,_,_,rfl,_⟩:=x; exact (so e).symm
  | vd as=>obtain ⟨_,_,rfl,_⟩:=x; exact (so e).symm
  | ob i=>obtain ⟨_,_,rfl⟩:=x; exact (so e).symm
  | li i=>obtain ⟨_,_,rfl⟩:=x; exact (so e).symm
  | st v=>exact nx e
  | clo ps body sc capt=>obtain ⟨_,_,rfl,_⟩:=x; exact (so e).symm
theorem yP {x y:List V} {b:Bool} (e:iX x y=some b):(x=[]∨y=[])∧b=(x.length == y.length):=by
 cases x with
 | nil=>cases y with
  | nil=>exact ⟨.inl rfl,so e⟩
  | cons _ _=>exact ⟨.inl rfl,so e⟩
 | cons _ _=>cases y with
  | nil=>exact ⟨.inr rfl,so e⟩
  | cons _ _=>exact nx e
theorem aEJ {x:Str} {c:V} {r:Bool} {t:Tok} {u:Value} {Q Q' : Value→Shared→Prop} (e:rP x c σ=some (r,σ')) (I:Inv w g G σ s.heap) (xc:VR G s.heap c u) :
 (aP w g G σ' s (fun _ _ v=>v = .bool r) Q→wpAny (MW w) A (compareOp .In (.str x t) u) Q E s)∧(aP w g G σ' s (fun _ _ v=>v = .bool (!r)) Q'→wpAny (MW w) A (compareOp .NotIn (.str x t) u) Q' E s):=by
 have lst:∀ l a us,fO x l=some r→u = .ref a→cL s.heap a us→VRs G s.heap l us→σ' = σ→(aP w g G σ' s (fun _ _ v=>v = .bool r) Q→wpAny (MW w) A (compareOp .In (.str x t) u) Q E s)∧(aP w g G σ' s (fun _ _ v=>v = .bool (!r)) Q'→wpAny (MW w) A (compareOp .NotIn (.str x t) u) Q' E s):=by
  clear e xc; rintro l a us e0 rfl h1 h2 rfl
  obtain ⟨k1,k2⟩:=pY A.in1 x t h2 e0
  exact ⟨fun P=>in_listAt (eS x) h1.isList (by simpa using k1) (P.here I (by simp [k2])),fun P=>notIn_listAt (eS x) h1.isList (by simpa using k1) (P.here I (by simp [k2]))⟩
 have tup:∀ l a us,fO x l=some r→u = .ref a→cT s.heap a us→VRs G s.heap l us→σ' = σ→(aP w g G σ' s (fun _ _ v=>v = .bool r) Q→wpAny (MW w) A (compareOp .In (.str x t) u) Q E s)∧(aP w g G σ' s (fun _ _ v=>v = .bool (!r)) Q'→wpAny (MW w) A (compareOp .NotIn (.str x t) u) Q' E s):=by
  clear e xc lst; rintro l a us e0 rfl h1 h2 rfl
  obtain ⟨k1,k2⟩:=pY A.in1 x t h2 e0
  exact ⟨fun P=>in_tupleAt (eS x) h1.isTuple (by simpa using k1) (P.here I (by simp [k2])),fun P=>notIn_tupleAt (eS x) h1.isTuple (by simpa using k1) (P.here I (by simp [k2]))⟩
 have rest:(match bC c with | some l=>oneOf (fO x l) | none=>Rbind (lstOf c) fun l=>oneOf (fO x l)) σ=some (r,σ')→(aP w g G σ' s (fun _ _ v=>v = .bool r) Q→wpAny (MW w) A (compareOp .In (.str x t) u) Q E s)∧(aP w g G σ' s (fun _ _ v=>v = .bool (!r)) Q'→wpAny (MW w) A (compareOp .NotIn (.str x t) u) Q' E s):=by
  intro e
  refine optE (o:=bC c) (fun ht=>?_) fun l ht=>?_
  ·simp only [ht] at e
   obtain ⟨l,σ₁,h1,e1⟩:=aH (m:=lstOf c) e
   obtain ⟨e2,e3⟩:=bB e1
   obtain ⟨h0,a,us,h2,h3,h4⟩:=eO I h1 xc
   exact lst l a us e2 h2 h3 h4 (e3.trans h0)
  ·simp only [ht] at e
   obtain ⟨e1,e2⟩:=bB e
   obtain ⟨a,us,h0,_,h1,h2⟩:=eJ ht xc
   exact tup l a us e1 h0 h1 h2 e2
 clear lst tup; cases c with
 | pv p =>
  cases p with
  | str y =>
   clear rest; cases e
   obtain ⟨t',rfl⟩:=xc
   exact ⟨fun P=>PySem.P.in_str (P.here I (by rw [aAT])),fun P=>PySem.P.notIn_str (P.here I (by rw [aAT]))⟩
  | _=>exact rest e
 | vd as =>
  clear rest; cases e
  obtain ⟨d,us,rfl,_,⟨h1,h2⟩,h3⟩:=xc
  have hk:(xP (look x as))=(valueAt us x).isSome:=by
   rw [pJ]
   cases h:look x as with
   | none=>rw [h3.look_none h]; rfl
   | some v=>obtain ⟨u,q,_⟩:=h3.look h; rw [q]; rfl
  rw [I.pw] at h2
  exact ⟨fun P=>wpAny_in_of (knd:=PySem.strKind lw.row.prog w) (k:=x) (by simp [PySem.strKind,Value.isStrOf]) h1 h2.mapOf (P.same I (by rw [hk])),
   fun P=>wpAny_notIn_of (knd:=PySem.strKind lw.row.prog w) (k:=x) (by simp [PySem.strKind,Value.isStrOf]) h1 h2.mapOf (P.same I (by rw [hk]))⟩
 | _=>exact rest e
inductive aA5 (f:Int→Int→Bool) (a b:V) (r:Bool) (σ σ' : aC):Prop
 | mk (x y:Int) (ha:a = .pv (.int x)) (hb:b = .pv (.int y)) (hr:r=f x y) (hs:σ' = σ)
theorem aEF {f:Int→Int→Bool} {a b:V} {r:Bool} (e:ints2 f a b σ=some (r,σ')):aA5 f a b r σ σ':=by
 cases a with
 | pv p =>
  cases p with
  | int x =>
   cases b with
   | pv q =>
    cases q with
    | int y=>exact ⟨x,y,rfl,rfl,sp1 (a:=f x y) (b:=σ) e,sp2 (a:=f x y) (b:=σ) e⟩
    | _=>exact nx e
   | _=>exact nx e
  | _=>exact nx e
 | _=>exact nx e
theorem nR {a:V} {x:Int} {h:Heap} {u:Value} (z:a = .pv (.int x)) (xa:VR G h a u):∃ t,u = .int x t:=by rw [z] at xa; exact xa
theorem ints2_ok {op:CmpOp} {f:Int→Int→Bool} {a b:V} {r:Bool} {u u' : Value} {Q:Value→Shared→Prop} (e:ints2 f a b σ=some (r,σ')) (I:Inv w g G σ s.heap) (xa:VR G s.heap a u) (xb:VR G s.heap b u') (P:aP w g G σ' s (fun _ _ v=>v = .bool r) Q)
 (k:∀ {x y t t'},Q (.bool (f x y)) s→wpAny (MW w) A (compareOp op (.int x t) (.int y t')) Q E s):wpAny (MW w) A (compareOp op u u') Q E s:=by
 obtain ⟨x,y,ha,hb,hr,hs⟩:=aEF e
 obtain ⟨t,z⟩:=nR ha xa
 obtain ⟨t',z'⟩:=nR hb xb
 rw [z,z']
 exact k (P.here (hs ▸ I) (hr ▸ rfl))
theorem aEK {v c:V} {r:Bool} (e:isIn v c σ=some (r,σ')):∃ x,v = .pv (.str x)∧rP x c σ=some (r,σ'):=by
 cases v with
 | pv p =>
  cases p with
  | str x=>exact ⟨x,rfl,e⟩
  | _=>exact nx e
 | _=>exact nx e
theorem aDK {a b:V} {x y:List V} {r:Bool} (hn:iX x y=none) (e:hB a b x y=some r):∃ p q,a = .pv p∧b = .pv q∧pyEq p q=some true∧dep p ≤ 300∧r=true:=by
 unfold hB at e
 rw [hn] at e
 cases a with
 | pv p =>
  cases b with
  | pv q =>
   dsimp only at e
   refine optE (o:=pyEq p q) (fun he=>?_) fun k he=>?_
   ·rw [he] at e; exact nx e
   ·cases k with
    | false=>rw [he] at e; exact nx e
    | true =>
     refine boolF (b:=Nat.ble (dep p) 300) (fun hd=>?_) fun hd=>?_
     ·rw [he,hd] at e; exact nx e
     ·rw [he,hd] at e; cases e; exact ⟨p,q,rfl,rfl,he,Nat.le_of_ble_eq_true hd,rfl⟩
  | _=>exact nx e
 | _=>exact nx e
theorem yQ {p q:Addr} {us vs:List Value} {x y:List V} {r:Bool} {Q Q' : Value→Shared→Prop} (hu:A.units < cLine) (hp:cL s.heap p us) (hq:cL s.heap q vs) (hx:VRs G s.heap x us) (hy:VRs G s.heap y vs)
 (e:iX x y=some r):(Q (.bool r) s→wpAny (MW w) A (compareOp .Eq (.ref p) (.ref q)) Q E s)∧(Q' (.bool (!r)) s→wpAny (MW w) A (compareOp .NotEq (.ref p) (.ref q)) Q' E s):=by
 obtain ⟨h0,z1⟩:=yP e; clear e; subst z1
 have l1:=hx.len
 have l2:=hy.len
 by_cases hl:x.length=y.length
 ·have hn:us=[]∧vs=[]:=by
   clear hx hy; rcases h0 with rfl | rfl
   ·simp at hl l1; rw [← hl] at l2; exact ⟨l1,by simpa using l2⟩
   ·simp at hl l2; rw [hl] at l1; exact ⟨by simpa using l1,l2⟩
  clear hx hy l1 l2; obtain ⟨rfl,rfl⟩:=hn
  have hb:(x.length == y.length)=true:=by simpa using hl
  rw [hb]
  exact ⟨fun h=>eq_listAt (e:=fun _=>true) hp.isList hq.isList rfl hu (fun j h1 _=>by simp at h1) (by exact (h)),
   fun h=>RcNeAt.lists (e:=fun _=>true) hp.isList hq.isList rfl hu (fun j h1 _=>by simp at h1) lw.row.prog w E Q' (by exact (h))⟩
 ·have hb:(x.length == y.length)=false:=by simpa using hl
  have hs:(us.toArray.size != vs.toArray.size)=true:=by simp [l1,l2,hl]
  rw [hb]
  exact ⟨fun h=>eq_list_lengthsAt hp.isList hq.isList hs hu h,fun h=>RcNeAt.lists_lengths hp.isList hq.isList hs hu lw.row.prog w E Q' h⟩
section
variable {a b:V} {r:Bool} {u u' : Value} {Q:Value→Shared→Prop}
theorem aDL {p q:PV} (hp:flat p=true) (e0:pyEq p q=some r) (xa:PR G s.heap p u) (xb:PR G s.heap q u') (k:Q (.bool r) s):wpAny (MW w) A (compareOp .Eq u u') Q E s:=by
 cases p with
 | none =>
  cases q with
  | none=>rw [(xa:u = .none),(xb:u' = .none)]; exact EqNone.eq_none_none (so e0 ▸ k)
  | _=>exact nx e0
 | bool c =>
  cases q with
  | bool d=>rw [(xa:u = .bool c),(xb:u' = .bool d)]; exact eq_bool (so e0 ▸ k)
  | _=>exact nx e0
 | int c =>
  cases q with
  | int d =>
   obtain ⟨t,z⟩:=xa; obtain ⟨t',z'⟩:=xb
   have k:Q (.bool (decide (c=d))) s:=(so e0:r=decide (c=d)) ▸ k
   rw [z,z']; exact eq_int k
  | _=>exact nx e0
 | str c =>
  cases q with
  | str d =>
   obtain ⟨t,z⟩:=xa; obtain ⟨t',z'⟩:=xb
   rw [z,z']; exact eq_str (lZ ▸ (so e0:r=sEq c d) ▸ k)
  | _=>exact nx e0
 | bytes c =>
  cases q with
  | bytes d =>
   obtain ⟨t,z⟩:=xa; obtain ⟨t',z'⟩:=xb
   rw [z,z']; exact eq_bytes (qF ▸ (so e0:r=iI c.toList d.toList) ▸ k)
  | _=>exact nx e0
 | tup l=>exact ft hp
 | lst l=>exact ft hp
theorem aDO {x y:List V} (hu:A.units + 300 < cLine) (e:hB a b x y=some r) (ht:bC a=some x) (ht' : bC b=some y) (xa:VR G s.heap a u) (xb:VR G s.heap b u') (k:Q (.bool r) s):wpAny (MW w) A (compareOp .Eq u u') Q E s:=by
 obtain ⟨p,us,z,hp1,hp2,hp3⟩:=eJ ht xa
 obtain ⟨q,vs,z',hq1,hq2,hq3⟩:=eJ ht' xb
 cases hn:iX x y with
 | some k' =>
  have e1:r=k':=by unfold hB at e; rw [hn] at e; exact so e
  rw [z,z']
  clear xa xb ht ht' e hp1 hq1 z z'
  have l1:=hp3.len
  have l2:=hq3.len
  obtain ⟨h0,hk⟩:=yP hn
  refine eq_tupleAt (e:=fun _=>true) hp2.isTuple hq2.isTuple (Nat.lt_of_le_of_lt (Nat.le_add_right _ _) hu) (fun j h1 h2=>?_) ?_
  ·rw [List.size_toArray] at h1 h2
   rcases h0 with h0 | h0
   ·rw [l1,h0] at h1; exact absurd h1 (Nat.not_lt_zero _)
   ·rw [l2,h0] at h2; exact absurd h2 (Nat.not_lt_zero _)
  ·rw [pX]; simpa [l1,l2,e1,hk] using k
 | none =>
  obtain ⟨p',q',rfl,rfl,he,hd,hr⟩:=aDK hn e
  clear hp1 hp2 hp3 hq1 hq2 hq3 z z' e hn us vs p q
  cases p' with
  | tup l =>
   cases q' with
   | tup m =>
    obtain ⟨p1,us1,z,_,hp2,hl⟩:=xa
    obtain ⟨q1,vs1,z',_,hq2,hm⟩:=xb
    have hlen:us1.length=vs1.length:=hl.len.trans ((sZ he).trans hm.len.symm)
    have hd:bT l + 1 ≤ 300:=hd
    rw [z,z']
    refine eq_tupleAt (e:=fun _=>true) hp2.isTuple hq2.isTuple (Nat.lt_of_le_of_lt (Nat.le_add_right _ _) hu) (fun j h1 h2=>?_) ?_
    ·simpa using qX G s l m us1 vs1 A.in1 hl hm he (u1 (Nat.lt_of_le_of_lt (Nat.add_le_add_left hd _) hu)) j (by exact (h1)) (by exact (h2))
    ·rw [pX]; simpa [hlen,hr] using k
   | _=>exact nx ht'
  | _=>exact nx ht
theorem aDN (hu:A.units + 300 < cLine) (e:qY a b σ=some (r,σ')) (I:Inv w g G σ s.heap) (xa:VR G s.heap a u) (xb:VR G s.heap b u') (P:aP w g G σ' s (fun _ _ v=>v = .bool r) Q):wpAny (MW w) A (compareOp .Eq u u') Q E s:=by
 obtain ⟨x,σ₁,h1,e1⟩:=aH (m:=lstOf a) e; clear e
 obtain ⟨y,σ₂,h2,e2⟩:=aH e1; clear e1
 obtain ⟨e3,z1⟩:=bB e2; clear e2
 obtain ⟨z2,p,us,z,hp2,hp3⟩:=eO I h1 xa
 obtain ⟨z3,q,vs,z',hq2,hq3⟩:=eO (z2 ▸ I) h2 xb
 rw [z,z']
 exact (yQ (Q':=Q) (Nat.lt_of_le_of_lt (Nat.le_add_right _ _) hu) hp2 hq2 hp3 hq3 e3).1 (P.here (z1 ▸ z3 ▸ z2 ▸ I) rfl)
theorem aF0 (hu:A.units + 300 < cLine) (e:sG a b σ=some (r,σ')) (I:Inv w g G σ s.heap) (xa:VR G s.heap a u) (xb:VR G s.heap b u') (P:aP w g G σ' s (fun _ _ v=>v = .bool r) Q):wpAny (MW w) A (compareOp .NotEq u u') Q E s:=by
 obtain ⟨x,σ₁,h1,e1⟩:=aH (m:=lstOf a) e; clear e
 obtain ⟨y,σ₂,h2,e2⟩:=aH e1; clear e1
 obtain ⟨k,σ₃,h3,e3⟩:=aH e2; clear e2
 obtain ⟨e4,z1⟩:=bB h3; clear h3
 obtain ⟨zr,z4⟩:=fZ e3; clear e3
 obtain ⟨z2,p,us,z,hp2,hp3⟩:=eO I h1 xa
 obtain ⟨z3,q,vs,z',hq2,hq3⟩:=eO (z2 ▸ I) h2 xb
 rw [z,z']
 exact (yQ (Q:=Q) (Q':=Q) (Nat.lt_of_le_of_lt (Nat.le_add_right _ _) hu) hp2 hq2 hp3 hq3 e4).2 (P.here (z4 ▸ z1 ▸ z3 ▸ z2 ▸ I) (zr ▸ rfl))
theorem xO (e:isIn a b σ=some (r,σ')) (I:Inv w g G σ s.heap) (xa:VR G s.heap a u) (xb:VR G s.heap b u') {Q' : Value→Shared→Prop} :
 (aP w g G σ' s (fun _ _ v=>v = .bool r) Q→wpAny (MW w) A (compareOp .In u u') Q E s)∧(aP w g G σ' s (fun _ _ v=>v = .bool (!r)) Q'→wpAny (MW w) A (compareOp .NotIn u u') Q' E s):=by
 obtain ⟨x,z,e1⟩:=aEK e
 rw [z] at xa
 obtain ⟨t,z1⟩:=xa
 exact z1 ▸ aEJ e1 I xb
theorem yT (hb:isNone b=some true) (xb:VR G s.heap b u'):u' = .none:=eq_of_beq (rR xb hb)
inductive EqI (a b:V) (r:Bool) (σ σ' : aC):Prop
 | flat (p q:PV) (ha:a = .pv p) (hb:b = .pv q) (h1:flat p=true) (h:pyEq p q=some r) (hs:σ' = σ)
 | tup (x y:List V) (ha:bC a=some x) (hb:bC b=some y) (h:hB a b x y=some r) (hs:σ' = σ)
 | lst (h:qY a b σ=some (r,σ'))
theorem aDJ {o:Option Bool} (h:qZ a b=some o):∃ p q,a = .pv p∧b = .pv q∧flat p=true∧pyEq p q=o:=by
 cases a with
 | pv p =>
  cases b with
  | pv q =>
   have h:=(show (match flat p,flat q with
    | true,true=>some (pyEq p q)
    | _,_=>none)=some o from h)
   obtain ⟨h1,_,h3⟩:=jK h
   exact ⟨p,q,rfl,rfl,h1,h3.symm⟩
  | _=>exact nx h
 | _=>exact nx h
theorem aDM (e:nE a b σ=some (r,σ')):EqI a b r σ σ':=by
 unfold nE at e
 cases hE:qZ a b with
 | some o =>
  rw [hE] at e
  obtain ⟨p,q,ha,hb,h1,h⟩:=aDJ hE
  obtain ⟨e1,e2⟩:=bB e
  exact .flat p q ha hb h1 (h.trans e1) e2
 | none =>
  rw [hE] at e
  cases ht:bC a with
  | some x =>
   cases ht' : bC b with
   | none=>rw [ht,ht'] at e; exact nx e
   | some y =>
    rw [ht,ht'] at e
    obtain ⟨e1,e2⟩:=bB e
    exact .tup x y ht ht' e1 e2
  | none =>
   cases ht' : bC b with
   | some y=>rw [ht,ht'] at e; exact nx e
   | none=>rw [ht,ht'] at e; exact .lst e
inductive NeI (a b:V) (r:Bool) (σ σ' : aC):Prop
 | int (x y:Int) (ha:a = .pv (.int x)) (hb:b = .pv (.int y)) (h:r = !decide (x=y)) (hs:σ' = σ)
 | str (x y:Str) (ha:a = .pv (.str x)) (hb:b = .pv (.str y)) (h:r = !sEq x y) (hs:σ' = σ)
 | lst (h:sG a b σ=some (r,σ'))
theorem aFZ (e:qK a b σ=some (r,σ')):NeI a b r σ σ':=by
 cases a with
 | pv p =>
  cases p with
  | int x =>
   cases b with
   | pv q =>
    cases q with
    | int y=>exact .int x y rfl rfl (sp1 (b:=σ) e) (sp2 (a:=!decide (x=y)) e)
    | _=>exact .lst e
   | _=>exact .lst e
  | str x =>
   cases b with
   | pv q =>
    cases q with
    | str y=>exact .str x y rfl rfl (sp1 (b:=σ) e) (sp2 (a:=!sEq x y) e)
    | _=>exact .lst e
   | _=>exact .lst e
  | _=>exact .lst e
 | _=>exact .lst e
theorem xR {o:Option Bool} (e:oneOf (match isNone b with | some true=>o | _=>none) σ=some (r,σ')):isNone b=some true∧o=some r∧σ' = σ:=by
 obtain ⟨e1,e2⟩:=bB e
 rcases hb:isNone b with _ | (_ | _) <;> rw [hb] at e1 <;> first | exact nx e1 | exact ⟨rfl,e1,e2⟩
end
theorem aCY {op:CmpOp} {a b:V} {r:Bool} {u u' : Value} {Q:Value→Shared→Prop} (e:cmp op a b σ=some (r,σ')) (hR:aU n A) (I:Inv w g G σ s.heap) (xa:VR G s.heap a u) (xb:VR G s.heap b u')
 (P:aP w g G σ' s (fun _ _ v=>v = .bool r) Q):wpAny (MW w) A (compareOp op u u') Q E s:=by
 have hu:A.units + 300 < cLine:=Nat.lt_of_le_of_lt (Nat.add_le_add_right (Nat.le_trans (Nat.le_add_right _ _) hR.2.1) 300) (by unfold cLine; decide)
 cases op with
 | Lt=>exact ints2_ok (f:=fun x y=>decide (x < y)) e I xa xb P fun q=>wpAny_lt_int q
 | LtE=>exact ints2_ok (f:=fun x y=>decide (x ≤ y)) e I xa xb P fun q=>le_int q
 | Gt=>exact ints2_ok (f:=fun x y=>decide (x > y)) e I xa xb P fun q=>gt_int q
 | GtE=>exact ints2_ok (f:=fun x y=>decide (x ≥ y)) e I xa xb P fun q=>ge_int q
 | Is =>
  obtain ⟨hb,e1,z⟩:=xR (b:=b) (o:=isNone a) e
  exact yT hb xb ▸ is_none_gen (P.here (z ▸ I) (by rw [rR xa e1]))
 | IsNot =>
  obtain ⟨hb,e1,z⟩:=xR (b:=b) (o:=notO (isNone a)) e
  refine optE (o:=isNone a) (fun ha=>?_) fun k ha=>?_
  ·rw [ha] at e1; exact nx e1
  ·rw [ha] at e1
   exact yT hb xb ▸ isnot_none_gen (P.here (z ▸ I) (by rw [rR xa ha,so e1]))
 | In=>exact (xO (Q':=Q) e I xa xb).1 P
 | NotIn =>
  obtain ⟨k,σ₁,e1,e2⟩:=aH (m:=isIn a b) e
  obtain ⟨z1,z2⟩:=fZ e2
  exact (xO (Q:=Q) e1 I xa xb).2 (z2 ▸ z1 ▸ P)
 | Eq =>
  rcases aDM (show nE a b σ=some (r,σ') from e) with ⟨p,q,ha,hb,h1,h,z⟩ | ⟨x,y,ht,ht',h,z⟩ | h
  ·exact aDL h1 h (ha ▸ xa:VR G s.heap (.pv p) u) (hb ▸ xb:VR G s.heap (.pv q) u') (P.here (z ▸ I) rfl)
  ·exact aDO hu h ht ht' xa xb (P.here (z ▸ I) rfl)
  ·exact aDN hu h I xa xb P
 | NotEq =>
  rcases aFZ (show qK a b σ=some (r,σ') from e) with ⟨x,y,ha,hb,h,z⟩ | ⟨x,y,ha,hb,h,z⟩ | h
  ·obtain ⟨t,z1⟩:=nR ha xa
   obtain ⟨t',z2⟩:=nR hb xb
   exact z1 ▸ z2 ▸ ne_int (P.here (z ▸ I) (h ▸ rfl))
  ·obtain ⟨t,z1⟩:=(ha ▸ xa:VR G s.heap (.pv (.str x)) u)
   obtain ⟨t',z2⟩:=(hb ▸ xb:VR G s.heap (.pv (.str y)) u')
   exact z1 ▸ z2 ▸ ne_str (P.here (z ▸ I) (by rw [h,lZ]; rfl))
  ·exact aF0 hu h I xa xb P
theorem rT {α:Type} {l:List α} {k:Int} {c:α} (e:item l k=some c):∃ j,seqIndex? k l.length=some j∧l[j]? = some c:=by
 unfold item at e
 split at e
 ·rename_i n
  have hn:n < l.length:=(List.getElem?_eq_some_iff.mp e).1
  refine ⟨n,?_,e⟩
  unfold seqIndex?
  have h1 : ¬ (Int.ofNat n < 0):=by simp
  simp only [h1,if_false]
  have h2:(decide (0 ≤ Int.ofNat n) && decide (Int.ofNat n < (l.length:Int)))=true:=by simp; exact hn
  rw [if_pos h2]
  rfl
 ·rename_i n
  split at e
  ·rename_i hb
   have hb:=Nat.le_of_ble_eq_true hb
   refine ⟨_,?_,e⟩
   unfold seqIndex?
   have h1:Int.negSucc n < 0:=Int.negSucc_lt_zero n
   simp only [h1,if_true]
   have h3:Int.negSucc n + (l.length:Int)=((l.length - (n + 1):Nat):Int):=by rw [Int.ofNat_sub hb,Int.negSucc_eq,Int.add_comm]; rfl
   rw [h3]
   have h2:(decide (0 ≤ ((l.length - (n + 1):Nat):Int)) && decide (((l.length - (n + 1):Nat):Int) < (l.length:Int)))=true:=by simp; exact Nat.sub_lt (Nat.lt_of_lt_of_le n.succ_pos hb) n.succ_pos
   rw [if_pos h2]
   simp
  ·exact nx e
theorem iC {k:Int} (e:smallI k=true) : -1000000 ≤ k∧k ≤ 1000000:=by
 have:=cR (n:=k.natAbs) e
 lia
theorem aI0 (slice:Expr) (o i:Value):∃ ops,subscripted slice false o i=operate ops (getItem o i):=by
 cases slice with
 | Slice a b c p=>cases c <;> exact ⟨_,rfl⟩
 | _=>exact ⟨_,rfl⟩
theorem i7 {value slice:Expr} {o i:Value} {T id:String} {Q:Value→Shared→Prop} (hT:s.TypeIs o T)
 (hl:typeLookup (.type T) "__getitem__" = pure (some (.builtin id))) (hg:wpAny (MW w) A (getItem o i) Q E s):wpAny (MW w) A (subscriptTail value slice o i) Q E s:=by
 obtain ⟨ops,h⟩:=aI0 slice o i
 exact tail_any hT hl hg h
section
variable {value slice:Expr} {v r:V} {u:Value} {k:Int} {t:Tok} {Q:Value→Shared→Prop}
theorem aET (hb:smallI k=true) (e:Rbind (lstOf v) (fun l=>oneOf (item l k)) σ=some (r,σ')) (I:Inv w g G σ s.heap) (xv:VR G s.heap v u) (P:aP w g G σ' s (fun G h r'=>VR G h r r') Q):wpAny (MW w) A (subscriptTail value slice u (.int k t)) Q E s:=by
 have hb:=iC hb
 obtain ⟨l,σ₁,h1,e1⟩:=aH e; clear e
 obtain ⟨e2,z1⟩:=bB e1; clear e1; subst z1
 obtain ⟨z1,a,us,z2,h2,h3⟩:=eO I h1 xv; clear xv h1; subst z1 z2
 obtain ⟨j,hj,hc⟩:=rT e2
 obtain ⟨x,hx,hr⟩:=h3.get hc
 have P1:=P.here I hr
 rw [← h3.len] at hj
 clear hc h3 P I hr e2
 refine i7 h2.isList.typeIs list_getitem_lookup ?_
 unfold seqIndex? at hj
 by_cases h0:k < 0
 ·simp only [h0,if_true] at hj
  split at hj
  ·rename_i hd
   cases hj
   simp only [Bool.and_eq_true,decide_eq_true_eq] at hd
   exact wpAny_getItem_list_neg h2.isList h0 (by simp; lia) (b63 hb).1 (by simpa using hx) P1
  ·exact nx hj
 ·simp only [h0,if_false] at hj
  split at hj
  ·cases hj
   exact wpAny_getItem_list h2.isList (Int.not_lt.mp h0) (b63 hb).2 (by simpa using hx) P1
  ·exact nx hj
theorem IsTup.of {h:Heap} {a:Addr} {us:List Value} (x:cT h a us):IsTup h a us.toArray:=let ⟨n,q⟩:=x; ⟨_,q,rfl,n,rfl⟩
theorem aEU (hb:smallI k=true) (e:(match bC v with | some l=>oneOf (item l k) | none=>Rbind (lstOf v) fun l=>oneOf (item l k)) σ=some (r,σ')) (I:Inv w g G σ s.heap) (xv:VR G s.heap v u) (P:aP w g G σ' s (fun G h r'=>VR G h r r') Q):wpAny (MW w) A (subscriptTail value slice u (.int k t)) Q E s:=by
 refine optE (o:=bC v) (fun ht=>?_) fun l ht=>?_
 ·rw [ht] at e; exact aET hb e I xv P
 ·rw [ht] at e
  have hb:=iC hb
  obtain ⟨e2,z1⟩:=bB e; clear e; subst z1
  obtain ⟨a,us,z1,_,h2,h3⟩:=eJ ht xv; clear xv ht; subst z1
  obtain ⟨j,hj,hc⟩:=rT e2; clear e2
  obtain ⟨x,hx,hr⟩:=h3.get hc
  rw [← h3.len] at hj
  exact i7 (IsTup.of h2).typeIs slot_tuple_getitem.lookup (PyProof.Rows.getItem_tuple (IsTup.of h2) (b63 hb).1 (b63 hb).2 (by exact (hj)) (by simpa using hx) (P.here I hr))
theorem aES (hb:smallI k=true) (e:hS v k σ=some (r,σ')) (I:Inv w g G σ s.heap) (xv:VR G s.heap v u) (P:aP w g G σ' s (fun G h r'=>VR G h r r') Q):wpAny (MW w) A (subscriptTail value slice u (.int k t)) Q E s:=by
 have rest:(match bC v with | some l=>oneOf (item l k) | none=>Rbind (lstOf v) fun l=>oneOf (item l k)) σ=some (r,σ')→wpAny (MW w) A (subscriptTail value slice u (.int k t)) Q E s:=fun e=>aEU hb e I xv P
 cases v with
 | pv p =>
  cases p with
  | str x =>
   clear rest
   have hb:=iC hb
   obtain ⟨e2,z1⟩:=bB (o:=qH x k) e; clear e; subst z1
   unfold qH at e2
   refine optE (o:=item x.cps.toList k) (fun hi=>?_) fun c hi=>?_
   ·rw [hi] at e2; exact nx e2
   ·rw [hi] at e2
    obtain ⟨j,hj,hc⟩:=rT hi
    obtain ⟨t',z⟩:=xv
    refine z ▸ i7 (T:="str") rfl PySem.F.slot_str_getitem.lookup (getItem_str (by simpa using b63 hb) (c:=c) ?_ (P.same I (so e2 ▸ (by exact ⟨_,rfl⟩))))
    rw [show x.length=x.cps.toList.length from Array.length_toList.symm,hj]
    simpa using hc
  | _=>exact rest e
 | _=>exact rest e
end
theorem aEi {value slice:Expr} {v k r:V} {u u' : Value} {Q:Value→Shared→Prop} (e:idx v k σ=some (r,σ')) (I:Inv w g G σ s.heap) (xv:VR G s.heap v u) (xk:VR G s.heap k u')
 (P:aP w g G σ' s (fun G h r'=>VR G h r r') Q):wpAny (MW w) A (subscriptTail value slice u u') Q E s:=by
 cases k with
 | pv p =>
  cases p with
  | int k =>
   obtain ⟨t,z⟩:=xk
   have e' : (match smallI k with | true=>hS v k | false=>Rno) σ=some (r,σ'):=e
   refine boolF (b:=smallI k) (fun hk=>?_) fun hk=>?_
   ·rw [hk] at e'; exact nx e'
   ·rw [hk] at e'; exact z ▸ aES hk e' I xv P
  | str k =>
   obtain ⟨t,z⟩:=xk
   have e' : w2 v k σ=some (r,σ'):=e
   clear e; cases v with
   | vd as =>
    obtain ⟨e2,z1⟩:=bB (o:=look k as) e'; clear e'; subst z1
    obtain ⟨d,us,z2,_,⟨h1,h2⟩,h3⟩:=xv
    obtain ⟨x,hx,hr⟩:=h3.look e2
    rw [I.pw] at h2
    exact z ▸ z2 ▸ i7 h2.typeIs slot_dict_getitem.lookup (wpAny_getItem_of (knd:=PySem.strKind lw.row.prog w) (k:=k) (by simp [PySem.strKind,Value.isStrOf]) h2.mapOf (by rw [pJ]; exact hx) (P.same I hr))
   | _=>exact nx e'
  | _=>exact nx e
 | _=>exact nx e
noncomputable def eU (o:Option Nat) (u:Value):Prop:=match o with
 | none=>u = .none
 | some k=>k ≤ 1000000∧∃ t,u = .int (Int.ofNat k) t
abbrev l9 (ul uh:Value):Obj:={ cls:=.type "slice",data:=.fields #[ul,uh,.none] }
theorem aJZ {t sl:Addr} {items:Array Value} {u:Tok} {Q:Value→Shared→Prop} (ht:IsTup s.heap t items) (hs:s.heap.IsSliceOf sl (.int ((0:Nat):Int) u) .none .none)
 (h:Q (.ref t) s):wpAny (MW w) A (getItem (.ref t) (.ref sl)) Q E s:=by
 have hTs:s.TypeIs (.ref sl) "slice":=let ⟨os,hos,hcs,_⟩:=hs; ⟨os,hos,hcs⟩
 unfold getItem
 try with_reducible refine wpAny_holding ?_
 first | refine wpAny_bind (wpAny_pure ?_) | skip
 refine wpAny_bind (wpAny_sequenceKey ht.typeIs (by decide) ?_)
 refine wpAny_bind (wpAny_callSpecial?_slot (name:=Str.ofString "__getitem__") ht.typeIs slot_tuple_getitem
  (wpAny_call_entry slot_tuple_getitem ht.typeIs entry_tuple_getitem ?_ (args_tuple_getitem _ _)))
 show wpAny _ _ (Builtin.Tuple.tupleItemsOf (.ref t) >>= _) _ _ s
 refine wpAny_bind (tupleItemsOf_ ht ?_)
 refine wpAny_bind (wpAny_typeOf hTs ?_)
 rw [if_pos (by decide)]
 refine wpAny_bind (sliceApplied_from hs (Nat.zero_le _) ?_)
 have hyes:((((0:Nat):Int) == 0 && (1:Int) == 1 && (items.size - 0) == items.size)=true):=by simp
 show wpAny _ _ (if (((0:Nat):Int) == 0 && (1:Int) == 1 && (items.size - 0) == items.size)=true then _ else _) _ _ s
 rw [if_pos hyes]
 obtain ⟨o,ho,hc,n,hd⟩:=ht
 have hT:s.TypeIs (.ref t) "tuple":=⟨o,ho,hc⟩
 refine wpAny_bind ?_
 unfold Builtin.Tuple.tupleIsExact
 refine wpAny_bind (wpAny_typeOf hT (wpAny_pure ?_))
 rw [if_pos (by decide)]
 exact wpAny_bind (wpAny_rule (wpAny_pure ⟨_,rfl,wpAny_pure h⟩))
inductive aA2 (l:List V) (lo hi:Option Nat) (r:V):Prop
 | mk (k:Nat) (h1:lo=none) (h2:hi=some k) (h3:small l.length=true) (h4:r=mkVl (l.take k))
theorem aDf {l:List V} {lo hi:Option Nat} {r:V} (e:gC l lo hi=some r):aA2 l lo hi r:=by
 cases lo with
 | some _=>exact nx e
 | none =>
  cases hi with
  | none=>exact nx e
  | some k =>
   refine boolF (b:=small l.length) (fun hs=>?_) fun hs=>?_
   ·unfold gC at e; rw [hs] at e; exact nx e
   ·unfold gC at e; rw [hs] at e; exact ⟨k,rfl,rfl,hs,so e⟩
inductive aA3 (l:List V) (lo hi:Option Nat) (r:V):Prop
 | mk (k:Nat) (h1:lo=some k) (h2:hi=none) (h3:small l.length=true) (h4:k ≤ l.length) (h5:r=mkTup (l.drop k))
theorem aDg {l:List V} {lo hi:Option Nat} {r:V} (e:jN l lo hi=some r):aA3 l lo hi r:=by
 cases lo with
 | none=>exact nx e
 | some k =>
  cases hi with
  | some _=>exact nx e
  | none =>
   refine boolF (b:=small l.length) (fun hs=>?_) fun hs=>?_
   ·unfold jN at e; rw [hs] at e; exact nx e
   ·unfold jN at e; rw [hs] at e
    have e:=(show (match Nat.ble k l.length with | true=>some (mkTup (l.drop k)) | false=>none)=some r from e)
    refine boolF (b:=Nat.ble k l.length) (fun hk=>?_) fun hk=>?_
    ·rw [hk] at e; exact nx e
    ·rw [hk] at e; exact ⟨k,rfl,rfl,hs,Nat.le_of_ble_eq_true hk,so e⟩
section
variable {value slice:Expr} {v r:V} {u ul uh:Value} {lo hi:Option Nat} {Q:Value→Shared→Prop} {sl:Addr}
theorem aIr (e:Rbind (lstOf v) (fun l=>oneOf (gC l lo hi)) σ=some (r,σ')) (I:Inv w g G σ s.heap) (xv:VR G s.heap v u) (hl:eU lo ul) (hh:eU hi uh) (hsl:s.heap.IsSliceOf sl ul uh .none)
 (P:aP w g G σ' s (fun G h r'=>VR G h r r') Q):wpAny (MW w) A (subscriptTail value slice u (.ref sl)) Q E s:=by
 obtain ⟨l,σ₁,h1,e1⟩:=aH e; clear e
 obtain ⟨e2,z1⟩:=bB e1; clear e1; subst z1
 obtain ⟨z1,a,us,z2,h2,h3⟩:=eO I h1 xv; clear xv h1; subst z1 z2
 obtain ⟨k,z1,z2,hs,hr⟩:=aDf e2; clear e2; subst z1 z2
 obtain ⟨hk,t,z⟩:=hh; subst z hl
 have hsz:us.toArray.size ≤ 1000000:=List.size_toArray ▸ h3.len ▸ cR hs
 refine i7 h2.isList.typeIs list_getitem_lookup (wpAny_getItem_list_slice h2.isList hsl .none (.int _ _) .none (by simp) ?_ (fF hsz))
 rw [show slicePick us.toArray none (some (Int.ofNat k)) none=(us.take k).toArray from by simpa using slicePick_upto' us.toArray k]
 exact P.grown I (bG _ _) (hr ▸ sI I h3.take)
theorem aIt (e:(match bC v with | some l=>oneOf (jN l lo hi) | none=>Rbind (lstOf v) fun l=>oneOf (gC l lo hi)) σ=some (r,σ')) (I:Inv w g G σ s.heap) (xv:VR G s.heap v u) (hl:eU lo ul) (hh:eU hi uh) (hsl:s.heap.IsSliceOf sl ul uh .none)
 (P:aP w g G σ' s (fun G h r'=>VR G h r r') Q):wpAny (MW w) A (subscriptTail value slice u (.ref sl)) Q E s:=by
 refine optE (o:=bC v) (fun ht=>?_) fun l ht=>?_
 ·rw [ht] at e; exact aIr e I xv hl hh hsl P
 ·rw [ht] at e
  obtain ⟨e2,z1⟩:=bB e; clear e; subst z1
  obtain ⟨a,us,z1,ha,h2,h3⟩:=eJ ht xv; clear xv ht; subst z1
  obtain ⟨k,z1,z2,hs,hkl,hr⟩:=aDg e2; clear e2; subst z1 z2
  obtain ⟨hk,t,z⟩:=hl; subst z hh
  have hsz:us.toArray.size ≤ 1000000:=List.size_toArray ▸ h3.len ▸ cR hs
  have hkz:k ≤ us.toArray.size:=List.size_toArray ▸ h3.len ▸ hkl
  refine i7 (IsTup.of h2).typeIs slot_tuple_getitem.lookup ?_
  by_cases hk0:k=0
  ·clear hsz hkz hkl hk; subst hk0
   exact aJZ (IsTup.of h2) hsl (P.here I (hr ▸ lO ha h2 h3))
  ·exact getItem_tuple_from (a:=k) (IsTup.of h2) hsl (Nat.pos_of_ne_zero hk0) hkz (P.grown I (bG _ _) (hr ▸ oG I h3.drop)) (fF hsz)
end
theorem eU.int {k:Nat} {u:Value} (x:eU (some k) u):∃ t,u = .int (Int.ofNat k) t:=x.2
theorem aIv {x:Str} {t:Tok} {ul uh:Value} {lo hi:Option Nat} {Q:Value→Shared→Prop} (hxl:x.length ≤ sizeLine) (hl:eU lo ul) (hh:eU hi uh)
 (fin:∀ h' t' k,((∀ b o,s.heap.get? b=some o→h'.get? b=some o)∧s.heap.objs.size ≤ h'.objs.size)→Q (.str (Txt.slice x (toI lo) (toI hi)) t') { s with heap:=h',toks:=k }) :
 ItemOn (MW w) A E (.str x t) (.ref s.heap.objs.size) Q { s with heap:=s.heap.push (l9 ul uh) }:=by
 have hK:KeptH (fun h' : Heap=>(∀ b o,s.heap.get? b=some o→h'.get? b=some o)∧s.heap.objs.size ≤ h'.objs.size):=fun h ob hp=>⟨fun b o q=>bG _ _ _ _ (hp.1 b o q),Nat.le_trans hp.2 (lW _ _)⟩
 have h0:(fun h' : Heap=>(∀ b o,s.heap.get? b=some o→h'.get? b=some o)∧s.heap.objs.size ≤ h'.objs.size) s.heap:=⟨fun _ _ q=>q,Nat.le_refl _⟩
 match lo,hi,hl,hh,fin with
 | none,none,hl,hh,fin=>rw [show ul = .none from hl,show uh = .none from hh]; exact SBH.sliceItem_nn hK h0 fin hxl
 | none,some k,hl,hh,fin=>obtain ⟨_,z⟩:=hh.int; rw [show ul = .none from hl,z]; exact SBH.sliceItem_ns hK h0 fin hxl
 | some j,none,hl,hh,fin=>obtain ⟨_,z⟩:=hl.int; rw [show uh = .none from hh,z]; exact SBH.sliceItem_sn hK h0 fin hxl
 | some j,some k,hl,hh,fin=>obtain ⟨_,z⟩:=hl.int; obtain ⟨_,z'⟩:=hh.int; rw [z,z']; exact SBH.sliceItem_ss hK h0 fin hxl
theorem aIs {value slice:Expr} {v r:V} {u ul uh:Value} {lo hi:Option Nat} {Q:Value→Shared→Prop} (e:i6 v lo hi σ=some (r,σ')) (I:Inv w g G σ s.heap) (xv:VR G s.heap v u) (hl:eU lo ul) (hh:eU hi uh)
 (P:aP w g G σ' s (fun G h r'=>VR G h r r') Q):wpAny (MW w) A (subscriptTail value slice u (.ref s.heap.objs.size)) Q E { s with heap:=s.heap.push (l9 ul uh) }:=by
 have rest:(match bC v with | some l=>oneOf (jN l lo hi) | none=>Rbind (lstOf v) fun l=>oneOf (gC l lo hi)) σ=some (r,σ')→wpAny (MW w) A (subscriptTail value slice u (.ref s.heap.objs.size)) Q E { s with heap:=s.heap.push (l9 ul uh) }:=fun e =>
  have k1:=bG s.heap (l9 ul uh)
  aIt (s:={ s with heap:=s.heap.push (l9 ul uh) }) e (I.ext k1) (xv.step (Stp.ext (X:=[]) k1).car0) hl hh ⟨_,Heap.get?_push_size _ rfl,rfl,rfl⟩ fun a s' G' I' S' r' g' o'=>P a s' G' I' ((Stp.ext k1).trans S') r' g' o'
 cases v with
 | pv p =>
  cases p with
  | str x =>
   clear rest
   obtain ⟨e2,z⟩:=bB (o:=qO x lo hi) e; clear e; subst z
   unfold qO at e2
   refine boolF (b:=small x.cps.toList.length) (fun hs=>?_) fun hs=>?_
   ·rw [hs] at e2; exact nx e2
   ·rw [hs] at e2
    obtain ⟨t,z⟩:=xv
    obtain ⟨T,id,q1,q2,q3⟩:=aIv (w:=w) (A:=A) (E:=E) (s:=s) (t:=t) (Q:=Q) (Nat.le_trans (Nat.le_of_eq Array.length_toList.symm) (Nat.le_trans (cR hs) (Nat.le_trans (by decide) iB))) hl hh fun h' t' k hp=>P.grown I hp.1 (so e2 ▸ (by exact ⟨_,rfl⟩))
    exact z ▸ i7 q2 q1 q3
  | _=>exact rest e
 | _=>exact rest e
noncomputable def isIn? (a b:Option (Option Value)):Bool:=a == b
noncomputable def kT (K:Frag) (C:Addr) (a:Str):Bool:=(findIn K (.ref C) a == some none) && !(copiedNames.contains a) && (takerIn K C a == some none)
noncomputable def sD (K:Frag) (C:Addr) (m:Str×Addr):Bool:=(findIn K (.ref C) m.1 == some (some (.ref m.2))) && (typeIn K (.ref m.2) == some (.type "function"))
noncomputable def nD (K:Frag) (C:Addr) (cr:dI):Bool :=
 (findIn K (.ref C) "__getattribute__" == some (some (.builtin "object.__getattribute__"))) && (findIn K (.ref C) "__getattr__" == some none) &&
 (findIn K (.ref C) "__setattr__" == some (some (.builtin "object.__setattr__"))) && (cr.attrs.all fun a=>kT K C a) && (cr.meths.all fun m=>sD K C m) &&
 makesIn K C && (findIn K (.ref C) "__init__" == some (some (.ref cr.ini))) && (typeIn K (.ref cr.ini) == some (.type "function")) && (match clsIn K C with | some cd=>cd.hasDict | none=>false) && plainOver K C
theorem aCT (w:World):(cN.all fun p=>nD (kfrag w.params) p.1 p.2)=true:=by kernel_rfl
theorem mW {o:Expr} (h:iY o=true) (attr:Str) (env:Env) (whole:Sem Value):attributeBase o attr env whole=whole:=by
 cases o with
 | Call f as ks p =>
  cases f with
  | Name x q =>
   cases as with
   | nil=>cases ks with
    | nil=>exact ft h
    | cons _ _=>rfl
   | cons _ _=>rfl
  | _=>rfl
 | _=>rfl
theorem nZ {α:Type} {P:Nat→α→Bool} {c:Nat} {cr:α}:∀ {l:List (Nat×α)},(l.all fun p=>P p.1 p.2)=true→aX c l=some cr→P c cr=true
 | [],_,h=>by exact nx h
 | (b,r)::l,e,h=>by
  simp only [List.all_cons,Bool.and_eq_true] at e
  have h:=(show (match Nat.beq b c with | true=>some r | false=>aX c l)=some cr from h)
  refine boolF (b:=Nat.beq b c) (fun hb=>?_) fun hb=>?_
  ·rw [hb] at h; exact nZ e.2 h
  ·rw [hb] at h; cases h; exact Nat.eq_of_beq_eq_true hb ▸ e.1
theorem aCV {c:Addr} {cr:dI} (h:aX c cN=some cr) (w:World):nD (kfrag w.params) c cr=true:=nZ (P:=nD (kfrag w.params)) (aCT w) h
structure tY (K:Frag) (C:Addr) (cr:dI):Prop where
 ga:findIn K (.ref C) "__getattribute__" = some (some (.builtin "object.__getattribute__"))
 gt:findIn K (.ref C) "__getattr__" = some none
 sa:findIn K (.ref C) "__setattr__" = some (some (.builtin "object.__setattr__"))
 at_:∀ a ∈ cr.attrs,kT K C a=true
 me:∀ m ∈ cr.meths,sD K C m=true
 mkk:makesIn K C=true
 ini:findIn K (.ref C) "__init__" = some (some (.ref cr.ini))
 inf:typeIn K (.ref cr.ini)=some (.type "function")
 cd:∃ cd,clsIn K C=some cd∧cd.hasDict=true
 po:plainOver K C=true
theorem g9 {c:Addr} {cr:dI} (h:aX c cN=some cr) (w:World):tY (kfrag w.params) c cr:=by
 have h:=aCV h w
 unfold nD at h
 simp only [Bool.and_eq_true,beq_iff_eq,List.all_eq_true] at h
 obtain ⟨⟨⟨⟨⟨⟨⟨⟨⟨a,b⟩,c⟩,d⟩,e⟩,f⟩,g⟩,i⟩,j⟩,k⟩:=h
 refine ⟨a,b,c,d,e,f,g,i,?_,k⟩
 split at j
 ·rename_i cd hcd; exact ⟨cd,hcd,j⟩
 ·exact ft j
theorem nP {c:Addr} {a:Str} (h:hasAttr TT c a=true):∃ cr,aX c cN=some cr∧a ∈ cr.attrs:=by
 unfold hasAttr at h
 split at h
 ·rename_i cr hc
  refine ⟨cr,hc,?_⟩
  obtain ⟨b,hb,e⟩:=List.any_eq_true.mp h
  exact aK.mp e ▸ hb
 ·exact ft h
theorem aGd {es:Array DictEntry} {x:Str}:nsFind es x=(es.toList.find? (·.key.isStr x)).map (·.val):=by
 unfold nsFind findBy
 rw [← Array.find?_toList]
theorem aFu {h:Heap} {d:Addr} {us:List (Str×Value)} {x:Str} (D:iF h d us):∃ o,h.get? d=some o∧lookIn x o=some (look x us):=by
 obtain ⟨o,es,ep,e,hd,hk,_,hf⟩:=D
 refine ⟨o,e,?_⟩
 unfold lookIn
 rw [hd]
 dsimp only
 have this:nsFind es x=look x us:=hf x
 rw [aGd] at this
 split
 ·rename_i en he
  rw [he] at this
  rw [← this]; rfl
 ·rename_i he
  rw [he] at this
  rw [← this]
  have:es.toList.any (·.refKey)=false:=by
   rw [List.any_eq_false]
   intro en hen
   obtain ⟨n,t,q⟩:=hk en (Array.mem_toList_iff.mp hen)
   simp [DictEntry.refKey,q]
  rw [this]; rfl
theorem cY.at {h:Heap} {a d c us} (x:cY h a d c us) (y:Str):∃ od,InstAt h a (instObj c d) c (some od)∧lookIn y od=some (look y us):=by
 obtain ⟨e,D,ne⟩:=x
 obtain ⟨o,eo,hl⟩:=aFu (x:=y) D
 exact ⟨o,⟨e,rfl,rfl,eo⟩,hl⟩
theorem aDV {K:Frag} {C:Addr} {cr:dI} {od:Obj} {a:Str} {v:Value} (F:tY K C cr) (ha:a ∈ cr.attrs) (hl:lookIn a od=some (some v)):findObj K C (some od) a=some (.value v):=by
 have h:=F.at_ a ha
 unfold kT at h
 simp only [Bool.and_eq_true,beq_iff_eq] at h
 obtain ⟨cd,h1,h2⟩:=F.cd
 unfold findObj
 rw [h1,Option.bind_some,h.1.1,Option.bind_some]
 dsimp only
 rw [Option.bind_some,Option.bind_some]
 dsimp only
 unfold PySem.W.ownOf
 rw [h2,if_pos rfl]
 dsimp only
 rw [hl,Option.bind_some]
theorem oK {o:Option V} {v:V} (e:okAttr o σ=some (v,σ')):o=some v∧σ' = σ∧∀ u,v ≠ .st u:=by
 unfold okAttr at e
 obtain ⟨e1,z1⟩:=bB e; clear e; subst z1
 cases o with
 | none=>exact nx e1
 | some x =>
  cases x with
  | st _=>exact nx e1
  | _=>exact ⟨congrArg some (so e1).symm,rfl,fun u q=>V.noConfusion ((so e1).symm.trans q)⟩
theorem aEe {h:Heap} {v:V} {u:Value} (x:VR G h v u) (hv:∀ u,v ≠ .st u):handedIn u=true:=by
 cases v with
 | pv p =>
  clear hv; cases p with
  | none=>obtain rfl:=x; rfl
  | bool b=>obtain rfl:=x; rfl
  | int b=>obtain ⟨_,rfl⟩:=x; rfl
  | str b=>obtain ⟨_,rfl⟩:=x; rfl
  | bytes b=>obtain ⟨_,rfl⟩:=x; rfl
  | tup l=>obtain ⟨_,_,rfl,_⟩:=x; rfl
  | lst l=>obtain ⟨_,_,rfl,_⟩:=x; rfl
 | tup l=>obtain ⟨_,_,rfl,_⟩:=x; rfl
 | vl l=>obtain ⟨_,_,rfl,_⟩:=x; rfl
 | fz c as=>obtain ⟨_,_,_,rfl,_⟩:=x; rfl
 | vd as=>obtain ⟨_,_,rfl,_⟩:=x; rfl
 | ob i=>obtain ⟨_,_,rfl⟩:=x; rfl
 | li i=>obtain ⟨_,_,rfl⟩:=x; rfl
 | st v=>exact absurd rfl (hv v)
 | clo ps body sc capt=>obtain ⟨_,_,rfl,_⟩:=x; rfl
theorem jU {a d c:Addr} {us:List (Str×Value)} {as:List (Str×V)} {x:Str} {v:V} {cr:dI} {ex:Bool} {Q:Value→Shared→Prop} (B:aZ w g mg mb) (I:Inv w g G σ s.heap) (X:cY s.heap a d c us) (Y:VRas G s.heap as us)
 (hc:aX c cN=some cr) (hx:x ∈ cr.attrs) (hv:look x as=some v) (hn:∀ u,v ≠ .st u) (P:aP w g G σ s (fun G h r=>VR G h v r) Q):wpAny (MW w) A (getAttr (.ref a) x ex) Q E s:=by
 obtain ⟨od,h1,h2⟩:=X.at x
 obtain ⟨u,h3,h4⟩:=Y.look hv
 rw [h3] at h2
 have F:=g9 hc w
 exact get_value (K:=kfrag w.params) (B.has I) h1 F.ga (aDV F hx h2) (aEe h4 hn) (P.same I h4)
theorem uN {v r:V} {a:Str} {u:Value} {ex:Bool} {Q:Value→Shared→Prop} (B:aZ w g mg mb) (e:jS TT v a σ=some (r,σ')) (I:Inv w g G σ s.heap) (xv:VR G s.heap v u)
 (P:aP w g G σ' s (fun G h r'=>VR G h r r') Q):wpAny (MW w) A (getAttr u a ex) Q E s:=by
 cases v with
 | fz c as =>
  have e' : (match hasAttr TT c a with | true=>okAttr (look a as) | false=>Rno) σ=some (r,σ'):=e
  clear e; refine boolF (b:=hasAttr TT c a) (fun hh=>?_) fun hh=>?_
  ·simp only [hh] at e'; exact nx e'
  ·simp only [hh] at e'
   obtain ⟨e1,z1,e3⟩:=oK e'; clear e'; subst z1
   obtain ⟨cr,h1,h2⟩:=nP hh
   obtain ⟨x,d,us,rfl,_,_,hi,hs⟩:=xv
   exact jU B I hi hs h1 h2 e1 e3 P
 | ob i =>
  obtain ⟨c,σ₁,h1,e1⟩:=aH (m:=getG i) e; clear e
  unfold getG at h1
  cases hg:σ.g[i]? with
  | none=>simp only [hg] at h1; exact nx h1
  | some c' =>
   simp only [hg] at h1; obtain rfl:=sp1 h1; obtain rfl:=(sp2 h1).symm
   clear h1; obtain ⟨p,hp,hr⟩:=I.inG hg; clear hg
   obtain ⟨p',hp',rfl⟩:=xv
   have hpp:p' = p:=by rw [hp] at hp'; clear hp hr; cases hp'; rfl
   clear hp; subst hpp
   cases c with
   | obj c as =>
    have e' : (match hasAttr TT c a with | true=>okAttr (look a as) | false=>Rno) σ=some (r,σ'):=e1
    clear e1; refine boolF (b:=hasAttr TT c a) (fun hh=>?_) fun hh=>?_
    ·simp only [hh] at e'; exact nx e'
    ·simp only [hh] at e'
     obtain ⟨e5,z1,e3⟩:=oK e'; clear e'; subst z1
     obtain ⟨cr,h1,h2⟩:=nP hh
     obtain ⟨us,hi,hs⟩:=hr
     exact jU B I hi hs h1 h2 e5 e3 P
   | rdr pre rest nm =>
    obtain ⟨_,us,hi,hs⟩:=hr
    obtain ⟨cr,hc,hat⟩:∃ cr,aX 774 cN=some cr∧∀ x ∈ ([dR,atName,cW]:List Str),x ∈ cr.attrs:=⟨_,rfl,by decide +kernel⟩
    have e' : (match sEq a atName,sEq a dR,sEq a cW with
     | true,_,_=>Rpure (V.pv (.int (.ofNat pre.length)))
     | _,true,_=>Rpure (V.vl ((pre++rest).map (tkV TT)))
     | _,_,true=>okAttr (some nm)
     | _,_,_=>Rno) σ=some (r,σ'):=e1
    clear e1; refine boolF (b:=sEq a atName) (fun k1=>?_) fun k1=>?_
    ·refine boolF (b:=sEq a dR) (fun k2=>?_) fun k2=>?_
     ·refine boolF (b:=sEq a cW) (fun k3=>?_) fun k3=>?_
      ·simp only [k1,k2,k3] at e'; exact nx e'
      ·simp only [k1,k2,k3] at e'
       clear k1 k2; obtain ⟨e5,z1,e3⟩:=oK e'; clear e'; subst z1
       cases e5
       have:=aK.mp k3
       clear k3; subst this
       exact jU B I hi hs hc (hat _ (by exact (.tail _ (.tail _ (.head _))))) (by rfl) e3 P
     ·simp only [k1,k2] at e'
      clear k1; cases e'
      have:=aK.mp k2
      clear k2; subst this
      exact jU B I hi hs hc (hat _ (by exact (.head _))) (v:=.vl ((pre++rest).map (tkV TT))) (by rfl) (fun u q=>by cases q) P
    ·simp only [k1] at e'
     cases e'
     have:=aK.mp k1
     clear k1; subst this
     exact jU B I hi hs hc (hat _ (by exact (.tail _ (.head _)))) (v:=.pv (.int (.ofNat pre.length))) (by rfl) (fun u q=>by cases q) P
 | _=>exact nx e
theorem oI {xs ys zs:List Addr} (h:(xs++ys).Nodup) (hz:zs.Nodup) (hd:∀ z ∈ zs,z ∉ xs++ys):(xs++(zs++ys)).Nodup:=by
 obtain ⟨h1,h2,h3⟩:=List.nodup_append.mp h
 refine List.nodup_append.mpr ⟨h1,List.nodup_append.mpr ⟨hz,h2,fun a ha b hb e=>hd a ha (List.mem_append_right _ (e ▸ hb))⟩,fun a ha b hb e=>?_⟩
 rcases List.mem_append.mp hb with hb | hb
 ·exact hd b hb (List.mem_append_left _ (e ▸ ha))
 ·exact h3 a ha b hb e
theorem Inv.gnone (I:Inv w g G σ h) {b:Addr} (hb:h.objs.size ≤ b):g.get? b=none:=by
 cases hq:g.get? b with
 | none=>rfl
 | some o=>exact absurd (Heap.lt_size (I.keep _ _ hq)) (Nat.not_lt.mpr hb)
theorem c6 {G:Gh} {i:Nat} {p:Addr×Addr} (e:G.g[i]? = some p):p.1 ∈ G.gm∧p.2 ∈ G.gm:=by
 have:=List.mem_of_getElem? e
 exact ⟨List.mem_append_left _ (List.mem_map_of_mem this),List.mem_append_right _ (List.mem_map_of_mem this)⟩
theorem cV {G:Gh} {b:Addr} (hb:b ∈ G.gm):b ∈ G.mu:=List.mem_append_left _ (List.mem_append_left _ hb)
theorem fV {G:Gh} {b:Addr} (hb:b ∈ G.l):b ∈ G.mu:=List.mem_append_left _ (List.mem_append_right _ hb)
theorem dP {G:Gh} {b:Addr} (hb:b ∈ aS):b ∈ G.mu:=List.mem_append_right _ hb
theorem pH {b:Addr} (hs:Heap.SameBut b h h') (hb:∃ o,h'.get? b=some o):∀ c o,h.get? c=some o→∃ o',h'.get? c=some o':=fun c o e=>by
 by_cases q:c=b
 ·exact q ▸ hb
 ·exact ⟨o,(hs.2 c q).trans e⟩
theorem Stp.upd {b:Addr} (hb:b ∈ G.mu) (hs:Heap.SameBut b h h') (hl:∃ o,h'.get? b=some o):Stp [] G h G h' :=
 ⟨fun c o e hm _=>(hs.2 c (fun q=>hm (q ▸ hb))).trans e,pH hs hl,fun _ _ e=>e,fun _ _ e=>e,rfl,rfl,fun _ hb=>.inl hb⟩
theorem Inv.updKeep {b:Addr} (I:Inv w g G σ h) (hb:b ∈ G.mu) (hs:Heap.SameBut b h h'):∀ c o,g.get? c=some o→h'.get? c=some o:=fun c o e =>
 (hs.2 c (fun q=>by rw [q,I.fresh b (List.mem_append_left _ hb)] at e; exact nx e)).trans (I.keep c o e)
theorem Inv.parts (I:Inv w g G σ h):(G.g.map (·.1)).Nodup∧(G.g.map (·.2)).Nodup∧G.l.Nodup∧(∀ a ∈ G.g.map (·.1),a ∉ G.g.map (·.2))∧(∀ a ∈ G.gm,a ∉ G.l)∧(∀ a ∈ G.gm,a ∉ aS)∧(∀ a ∈ G.l,a ∉ aS):=by
 obtain ⟨h1,_,_⟩:=List.nodup_append.mp I.nodup
 obtain ⟨h2,_,h3⟩:=List.nodup_append.mp h1
 obtain ⟨h4,h5,h6⟩:=List.nodup_append.mp h2
 obtain ⟨h7,h8,h9⟩:=List.nodup_append.mp h4
 exact ⟨h7,h8,h5,fun a ha hb=>h9 a ha a hb rfl,fun a ha hb=>h6 a ha a hb rfl,fun a ha hb=>h3 a (List.mem_append_left _ ha) a hb rfl,fun a ha hb=>h3 a (List.mem_append_right _ ha) a hb rfl⟩
theorem GR.stay {b:Addr} {p:Addr×Addr} {c:GCell} (hb:b ∈ G.mu) (hs:Heap.SameBut b h h') (hl:∃ o,h'.get? b=some o) (h1:p.1 ≠ b) (h2:p.2 ≠ b) (x:GR G h p c):GR G h' p c:=by
 have S:=(Stp.upd (G:=G) hb hs hl).car0
 have inst:∀ c us,cY h p.1 p.2 c us→cY h' p.1 p.2 c us:=fun c us x=>⟨(hs.2 _ h1).trans x.1,x.D.of_get (fun o e=>(hs.2 _ h2).trans e),x.ne⟩
 cases c with
 | obj c as=>obtain ⟨us,x1,x2⟩:=x; exact ⟨us,inst _ _ x1,x2.step S⟩
 | rdr pre rest nm=>obtain ⟨hb,us,x1,x2⟩:=x; exact ⟨hb,us,inst _ _ x1,x2.step S⟩
theorem yS {α:Type} {l:List α} (hn:l.Nodup) {i j:Nat} {a:α} (hi:l[i]? = some a) (hj:l[j]? = some a):i=j:=by
 obtain ⟨h1,e1⟩:=List.getElem?_eq_some_iff.mp hi
 obtain ⟨h2,e2⟩:=List.getElem?_eq_some_iff.mp hj
 have hp:=List.pairwise_iff_getElem.mp hn
 rcases Nat.lt_trichotomy i j with q | q | q
 ·exact absurd (e1.trans e2.symm) (hp i j h1 h2 q)
 ·exact q
 ·exact absurd (e2.trans e1.symm) (hp j i h2 h1 q)
theorem Inv.setL {i:Nat} {a:Addr} {l l' : List V} {us:List Value} (I:Inv w g G σ h) (ha:G.l[i]? = some a) (hl:σ.l[i]? = some l) (hs:Heap.SameBut a h h') (hn:c9 h' a us) (hv:VRs G h l' us) :
 Inv w g G ⟨σ.g,σ.l.set i l'⟩ h'∧Stp [] G h G h':=by
 have hal:a ∈ G.l:=List.mem_of_getElem? ha
 have hm:=fV hal
 have hlv:∃ o,h'.get? a=some o:=let ⟨n,e⟩:=hn; ⟨_,e⟩
 have S:=Stp.upd hm hs hlv
 obtain ⟨_,_,n3,_,n5,_,n7⟩:=I.parts
 refine ⟨⟨I.pw,I.updKeep hm hs,I.fresh,I.nodup,fun b hb=>let ⟨o,e⟩:=I.alive b hb; pH hs hlv b o e,I.lg,by rw [List.length_set]; exact I.ll,?_,?_,?_⟩,S⟩
 ·intro j p c e1 e2
  exact (I.gs j p c e1 e2).stay hm hs hlv (fun q=>n5 _ (c6 e1).1 (q ▸ hal)) (fun q=>n5 _ (c6 e1).2 (q ▸ hal))
 ·intro j b m e1 e2
  by_cases hij:i=j
  ·clear hs hal hm hlv; subst hij
   obtain ⟨hi,_⟩:=List.getElem?_eq_some_iff.mp hl
   have e2:(σ.l.set i l')[i]? = some m:=e2
   rw [List.getElem?_set_self hi] at e2
   cases e2
   have:b=a:=by rw [ha] at e1; clear ha hn; cases e1; rfl
   clear ha; subst this
   exact ⟨us,hn,hv.step S.car0⟩
  ·have e2:(σ.l.set i l')[j]? = some m:=e2
   rw [List.getElem?_set_ne hij] at e2
   have hne:b ≠ a:=fun q=>hij (yS n3 ha (q ▸ e1))
   obtain ⟨us',⟨n,x1⟩,x2⟩:=I.ls j b m e1 e2
   exact ⟨us',⟨n,(hs.2 b hne).trans x1⟩,x2.step S.car0⟩
 ·intro P hP
  exact (I.tabs P hP).step S.car0 (fun o e=>(hs.2 P (fun q=>n7 _ hal (q ▸ hP))).trans e)
theorem Inv.setG {i:Nat} {p:Addr×Addr} {c c' : GCell} (I:Inv w g G σ h) (hp:G.g[i]? = some p) (hc:σ.g[i]? = some c) (hs:Heap.SameBut p.2 h h') (hn:GR G h' p c') :
 Inv w g G ⟨σ.g.set i c',σ.l⟩ h'∧Stp [] G h G h':=by
 have hgm:=(c6 hp).2
 have hm:=cV hgm
 have hlv:∃ o,h'.get? p.2=some o:=by
  cases c' with
  | obj c as=>obtain ⟨us,x,_⟩:=hn; exact gX x.D
  | rdr pre rest nm=>obtain ⟨_,us,x,_⟩:=hn; exact gX x.D
 have S:=Stp.upd hm hs hlv
 obtain ⟨n1,n2,n3,n4,n5,n6,n7⟩:=I.parts
 refine ⟨⟨I.pw,I.updKeep hm hs,I.fresh,I.nodup,fun b hb=>let ⟨o,e⟩:=I.alive b hb; pH hs hlv b o e,by rw [List.length_set]; exact I.lg,I.ll,?_,?_,?_⟩,S⟩
 ·intro j q d e1 e2
  by_cases hij:i=j
  ·clear hs hgm hm hlv; subst hij
   obtain ⟨hi,_⟩:=List.getElem?_eq_some_iff.mp hc
   have e2:(σ.g.set i c')[i]? = some d:=e2
   rw [List.getElem?_set_self hi] at e2
   cases e2
   have:q=p:=by rw [hp] at e1; clear hp hn; cases e1; rfl
   clear hp; subst this
   exact hn
  ·have e2:(σ.g.set i c')[j]? = some d:=e2
   rw [List.getElem?_set_ne hij] at e2
   refine (I.gs j q d e1 e2).stay hm hs hlv (fun k=>?_) (fun k=>?_)
   ·exact n4 q.1 (List.mem_map_of_mem (List.mem_of_getElem? e1)) (k ▸ List.mem_map_of_mem (List.mem_of_getElem? hp))
   ·refine hij (yS n2 (a:=p.2) ?_ ?_)
    ·rw [List.getElem?_map,hp]; rfl
    ·rw [List.getElem?_map,e1]; simp [k]
 ·intro j b m e1 e2
  have hne:b ≠ p.2:=fun q=>n5 _ hgm (q ▸ List.mem_of_getElem? e1)
  obtain ⟨us',⟨n,x1⟩,x2⟩:=I.ls j b m e1 e2
  exact ⟨us',⟨n,(hs.2 b hne).trans x1⟩,x2.step S.car0⟩
 ·intro P hP
  exact (I.tabs P hP).step S.car0 (fun o e=>(hs.2 P (fun q=>n6 _ hgm (q ▸ hP))).trans e)
theorem Stp.more {G' : Gh} (k:∀ b o,h.get? b=some o→h'.get? b=some o) (pg:∀ (i:Nat) p,G.g[i]? = some p→G'.g[i]? = some p)
 (pl:∀ (i:Nat) p,G.l[i]? = some p→G'.l[i]? = some p) (ex:G'.ex=G.ex) (pw:G'.w=G.w) (new:∀ b ∈ G'.mu,b ∈ G.mu∨h.get? b=none):Stp [] G h G' h' :=
 ⟨fun b o e _ _=>k b o e,fun b o e=>⟨o,k b o e⟩,pg,pl,ex,pw,new⟩
theorem getElem?_app {α:Type} {l:List α} {x y:α} {i:Nat} (e:(l++[x])[i]? = some y):(l[i]? = some y)∨(i=l.length∧y=x):=by
 by_cases hi:i < l.length
 ·rw [List.getElem?_append_left hi] at e; exact .inl e
 ·rw [List.getElem?_append_right (Nat.le_of_not_lt hi)] at e
  have:i - l.length=0:=by
   rcases Nat.eq_zero_or_pos (i - l.length) with q | q
   ·exact q
   ·rw [List.getElem?_eq_none (show [x].length ≤ _ from q)] at e; exact nx e
  rw [this] at e
  cases e
  exact .inr ⟨Nat.le_antisymm (Nat.le_of_sub_eq_zero this) (Nat.le_of_not_lt hi),rfl⟩
theorem getElem?_pre {α:Type} {l:List α} {x y:α} {i:Nat} (e:l[i]? = some y):(l++[x])[i]? = some y:=by
 obtain ⟨hi,_⟩:=List.getElem?_eq_some_iff.mp e
 rw [List.getElem?_append_left hi]; exact e
theorem Inv.newL {l:List V} {us:List Value} (I:Inv w g G σ h) (hv:VRs G h l us) :
 Inv w g { G with l:=G.l++[h.objs.size] } ⟨σ.g,σ.l++[l]⟩ (h.push { cls:=.type "list",data:=.seq us.toArray }) ∧
 Stp [] G h { G with l:=G.l++[h.objs.size] } (h.push { cls:=.type "list",data:=.seq us.toArray }):=by
 have k:=bG h { cls:=.type "list",data:=.seq us.toArray }
 have z:=lW h { cls:=.type "list",data:=.seq us.toArray }
 have hmu:∀ b,b ∈ ({ G with l:=G.l++[h.objs.size] }:Gh).mu→b ∈ G.mu∨b=h.objs.size:=by
  intro b hb
  rcases List.mem_append.mp hb with hb | hb
  ·rcases List.mem_append.mp hb with hb | hb
   ·exact .inl (cV hb)
   ·rcases List.mem_append.mp hb with hb | hb
    ·exact .inl (fV hb)
    ·exact .inr (List.mem_singleton.mp hb)
  ·exact .inl (dP hb)
 have S:Stp [] G h { G with l:=G.l++[h.objs.size] } (h.push { cls:=.type "list",data:=.seq us.toArray }) :=
  .more k (fun _ _ e=>e) (fun i p e=>getElem?_pre e) rfl rfl (fun b hb=>(hmu b hb).imp id fun q=>dY (Nat.le_of_eq q.symm))
 refine ⟨⟨I.pw,fun b o e=>k b o (I.keep b o e),?_,?_,fun b hb=>let ⟨o,e⟩:=I.alive b hb; ⟨o,k b o e⟩,I.lg,?_,?_,?_,?_⟩,S⟩
 ·intro b hb
  rcases List.mem_append.mp hb with hb | hb
  ·rcases hmu b hb with q | q
   ·exact I.fresh b (List.mem_append_left _ q)
   ·exact q ▸ I.gnone (Nat.le_refl _)
  ·exact I.fresh b (List.mem_append_right _ hb)
 ·have hn:=I.nodup
  have e1:G.own=(G.gm++G.l)++(aS++G.ex):=by unfold Gh.own Gh.mu; simp
  have e2:({ G with l:=G.l++[h.objs.size] }:Gh).own=(G.gm++G.l)++([h.objs.size]++(aS++G.ex)):=by unfold Gh.own Gh.mu Gh.gm; simp
  rw [e2]
  rw [e1] at hn
  exact oI hn (by simp) (fun b hb=>by rw [List.mem_singleton.mp hb,← e1]; exact I.new)
 ·show (G.l++[h.objs.size]).length=(σ.l++[l]).length
  simp [I.ll]
 ·intro i p c e1 e2
  have:=I.gs i p c e1 e2
  clear e2; cases c with
  | obj c as=>obtain ⟨us,x1,x2⟩:=this; exact ⟨us,x1.ext k,x2.step S.car0⟩
  | rdr pre rest nm=>obtain ⟨hb,us,x1,x2⟩:=this; exact ⟨hb,us,x1.ext k,x2.step S.car0⟩
 ·intro i a m e1 e2
  rcases getElem?_app e1 with q1 | ⟨q1,q2⟩
  ·rcases getElem?_app e2 with r1 | ⟨r1,r2⟩
   ·obtain ⟨us,x1,x2⟩:=I.ls i a m q1 r1
    exact ⟨us,x1.ext k,x2.step S.car0⟩
   ·obtain ⟨hi,_⟩:=List.getElem?_eq_some_iff.mp q1
    exact absurd (r1.trans I.ll.symm) (Nat.ne_of_lt hi)
  ·clear e1; rcases getElem?_app e2 with r1 | ⟨r1,r2⟩
   ·obtain ⟨hi,_⟩:=List.getElem?_eq_some_iff.mp r1
    exact absurd (q1.trans I.ll) (Nat.ne_of_lt hi)
   ·clear e2; subst q2 r2
    exact ⟨us,⟨0,Heap.get?_push_size _ rfl⟩,hv.step S.car0⟩
 ·intro P hP
  exact (I.tabs P hP).step S.car0 (fun o e=>k _ _ e)
theorem Inv.newG {c:Addr} (I:Inv w g G σ h) :
 Inv w g { G with g:=G.g++[(h.objs.size + 1,h.objs.size)] } ⟨σ.g++[.obj c []],σ.l⟩ ((h.push emptyDict).push (instObj c h.objs.size)) ∧
 Stp [] G h { G with g:=G.g++[(h.objs.size + 1,h.objs.size)] } ((h.push emptyDict).push (instObj c h.objs.size)):=by
 have k:∀ b o,h.get? b=some o→((h.push emptyDict).push (instObj c h.objs.size)).get? b=some o:=fun b o e=>bG _ _ _ _ (bG _ _ _ _ e)
 have z:h.objs.size ≤ ((h.push emptyDict).push (instObj c h.objs.size)).objs.size:=Nat.le_trans (lW _ _) (lW _ _)
 have hgm:∀ b,b ∈ ({ G with g:=G.g++[(h.objs.size + 1,h.objs.size)] }:Gh).gm→b ∈ G.gm∨h.objs.size ≤ b:=by
  intro b hb
  unfold Gh.gm at hb
  simp only [List.map_append,List.map_cons,List.map_nil,List.mem_append,List.mem_singleton] at hb
  rcases hb with (hb | hb) | (hb | hb)
  ·exact .inl (List.mem_append_left _ hb)
  ·exact .inr (by rw [hb]; exact Nat.le_succ _)
  ·exact .inl (List.mem_append_right _ hb)
  ·exact .inr (by rw [hb]; exact Nat.le_refl _)
 have hmu:∀ b,b ∈ ({ G with g:=G.g++[(h.objs.size + 1,h.objs.size)] }:Gh).mu→b ∈ G.mu∨h.objs.size ≤ b:=by
  intro b hb
  rcases List.mem_append.mp hb with hb | hb
  ·rcases List.mem_append.mp hb with hb | hb
   ·exact (hgm b hb).imp cV id
   ·exact .inl (fV hb)
  ·exact .inl (dP hb)
 have S:Stp [] G h { G with g:=G.g++[(h.objs.size + 1,h.objs.size)] } ((h.push emptyDict).push (instObj c h.objs.size)) :=
  .more k (fun i p e=>getElem?_pre e) (fun _ _ e=>e) rfl rfl (fun b hb=>(hmu b hb).imp id dY)
 refine ⟨⟨I.pw,fun b o e=>k b o (I.keep b o e),?_,?_,fun b hb=>let ⟨o,e⟩:=I.alive b hb; ⟨o,k b o e⟩,?_,I.ll,?_,?_,?_⟩,S⟩
 ·intro b hb
  rcases List.mem_append.mp hb with hb | hb
  ·rcases hmu b hb with q | q
   ·exact I.fresh b (List.mem_append_left _ q)
   ·exact I.gnone q
  ·exact I.fresh b (List.mem_append_right _ hb)
 ·have hn:=I.nodup
  have n1:h.objs.size ∉ G.own:=I.new
  have n2:h.objs.size + 1 ∉ G.own:=I.newLe (Nat.le_succ _)
  have e1:G.own=G.g.map (·.1)++(G.g.map (·.2)++(G.l++aS++G.ex)):=by unfold Gh.own Gh.mu Gh.gm; simp
  have e2:({ G with g:=G.g++[(h.objs.size + 1,h.objs.size)] }:Gh).own=(G.g.map (·.1)++[h.objs.size + 1]++G.g.map (·.2))++([h.objs.size]++(G.l++aS++G.ex)):=by unfold Gh.own Gh.mu Gh.gm; simp
  rw [e2]
  have s1:(G.g.map (·.1)++([h.objs.size + 1]++(G.g.map (·.2)++(G.l++aS++G.ex)))).Nodup :=
   oI (e1 ▸ hn) (by simp) (fun b hb=>by rw [List.mem_singleton.mp hb,← e1]; exact n2)
  refine oI (by simpa using s1) (by simp) (fun b hb=>?_)
  rw [List.mem_singleton.mp hb]
  intro q
  have q' : h.objs.size ∈ G.own∨h.objs.size=h.objs.size + 1:=by
   rw [e1]
   simp only [List.mem_append,List.mem_singleton] at q ⊢
   rcases q with ((q | q) | q) | q
   ·exact .inl (.inl q)
   ·exact .inr q
   ·exact .inl (.inr (.inl q))
   ·exact .inl (.inr (.inr q))
  rcases q' with q | q
  ·exact n1 q
  ·exact absurd q (Nat.succ_ne_self _).symm
 ·show (G.g++[(h.objs.size + 1,h.objs.size)]).length=(σ.g++[GCell.obj c []]).length
  simp [I.lg]
 ·intro i p d e1 e2
  rcases getElem?_app e1 with q1 | ⟨q1,q2⟩
  ·rcases getElem?_app e2 with r1 | ⟨r1,r2⟩
   ·have:=I.gs i p d q1 r1
    clear e2 r1; cases d with
    | obj c as=>obtain ⟨us,x1,x2⟩:=this; exact ⟨us,x1.ext k,x2.step S.car0⟩
    | rdr pre rest nm=>obtain ⟨hb,us,x1,x2⟩:=this; exact ⟨hb,us,x1.ext k,x2.step S.car0⟩
   ·obtain ⟨hi,_⟩:=List.getElem?_eq_some_iff.mp q1
    exact absurd (r1.trans I.lg.symm) (Nat.ne_of_lt hi)
  ·clear e1; rcases getElem?_app e2 with r1 | ⟨r1,r2⟩
   ·obtain ⟨hi,_⟩:=List.getElem?_eq_some_iff.mp r1
    exact absurd (q1.trans I.lg) (Nat.ne_of_lt hi)
   ·clear e2; subst q2 r2
    refine ⟨[],⟨?_,?_,by simp⟩,by exact rfl⟩
    ·show ((h.push emptyDict).push _).get? (h.objs.size + 1)=_
     have:((h.push emptyDict).push (instObj c h.objs.size)).get? (h.push emptyDict).objs.size=some (instObj c h.objs.size):=Heap.get?_push_size _ rfl
     rwa [Heap.size_push] at this
    ·exact ⟨emptyDict,#[],0,bG _ _ _ _ (Heap.get?_push_size _ rfl),rfl,fun e he=>by simp at he,by simp [UniqKeys],fun _=>rfl⟩
 ·intro i a m e1 e2
  obtain ⟨us,x1,x2⟩:=I.ls i a m e1 e2
  exact ⟨us,x1.ext k,x2.step S.car0⟩
 ·intro P hP
  exact (I.tabs P hP).step S.car0 (fun o e=>k _ _ e)
theorem aFv (us:List (Str×Value)):Within (fun x=>look x us) (us.map (·.1)):=fun y hy=>by
 induction us with
 | nil=>exact absurd rfl hy
 | cons p us ih =>
  obtain ⟨z,v⟩:=p
  have hy:look y ((z,v)::us) ≠ none:=hy
  rw [eY] at hy
  refine boolF (b:=sEq z y) (fun h=>?_) fun h=>?_
  ·rw [h] at hy; exact List.mem_cons_of_mem _ (ih hy)
  ·exact aK.mp h ▸ List.mem_cons_self ..
theorem rK {a d c:Addr} {us:List (Str×Value)} {x:Str} {v:Value} {cr:dI} {Q:Unit→Shared→Prop} (B:aZ w g mg mb) (I:Inv w g G σ s.heap) (X:cY s.heap a d c us)
 (hc:aX c cN=some cr) (hx:x ∈ cr.attrs) (hz:us.length ≤ 2000000)
 (h:∀ h' tk,Heap.SameBut d s.heap h'→cY h' a d c (put x v us)→Q () { s with heap:=h',toks:=tk }):wpAny (MW w) A (setAttr (.ref a) x v) Q E s:=by
 obtain ⟨od,h1,h2⟩:=X.at x
 have F:=g9 hc w
 have ha:=F.at_ x hx
 unfold kT at ha
 simp only [Bool.and_eq_true,beq_iff_eq] at ha
 obtain ⟨cd,hcd,hhd⟩:=F.cd
 have KX:=B.has I
 refine set_plain (K:=kfrag w.params) KX h1 F.sa ?_
 refine osa_open (s:={ s with toks:=s.toks + 1 }) KX h1 F.po ha.2 fun b=>?_
 dsimp only
 obtain ⟨e,D,ne⟩:=X
 refine wpAny_bind (wpAny_pure (wpAny_bind (wpAny_bind (wpAny_loadPart e (wpAny_bind (looks_clsIn KX hcd _ _ _ _ (fun _ _ e=>e) ?_))))))
 rw [hhd]
 refine wpAny_pure (a:=some d) (wpAny_bind (wpAny_pure (wpAny_bind (wpAny_nsSet1 D fun h' hn hs=>?_))))
 obtain ⟨oD,esD,epD,hoD,hdD,hcD⟩:=hn.count (Within.cons x v (aFv us))
 have:=iB
 refine wpAny_bind (wpAny_lookBehind hoD (by rw [hdD]; exact pastItsLine_dict (Nat.le_trans hcD (by rw [List.length_cons,List.length_map]; exact Nat.succ_le_succ (Nat.le_trans hz (Nat.le_trans (by decide) iB))))) ?_)
 refine wpAny_pure (h h' _ hs ⟨(hs.2 a ne).trans e,?_,ne⟩)
 have:(fun y=>look y (put x v us))=fun y=>if y=x then some v else look y us:=by funext y; exact look_put x y v us
 unfold iF
 rw [this]
 exact hn
theorem lI {i:Nat} {c:GCell} (e:getG i σ=some (c,σ')):σ.g[i]? = some c∧σ' = σ:=by
 unfold getG at e
 cases h:σ.g[i]? with
 | none=>simp only [h] at e; exact nx e
 | some d=>simp only [h] at e; clear h; cases e; exact ⟨rfl,rfl⟩
theorem jT {i:Nat} {c:List V} (e:getL i σ=some (c,σ')):σ.l[i]? = some c∧σ' = σ:=by
 unfold getL at e
 cases h:σ.l[i]? with
 | none=>simp only [h] at e; exact nx e
 | some d=>simp only [h] at e; clear h; cases e; exact ⟨rfl,rfl⟩
theorem pA {i:Nat} {c:GCell} {u:Unit} (e:setG i c σ=some (u,σ')):σ' = ⟨σ.g.set i c,σ.l⟩:=by
 unfold setG at e
 refine optE (o:=σ.g[i]?) (fun h=>?_) fun d h=>?_
 ·simp only [h] at e; exact nx e
 ·simp only [h] at e; cases e; rfl
theorem tK {i:Nat} {c:List V} {u:Unit} (e:setL i c σ=some (u,σ')):σ' = ⟨σ.g,σ.l.set i c⟩:=by
 unfold setL at e
 refine optE (o:=σ.l[i]?) (fun h=>?_) fun d h=>?_
 ·simp only [h] at e; exact nx e
 ·simp only [h] at e; cases e; rfl
theorem GR.inst {h:Heap} {p:Addr×Addr} {c:GCell} (x:GR G h p c):∃ cl as us,cY h p.1 p.2 cl us∧VRas G h as us∧(match c with | .obj c' as'=>cl=c'∧as=as' | .rdr pre rest nm=>cl=774∧as=gN pre rest nm):=by
 cases c with
 | obj c as=>obtain ⟨us,x1,x2⟩:=x; exact ⟨c,as,us,x1,x2,rfl,rfl⟩
 | rdr pre rest nm=>obtain ⟨_,us,x1,x2⟩:=x; exact ⟨774,_,us,x1,x2,rfl,rfl⟩
theorem aHA:∃ cr,aX 774 cN=some cr∧∀ x ∈ ([dR,atName,cW]:List Str),x ∈ cr.attrs:=⟨_,rfl,by decide +kernel⟩
theorem aHk {pre rest:List Tk} {nm x:V}:put cW x (gN pre rest nm)=gN pre rest x:=by rfl
theorem aHi {pre rest:List Tk} {nm x:V}:put atName x (gN pre rest nm)=[(dR,.vl ((pre++rest).map (tkV TT))),(atName,x),(cW,nm)]:=by rfl
theorem qG {i:Nat} {c c' : GCell} {a:Str} {x:V} {u ux:Value} {Q:Unit→Shared→Prop} (B:aZ w g mg mb) (I:Inv w g G σ s.heap) (hc:σ.g[i]? = some c) (xv:VR G s.heap (.ob i) u) (xx:VR G s.heap x ux)
 (ok:match c with
  | .obj cl as=>hasAttr TT cl a=true∧as.length ≤ 1000000∧c' = .obj cl (put a x as)
  | .rdr pre rest nm=>(a=cW∧c' = .rdr pre rest x)∨(a=atName∧∃ pre' rest' : List Tk,pre'++rest' = pre++rest∧x = .pv (.int (.ofNat pre'.length))∧c' = .rdr pre' rest' nm))
 (P:aP w g G ⟨σ.g.set i c',σ.l⟩ s (fun _ _ _=>True) Q):wpAny (MW w) A (setAttr u a ux) Q E s:=by
 obtain ⟨p,hp,hr⟩:=I.inG hc
 obtain ⟨p',hp',rfl⟩:=xv
 have hpp:p' = p:=by rw [hp] at hp'; clear hp hr; cases hp'; rfl
 subst hpp
 cases c with
 | obj cl as =>
  obtain ⟨hh,hz,rfl⟩:=ok
  obtain ⟨cr,h1,h2⟩:=nP hh
  obtain ⟨us,hi,hs⟩:=hr
  have hl:=hs.len
  refine rK B I hi h1 h2 (eel hl hz rfl) fun h' tk sb X=>?_
  have S:Stp [] G s.heap G h':=Stp.upd (cV (c6 hp).2) sb (gX X.D)
  have:=I.setG (c':=.obj cl (put a x as)) hp hc sb ⟨_,X,(hs.put xx).step S.car0⟩
  exact P () { s with heap:=h',toks:=tk } G this.1 this.2 trivial rfl rfl
 | rdr pre rest nm =>
  obtain ⟨cr,h1,h2⟩:=aHA
  obtain ⟨hbd,us,hi,hs⟩:=hr
  have hl:=hs.len
  have hl:us.length=3:=by rw [hl]; rfl
  rcases ok with ⟨rfl,rfl⟩ | ⟨rfl,pre',rest',q1,rfl,rfl⟩
  ·refine rK B I hi h1 (h2 _ (by exact (.tail _ (.tail _ (.head _))))) (el hl (by decide)) fun h' tk sb X=>?_
   have S:Stp [] G s.heap G h':=Stp.upd (cV (c6 hp).2) sb (gX X.D)
   have:=I.setG (c':=.rdr pre rest x) hp hc sb ⟨hbd,_,X,by rw [← aHk (nm:=nm)]; exact (hs.put xx).step S.car0⟩
   exact P () { s with heap:=h',toks:=tk } G this.1 this.2 trivial rfl rfl
  ·refine rK B I hi h1 (h2 _ (by exact (.tail _ (.head _)))) (el hl (by decide)) fun h' tk sb X=>?_
   have S:Stp [] G s.heap G h':=Stp.upd (cV (c6 hp).2) sb (gX X.D)
   have:=I.setG (c':=.rdr pre' rest' nm) hp hc sb ⟨by rw [q1]; exact hbd,_,X,by unfold gN; rw [q1,← aHi]; exact (hs.put xx).step S.car0⟩
   exact P () { s with heap:=h',toks:=tk } G this.1 this.2 trivial rfl rfl
theorem aIm {v x:V} {a:Str} {u ux:Value} {r:Unit} {Q:Unit→Shared→Prop} (B:aZ w g mg mb) (e:setAttr' TT v a x σ=some (r,σ')) (I:Inv w g G σ s.heap) (xv:VR G s.heap v u) (xx:VR G s.heap x ux)
 (P:aP w g G σ' s (fun _ _ _=>True) Q):wpAny (MW w) A (setAttr u a ux) Q E s:=by
 cases v with
 | ob i =>
  obtain ⟨c,σ₁,h1,e1⟩:=aH (m:=getG i) e; clear e
  obtain ⟨h2,hσ⟩:=lI h1; clear h1
  subst hσ
  cases c with
  | obj c as =>
   have e' : (match small as.length,hasAttr TT c a with | true,true=>setG i (.obj c (put a x as)) | _,_=>Rno) σ₁=some (r,σ'):=e1
   clear e1; refine boolF (b:=small as.length) (fun k1=>?_) fun k1=>?_
   ·simp only [k1] at e'; exact nx e'
   ·refine boolF (b:=hasAttr TT c a) (fun k2=>?_) fun k2=>?_
    ·simp only [k1,k2] at e'; exact nx e'
    ·simp only [k1,k2] at e'
     have:=pA e'
     clear e'; subst this
     exact qG B I h2 xv xx ⟨k2,cR k1,rfl⟩ P
  | rdr pre rest nm =>
   have e' : (match sEq a cW with | true=>setG i (.rdr pre rest x) | false=>Rno) σ₁=some (r,σ'):=e1
   clear e1; refine boolF (b:=sEq a cW) (fun k1=>?_) fun k1=>?_
   ·simp only [k1] at e'; exact nx e'
   ·simp only [k1] at e'
    have:=pA e'
    clear e'; subst this
    exact qG B I h2 xv xx (.inl ⟨aK.mp k1,rfl⟩) P
 | _=>exact nx e
noncomputable def kH (w:World) (g:Heap) (v:V) (m:Str) (vs:List V) (r:V) (σ σ' : aC):Prop :=
 ∃ id:String,(∀ (A:Around) (E:Value→Shared→Prop) (s:Shared) (Q:Value×List Value→Shared→Prop) (pl:Sem Bool) (G:Gh) (τ:aC) (u:Value),Inv w g G τ s.heap→VR G s.heap v u→Q (.builtin id,[u]) s→wpAny (MW w) A (getMethod u m pl) Q E s) ∧
  (∀ (A:Around) (E:Value→Shared→Prop) (s:Shared) (Q:Value→Shared→Prop) (G:Gh) (u:Value) (us:List Value),A.handled=none→Inv w g G σ s.heap→VR G s.heap v u→VRs G s.heap vs us →
   aP w g G σ' s (fun G h r'=>VR G h r r') Q→wpAny (MW w) A (call (.builtin id) (u::us)) Q E s)
theorem VRs.one {h:Heap} {v:V} {us:List Value} (x:VRs G h [v] us):∃ u,us=[u]∧VR G h v u:=by
 obtain ⟨u,r,rfl,h1,rfl⟩:=x
 exact ⟨u,rfl,h1⟩
theorem VRs.two {h:Heap} {v v' : V} {us:List Value} (x:VRs G h [v,v'] us):∃ u u',us=[u,u']∧VR G h v u∧VR G h v' u':=by
 obtain ⟨u,r,rfl,h1,u',r',rfl,h2,rfl⟩:=x
 exact ⟨u,u',rfl,h1,h2⟩
theorem rY {h:Heap} {τ:aC} {i:Nat} {u:Value} {l:List V} (I:Inv w g G τ h) (hl:τ.l[i]? = some l) (x:VR G h (.li i) u):∃ a us,u = .ref a∧G.l[i]? = some a∧c9 h a us∧VRs G h l us:=by
 obtain ⟨a,ha,rfl⟩:=x
 obtain ⟨us,h1,h2⟩:=I.ls _ _ _ ha hl
 exact ⟨a,us,rfl,ha,h1,h2⟩
theorem yF {h:Heap} {τ:aC} {i:Nat} {u:Value} (I:Inv w g G τ h) (x:VR G h (.li i) u):∃ a us,u = .ref a∧c9 h a us:=by
 obtain ⟨a,ha,rfl⟩:=x
 obtain ⟨hi,_⟩:=List.getElem?_eq_some_iff.mp ha
 have:i < τ.l.length:=I.ll ▸ hi
 obtain ⟨us,h1,h2⟩:=I.ls _ _ _ ha (List.getElem?_eq_getElem this)
 exact ⟨a,us,rfl,h1⟩
theorem aDP {α:Type} (l:List α):l.toArray.eraseIdxIfInBounds (l.toArray.size - 1)=(l.take (l.length - 1)).toArray:=by
 apply Array.toList_inj.mp
 rw [Array.toList_eraseIdxIfInBounds]
 simp only [List.size_toArray]
 rcases Nat.eq_zero_or_pos l.length with h | h
 ·have:l=[]:=List.length_eq_zero_iff.mp h
  clear h; subst this; rfl
 ·rw [List.eraseIdx_eq_take_drop_succ,Nat.sub_add_cancel h,List.drop_length,List.append_nil]
theorem aFy {i:Nat} {m:Str} {vs:List V} {r:V} (e:cD i m vs σ=some (r,σ')):kH w g (.li i) m vs r σ σ':=by
 obtain ⟨l,σ₁,h1,e1⟩:=aH (m:=getL i) e; clear e
 obtain ⟨hl,z1⟩:=jT h1; clear h1; subst z1
 cases vs with
 | cons v t=>cases t with
  | cons _ _=>exact nx e1
  | nil =>
   have e1:=(show (match sEq m "append",small l.length with | true,true=>Rbind (setL i (l++[v])) fun _=>Rpure (V.pv .none) | _,_=>Rno) _=some (r,σ') from e1)
   refine boolF (b:=sEq m "append") (fun k1=>?_) fun k1=>?_
   ·rw [k1] at e1; exact nx e1
   ·refine boolF (b:=small l.length) (fun k2=>?_) fun k2=>?_
    ·rw [k1,k2] at e1; exact nx e1
    ·rw [k1,k2] at e1
     obtain ⟨_,σ₂,e2,e3⟩:=aH (m:=setL i (l++[v])) e1; clear e1
     have:=tK e2
     clear e2; subst this
     obtain ⟨z1,z2⟩:=fZ e3; clear e3; subst z1 z2
     have hm:=aK.mp k1
     clear k1; subst hm
     refine ⟨"list.append",fun A E s Q pl G τ u I x q=>?_,fun A E s Q G u us hh I x y P=>?_⟩
     ·obtain ⟨a,us,z1,n,h⟩:=yF I x; clear x; subst z1
      exact getMethod_list_append h rfl rfl q
     ·obtain ⟨a,ls,z1,ha,hx,hv⟩:=rY I hl x; clear x; subst z1
      obtain ⟨u',rfl,hu⟩:=y.one
      have hlen:=hv.len
      have hs:=cR k2
      have sl:=iB
      obtain ⟨n,hg⟩:=hx
      refine wpAny_list_append_plain ⟨n,hg⟩ (fun h' hp sb=>?_) (fF (el hlen hs))
      have X:c9 h' a (ls++[u']):=let ⟨n',q⟩:=hp; ⟨n',by simpa using q⟩
      have T:=I.setL ha hl sb X (hv.append y)
      exact P .none { s with heap:=h' } G T.1 T.2 (by exact rfl) rfl rfl
 | nil =>
  have e1:=(show (match sEq m "pop",nV l,small l.length with | true,some v,true=>Rbind (setL i (l.take (l.length - 1))) fun _=>Rpure v | _,_,_=>Rno) _=some (r,σ') from e1)
  refine boolF (b:=sEq m "pop") (fun k1=>?_) fun k1=>?_
  ·rw [k1] at e1; exact nx e1
  ·refine optE (o:=nV l) (fun k2=>?_) fun v k2=>?_
   ·rw [k1,k2] at e1; exact nx e1
   ·refine boolF (b:=small l.length) (fun k3=>?_) fun k3=>?_
    ·rw [k1,k2,k3] at e1; exact nx e1
    rw [k1,k2,k3] at e1
    obtain ⟨_,σ₂,e2,e3⟩:=aH (m:=setL i (l.take (l.length - 1))) e1; clear e1
    have:=tK e2
    clear e2; subst this
    obtain ⟨z1,z2⟩:=fZ e3; clear e3; subst z1 z2
    have hm:=aK.mp k1
    clear k1; subst hm
    refine ⟨"list.pop",fun A E s Q pl G τ u I x q=>?_,fun A E s Q G u us hh I x y P=>?_⟩
    ·obtain ⟨a,us,z1,n,h⟩:=yF I x; clear x; subst z1
     exact getMethod_builtin ⟨_,h,rfl⟩ PySem.F.plainAttrs_list PySem.F.slot_list_pop PySem.F.type_list_pop (fun b q=>by cases q; exact ⟨_,h,rfl⟩) q
    ·obtain ⟨a,ls,z1,ha,hx,hv⟩:=rY I hl x; clear x; subst z1
     have:us=[]:=y
     clear y; subst this
     have hlen:=hv.len
     have hs:=cR k3
     have sl:=iB
     obtain ⟨n,hg⟩:=hx
     have k2' : (match Nat.ble (0 + 1) l.length with | true=>l[l.length - (0 + 1)]? | false=>none)=some r:=k2
     refine boolF (b:=Nat.ble (0 + 1) l.length) (fun hb=>?_) fun hb=>?_
     ·rw [hb] at k2'; exact nx k2'
     ·rw [hb] at k2'
      have hb:=Nat.le_of_ble_eq_true hb
      obtain ⟨x,hx,hr⟩:=hv.get k2'
      refine call_meets PySem.F.slot_list_pop ⟨_,hg,rfl⟩ PySem.F.entry_list_pop (PySem.F.args_list_pop_1 _) (MeetsSeq.list_pop_last a ls.toArray n x (by simp [hlen]; simpa using hx) (fF (el hlen hs))) ⟨hg,?_⟩
      have sb:=Heap.SameBut.update s.heap a (Obj.mapSeq fun xs=>xs.eraseIdxIfInBounds (ls.toArray.size - 1))
      have X:c9 (s.heap.update a (Obj.mapSeq fun xs=>xs.eraseIdxIfInBounds (ls.toArray.size - 1))) a (ls.take (ls.length - 1)):=by
       have e0:=Heap.get?_update_self (Obj.mapSeq fun xs=>xs.eraseIdxIfInBounds (ls.toArray.size - 1)) hg rfl
       refine ⟨if (ls.take (ls.length - 1)).toArray.size == ls.toArray.size then n else n + 1,e0.trans ?_⟩
       show some (Obj.mk _ _ (Data.seq (ls.toArray.eraseIdxIfInBounds (ls.toArray.size - 1)) (if (ls.toArray.eraseIdxIfInBounds (ls.toArray.size - 1)).size == ls.toArray.size then n else n + 1)) _)=_
       rw [aDP]
      have T:=I.setL ha hl sb X hv.take
      rw [hlen] at T
      exact P x _ G T.1 T.2 (hr.step T.2.car0) rfl rfl
theorem aDh {as:List (Str×V)} {m:Str} {vs:List V} {r:V} {C:Prop} (e:qQ as m vs σ=some (r,σ')) (c:∀ k d,vs=[.pv (.str k),d]→m = "get"→r=(match look k as with | some v=>v | none=>d)→σ' = σ→C):C:=by
 cases vs with
 | nil=>exact nx e
 | cons a t=>cases a with
  | pv p=>cases p with
   | str k=>cases t with
    | nil=>exact nx e
    | cons d t=>cases t with
     | nil =>
      refine boolF (b:=sEq m "get") (fun k1=>?_) fun k1=>?_
      ·have e:=(show (match sEq m "get" with | true=>Rpure (match look k as with | some v=>v | none=>d) | false=>Rno) σ=some (r,σ') from e); rw [k1] at e; exact nx e
      ·have e:=(show (match sEq m "get" with | true=>Rpure (match look k as with | some v=>v | none=>d) | false=>Rno) σ=some (r,σ') from e)
       rw [k1] at e
       obtain ⟨z1,z2⟩:=fZ e
       exact c k d rfl (aK.mp k1) z1 z2
     | cons _ _=>exact nx e
   | _=>exact nx e
  | _=>exact nx e
theorem aDi {as:List (Str×V)} {m:Str} {vs:List V} {r:V} (e:qQ as m vs σ=some (r,σ')):kH w g (.vd as) m vs r σ σ':=by
 refine aDh e fun k d z0 hm hr z1=>?_
 ··clear e; subst z0 z1 hm
   refine ⟨"dict.get",fun A E s Q pl G τ u I x q=>?_,fun A E s Q G u us hh I x y P=>?_⟩
   ·obtain ⟨d,us,rfl,_,⟨_,h2⟩,_⟩:=x
    obtain ⟨o,es,ep,h,hx,_⟩:=id h2
    exact getMethod_builtin h2.typeIs PySem.F.plainAttrs_dict PySem.F.slot_dict_get PySem.F.type_dict_get (fun b q=>by cases q; exact ⟨_,h,hx.2.1⟩) q
   ·obtain ⟨d',us',rfl,_,⟨h1,h2⟩,h3⟩:=x
    obtain ⟨u1,u2,z1,hu1,hu2⟩:=y.two; clear y; subst z1
    obtain ⟨t,rfl⟩:=hu1
    rw [I.pw] at h2
    refine call_meetsIn PySem.F.slot_dict_get h2.typeIs PySem.F.entry_dict_get (PySem.F.args_dict_get_3 _ _ _) (meets_dict_get_default (PySem.strKind lw.row.prog w) d' (k:=k) (by simp [PySem.strKind,Value.isStrOf]) h1 u2) ⟨_,h2.mapOf,?_⟩
    rw [pJ]
    subst hr
    refine P.same I ?_
    cases hk:look k as with
    | none=>rw [h3.look_none hk]; exact hu2
    | some v=>obtain ⟨u,q1,q2⟩:=h3.look hk; rw [q1]; exact q2
theorem aAm {c:Nat}:∀ {p:List Nat},c ∉ p→splitOn c p=[p]
 | [],_=>rfl
 | a::p,h=>by
  have h1:Nat.beq a c=false:=by
   cases q:Nat.beq a c with
   | false=>rfl
   | true=>exact absurd (List.mem_cons.mpr (.inl (Nat.eq_of_beq_eq_true q).symm)) h
  show (match Nat.beq a c,splitOn c p with | true,l=>[]::l | false,w::l=>(a::w)::l | false,[]=>[[a]])=_
  rw [h1,aAm (fun q=>h (List.mem_cons_of_mem _ q))]
theorem aAl {c:Nat} {r:List Nat}:∀ {p:List Nat},c ∉ p→splitOn c (p++c::r)=p::splitOn c r
 | [],_=>by
  have:Nat.beq c c=true:=Nat.beq_refl c
  show (match Nat.beq c c,splitOn c r with | true,l=>[]::l | false,w::l=>(c::w)::l | false,[]=>[[c]])=_
  rw [this]
 | a::p,h=>by
  have h1:Nat.beq a c=false:=by
   cases q:Nat.beq a c with
   | false=>rfl
   | true=>exact absurd (List.mem_cons.mpr (.inl (Nat.eq_of_beq_eq_true q).symm)) h
  have ih:=aAl (r:=r) (fun q=>h (List.mem_cons_of_mem _ q))
  show (match Nat.beq a c,splitOn c (p++c::r) with | true,l=>[]::l | false,w::l=>(a::w)::l | false,[]=>[[a]])=_
  rw [h1,ih]
theorem aAn {c:Nat}:∀ {l:List Str},l ≠ []→(∀ p ∈ l,c ∉ p.cps.toList)→splitOn c (Str.join ⟨#[c]⟩ l).cps.toList=l.map fun p=>p.cps.toList
 | [],h,_=>absurd rfl h
 | [x],_,h=>by
  show splitOn c x.cps.toList=_
  rw [aAm (h x (List.mem_singleton.mpr rfl))]; rfl
 | x::y::r,_,h=>by
  have e:(Str.join ⟨#[c]⟩ (x::y::r)).cps.toList=x.cps.toList++c::(Str.join ⟨#[c]⟩ (y::r)).cps.toList:=by
   show ((x++⟨#[c]⟩++Str.join ⟨#[c]⟩ (y::r):Str)).cps.toList=_
   show (x.cps++#[c]++(Str.join ⟨#[c]⟩ (y::r)).cps).toList=_
   simp
  rw [e,aAl (h x (List.mem_cons_self ..)),aAn (by simp) (fun p hp=>h p (List.mem_cons_of_mem _ hp))]
  rfl
theorem aIz (x:Str) (c:Nat):Txt.split x ⟨#[c]⟩=(splitOn c x.cps.toList).map fun w=>(⟨w.toArray⟩:Str):=by
 have h1:Txt.split x ⟨#[c]⟩ ≠ []:=fun q=>by have:=PyProof.Rows.split_pos x ⟨#[c]⟩; rw [q] at this; simp at this
 have h2:=aAn h1 (StrLaws.split_free x c)
 rw [StrLaws.join_split] at h2
 rw [h2,List.map_map]
 have:((fun w=>(⟨w.toArray⟩:Str)) ∘ fun p:Str=>p.cps.toList)=id:=by funext p; simp
 rw [this,List.map_id]
theorem aIM (x y:Str):Txt.startswith x y=dL y.cps.toList x.cps.toList:=by
 rw [Bool.eq_iff_iff,lK]
 unfold Txt.startswith Builtin.Str.subAt
 simp only [Bool.and_eq_true,decide_eq_true_eq,beq_iff_eq,Nat.zero_add]
 constructor
 ·rintro ⟨_,h⟩
  have:=congrArg Array.toList h
  simpa [Array.toList_extract,Str.length] using this
 ·intro h
  refine ⟨?_,?_⟩
  ·exact el (congrArg List.length h).symm (List.length_take_le' _ _)
  ·apply Array.toList_inj.mp
   simpa [Array.toList_extract,Str.length] using h
theorem yH:Txt.lower "CONTINUE" = "continue":=by decide +kernel
theorem aEz:Builtin.Str.occurrences figTxt "1" 0 (figTxt:Str).length 1=[1]:=by decide +kernel
noncomputable def KPs (s:Shared) (h' : Heap):Prop:=∀ b o,s.heap.get? b=some o→h'.get? b=some o
theorem KPs.kept (s:Shared):KeptH (KPs s):=fun h ob hp b o q=>bG _ _ _ _ (hp b o q)
theorem KPs.now (s:Shared):KPs s s.heap:=fun _ _ q=>q
theorem aAu {h:Heap}:∀ (l:List (Str×Tok)),PRs G h (l.map fun p=>PV.str p.1) (strValues l)
 | []=>by simp only [List.map,PRs]; rfl
 | (x,t)::l=>by
  simp only [List.map,PRs]
  exact ⟨_,_,rfl,by exact ⟨t,rfl⟩,aAu l⟩
theorem tN {τ:Shared} {x:Str} {t:Tok}:τ.TypeIs (.str x t) "str":=rfl
theorem aIy {x:Str} {t u:Tok} {c:Nat} {Q:Value→Shared→Prop} (hz:x.cps.toList.length ≤ 1000000)
 (h:∀ (l:List (Str×Tok)) k,l.map (·.1)=Txt.split x ⟨#[c]⟩→Q (.ref s.heap.objs.size) { s with heap:=s.heap.push { cls:=.type "list",data:=.seq (strValues l).toArray },toks:=k }) :
 wpAny (MW w) A (call (.builtin "str.split") [.str x t,.str ⟨#[c]⟩ u]) Q E s:=by
 have sl:=iB
 have hxl:x.length=x.cps.toList.length:=by simp [Str.length]
 have hlen:=PyProof.Rows.split_le x ⟨#[c]⟩
 refine boolF (b:=(decide (x.length < (⟨#[c]⟩:Str).length) || decide (Builtin.Str.strKind x < Builtin.Str.strKind ⟨#[c]⟩))) (fun h1=>?_) fun h1=>?_
 ·refine boolF (b:=(Builtin.Str.occurrences x ⟨#[c]⟩ 0 x.length (x.length + 1)).isEmpty) (fun hf=>?_) fun hf=>?_
  ·have e:Txt.split x ⟨#[c]⟩=Builtin.Str.partsBetween x (Builtin.Str.occurrences x ⟨#[c]⟩ 0 x.length (x.length + 1)) (⟨#[c]⟩:Str).length:=by
    unfold Txt.split; rw [if_neg (by rw [h1]; decide),if_neg (by rw [hf]; decide)]
   refine call_meets PySem.F.slot_str_split tN PySem.F.entry_str_split (PySem.F.args_str_split_2 _ _) (meets_str_split_sep x ⟨#[c]⟩ t u h1 rfl hf (by lia) (by rw [← e]; lia)) ?_
   rw [strsFrom_eq]
   exact h _ _ ((numbered_texts _ _).trans e.symm)
  ·exact call_meets PySem.F.slot_str_split tN PySem.F.entry_str_split (PySem.F.args_str_split_2 _ _) (meets_str_split_not_found x ⟨#[c]⟩ t u h1 rfl hf) (h [(x,t)] s.toks (by unfold Txt.split; rw [if_neg (by rw [h1]; decide),if_pos hf]; rfl))
 ·exact call_meets PySem.F.slot_str_split tN PySem.F.entry_str_split (PySem.F.args_str_split_2 _ _) (meets_str_split_cannot_occur x ⟨#[c]⟩ t u h1) (h [(x,t)] s.toks (by unfold Txt.split; rw [if_pos h1]; rfl))
theorem aJ2 {x m:Str} {vs:List V} {r:V} {C:Prop} (e:i8 x m vs σ=some (r,σ')) (c1:∀ y,vs=[.pv (.str y)]→m = "startswith"→r = .pv (.bool (dL y.cps.toList x.cps.toList))→σ' = σ→C)
 (c2:∀ y c,x.cps.toList.length ≤ 1000000→vs=[.pv (.str y)]→m = "split"→y.cps.toList=[c]→r = .pv (PV.lst ((splitOn c x.cps.toList).map fun w:List Nat=>PV.str ⟨w.toArray⟩))→σ' = σ→C)
 (c3:vs=[.pv (.str "1")]→m = "index"→x=figTxt→r = .pv (.int (.ofNat 1))→σ' = σ→C) (c4:vs=[]→m = "lower"→x = "CONTINUE"→r = .pv (.str "continue")→σ' = σ→C):C:=by
 refine boolF (b:=small x.cps.toList.length) (fun hs=>?_) fun hs=>?_
 ·unfold i8 at e; rw [hs] at e; exact nx e
 unfold i8 at e
 rw [hs] at e
 cases vs with
 | nil =>
  have e:=(show (match sEq m "lower",sEq x "CONTINUE" with | true,true=>Rpure (V.pv (.str "continue")) | _,_=>Rno) σ=some (r,σ') from e)
  refine boolF (b:=sEq m "lower") (fun k1=>?_) fun k1=>?_
  ·rw [k1] at e; exact nx e
  ·refine boolF (b:=sEq x "CONTINUE") (fun k2=>?_) fun k2=>?_
   ·rw [k1,k2] at e; exact nx e
   ·rw [k1,k2] at e
    obtain ⟨z1,z2⟩:=fZ e
    exact c4 rfl (aK.mp k1) (aK.mp k2) z1 z2
 | cons a t=>cases a with
  | pv p=>cases p with
   | str y=>cases t with
    | cons _ _=>exact nx e
    | nil =>
     have e:=(show (match sEq m "startswith",sEq m "split",sEq m "index" with
      | true,_,_=>Rpure (V.pv (.bool (dL y.cps.toList x.cps.toList)))
      | _,true,_=>(match y.cps.toList with
       | [c]=>Rpure (V.pv (PV.lst ((splitOn c x.cps.toList).map fun w:List Nat=>PV.str ⟨w.toArray⟩)))
       | _=>Rno)
      | _,_,true=>(match sEq x figTxt,sEq y "1" with
       | true,true=>Rpure (V.pv (.int (.ofNat 1)))
       | _,_=>Rno)
      | _,_,_=>Rno) σ=some (r,σ') from e)
     cases k1:sEq m "startswith" with
     | true=>rw [k1] at e; obtain ⟨z1,z2⟩:=fZ e; exact c1 y rfl (aK.mp k1) z1 z2
     | false =>
     cases k2:sEq m "split" with
     | true =>
      rw [k1,k2] at e
      have e:=(show (match y.cps.toList with | [c]=>Rpure (V.pv (PV.lst ((splitOn c x.cps.toList).map fun w:List Nat=>PV.str ⟨w.toArray⟩))) | _=>Rno) σ=some (r,σ') from e)
      cases hy:y.cps.toList with
      | nil=>rw [hy] at e; exact nx e
      | cons c q =>
       rw [hy] at e
       cases q with
       | nil=>obtain ⟨z1,z2⟩:=fZ e; exact c2 y c (cR hs) rfl (aK.mp k2) hy z1 z2
       | cons _ _=>exact nx e
     | false =>
     refine boolF (b:=sEq m "index") (fun k3=>?_) fun k3=>?_
     ·rw [k1,k2,k3] at e; exact nx e
     ·rw [k1,k2,k3] at e
      have e:=(show (match sEq x figTxt,sEq y "1" with | true,true=>Rpure (V.pv (.int (.ofNat 1))) | _,_=>Rno) σ=some (r,σ') from e)
      refine boolF (b:=sEq x figTxt) (fun k4=>?_) fun k4=>?_
      ·rw [k4] at e; exact nx e
      ·refine boolF (b:=sEq y "1") (fun k5=>?_) fun k5=>?_
       ·rw [k4,k5] at e; exact nx e
       ·rw [k4,k5] at e
        obtain ⟨z1,z2⟩:=fZ e
        exact c3 (by rw [aK.mp k5]) (aK.mp k3) (aK.mp k4) z1 z2
   | _=>exact nx e
  | _=>exact nx e
theorem aAK {x m:Str} {vs:List V} {r:V} (e:i8 x m vs σ=some (r,σ')):kH w g (.pv (.str x)) m vs r σ σ':=by
 refine aJ2 e (fun y z0 hm z1 z2=>?_) (fun y c hz z0 hm hc z1 z2=>?_) (fun z0 hm hx z1 z2=>?_) fun z0 hm hx z1 z2=>?_
 ·clear e; subst z0 z1 z2 hm
  refine ⟨"str.startswith",fun A E s Q pl G τ u I xx q=>?_,fun A E s Q G u us hh I xx yy P=>?_⟩
  ·obtain ⟨t,rfl⟩:=xx
   exact GM.startswith q
  ·obtain ⟨t,rfl⟩:=xx
   obtain ⟨u',z1,hu⟩:=yy.one; clear yy; subst z1
   obtain ⟨t',rfl⟩:=hu
   exact SC.startswith (P.here I (by show _=_; rw [aIM]))
 ·clear e; subst z0 z1 z2 hm
  refine ⟨"str.split",fun A E s Q pl G τ u I xx q=>?_,fun A E s Q G u us hh I xx yy P=>?_⟩
  ·obtain ⟨t,rfl⟩:=xx
   exact GM.split q
  ·obtain ⟨t,rfl⟩:=xx
   obtain ⟨u',z1,hu⟩:=yy.one; clear yy; subst z1
   obtain ⟨t',rfl⟩:=hu
   have hy:y=⟨#[c]⟩:=congrArg Str.mk (Array.toList_inj.mp hc)
   clear hc; subst hy
   refine aIy hz fun l k hl=>P.grown I (bG _ _) ?_
   refine ⟨_,strValues l,rfl,I.new,cL.new _ _,?_⟩
   have:((splitOn c x.cps.toList).map fun w:List Nat=>PV.str ⟨w.toArray⟩)=l.map fun p=>PV.str p.1:=by
    have h1:(l.map (·.1))=(splitOn c x.cps.toList).map fun w=>(⟨w.toArray⟩:Str):=hl.trans (aIz x c)
    have h2:=congrArg (List.map PV.str) h1
    rw [List.map_map,List.map_map] at h2
    exact h2.symm
   rw [this]
   exact aAu l
 ·clear e; subst z0 z1 z2 hm hx
  refine ⟨"str.index",fun A E s Q pl G τ u I xx q=>?_,fun A E s Q G u us hh I xx yy P=>?_⟩
  ·obtain ⟨t,rfl⟩:=xx
   exact GM.index q
  ·obtain ⟨t,rfl⟩:=xx
   obtain ⟨u',z1,hu⟩:=yy.one; clear yy; subst z1
   obtain ⟨t',rfl⟩:=hu
   exact SC.index aEz (P.same I (by exact ⟨_,rfl⟩))
 ·clear e; subst z0 z1 z2 hm hx
  refine ⟨"str.lower",fun A E s Q pl G τ u I xx q=>?_,fun A E s Q G u us hh I xx yy P=>?_⟩
  ·obtain ⟨t,rfl⟩:=xx
   exact GM.lower q
  ·obtain ⟨t,rfl⟩:=xx
   have:us=[]:=yy
   clear yy; subst this
   exact SC.lower (by rw [yH]; decide +kernel) (P.same I (by rw [yH]; exact ⟨_,rfl⟩))
open AutoSeq1 (wpAny_loadPart')
theorem aJU (l:Addr) (items:Array Value) (n:Nat) (x:Value) (e:Value→Bool) (j:Nat) (hj:j < items.size) (hit:e items[j]=true) (hno:∀ m (hm:m < items.size),m < j→e items[m]=false) :
 Meets (Builtin.«tuple.index» ⟨[.ref l,x],[]⟩)
  (fun A R s=>s.heap.get? l=some { cls:=.type "tuple",data:=.seq items n }∧(∀ m (hm:m < items.size),m ≤ j→EqAt A.in1 s items[m] x (e items[m]))∧R (.ok (.ret (.int j s.toks))) { s with toks:=s.toks + 1 }) :=
 .of_wp fun prog w A R s h=>by
  obtain ⟨hp,g,d,tk,os⟩:=s; obtain ⟨hl,he,h⟩:=h
  have f2:=AutoSeq1.sub_tuple_tuple
  unfold Builtin.«tuple.index»
  simp only [Std.Legacy.Range.forIn_eq_forIn_range',Std.Legacy.Range.size]
  wp_walk using wpAny_loadPart' hl,wpAny_forIn_list _ (fun rest b s'=>b.1=none∧s' = ⟨hp,g,d,tk,os⟩∧∃ i,i ≤ j∧rest=(List.range' 0 items.size).drop i) _
  case turn =>
   rintro y rest b s' ⟨hb,rfl,i,hi,hr⟩
   have hlt:i < items.size:=Nat.lt_of_le_of_lt hi hj
   have hd:(List.range' 0 items.size).drop i=i::(List.range' 0 items.size).drop (i + 1):=by
    rw [List.drop_eq_getElem_cons (by simp; lia)]; simp
   rw [hd] at hr
   clear hd; injection hr with h1 h2
   subst h1
   rw [Array.getElem?_eq_getElem hlt]
   refine wpAny_bind (he y hlt hi prog w _ _ ?_)
   by_cases hij:y=j
   ·clear hno he hi; subst hij
    rw [hit]
    wp_walk
    exact ⟨_,rfl,h⟩
   ·rw [hno y hlt (Nat.lt_of_le_of_ne hi hij)]
    wp_walk
    exact ⟨rfl,rfl,y + 1,Nat.lt_of_le_of_ne hi hij,h2⟩
  case fin =>
   rintro b s' ⟨hb,rfl,i,hi,hr⟩
   have:=congrArg List.length hr
   simp at this
   lia
  case h =>
   exact ⟨rfl,rfl,0,Nat.zero_le _,by simp⟩
theorem w4 {A:Around} (x:Str) (t:Tok):∀ {l:List V} {us:List Value} {k b:Nat},VRs G s.heap l us→idxStr x b l=some k→b ≤ k∧(∃ h:k - b < us.length,eS x us[k - b]=true)∧∀ m (hm:m < us.length),m ≤ k - b→EqAt A s us[m] (.str x t) (eS x us[m])∧(m < k - b→eS x us[m]=false)
 | [],us,k,b,h,e=>by exact nx e
 | p::l,us,k,b,h,e=>by
  obtain ⟨u,r,rfl,h1,h2⟩:=h
  cases p with
  | pv q =>
   cases q with
   | str a =>
    have e:=(show (match sEq a x with | true=>some b | false=>idxStr x (b + 1) l)=some k from e)
    obtain ⟨t',rfl⟩:=h1
    refine boolF (b:=sEq a x) (fun hr=>?_) fun hr=>?_
    ·rw [hr] at e
     obtain ⟨k1,⟨k2,k3⟩,k4⟩:=w4 (A:=A) x t h2 e
     have hk:k - b=(k - (b + 1)) + 1:=(eR (Nat.sub_pos_of_lt k1)).symm
     have hax:eS x (.str a t')=false:=by
      show (a == x)=false
      rw [← lZ,hr]
     refine ⟨Nat.le_of_succ_le k1,⟨by rw [hk]; exact Nat.succ_le_succ k2,?_⟩,?_⟩
     ·simp only [hk,List.getElem_cons_succ]; exact k3
     ·intro m hm hle
      cases m with
      | zero=>exact ⟨EqAt.str_str a t' x t,fun _=>hax⟩
      | succ m =>
       have:=k4 m (by simpa using hm) (Nat.le_sub_one_of_lt hle)
       exact ⟨this.1,fun q=>this.2 (Nat.lt_sub_of_add_lt (b:=1) (c:=k - b) q)⟩
    ·rw [hr] at e
     have hkb:b=k:=by cases e; rfl
     clear e; subst hkb
     refine ⟨Nat.le_refl _,⟨by simp,?_⟩,?_⟩
     ·simp [eS,aK.mp hr]
     ·intro m hm hle
      have:m=0:=Nat.le_zero.mp (Nat.sub_self b ▸ hle)
      clear hle; subst this
      exact ⟨EqAt.str_str a t' x t,fun q=>absurd (Nat.sub_self b ▸ q) (Nat.lt_irrefl 0)⟩
   | _=>exact nx e
  | _=>exact nx e
theorem aJV {l:List V} {m:Str} {vs:List V} {r:V} {C:Prop} (e:tS l m vs σ=some (r,σ')) (c:∀ x k,vs=[.pv (.str x)]→m = "index"→idxStr x 0 l=some k→r = .pv (.int (.ofNat k))→σ' = σ→C):C:=by
 cases vs with
 | nil=>exact nx e
 | cons a t=>cases a with
  | pv p=>cases p with
   | str x=>cases t with
    | nil =>
     have e:=(show (match sEq m "index" with | true=>Rbind (oneOf (idxStr x 0 l)) fun k=>Rpure (V.pv (.int (.ofNat k))) | false=>Rno) σ=some (r,σ') from e)
     refine boolF (b:=sEq m "index") (fun k1=>?_) fun k1=>?_
     ·rw [k1] at e; exact nx e
     ·rw [k1] at e
      obtain ⟨k,σ₁,e1,e2⟩:=aH e; clear e
      obtain ⟨e3,z1⟩:=bB e1; clear e1; subst z1
      obtain ⟨z1,z2⟩:=fZ e2
      exact c x k rfl (aK.mp k1) e3 z1 z2
    | cons _ _=>exact nx e
   | _=>exact nx e
  | _=>exact nx e
theorem aJX {v:V} {l:List V} {m:Str} {vs:List V} {r:V} (hv:bC v=some l) (e:tS l m vs σ=some (r,σ')):kH w g v m vs r σ σ':=by
 refine aJV e fun x k z0 hm e3 z1 z2=>?_
 ··clear e; subst z0 z1 z2 hm
   refine ⟨"tuple.index",fun A E s Q pl G τ u I xx q=>?_,fun A E s Q G u us hh I xx yy P=>?_⟩
   ·obtain ⟨a,us,z1,_,⟨n,h⟩,_⟩:=eJ hv xx; clear xx; subst z1
    exact getMethod_builtin ⟨_,h,rfl⟩ PySem.F.plainAttrs_tuple PySem.F.slot_tuple_index PySem.F.type_tuple_index (fun b q=>by cases q; exact ⟨_,h,rfl⟩) q
   ·obtain ⟨a,ls,z1,_,⟨n,h⟩,hs⟩:=eJ hv xx; clear xx; subst z1
    obtain ⟨u',z1,hu⟩:=yy.one; clear yy; subst z1
    obtain ⟨t,rfl⟩:=hu
    obtain ⟨_,⟨k2,k3⟩,k4⟩:=w4 (A:=A.in1) x t hs e3
    simp only [Nat.sub_zero] at k2 k3 k4
    exact call_meets PySem.F.slot_tuple_index ⟨_,h,rfl⟩ PySem.F.entry_tuple_index (PySem.F.args_tuple_index_2 _ _)
     (aJU a ls.toArray n (.str x t) (eS x) k (by exact (k2)) (by exact (k3)) (fun m hm hlt=>by simpa using (k4 m (by exact (hm)) (Nat.le_of_lt hlt)).2 hlt))
     ⟨h,fun m hm hle=>by simpa using (k4 m (by exact (hm)) hle).1,P.same I (by exact ⟨_,rfl⟩)⟩
theorem nX {n:Nat} {v:V} (e:dE n σ=some (v,σ')):n ≤ 1000000∧v = .pv (.int (.ofNat n))∧σ' = σ:=by
 unfold dE at e
 refine boolF (b:=small n) (fun h=>?_) fun h=>?_
 ·simp only [h] at e; exact nx e
 ·simp only [h] at e; cases e; exact ⟨cR h,rfl,rfl⟩
theorem yC {v r:V} {u:Value} {Q:Value→Shared→Prop} (e:nW v σ=some (r,σ')) (I:Inv w g G σ s.heap) (x:VR G s.heap v u) (P:aP w g G σ' s (fun G h u=>VR G h r u) Q) :
 wpAny (MW w) A (call (.builtin "len") [u]) Q E s:=by
 have fin:∀ {n:Nat} {k:Nat} {t:Tok},dE n σ=some (r,σ')→Q (.int n t) { s with toks:=k }:=fun {n k t} e=>by
  obtain ⟨_,z1,z2⟩:=nX e; clear e; subst z1 z2
  exact P.same I (by exact ⟨_,rfl⟩)
 have tup:∀ l,bC v=some l→dE l.length σ=some (r,σ')→wpAny (MW w) A (call (.builtin "len") [u]) Q E s:=fun l hl e=>by
  obtain ⟨a,us,rfl,_,ht,hs⟩:=eJ hl x
  have hlen:=hs.len
  have hsz:=(nX e).1
  refine PyProof.Rows.len_tuple (items:=us.toArray) ht.isTuple (by simpa using i63 (el hlen hsz)) ?_
  have:=fin (k:=s.toks + 1 + 1) (t:=s.toks + 1) e
  simpa [hlen] using this
 have lst:(Rbind (lstOf v) fun l=>dE l.length) σ=some (r,σ')→wpAny (MW w) A (call (.builtin "len") [u]) Q E s:=fun e=>by
  obtain ⟨l,σ₁,e1,e2⟩:=aH e; clear e
  obtain ⟨z1,a,us,z2,ht,hs⟩:=eO I e1 x; clear e1; subst z1 z2
  have hlen:=hs.len
  have hsz:=(nX e2).1
  refine PyProof.Rows.len_list (items:=us.toArray) ht.isList (by simpa using i63 (el hlen hsz)) ?_
  have:=fin (k:=s.toks + 1 + 1) (t:=s.toks + 1) e2
  simpa [hlen] using this
 have str:∀ y,v = .pv (.str y)→wpAny (MW w) A (call (.builtin "len") [u]) Q E s:=fun y hv=>by
  subst hv
  have e:=(show dE y.cps.toList.length σ=some (r,σ') from e)
  obtain ⟨t,rfl⟩:=x
  have hsz:=(nX e).1
  have hl:y.length=y.cps.toList.length:=by simp [Str.length]
  refine PyProof.Rows.len_str (by rw [hl]; exact Int.not_le.mpr (i63 hsz)) ?_
  have:=fin (k:=s.toks + 1 + 1) (t:=s.toks + 1) e
  rw [hl]; exact this
 cases v with
 | pv p=>cases p with
  | str y=>exact str y rfl
  | tup l=>exact tup _ rfl e
  | _=>exact lst e
 | tup l=>exact tup _ rfl e
 | _=>exact lst e
theorem aBp {v r:V} {u:Value} {Q:Value→Shared→Prop} (e:pT v σ=some (r,σ')) (I:Inv w g G σ s.heap) (x:VR G s.heap v u) (P:aP w g G σ' s (fun G h u=>VR G h r u) Q) :
 wpAny (MW w) A (call (.builtin "abs") [u]) Q E s:=by
 obtain ⟨i,rfl,rfl,rfl⟩:∃ i,v = .pv (.int i)∧r = .pv (.int (.ofNat i.natAbs))∧σ' = σ:=by
  clear I x P; cases v with
  | pv p=>cases p with
   | int i=>cases e; exact ⟨i,rfl,rfl,rfl⟩
   | _=>exact nx e
  | _=>exact nx e
 ·
  obtain ⟨t,rfl⟩:=x
  refine call_abs_int fun u tk=>?_
  have:(if i < 0 then -i else i)=(.ofNat i.natAbs:Int):=by
   split
   ·rename_i h; exact (Int.ofNat_natAbs_of_nonpos (Int.le_of_lt h)).symm
   ·rename_i h; exact (Int.natAbs_of_nonneg (Int.not_lt.mp h)).symm
  rw [this]
  exact P.same I (by exact ⟨_,rfl⟩)
theorem aGJ {v r:V} {u:Value} {Q:Value→Shared→Prop} (e:sQ v σ=some (r,σ')) (I:Inv w g G σ s.heap) (x:VR G s.heap v u) (P:aP w g G σ' s (fun G h u=>VR G h r u) Q) :
 wpAny (MW w) A (call (.builtin "ord") [u]) Q E s:=by
 obtain ⟨y,c,rfl,hc,rfl,rfl⟩:∃ y c,v = .pv (.str y)∧y.cps.toList=[c]∧r = .pv (.int (.ofNat c))∧σ' = σ:=by
  clear I x P; cases v with
  | pv p=>cases p with
   | str y =>
    have e:=(show (match y.cps.toList with | [c]=>Rpure (V.pv (.int (.ofNat c))) | _=>Rno) σ=some (r,σ') from e)
    cases hy:y.cps.toList with
    | nil=>simp only [hy] at e; exact nx e
    | cons c l =>
     cases l with
     | nil=>simp only [hy] at e; cases e; exact ⟨y,c,rfl,hy,rfl,rfl⟩
     | cons _ _=>simp only [hy] at e; exact nx e
   | _=>exact nx e
  | _=>exact nx e
 obtain ⟨t,rfl⟩:=x
 have:y=⟨#[c]⟩:=by cases y; simp only [Str.mk.injEq]; exact Array.toList_inj.mp hc
 clear hc; subst this
 exact PySem.P.ord_of_char (P.same I (by exact ⟨_,rfl⟩))
theorem aCn {b:String} {args:List V} {us:List Value} {r:V} {Q:Value→Shared→Prop} (e:vE b args σ=some (r,σ')) (I:Inv w g G σ s.heap) (x:VRs G s.heap args us)
 (P:aP w g G σ' s (fun G h u=>VR G h r u) Q):wpAny (MW w) A (call (.builtin b) us) Q E s:=by
 obtain ⟨v,rfl⟩:∃ v,args=[v]:=by
  cases args with
  | nil=>exact nx e
  | cons v t=>cases t with
   | nil=>exact ⟨v,rfl⟩
   | cons _ _=>exact nx e
 ·obtain ⟨u,z1,hu⟩:=x.one; clear x; subst z1
  have e:=(show (match decide (b = "len"),decide (b = "abs"),decide (b = "ord") with | true,_,_=>nW v | _,true,_=>pT v | _,_,true=>sQ v | _,_,_=>Rno) σ=some (r,σ') from e)
  refine boolF (b:=decide (b = "len")) (fun h1=>?_) fun h1=>?_
  ·refine boolF (b:=decide (b = "abs")) (fun h2=>?_) fun h2=>?_
   ·refine boolF (b:=decide (b = "ord")) (fun h3=>?_) fun h3=>?_
    ·rw [h1,h2,h3] at e; exact nx e
    ·rw [h1,h2,h3] at e; have:=of_decide_eq_true h3; clear h1 h2 h3; subst this; exact aGJ e I hu P
   ·rw [h1,h2] at e; have:=of_decide_eq_true h2; clear h1 h2; subst this; exact aBp e I hu P
  ·rw [h1] at e; have:=of_decide_eq_true h1; clear h1; subst this; exact yC e I hu P
theorem aEC {v r:V} {u:Value} {Q:Value→Shared→Prop} (e:rM v σ=some (r,σ')) (I:Inv w g G σ s.heap) (x:VR G s.heap v u) (P:aP w g G σ' s (fun G h u=>VR G h r u) Q) :
 wpAny (MW w) A (call (.type "int") [u]) Q E s:=by
 cases v with
 | pv p=>cases p with
  | int i =>
   cases e
   obtain ⟨t,rfl⟩:=x
   exact call_int_int (P.here I (by exact ⟨_,rfl⟩))
  | bool b =>
   cases e
   obtain rfl:=x
   exact call_int_bool (P.same I (by exact ⟨s.toks,by cases b <;> rfl⟩))
  | _=>exact nx e
 | _=>exact nx e
theorem aJY {v r:V} {u:Value} {Q:Value→Shared→Prop} (e:pG v σ=some (r,σ')) (I:Inv w g G σ s.heap) (x:VR G s.heap v u) (P:aP w g G σ' s (fun G h u=>VR G h r u) Q) :
 wpAny (MW w) A (call (.type "tuple") [u]) Q E s:=by
 unfold pG at e
 obtain ⟨l,σ₁,e1,e2⟩:=aH e; clear e
 obtain ⟨z1,a,us,z2,ht,hs⟩:=eO I e1 x; clear e1; subst z1 z2
 refine boolF (b:=small l.length) (fun hz=>?_) fun hz=>?_
 ·simp only [hz] at e2; exact nx e2
 ·simp only [hz] at e2
  cases e2
  have hsz:us.toArray.size ≤ sizeLine:=fF (el hs.len (cR hz))
  refine call_tuple_list ht.isList (fun h' k=>?_) hsz
  have I' : Inv w g G _ ({ s with heap:=h' }:Shared).heap:=I.ext k
  exact P.grown I (fun b o q=>bG _ _ _ _ (k b o q)) (oG I' (hs.step (Stp.ext (X:=[]) k).car0))
inductive aAX (us:List Value) (bs:List UInt8):Prop
 | mk (ns:List Int) (h1:IntsAre us ns) (h2:∀ n ∈ ns,0 ≤ n∧n < 256) (h3:ns.map (fun n=>n.toNat.toUInt8)=bs)
theorem aCq {h:Heap} {l:List V}:∀ {us:List Value} {bs:List UInt8},kX l=some bs→VRs G h l us→aAX us bs:=by
 induction l with
 | nil=>intro us bs e x; exact so e ▸ (x:us=[]) ▸ ⟨[],.nil,nofun,rfl⟩
 | cons v l ih =>
  intro us bs e x
  cases v with
  | pv p =>
   cases p with
   | int i =>
    cases i with
    | negSucc _=>exact nx e
    | ofNat n =>
     have e:=(show (match Nat.ble n 255,kX l with
      | true,some l=>some (UInt8.ofNat n::l)
      | _,_=>none)=some bs from e)
     refine boolF (b:=Nat.ble n 255) (fun h1=>?_) fun h1=>?_
     ·rw [h1] at e; exact nx e
     ·refine optE (o:=kX l) (fun h2=>?_) fun r h2=>?_
      ·rw [h1,h2] at e; exact nx e
      ·rw [h1,h2] at e
       obtain ⟨u,us',z,⟨t,z'⟩,hs⟩:=x
       obtain ⟨ns,i1,i2,i3⟩:=ih h2 hs
       exact z ▸ z' ▸ ⟨(n:Int)::ns,.cons _ _ i1,fun m hm=>(List.mem_cons.mp hm).elim (fun e=>e ▸ ⟨Int.natCast_nonneg n,Int.ofNat_lt.mpr (Nat.lt_succ_of_le (Nat.le_of_ble_eq_true h1))⟩) (i2 m),by rw [List.map_cons,i3]; exact (so e).symm⟩
   | _=>exact nx e
  | _=>exact nx e
theorem aCp {v r:V} {u:Value} {Q:Value→Shared→Prop} (hA:A.handled=none) (e:m9 v σ=some (r,σ')) (I:Inv w g G σ s.heap) (x:VR G s.heap v u) (P:aP w g G σ' s (fun G h u=>VR G h r u) Q) :
 wpAny (MW w) A (call (.type "bytes") [u]) Q E s:=by
 unfold m9 at e
 obtain ⟨l,σ₁,e1,e2⟩:=aH e; clear e
 obtain ⟨h1,z1⟩:=bB e1; clear e1; subst z1
 obtain ⟨bs,σ₂,e3,e4⟩:=aH e2; clear e2
 obtain ⟨h2,z1⟩:=bB e3; clear e3; subst z1
 refine boolF (b:=small l.length) (fun hz=>?_) fun hz=>?_
 ·simp only [hz] at e4; exact nx e4
 ·simp only [hz] at e4
  cases e4
  obtain ⟨a,us,z1,_,ht,hs⟩:=mD h1 x; clear x; subst z1
  obtain ⟨ns,i1,i2,i3⟩:=aCq h2 hs
  refine call_bytes_ints (s:=s) ht.isList i1 i2 (fF (el hs.len (cR hz))) hA fun h' t k q=>?_
  refine P.grown (d:=s.drawn) I q ?_
  exact ⟨t,by unfold byteArr; rw [i3]⟩
theorem aJ3 {b:String} {args:List V} {us:List Value} {r:V} {Q:Value→Shared→Prop} (hA:A.handled=none) (e:aAL b args σ=some (r,σ')) (I:Inv w g G σ s.heap) (x:VRs G s.heap args us)
 (P:aP w g G σ' s (fun G h u=>VR G h r u) Q):wpAny (MW w) A (call (.type b) us) Q E s:=by
 obtain ⟨v,rfl⟩:∃ v,args=[v]:=by
  cases args with
  | nil=>exact nx e
  | cons v t=>cases t with
   | nil=>exact ⟨v,rfl⟩
   | cons _ _=>exact nx e
 ·obtain ⟨u,z1,hu⟩:=x.one; clear x; subst z1
  have e:=(show (match decide (b = "tuple"),decide (b = "int"),decide (b = "bytes") with | true,_,_=>pG v | _,true,_=>rM v | _,_,true=>m9 v | _,_,_=>Rno) σ=some (r,σ') from e)
  refine boolF (b:=decide (b = "tuple")) (fun h1=>?_) fun h1=>?_
  ·refine boolF (b:=decide (b = "int")) (fun h2=>?_) fun h2=>?_
   ·refine boolF (b:=decide (b = "bytes")) (fun h3=>?_) fun h3=>?_
    ·rw [h1,h2,h3] at e; exact nx e
    ·rw [h1,h2,h3] at e; have:=of_decide_eq_true h3; clear h1 h2 h3; subst this; exact aCp hA e I hu P
   ·rw [h1,h2] at e; have:=of_decide_eq_true h2; clear h1 h2; subst this; exact aEC e I hu P
  ·rw [h1] at e; have:=of_decide_eq_true h1; clear h1; subst this; exact aJY e I hu P
noncomputable def FlR (G:Gh) (h:Heap):Fl→Flow→Prop
 | .next,f=>f = .next
 | .ret v,f=>∃ u,f = .ret u∧VR G h v u
noncomputable def dS (w:World) (g:Heap) (G:Gh) (σ' : aC) (s:Shared) (fi:FI) (env' : aB) (ME:Env) (fo:List Addr) (fl:Fl) (Q:Flow→Shared→Prop):Prop :=
 ∀ f s' G',Inv w g G' σ' s'.heap→Stp fo G s.heap G' s'.heap→Frm G' s'.heap fi env' ME fo→FlR G' s'.heap fl f→s'.gens=s.gens→s'.os=s.os→Q f s'
set_option backward.match.sparseCases true in
structure aN (w:World) (g:Heap) (n:Nat) (S:Sys):Prop where
 ev:∀ {fi env e σ v σ' A E s G ME fo} {Q:Value→Shared→Prop},S.ev fi env e σ=some (v,σ')→aU n A→Inv w g G σ s.heap→Frm G s.heap fi env ME fo →
  aP w g G σ' s (fun G h u=>VR G h v u) Q→wpAny (MW w) A (eval e ME) Q E s
 tr:∀ {fi env e σ b σ' A E s G ME fo} {Q:Bool→Shared→Prop},S.tr fi env e σ=some (b,σ')→aU n A→Inv w g G σ s.heap→Frm G s.heap fi env ME fo →
  aP w g G σ' s (fun _ _ c=>c=b) Q→wpAny (MW w) A (isTrue e ME (eval e ME)) Q E s
 ex:∀ {fi env st σ fl env' σ' A E s G ME fo} {Q:Flow→Shared→Prop},S.ex fi env st σ=some ((fl,env'),σ')→aU n A→Inv w g G σ s.heap→Frm G s.heap fi env ME fo →
  dS w g G σ' s fi env' ME fo fl Q→wpAny (MW w) A (exec st ME) Q E s
 call:∀ {f vs σ v σ' A E s G uf us} {Q:Value→Shared→Prop},S.call f vs σ=some (v,σ')→aU n A→Inv w g G σ s.heap→VR G s.heap f uf→VRs G s.heap vs us →
  aP w g G σ' s (fun G h u=>VR G h v u) Q→wpAny (MW w) A (call uf us) Q E s
 code:∀ {a r vs σ v σ' A s G us} {E:Value→Shared→Prop} {Q:Value→Shared→Prop},aX a bU=some r→S.call (.st (.ref a)) vs σ=some (v,σ')→aU n A→Inv w g G σ s.heap→VRs G s.heap vs us →
  aP w g G σ' s (fun G h u=>VR G h v u) Q→codeAny (MW w) A (.call (.ref a) ⟨us,[]⟩) (fun r s'=>match r with | .ok (.ret v)=>Q v s' | .ok _=>False | .error e=>E e s') s
 keep:∀ {f vs σ v σ' τ s G uf},S.call f vs σ=some (v,σ')→Inv w g G τ s.heap→VR G s.heap f uf→∃ k,∀ (A:Around) (E:Value→Shared→Prop) (Q:Keeper→Shared→Prop),Q k s→wpAny (MW w) A (keeperOf uf) Q E s
 star:∀ {fi env e p σ},S.ev fi env (.Starred e p) σ=none
 set:∀ {fi env es k p σ},S.ev fi env (.Set es k p) σ=none
 ifx:∀ {fi env t b o p σ},S.ev fi env (.Compare t b o p) σ ≠ none→∃ op r,b=[op]∧o=[r]
theorem aP.after {α:Type} {Rel:Gh→Heap→α→Prop} {Q:α→Shared→Prop} (P:aP w g G σ' s Rel Q) (T:Stp [] G s.heap G₁ s₁.heap) (hg:s₁.gens=s.gens) (ho:s₁.os=s.os):aP w g G₁ σ' s₁ Rel Q :=
 fun a s' G' I' S' r' g' o'=>P a s' G' I' (T.trans S') r' (g'.trans hg) (o'.trans ho)
theorem aN.ev' (H:aN w g n S) {e:Expr} {v:V} {X:Value→Shared→Prop} (h:S.ev fi env e σ=some (v,σ₁)) (hR:aU n A) (I:Inv w g G σ s.heap) (F:Frm G s.heap fi env ME fo)
 (K:∀ u (s' : Shared) G',Inv w g G' σ₁ s'.heap→Frm G' s'.heap fi env ME fo→VR G' s'.heap v u→Stp [] G s.heap G' s'.heap→s'.gens=s.gens→s'.os=s.os→X u s'):wpAny (MW w) A (eval e ME) X E s :=
 H.ev h hR I F fun u s' G' I' S' r' g' o'=>K u s' G' I' (F.step I S') r' S' g' o'
theorem aN.tr' (H:aN w g n S) {e:Expr} {b:Bool} {X:Bool→Shared→Prop} (h:S.tr fi env e σ=some (b,σ₁)) (hR:aU n A) (I:Inv w g G σ s.heap) (F:Frm G s.heap fi env ME fo)
 (K:∀ (s' : Shared) G',Inv w g G' σ₁ s'.heap→Frm G' s'.heap fi env ME fo→Stp [] G s.heap G' s'.heap→s'.gens=s.gens→s'.os=s.os→X b s'):wpAny (MW w) A (isTrue e ME (eval e ME)) X E s :=
 H.tr h hR I F fun u s' G' I' S' r' g' o'=>r' ▸ K s' G' I' (F.step I S') S' g' o'
theorem qB (H:aN w g n S) {op:BoolOp} {p:Pos}:∀ {es:List Expr} {σ:aC} {v:V} {s:Shared} {G:Gh} {Q:Value→Shared→Prop},jJ S fi env op es σ=some (v,σ')→aU n A→Inv w g G σ s.heap→Frm G s.heap fi env ME fo →
 aP w g G σ' s (fun G h u=>VR G h v u) Q→wpAny (MW w) A (eval (.BoolOp op es p) ME) Q E s
 | [],_,_,_,_,_,e,_,_,_,_=>by exact nx e
 | [x],_,_,_,_,_,e,hR,I,F,P=>BoolOp_one (H.ev e hR I F P)
 | x::y::r,σ,v,s,G,Q,e,hR,I,F,P=>by
  have e:=(show Rbind (S.ev fi env x) (fun v=>Rbind (Mine.truthy v) fun b=>match op,b with
   | .And,false=>Rpure v
   | .Or,true=>Rpure v
   | _,_=>jJ S fi env op (y::r)) σ=some (v,σ') from e)
  obtain ⟨v1,σ1,e1,e2⟩:=aH e; clear e
  obtain ⟨b,σ2,e3,e4⟩:=aH e2; clear e2
  cases op with
  | And =>
   refine BoolOp_and (H.ev' e1 hR I F fun u s1 G1 I1 F1 x1 S1 g1 o1=>mC e3 I1 x1 fun c s2 G2 I2 S2 hc g2 o2=>?_)
   clear e1 e3; subst hc
   have S12:=S1.trans S2
   cases c with
   | false=>cases e4; exact P _ s2 G2 I2 S12 (x1.step S2.car0) (g2.trans g1) (o2.trans o1)
   | true=>exact qB H e4 hR I2 (F1.step I1 S2) (P.after S12 (g2.trans g1) (o2.trans o1))
  | Or =>
   refine BoolOp_or (H.ev' e1 hR I F fun u s1 G1 I1 F1 x1 S1 g1 o1=>mC e3 I1 x1 fun c s2 G2 I2 S2 hc g2 o2=>?_)
   clear e1 e3; subst hc
   have S12:=S1.trans S2
   cases c with
   | true=>cases e4; exact P _ s2 G2 I2 S12 (x1.step S2.car0) (g2.trans g1) (o2.trans o1)
   | false=>exact qB H e4 hR I2 (F1.step I1 S2) (P.after S12 (g2.trans g1) (o2.trans o1))
theorem pW (H:aN w g n S) {op:BoolOp}:∀ {es:List Expr} {σ:aC} {b:Bool} {s:Shared} {G:Gh} {Q:Bool→Shared→Prop},allTr S fi env op es σ=some (b,σ')→aU n A→Inv w g G σ s.heap→Frm G s.heap fi env ME fo →
 aP w g G σ' s (fun _ _ c=>c=b) Q→wpAny (MW w) A (allTrue op es ME) Q E s
 | [],_,_,_,_,_,e,hR,I,F,P=>by
  cases op with
  | And=>cases e; exact wpAny_allTrue_And_nil (P.here I rfl)
  | Or=>cases e; exact wpAny_allTrue_Or_nil (P.here I rfl)
 | x::r,σ,b,s,G,Q,e,hR,I,F,P=>by
  have e:=(show Rbind (S.tr fi env x) (fun b=>match op,b with
   | .And,false=>Rpure false
   | .Or,true=>Rpure true
   | _,_=>allTr S fi env op r) σ=some (b,σ') from e)
  obtain ⟨c,σ1,e1,e2⟩:=aH e; clear e
  cases op with
  | And =>
   refine wpAny_allTrue_And_cons (H.tr' e1 hR I F fun s1 G1 I1 F1 S1 g1 o1=>?_)
   clear e1; cases c with
   | false=>cases e2; exact P _ s1 G1 I1 S1 rfl g1 o1
   | true=>exact pW H e2 hR I1 F1 (P.after S1 g1 o1)
  | Or =>
   refine wpAny_allTrue_Or_cons (H.tr' e1 hR I F fun s1 G1 I1 F1 S1 g1 o1=>?_)
   clear e1; cases c with
   | true=>cases e2; exact P _ s1 G1 I1 S1 rfl g1 o1
   | false=>exact pW H e2 hR I1 F1 (P.after S1 g1 o1)
theorem iH (H:aN w g n S) {pos:Pos}:∀ {es:List Expr} {σ:aC} {vs:List V} {s:Shared} {G:Gh} {Q:List Value→Shared→Prop},mapR (S.ev fi env) es σ=some (vs,σ')→aU n A→Inv w g G σ s.heap→Frm G s.heap fi env ME fo →
 aP w g G σ' s (fun G h us=>VRs G h vs us) Q→wpAny (MW w) A (spliced (backTo pos (starEach es ME))) Q E s
 | [],_,_,_,_,_,e,hR,I,F,P=>by cases e; exact spliced_nil (P.here I (by exact rfl))
 | x::r,σ,vs,s,G,Q,e,hR,I,F,P=>by
  have e:=(show Rbind (S.ev fi env x) (fun b=>Rbind (mapR (S.ev fi env) r) fun bs=>Rpure (b::bs)) σ=some (vs,σ') from e)
  obtain ⟨v,σ1,e1,e2⟩:=aH e; clear e
  obtain ⟨ws,σ2,e3,e4⟩:=aH e2; clear e2
  cases e4
  have hs:starEach (x::r) ME=(false,eval x ME)::starEach r ME:=by
   cases x with
   | Starred y p=>rw [H.star] at e1; exact nx e1
   | _=>rfl
  rw [hs]
  show wpAny (MW w) A (spliced ((false,eval x ME)::backTo pos (starEach r ME))) Q E s
  refine spliced_cons (H.ev' e1 hR I F fun u s1 G1 I1 F1 x1 S1 g1 o1=>iH H e3 hR I1 F1 fun us s2 G2 I2 S2 x2 g2 o2=>?_)
  refine P _ s2 G2 I2 (S1.trans S2) ?_ (g2.trans g1) (o2.trans o1)
  exact ⟨u,us,rfl,x1.step S2.car0,x2⟩
theorem oA {α β:Type} {f:α→R β}:∀ {l:List α} {σ:aC} {r:List β},mapR f l σ=some (r,σ')→r.length=l.length
 | [],_,_,e=>by cases e; rfl
 | a::l,σ,r,e=>by
  have e:=(show Rbind (f a) (fun b=>Rbind (mapR f l) fun bs=>Rpure (b::bs)) σ=some (r,σ') from e)
  obtain ⟨v,σ1,e1,e2⟩:=aH e; clear e
  obtain ⟨ws,σ2,e3,e4⟩:=aH e2; clear e2
  cases e4
  simp [oA e3]
noncomputable def dJ (w:World) (g:Heap) (n:Nat) (m:FI→aB→Expr→R V) (e:Expr):Prop :=
 ∀ {fi:FI} {env:aB} {σ:aC} {v:V} {σ' : aC} {A:Around} {E:Value→Shared→Prop} {s:Shared} {G:Gh} {ME:Env} {fo:List Addr} {Q:Value→Shared→Prop},m fi env e σ=some (v,σ')→aU n A→Inv w g G σ s.heap→Frm G s.heap fi env ME fo →
  aP w g G σ' s (fun G h u=>VR G h v u) Q→wpAny (MW w) A (eval e ME) Q E s
theorem aGb (H:aN w g n S) {x:Expr} {p:Pos}:dJ w g n (dC TT S I') (.UnaryOp .Not x p):=by
 intro fi env σ v σ' A E s G ME fo Q e hR I F P
 have e:=(show Rbind (S.ev fi env x) (fun v=>Rbind (Mine.truthy v) fun b=>Rpure (V.pv (.bool (!b)))) σ=some (v,σ') from e)
 obtain ⟨v1,σ1,e1,e2⟩:=aH e; clear e
 obtain ⟨b,σ2,e3,e4⟩:=aH e2; clear e2
 cases e4
 refine UnaryOp_ (H.ev' e1 hR I F fun u s1 G1 I1 F1 x1 S1 g1 o1=>not_of (mC e3 I1 x1 fun c s2 G2 I2 S2 hc g2 o2=>?_))
 clear e3; subst hc
 exact P _ s2 G2 I2 (S1.trans S2) (by exact rfl) (g2.trans g1) (o2.trans o1)
theorem aEr (H:aN w g n S) {t b o:Expr} {p:Pos}:dJ w g n (dC TT S I') (.IfExp t b o p):=by
 intro fi env σ v σ' A E s G ME fo Q e hR I F P
 have e:=(show Rbind (S.tr fi env t) (fun r=>match r with | true=>S.ev fi env b | false=>S.ev fi env o) σ=some (v,σ') from e)
 obtain ⟨c,σ1,e1,e2⟩:=aH e
 refine IfExp_ (H.tr' e1 hR I F fun s1 G1 I1 F1 S1 g1 o1=>?_)
 clear e1; cases c with
 | true=>exact H.ev e2 hR I1 F1 (P.after S1 g1 o1)
 | false=>exact H.ev e2 hR I1 F1 (P.after S1 g1 o1)
theorem aCW (H:aN w g n S) {l r:Expr} {op:CmpOp} {p:Pos}:dJ w g n (dC TT S I') (.Compare l [op] [r] p):=by
 intro fi env σ v σ' A E s G ME fo Q e hR I F P
 have e:=(show Rbind (S.ev fi env l) (fun a=>Rbind (S.ev fi env r) fun b=>Rbind (cmp op a b) fun x=>Rpure (V.pv (.bool x))) σ=some (v,σ') from e)
 obtain ⟨v1,σ1,e1,e2⟩:=aH e; clear e
 obtain ⟨v2,σ2,e3,e4⟩:=aH e2; clear e2
 obtain ⟨c,σ3,e5,e6⟩:=aH e4; clear e4
 cases e6
 refine wpAny_Compare1 (H.ev' e1 hR I F fun u s1 G1 I1 F1 x1 S1 g1 o1=>H.ev' e3 hR I1 F1 fun u2 s2 G2 I2 F2 x2 S2 g2 o2=>?_) ?_
 ·have S12:=S1.trans S2
  exact aCY e5 hR I2 (x1.step S2.car0) x2 (P.after S12 (g2.trans g1) (o2.trans o1))
 ·cases r with
  | Set es k q=>rw [H.set] at e3; exact nx e3
  | _=>rfl
theorem aBX (H:aN w g n S) {l r:Expr} {op:Operator} {p:Pos}:dJ w g n (dC TT S I') (.BinOp l op r p):=by
 intro fi env σ v σ' A E s G ME fo Q e hR I F P
 have e:=(show Rbind (S.ev fi env l) (fun a=>Rbind (S.ev fi env r) fun b=>bS op a b) σ=some (v,σ') from e)
 obtain ⟨v1,σ1,e1,e2⟩:=aH e
 obtain ⟨v2,σ2,e3,e4⟩:=aH e2
 refine wpAny_BinOp (H.ev' e1 hR I F fun u s1 G1 I1 F1 x1 S1 g1 o1=>H.ev' e3 hR I1 F1 fun u2 s2 G2 I2 F2 x2 S2 g2 o2=>?_)
 have S12:=S1.trans S2
 exact u0 e4 I2 (x1.step S2.car0) x2 (P.after S12 (g2.trans g1) (o2.trans o1))
theorem aKa (H:aN w g n S) {x:Expr} {p:Pos}:dJ w g n (dC TT S I') (.UnaryOp .USub x p):=by
 intro fi env σ v σ' A E s G ME fo Q e hR I F P
 have e:=(show Rbind (S.ev fi env x) (fun v=>(match v with | .pv (.int i)=>Rpure (V.pv (.int (-i))) | _=>Rno)) σ=some (v,σ') from e)
 obtain ⟨v1,σ1,e1,e2⟩:=aH e; clear e
 refine UnaryOp_ (H.ev' e1 hR I F fun u s1 G1 I1 F1 x1 S1 g1 o1=>?_)
 clear e1; cases v1 with
 | pv q=>cases q with
  | int i =>
   cases e2
   obtain ⟨t,rfl⟩:=x1
   exact PyProof.Rows.neg_int ((P.after S1 g1 o1).same I1 (by exact ⟨_,rfl⟩))
  | _=>exact nx e2
 | _=>exact nx e2
theorem aJT (H:aN w g n S) {es:List Expr} {k:Nat} {p:Pos}:dJ w g n (dC TT S I') (.Tuple es k p):=by
 intro fi env σ v σ' A E s G ME fo Q e hR I F P
 have e:=(show (match small es.length with | true=>Rbind (mapR (S.ev fi env) es) fun vs=>Rpure (mkTup vs) | false=>Rno) σ=some (v,σ') from e)
 refine boolF (b:=small es.length) (fun hz=>?_) fun hz=>?_
 ·simp only [hz] at e; exact nx e
 ·simp only [hz] at e
  obtain ⟨vs,σ1,e1,e2⟩:=aH e; clear e
  cases e2
  have hl:=oA e1
  refine wpAny_Tuple (iH H e1 hR I F fun us s1 G1 I1 S1 x1 g1 o1=>⟨?_,?_⟩)
  ·exact fF (el (x1.len.trans hl) (cR hz))
  ·exact (P.after S1 g1 o1).grown I1 (bG _ _) (oG I1 x1)
theorem aFp (H:aN w g n S) {es:List Expr} {p:Pos}:dJ w g n (dC TT S I') (.List es p):=by
 intro fi env σ v σ' A E s G ME fo Q e hR I F P
 have e:=(show (match small es.length with
  | true=>Rbind (mapR (S.ev fi env) es) fun vs=>(match TT.cellAt.any (fun q=>Nat.beq q.1 p.line && Nat.beq q.2 p.col) with
   | true=>Rbind (newL vs) fun i=>Rpure (V.li i)
   | false=>Rpure (mkVl vs))
  | false=>Rno) σ=some (v,σ') from e)
 refine boolF (b:=small es.length) (fun hz=>?_) fun hz=>?_
 ·simp only [hz] at e; exact nx e
 ·simp only [hz] at e
  obtain ⟨vs,σ1,e1,e2⟩:=aH e; clear e
  have hl:=oA e1
  refine wpAny_List (iH H e1 hR I F fun us s1 G1 I1 S1 x1 g1 o1=>⟨?_,?_⟩)
  ·exact fF (el (x1.len.trans hl) (cR hz))
  ·clear e1; refine boolF (b:=TT.cellAt.any (fun q=>Nat.beq q.1 p.line && Nat.beq q.2 p.col)) (fun hc=>?_) fun hc=>?_
   ·simp only [hc] at e2
    cases e2
    exact (P.after S1 g1 o1).grown I1 (bG _ _) (sI I1 x1)
   ·simp only [hc] at e2
    obtain ⟨i,σ2,e3,e4⟩:=aH e2; clear e2
    cases e3; cases e4
    obtain ⟨I2,S2⟩:=I1.newL x1
    refine P _ _ _ I2 (S1.trans S2) ?_ g1 o1
    exact ⟨s1.heap.objs.size,by rw [← I1.ll]; simp,rfl⟩
theorem aBA (B:aZ w g mg mb) (H:aN w g n S) {o:Expr} {a:Str} {p:Pos}:dJ w g n (dC TT S I') (.Attribute o a p):=by
 intro fi env σ v σ' A E s G ME fo Q e hR I F P
 have e:=(show (match iY o with | true=>Rbind (S.ev fi env o) fun v=>jS TT v a | false=>Rno) σ=some (v,σ') from e)
 refine boolF (b:=iY o) (fun hn=>?_) fun hn=>?_
 ·simp only [hn] at e; exact nx e
 ·simp only [hn] at e
  obtain ⟨v1,σ1,e1,e2⟩:=aH e
  rw [arm_eval_Attribute,mW hn]
  refine wpAny_bind (H.ev' e1 hR I F fun u s1 G1 I1 F1 x1 S1 g1 o1=>wpAny_bind (wpAny_standAt (wpAny_bind (wpAny_holding ?_))))
  exact uN B e2 I1 x1 fun r s2 G2 I2 S2 x2 g2 o2=>wpAny_bind (wpAny_letTemporaryGo (wpAny_pure (P r s2 G2 I2 (S1.trans S2) x2 (g2.trans g1) (o2.trans o1))))
theorem aFX {v:V} {k:Nat} (e:natOf v=some k):v = .pv (.int (.ofNat k))∧small k=true:=by
 cases v with
 | pv p=>cases p with
  | int i=>cases i with
   | ofNat n =>
    have e:=(show (match small n with | true=>some n | false=>none)=some k from e)
    refine boolF (b:=small n) (fun h=>?_) fun h=>?_
    ·rw [h] at e; exact nx e
    ·rw [h] at e; obtain rfl:=so e; exact ⟨rfl,h⟩
   | negSucc _=>exact nx e
  | _=>exact nx e
 | _=>exact nx e
theorem zN (H:aN w g n S) {lo:Option Expr} {o:Option Nat} {Q:Value→Shared→Prop} (e:optR (S.ev fi env) lo σ=some (o,σ')) (hR:aU n A) (I:Inv w g G σ s.heap) (F:Frm G s.heap fi env ME fo)
 (P:aP w g G σ' s (fun _ _ u=>eU o u) Q):wpAny (MW w) A (evalPart lo ME) Q E s:=by
 cases lo with
 | none =>
  cases e
  exact wpAny_pure (P.here I rfl)
 | some x =>
  have e:=(show Rbind (S.ev fi env x) (fun v=>Rbind (oneOf (natOf v)) fun n=>Rpure (some n)) σ=some (o,σ') from e)
  obtain ⟨v1,σ1,e1,e2⟩:=aH e; clear e
  obtain ⟨k,σ2,e3,e4⟩:=aH e2; clear e2
  obtain ⟨e5,z1⟩:=bB e3; clear e3; subst z1
  cases e4
  refine H.ev' e1 hR I F fun u s1 G1 I1 F1 x1 S1 g1 o1=>?_
  refine P u s1 G1 I1 S1 ?_ g1 o1
  obtain ⟨z,h⟩:=aFX e5
  subst z
  obtain ⟨t,rfl⟩:=x1
  exact ⟨cR h,_,rfl⟩
theorem aIZ (H:aN w g n S) {o i:Expr} {p:Pos}:dJ w g n (dC TT S I') (.Subscript o i p):=by
 intro fi env σ v σ' A E s G ME fo Q e hR I F P
 have gen:Rbind (S.ev fi env o) (fun v=>Rbind (S.ev fi env i) fun k=>idx v k) σ=some (v,σ')→wpAny (MW w) A (eval (.Subscript o i p) ME) Q E s:=fun e=>by
  obtain ⟨v1,σ1,e1,e2⟩:=aH e
  obtain ⟨v2,σ2,e3,e4⟩:=aH e2
  refine Subscript_ (H.ev' e1 hR I F fun u s1 G1 I1 F1 x1 S1 g1 o1=>H.ev' e3 hR I1 F1 fun u2 s2 G2 I2 F2 x2 S2 g2 o2=>?_)
  exact aEi e4 I2 (x1.step S2.car0) x2 (P.after (S1.trans S2) (g2.trans g1) (o2.trans o1))
 cases i with
 | Slice lo hi st q =>
  cases st with
  | some _=>exact gen e
  | none =>
   have e:=(show Rbind (S.ev fi env o) (fun v=>Rbind (optR (S.ev fi env) lo) fun lo=>Rbind (optR (S.ev fi env) hi) fun hi=>i6 v lo hi) σ=some (v,σ') from e)
   obtain ⟨v1,σ1,e1,e2⟩:=aH e
   obtain ⟨l,σ2,e3,e4⟩:=aH e2
   obtain ⟨h,σ3,e5,e6⟩:=aH e4
   refine Subscript_ (H.ev' e1 hR I F fun u s1 G1 I1 F1 x1 S1 g1 o1=>wpAny_Slice (zN H e3 hR I1 F1 fun ul s2 G2 I2 S2 x2 g2 o2=>zN H e5 hR I2 (F1.step I1 S2) fun uh s3 G3 I3 S3 x3 g3 o3=>?_))
   refine wpAny_pure ?_
   have S23:=S2.trans S3
   exact aIs e6 I3 (x1.step S23.car0) x2 x3 (P.after (S1.trans S23) (g3.trans (g2.trans g1)) (o3.trans (o2.trans o1)))
 | _=>exact gen e
theorem lU (H:aN w g n S) {pos:Pos} {ME:Env}:∀ {es:List Expr} {σ σ' : aC} {vs:List V},mapR (S.ev fi env) es σ=some (vs,σ')→(backTo pos (starEach es ME)).any (·.1)=false∧(backTo pos (starEach es ME)).length=es.length
 | [],_,_,_,_=>⟨rfl,rfl⟩
 | x::r,σ,σ',vs,e=>by
  have e:=(show Rbind (S.ev fi env x) (fun b=>Rbind (mapR (S.ev fi env) r) fun bs=>Rpure (b::bs)) σ=some (vs,σ') from e)
  obtain ⟨v,σ1,e1,e2⟩:=aH e; clear e
  obtain ⟨ws,σ2,e3,e4⟩:=aH e2; clear e2
  have hs:starEach (x::r) ME=(false,eval x ME)::starEach r ME:=by
   cases x with
   | Starred y p=>rw [H.star] at e1; exact nx e1
   | _=>rfl
  have:=lU (pos:=pos) (ME:=ME) H (es:=r) e3
  clear e3; cases e4
  rw [hs]
  exact ⟨by simpa [backTo] using this.1,by simpa [backTo] using this.2⟩
theorem aDR {f:Value} {args:List (Bool×Sem Value)} {Q:Args→Shared→Prop} (hp:args.any (·.1)=false) (h:wpAny (MW w) A (spliced args) (fun vs s'=>Q ⟨vs,[]⟩ s') E s):wpAny (MW w) A (evalArgs f true args []) Q E s:=by
 cases args with
 | nil =>
  unfold evalArgs
  show wpAny (MW w) A (spliced [] >>= _) Q E s
  refine wpAny_bind (wpAny_mono h (fun vs s' h'=>?_) fun _ _ x=>x)
  refine wpAny_bind (wpAny_pure ?_)
  refine wpAny_holding ?_
  exact wpAny_bind (wpAny_pure (wpAny_bind (wpAny_pure (wpAny_pure h'))))
 | cons a r =>
  obtain ⟨b,x⟩:=a
  cases b with
  | true=>simp at hp
  | false=>exact evalArgs_plain h
theorem jL {pos:Pos} {f:Value} {first:List Value} {args:List (Bool×Sem Value)} {Q:Value→Shared→Prop} (hp:args.any (·.1)=false)
 (h:wpAny (MW w) A (spliced args) (fun us s₁=>(∃ k,∀ (Q:Keeper→Shared→Prop),Q k s₁→wpAny (MW w) A (keeperOf f) Q E s₁)∧wpAny (MW w) A (call f (first++us)) Q E s₁) E s) :
 wpAny (MW w) A (callWith pos f first args []) Q E s:=by
 unfold callWith
 refine wpAny_bind (wpAny_holding (aDR hp (wpAny_mono h (fun us s₁ h₁=>wpAny_bind (wpAny_standAt ?_)) fun _ _ x=>x)))
 obtain ⟨⟨k,hk⟩,hc⟩:=h₁
 have tail:∀ {t:Sem Value},wpAny (MW w) A t Q E s₁→wpAny (MW w) A (t >>= fun r=>holding [r] point >>= fun _=>pure r) Q E s₁ :=
  fun ht=>wpAny_bind (wpAny_mono ht (fun r s₂ hr=>wpAny_bind (wpAny_holding (wpAny_point (wpAny_pure hr)))) fun _ _ x=>x)
 refine wpAny_bind (hk _ ?_)
 rw [show (args.any (·.1) || ([]:List (Option Str×Sem Value)).any (·.1.isNone))=false by rw [hp]; rfl]
 clear hk; cases k with
 | frame =>
  dsimp only
  split
  ·exact tail hc
  ·exact tail (by unfold callMarked; exact wpAny_keep hc)
 | boundFrame =>
  dsimp only
  split
  ·exact tail hc
  ·exact tail (by unfold callMarked; exact wpAny_keep hc)
 | machine=>exact tail hc
 | caller=>exact tail (wpAny_operating hc)
theorem call_ev (H:aN w g n S) (HI:aN w g n I') {f:Expr} {as:List Expr} {p:Pos} (hf:∀ o m q,f ≠ .Attribute o m q):dJ w g n (dC TT S I') (.Call f as [] p):=by
 intro fi env σ v σ' A E s G ME fo Q e hR I F P
 have e:=(show (match shortArgs as with | true=>Rbind (S.ev fi env f) fun fv=>Rbind (mapR (S.ev fi env) as) fun vs=>I'.call fv vs | false=>Rno) σ=some (v,σ') from by
  cases f with
  | Attribute o m q=>exact absurd rfl (hf o m q)
  | _=>exact e)
 have he:eval (.Call f as [] p) ME=(do callWith p (← eval f ME) [] (backTo p (starEach as ME)) (backToKw p (keywordEach [] ME))):=by
  clear e; cases f with
  | Attribute o m q=>exact absurd rfl (hf o m q)
  | _=>rfl
 refine boolF (b:=shortArgs as) (fun hn=>?_) fun hn=>?_
 ·simp only [hn] at e; exact nx e
 ·simp only [hn] at e
  obtain ⟨v1,σ1,e1,e2⟩:=aH e
  obtain ⟨vs,σ2,e3,e4⟩:=aH e2
  have hp:=lU (pos:=p) (ME:=ME) H e3
  rw [he]
  refine wpAny_bind (H.ev' e1 hR I F fun u s1 G1 I1 F1 x1 S1 g1 o1=>jL hp.1 (iH H e3 hR I1 F1 fun us s2 G2 I2 S2 x2 g2 o2=>⟨?_,?_⟩))
  ·obtain ⟨k,hk⟩:=HI.keep e4 I2 (x1.step S2.car0)
   exact ⟨k,hk A E⟩
  ·exact HI.call e4 hR I2 (x1.step S2.car0) x2 (P.after (S1.trans S2) (g2.trans g1) (o2.trans o1))
noncomputable def mJ (w:World) (g:Heap) (A:Around) (E:Value→Shared→Prop) (G:Gh) (s:Shared) (σb:aC) (vs:List V) (r:V) (σ' : aC) (f:Value) (first:List Value):Prop :=
 ∀ (s2:Shared) G2,Inv w g G2 σb s2.heap→Stp [] G s.heap G2 s2.heap→∀ us,VRs G2 s2.heap vs us →
  (∃ k,∀ (Q:Keeper→Shared→Prop),Q k s2→wpAny (MW w) A (keeperOf f) Q E s2) ∧
  ∀ Q:Value→Shared→Prop,aP w g G2 σ' s2 (fun G h u=>VR G h r u) Q→wpAny (MW w) A (call f (first++us)) Q E s2
theorem callee_b {v:V} {m:Str} {vs:List V} {r:V} {u:Value} {σa σb:aC} {pl:Sem Bool} {Q:Value×List Value→Shared→Prop} (hb:kH w g v m vs r σb σ') (hR:aU n A) (I:Inv w g G σa s.heap) (xv:VR G s.heap v u)
 (hQ:∀ f first (s' : Shared) G',Inv w g G' σa s'.heap→Stp [] G s.heap G' s'.heap→s'.gens=s.gens→s'.os=s.os→mJ w g A E G' s' σb vs r σ' f first→Q (f,first) s') :
 wpAny (MW w) A (getMethod u m pl) Q E s:=by
 obtain ⟨id,h1,h2⟩:=hb
 refine h1 A E s Q pl G σa u I xv (hQ _ _ s G I .refl rfl rfl fun s2 G2 I2 S2 us x2=>⟨⟨.machine,fun Q q=>wpAny_pure q⟩,fun Q P=>?_⟩)
 exact h2 A E s2 Q G2 u us hR.2.2 I2 (xv.step S2.car0) x2 P
theorem vH (HI:aN w g n I') {v:V} {vs:List V} {r:V} {u:Value} {f:Addr} {σb:aC} (e:I'.call (.st (.ref f)) (v::vs) σb=some (r,σ')) (hR:aU n A) (xv:VR G s.heap v u) :
 mJ w g A E G s σb vs r σ' (.ref f) [u]:=fun s2 G2 I2 S2 us x2=>by
 have hf:VR G2 s2.heap (.st (.ref f)) (.ref f):=by exact rfl
 obtain ⟨k,hk⟩:=HI.keep e I2 hf
 refine ⟨⟨k,hk A E⟩,fun Q P=>HI.call e hR I2 hf ?_ P⟩
 show VRs G2 s2.heap (v::vs) (u::us)
 exact ⟨u,us,rfl,xv.step S2.car0,x2⟩
theorem aCx (HI:aN w g n I') {f:V} {vs:List V} {r:V} {u:Value} {σb:aC} (e:I'.call f vs σb=some (r,σ')) (hR:aU n A) (xf:VR G s.heap f u) :
 mJ w g A E G s σb vs r σ' u []:=fun s2 G2 I2 S2 us x2=>by
 have hf:=xf.step S2.car0
 obtain ⟨k,hk⟩:=HI.keep e I2 hf
 exact ⟨⟨k,hk A E⟩,fun Q P=>HI.call e hR I2 hf x2 P⟩
theorem xE {c:Addr} {cr:dI} {m:Str} {f:Addr} (hc:aX c cN=some cr) (hm:look m cr.meths=some f) (w:World):findIn (kfrag w.params) (.ref c) m=some (some (.ref f))∧typeIn (kfrag w.params) (.ref f)=some (.type "function"):=by
 have F:=g9 hc w
 have:∀ (l:List (Str×Addr)),look m l=some f→(m,f) ∈ l:=by
  intro l
  induction l with
  | nil=>intro h; exact nx h
  | cons p l ih =>
   intro h
   obtain ⟨y,x⟩:=p
   unfold look at h
   refine boolF (b:=sEq y m) (fun q=>?_) fun q=>?_
   ·rw [q] at h; exact .tail _ (ih h)
   ·rw [q] at h; cases h; rw [aK.mp q]; exact .head _
 have:=F.me _ (this _ hm)
 unfold sD at this
 simpa only [Bool.and_eq_true,beq_iff_eq] using this
theorem aF7 {c:Addr} {cr:dI} {a:Str} (hc:aX c cN=some cr) (ha:a ∈ cr.attrs) (w:World):findIn (kfrag w.params) (.ref c) a=some none:=by
 have:=(g9 hc w).at_ a ha
 unfold kT at this
 simp only [Bool.and_eq_true,beq_iff_eq] at this
 exact this.1.1
theorem aHB {m:Str} {pre rest:List Tk} {nm:V} (h:(sEq m atName || (sEq m dR || sEq m cW))=false):look m (gN pre rest nm)=none:=by
 simp only [Bool.or_eq_false_iff] at h
 have sy:∀ a b:Str,sEq a b=false→sEq b a=false:=fun a b e=>by
  cases q:sEq b a with
  | false=>rfl
  | true=>rw [aK.mpr (aK.mp q).symm] at e; exact tf e
 unfold gN look
 rw [sy _ _ h.2.1]
 unfold look
 rw [sy _ _ h.1]
 unfold look
 rw [sy _ _ h.2.2]
 rfl
theorem aFN (B:aZ w g mg mb) (HI:aN w g n I') {v:V} {m:Str} {mth:kL} {vs:List V} {r:V} {u:Value} {σa σb:aC} {pl:Sem Bool} {Q:Value×List Value→Shared→Prop}
 (e1:methOf TT v m σ=some (mth,σa)) (e4:sC I'.call mth vs σb=some (r,σ')) (hR:aU n A) (I:Inv w g G σ s.heap) (xv:VR G s.heap v u)
 (hQ:∀ f first (s' : Shared) G',Inv w g G' σa s'.heap→Stp [] G s.heap G' s'.heap→s'.gens=s.gens→s'.os=s.os→mJ w g A E G' s' σb vs r σ' f first→Q (f,first) s') :
 wpAny (MW w) A (getMethod u m pl) Q E s:=by
 have tup:∀ l,bC v=some l→mth = .tup l m→σa=σ→wpAny (MW w) A (getMethod u m pl) Q E s:=by
  clear e1; rintro l hl rfl rfl
  exact callee_b (aJX hl e4) hR I xv hQ
 cases v with
 | ob i =>
  clear tup; obtain ⟨c,σ₁,h1,e2⟩:=aH (m:=getG i) e1; clear e1
  obtain ⟨hg,z1⟩:=lI h1; clear h1; subst z1
  obtain ⟨p,hp,hr⟩:=I.inG hg; clear hg
  have xv0:=xv
  obtain ⟨p',hp',rfl⟩:=xv
  have hpp:p' = p:=by rw [hp] at hp'; clear hp hr; cases hp'; rfl
  clear hp; subst hpp
  cases c with
  | obj c as =>
   obtain ⟨us,hi,hs⟩:=hr
   have e2:=(show (match look m as,aX c TT.cl with
    | none,some cr=>(match look m cr.meths with
     | some f=>Rpure (kL.cls f (.ob i))
     | none=>Rno)
    | some f,some _=>(match hasAttr TT c m with
     | true=>Rbind (okAttr (some f)) fun f=>Rpure (.own f)
     | false=>Rno)
    | _,_=>Rno) σ₁=some (mth,σa) from e2)
   refine optE (o:=look m as) (fun hl=>?_) fun f hl=>?_
   ·refine optE (o:=aX c TT.cl) (fun hc=>?_) fun cr hc=>?_
    ·simp only [hl,hc] at e2; exact nx e2
    ·refine optE (o:=look m cr.meths) (fun hm=>?_) fun f hm=>?_
     ·simp only [hl,hc,hm] at e2; exact nx e2
     ·simp only [hl,hc,hm] at e2
      cases e2
      obtain ⟨q1,q2⟩:=xE hc hm w
      obtain ⟨od,k1,k2⟩:=hi.at m
      have F:=g9 hc w
      refine method_fn (K:=kfrag w.params) (B.has I) k1 F.ga F.gt q1 q2 ?_ (hQ _ _ s G I .refl rfl rfl (vH HI e4 hR xv0))
      show (lookIn m od).map (·.isSome)=some false
      rw [k2,hs.look_none hl]; rfl
   ·refine optE (o:=aX c TT.cl) (fun hc=>?_) fun cr hc=>?_
    ·simp only [hl,hc] at e2; exact nx e2
    ·refine boolF (b:=hasAttr TT c m) (fun hh=>?_) fun hh=>?_
     ·simp only [hl,hc,hh] at e2; exact nx e2
     ·simp only [hl,hc,hh] at e2
      obtain ⟨f',σ₂,h3,h4⟩:=aH e2; clear e2
      obtain ⟨h5,z1,h6⟩:=oK h3; clear h3; subst z1
      cases h5
      cases h4
      obtain ⟨cr',h7,h8⟩:=nP hh
      obtain ⟨od,k1,k2⟩:=hi.at m
      have F:=g9 h7 w
      refine method_usual (r:=none) (K:=kfrag w.params) (B.has I) k1 F.ga F.gt (aF7 h7 h8 w) rfl ?_
      exact jU B I hi hs h7 h8 hl h6 fun u' s2 G2 I2 S2 x2 g2 o2=>hQ _ _ s2 G2 I2 S2 g2 o2 (aCx HI e4 hR x2)
  | rdr pre rest nm =>
   obtain ⟨_,us,hi,hs⟩:=hr
   have e2:=(show (match sEq m atName || (sEq m dR || sEq m cW),aX TT.rdr TT.cl with
    | false,some cr=>(match look m cr.meths with
     | some f=>Rpure (kL.cls f (.ob i))
     | none=>Rno)
    | _,_=>Rno) σ₁=some (mth,σa) from e2)
   refine boolF (b:=(sEq m atName || (sEq m dR || sEq m cW))) (fun hb=>?_) fun hb=>?_
   ·refine optE (o:=aX TT.rdr TT.cl) (fun hc=>?_) fun cr hc=>?_
    ·simp only [hb,hc] at e2; exact nx e2
    ·refine optE (o:=look m cr.meths) (fun hm=>?_) fun f hm=>?_
     ·simp only [hb,hc,hm] at e2; exact nx e2
     ·simp only [hb,hc,hm] at e2
      cases e2
      obtain ⟨q1,q2⟩:=xE hc hm w
      obtain ⟨od,k1,k2⟩:=hi.at m
      have F:=g9 hc w
      refine method_fn (K:=kfrag w.params) (B.has I) k1 F.ga F.gt q1 q2 ?_ (hQ _ _ s G I .refl rfl rfl (vH HI e4 hR xv0))
      show (lookIn m od).map (·.isSome)=some false
      rw [k2,hs.look_none (aHB hb)]; rfl
   ·simp only [hb] at e2; exact nx e2
 | li i=>clear tup; cases e1; exact callee_b (aFy e4) hR I xv hQ
 | vd as=>clear tup; cases e1; exact callee_b (aDi e4) hR I xv hQ
 | pv p =>
  cases p with
  | str x=>clear tup; cases e1; exact callee_b (aAK e4) hR I xv hQ
  | tup l=>clear e4 I; cases e1; exact tup _ rfl rfl rfl
  | _=>exact nx e1
 | tup l=>clear e4 I; cases e1; exact tup _ rfl rfl rfl
 | _=>exact nx e1
theorem aFM (B:aZ w g mg mb) (H:aN w g n S) (HI:aN w g n I') {o:Expr} {m:Str} {ap p:Pos} {as:List Expr}:dJ w g n (dC TT S I') (.Call (.Attribute o m ap) as [] p):=by
 intro fi env σ v σ' A E s G ME fo Q e hR I F P
 have e:=(show (match iY o,l8 ap p,shortArgs as with
  | true,true,true=>Rbind (S.ev fi env o) fun v=>Rbind (methOf TT v m) fun mth=>Rbind (mapR (S.ev fi env) as) fun vs=>sC I'.call mth vs
  | _,_,_=>Rno) σ=some (v,σ') from e)
 obtain ⟨h1,h2,h3,e⟩:=rG (a:=iY o) (b:=l8 ap p) (c:=shortArgs as) e
 ·skip
  obtain ⟨v1,σ1,e1,e2⟩:=aH e
  obtain ⟨mth,σ2,e3,e4⟩:=aH e2
  obtain ⟨vs,σ3,e5,e6⟩:=aH e4
  have hp:=lU (pos:=p) (ME:=ME) H e5
  have hlen:as.length ≤ 8:=Nat.le_of_ble_eq_true h3
  have hform:methodCallForm (as.length + ([]:List Keyword).length) (backTo p (starEach as ME)) (backToKw p (keywordEach [] ME))=true:=by
   unfold methodCallForm
   simp only [Bool.and_eq_true]
   refine ⟨⟨?_,rfl⟩,?_⟩
   ·rw [List.all_eq_true]
    intro x hx
    have:=hp.1
    rw [List.any_eq_false] at this
    simpa using this x hx
   ·exact decide_eq_true (show as.length < 30 from Nat.lt_of_le_of_lt hlen (by decide))
  rw [arm_eval_Call,mW h1]
  refine wpAny_bind (H.ev' e1 hR I F fun u s1 G1 I1 F1 x1 S1 g1 o1=>wpAny_bind (wpAny_standAt ?_))
  unfold methodCall
  rw [hform]
  have hpos:methodCallPos true o ME ap p=pure p:=by
   unfold methodCallPos
   have:(ap.endLine == p.line)=true:=beq_iff_eq.mpr (Nat.eq_of_beq_eq_true h2)
   simp [this]
  refine wpAny_bind (wpAny_holding (aFN B HI e3 e6 hR I1 x1 fun f first s2 G2 I2 S2 g2 o2 C=>?_))
  refine wpAny_bind (wpAny_of_eq hpos ?_)
  refine jL hp.1 (iH H e5 hR I2 (F1.step I1 S2) fun us s3 G3 I3 S3 x3 g3 o3=>?_)
  obtain ⟨c1,c2⟩:=C s3 G3 I3 S3 us x3
  exact ⟨c1,c2 Q (P.after ((S1.trans S2).trans S3) (g3.trans (g2.trans g1)) (o3.trans (o2.trans o1)))⟩
abbrev Gh.hid (G:Gh) (xs:List Addr):Gh:={ G with ex:=xs++G.ex }
abbrev Gh.back (G:Gh) (G₀:Gh):Gh:={ G with ex:=G₀.ex }
section
variable {xs:List Addr}
theorem GR.car {p:Addr×Addr} {c:GCell} (S:Car G h G₁ h') (e1:∀ o,h.get? p.1=some o→h'.get? p.1=some o) (e2:∀ o,h.get? p.2=some o→h'.get? p.2=some o) (x:GR G h p c):GR G₁ h' p c:=by
 cases c with
 | obj c as=>obtain ⟨us,⟨a,b,c⟩,y⟩:=x; exact ⟨us,⟨e1 _ a,b.of_get e2,c⟩,y.step S⟩
 | rdr pre rest nm=>obtain ⟨hb,us,⟨a,b,c⟩,y⟩:=x; exact ⟨hb,us,⟨e1 _ a,b.of_get e2,c⟩,y.step S⟩
theorem LR.car {a:Addr} {l:List V} (S:Car G h G₁ h') (e1:∀ o,h.get? a=some o→h'.get? a=some o) (x:LR G h a l):LR G₁ h' a l:=by
 obtain ⟨us,⟨n,q⟩,y⟩:=x; exact ⟨us,⟨n,e1 _ q⟩,y.step S⟩
theorem fU {b:Addr}:b ∈ (G.hid xs).own ↔ b ∈ G.own∨b ∈ xs:=by
 show b ∈ G.mu++(xs++G.ex) ↔ b ∈ G.mu++G.ex∨b ∈ xs
 simp only [List.mem_append]
 constructor
 ·rintro (q | q | q) <;> simp [q]
 ·rintro ((q | q) | q) <;> simp [q]
theorem Inv.hide (I:Inv w g G σ h) (k:∀ b o,h.get? b=some o→h'.get? b=some o) (hn:xs.Nodup) (hf:∀ b ∈ xs,h.get? b=none) (hl:∀ b ∈ xs,∃ o,h'.get? b=some o) :
 Inv w g (G.hid xs) σ h'∧Car G h (G.hid xs) h':=by
 have C:Car G h (G.hid xs) h':=⟨rfl,fun {b o} e hb=>⟨k b o e,fun q=>by
  rcases fU.mp q with q | q
  ·exact hb q
  ·rw [hf b q] at e; exact nx e⟩,fun _ _ e=>e,fun _ _ e=>e⟩
 refine ⟨⟨I.pw,fun b o e=>k b o (I.keep b o e),fun b hb=>?_,?_,fun b hb=>?_,I.lg,I.ll,fun i p c e1 e2=>(I.gs i p c e1 e2).car C (fun o e=>k _ o e) fun o e=>k _ o e,
  fun i a l e1 e2=>(I.ls i a l e1 e2).car C fun o e=>k _ o e,fun P hP=>(I.tabs P hP).step C fun o e=>k _ _ e⟩,C⟩
 ·rcases fU.mp hb with q | q
  ·exact I.fresh b q
  ·cases e:g.get? b with
   | none=>rfl
   | some o=>have:=I.keep b o e; rw [hf b q] at this; exact nx this
 ·show (G.mu++(xs++G.ex)).Nodup
  refine oI (xs:=G.mu) (ys:=G.ex) (zs:=xs) I.nodup hn fun z hz hm=>?_
  obtain ⟨o,e⟩:=I.there (b:=z) hm
  rw [hf z hz] at e; exact nx e
 ·rcases List.mem_append.mp hb with q | q
  ·exact hl b q
  ·obtain ⟨o,e⟩:=I.alive b q; exact ⟨o,k b o e⟩
theorem jH {G₀:Gh} (he:∀ b ∈ G₀.ex,b ∈ G.ex) {b:Addr} (hb:b ∈ (G.back G₀).own):b ∈ G.own:=by
 rcases List.mem_append.mp hb with q | q
 ·exact List.mem_append_left _ q
 ·exact List.mem_append_right _ (he b q)
theorem uQ {G₀:Gh} (he:∀ b ∈ G₀.ex,b ∈ G.ex):Car G h (G.back G₀) h :=
 ⟨rfl,fun e hb=>⟨e,fun q=>hb (jH he q)⟩,fun _ _ e=>e,fun _ _ e=>e⟩
theorem Inv.unhide {G₀:Gh} (I:Inv w g G σ h) (he:G.ex=xs++G₀.ex):Inv w g (G.back G₀) σ h∧Car G h (G.back G₀) h:=by
 have hs:∀ b ∈ G₀.ex,b ∈ G.ex:=fun b hb=>by rw [he]; exact List.mem_append_right _ hb
 have C:Car G h (G.back G₀) h:=uQ hs
 refine ⟨⟨I.pw,I.keep,fun b hb=>I.fresh b (jH hs hb),?_,fun b hb=>I.alive b (hs b hb),I.lg,I.ll,fun i p c e1 e2=>(I.gs i p c e1 e2).car C (fun _ e=>e) fun _ e=>e,
  fun i a l e1 e2=>(I.ls i a l e1 e2).car C fun _ e=>e,fun P hP=>(I.tabs P hP).step C fun _ e=>e⟩,C⟩
 have:=I.nodup
 show (G.mu++G₀.ex).Nodup
 have hsub:List.Sublist (G.mu++G₀.ex) (G.mu++G.ex):=by rw [he]; exact List.Sublist.append (List.Sublist.refl _) (List.sublist_append_right _ _)
 exact hsub.nodup this
theorem Stp.close {X Y:List Addr} {G₂:Gh} (k:∀ b o,h.get? b=some o→h₁.get? b=some o) (hf:∀ b ∈ xs,h.get? b=none) (S:Stp X (G.hid xs) h₁ G₂ h₂) (hX:∀ b ∈ X,b ∈ xs∨b ∈ Y):Stp Y G h (G₂.back G) h₂ where
 keep b o e hm hy:=S.keep b o (k b o e) hm (fun q=>by
  rcases hX b q with q | q
  ·rw [hf b q] at e; exact nx e
  ·exact hy q)
 live b o e:=S.live b o (k b o e)
 pg i p e:=S.pg i p e
 pl i p e:=S.pl i p e
 ex:=rfl
 pw:=S.pw
 new b hb:=by
  rcases S.new b hb with q | q
  ·exact .inl q
  ·right
   cases e:h.get? b with
   | none=>rfl
   | some o=>rw [k b o e] at q; exact sn q
theorem Frm.stepX {X:List Addr} {fi:FI} {env:aB} {ME:Env} {fo:List Addr} (I:Inv w g G σ h) (F:Frm G h fi env ME fo) (S:Stp X G h G₁ h') (hX:∀ b ∈ X,b ∈ G.ex) (hfo:∀ b ∈ X,b ∉ fo)
 (hc:∀ x c,ME.cells.lookup x=some c→c ∉ X):Frm G₁ h' fi env ME fo:=by
 have C:=S.car hX
 have ke:∀ b ∈ fo,∀ o,h.get? b=some o→h'.get? b=some o:=fun b hb o e=>S.keep b o e (I.ex_mu (F.fsub b hb)) (fun q=>hfo b q hb)
 refine ⟨F.sc,F.kind,F.gl,F.bu,fun b hb=>S.ex ▸ F.fsub b hb,F.loc,?_,?_,F.imm,?_,F.inj,F.dbg,fun x c e=>let ⟨o,q⟩:=F.cal x c e; S.live c o q,?_⟩
 ·obtain ⟨m,⟨o,es,ep,e,d⟩,h2⟩:=F.ns
  exact ⟨m,⟨o,es,ep,ke _ F.loc _ e,d⟩,fun x v hk hv=>let ⟨u,e1,e2⟩:=h2 x v hk hv; ⟨u,e1,e2.step C⟩⟩
 ·intro x v hk hv
  obtain ⟨c,u,e1,e2,e3,e4⟩:=F.cel x v hk hv
  refine ⟨c,u,e1,IsCell.stay e2 (fun o e=>S.keep c o e e4 (hc x c e1)),e3.step C,fun q=>?_⟩
  obtain ⟨o,e,_⟩:=e2
  rcases S.new c q with q | q
  ·exact e4 q
  ·rw [e] at q; exact sn q
 ·intro x h1 h2
  obtain ⟨c,v₀,e1,e2,e3⟩:=F.tur x h1 h2
  exact ⟨c,v₀,e1,IsCell.stay e2 (ke c e3),e3⟩
 ·intro a ha c P hc'
  obtain ⟨q1,q2,q3⟩:=F.lam a ha c P hc'
  refine ⟨q1,q2,fun x c' hx hm hown=>?_⟩
  rcases S.own hown with q | q
  ·exact q3 x c' hx hm q
  ·obtain ⟨o,e⟩:=F.cal x c' hx; rw [e] at q; exact sn q
theorem Frm.hide {fi:FI} {env:aB} {ME:Env} {fo:List Addr} (F:Frm G h fi env ME fo) (k:∀ b o,h.get? b=some o→h'.get? b=some o) (hf:∀ b ∈ xs,h.get? b=none) (C:Car G h (G.hid xs) h'):Frm (G.hid xs) h' fi env ME fo:=by
 refine ⟨F.sc,F.kind,F.gl,F.bu,fun b hb=>List.mem_append_right _ (F.fsub b hb),F.loc,?_,?_,F.imm,?_,F.inj,F.dbg,fun x c e=>let ⟨o,q⟩:=F.cal x c e; ⟨o,k c o q⟩,?_⟩
 ·obtain ⟨m,⟨o,es,ep,e,d⟩,h2⟩:=F.ns
  exact ⟨m,⟨o,es,ep,k _ _ e,d⟩,fun x v hk hv=>let ⟨u,e1,e2⟩:=h2 x v hk hv; ⟨u,e1,e2.step C⟩⟩
 ·intro x v hk hv
  obtain ⟨c,u,e1,e2,e3,e4⟩:=F.cel x v hk hv
  exact ⟨c,u,e1,IsCell.stay e2 (fun o e=>k c o e),e3.step C,e4⟩
 ·intro x h1 h2
  obtain ⟨c,v₀,e1,e2,e3⟩:=F.tur x h1 h2
  exact ⟨c,v₀,e1,IsCell.stay e2 (k c),e3⟩
 ·intro a ha c P hc'
  obtain ⟨q1,q2,q3⟩:=F.lam a ha c P hc'
  refine ⟨q1,q2,fun x c' hx hm hown=>?_⟩
  rcases fU.mp hown with q | q
  ·exact q3 x c' hx hm q
  ·obtain ⟨o,e⟩:=F.cal x c' hx; rw [hf c' q] at e; exact nx e
theorem Frm.unhide {fi:FI} {env:aB} {ME:Env} {fo:List Addr} {G₀:Gh} (F:Frm G h fi env ME fo) (hs:∀ b ∈ G₀.ex,b ∈ G.ex) (hfo:∀ b ∈ fo,b ∈ G₀.ex):Frm (G.back G₀) h fi env ME fo:=by
 have C:Car G h (G.back G₀) h:=uQ hs
 refine ⟨F.sc,F.kind,F.gl,F.bu,hfo,F.loc,?_,?_,F.imm,F.tur,F.inj,F.dbg,F.cal,?_⟩
 ·obtain ⟨m,e,h2⟩:=F.ns
  exact ⟨m,e,fun x v hk hv=>let ⟨u,e1,e2⟩:=h2 x v hk hv; ⟨u,e1,e2.step C⟩⟩
 ·intro x v hk hv
  obtain ⟨c,u,e1,e2,e3,e4⟩:=F.cel x v hk hv
  exact ⟨c,u,e1,e2,e3.step C,e4⟩
 ·intro a ha c P hc'
  obtain ⟨q1,q2,q3⟩:=F.lam a ha c P hc'
  exact ⟨q1,q2,fun x c' hx hm hown=>q3 x c' hx hm (jH hs hown)⟩
end
theorem Stp.updX {b:Addr} {X:List Addr} (hb:b ∈ X) (hs:Heap.SameBut b h h') (hl:∃ o,h'.get? b=some o):Stp X G h G h' :=
 ⟨fun c o e _ hx=>(hs.2 c (fun q=>hx (q ▸ hb))).trans e,pH hs hl,fun _ _ e=>e,fun _ _ e=>e,rfl,rfl,fun _ hb=>.inl hb⟩
theorem Inv.updX {b:Addr} (I:Inv w g G σ h) (hb:b ∈ G.ex) (hs:Heap.SameBut b h h') (hl:∃ o,h'.get? b=some o):Inv w g G σ h':=by
 have S:Stp [b] G h G h':=Stp.updX (List.mem_singleton.mpr rfl) hs hl
 have C:Car G h G h':=S.car fun c hc=>by rw [List.mem_singleton.mp hc]; exact hb
 have ne:∀ c ∈ G.mu,c ≠ b:=fun c hc q=>I.ex_mu hb (q ▸ hc)
 have st:∀ c ∈ G.mu,∀ o,h.get? c=some o→h'.get? c=some o:=fun c hc o e=>(hs.2 c (ne c hc)).trans e
 refine ⟨I.pw,fun c o e=>?_,I.fresh,I.nodup,fun c hc=>let ⟨o,e⟩:=I.alive c hc; S.live c o e,I.lg,I.ll,fun i p c e1 e2=>(I.gs i p c e1 e2).car C (st _ (cV (c6 e1).1)) (st _ (cV (c6 e1).2)),
  fun i a l e1 e2=>(I.ls i a l e1 e2).car C (st _ (fV (List.mem_of_getElem? e1))),fun P hP=>(I.tabs P hP).step C (st _ (dP hP))⟩
 refine (hs.2 c fun q=>?_).trans (I.keep c o e)
 have:=I.fresh b (List.mem_append_right _ hb)
 rw [← q,e] at this; exact sn this
noncomputable def jA (w:World) (g:Heap) (G:Gh) (σ:aC) (s:Shared) (fi:FI) (env' : aB) (ME:Env) (fo:List Addr) (Q:Unit→Shared→Prop):Prop :=
 ∀ s' : Shared,Inv w g G σ s'.heap→Stp fo G s.heap G s'.heap→Frm G s'.heap fi env' ME fo→s'.gens=s.gens→s'.os=s.os→Q () s'
theorem Frm.plain (F:Frm G h fi env ME fo):(ME.scope.kind == .class || (ME.scope.kind == .module && ME.locals != ME.globals))=false:=by
 rw [show ME.scope.kind = .function from F.sc ▸ F.kind]; rfl
theorem sK {c:Addr} {v:Option Value} {m:Str→Option Value} (x:h.IsCell c v) (y:h.Ns c m):False:=by
 obtain ⟨o,e,d⟩:=x
 obtain ⟨o',es,ep,e',d',_⟩:=y
 rw [e] at e'; clear e; cases e'; rw [d] at d'; cases d'
theorem pD {x:Str} {v:V} {u:Value} {Q:Unit→Shared→Prop} (e:putN fi x v env=some env') (I:Inv w g G σ s.heap) (F:Frm G s.heap fi env ME fo) (xv:VR G s.heap v u)
 (P:jA w g G σ s fi env' ME fo Q):wpAny (MW w) A (storeName ME x u) Q E s:=by
 have hsk:ME.scope.kind = .function:=F.sc ▸ F.kind
 have hloc:=F.fsub _ F.loc
 have hX:∀ b ∈ fo,b ∈ G.ex:=F.fsub
 unfold putN at e
 refine optE (o:=kindIn fi.sc x) (fun hk=>?_) fun k hk=>?_
 ·simp only [hk] at e; exact nx e
 ·have hk':=(F.kindOf x).trans hk
  cases k with
  | «local» =>
   simp only [hk] at e
   cases e
   obtain ⟨m,h1,h2⟩:=F.ns
   refine wpAny_storeName_local hk' h1 (fun h' hn hs=>?_) F.plain
   have hl:∃ o,h'.get? ME.locals=some o:=(let ⟨o,_,_,q,_⟩:=hn; ⟨o,q⟩)
   have I' : Inv w g G σ h':=I.updX hloc hs hl
   have S:Stp fo G s.heap G h':=Stp.updX F.loc hs hl
   have C:=S.car hX
   refine P { s with heap:=h',toks:=s.toks + 1 } I' S ?_ rfl rfl
   refine ⟨F.sc,F.kind,F.gl,F.bu,F.fsub,F.loc,⟨_,hn,fun y v' hy hv=>?_⟩,fun y v' hy hv=>?_,F.imm,fun y h3 h4=>?_,F.inj,F.dbg,fun y c q=>let ⟨o,q'⟩:=F.cal y c q; S.live c o q',fun a ha c P' hc'=>?_⟩
   ·rw [look_put] at hv
    by_cases hyx:y=x
    ·rw [if_pos hyx] at hv; clear P; cases hv; exact ⟨u,if_pos hyx,xv.step C⟩
    ·rw [if_neg hyx] at hv
     obtain ⟨u',e1,e2⟩:=h2 y v' hy hv
     exact ⟨u',by rw [if_neg hyx]; exact e1,e2.step C⟩
   ·have hyx:y ≠ x:=by clear hk' P hn hv; rintro rfl; rcases hy with q | q <;> rw [hk] at q <;> cases q
    rw [look_put,if_neg hyx] at hv
    obtain ⟨c,u',e1,e2,e3,e4⟩:=F.cel y v' hy hv
    refine ⟨c,u',e1,IsCell.stay e2 (fun o q=>(hs.2 c (fun z=>?_)).trans q),e3.step C,e4⟩
    clear e1 e4 q; subst z; exact sK e2 h1
   ·obtain ⟨c,v₀,e1,e2,e3⟩:=F.tur y h3 h4
    refine ⟨c,v₀,e1,IsCell.stay e2 (fun o q=>(hs.2 c (fun z=>?_)).trans q),e3⟩
    clear e1 e3 q; subst z; exact sK e2 h1
   ·obtain ⟨q1,q2,q3⟩:=F.lam a ha c P' hc'
    exact ⟨q1,q2,q3⟩
  | cell =>
   simp only [hk] at e
   refine boolF (b:=fi.mutc.any (fun y=>sEq y x)) (fun hm=>?_) fun hm=>?_
   ·rw [hm] at e; exact nx e
   ·rw [hm] at e
    cases e
    obtain ⟨c,v₀,e1,e2,e3⟩:=F.tur x hm hk; clear hm
    refine wpAny_storeName_cell hsk hk' e1 e2 fun h' hc hs=>?_
    have hl:∃ o,h'.get? c=some o:=let ⟨o,q,_⟩:=hc; ⟨o,q⟩
    have I' : Inv w g G σ h':=I.updX (hX c e3) hs hl
    have S:Stp fo G s.heap G h':=Stp.updX e3 hs hl
    have C:=S.car hX
    refine P { s with heap:=h' } I' S ?_ rfl rfl
    clear hk' P hl; obtain ⟨m,h1,h2⟩:=F.ns
    have hcl:c ≠ ME.locals:=by clear e1 e3 hc hs; rintro rfl; exact sK e2 h1
    refine ⟨F.sc,F.kind,F.gl,F.bu,F.fsub,F.loc,⟨m,?_,fun y v' hy hv=>?_⟩,fun y v' hy hv=>?_,F.imm,fun y h3 h4=>?_,F.inj,F.dbg,fun y c q=>let ⟨o,q'⟩:=F.cal y c q; S.live c o q',fun a ha c P' hc'=>?_⟩
    ·exact h1.sameBut hs (Ne.symm hcl)
    ·have hyx:y ≠ x:=by clear e1 hv; rintro rfl; rw [hk] at hy; cases hy
     rw [look_put,if_neg hyx] at hv
     obtain ⟨u',e4,e5⟩:=h2 y v' hy hv
     exact ⟨u',e4,e5.step C⟩
    ·rw [look_put] at hv
     by_cases hyx:y=x
     ·rw [if_pos hyx] at hv; clear hk; cases hv
      subst hyx
      exact ⟨c,u,e1,hc,xv.step C,I.ex_mu (hX c e3)⟩
     ·rw [if_neg hyx] at hv
      clear e2 e3 hc hcl; obtain ⟨c',u',e4,e5,e6,e7⟩:=F.cel y v' hy hv
      refine ⟨c',u',e4,IsCell.stay e5 (fun o q=>(hs.2 c' (fun z=>?_)).trans q),e6.step C,e7⟩
      clear hs; subst z; exact hyx (F.inj y x c' e4 e1)
    ·by_cases hyx:y=x
     ·clear hk; subst hyx; exact ⟨c,some u,e1,hc,e3⟩
     ·clear e2 e3 hc hcl; obtain ⟨c',v',e4,e5,e6⟩:=F.tur y h3 h4
      refine ⟨c',v',e4,IsCell.stay e5 (fun o q=>(hs.2 c' (fun z=>?_)).trans q),e6⟩
      clear hs; subst z; exact hyx (F.inj y x c' e4 e1)
    ·obtain ⟨q1,q2,q3⟩:=F.lam a ha c P' hc'
     exact ⟨q1,q2,q3⟩
  | _=>simp only [hk] at e; exact nx e
theorem jA.after {env env' env₁:aB} {Q:Unit→Shared→Prop} (P:jA w g G σ s fi env' ME fo Q) (T:Stp fo G s.heap G s₁.heap) (hg:s₁.gens=s.gens) (ho:s₁.os=s.os):jA w g G σ s₁ fi env' ME fo Q :=
 fun s' I' S' F' g' o'=>P s' I' (T.trans S') F' (g'.trans hg) (o'.trans ho)
theorem kW {n:Nat} {t:Expr} {r:List Expr} {v:V} {l:List V} {env env' : aB} (e:eL fi (n + 1) (t::r) (v::l) env=some env'):∃ env1,bindT fi n t v env=some env1∧eL fi n r l env1=some env':=obE e
theorem uW:∀ {n:Nat} {ts:List Expr} {l:List V} {env env' : aB},eL fi n ts l env=some env'→ts.length=l.length
 | 0,_,_,_,_,e=>nx e
 | n + 1,[],[],_,_,_=>rfl
 | n + 1,t::r,v::l,env,env',e=>by
  obtain ⟨env1,h,e⟩:=kW e
  exact congrArg Nat.succ (uW e)
 | n + 1,[],_::_,_,_,e=>nx e
 | n + 1,_::_,[],_,_,e=>nx e
theorem aBZ {n:Nat} {t:Expr} {p:Pos} {v:V} {env:aB}:bindT fi n (.Starred t p) v env=none:=by cases n <;> rfl
theorem qA {n:Nat} {t:Expr} {r:List Expr} {v:V} {env env' : aB} (e:bindT fi n t v env=some env'):assignEach (t::r) ME=(false,assign t ME)::assignEach r ME:=by
 cases t with
 | Starred x p=>rw [aBZ] at e; exact nx e
 | _=>rfl
theorem uL {ME:Env}:∀ {n:Nat} {ts:List Expr} {l:List V} {env env' : aB},eL fi n ts l env=some env'→(assignEach ts ME).length=ts.length∧(assignEach ts ME).findIdx? (·.1)=none
 | 0,_,_,_,_,e=>nx e
 | n + 1,[],[],_,_,_=>⟨rfl,rfl⟩
 | n + 1,t::r,v::l,env,env',e=>by
  obtain ⟨env1,h,e⟩:=kW e
  have:=uL (ME:=ME) e
  rw [qA h]
  exact ⟨congrArg Nat.succ this.1,by rw [List.findIdx?_cons,this.2]; rfl⟩
 | n + 1,[],_::_,_,_,e=>nx e
 | n + 1,_::_,[],_,_,e=>nx e
mutual
theorem mY:∀ (n:Nat) {t:Expr} {v:V} {env env' : aB} {s:Shared} {u:Value} {Q:Unit→Shared→Prop},bindT fi n t v env=some env'→A.handled=none→Inv w g G σ s.heap→Frm G s.heap fi env ME fo→VR G s.heap v u →
 jA w g G σ s fi env' ME fo Q→wpAny (MW w) A (assign t ME u) Q E s
 | 0,_,_,_,_,_,_,_,e,_,_,_,_,_=>by exact nx e
 | n + 1,t,v,env,env',s,u,Q,e,hA,I,F,xv,P=>by
  cases t with
  | Name x p=>exact wpAny_assign_Name (pD (show putN fi x v env=some env' from e) I F xv P)
  | Tuple ts k p =>
   have e:=(show (match bC v with | some l=>eL fi n ts l env | none=>none)=some env' from e)
   obtain ⟨l,hl,e⟩:=obL e
   obtain ⟨a,us,z1,_,ht,hs⟩:=eJ hl xv; clear xv; subst z1
   have h1:=uL (ME:=ME) e
   refine assign_Tuple_tuple (items:=us.toArray) hA ht.isTuple (h1.1.trans ((uW e).trans hs.len.symm)) h1.2 fun h' hx=>?_
   have k:∀ b o,s.heap.get? b=some o→h'.get? b=some o:=fun b o q=>hx b o (Nat.ne_of_lt (Heap.lt_size q)) q
   exact uZ n e hA (I.ext k) (F.step I (Stp.ext k)) (hs.step (Stp.ext (X:=[]) k).car0) (P.after (env:=env) (env₁:=env) (s₁:={ s with heap:=h' }) (Stp.ext k) rfl rfl)
  | _=>exact nx e
theorem uZ:∀ (n:Nat) {ts:List Expr} {l:List V} {env env' : aB} {s:Shared} {us:List Value} {Q:Unit→Shared→Prop},eL fi n ts l env=some env'→A.handled=none→Inv w g G σ s.heap→Frm G s.heap fi env ME fo→VRs G s.heap l us →
 jA w g G σ s fi env' ME fo Q→wpAny (MW w) A (assignInOrder ((assignEach ts ME).map (·.2)) us) Q E s
 | 0,_,_,_,_,_,_,_,e,_,_,_,_,_=>nx e
 | n + 1,ts,l,env,env',s,us,Q,e,hA,I,F,xv,P=>by
  match ts,l,e,xv with
  | [],[],e,xv =>
   obtain rfl:=so e
   obtain rfl:=xv
   exact wpAny_assignInOrder_none (P s I .refl F rfl rfl)
  | t::r,v::l,e,xv =>
   obtain ⟨env1,h,e⟩:=kW e
   obtain ⟨u,us',rfl,x1,x2⟩:=xv
   rw [qA h]
   refine wpAny_assignInOrder_more (mY n h hA I F x1 fun s' I' S' F' g' o'=>?_)
   exact uZ n e hA I' F' (x2.step (S'.car F.fsub)) (P.after (env:=env) (env₁:=env) S' g' o')
  | [],_::_,e,_=>exact nx e
  | _::_,[],e,_=>exact nx e
end
theorem Stp.butX {b:Addr} (k:∀ c o,c ∉ [b]→h.get? c=some o→h'.get? c=some o) (hl:∃ o,h'.get? b=some o):Stp [b] G h G h' :=
 ⟨fun c o e _ hx=>k c o hx e,fun c o e=>by
  by_cases q:c=b
  ·exact q ▸ hl
  ·exact ⟨o,k c o (by simpa using q) e⟩,fun _ _ e=>e,fun _ _ e=>e,rfl,rfl,fun _ hb=>.inl hb⟩
theorem Inv.butX {b:Addr} (I:Inv w g G σ h) (hb:b ∈ G.ex) (k:∀ c o,c ∉ [b]→h.get? c=some o→h'.get? c=some o) (hl:∃ o,h'.get? b=some o):Inv w g G σ h':=by
 have S:Stp [b] G h G h':=Stp.butX k hl
 have C:Car G h G h':=S.car fun c hc=>by rw [List.mem_singleton.mp hc]; exact hb
 have ne:∀ c ∈ G.mu,c ∉ [b]:=fun c hc q=>I.ex_mu hb (List.mem_singleton.mp q ▸ hc)
 have st:∀ c ∈ G.mu,∀ o,h.get? c=some o→h'.get? c=some o:=fun c hc o e=>k c o (ne c hc) e
 refine ⟨I.pw,fun c o e=>?_,I.fresh,I.nodup,fun c hc=>let ⟨o,e⟩:=I.alive c hc; S.live c o e,I.lg,I.ll,fun i p c e1 e2=>(I.gs i p c e1 e2).car C (st _ (cV (c6 e1).1)) (st _ (cV (c6 e1).2)),
  fun i a l e1 e2=>(I.ls i a l e1 e2).car C (st _ (fV (List.mem_of_getElem? e1))),fun P hP=>(I.tabs P hP).step C (st _ (dP hP))⟩
 refine k c o (fun q=>?_) (I.keep c o e)
 have:=I.fresh b (List.mem_append_right _ hb)
 rw [← List.mem_singleton.mp q,e] at this; exact sn this
theorem Stp.butXs {X:List Addr} (k:∀ c o,c ∉ X→h.get? c=some o→h'.get? c=some o) (hl:∀ b ∈ X,∃ o,h'.get? b=some o):Stp X G h G h' :=
 ⟨fun c o e _ hx=>k c o hx e,fun c o e=>by
  by_cases q:c ∈ X
  ·exact hl c q
  ·exact ⟨o,k c o q e⟩,fun _ _ e=>e,fun _ _ e=>e,rfl,rfl,fun _ hb=>.inl hb⟩
theorem Inv.butXs {X:List Addr} (I:Inv w g G σ h) (hb:∀ b ∈ X,b ∈ G.ex) (k:∀ c o,c ∉ X→h.get? c=some o→h'.get? c=some o) (hl:∀ b ∈ X,∃ o,h'.get? b=some o):Inv w g G σ h':=by
 have S:Stp X G h G h':=Stp.butXs k hl
 have C:Car G h G h':=S.car hb
 have ne:∀ c ∈ G.mu,c ∉ X:=fun c hc q=>I.ex_mu (hb c q) hc
 have st:∀ c ∈ G.mu,∀ o,h.get? c=some o→h'.get? c=some o:=fun c hc o e=>k c o (ne c hc) e
 refine ⟨I.pw,fun c o e=>?_,I.fresh,I.nodup,fun c hc=>let ⟨o,e⟩:=I.alive c hc; S.live c o e,I.lg,I.ll,fun i p c e1 e2=>(I.gs i p c e1 e2).car C (st _ (cV (c6 e1).1)) (st _ (cV (c6 e1).2)),
  fun i a l e1 e2=>(I.ls i a l e1 e2).car C (st _ (fV (List.mem_of_getElem? e1))),fun P hP=>(I.tabs P hP).step C (st _ (dP hP))⟩
 refine k c o (fun q=>?_) (I.keep c o e)
 have:=I.fresh c (List.mem_append_right _ (hb c q))
 rw [e] at this; exact sn this
theorem dS.after {fl:Fl} {Q:Flow→Shared→Prop} (P:dS w g G σ' s fi env' ME fo fl Q) (T:Stp fo G s.heap G₁ s₁.heap) (hg:s₁.gens=s.gens) (ho:s₁.os=s.os):dS w g G₁ σ' s₁ fi env' ME fo fl Q :=
 fun f s' G' I' S' F' r' g' o'=>P f s' G' I' (T.trans S') F' r' (g'.trans hg) (o'.trans ho)
theorem FlR.step {fl:Fl} {f:Flow} (C:Car G h G₁ h') (x:FlR G h fl f):FlR G₁ h' fl f:=by
 cases fl with
 | next=>exact x
 | ret v=>obtain ⟨u,e,q⟩:=x; exact ⟨u,e,q.step C⟩
theorem jI (H:aN w g n S):∀ {st:List Stmt} {env:aB} {σ:aC} {fl:Fl} {s:Shared} {G:Gh} {Q:Flow→Shared→Prop},blk S fi env st σ=some ((fl,env'),σ')→aU n A→Inv w g G σ s.heap→Frm G s.heap fi env ME fo →
 dS w g G σ' s fi env' ME fo fl Q→wpAny (MW w) A (execs st ME) Q E s
 | [],env,σ,fl,s,G,Q,e,hR,I,F,P=>by
  cases e
  exact wpAny_execs_nil (P .next s G I .refl F rfl rfl rfl)
 | st::r,env,σ,fl,s,G,Q,e,hR,I,F,P=>by
  have e:=(show Rbind (S.ex fi env st) (fun x=>match x with
   | (.next,env')=>blk S fi env' r
   | (.ret v,env')=>Rpure (.ret v,env')) σ=some ((fl,env'),σ') from e)
  obtain ⟨⟨f1,env1⟩,σ1,e1,e2⟩:=aH e; clear e
  refine wpAny_execs_cons (H.ex e1 hR I F fun f s1 G1 I1 S1 F1 r1 g1 o1=>?_)
  clear e1; cases f1 with
  | next =>
   cases r1
   exact jI H e2 hR I1 F1 (P.after S1 g1 o1)
  | ret v =>
   cases e2
   obtain ⟨u,rfl,x⟩:=r1
   exact P _ s1 G1 I1 S1 F1 ⟨u,rfl,x⟩ g1 o1
noncomputable def sS:List String:=["enumerate","zip","dict_itemiterator","dict_reverseitemiterator","odict_iterator","itertools.zip_longest","itertools.pairwise"]
theorem Inv.leave {xs:List Addr} {G₀:Gh} (I:Inv w g G σ h) (he:G.ex=xs++G₀.ex) (k:∀ c o,c ∉ xs→h.get? c=some o→h'.get? c=some o):Inv w g (G.back G₀) σ h'∧Car G h (G.back G₀) h':=by
 have hs:∀ b ∈ G₀.ex,b ∈ G.ex:=fun b hb=>by rw [he]; exact List.mem_append_right _ hb
 have hx:∀ b ∈ xs,b ∈ G.ex:=fun b hb=>by rw [he]; exact List.mem_append_left _ hb
 have C:Car G h (G.back G₀) h':=⟨rfl,fun {b o} e hb=>⟨k b o (fun q=>hb (List.mem_append_right _ (hx b q))) e,fun q=>hb (jH hs q)⟩,fun _ _ e=>e,fun _ _ e=>e⟩
 have nd:=I.nodup
 have mu:∀ b ∈ G.mu,b ∉ xs:=fun b hb q=>I.ex_mu (hx b q) hb
 have nd2:(xs++G₀.ex).Nodup:=by rw [← he]; exact (List.nodup_append.mp nd).2.1
 refine ⟨⟨I.pw,fun b o e=>k b o (fun q=>?_) (I.keep b o e),fun b hb=>I.fresh b (jH hs hb),?_,fun b hb=>?_,I.lg,I.ll,fun i p c e1 e2=>(I.gs i p c e1 e2).car C (fun o e=>k _ o (mu _ (cV (c6 e1).1)) e) fun o e=>k _ o (mu _ (cV (c6 e1).2)) e,
  fun i a l e1 e2=>(I.ls i a l e1 e2).car C fun o e=>k _ o (mu _ (fV (List.mem_of_getElem? e1))) e,fun P hP=>(I.tabs P hP).step C fun o e=>k _ o (mu _ (dP hP)) e⟩,C⟩
 ·have:=I.fresh b (List.mem_append_right _ (hx b q)); rw [this] at e; exact nx e
 ·show (G.mu++G₀.ex).Nodup
  have hsub:List.Sublist (G.mu++G₀.ex) (G.mu++G.ex):=by rw [he]; exact List.Sublist.append (List.Sublist.refl _) (List.sublist_append_right _ _)
  exact hsub.nodup nd
 ·obtain ⟨o,e⟩:=I.alive b (hs b hb)
  exact ⟨o,k b o (fun q=>(List.nodup_append.mp nd2).2.2 b q b hb rfl) e⟩
theorem Stp.leave {xs X Y:List Addr} {G₂:Gh} {h₁ h₂ h₃:Heap} (k0:∀ b o,h.get? b=some o→h₁.get? b=some o) (hf:∀ b ∈ xs,h.get? b=none) (S:Stp X (G.hid xs) h₁ G₂ h₂) (k:∀ c o,c ∉ xs→h₂.get? c=some o→h₃.get? c=some o)
 (hX:∀ b ∈ X,b ∈ xs∨b ∈ Y):Stp Y G h (G₂.back G) h₃:=by
 have S0:=Stp.close k0 hf S hX
 have nx:∀ b o,h.get? b=some o→b ∉ xs:=fun b o e q=>by rw [hf b q] at e; exact nx e
 exact ⟨fun b o e hm hy=>k b o (nx b o e) (S0.keep b o e hm hy),fun b o e=>let ⟨o',e'⟩:=S0.live b o e; ⟨o',k b o' (nx b o e) e'⟩,S0.pg,S0.pl,rfl,S0.pw,S0.new⟩
theorem Frm.leave {xs:List Addr} {G₀:Gh} (I:Inv w g G σ h) (F:Frm G h fi env ME fo) (he:G.ex=xs++G₀.ex) (k:∀ c o,c ∉ xs→h.get? c=some o→h'.get? c=some o) (hfo:∀ b ∈ fo,b ∈ G₀.ex)
 (hc:∀ x c,ME.cells.lookup x=some c→c ∉ xs):Frm (G.back G₀) h' fi env ME fo:=by
 have C:=(I.leave he k).2
 have nd2:(xs++G₀.ex).Nodup:=by rw [← he]; exact (List.nodup_append.mp I.nodup).2.1
 have nfo:∀ b ∈ fo,b ∉ xs:=fun b hb q=>(List.nodup_append.mp nd2).2.2 b q b (hfo b hb) rfl
 have hs:∀ b ∈ G₀.ex,b ∈ G.ex:=fun b hb=>by rw [he]; exact List.mem_append_right _ hb
 refine ⟨F.sc,F.kind,F.gl,F.bu,hfo,F.loc,?_,?_,F.imm,?_,F.inj,F.dbg,fun x c e=>let ⟨o,q⟩:=F.cal x c e; ⟨o,k c o (hc x c e) q⟩,?_⟩
 ·obtain ⟨m,⟨o,es,ep,e,d⟩,h2⟩:=F.ns
  exact ⟨m,⟨o,es,ep,k _ _ (nfo _ F.loc) e,d⟩,fun x v hk hv=>let ⟨u,e1,e2⟩:=h2 x v hk hv; ⟨u,e1,e2.step C⟩⟩
 ·intro x v hk hv
  obtain ⟨c,u,e1,e2,e3,e4⟩:=F.cel x v hk hv
  exact ⟨c,u,e1,IsCell.stay e2 (fun o e=>k c o (hc x c e1) e),e3.step C,e4⟩
 ·intro x h1 h2
  obtain ⟨c,v₀,e1,e2,e3⟩:=F.tur x h1 h2
  exact ⟨c,v₀,e1,IsCell.stay e2 (fun o e=>k c o (hc x c e1) e),e3⟩
 ·intro a ha c P hc'
  obtain ⟨q1,q2,q3⟩:=F.lam a ha c P hc'
  exact ⟨q1,q2,fun x c' hx hm hown=>q3 x c' hx hm (jH hs hown)⟩
inductive iG (I:Addr) (h:Heap):Prop
 | mk (o:Obj) (n:String) (vs:Array Value) (h1:h.get? I=some o) (h2:o.cls = .type n) (h3:o.data = .fields vs) (h4:sS.contains n=false)
theorem iG.al {I:Addr} (x:iG I h):∃ o,h.get? I=some o:=let ⟨o,_,_,e,_,_,_⟩:=x; ⟨o,e⟩
inductive aBc (w:World) (A:Around) (G:Gh) (h:Heap) (l:List V) (I:Addr) (h2:Heap):Prop
 | mk (fp:List Addr) (P:Nat→Value→Prop) (St:Nat→Heap→Prop) (W:Walks lw.row.prog w A I fp [I] l.length P St) (hst:St 0 h2) (hfp:∀ b ∈ fp,b=I∨(b ∉ G.own∧∃ o,h.get? b=some o))
  (hval:∀ i v x,P i v→l[i]? = some x→∀ G' h',Car (G.hid [I]) h2 G' h'→VR G' h' x v) (hown:∀ i h',St i h'→iG I h')
structure gZ (w:World) (A:Around) (G:Gh) (h:Heap) (l:List V) (I:Addr) (h2:Heap):Prop where
 k:∀ b o,h.get? b=some o→h2.get? b=some o
 fr:h.get? I=none
 al:∃ o,h2.get? I=some o
 w:aBc w A G h l I h2
set_option backward.match.sparseCases true in
theorem yD {I:Addr} {v:Value} {Q:Unit→Shared→Prop} (hx:iG I s.heap) (h:Q () s) :
 wpAny (MW w) A (do
  let (.ref r,.ref a):=((.ref I:Value),v) | return
  let o ← load r
  match o.cls,o.data with
  | .type n,.fields vs =>
   if sS.contains n && vs[0]? == some (rawInt a) then
    rule "for.unpacks-the-owned-tuple"
    updateField r 0 .none
  | _,_=>pure ()) Q E s:=by
 cases v with
 | ref a =>
  obtain ⟨o,n,vs,h1,h2,h3,h4⟩:=hx
  refine wpAny_bind (wpAny_load h1 ?_)
  rw [h2,h3]
  show wpAny _ _ (if (sS.contains n && vs[0]? == some (rawInt a))=true then _ else _) Q E s
  rw [h4,Bool.false_and,if_neg (by decide)]
  exact wpAny_pure h
 | _=>exact wpAny_pure h
theorem yE {t:Expr} {I:Addr} {v:Value} {Q:Unit→Shared→Prop} (hx:iG I s.heap) (h:Q () s) :
 wpAny (MW w) A (letOwnedTupleGo t (.ref I) v) Q E s:=by
 cases t with
 | Tuple es k p=>exact yD hx h
 | List es p=>exact yD hx h
 | _=>exact wpAny_pure h
structure t7 (w:World) (g:Heap) (G:Gh) (σ:aC) (s:Shared) (fi:FI) (env:aB) (ME:Env) (fo:List Addr) (Ia:Addr) (h2:Heap):Prop where
 k:∀ b o,s.heap.get? b=some o→h2.get? b=some o
 fr:∀ b ∈ [Ia],s.heap.get? b=none
 I2:Inv w g (G.hid [Ia]) σ h2
 F:Frm G s.heap fi env ME fo
 F2:Frm (G.hid [Ia]) h2 fi env ME fo
 fo:∀ b ∈ [Ia],b ∉ fo
 ce:∀ x c,ME.cells.lookup x=some c→c ∉ [Ia]
section
variable {Ia:Addr} {h2 h3:Heap} {Gi G3:Gh} {s' s3:Shared} {fl:Fl} {Rz:Result→Shared→Prop}
theorem wT (I:Inv w g G σ s.heap) (F:Frm G s.heap fi env ME fo) (k:∀ b o,s.heap.get? b=some o→h2.get? b=some o) (hf:s.heap.get? Ia=none) (al:∃ o,h2.get? Ia=some o):t7 w g G σ s fi env ME fo Ia h2:=by
 have hfr:∀ b ∈ [Ia],s.heap.get? b=none:=fun b hb=>List.mem_singleton.mp hb ▸ hf
 obtain ⟨I2,C2⟩:=I.hide (xs:=[Ia]) k (by simp) hfr (fun b hb=>List.mem_singleton.mp hb ▸ al)
 refine ⟨k,hfr,I2,F,F.hide k hfr C2,fun b hb q=>?_,fun x c e q=>?_⟩
 ·obtain ⟨o,e⟩:=I.alive b (F.fsub b q)
  rw [hfr b hb] at e; exact nx e
 ·obtain ⟨o,e'⟩:=F.cal x c e
  rw [hfr c q] at e'; exact nx e'
variable (Z:t7 w g G σ s fi env ME fo Ia h2)
include Z
theorem nO {h4:Heap} {t4:Nat} {f:Flow} (P:dS w g G σ' s fi env' ME fo fl (fun f s'=>Rz (.ok f) s')) (I3:Inv w g G3 σ' s3.heap) (S3:Stp (Ia::fo) (G.hid [Ia]) h2 G3 s3.heap) (F3:Frm G3 s3.heap fi env' ME fo) (r3:FlR G3 s3.heap fl f)
 (g3:s3.gens=s.gens) (o3:s3.os=s.os) (k4:∀ c o,c ∉ [Ia]→s3.heap.get? c=some o→h4.get? c=some o):Rz (.ok f) { s3 with heap:=h4,toks:=t4 }:=by
 have hex:G3.ex=[Ia]++G.ex:=S3.ex
 obtain ⟨I4,C4⟩:=I3.leave (G₀:=G) hex k4
 exact P f { s3 with heap:=h4,toks:=t4 } (G3.back G) I4 (Stp.leave Z.k Z.fr S3 k4 fun b hb=>(List.mem_cons.mp hb).elim (fun e=>.inl (List.mem_singleton.mpr e)) .inr) (F3.leave I3 hex k4 Z.F.fsub Z.ce) (r3.step C4) g3 o3
theorem aD4:∀ b ∈ Ia::fo,b ∈ (G.hid [Ia]).ex:=fun b hb=>(List.mem_cons.mp hb).elim (fun e=>e ▸ .head _) fun hb=>.tail _ (Z.F.fsub b hb)
theorem wS (Si:Stp (Ia::fo) (G.hid [Ia]) h2 Gi s'.heap) (k3:∀ c o,c ∉ [Ia]→s'.heap.get? c=some o→h3.get? c=some o) (al:∃ o,h3.get? Ia=some o):Stp (Ia::fo) (G.hid [Ia]) h2 Gi h3 :=
 Si.trans ((Stp.butX k3 al).weak fun b hb=>List.mem_singleton.mp hb ▸ .head _)
theorem wU (H:aN w g n S) {t:Expr} {body:List Stmt} {x:V} {v:Value} {envi env1 env2:aB} {f2:Fl} {σ1 σ2:aC} {Q:Flow→Shared→Prop} (e3:bindT fi 9 t x envi=some env1) (e4:blk S fi env1 body σ1=some ((f2,env2),σ2)) (hR:aU n A) (ho:iG Ia s3.heap)
 (Ii:Inv w g Gi σ1 s'.heap) (Si:Stp (Ia::fo) (G.hid [Ia]) h2 Gi s'.heap) (Fi:Frm Gi s'.heap fi envi ME fo) (k3:∀ c o,c ∉ [Ia]→s'.heap.get? c=some o→s3.heap.get? c=some o) (xv:VR Gi s3.heap x v)
 (K:∀ f s5 G5,Inv w g G5 σ2 s5.heap→Stp (Ia::fo) (G.hid [Ia]) h2 G5 s5.heap→Frm G5 s5.heap fi env2 ME fo→FlR G5 s5.heap f2 f→s5.gens=s3.gens→s5.os=s3.os→(∀ b o,b ∉ fo→b ∉ Gi.mu→s3.heap.get? b=some o→s5.heap.get? b=some o)→Q f s5) :
 wpAny (MW w) A (letOwnedTupleGo t (.ref Ia) v) (fun _ s=>wpAny (MW w) A (assign t ME v) (fun _ s=>wpAny (MW w) A (execs body ME) Q E s) E s) E s3:=by
 have hexI:Ia ∈ Gi.ex:=Si.ex.symm ▸ List.mem_cons_self
 have S03:=wS Z Si k3 ho.al
 refine yE ho (mY 9 e3 hR.2.2 (Ii.butX hexI k3 ho.al) (Fi.stepX Ii (Stp.butX k3 ho.al) (fun b hb=>List.mem_singleton.mp hb ▸ hexI) Z.fo Z.ce) xv fun s4 I4 S4 F4 g4 o4=>jI H e4 hR I4 F4 fun f s5 G5 I5 S5 F5 r5 g5 o5=>?_)
 exact K f s5 G5 I5 ((S03.trans (S4.weak fun b hb=>.tail _ hb)).trans (S5.weak fun b hb=>.tail _ hb)) F5 r5 (g5.trans g4) (o5.trans o4) fun b o h1 h2 q=>(S4.trans S5).keep b o q h2 h1
end
inductive pP (w:World) (g:Heap) (fi:FI) (ME:Env) (fo X:List Addr) (G:Gh) (h:Heap) (s:Shared) (run:aB→aC→Prop) (St:Heap→Prop) (s' : Shared):Prop
 | mk (σi:aC) (envi:aB) (Gi:Gh) (ei:run envi σi) (Ii:Inv w g Gi σi s'.heap) (Si:Stp X G h Gi s'.heap) (Fi:Frm Gi s'.heap fi envi ME fo) (hst:St s'.heap) (gi:s'.gens=s.gens) (oi:s'.os=s.os)
theorem v6 {α:Type} {l:List α} {i:Nat} {x:α} {r:List α} (hd:l.drop i=x::r):i < l.length∧l[i]? = some x∧l.drop (i + 1)=r:=by
 have hlt:i < l.length:=by
  rcases Nat.lt_or_ge i l.length with q | q
  ·exact q
  ·rw [List.drop_of_length_le q] at hd; cases hd
 rw [List.drop_eq_getElem_cons hlt] at hd
 obtain ⟨h1,h2⟩:=List.cons.inj hd
 exact ⟨hlt,h1 ▸ List.getElem?_eq_getElem hlt,h2⟩
theorem v7 {α:Type} {l:List α} {i:Nat} (hi:i ≤ l.length) (hd:l.drop i=[]):i=l.length:=Nat.le_antisymm hi (List.drop_eq_nil_iff.mp hd)
theorem tU {i n:Nat} (h:i < n):n + 1 - (i + 1) < n + 1 - i:=Nat.sub_lt_sub_left (Nat.lt_succ_of_lt h) (Nat.lt_succ_self i)
theorem aD2 (H:aN w g n S) {t:Expr} {body:List Stmt} {l:List V} {fl:Fl} {Ia:Addr} {h2:Heap} {Rz:Result→Shared→Prop} {tk:Nat} {dr:Drawn}
 (e:cU S fi t body l env σ=some ((fl,env'),σ')) (hR:aU n A) (I:Inv w g G σ s.heap) (F:Frm G s.heap fi env ME fo) (X:gZ w A G s.heap l Ia h2)
 (P:dS w g G σ' s fi env' ME fo fl (fun f s'=>Rz (.ok f) s')):codeAny (MW w) A (.forLoop t (.ref Ia) body [] ME) Rz { s with heap:=h2,toks:=tk,drawn:=dr }:=by
 obtain ⟨fp,Pv,St,W,hst,hfp,hval,hown⟩:=X.w
 have Z:=wT I F X.k X.fr X.al
 refine codeAny_forLoop_any (fun k s'=>∃ i,i ≤ l.length∧k=l.length + 1 - i∧pP w g fi ME fo (Ia::fo) (G.hid [Ia]) h2 s (fun envi σi=>cU S fi t body (l.drop i) envi σi=some ((fl,env'),σ')) (St i) s') ?_ (l.length + 1)
  ⟨0,Nat.zero_le _,rfl,σ,env,_,e,Z.I2,.refl,Z.F2,hst,rfl,rfl⟩
 clear e
 rintro k s' ⟨i,hi,rfl,σi,envi,Gi,ei,Ii,Si,Fi,hsti,gi,oi⟩
 cases hd:l.drop i with
 | nil =>
  rw [hd] at ei
  have hil:=v7 hi hd
  rw [hil] at hsti
  refine W.done _ _ _ hsti fun h3 tk3 k3=>wpAny_execs_nil ?_
  cases ei
  exact nO Z P Ii Si Fi rfl gi oi k3
 | cons x r =>
  obtain ⟨hlt,hx,hr⟩:=v6 hd
  rw [hd] at ei
  clear hd hi
  have ei:=(show Rbind (oneOf (bindT fi 9 t x envi)) (fun env'=>Rbind (blk S fi env' body) fun x=>match x with
   | (.next,env'')=>cU S fi t body r env''
   | (.ret v,env'')=>Rpure (.ret v,env'')) σi=some ((fl,env'),σ') from ei)
  obtain ⟨env1,σ1,e1,e2⟩:=aH ei; clear ei
  obtain ⟨e3,z1⟩:=bB e1; clear e1; subst z1
  obtain ⟨⟨f2,env2⟩,σ2,e4,e5⟩:=aH e2; clear e2
  refine W.item i _ _ _ hlt hsti fun v h3 tk3 pv st3 k3=>?_
  have ho:=hown _ _ st3
  refine wU Z H e3 e4 hR ho Ii Si Fi k3 (hval i v x pv hx Gi h3 ((wS Z Si k3 ho.al).car (aD4 Z))) fun f s5 G5 I5 S5 F5 r5 g5 o5 k5=>?_
  clear e4 hval hown e3 Fi
  cases f2 with
  | next =>
   cases r5
   refine ⟨_,tU hlt,i + 1,hlt,rfl,σ2,env2,G5,hr.symm ▸ e5,I5,S5,F5,W.frame _ _ _ st3 fun b hb o q=>?_,g5.trans gi,o5.trans oi⟩
   have hexI:Ia ∈ Gi.ex:=Si.ex.symm ▸ List.mem_cons_self
   rcases hfp b hb with z | ⟨z1,o1,z2⟩
   ·exact k5 b o (z ▸ Z.fo Ia (.head _)) (z ▸ Ii.ex_mu hexI) q
   ·refine k5 b o (fun hm=>z1 (List.mem_append_right _ (F.fsub b hm))) (fun hm=>?_) q
    rcases Si.new b hm with y | y
    ·exact z1 (List.mem_append_left _ y)
    ·rw [X.k b o1 z2] at y; exact sn y
  | ret v =>
   obtain ⟨u,z,x5⟩:=r5
   subst z
   cases e5
   exact nO (t4:=s5.toks) (h4:=s5.heap) Z P I5 S5 F5 ⟨u,rfl,x5⟩ (g5.trans gi) (o5.trans oi) fun _ _ _ q=>q
theorem aIC {l:List V} {a:Addr} {us:List Value} (hA:A.handled=none) (ha:a ∉ G.own) (ht:cL h a us) (hs:VRs G h l us) :
 gZ w A G h l h.objs.size (h.push { cls:=.type "list_iterator",data:=.fields #[.ref a,.int 0 0] }):=by
 have hal:∃ o,h.get? a=some o:=let ⟨o,e,_⟩:=ht; ⟨o,e⟩
 have hlt:a < h.objs.size:=let ⟨o,e⟩:=hal; Heap.lt_size e
 have W:=Walks.list (prog:=lw.row.prog) (w:=w) hA h.objs.size a (Nat.ne_of_lt hlt) us.toArray
 have hz:us.toArray.size=l.length:=by simp [hs.len]
 rw [hz] at W
 refine ⟨bG _ _,dY (Nat.le_refl _),⟨_,Heap.get?_push_size _ rfl⟩,[h.objs.size,a],_,_,W,⟨⟨_,Heap.get?_push_size _ rfl,rfl,rfl⟩,cL.isList (by obtain ⟨o,e,r⟩:=ht; exact ⟨o,bG _ _ _ _ e,r⟩)⟩,?_,?_,?_⟩
 ·intro b hb
  rcases List.mem_cons.mp hb with rfl | hb
  ·exact .inl rfl
  ·rw [List.mem_singleton.mp hb]; exact .inr ⟨ha,hal⟩
 ·intro i v x pv hx G' h' C
  obtain ⟨u,hu,xu⟩:=hs.get hx
  have:u=v:=by simp at pv; rw [hu] at pv; clear hu xu; cases pv; rfl
  clear pv; subst this
  have C0:Car G h (G.hid [h.objs.size]) (h.push { cls:=.type "list_iterator",data:=.fields #[.ref a,.int 0 0] }):=⟨rfl,fun {b o} e hb=>⟨bG _ _ _ _ e,fun q=>by
   rcases fU.mp q with q | q
   ·exact hb q
   ·have:=Heap.lt_size e; rw [List.mem_singleton.mp q] at this; exact Nat.lt_irrefl _ this⟩,fun _ _ e=>e,fun _ _ e=>e⟩
  exact (xu.step C0).step C
 ·rintro i h' ⟨⟨o,q1,q2,q3⟩,_⟩
  exact ⟨o,_,_,q1,q2,q3,by decide⟩
theorem aIH {l:List V} {a:Addr} {us:List Value} (hA:A.handled=none) (ha:a ∉ G.own) (ht:cT h a us) (hs:VRs G h l us) :
 gZ w A G h l h.objs.size (h.push { cls:=.type "tuple_iterator",data:=.fields #[.ref a,.int 0 0] }):=by
 have hal:∃ o,h.get? a=some o:=let ⟨_,e⟩:=ht; ⟨_,e⟩
 have hlt:a < h.objs.size:=let ⟨o,e⟩:=hal; Heap.lt_size e
 have W:=Walks.tuple (prog:=lw.row.prog) (w:=w) hA h.objs.size a (Nat.ne_of_lt hlt) us.toArray
 have hz:us.toArray.size=l.length:=by simp [hs.len]
 rw [hz] at W
 refine ⟨bG _ _,dY (Nat.le_refl _),⟨_,Heap.get?_push_size _ rfl⟩,[h.objs.size,a],_,_,W,⟨⟨_,Heap.get?_push_size _ rfl,rfl,rfl⟩,cT.isTuple (ht.ext (bG _ _))⟩,?_,?_,?_⟩
 ·intro b hb
  rcases List.mem_cons.mp hb with rfl | hb
  ·exact .inl rfl
  ·rw [List.mem_singleton.mp hb]; exact .inr ⟨ha,hal⟩
 ·intro i v x pv hx G' h' C
  obtain ⟨u,hu,xu⟩:=hs.get hx
  have:u=v:=by simp at pv; rw [hu] at pv; clear hu xu; cases pv; rfl
  clear pv; subst this
  have C0:Car G h (G.hid [h.objs.size]) (h.push { cls:=.type "tuple_iterator",data:=.fields #[.ref a,.int 0 0] }):=⟨rfl,fun {b o} e hb=>⟨bG _ _ _ _ e,fun q=>by
   rcases fU.mp q with q | q
   ·exact hb q
   ·have:=Heap.lt_size e; rw [List.mem_singleton.mp q] at this; exact Nat.lt_irrefl _ this⟩,fun _ _ e=>e,fun _ _ e=>e⟩
  exact (xu.step C0).step C
 ·rintro i h' ⟨⟨o,q1,q2,q3⟩,_⟩
  exact ⟨o,_,_,q1,q2,q3,by decide⟩
theorem aIG {x:Str} {t:Tok} (hA:A.handled=none) :
 gZ w A G h (x.cps.toList.map fun c=>.pv (.str ⟨#[c]⟩)) h.objs.size (h.push { cls:=.type "str_ascii_iterator",data:=.fields #[.str x t,.int 0 0] }):=by
 have W:=Walks.strAscii (prog:=lw.row.prog) (w:=w) hA h.objs.size x t
 have hz:x.cps.size=(x.cps.toList.map fun c=>V.pv (.str ⟨#[c]⟩)).length:=by simp
 rw [hz] at W
 refine ⟨bG _ _,dY (Nat.le_refl _),⟨_,Heap.get?_push_size _ rfl⟩,[h.objs.size],_,_,W,⟨_,Heap.get?_push_size _ rfl,rfl,rfl⟩,?_,?_,?_⟩
 ·intro b hb; exact .inl (List.mem_singleton.mp hb)
 ·rintro i v y ⟨c,u,h1,rfl⟩ hx G' h' C
  simp only [List.getElem?_map] at hx
  have:x.cps.toList[i]? = some c:=by simpa using h1
  rw [this] at hx
  cases hx
  exact ⟨_,rfl⟩
 ·rintro i h' ⟨o,q1,q2,q3⟩
  exact ⟨o,_,_,q1,q2,q3,by decide⟩
theorem aEG (a c:Int):∀ (k:Nat) (i:Nat) (x:V),(intsFrom a c k)[i]? = some x→x = .pv (.int (a + i * c)):=by
 intro k
 induction k generalizing a with
 | zero=>intro i x e; exact nx e
 | succ k ih =>
  intro i x e
  cases i with
  | zero=>cases e; simp
  | succ i =>
   have:=ih (a + c) i x e
   rw [this]
   congr 2
   push_cast
   rw [Int.add_mul,Int.one_mul]; lia
theorem rN (a c:Int):∀ k,(intsFrom a c k).length=k
 | 0=>rfl
 | k + 1=>congrArg Nat.succ (rN (a + c) c k)
theorem aIE {h0:Heap} {a c:Int} {k:Nat} (hA:A.handled=none) (k0:∀ b o,h0.get? b=some o→h.get? b=some o) (z0:h0.objs.size ≤ h.objs.size) :
 gZ w A G h0 (intsFrom a c k) h.objs.size (h.push { cls:=.type "range_iterator",data:=.fields #[rawInt a,rawInt k,rawInt c] }):=by
 have W:=Walks.range (prog:=lw.row.prog) (w:=w) hA h.objs.size a c k
 rw [← rN a c k] at W
 refine ⟨fun b o e=>bG _ _ _ _ (k0 b o e),dY z0,⟨_,Heap.get?_push_size _ rfl⟩,[h.objs.size],_,_,W,?_,?_,?_,?_⟩
 ·show IsRangeIter _ _ _ _ _
  rw [rN]
  simpa using (Heap.get?_push_size h rfl)
 ·intro b hb; exact .inl (List.mem_singleton.mp hb)
 ·rintro i v y ⟨t,rfl⟩ hx G' h' C
  rw [aEG _ _ _ _ _ hx]
  exact ⟨_,rfl⟩
 ·intro i h' q
  exact ⟨_,_,_,q,rfl,rfl,by decide⟩
noncomputable def kK (w:World) (g:Heap) (A:Around) (G:Gh) (σ' : aC) (s:Shared) (fi:FI) (env:aB) (ME:Env) (fo:List Addr) (l:List V) (X:Value→Shared→Prop):Prop :=
 ∀ Ia (s' : Shared) G' h2 tk dr,Inv w g G' σ' s'.heap→Frm G' s'.heap fi env ME fo→Stp [] G s.heap G' s'.heap→s'.gens=s.gens→s'.os=s.os→gZ w A G' s'.heap l Ia h2→X (.ref Ia) { s' with heap:=h2,toks:=tk,drawn:=dr }
theorem aKg {v:V} {l:List V} {u:Value} {X:Value→Shared→Prop} (hA:A.handled=none) (e:f6 v σ=some (.vals l,σ')) (I:Inv w g G σ s.heap) (F:Frm G s.heap fi env ME fo) (xv:VR G s.heap v u)
 (K:kK w g A G σ' s fi env ME fo l X):wpAny (MW w) A (pyIter u) X E s:=by
 have tup:∀ l',bC v=some l'→l' = l→σ' = σ→wpAny (MW w) A (pyIter u) X E s:=by
  clear e; rintro l' hl rfl rfl
  obtain ⟨a,us,z1,ha,ht,hs⟩:=eJ hl xv; clear xv; subst z1
  refine wpAny_pyIter_tuple ht.isTuple ?_
  exact K _ s G _ s.toks s.drawn I F .refl rfl rfl (aIH hA ha ht hs)
 have lst:(Rbind (oneOf (vlOf v)) fun l=>Rpure (Src.vals l)) σ=some (.vals l,σ')→wpAny (MW w) A (pyIter u) X E s:=fun e=>by
  clear tup; obtain ⟨l',σ1,e1,e2⟩:=aH e; clear e
  obtain ⟨e3,z1⟩:=bB e1; clear e1; subst z1
  cases e2
  obtain ⟨a,us,z1,ha,ht,hs⟩:=mD e3 xv; clear xv; subst z1
  refine wpAny_pyIter_list ht.isList ?_
  exact K _ s G _ s.toks s.drawn I F .refl rfl rfl (aIC hA ha ht hs)
 cases v with
 | pv p=>cases p with
  | tup l'=>clear I K lst; cases e; exact tup _ rfl rfl rfl
  | str x =>
   have e:=(show (match jV x.cps.toList with
    | true=>Rpure (Src.vals (x.cps.toList.map fun c=>V.pv (.str ⟨#[c]⟩)))
    | false=>Rno) σ=some (.vals l,σ') from e)
   clear tup lst; refine boolF (b:=jV x.cps.toList) (fun ha=>?_) fun ha=>?_
   ·simp only [ha] at e; exact nx e
   ·simp only [ha] at e
    cases e
    obtain ⟨t,rfl⟩:=xv
    refine wpAny_pyIter_ascii ?_ (K _ s G _ s.toks s.drawn I F .refl rfl rfl (aIG hA))
    unfold jV at ha
    rw [← Array.all_toList,List.all_eq_true]
    rw [List.all_eq_true] at ha
    intro c hc
    have:=Nat.le_of_ble_eq_true (ha c hc)
    simp; exact Nat.lt_succ_of_le this
  | _=>exact lst e
 | tup l'=>clear I xv lst; cases e; exact tup _ rfl rfl rfl
 | li i =>
  obtain ⟨_,_,_,e2⟩:=aH (m:=getL i) e
  cases e2
 | _=>exact lst e
theorem aFq {v:V} {i:Nat} {u:Value} (e:f6 v σ=some (.live i,σ')) (xv:VR G s.heap v u):∃ a,u = .ref a∧G.l[i]? = some a∧σ' = σ∧∃ l,σ.l[i]? = some l:=by
 cases v with
 | pv p=>clear xv; cases p with
  | tup l'=>cases e
  | str x =>
   have e:=(show (match jV x.cps.toList with
    | true=>Rpure (Src.vals (x.cps.toList.map fun c=>V.pv (.str ⟨#[c]⟩)))
    | false=>Rno) σ=some (.live i,σ') from e)
   refine boolF (b:=jV x.cps.toList) (fun ha=>?_) fun ha=>?_
   ·simp only [ha] at e; exact nx e
   ·simp only [ha] at e; cases e
  | lst l=>cases e
  | _=>exact nx e
 | li j =>
  obtain ⟨l,σ1,e1,e2⟩:=aH (m:=getL j) e; clear e
  obtain ⟨h1,z1⟩:=jT e1; clear e1; subst z1
  cases e2
  obtain ⟨a,h2,rfl⟩:=xv
  exact ⟨a,rfl,h2,rfl,l,h1⟩
 | vl l=>cases e
 | _=>cases e
theorem aHn {a b c:Int} (ha : -1000000 ≤ a∧a ≤ 1000000) (hb : -1000000 ≤ b∧b ≤ 1000000) (hc:c=1∨c = -1):Builtin.Range.small a b c=true∧0 ≤ Builtin.Range.rangeSize a b c:=by
 have h0:0 ≤ Builtin.Range.rangeSize a b c∧Builtin.Range.rangeSize a b c ≤ 2000001:=by
  unfold Builtin.Range.rangeSize
  rcases hc with rfl | rfl
  ·simp only [Int.ediv_one]; constructor <;> (split <;> split <;> lia)
  ·simp only [Int.neg_neg,Int.ediv_one]; constructor <;> (split <;> split <;> lia)
 refine ⟨?_,h0.1⟩
 unfold Builtin.Range.small Builtin.Range.rangeFitsLong
 rcases hc with rfl | rfl <;> simp <;> lia
theorem s7 {a b c:Int} {t u v:Tok} {k:Nat} {X:Value→Shared→Prop} (hA:A.handled=none) (ha : -1000000 ≤ a∧a ≤ 1000000) (hb : -1000000 ≤ b∧b ≤ 1000000) (hc:c=1∨c = -1) (hk:Builtin.Range.rangeSize a b c=k)
 (I:Inv w g G σ s.heap) (F:Frm G s.heap fi env ME fo) {tk:Nat} (K:kK w g A G σ s fi env ME fo (intsFrom a c k) X) :
 wpAny (MW w) A (pyIter (.ref s.heap.objs.size)) X E { s with heap:=s.heap.push { cls:=.type "range",data:=.fields #[.int a t,.int b u,.int c v] },toks:=tk }:=by
 refine wpAny_pyIter_range (Heap.get?_push_size _ rfl) (aHn ha hb hc).1 ?_
 rw [hk]
 exact K _ s G _ tk s.drawn I F .refl rfl rfl (aIE hA (bG _ _) (lW _ _))
inductive aBa (vs l:List V):Prop
 | one (n:Int) (h:vs=[.pv (.int n)]) (h1:smallI n=true) (hl:l=intsFrom 0 1 n.toNat)
 | two (a b:Int) (h:vs=[.pv (.int a),.pv (.int b)]) (h1:smallI a=true) (h2:smallI b=true) (hl:l=intsFrom a 1 (b - a).toNat)
 | three (a b:Int) (h:vs=[.pv (.int a),.pv (.int b),.pv (.int (-1))]) (h1:smallI a=true) (h2:smallI b=true) (hl:l=intsFrom a (-1) (a - b).toNat)
theorem aHl {vs l:List V} (e:rangeOf vs=some l):aBa vs l:=by
 cases vs with
 | nil=>exact nx e
 | cons v vs =>
  cases v with
  | pv p =>
   cases p with
   | int a =>
    cases vs with
    | nil =>
     have e:=(show (match smallI a with | true=>some (intsFrom 0 1 a.toNat) | false=>none)=some l from e)
     refine boolF (b:=smallI a) (fun h1=>?_) fun h1=>?_
     ·rw [h1] at e; exact nx e
     ·rw [h1] at e; exact .one a rfl h1 (so e)
    | cons v vs =>
     cases v with
     | pv p =>
      cases p with
      | int b =>
       cases vs with
       | nil=>obtain ⟨h1,h2,h3⟩:=jK (a:=smallI a) (b:=smallI b) e; exact .two a b rfl h1 h2 h3
       | cons v vs =>
        cases v with
        | pv p =>
         cases p with
         | int c =>
          cases c with
          | ofNat _=>exact nx e
          | negSucc c =>
           cases c with
           | succ _=>exact nx e
           | zero =>
            cases vs with
            | nil=>obtain ⟨h1,h2,h3⟩:=jK (a:=smallI a) (b:=smallI b) e; exact .three a b rfl h1 h2 h3
            | cons _ _=>exact nx e
         | _=>exact nx e
        | _=>exact nx e
      | _=>exact nx e
     | _=>exact nx e
   | _=>exact nx e
  | _=>exact nx e
theorem aHm {vs:List V} {l:List V} {us:List Value} {X:Value→Shared→Prop} (hA:A.handled=none) (e:rangeOf vs=some l) (I:Inv w g G σ s.heap) (F:Frm G s.heap fi env ME fo) (xs:VRs G s.heap vs us)
 (K:kK w g A G σ s fi env ME fo l X):wpAny (MW w) A (call (.type "range") us) (fun x s₁=>wpAny (MW w) A (pyIter x) X E s₁) E s:=by
 rcases aHl e with ⟨b,z,hb,hl⟩ | ⟨a,b,z,ha,hb,hl⟩ | ⟨a,b,z,ha,hb,hl⟩
 ·obtain ⟨u,z1,t,zt⟩:=(z ▸ xs:VRs G s.heap [.pv (.int b)] us).one
  rw [z1,zt]
  refine call_range_1 (s7 (E:=E) hA ⟨by decide,by decide⟩ (iC hb) (.inl rfl) (k:=b.toNat) ?_ I F (t:=s.toks) (v:=s.toks + 1) (u:=t) (tk:=s.toks + 1 + 1) (hl ▸ K))
  clear I F xs K hl z
  unfold Builtin.Range.rangeSize; simp only [Int.ediv_one]; split <;> split <;> lia
 ·obtain ⟨u,u',z1,⟨t,zt⟩,⟨t',zt'⟩⟩:=(z ▸ xs:VRs G s.heap [.pv (.int a),.pv (.int b)] us).two
  rw [z1,zt,zt']
  refine call_range_2 (s7 (E:=E) hA (iC ha) (iC hb) (.inl rfl) (k:=(b - a).toNat) ?_ I F (t:=t) (u:=t') (v:=s.toks) (tk:=s.toks + 1) (hl ▸ K))
  clear I F xs K hl z
  unfold Builtin.Range.rangeSize; simp only [Int.ediv_one]; split <;> split <;> lia
 ·have xs:VRs G s.heap [.pv (.int a),.pv (.int b),.pv (.int (-1))] us:=z ▸ xs
  obtain ⟨u,_,z1,⟨t,zt⟩,u',_,z2,⟨t',zt'⟩,u'',_,z3,⟨t'',zt''⟩,z4⟩:=xs
  rw [z1,z2,z3,z4,zt,zt',zt'']
  refine call_range_3 (by decide) (s7 (E:=E) hA (iC ha) (iC hb) (.inr rfl) (k:=(a - b).toNat) ?_ I F (t:=t) (u:=t') (v:=t'') (tk:=s.toks) (hl ▸ K)) (Or.inl (PyProof.noPylong_small (by decide)))
  clear I F K hl
  show Builtin.Range.rangeSize a b (-1)=_
  unfold Builtin.Range.rangeSize; simp only [Int.neg_neg,Int.ediv_one]; split <;> split <;> lia
theorem aAo {f:Str} {n:Nat} (h:srcName TT fi f=n + 1):kindIn fi.sc f=some .globalImplicit∧look f TT.gl=none∧(n=0∧f = "range"∨n=1∧f = "enumerate"):=by
 have h:=(show (match kindIn fi.sc f,look f TT.gl,sEq f "range",sEq f "enumerate" with | some .globalImplicit,none,true,_=>1 | some .globalImplicit,none,_,true=>2 | _,_,_,_=>0)=n + 1 from h)
 cases h1:kindIn fi.sc f with
 | none=>rw [h1] at h; exact Nat.noConfusion h
 | some k =>
  rw [h1] at h
  cases k with
  | globalImplicit =>
   cases h2:look f TT.gl with
   | some _=>rw [h2] at h; exact Nat.noConfusion h
   | none =>
    rw [h2] at h
    refine ⟨rfl,rfl,?_⟩
    cases h3:sEq f "range" with
    | true=>rw [h3] at h; exact .inl ⟨(Nat.succ.inj h).symm,aK.mp h3⟩
    | false =>
     rw [h3] at h
     cases h4:sEq f "enumerate" with
     | true=>rw [h4] at h; exact .inr ⟨(Nat.succ.inj h).symm,aK.mp h4⟩
     | false=>rw [h4] at h; exact Nat.noConfusion h
  | _=>exact Nat.noConfusion h
theorem aIA {f:Str} (h:srcName TT fi f=1):kindIn fi.sc f=some .globalImplicit∧look f TT.gl=none∧f = "range":=by
 obtain ⟨h1,h3,⟨_,h⟩ | ⟨h,_⟩⟩:=aAo h
 ·exact ⟨h1,h3,h⟩
 ·exact nomatch h
theorem aIF (B:aZ w g mg mb) (H:aN w g n S) {f:Str} {p q:Pos} {as:List Expr} {l:List V} {X:Value→Shared→Prop} (hn:srcName TT fi f=1)
 (e:Rbind (mapR (S.ev fi env) as) (fun vs=>Rbind (oneOf (rangeOf vs)) fun l=>Rpure (Src.vals l)) σ=some (.vals l,σ')) (hR:aU n A) (I:Inv w g G σ s.heap) (F:Frm G s.heap fi env ME fo)
 (K:kK w g A G σ' s fi env ME fo l X):wpAny (MW w) A (eval (.Call (.Name f p) as [] q) ME) (fun x s₁=>wpAny (MW w) A (pyIter x) X E s₁) E s:=by
 obtain ⟨vs,σ1,e1,e2⟩:=aH e; clear e
 obtain ⟨l',σ2,e3,e4⟩:=aH e2; clear e2
 obtain ⟨e5,z1⟩:=bB e3; clear e3; subst z1
 cases e4
 obtain ⟨q1,q2,z1⟩:=aIA hn; clear hn; subst z1
 have en:fA TT fi env "range" σ=some (.st (.type "range"),σ):=by
  unfold fA
  simp only [q1,q2]
  rfl
 have hp:=lU (pos:=q) (ME:=ME) H e1
 rw [show eval (.Call (.Name "range" p) as [] q) ME=(do callWith q (← eval (.Name "range" p) ME) [] (backTo q (starEach as ME)) (backToKw q (keywordEach [] ME))) from rfl]
 refine wpAny_bind (lQ B en I F fun u s0 G0 I0 S0 x0 g0 o0=>?_)
 rw [(x0:u = .type "range")]
 refine jL hp.1 (iH H e1 hR I0 (F.step I S0) fun us s1 G1 I1 S1 x1 g1 o1=>⟨⟨.machine,fun Q q=>wpAny_pure q⟩,?_⟩)
 exact aHm hR.2.2 e5 I1 ((F.step I S0).step I0 S1) x1 fun Ia s' G' h2 tk dr I2 F2 S2 g2 o2 X2=>K Ia s' G' h2 tk dr I2 F2 ((S0.trans S1).trans S2) (g2.trans (g1.trans g0)) (o2.trans (o1.trans o0)) X2
theorem aAp (B:aZ w g mg mb) (H:aN w g n S) {it:Expr} {l:List V} {X:Value→Shared→Prop} (e:srcOf TT S fi env it σ=some (.vals l,σ')) (hR:aU n A) (I:Inv w g G σ s.heap) (F:Frm G s.heap fi env ME fo)
 (K:kK w g A G σ' s fi env ME fo l X):wpAny (MW w) A (eval it ME) (fun x s₁=>wpAny (MW w) A (pyIter x) X E s₁) E s:=by
 have gen:Rbind (S.ev fi env it) f6 σ=some (.vals l,σ')→wpAny (MW w) A (eval it ME) (fun x s₁=>wpAny (MW w) A (pyIter x) X E s₁) E s:=fun e=>by
  obtain ⟨v1,σ1,e1,e2⟩:=aH e
  refine H.ev' e1 hR I F fun u s1 G1 I1 F1 x1 S1 g1 o1=>aKg hR.2.2 e2 I1 F1 x1 fun Ia s' G' h2 tk dr I2 F2 S2 g2 o2 X2=>?_
  exact K Ia s' G' h2 tk dr I2 F2 (S1.trans S2) (g2.trans g1) (o2.trans o1) X2
 cases it with
 | Call f as ks q =>
  cases ks with
  | cons _ _=>exact gen (by cases f <;> exact e)
  | nil =>
   cases f with
   | Name f p =>
    have e:=(show (match srcName TT fi f with
     | 1=>(match shortArgs as with
      | true=>Rbind (mapR (S.ev fi env) as) fun vs=>Rbind (oneOf (rangeOf vs)) fun l=>Rpure (Src.vals l)
      | false=>Rno)
     | 2=>Rno
     | _=>Rbind (S.ev fi env (.Call (.Name f p) as [] q)) f6) σ=some (.vals l,σ') from e)
    match hn:srcName TT fi f with
    | 0=>rw [hn] at e; exact gen e
    | 1 =>
     rw [hn] at e
     clear gen; refine boolF (b:=shortArgs as) (fun hs=>?_) fun hs=>?_
     ·rw [hs] at e; exact nx e
     ·rw [hs] at e; exact aIF B H hn e hR I F K
    | 2=>rw [hn] at e; exact nx e
    | k + 3=>rw [hn] at e; exact gen e
   | _=>exact gen e
 | _=>exact gen e
noncomputable def fK (w:World) (g:Heap) (n:Nat) (m:FI→aB→Stmt→R (Fl×aB)) (st:Stmt):Prop :=
 ∀ {fi:FI} {env:aB} {σ:aC} {fl:Fl} {env' : aB} {σ' : aC} {A:Around} {E:Value→Shared→Prop} {s:Shared} {G:Gh} {ME:Env} {fo:List Addr} {Q:Flow→Shared→Prop},m fi env st σ=some ((fl,env'),σ')→aU n A→Inv w g G σ s.heap→Frm G s.heap fi env ME fo →
  dS w g G σ' s fi env' ME fo fl Q→wpAny (MW w) A (exec st ME) Q E s
theorem Stp.wk {G' : Gh} (S:Stp [] G h G' h') {X:List Addr}:Stp X G h G' h':=S.weak fun _ q=>nomatch q
theorem aEn (H:aN w g n S) {t:Expr} {b o:List Stmt} {p:Pos}:fK w g n (d9 TT S) (.If t b o p):=by
 intro fi env σ fl env' σ' A E s G ME fo Q e hR I F P
 have e:=(show Rbind (S.tr fi env t) (fun r=>match r with | true=>blk S fi env b | false=>blk S fi env o) σ=some ((fl,env'),σ') from e)
 obtain ⟨c,σ1,e1,e2⟩:=aH e
 refine wpAny_If (H.tr' e1 hR I F fun s1 G1 I1 F1 S1 g1 o1=>?_)
 clear e1; cases c with
 | true=>exact jI H e2 hR I1 F1 (P.after S1.wk g1 o1)
 | false=>exact jI H e2 hR I1 F1 (P.after S1.wk g1 o1)
theorem aHQ (H:aN w g n S) {x:Expr} {p:Pos}:fK w g n (d9 TT S) (.Return (some x) p):=by
 intro fi env σ fl env' σ' A E s G ME fo Q e hR I F P
 have e:=(show Rbind (S.ev fi env x) (fun v=>Rpure (Fl.ret v,env)) σ=some ((fl,env'),σ') from e)
 obtain ⟨v,σ1,e1,e2⟩:=aH e; clear e
 cases e2
 exact wpAny_Return_some (H.ev' e1 hR I F fun u s1 G1 I1 F1 x1 S1 g1 o1=>P _ s1 G1 I1 S1.wk F1 ⟨u,rfl,x1⟩ g1 o1)
theorem aHP {p:Pos}:fK w g n (d9 TT S) (.Return none p):=by
 intro fi env σ fl env' σ' A E s G ME fo Q e hR I F P
 cases e
 exact wpAny_Return_none (P _ s G I .refl F ⟨.none,rfl,by exact rfl⟩ rfl rfl)
theorem aDT (H:aN w g n S) {x:Expr} {p:Pos}:fK w g n (d9 TT S) (.Expr x p):=by
 intro fi env σ fl env' σ' A E s G ME fo Q e hR I F P
 have e:=(show (match hU x with | false=>Rbind (S.ev fi env x) (fun _=>Rpure (Fl.next,env)) | true=>Rno) σ=some ((fl,env'),σ') from e)
 refine boolF (b:=hU x) (fun hc=>?_) fun hc=>?_
 ·simp only [hc] at e
  obtain ⟨v,σ1,e1,e2⟩:=aH e; clear e
  cases e2
  have hi:interactive ME=false:=by
   unfold interactive
   rw [show ME.scope.kind = .function from F.sc ▸ F.kind]; rfl
  have hs:swapsWith x none p.line ME=pure false:=by
   cases x <;> first | rfl | exact tf hc
  rw [exec_Expr ME x p hi hs]
  exact wpAny_bind (wpAny_standAt (wpAny_bind (H.ev' e1 hR I F fun u s1 G1 I1 F1 x1 S1 g1 o1=>wpAny_dropValue (P _ s1 G1 I1 S1.wk F1 rfl g1 o1))))
 ·simp only [hc] at e; exact nx e
theorem aKk (H:aN w g n S) {t:Expr} {b:List Stmt} {p:Pos}:fK w g n (d9 TT S) (.While t b [] p):=by
 intro fi env σ fl env' σ' A E s G ME fo Q e hR I F P
 have e:=(show f7 S fi t b eZ env σ=some ((fl,env'),σ') from e)
 refine wpAny_While (codeAny_whileLoop (fun k s'=>pP w g fi ME fo fo G s.heap s (fun envi σi=>f7 S fi t b k envi σi=some ((fl,env'),σ')) (fun _=>True) s') ?_ eZ
  ⟨σ,env,G,e,I,.refl,F,trivial,rfl,rfl⟩)
 clear e; rintro k s' ⟨σi,envi,Gi,ei,Ii,Si,Fi,_,gi,oi⟩
 cases k with
 | zero=>exact nx ei
 | succ k =>
  have ei:=(show Rbind (S.tr fi envi t) (fun c=>match c with
   | false=>Rpure (Fl.next,envi)
   | true=>Rbind (blk S fi envi b) fun x=>match x with
    | (.next,env')=>f7 S fi t b k env'
    | (.ret v,env')=>Rpure (.ret v,env')) σi=some ((fl,env'),σ') from ei)
  obtain ⟨c,σ1,e1,e2⟩:=aH ei; clear ei
  refine H.tr' e1 hR Ii Fi fun s1 G1 I1 F1 S1 g1 o1=>?_
  clear Fi e1; cases c with
  | false =>
   cases e2
   exact wpAny_execs_nil (P _ s1 G1 I1 (Si.trans S1.wk) F1 rfl (g1.trans gi) (o1.trans oi))
  | true =>
   obtain ⟨⟨f2,env2⟩,σ2,e3,e4⟩:=aH e2; clear e2
   refine jI H e3 hR I1 F1 fun f s2 G2 I2 S2 F2 r2 g2 o2=>?_
   clear e3; cases f2 with
   | next =>
    cases r2
    exact ⟨k,Nat.lt_succ_self _,σ2,env2,G2,e4,I2,(Si.trans S1.wk).trans S2,F2,trivial,g2.trans (g1.trans gi),o2.trans (o1.trans oi)⟩
   | ret v =>
    cases e4
    obtain ⟨u,rfl,x⟩:=r2
    exact P _ s2 G2 I2 ((Si.trans S1.wk).trans S2) F2 ⟨u,rfl,x⟩ (g2.trans (g1.trans gi)) (o2.trans (o1.trans oi))
theorem aD1 (H:aN w g n S) {t:Expr} {body:List Stmt} {fl:Fl} {j:Nat} {a:Addr} {N:Nat} {Rz:Result→Shared→Prop} {tk:Nat} {dr:Drawn}
 (e:hJ S fi t body j N 0 env σ=some ((fl,env'),σ')) (hR:aU n A) (I:Inv w g G σ s.heap) (F:Frm G s.heap fi env ME fo) (ha:G.l[j]? = some a)
 (P:dS w g G σ' s fi env' ME fo fl (fun f s'=>Rz (.ok f) s')) :
 codeAny (MW w) A (.forLoop t (.ref s.heap.objs.size) body [] ME) Rz { s with heap:=s.heap.push { cls:=.type "list_iterator",data:=.fields #[.ref a,.int 0 0] },toks:=tk,drawn:=dr }:=by
 generalize hIa:s.heap.objs.size=Ia
 generalize hh2:s.heap.push { cls:=.type "list_iterator",data:=.fields #[.ref a,.int 0 0] } = h2
 have k2:∀ b o,s.heap.get? b=some o→h2.get? b=some o:=fun b o e=>hh2 ▸ bG _ _ b o e
 have al:h2.get? Ia=some { cls:=.type "list_iterator",data:=.fields #[.ref a,.int 0 0] }:=by rw [← hh2,← hIa]; exact Heap.get?_push_size _ rfl
 have hfr:∀ b ∈ [Ia],s.heap.get? b=none:=fun b hb=>by rw [List.mem_singleton.mp hb,← hIa]; exact dY (Nat.le_refl _)
 have Z:=wT I F k2 (hfr Ia (.head _)) ⟨_,al⟩
 refine codeAny_forLoop_any (fun k s'=>∃ i,pP w g fi ME fo (Ia::fo) (G.hid [Ia]) h2 s (fun envi σi=>hJ S fi t body j k i envi σi=some ((fl,env'),σ')) (fun h=>h.IsListIter Ia a i) s') ?_ N
  ⟨0,σ,env,_,e,Z.I2,.refl,Z.F2,⟨_,al,rfl,rfl⟩,rfl,rfl⟩
 clear e al I F k2 hfr
 rintro k s' ⟨i,σi,envi,Gi,ei,Ii,Si,Fi,hsti,gi,oi⟩
 cases k with
 | zero=>exact nx ei
 | succ k =>
  have ei:=(show Rbind (getL j) (fun l=>match l[i]? with
   | none=>Rpure (Fl.next,envi)
   | some v=>Rbind (oneOf (bindT fi 9 t v envi)) fun env'=>Rbind (blk S fi env' body) fun x=>match x with
    | (.next,env'')=>hJ S fi t body j k (i + 1) env''
    | (.ret v,env'')=>Rpure (.ret v,env'')) σi=some ((fl,env'),σ') from ei)
  obtain ⟨l,σ0,e0,e1⟩:=aH ei; clear ei
  obtain ⟨hl,z1⟩:=jT e0; clear e0; subst z1
  obtain ⟨us,hlx,hus⟩:=Ii.ls j a l (Si.pl j a ha) hl; clear hl ha
  have hlen:=hus.len
  refine optE (o:=l[i]?) (fun hx=>?_) fun x hx=>?_
  ·simp only [hx] at e1
   have hn:us.toArray[i]? = none:=List.getElem?_toArray.trans (List.getElem?_eq_none_iff.mpr (hlen ▸ List.getElem?_eq_none_iff.mp hx))
   refine wpAny_pyNext_list_end hR.2.2 hsti hlx.at.isList hn fun h3 k3=>wpAny_execs_nil ?_
   cases e1
   exact nO (t4:=s'.toks) Z P Ii Si Fi rfl gi oi fun c o hc q=>k3 c o (fun e=>hc (List.mem_singleton.mpr e)) q
  ·simp only [hx] at e1
   obtain ⟨env1,σ1,e2,e3⟩:=aH e1; clear e1
   obtain ⟨e4,z1⟩:=bB e2; clear e2; subst z1
   obtain ⟨⟨f2,env2⟩,σ2,e5,e6⟩:=aH e3; clear e3
   obtain ⟨u,hu,xu⟩:=hus.get hx
   have hexI:Ia ∈ Gi.ex:=Si.ex.symm ▸ List.mem_cons_self
   refine wpAny_pyNext_list_item hsti hlx.at.isList (x:=u) (by simpa using hu) fun h3 it3 k3'=>?_
   clear hus hlx hx hu hlen
   have k3:∀ c o,c ∉ [Ia]→s'.heap.get? c=some o→h3.get? c=some o:=fun c o hc q=>(k3'.2 c fun e=>hc (List.mem_singleton.mpr e)).trans q
   have ho:iG Ia h3:=let ⟨o,q1,q2,q3⟩:=it3; ⟨o,_,_,q1,q2,q3,by decide⟩
   refine wU Z H e4 e5 hR ho Ii Si Fi k3 (xu.step ((Stp.butX k3 ho.al).car fun b hb=>List.mem_singleton.mp hb ▸ hexI)) fun f s5 G5 I5 S5 F5 r5 g5 o5 k5=>?_
   clear e4 e5 xu ho k3 k3' Fi
   cases f2 with
   | next =>
    cases r5
    exact ⟨k,Nat.lt_succ_self _,i + 1,σ2,env2,G5,e6,I5,S5,F5,it3.at fun o q=>k5 Ia o (Z.fo Ia (.head _)) (Ii.ex_mu hexI) q,g5.trans gi,o5.trans oi⟩
   | ret v =>
    obtain ⟨u,z,x5⟩:=r5
    subst z
    cases e6
    exact nO (t4:=s5.toks) (h4:=s5.heap) Z P I5 S5 F5 ⟨u,rfl,x5⟩ (g5.trans gi) (o5.trans oi) fun _ _ _ q=>q
theorem yV (H:aN w g n S) {T:bK} {it:Expr} {r:Src} (e:srcOf T S fi env it σ=some (r,σ')) (x:Value):foldedSetIterable it ME x=pure x:=by
 cases it with
 | Set es k p =>
  obtain ⟨v1,σ1,e1,e2⟩:=aH (m:=S.ev fi env (.Set es k p)) e
  rw [H.set] at e1; exact nx e1
 | _=>rfl
theorem aID {f:Str} {as:List Expr} {p q:Pos} {i:Nat} (e:srcOf TT S fi env (.Call (.Name f p) as [] q) σ=some (.live i,σ₁)):Rbind (S.ev fi env (.Call (.Name f p) as [] q)) f6 σ=some (.live i,σ₁):=by
 have e:=(show (match srcName TT fi f with
  | 1=>(match shortArgs as with
   | true=>Rbind (mapR (S.ev fi env) as) fun vs=>Rbind (oneOf (rangeOf vs)) fun l=>Rpure (Src.vals l)
   | false=>Rno)
  | 2=>Rno
  | _=>Rbind (S.ev fi env (.Call (.Name f p) as [] q)) f6) σ=some (.live i,σ₁) from e)
 generalize srcName TT fi f=k at e
 match k,e with
 | 0,e=>exact e
 | 1,e =>
  generalize shortArgs as=b at e
  cases b with
  | false=>exact nx e
  | true =>
   obtain ⟨vs,σ3,e3,e4⟩:=aH (m:=mapR (S.ev fi env) as) e
   obtain ⟨l',σ4,e5,e6⟩:=aH e4
   exact nomatch (sp1 e6:Src.live i=Src.vals l')
 | 2,e=>exact nx e
 | k + 3,e=>exact e
theorem aD3 (B:aZ w g mg mb) (H:aN w g n S) {t it:Expr} {b:List Stmt} {p:Pos}:fK w g n (d9 TT S) (.For t it b [] p):=by
 intro fi env σ fl env' σ' A E s G ME fo Q e hR I F P
 have e:=(show Rbind (srcOf TT S fi env it) (fun src=>match src with
  | .vals l=>cU S fi t b l env
  | .live i=>hJ S fi t b i eZ 0 env) σ=some ((fl,env'),σ') from e)
 obtain ⟨src,σ1,e1,e2⟩:=aH e; clear e
 refine wpAny_For ?_ (yV H e1)
 cases src with
 | vals l =>
  refine aAp B H e1 hR I F fun Ia s' G' h2 tk dr I2 F2 S2 g2 o2 X2=>?_
  exact aD2 (tk:=tk) (dr:=dr) H e2 hR I2 F2 X2 (P.after S2.wk g2 o2)
 | live i =>
  have e1:Rbind (S.ev fi env it) f6 σ=some (.live i,σ1):=by
   clear e2 P F I hR
   cases it with
   | Call f as ks q =>
    cases ks with
    | cons _ _=>cases f <;> exact e1
    | nil =>
     cases f with
     | Name f p=>exact aID e1
     | _=>exact e1
   | _=>exact e1
  obtain ⟨v1,σ3,e3,e4⟩:=aH e1
  refine H.ev' e3 hR I F fun u s1 G1 I1 F1 x1 S1 g1 o1=>?_
  clear e3 e1; obtain ⟨a,z1,ha,z2,l,hl⟩:=aFq e4 x1; clear e4 x1; subst z1 z2
  obtain ⟨us,hlx,hus⟩:=I1.ls i a l ha hl
  exact wpAny_pyIter_list hlx.at.isList (aD1 (tk:=s1.toks) (dr:=s1.drawn) H e2 hR I1 F1 ha (P.after S1.wk g1 o1))
theorem Frm.weak {env0 env1:aB} (F:Frm G h fi env1 ME fo) (hw:∀ x v,look x env0=some v→look x env1=some v):Frm G h fi env0 ME fo :=
 ⟨F.sc,F.kind,F.gl,F.bu,F.fsub,F.loc,(let ⟨m,a,b⟩:=F.ns; ⟨m,a,fun x v hk hv=>b x v hk (hw x v hv)⟩),fun x v hk hv=>F.cel x v hk (hw x v hv),F.imm,F.tur,F.inj,F.dbg,F.cal,F.lam⟩
theorem aHf {x:Str} {v:V} (hm:fi.mutc=[]) (e:putN fi x v env=some env'):∀ y u,kindIn fi.sc y ≠ some .local→look y env=some u→look y env' = some u:=by
 intro y u hy hu
 unfold putN at e
 refine optE (o:=kindIn fi.sc x) (fun hk=>?_) fun k hk=>?_
 ·simp only [hk] at e; exact nx e
 ·cases k with
  | «local» =>
   simp only [hk] at e
   cases e
   rw [look_put,if_neg (by rintro rfl; exact hy hk)]; exact hu
  | cell=>simp only [hk,hm] at e; exact nx e
  | _=>simp only [hk] at e; exact nx e
mutual
theorem aBY (hm:fi.mutc=[]):∀ (n:Nat) {t:Expr} {v:V} {env env' : aB},bindT fi n t v env=some env'→∀ y u,kindIn fi.sc y ≠ some .local→look y env=some u→look y env' = some u
 | 0,_,_,_,_,e=>by exact nx e
 | n + 1,t,v,env,env',e=>by
  cases t with
  | Name x p=>exact aHf hm (show putN fi x v env=some env' from e)
  | Tuple ts k p =>
   have e:=(show (match bC v with | some l=>eL fi n ts l env | none=>none)=some env' from e)
   obtain ⟨l,hl,e⟩:=obL e
   exact uV hm n e
  | _=>exact nx e
theorem uV (hm:fi.mutc=[]):∀ (n:Nat) {ts:List Expr} {l:List V} {env env' : aB},eL fi n ts l env=some env'→∀ y u,kindIn fi.sc y ≠ some .local→look y env=some u→look y env' = some u
 | 0,_,_,_,_,e=>nx e
 | n + 1,ts,l,env,env',e=>by
  match ts,l,e with
  | [],[],e=>obtain rfl:=so e; exact fun _ _ _ h=>h
  | t::r,v::l,e =>
   obtain ⟨env1,h,e⟩:=kW e
   exact fun y u hy hu=>uV hm n e y u hy (aBY hm n h y u hy hu)
  | [],_::_,e=>exact nx e
  | _::_,[],e=>exact nx e
end
noncomputable def dA (ME:Env) (l:List (Str×NameKind)):List (Str×Addr):=l.filterMap fun p=>match p.2 with
 | .free=>(ME.cells.lookup p.1).map fun c=>(p.1,c)
 | _=>none
theorem rB {y:Str} {l:List (Str×NameKind)} (e:freeOk fi env ((y,.free)::l)=true):(∃ v,look y env=some v)∧(kindIn fi.sc y=some .cell∨kindIn fi.sc y=some .free)∧freeOk fi env l=true:=by
 have e:=(show (match kindIn fi.sc y,look y env with | some .cell,some _=>freeOk fi env l | some .free,some _=>freeOk fi env l | _,_=>false)=true from e)
 cases h1:kindIn fi.sc y with
 | none=>rw [h1] at e; exact ft e
 | some k =>
  cases h2:look y env with
  | none=>rw [h1,h2] at e; cases k <;> exact ft e
  | some v =>
   rw [h1,h2] at e
   cases k with
   | cell=>exact ⟨⟨v,rfl⟩,.inl rfl,e⟩
   | free=>exact ⟨⟨v,rfl⟩,.inr rfl,e⟩
   | _=>exact ft e
theorem qJ (F:Frm G h fi env ME fo):∀ (l:List (Str×NameKind)) (acc:List (Str×Addr)),freeOk fi env l=true →
 (forIn l acc fun (x:Str×NameKind) (cs:List (Str×Addr))=>if (x.2 == NameKind.free)=true then (do let c ← cellOf ME x.1; pure (ForInStep.yield ((x.1,c)::cs)):Sem _) else pure (ForInStep.yield cs))=(pure ((dA ME l).reverse++acc):Sem (List (Str×Addr)))
 | [],acc,_=>rfl
 | (x,k)::r,acc,e=>by
  rw [List.forIn_cons]
  by_cases hk:k = .free
  ·subst hk
   obtain ⟨⟨v,hv⟩,hkk,hr⟩:=rB e
   obtain ⟨c,u,h1,_⟩:=F.cel x v hkk hv
   have hc:cellOf ME x=pure c:=by unfold cellOf; rw [h1]
   rw [if_pos (by rfl),hc]
   have:=qJ F r ((x,c)::acc) hr
   simp only [pure_bind]
   rw [this]
   simp [dA,h1]
  ·have e' : freeOk fi env r=true:=by cases k <;> first | exact e | exact absurd rfl hk
   have hf:((k == NameKind.free)=true)=False:=by simp; exact hk
   rw [if_neg (by rw [hf]; exact id)]
   simp only [pure_bind]
   rw [qJ F r acc e']
   congr 2
   cases k <;> first | rfl | exact absurd rfl hk
theorem qI (F:Frm G h fi env ME fo) {sc:Scope} (e:freeOk fi env sc.names=true):closureFor sc ME=pure (dA ME sc.names).reverse:=by
 have:=qJ F sc.names [] e
 rw [List.append_nil] at this
 rw [← this]
 unfold closureFor
 simp
theorem sB {l:List (Str×NameKind)} {x:Str} {c:Addr}:(x,c) ∈ dA ME l ↔ (x,NameKind.free) ∈ l∧ME.cells.lookup x=some c:=by
 unfold dA
 simp only [List.mem_filterMap]
 constructor
 ·rintro ⟨⟨y,k⟩,hy,e⟩
  cases k <;> first | (exact nx e; done) | skip
  simp only [Option.map_eq_some_iff] at e
  obtain ⟨c',h1,h2⟩:=e
  cases h2
  exact ⟨hy,h1⟩
 ·rintro ⟨h1,h2⟩
  exact ⟨(x,.free),h1,by simp [h2]⟩
theorem dM {α:Type} {x:Str} {a:α}:∀ {l:List (Str×α)},l.lookup x=some a→(x,a) ∈ l
 | [],h=>by exact nx h
 | (y,b)::r,h=>by
  rw [List.lookup_cons] at h
  refine boolF (b:=(x == y)) (fun q=>?_) fun q=>?_
  ·rw [q] at h; exact .tail _ (dM h)
  ·rw [q] at h; cases h; rw [beq_iff_eq.mp q]; exact .head _
theorem lookup_of_mem' {α:Type} {x:Str} {a:α}:∀ {l:List (Str×α)},(∀ b,(x,b) ∈ l→b=a)→(x,a) ∈ l→l.lookup x=some a
 | [],_,h=>nomatch h
 | (y,b)::r,hu,h=>by
  rw [List.lookup_cons]
  cases q:(x == y) with
  | false =>
   rcases List.mem_cons.mp h with e | h
   ·clear hu h; cases e; simp at q
   ·exact lookup_of_mem' (fun b hb=>hu b (.tail _ hb)) h
  | true=>have:=beq_iff_eq.mp q; clear h q; subst this; rw [hu b (.head _)]
theorem fX {l:List (Str×NameKind)} {x:Str} {c:Addr}:(dA ME l).reverse.lookup x=some c ↔ (x,NameKind.free) ∈ l∧ME.cells.lookup x=some c:=by
 constructor
 ·intro h
  exact sB.mp (List.mem_reverse.mp (dM h))
 ·intro h
  refine lookup_of_mem' (fun b hb=>?_) (List.mem_reverse.mpr (sB.mpr h))
  have:=(sB.mp (List.mem_reverse.mp hb)).2
  rw [h.2] at this; clear h; cases this; rfl
theorem aJw (H:aN w g n S):∀ {ifs:List Expr} {σ:aC} {b:Bool} {s:Shared} {G:Gh} {Q:Bool→Shared→Prop},allTr S fi env .And ifs σ=some (b,σ')→aU n A→Inv w g G σ s.heap→Frm G s.heap fi env ME fo →
 aP w g G σ' s (fun _ _ c=>c=b) Q→wpAny (MW w) A (forIn ifs true fun c r=>if r=true then do let ok ← isTrue c ME (eval c ME); pure (ForInStep.yield ok) else pure (ForInStep.yield r)) Q E s:=by
 have off:∀ (ifs:List Expr) (s:Shared) (Q:Bool→Shared→Prop),Q false s→wpAny (MW w) A (forIn ifs false fun c r=>if r=true then do let ok ← isTrue c ME (eval c ME); pure (ForInStep.yield ok) else pure (ForInStep.yield r)) Q E s:=by
  intro ifs
  induction ifs with
  | nil=>intro s Q h; exact wpAny_pure h
  | cons c r ih =>
   intro s Q h
   rw [List.forIn_cons]
   exact wpAny_bind (wpAny_pure (ih s Q h))
 intro ifs
 induction ifs with
 | nil=>intro σ b s G Q e hR I F P; cases e; exact wpAny_pure (P.here I rfl)
 | cons c r ih =>
  intro σ b s G Q e hR I F P
  have e:=(show Rbind (S.tr fi env c) (fun b=>match BoolOp.And,b with
   | .And,false=>Rpure false
   | .Or,true=>Rpure true
   | _,_=>allTr S fi env .And r) σ=some (b,σ') from e)
  obtain ⟨c1,σ1,e1,e2⟩:=aH e; clear e
  rw [List.forIn_cons]
  refine wpAny_bind (wpAny_bind (H.tr' e1 hR I F fun s1 G1 I1 F1 S1 g1 o1=>wpAny_pure ?_))
  clear e1; cases c1 with
  | false=>cases e2; exact off r s1 Q (P _ s1 G1 I1 S1 rfl g1 o1)
  | true=>exact ih e2 hR I1 F1 (P.after S1 g1 o1)
theorem aHE (F:Frm G h fi env ME fo) (csc:Scope):relabel csc ME=compScope csc fi.sc:=by
 have hk:ME.scope.kind = .function:=F.sc ▸ F.kind
 unfold relabel compScope
 congr 1
 refine List.map_congr_left fun p _=>?_
 obtain ⟨x,k⟩:=p
 have hq:ME.kindOf x=kindIn fi.sc x:=F.kindOf x
 simp only [hk,hq]
 cases k <;> try rfl
 cases h1:kindIn fi.sc x with
 | none=>rfl
 | some k'=>cases k' <;> rfl
theorem rU {csc osc:Scope} {x:Str}:kindIn (compScope csc osc) x=match kindIn csc x with
 | some .free=>(match kindIn osc x with | some .cell=>some .cell | _=>some .free)
 | k=>k:=by
 unfold kindIn compScope
 show look x (csc.names.map fun p=>match p.2,look p.1 osc.names with | .free,some .cell=>(p.1,NameKind.cell) | _,_=>p)=_
 induction csc.names with
 | nil=>rfl
 | cons p l ih =>
  obtain ⟨y,k⟩:=p
  refine boolF (b:=sEq y x) (fun hy=>?_) fun hy=>?_
  ·have e1:∀ (k' : NameKind) r,look x ((y,k')::r)=look x r:=fun k' r=>by rw [eY,hy]
   rw [e1,← ih]
   cases k with
   | free =>
    show look x ((match NameKind.free,look y osc.names with | .free,some .cell=>(y,NameKind.cell) | _,_=>(y,NameKind.free))::_)=_
    cases look y osc.names with
    | none=>exact e1 _ _
    | some k'=>cases k' <;> exact e1 _ _
   | _=>exact e1 _ _
  ·have e2:∀ (k' : NameKind) r,look x ((y,k')::r)=some k':=fun k' r=>by rw [eY,hy]
   rw [e2,← aK.mp hy]
   rw [← aK.mp hy] at e2
   cases k with
   | free =>
    show look y ((match NameKind.free,look y osc.names with | .free,some .cell=>(y,NameKind.cell) | _,_=>(y,NameKind.free))::_)=_
    cases look y osc.names with
    | none=>exact e2 _ _
    | some k'=>cases k' <;> exact e2 _ _
   | _=>exact e2 _ _
theorem r7 {csc:Scope} {x:Str} {v:V}:∀ {env:aB},look x (freeIn csc env)=some v→look x env=some v∧kindIn csc x=some .free
 | [],e=>by exact nx e
 | (y,u)::r,e=>by
  have ih:=@r7 csc x v r
  have off:(match look y csc.names with | some .free=>true | _=>false)=false→look x ((y,u)::r)=some v∧kindIn csc x=some .free:=fun hb=>by
   have hz:freeIn csc ((y,u)::r)=freeIn csc r:=List.filter_cons_of_neg (fun z=>Bool.noConfusion (show false=true from hb.symm.trans z))
   rw [hz] at e
   have q:=ih e
   refine ⟨?_,q.2⟩
   unfold look
   cases hy:sEq y x with
   | false=>exact q.1
   | true =>
    have q2:look x csc.names=some .free:=q.2
    rw [aK.mp hy,q2] at hb; exact tf hb
  refine optE (o:=look y csc.names) (fun hk=>?_) fun k hk=>?_
  ·exact off (by rw [hk])
  ·cases k with
   | free =>
    have hz:freeIn csc ((y,u)::r)=(y,u)::freeIn csc r:=List.filter_cons_of_pos (show (match look y csc.names with | some .free=>true | _=>false)=true by rw [hk])
    rw [hz] at e
    unfold look at e ⊢
    cases hy:sEq y x with
    | false=>simp only [hy] at e; exact ih e
    | true=>simp only [hy] at e; rw [aK.mp hy] at hk; exact ⟨e,hk⟩
   | _=>exact off (by rw [hk])
theorem i5 {sc:Scope} (e:dH sc=true):sc.kind = .function∧sc.isGenerator=false∧sc.isCoroutine=false∧kindIn sc "__debug__" = none∧kindIn sc "__classdict__" = none:=by
 have e:=(show (match rO sc.kind,sc.isGenerator,sc.isCoroutine with | true,false,false=>(match iQ (kindIn sc "__debug__"),iQ (kindIn sc "__classdict__") with | true,true=>true | _,_=>false) | _,_,_=>false)=true from e)
 have no:∀ {o:Option NameKind},iQ o=true→o=none:=fun {o} h=>by cases o with
  | none=>rfl
  | some _=>exact ft h
 refine boolF (b:=rO sc.kind) (fun h1=>?_) fun h1=>?_
 ·rw [h1] at e; exact ft e
 cases h2:sc.isGenerator with
 | true=>rw [h1,h2] at e; exact ft e
 | false =>
 cases h3:sc.isCoroutine with
 | true=>rw [h1,h2,h3] at e; exact ft e
 | false =>
 refine boolF (b:=iQ (kindIn sc "__debug__")) (fun h4=>?_) fun h4=>?_
 ·rw [h1,h2,h3,h4] at e; exact ft e
 refine boolF (b:=iQ (kindIn sc "__classdict__")) (fun h5=>?_) fun h5=>?_
 ·rw [h1,h2,h3,h4,h5] at e; exact ft e
 ·exact ⟨by cases h:sc.kind <;> first | rfl | (rw [h] at h1; exact ft h1),rfl,rfl,no h4,no h5⟩
theorem aC8 {csc:Scope} {C:Addr} (I:Inv w g G σ h) (F:Frm G h fi env ME fo) (hsc:dH csc=true) (hfo:freeOk fi env csc.names=true) {m:Str→Option Value} (hC:C ∈ G.ex) (hCfo:C ∉ fo) (hm:h.Ns C m)
 (hCc:∀ x c,ME.cells.lookup x=some c→c ≠ C):Frm G h ⟨compScope csc fi.sc,none,[]⟩ (freeIn csc env) (compEnvC csc (dA ME csc.names).reverse C ME) [C]:=by
 obtain ⟨k1,k2,k3,k4,k5⟩:=i5 hsc
 refine ⟨aHE F csc,k1,F.gl,F.bu,fun b hb=>List.mem_singleton.mp hb ▸ hC,.head _,⟨m,hm,fun x v hk hv=>?_⟩,fun x v hk hv=>?_,fun x c hx hc=>?_,fun x hx=>?_,fun x y c h1 h2=>?_,⟨?_,?_⟩,fun x c hc=>?_,fun a ha=>nomatch ha⟩
 ·have:=(r7 hv).2
  simp only [rU,this] at hk
  split at hk <;> cases hk
 ·obtain ⟨h1,h2⟩:=r7 hv
  have hkk:kindIn fi.sc x=some .cell∨kindIn fi.sc x=some .free:=by
   have:∀ l:List (Str×NameKind),freeOk fi env l=true→look x l=some .free→kindIn fi.sc x=some .cell∨kindIn fi.sc x=some .free:=by
    intro l
    induction l with
    | nil=>intro _ q; exact nx q
    | cons p l ih =>
     obtain ⟨y,k⟩:=p
     intro e q
     rw [eY] at q
     refine boolF (b:=sEq y x) (fun hy=>?_) fun hy=>?_
     ·rw [hy] at q
      refine ih ?_ q
      cases k <;> first | exact e | exact (rB e).2.2
     ·rw [hy] at q
      cases q
      rw [aK.mp hy] at e
      exact (rB e).2.1
   exact this _ hfo h2
  obtain ⟨c,u,e1,e2,e3,e4⟩:=F.cel x v hkk h1
  refine ⟨c,u,?_,e2,e3,e4⟩
  refine fX.mpr ⟨?_,e1⟩
  have:=h2
  rw [show kindIn csc x=csc.names.lookup x from dF x _] at this
  exact dM this
 ·intro q
  exact hCc x c (fX.mp hc).2 (List.mem_singleton.mp q)
 ·exact ft hx
 ·exact F.inj x y c (fX.mp h1).2 (fX.mp h2).2
 ·show kindIn (compScope csc fi.sc) _=none
  rw [rU,k4]
 ·show kindIn (compScope csc fi.sc) _=none
  rw [rU,k5]
 ·exact F.cal x c (fX.mp hc).2
theorem mR {b D C:Nat} (h:C=D + 1) (hb:b < D):b ≠ C:=by lia
theorem pS {D C:Nat} (h:C=D + 1):D ≠ C:=by lia
theorem aBi {D C:Nat} (h:C=D + 1):D ≤ C:=by lia
theorem aBh {b D:Nat} (h:b < D) (e:b=D):False:=by lia
theorem aC6 {elt target iter:Expr} {ifs:List Expr} {scope:Scope} {pos:Pos} {it acc:Value} {env:Env} {Rz:Result→Shared→Prop} (I:Nat→Shared→Prop)
 (turn:∀ n s,I n s→wpAny (MW w) A (pyNext it) (fun r s₁=>match r with
  | none=>Rz (.ok .next) s₁
  | some v=>wpAny (MW w) A (letOwnedTupleGo target it v) (fun _ s₁'=>wpAny (MW w) A (assign target env v) (fun _ s₂ =>
   wpAny (MW w) A (forIn ifs true fun c r=>if r=true then do let ok ← isTrue c env (eval c env); pure (ForInStep.yield ok) else pure (ForInStep.yield r)) (fun ok s₃ =>
    if ok=true then wpAny (MW w) A (eval elt env) (fun x s₄ =>
     wpAny (MW w) A (call (.builtin "list.append") [acc,x]) (fun _ s₅=>∃ m,m < n∧I m s₅) (notedBy (MW w) A env fun e s'=>Rz (.error e) s') s₄) (notedBy (MW w) A env fun e s'=>Rz (.error e) s') s₃
    else ∃ m,m < n∧I m s₃) (notedBy (MW w) A env fun e s'=>Rz (.error e) s') s₂) (notedBy (MW w) A env fun e s'=>Rz (.error e) s') s₁') (notedBy (MW w) A env fun e s'=>Rz (.error e) s') s₁) (notedBy (MW w) A env fun e s'=>Rz (.error e) s') s)
 (n:Nat) (h:I n s) :
 codeAny (MW w) A (.compLoop (.ListComp elt [⟨target,iter,ifs,0⟩] scope pos) 0 it acc env) Rz s:=by
 refine codeAny_loop rfl I (fun n s hI=>?_) n h
 show wpAny _ A ((compTurn (.ListComp elt [⟨target,iter,ifs,0⟩] scope pos) 0 it acc env).onRaise (fun x=>do noteFrame x env; theTreesLotGoes x)) _ _ s
 refine wpAny_noted ?_
 rw [compTurn_list]
 refine wpAny_bind (wpAny_standAt (wpAny_bind (wpAny_mono (turn n s hI) (fun r s₁ h₁=>?_) fun _ _ h'=>h')))
 cases r with
 | none=>exact wpAny_pure h₁
 | some v =>
  refine wpAny_bind (wpAny_mono h₁ (fun _ s₁' h₁'=>?_) fun _ _ h'=>h')
  refine wpAny_bind (wpAny_mono h₁' (fun _ s₂ h₂=>wpAny_bind (wpAny_mono h₂ (fun ok s₃ h₃=>?_) fun _ _ h'=>h')) fun _ _ h'=>h')
  cases ok with
  | false=>exact wpAny_pure ⟨rfl,h₃⟩
  | true =>
   exact wpAny_bind (wpAny_bind (wpAny_mono h₃ (fun x s₄ h₄=>wpAny_bind (wpAny_mono h₄ (fun _ s₅ h₅=>wpAny_pure (wpAny_pure ⟨rfl,h₅⟩)) fun _ _ h'=>h')) fun _ _ h'=>h'))
inductive aBd (w:World) (A:Around) (G:Gh) (h:Heap) (l:List V) (t:Expr) (Ia:Addr) (X:List Addr) (h2:Heap) (fp:List Addr) (St:Nat→Heap→Prop):Prop
 | mk (frame:∀ i h h',St i h→(∀ b ∈ fp,∀ o,h.get? b=some o→h'.get? b=some o)→St i h')
  (item:∀ (i:Nat) (s:Shared) (K:Value→Shared→Prop) (E:Value→Shared→Prop),i < l.length→St i s.heap →
   (∀ v h' tk,(∀ x G',l[i]? = some x→(∀ b ∈ G'.own,∃ o,s.heap.get? b=some o)→Car (G.hid X) h2 G' h'→VR G' h' x v)→St (i + 1) h'→(∀ b o,b ∉ X→s.heap.get? b=some o→h'.get? b=some o)→(∀ b ∈ X,∃ o,h'.get? b=some o)→K v { s with heap:=h',toks:=tk }) →
   wpAny (MW w) A (pyNext (.ref Ia)) (fun r s1=>match r with | none=>False | some v=>wpAny (MW w) A (letOwnedTupleGo t (.ref Ia) v) (fun _ s2=>K v s2) E s1) E s)
  (done:∀ (s:Shared) (Q:Option Value→Shared→Prop) (E:Value→Shared→Prop),St l.length s.heap→(∀ h' tk,(∀ b o,b ∉ X→s.heap.get? b=some o→h'.get? b=some o)→Q none { s with heap:=h',toks:=tk })→wpAny (MW w) A (pyNext (.ref Ia)) Q E s)
  (self:∀ (i:Nat) (s:Shared) (Q:Value→Shared→Prop) (E:Value→Shared→Prop),St i s.heap→Q (.ref Ia) s→wpAny (MW w) A (pyIter (.ref Ia)) Q E s)
inductive aBe (w:World) (A:Around) (G:Gh) (h:Heap) (l:List V) (t:Expr) (Ia:Addr) (X:List Addr) (h2:Heap):Prop
 | mk (fp:List Addr) (St:Nat→Heap→Prop) (hst:St 0 h2) (hfp:∀ b ∈ fp,b ∈ X∨(b ∉ G.own∧∃ o,h.get? b=some o)) (x:aBd w A G h l t Ia X h2 fp St)
structure mQ (w:World) (A:Around) (G:Gh) (h:Heap) (l:List V) (t:Expr) (Ia:Addr) (X:List Addr) (h2:Heap):Prop where
 k:∀ b o,h.get? b=some o→h2.get? b=some o
 nd:X.Nodup
 fr:∀ b ∈ X,h.get? b=none
 al:∀ b ∈ X,∃ o,h2.get? b=some o
 w:aBe w A G h l t Ia X h2
theorem gZ.toC {l:List V} {t:Expr} {Ia:Addr} {h2:Heap} (X:gZ w A G h l Ia h2):mQ w A G h l t Ia [Ia] h2:=by
 obtain ⟨fp,Pv,St,W,hst,hfp,hval,hown⟩:=X.w
 refine ⟨X.k,by simp,fun b hb=>List.mem_singleton.mp hb ▸ X.fr,fun b hb=>List.mem_singleton.mp hb ▸ X.al,fp,St,hst,fun b hb=>(hfp b hb).imp (fun q=>List.mem_singleton.mpr q) id,W.frame,fun i s K E hlt hsi hK=>?_,W.done,W.self⟩
 refine W.item i s _ _ hlt hsi fun v h3 tk3 pv st3 k3=>?_
 have ho:=hown _ _ st3
 exact yE ho (hK v h3 tk3 (fun x G' hx _ C=>hval i v x pv hx G' h3 C) st3 k3 fun b hb=>List.mem_singleton.mp hb ▸ ho.al)
noncomputable def tZ (w:World) (g:Heap) (G:Gh) (σ' : aC) (s:Shared) (X:List Addr) (xs:List V) (Rz:Value→Addr→Result→Shared→Prop):Prop :=
 ∀ (s' : Shared) D C G3 h1 us h4 tk4,(∀ b o,s.heap.get? b=some o→h1.get? b=some o)→(∀ b ∈ X++[D,C],s.heap.get? b=none)→(X++[D,C]:List Addr).Nodup→(∀ b ∈ X++[D,C],∃ o,h1.get? b=some o)→Car G s.heap (G.hid (X++[D,C])) h1 →
  Inv w g G3 σ' s'.heap→Stp (X++[D,C]) (G.hid (X++[D,C])) h1 G3 s'.heap→c9 s'.heap D us→VRs G3 s'.heap xs us→(∃ m,s'.heap.Ns C m)→s'.gens=s.gens→s'.os=s.os→(∀ c o,c ∉ X→s'.heap.get? c=some o→h4.get? c=some o)→Rz (.ref D) C (.ok .next) { s' with heap:=h4,toks:=tk4 }
theorem yR:∀ {l:List (Str×NameKind)},eC l=true→∀ y ∈ l,y.2 ≠ .cell
 | (x,k)::l,e,y,hy=>by
  cases k <;> first | (exact ft e; done) | skip
  all_goals exact (List.mem_cons.mp hy).elim (fun q=>q ▸ nofun) (yR (l:=l) e y)
structure fJ (w:World) (g:Heap) (G:Gh) (σ:aC) (h:Heap) (fi:FI) (env:aB) (ME:Env) (csc:Scope) (X:List Addr) (D C:Addr) (h1 h2:Heap):Prop where
 k2:∀ b o,h2.get? b=some o→h1.get? b=some o
 k1:∀ b o,h.get? b=some o→h1.get? b=some o
 xd:∀ b ∈ X,b < D
 cd:C=D + 1
 fr:∀ b ∈ X++[D,C],h.get? b=none
 nd:(X++[D,C]:List Addr).Nodup
 aD:h1.get? D=some { cls:=.type "list",data:=.seq ([]:List Value).toArray }
 al:∀ b ∈ X++[D,C],∃ o,h1.get? b=some o
 I1:Inv w g (G.hid (X++[D,C])) σ h1
 C1:Car G h (G.hid (X++[D,C])) h1
 Fc:Frm (G.hid (X++[D,C])) h1 ⟨compScope csc fi.sc,none,[]⟩ (freeIn csc env) (compEnvC csc (dA ME csc.names).reverse C ME) [C]
 nce:∀ x c,ME.cells.lookup x=some c→c ∉ X++[D,C]
 val:∀ {G' h'},Car (G.hid (X++[D,C])) h1 G' h'→Car (G.hid X) h2 G' h'
theorem yK {X:List Addr} {D C:Addr} {p:Addr→Prop} (hx:∀ b ∈ X,p b) (hD:p D) (hC:p C):∀ b ∈ X++[D,C],p b:=fun b hb =>
 (List.mem_append.mp hb).elim (hx b) fun hb=>(List.mem_cons.mp hb).elim (fun e=>e ▸ hD) fun hb=>List.mem_singleton.mp hb ▸ hC
theorem aC9 {csc:Scope} {l:List V} {t:Expr} {Ia:Addr} {X:List Addr} {D C:Addr} {h1 h2:Heap} {m:Str→Option Value} (hsc:dH csc=true) (hfr:freeOk fi env csc.names=true) (I:Inv w g G σ h) (F:Frm G h fi env ME fo) (Y:mQ w A G h l t Ia X h2) (hD:D=h2.objs.size) (hCD:C=D + 1) (hns:h1.Ns C m)
 (hsb:Heap.SameBut C ((h2.push { cls:=.type "list",data:=.seq ([]:List Value).toArray }).push { cls:=.type "dict",data:=.dict #[] }) h1):fJ w g G σ h fi env ME csc X D C h1 h2:=by
 have lt2:∀ {b o},h2.get? b=some o→b < D:=fun q=>hD ▸ Heap.lt_size q
 have kp:∀ b o,h2.get? b=some o→h1.get? b=some o:=fun b o q=>(hsb.2 b (mR hCD (lt2 q))).trans (bG _ _ _ _ (bG _ _ _ _ q))
 have k1:∀ b o,h.get? b=some o→h1.get? b=some o:=fun b o q=>kp b o (Y.k b o q)
 have hXD:∀ b ∈ X,b < D:=fun b hb=>let ⟨_,e⟩:=Y.al b hb; lt2 e
 have fD:∀ b,D ≤ b→h.get? b=none:=fun b hb=>by
  cases q:h.get? b with
  | none=>rfl
  | some o=>exact absurd (lt2 (Y.k b o q)) (Nat.not_lt.mpr hb)
 have hfresh:∀ b ∈ X++[D,C],h.get? b=none:=yK Y.fr (fD _ (Nat.le_refl _)) (fD _ (aBi hCD))
 have hnodup:(X++[D,C]:List Addr).Nodup:=List.nodup_append.mpr ⟨Y.nd,by simp; exact pS hCD,fun b hb c hc=>by
  rcases List.mem_cons.mp hc with e | hc
  ·exact e ▸ Nat.ne_of_lt (hXD b hb)
  ·exact List.mem_singleton.mp hc ▸ mR hCD (hXD b hb)⟩
 have aD:h1.get? D=some { cls:=.type "list",data:=.seq ([]:List Value).toArray }:=(hsb.2 D (pS hCD)).trans (bG _ _ _ _ (hD ▸ Heap.get?_push_size _ rfl))
 have halive:∀ b ∈ X++[D,C],∃ o,h1.get? b=some o:=yK (fun b hb=>let ⟨o,e⟩:=Y.al b hb; ⟨o,kp _ _ e⟩) ⟨_,aD⟩ (let ⟨o,_,_,q,_⟩:=hns; ⟨o,q⟩)
 obtain ⟨I1,C1⟩:=I.hide (xs:=X++[D,C]) k1 hnodup hfresh halive
 have nfo:∀ b ∈ X++[D,C],b ∉ fo:=fun b hb q=>by
  obtain ⟨o,z⟩:=I.alive b (F.fsub b q)
  rw [hfresh b hb] at z; exact nx z
 have nce:∀ x c,ME.cells.lookup x=some c→c ∉ X++[D,C]:=fun x c z q=>by
  obtain ⟨o,z'⟩:=F.cal x c z
  rw [hfresh c q] at z'; exact nx z'
 refine ⟨kp,k1,hXD,hCD,hfresh,hnodup,aD,halive,I1,C1,aC8 (csc:=csc) (C:=C) I1 (F.hide k1 hfresh C1) hsc hfr (m:=m) (by simp [Gh.hid]) (nfo C (by simp)) hns (fun x c z q=>nce x c z (by simp [q])),nce,fun {G' h'} C'=>⟨C'.pw,fun {b o} q hb=>C'.stays (kp b o q) (fun z=>?_),C'.pg,C'.pl⟩⟩
 rcases fU.mp z with z | z
 ·exact hb (fU.mpr (.inl z))
 ·rcases List.mem_append.mp z with z | z
  ·exact hb (fU.mpr (.inr z))
  ·rcases List.mem_cons.mp z with z | z
   ·exact aBh (lt2 q) z
   ·exact mR hCD (lt2 q) (List.mem_singleton.mp z)
noncomputable abbrev compFI (csc:Scope) (fi:FI):FI:=⟨compScope csc fi.sc,none,[]⟩
noncomputable abbrev iK (csc:Scope) (ME:Env) (C:Addr):Env:=compEnvC csc (dA ME csc.names).reverse C ME
inductive aA0 (w:World) (g:Heap) (G:Gh) (s:Shared) (fi:FI) (ME:Env) (csc:Scope) (X:List Addr) (D C:Addr) (h1:Heap) (xs:List V) (run:aB→aC→List V→Prop) (i:Nat) (St:Nat→Heap→Prop) (s' : Shared):Prop
 | mk (σi:aC) (Gi:Gh) (us:List Value) (don rest:List V) (envi:aB) (ei:run envi σi rest) (hxs:xs=don++rest) (hdl:don.length ≤ i)
  (Ii:Inv w g Gi σi s'.heap) (Si:Stp (X++[D,C]) (G.hid (X++[D,C])) h1 Gi s'.heap) (Fi:Frm Gi s'.heap (compFI csc fi) envi (iK csc ME C) [C]) (Li:c9 s'.heap D us) (Vi:VRs Gi s'.heap don us) (hst:St i s'.heap) (gi:s'.gens=s.gens) (oi:s'.os=s.os)
section
variable {csc:Scope} {X:List Addr} {D C:Addr} {h1 h2:Heap} {Gi:Gh} {s' : Shared}
theorem fJ.hXX (_:fJ w g G σ h fi env ME csc X D C h1 h2):∀ b ∈ X,b ∈ X++[D,C]:=fun _ hb=>List.mem_append_left _ hb
theorem vG:C ∈ X++[D,C]:=List.mem_append_right _ (.tail _ (.head _))
theorem jO:D ∈ X++[D,C]:=List.mem_append_right _ (.head _)
variable (Z:fJ w g G σ h fi env ME csc X D C h1 h2)
include Z
theorem fJ.dne:D ∉ [C]:=fun z=>pS Z.cd (List.mem_singleton.mp z)
theorem fJ.cne:∀ b ∈ X,b ∉ [C]:=fun b hb z=>mR Z.cd (Z.xd b hb) (List.mem_singleton.mp z)
theorem fJ.xne:D ∉ X:=fun z=>Nat.lt_irrefl _ (Z.xd D z)
theorem fJ.ic:∀ x c,(iK csc ME C).cells.lookup x=some c→c ∉ X++[D,C]:=fun x c z=>Z.nce x c (fX.mp z).2
theorem fJ.ex (Si:Stp (X++[D,C]) (G.hid (X++[D,C])) h1 Gi s'.heap):∀ b ∈ X++[D,C],b ∈ Gi.ex:=fun b hb=>by rw [Si.ex]; exact List.mem_append_left _ hb
noncomputable abbrev pO (w:World) (g:Heap) (S:Sys) (G:Gh) (σ' : aC) (s:Shared) (fi:FI) (ME:Env) (csc:Scope) (X:List Addr) (D C:Addr) (h1:Heap) (t elt:Expr) (ifs:List Expr) (l xs:List V) (St:Nat→Heap→Prop) (k:Nat) (s' : Shared):Prop :=
 ∃ i,i ≤ l.length∧k=l.length + 1 - i∧aA0 w g G s fi ME csc X D C h1 xs (fun envi σi rest=>compVals S (compFI csc fi) t ifs elt (l.drop i) envi σi=some (rest,σ')) i St s'
theorem aDa (H:aN w g n S) (hR:aU n A) {elt t:Expr} {ifs:List Expr} {l r xs don rest:List V} {us:List Value} {fp:List Addr} {St:Nat→Heap→Prop} {i:Nat} {b' : Bool} {env1:aB} {σ1 σ2:aC} {h3:Heap} {G5:Gh} {s5:Shared} (hfp:∀ b ∈ fp,b ∈ X∨(b ∉ G.own∧∃ o,h.get? b=some o))
 (fr:∀ i h h',St i h→(∀ b ∈ fp,∀ o,h.get? b=some o→h'.get? b=some o)→St i h') (hlt:i < l.length) (hsm:small l.length=true) (hr:l.drop (i + 1)=r)
 (e5:(match b' with
  | true=>Rbind (S.ev (compFI csc fi) env1 elt) fun y=>Rbind (compVals S (compFI csc fi) t ifs elt r env1) fun ys=>Rpure (y::ys)
  | false=>compVals S (compFI csc fi) t ifs elt r env1) σ2=some (rest,σ')) (hxs:xs=don++rest) (hdl:don.length ≤ i)
 (I3:Inv w g Gi σ1 h3) (S03:Stp (X++[D,C]) (G.hid (X++[D,C])) h1 Gi h3) (L3:c9 h3 D us) (V3:VRs Gi h3 don us) (st3:St (i + 1) h3) (S35:Stp [C] Gi h3 G5 s5.heap) (I5:Inv w g G5 σ2 s5.heap) (F5:Frm G5 s5.heap (compFI csc fi) env1 (iK csc ME C) [C])
 (g5:s5.gens=s.gens) (o5:s5.os=s.os) :
 if b' = true then wpAny (MW w) A (eval elt (iK csc ME C)) (fun x s₄=>wpAny (MW w) A (call (.builtin "list.append") [.ref D,x]) (fun _ s₅=>∃ m,m < l.length + 1 - i∧pO w g S G σ' s fi ME csc X D C h1 t elt ifs l xs St m s₅) E s₄) E s5
 else ∃ m,m < l.length + 1 - i∧pO w g S G σ' s fi ME csc X D C h1 t elt ifs l xs St m s5:=by
 have hex:∀ b ∈ X++[D,C],b ∈ Gi.ex:=fun b hb=>by rw [S03.ex]; exact List.mem_append_left _ hb
 have hc1:∀ b ∈ [C],b ∈ X++[D,C]:=fun b hb=>List.mem_singleton.mp hb ▸ vG
 have kI:∀ {G' : Gh} {h' : Heap},Stp [C] Gi h3 G' h'→∀ b ∈ fp,∀ o,h3.get? b=some o→h'.get? b=some o:=fun {G' h'} S' b hb o q=>by
  rcases hfp b hb with hbX | ⟨z1,o1,z2⟩
  ·exact S'.keep b o q (I3.ex_mu (hex b (Z.hXX b hbX))) (Z.cne b hbX)
  ·refine S'.keep b o q (fun hm=>?_) (fun hm=>?_)
   ·rcases S03.new b hm with y | y
    ·exact z1 (List.mem_append_left _ y)
    ·rw [Z.k1 b o1 z2] at y; exact sn y
   ·rw [List.mem_singleton.mp hm,Z.fr C vG] at z2; exact nx z2
 have L5:c9 s5.heap D us:=let ⟨n',q⟩:=L3; ⟨n',S35.keep D _ q (I3.ex_mu (hex D jO)) Z.dne⟩
 have V5:=V3.step (S35.car fun b hb=>hex b (hc1 b hb))
 have S05:=S03.trans (S35.weak hc1)
 cases b' with
 | false=>exact (if_neg (by decide)).mpr ⟨_,tU hlt,i + 1,hlt,rfl,σ2,G5,us,don,rest,env1,hr.symm ▸ e5,hxs,Nat.le_succ_of_le hdl,I5,S05,F5,L5,V5,fr _ _ _ st3 (kI S35),g5,o5⟩
 | true =>
  rw [if_pos rfl]
  obtain ⟨y,σ3,e6,e7⟩:=aH (m:=S.ev (compFI csc fi) env1 elt) e5; clear e5
  obtain ⟨ys,σ4,e8,e9⟩:=aH e7; clear e7
  refine H.ev' e6 hR I5 F5 fun u s6 G6 I6 F6 x6 S6 g6 o6=>?_
  have S36:Stp [C] Gi h3 G6 s6.heap:=S35.trans S6.wk
  obtain ⟨n6,q6⟩:c9 s6.heap D us:=let ⟨n',q⟩:=L5; ⟨n',S6.keep D _ q (I5.ex_mu (by rw [S05.ex]; exact List.mem_append_left _ jO)) nofun⟩
  have hul:us.length ≤ 1000000:=Nat.le_trans (Nat.le_of_eq V5.len) (Nat.le_trans hdl (Nat.le_trans (Nat.le_of_lt hlt) (cR hsm)))
  refine wpAny_list_append_plain ⟨n6,q6⟩ (fun h7 hp sb=>?_) (by have:=iB; simp; lia)
  clear e6 I5 F5 L3 V3 L5
  have hexD6:D ∈ G6.ex:=by rw [S6.ex,S05.ex]; exact List.mem_append_left _ jO
  have al7:∃ o,h7.get? D=some o:=let ⟨n',q⟩:=hp; ⟨_,q⟩
  have k7:∀ c o,c ∉ [D]→s6.heap.get? c=some o→h7.get? c=some o:=fun c o hc q=>(sb.2 c fun e=>hc (List.mem_singleton.mpr e)).trans q
  have S7:Stp [D] G6 s6.heap G6 h7:=Stp.butX k7 al7
  have hd1:∀ b ∈ [D],b ∈ G6.ex:=fun b hb=>List.mem_singleton.mp hb ▸ hexD6
  refine ⟨_,tU hlt,i + 1,hlt,rfl,σ3,G6,us++[u],don++[y],ys,env1,hr.symm ▸ ((sp2 e9).symm ▸ e8),by rw [hxs,sp1 e9]; simp,by simp; lia,I6.butX hexD6 k7 al7,(S05.trans S6.wk).trans (S7.weak fun b hb=>List.mem_singleton.mp hb ▸ jO),
   F6.stepX I6 S7 hd1 (fun b hb=>List.mem_singleton.mp hb ▸ Z.dne) (fun x c z q=>Z.ic x c z (List.mem_singleton.mp q ▸ jO)),
   let ⟨n',q⟩:=hp; ⟨n',by simpa using q⟩,((V5.step S6.car0).append (by exact ⟨u,[],rfl,x6,rfl⟩)).step (S7.car hd1),fr _ _ _ st3 fun b hb o q=>k7 b o (fun z=>?_) (kI S36 b hb o q),g6.trans g5,o6.trans o5⟩
  have z:=List.mem_singleton.mp z
  rcases hfp b hb with y | ⟨_,o1,y⟩
  ·exact Nat.ne_of_lt (Z.xd b y) z
  ·rw [z,Z.fr D jO] at y; exact nx y
end
theorem vU (H:aN w g n S) {elt t it:Expr} {ifs:List Expr} {csc:Scope} {pos:Pos} {l xs:List V} {Ia:Addr} {X:List Addr} {h2:Heap} {tk:Nat} {dr:Drawn} {Rz:Value→Addr→Result→Shared→Prop}
 (e:compVals S ⟨compScope csc fi.sc,none,[]⟩ t ifs elt l (freeIn csc env) σ=some (xs,σ')) (hsm:small l.length=true) (hsc:dH csc=true) (hnc:eC csc.names=true) (hfr:freeOk fi env csc.names=true)
 (hR:aU n A) (I:Inv w g G σ s.heap) (F:Frm G s.heap fi env ME fo) (Y:mQ w A G s.heap l t Ia X h2) (K:tZ w g G σ' s X xs Rz) :
 wpAny (MW w) A (newList []) (fun acc s₃=>wpAny (MW w) A (newFunctionEnv csc ME.globals (dA ME csc.names).reverse [] ME.qual none .none (some ME)) (fun cenv s₄ =>
  codeAny (MW w) A (.compStart (.ListComp elt [⟨t,it,ifs,0⟩] csc pos) 0 (.ref Ia) acc { cenv with scope:=relabel csc ME }) (Rz acc cenv.locals) s₄) E s₃) E { s with heap:=h2,toks:=tk,drawn:=dr }:=by
 refine wpAny_newObj_type (wpAny_newFunctionEnv (yR hnc) (by intro y hy; simp at hy) (fun h1 hns hsb=>?_) (i5 hsc).1)
 have core:∀ (D C:Addr) (h1:Heap) (st:Shared),fJ w g G σ s.heap fi env ME csc X D C h1 h2→st.heap=h1→st.gens=s.gens→st.os=s.os →
  codeAny (MW w) A (.compStart (.ListComp elt [⟨t,it,ifs,0⟩] csc pos) 0 (.ref Ia) (.ref D) (iK csc ME C)) (Rz (.ref D) C) st:=by
  clear hns hsb h1 hsc hfr I F hnc
  intro D C h1 st Z hh hg ho
  obtain ⟨fp,St,hst,hfp,Wframe,Witem,Wdone,Wself⟩:=Y.w
  have st1:St 0 st.heap:=Wframe 0 h2 _ hst fun b _ o q=>hh ▸ Z.k2 b o q
  have loop:codeAny (MW w) A (.compLoop (.ListComp elt [⟨t,it,ifs,0⟩] csc pos) 0 (.ref Ia) (.ref D) (iK csc ME C)) (Rz (.ref D) C) st:=by
   refine aC6 (pO w g S G σ' s fi ME csc X D C h1 t elt ifs l xs St) ?_ (l.length + 1)
    ⟨0,Nat.zero_le _,rfl,σ,_,[],[],xs,_,e,rfl,Nat.le_refl _,hh ▸ Z.I1,hh ▸ .refl,hh ▸ Z.Fc,hh ▸ ⟨_,Z.aD⟩,by exact rfl,st1,hg,ho⟩
   clear e st1 hh hg ho hst
   rintro k s' ⟨i,hi,rfl,σi,Gi,us,don,rest,envi,ei,hxs,hdl,Ii,Si,Fi,Li,Vi,hsti,gi,oi⟩
   cases hd:l.drop i with
   | nil =>
    rw [hd] at ei
    have hil:=v7 hi hd
    rw [hil] at hsti
    refine Wdone _ _ _ hsti fun h3 tk3 k3=>?_
    obtain ⟨m,hm,_⟩:=Fi.ns
    rw [sp1 (a:=([]:List V)) ei,List.append_nil] at hxs
    exact K s' D C Gi h1 us h3 tk3 Z.k1 Z.fr Z.nd Z.al Z.C1 ((sp2 (a:=([]:List V)) ei).symm ▸ Ii) Si Li (hxs ▸ Vi) ⟨m,hm⟩ gi oi k3
   | cons x r =>
    obtain ⟨hlt,hx,hr⟩:=v6 hd
    rw [hd] at ei
    clear hd hi
    have ei:=(show Rbind (oneOf (bindT (compFI csc fi) 9 t x envi)) (fun env'=>Rbind (allTr S (compFI csc fi) env' .And ifs) fun b=>match b with
     | true=>Rbind (S.ev (compFI csc fi) env' elt) fun y=>Rbind (compVals S (compFI csc fi) t ifs elt r env') fun ys=>Rpure (y::ys)
     | false=>compVals S (compFI csc fi) t ifs elt r env') σi=some (rest,σ') from ei)
    obtain ⟨env1,σ1,e1,e2⟩:=aH ei; clear ei
    obtain ⟨e3,z1⟩:=bB e1; clear e1; subst z1
    obtain ⟨b,σ2,e4,e5⟩:=aH e2; clear e2
    refine wpAny_mono (Witem i s' (fun v s₁'=>wpAny (MW w) A (assign t (iK csc ME C) v) _ _ s₁') _ hlt hsti fun v h3 tk3 hv3 st3 k3 al3=>?_) (fun r s₁ h₁=>by
     cases r with
     | none=>exact h₁.elim
     | some v=>exact h₁) fun _ _ h'=>h'
    clear hsti Witem Wdone Wself
    have hex:=Z.ex Si
    have S3:Stp X Gi s'.heap Gi h3:=Stp.butXs k3 al3
    have S03:=Si.trans (S3.weak Z.hXX)
    have I3:Inv w g Gi σ1 h3:=Ii.butXs (fun b hb=>hex b (Z.hXX b hb)) (fun c o hc q=>k3 c o hc q) al3
    refine (mY 9 e3 hR.2.2 I3 (Fi.stepX Ii S3 (fun b hb=>hex b (Z.hXX b hb)) Z.cne (fun x c z q=>Z.ic x c z (Z.hXX c q))) (hv3 x Gi hx (fun b hb=>Ii.there hb) (Z.val (S03.car fun b hb=>List.mem_append_left _ hb)))
     fun s4 I4 S4 F4 g4 o4=>aJw H e4 hR I4 F4 fun b' s5 G5 I5 S5 hb5 g5 o5=>?_)
    rw [hb5]
    exact aDa Z H hR hfp Wframe hlt hsm hr e5 hxs hdl I3 S03 (let ⟨n',q⟩:=Li; ⟨n',k3 D _ Z.xne q⟩) (Vi.step (S3.car fun b hb=>hex b (Z.hXX b hb))) st3 (S4.trans S5.wk) I5 (F4.step I4 S5) (g5.trans (g4.trans gi)) (o5.trans (o4.trans oi))
  exact codeAny_compStart_list loop (Wself 0 _ _ _ st1 loop)
 obtain ⟨m0,hns⟩:∃ m,h1.Ns _ m:=⟨_,hns⟩
 exact core _ _ h1 _ (aC9 hsc hfr I F Y rfl (Heap.size_push ..) hns hsb) rfl rfl rfl
theorem oH:∀ {l:List (Str×NameKind)},noDup (l.map (·.1))=true→∀ x ∈ l,l.lookup x.1=some x.2
 | [],_,x,hx=>nomatch hx
 | (y,k)::r,e,x,hx=>by
  have e:=(show (match (r.map (·.1)).any (fun z=>sEq z y) with | true=>false | false=>noDup (r.map (·.1)))=true from e)
  refine boolF (b:=(r.map (·.1)).any (fun z=>sEq z y)) (fun ha=>?_) fun ha=>?_
  ·rw [ha] at e
   rw [List.lookup_cons]
   rcases List.mem_cons.mp hx with rfl | hx
   ·simp
   ·have:(x.1 == y)=false:=by
     rw [List.any_eq_false] at ha
     have:=ha x.1 (List.mem_map_of_mem hx)
     rw [beq_eq_false_iff_ne]
     intro q
     exact this (aK.mpr q)
    rw [this]
    exact oH e x hx
  ·rw [ha] at e; exact ft e
theorem rX {xs:List Addr} {G₀:Gh} {b:Addr} (I:Inv w g G σ h) (he:G.ex=xs++G₀.ex) (hb:b ∈ xs):b ∉ (G.back G₀).own:=by
 intro z
 rcases List.mem_append.mp z with z | z
 ·exact I.ex_mu (by rw [he]; exact List.mem_append_left _ hb) z
 ·have nd2:(xs++G₀.ex).Nodup:=by rw [← he]; exact (List.nodup_append.mp I.nodup).2.1
  exact (List.nodup_append.mp nd2).2.2 b hb b z rfl
theorem yW:∀ {l:List V} {k i:Nat} {x:V},(numbered k l)[i]? = some x→∃ v,l[i]? = some v∧x=mkTup [.pv (.int (.ofNat (k + i))),v]
 | [],k,i,x,e=>by exact nx e
 | v::r,k,0,x,e=>by cases e; exact ⟨v,rfl,rfl⟩
 | v::r,k,i + 1,x,e=>by
  obtain ⟨v',h1,h2⟩:=yW (l:=r) (k:=k + 1) (i:=i) (x:=x) e
  refine ⟨v',h1,?_⟩
  rw [h2,Nat.add_right_comm,Nat.add_assoc]
theorem yX:∀ {l:List V} {k:Nat},(numbered k l).length=l.length
 | [],_=>rfl
 | _::r,k=>congrArg Nat.succ (yX (l:=r))
theorem aIB {l:List V} {a:Addr} {us:List Value} {elts:List Expr} {kk:Nat} {pos:Pos} (hA:A.handled=none) (ha:a ∉ G.own) (ht:cL h a us) (hs:VRs G h l us)
 (he:IsEnum h' (h.objs.size + 1) h.objs.size 0 .none) (hit:h'.IsListIter h.objs.size a 0) (hk:∀ b o,h.get? b=some o→h'.get? b=some o) :
 mQ w A G h (numbered 0 l) (.Tuple elts kk pos) (h.objs.size + 1) [h.objs.size + 1,h.objs.size] h':=by
 have hal:∃ o,h.get? a=some o:=let ⟨o,e,_⟩:=ht; ⟨o,e⟩
 have hlt:a < h.objs.size:=let ⟨o,e⟩:=hal; Heap.lt_size e
 have D:=Draws.list (prog:=lw.row.prog) (w:=w) (A:=A.in1) hA h.objs.size a (Nat.ne_of_lt hlt) us.toArray
 have hz:us.toArray.size=(numbered 0 l).length:=by simp [hs.len,yX]
 have ht' : h'.IsList a us.toArray:=cL.isList (by obtain ⟨o,e,r⟩:=ht; exact ⟨o,hk _ _ e,r⟩)
 have hfr:∀ b ∈ [h.objs.size + 1,h.objs.size],h.get? b=none:=fun b hb=>by
  rcases List.mem_cons.mp hb with rfl | hb
  ·exact dY (Nat.le_succ _)
  ·rw [List.mem_singleton.mp hb]; exact dY (Nat.le_refl _)
 have hei:h.objs.size + 1 ≠ h.objs.size:=Nat.succ_ne_self _
 have hef:h.objs.size + 1 ∉ [h.objs.size,a]:=by
  simp only [List.mem_cons,List.not_mem_nil,or_false,not_or]
  exact ⟨Nat.succ_ne_self _,Nat.ne_of_gt (Nat.lt_succ_of_lt hlt)⟩
 have hX:∀ {b:Addr},b ∉ [h.objs.size + 1,h.objs.size]→b ≠ h.objs.size + 1∧b ≠ h.objs.size:=fun {b} hb=>by simpa using hb
 have C0:Car G h (G.hid [h.objs.size + 1,h.objs.size]) h':=⟨rfl,fun {b o} e hb=>⟨hk _ _ e,fun q=>by
  rcases fU.mp q with q | q
  ·exact hb q
  ·rw [hfr b q] at e; exact nx e⟩,fun _ _ e=>e,fun _ _ e=>e⟩
 refine ⟨hk,by simp,hfr,fun b hb=>?_,[h.objs.size + 1,h.objs.size,a],fun i hh=>(∃ old,IsEnum hh (h.objs.size + 1) h.objs.size i old)∧hh.IsListIter h.objs.size a i∧hh.IsList a us.toArray,⟨⟨_,he⟩,hit,ht'⟩,fun b hb=>?_,fun i h1 h2 st hk2=>?_,fun i s K E hlt2 st hK=>?_,fun s Q E st hQ=>?_,fun i s Q E st hQ=>?_⟩
 ·rcases List.mem_cons.mp hb with rfl | hb
  ·exact ⟨_,he⟩
  ·rw [List.mem_singleton.mp hb]; obtain ⟨o,e,_⟩:=hit; exact ⟨o,e⟩
 ·rcases List.mem_cons.mp hb with rfl | hb
  ·exact .inl (by exact (.head _))
  ·rcases List.mem_cons.mp hb with rfl | hb
   ·exact .inl (by exact (.tail _ (.head _)))
   ·rw [List.mem_singleton.mp hb]; exact .inr ⟨ha,hal⟩
 ·obtain ⟨⟨old,q1⟩,q2,q3⟩:=st
  have q4:=D.frame i h1 h2 ⟨q2,q3⟩ fun b hb o x=>hk2 b (List.mem_cons_of_mem _ hb) o x
  exact ⟨⟨old,hk2 _ (by exact (.head _)) _ q1⟩,q4.1,q4.2⟩
 ·obtain ⟨⟨old,q1⟩,q2,q3⟩:=st
  refine wpAny_pyNext_enum_itemD D q1 ⟨q2,q3⟩ (by rw [hz]; exact hlt2) hei hef fun x h5 tk hP ho hs' hT hsz hk5=>?_
  refine wpAny_letOwnedTupleGo_enum ho fun h6 he6 hs6=>hK (.ref s.heap.objs.size) h6 (tk + 1) (fun x0 G' hx0 hal' C=>?_) ⟨⟨_,by exact (he6)⟩,?_⟩ (fun b o hb y=>?_) (fun b hb=>?_)
  ·obtain ⟨v0,hv0,z1⟩:=yW hx0; clear hx0; subst z1
   obtain ⟨u,hu,xu⟩:=hs.get hv0
   have hxu:x=u:=by simp at hP; rw [hu] at hP; clear hu xu; cases hP; rfl
   clear hu; subst hxu
   have hTe:s.heap.objs.size ≠ h.objs.size + 1:=Nat.ne_of_gt (Heap.lt_size q1)
   have hT6:h6.get? s.heap.objs.size=some { cls:=.type "tuple",data:=.seq #[.int i tk,x] }:=(hs6.2 _ hTe).trans hT
   refine lO (us:=[.int i tk,x]) (fun z=>?_) ⟨0,hT6⟩ ?_
   ·obtain ⟨o,eo⟩:=hal' _ z
    exact Nat.lt_irrefl _ (Heap.lt_size eo)
   ·exact ⟨_,_,rfl,⟨tk,by simp⟩,_,_,rfl,(xu.step C0).step C,rfl⟩
  ·have q4:=D.frame _ h5 h6 hs' fun b hb o y=>(hs6.2 b fun q=>hef (q ▸ hb)).trans y
   exact ⟨q4.1,q4.2⟩
  ·obtain ⟨b1,b2⟩:=hX hb
   exact (hs6.2 b b1).trans (hk5 b o b1 b2 y)
  ·rcases List.mem_cons.mp hb with rfl | hb
   ·exact ⟨_,he6⟩
   ·rw [List.mem_singleton.mp hb]
    obtain ⟨o,e,_⟩:=hs'.1
    exact ⟨o,(hs6.2 _ (Ne.symm hei)).trans e⟩
 ·obtain ⟨⟨old,q1⟩,q2,q3⟩:=st
  refine wpAny_pyNext_enum_endD D q1 (by rw [hz]; exact ⟨q2,q3⟩) fun h5 hx=>hQ h5 s.toks fun b o hb y=>hx b o (hX hb).2 y
 ·obtain ⟨⟨old,q1⟩,q2,q3⟩:=st
  exact wpAny_pyIter_enum q1 hQ
inductive aA4 (S:Sys) (fi:FI) (env:aB) (t it:Expr) (r:R (List V)):Prop
 | mk (elts:List Expr) (kk:Nat) (tp:Pos) (f:Str) (p:Pos) (a:Expr) (q:Pos) (h1:t = .Tuple elts kk tp) (h2:it = .Call (.Name f p) [a] [] q) (hn:srcName TT fi f=2)
  (h:r=(Rbind (S.ev fi env a) fun v=>Rbind (oneOf (vlOf v)) fun l=>match small l.length with | true=>Rpure (numbered 0 l) | false=>Rno))
theorem aDH {α:Type} {k:Nat} {x y:α} (he:(match k with | 2=>some x | _=>none)=some y):k=2∧y=x:=match k,he with
 | 0,he=>nx he
 | 1,he=>nx he
 | 2,he=>⟨rfl,so he⟩
 | _ + 3,he=>nx he
theorem aDF {t it:Expr} {r:R (List V)} (he:lA TT S fi env t it=some r):aA4 S fi env t it r:=by
 cases t with
 | Tuple elts kk tp =>
  cases it with
  | Call f as ks q =>
   cases f with
   | Name f p =>
    cases as with
    | nil=>exact nx he
    | cons a as =>
     cases as with
     | cons _ _=>exact nx he
     | nil =>
      cases ks with
      | cons _ _=>exact nx he
      | nil=>obtain ⟨h1,h2⟩:=aDH he; exact ⟨elts,kk,tp,f,p,a,q,rfl,rfl,h1,h2⟩
   | _=>exact nx he
  | _=>exact nx he
 | _=>exact nx he
theorem aDG {f:Str} (h2:srcName TT fi f=2):kindIn fi.sc f=some .globalImplicit∧look f TT.gl=none∧f = "enumerate":=by
 obtain ⟨h1,h3,⟨h,_⟩ | ⟨_,h⟩⟩:=aAo h2
 ·exact nomatch h
 ·exact ⟨h1,h3,h⟩
theorem vV (B:aZ w g mg mb) (H:aN w g n S) {elt t it:Expr} {ifs:List Expr} {csc:Scope} {pos pos' : Pos} {v:V} {use:Option (Value→Sem Unit)} {Q:Value→Shared→Prop}
 (e:compEv TT S fi env elt t it ifs csc σ=some (v,σ')) (hR:aU n A) (I:Inv w g G σ s.heap) (F:Frm G s.heap fi env ME fo)
 (K:∀ (s1:Shared) G1 X xs,v=mkVl xs→Frm G1 s1.heap fi env ME fo→(∃ τ,Inv w g G1 τ s1.heap)→Stp [] G s.heap G1 s1.heap→s1.gens=s.gens→s1.os=s.os→tZ w g G1 σ' s1 X xs (fun acc C=>compPost (MW w) A E use Q acc C)) :
 wpAny (MW w) A (comprehension (.ListComp elt [⟨t,it,ifs,0⟩] csc pos) csc ME pos' (newList []) false (eval it ME) use) Q E s:=by
 obtain ⟨l,σ1,e1,e2⟩:=aH (m:=jM TT S fi env t it) e; clear e
 obtain ⟨h1,h2,h3,h4,h5,e2⟩:=aEc (a:=small l.length) (b:=dH csc) (c:=eC csc.names) (d:=noDup (csc.names.map (·.1))) (f:=freeOk fi env csc.names) e2
 ·skip
  obtain ⟨xs,σ2,e3,e4⟩:=aH e2; clear e2
  cases e4
  refine optE (o:=lA TT S fi env t it) (fun he=>?_) fun r he=>?_
  ·have e1:=(show (match lA TT S fi env t it with | some r=>r | none=>Rbind (srcOf TT S fi env it) tL) σ=some (l,σ1) from e1)
   simp only [he] at e1
   obtain ⟨src,σ4,e5,e6⟩:=aH e1
   cases src with
   | live i=>exact nx e6
   | vals l' =>
    cases e6
    refine wpAny_comprehension_free rfl (yV H e5) (qI F h5) (i5 h2).1 (fun x hx hl=>?_) ?_
    ·rw [oH h4 x hx,hl]
    ·refine aAp B H e5 hR I F fun Ia s1 G1 h2' tk dr I1 F1 S1 g1 o1 X1=>?_
     exact vU H e3 h1 h2 h3 h5 hR I1 F1 X1.toC (K s1 G1 [Ia] xs rfl F1 ⟨_,I1⟩ S1 g1 o1)
  ·have e1:=(show (match lA TT S fi env t it with | some r=>r | none=>Rbind (srcOf TT S fi env it) tL) σ=some (l,σ1) from e1)
   obtain ⟨elts,kk,tp,f,p,a,q,rfl,rfl,hn,rfl⟩:=aDF he
   obtain ⟨q1,q2,rfl⟩:=aDG hn
   have e1:=(show (Rbind (S.ev fi env a) fun v=>Rbind (oneOf (vlOf v)) fun l=>match small l.length with | true=>Rpure (numbered 0 l) | false=>Rno) σ=some (l,σ1) by rw [he] at e1; exact e1)
   obtain ⟨v1,σ4,e5,e6⟩:=aH e1; clear e1
   obtain ⟨l',σ5,e7,e8⟩:=aH e6; clear e6
   obtain ⟨e9,z1⟩:=bB e7; clear e7; subst z1
   refine boolF (b:=small l'.length) (fun hsm=>?_) fun hsm=>?_
   ·simp only [hsm] at e8; exact nx e8
   simp only [hsm] at e8
   cases e8
   refine wpAny_comprehension_free rfl (fun x=>rfl) (qI F h5) (i5 h2).1 (fun x hx hl=>?_) ?_
   ·rw [oH h4 x hx,hl]
   ·have en:fA TT fi env "enumerate" σ=some (.st (.type "enumerate"),σ):=by
     unfold fA
     simp only [q1,q2]
     rfl
    have ea:mapR (S.ev fi env) [a] σ=some ([v1],σ1):=by
     show Rbind (S.ev fi env a) (fun b=>Rbind (mapR (S.ev fi env) []) fun bs=>Rpure (b::bs)) σ=_
     unfold Rbind
     rw [e5]
     rfl
    have hp:=lU (pos:=q) (ME:=ME) H ea
    rw [show eval (.Call (.Name "enumerate" p) [a] [] q) ME=(do callWith q (← eval (.Name "enumerate" p) ME) [] (backTo q (starEach [a] ME)) (backToKw q (keywordEach [] ME))) from rfl]
    refine wpAny_bind (lQ B en I F fun u s0 G0 I0 S0 x0 g0 o0=>?_)
    subst x0
    refine jL hp.1 (iH H ea hR I0 (F.step I S0) fun us s1 G1 I1 S1 x1 g1 o1=>⟨⟨.machine,fun Q q=>wpAny_pure q⟩,?_⟩)
    obtain ⟨u,z1,hu⟩:=x1.one; clear x1; subst z1
    obtain ⟨b,ls,z1,hb,hl,hv⟩:=mD e9 hu; clear hu; subst z1
    refine call_enumerate_list hl.isList fun h' hE hit hsz hk=>?_
    refine wpAny_pyIter_enum hE ?_
    have X1:=aIB (w:=w) (elts:=elts) (kk:=kk) (pos:=tp) hR.2.2 hb hl hv hE hit hk
    have F1:=(F.step I S0).step I0 S1
    exact vU (tk:=s1.toks) (dr:=s1.drawn) H e3 h1 h2 h3 h5 hR I1 F1 X1 (K s1 G1 _ xs rfl F1 ⟨_,I1⟩ (S0.trans S1) (g1.trans g0) (o1.trans o0))
theorem vT (B:aZ w g mg mb) (H:aN w g n S) {elt t it:Expr} {ifs:List Expr} {csc:Scope} {p:Pos}:dJ w g n (dC TT S I') (.ListComp elt [⟨t,it,ifs,0⟩] csc p):=by
 intro fi env σ v σ' A E s G ME fo Q e hR I F P
 have e:=(show compEv TT S fi env elt t it ifs csc σ=some (v,σ') from e)
 rw [eval_ListComp]
 refine vV B H e hR I F fun s1 G1 X xs hv F1 _ S1 g1 o1=>?_
 clear e; subst hv
 intro s' D C G3 h1 us h4 tk4 k1 hfr hnd hal C1 I3 S3 L3 V3 N3 g3 o3 k4
 obtain ⟨m,hm⟩:=N3
 obtain ⟨_,n2,n3⟩:=List.nodup_append.mp hnd
 have hDC:D ≠ C:=by simpa using n2
 have hCX:C ∉ X:=fun z=>n3 C z C (by exact (.tail _ (.head _))) rfl
 have hDX:D ∉ X:=fun z=>n3 D z D (by exact (.head _)) rfl
 refine ⟨m,hm.at' (fun o q=>k4 C o hCX q),fun h5 sb=>?_⟩
 have hex:G3.ex=(X++[D,C])++G1.ex:=S3.ex
 have k5:∀ c o,c ∉ X++[D,C]→s'.heap.get? c=some o→h5.get? c=some o:=fun c o hc q=>by
  simp only [List.mem_append,List.mem_cons,List.not_mem_nil,or_false,not_or] at hc
  exact (sb.2 c hc.2.2).trans (k4 c o hc.1 q)
 obtain ⟨I5,C5⟩:=I3.leave (G₀:=G1) hex k5
 have S5:Stp [] G1 s1.heap (G3.back G1) h5:=Stp.leave k1 hfr S3 k5 fun b hb=>.inl hb
 obtain ⟨n',q⟩:=L3
 have qD:h5.get? D=some { cls:=.type "list",data:=.seq us.toArray n' }:=(sb.2 D hDC).trans (k4 D _ hDX q)
 exact P (.ref D) { s' with heap:=h5,toks:=tk4 } (G3.back G1) I5 (S1.trans S5) (lP (rX I3 hex (by simp)) ⟨_,qD,rfl,n',rfl⟩ (V3.step C5)) (g3.trans g1) (o3.trans o1)
set_option backward.match.sparseCases true in
noncomputable def bV (ME:Env) (line:Nat) (ts:List Expr):List Str:=ts.filterMap fun
 | .Name id pos=>if ME.kindOf id == some .local && pos.line == line then some id else none
 | _=>none
set_option backward.match.sparseCases true in
theorem aI7 {ts vs:List Expr} {k k' : Nat} {p p' : Pos} (hb:ME.blockKind = .function) (hs:kA (.Tuple ts k p) (.Tuple vs k' p')=true):swappedStores [.Tuple ts k p] (.Tuple vs k' p') ME=pure none ∨
 ∃ line,swappedStores [.Tuple ts k p] (.Tuple vs k' p') ME=pure (some (bV ME line ts))∧(ts.length=2∨ts.length=3)∧(bV ME line ts).length=ts.length∧(bV ME line ts).eraseDups.length=(bV ME line ts).length:=by
 have hs:vs.all (foldedForSure 8)=true∨vs.all (constantsAlone 8)=false:=by
  unfold kA at hs
  cases h1:vs.all (foldedForSure 8) with
  | false =>
   cases h2:vs.all (constantsAlone 8) with
   | false=>exact .inr rfl
   | true=>simp only [h1,h2] at hs; exact ft hs
  | true=>exact .inl rfl
 have unf:swappedStores [.Tuple ts k p] (.Tuple vs k' p') ME =
  if (!(ts.length == 2 || ts.length == 3) || vs.length != ts.length || ME.blockKind != .function)=true then pure none else
  if (vs.any fun | .Starred ..=>true | _=>false)=true then pure none else
  if ((bV ME ((ts.head?.map (·.pos.line)).getD 0) ts).length != ts.length || (bV ME ((ts.head?.map (·.pos.line)).getD 0) ts).eraseDups.length != (bV ME ((ts.head?.map (·.pos.line)).getD 0) ts).length)=true then pure none else
  if vs.all (foldedForSure 8)=true then pure none else
  if vs.all (constantsAlone 8)=true then ((unsupported "assign.tuple-of-constant-expressions:order-of-the-stores" : Sem PUnit) >>= fun _=>pure (some (bV ME ((ts.head?.map (·.pos.line)).getD 0) ts)))
  else pure (some (bV ME ((ts.head?.map (·.pos.line)).getD 0) ts)):=by
  unfold swappedStores
  rfl
 rw [unf]
 split
 ·exact .inl rfl
 ·rename_i h1
  split
  ·exact .inl rfl
  ·split
   ·exact .inl rfl
   ·rename_i h3
    split
    ·exact .inl rfl
    ·rename_i h4
     right
     have h5:vs.all (constantsAlone 8)=false:=by
      rcases hs with q | q
      ·exact absurd q h4
      ·exact q
     refine ⟨(ts.head?.map (·.pos.line)).getD 0,?_,?_,?_,?_⟩
     ·rw [h5,if_neg (by decide)]
     ·have h1:=Bool.eq_false_iff.mpr h1
      simp only [Bool.or_eq_false_iff,Bool.not_eq_false',Bool.or_eq_true,beq_iff_eq] at h1
      exact h1.1.1
     ·have h3:=Bool.eq_false_iff.mpr h3
      simp only [Bool.or_eq_false_iff,bne_eq_false_iff_eq] at h3
      exact h3.1
     ·have h3:=Bool.eq_false_iff.mpr h3
      simp only [Bool.or_eq_false_iff,bne_eq_false_iff_eq] at h3
      exact h3.2
theorem aJ1 {α:Type}:∀ {l:List α},l.length=2→∃ a b,l=[a,b]
 | [a,b],_=>⟨a,b,rfl⟩
 | [],h=>by cases h
 | [_],h=>by cases h
 | _::_::_::_,h=>by simp at h
theorem aJy {α:Type}:∀ {l:List α},l.length=3→∃ a b c,l=[a,b,c]
 | [a,b,c],_=>⟨a,b,c,rfl⟩
 | [],h=>by cases h
 | [_],h=>by cases h
 | [_,_],h=>by cases h
 | _::_::_::_::_,h=>by simp at h
theorem aAv {line:Nat}:∀ {ts:List Expr},(bV ME line ts).length=ts.length→∃ ids:List (Str×Pos),ts=ids.map (fun q=>Expr.Name q.1 q.2)∧bV ME line ts=ids.map (·.1)∧∀ q ∈ ids,ME.kindOf q.1=some .local
 | [],_=>⟨[],rfl,rfl,fun _ h=>nomatch h⟩
 | t::r,e=>by
  have hle:(bV ME line r).length ≤ r.length:=List.length_filterMap_le _ _
  have skip:bV ME line (t::r)=bV ME line r→False:=fun q=>by rw [q] at e; simp at e; lia
  cases t with
  | Name id pos =>
   by_cases hc:(ME.kindOf id == some .local && pos.line == line)=true
   ·have q:bV ME line (.Name id pos::r)=id::bV ME line r:=by
     unfold bV
     rw [List.filterMap_cons_some]
     simp only [hc,if_true]
    rw [q] at e
    obtain ⟨ids,h1,h2,h3⟩:=aAv (line:=line) (ts:=r) (by simpa using e)
    refine ⟨(id,pos)::ids,by rw [h1]; rfl,by rw [q,h2]; rfl,fun x hx=>?_⟩
    rcases List.mem_cons.mp hx with rfl | hx
    ·simp only [Bool.and_eq_true,beq_iff_eq] at hc; exact hc.1
    ·exact h3 x hx
   ·exact (skip (by unfold bV; rw [List.filterMap_cons_none]; simp only [hc]; rfl)).elim
  | _=>exact (skip (by unfold bV; rw [List.filterMap_cons_none]; rfl)).elim
theorem uX {fi:FI}:∀ {ids:List (Str×Pos)} {l:List V} {env env' : aB} {m:Nat},(∀ q ∈ ids,kindIn fi.sc q.1=some .local)→eL fi m (ids.map fun q=>Expr.Name q.1 q.2) l env=some env'→ids.length=l.length∧env' = (ids.zip l).foldl (fun en q=>put q.1.1 q.2 en) env
 | [],[],env,env',0,_,e=>nx e
 | [],[],env,env',_ + 1,_,e=>⟨rfl,so e⟩
 | [],_::_,_,_,0,_,e=>nx e
 | [],_::_,_,_,_ + 1,_,e=>nx e
 | _::_,[],_,_,0,_,e=>nx e
 | _::_,[],_,_,_ + 1,_,e=>nx e
 | q::ids,v::l,env,env',0,_,e=>nx e
 | q::ids,v::l,env,env',m + 1,hk,e=>by
  obtain ⟨env1,h1,e⟩:=kW e
  cases m with
  | zero=>exact nx h1
  | succ m =>
   have h1:putN fi q.1 v env=some env1:=h1
   unfold putN at h1; rw [hk q (.head _)] at h1
   have:=uX (fun x hx=>hk x (.tail _ hx)) e
   exact ⟨congrArg Nat.succ this.1,this.2.trans (so h1 ▸ rfl)⟩
theorem aHj {x:Str} {v:V} (hk:kindIn fi.sc x=some .local):putN fi x v env=some (put x v env):=by unfold putN; rw [hk]
theorem aAk {x t:Expr} {l:Nat} {ME:Env} (hc:hU x=false):swapsWithSole [t] x l ME=pure false:=by
 show swapsWith x (some t) l ME=pure false
 cases x <;> first | rfl | exact Bool.noConfusion hc
theorem aI5 {t x:Expr} {ME:Env} (h:∀ ts k q,t ≠ .Tuple ts k q) (h' : ∀ ts q,t ≠ .List ts q):swappedStores [t] x ME=pure none:=by
 cases t <;> first | rfl | exact absurd rfl (h _ _ _) | exact absurd rfl (h' _ _)
theorem aI6 {x:Expr} {ts:List Expr} {k:Nat} {q:Pos} {ME:Env} (h:∀ vs k q,x ≠ .Tuple vs k q):swappedStores [.Tuple ts k q] x ME=pure none:=by
 cases x <;> first | rfl | exact absurd rfl (h _ _ _)
theorem aF8 {l:List Str} (h:l.length=2∨l.length=3) (hd:l.eraseDups.length=l.length):l.Nodup:=by
 rcases h with h | h
 ·obtain ⟨a,b,z1⟩:=aJ1 h; clear h; subst z1
  have:a ≠ b:=by rintro rfl; simp [List.eraseDups_cons] at hd
  simp [this]
 ·obtain ⟨a,b,c,z1⟩:=aJy h; clear h; subst z1
  have h1:a ≠ b:=by
   rintro rfl
   simp [List.eraseDups_cons] at hd
   by_cases q:c=a <;> simp [q,List.eraseDups_cons] at hd
  have h2:a ≠ c:=by
   rintro rfl
   simp [List.eraseDups_cons] at hd
   by_cases q:b=a <;> simp [q,List.eraseDups_cons] at hd
  have h3:b ≠ c:=by
   clear h2; rintro rfl
   simp [List.eraseDups_cons] at hd
   by_cases q:b=a <;> simp [q,List.eraseDups_cons] at hd
  simp [h1,h2,h3]
noncomputable def gG (zs:List (Str×V)) (env:aB):aB:=zs.foldl (fun en q=>put q.1 q.2 en) env
theorem nN {y:Str}:∀ {zs:List (Str×V)} {env:aB},y ∉ zs.map (·.1)→look y (gG zs env)=look y env
 | [],_,_=>rfl
 | z::zs,env,h=>by
  show look y (gG zs (put z.1 z.2 env))=_
  rw [nN (zs:=zs) fun q=>h (.tail _ q),look_put,if_neg fun q=>h (by rw [q]; exact .head _)]
theorem q8 {y:Str} {v:V}:∀ {zs:List (Str×V)} {env:aB},(zs.map (·.1)).Nodup→(y,v) ∈ zs→look y (gG zs env)=some v
 | [],_,_,h=>nomatch h
 | z::zs,env,nd,h=>by
  show look y (gG zs (put z.1 z.2 env))=_
  rcases List.mem_cons.mp h with rfl | h
  ·rw [nN (List.nodup_cons.mp nd).1,look_put,if_pos rfl]
  ·exact q8 (List.nodup_cons.mp nd).2 h
theorem aD0 {y:Str} {v:V} {zs:List (Str×V)} {env:aB} (nd:(zs.map (·.1)).Nodup) (e:look y (gG zs env)=some v):look y (gG zs.reverse env)=some v:=by
 by_cases h:y ∈ zs.map (·.1)
 ·obtain ⟨z,hz,z1⟩:=List.mem_map.mp h; clear h; subst z1
  rw [q8 nd hz] at e
  cases e
  exact q8 (by rw [List.map_reverse]; exact (List.reverse_perm _).nodup_iff.mpr nd) (List.mem_reverse.mpr hz)
 ·rw [nN h] at e
  rw [nN (by rw [List.map_reverse,List.mem_reverse]; exact h),e]
theorem yM:∀ {zs:List (Str×V)} {us:List Value} {env:aB} {s:Shared} {Q:Unit→Shared→Prop},(∀ z ∈ zs,kindIn fi.sc z.1=some .local)→Inv w g G σ s.heap→Frm G s.heap fi env ME fo→VRs G s.heap (zs.map (·.2)) us →
 (∀ s3,Inv w g G σ s3.heap→Stp fo G s.heap G s3.heap→Frm G s3.heap fi (gG zs env) ME fo→s3.gens=s.gens→s3.os=s.os→Q () s3) →
 wpAny (MW w) A (assignInOrder ((zs.map (·.1)).map fun n=>bindName ME n) us) Q E s
 | [],us,env,s,Q,_,I,F,V,K=>by
  simp only [List.map_nil,VRs] at V
  subst V
  exact wpAny_assignInOrder_none (K s I .refl F rfl rfl)
 | z::zs,us,env,s,Q,hk,I,F,V,K=>by
  simp only [List.map_cons,VRs] at V
  obtain ⟨u,us',rfl,x1,x2⟩:=V
  refine wpAny_assignInOrder_more (wpAny_bindName (pD (aHj (hk _ (.head _))) I F x1 fun s3 I3 S3 F3 g3 o3=>?_))
  exact yM (fun z hz=>hk z (.tail _ hz)) I3 F3 (x2.step (S3.car F.fsub)) fun s4 I4 S4 F4 g4 o4=>K s4 I4 (S3.trans S4) F4 (g4.trans g3) (o4.trans o3)
theorem VRs.rev {h:Heap}:∀ {l:List V} {us:List Value},VRs G h l us→VRs G h l.reverse us.reverse
 | [],us,x=>by obtain rfl:=x; simp only [List.reverse_nil,VRs]
 | _::_,_,x=>by
  obtain ⟨u,r,rfl,h1,h2⟩:=x
  rw [List.reverse_cons,List.reverse_cons]
  exact (VRs.rev h2).append (by exact ⟨u,[],rfl,h1,rfl⟩)
theorem aI4 (H:aN w g n S) {ts vs:List Expr} {k k' line:Nat} {q q' p:Pos} {v:V} {Q:Flow→Shared→Prop} (hsw:swapsWithSole [.Tuple ts k q] (.Tuple vs k' q') p.line ME=pure false)
 (e1:S.ev fi env (.Tuple vs k' q') σ=some (v,σ')) (e5:bindT fi 9 (.Tuple ts k q) v env=some env') (hw:swappedStores [.Tuple ts k q] (.Tuple vs k' q') ME=pure (some (bV ME line ts)))
 (hlen:ts.length=2∨ts.length=3) (hn:(bV ME line ts).length=ts.length) (hd:(bV ME line ts).eraseDups.length=(bV ME line ts).length)
 (hR:aU n A) (I:Inv w g G σ s.heap) (F:Frm G s.heap fi env ME fo) (P:dS w g G σ' s fi env' ME fo .next Q):wpAny (MW w) A (exec (.Assign [.Tuple ts k q] (.Tuple vs k' q') p) ME) Q E s:=by
 obtain ⟨ids,h1,h2,h3⟩:=aAv hn
 have e5:=(show (match bC v with | some l=>eL fi 8 ts l env | none=>none)=some env' from e5)
 refine optE (o:=bC v) (fun hv=>?_) fun l hv=>?_
 ·rw [hv] at e5; exact nx e5
 ·rw [hv,h1] at e5
  obtain ⟨hl,z1⟩:=uX (fun z hz=>(F.kindOf z.1).symm.trans (h3 z hz)) e5; clear e5; subst z1
  rw [exec_Assign_arm]
  refine wpAny_bind (wpAny_standAt ?_)
  rw [hsw]
  refine wpAny_bind (wpAny_pure ?_)
  rw [if_neg (by decide)]
  refine wpAny_bind (H.ev' e1 hR I F fun u s1 G1 I1 F1 x1 S1 g1 o1=>?_)
  rw [hw]
  refine wpAny_bind (wpAny_pure ?_)
  obtain ⟨a,us,z1,_,ht,hus⟩:=eJ hv x1; clear x1; subst z1
  have hz:(bV ME line ts).length=us.toArray.size:=by rw [h2,List.length_map,hl,List.size_toArray,hus.len]
  show wpAny (MW w) A (do
   rule "assign.swapped-stores"
   let items ← unpackItems (.ref a) (bV ME line ts).length none
   assignInOrder ((bV ME line ts).reverse.map fun n=>bindName ME n) items.reverse
   pure Flow.next) Q E s1
  refine wpAny_bind (wpAny_rule (wpAny_bind ?_))
  rw [hz]
  refine wpAny_unpackItems_tuple hR.2.2 ht.isTuple fun h' hx=>?_
  have kk:∀ b o,s1.heap.get? b=some o→h'.get? b=some o:=fun b o q=>hx b o (Nat.ne_of_lt (Heap.lt_size q)) q
  rw [h2] at hd ⊢
  have nd:(ids.map (·.1)).Nodup:=aF8 (by rw [h1] at hlen; simpa using hlen) hd
  have hzip:(((ids.zip l).map fun z=>(z.1.1,z.2)).map (·.1))=ids.map (·.1):=by
   rw [List.map_map]
   exact (List.map_map (f:=Prod.fst) (g:=Prod.fst) (l:=ids.zip l)).symm.trans (by rw [List.map_fst_zip (Nat.le_of_eq hl)])
  have hsnd:(((ids.zip l).map fun z=>(z.1.1,z.2)).map (·.2))=l:=by
   rw [List.map_map]
   exact List.map_snd_zip (Nat.le_of_eq hl.symm)
  have hfold:(ids.zip l).foldl (fun en q=>put q.1.1 q.2 en) env=gG ((ids.zip l).map fun z=>(z.1.1,z.2)) env:=(by unfold gG; rw [List.foldl_map])
  rw [hfold] at P
  have hmem:∀ z ∈ ((ids.zip l).map fun z=>(z.1.1,z.2)),kindIn fi.sc z.1=some .local:=fun z hz=>by
   obtain ⟨y,hy,z1⟩:=List.mem_map.mp hz; clear hz; subst z1
   exact (F.kindOf y.1.1).symm.trans (h3 y.1 (List.of_mem_zip hy).1)
  generalize ((ids.zip l).map fun z=>(z.1.1,z.2))=zs at hzip hsnd P hmem
  have hV:VRs G1 h' (zs.reverse.map (·.2)) us.reverse:=by
   rw [List.map_reverse,hsnd]
   exact (hus.step (Stp.ext (X:=[]) kk).car0).rev
  rw [← hzip] at nd ⊢
  rw [← List.map_reverse]
  exact wpAny_bind (yM (fun z hz=>hmem z (List.mem_reverse.mp hz)) (I1.ext kk) (F1.step I1 (Stp.ext kk)) hV fun s3 I3 S3 F3 g3 o3 =>
   wpAny_pure (P _ s3 G1 I3 ((S1.wk.trans (Stp.ext kk)).trans S3) (F3.weak fun y v e=>aD0 nd e) rfl (g3.trans g1) (o3.trans o1)))
theorem uM (H:aN w g n S) {t x:Expr} {p:Pos} (hgo:d9 TT S fi env (.Assign [t] x p) σ=(match hU x,kA t x with
 | false,true=>Rbind (S.ev fi env x) fun v=>Rbind (oneOf (bindT fi 9 t v env)) fun env'=>Rpure (Fl.next,env')
 | _,_=>Rno) σ) {fl:Fl} {Q:Flow→Shared→Prop} (e:d9 TT S fi env (.Assign [t] x p) σ=some ((fl,env'),σ')) (hR:aU n A) (I:Inv w g G σ s.heap) (F:Frm G s.heap fi env ME fo)
 (P:dS w g G σ' s fi env' ME fo fl Q):wpAny (MW w) A (exec (.Assign [t] x p) ME) Q E s:=by
 rw [hgo] at e
 obtain ⟨hc,hs,e⟩:hU x=false∧kA t x=true∧Rbind (S.ev fi env x) (fun v=>Rbind (oneOf (bindT fi 9 t v env)) fun env'=>Rpure (Fl.next,env')) σ=some ((fl,env'),σ'):=by
  clear hgo P
  cases hc:hU x <;> cases hs:kA t x <;> simp only [hc,hs] at e <;> first | (exact nx e; done) | exact ⟨rfl,rfl,e⟩
 clear hgo
 obtain ⟨v,σ1,e1,e2⟩:=aH e
 obtain ⟨env1,σ2,e3,e4⟩:=aH e2; clear e2
 obtain ⟨e5,z1⟩:=bB e3; clear e3; subst z1
 cases e4
 have hb:ME.blockKind = .function:=by unfold Env.blockKind; rw [F.sc,F.kind]; rfl
 have plain:swappedStores [t] x ME=pure none→wpAny (MW w) A (exec (.Assign [t] x p) ME) Q E s:=fun hw=>by
  refine wpAny_Assign_stores ?_ (aAk hc) hw
  rw [show assignEach [t] ME=[(false,assign t ME)] by rw [qA (ME:=ME) (r:=[]) e5]; rfl]
  refine H.ev' e1 hR I F fun u s1 G1 I1 F1 x1 S1 g1 o1=>?_
  show wpAny (MW w) A (assign t ME u) _ E s1
  exact mY 9 e5 hR.2.2 I1 F1 x1 fun s2 I2 S2 F2 g2 o2=>P _ s2 G1 I2 (S1.wk.trans S2) F2 rfl (g2.trans g1) (o2.trans o1)
 by_cases h1:∃ ts k q,t = .Tuple ts k q
 ·obtain ⟨ts,k,q,rfl⟩:=h1
  by_cases h2:∃ vs k q,x = .Tuple vs k q
  ·obtain ⟨vs,k',q',rfl⟩:=h2
   rcases aI7 (p:=q) (k:=k) (k':=k') (p':=q') hb hs with hw | ⟨line,hw,hlen,hn,hd⟩
   ·exact plain hw
   ·exact aI4 H (aAk hc) e1 e5 hw hlen hn hd hR I F P
  ·exact plain (aI6 fun vs k q e=>h2 ⟨vs,k,q,e⟩)
 ·refine plain (aI5 (fun ts k q e=>h1 ⟨ts,k,q,e⟩) fun ts q e=>?_)
  clear hs plain h1; subst e
  exact nx e5
theorem uO (B:aZ w g mg mb) (H:aN w g n S) {o x:Expr} {a:Str} {q p:Pos} {fl:Fl} {Q:Flow→Shared→Prop}
 (e:Rbind (S.ev fi env x) (fun v=>Rbind (S.ev fi env o) fun ov=>Rbind (setAttr' TT ov a v) fun _=>Rpure (Fl.next,env)) σ=some ((fl,env'),σ')) (hR:aU n A) (I:Inv w g G σ s.heap) (F:Frm G s.heap fi env ME fo)
 (P:dS w g G σ' s fi env' ME fo fl Q):wpAny (MW w) A (exec (.Assign [.Attribute o a q] x p) ME) Q E s:=by
 obtain ⟨v,σ1,e1,e2⟩:=aH e; clear e
 obtain ⟨ov,σ2,e3,e4⟩:=aH e2; clear e2
 obtain ⟨_,σ3,e5,e6⟩:=aH e4; clear e4
 cases e6
 refine plainObj_wpAny_Assign_Attribute (H.ev' e1 hR I F fun u s1 G1 I1 F1 x1 S1 g1 o1=>H.ev' e3 hR I1 F1 fun u2 s2 G2 I2 F2 x2 S2 g2 o2=>?_) (by cases x <;> rfl)
 refine aIm B e5 I2 x2 (x1.step S2.car0) fun _ s3 G3 I3 S3 _ g3 o3=>?_
 exact P .next s3 G3 I3 ((S1.trans S2).trans S3).wk (F2.step I2 S3) rfl (g3.trans (g2.trans g1)) (o3.trans (o2.trans o1))
theorem aIo {l:Addr} {items:Array Value} {k:Int} {t:Tok} {v:Value} {Q:Unit→Shared→Prop} (hl:s.heap.PlainList l items)
 (h0:0 ≤ k) (hfit:k < 2 ^ 63) (hn:k < items.size)
 (hQ:∀ h',h'.PlainList l (items.setIfInBounds k.toNat v)→Heap.SameBut l s.heap h'→Q () { s with heap:=h' }) :
 wpAny (MW w) A (setItem (.ref l) (.int k t) v) Q E s:=by
 obtain ⟨ne,ho⟩:=hl
 have hd:({ cls:=.type "list",data:=.seq items ne }:Obj).data = .seq items ne:=rfl
 have hl:s.heap.IsList l items:=⟨_,ho,rfl,ne,rfl⟩
 unfold setItem
 try with_reducible refine wpAny_holding ?_
 first | refine wpAny_bind (wpAny_pure ?_) | skip
 refine wpAny_bind (wpAny_sequenceKey hl.typeIs (by decide) ?_)
 refine wpAny_bind (wpAny_callSpecial?_slot (name:=Str.ofString "__setitem__") hl.typeIs slot_list_setitem
  (wpAny_call_entry slot_list_setitem hl.typeIs entry_list_setitem ?_ (args_list_setitem _ _ _)))
 show wpAny _ _ (Builtin.List.listSubscript? (.int k t) >>= _) _ _ s
 refine wpAny_bind (wpAny_listSubscript_int (fitsIndex_of h0 hfit) ?_)
 clear hfit
 obtain ⟨j,z1⟩:=Int.eq_ofNat_of_zero_le h0; clear h0; subst z1
 have hj:j < items.size:=Int.ofNat_lt.mp ‹_›
 have hx' : items[j]? = some items[j]:=Array.getElem?_eq_getElem hj
 show wpAny _ _ ((seqItemAt l j >>= fun r=>pure (r.map (j,·))) >>= _) _ _ s
 refine wpAny_bind (wpAny_bind (wpAny_seqItemAt ho hd (wpAny_pure ?_)))
 rw [hx']
 show wpAny _ _ (setSeqItemAt l j v >>= _) _ _ s
 have hm:∃ n',Obj.mapSeq (·.setIfInBounds j v) { cls:=.type "list",data:=.seq items ne } = { cls:=.type "list",data:=.seq (items.setIfInBounds j v) n' }:=⟨_,by simp [Obj.mapSeq]; rfl⟩
 obtain ⟨n',hm⟩:=hm
 have hfin:(s.heap.update l (Obj.mapSeq (·.setIfInBounds j v))).PlainList l (items.setIfInBounds j v) :=
  ⟨n',by rw [Heap.get?_update_self _ ho (by rw [hm]; rfl),hm]⟩
 refine wpAny_bind (wpAny_setSeqItemAt ho hd ?_)
 first
  | exact wpAny_bind (wpAny_pure (wpAny_pure ⟨.none,rfl,wpAny_pure (hQ _ hfin (Heap.SameBut.update ..))⟩))
  | exact wpAny_pure ⟨.none,rfl,wpAny_pure (hQ _ hfin (Heap.SameBut.update ..))⟩
theorem aIn {v k x:V} {u:Unit} {C:Prop} (e:setItem' v k x σ=some (u,σ')) (c:∀ i n l y,v = .li i→k = .pv (.int (.ofNat n))→σ.l[i]? = some l→l[n]? = some y→small l.length=true→σ' = ⟨σ.g,σ.l.set i (l.set n x)⟩→C):C:=by
 cases v with
 | li i=>cases k with
  | pv p=>cases p with
   | int z=>cases z with
    | ofNat n =>
     obtain ⟨l,σ5,h1,h2⟩:=aH (m:=getL i) e
     obtain ⟨hl,z1⟩:=jT h1; clear h1; subst z1
     refine optE (o:=l[n]?) (fun hm=>?_) fun y hm=>?_
     ·rw [hm] at h2; exact nx h2
     ·refine boolF (b:=small l.length) (fun hs=>?_) fun hs=>?_
      ·rw [hm,hs] at h2; exact nx h2
      ·rw [hm,hs] at h2; exact c i n l y rfl rfl hl hm hs (tK h2)
    | negSucc _=>exact nx e
   | _=>exact nx e
  | _=>exact nx e
 | _=>exact nx e
theorem aER (H:aN w g n S) {o x i:Expr} {q p:Pos} {fl:Fl} {Q:Flow→Shared→Prop}
 (e:Rbind (S.ev fi env x) (fun v=>Rbind (S.ev fi env o) fun ov=>Rbind (S.ev fi env i) fun k=>Rbind (setItem' ov k v) fun _=>Rpure (Fl.next,env)) σ=some ((fl,env'),σ')) (hR:aU n A) (I:Inv w g G σ s.heap) (F:Frm G s.heap fi env ME fo)
 (P:dS w g G σ' s fi env' ME fo fl Q):wpAny (MW w) A (exec (.Assign [.Subscript o i q] x p) ME) Q E s:=by
 obtain ⟨v,σ1,e1,e2⟩:=aH e; clear e
 obtain ⟨ov,σ2,e3,e4⟩:=aH e2; clear e2
 obtain ⟨k,σ3,e5,e6⟩:=aH e4; clear e4
 obtain ⟨_,σ4,e7,e8⟩:=aH e6; clear e6
 cases e8
 refine wpAny_Assign_Subscript (H.ev' e1 hR I F fun u s1 G1 I1 F1 x1 S1 g1 o1=>H.ev' e3 hR I1 F1 fun u2 s2 G2 I2 F2 x2 S2 g2 o2=>H.ev' e5 hR I2 F2 fun u3 s3 G3 I3 F3 x3 S3 g3 o3=>?_) (by cases x <;> rfl)
 clear e3 e5; refine aIn e7 fun j m l y z1 z2 hl hm hsm z3=>?_
 ··clear e7; subst z1 z2 z3
   obtain ⟨a,us,z1,ha,⟨nn,hx⟩,hv⟩:=rY I3 hl (x2.step S3.car0); clear x2; subst z1
   obtain ⟨t,rfl⟩:=x3
   have hlen:=hv.len
   have hsm:=cR hsm
   have hml:m < l.length:=by
    rcases Nat.lt_or_ge m l.length with z | z
    ·exact z
    ·rw [List.getElem?_eq_none_iff.mpr z] at hm; exact nx hm
   refine aIo (items:=us.toArray) ⟨nn,hx⟩ (Int.ofNat_nonneg m) (by show (m:Int) < _; lia) (by show (m:Int) < _; simp; lia) fun h' hp sb=>?_
   have X:c9 h' a (us.set m u):=let ⟨n',q⟩:=hp; ⟨n',by simpa using q⟩
   have T:=I3.setL ha hl sb X (hv.set (x1.step (S2.trans S3).car0))
   exact P .next { s3 with heap:=h' } G3 T.1 (((S1.trans S2).trans S3).trans T.2).wk (F3.step I3 T.2) rfl (g3.trans (g2.trans g1)) (o3.trans (o2.trans o1))
theorem n0 {G:Gh} {h:Heap} {x:Str}:∀ {names:List Str} {W:List V} {us:List Value},VRs G h W us→∀ {v:V},look x (names.zip W)=some v→∃ u,look x (names.zip us)=some u∧VR G h v u
 | [],_,_,_,v,e=>by simp [look] at e
 | _::_,[],_,_,v,e=>by simp [look] at e
 | y::r,p::W,us,z,v,e=>by
  obtain ⟨u,us',rfl,h1,h2⟩:=z
  rw [List.zip_cons_cons] at e ⊢
  unfold look at e ⊢
  cases hy:sEq y x with
  | false=>simp only [hy] at e; exact n0 h2 e
  | true=>simp only [hy] at e; cases e; exact ⟨u,rfl,h1⟩
theorem look_none_of {α:Type} {x:Str}:∀ {l:List (Str×α)},x ∉ l.map (·.1)→look x l=none
 | [],_=>rfl
 | (y,v)::r,h=>by
  unfold look
  cases hy:sEq y x with
  | false=>exact look_none_of (fun q=>h (by simp [q]))
  | true=>exact absurd (by simp [aK.mp hy]) h
theorem iT {α:Type} (x y:Str) (v:α) (r:List (Str×α)):look x ((y,v)::r)=if y=x then some v else look x r:=by
 show (match sEq y x with | true=>some v | false=>look x r)=_
 cases hy:sEq y x with
 | false=>rw [if_neg (fun e=>by rw [aK.mpr e] at hy; exact tf hy)]
 | true=>rw [if_pos (aK.mp hy)]
theorem uU {k:Str→Option NameKind} {x:Str} (hx:k x=some .local):∀ (binds:List (Str×Value)) (m:Str→Option Value),(binds.map (·.1)).Nodup→bindL k binds m x=(look x binds).or (m x)
 | [],m,_=>by simp [bindL,look]
 | (y,v)::r,m,hn=>by
  have hn:(y::r.map (·.1)).Nodup:=hn
  obtain ⟨h1,h2⟩:=List.nodup_cons.mp hn
  unfold bindL
  rw [uU hx r _ h2,iT]
  by_cases hy:y=x
  ·subst hy
   rw [if_pos hx,if_pos rfl,look_none_of h1]
   simp
  ·rw [if_neg hy]
   split
   ·simp [Ne.symm hy]
   ·rfl
theorem uT {k:Str→Option NameKind} {x:Str} (hx:k x ≠ some .local):∀ (binds:List (Str×Value)) (m:Str→Option Value),(binds.map (·.1)).Nodup→bindC k binds m x=(look x binds).or (m x)
 | [],m,_=>by simp [bindC,look]
 | (y,v)::r,m,hn=>by
  have hn:(y::r.map (·.1)).Nodup:=hn
  obtain ⟨h1,h2⟩:=List.nodup_cons.mp hn
  unfold bindC
  rw [uT hx r _ h2,iT]
  by_cases hy:y=x
  ·subst hy
   rw [if_neg hx,if_pos rfl,look_none_of h1]
   simp
  ·rw [if_neg hy]
   split
   ·rfl
   ·simp [Ne.symm hy]
theorem lR:∀ {l:List Str},noDup l=true→l.Nodup
 | [],_=>.nil
 | x::r,e=>by
  have e:=(show (match r.any (fun y=>sEq y x) with | true=>false | false=>noDup r)=true from e)
  refine boolF (b:=r.any (fun y=>sEq y x)) (fun ha=>?_) fun ha=>?_
  ·rw [ha] at e
   refine List.nodup_cons.mpr ⟨fun hx=>?_,lR e⟩
   rw [List.any_eq_false] at ha
   exact ha x hx (aK.mpr rfl)
  ·rw [ha] at e; exact ft e
theorem aFW {sc:Scope} {y:Str} {r:List Str} (e:eB sc (y::r)=true):(kindIn sc y=some .local∨kindIn sc y=some .cell)∧eB sc r=true:=by
 have e:=(show (match kindIn sc y with | some .local=>eB sc r | some .cell=>eB sc r | _=>false)=true from e)
 cases h:kindIn sc y with
 | none=>rw [h] at e; exact ft e
 | some k =>
  rw [h] at e
  cases k with
  | «local»=>exact ⟨.inl rfl,e⟩
  | cell=>exact ⟨.inr rfl,e⟩
  | _=>exact ft e
theorem oE {sc:Scope}:∀ {l:List Str},eB sc l=true→∀ x ∈ l,kindIn sc x=some .local∨kindIn sc x=some .cell
 | [],_,x,hx=>nomatch hx
 | y::r,e,x,hx=>by
  obtain ⟨hk,e⟩:=aFW e
  rcases List.mem_cons.mp hx with rfl | hx
  ·exact hk
  ·exact oE e x hx
theorem zV {ps:Arguments} (e:fC ps=true):ps=⟨[],ps.args,none,[],[],none,ps.defaults⟩:=by
 obtain ⟨a,b,c,d,f,g,k⟩:=ps
 cases a with
 | cons _ _=>exact ft e
 | nil=>cases c with
  | some _=>exact ft e
  | none=>cases d with
   | cons _ _=>exact ft e
   | nil=>cases f with
    | cons _ _=>exact ft e
    | nil=>cases g with
     | some _=>exact ft e
     | none=>rfl
theorem zW {ps:Arguments} (e:fC ps=true):ps.posonlyargs=[]∧ps.vararg=none∧ps.kwonlyargs=[]∧ps.kwarg=none:=by
 rw [zV e]; exact ⟨rfl,rfl,rfl,rfl⟩
theorem aKs {ps:Arguments} {sc:Scope} {x:Str}:(mutcOf ps sc).any (fun y=>sEq y x)=true ↔ (x,NameKind.cell) ∈ sc.names∧x ∉ argNames ps:=by
 unfold mutcOf
 rw [List.any_eq_true]
 constructor
 ·rintro ⟨y,hy,e⟩
  have:=aK.mp e
  clear e; subst this
  obtain ⟨⟨z,k⟩,hz,z1⟩:=List.mem_map.mp hy; clear hy; subst z1
  obtain ⟨h1,h2⟩:=List.mem_filter.mp hz; clear hz
  cases k <;> first | (simp at h2; done) | skip
  refine ⟨h1,fun q=>?_⟩
  refine boolF (b:=(argNames ps).any (fun y=>sEq y z)) (fun ha=>?_) fun ha=>?_
  ·rw [List.any_eq_false] at ha
   exact ha z q (aK.mpr rfl)
  ·rw [ha] at h2; exact ft h2
 ·rintro ⟨h1,h2⟩
  refine ⟨x,List.mem_map.mpr ⟨(x,.cell),List.mem_filter.mpr ⟨h1,?_⟩,rfl⟩,aK.mpr rfl⟩
  have:(argNames ps).any (fun y=>sEq y x)=false:=by
   rw [List.any_eq_false]
   intro y hy e
   exact h2 (aK.mp e ▸ hy)
  simp [this]
noncomputable def eP (mu:List Str) (cells:List (Str×Addr)):List Addr:=(cells.filter fun p=>(mu.any fun y=>sEq y p.1) && (cells.lookup p.1 == some p.2)).map (·.2)
theorem lN {mu:List Str} {cells:List (Str×Addr)} {c:Addr}:c ∈ eP mu cells ↔ ∃ x,cells.lookup x=some c∧mu.any (fun y=>sEq y x)=true:=by
 unfold eP
 rw [List.mem_map]
 constructor
 ·rintro ⟨⟨x,c'⟩,hx,rfl⟩
  obtain ⟨h1,h2⟩:=List.mem_filter.mp hx
  simp only [Bool.and_eq_true,beq_iff_eq] at h2
  exact ⟨x,h2.2,h2.1⟩
 ·rintro ⟨x,h1,h2⟩
  exact ⟨(x,c),List.mem_filter.mpr ⟨dM h1,by simp [h1,h2]⟩,rfl⟩
theorem aF9 {mu:List Str} {cells:List (Str×Addr)} (h:cells.Pairwise fun x y=>x.2 ≠ y.2):(eP mu cells).Nodup:=by
 unfold eP
 rw [List.Nodup,List.pairwise_map]
 exact List.Pairwise.sublist List.filter_sublist h
set_option backward.match.sparseCases true in
abbrev mI (E Q:Value→Shared→Prop):Result→Shared→Prop:=fun r s'=>match r with | .ok (.ret v)=>Q v s' | .ok _=>False | .error e=>E e s'
noncomputable def f8 (w:World) (g:Heap) (n:Nat) (a:Addr) (body:List V→R V):Prop :=
 ∀ {args:List V} {σ:aC} {v:V} {σ' : aC} {A:Around} {s:Shared} {G:Gh} {us:List Value} {E Q:Value→Shared→Prop},body args σ=some (v,σ')→aU n A→Inv w g G σ s.heap→VRs G s.heap args us →
  aP w g G σ' s (fun G h u=>VR G h v u) Q→codeAny (MW w) A (.call (.ref a) ⟨us,[]⟩) (mI E Q) s
theorem aDY {ps:Arguments} {sc:Scope} {a c:Addr} {qual:Str} {W:List V} {us:List Value} {st:Shared} {L:Addr} (hsc:dH sc=true) (hno:eB sc (argNames ps)=true) (hnd:(argNames ps).Nodup)
 (hME:ME = { scope:=sc,locals:=L,globals:=mainGlobals,cells:=cellsFrom (L + 1) sc.names [],qual:=qual++".<locals>.",func:=some a,code:=.ref c,frame:=some L,builtins:=builtinsNs })
 (hL:L=s.heap.objs.size) (I:Inv w g G σ s.heap) (hW:VRs G s.heap W us) (hlen:(argNames ps).length=us.length) (hlam:∀ c' P,gK a=some (c',P)→c' = c∧qual++".<locals>."++"<lambda>" = fW P)
 (x:InCallC s L (bindL ME.kindOf ((argNames ps).zip us) fun _=>none) ME.cells (bindC ME.kindOf ((argNames ps).zip us) fun _=>none) st) :
 ∃ xs,(∀ b ∈ xs,s.heap.get? b=none)∧Inv w g (G.hid xs) σ st.heap∧Frm (G.hid xs) st.heap ⟨sc,some a,mutcOf ps sc⟩ ((argNames ps).zip W) ME xs:=by
 obtain ⟨k1,k2,k3,k4,k5⟩:=i5 hsc
 have hk:=x.toInCall.keep
 have hkind:∀ y,ME.kindOf y=kindIn sc y:=fun y=>by unfold Env.kindOf kindIn; rw [dF,hME]
 have cell_alive:∀ y d,ME.cells.lookup y=some d→∃ o,st.heap.get? d=some o:=fun y d q=>let ⟨o,e,_⟩:=x.cell y d q; ⟨o,e⟩
 have mem_look:∀ y d,ME.cells.lookup y=some d→(y,d) ∈ ME.cells:=fun y d q=>dM q
 have cinj:∀ y z d,(y,d) ∈ ME.cells→(z,d) ∈ ME.cells→y=z:=fun y z d h1 h2=>name_of_addr x.apart h1 h2
 have hbn:(((argNames ps).zip us).map (·.1)).Nodup:=by
  rw [List.map_fst_zip (by lia)]; exact hnd
 have fresh_c:∀ y d,(y,d) ∈ ME.cells→s.heap.get? d=none:=fun y d q=>dY (by have:=x.above y d q; rw [hL] at this; exact Nat.le_of_lt this)
 have fresh_l:∀ y d,ME.cells.lookup y=some d→s.heap.get? d=none:=fun y d q=>fresh_c y d (dM q)
 clear mem_look fresh_c; obtain ⟨oL,hoL⟩:∃ o,st.heap.get? L=some o:=by
  obtain ⟨o,_,_,q,_⟩:=x.toInCall.ns
  exact ⟨o,q⟩
 have hfr:∀ b ∈ L::eP (mutcOf ps sc) ME.cells,s.heap.get? b=none:=fun b hb=>by
  clear hME x hoL; rcases List.mem_cons.mp hb with rfl | hb
  ·exact dY (by rw [hL]; exact Nat.le_refl _)
  ·obtain ⟨y,h1,_⟩:=lN.mp hb
   exact fresh_l y b h1
 have hal:∀ b ∈ L::eP (mutcOf ps sc) ME.cells,∃ o,st.heap.get? b=some o:=fun b hb=>by
  clear hME hL x hfr; rcases List.mem_cons.mp hb with rfl | hb
  ·exact ⟨oL,hoL⟩
  ·obtain ⟨y,h1,_⟩:=lN.mp hb
   exact cell_alive y b h1
 have hLc:∀ y d,ME.cells.lookup y=some d→d ≠ L:=fun y d q e=>by
  have:=x.above y d (dM q)
  rw [e] at this; exact Nat.lt_irrefl _ this
 have hnx:(L::eP (mutcOf ps sc) ME.cells).Nodup:=List.nodup_cons.mpr ⟨fun q=>by
  obtain ⟨y,h1,_⟩:=lN.mp q
  exact hLc y L h1 rfl,aF9 x.apart⟩
 obtain ⟨I1,C1⟩:=I.hide hk hnx hfr hal; clear hal hnx
 have hW1:=hW.step C1
 refine ⟨L::eP (mutcOf ps sc) ME.cells,hfr,I1,?_⟩
 have own_new:∀ d,s.heap.get? d=none→d ∉ L::eP (mutcOf ps sc) ME.cells→d ∉ (G.hid (L::eP (mutcOf ps sc) ME.cells)).own:=fun d hd hx q=>by
  rcases fU.mp q with q | q
  ·obtain ⟨o,e⟩:=I.there q; rw [hd] at e; exact nx e
  ·exact hx q
 have mu_new:∀ d,s.heap.get? d=none→d ∉ (G.hid (L::eP (mutcOf ps sc) ME.cells)).mu:=fun d hd q=>by
  obtain ⟨o,e⟩:=I.there (List.mem_append_left _ q:d ∈ G.own); rw [hd] at e; exact nx e
 have cell_not:∀ y d,ME.cells.lookup y=some d→(mutcOf ps sc).any (fun z=>sEq z y)=false→d ∉ L::eP (mutcOf ps sc) ME.cells:=fun y d q hm hz=>by
  rcases List.mem_cons.mp hz with e | hz
  ·exact hLc y d q e
  ·obtain ⟨z,h1,h2⟩:=lN.mp hz
   have:=cinj y z d (dM q) (dM h1)
   clear h1; subst this
   rw [hm] at h2; exact ft h2
 have m1:ME.scope=sc:=by rw [hME]
 have m2:ME.globals=mainGlobals:=by rw [hME]
 have m3:ME.builtins=builtinsNs:=by rw [hME]
 have m4:ME.locals=L:=by rw [hME]
 have m5:ME.cells=cellsFrom (L + 1) sc.names []:=by rw [hME]
 have m6:ME.code = .ref c:=by rw [hME]
 have m7:ME.qual=qual++".<locals>.":=by rw [hME]
 refine ⟨m1,k1,m2,m3,fun b hb=>List.mem_append_left _ hb,by rw [m4]; exact .head _,⟨_,by rw [m4]; exact x.toInCall.ns,fun y v hy hv=>?_⟩,fun y v hy hv=>?_,fun y d hm hc=>cell_not y d hc hm,fun y hm hy=>?_,fun y z d h1 h2=>cinj y z d (dM h1) (dM h2),⟨k4,k5⟩,cell_alive,fun a' ha c' P hP=>?_⟩
 ·obtain ⟨u,h1,h2⟩:=n0 hW1 hv
  refine ⟨u,?_,h2⟩
  rw [uU ((hkind y).trans hy) _ _ hbn,h1]; rfl
 ·obtain ⟨u,h1,h2⟩:=n0 hW1 hv
  have hyc:kindIn sc y=some .cell:=by
   rcases hy with q | q
   ·exact q
   ·exfalso
    have hmem:y ∈ argNames ps:=by
     have:=dF y ((argNames ps).zip W)
     rw [hv] at this
     exact List.of_mem_zip (dM this.symm) |>.1
    rcases oE hno y hmem with z | z <;> (rw [show kindIn sc y=some .free from q] at z; cases z)
  have hsome:(ME.cells.lookup y).isSome=true:=by
   rw [m5]
   exact cellsFrom_some sc.names _ [] (.inl (by rw [← dF]; exact hyc))
  obtain ⟨d,hd⟩:=Option.isSome_iff_exists.mp hsome
  refine ⟨d,u,hd,?_,h2,mu_new d (fresh_l y d hd)⟩
  have:=x.cell y d hd
  rw [uT (by rw [hkind,hyc]; exact fun z=>by cases z) _ _ hbn,h1] at this
  exact this
 ·have hsome:(ME.cells.lookup y).isSome=true:=by
   clear x hkind cell_alive cinj fresh_l hfr hLc I1 C1 hW1 own_new mu_new cell_not m1 m2 m3 m4 m5 m6 m7; subst hME
   exact cellsFrom_some sc.names _ [] (.inl (by rw [← dF]; exact hy))
  obtain ⟨d,hd⟩:=Option.isSome_iff_exists.mp hsome
  exact ⟨d,_,hd,x.cell y d hd,List.mem_cons_of_mem _ (lN.mpr ⟨y,hd,hm⟩)⟩
 ·clear hME; cases ha
  obtain ⟨q1,q2⟩:=hlam c' P hP
  refine ⟨by rw [m6,q1],by rw [m7]; exact q2,fun y d hd hm=>own_new d (fresh_l y d hd) (cell_not y d hd hm)⟩
inductive tX (names:List Str) (args dflt:List V) (env:aB):Prop
 | mk (h1:args.length ≤ names.length) (h2:names.length ≤ args.length + dflt.length) (h3:dflt.length ≤ names.length) (h:env=names.zip (args++dflt.drop (args.length + dflt.length - names.length)))
theorem uS {names:List Str} {args dflt:List V} {env:aB} (e:bindArgs' names args dflt=some env):tX names args dflt env:=by
 obtain ⟨q1,q2,q3,z⟩:=aD9 (a:=Nat.ble args.length names.length) (b:=Nat.ble names.length (args.length + dflt.length)) (c:=Nat.ble dflt.length names.length) e
 exact ⟨Nat.le_of_ble_eq_true q1,Nat.le_of_ble_eq_true q2,Nat.le_of_ble_eq_true q3,z⟩
noncomputable def flV:Fl→V
 | .ret v=>v
 | .next=>.pv .none
inductive FnJ (I' : Sys) (a:Addr) (ps:Arguments) (sc:Scope) (body:List Stmt) (args dflt:List V) (v:V) (σ σ' : aC):Prop
 | mk (h1:fC ps=true) (h2:dH sc=true) (h3:eB sc (argNames ps)=true) (h4:noDup (argNames ps)=true) (env env2:aB) (fl:Fl) (b:tX (argNames ps) args dflt env) (e:blk I' ⟨sc,some a,mutcOf ps sc⟩ env body σ=some ((fl,env2),σ'))
  (hv:v=flV fl)
theorem wO {a:Addr} {name:Str} {ps:Arguments} {body:List Stmt} {x1:List Expr} {x2:Option Expr} {x3:List TypeParam} {sc:Scope} {x4:Option Scope} {x5:Str} {x6:Pos} {args dflt:List V} {v:V} (e:cB I' a (.FunctionDef name ps body x1 x2 x3 sc x4 x5 x6) dflt args σ=some (v,σ')):FnJ I' a ps sc body args dflt v σ σ':=by
 obtain ⟨h1,h2,h3,h4,e⟩:=aEb (a:=fC ps) (b:=dH sc) (c:=eB sc (argNames ps)) (d:=noDup (argNames ps)) e
 obtain ⟨env,σ1,e1,e2⟩:=aH e; clear e
 obtain ⟨e3,z1⟩:=bB e1; clear e1; subst z1
 obtain ⟨⟨fl,env2⟩,σ2,e4,e5⟩:=aH e2; clear e2
 cases fl with
 | next=>exact ⟨h1,h2,h3,h4,env,env2,.next,uS e3,(sp2 (a:=V.pv .none) (b:=σ2) e5).symm ▸ e4,sp1 (a:=V.pv .none) (b:=σ2) e5⟩
 | ret u=>exact ⟨h1,h2,h3,h4,env,env2,.ret u,uS e3,(sp2 (a:=u) (b:=σ2) e5).symm ▸ e4,sp1 (a:=u) (b:=σ2) e5⟩
theorem aDW {fl:Fl} {f:Flow} {Q:Value→Shared→Prop} (r:FlR G h fl f) (k:∀ u,VR G h (flV fl) u→Q u s):(∃ u,f = .ret u∧Q u s)∨(f = .next∧Q .none s):=by
 cases fl with
 | next=>exact .inr ⟨r,k .none (by simp only [flV,VR,PR])⟩
 | ret v=>obtain ⟨u,z,x⟩:=r; exact .inl ⟨u,z,k u x⟩
theorem wP (B:aZ w g mg mb) (HI:aN w g n I') {a:Addr} {name qual:Str} {ps:Arguments} {body:List Stmt} {x1:List Expr} {x2:Option Expr} {x3:List TypeParam} {sc:Scope} {x4:Option Scope} {x5:Str} {x6:Pos} {args dflt:List V} {v:V} {us ds:List Value} {dV pm:Value} {c:Addr} {o:Option (Array Value)} {Q:Value→Shared→Prop}
 (f:FnJ I' a ps sc body args dflt v σ σ') (ho:g.get? a=some (aI (.FunctionDef name ps body x1 x2 x3 sc x4 x5 x6) qual dV pm (.ref c))) (hcd:g.CodeRec (.ref c) qual) (hlam:∀ c' P,gK a=some (c',P)→c' = c∧qual++".<locals>."++"<lambda>" = fW P) (hR:aU (n + 1) A) (I:Inv w g G σ s.heap)
 (xs:VRs G s.heap args us) (P:aP w g G σ' s (fun G h u=>VR G h v u) Q) (hds:(o.getD #[]).toList=ds) (xd:VRs G s.heap dflt ds) (hseq:∀ Q' : Option (Array Value)→Shared→Prop,Q' o s→wpAny (MW w) A.in1 (seqItems? dV) Q' (fun e s'=>mI E Q (.error e) s') s) :
 codeAny (MW w) A (.call (.ref a) ⟨us,[]⟩) (mI E Q) s:=by
 obtain ⟨h1,h2,h3,h4,env,env2,fl,⟨b1,b2,b3,z⟩,e4,hv⟩:=f
 obtain ⟨p1,p2,p3,p4⟩:=zW h1
 obtain ⟨k1,k2,k3,k4,k5⟩:=i5 h2
 have hnd:=lR h4
 have hcd' : s.heap.CodeRec (.ref c) qual:=by
  obtain ⟨c2,o,vs,t,ec,eo,ed,ev⟩:=hcd
  exact ⟨c2,o,vs,t,ec,I.keep _ _ eo,ed,ev⟩
 have hroom:A.depth < recursionLimit:=Nat.lt_of_le_of_lt (Nat.le_trans (Nat.le_add_right _ _) hR.1) (by decide)
 have hWl:(argNames ps).length=(us++ds.drop (us.length + ds.length - (argNames ps).length)).length:=by
  rw [List.length_append,List.length_drop]; exact (tJ (i:=0) (xs.len ▸ b1) (xd.len ▸ b3) (xs.len ▸ xd.len ▸ b2)).1
 have xW:VRs G s.heap (args++dflt.drop (args.length + dflt.length - (argNames ps).length)) (us++ds.drop (us.length + ds.length - (argNames ps).length)):=by
  rw [xs.len,xd.len]; exact xs.append xd.drop
 refine codeAny_call_function (o:=aI (.FunctionDef name ps body x1 x2 x3 sc x4 x5 x6) qual dV pm (.ref c)) (fd:=fnOf name qual ps body sc dV .none .none pm none (.ref c) .none) (body:=body) hroom (I.keep _ _ ho) rfl k3 k2 rfl hcd' ?_
 refine uY (o:=o) (ds:=ds) (names:=argNames ps) p1 p2 p3 p4 rfl hnd (xs.len ▸ b1) (xd.len ▸ b3) (xs.len ▸ xd.len ▸ b2) hds _ _ _ _ s hseq ?_
 clear hseq hds xs xd b1 b2 b3 hcd hcd' ho hroom p1 p2 p3 p4 h1 h4 k2 k3 k4 k5
 generalize args++dflt.drop (args.length + dflt.length - (argNames ps).length)=W at xW z
 generalize us++ds.drop (us.length + ds.length - (argNames ps).length)=U at xW hWl
 rw [z] at e4
 refine wpAny_newFunctionEnv_cells k1 (fun y hy=>?_) fun ME hME st x=>?_
 ·rcases oE h3 y.1 (List.of_mem_zip hy).1 with z | z
  ·exact .inl (dF _ _ ▸ z)
  ·exact .inr ⟨dF _ _ ▸ z,cellsFrom_some sc.names _ [] (.inl (dF _ _ ▸ z))⟩
 have hL:ME.locals=s.heap.objs.size:=by rw [hME]; rfl
 have hME' : ME = { scope:=sc,locals:=s.heap.objs.size,globals:=mainGlobals,cells:=cellsFrom (s.heap.objs.size + 1) sc.names [],qual:=qual++".<locals>.",func:=some a,code:=.ref c,frame:=some s.heap.objs.size,builtins:=builtinsNs }:=hME
 have hk:=x.toInCall.keep
 obtain ⟨fx,hfr,I1,F1⟩:=aDY (a:=a) (c:=c) (qual:=qual) h2 h3 hnd hME' rfl I xW hWl hlam (hL ▸ x)
 refine ⟨(B.lim.keeps I.keep).keeps hk,codeAny_func ?_⟩
 obtain ⟨h₁,tk,hs,_⟩:=x.done
 refine jI HI e4 hR.deeper I1 F1 fun f s2 G2 I2 S2 F2 r2 g2 o2=>?_
 obtain ⟨I3,C3⟩:=I2.unhide (G₀:=G) (S2.ex:G2.ex=fx++G.ex)
 have P3:∀ u,VR (G2.back G) s2.heap v u→Q u s2:=fun u x=>P u s2 (G2.back G) I3 (Stp.leave hk hfr S2 (fun _ _ _ q=>q) fun b hb=>.inl hb) x (g2.trans (by rw [hs])) (o2.trans (by rw [hs]))
 rcases aDW (r2.step C3) fun u x=>P3 u (hv ▸ x) with ⟨u,z,q⟩ | ⟨z,q⟩
 ·exact z ▸ q
 ·exact z ▸ q
theorem wR (B:aZ w g mg mb) (HI:aN w g n I') {a:Addr} {r:fL} (hfn:jB w g a r):f8 w g (n + 1) a (cB I' a r.st r.dflt):=by
 intro args σ v σ' A s G us E Q e hR I xs P
 obtain ⟨qual,dV,pm,c,ho,hcd,hdf,hlam⟩:=hfn.at_
 generalize r.st=st at e ho
 cases st with
 | FunctionDef name ps body x1 x2 x3 sc x4 x5 x6 =>
  rcases hdf with ⟨z,hd⟩ | ⟨t,du,z,ht,hdu⟩
  ·exact wP B HI (wO e) ho hcd hlam hR I xs P (o:=none) (ds:=[]) rfl (by rw [hd]) fun Q' q=>z ▸ wpAny_pure q
  ·obtain ⟨nt,hg⟩:=ht
   exact wP B HI (wO e) ho hcd hlam hR I xs P (o:=some du.toArray) (ds:=du) rfl (hdu.step I.base) fun Q' q=>z ▸ wpAny_seqItems (I.keep _ _ hg) rfl q
 | _=>exact nx e
theorem wQ (B:aZ w g mg mb) (HI:aN w g n I') {a:Addr} {r:fL} (hfn:aX a bU=some r):f8 w g (n + 1) a (cB I' a r.st r.dflt):=wR B HI (B.fn a r hfn)
structure Shift (n:Nat) (G G₁:Gh):Prop where
 pw:G₁.w=G.w
 own:∀ b,b ∈ G₁.own→b ∈ G.own
 g:∀ i,i < n→G₁.g[i]? = G.g[i]?
theorem Shift.not {b:Addr} (T:Shift n G G₁) (hb:b ∉ G.own):b ∉ G₁.own:=fun q=>hb (T.own b q)
mutual
theorem PR.shift (T:Shift n G G₁):∀ {p:PV} {u:Value},PR G h p u→PR G₁ h p u
 | .none,_,x=>x
 | .bool _,_,x=>x
 | .int _,_,x=>x
 | .str _,_,x=>x
 | .bytes _,_,x=>x
 | .tup l,u,x=>by
  obtain ⟨a,us,e,ha,ht,hs⟩:=x
  exact ⟨a,us,e,T.not ha,ht,PRs.shift T hs⟩
 | .lst l,u,x=>by
  obtain ⟨a,us,e,ha,ht,hs⟩:=x
  exact ⟨a,us,e,T.not ha,ht,PRs.shift T hs⟩
theorem PRs.shift (T:Shift n G G₁):∀ {l:List PV} {us:List Value},PRs G h l us→PRs G₁ h l us
 | [],_,x=>x
 | _::_,_,x=>by
  obtain ⟨u,r,e,h1,h2⟩:=x
  exact ⟨u,r,e,PR.shift T h1,PRs.shift T h2⟩
end
theorem iE.shift (T:Shift n G G₁) {f ps body sc us} (x:iE G h f ps body sc us):iE G₁ h f ps body sc us:=by
 obtain ⟨qual,pm,c',ctv,cl,hf,e,hr,hc,hcl,hi,hd,hk⟩:=x
 refine ⟨qual,pm,c',ctv,cl,T.not hf,e,hr,T.not hc,fun y u q=>?_,hi,hd,hk⟩
 obtain ⟨c,e1,e2,e3⟩:=hcl y u q
 exact ⟨c,e1,e2,T.not e3⟩
mutual
theorem VR.shift (T:Shift n G G₁):∀ {p:V} {u:Value},okV n p=true→VR G h p u→VR G₁ h p u
 | .pv _,_,_,x=>by exact PR.shift T x
 | .tup l,u,ok,x=>by
  obtain ⟨a,us,e,ha,ht,hs⟩:=x
  exact ⟨a,us,e,T.not ha,ht,VRs.shift T ok hs⟩
 | .vl l,u,ok,x=>by
  obtain ⟨a,us,e,ha,ht,hs⟩:=x
  exact ⟨a,us,e,T.not ha,ht,VRs.shift T ok hs⟩
 | .fz c as,u,ok,x=>by
  obtain ⟨a,d,us,e,ha,hd,hi,hs⟩:=x
  exact ⟨a,d,us,e,T.not ha,T.not hd,hi,VRas.shift T ok hs⟩
 | .vd as,u,ok,x=>by
  obtain ⟨d,us,e,hd,hi,hs⟩:=x
  exact ⟨d,us,e,T.not hd,T.pw ▸ hi,VRas.shift T ok hs⟩
 | .ob i,u,ok,x=>by
  obtain ⟨p,e,q⟩:=x
  have:i < n:=by
   exact Nat.le_of_ble_eq_true (show Nat.ble (i + 1) n=true from ok)
  exact ⟨p,by rw [T.g i this]; exact e,q⟩
 | .li i,u,ok,x=>by exact ft ok
 | .st _,_,_,x=>x
 | .clo ps body sc capt,u,ok,x=>by
  obtain ⟨f,us,e,hc,hs⟩:=x
  exact ⟨f,us,e,hc.shift T,VRas.shift T ok hs⟩
theorem VRs.shift (T:Shift n G G₁):∀ {l:List V} {us:List Value},okVs n l=true→VRs G h l us→VRs G₁ h l us
 | [],_,_,x=>x
 | v::r,us,ok,x=>by
  obtain ⟨u,us',e,h1,h2⟩:=x
  obtain ⟨hv,ok⟩:=bt ok
  exact ⟨u,us',e,VR.shift T hv h1,VRs.shift T ok h2⟩
theorem VRas.shift (T:Shift n G G₁):∀ {l:List (Str×V)} {us:List (Str×Value)},okAs n l=true→VRas G h l us→VRas G₁ h l us
 | [],_,_,x=>x
 | (y,v)::r,us,ok,x=>by
  obtain ⟨u,us',e,h1,h2⟩:=x
  obtain ⟨hv,ok⟩:=bt ok
  exact ⟨u,us',e,VR.shift T hv h1,VRas.shift T ok h2⟩
end
theorem yZ (T:bK):∀ (l:List Tk),okVs n (l.map (tkV T))=true
 | []=>rfl
 | _::r=>yZ T r
theorem GR.shift (T:Shift n G G₁) {p:Addr×Addr} {c:GCell} (ok:okG n c=true) (x:GR G h p c):GR G₁ h p c:=by
 cases c with
 | obj c as=>obtain ⟨us,a,b⟩:=x; exact ⟨us,a,b.shift T ok⟩
 | rdr pre rest nm =>
  obtain ⟨hb,us,a,b⟩:=x
  refine ⟨hb,us,a,b.shift T ?_⟩
  have ok:okV n nm=true:=ok
  show (match okVs n ((pre++rest).map (tkV TT)) with | true=>(match okV n nm with | true=>true | false=>false) | false=>false)=true
  rw [yZ,ok]
theorem sN:∀ {l:List GCell},okGs n l=true→∀ {i:Nat} {c:GCell},l[i]? = some c→okG n c=true
 | [],_,i,c,e=>nx e
 | d::r,ok,0,c,e=>so e ▸ (bt ok).1
 | d::r,ok,i + 1,c,e=>sN (bt ok).2 (i:=i) e
theorem y9:∀ {l:List V},okV n (mkVl l)=true→okVs n l=true:=by
 intro l ok
 unfold mkVl at ok
 split at ok
 ·rename_i ps e
  have:∀ {l:List V} {ps:List PV},allPv l=some ps→okVs n l=true:=by
   intro l
   induction l with
   | nil=>intro _ _; rfl
   | cons v r ih =>
    intro ps e
    cases v with
    | pv p =>
     obtain ⟨q,hr,_⟩:=obP e
     exact ih hr
    | _=>exact nx e
  exact this e
 ·exact ok
theorem Inv.sz (I:Inv w g G σ h):G.g.length=σ.g.length:=I.lg
theorem Inv.cover (I:Inv w g G σ h) (ok:okGs σ.g.length σ.g=true):Inv w g { G with l:=[],ex:=G.l++G.ex } ⟨σ.g,[]⟩ h∧Shift σ.g.length G { G with l:=[],ex:=G.l++G.ex }∧Shift σ.g.length { G with l:=[],ex:=G.l++G.ex } G:=by
 have ho:∀ b,b ∈ ({ G with l:=[],ex:=G.l++G.ex }:Gh).own ↔ b ∈ G.own:=by
  intro b
  show b ∈ (G.gm++[]++aS)++(G.l++G.ex) ↔ b ∈ (G.gm++G.l++aS)++G.ex
  simp only [List.mem_append,List.append_nil]
  constructor
  ·rintro ((q | q) | q | q) <;> simp [q]
  ·rintro (((q | q) | q) | q) <;> simp [q]
 have T:Shift σ.g.length G { G with l:=[],ex:=G.l++G.ex }:=⟨rfl,fun b q=>(ho b).mp q,fun _ _=>rfl⟩
 have T' : Shift σ.g.length { G with l:=[],ex:=G.l++G.ex } G:=⟨rfl,fun b q=>(ho b).mpr q,fun _ _=>rfl⟩
 refine ⟨⟨I.pw,I.keep,fun b hb=>I.fresh b ((ho b).mp hb),?_,fun b hb=>?_,I.lg,rfl,fun i p c e1 e2=>(I.gs i p c e1 e2).shift T (sN ok e2),fun i a l e1 e2=>by simp at e1,fun P hP=>?_⟩,T,T'⟩
 ·have hp:List.Perm ((G.gm++[]++aS)++(G.l++G.ex)) ((G.gm++G.l++aS)++G.ex):=by
   rw [List.append_nil,List.append_assoc,List.append_assoc,List.append_assoc]
   refine List.Perm.append_left _ ?_
   rw [← List.append_assoc,← List.append_assoc]
   exact List.Perm.append_right _ List.perm_append_comm
  exact hp.nodup_iff.mpr I.nodup
 ·exact I.there (by
   rcases List.mem_append.mp hb with q | q
   ·exact List.mem_append_left _ (fV q)
   ·exact List.mem_append_right _ q)
 ·obtain ⟨ps,q1,q2,q3⟩:=I.tabs P hP
  exact ⟨ps,q1,q2,fun pos cv z=>let ⟨c',z1,z2,z3⟩:=q3 pos cv z; ⟨c',z1,T.not z2,z3⟩⟩
theorem Inv.uncover {G₂:Gh} (I:Inv w g G σ h) (ok:okGs σ.g.length σ.g=true) (I₂:Inv w g G₂ σ₁ h') (S:Stp [] { G with l:=[],ex:=G.l++G.ex } h G₂ h') (ok' : okGs σ.g.length (σ₁.g.take σ.g.length)=true) :
 Inv w g G ⟨σ₁.g.take σ.g.length,σ.l⟩ h'∧Stp [] G h G h'∧Shift σ.g.length G₂ G∧(∀ a ∈ G₂.l,a ∉ G.own):=by
 obtain ⟨I1,T1,T1'⟩:=I.cover ok
 have hex:G₂.ex=G.l++G.ex:=S.ex
 have hg:∀ i,i < σ.g.length→G₂.g[i]? = G.g[i]?:=fun i hi=>by
  have:i < G.g.length:=I.lg ▸ hi
  rw [S.pg i _ (List.getElem?_eq_getElem this),List.getElem?_eq_getElem this]
 have gm:∀ b ∈ G.gm,b ∈ G₂.gm:=fun b hb=>by
  rcases List.mem_append.mp hb with hb | hb
  ·obtain ⟨p,hp,z1⟩:=List.mem_map.mp hb; clear hb; subst z1
   obtain ⟨i,hi,z1⟩:=List.getElem_of_mem hp; clear hp; subst z1
   exact (c6 (S.pg i _ (List.getElem?_eq_getElem hi))).1
  ·obtain ⟨p,hp,z1⟩:=List.mem_map.mp hb; clear hb; subst z1
   obtain ⟨i,hi,z1⟩:=List.getElem_of_mem hp; clear hp; subst z1
   exact (c6 (S.pg i _ (List.getElem?_eq_getElem hi))).2
 have own:∀ b,b ∈ G.own→b ∈ G₂.gm∨b ∈ aS∨b ∈ G₂.ex:=fun b hb=>by
  rcases List.mem_append.mp hb with hb | hb
  ·rcases List.mem_append.mp hb with hb | hb
   ·rcases List.mem_append.mp hb with hb | hb
    ·exact .inl (gm b hb)
    ·exact .inr (.inr (by rw [hex]; exact List.mem_append_left _ hb))
   ·exact .inr (.inl hb)
  ·exact .inr (.inr (by rw [hex]; exact List.mem_append_right _ hb))
 have T2:Shift σ.g.length G₂ G:=⟨S.pw.symm,fun b hb=>by
  rcases own b hb with q | q | q
  ·exact List.mem_append_left _ (cV q)
  ·exact List.mem_append_left _ (dP q)
  ·exact List.mem_append_right _ q,fun i hi=>(hg i hi).symm⟩
 have mu1:∀ b,b ∈ ({ G with l:=[],ex:=G.l++G.ex }:Gh).mu→b ∈ G.mu:=fun b hb=>by
  have hb:b ∈ G.gm++[]++aS:=hb
  rw [List.append_nil] at hb
  rcases List.mem_append.mp hb with q | q
  ·exact cV q
  ·exact dP q
 have C:Car G h G h':=⟨rfl,fun {b o} e hb=>⟨S.keep b o e (fun q=>hb (List.mem_append_left _ (mu1 b q))) (fun q=>nomatch q),hb⟩,fun _ _ e=>e,fun _ _ e=>e⟩
 have np:=I₂.nodup
 refine ⟨⟨I.pw,I₂.keep,I.fresh,I.nodup,fun b hb=>?_,?_,I.ll,fun i p c e1 e2=>?_,fun i a l e1 e2=>?_,fun P hP=>?_⟩,⟨fun b o e hm hx=>S.keep b o e (fun q=>hm (mu1 b q)) hx,S.live,fun _ _ e=>e,fun _ _ e=>e,rfl,rfl,fun _ hb=>.inl hb⟩,T2,fun a ha hb=>?_⟩
 ·exact I₂.alive b (by rw [hex]; exact List.mem_append_right _ hb)
 ·have:σ.g.length ≤ σ₁.g.length:=by
   rw [← I.lg,← I₂.lg]
   rcases Nat.eq_zero_or_pos G.g.length with q | q
   ·lia
   ·have hl:G.g.length - 1 < G.g.length:=by lia
    have:=S.pg (G.g.length - 1) _ (List.getElem?_eq_getElem hl)
    obtain ⟨z,_⟩:=List.getElem?_eq_some_iff.mp this
    lia
  show G.g.length=(σ₁.g.take σ.g.length).length
  rw [List.length_take,I.lg]; lia
 ·have hi:i < σ.g.length:=by
   have:=(List.getElem?_eq_some_iff.mp e1).1
   rw [I.lg] at this; exact this
  have e2:(σ₁.g.take σ.g.length)[i]? = some c:=e2
  have e2' : σ₁.g[i]? = some c:=by rw [List.getElem?_take] at e2; rw [if_pos hi] at e2; exact e2
  exact (I₂.gs i p c (by rw [hg i hi]; exact e1) e2').shift T2 (sN ok' e2)
 ·refine (I.ls i a l e1 e2).car C fun o q=>S.keep a o q (fun z=>?_) (fun z=>nomatch z)
  have ha:a ∈ ({ G with l:=[],ex:=G.l++G.ex }:Gh).ex:=List.mem_append_left _ (List.mem_of_getElem? e1)
  exact I1.ex_mu ha z
 ·obtain ⟨ps,q1,q2,q3⟩:=I₂.tabs P hP
  exact ⟨ps,q1,q2,fun pos cv z=>let ⟨c',z1,z2,z3⟩:=q3 pos cv z; ⟨c',z1,T2.not z2,z3⟩⟩
 ·have np:((G₂.gm++G₂.l++aS)++G₂.ex).Nodup:=np
  obtain ⟨n1,n2,n3⟩:=List.nodup_append.mp np
  obtain ⟨n4,n5,n6⟩:=List.nodup_append.mp n1
  obtain ⟨n7,n8,n9⟩:=List.nodup_append.mp n4
  rcases own a hb with q | q | q
  ·exact n9 a q a ha rfl
  ·exact n6 a (List.mem_append_right _ ha) a q rfl
  ·exact n3 a (List.mem_append_left _ (List.mem_append_right _ ha)) a q rfl
theorem aEN {a:Addr} {body:List V→R V} (H:f8 w g n a body):f8 w g n a (fun args=>gI args body):=by
 intro args σ v σ' A s G us E Q e hR I xs P
 have e:=(show (match okVs σ.g.length args,okGs σ.g.length σ.g with
  | true,true=>(match body args ⟨σ.g,[]⟩ with
   | some (v,σ')=>(match eH v σ' with
    | some (v',_)=>(match okV σ.g.length v',okGs σ.g.length (σ'.g.take σ.g.length) with
     | true,true=>some (v',(⟨σ'.g.take σ.g.length,σ.l⟩:aC))
     | _,_=>none)
    | none=>none)
   | none=>none)
  | _,_=>none)=some (v,σ') from e)
 refine boolF (b:=okVs σ.g.length args) (fun h1=>?_) fun h1=>?_
 ·simp only [h1] at e; exact nx e
 refine boolF (b:=okGs σ.g.length σ.g) (fun h2=>?_) fun h2=>?_
 ·simp only [h1,h2] at e; exact nx e
 simp only [h1,h2] at e
 refine optE (o:=body args ⟨σ.g,[]⟩) (fun h3=>?_) fun r3 h3=>?_
 ·simp only [h3] at e; exact nx e
 obtain ⟨v3,σ3⟩:=r3
 simp only [h3] at e
 refine optE (o:=eH v3 σ3) (fun h4=>?_) fun r4 h4=>?_
 ·simp only [h4] at e; exact nx e
 obtain ⟨v4,σ4⟩:=r4
 simp only [h4] at e
 refine boolF (b:=okV σ.g.length v4) (fun h5=>?_) fun h5=>?_
 ·simp only [h5] at e; exact nx e
 refine boolF (b:=okGs σ.g.length (σ3.g.take σ.g.length)) (fun h6=>?_) fun h6=>?_
 ·simp only [h5,h6] at e; exact nx e
 simp only [h5,h6] at e
 cases e
 clear e; obtain ⟨I1,T1,_⟩:=I.cover h2
 refine H h3 hR I1 (xs.shift T1 h1) fun u s2 G2 I2 S2 x2 g2 o2=>?_
 clear h3; obtain ⟨I3,S3,T3,hl⟩:=I.uncover h2 I2 S2 h6; clear h6
 refine P u s2 G I3 S3 ?_ g2 o2
 clear P I3; cases v3 with
 | li i =>
  obtain ⟨l,τ,e5,e6⟩:=aH (m:=getL i) h4; clear h4
  obtain ⟨hli,z1⟩:=jT e5; clear e5; subst z1
  cases e6
  obtain ⟨b,hb,rfl⟩:=x2
  obtain ⟨ls,hx,hv⟩:=I2.ls i b l hb hli
  exact lP (hl b (List.mem_of_getElem? hb)) hx.at (hv.shift T3 (y9 h5))
 | _=>cases h4; exact x2.shift T3 h5
abbrev Gh.bare (G:Gh):Gh:={ G with l:=[] }
theorem kU {b:Addr} (hb:b ∈ G.bare.own):b ∈ G.own∧(G.own.Nodup→b ∉ G.l):=by
 have hb:b ∈ (G.gm++[]++aS)++G.ex:=hb
 rw [List.append_nil] at hb
 refine ⟨?_,fun hn ha=>?_⟩
 ·rcases List.mem_append.mp hb with q | q
  ·rcases List.mem_append.mp q with q | q
   ·exact List.mem_append_left _ (cV q)
   ·exact List.mem_append_left _ (dP q)
  ·exact List.mem_append_right _ q
 ·have hn:((G.gm++G.l++aS)++G.ex).Nodup:=hn
  obtain ⟨n1,n2,n3⟩:=List.nodup_append.mp hn
  obtain ⟨n4,n5,n6⟩:=List.nodup_append.mp n1
  obtain ⟨n7,n8,n9⟩:=List.nodup_append.mp n4
  rcases List.mem_append.mp hb with q | q
  ·rcases List.mem_append.mp q with q | q
   ·exact n9 b q b ha rfl
   ·exact n6 b (List.mem_append_right _ ha) b q rfl
  ·exact n3 b (List.mem_append_left _ (List.mem_append_right _ ha)) b q rfl
theorem uR:Shift n G G.bare:=⟨rfl,fun _ hb=>(kU hb).1,fun _ _=>rfl⟩
theorem aEO (I:Inv w g G σ h):∀ {args args' : List V} {σ₂:aC} {us:List Value},mapR eH args σ=some (args',σ₂)→VRs G h args us→okVs n args' = true→VRs G.bare h args' us:=by
 intro args
 have go:∀ {args args' : List V} {τ σ₂:aC} {us:List Value},τ=σ→mapR eH args τ=some (args',σ₂)→VRs G h args us→okVs n args' = true→VRs G.bare h args' us:=by
  intro args
  induction args with
  | nil=>intro args' τ σ₂ us _ e x _; cases e; simpa only [VRs] using x
  | cons v r ih =>
   intro args' τ σ₂ us hτ e x ok
   have e:=(show Rbind (eH v) (fun b=>Rbind (mapR eH r) fun bs=>Rpure (b::bs)) τ=some (args',σ₂) from e)
   obtain ⟨b,σa,e1,e2⟩:=aH e; clear e
   obtain ⟨bs,σb,e3,e4⟩:=aH e2; clear e2
   cases e4
   obtain ⟨u,us',rfl,x1,x2⟩:=x
   obtain ⟨hb,ok⟩:=bt ok
   ·have keyed:σa=τ∧VR G.bare h b u:=by
     clear ih; cases v with
     | li i =>
      obtain ⟨l,σc,e5,e6⟩:=aH (m:=getL i) e1; clear e1
      obtain ⟨hli,z1⟩:=jT e5; clear e5; subst z1
      cases e6
      subst hτ
      obtain ⟨a,ha,rfl⟩:=x1
      obtain ⟨ls,hx,hv⟩:=I.ls i a l ha hli
      refine ⟨rfl,lP (fun q=>(kU q).2 I.nodup (List.mem_of_getElem? ha)) hx.at (hv.shift uR (y9 hb))⟩
     | _=>cases e1; exact ⟨rfl,x1.shift uR hb⟩
    obtain ⟨h1,h2⟩:=keyed
    exact ⟨u,us',rfl,h2,ih (h1.trans hτ) e3 x2 ok⟩
 intro args' σ₂ us e x ok
 exact go rfl e x ok
theorem flat_VR {v:V} {u:Value} (hf:lF v=true) (x:VR G h v u):VR G₁ h' v u:=by
 cases v with
 | pv p =>
  cases p <;> first | exact x | exact ft hf
 | _=>exact ft hf
theorem aEP {a:Addr} {body:List V→R V} (H:f8 w g n a body):f8 w g n a (fun args=>lM args body):=by
 intro args σ v σ' A s G us E Q e hR I xs P
 have e:=(show (match dK σ.g,mapR eH args σ with
  | true,some (args',_)=>(match okVs 0 args',body args' ⟨[],[]⟩ with
   | true,some (v,_)=>(match lF v with
    | true=>some (v,(⟨[],σ.l⟩:aC))
    | false=>none)
   | _,_=>none)
  | _,_=>none)=some (v,σ') from e)
 refine boolF (b:=dK σ.g) (fun h1=>?_) fun h1=>?_
 ·simp only [h1] at e; exact nx e
 refine optE (o:=mapR eH args σ) (fun h2=>?_) fun r2 h2=>?_
 ·simp only [h1,h2] at e; exact nx e
 obtain ⟨args',σ2⟩:=r2
 simp only [h1,h2] at e
 refine boolF (b:=okVs 0 args') (fun h3=>?_) fun h3=>?_
 ·simp only [h3] at e; exact nx e
 refine optE (o:=body args' ⟨[],[]⟩) (fun h4=>?_) fun r4 h4=>?_
 ·simp only [h3,h4] at e; exact nx e
 obtain ⟨v4,σ4⟩:=r4
 simp only [h3,h4] at e
 refine boolF (b:=lF v4) (fun h5=>?_) fun h5=>?_
 ·simp only [h5] at e; exact nx e
 simp only [h5] at e
 cases e
 have hg:σ.g=[]:=by cases hσ:σ.g with | nil=>rfl | cons _ _=>rw [hσ] at h1; exact ft h1
 have hgG:G.g=[]:=List.eq_nil_of_length_eq_zero (by rw [I.lg,hg]; rfl)
 have I1:Inv w g G.bare ⟨[],[]⟩ s.heap:=by
  refine ⟨I.pw,I.keep,fun b hb=>I.fresh b (kU hb).1,?_,I.alive,by show G.g.length=0; rw [hgG]; rfl,rfl,fun i p c e1 e2=>by simp at e2,fun i a l e1 e2=>by simp at e1,fun P hP=>?_⟩
  ·have hn:((G.gm++G.l++aS)++G.ex).Nodup:=I.nodup
   show ((G.gm++[]++aS)++G.ex).Nodup
   refine List.Sublist.nodup ?_ hn
   exact List.Sublist.append (List.Sublist.append (List.Sublist.append (List.Sublist.refl _) (List.nil_sublist _)) (List.Sublist.refl _)) (List.Sublist.refl _)
  ·obtain ⟨ps,q1,q2,q3⟩:=I.tabs P hP
   exact ⟨ps,q1,q2,fun pos cv z=>let ⟨c',z1,z2,z3⟩:=q3 pos cv z; ⟨c',z1,fun y=>z2 (kU y).1,z3⟩⟩
 refine H h4 hR I1 (aEO I h2 xs h3) fun u s2 G2 I2 S2 x2 g2 o2=>?_
 have mu1:∀ b,b ∈ G.bare.mu→b ∈ G.mu:=fun b hb=>by
  have hb:b ∈ G.gm++[]++aS:=hb
  rw [List.append_nil] at hb
  rcases List.mem_append.mp hb with q | q
  ·exact cV q
  ·exact dP q
 have C:Car G s.heap G s2.heap:=⟨rfl,fun {b o} e hb=>⟨S2.keep b o e (fun q=>hb (List.mem_append_left _ (mu1 b q))) (fun q=>nomatch q),hb⟩,fun _ _ e=>e,fun _ _ e=>e⟩
 have S3:Stp [] G s.heap G s2.heap:=⟨fun b o e hm hx=>S2.keep b o e (fun q=>hm (mu1 b q)) hx,S2.live,fun _ _ e=>e,fun _ _ e=>e,rfl,rfl,fun _ hb=>.inl hb⟩
 have hls:∀ (i:Nat) a l,G.l[i]? = some a→σ.l[i]? = some l→LR G s2.heap a l:=fun i a l e1 e2=>by
  refine (I.ls i a l e1 e2).car C fun o q=>S2.keep a o q (fun z=>?_) (fun z=>nomatch z)
  exact (kU (List.mem_append_left _ z)).2 I.nodup (List.mem_of_getElem? e1)
 have I3:Inv w g G ⟨[],σ.l⟩ s2.heap:=by
  refine ⟨I.pw,I2.keep,I.fresh,I.nodup,fun b hb=>?_,by show G.g.length=0; rw [hgG]; rfl,I.ll,fun i p c e1 e2=>by simp at e2,hls,fun P hP=>?_⟩
  ·obtain ⟨o,q⟩:=I.alive b hb; exact S2.live b o q
  ·obtain ⟨ps,q1,q2,q3⟩:=I2.tabs P hP
   refine ⟨ps,q1,q2,fun pos cv z=>?_⟩
   obtain ⟨c',z1,z2,z3⟩:=q3 pos cv z
   refine ⟨c',z1,fun y=>z2 ?_,z3⟩
   have y:c' ∈ (G.gm++G.l++aS)++G.ex:=y
   clear z2; rcases List.mem_append.mp y with y | y
   ·rcases List.mem_append.mp y with y | y
    ·rcases List.mem_append.mp y with y | y
     ·exfalso
      unfold Gh.gm at y; rw [hgG] at y; simp at y
     ·exfalso
      obtain ⟨i,hi,z1⟩:=List.getElem_of_mem y; clear y; subst z1
      have hi' : i < σ.l.length:=I.ll ▸ hi
      obtain ⟨ls,⟨nn,q⟩,_⟩:=hls i _ _ (List.getElem?_eq_getElem hi) (List.getElem?_eq_getElem hi')
      obtain ⟨c2,o,vs,t,ec,eo,ed,_⟩:=z3
      rw [z1] at ec
      cases ec
      rw [q] at eo
      cases eo
      cases ed
    ·exact List.mem_append_left _ (dP y)
   ·exact List.mem_append_right _ (by rw [S2.ex]; exact y)
 exact P u s2 G I3 S3 (flat_VR h5 x2) g2 o2
theorem aEQ {a:Addr} {body:List V→R V} (H:f8 w g n a body):f8 w g n a (fun args=>rS args body):=by
 intro args σ v σ' A s G us E Q e hR I xs P
 have e:=(show (match args.any rQ with | true=>lM args body | false=>gI args body) σ=some (v,σ') from e)
 refine boolF (b:=args.any rQ) (fun hl=>?_) fun hl=>?_
 ·simp only [hl] at e; exact aEN H e hR I xs P
 ·simp only [hl] at e; exact aEP H e hR I xs P
theorem aC1 {p pos:Pos} {c cv:Value} (l:List Value) (h:TriplesOk l) (e:codeAmong p (l++[rawInt pos.line,rawInt pos.col,c])=some cv):codeAmong p l=some cv∨cv=c:=by
 fun_induction TriplesOk l with
 | case1 =>
  simp only [List.nil_append,codeAmong,rawInt] at e
  split at e
  ·cases e; exact .inr rfl
  ·exact nx e
 | case2 a t b u x rest ih =>
  simp only [List.cons_append,codeAmong] at e ⊢
  split
  ·rename_i hc; rw [if_pos hc] at e; exact .inl e
  ·rename_i hc; rw [if_neg hc] at e; exact ih h e
 | case3 l h1 h2=>exact h.elim
theorem r6 {α:Type} (x:Str):∀ (l m:List (Str×α)),look x (l++m)=(look x l).or (look x m)
 | [],m=>by simp [look]
 | (y,v)::r,m=>by
  rw [List.cons_append,iT,iT,r6 x r m]
  split <;> simp
theorem aHR {x:Str}:∀ {l:List (Str×Value)},(l.map (·.1)).Nodup→l.reverse.lookup x=look x l
 | l,hn=>by
  cases hl:look x l with
  | none =>
   rw [← dF]
   apply look_none_of
   intro q
   rw [List.map_reverse,List.mem_reverse] at q
   obtain ⟨⟨y,v⟩,hy,e⟩:=List.mem_map.mp q; clear q
   have e:y=x:=e
   subst e
   have:∀ (m:List (Str×Value)),(y,v) ∈ m→look y m ≠ none:=by
    intro m
    induction m with
    | nil=>intro q; cases q
    | cons p m ih =>
     intro q z
     obtain ⟨a,b⟩:=p
     rw [iT] at z
     by_cases hay:a=y
     ·rw [if_pos hay] at z; exact sn z
     ·rw [if_neg hay] at z
      rcases List.mem_cons.mp q with q | q
      ·cases q; exact hay rfl
      ·exact ih q z
   exact this l hy hl
  | some v =>
   rw [dF] at hl
   have hmem:=dM hl
   refine lookup_of_mem' (fun b hb=>?_) (List.mem_reverse.mpr hmem)
   have hb:=List.mem_reverse.mp hb
   have:∀ (m:List (Str×Value)),(m.map (·.1)).Nodup→(x,v) ∈ m→(x,b) ∈ m→b=v:=by
    intro m
    clear hb; induction m with
    | nil=>intro _ q; cases q
    | cons p m ih =>
     intro hn q1 q2
     have hn:(p.1::m.map (·.1)).Nodup:=hn
     obtain ⟨n1,n2⟩:=List.nodup_cons.mp hn
     rcases List.mem_cons.mp q1 with z1 | z1
     ·clear ih; rcases List.mem_cons.mp q2 with z2 | z2
      ·rw [← z1] at z2; clear q2; cases z2; rfl
      ·exact absurd (List.mem_map_of_mem (f:=(·.1)) z2) (by rw [← z1] at n1; exact n1)
     ·rcases List.mem_cons.mp q2 with z2 | z2
      ·exact absurd (List.mem_map_of_mem (f:=(·.1)) z1) (by rw [← z2] at n1; exact n1)
      ·exact ih n2 z1 z2
   exact this l hn hmem hb
theorem aF5 {sc:Scope} (e:eC sc.names=true):∀ y ∈ sc.names,y.2 ≠ .cell:=by
 have:∀ l:List (Str×NameKind),eC l=true→∀ y ∈ l,y.2 ≠ .cell:=by
  intro l
  induction l with
  | nil=>intro _ y hy; cases hy
  | cons p l ih =>
   obtain ⟨x,k⟩:=p
   intro e y hy
   cases k <;> first | (exact ft e; done) | skip
   all_goals
    rcases List.mem_cons.mp hy with rfl | hy
    ·intro q; cases q
    ·exact ih e y hy
 exact this _ e
theorem aCL (B:aZ w g mg mb) (HI:aN w g n I') {ps:Arguments} {body:Expr} {sc:Scope} {capt:List (Str×V)} {args:List V} {v:V} {uf:Value} {us:List Value} {Q:Value→Shared→Prop}
 (e:(match Nat.beq args.length (argNames ps).length,fC ps,dH sc,eB sc (argNames ps),eC sc.names,noDup (argNames ps) with
  | true,true,true,true,true,true=>I'.ev ⟨sc,none,[]⟩ ((argNames ps).zip args++capt) body
  | _,_,_,_,_,_=>Rno) σ=some (v,σ')) (hR:aU (n + 1) A) (I:Inv w g G σ s.heap) (xf:VR G s.heap (.clo ps body sc capt) uf) (xs:VRs G s.heap args us)
 (P:aP w g G σ' s (fun G h u=>VR G h v u) Q):wpAny (MW w) A (call uf us) Q E s:=by
 obtain ⟨h1,h2,h3,h4,h5,h6,e⟩:=aEd (a:=Nat.beq args.length (argNames ps).length) (b:=fC ps) (c:=dH sc) (d:=eB sc (argNames ps)) (f:=eC sc.names) (k:=noDup (argNames ps)) e
 have hal:args.length=(argNames ps).length:=Nat.eq_of_beq_eq_true h1
 have hlen:=xs.len
 obtain ⟨p1,p2,p3,p4⟩:=zW h2
 obtain ⟨k1,k2,k3,k4,k5⟩:=i5 h3
 have hnd:=lR h6
 have hcell:=aF5 h5
 obtain ⟨f,cus,rfl,⟨qual,pm,c',ctv,cl,hf,hfo,hrec,hc',hcells,hinj,hdom,hfree⟩,hcapt⟩:=xf
 have hroom:A.depth < recursionLimit:=Nat.lt_of_le_of_lt (Nat.le_trans (Nat.le_add_right _ _) hR.1) (by decide)
 refine wpAny_call (kla_callFunE (fd:=kla_fn "<lambda>" qual ps body sc cl pm (.ref c') ctv) (body:=body) hroom hfo rfl k3 k2 rfl hrec ?_)
 refine uY (o:=none) (ds:=[]) (names:=argNames ps) p1 p2 p3 p4 rfl hnd (Nat.le_of_eq (hlen.trans hal)) (by exact (Nat.zero_le _)) (Nat.le_of_eq (hlen.trans hal).symm) rfl _ _ _ _ s (fun Q' q=>wpAny_pure q) ?_
 rw [List.drop_nil,List.append_nil]
 have hbn:(((argNames ps).zip us).map (·.1)).Nodup:=by rw [List.map_fst_zip (Nat.le_of_eq (hlen.trans hal).symm)]; exact hnd
 have hnl:∀ y ∈ argNames ps,kindIn sc y=some .local:=fun y hy=>by
  rcases oE h4 y hy with q | q
  ·exact q
  ·exact absurd rfl (hcell _ (dM (show sc.names.lookup y=some .cell by rw [← dF]; exact q)))
 refine wpAny_newFunctionEnv hcell (fun y hy=>?_) (fun h₁ hns hsb=>⟨(B.lim.keeps I.keep).fresh _ hsb,?_⟩) k1
 ·rw [← dF]; exact hnl _ (List.of_mem_zip hy).1
 show codeAny _ _ (.expr body (envX qual sc s.heap.objs.size f (.ref c') cl)) _ _
 have hk:∀ b o,s.heap.get? b=some o→h₁.get? b=some o:=fun b o e=>hsb.extBut b o (Nat.ne_of_lt (Heap.lt_size e)) (Heap.get?_push_of_some _ e)
 have hfr:∀ b ∈ [s.heap.objs.size],s.heap.get? b=none:=fun b hb=>by rw [List.mem_singleton.mp hb]; exact dY (Nat.le_refl _)
 obtain ⟨oL,esL,epL,hoL,hdL⟩:=id hns
 obtain ⟨I1,C1⟩:=I.hide (xs:=[s.heap.objs.size]) hk (by simp) hfr (fun b hb=>by rw [List.mem_singleton.mp hb]; exact ⟨_,hoL⟩)
 have cl_alive:∀ y c,cl.lookup y=some c→(∃ o,s.heap.get? c=some o)∧c ∉ G.own:=fun y c q=>by
  obtain ⟨u,hu⟩:=Option.isSome_iff_exists.mp (hdom y c q)
  obtain ⟨c2,e1,⟨o,e2,_⟩,e3⟩:=hcells y u hu
  rw [q] at e1; clear q; cases e1
  exact ⟨⟨o,e2⟩,e3⟩
 have xs1:=xs.step C1
 have hcapt1:=hcapt.step C1
 have F1:Frm (G.hid [s.heap.objs.size]) h₁ ⟨sc,none,[]⟩ ((argNames ps).zip args++capt) (envX qual sc s.heap.objs.size f (.ref c') cl) [s.heap.objs.size]:=by
  refine ⟨rfl,k1,rfl,rfl,fun b hb=>List.mem_append_left _ hb,.head _,⟨_,hns,fun y v hy hv=>?_⟩,fun y v hy hv=>?_,fun y d _ hc=>?_,fun y hy=>?_,hinj,⟨k4,k5⟩,fun y d hc=>?_,fun a ha=>nomatch ha⟩
  ·rw [r6] at hv
   cases hz:look y ((argNames ps).zip args) with
   | none =>
    rw [hz,Option.none_or] at hv
    obtain ⟨u,q1,_⟩:=hcapt1.look hv
    rw [hfree y u q1] at hy; cases hy
   | some v' =>
    rw [hz] at hv; cases hv
    obtain ⟨u,q1,q2⟩:=n0 xs1 hz
    exact ⟨u,by rw [aHR hbn]; exact q1,q2⟩
  ·have hyf:kindIn sc y=some .free:=by
    rcases hy with q | q
    ·exact absurd rfl (hcell _ (dM (show sc.names.lookup y=some .cell by rw [← dF]; exact q)))
    ·exact q
   rw [r6] at hv
   have hz:look y ((argNames ps).zip args)=none:=by
    cases hz:look y ((argNames ps).zip args) with
    | none=>rfl
    | some v' =>
     have hmem:y ∈ argNames ps:=by
      have:=dF y ((argNames ps).zip args)
      rw [hz] at this
      exact (List.of_mem_zip (dM this.symm)).1
     rw [hnl y hmem] at hyf; cases hyf
   rw [hz,Option.none_or] at hv
   obtain ⟨u,q1,q2⟩:=hcapt1.look hv
   obtain ⟨c,e1,⟨o,e2,e3⟩,e4⟩:=hcells y u q1
   exact ⟨c,u,e1,⟨o,hk _ _ e2,e3⟩,q2,fun z=>e4 (List.mem_append_left _ z)⟩
  ·intro z
   obtain ⟨⟨o,q⟩,_⟩:=cl_alive y d hc
   rw [List.mem_singleton.mp z] at q
   exact absurd (Heap.lt_size q) (Nat.lt_irrefl _)
  ·exact ft hy
  ·obtain ⟨⟨o,q⟩,_⟩:=cl_alive y d hc
   exact ⟨o,hk _ _ q⟩
 refine kla_codeExpr (HI.ev e hR.deeper I1 F1 fun u s2 G2 I2 S2 x2 g2 o2=>?_)
 have hex:G2.ex=[s.heap.objs.size]++G.ex:=S2.ex
 obtain ⟨I3,C3⟩:=I2.unhide (G₀:=G) hex
 exact P u s2 (G2.back G) I3 (Stp.leave hk hfr S2 (fun _ _ _ q=>q) fun b hb=>nomatch hb) (x2.step C3) g2 o2
structure jE (n:Nat) (G G₁:Gh):Prop extends Shift n G G₁ where
 l:∀ i:Nat,G₁.l[i]? = G.l[i]?
mutual
theorem VR.shiftW (T:jE n G G₁):∀ {p:V} {u:Value},okW n p=true→VR G h p u→VR G₁ h p u
 | .pv _,_,_,x=>by exact PR.shift T.toShift x
 | .tup l,u,ok,x=>by
  obtain ⟨a,us,e,ha,ht,hs⟩:=x
  exact ⟨a,us,e,T.not ha,ht,VRs.shiftW T ok hs⟩
 | .vl l,u,ok,x=>by
  obtain ⟨a,us,e,ha,ht,hs⟩:=x
  exact ⟨a,us,e,T.not ha,ht,VRs.shiftW T ok hs⟩
 | .fz c as,u,ok,x=>by
  obtain ⟨a,d,us,e,ha,hd,hi,hs⟩:=x
  exact ⟨a,d,us,e,T.not ha,T.not hd,hi,VRas.shiftW T ok hs⟩
 | .vd as,u,ok,x=>by
  obtain ⟨d,us,e,hd,hi,hs⟩:=x
  exact ⟨d,us,e,T.not hd,T.pw ▸ hi,VRas.shiftW T ok hs⟩
 | .ob i,u,ok,x=>by
  obtain ⟨p,e,q⟩:=x
  have:i < n:=Nat.le_of_ble_eq_true (show Nat.ble (i + 1) n=true from ok)
  exact ⟨p,by rw [T.g i this]; exact e,q⟩
 | .li i,u,ok,x=>by
  obtain ⟨a,e,q⟩:=x
  exact ⟨a,by rw [T.l i]; exact e,q⟩
 | .st _,_,_,x=>x
 | .clo ps body sc capt,u,ok,x=>by
  obtain ⟨f,us,e,hc,hs⟩:=x
  exact ⟨f,us,e,hc.shift T.toShift,VRas.shiftW T ok hs⟩
theorem VRs.shiftW (T:jE n G G₁):∀ {l:List V} {us:List Value},okWs n l=true→VRs G h l us→VRs G₁ h l us
 | [],_,_,x=>x
 | v::r,us,ok,x=>by
  obtain ⟨u,us',e,h1,h2⟩:=x
  obtain ⟨hv,ok⟩:=bt ok
  exact ⟨u,us',e,VR.shiftW T hv h1,VRs.shiftW T ok h2⟩
theorem VRas.shiftW (T:jE n G G₁):∀ {l:List (Str×V)} {us:List (Str×Value)},okWas n l=true→VRas G h l us→VRas G₁ h l us
 | [],_,_,x=>x
 | (y,v)::r,us,ok,x=>by
  obtain ⟨u,us',e,h1,h2⟩:=x
  obtain ⟨hv,ok⟩:=bt ok
  exact ⟨u,us',e,VR.shiftW T hv h1,VRas.shiftW T ok h2⟩
end
theorem zC (T:bK):∀ (l:List Tk),okWs n (l.map (tkV T))=true
 | []=>rfl
 | _::r=>zC T r
theorem GR.shiftW (T:jE n G G₁) {p:Addr×Addr} {c:GCell} (ok:okWG n c=true) (x:GR G h p c):GR G₁ h p c:=by
 cases c with
 | obj c as=>obtain ⟨us,a,b⟩:=x; exact ⟨us,a,b.shiftW T ok⟩
 | rdr pre rest nm =>
  obtain ⟨hb,us,a,b⟩:=x
  refine ⟨hb,us,a,b.shiftW T ?_⟩
  have ok:okW n nm=true:=ok
  show (match okWs n ((pre++rest).map (tkV TT)) with | true=>(match okW n nm with | true=>true | false=>false) | false=>false)=true
  rw [zC,ok]
theorem zA:∀ {l:List GCell},okWGs n l=true→∀ {i:Nat} {c:GCell},l[i]? = some c→okWG n c=true
 | [],_,i,c,e=>nx e
 | d::r,ok,0,c,e=>so e ▸ (bt ok).1
 | d::r,ok,i + 1,c,e=>zA (bt ok).2 (i:=i) e
theorem zB:∀ {l:List (List V)},okWLs n l=true→∀ {i:Nat} {c:List V},l[i]? = some c→okWs n c=true
 | [],_,i,c,e=>nx e
 | d::r,ok,0,c,e=>so e ▸ (bt ok).1
 | d::r,ok,i + 1,c,e=>zB (bt ok).2 (i:=i) e
abbrev Gh.cut (G:Gh) (i:Nat):Gh:={ G with g:=G.g.take i }
theorem qP {i:Nat} {b:Addr} (hb:b ∈ (G.cut i).own):b ∈ G.own:=by
 have hb:b ∈ ((((G.g.take i).map (·.1))++((G.g.take i).map (·.2)))++G.l++aS)++G.ex:=hb
 rcases List.mem_append.mp hb with q | q
 ·clear hb; rcases List.mem_append.mp q with q | q
  ·rcases List.mem_append.mp q with q | q
   ·refine List.mem_append_left _ (cV ?_)
    rcases List.mem_append.mp q with q | q
    ·obtain ⟨p,hp,z1⟩:=List.mem_map.mp q; clear q; subst z1
     exact List.mem_append_left _ (List.mem_map_of_mem (List.mem_of_mem_take hp))
    ·obtain ⟨p,hp,z1⟩:=List.mem_map.mp q; clear q; subst z1
     exact List.mem_append_right _ (List.mem_map_of_mem (List.mem_of_mem_take hp))
   ·exact List.mem_append_left _ (fV q)
  ·exact List.mem_append_left _ (dP q)
 ·exact List.mem_append_right _ q
theorem vW {i:Nat}:jE i G (G.cut i):=⟨⟨rfl,fun _ hb=>qP hb,fun j hj=>by
 show (G.g.take i)[j]? = G.g[j]?
 rw [List.getElem?_take,if_pos hj]⟩,fun _=>rfl⟩
theorem Inv.cut {i:Nat} {p:Addr×Addr} (I:Inv w g G σ h) (hlen:σ.g.length=i + 1) (hp:G.g[i]? = some p) (ok1:okWGs i (σ.g.take i)=true) (ok2:okWLs i σ.l=true) :
 Inv w g (G.cut i) ⟨σ.g.take i,σ.l⟩ h∧p.1 ∉ (G.cut i).own∧p.2 ∉ (G.cut i).own:=by
 have T:jE i G (G.cut i):=vW
 have hGl:G.g.length=i + 1:=I.lg.trans hlen
 have hGs:G.g=G.g.take i++[p]:=by
  have:=List.take_append_drop i G.g
  rw [← this]
  have hd:G.g.drop i=[p]:=by
   have hlt:i < G.g.length:=hGl ▸ Nat.lt_succ_self i
   rw [List.drop_eq_getElem_cons hlt]
   have e1:G.g[i]=p:=by rw [List.getElem?_eq_getElem hlt] at hp; exact Option.some.inj hp
   rw [e1,List.drop_of_length_le (Nat.le_of_eq hGl)]
  rw [hd]
  congr 1
  rw [List.take_append_of_le_length (by rw [List.length_take,hGl]; exact Nat.le_min.mpr ⟨Nat.le_refl i,Nat.le_succ i⟩),List.take_take,Nat.min_self]
 have hn:(((G.g.map (·.1))++(G.g.map (·.2)))++G.l++aS++G.ex).Nodup:=I.nodup
 have hperm:List.Perm (((G.g.map (·.1))++(G.g.map (·.2)))++G.l++aS++G.ex) ([p.1,p.2]++((((G.g.take i).map (·.1))++((G.g.take i).map (·.2)))++G.l++aS++G.ex)):=by
  conv=>lhs; rw [hGs]
  simp only [List.map_append,List.map_cons,List.map_nil,List.append_assoc,List.cons_append,List.nil_append]
  refine List.Perm.trans List.perm_middle ?_
  refine List.Perm.cons _ ?_
  rw [← List.append_assoc]
  refine List.Perm.trans List.perm_middle ?_
  rw [List.append_assoc]
 have hn2:=hperm.nodup_iff.mp hn
 obtain ⟨n1,n2,n3⟩:=List.nodup_append.mp hn2
 refine ⟨⟨I.pw,I.keep,fun b hb=>I.fresh b (qP hb),n2,I.alive,?_,I.ll,fun j q c e1 e2=>?_,fun j a l e1 e2=>?_,fun P hP=>?_⟩,fun hb=>?_,fun hb=>?_⟩
 ·show (G.g.take i).length=(σ.g.take i).length
  simp [List.length_take,I.lg]
 ·have e1:(G.g.take i)[j]? = some q:=e1
  have e2:(σ.g.take i)[j]? = some c:=e2
  have ok:=zA ok1 e2
  rw [List.getElem?_take] at e1 e2
  split at e1
  ·rename_i hj
   rw [if_pos hj] at e2
   exact (I.gs j q c e1 e2).shiftW T ok
  ·exact nx e1
 ·obtain ⟨us,x1,x2⟩:=I.ls j a l e1 e2
  exact ⟨us,x1,x2.shiftW T (zB ok2 e2)⟩
 ·obtain ⟨ps,q1,q2,q3⟩:=I.tabs P hP
  exact ⟨ps,q1,q2,fun pos cv z=>let ⟨c',z1,z2,z3⟩:=q3 pos cv z; ⟨c',z1,fun y=>z2 (qP y),z3⟩⟩
 ·exact n3 p.1 (by exact (.head _)) p.1 hb rfl
 ·exact n3 p.2 (by exact (.tail _ (.head _))) p.2 hb rfl
theorem aEA {c:Addr} {cr:dI} (h:aX c cN=some cr):∃ r,aX cr.ini bU=some r:=by
 have:(cN.all fun p=>(aX p.2.ini bU).isSome)=true:=by decide +kernel
 exact Option.isSome_iff_exists.mp (nZ (P:=fun _ p=>(aX p.ini bU).isSome) this h)
theorem aJz {a b c d:Str} (h:mA a b c d=true):a=nU∧b=pN∧c=atName∧d=nQ:=by
 unfold mA at h
 refine boolF (b:=sEq a nU) (fun h1=>?_) fun h1=>?_
 ·rw [h1] at h; exact ft h
 refine boolF (b:=sEq b pN) (fun h2=>?_) fun h2=>?_
 ·rw [h1,h2] at h; exact ft h
 refine boolF (b:=sEq c atName) (fun h3=>?_) fun h3=>?_
 ·rw [h1,h2,h3] at h; exact ft h
 refine boolF (b:=sEq d nQ) (fun h4=>?_) fun h4=>?_
 ·rw [h1,h2,h3,h4] at h; exact ft h
 ·exact ⟨aK.mp h1,aK.mp h2,aK.mp h3,aK.mp h4⟩
theorem aJI {c:Addr} {n1 n2 n3 n4 k w:Str} {p:PV} {t:Tk} (e:(match Nat.beq c TT.tok,mA n1 n2 n3 n4 with
 | true,true=>some (Tk.mk k w p)
 | _,_=>none)=some t):V.fz c [(n1,.pv (.str k)),(n2,.pv (.str w)),(n3,.pv p),(n4,.pv (.bool false))]=tkV TT t:=by
 refine boolF (b:=Nat.beq c TT.tok) (fun h1=>?_) fun h1=>?_
 ·rw [h1] at e; exact nx e
 refine boolF (b:=mA n1 n2 n3 n4) (fun h2=>?_) fun h2=>?_
 ·rw [h1,h2] at e; exact nx e
 rw [h1,h2] at e
 obtain ⟨q1,q2,q3,q4⟩:=aJz h2
 rw [Nat.eq_of_beq_eq_true h1,q1,q2,q3,q4,so e]; rfl
theorem aJJ {v:V} {t:Tk} (e:kB TT v=some t):v=tkV TT t:=by
 cases v with
 | fz c as =>
  cases as with
  | nil=>exact nx e
  | cons q as =>
   obtain ⟨n1,a⟩:=q
   cases a with
   | pv a =>
    cases a with
    | str k =>
     cases as with
     | nil=>exact nx e
     | cons q as =>
      obtain ⟨n2,a⟩:=q
      cases a with
      | pv a =>
       cases a with
       | str w =>
        cases as with
        | nil=>exact nx e
        | cons q as =>
         obtain ⟨n3,a⟩:=q
         cases a with
         | pv p =>
          cases as with
          | nil=>exact nx e
          | cons q as =>
           obtain ⟨n4,a⟩:=q
           cases a with
           | pv a =>
            cases a with
            | bool b =>
             cases b with
             | true=>exact nx e
             | false =>
              cases as with
              | nil=>exact aJI e
              | cons _ _=>exact nx e
            | _=>exact nx e
           | _=>exact nx e
         | _=>exact nx e
       | _=>exact nx e
      | _=>exact nx e
    | _=>exact nx e
   | _=>exact nx e
 | _=>exact nx e
theorem aAD:∀ {l:List V} {ts:List Tk},toTks TT l=some ts→l=ts.map (tkV TT)
 | [],ts,e=>by cases e; rfl
 | v::r,ts,e=>by
  have e:=(show (match kB TT v,toTks TT r with | some t,some l=>some (t::l) | _,_=>none)=some ts from e)
  refine optE (o:=kB TT v) (fun h1=>?_) fun t h1=>?_
  ·simp only [h1] at e; exact nx e
  ·refine optE (o:=toTks TT r) (fun h2=>?_) fun l h2=>?_
   ·simp only [h1,h2] at e; exact nx e
   ·simp only [h1,h2] at e
    cases e
    rw [aJJ h1,aAD h2]; rfl
theorem Inv.reG {i:Nat} {p:Addr×Addr} {c' : GCell} (I:Inv w g G σ h) (hp:G.g[i]? = some p) (hn:GR G h p c'):Inv w g G ⟨σ.g.set i c',σ.l⟩ h:=by
 refine ⟨I.pw,I.keep,I.fresh,I.nodup,I.alive,by simp [I.lg],I.ll,fun j q c e1 e2=>?_,I.ls,I.tabs⟩
 have e2:(σ.g.set i c')[j]? = some c:=e2
 by_cases hij:i=j
 ·subst hij
  rw [hp] at e1; cases e1
  rw [List.getElem?_set_self (by have:=(List.getElem?_eq_some_iff.mp hp).1; rw [I.lg] at this; exact this)] at e2
  cases e2; exact hn
 ·rw [List.getElem?_set_ne hij] at e2
  exact I.gs j q c e1 e2
inductive uD (as:List (Str×V)) (i:Nat) (r:V) (σ σ' : aC):Prop
 | mk (tv nm:V) (l:List V) (ts:List Tk) (ha:as=[(dR,tv),(atName,.pv (.int (.ofNat 0))),(cW,nm)]) (hl:vlOf tv=some l) (ht:toTks TT l=some ts) (hs:small ts.length=true) (hr:r = .ob i) (hσ:σ' = ⟨σ.g.set i (.rdr [] ts nm),σ.l⟩)
theorem aIi {n1 n2 n3:Str} {tv nm:V} {i:Nat} {r:V} (e:(match sEq n1 dR,sEq n2 atName,sEq n3 cW with
 | true,true,true=>Rbind (oneOf (vlOf tv)) fun l=>Rbind (oneOf (toTks TT l)) fun ts=>(match small ts.length with | true=>Rbind (setG i (.rdr [] ts nm)) fun _=>Rpure (V.ob i) | false=>Rno)
 | _,_,_=>Rno) σ=some (r,σ')):uD [(n1,tv),(n2,.pv (.int (.ofNat 0))),(n3,nm)] i r σ σ':=by
 obtain ⟨q1,q2,q3,e⟩:=rG e
 obtain ⟨l,σ2,e3,e4⟩:=aH e; clear e
 obtain ⟨e5,z1⟩:=bB e3; clear e3; subst z1
 obtain ⟨ts,σ3,e6,e7⟩:=aH e4; clear e4
 obtain ⟨e8,z1⟩:=bB e6; clear e6; subst z1
 refine boolF (b:=small ts.length) (fun hsm=>?_) fun hsm=>?_
 ·rw [hsm] at e7; exact nx e7
 ·rw [hsm] at e7
  obtain ⟨_,σ4,e9,e10⟩:=aH e7; clear e7
  rw [aK.mp q1,aK.mp q2,aK.mp q3]
  exact ⟨tv,nm,l,ts,rfl,e5,e8,hsm,sp1 (a:=V.ob i) (b:=σ4) e10,(sp2 (a:=V.ob i) (b:=σ4) e10).trans (pA e9)⟩
theorem aIh {as:List (Str×V)} {i:Nat} {r:V} (e:o9 TT as i σ=some (r,σ')):uD as i r σ σ':=by
 cases as with
 | nil=>exact nx e
 | cons q1 as =>
 obtain ⟨n1,tv⟩:=q1
 cases as with
 | nil=>exact nx e
 | cons q2 as =>
 obtain ⟨n2,v2⟩:=q2
 cases v2 with
 | pv p =>
  cases p with
  | int k =>
   cases k with
   | negSucc _=>exact nx e
   | ofNat z =>
    cases z with
    | succ _=>exact nx e
    | zero =>
     cases as with
     | nil=>exact nx e
     | cons q3 as =>
     obtain ⟨n3,nm⟩:=q3
     cases as with
     | cons _ _=>exact nx e
     | nil=>exact aIi e
  | _=>exact nx e
 | _=>exact nx e
inductive pR (w:World) (g:Heap) (G:Gh) (h h' : Heap) (σ' : aC) (r:V) (u:Value):Prop
 | mk (G₃:Gh) (I:Inv w g G₃ σ' h') (S:Stp [] G h G₃ h') (x:VR G₃ h' r u)
theorem aIl {i:Nat} {r:V} {p:Addr×Addr} {G₂:Gh} {as:List (Str×V)} {us:List (Str×Value)} (e:o9 TT as i σ=some (r,σ')) (I:Inv w g G₂ σ h') (hp:G₂.g[i]? = some p) (S:Stp [] G h G₂ h') (hinst:cY h' p.1 p.2 774 us) (has:VRas G₂ h' as us):pR w g G h h' σ' r (.ref p.1):=by
 obtain ⟨tv,nm,l,ts,ha,hl,ht,hs,hr,hσ⟩:=aIh e
 rw [ha] at has
 rw [hr,hσ]
 clear e ha hr hσ
 refine ⟨G₂,I.reG hp ⟨cR hs,us,hinst,?_⟩,S,by exact ⟨p,hp,rfl⟩⟩
 obtain ⟨u1,_,z1,x1,u2,_,z2,x2,u3,_,z3,x3,z4⟩:=has
 unfold gN
 rw [z1,z2,z3,z4]
 refine ⟨u1,_,rfl,?_,u2,_,rfl,x2,u3,_,rfl,x3,rfl⟩
 obtain ⟨b,ls,z,hb,hl,hv⟩:=mD hl x1
 exact ⟨b,ls,z,hb,hl,aAD ht ▸ hv⟩
theorem aIj {a:Addr} {i:Nat} {r:V} {p:Addr×Addr} {G₂:Gh} {as:List (Str×V)} {us:List (Str×Value)} (e:rD a as i σ=some (r,σ')) (I:Inv w g G₂ σ h') (hp:G₂.g[i]? = some p) (S:Stp [] G h G₂ h') (hi:G.g.length=i) (hinst:cY h' p.1 p.2 a us) (has:VRas G₂ h' as us):pR w g G h h' σ' r (.ref p.1):=by
 obtain ⟨q1,q2,q3,q4,z⟩:=aEa (a:=Nat.beq σ.g.length (i + 1)) (b:=okWas i as) (c:=okWGs i (σ.g.take i)) (d:=okWLs i σ.l) (x:=(V.fz a as,(⟨σ.g.take i,σ.l⟩:aC))) e
 obtain ⟨z1,z2⟩:=Prod.mk.inj z; clear z e
 obtain ⟨I3,n1,n2⟩:=I.cut (Nat.eq_of_beq_eq_true q1) hp q3 q4
 rw [z1,z2]
 clear z1 z2 q1 q3 q4
 refine ⟨G₂.cut i,I3,⟨S.keep,S.live,fun j q e=>?_,S.pl,S.ex,S.pw,fun b hb=>S.new b ?_⟩,?_⟩
 ·have hj:j < i:=hi ▸ (List.getElem?_eq_some_iff.mp e).1
  show (G₂.g.take i)[j]? = some q
  rw [List.getElem?_take,if_pos hj]
  exact S.pg j q e
 ·have hb:b ∈ ((((G₂.g.take i).map (·.1))++((G₂.g.take i).map (·.2)))++G₂.l++aS):=hb
  have tk:∀ f:Addr×Addr→Addr,b ∈ (G₂.g.take i).map f→b ∈ G₂.g.map f:=fun f q=>let ⟨x,hx,z⟩:=List.mem_map.mp q; z ▸ List.mem_map_of_mem (List.mem_of_mem_take hx)
  clear S I I3 hinst has n1 n2
  exact (List.mem_append.mp hb).elim (fun q=>(List.mem_append.mp q).elim (fun q=>cV ((List.mem_append.mp q).elim (fun q=>List.mem_append_left _ (tk _ q)) fun q=>List.mem_append_right _ (tk _ q))) fV) dP
 ·exact ⟨p.1,p.2,us,rfl,n1,n2,hinst,has.shiftW vW q2⟩
theorem aIk {a:Addr} {cr:dI} {i:Nat} {r:V} {p:Addr×Addr} {G₂:Gh} (e:sealG TT a cr i σ=some (r,σ')) (I:Inv w g G₂ σ h') (hp:G₂.g[i]? = some p) (S:Stp [] G h G₂ h') (hi:G.g.length=i):pR w g G h h' σ' r (.ref p.1):=by
 obtain ⟨c,σ1,e1,e2⟩:=aH (m:=getG i) e; clear e
 obtain ⟨hc,z1⟩:=lI e1; clear e1; subst z1
 have hr:=I.gs i p c hp hc
 clear hc; cases c with
 | rdr pre rest nm=>exact nx e2
 | obj b as =>
  have e2:=(show (match Nat.beq a b,cr.frozen,Nat.beq a TT.rdr with
   | true,true,_=>rD a as i
   | true,false,true=>o9 TT as i
   | true,false,false=>Rpure (.ob i)
   | _,_,_=>Rno) σ1=some (r,σ') from e2)
  refine boolF (b:=Nat.beq a b) (fun h1=>?_) fun h1=>?_
  ·rw [h1] at e2; exact nx e2
  rw [← Nat.eq_of_beq_eq_true h1] at hr
  rw [h1] at e2
  clear h1
  obtain ⟨us,hinst,has⟩:=hr
  cases h2:cr.frozen with
  | true=>rw [h2] at e2; exact aIj e2 I hp S hi hinst has
  | false =>
   rw [h2] at e2
   refine boolF (b:=Nat.beq a TT.rdr) (fun h3=>?_) fun h3=>?_
   ·rw [h3] at e2
    exact ⟨G₂,sp2 (a:=V.ob i) (b:=σ1) e2 ▸ I,S,sp1 (a:=V.ob i) (b:=σ1) e2 ▸ (by exact ⟨p,hp,rfl⟩)⟩
   ·rw [h3] at e2; exact aIl e2 I hp S ((Nat.eq_of_beq_eq_true h3:a=774) ▸ hinst) has
theorem aCU (B:aZ w g mg mb) (HI:aN w g n I') {a:Addr} {cr:dI} {args:List V} {v:V} {us:List Value} {Q:Value→Shared→Prop} (hcr:aX a cN=some cr)
 (e:Rbind (newG (.obj a [])) (fun i=>Rbind (I'.call (.st (.ref cr.ini)) (.ob i::args)) fun v=>(match v with | .pv .none=>sealG TT a cr i | _=>Rno)) σ=some (v,σ')) (hR:aU (n + 1) A) (I:Inv w g G σ s.heap) (xs:VRs G s.heap args us)
 (P:aP w g G σ' s (fun G h u=>VR G h v u) Q):wpAny (MW w) A (call (.ref a) us) Q E s:=by
 obtain ⟨i,σ1,e1,e2⟩:=aH e
 obtain ⟨v1,σ2,e3,e4⟩:=aH e2; clear e2
 cases e1
 have F:=g9 hcr w
 obtain ⟨r,hr⟩:=aEA hcr
 obtain ⟨hh,hg,hd,ht,hos⟩:=s
 have X:(kfrag w.params).In hh:=B.K.keeps I.keep
 refine wpAny_call (make_core (makes_of X F.mkk) (looks_findIn X F.ini) (fun self=>bind_fn X self F.inf) (.inl (by rfl)) ?_)
 obtain ⟨I1,S1⟩:=I.newG (c:=a)
 have hlen:G.g.length=σ.g.length:=I.lg
 have hR1:aU n (A.under (.builtin "type.__call__" ⟨.ref a::us,[]⟩)):=by
  obtain ⟨r1,r2,r3⟩:=hR
  have hw:(Code.builtin "type.__call__" ⟨.ref a::us,[]⟩).weight=1:=by kernel_rfl
  have hu:(Code.builtin "type.__call__" ⟨.ref a::us,[]⟩).cUnits=1:=by kernel_rfl
  refine ⟨?_,?_,r3⟩
  ·show A.depth + (Code.builtin "type.__call__" ⟨.ref a::us,[]⟩).weight + n ≤ 990
   rw [hw]; exact Nat.succ_add_eq_add_succ A.depth n ▸ r1
  ·show A.units + (Code.builtin "type.__call__" ⟨.ref a::us,[]⟩).cUnits + 8 * n ≤ 9500
   rw [hu]; exact tD r2 (by decide)
 have xs1:VRs { G with g:=G.g++[(hh.objs.size + 1,hh.objs.size)] } ((hh.push emptyDict).push (instObj a hh.objs.size)) (.ob σ.g.length::args) (.ref (hh.objs.size + 1)::us):=by
  refine ⟨_,us,rfl,?_,xs.step S1.car0⟩
  exact ⟨(hh.objs.size + 1,hh.objs.size),by rw [← hlen]; simp,rfl⟩
 refine codeAny_mono (HI.code (E:=E) (Q:=fun u s'=>u = .none∧Q (.ref (hh.objs.size + 1)) s') hr e3 hR1 I1 xs1 fun u s2 G2 I2 S2 x2 g2 o2=>?_) fun r s' z=>?_
 ·clear e3; cases v1 with
  | pv q =>
   cases q with
   | none =>
    refine ⟨x2,?_⟩
    have hp:G2.g[σ.g.length]? = some (hh.objs.size + 1,hh.objs.size):=S2.pg _ _ (by rw [← hlen]; simp)
    obtain ⟨G3,I3,S3,x3⟩:=aIk e4 I2 hp (S1.trans S2) hlen
    exact P _ s2 G3 I3 S3 x3 g2 o2
   | _=>exact nx e4
  | _=>exact nx e4
 ·rcases r with e | (v | _ | _ | _) <;> first | exact z | exact z.elim
theorem Inv.tabUpd {P:Addr} (I:Inv w g G σ h) (hP:P ∈ aS) (k:∀ b o,b ≠ P→h.get? b=some o→h'.get? b=some o) (ht:jF G h' P):Inv w g G σ h'∧Stp [] G h G h':=by
 have hmu:P ∈ G.mu:=dP hP
 obtain ⟨psP,hPo,_⟩:=id ht
 have S:Stp [] G h G h':=⟨fun b o e hm _=>k b o (fun q=>hm (q ▸ hmu)) e,fun b o e=>by
  by_cases q:b=P
  ·exact ⟨_,q ▸ hPo⟩
  ·exact ⟨o,k b o q e⟩,fun _ _ e=>e,fun _ _ e=>e,rfl,rfl,fun _ hb=>.inl hb⟩
 have C:=S.car0
 obtain ⟨_,_,_,_,_,q6,q7⟩:=I.parts
 refine ⟨⟨I.pw,fun b o e=>k b o (fun q=>?_) (I.keep b o e),I.fresh,I.nodup,fun b hb=>let ⟨o,e⟩:=I.alive b hb; S.live b o e,I.lg,I.ll,fun i p c e1 e2=>(I.gs i p c e1 e2).car C (fun o e=>k _ o (fun q=>q6 _ (c6 e1).1 (q ▸ hP)) e) fun o e=>k _ o (fun q=>q6 _ (c6 e1).2 (q ▸ hP)) e,
  fun i a l e1 e2=>(I.ls i a l e1 e2).car C fun o e=>k _ o (fun q=>q7 _ (List.mem_of_getElem? e1) (q ▸ hP)) e,fun P' hP'=>?_⟩,S⟩
 ·have:=I.fresh P (List.mem_append_left _ hmu)
  rw [q,this] at e; exact nx e
 ·by_cases q:P' = P
  ·rw [q]; exact ht
  ·exact (I.tabs P' hP').step C fun o e=>k _ o q e
theorem rC (F:Frm G h fi env ME fo) {a:Addr} {c P:Addr} (hfn:fi.fn=some a) (hlam:gK a=some (c,P)):∀ {l:List (Str×NameKind)} {capt:aB},freeOf fi env l=some capt→freeOk fi env l=true →
 ∃ us,VRas G h capt us∧(∀ x u,look x us=some u→(x,NameKind.free) ∈ l∧∃ d,ME.cells.lookup x=some d∧h.IsCell d (some u)∧d ∉ G.own)∧∀ x,(x,NameKind.free) ∈ l→(look x us).isSome=true
 | [],capt,e,_=>by
  cases e
  refine ⟨[],?_,?_,?_⟩
  ·exact rfl
  ·intro x u q; exact nx q
  ·intro x q; cases q
 | (y,k)::r,capt,e,ok=>by
  by_cases hk:k = .free
  ·subst hk
   have e:=(show (match fi.mutc.any (fun z=>sEq z y),look y env,freeOf fi env r with
    | false,some v,some l=>some ((y,v)::l)
    | _,_,_=>none)=some capt from e)
   have ok:=(show (match kindIn fi.sc y,look y env with
    | some .cell,some _=>freeOk fi env r
    | some .free,some _=>freeOk fi env r
    | _,_=>false)=true from ok)
   have hm:fi.mutc.any (fun z=>sEq z y)=false:=Bool.eq_false_iff.mpr fun hm=>by simp only [hm] at e; exact nx e
   refine optE (o:=look y env) (fun hv=>?_) fun v hv=>?_
   ·simp only [hm,hv] at e; exact nx e
   cases hr:freeOf fi env r with
   | none=>simp only [hm,hv,hr] at e; exact nx e
   | some l' =>
   simp only [hm,hv,hr] at e
   cases e
   simp only [hv] at ok
   have hk2:(kindIn fi.sc y=some .cell∨kindIn fi.sc y=some .free)∧freeOk fi env r=true:=by
    cases hq:kindIn fi.sc y with
    | none=>rw [hq] at ok; exact ft ok
    | some k'=>cases k' <;> rw [hq] at ok <;> first | (exact ft ok; done) | exact ⟨by decide,ok⟩
   obtain ⟨us,h1,h2,h3⟩:=rC F hfn hlam hr hk2.2
   obtain ⟨d,u,e1,e2,e3,_⟩:=F.cel y v hk2.1 hv
   refine ⟨(y,u)::us,by exact ⟨u,us,rfl,e3,h1⟩,fun x u' q=>?_,fun x q=>?_⟩
   ·rw [iT] at q
    by_cases hyx:y=x
    ·clear e3; subst hyx
     rw [if_pos rfl] at q; cases q
     exact ⟨.head _,d,e1,e2,(F.lam a hfn c P hlam).2.2 y d e1 hm⟩
    ·rw [if_neg hyx] at q
     obtain ⟨z1,z2⟩:=h2 x u' q
     exact ⟨.tail _ z1,z2⟩
   ·rw [iT]
    by_cases hyx:y=x
    ·rw [if_pos hyx]; rfl
    ·rw [if_neg hyx]
     rcases List.mem_cons.mp q with q | q
     ·cases q; exact absurd rfl hyx
     ·exact h3 x q
  ·have e' : freeOf fi env r=some capt:=by cases k <;> first | exact e | exact absurd rfl hk
   have ok' : freeOk fi env r=true:=by cases k <;> first | exact ok | exact absurd rfl hk
   clear e ok; obtain ⟨us,h1,h2,h3⟩:=rC F hfn hlam e' ok'
   refine ⟨us,h1,fun x u q=>let ⟨z1,z2⟩:=h2 x u q; ⟨.tail _ z1,z2⟩,fun x q=>?_⟩
   rcases List.mem_cons.mp q with q | q
   ·cases q; exact absurd rfl hk
   ·exact h3 x q
theorem aFb {a:Addr} (h:TT.lam.any (fun b=>Nat.beq a b)=true):∃ c P,gK a=some (c,P)∧P ∈ aS∧(c,P) ∈ [((42:Addr),(38:Addr)),(258,254),(564,560),(893,889)]:=by
 obtain ⟨b,hb,e⟩:=List.any_eq_true.mp h; clear h
 have e:=Nat.eq_of_beq_eq_true e
 subst e
 have hb:a ∈ ([43,259,565,894]:List Nat):=hb
 simp only [List.mem_cons,List.not_mem_nil,or_false] at hb
 clear e; rcases hb with rfl | rfl | rfl | rfl
 ·exact ⟨42,38,rfl,by decide,by decide⟩
 ·exact ⟨258,254,rfl,by decide,by decide⟩
 ·exact ⟨564,560,rfl,by decide,by decide⟩
 ·exact ⟨893,889,rfl,by decide,by decide⟩
theorem aCo {P:Addr} (k:∀ b o,h.get? b=some o→h'.get? b=some o) (x:h.BuiltinsAt mg P):h'.BuiltinsAt mg P:=by
 obtain ⟨bm,ob,b1,b2,b3,b4,b5,b6,b7,b8⟩:=x
 exact ⟨bm,ob,b1,b2,b3,b4,k _ _ b5,b6,b7,b8⟩
theorem aB3 (B:aZ w g mg mb) {P:Addr} (hP:P ∈ aS) (hc:∃ c,(c,P) ∈ [((42:Addr),(38:Addr)),(258,254),(564,560),(893,889)]):g.BuiltinsAt mg P:=by
 clear hP; obtain ⟨c,hc⟩:=hc
 obtain ⟨b1,b2,b3,b4⟩:=B.bmain
 simp only [List.mem_cons,List.not_mem_nil,or_false,Prod.mk.injEq] at hc
 rcases hc with ⟨_,rfl⟩ | ⟨_,rfl⟩ | ⟨_,rfl⟩ | ⟨_,rfl⟩
 ·exact b1
 ·exact b2
 ·exact b3
 ·exact b4
theorem aFc (B:aZ w g mg mb) {ps:Arguments} {body:Expr} {lsc:Scope} {p:Pos}:dJ w g n (dC TT S I') (.Lambda ps body lsc p):=by
 intro fi env σ v σ' A E s G ME fo Q e hR I F P
 have e:=(show (match fi.fn,fC ps,ps.defaults with
  | some a,true,[]=>(match TT.lam.any (fun b=>Nat.beq a b) with
   | true=>(match freeOk fi env lsc.names,noDup (lsc.names.map (fun q:Str×NameKind=>q.1)) with
    | true,true=>Rbind (oneOf (freeOf fi env lsc.names)) fun capt=>Rpure (V.clo ps body lsc capt)
    | _,_=>Rno)
   | false=>Rno)
  | _,_,_=>Rno) σ=some (v,σ') from e)
 refine optE (o:=fi.fn) (fun h1=>?_) fun a h1=>?_
 ·simp only [h1] at e; exact nx e
 refine boolF (b:=fC ps) (fun h2=>?_) fun h2=>?_
 ·simp only [h1,h2] at e; exact nx e
 cases h3:ps.defaults with
 | cons _ _=>simp only [h1,h2,h3] at e; exact nx e
 | nil =>
 simp only [h1,h2,h3] at e
 refine boolF (b:=TT.lam.any (fun b=>Nat.beq a b)) (fun h4=>?_) fun h4=>?_
 ·simp only [h4] at e; exact nx e
 refine boolF (b:=freeOk fi env lsc.names) (fun h5=>?_) fun h5=>?_
 ·simp only [h4,h5] at e; exact nx e
 refine boolF (b:=noDup (lsc.names.map (·.1))) (fun h6=>?_) fun h6=>?_
 ·simp only [h4,h5,h6] at e; exact nx e
 simp only [h4,h5,h6] at e
 obtain ⟨capt,σ1,e1,e2⟩:=aH e; clear e
 obtain ⟨e3,z1⟩:=bB e1; clear e1; subst z1
 cases e2
 obtain ⟨c,P0,hl,hPk,hcP⟩:=aFb h4
 obtain ⟨q1,q2,q3⟩:=F.lam a h1 c P0 hl
 obtain ⟨us,u1,u2,u3⟩:=rC F h1 hl e3 h5
 obtain ⟨tps,t1,t2,t3⟩:=I.tabs P0 hPk
 have hcl:=qI F h5
 have hdef:defaultsOf ps ME=([],[]):=by
  rw [zV h2,h3]; rfl
 have hmg:=B.nmg.keeps I.keep
 have hcode:=(B.code c P0 hcP).keeps I.keep
 have hbt:=aCo I.keep (aB3 B hPk ⟨c,hcP⟩)
 have hgP:mainGlobals ≠ P0:=fun q=>by
  obtain ⟨o,es,ep,e,_⟩:=B.nmg
  have:=I.fresh P0 (List.mem_append_left _ (dP hPk))
  rw [← q,e] at this; exact sn this
 have hinj:∀ x y d,(dA ME lsc.names).reverse.lookup x=some d→(dA ME lsc.names).reverse.lookup y=some d→x=y:=fun x y d z1 z2=>F.inj x y d (fX.mp z1).2 (fX.mp z2).2
 have hdom:∀ x d,(dA ME lsc.names).reverse.lookup x=some d→(look x us).isSome=true:=fun x d z=>u3 x (fX.mp z).1
 have mk:∀ (f:Addr) (h2:Heap) (cv:Addr) (pm ctv:Value),(Inv w g G σ' h2)→Stp [] G s.heap G h2→f ∉ G.own→h2.get? f=some (kla_obj "<lambda>" (fW P0) ps body lsc (dA ME lsc.names).reverse pm cv ctv)→h2.CodeRec (.ref cv) (fW P0)→cv ∉ G.own →
  VR G h2 (.clo ps body lsc capt) (.ref f):=by
  intro f h2 cv pm ctv I2 S2 hf hfo hrec hcv
  refine ⟨f,us,rfl,⟨fW P0,pm,cv,ctv,(dA ME lsc.names).reverse,hf,hfo,hrec,hcv,fun x u q=>?_,hinj,hdom,fun x u q=>?_⟩,u1.step S2.car0⟩
  ·obtain ⟨z1,d,z2,⟨o,z3,z4⟩,z5⟩:=u2 x u q
   exact ⟨d,fX.mpr ⟨z1,z2⟩,⟨o,(S2.car0.stays z3 z5).1,z4⟩,z5⟩
  ·have:=oH h6 (x,.free) (u2 x u q).1
   show look x lsc.names=_
   rw [dF]; exact this
 refine kla_eval hdef ?_
 refine optE (o:=codeAmong p tps.toList) (fun hca=>?_) fun cv hca=>?_
 ·refine kla_makeFunction hcl F.gl hmg q1 hcode t1 t2 hca hgP hbt fun c' ctv h' tk hx hge hlt hrec htb=>?_
  have hkx:∀ b o,b ≠ P0→s.heap.get? b=some o→h'.get? b=some o:=fun b o hb q=>hx b o hb q
  have ht' : jF G h' P0:=by
   refine ⟨_,htb,?_,fun pos cv z=>?_⟩
   ·have:=TriplesOk_snoc (p.line:Int) (p.col:Int) (.ref c') tps.toList t2
    simpa using this
   ·have z:codeAmong pos (tps.toList++[rawInt p.line,rawInt p.col,.ref c'])=some cv:=by simpa using z
    rcases aC1 _ t2 z with z | z
    ·obtain ⟨c2,z1,z2,⟨c3,o,vs,t,ec,eo,ed,ev⟩⟩:=t3 pos cv z; clear z; subst z1
     refine ⟨c2,rfl,z2,⟨c3,o,vs,t,ec,hkx _ _ (fun y=>?_) eo,ed,ev⟩⟩
     clear eo; cases ec
     exact z2 (y ▸ List.mem_append_left _ (dP hPk))
    ·subst z
     refine ⟨c',rfl,I.newLe hge,?_⟩
     rw [← q2]; exact hrec
  obtain ⟨I1,S1⟩:=I.tabUpd hPk hkx ht'
  have k2:∀ b o,h'.get? b=some o→(h'.push (kla_obj "<lambda>" (ME.qual++"<lambda>") ps body lsc (dA ME lsc.names).reverse ((mg "__name__").getD .none) c' ctv)).get? b=some o:=fun b o q=>bG _ _ _ _ q
  have I2:=I1.ext k2
  have S2:=S1.trans (Stp.ext (X:=[]) k2)
  refine P _ ⟨_,s.gens,s.drawn,tk,s.os⟩ G I2 S2 (mk _ _ c' ((mg "__name__").getD .none) ctv I2 S2 I1.new ?_ ?_ (I.newLe hge)) rfl rfl
  ·rw [← q2]; exact Heap.get?_push_size _ rfl
  ·obtain ⟨c2,o,vs,t,ec,eo,ed,ev⟩:=hrec
   rw [q2] at ev
   exact ⟨c2,o,vs,t,ec,k2 _ _ eo,ed,ev⟩
 ·obtain ⟨c',rfl,hc',hrec⟩:=t3 p cv hca
  refine kla_makeFunctionHit hcl F.gl hmg q1 hcode t1 t2 hca hbt fun ctv h' tk hk hsz=>?_
  have k2:∀ b o,s.heap.get? b=some o→(h'.push { cls:=.type "function",data:=.func (kla_fn "<lambda>" (ME.qual++"<lambda>") ps body lsc (dA ME lsc.names).reverse ((mg "__name__").getD .none) (.ref c') ctv) }).get? b=some o:=fun b o q=>bG _ _ _ _ (hk b o q)
  have I2:=I.ext k2
  refine P _ ⟨_,s.gens,s.drawn,tk,s.os⟩ G I2 (.ext k2) (mk _ _ c' ((mg "__name__").getD .none) ctv I2 (.ext k2) (I.newLe hsz) ?_ ?_ hc') rfl rfl
  ·rw [← q2]; exact Heap.get?_push_size _ rfl
  ·obtain ⟨c2,o,vs,t,ec,eo,ed,ev⟩:=hrec
   exact ⟨c2,o,vs,t,ec,k2 _ _ eo,ed,ev⟩
theorem aC7 (B:aZ w g mg mb) (H:aN w g n S) {elt t it:Expr} {ifs:List Expr} {csc:Scope} {x:Str} {px q p:Pos} {fl:Fl} {Q:Flow→Shared→Prop}
 (e:Rbind (compEv TT S fi env elt t it ifs csc) (fun v=>Rbind (oneOf (putN fi x v env)) fun env'=>Rpure (Fl.next,env')) σ=some ((fl,env'),σ')) (hR:aU n A) (I:Inv w g G σ s.heap) (F:Frm G s.heap fi env ME fo)
 (P:dS w g G σ' s fi env' ME fo fl Q):wpAny (MW w) A (exec (.Assign [.Name x px] (.ListComp elt [⟨t,it,ifs,0⟩] csc q) p) ME) Q E s:=by
 obtain ⟨v,σ1,e1,e2⟩:=aH e; clear e
 obtain ⟨env1,σ2,e3,e4⟩:=aH e2; clear e2
 obtain ⟨e5,z1⟩:=bB e3; clear e3; subst z1
 cases e4
 have hb:∃ b,swapsWithSole [.Name x px] (.ListComp elt [⟨t,it,ifs,0⟩] csc q) p.line ME=pure b:=⟨_,rfl⟩
 obtain ⟨b,hb⟩:=hb
 cases b with
 | false =>
  refine wpAny_Assign_stores ?_ hb rfl
  refine vT (S:=S) (I':=S) B H (show dC TT S S fi env (.ListComp elt [⟨t,it,ifs,0⟩] csc q) σ=some (v,σ') from e1) hR I F fun u s1 G1 I1 S1 x1 g1 o1=>?_
  show wpAny (MW w) A (assign (.Name x px) ME u) _ E s1
  exact wpAny_assign_Name (pD e5 I1 (F.step I S1) x1 fun s2 I2 S2 F2 g2 o2=>P _ s2 G1 I2 (S1.wk.trans S2) F2 rfl (g2.trans g1) (o2.trans o1))
 | true =>
  rw [exec_Assign_arm]
  refine wpAny_bind (wpAny_standAt ?_)
  rw [hb]
  refine wpAny_bind (wpAny_pure ?_)
  rw [if_pos rfl]
  show wpAny (MW w) A ((comprehension (.ListComp elt [⟨t,it,ifs,0⟩] csc q) csc ME (firstIterPos [⟨t,it,ifs,0⟩] q) (newList []) false (eval it ME) (some fun v=>assign (.Name x px) ME v) >>= fun _=>pure ()) >>= fun _=>pure Flow.next) Q E s
  refine wpAny_bind (wpAny_bind (vV B H e1 hR I F fun s1 G1 X xs hv F1 hI1 S1 g1 o1=>?_))
  clear e1; subst hv
  intro s' D C G3 h1 us h4 tk4 k1 hfr hnd hal C1 I3 S3 L3 V3 N3 g3 o3 k4
  obtain ⟨m,hm⟩:=N3
  have hex:G3.ex=(X++[D,C])++G1.ex:=S3.ex
  have hex2:G3.ex=(X++[D])++(G1.hid [C]).ex:=by rw [hex]; show _=(X++[D])++([C]++G1.ex); simp
  obtain ⟨_,n2,n3⟩:=List.nodup_append.mp hnd
  have hDC:D ≠ C:=by simpa using n2
  have hCX:C ∉ X:=fun z=>n3 C z C (by exact (.tail _ (.head _))) rfl
  have hDX:D ∉ X:=fun z=>n3 D z D (by exact (.head _)) rfl
  have k4' : ∀ c o,c ∉ X++[D]→s'.heap.get? c=some o→h4.get? c=some o:=fun c o hc z=>k4 c o (fun y=>hc (List.mem_append_left _ y)) z
  obtain ⟨I4,C4⟩:=I3.leave (G₀:=G1.hid [C]) hex2 k4'
  obtain ⟨τ,I1⟩:=hI1
  have nfo:∀ b ∈ (X++[D,C]),b ∉ fo:=fun b hb z=>by
   obtain ⟨o,y⟩:=I1.alive b (F1.fsub b z)
   rw [hfr b hb] at y; exact nx y
  have nce:∀ y c,ME.cells.lookup y=some c→c ∉ (X++[D,C]):=fun y c z z'=>by
   obtain ⟨o,y'⟩:=F1.cal y c z
   rw [hfr c z'] at y'; exact nx y'
  obtain ⟨I1h,_⟩:=I1.hide k1 hnd hfr hal
  have F3:=(F1.hide k1 hfr C1).stepX I1h S3 (fun b hb=>List.mem_append_left _ hb) nfo nce
  have F4:=F3.leave I3 hex2 k4' (fun b hb=>List.mem_append_right _ (F1.fsub b hb)) (fun y c z z'=>nce y c z (by
   rcases List.mem_append.mp z' with z' | z'
   ·exact List.mem_append_left _ z'
   ·rw [List.mem_singleton.mp z']; simp))
  obtain ⟨n',qD⟩:=L3
  have qD4:h4.get? D=some { cls:=.type "list",data:=.seq us.toArray n' }:=k4 D _ hDX qD
  have xD:VR (G3.back (G1.hid [C])) h4 (mkVl xs) (.ref D):=lP (rX I3 hex2 (by simp)) ⟨_,qD4,rfl,n',rfl⟩ (V3.step C4)
  have hmC:h4.Ns C m:=hm.at' (fun o z=>k4 C o hCX z)
  show wpAny (MW w) A (assign (.Name x px) ME (.ref D)) _ E { s' with heap:=h4,toks:=tk4 }
  refine wpAny_assign_Name (pD e5 (s:={ s' with heap:=h4,toks:=tk4 }) I4 F4 xD fun s2 I5 S5 F5 g5 o5=>?_)
  have hCe:C ∈ (G3.back (G1.hid [C])).ex:=by show C ∈ [C]++G1.ex; simp
  refine ⟨m,hmC.at' (fun o z=>S5.keep C o z (I4.ex_mu hCe) (nfo C (by simp))),fun h6 sb=>?_⟩
  have k6:∀ c o,c ∉ [C]→s2.heap.get? c=some o→h6.get? c=some o:=fun c o hc z=>(sb.2 c (by simpa using hc)).trans z
  have hex5:(G3.back (G1.hid [C])).ex=[C]++G1.ex:=rfl
  obtain ⟨I6,C6⟩:=I5.leave (G₀:=G1) hex5 k6
  have F6:=F5.leave I5 hex5 k6 F1.fsub (fun y c z z'=>nce y c z (by rw [List.mem_singleton.mp z']; simp))
  have al:∀ b o,s1.heap.get? b=some o→b ∉ (X++[D,C]):=fun b o z z'=>by rw [hfr b z'] at z; exact nx z
  have S6:Stp fo G1 s1.heap ((G3.back (G1.hid [C])).back G1) h6:=by
   refine ⟨fun b o z hm hx=>?_,fun b o z=>?_,fun i y z=>S3.pg i y z,fun i y z=>S3.pl i y z,rfl,S3.pw,fun b hb=>?_⟩
   ·have hb:=al b o z
    have z1:=S3.keep b o (k1 b o z) hm hb
    have z2:=k4 b o (fun y=>hb (List.mem_append_left _ y)) z1
    have z3:=S5.keep b o z2 (fun y=>by
     rcases S3.new b y with y | y
     ·exact hm y
     ·rw [k1 b o z] at y; exact sn y) hx
    exact k6 b o (fun y=>hb (by rw [List.mem_singleton.mp y]; simp)) z3
   ·have hb:=al b o z
    obtain ⟨o1,z1⟩:=S3.live b o (k1 b o z)
    have z2:=k4 b o1 (fun y=>hb (List.mem_append_left _ y)) z1
    obtain ⟨o3,z3⟩:=S5.live b o1 z2
    exact ⟨o3,k6 b o3 (fun y=>hb (by rw [List.mem_singleton.mp y]; simp)) z3⟩
   ·rcases S3.new b hb with y | y
    ·exact .inl y
    ·right
     cases z:s1.heap.get? b with
     | none=>rfl
     | some o=>rw [k1 b o z] at y; exact sn y
  refine wpAny_pure (wpAny_pure ?_)
  exact P .next { s2 with heap:=h6 } _ I6 (S1.wk.trans S6) F6 rfl (g5.trans (g3.trans g1)) (o5.trans (o3.trans o1))
theorem zM (H:aN w g n S) {pos:Pos}:∀ {ks:List (Option Expr)} {vs:List Expr} {xs:List Str} {us:List V} {σ:aC} {s:Shared} {G:Gh} {Q:List (Value×Value)→Shared→Prop},dctKeys ks=some xs→mapR (S.ev fi env) vs σ=some (us,σ')→xs.length=vs.length →
 aU n A→Inv w g G σ s.heap→Frm G s.heap fi env ME fo →
 (∀ r ws (s' : Shared) G',Inv w g G' σ' s'.heap→Stp [] G s.heap G' s'.heap→VRs G' s'.heap us ws→Carries (strKind lw.row.prog w) r (xs.zip ws)→s'.gens=s.gens→s'.os=s.os→Q r s')→wpAny (MW w) A (evalPairs (pairTrees ks vs ME pos)) Q E s
 | [],vs,xs,us,σ,s,G,Q,hk,e,hl,hR,I,F,K=>by
  cases hk
  have:vs=[]:=List.eq_nil_of_length_eq_zero hl.symm
  clear hl; subst this
  cases e
  exact pairTrees_nil_walk (K [] [] s G I .refl (by exact rfl) trivial rfl rfl)
 | none::r,vs,xs,us,σ,s,G,Q,hk,e,hl,hR,I,F,K=>by exact nx hk
 | some k::r,vs,xs,us,σ,s,G,Q,hk,e,hl,hR,I,F,K=>by
  obtain ⟨x,p1,p2,xs',rfl,hk',rfl⟩:∃ x p1 p2 xs',k = .Constant (.str x) p1 p2∧dctKeys r=some xs'∧xs=x::xs':=by
   clear hl K; cases k with
   | Constant c p1 p2 =>
    cases c with
    | str x =>
     have hk:=(show (match dctKeys r with | some l=>some (x::l) | none=>none)=some xs from hk)
     cases hr:dctKeys r with
     | none=>simp only [hr] at hk; exact nx hk
     | some l=>simp only [hr] at hk; cases hk; exact ⟨x,p1,p2,l,rfl,rfl,rfl⟩
    | _=>exact nx hk
   | _=>exact nx hk
  cases vs with
  | nil=>simp at hl
  | cons v vs =>
   have e:=(show Rbind (S.ev fi env v) (fun b=>Rbind (mapR (S.ev fi env) vs) fun bs=>Rpure (b::bs)) σ=some (us,σ') from e)
   obtain ⟨u,σ1,e1,e2⟩:=aH e; clear e
   obtain ⟨us',σ2,e3,e4⟩:=aH e2; clear e2
   cases e4
   refine pairTrees_cons_walk (wpAny_Constant_str ?_)
   refine H.ev' (s:={ s with toks:=s.toks + 1 }) e1 hR I F fun uv s1 G1 I1 F1 x1 S1 g1 o1=>?_
   refine zM H hk' e3 (by simpa using hl) hR I1 F1 fun rr ws s2 G2 I2 S2 x2 c2 g2 o2=>?_
   refine K _ (uv::ws) s2 G2 I2 (S1.trans S2) (by exact ⟨uv,ws,rfl,x1.step S2.car0,x2⟩) ?_ (g2.trans g1) (o2.trans o1)
   exact ⟨by simp [PySem.strKind,Value.isStrOf],rfl,c2⟩
theorem aGc (B:aZ w g mg mb) (I:Inv w g G σ s.heap) {d:Addr} (hd:s.heap.objs.size ≤ d):(d == sysModules)=false:=by
 obtain ⟨o,es,ep,e,_⟩:=B.nmg
 have:=Heap.lt_size (I.keep _ _ e)
 have h2:sysModules ≤ mainGlobals:=by decide
 rw [beq_eq_false_iff_ne]
 intro q
 exact Nat.lt_irrefl _ (Nat.lt_of_lt_of_le (Nat.lt_of_le_of_lt (q ▸ h2) this) hd)
theorem aAU {G:Gh} {h:Heap}:∀ {xs:List Str} {us:List V} {ws:List Value},VRs G h us ws→VRas G h (xs.zip us) (xs.zip ws)
 | [],_,_,_=>by simp [VRas]
 | x::xs,[],ws,z=>by obtain rfl:=z; simp [VRas]
 | x::xs,u::us,ws,z=>by
  obtain ⟨w0,ws',rfl,h1,h2⟩:=z
  simp only [List.zip_cons_cons,VRas]
  exact ⟨w0,_,rfl,h1,aAU h2⟩
theorem aDn (B:aZ w g mg mb) (H:aN w g n S) {ks:List (Option Expr)} {vs:List Expr} {p:Pos}:dJ w g n (dC TT S I') (.Dict ks vs p):=by
 intro fi env σ v σ' A E s G ME fo Q e hR I F P
 have hd0:=aGc B I (Nat.le_refl s.heap.objs.size)
 have gen:(match dctKeys ks with
  | some xs=>(match Nat.ble xs.length 8,Nat.beq xs.length vs.length,noDup xs with
   | true,true,true=>Rbind (mapR (S.ev fi env) vs) fun us=>Rpure (V.vd (xs.zip us))
   | _,_,_=>Rno)
  | none=>Rno) σ=some (v,σ')→ks ≠ []→wpAny (MW w) A (eval (.Dict ks vs p) ME) Q E s:=fun e hne=>by
  refine optE (o:=dctKeys ks) (fun hk=>?_) fun xs hk=>?_
  ·simp only [hk] at e; exact nx e
  refine boolF (b:=Nat.ble xs.length 8) (fun h1=>?_) fun h1=>?_
  ·simp only [hk,h1] at e; exact nx e
  refine boolF (b:=Nat.beq xs.length vs.length) (fun h2=>?_) fun h2=>?_
  ·simp only [hk,h1,h2] at e; exact nx e
  refine boolF (b:=noDup xs) (fun h3=>?_) fun h3=>?_
  ·simp only [hk,h1,h2,h3] at e; exact nx e
  simp only [hk,h1,h2,h3] at e
  obtain ⟨us,σ1,e1,e2⟩:=aH e; clear e
  cases e2
  have hks:∀ {ks:List (Option Expr)} {xs:List Str},dctKeys ks=some xs→ks.length=xs.length∧ks.all (·.isSome)=true:=by
   intro ks
   induction ks with
   | nil=>intro xs q; cases q; exact ⟨rfl,rfl⟩
   | cons k r ih =>
    intro xs q
    cases k with
    | none=>exact nx q
    | some k =>
     cases k with
     | Constant c a b =>
      cases c with
      | str x =>
       have q:=(show (match dctKeys r with | some l=>some (x::l) | none=>none)=some xs from q)
       refine optE (o:=dctKeys r) (fun hr=>?_) fun l hr=>?_
       ·simp only [hr] at q; exact nx q
       ·simp only [hr] at q; cases q; obtain ⟨z1,z2⟩:=ih hr; exact ⟨by simp [z1],by exact (z2)⟩
      | _=>exact nx q
     | _=>exact nx q
  obtain ⟨z1,z2⟩:=hks hk
  have hl:xs.length=vs.length:=Nat.eq_of_beq_eq_true h2
  have h8:xs.length ≤ 8:=Nat.le_of_ble_eq_true h1
  have kp:=bG s.heap { cls:=.type "dict",data:=.dict #[] }
  have hfr:∀ b ∈ [s.heap.objs.size],s.heap.get? b=none:=fun b hb=>by rw [List.mem_singleton.mp hb]; exact dY (Nat.le_refl _)
  obtain ⟨I1,C1⟩:=I.hide (xs:=[s.heap.objs.size]) kp (by simp) hfr (fun b hb=>by rw [List.mem_singleton.mp hb]; exact ⟨_,Heap.get?_push_size _ rfl⟩)
  have F1:=F.hide kp hfr C1
  refine wpAny_Dict_walk (knd:=strKind lw.row.prog w) z2 (z1.trans hl) hne (el z1 (Nat.le_trans h8 (by decide))) ?_
  refine zM (s:={ s with heap:=s.heap.push { cls:=.type "dict",data:=.dict #[] } }) H hk e1 hl hR I1 F1 fun r ws s2 G2 I2 S2 x2 c2 g2 o2=>?_
  have hwl:=x2.len
  have hul:=oA e1
  have hDmu:s.heap.objs.size ∉ ({ G with ex:=[s.heap.objs.size]++G.ex }:Gh).mu:=I1.ex_mu (b:=s.heap.objs.size) (by exact (.head _))
  have hD:s2.heap.DictOf (strKind lw.row.prog w) s.heap.objs.size []:=by
   obtain ⟨o,es,ep,eo,rr⟩:=Heap.DictOf.new (knd:=strKind lw.row.prog w) s.heap
   exact ⟨o,es,ep,S2.keep _ _ eo hDmu (fun q=>nomatch q),rr⟩
  refine ⟨xs.zip ws,c2,hD,fun h6 hd6 sb=>?_⟩
  have hnd:((xs.zip ws).map (·.1)).Nodup:=by rw [List.map_fst_zip (Nat.le_of_eq (hl.trans (hwl.trans hul).symm))]; exact lR h3
  rw [merged_nil_of_nodup _ hnd] at hd6
  have hex:G2.ex=[s.heap.objs.size]++G.ex:=S2.ex
  have k6:∀ c o,c ∉ [s.heap.objs.size]→s2.heap.get? c=some o→h6.get? c=some o:=fun c o hc z=>(sb.2 c (by simpa using hc)).trans z
  obtain ⟨I6,C6⟩:=I2.leave (G₀:=G) hex k6
  refine P (.ref s.heap.objs.size) ⟨h6,s2.gens,s2.drawn,s2.toks + r.length,s2.os⟩ (G2.back G) I6 (Stp.leave kp hfr S2 k6 fun b hb=>nomatch hb) ?_ g2 o2
  exact ⟨_,xs.zip ws,rfl,rX I2 hex (by exact (.head _)),⟨hd0,I6.pw ▸ hd6⟩,aAU (x2.step C6)⟩
 cases ks with
 | cons k r=>exact gen (by cases vs <;> exact e) (by simp)
 | nil =>
  clear gen; cases vs with
  | cons _ _=>exact nx e
  | nil =>
   cases e
   refine wpAny_Dict_empty ?_
   refine P.grown (d:=s.drawn) (t:=s.toks) I (bG _ _) ?_
   exact ⟨_,[],rfl,I.new,⟨hd0,I.pw ▸ Heap.DictOf.new s.heap⟩,by exact rfl⟩
theorem no_ev {m:FI→aB→Expr→R V} {x:Expr} (h:∀ fi env σ,m fi env x σ=none):dJ w g n m x:=by
 intro fi env σ v σ' A E s G ME fo Q e
 rw [h] at e; exact nx e
theorem aDQ (B:aZ w g mg mb) (H:aN w g n S) (HI:aN w g n I') (x:Expr):dJ w g n (dC TT S I') x:=by
 cases x with
 | Constant c k p=>exact fun e hR I F P=>by rw [arm_eval_Constant]; exact qM e I P
 | Name x p=>exact fun e hR I F P=>lQ B e I F P
 | BoolOp op vs p=>exact fun e hR I F P=>qB H e hR I F P
 | UnaryOp op y p =>
  cases op with
  | Not=>exact aGb H
  | USub=>exact aKa H
  | _=>exact no_ev fun _ _ _=>rfl
 | IfExp t b o p=>exact aEr H
 | Compare l ops rs p =>
  cases ops with
  | nil=>exact no_ev fun _ _ _=>rfl
  | cons op ops =>
  cases ops with
  | cons _ _=>exact no_ev fun _ _ _=>rfl
  | nil =>
  cases rs with
  | nil=>exact no_ev fun _ _ _=>rfl
  | cons r rs =>
  cases rs with
  | cons _ _=>exact no_ev fun _ _ _=>rfl
  | nil=>exact fun e hR I F P=>aCW (I':=I') H e hR I F P
 | BinOp l op r p=>exact aBX H
 | Tuple es k p=>exact aJT H
 | List es p=>exact aFp H
 | Dict ks vs p=>exact aDn B H
 | Attribute o a p=>exact aBA B H
 | Subscript o i p=>exact aIZ H
 | Call f as ks p =>
  cases ks with
  | cons _ _=>exact no_ev fun _ _ _=>by cases f <;> rfl
  | nil =>
   cases f with
   | Attribute o m ap=>exact aFM B H HI
   | _=>exact call_ev H HI (fun _ _ _ q=>by cases q)
 | Lambda ps body lsc p=>exact aFc B
 | ListComp elt gens csc p =>
  cases gens with
  | nil=>exact no_ev fun _ _ _=>rfl
  | cons c gs =>
   obtain ⟨t,it,ifs,k⟩:=c
   cases k with
   | ofNat k =>
    cases k with
    | zero =>
     cases gs with
     | nil=>exact fun e hR I F P=>vT (I':=I') B H e hR I F P
     | cons _ _=>exact no_ev fun _ _ _=>rfl
    | succ k=>exact no_ev fun _ _ _=>by cases gs <;> rfl
   | negSucc k=>exact no_ev fun _ _ _=>by cases gs <;> rfl
 | _=>exact no_ev fun _ _ _=>rfl
inductive TrI (S:Sys) (fi:FI) (env:aB) (x:Expr) (r:Bool×aC) (σ:aC):Prop
 | not (y:Expr) (p:Pos) (h:x = .UnaryOp .Not y p) (e:Rbind (S.tr fi env y) (fun b=>Rpure (!b)) σ=some r)
 | bool (op:BoolOp) (vs:List Expr) (p:Pos) (h:x = .BoolOp op vs p) (e:allTr S fi env op vs σ=some r)
 | ifx (t c o:Expr) (p:Pos) (h:x = .IfExp t c o p) (e:Rbind (S.tr fi env t) (fun r=>match r with | true=>S.tr fi env c | false=>S.tr fi env o) σ=some r)
 | cmp (l:Expr) (ops:List CmpOp) (rs:List Expr) (p:Pos) (h:x = .Compare l ops rs p) (e:Rbind (S.ev fi env x) truthy σ=some r)
 | gen (e:Rbind (S.ev fi env x) truthy σ=some r) (h:∀ ME,isTrue x ME (eval x ME)=(do let v ← eval x ME; standAt x.pos; holding [v] (PySem.truthy v)))
theorem aJM {x:Expr} {r:Bool×aC} (e:tR S fi env x σ=some r):TrI S fi env x r σ:=by
 cases x with
 | UnaryOp op y p =>
  cases op with
  | Not=>exact .not y p rfl e
  | _=>exact .gen e fun _=>rfl
 | BoolOp op vs p=>exact .bool op vs p rfl e
 | IfExp t c o p=>exact .ifx t c o p rfl e
 | Compare l ops rs p=>exact .cmp l ops rs p rfl e
 | _=>exact .gen e fun _=>rfl
theorem aJN (H:aN w g n S) {x:Expr} {b:Bool} {Q:Bool→Shared→Prop} (e:tR S fi env x σ=some (b,σ')) (hR:aU n A) (I:Inv w g G σ s.heap) (F:Frm G s.heap fi env ME fo)
 (P:aP w g G σ' s (fun _ _ c=>c=b) Q):wpAny (MW w) A (isTrue x ME (eval x ME)) Q E s:=by
 rcases aJM e with ⟨y,p,h,e⟩ | ⟨op,vs,p,h,e⟩ | ⟨t,c,o,p,h,e⟩ | ⟨l,ops,rs,p,h,e⟩ | ⟨e,h⟩
 ·obtain ⟨c,σ1,e1,e2⟩:=aH e; clear e
  rw [h]
  cases e2
  exact isTrue_not (H.tr' e1 hR I F fun s1 G1 I1 F1 S1 g1 o1=>P _ s1 G1 I1 S1 rfl g1 o1)
 ·exact h ▸ wpAny_isTrue_BoolOp (pW H e hR I F P)
 ·obtain ⟨r,σ1,e1,e2⟩:=aH e; clear e
  rw [h]
  refine isTrue_IfExp (H.tr' e1 hR I F fun s1 G1 I1 F1 S1 g1 o1=>?_)
  clear e1; cases r with
  | true=>exact H.tr e2 hR I1 F1 (P.after S1 g1 o1)
  | false=>exact H.tr e2 hR I1 F1 (P.after S1 g1 o1)
 ·rw [h] at e ⊢
  obtain ⟨v,σ1,e1,e2⟩:=aH e; clear e h
  obtain ⟨op,r,z1,z2⟩:=H.ifx (fun q=>by rw [q] at e1; exact nx e1)
  rw [z1,z2] at e1 ⊢
  rw [show isTrue (.Compare l [op] [r] p) ME (eval (.Compare l [op] [r] p) ME)=(eval (.Compare l [op] [r] p) ME >>= fun c=>holding [c] (PySem.truthy c)) by rw [isTrue_Compare1,eval_Compare1]; simp only [bind_assoc]]
  exact wpAny_bind (H.ev' e1 hR I F fun u s1 G1 I1 F1 x1 S1 g1 o1=>wpAny_holding (mC e2 I1 x1 (P.after S1 g1 o1)))
 ·obtain ⟨v,σ1,e1,e2⟩:=aH e; clear e
  exact isTrue_plain (H.ev' e1 hR I F fun u s1 G1 I1 F1 x1 S1 g1 o1=>mC e2 I1 x1 (P.after S1 g1 o1)) (h ME)
theorem rZ (B:aZ w g mg mb) {x:Str} {v:V} {p:Pos} {Q:Value→Shared→Prop} (hk:kindIn fi.sc x=some .local) (hv:look x env=some v) (I:Inv w g G σ s.heap) (F:Frm G s.heap fi env ME fo) (P:aP w g G σ s (fun G h u=>VR G h v u) Q) :
 wpAny (MW w) A (eval (.Name x p) ME) Q E s :=
 lQ B (show fA TT fi env x σ=some (v,σ) by unfold fA; simp only [hk,hv]; rfl) I F P
inductive uE (fi:FI) (env:aB) (f y m b:Str) (ap ip:Pos) (k:Nat):Prop
 | mk (h1:l8 ap ip=true) (h2:kindIn fi.sc f=some .globalImplicit) (h3:look f TT.gl=none) (h4:sEq f "len" = true) (wd:Str) (c:Nat) (h5:kindIn fi.sc y=some .local) (h6:look y env=some (.pv (.str wd))) (h7:sEq m "split" = true) (h8:b.cps.toList=[c])
  (h9:small wd.cps.toList.length=true) (h10:small (splitOn c wd.cps.toList).length=true) (hk:k=(splitOn c wd.cps.toList).length)
inductive aBg (fi:FI) (env:aB) (x:Expr) (k:Nat):Prop
 | lit (p:Nat) (q:Pos) (h:x = .Constant (.int (.ofNat k)) p q)
 | call (f:Str) (p1:Pos) (y:Str) (p2:Pos) (m:Str) (ap:Pos) (b:Str) (k1:Nat) (p3 ip p4:Pos) (h:x = .Call (.Name f p1) [.Call (.Attribute (.Name y p2) m ap) [.Constant (.str b) k1 p3] [] ip] [] p4) (c:uE fi env f y m b ap ip k)
inductive aBf (o:Option V) (l:List Nat) (k:Nat):Prop
 | mk (wd:Str) (c:Nat) (h6:o=some (.pv (.str wd))) (h8:l=[c]) (h9:small wd.cps.toList.length=true) (h10:small (splitOn c wd.cps.toList).length=true) (hk:k=(splitOn c wd.cps.toList).length)
theorem aIO {kd:Option NameKind} {o:Option V} {sp:Bool} {l:List Nat} {k:Nat} (e:(match kd,o,sp,l with
 | some .local,some (.pv (.str w)),true,[c]=>(match small w.cps.toList.length,small (splitOn c w.cps.toList).length with
  | true,true=>some (splitOn c w.cps.toList).length
  | _,_=>none)
 | _,_,_,_=>none)=some k):kd=some .local∧sp=true∧aBf o l k:=by
 cases kd with
 | none=>exact nx e
 | some kd =>
 cases kd with
 | «local» =>
  cases o with
  | none=>exact nx e
  | some v =>
  cases v with
  | pv p =>
   cases p with
   | str w =>
    cases sp with
    | false=>exact nx e
    | true =>
    cases l with
    | nil=>exact nx e
    | cons c l =>
     cases l with
     | cons _ _=>exact nx e
     | nil=>obtain ⟨h1,h2,h3⟩:=jK (a:=small w.cps.toList.length) (b:=small (splitOn c w.cps.toList).length) e; exact ⟨rfl,rfl,w,c,rfl,rfl,h1,h2,h3⟩
   | _=>exact nx e
  | _=>exact nx e
 | _=>exact nx e
theorem aIN {b1:Bool} {kd:Option NameKind} {o:Option V} {b2:Bool} {α:Type} {x:Option α} {k:α} (e:(match b1,kd,o,b2 with
 | true,some .globalImplicit,none,true=>x
 | _,_,_,_=>none)=some k):b1=true∧kd=some .globalImplicit∧o=none∧b2=true∧x=some k:=by
 cases b1 with
 | false=>exact nx e
 | true =>
 cases kd with
 | none=>exact nx e
 | some kd =>
 cases kd with
 | globalImplicit =>
  cases o with
  | some _=>exact nx e
  | none =>
  cases b2 with
  | false=>exact nx e
  | true=>exact ⟨rfl,rfl,rfl,rfl,e⟩
 | _=>exact nx e
theorem aIT {x:Expr} {k:Nat} (e:j9 TT fi env x=some k):aBg fi env x k:=by
 cases x with
 | Constant c p q =>
  cases c with
  | int i =>
   cases i with
   | ofNat n=>exact .lit p q (so e ▸ rfl)
   | negSucc _=>exact nx e
  | _=>exact nx e
 | Call g as ks p4 =>
  cases g with
  | Name f p1 =>
   cases as with
   | nil=>exact nx e
   | cons a as =>
   cases a with
   | Call g bs js ip =>
    cases g with
    | Attribute g m ap =>
     cases g with
     | Name y p2 =>
      cases bs with
      | nil=>exact nx e
      | cons b bs =>
      cases b with
      | Constant c k1 p3 =>
       cases c with
       | str b =>
        cases bs with
        | cons _ _=>exact nx e
        | nil =>
        cases js with
        | cons _ _=>exact nx e
        | nil =>
        cases as with
        | cons _ _=>exact nx e
        | nil =>
        cases ks with
        | cons _ _=>exact nx e
        | nil =>
         obtain ⟨h1,h2,h3,h4,e⟩:=aIN e
         obtain ⟨h5,h7,wd,c,h6,h8,h9,h10,hk⟩:=aIO e
         exact .call f p1 y p2 m ap b k1 p3 ip p4 rfl ⟨h1,h2,h3,h4,wd,c,h5,h6,h7,h8,h9,h10,hk⟩
       | _=>exact nx e
      | _=>exact nx e
     | _=>exact nx e
    | _=>exact nx e
   | _=>exact nx e
  | _=>exact nx e
 | _=>exact nx e
theorem aIS (B:aZ w g mg mb) {f:Str} {p1:Pos} {y:Str} {p2:Pos} {m:Str} {ap:Pos} {b:Str} {k1:Nat} {p3 ip p4:Pos} {k:Nat} {Q:Value→Shared→Prop} (C:uE fi env f y m b ap ip k) (hR:aU n A) (I:Inv w g G σ s.heap) (F:Frm G s.heap fi env ME fo)
 (P:aP w g G σ s (fun G h u=>VR G h (.pv (.int (.ofNat k))) u) Q):wpAny (MW w) A (eval (.Call (.Name f p1) [.Call (.Attribute (.Name y p2) m ap) [.Constant (.str b) k1 p3] [] ip] [] p4) ME) Q E s:=by
 obtain ⟨h1,h2,h3,h4,wd,c,h5,h6,h7,h8,h9,h10,hk⟩:=C
 have hf:=aK.mp h4
 have hm:=aK.mp h7
 clear h4 h7; subst hf hm
 have en:fA TT fi env "len" σ=some (.st (.builtin "len"),σ):=by
  unfold fA; rw [h2,h3]; rfl
 have et:i8 wd "split" [.pv (.str b)] σ=some (.pv (.lst ((splitOn c wd.cps.toList).map fun w=>PV.str ⟨w.toArray⟩)),σ):=by
  unfold i8
  rw [h9]
  show (match b.cps.toList with | [c]=>Rpure (V.pv (PV.lst ((splitOn c wd.cps.toList).map fun w:List Nat=>PV.str ⟨w.toArray⟩))) | _=>Rno) σ=_
  rw [h8]
  rfl
 have el:nW (.pv (.lst ((splitOn c wd.cps.toList).map fun w=>PV.str ⟨w.toArray⟩))) σ=some (.pv (.int (.ofNat k)),σ):=by
  show dE (((splitOn c wd.cps.toList).map fun w=>PV.str ⟨w.toArray⟩).map V.pv).length σ=_
  unfold dE
  simp only [List.length_map,h10,hk]
  rfl
 clear h2 h3 h8 h9 h10 hk
 rw [show eval (.Call (.Name "len" p1) [.Call (.Attribute (.Name y p2) "split" ap) [.Constant (.str b) k1 p3] [] ip] [] p4) ME=(do callWith p4 (← eval (.Name "len" p1) ME) [] (backTo p4 (starEach [.Call (.Attribute (.Name y p2) "split" ap) [.Constant (.str b) k1 p3] [] ip] ME)) (backToKw p4 (keywordEach [] ME))) from rfl]
 refine wpAny_bind (lQ B en I F fun u s0 G0 I0 S0 x0 g0 o0=>?_)
 rw [(x0:u = .builtin "len")]
 have F0:=F.step I S0
 refine jL rfl (spliced_cons ?_)
 have hpos:methodCallPos true (.Name y p2) ME ap ip=pure ip:=by
  unfold methodCallPos
  have:(ap.endLine == ip.line)=true:=beq_iff_eq.mpr (Nat.eq_of_beq_eq_true h1)
  simp [this]
 rw [arm_eval_Call,mW (o:=.Name y p2) rfl]
 refine wpAny_bind (rZ B h5 h6 I0 F0 fun u1 s1 G1 I1 S1 x1 g1 o1=>wpAny_bind (wpAny_standAt ?_))
 unfold methodCall
 rw [show methodCallForm (([.Constant (.str b) k1 p3]:List Expr).length + ([]:List Keyword).length) (backTo ip (starEach [.Constant (.str b) k1 p3] ME)) (backToKw ip (keywordEach [] ME))=true from rfl]
 refine wpAny_bind (wpAny_holding (callee_b (vs:=[.pv (.str b)]) (aAK (w:=w) (g:=g) et) hR I1 x1 fun f' first s2 G2 I2 S2 g2 o2 Cl=>?_))
 refine wpAny_bind (wpAny_of_eq hpos ?_)
 refine jL rfl (spliced_cons ?_)
 rw [arm_eval_Constant]
 refine qM (ME:=ME) (show qL (.str b) σ=some (.pv (.str b),σ) from rfl) I2 fun u3 s3 G3 I3 S3 x3 g3 o3=>spliced_nil ?_
 obtain ⟨c1,c2⟩:=Cl s3 G3 I3 S3 [u3] (by exact ⟨u3,[],rfl,x3,rfl⟩)
 exact ⟨c1,c2 _ fun u4 s4 G4 I4 S4 x4 g4 o4=>spliced_nil ⟨⟨.machine,fun Q q=>wpAny_pure q⟩,yC el I4 x4 (P.after ((((S0.trans S1).trans S2).trans S3).trans S4) (g4.trans (g3.trans (g2.trans (g1.trans g0)))) (o4.trans (o3.trans (o2.trans (o1.trans o0)))))⟩⟩
theorem aIU (B:aZ w g mg mb) {x:Expr} {k:Nat} {Q:Value→Shared→Prop} (e:j9 TT fi env x=some k) (hR:aU n A) (I:Inv w g G σ s.heap) (F:Frm G s.heap fi env ME fo)
 (P:aP w g G σ s (fun G h u=>VR G h (.pv (.int (.ofNat k))) u) Q):wpAny (MW w) A (eval x ME) Q E s:=by
 rcases aIT e with ⟨p,q,h⟩ | ⟨f,p1,y,p2,m,ap,b,k1,p3,ip,p4,h,c⟩
 ·rw [h,arm_eval_Constant]
  exact qM rfl I P
 ·exact h ▸ aIS B c hR I F P
inductive uB (fi:FI) (env:aB) (x:Str) (e:Expr) (σ σ' : aC) (d:Bool):Prop
 | off (hd:d=false) (hs:σ' = σ)
 | on (hd:d=true) (hk:kindIn fi.sc x=some .local) (i:Nat) (pre rest:List Tk) (nm:V) (k:Nat) (hv:look x env=some (.ob i)) (hc:σ.g[i]? = some (.rdr pre rest nm)) (hs:j9 TT fi env e=some k) (hle:k ≤ rest.length) (hz:σ' = ⟨σ.g.set i (.rdr (pre++rest.take k) (rest.drop k) nm),σ.l⟩)
theorem lT {fi:FI} {env:aB} {x:Str} {e:Expr} {d:Bool} (q:Rpure false σ=some (d,σ')):uB fi env x e σ σ' d:=.off (sp1 (b:=σ) q) (sp2 (a:=false) q)
theorem zO {x:Str} {e:Expr} {d:Bool} (q:passOn TT fi env x e σ=some (d,σ')):uB fi env x e σ σ' d:=by
 unfold passOn at q
 refine optE (o:=kindIn fi.sc x) (fun h1=>?_) fun kd h1=>?_
 ·rw [h1] at q; exact lT q
 rw [h1] at q
 cases kd with
 | «local» =>
  refine optE (o:=look x env) (fun h2=>?_) fun v h2=>?_
  ·rw [h2] at q; exact lT q
  rw [h2] at q
  cases v with
  | ob i =>
   obtain ⟨c,σ1,q1,q2⟩:=aH (m:=getG i) q; clear q
   obtain ⟨hc,z1⟩:=lI q1; clear q1; subst z1
   cases c with
   | obj a as=>exact lT q2
   | rdr pre rest nm =>
    have q2:=(show (match j9 TT fi env e with
     | some k=>(match Nat.ble k rest.length with
      | true=>Rbind (setG i (.rdr (pre++rest.take k) (rest.drop k) nm)) fun _=>Rpure true
      | false=>Rno)
     | none=>Rno) σ1=some (d,σ') from q2)
    refine optE (o:=j9 TT fi env e) (fun h3=>?_) fun k h3=>?_
    ·rw [h3] at q2; exact nx q2
    rw [h3] at q2
    have q2:=(show (match Nat.ble k rest.length with
     | true=>Rbind (setG i (.rdr (pre++rest.take k) (rest.drop k) nm)) fun _=>Rpure true
     | false=>Rno) σ1=some (d,σ') from q2)
    refine boolF (b:=Nat.ble k rest.length) (fun h4=>?_) fun h4=>?_
    ·rw [h4] at q2; exact nx q2
    ·rw [h4] at q2
     obtain ⟨_,σ2,q3,q4⟩:=aH q2; clear q2
     exact .on (sp1 (b:=σ2) q4) h1 i pre rest nm k h2 hc h3 (Nat.le_of_ble_eq_true h4) ((sp2 (a:=true) q4).trans (pA q3))
  | _=>exact lT q
 | _=>exact lT q
theorem aBz (B:aZ w g mg mb) {x:Str} {e:Expr} {p1 p2 p3 p4 p5 p6:Pos} {Q:Flow→Shared→Prop} (q:passOn TT fi env x e σ=some (true,σ')) (hR:aU n A) (I:Inv w g G σ s.heap) (F:Frm G s.heap fi env ME fo)
 (P:dS w g G σ' s fi env ME fo .next Q):wpAny (MW w) A (exec (.Assign [.Attribute (.Name x p1) atName p2] (.BinOp (.Attribute (.Name x p3) atName p4) .Add e p5) p6) ME) Q E s:=by
 rcases zO q with ⟨hd,_⟩ | ⟨_,hk,i,pre,rest,nm,k,hv,hc,hs,hle,z1⟩
 ·exact tf hd
 clear q; subst z1
 refine plainObj_wpAny_Assign_Attribute (wpAny_BinOp ?_) rfl
 rw [arm_eval_Attribute,mW (o:=.Name x p3) rfl]
 refine wpAny_bind (rZ B hk hv I F fun u s1 G1 I1 S1 x1 g1 o1=>wpAny_bind (wpAny_standAt (wpAny_bind (wpAny_holding ?_))))
 have ea:jS TT (.ob i) atName σ=some (.pv (.int (.ofNat pre.length)),σ):=by
  show Rbind (getG i) _ σ=_
  unfold Rbind getG
  simp only [hc]
  rfl
 refine uN B ea I1 x1 fun u2 s2 G2 I2 S2 x2 g2 o2=>wpAny_bind (wpAny_letTemporaryGo (wpAny_pure ?_))
 have F2:=(F.step I S1).step I1 S2
 refine aIU B hs hR I2 F2 fun u3 s3 G3 I3 S3 x3 g3 o3=>?_
 have F3:=F2.step I2 S3
 have eb:bS .Add (.pv (.int (.ofNat pre.length))) (.pv (.int (.ofNat k))) σ=some (.pv (.int (.ofNat (pre.length + k))),σ):=rfl
 refine u0 eb I3 (x2.step S3.car0) x3 fun u4 s4 G4 I4 S4 x4 g4 o4=>?_
 have F4:=F3.step I3 S4
 refine rZ B hk hv I4 F4 fun u5 s5 G5 I5 S5 x5 g5 o5=>?_
 have F5:=F4.step I4 S5
 refine qG (c':=.rdr (pre++rest.take k) (rest.drop k) nm) (x:=.pv (.int (.ofNat (pre.length + k)))) B I5 hc x5 (x4.step S5.car0) (.inr ⟨rfl,pre++rest.take k,rest.drop k,by rw [List.append_assoc,List.take_append_drop],?_,rfl⟩) fun _ s6 G6 I6 S6 _ g6 o6=>?_
 ·rw [List.length_append,List.length_take,Nat.min_eq_left hle]
 ·exact P .next s6 G6 I6 (((((S1.trans S2).trans S3).trans S4).trans S5).trans S6).wk (F5.step I5 S6) rfl (g6.trans (g5.trans (g4.trans (g3.trans (g2.trans g1))))) (o6.trans (o5.trans (o4.trans (o3.trans (o2.trans o1)))))
inductive aAV (S:Sys) (fi:FI) (env:aB) (o v:Expr) (a:Str) (σ:aC) (r:(Fl×aB)×aC):Prop
 | gen (e:Rbind (S.ev fi env v) (fun v=>Rbind (S.ev fi env o) fun ov=>Rbind (setAttr' TT ov a v) fun _=>Rpure (Fl.next,env)) σ=some r)
 | pass (x y:Str) (b:Str) (p1 p3 p4 p5:Pos) (w:Expr) (ho:o = .Name x p1) (hv:v = .BinOp (.Attribute (.Name y p3) b p4) .Add w p5) (ha:a=atName) (hb:b=atName) (hx:x=y) (e:Rbind (passOn TT fi env x w) (fun d=>(match d with
  | true=>Rpure (Fl.next,env)
  | false=>Rbind (S.ev fi env (.BinOp (.Attribute (.Name y p3) b p4) .Add w p5)) fun v=>Rbind (S.ev fi env (.Name x p1)) fun ov=>Rbind (setAttr' TT ov a v) fun _=>Rpure (Fl.next,env))) σ=some r)
theorem attr_inv {o v:Expr} {a:Str} {q p:Pos} {r:(Fl×aB)×aC} (e:d9 TT S fi env (.Assign [.Attribute o a q] v p) σ=some r):aAV S fi env o v a σ r:=by
 cases o with
 | Name x p1 =>
  cases v with
  | BinOp l op w p5 =>
   cases l with
   | Attribute oo b p4 =>
    cases oo with
    | Name y p3 =>
     cases op with
     | Add =>
      obtain ⟨r,σ'⟩:=r
      obtain ⟨h1,h2,h3,e⟩:=rG (a:=sEq a atName) (b:=sEq b atName) (c:=sEq x y) e
      exact .pass x y b p1 p3 p4 p5 w rfl rfl (aK.mp h1) (aK.mp h2) (aK.mp h3) e
     | _=>exact .gen e
    | _=>exact .gen e
   | _=>exact .gen e
  | _=>exact .gen e
 | _=>exact .gen e
theorem aBB (B:aZ w g mg mb) (H:aN w g n S) {o v:Expr} {a:Str} {q p:Pos}:fK w g n (d9 TT S) (.Assign [.Attribute o a q] v p):=by
 intro fi env σ fl env' σ' A E s G ME fo Q e hR I F P
 rcases attr_inv e with e | ⟨x,y,b,p1,p3,p4,p5,w,ho,hv,ha,hb,hx,e⟩
 ·exact uO B H e hR I F P
 ·obtain ⟨d,σ1,e1,e2⟩:=aH e; clear e
  cases d with
  | true =>
   rw [ho,hv,ha,hb,← hx]
   cases e2; exact aBz B e1 hR I F P
  | false =>
   rcases zO e1 with ⟨_,z⟩ | ⟨z,_⟩
   ·exact uO B H (z ▸ ho ▸ hv ▸ e2) hR I F P
   ·exact ft z
theorem aJ0 {S:Sys} {t1 t2:Expr} {r:List Expr} {v:Expr} {p:Pos}:d9 TT S fi env (.Assign (t1::t2::r) v p)=Rno:=by
 cases t1 with
 | Attribute o a q=>cases o <;> rfl
 | _=>rfl
theorem no_ex {m:FI→aB→Stmt→R (Fl×aB)} {st:Stmt} (h:∀ fi env σ,m fi env st σ=none):fK w g n m st:=by
 intro fi env σ fl env' σ' A E s G ME fo Q e
 rw [h] at e; exact nx e
theorem aFU (B:aZ w g mg mb) (H:aN w g n S) {x:Str} {q p:Pos} {v:Expr}:fK w g n (d9 TT S) (.Assign [.Name x q] v p):=by
 cases v with
 | ListComp elt gens csc r =>
  cases gens with
  | nil=>exact no_ex fun _ _ _=>rfl
  | cons c gs =>
   obtain ⟨t,it,ifs,k⟩:=c
   cases k with
   | ofNat k =>
    cases k with
    | zero =>
     cases gs with
     | nil=>exact fun e hR I F P=>aC7 B H e hR I F P
     | cons _ _=>exact no_ex fun _ _ _=>rfl
    | succ k=>exact no_ex fun _ _ _=>by cases gs <;> rfl
   | negSucc k=>exact no_ex fun _ _ _=>by cases gs <;> rfl
 | _=>exact fun e hR I F P=>uM H rfl e hR I F P
theorem aDS (B:aZ w g mg mb) (H:aN w g n S) (st:Stmt):fK w g n (d9 TT S) st:=by
 cases st with
 | Assign ts v p =>
  cases ts with
  | nil=>exact no_ex fun _ _ _=>rfl
  | cons t ts =>
  cases ts with
  | cons t2 r=>exact no_ex fun _ _ _=>by rw [aJ0]; rfl
  | nil =>
   cases t with
   | Attribute o a q=>exact aBB B H
   | Subscript o i q=>exact aER H
   | Name x q=>exact aFU B H
   | _=>exact fun e hR I F P=>uM H rfl e hR I F P
 | Expr x p=>exact aDT H
 | If t b o p=>exact aEn H
 | While t b o p =>
  cases o with
  | nil=>exact aKk H
  | cons _ _=>exact no_ex fun _ _ _=>rfl
 | For t it b o p =>
  cases o with
  | nil=>exact aD3 B H
  | cons _ _=>exact no_ex fun _ _ _=>rfl
 | Return v p =>
  cases v with
  | none=>exact aHP
  | some x=>exact aHQ H
 | _=>exact no_ex fun _ _ _=>rfl
section
variable {c:Nat} {O:Orc}
structure gY (w:World) (g:Heap) (c:Nat) (O:Orc):Prop where
 call:∀ {f vs m σ v σ' n A s G uf us} {E Q:Value→Shared→Prop},O f vs=some m→m σ=some (v,σ')→aU (n + c + 1) A→Inv w g G σ s.heap→VR G s.heap f uf→VRs G s.heap vs us →
  aP w g G σ' s (fun G h u=>VR G h v u) Q→wpAny (MW w) A (call uf us) Q E s
 code:∀ {a r vs m},aX a bU=some r→O (.st (.ref a)) vs=some m→False
 keep:∀ {f vs m σ v σ' τ s G uf},O f vs=some m→m σ=some (v,σ')→Inv w g G τ s.heap→VR G s.heap f uf→∃ k,∀ (A:Around) (E:Value→Shared→Prop) (Q:Keeper→Shared→Prop),Q k s→wpAny (MW w) A (keeperOf uf) Q E s
theorem wN (B:aZ w g mg mb) (HI:aN w g n I') {a:Addr} {r:fL} (hfn:aX a bU=some r):f8 w g (n + 1) a (lG I' a r):=by
 intro args σ v σ' A s G us E Q e hR I xs P
 have e:=(show (match r.iso with | true=>rS args (cB I' a r.st r.dflt) | false=>cB I' a r.st r.dflt args) σ=some (v,σ') from e)
 refine boolF (b:=r.iso) (fun hi=>?_) fun hi=>?_
 ·simp only [hi] at e; exact wQ B HI hfn e hR I xs P
 ·simp only [hi] at e; exact aEQ (wQ B HI hfn) e hR I xs P
theorem xU {h:Heap} {a:Addr} {o:Obj} {s:Shared} (ho:s.heap.get? a=some o) (hd:∀ l,o.data ≠ .cls l) (hf:∀ l,o.data ≠ .fields l):∃ k,∀ (A:Around) (E:Value→Shared→Prop) (Q:Keeper→Shared→Prop),Q k s→wpAny (MW w) A (keeperOf (.ref a)) Q E s:=by
 obtain ⟨c,d,dt,sl⟩:=o
 cases dt with
 | func fd=>exact ⟨.frame,fun A E Q q=>by unfold keeperOf; exact wpAny_bind (wpAny_load ho (wpAny_pure q))⟩
 | cls l=>exact absurd rfl (hd l)
 | fields l=>exact absurd rfl (hf l)
 | _=>exact ⟨.caller,fun A E Q q=>by unfold keeperOf; exact wpAny_bind (wpAny_load ho (wpAny_pure q))⟩
noncomputable def xM:Data→Bool
 | .cls _=>true
 | _=>false
noncomputable def xN:Data→Bool
 | .fields _=>true
 | _=>false
theorem xT (B:aZ w g mg mb) {τ:aC} {s:Shared} {G:Gh} {a:Addr} {r:fL} (hfn:jB w g a r) (I:Inv w g G τ s.heap):∃ k,∀ (A:Around) (E:Value→Shared→Prop) (Q:Keeper→Shared→Prop),Q k s→wpAny (MW w) A (keeperOf (.ref a)) Q E s:=by
 obtain ⟨qual,dV,pm,c,ho,_⟩:=hfn.at_
 obtain ⟨b1,b2⟩:=(by cases r.st <;> exact ⟨rfl,rfl⟩:xM (aI r.st qual dV pm (.ref c)).data=false∧xN (aI r.st qual dV pm (.ref c)).data=false)
 exact xU (h:=g) (I.keep _ _ ho) (fun l q=>tf ((congrArg xM q).symm.trans b1)) (fun l q=>tf ((congrArg xN q).symm.trans b2))
theorem aEW (w:World):(cN.all fun p=>keepIn (kfrag w.params) (.ref p.1))=true:=by kernel_rfl
theorem aEX (B:aZ w g mg mb) {τ:aC} {s:Shared} {G:Gh} {a:Addr} {cr:dI} (hcr:aX a cN=some cr) (I:Inv w g G τ s.heap):∃ k,∀ (A:Around) (E:Value→Shared→Prop) (Q:Keeper→Shared→Prop),Q k s→wpAny (MW w) A (keeperOf (.ref a)) Q E s:=by
 obtain ⟨k,_,L⟩:=looks_keep (M:=MW w) (nZ (P:=fun a _=>keepIn (kfrag w.params) (.ref a)) (aEW w) hcr) (B.K.keeps I.keep)
 exact ⟨k,fun A E Q q=>L.here q⟩
theorem aCw (B:aZ w g mg mb) (HO:gY w g c O) (HI:aN w g (n + c) I') {f vs σ v σ' A s G uf us} {E Q:Value→Shared→Prop} (e:bI TT O I' f vs σ=some (v,σ')) (hR:aU (n + c + 1) A) (I:Inv w g G σ s.heap) (xf:VR G s.heap f uf) (xs:VRs G s.heap vs us)
 (P:aP w g G σ' s (fun G h u=>VR G h v u) Q):wpAny (MW w) A (call uf us) Q E s:=by
 unfold bI at e
 refine optE (o:=O f vs) (fun hO=>?_) fun m hO=>?_
 ·rw [hO] at e
  clear hO; cases f with
  | st u =>
   subst xf
   cases uf with
   | ref a =>
    have e:=(show (match aX a bU with
     | some r=>lG I' a r vs
     | none=>(match aX a cN with
      | some cr=>Rbind (newG (.obj a [])) fun i=>Rbind (I'.call (.st (.ref cr.ini)) (.ob i::vs)) fun v=>(match v with | .pv .none=>sealG TT a cr i | _=>Rno)
      | none=>Rno)) σ=some (v,σ') from e)
    refine optE (o:=aX a bU) (fun hf=>?_) fun r hf=>?_
    ·rw [hf] at e
     refine optE (o:=aX a cN) (fun hc=>?_) fun cr hc=>?_
     ·rw [hc] at e; exact nx e
     ·rw [hc] at e; exact aCU B HI hc e hR I xs P
    ·rw [hf] at e; exact wpAny_call (wN B HI hf e hR I xs P)
   | builtin b=>exact aCn e I xs P
   | type t=>exact aJ3 hR.2.2 e I xs P
   | _=>exact nx e
  | clo ps body sc capt=>exact aCL B HI e hR I xf xs P
  | _=>exact nx e
 ·rw [hO] at e; exact HO.call hO e hR I xf xs P
theorem aC3 (B:aZ w g mg mb) (HO:gY w g c O) (HI:aN w g n I') {a r vs σ v σ' A s G us} {E Q:Value→Shared→Prop} (hf:aX a bU=some r) (e:bI TT O I' (.st (.ref a)) vs σ=some (v,σ')) (hR:aU (n + 1) A) (I:Inv w g G σ s.heap) (xs:VRs G s.heap vs us)
 (P:aP w g G σ' s (fun G h u=>VR G h v u) Q):codeAny (MW w) A (.call (.ref a) ⟨us,[]⟩) (mI E Q) s:=by
 unfold bI at e
 refine optE (o:=O (.st (.ref a)) vs) (fun hO=>?_) fun m hO=>?_
 ·rw [hO] at e
  have e:=(show (match aX a bU with
   | some r=>lG I' a r vs
   | none=>(match aX a cN with
    | some cr=>Rbind (newG (.obj a [])) fun i=>Rbind (I'.call (.st (.ref cr.ini)) (.ob i::vs)) fun v=>(match v with | .pv .none=>sealG TT a cr i | _=>Rno)
    | none=>Rno)) σ=some (v,σ') from e)
  rw [hf] at e
  exact wN B HI hf e hR I xs P
 ·exact (HO.code hf hO).elim
theorem aEY (B:aZ w g mg mb) (HO:gY w g c O) {f vs σ v σ' τ s G uf} (e:bI TT O I' f vs σ=some (v,σ')) (I:Inv w g G τ s.heap) (xf:VR G s.heap f uf) :
 ∃ k,∀ (A:Around) (E:Value→Shared→Prop) (Q:Keeper→Shared→Prop),Q k s→wpAny (MW w) A (keeperOf uf) Q E s:=by
 unfold bI at e
 refine optE (o:=O f vs) (fun hO=>?_) fun m hO=>?_
 ·rw [hO] at e
  clear hO; cases f with
  | st u =>
   subst xf
   cases uf with
   | ref a =>
    have e:=(show (match aX a bU with
     | some r=>lG I' a r vs
     | none=>(match aX a cN with
      | some cr=>Rbind (newG (.obj a [])) fun i=>Rbind (I'.call (.st (.ref cr.ini)) (.ob i::vs)) fun v=>(match v with | .pv .none=>sealG TT a cr i | _=>Rno)
      | none=>Rno)) σ=some (v,σ') from e)
    refine optE (o:=aX a bU) (fun hf=>?_) fun r hf=>?_
    ·rw [hf] at e
     refine optE (o:=aX a cN) (fun hc=>?_) fun cr hc=>?_
     ·rw [hc] at e; exact nx e
     ·exact aEX B hc I
    ·exact xT B (B.fn a r hf) I
   | _=>exact ⟨.machine,fun A E Q q=>wpAny_pure q⟩
  | clo ps body sc capt =>
   obtain ⟨a,cus,rfl,⟨qual,pm,c',ctv,cl,_,ho,_⟩,_⟩:=xf
   exact xU (h:=g) ho (fun l=>nofun) (fun l=>nofun)
  | _=>exact nx e
 ·rw [hO] at e; exact HO.keep hO e I xf
theorem aN.up (H:aN w g n S):aN w g (n + 1) S where
 ev e hR:=H.ev e (hR.le (Nat.le_succ n))
 tr e hR:=H.tr e (hR.le (Nat.le_succ n))
 ex e hR:=H.ex e (hR.le (Nat.le_succ n))
 call e hR:=H.call e (hR.le (Nat.le_succ n))
 code hf e hR:=H.code hf e (hR.le (Nat.le_succ n))
 keep:=H.keep
 star:=H.star
 set:=H.set
 ifx:=H.ifx
theorem aIP (B:aZ w g mg mb) (HO:gY w g c O) (H:aN w g (n + c + 1) S) (HI:aN w g (n + c) I'):aN w g (n + c + 1) (aAs TT O S I') where
 ev e hR I F P:=aDQ B H HI.up _ e hR I F P
 tr e hR I F P:=aJN H e hR I F P
 ex e hR I F P:=aDS B H _ e hR I F P
 call e hR I xf xs P:=aCw B HO HI e hR I xf xs P
 code hf e hR I xs P:=aC3 B HO HI hf e hR I xs P
 keep e I xf:=aEY B HO e I xf
 star:=rfl
 set:=rfl
 ifx {fi env t b o p σ} h:=by
  match b,o with
  | [op],[r]=>exact ⟨op,r,rfl,rfl⟩
  | [],_=>exact absurd rfl h
  | [_],[]=>exact absurd rfl h
  | [_],_::_::_=>exact absurd rfl h
  | _::_::_,_=>exact absurd rfl h
theorem u7:aN w g n mZ where
 ev e:=nomatch e
 tr e:=nomatch e
 ex e:=nomatch e
 call e:=nomatch e
 code _ e:=nomatch e
 keep e:=nomatch e
 star:=rfl
 set:=rfl
 ifx h:=absurd rfl h
theorem xF (B:aZ w g mg mb) (HO:gY w g c O) (HI:aN w g (n + c) I'):∀ k,aN w g (n + c + 1) (gH TT O I' k)
 | 0=>u7
 | k + 1=>aIP B HO (xF B HO HI k) HI
theorem tO (B:aZ w g mg mb) (HO:gY w g c O):∀ u,aN w g (u + c) (sys TT O u)
 | 0=>u7
 | u + 1=>by rw [Nat.add_right_comm]; exact xF B HO (tO B HO u) sH
end
noncomputable def rpk:fL:=⟨aM 91 1,[.pv (.int 0)],false⟩
noncomputable def aGS:Scope:=match aM 91 1 with
 | .FunctionDef _ _ _ _ _ _ sc _ _ _=>sc
 | _=>⟨.function,[],false,false,[]⟩
noncomputable def bQ:FI:=⟨aGS,some 628,[]⟩
noncomputable def oP (p1 p2:Pos):Expr:=.Attribute (.Name "self" p1) "at" p2
noncomputable def hZ (p1 p2:Pos):Expr:=.Attribute (.Name "self" p1) "tokens" p2
noncomputable def fY (p1 p2 p3 p4:Pos):Expr:=.BinOp (oP p1 p2) .Add (.Name "ahead" p3) p4
noncomputable def iZ (p1 p2 p3 p4:Pos):Expr:=.Call (.Name "len" p1) [hZ p2 p3] [] p4
noncomputable def pkB:List Stmt:=[.If (.Compare (fY ⟨542,11,542,15⟩ ⟨542,11,542,18⟩ ⟨542,21,542,26⟩ ⟨542,11,542,26⟩) [.Lt] [iZ ⟨542,29,542,32⟩ ⟨542,33,542,37⟩ ⟨542,33,542,44⟩ ⟨542,29,542,45⟩] ⟨542,11,542,45⟩)
 [.Return (some (.Subscript (hZ ⟨543,19,543,23⟩ ⟨543,19,543,30⟩) (fY ⟨543,31,543,35⟩ ⟨543,31,543,38⟩ ⟨543,41,543,46⟩ ⟨543,31,543,46⟩) ⟨543,19,543,47⟩)) ⟨543,12,543,47⟩] [] ⟨542,8,543,47⟩,
 .Return (some (.Constant .none 0 ⟨544,15,544,19⟩)) ⟨544,8,544,19⟩]
noncomputable def pkEnv (i:Nat) (x:V):aB:=[("self",.ob i),("ahead",x)]
theorem aGX (S:Sys) (i:Nat) (x:V) (σ:aC):cB S 628 (aM 91 1) [.pv (.int 0)] [.ob i,x] σ=(Rbind (blk S bQ (pkEnv i x) pkB) fun x=>match x with
 | (.ret v,_)=>Rpure v
 | (.next,_)=>Rpure (.pv .none)) σ:=by kernel_rfl
theorem aGW (S:Sys) (i:Nat) (σ:aC):cB S 628 (aM 91 1) [.pv (.int 0)] [.ob i] σ=(Rbind (blk S bQ (pkEnv i (.pv (.int 0))) pkB) fun x=>match x with
 | (.ret v,_)=>Rpure v
 | (.next,_)=>Rpure (.pv .none)) σ:=by kernel_rfl
noncomputable def cE:Orc:=fun _ _=>none
section
variable {I:Sys} {i k:Nat} {pre rest:List Tk} {nm:V}
noncomputable abbrev pkS (I:Sys) (n:Nat):Sys:=gH TT cE I n
theorem wX {c:GCell} (hc:σ.g[i]? = some c):getG i σ=some (c,σ):=by unfold getG; rw [hc]
theorem aGU (hc:σ.g[i]? = some (.rdr pre rest nm)) (x:V) (p1 p2:Pos):(pkS I (n + 2)).ev bQ (pkEnv i x) (oP p1 p2) σ=some (.pv (.int (.ofNat pre.length)),σ):=by
 have h1:(pkS I (n + 2)).ev bQ (pkEnv i x) (oP p1 p2) σ=jS TT (.ob i) atName σ:=by kernel_rfl
 rw [h1]
 show Rbind (getG i) _ σ=_
 unfold Rbind
 rw [wX hc]
 rfl
theorem zT (hc:σ.g[i]? = some (.rdr pre rest nm)) (x:V) (p1 p2:Pos):(pkS I (n + 2)).ev bQ (pkEnv i x) (hZ p1 p2) σ=some (.vl ((pre++rest).map (tkV TT)),σ):=by
 have h1:(pkS I (n + 2)).ev bQ (pkEnv i x) (hZ p1 p2) σ=jS TT (.ob i) dR σ:=by kernel_rfl
 rw [h1]
 show Rbind (getG i) _ σ=_
 unfold Rbind
 rw [wX hc]
 rfl
theorem zR (hc:σ.g[i]? = some (.rdr pre rest nm)) (p1 p2 p3 p4:Pos):(pkS I (n + 3)).ev bQ (pkEnv i (.pv (.int (.ofNat k)))) (fY p1 p2 p3 p4) σ=some (.pv (.int (.ofNat (pre.length + k))),σ):=by
 show Rbind ((pkS I (n + 2)).ev bQ (pkEnv i (.pv (.int (.ofNat k)))) (oP p1 p2)) (fun a=>Rbind ((pkS I (n + 2)).ev bQ (pkEnv i (.pv (.int (.ofNat k)))) (.Name "ahead" p3)) fun b=>bS .Add a b) σ=_
 unfold Rbind
 rw [aGU hc]
 have:(pkS I (n + 2)).ev bQ (pkEnv i (.pv (.int (.ofNat k)))) (.Name "ahead" p3) σ=some (.pv (.int (.ofNat k)),σ):=by kernel_rfl
 dsimp only
 rw [this]
 rfl
theorem dU {α β:Type} {m:R α} {f:α→R β} {σ σ₁:aC} {a:α} (h:m σ=some (a,σ₁)):Rbind m f σ=f a σ₁:=by unfold Rbind; rw [h]
theorem aGZ (hc:σ.g[i]? = some (.rdr pre rest nm)) (hs:(pre++rest).length ≤ 1000000) (x:V) (p1 p2 p3 p4:Pos):(pkS (sys TT cE (m + 1)) (n + 3)).ev bQ (pkEnv i x) (iZ p1 p2 p3 p4) σ=some (.pv (.int (.ofNat (pre++rest).length)),σ):=by
 have h1:(pkS (sys TT cE (m + 1)) (n + 3)).ev bQ (pkEnv i x) (iZ p1 p2 p3 p4) σ=(Rbind ((pkS (sys TT cE (m + 1)) (n + 2)).ev bQ (pkEnv i x) (.Name "len" p1)) fun fv=>Rbind (Rbind ((pkS (sys TT cE (m + 1)) (n + 2)).ev bQ (pkEnv i x) (hZ p2 p3)) fun b=>Rpure [b]) fun vs=>(sys TT cE (m + 1)).call fv vs) σ:=by kernel_rfl
 have e1:(pkS (sys TT cE (m + 1)) (n + 2)).ev bQ (pkEnv i x) (.Name "len" p1) σ=some (.st (.builtin "len"),σ):=by kernel_rfl
 rw [h1,dU e1,dU (dU (zT hc x p2 p3))]
 have h2:(sys TT cE (m + 1)).call (.st (.builtin "len")) [.vl ((pre++rest).map (tkV TT))] σ=dE (((pre++rest).map (tkV TT)).length) σ:=by kernel_rfl
 rw [h2,List.length_map]
 unfold dE
 have:small (pre++rest).length=true:=Nat.ble_eq_true_of_le hs
 rw [this]
 rfl
theorem aGY (hlt:k < rest.length) (hs:(pre++rest).length ≤ 1000000):idx (.vl ((pre++rest).map (tkV TT))) (.pv (.int (.ofNat (pre.length + k)))) σ=some (dZ TT rest k,σ):=by
 have hb:pre.length + k ≤ 1000000:=Nat.le_trans (Nat.add_le_add_left (Nat.le_of_lt hlt) _) (List.length_append ▸ hs)
 have h1:smallI (.ofNat (pre.length + k))=true:=Nat.ble_eq_true_of_le hb
 show (match smallI (.ofNat (pre.length + k)) with | true=>hS (.vl ((pre++rest).map (tkV TT))) (.ofNat (pre.length + k)) | false=>Rno) σ=_
 rw [h1]
 show oneOf (((pre++rest).map (tkV TT))[pre.length + k]?) σ=_
 rw [List.getElem?_map,List.getElem?_append_right (Nat.le_add_right _ _),Nat.add_sub_cancel_left]
 unfold dZ
 rw [List.getElem?_eq_getElem hlt]
 rfl
theorem zS (hc:σ.g[i]? = some (.rdr pre rest nm)) (hs:(pre++rest).length ≤ 1000000) (p1 p2 p3 p4 p5 p6 p7 p8 p9:Pos) :
 (pkS (sys TT cE (n + 1)) 39).tr bQ (pkEnv i (.pv (.int (.ofNat k)))) (.Compare (fY p1 p2 p3 p4) [.Lt] [iZ p5 p6 p7 p8] p9) σ=some (decide (k < rest.length),σ):=by
 have h1:(pkS (sys TT cE (n + 1)) 39).tr bQ (pkEnv i (.pv (.int (.ofNat k)))) (.Compare (fY p1 p2 p3 p4) [.Lt] [iZ p5 p6 p7 p8] p9) σ =
  (Rbind (Rbind ((pkS (sys TT cE (n + 1)) 37).ev bQ (pkEnv i (.pv (.int (.ofNat k)))) (fY p1 p2 p3 p4)) fun a=>Rbind ((pkS (sys TT cE (n + 1)) 37).ev bQ (pkEnv i (.pv (.int (.ofNat k)))) (iZ p5 p6 p7 p8)) fun b=>Rbind (cmp .Lt a b) fun x=>Rpure (.pv (.bool x))) truthy) σ:=by kernel_rfl
 rw [h1,dU (σ₁:=σ) (a:=.pv (.bool (decide (k < rest.length)))) ?_]
 ·rfl
 ·rw [dU (zR hc p1 p2 p3 p4),dU (aGZ hc hs _ p5 p6 p7 p8)]
  show some (V.pv (.bool (decide (Int.ofNat (pre.length + k) < Int.ofNat (pre++rest).length))),σ)=_
  have:decide (Int.ofNat (pre.length + k) < Int.ofNat (pre++rest).length)=decide (k < rest.length):=by
   rw [decide_eq_decide,List.length_append]
   show ((pre.length + k:Nat):Int) < ((pre.length + rest.length:Nat):Int) ↔ _
   exact Int.ofNat_lt.trans Nat.add_lt_add_iff_left
  rw [this]
theorem zQ (hc:σ.g[i]? = some (.rdr pre rest nm)) (hs:(pre++rest).length ≤ 1000000) :
 (Rbind (blk (sys TT cE (n + 2)) bQ (pkEnv i (.pv (.int (.ofNat k)))) pkB) fun x=>match x with
  | (.ret v,_)=>Rpure v
  | (.next,_)=>Rpure (.pv .none)) σ=some (dZ TT rest k,σ):=by
 have h1:blk (sys TT cE (n + 2)) bQ (pkEnv i (.pv (.int (.ofNat k)))) pkB σ=(Rbind (Rbind ((pkS (sys TT cE (n + 1)) 39).tr bQ (pkEnv i (.pv (.int (.ofNat k)))) (.Compare (fY ⟨542,11,542,15⟩ ⟨542,11,542,18⟩ ⟨542,21,542,26⟩ ⟨542,11,542,26⟩) [.Lt] [iZ ⟨542,29,542,32⟩ ⟨542,33,542,37⟩ ⟨542,33,542,44⟩ ⟨542,29,542,45⟩] ⟨542,11,542,45⟩)) fun r=>match r with
  | true=>blk (pkS (sys TT cE (n + 1)) 39) bQ (pkEnv i (.pv (.int (.ofNat k)))) [.Return (some (.Subscript (hZ ⟨543,19,543,23⟩ ⟨543,19,543,30⟩) (fY ⟨543,31,543,35⟩ ⟨543,31,543,38⟩ ⟨543,41,543,46⟩ ⟨543,31,543,46⟩) ⟨543,19,543,47⟩)) ⟨543,12,543,47⟩]
  | false=>Rpure (.next,pkEnv i (.pv (.int (.ofNat k))))) fun x=>match x with
   | (.next,env')=>blk (sys TT cE (n + 2)) bQ env' [.Return (some (.Constant .none 0 ⟨544,15,544,19⟩)) ⟨544,8,544,19⟩]
   | (.ret v,env')=>Rpure (.ret v,env')) σ:=by kernel_rfl
 rw [dU (σ₁:=σ) (a:=(.ret (dZ TT rest k),pkEnv i (.pv (.int (.ofNat k))))) ?_]
 ·rfl
 ·rw [h1]
  by_cases hlt:k < rest.length
  ·rw [dU (σ₁:=σ) (a:=(.ret (dZ TT rest k),pkEnv i (.pv (.int (.ofNat k))))) ?_]
   ·rfl
   ·rw [dU (zS hc hs _ _ _ _ _ _ _ _ _),decide_eq_true hlt]
    have h2:blk (pkS (sys TT cE (n + 1)) 39) bQ (pkEnv i (.pv (.int (.ofNat k)))) [.Return (some (.Subscript (hZ ⟨543,19,543,23⟩ ⟨543,19,543,30⟩) (fY ⟨543,31,543,35⟩ ⟨543,31,543,38⟩ ⟨543,41,543,46⟩ ⟨543,31,543,46⟩) ⟨543,19,543,47⟩)) ⟨543,12,543,47⟩] σ =
     (Rbind (Rbind (Rbind ((pkS (sys TT cE (n + 1)) 37).ev bQ (pkEnv i (.pv (.int (.ofNat k)))) (hZ ⟨543,19,543,23⟩ ⟨543,19,543,30⟩)) fun v=>Rbind ((pkS (sys TT cE (n + 1)) 37).ev bQ (pkEnv i (.pv (.int (.ofNat k)))) (fY ⟨543,31,543,35⟩ ⟨543,31,543,38⟩ ⟨543,41,543,46⟩ ⟨543,31,543,46⟩)) fun k=>idx v k) fun v=>Rpure (Fl.ret v,pkEnv i (.pv (.int (.ofNat k))))) fun x=>match x with
      | (.next,env')=>Rpure (Fl.next,env')
      | (.ret v,env')=>Rpure (.ret v,env')) σ:=by kernel_rfl
    show blk _ _ _ _ σ=_
    rw [h2,dU (σ₁:=σ) (a:=(Fl.ret (dZ TT rest k),pkEnv i (.pv (.int (.ofNat k))))) ?_]
    ·rfl
    ·rw [dU (σ₁:=σ) (a:=dZ TT rest k) ?_]
     ·rfl
     ·rw [dU (zT hc _ _ _),dU (zR hc _ _ _ _),aGY hlt hs]
  ·rw [dU (σ₁:=σ) (a:=(.next,pkEnv i (.pv (.int (.ofNat k))))) ?_]
   ·have:dZ TT rest k = .pv .none:=by
     unfold dZ
     rw [List.getElem?_eq_none (Nat.le_of_not_lt hlt)]
    rw [this]
    kernel_rfl
   ·rw [dU (zS hc hs _ _ _ _ _ _ _ _ _),decide_eq_false hlt]
    rfl
end
theorem aGI:gY w g 0 cE where
 call e:=nomatch e
 code _ e:=nomatch e
 keep e:=nomatch e
theorem aGQ {args:List V} {σ σ' : aC} {v:V} (e:oO TT args σ=some (v,σ')):∃ i k pre rest nm,σ.g[i]? = some (.rdr pre rest nm)∧σ' = σ∧v=dZ TT rest k∧((args=[.ob i]∧k=0)∨args=[.ob i,.pv (.int (.ofNat k))]):=by
 have go:∀ (i k:Nat),Rbind (getG i) (fun c=>match c with | .rdr _ rest _=>Rpure (dZ TT rest k) | _=>Rno) σ=some (v,σ')→∃ pre rest nm,σ.g[i]? = some (.rdr pre rest nm)∧σ' = σ∧v=dZ TT rest k:=fun i k e=>by
  obtain ⟨c,σ1,h1,h2⟩:=aH e; clear e
  obtain ⟨hc,z1⟩:=lI h1; clear h1; subst z1
  cases c with
  | obj a as=>exact nx h2
  | rdr pre rest nm=>cases h2; exact ⟨pre,rest,nm,hc,rfl,rfl⟩
 cases args with
 | nil=>exact nx e
 | cons a r =>
  cases a with
  | ob i =>
   cases r with
   | nil =>
    obtain ⟨pre,rest,nm,h1,h2,h3⟩:=go i 0 e
    exact ⟨i,0,pre,rest,nm,h1,h2,h3,.inl ⟨rfl,rfl⟩⟩
   | cons b r =>
    cases r with
    | cons _ _=>clear go; cases b with
     | pv p=>cases p with
      | int n=>cases n <;> exact nx e
      | _=>exact nx e
     | _=>exact nx e
    | nil =>
     cases b with
     | pv p =>
      cases p with
      | int n =>
       cases n with
       | ofNat k =>
        obtain ⟨pre,rest,nm,h1,h2,h3⟩:=go i k e
        exact ⟨i,k,pre,rest,nm,h1,h2,h3,.inr rfl⟩
       | negSucc _=>exact nx e
      | _=>exact nx e
     | _=>exact nx e
  | _=>clear go; cases r <;> exact nx e
theorem sP {f:V} {vs:List V} {m:R V} (e:aA f vs=some m):f = .st (.ref 628)∧m=oO TT vs:=by
 cases f with
 | st u =>
  cases u with
  | ref a =>
   have e:=(show (match Nat.beq a 628 with | true=>some (oO TT vs) | false=>none)=some m from e)
   refine boolF (b:=Nat.beq a 628) (fun h=>?_) fun h=>?_
   ·rw [h] at e; exact nx e
   ·rw [h] at e; exact ⟨Nat.eq_of_beq_eq_true h ▸ rfl,so e⟩
  | _=>exact nx e
 | _=>exact nx e
theorem aGH (B:aZ w g mg mb) (hpk:jB w g 628 rpk):gY w g 2 aA where
 call {f vs m σ v σ' n A s G uf us E Q} hO e hR I xf xs P:=by
  obtain ⟨rfl,rfl⟩:=sP hO
  subst xf
  obtain ⟨i,k,pre,rest,nm,hc,rfl,rfl,ha⟩:=aGQ e
  obtain ⟨p,hp,hbd,us',_⟩:=I.inG hc
  refine wpAny_call ?_
  have run:cB (sys TT cE 2) 628 rpk.st rpk.dflt vs σ' = some (dZ TT rest k,σ'):=by
   show cB (sys TT cE 2) 628 (aM 91 1) [.pv (.int 0)] vs σ' = _
   clear xs P; rcases ha with ⟨rfl,rfl⟩ | rfl
   ·rw [aGW]; exact zQ (n:=0) (k:=0) hc hbd
   ·rw [aGX]; exact zQ (n:=0) hc hbd
  exact wR (n:=2) B (tO (c:=0) B aGI 2) hpk run (hR.le (Nat.succ_le_succ (Nat.le_add_left 2 n))) I xs P
 code {a r vs m} hf hO:=by
  have:=(sP hO).1
  injection this with this
  injection this with this
  subst this
  have:aX 628 bU=none:=by kernel_rfl
  rw [this] at hf; exact nx hf
 keep {f vs m σ v σ' τ s G uf} hO e I xf:=by
  obtain ⟨rfl,rfl⟩:=sP hO
  subst xf
  exact xT B hpk I
end
end
section
open PySem
abbrev RT:=Str×Str
noncomputable def wCONTINUE:Str:=(ns [67,79,78,84,73,78,85,69])
noncomputable def wADD:Str:=(ns [65,68,68])
noncomputable def wSUBTRACT:Str:=(ns [83,85,66,84,82,65,67,84])
noncomputable def wREAD:Str:=(ns [82,69,65,68])
noncomputable def pL:Str:=(ns [68,69,76,69,84,69])
noncomputable def wCALL:Str:=(ns [67,65,76,76])
noncomputable def wIF:Str:=(ns [73,70])
noncomputable def wNOT:Str:=(ns [78,79,84])
noncomputable def wON:Str:=(ns [79,78])
noncomputable def gV:Str:=(ns [83,73,90,69])
noncomputable def kE:Str:=(ns [69,82,82,79,82])
noncomputable def wAT:Str:=(ns [65,84])
noncomputable def fH:Str:=(ns [69,78,68])
noncomputable def wINVALID:Str:=(ns [73,78,86,65,76,73,68])
noncomputable def kF:Str:=(ns [75,69,89])
noncomputable def fI:Str:=(ns [69,88,67,69,80,84,73,79,78])
noncomputable def i9:Str:=(ns [79,86,69,82,70,76,79,87])
noncomputable def wELSE:Str:=(ns [69,76,83,69])
noncomputable def gT:Str:=(ns [69,78,68,45,65,68,68])
noncomputable def gU:Str:=(ns [69,78,68,45,83,85,66,84,82,65,67,84])
noncomputable def mG:Str:=(ns [69,78,68,45,82,69,65,68])
noncomputable def mF:Str:=(ns [69,78,68,45,68,69,76,69,84,69])
noncomputable def mE:Str:=(ns [69,78,68,45,67,65,76,76])
noncomputable def eT:Str:=(ns [69,78,68,45,73,70])
noncomputable def wTO:Str:=(ns [84,79])
noncomputable def wA:Str:=(ns [65])
noncomputable def wB:Str:=(ns [66])
noncomputable def wF:Str:=(ns [70])
noncomputable def wFROM:Str:=(ns [70,82,79,77])
noncomputable def wROUNDED:Str:=(ns [82,79,85,78,68,69,68])
noncomputable def wNEXT:Str:=(ns [78,69,88,84])
noncomputable def wRECORD:Str:=(ns [82,69,67,79,82,68])
noncomputable def wDONE:Str:=(ns [68,79,78,69])
noncomputable def gP:Str:=(ns [115,105,122,101])
noncomputable def j7:Str:=(ns [110,111,116,32,115,105,122,101])
noncomputable def oX:Str:=(ns [101,110,100])
noncomputable def oZ:Str:=(ns [110,111,116,32,101,110,100])
noncomputable def j5:Str:=(ns [105,110,118,97,108,105,100])
noncomputable def j6:Str:=(ns [110,111,116,32,105,110,118,97,108,105,100])
noncomputable def l7:Str:=(ns [102,97,117,108,116])
noncomputable def o7:Str:=(ns [110,111,116,32,102,97,117,108,116])
noncomputable def oV:Str:=(ns [97,114,105,116,104])
noncomputable def aIf:Str:=(ns [114,101,102])
noncomputable def s_number:Str:=(ns [110,117,109,98,101,114])
noncomputable def aIe:Str:=(ns [114,101,97,100])
noncomputable def aIc:Str:=(ns [100,101,108,101,116,101])
noncomputable def aIa:Str:=(ns [99,97,108,108])
noncomputable def tH:Str:=(ns [116,101,120,116])
noncomputable def oY:Str:=(ns [105,102])
noncomputable def aId:Str:=(ns [110,97,109,101,100])
noncomputable def aIb:Str:=(ns [99,111,110,116,105,110,117,101])
noncomputable def s_word:Str:=(ns [119,111,114,100])
noncomputable def o8:Str:=(ns [115,105,103,110])
noncomputable def s_literal:Str:=(ns [108,105,116,101,114,97,108])
noncomputable def tG:Str:=(ns [43])
noncomputable def tF:Str:=(ns [45])
noncomputable def aKw:Str:=(ns [61])
noncomputable def oW:Str:=(ns [46])
noncomputable def s_one:Str:=(ns [49])
noncomputable def s_pp:Str:=(ns [80])
noncomputable def W (x:Str):RT:=(s_word,x)
noncomputable def tks:List RT→(Nat→PV)→Nat→List Tk
 | [],_,_=>[]
 | (k,w)::r,p,i=>⟨k,w,p i⟩::tks r p (i + 1)
theorem dQ (p:Nat→PV):∀ (a b:List RT) (i:Nat),tks (a++b) p i=tks a p i++tks b p (i + a.length)
 | [],b,i=>rfl
 | (k,w)::a,b,i=>by
  show _::tks (a++b) p (i + 1)=_::(tks a p (i + 1)++tks b p (i + (a.length + 1)))
  rw [dQ p a b (i + 1),Nat.add_right_comm i 1,Nat.add_assoc i]
theorem mB (p:Nat→PV):∀ (a:List RT) (i:Nat),(tks a p i).length=a.length
 | [],_=>rfl
 | (k,w)::a,i=>by show (tks a p (i + 1)).length + 1=_; rw [mB p a (i + 1)]; rfl
noncomputable def nm0:V:=.vd [(ns [68,79,78,69],.pv (.bool true))]
noncomputable abbrev St (pre:List Tk) (r:List RT) (p:Nat→PV) (i:Nat) (l:List (List V)):aC:=⟨[.rdr pre (tks r p i) nm0],l⟩
inductive Vb where
 | add
 | sub
 | rd
 | del
 | call
 | iff
noncomputable def Vb.name:Vb→Str
 | .add=>wADD
 | .sub=>wSUBTRACT
 | .rd=>wREAD
 | .del=>pL
 | .call=>wCALL
 | .iff=>wIF
noncomputable def Vb.endW:Vb→Str
 | .add=>gT
 | .sub=>gU
 | .rd=>mG
 | .del=>mF
 | .call=>mE
 | .iff=>eT
noncomputable def Vb.hdr:Vb→List RT
 | .add=>[W wADD,(s_number,s_one),W wTO,W wA]
 | .sub=>[W wSUBTRACT,W wB,W wFROM,W wA,W wROUNDED]
 | .rd=>[W wREAD,W wF,W wNEXT,W wRECORD]
 | .del=>[W pL,W wF,W wRECORD]
 | .call=>[W wCALL,(s_literal,s_pp)]
 | .iff=>[W wIF,W wDONE]
noncomputable def Vb.keys:Vb→List Str
 | .add=>[gP,j7]
 | .sub=>[gP,j7]
 | .rd=>[oX,oZ,j5,j6]
 | .del=>[j5,j6]
 | .call=>[l7,o7]
 | .iff=>[]
noncomputable def Vb.at:Vb→Addr
 | .add=>390
 | .sub=>397
 | .rd=>411
 | .del=>418
 | .call=>593
 | .iff=>572
noncomputable def eI (x:Str):PV:=.tup [.str aIf,.str x,.tup [],.tup [],.none]
noncomputable def Vb.tree:Vb→List PV
 | .add=>[.str oV,.tup [.str s_number,.tup [.int 1,.int 0]],.tup [.tup [eI wA,.bool false,.str tG]]]
 | .sub=>[.str oV,eI wB,.tup [.tup [eI wA,.bool true,.str tF]]]
 | .rd=>[.str aIe,.str wF,.bool true,.none,.none]
 | .del=>[.str aIc,.str wF]
 | .call=>[.str aIa,.tup [.str tH,.bytes #[80]],.tup []]
 | .iff=>[.str aId,eI wDONE]
noncomputable def eF:PV:=.tup [.str aIb]
noncomputable def brT (k:Str) (ys:List PV):PV:=.tup [.str k,.tup ys]
noncomputable def bY (v:Vb) (brs:List PV):PV:=.tup (v.tree++[.tup brs])
noncomputable def ifT (ys zs:List PV):PV:=.tup [.str oY,.tup (Vb.tree .iff),.tup ys,.tup zs]
noncomputable def bR:List RT:=[W wCONTINUE,W wADD,W wSUBTRACT,W wREAD,W pL,W wCALL,W wIF]
noncomputable def dN:List RT:=[W wNOT,W wON,W gV,W wAT,W fH,W wINVALID,W fI,W i9,W wELSE,W gT,W gU,W mG,W mF,W mE,W eT,(o8,oW)]
noncomputable def bL:List RT:=bR++dN
noncomputable abbrev C (I:Sys):Sys:=gH TT aA I sH
theorem cK (u:Nat) (f:V) (vs:List V):(sys TT aA (u + 2)).call f vs=bI TT aA (C (sys TT aA u)) f vs:=rfl
theorem aE {α β:Type} {m:R α} {f:α→R β} {σ σ₁:aC} {a:α} (h:m σ=some (a,σ₁)):Rbind m f σ=f a σ₁:=by unfold Rbind; rw [h]
theorem at0 {α:Type} {a b:α} {l m:List α} (h:a::l=b::m):a=b:=(List.cons.inj h).1
theorem at1 {α:Type} {a b c d:α} {l m:List α} (h:a::c::l=b::d::m):c=d:=at0 (List.cons.inj h).2
theorem at2 {α:Type} {a b c d e f:α} {l m:List α} (h:a::c::e::l=b::d::f::m):e=f:=at1 (List.cons.inj h).2
theorem at3 {α:Type} {a b c d e f x y:α} {l m:List α} (h:a::c::e::x::l=b::d::f::y::m):x=y:=at2 (List.cons.inj h).2
theorem at4 {α:Type} {a b c d e f x y u v:α} {l m:List α} (h:a::c::e::x::u::l=b::d::f::y::v::m):u=v:=at3 (List.cons.inj h).2
theorem aJ {α β:Type} {f g:α→β}:∀ {l:List α},l.map f=l.map g→∀ a ∈ l,f a=g a
 | b::l,h,a,ha=>by
  rcases List.mem_cons.mp ha with rfl | ha
  ·exact at0 h
  ·exact aJ (List.cons.inj h).2 a ha
noncomputable abbrev fn (a:Addr):V:=.st (.ref a)
noncomputable def aB5 (st:Stmt):List Stmt:=match st with
 | .FunctionDef _ _ b _ _ _ _ _ _ _=>b
 | _=>[]
noncomputable def tI (st:Stmt):Scope:=match st with
 | .FunctionDef _ _ _ _ _ _ sc _ _ _=>sc
 | _=>⟨.function,[],false,false,[]⟩
noncomputable def stm (i j:Nat):Stmt:=((aB5 (aF i))[j]?).getD (.Pass ⟨0,0,0,0⟩)
noncomputable def sel (P:V→Bool) (c:V→List V→R V) (I:Sys):Sys:=⟨I.ev,I.tr,I.ex,fun f args=>match P f with | true=>c f args | false=>I.call f args⟩
theorem bH (P:V→Bool) (I:Sys):sel P I.call I=I:=by
 unfold sel
 have:(fun f args=>match P f with | true=>I.call f args | false=>I.call f args)=I.call:=by
  funext f args
  cases P f <;> rfl
 rw [this]
noncomputable def fnK (x:Fl×aB):R V:=match x with
 | (.ret v,_)=>Rpure v
 | (.next,_)=>Rpure (.pv .none)
theorem aO {S:Sys} {fi:FI} {env env' : aB} {st:Stmt} {r:List Stmt} {σ σ₁:aC} (h:S.ex fi env st σ=some ((.next,env'),σ₁)):blk S fi env (st::r) σ=blk S fi env' r σ₁:=by
 show Rbind (S.ex fi env st) _ σ=_
 rw [aE h]
theorem eM {S:Sys} {fi:FI} {env env' : aB} {st:Stmt} {r:List Stmt} {v:V} {σ σ₁:aC} (h:S.ex fi env st σ=some ((.ret v,env'),σ₁)):blk S fi env (st::r) σ=some ((.ret v,env'),σ₁):=by
 show Rbind (S.ex fi env st) _ σ=_
 rw [aE h]
 rfl
noncomputable def aBy (st:Stmt):Arguments:=match st with
 | .FunctionDef _ ps _ _ _ _ _ _ _ _=>ps
 | _=>⟨[],[],none,[],[],none,[]⟩
noncomputable abbrev cP (a:Addr) (st:Stmt):FI:=⟨tI st,some a,mutcOf (aBy st) (tI st)⟩
noncomputable def a6 (a:Addr) (f:V):Bool:=match f with
 | .st (.ref b)=>Nat.beq a b
 | _=>false
noncomputable def xL (f:V):Bool:=match f with
 | .clo _ _ _ _=>true
 | _=>false
noncomputable def isV (t:RT):Bool:=bR.any fun v=>sEq v.2 t.2
theorem aKz (m:Nat) (pre:List Tk) (r:List RT) (p:Nat→PV) (i:Nat) (l:List (List V)) :
 (bL.map fun t=>(sys TT aA (m + 20)).call (fn 29) [.ob 0] (St pre (t::r) p i l))=bL.map fun t=>some (.pv (.bool (isV t)),St pre (t::r) p i l):=by kernel_rfl
noncomputable def aT (d:Nat):V:=match mapR (fun e=>(C mZ).ev ⟨tI (aF 6),some 43,[]⟩ [("reader",.ob 0),("depth",.pv (.int (.ofNat d))),("choose",.st (.ref 894))] e)
 (match stm 6 2 with | .Return (some (.Call _ [_,e] _ _)) _=>[e] | _=>[]) ⟨[],[]⟩ with
 | some ([v],_)=>v
 | _=>.pv .none
theorem aCM (I:Sys) (d:Nat) (σ:aC):bI TT aA (C I) (aT d) [.ob 0] σ=I.call (fn 36) [.ob 0,.pv (.int (.ofNat (d + 1))),fn 894] σ:=by kernel_rfl
noncomputable def fS (d:Nat):aB:=[("reader",.ob 0),("depth",.pv (.int (.ofNat d))),("choose",fn 894)]
noncomputable abbrev fiS:FI:=cP 43 (aF 6)
theorem aIL (I:Sys) (d:Nat) (σ:aC):bI TT aA (C I) (fn 43) [.ob 0,.pv (.int (.ofNat d)),fn 894] σ=(Rbind (blk (C I) fiS (fS d) [stm 6 0,stm 6 1,stm 6 2]) fnK) σ:=by kernel_rfl
theorem aII (m d:Nat) (pre:List Tk) (r:List RT) (p:Nat→PV) (i:Nat) (l:List (List V)) :
 (bR.map fun t=>(C (sys TT aA (m + 20))).ex fiS (fS d) (stm 6 0) (St pre (t::r) p i l))=bR.map fun t=>some ((.next,fS d),St pre (t::r) p i l):=by kernel_rfl
theorem aIJ (m:Nat) (σ:aC) :
 ((List.range 13).map fun d=>(C (sys TT aA (m + 20))).ex fiS (fS d) (stm 6 1) σ)=(List.range 13).map fun d=>some ((.next,fS d),σ):=by kernel_rfl
noncomputable def qN:V:=match (sys TT aA 10).call (fn 894) [.pv (.str wCONTINUE)] ⟨[],[]⟩ with
 | some (v,_)=>v
 | none=>.pv .none
noncomputable def nA:List V:=[qN,fn 390,fn 397,fn 411,fn 418,fn 593,fn 572]
noncomputable def aEH (f:V):Bool:=xL f || (a6 390 f || (a6 397 f || (a6 411 f || (a6 418 f || (a6 593 f || a6 572 f)))))
theorem aIK (m d:Nat) (c:V→List V→R V) (pre:List Tk) (r:List RT) (p:Nat→PV) (i:Nat) (l:List (List V)) :
 ((bR.zip nA).map fun t=>(C (sel aEH c (sys TT aA (m + 20)))).ex fiS (fS d) (stm 6 2) (St pre (t.1::r) p i l)) =
 (bR.zip nA).map fun t=>(Rbind (c t.2 [.ob 0,aT d]) fun v=>Rpure (Fl.ret v,fS d)) (St pre (t.1::r) p i l):=by kernel_rfl
noncomputable def wG (d:Nat):aB:=[("reader",.ob 0),("read_body",aT d)]
noncomputable def lB (d:Nat) (v:V):aB:=[("reader",.ob 0),("read_body",aT d),("body",v)]
noncomputable abbrev fiB:FI:=cP 287 (aF 46)
theorem aBW (I:Sys) (d:Nat) (σ:aC):bI TT aA (C I) (fn 287) [.ob 0,aT d] σ=(Rbind (blk (C I) fiB (wG d) [stm 46 0,stm 46 1,stm 46 2]) fnK) σ:=by kernel_rfl
theorem aBU (c:V→List V→R V) (I:Sys) (d:Nat) (σ:aC):(C (sel xL c I)).ex fiB (wG d) (stm 46 0) σ=(Rbind (c (aT d) [.ob 0]) fun v=>Rpure (.next,lB d v)) σ:=by kernel_rfl
theorem aBV (I:Sys) (d:Nat) (y:PV) (ys:List PV) (σ:aC):blk (C I) fiB (lB d (.pv (.tup (y::ys)))) [stm 46 1,stm 46 2] σ=some ((.ret (.pv (.tup (y::ys))),lB d (.pv (.tup (y::ys)))),σ):=by kernel_rfl
noncomputable def ops:List (List RT):=[
 [W gV,W kE],[W wON,W gV,W kE],[W wNOT,W gV,W kE],[W wNOT,W wON,W gV,W kE],
 [W fH],[W wAT,W fH],[W wNOT,W fH],[W wNOT,W wAT,W fH],
 [W wINVALID,W kF],[W wNOT,W wINVALID,W kF],
 [W fI],[W wON,W fI],[W wNOT,W fI],[W wNOT,W wON,W fI],
 [W i9],[W wON,W i9]]
noncomputable def j8:List RT:=bR++[W wELSE,W gT,W gU,W mG,W mF,W mE,W eT,(o8,oW)]
noncomputable def cI:List Str:=[gP,j7,oX,oZ,j5,j6,l7,o7]
noncomputable def opK:List Nat:=[0,0,1,1,2,2,3,3,4,5,6,6,7,7,6,6]
noncomputable def aGo (k:Nat) (q:Nat×List RT):Int:=.ofNat (match Nat.beq k q.1 with | true=>q.2.length | false=>0)
noncomputable def oU (m:Nat) (pre:List Tk) (p:Nat→PV) (i:Nat) (l:List (List V)) (k:Str) (a:List RT):Option (V×aC):=(sys TT aA (m + 20)).call (fn 280) [.ob 0,.pv (.str k)] (St pre a p i l)
noncomputable def oR (pre:List Tk) (p:Nat→PV) (i:Nat) (l:List (List V)) (n:Int) (a:List RT):Option (V×aC):=some (.pv (.int n),St pre a p i l)
theorem aGn (m:Nat) (pre:List Tk) (r:List RT) (p:Nat→PV) (i:Nat) (l:List (List V)) :
 (cI.map fun k=>j8.map fun t=>oU m pre p i l k (t::r))=cI.map fun _=>j8.map fun t=>oR pre p i l 0 (t::r):=by kernel_rfl
theorem aGm (m:Nat) (pre:List Tk) (r:List RT) (p:Nat→PV) (i:Nat) (l:List (List V)) :
 (cI.map fun k=>(opK.zip ops).map fun q=>oU m pre p i l k (q.2++r))=(cI.zip (List.range 8)).map fun k=>(opK.zip ops).map fun q=>oR pre p i l (aGo k.2 q) (q.2++r):=by kernel_rfl
theorem aGg (m:Nat) (pre:List Tk) (r:List RT) (p:Nat→PV) (i:Nat) (l:List (List V)) :
 (cI.map fun k=>bR.map fun t=>oU m pre p i l k (W wINVALID::t::r))=(cI.zip (List.range 8)).map fun k=>bR.map fun t=>oR pre p i l (.ofNat (match Nat.beq k.2 4 with | true=>1 | false=>0)) (W wINVALID::t::r):=by kernel_rfl
theorem aGh (m:Nat) (pre:List Tk) (r:List RT) (p:Nat→PV) (i:Nat) (l:List (List V)) :
 (cI.map fun k=>bR.map fun t=>oU m pre p i l k (W wNOT::W wINVALID::t::r))=(cI.zip (List.range 8)).map fun k=>bR.map fun t=>oR pre p i l (.ofNat (match Nat.beq k.2 5 with | true=>2 | false=>0)) (W wNOT::W wINVALID::t::r):=by kernel_rfl
noncomputable abbrev D (I:Sys):Sys:=gH TT aA I 39
theorem yI {g:List GCell} {l:List V} {ls:List (List V)} {v:V} (h:l.length ≤ 1000000):cD 0 "append" [v] ⟨g,l::ls⟩=some (.pv .none,⟨g,(l++[v])::ls⟩):=by
 have h1:sEq "append" "append" = true:=aK.mpr rfl
 have h2:small l.length=true:=Nat.ble_eq_true_of_le h
 unfold cD
 rw [aE (a:=l) (σ₁:=⟨g,l::ls⟩) rfl]
 simp only [h1,h2]
 rfl
theorem pV:∀ l:List PV,allPv (l.map V.pv)=some l
 | []=>rfl
 | p::l=>by show (match allPv (l.map V.pv) with | some l=>some (p::l) | none=>none)=_; rw [pV l]
theorem sE (l:List PV):mkTup (l.map V.pv) = .pv (.tup l):=by unfold mkTup; rw [pV]
theorem iU (l:List PV):mkVl (l.map V.pv) = .pv (.lst l):=by unfold mkVl; rw [pV]
theorem aAI (u:Nat) {g:List GCell} {l:List PV} {ls:List (List V)} (h:l.length ≤ 1000000):(sys TT aA (u + 1)).call (.st (.type "tuple")) [.li 0] ⟨g,l.map V.pv::ls⟩=some (.pv (.tup l),⟨g,l.map V.pv::ls⟩):=by
 have:(sys TT aA (u + 1)).call (.st (.type "tuple")) [.li 0] ⟨g,l.map V.pv::ls⟩=(match small (l.map V.pv).length with | true=>Rpure (mkTup (l.map V.pv)) | false=>Rno) ⟨g,l.map V.pv::ls⟩:=by kernel_rfl
 rw [this,List.length_map,show small l.length=true from Nat.ble_eq_true_of_le h,sE]
 rfl
theorem nT {args:List V} {body:List V→R V} {g g' : List GCell} {l l' : List (List V)} {v:PV} (h1:okVs g.length args=true) (h2:okGs g.length g=true) (hb:body args ⟨g,[]⟩=some (.pv v,⟨g',l'⟩)) (h3:okGs g.length (g'.take g.length)=true) :
 gI args body ⟨g,l⟩=some (.pv v,⟨g'.take g.length,l⟩):=by
 unfold gI
 dsimp only
 rw [h1,h2]
 dsimp only
 rw [hb]
 show (match okV g.length (V.pv v),okGs g.length (g'.take g.length) with
  | true,true=>some (V.pv v,(⟨g'.take g.length,l⟩:aC))
  | _,_=>none)=_
 rw [h3]
 rfl
noncomputable def ksV (ks:List Str):V:=.pv (.tup (ks.map PV.str))
noncomputable def wH (d:Nat) (ks:List Str):aB:=[("reader",.ob 0),("read_body",aT d),("keys",ksV ks)]
noncomputable def gF (d:Nat) (ks:List Str):aB:=[("reader",.ob 0),("read_body",aT d),("keys",ksV ks),("branches",.li 0)]
noncomputable def bF (d:Nat) (ks:List Str) (k:Str) (tl:aB):aB:=("reader",.ob 0)::("read_body",aT d)::("keys",ksV ks)::("branches",.li 0)::("key",.pv (.str k))::tl
noncomputable abbrev cO:FI:=cP 294 (aF 47)
noncomputable def bP (st:Stmt):Expr:=match st with
 | .For t _ _ _ _=>t
 | _=>.Constant .none 0 ⟨0,0,0,0⟩
noncomputable def cC (st:Stmt):List Stmt:=match st with
 | .For _ _ b _ _=>b
 | _=>[]
noncomputable def stB (st:Stmt) (j:Nat):Stmt:=((cC st)[j]?).getD (.Pass ⟨0,0,0,0⟩)
theorem aCd (I:Sys) (d:Nat) (ks:List Str) (σ:aC):bI TT aA (C I) (fn 294) [.ob 0,aT d,ksV ks] σ=gI [.ob 0,aT d,ksV ks] (cB (C I) 294 (aF 47) []) σ:=by kernel_rfl
theorem aCc (I:Sys) (d:Nat) (ks:List Str) (σ:aC):cB (C I) 294 (aF 47) [] [.ob 0,aT d,ksV ks] σ=(Rbind (blk (C I) cO (wH d ks) [stm 47 0,stm 47 1,stm 47 2]) fnK) σ:=by kernel_rfl
theorem aB9 (I:Sys) (d:Nat) (ks:List Str) (g:List GCell):(C I).ex cO (wH d ks) (stm 47 0) ⟨g,[]⟩=some ((.next,gF d ks),⟨g,[[]]⟩):=by kernel_rfl
theorem aCa (I:Sys) (d:Nat) (ks:List Str) (σ:aC):(C I).ex cO (gF d ks) (stm 47 1) σ=cU (D I) cO (bP (stm 47 1)) (cC (stm 47 1)) ((ks.map PV.str).map V.pv) (gF d ks) σ:=by kernel_rfl
theorem aCb (I:Sys) (d:Nat) (ks:List Str) (k:Str) (a b:V) (σ:aC):([gF d ks,bF d ks k [("length",a)],bF d ks k [("length",a),("turn",b)]].map fun env=>(C I).ex cO env (stm 47 2) σ) =
 [gF d ks,bF d ks k [("length",a)],bF d ks k [("length",a),("turn",b)]].map fun env=>(Rbind (I.call (.st (.type "tuple")) [.li 0]) fun v=>Rpure (.ret v,env)) σ:=by kernel_rfl
theorem aCe (d:Nat) (ks:List Str) (k:Str):bindT cO 9 (bP (stm 47 1)) (.pv (.str k)) (gF d ks)=some (bF d ks k []):=by kernel_rfl
theorem vA (d:Nat) (ks:List Str) (k k' : Str) (tl:aB):bindT cO 9 (bP (stm 47 1)) (.pv (.str k)) (bF d ks k' tl)=some (bF d ks k tl):=by kernel_rfl
theorem u8 (I:Sys) (env:aB):blk (D I) cO env (cC (stm 47 1))=blk (D I) cO env [stB (stm 47 1) 0,stB (stm 47 1) 1]:=by kernel_rfl
theorem aCf (c:V→List V→R V) (I:Sys) (d:Nat) (ks:List Str) (k:Str) (a b:V) (σ:aC):(([[],[("length",a)],[("length",a),("turn",b)]]:List aB).map fun tl=>(D (sel (a6 280) c I)).ex cO (bF d ks k tl) (stB (stm 47 1) 0) σ) =
 ([[],[("length",a)],[("length",a),("turn",b)]]:List aB).map fun tl=>(Rbind (c (fn 280) [.ob 0,.pv (.str k)]) fun v=>Rpure (.next,bF d ks k (("length",v)::tl.tail))) σ:=by kernel_rfl
theorem u9 (I:Sys) (d:Nat) (ks:List Str) (k:Str) (b:V) (σ:aC):([[],[(("turn" : Str),b)]].map fun tl=>(D I).ex cO (bF d ks k (("length",.pv (.int 0))::tl)) (stB (stm 47 1) 1) σ) =
 [[],[(("turn" : Str),b)]].map fun tl=>some ((.next,bF d ks k (("length",.pv (.int 0))::tl)),σ):=by kernel_rfl
noncomputable def fP (x:Fl×aB):R (Fl×aB):=match x with
 | (.next,env')=>Rpure (.next,env')
 | (.ret v,env')=>Rpure (.ret v,env')
noncomputable def kQ (c:V→List V→R V) (d:Nat) (k:Str) (env:aB):R (Fl×aB) :=
 Rbind (Rbind (Rbind (Rbind (Rbind (Rbind (Rbind (c (fn 287) [.ob 0,aT d]) fun b=>Rpure [b]) fun bs=>Rpure (V.pv (.str k)::bs)) fun vs=>Rpure (mkTup vs)) fun b=>Rpure [b]) fun vs=>cD 0 "append" vs) fun _=>Rpure (Fl.next,env)) fP
noncomputable def aKy:List (List Tk)→List Tk
 | _=>[]
theorem m8 (c:V→List V→R V) (m d:Nat) (ks:List Str) (k:Str) (b:V) (pre:List Tk) (t1 t2 t3 t4:Tk) (rest:List Tk) (l:List (List V)) :
 ([[],[(("turn" : Str),b)]].map fun tl=>[[t1],[t1,t2],[t1,t2,t3],[t1,t2,t3,t4]].map fun ts=>(D (sel (a6 287) c (sys TT aA (m + 20)))).ex cO (bF d ks k (("length",.pv (.int (.ofNat ts.length)))::tl)) (stB (stm 47 1) 1) ⟨[.rdr pre (ts++rest) nm0],l⟩) =
 [[],[(("turn" : Str),b)]].map fun _=>[([t1],pre++[t1]),([t1,t2],pre++[t1]++[t2]),([t1,t2,t3],pre++[t1]++[t2]++[t3]),([t1,t2,t3,t4],pre++[t1]++[t2]++[t3]++[t4])].map fun q=>kQ c d k (bF d ks k [("length",.pv (.int (.ofNat q.1.length))),("turn",.pv (.int (.ofNat (q.1.length - 1))))]) ⟨[.rdr q.2 rest nm0],l⟩:=by kernel_rfl
noncomputable def gM (w:Str) (pre:List Tk) (t:RT) (r:List RT) (p:Nat→PV) (i:Nat) (l:List (List V)):aC:=match sEq t.2 w with
 | true=>St (pre++[⟨s_word,w,p i⟩]) r p (i + 1) l
 | false=>St pre (t::r) p i l
noncomputable def env2 (d:Nat):aB:=[("reader",.ob 0),("read_body",aT d)]
noncomputable def wL (d:Nat) (w:Str):aB:=[("reader",.ob 0),("read_body",aT d),("closing",.pv (.str w))]
noncomputable def nM (d:Nat) (w:Str) (v:V):aB:=[("reader",.ob 0),("read_body",aT d),("closing",.pv (.str w)),("branches",v)]
noncomputable abbrev fiZ:FI:=cP 369 (aF 58)
theorem aJa (I:Sys) (d:Nat) (w:Str) (σ:aC):bI TT aA (C I) (fn 369) [.ob 0,aT d,.pv (.str w)] σ=(Rbind (blk (C I) fiZ (wL d w) [stm 58 0,stm 58 1,stm 58 2]) fnK) σ:=by kernel_rfl
theorem aI8 (c:V→List V→R V) (I:Sys) (d:Nat) (w:Str) (σ:aC):(C (sel (a6 294) c I)).ex fiZ (wL d w) (stm 58 0) σ=(Rbind (c (fn 294) [.ob 0,aT d,ksV [gP,j7]]) fun v=>Rpure (.next,nM d w v)) σ:=by kernel_rfl
theorem aI9 (m d:Nat) (v:V) (pre:List Tk) (r:List RT) (p:Nat→PV) (i:Nat) (l:List (List V)) :
 ([gT,gU].map fun w=>bL.map fun t=>blk (C (sys TT aA (m + 20))) fiZ (nM d w v) [stm 58 1,stm 58 2] (St pre (t::r) p i l)) =
 [gT,gU].map fun w=>bL.map fun t=>some ((Fl.ret v,nM d w v),gM w pre t r p i l):=by kernel_rfl
noncomputable abbrev fiA:FI:=cP 390 (aF 61)
noncomputable def nH (d:Nat) (pre:List Tk) (p:Nat→PV) (i:Nat):aB:=[("reader",.ob 0),("read_body",aT d),("expr",.pv (.tup [.str s_number,.tup [.int 1,.int 0]])),
 ("targets",.pv (.lst [.tup [eI wA,.bool false,.int (.ofNat (pre++[(⟨s_word,wADD,p i⟩:Tk)]++[(⟨s_number,s_one,p (i + 1)⟩:Tk)]++[(⟨s_word,wTO,p (i + 2)⟩:Tk)]).length)]])),("rows",.pv (.tup [.tup [eI wA,.bool false,.str tG]]))]
theorem aBs (I:Sys) (d:Nat) (σ:aC):bI TT aA (C I) (fn 390) [.ob 0,aT d] σ=(Rbind (blk (C I) fiA (env2 d) [stm 61 0,stm 61 1,stm 61 2,stm 61 3,stm 61 4]) fnK) σ:=by kernel_rfl
noncomputable def wE (d:Nat):aB:=[("reader",.ob 0),("read_body",aT d),("expr",.pv (.tup [.str s_number,.tup [.int 1,.int 0]]))]
theorem aBu (m d:Nat) (pre:List Tk) (r:List RT) (p:Nat→PV) (i:Nat) (l:List (List V)) :
 blk (C (sys TT aA (m + 60))) fiA (env2 d) [stm 61 0,stm 61 1,stm 61 2] (St pre (Vb.hdr .add++r) p i l) =
 some ((Fl.next,wE d),St (pre++[⟨s_word,wADD,p i⟩]++[⟨s_number,s_one,p (i + 1)⟩]) (W wTO::W wA::r) p (i + 2) l):=by kernel_rfl
theorem aBv (m d:Nat) (pre:List Tk) (r:List RT) (p:Nat→PV) (i:Nat) (l:List (List V)) :
 (bL.map fun t=>(C (sys TT aA (m + 60))).ex fiA (wE d) (stm 61 3) (St (pre++[⟨s_word,wADD,p i⟩]++[⟨s_number,s_one,p (i + 1)⟩]) (W wTO::W wA::t::r) p (i + 2) l)) =
 bL.map fun t=>some ((Fl.next,nH d pre p i),St (pre++[⟨s_word,wADD,p i⟩]++[⟨s_number,s_one,p (i + 1)⟩]++[⟨s_word,wTO,p (i + 2)⟩]++[⟨s_word,wA,p (i + 3)⟩]) (t::r) p (i + 4) l):=by kernel_rfl
noncomputable def arR (c:V→List V→R V) (f:V) (args:List V) (xs:PV×PV×PV) (env:aB):R (Fl×aB) :=
 Rbind (Rbind (Rbind (Rbind (Rbind (Rbind (c f args) fun b=>Rpure [b]) fun bs=>Rpure (V.pv xs.2.2::bs)) fun bs=>Rpure (V.pv xs.2.1::bs)) fun bs=>Rpure (V.pv xs.1::bs)) fun vs=>Rpure (mkTup vs)) fun v=>Rpure (Fl.ret v,env)
theorem aBw (c:V→List V→R V) (I:Sys) (d:Nat) (pre:List Tk) (p:Nat→PV) (i:Nat) (σ:aC):(C (sel (a6 369) c I)).ex fiA (nH d pre p i) (stm 61 4) σ =
 arR c (fn 369) [.ob 0,aT d,.pv (.str gT)] (.str oV,.tup [.str s_number,.tup [.int 1,.int 0]],.tup [.tup [eI wA,.bool false,.str tG]]) (nH d pre p i) σ:=by kernel_rfl
noncomputable abbrev fiU:FI:=cP 397 (aF 62)
noncomputable def nL (d:Nat) (pre:List Tk) (p:Nat→PV) (i:Nat):aB:=[("reader",.ob 0),("read_body",aT d),("expr",.pv (eI wB)),
 ("targets",.pv (.lst [.tup [eI wA,.bool true,.int (.ofNat (pre++[(⟨s_word,wSUBTRACT,p i⟩:Tk)]++[(⟨s_word,wB,p (i + 1)⟩:Tk)]++[(⟨s_word,wFROM,p (i + 2)⟩:Tk)]).length)]])),("rows",.pv (.tup [.tup [eI wA,.bool true,.str tF]]))]
theorem aIX (I:Sys) (d:Nat) (σ:aC):bI TT aA (C I) (fn 397) [.ob 0,aT d] σ=(Rbind (blk (C I) fiU (env2 d) [stm 62 0,stm 62 1,stm 62 2,stm 62 3,stm 62 4,stm 62 5,stm 62 6]) fnK) σ:=by kernel_rfl
noncomputable def wJ (d:Nat):aB:=[("reader",.ob 0),("read_body",aT d),("expr",.pv (eI wB))]
theorem aI1 (m d:Nat) (pre:List Tk) (r:List RT) (p:Nat→PV) (i:Nat) (l:List (List V)) :
 blk (C (sys TT aA (m + 60))) fiU (env2 d) [stm 62 0,stm 62 1,stm 62 2,stm 62 3] (St pre (Vb.hdr .sub++r) p i l) =
 some ((Fl.next,wJ d),St (pre++[⟨s_word,wSUBTRACT,p i⟩]++[⟨s_word,wB,p (i + 1)⟩]++[⟨s_word,wFROM,p (i + 2)⟩]) (W wA::W wROUNDED::r) p (i + 3) l):=by kernel_rfl
theorem aI2 (m d:Nat) (pre:List Tk) (r:List RT) (p:Nat→PV) (i:Nat) (l:List (List V)) :
 (bL.map fun t=>blk (C (sys TT aA (m + 60))) fiU (wJ d) [stm 62 4,stm 62 5] (St (pre++[⟨s_word,wSUBTRACT,p i⟩]++[⟨s_word,wB,p (i + 1)⟩]++[⟨s_word,wFROM,p (i + 2)⟩]) (W wA::W wROUNDED::t::r) p (i + 3) l)) =
 bL.map fun t=>some ((Fl.next,nL d pre p i),St (pre++[⟨s_word,wSUBTRACT,p i⟩]++[⟨s_word,wB,p (i + 1)⟩]++[⟨s_word,wFROM,p (i + 2)⟩]++[⟨s_word,wA,p (i + 3)⟩]++[⟨s_word,wROUNDED,p (i + 4)⟩]) (t::r) p (i + 5) l):=by kernel_rfl
theorem aI3 (c:V→List V→R V) (I:Sys) (d:Nat) (pre:List Tk) (p:Nat→PV) (i:Nat) (σ:aC):(C (sel (a6 369) c I)).ex fiU (nL d pre p i) (stm 62 6) σ =
 arR c (fn 369) [.ob 0,aT d,.pv (.str gU)] (.str oV,eI wB,.tup [.tup [eI wA,.bool true,.str tF]]) (nL d pre p i) σ:=by kernel_rfl
noncomputable abbrev fiR:FI:=cP 411 (aF 65)
noncomputable def qW (d:Nat):aB:=[("reader",.ob 0),("read_body",aT d),("name",.pv (.str wF)),("is_next",.pv (.bool true)),("into",.pv .none),("key",.pv .none)]
noncomputable def nK (d:Nat) (v:V):aB:=[("reader",.ob 0),("read_body",aT d),("name",.pv (.str wF)),("is_next",.pv (.bool true)),("into",.pv .none),("key",.pv .none),("branches",v)]
theorem aHv (I:Sys) (d:Nat) (σ:aC):bI TT aA (C I) (fn 411) [.ob 0,aT d] σ=(Rbind (blk (C I) fiR (env2 d) [stm 65 0,stm 65 1,stm 65 2,stm 65 3,stm 65 4,stm 65 5,stm 65 6,stm 65 7,stm 65 8,stm 65 9]) fnK) σ:=by kernel_rfl
theorem aHz (m d:Nat) (pre:List Tk) (r:List RT) (p:Nat→PV) (i:Nat) (l:List (List V)) :
 (bL.map fun t=>blk (C (sys TT aA (m + 60))) fiR (env2 d) [stm 65 0,stm 65 1,stm 65 2,stm 65 3,stm 65 4,stm 65 5,stm 65 6] (St pre (Vb.hdr .rd++t::r) p i l)) =
 bL.map fun t=>some ((Fl.next,qW d),St (pre++[⟨s_word,wREAD,p i⟩]++[⟨s_word,wF,p (i + 1)⟩]++[⟨s_word,wNEXT,p (i + 2)⟩]++[⟨s_word,wRECORD,p (i + 3)⟩]) (t::r) p (i + 4) l):=by kernel_rfl
theorem aHw (c:V→List V→R V) (I:Sys) (d:Nat) (σ:aC):(C (sel (a6 294) c I)).ex fiR (qW d) (stm 65 7) σ=(Rbind (c (fn 294) [.ob 0,aT d,ksV [oX,oZ,j5,j6]]) fun v=>Rpure (.next,nK d v)) σ:=by kernel_rfl
theorem aHy (m d:Nat) (b:List PV) (pre:List Tk) (r:List RT) (p:Nat→PV) (i:Nat) (l:List (List V)) :
 (bL.map fun t=>blk (C (sys TT aA (m + 20))) fiR (nK d (.pv (.tup b))) [stm 65 8,stm 65 9] (St pre (t::r) p i l)) =
 bL.map fun t=>some ((Fl.ret (.pv (bY .rd b)),nK d (.pv (.tup b))),gM mG pre t r p i l):=by kernel_rfl
noncomputable abbrev lD:FI:=cP 418 (aF 66)
noncomputable def qT (d:Nat):aB:=[("reader",.ob 0),("read_body",aT d),("name",.pv (.str wF))]
noncomputable def nJ (d:Nat) (v:V):aB:=[("reader",.ob 0),("read_body",aT d),("name",.pv (.str wF)),("branches",v)]
theorem aDp (I:Sys) (d:Nat) (σ:aC):bI TT aA (C I) (fn 418) [.ob 0,aT d] σ=(Rbind (blk (C I) lD (env2 d) [stm 66 0,stm 66 1,stm 66 2,stm 66 3,stm 66 4,stm 66 5]) fnK) σ:=by kernel_rfl
theorem aDt (m d:Nat) (pre:List Tk) (r:List RT) (p:Nat→PV) (i:Nat) (l:List (List V)) :
 blk (C (sys TT aA (m + 60))) lD (env2 d) [stm 66 0,stm 66 1,stm 66 2] (St pre (Vb.hdr .del++r) p i l) =
 some ((Fl.next,qT d),St (pre++[⟨s_word,pL,p i⟩]++[⟨s_word,wF,p (i + 1)⟩]++[⟨s_word,wRECORD,p (i + 2)⟩]) r p (i + 3) l):=by kernel_rfl
theorem aDq (c:V→List V→R V) (I:Sys) (d:Nat) (σ:aC):(C (sel (a6 294) c I)).ex lD (qT d) (stm 66 3) σ=(Rbind (c (fn 294) [.ob 0,aT d,ksV [j5,j6]]) fun v=>Rpure (.next,nJ d v)) σ:=by kernel_rfl
theorem aDs (m d:Nat) (b:List PV) (pre:List Tk) (r:List RT) (p:Nat→PV) (i:Nat) (l:List (List V)) :
 (bL.map fun t=>blk (C (sys TT aA (m + 20))) lD (nJ d (.pv (.tup b))) [stm 66 4,stm 66 5] (St pre (t::r) p i l)) =
 bL.map fun t=>some ((Fl.ret (.pv (bY .del b)),nJ d (.pv (.tup b))),gM mF pre t r p i l):=by kernel_rfl
noncomputable abbrev lC:FI:=cP 593 (aF 85)
noncomputable def qS (d:Nat):aB:=[("reader",.ob 0),("read_body",aT d),("called",.pv (.tup [.str tH,.bytes #[80]])),("args",.pv (.tup []))]
noncomputable def nI (d:Nat) (v:V):aB:=[("reader",.ob 0),("read_body",aT d),("called",.pv (.tup [.str tH,.bytes #[80]])),("args",.pv (.tup [])),("branches",v)]
theorem aCr (I:Sys) (d:Nat) (σ:aC):bI TT aA (C I) (fn 593) [.ob 0,aT d] σ=(Rbind (blk (C I) lC (env2 d) [stm 85 0,stm 85 1,stm 85 2,stm 85 3,stm 85 4,stm 85 5]) fnK) σ:=by kernel_rfl
theorem aCv (m d:Nat) (pre:List Tk) (r:List RT) (p:Nat→PV) (i:Nat) (l:List (List V)) :
 (bL.map fun t=>blk (C (sys TT aA (m + 60))) lC (env2 d) [stm 85 0,stm 85 1,stm 85 2] (St pre (Vb.hdr .call++t::r) p i l)) =
 bL.map fun t=>some ((Fl.next,qS d),St (pre++[⟨s_word,wCALL,p i⟩]++[⟨s_literal,s_pp,p (i + 1)⟩]) (t::r) p (i + 2) l):=by kernel_rfl
theorem aCs (c:V→List V→R V) (I:Sys) (d:Nat) (σ:aC):(C (sel (a6 294) c I)).ex lC (qS d) (stm 85 3) σ=(Rbind (c (fn 294) [.ob 0,aT d,ksV [l7,o7]]) fun v=>Rpure (.next,nI d v)) σ:=by kernel_rfl
theorem aCu (m d:Nat) (b:List PV) (pre:List Tk) (r:List RT) (p:Nat→PV) (i:Nat) (l:List (List V)) :
 (bL.map fun t=>blk (C (sys TT aA (m + 20))) lC (nI d (.pv (.tup b))) [stm 85 4,stm 85 5] (St pre (t::r) p i l)) =
 bL.map fun t=>some ((Fl.ret (.pv (bY .call b)),nI d (.pv (.tup b))),gM mE pre t r p i l):=by kernel_rfl
noncomputable abbrev fiI:FI:=cP 572 (aF 82)
noncomputable def qU (d:Nat):aB:=[("reader",.ob 0),("read_body",aT d),("cond",.pv (.tup (Vb.tree .iff)))]
noncomputable def qV (d:Nat) (v:V):aB:=[("reader",.ob 0),("read_body",aT d),("cond",.pv (.tup (Vb.tree .iff))),("yes",v)]
noncomputable def jQ (d:Nat) (v w:V):aB:=[("reader",.ob 0),("read_body",aT d),("cond",.pv (.tup (Vb.tree .iff))),("yes",v),("no",w)]
theorem w8 (I:Sys) (d:Nat) (σ:aC):bI TT aA (C I) (fn 572) [.ob 0,aT d] σ=(Rbind (blk (C I) fiI (env2 d) [stm 82 0,stm 82 1,stm 82 2,stm 82 3,stm 82 4,stm 82 5,stm 82 6]) fnK) σ:=by kernel_rfl
theorem aEp (m d:Nat) (pre:List Tk) (r:List RT) (p:Nat→PV) (i:Nat) (l:List (List V)) :
 (bR.map fun t=>blk (C (sys TT aA (m + 60))) fiI (env2 d) [stm 82 0,stm 82 1,stm 82 2] (St pre (Vb.hdr .iff++t::r) p i l)) =
 bR.map fun t=>some ((Fl.next,qU d),St (pre++[⟨s_word,wIF,p i⟩]++[⟨s_word,wDONE,p (i + 1)⟩]) (t::r) p (i + 2) l):=by kernel_rfl
theorem xB (c:V→List V→R V) (I:Sys) (d:Nat) (σ:aC):(C (sel (a6 287) c I)).ex fiI (qU d) (stm 82 3) σ=(Rbind (c (fn 287) [.ob 0,aT d]) fun v=>Rpure (.next,qV d v)) σ:=by kernel_rfl
theorem aEm (c:V→List V→R V) (m d:Nat) (v:V) (pre:List Tk) (r:List RT) (p:Nat→PV) (i:Nat) (l:List (List V)):(C (sel (a6 287) c (sys TT aA (m + 20)))).ex fiI (qV d v) (stm 82 4) (St pre (W wELSE::r) p i l) =
 (Rbind (c (fn 287) [.ob 0,aT d]) fun w=>Rpure (.next,jQ d v w)) (St (pre++[⟨s_word,wELSE,p i⟩]) r p (i + 1) l):=by kernel_rfl
noncomputable def dG:List RT:=bR++[W wNOT,W wON,W gV,W wAT,W fH,W wINVALID,W fI,W i9,W gT,W gU,W mG,W mF,W mE,W eT,(o8,oW)]
theorem aEo (m d:Nat) (v:V) (pre:List Tk) (r:List RT) (p:Nat→PV) (i:Nat) (l:List (List V)) :
 (dG.map fun t=>(C (sys TT aA (m + 20))).ex fiI (qV d v) (stm 82 4) (St pre (t::r) p i l))=dG.map fun t=>some ((Fl.next,jQ d v (.pv (.tup []))),St pre (t::r) p i l):=by kernel_rfl
theorem w9 (m d:Nat) (ys zs:List PV) (pre:List Tk) (r:List RT) (p:Nat→PV) (i:Nat) (l:List (List V)) :
 (bL.map fun t=>blk (C (sys TT aA (m + 20))) fiI (jQ d (.pv (.tup ys)) (.pv (.tup zs))) [stm 82 5,stm 82 6] (St pre (t::r) p i l)) =
 bL.map fun t=>some ((Fl.ret (.pv (ifT ys zs)),jQ d (.pv (.tup ys)) (.pv (.tup zs))),gM eT pre t r p i l):=by kernel_rfl
noncomputable def LS (d:Nat):Nat:=80 + 14 * (13 - d)
theorem aA7 {d:Nat} (h:d < 13):LS d=LS (d + 1) + 14:=by
 have e:13 - d=13 - (d + 1) + 1:=(eR (Nat.sub_pos_of_lt h)).symm
 unfold LS; rw [e]; rfl
theorem t9 (d:Nat):80 ≤ LS d:=Nat.le_add_right _ _
theorem LSc (k d a b:Nat) (h:Nat.ble b (80 + a)=true):k + LS d + a - b + b=k + LS d + a:=eR (Nat.le_trans (Nat.le_of_ble_eq_true h) (Nat.add_le_add_right (Nat.le_trans (t9 d) (Nat.le_add_left _ _)) a))
theorem LSd (k d:Nat):k + (LS d - 30) + 30=k + LS d:=by rw [Nat.add_assoc,eR (Nat.le_trans (by decide) (t9 d))]
theorem LSe (k d a b:Nat):k + a + LS d + b=k + LS d + (a + b):=by rw [Nat.add_right_comm k a,Nat.add_assoc (k + LS d)]
def OL (k:Str) (a:List RT) (n:Nat):Prop:=∀ m pre p i l,(sys TT aA (m + 20)).call (fn 280) [.ob 0,.pv (.str k)] (St pre a p i l)=some (.pv (.int (.ofNat n)),St pre a p i l)
def gW (a:List RT):Prop:=∃ t r,a=t::r∧t ∈ bL
def cM (a:List RT):Prop:=∃ t r,a=t::r∧t ∈ bR
def cS (w:Str) (b c:List RT):Prop:=∃ t r,b=t::r∧t ∈ bL∧((sEq t.2 w=true∧t=W w∧c=r)∨(sEq t.2 w=false∧c=b))
inductive Job where
 | body
 | stm
 | brs (ks:List Str)
inductive P:Job→Nat→List RT→List PV→List RT→Prop
 | nil {d t r}:t ∈ dN→P .body d (t::r) [] (t::r)
 | cons {d a b c t ts}:cM a→P .stm d a [t] b→P .body d b ts c→P .body d a (t::ts) c
 | cont {d r}:d < 13→P .stm d (W wCONTINUE::r) [eF] r
 | comp {d v a b c brs}:d < 13→v ≠ Vb.iff→gW a→P (.brs v.keys) d a brs b→cS v.endW b c→P .stm d (v.hdr++a) [bY v brs] c
 | iff1 {d a ys b c}:d < 13→cM a→P .body (d + 1) a ys b→ys ≠ []→(∃ t r,b=t::r∧t ∈ dG)→cS eT b c→P .stm d (Vb.hdr .iff++a) [ifT ys []] c
 | iff2 {d a ys b zs c e}:d < 13→cM a→P .body (d + 1) a ys (W wELSE::b)→ys ≠ []→P .body (d + 1) b zs c→zs ≠ []→cS eT c e→P .stm d (Vb.hdr .iff++a) [ifT ys zs] e
 | brs0 {d a}:P (.brs []) d a [] a
 | brsS {d k ks a brs b}:OL k a 0→P (.brs ks) d a brs b→P (.brs (k::ks)) d a brs b
 | brsT {d k ks h a ys b brs c}:1 ≤ h.length→h.length ≤ 4→OL k (h++a) h.length→P .body (d + 1) a ys b→ys ≠ []→P (.brs ks) d b brs c→P (.brs (k::ks)) d (h++a) (brT k ys::brs) c
noncomputable def dB (d:Nat):aB:=[("reader",.ob 0),("depth",.pv (.int (.ofNat d))),("choose",fn 894),("statements",.li 0)]
noncomputable def wK (d:Nat):aB:=[("reader",.ob 0),("depth",.pv (.int (.ofNat d))),("choose",fn 894)]
noncomputable abbrev fiW:FI:=cP 36 (aF 5)
noncomputable def whT (st:Stmt):Expr:=match st with
 | .While t _ _ _=>t
 | _=>.Constant .none 0 ⟨0,0,0,0⟩
noncomputable def whB (st:Stmt):List Stmt:=match st with
 | .While _ b _ _=>b
 | _=>[]
theorem aBR (I:Sys) (d:Nat) (σ:aC):bI TT aA (C I) (fn 36) [.ob 0,.pv (.int (.ofNat d)),fn 894] σ=gI [.ob 0,.pv (.int (.ofNat d)),fn 894] (cB (C I) 36 (aF 5) []) σ:=by kernel_rfl
theorem aBP (I:Sys) (d:Nat) (σ:aC):cB (C I) 36 (aF 5) [] [.ob 0,.pv (.int (.ofNat d)),fn 894] σ=(Rbind (blk (C I) fiW (wK d) [stm 5 0,stm 5 1,stm 5 2]) fnK) σ:=by kernel_rfl
theorem aBM (I:Sys) (d:Nat) (g:List GCell):(C I).ex fiW (wK d) (stm 5 0) ⟨g,[]⟩=some ((.next,dB d),⟨g,[[]]⟩):=by kernel_rfl
theorem aBN (I:Sys) (d:Nat) (σ:aC):(C I).ex fiW (dB d) (stm 5 1) σ=f7 (D I) fiW (whT (stm 5 1)) (whB (stm 5 1)) eZ (dB d) σ:=by kernel_rfl
theorem aBO (I:Sys) (d:Nat) (σ:aC):(C I).ex fiW (dB d) (stm 5 2) σ=(Rbind (I.call (.st (.type "tuple")) [.li 0]) fun v=>Rpure (.ret v,dB d)) σ:=by kernel_rfl
theorem uP (m d:Nat) (pre:List Tk) (r:List RT) (p:Nat→PV) (i:Nat) (l:List (List V)) :
 (bL.map fun t=>(D (sys TT aA (m + 30))).tr fiW (dB d) (whT (stm 5 1)) (St pre (t::r) p i l))=bL.map fun t=>some (isV t,St pre (t::r) p i l):=by kernel_rfl
theorem aBQ (c:V→List V→R V) (I:Sys) (d:Nat) (σ:aC):blk (D (sel (a6 43) c I)) fiW (dB d) (whB (stm 5 1)) σ =
 (Rbind (Rbind (Rbind (Rbind (c (fn 43) [.ob 0,.pv (.int (.ofNat d)),fn 894]) fun b=>Rpure [b]) fun vs=>cD 0 "append" vs) fun _=>Rpure (Fl.next,dB d)) fP) σ:=by kernel_rfl
def jC (d:Nat) (a:List RT) (t:PV) (c:List RT) (u:List RT):Prop:=∀ k pre p i l,a.length ≤ 4000→(sys TT aA (k + LS d)).call (fn 43) [.ob 0,.pv (.int (.ofNat d)),fn 894] (St pre a p i l)=some (.pv t,St (pre++tks u p i) c p (i + u.length) l)
def fM (d:Nat) (a:List RT) (ts:List PV) (c:List RT) (u:List RT):Prop:=∀ k pre p i (acc:List PV) fuel,acc.length + a.length ≤ 4000→a.length < fuel →
 f7 (D (sys TT aA (k + LS d))) fiW (whT (stm 5 1)) (whB (stm 5 1)) fuel (dB d) (St pre a p i [acc.map V.pv])=some ((.next,dB d),St (pre++tks u p i) c p (i + u.length) [(acc++ts).map V.pv])
def Shp (d:Nat) (ks0:List Str) (env:aB):Prop:=env=gF d ks0∨(∃ k a,env=bF d ks0 k [("length",a)])∨∃ k a b,env=bF d ks0 k [("length",a),("turn",b)]
def d1 (ks:List Str) (d:Nat) (a:List RT) (brs:List PV) (c:List RT) (u:List RT):Prop:=∀ k pre p i (acc:List PV) ks0 env,acc.length + ks.length ≤ 4000→a.length ≤ 4000→Shp d ks0 env →
 ∃ env',Shp d ks0 env'∧cU (D (sys TT aA (k + LS (d + 1) + 6))) cO (bP (stm 47 1)) (cC (stm 47 1)) ((ks.map PV.str).map V.pv) env (St pre a p i [acc.map V.pv])=some ((.next,env'),St (pre++tks u p i) c p (i + u.length) [(acc++brs).map V.pv])
def M:Job→Nat→List RT→List PV→List RT→Prop
 | .body,d,a,ts,c=>∃ u,a=u++c∧ts.length ≤ u.length∧fM d a ts c u
 | .stm,d,a,ts,c=>∃ t u,ts=[t]∧a=u++c∧1 ≤ u.length∧jC d a t c u
 | .brs ks,d,a,brs,c=>d < 13→∃ u,a=u++c∧brs.length ≤ ks.length∧d1 ks d a brs c u
theorem oM (pre:List Tk) (r:List Tk):okGs 1 [.rdr pre r nm0]=true:=rfl
theorem u6 {d:Nat} {a:List RT} {ts:List PV} {c u:List RT} (h:fM d a ts c u) (hts:ts.length ≤ 4000) (k:Nat) (pre:List Tk) (p:Nat→PV) (i:Nat) (l:List (List V)) (hl:a.length ≤ 4000) :
 (sys TT aA (k + LS d + 2)).call (fn 36) [.ob 0,.pv (.int (.ofNat d)),fn 894] (St pre a p i l)=some (.pv (.tup ts),St (pre++tks u p i) c p (i + u.length) l):=by
 rw [cK,aBR]
 refine nT (g':=[.rdr (pre++tks u p i) (tks c p (i + u.length)) nm0]) rfl (oM _ _) (l':=[ts.map V.pv]) ?_ (oM _ _)
 rw [aBP]
 have h1:=h k pre p i [] eZ (by simpa using hl) (Nat.lt_of_le_of_lt hl (show 4000 < 5000 by decide))
 rw [aE (a:=(Fl.ret (.pv (.tup ts)),dB d)) (σ₁:=St (pre++tks u p i) c p (i + u.length) [ts.map V.pv])]
 ·rfl
 ·rw [aO (aBM _ _ _),aO (σ₁:=St (pre++tks u p i) c p (i + u.length) [ts.map V.pv]) (env':=dB d) (by rw [aBN]; simpa using h1)]
  refine eM ?_
  rw [aBO,aE (aAI (k + LS d - 1) (ls:=[]) (g:=[.rdr (pre++tks u p i) (tks c p (i + u.length)) nm0]) (l:=ts) (lel hts rfl) |> fun h=>by rw [show k + LS d - 1 + 1=k + LS d from LSc k d 0 1 rfl] at h; exact h)]
  rfl
theorem aFx {d:Nat} {t:RT} {r:List RT} (ht:t ∈ dN):fM d (t::r) [] (t::r) []:=by
 intro k pre p i acc fuel hl hf
 obtain ⟨n,z1⟩:∃ n,fuel=n + 1:=⟨fuel - 1,(eR (Nat.zero_lt_of_lt hf)).symm⟩; clear hf; subst z1
 have h1:=aJ (uP (k + (LS d - 30)) d pre r p i [acc.map V.pv]) t (List.mem_append_right _ ht)
 have hv:isV t=false:=by
  have:(dN.map isV)=dN.map fun _=>false:=by kernel_rfl
  exact aJ this t ht
 rw [hv,LSd] at h1
 show Rbind _ _ _=_
 rw [aE h1]
 show some ((Fl.next,dB d),St pre (t::r) p i [acc.map V.pv])=some ((Fl.next,dB d),St (pre++[]) (t::r) p i [(acc++[]).map V.pv])
 rw [List.append_nil,List.append_nil]
theorem aFw {d:Nat} {a b c u1 u2:List RT} {t:PV} {ts:List PV} (hv:cM a) (ha:a=u1++b) (hu:1 ≤ u1.length) (h1:jC d a t b u1) (h2:fM d b ts c u2):fM d a (t::ts) c (u1++u2):=by
 intro k pre p i acc fuel hl hf
 obtain ⟨n,rfl⟩:∃ n,fuel=n + 1:=⟨fuel - 1,(eR (Nat.zero_lt_of_lt hf)).symm⟩
 obtain ⟨t0,r0,rfl,ht0⟩:=hv
 have hlen:=congrArg List.length ha
 simp only [List.length_append] at hlen
 have q1:=aJ (uP (k + (LS d - 30)) d pre r0 p i [acc.map V.pv]) t0 (List.mem_append_left _ ht0)
 have hv:isV t0=true:=by
  have:(bR.map isV)=bR.map fun _=>true:=by kernel_rfl
  exact aJ this t0 ht0
 rw [hv,LSd] at q1
 show Rbind _ _ _=_
 rw [aE q1]
 show Rbind (blk _ _ _ _) _ _=_
 have q2:=aBQ (sys TT aA (k + LS d)).call (sys TT aA (k + LS d)) d (St pre (t0::r0) p i [acc.map V.pv])
 rw [bH] at q2
 have q3:blk (D (sys TT aA (k + LS d))) fiW (dB d) (whB (stm 5 1)) (St pre (t0::r0) p i [acc.map V.pv])=some ((Fl.next,dB d),St (pre++tks u1 p i) b p (i + u1.length) [(acc++[t]).map V.pv]):=by
  rw [q2,aE (a:=(Fl.next,dB d)) (σ₁:=St (pre++tks u1 p i) b p (i + u1.length) [(acc++[t]).map V.pv])]
  ·rfl
  ·rw [aE (a:=V.pv .none) (σ₁:=St (pre++tks u1 p i) b p (i + u1.length) [(acc++[t]).map V.pv])]
   ·rfl
   ·rw [aE (a:=[V.pv t]) (σ₁:=St (pre++tks u1 p i) b p (i + u1.length) [acc.map V.pv])]
    ·have:=yI (g:=[.rdr (pre++tks u1 p i) (tks b p (i + u1.length)) nm0]) (l:=acc.map V.pv) (ls:=[]) (v:=V.pv t) (mln (adl hl rfl))
     rw [this]
     simp
    ·rw [aE (h1 k pre p i [acc.map V.pv] (adr hl rfl))]
     rfl
 rw [aE q3]
 show f7 _ _ _ _ n _ _=_
 have q4:=h2 k (pre++tks u1 p i) p (i + u1.length) (acc++[t]) n (by rw [List.length_append,Nat.add_assoc]; exact Nat.le_trans (Nat.add_le_add_left (Nat.le_trans (Nat.add_le_add_right hu _) (Nat.le_of_eq hlen.symm)) acc.length) hl) (Nat.lt_of_lt_of_le (Nat.lt_of_lt_of_le (Nat.lt_add_of_pos_left hu) (Nat.le_of_eq hlen.symm)) (Nat.le_of_lt_succ hf))
 rw [q4,dQ]
 simp [Nat.add_assoc]
theorem mX {d:Nat} {a:List RT} {y:PV} {ys:List PV} {c u:List RT} (h:fM (d + 1) a (y::ys) c u) (hts:(y::ys).length ≤ 4000) (k:Nat) (pre:List Tk) (p:Nat→PV) (i:Nat) (l:List (List V)) (hl:a.length ≤ 4000) :
 (sys TT aA (k + LS (d + 1) + 6)).call (fn 287) [.ob 0,aT d] (St pre a p i l)=some (.pv (.tup (y::ys)),St (pre++tks u p i) c p (i + u.length) l):=by
 rw [cK,aBW]
 have q1:=aBU (sys TT aA (k + LS (d + 1) + 4)).call (sys TT aA (k + LS (d + 1) + 4)) d (St pre a p i l)
 rw [bH] at q1
 have q2:(sys TT aA (k + LS (d + 1) + 4)).call (aT d) [.ob 0] (St pre a p i l)=some (.pv (.tup (y::ys)),St (pre++tks u p i) c p (i + u.length) l):=by
  rw [cK,aCM]
  exact u6 h hts k pre p i l hl
 rw [aE (a:=(Fl.ret (.pv (.tup (y::ys))),lB d (.pv (.tup (y::ys))))) (σ₁:=St (pre++tks u p i) c p (i + u.length) l)]
 ·rfl
 ·rw [aO (env':=lB d (.pv (.tup (y::ys)))) (σ₁:=St (pre++tks u p i) c p (i + u.length) l) (by rw [q1,aE q2]; rfl)]
  exact aBV _ d y ys _
theorem xV {d:Nat} {ks0:List Str} {k:Str} {env:aB} (h:Shp d ks0 env):∃ tl,bindT cO 9 (bP (stm 47 1)) (.pv (.str k)) env=some (bF d ks0 k tl)∧(tl=[]∨(∃ a,tl=[(("length" : Str),a)])∨∃ a b,tl=[(("length" : Str),a),(("turn" : Str),b)]):=by
 rcases h with rfl | ⟨k',a,rfl⟩ | ⟨k',a,b,rfl⟩
 ·exact ⟨[],aCe _ _ _,.inl rfl⟩
 ·exact ⟨_,vA _ _ _ _ _,.inr (.inl ⟨a,rfl⟩)⟩
 ·exact ⟨_,vA _ _ _ _ _,.inr (.inr ⟨a,b,rfl⟩)⟩
theorem yB (I:Sys) {d:Nat} {ks0:List Str} {k:Str} {tl:aB} (h:tl=[]∨(∃ a,tl=[(("length" : Str),a)])∨∃ a b,tl=[(("length" : Str),a),(("turn" : Str),b)]) (σ:aC) :
 (D I).ex cO (bF d ks0 k tl) (stB (stm 47 1) 0) σ=(Rbind (I.call (fn 280) [.ob 0,.pv (.str k)]) fun v=>Rpure (.next,bF d ks0 k (("length",v)::tl.tail))) σ:=by
 have go:∀ a b,tl ∈ ([[],[("length",a)],[("length",a),("turn",b)]]:List aB)→(D I).ex cO (bF d ks0 k tl) (stB (stm 47 1) 0) σ=(Rbind (I.call (fn 280) [.ob 0,.pv (.str k)]) fun v=>Rpure (.next,bF d ks0 k (("length",v)::tl.tail))) σ:=fun a b hm=>by
  have:=aJ (aCf I.call I d ks0 k a b σ) tl hm
  rw [bH] at this
  exact this
 rcases h with rfl | ⟨a,rfl⟩ | ⟨a,b,rfl⟩
 ·exact go (.pv .none) (.pv .none) (by exact (.head _))
 ·exact go a (.pv .none) (by exact (.tail _ (.head _)))
 ·exact go a b (by exact (.tail _ (.tail _ (.head _))))
theorem aAx {tl:aB} (h:tl=[]∨(∃ a,tl=[(("length" : Str),a)])∨∃ a b,tl=[(("length" : Str),a),(("turn" : Str),b)]):tl.tail=[]∨∃ b,tl.tail=[(("turn" : Str),b)]:=by
 rcases h with rfl | ⟨a,rfl⟩ | ⟨a,b,rfl⟩
 ·exact .inl rfl
 ·exact .inl rfl
 ·exact .inr ⟨b,rfl⟩
theorem aEj (I:Sys) {d:Nat} {ks0:List Str} {k:Str} {tl:aB} (h:tl=[]∨∃ b,tl=[(("turn" : Str),b)]) (σ:aC) :
 (D I).ex cO (bF d ks0 k (("length",.pv (.int 0))::tl)) (stB (stm 47 1) 1) σ=some ((.next,bF d ks0 k (("length",.pv (.int 0))::tl)),σ):=by
 rcases h with rfl | ⟨b,rfl⟩
 ·exact aJ (u9 I d ks0 k (.pv .none) σ) [] (by exact (.head _))
 ·exact aJ (u9 I d ks0 k b σ) _ (by exact (.tail _ (.head _)))
theorem aIp {d:Nat} {ks0:List Str} {k:Str} {v:V} {tl:aB} (h:tl=[]∨∃ b,tl=[(("turn" : Str),b)]):Shp d ks0 (bF d ks0 k (("length",v)::tl)):=by
 rcases h with rfl | ⟨b,rfl⟩
 ·exact .inr (.inl ⟨k,v,rfl⟩)
 ·exact .inr (.inr ⟨k,v,b,rfl⟩)
theorem aCg {d:Nat} {a:List RT}:d1 [] d a [] a []:=by
 intro k pre p i acc ks0 env _ _ hs
 refine ⟨env,hs,?_⟩
 show _=some ((Fl.next,env),St (pre++[]) a p i [(acc++[]).map V.pv])
 rw [List.append_nil,List.append_nil]; rfl
theorem aCi {d:Nat} {k0:Str} {ks:List Str} {a c u:List RT} {brs:List PV} (h0:OL k0 a 0) (h:d1 ks d a brs c u):d1 (k0::ks) d a brs c u:=by
 intro k pre p i acc ks0 env hl hla hs
 obtain ⟨tl,e1,htl⟩:=xV (k:=k0) hs
 have ht:=aAx htl
 obtain ⟨env',hs',e'⟩:=h k pre p i acc ks0 _ (Nat.le_of_succ_le hl) hla (aIp (k:=k0) (v:=.pv (.int 0)) ht)
 refine ⟨env',hs',?_⟩
 show Rbind (oneOf (bindT _ _ _ _ _)) _ _=_
 rw [e1,aE (a:=bF d ks0 k0 tl) (σ₁:=St pre a p i [acc.map V.pv]) rfl,u8]
 have hol:=h0 (k + LS (d + 1) + 6 - 20) pre p i [acc.map V.pv]
 rw [LSc _ _ 6 20 rfl] at hol
 rw [aE (a:=(Fl.next,bF d ks0 k0 (("length",.pv (.int 0))::tl.tail))) (σ₁:=St pre a p i [acc.map V.pv])]
 ·exact e'
 ·rw [aO (env':=bF d ks0 k0 (("length",.pv (.int 0))::tl.tail)) (σ₁:=St pre a p i [acc.map V.pv]) (by rw [yB _ htl,aE hol]; rfl),aO (aEj _ ht _)]
  rfl
theorem aBx {c:V→List V→R V} {d:Nat} {k:Str} {env:aB} {σ:aC} {g:List GCell} {acc:List PV} {ys:List PV} (h:c (fn 287) [.ob 0,aT d] σ=some (.pv (.tup ys),⟨g,[acc.map V.pv]⟩)) (hl:acc.length ≤ 4000) :
 kQ c d k env σ=some ((.next,env),⟨g,[(acc++[brT k ys]).map V.pv]⟩):=by
 unfold kQ
 rw [aE (a:=(Fl.next,env)) (σ₁:=⟨g,[(acc++[brT k ys]).map V.pv]⟩)]
 ·rfl
 ·rw [aE (a:=V.pv .none) (σ₁:=⟨g,[(acc++[brT k ys]).map V.pv]⟩)]
  ·rfl
  ·rw [aE (a:=[V.pv (brT k ys)]) (σ₁:=⟨g,[acc.map V.pv]⟩)]
   ·rw [yI (mln (lel hl rfl))]
    simp
   ·rw [aE (a:=V.pv (brT k ys)) (σ₁:=⟨g,[acc.map V.pv]⟩)]
    ·rfl
    ·rw [aE (a:=[V.pv (.str k),V.pv (.tup ys)]) (σ₁:=⟨g,[acc.map V.pv]⟩)]
     ·rfl
     ·rw [aE (a:=[V.pv (.tup ys)]) (σ₁:=⟨g,[acc.map V.pv]⟩)]
      ·rfl
      ·rw [aE h]
       rfl
theorem aJq (m d:Nat) (c:V→List V→R V) {ks0:List Str} {k:Str} {tl:aB} (ht:tl=[]∨∃ b,tl=[(("turn" : Str),b)]) (pre ts rest:List Tk) (h1:1 ≤ ts.length) (h4:ts.length ≤ 4) (l:List (List V)) :
 ∃ v,(D (sel (a6 287) c (sys TT aA (m + 20)))).ex cO (bF d ks0 k (("length",.pv (.int (.ofNat ts.length)))::tl)) (stB (stm 47 1) 1) ⟨[.rdr pre (ts++rest) nm0],l⟩ =
  kQ c d k (bF d ks0 k [("length",.pv (.int (.ofNat ts.length))),("turn",v)]) ⟨[.rdr (pre++ts) rest nm0],l⟩:=by
 have go:∀ b,tl ∈ ([[],[("turn",b)]]:List aB)→∃ v,(D (sel (a6 287) c (sys TT aA (m + 20)))).ex cO (bF d ks0 k (("length",.pv (.int (.ofNat ts.length)))::tl)) (stB (stm 47 1) 1) ⟨[.rdr pre (ts++rest) nm0],l⟩ =
  kQ c d k (bF d ks0 k [("length",.pv (.int (.ofNat ts.length))),("turn",v)]) ⟨[.rdr (pre++ts) rest nm0],l⟩:=fun b hm=>by
  match ts,h1,h4 with
  | [t1],_,_ =>
   have:=aJ (m8 c m d ks0 k b pre t1 t1 t1 t1 rest l) tl hm
   exact ⟨_,at0 this⟩
  | [t1,t2],_,_ =>
   have:=aJ (m8 c m d ks0 k b pre t1 t2 t2 t2 rest l) tl hm
   exact ⟨_,by have:=at1 this; simpa using this⟩
  | [t1,t2,t3],_,_ =>
   have:=aJ (m8 c m d ks0 k b pre t1 t2 t3 t3 rest l) tl hm
   exact ⟨_,by have:=at2 this; simpa using this⟩
  | [t1,t2,t3,t4],_,_ =>
   have:=aJ (m8 c m d ks0 k b pre t1 t2 t3 t4 rest l) tl hm
   exact ⟨_,by have:=at3 this; simpa using this⟩
  | _::_::_::_::_::_,_,h=>exact absurd h (by simp)
 rcases ht with rfl | ⟨b,rfl⟩
 ·exact go (.pv .none) (by exact (.head _))
 ·exact go b (by exact (.tail _ (.head _)))
theorem aCj {d:Nat} {k0:Str} {ks:List Str} {h a c u1 u2 b:List RT} {y:PV} {ys brs:List PV} (h1:1 ≤ h.length) (h4:h.length ≤ 4) (h0:OL k0 (h++a) h.length) (ha:a=u1++b) (hb:fM (d + 1) a (y::ys) b u1) (hts:(y::ys).length ≤ u1.length) (hr:d1 ks d b brs c u2) :
 d1 (k0::ks) d (h++a) (brT k0 (y::ys)::brs) c (h++(u1++u2)):=by
 intro k pre p i acc ks0 env hl hla hs
 have hla' : h.length + (u1.length + b.length) ≤ 4000:=by rw [ha] at hla; simpa using hla
 obtain ⟨tl,e1,htl⟩:=xV (k:=k0) hs
 have ht:=aAx htl
 have hol:=h0 (k + LS (d + 1) + 6 - 20) pre p i [acc.map V.pv]
 rw [LSc _ _ 6 20 rfl] at hol
 have hlen:(tks h p i).length=h.length:=mB p h i
 obtain ⟨v,e2⟩:=aJq (k + LS (d + 1) + 6 - 20) d (sys TT aA (k + LS (d + 1) + 6)).call (ks0:=ks0) (k:=k0) ht pre (tks h p i) (tks a p (i + h.length)) (hlen ▸ h1) (hlen ▸ h4) [acc.map V.pv]
 rw [LSc _ _ 6 20 rfl,bH,hlen,← dQ] at e2
 have e3:=mX hb (Nat.le_trans hts (Nat.le_trans (Nat.le_add_right _ _) (Nat.le_trans (Nat.le_add_left _ _) hla'))) k (pre++tks h p i) p (i + h.length) [acc.map V.pv] (adr (el List.length_append.symm hla) rfl)
 rw [aBx e3 (adl hl rfl)] at e2
 obtain ⟨env',hs',e'⟩:=hr k (pre++tks h p i++tks u1 p (i + h.length)) p (i + h.length + u1.length) (acc++[brT k0 (y::ys)]) ks0 _ (by rw [List.length_append,Nat.add_assoc,Nat.add_comm [_].length]; exact hl) (Nat.le_trans (Nat.le_add_left _ _) (Nat.le_trans (Nat.le_add_left _ _) hla')) (.inr (.inr ⟨k0,.pv (.int (.ofNat h.length)),v,rfl⟩))
 refine ⟨env',hs',?_⟩
 show Rbind (oneOf (bindT _ _ _ _ _)) _ _=_
 rw [e1,aE (a:=bF d ks0 k0 tl) (σ₁:=St pre (h++a) p i [acc.map V.pv]) rfl,u8]
 rw [aE (a:=(Fl.next,bF d ks0 k0 [("length",.pv (.int (.ofNat h.length))),("turn",v)])) (σ₁:=St (pre++tks h p i++tks u1 p (i + h.length)) b p (i + h.length + u1.length) [(acc++[brT k0 (y::ys)]).map V.pv])]
 ·show cU _ _ _ _ _ _ _=_
  rw [e',dQ,dQ]
  simp [Nat.add_assoc]
 ·rw [aO (env':=bF d ks0 k0 (("length",.pv (.int (.ofNat h.length)))::tl.tail)) (σ₁:=St pre (h++a) p i [acc.map V.pv]) (by rw [yB _ htl,aE hol]; rfl),aO e2]
  rfl
theorem vB {d:Nat} {ks:List Str} {a c u:List RT} {brs:List PV} (h:d1 ks d a brs c u) (hk:ks.length ≤ 10) (hb:brs.length ≤ ks.length) (k:Nat) (pre:List Tk) (p:Nat→PV) (i:Nat) (l:List (List V)) (hl:a.length ≤ 4000) :
 (sys TT aA (k + LS (d + 1) + 8)).call (fn 294) [.ob 0,aT d,ksV ks] (St pre a p i l)=some (.pv (.tup brs),St (pre++tks u p i) c p (i + u.length) l):=by
 rw [cK,aCd]
 refine nT (g':=[.rdr (pre++tks u p i) (tks c p (i + u.length)) nm0]) (by kernel_rfl) (oM _ _) (l':=[brs.map V.pv]) ?_ (oM _ _)
 rw [aCc]
 obtain ⟨env',hs',e'⟩:=h k pre p i [] ks (gF d ks) (by rw [List.length_nil,Nat.zero_add]; exact lel hk rfl) hl (.inl rfl)
 have e3:(C (sys TT aA (k + LS (d + 1) + 6))).ex cO env' (stm 47 2) (St (pre++tks u p i) c p (i + u.length) [brs.map V.pv])=some ((.ret (.pv (.tup brs)),env'),St (pre++tks u p i) c p (i + u.length) [brs.map V.pv]):=by
  have et:=aAI (k + LS (d + 1) + 5) (ls:=[]) (g:=[.rdr (pre++tks u p i) (tks c p (i + u.length)) nm0]) (l:=brs) (Nat.le_trans hb (lel hk rfl))
  have go:∀ k1 a b,env' ∈ [gF d ks,bF d ks k1 [("length",a)],bF d ks k1 [("length",a),("turn",b)]]→(C (sys TT aA (k + LS (d + 1) + 6))).ex cO env' (stm 47 2) (St (pre++tks u p i) c p (i + u.length) [brs.map V.pv])=some ((.ret (.pv (.tup brs)),env'),St (pre++tks u p i) c p (i + u.length) [brs.map V.pv]):=fun k1 a b hm=>by
   rw [aJ (aCb (sys TT aA (k + LS (d + 1) + 6)) d ks k1 a b (St (pre++tks u p i) c p (i + u.length) [brs.map V.pv])) env' hm,aE et]
   rfl
  clear e'; rcases hs' with rfl | ⟨k1,a1,rfl⟩ | ⟨k1,a1,b1,rfl⟩
  ·exact go gP (.pv .none) (.pv .none) (by exact (.head _))
  ·exact go k1 a1 (.pv .none) (by exact (.tail _ (.head _)))
  ·exact go k1 a1 b1 (by exact (.tail _ (.tail _ (.head _))))
 rw [aE (a:=(Fl.ret (.pv (.tup brs)),env')) (σ₁:=St (pre++tks u p i) c p (i + u.length) [brs.map V.pv])]
 ·rfl
 ·rw [aO (aB9 _ _ _ _),aO (σ₁:=St (pre++tks u p i) c p (i + u.length) [brs.map V.pv]) (env':=env') (by rw [aCa]; simpa using e')]
  exact eM e3
theorem g7 {S:Sys} {fi:FI}:∀ {xs ys:List Stmt} {env env1:aB} {σ σ₁:aC},blk S fi env xs σ=some ((.next,env1),σ₁)→blk S fi env (xs++ys) σ=blk S fi env1 ys σ₁
 | [],ys,env,env1,σ,σ₁,h=>by cases h; rfl
 | x::xs,ys,env,env1,σ,σ₁,h=>by
  have h:=(show Rbind (S.ex fi env x) (fun z=>match z with
   | (.next,env')=>blk S fi env' xs
   | (.ret v,env')=>Rpure (.ret v,env')) σ=some ((.next,env1),σ₁) from h)
  obtain ⟨⟨fl,e1⟩,σ1,h1,h2⟩:=(show ∃ a σ',S.ex fi env x σ=some (a,σ')∧(match a with
   | (.next,env')=>blk S fi env' xs
   | (.ret v,env')=>Rpure (.ret v,env')) σ' = some ((.next,env1),σ₁) from by
    unfold Rbind at h
    cases q:S.ex fi env x σ with
    | none=>rw [q] at h; exact nx h
    | some y=>obtain ⟨a,σ'⟩:=y; rw [q] at h; exact ⟨a,σ',rfl,h⟩)
  cases fl with
  | next =>
   show blk S fi env (x::(xs++ys)) σ=_
   rw [aO h1]
   exact g7 h2
  | ret v=>cases h2
theorem nG {w:Str} {b c:List RT} (h:cS w b c):∃ t r eu,b=t::r∧t ∈ bL∧b=eu++c∧∀ pre p i l,gM w pre t r p i l=St (pre++tks eu p i) c p (i + eu.length) l:=by
 obtain ⟨t,r,rfl,ht,h⟩:=h
 rcases h with ⟨h1,h2,rfl⟩ | ⟨h1,rfl⟩
 ·refine ⟨t,c,[t],rfl,ht,rfl,fun pre p i l=>?_⟩
  unfold gM
  rw [h1,h2]
  rfl
 ·refine ⟨t,r,[],rfl,ht,rfl,fun pre p i l=>?_⟩
  unfold gM
  rw [h1]
  simp [tks]
section
variable {d:Nat} {a b c u:List RT} {brs:List PV}
theorem aAw {w:Str} (hw:w ∈ [gT,gU]) (h:d1 [gP,j7] d a brs b u) (hb:brs.length ≤ 2) (he:cS w b c):∃ eu,b=eu++c∧∀ k pre p i l,a.length ≤ 4000 →
 (sys TT aA (k + LS (d + 1) + 10)).call (fn 369) [.ob 0,aT d,.pv (.str w)] (St pre a p i l)=some (.pv (.tup brs),St (pre++tks u p i++tks eu p (i + u.length)) c p (i + u.length + eu.length) l):=by
 obtain ⟨t,r,eu,z1,ht,hbe,hp⟩:=nG he; clear he; subst z1
 refine ⟨eu,hbe,fun k pre p i l hl=>?_⟩
 rw [cK,aJa]
 have q1:=aI8 (sys TT aA (k + LS (d + 1) + 8)).call (sys TT aA (k + LS (d + 1) + 8)) d w (St pre a p i l)
 rw [bH,aE (vB h (by decide) hb k pre p i l hl)] at q1
 have q2:=aJ (aJ (aI9 (k + LS (d + 1) + 8 - 20) d (.pv (.tup brs)) (pre++tks u p i) r p (i + u.length) l) w hw) t ht
 rw [LSc _ _ 8 20 rfl,hp] at q2
 rw [aE (a:=(Fl.ret (.pv (.tup brs)),nM d w (.pv (.tup brs)))) (σ₁:=St (pre++tks u p i++tks eu p (i + u.length)) c p (i + u.length + eu.length) l)]
 ·rfl
 ·rw [aO q1]
  exact q2
theorem uJ {c:V→List V→R V} {f:V} {args:List V} {x y z w:PV} {env:aB} {σ σ₁:aC} (h:c f args σ=some (.pv w,σ₁)):arR c f args (x,y,z) env σ=some ((.ret (.pv (.tup [x,y,z,w])),env),σ₁):=by
 unfold arR
 rw [aE (a:=V.pv (.tup [x,y,z,w])) (σ₁:=σ₁)]
 ·rfl
 ·rw [aE (a:=[V.pv x,V.pv y,V.pv z,V.pv w]) (σ₁:=σ₁)]
  ·rfl
  ·rw [aE (a:=[V.pv y,V.pv z,V.pv w]) (σ₁:=σ₁)]
   ·rfl
   ·rw [aE (a:=[V.pv z,V.pv w]) (σ₁:=σ₁)]
    ·rfl
    ·rw [aE (a:=[V.pv w]) (σ₁:=σ₁)]
     ·rfl
     ·rw [aE h]; rfl
def fN (d:Nat) (v:Vb) (a:List RT) (t:PV) (c w:List RT):Prop:=∀ k pre p i l,a.length ≤ 4000 →
 (sys TT aA (k + LS (d + 1) + 12)).call (fn v.at) [.ob 0,aT d] (St pre (v.hdr++a) p i l)=some (.pv t,St (pre++tks (v.hdr++w) p i) c p (i + (v.hdr++w).length) l)
theorem aBt (hf:gW a) (h:d1 (Vb.keys .add) d a brs b u) (hb:brs.length ≤ 2) (he:cS (Vb.endW .add) b c):∃ eu,b=eu++c∧fN d .add a (bY .add brs) c (u++eu):=by
 obtain ⟨eu,hbe,hz⟩:=aAw (w:=gT) (by exact (.head _)) h hb he; clear h
 obtain ⟨t,r,rfl,ht⟩:=hf
 refine ⟨eu,hbe,fun k pre p i l hl=>?_⟩
 show (sys TT aA (k + LS (d + 1) + 12)).call (fn 390) [.ob 0,aT d] _=_
 rw [cK,aBs]
 have q0:=aBu (k + LS (d + 1) + 10 - 60) d pre (t::r) p i l
 have q1:=aJ (aBv (k + LS (d + 1) + 10 - 60) d pre r p i l) t ht
 rw [LSc _ _ 10 60 rfl] at q0 q1
 have q2:=aBw (sys TT aA (k + LS (d + 1) + 10)).call (sys TT aA (k + LS (d + 1) + 10)) d pre p i (St (pre++tks (Vb.hdr .add) p i) (t::r) p (i + 4) l)
 rw [bH,uJ (hz k (pre++tks (Vb.hdr .add) p i) p (i + 4) l hl)] at q2
 have hpre:pre++[(⟨s_word,wADD,p i⟩:Tk)]++[⟨s_number,s_one,p (i + 1)⟩]++[⟨s_word,wTO,p (i + 2)⟩]++[⟨s_word,wA,p (i + 3)⟩]=pre++tks (Vb.hdr .add) p i:=by
  simp [Vb.hdr,tks,W]
 rw [hpre] at q1
 rw [aE (a:=(Fl.ret (.pv (bY .add brs)),nH d pre p i)) (σ₁:=St (pre++tks (Vb.hdr .add) p i++tks u p (i + 4)++tks eu p (i + 4 + u.length)) c p (i + 4 + u.length + eu.length) l)]
 ·have:(Vb.hdr .add).length=4:=rfl
  rw [dQ,dQ]
  simp [this,Nat.add_assoc,fnK,Rpure]
 ·show blk _ _ _ ([stm 61 0,stm 61 1,stm 61 2]++[stm 61 3,stm 61 4]) _=_
  rw [g7 q0,aO q1]
  exact eM q2
theorem aIY (hf:gW a) (h:d1 (Vb.keys .sub) d a brs b u) (hb:brs.length ≤ 2) (he:cS (Vb.endW .sub) b c):∃ eu,b=eu++c∧fN d .sub a (bY .sub brs) c (u++eu):=by
 obtain ⟨eu,hbe,hz⟩:=aAw (w:=gU) (by exact (.tail _ (.head _))) h hb he; clear h
 obtain ⟨t,r,rfl,ht⟩:=hf
 refine ⟨eu,hbe,fun k pre p i l hl=>?_⟩
 show (sys TT aA (k + LS (d + 1) + 12)).call (fn 397) [.ob 0,aT d] _=_
 rw [cK,aIX]
 have q0:=aI1 (k + LS (d + 1) + 10 - 60) d pre (t::r) p i l
 have q1:=aJ (aI2 (k + LS (d + 1) + 10 - 60) d pre r p i l) t ht
 rw [LSc _ _ 10 60 rfl] at q0 q1
 have q2:=aI3 (sys TT aA (k + LS (d + 1) + 10)).call (sys TT aA (k + LS (d + 1) + 10)) d pre p i (St (pre++tks (Vb.hdr .sub) p i) (t::r) p (i + 5) l)
 rw [bH,uJ (hz k (pre++tks (Vb.hdr .sub) p i) p (i + 5) l hl)] at q2
 have hpre:pre++[(⟨s_word,wSUBTRACT,p i⟩:Tk)]++[⟨s_word,wB,p (i + 1)⟩]++[⟨s_word,wFROM,p (i + 2)⟩]++[⟨s_word,wA,p (i + 3)⟩]++[⟨s_word,wROUNDED,p (i + 4)⟩]=pre++tks (Vb.hdr .sub) p i:=by
  simp [Vb.hdr,tks,W]
 rw [hpre] at q1
 rw [aE (a:=(Fl.ret (.pv (bY .sub brs)),nL d pre p i)) (σ₁:=St (pre++tks (Vb.hdr .sub) p i++tks u p (i + 5)++tks eu p (i + 5 + u.length)) c p (i + 5 + u.length + eu.length) l)]
 ·have:(Vb.hdr .sub).length=5:=rfl
  rw [dQ,dQ]
  simp [this,Nat.add_assoc,fnK,Rpure]
 ·show blk _ _ _ ([stm 62 0,stm 62 1,stm 62 2,stm 62 3]++([stm 62 4,stm 62 5]++[stm 62 6])) _=_
  rw [g7 q0,g7 q1]
  exact eM q2
theorem sT {v:Vb} {fi:FI} {e0 e1:aB} {e2:V→aB} {xs ys:List Stmt} {sb:Stmt} (hks:v.keys.length ≤ 10) (h:d1 v.keys d a brs b u) (hb:brs.length ≤ v.keys.length) (he:cS v.endW b c)
 (blk0:∀ I σ,bI TT aA (C I) (fn v.at) [.ob 0,aT d] σ=(Rbind (blk (C I) fi e0 (xs++sb::ys)) fnK) σ)
 (pre0:∀ m pre p i l,blk (C (sys TT aA (m + 60))) fi e0 xs (St pre (v.hdr++a) p i l)=some ((Fl.next,e1),St (pre++tks v.hdr p i) a p (i + v.hdr.length) l))
 (br0:∀ c I σ,(C (sel (a6 294) c I)).ex fi e1 sb σ=(Rbind (c (fn 294) [.ob 0,aT d,ksV v.keys]) fun v=>Rpure (.next,e2 v)) σ)
 (end0:∀ m pre r p i l,(bL.map fun t=>blk (C (sys TT aA (m + 20))) fi (e2 (.pv (.tup brs))) ys (St pre (t::r) p i l))=bL.map fun t=>some ((Fl.ret (.pv (bY v brs)),e2 (.pv (.tup brs))),gM v.endW pre t r p i l)) :
 ∃ eu,b=eu++c∧fN d v a (bY v brs) c (u++eu):=by
 obtain ⟨t,r,eu,z1,ht,hbe,hp⟩:=nG he; clear he; subst z1
 refine ⟨eu,hbe,fun k pre p i l hl=>?_⟩
 rw [cK,blk0]
 have q0:=pre0 (k + LS (d + 1) + 10 - 60) pre p i l
 rw [LSc _ _ 10 60 rfl] at q0
 have q1:=br0 (sys TT aA (k + LS (d + 1) + 10)).call (sys TT aA (k + LS (d + 1) + 10)) (St (pre++tks v.hdr p i) a p (i + v.hdr.length) l)
 have q2:=vB h hks hb (k + 2) (pre++tks v.hdr p i) p (i + v.hdr.length) l hl
 rw [LSe] at q2
 rw [bH,aE q2] at q1
 have q3:=aJ (end0 (k + LS (d + 1) + 10 - 20) (pre++tks v.hdr p i++tks u p (i + v.hdr.length)) r p (i + v.hdr.length + u.length) l) t ht
 rw [LSc _ _ 10 20 rfl,hp] at q3
 rw [aE (a:=(Fl.ret (.pv (bY v brs)),e2 (.pv (.tup brs)))) (σ₁:=St (pre++tks v.hdr p i++tks u p (i + v.hdr.length)++tks eu p (i + v.hdr.length + u.length)) c p (i + v.hdr.length + u.length + eu.length) l)]
 ·rw [dQ,dQ]
  simp [Nat.add_assoc,fnK,Rpure]
 ·rw [g7 q0,aO q1]
  exact q3
theorem aHx (hf:gW a) (h:d1 (Vb.keys .rd) d a brs b u) (hb:brs.length ≤ 4) (he:cS (Vb.endW .rd) b c):∃ eu,b=eu++c∧fN d .rd a (bY .rd brs) c (u++eu):=by
 obtain ⟨t,r,rfl,ht⟩:=hf
 refine sT (v:=.rd) (fi:=fiR) (e0:=env2 d) (e1:=qW d) (e2:=nK d) (xs:=[stm 65 0,stm 65 1,stm 65 2,stm 65 3,stm 65 4,stm 65 5,stm 65 6]) (sb:=stm 65 7) (ys:=[stm 65 8,stm 65 9]) (show 4 ≤ 10 by decide) h hb he (fun I σ=>aHv I d σ) (fun m pre p i l=>?_) (fun c I σ=>aHw c I d σ) (fun m pre r p i l=>aHy m d brs pre r p i l)
 have:=aJ (aHz m d pre r p i l) t ht
 rw [this]
 simp [Vb.hdr,tks,W]
theorem aDr (h:d1 (Vb.keys .del) d a brs b u) (hb:brs.length ≤ 2) (he:cS (Vb.endW .del) b c):∃ eu,b=eu++c∧fN d .del a (bY .del brs) c (u++eu):=by
 refine sT (v:=.del) (fi:=lD) (e0:=env2 d) (e1:=qT d) (e2:=nJ d) (xs:=[stm 66 0,stm 66 1,stm 66 2]) (sb:=stm 66 3) (ys:=[stm 66 4,stm 66 5]) (show 2 ≤ 10 by decide) h hb he (fun I σ=>aDp I d σ) (fun m pre p i l=>?_) (fun c I σ=>aDq c I d σ) (fun m pre r p i l=>aDs m d brs pre r p i l)
 rw [aDt m d pre a p i l]
 simp [Vb.hdr,tks,W]
theorem aCt (hf:gW a) (h:d1 (Vb.keys .call) d a brs b u) (hb:brs.length ≤ 2) (he:cS (Vb.endW .call) b c):∃ eu,b=eu++c∧fN d .call a (bY .call brs) c (u++eu):=by
 obtain ⟨t,r,rfl,ht⟩:=hf
 refine sT (v:=.call) (fi:=lC) (e0:=env2 d) (e1:=qS d) (e2:=nI d) (xs:=[stm 85 0,stm 85 1,stm 85 2]) (sb:=stm 85 3) (ys:=[stm 85 4,stm 85 5]) (show 2 ≤ 10 by decide) h hb he (fun I σ=>aCr I d σ) (fun m pre p i l=>?_) (fun c I σ=>aCs c I d σ) (fun m pre r p i l=>aCu m d brs pre r p i l)
 have:=aJ (aCv m d pre r p i l) t ht
 rw [this]
 simp [Vb.hdr,tks,W]
end
section
variable {d:Nat} {a b c e u u1 u2:List RT} {y z:PV} {ys zs:List PV}
theorem xA (m d:Nat) (hv:cM a) (pre:List Tk) (p:Nat→PV) (i:Nat) (l:List (List V)) :
 blk (C (sys TT aA (m + 60))) fiI (env2 d) [stm 82 0,stm 82 1,stm 82 2] (St pre (Vb.hdr .iff++a) p i l)=some ((Fl.next,qU d),St (pre++tks (Vb.hdr .iff) p i) a p (i + 2) l):=by
 obtain ⟨t,r,rfl,ht⟩:=hv
 have:=aJ (aEp m d pre r p i l) t ht
 rw [this]
 simp [Vb.hdr,tks,W]
theorem aEk (hv:cM a) (h:fM (d + 1) a (y::ys) b u) (hl1:(y::ys).length ≤ u.length) (ha:a=u++b) (hn:∃ t r,b=t::r∧t ∈ dG) (he:cS eT b c):∃ eu,b=eu++c∧fN d .iff a (ifT (y::ys) []) c (u++eu):=by
 obtain ⟨t,r,eu,z1,ht,hbe,hp⟩:=nG he; clear he; subst z1
 refine ⟨eu,hbe,fun k pre p i l hl=>?_⟩
 have hul:u.length ≤ 4000:=adl (el (List.length_append.symm.trans (congrArg List.length ha).symm) hl) rfl
 show (sys TT aA (k + LS (d + 1) + 12)).call (fn 572) [.ob 0,aT d] _=_
 rw [cK,w8]
 have q0:=xA (k + LS (d + 1) + 10 - 60) d hv pre p i l
 rw [LSc _ _ 10 60 rfl] at q0
 have q1:=xB (sys TT aA (k + LS (d + 1) + 10)).call (sys TT aA (k + LS (d + 1) + 10)) d (St (pre++tks (Vb.hdr .iff) p i) a p (i + 2) l)
 have q2:=mX h (Nat.le_trans hl1 hul) (k + 4) (pre++tks (Vb.hdr .iff) p i) p (i + 2) l hl
 rw [LSe] at q2
 rw [bH,aE q2] at q1
 obtain ⟨t',r',e',hn⟩:=hn
 cases e'
 have q3:=aJ (aEo (k + LS (d + 1) + 10 - 20) d (.pv (.tup (y::ys))) (pre++tks (Vb.hdr .iff) p i++tks u p (i + 2)) r p (i + 2 + u.length) l) t hn
 have q4:=aJ (w9 (k + LS (d + 1) + 10 - 20) d (y::ys) [] (pre++tks (Vb.hdr .iff) p i++tks u p (i + 2)) r p (i + 2 + u.length) l) t ht
 rw [LSc _ _ 10 20 rfl] at q3 q4
 rw [hp] at q4
 rw [aE (a:=(Fl.ret (.pv (ifT (y::ys) [])),jQ d (.pv (.tup (y::ys))) (.pv (.tup [])))) (σ₁:=St (pre++tks (Vb.hdr .iff) p i++tks u p (i + 2)++tks eu p (i + 2 + u.length)) c p (i + 2 + u.length + eu.length) l)]
 ·have:(Vb.hdr .iff).length=2:=rfl
  rw [dQ,dQ]
  simp [this,Nat.add_assoc,fnK,Rpure]
 ·show blk _ _ _ ([stm 82 0,stm 82 1,stm 82 2]++[stm 82 3,stm 82 4,stm 82 5,stm 82 6]) _=_
  rw [g7 q0,aO q1,aO q3]
  exact q4
theorem aEl (hv:cM a) (h:fM (d + 1) a (y::ys) (W wELSE::b) u1) (hl1:(y::ys).length ≤ u1.length) (ha:a=u1++W wELSE::b) (h2:fM (d + 1) b (z::zs) c u2) (hl2:(z::zs).length ≤ u2.length) (hb:b=u2++c) (he:cS eT c e) :
 ∃ eu,c=eu++e∧fN d .iff a (ifT (y::ys) (z::zs)) e (u1++(W wELSE::(u2++eu))):=by
 obtain ⟨t,r,eu,z1,ht,hbe,hp⟩:=nG he; clear he; subst z1
 refine ⟨eu,hbe,fun k pre p i l hl=>?_⟩
 have hul:u1.length ≤ 4000∧u2.length ≤ 4000∧b.length ≤ 4000:=by
  have hal:u1.length + (b.length + 1) ≤ 4000:=el (List.length_append.symm.trans (congrArg List.length ha).symm) hl
  have hbl:b.length ≤ 4000:=Nat.le_trans (Nat.le_trans (Nat.le_succ _) (Nat.le_add_left _ _)) hal
  exact ⟨adl hal rfl,adl (el (List.length_append.symm.trans (congrArg List.length hb).symm) hbl) rfl,hbl⟩
 show (sys TT aA (k + LS (d + 1) + 12)).call (fn 572) [.ob 0,aT d] _=_
 rw [cK,w8]
 have q0:=xA (k + LS (d + 1) + 10 - 60) d hv pre p i l
 rw [LSc _ _ 10 60 rfl] at q0
 have q1:=xB (sys TT aA (k + LS (d + 1) + 10)).call (sys TT aA (k + LS (d + 1) + 10)) d (St (pre++tks (Vb.hdr .iff) p i) a p (i + 2) l)
 have q2:=mX h (Nat.le_trans hl1 hul.1) (k + 4) (pre++tks (Vb.hdr .iff) p i) p (i + 2) l hl
 rw [LSe] at q2
 rw [bH,aE q2] at q1
 have q3:=aEm (sys TT aA (k + LS (d + 1) + 10 - 20 + 20)).call (k + LS (d + 1) + 10 - 20) d (.pv (.tup (y::ys))) (pre++tks (Vb.hdr .iff) p i++tks u1 p (i + 2)) b p (i + 2 + u1.length) l
 have q5:=mX h2 (Nat.le_trans hl2 hul.2.1) (k + 4) (pre++tks (Vb.hdr .iff) p i++tks u1 p (i + 2)++[⟨s_word,wELSE,p (i + 2 + u1.length)⟩]) p (i + 2 + u1.length + 1) l hul.2.2
 rw [LSe] at q5
 rw [bH,LSc _ _ 10 20 rfl,aE q5] at q3
 have q4:=aJ (w9 (k + LS (d + 1) + 10 - 20) d (y::ys) (z::zs) (pre++tks (Vb.hdr .iff) p i++tks u1 p (i + 2)++[⟨s_word,wELSE,p (i + 2 + u1.length)⟩]++tks u2 p (i + 2 + u1.length + 1)) r p (i + 2 + u1.length + 1 + u2.length) l) t ht
 rw [LSc _ _ 10 20 rfl,hp] at q4
 rw [aE (a:=(Fl.ret (.pv (ifT (y::ys) (z::zs))),jQ d (.pv (.tup (y::ys))) (.pv (.tup (z::zs))))) (σ₁:=St (pre++tks (Vb.hdr .iff) p i++tks u1 p (i + 2)++[⟨s_word,wELSE,p (i + 2 + u1.length)⟩]++tks u2 p (i + 2 + u1.length + 1)++tks eu p (i + 2 + u1.length + 1 + u2.length)) e p (i + 2 + u1.length + 1 + u2.length + eu.length) l)]
 ·have h2:(Vb.hdr .iff).length=2:=rfl
  have h3:tks (W wELSE::(u2++eu)) p (i + 2 + u1.length)=⟨s_word,wELSE,p (i + 2 + u1.length)⟩::tks (u2++eu) p (i + 2 + u1.length + 1):=rfl
  rw [dQ,dQ,h2,h3,dQ]
  have h4:i + (Vb.hdr .iff++(u1++W wELSE::(u2++eu))).length=i + 2 + u1.length + 1 + u2.length + eu.length:=by rw [List.length_append,List.length_append,List.length_cons,List.length_append,h2,Nat.add_comm (u2.length + eu.length) 1]; simp only [Nat.add_assoc]
  rw [h4]
  simp [fnK,Rpure]
 ·show blk _ _ _ ([stm 82 0,stm 82 1,stm 82 2]++[stm 82 3,stm 82 4,stm 82 5,stm 82 6]) _=_
  rw [g7 q0,aO q1,aO q3]
  exact q4
theorem aAq (hd:d < 13) {t:RT} {f:V} {r c w:List RT} {x:PV} (ht:(t,f) ∈ bR.zip nA)
 (h:∀ k pre p i l,(t::r).length ≤ 4000→(sys TT aA (k + LS (d + 1) + 12)).call f [.ob 0,aT d] (St pre (t::r) p i l)=some (.pv x,St (pre++tks w p i) c p (i + w.length) l)):jC d (t::r) x c w:=by
 intro k pre p i l hl
 rw [show k + LS d=k + LS (d + 1) + 12 + 2 from (congrArg (k + ·) (aA7 hd)).trans (Nat.add_assoc k _ 14).symm,cK,aIL]
 have hv:t ∈ bR:=(List.of_mem_zip ht).1
 have q1:=aJ (aII (k + LS (d + 1) + 12 - 20) d pre r p i l) t hv
 have q2:=aJ (aIJ (k + LS (d + 1) + 12 - 20) (St pre (t::r) p i l)) d (List.mem_range.mpr hd)
 have q3:=aJ (aIK (k + LS (d + 1) + 12 - 20) d (sys TT aA (k + LS (d + 1) + 12 - 20 + 20)).call pre r p i l) (t,f) ht
 rw [bH] at q3
 rw [LSc _ _ 12 20 rfl] at q1 q2 q3
 have q4:=h k pre p i l hl
 have q3:(C (sys TT aA (k + LS (d + 1) + 12))).ex fiS (fS d) (stm 6 2) (St pre (t::r) p i l)=some ((.ret (.pv x),fS d),St (pre++tks w p i) c p (i + w.length) l):=by
  rw [q3]
  show Rbind ((sys TT aA (k + LS (d + 1) + 12)).call f [.ob 0,aT d]) _ _=_
  rw [aE q4]
  rfl
 rw [aE (a:=(Fl.ret (.pv x),fS d)) (σ₁:=St (pre++tks w p i) c p (i + w.length) l)]
 ·rfl
 ·rw [aO q1,aO q2]
  exact eM q3
theorem tW (hd:d < 13) {v:Vb} {x:PV} {w:List RT} (h:fN d v a x c w):jC d (v.hdr++a) x c (v.hdr++w):=by
 have go:∀ (t:RT) (f:V) (r:List RT),v.hdr=t::r→fn v.at=f→(t,f) ∈ bR.zip nA→jC d (v.hdr++a) x c (v.hdr++w):=fun t f r h1 h2 h3=>by
  have h4:v.hdr++a=t::(r++a):=by rw [h1]; rfl
  rw [h4]
  refine aAq hd h3 fun k pre p i l hl=>?_
  rw [← h4,← h2]
  exact h k pre p i l (adr (el List.length_append.symm (Nat.le_of_succ_le hl)) rfl)
 clear h; cases v with
 | add=>exact go _ _ _ rfl rfl (List.mem_of_getElem? (i:=1) rfl)
 | sub=>exact go _ _ _ rfl rfl (List.mem_of_getElem? (i:=2) rfl)
 | rd=>exact go _ _ _ rfl rfl (List.mem_of_getElem? (i:=3) rfl)
 | del=>exact go _ _ _ rfl rfl (List.mem_of_getElem? (i:=4) rfl)
 | call=>exact go _ _ _ rfl rfl (List.mem_of_getElem? (i:=5) rfl)
 | iff=>exact go _ _ _ rfl rfl (List.mem_of_getElem? (i:=6) rfl)
theorem aDd (m d:Nat) (pre:List Tk) (r:List RT) (p:Nat→PV) (i:Nat) (l:List (List V)):(sys TT aA (m + 20)).call qN [.ob 0,aT d] (St pre (W wCONTINUE::r) p i l)=some (.pv eF,St (pre++[⟨s_word,wCONTINUE,p i⟩]) r p (i + 1) l):=by kernel_rfl
theorem aDe (hd:d < 13) {r:List RT}:jC d (W wCONTINUE::r) eF r [W wCONTINUE]:=by
 refine aAq (f:=qN) hd (List.mem_of_getElem? (i:=0) rfl) fun k pre p i l hl=>?_
 have:=aDd (k + LS (d + 1) + 12 - 20) d pre r p i l
 rw [LSc _ _ 12 20 rfl] at this
 rw [this]
 rfl
theorem aKi {j:Job} {ts:List PV} (h:P j d a ts c):M j d a ts c:=by
 induction h with
 | nil ht=>exact ⟨[],rfl,Nat.le_refl _,aFx ht⟩
 | cons hv _ _ ih1 ih2 =>
  obtain ⟨t,u1,e1,ha,hu,h1⟩:=ih1
  obtain ⟨u2,hb,hl,h2⟩:=ih2
  cases e1
  refine ⟨u1++u2,by rw [ha,hb,List.append_assoc],by rw [List.length_append,Nat.add_comm]; exact Nat.add_le_add hl hu,aFw hv ha hu h1 h2⟩
 | cont hd=>exact ⟨eF,[W wCONTINUE],rfl,rfl,Nat.le_refl _,aDe hd⟩
 | @comp d v a b c brs hd hv hf _ he ih =>
  obtain ⟨u,ha,hl,hm⟩:=ih hd; clear ih
  have fin:∀ eu,b=eu++c→fN d v a (bY v brs) c (u++eu)→M .stm d (v.hdr++a) [bY v brs] c:=fun eu hbe hc =>
   ⟨_,v.hdr++(u++eu),rfl,by rw [ha,hbe]; simp,by cases v <;> simp [Vb.hdr],tW hd hc⟩
  cases v with
  | add=>obtain ⟨eu,hbe,hc⟩:=aBt hf hm hl he; exact fin eu hbe hc
  | sub=>obtain ⟨eu,hbe,hc⟩:=aIY hf hm hl he; exact fin eu hbe hc
  | rd=>obtain ⟨eu,hbe,hc⟩:=aHx hf hm hl he; exact fin eu hbe hc
  | del=>obtain ⟨eu,hbe,hc⟩:=aDr hm hl he; exact fin eu hbe hc
  | call=>obtain ⟨eu,hbe,hc⟩:=aCt hf hm hl he; exact fin eu hbe hc
  | iff=>exact absurd rfl hv
 | @iff1 d a ys b c hd hv _ hy hn he ih =>
  obtain ⟨u,ha,hl,hm⟩:=ih
  cases ys with
  | nil=>exact absurd rfl hy
  | cons y ys =>
   obtain ⟨eu,hbe,hc⟩:=aEk hv hm hl ha hn he
   exact ⟨_,Vb.hdr .iff++(u++eu),rfl,by rw [ha,hbe]; simp,by simp [Vb.hdr],tW hd hc⟩
 | @iff2 d a ys b zs c e hd hv _ hy _ hz he ih1 ih2 =>
  obtain ⟨u1,ha,hl1,hm1⟩:=ih1
  obtain ⟨u2,hb,hl2,hm2⟩:=ih2
  cases ys with
  | nil=>exact absurd rfl hy
  | cons y ys =>
   cases zs with
   | nil=>exact absurd rfl hz
   | cons z zs =>
    obtain ⟨eu,hbe,hc⟩:=aEl hv hm1 hl1 ha hm2 hl2 hb he
    exact ⟨_,Vb.hdr .iff++(u1++(W wELSE::(u2++eu))),rfl,by rw [ha,hb,hbe]; simp,by simp [Vb.hdr],tW hd hc⟩
 | brs0=>exact fun _=>⟨[],rfl,Nat.le_refl _,aCg⟩
 | brsS h0 _ ih =>
  intro hd
  obtain ⟨u,ha,hl,hm⟩:=ih hd
  exact ⟨u,ha,Nat.le_succ_of_le hl,aCi h0 hm⟩
 | @brsT d k ks h a ys b brs c h1 h4 h0 _ hy _ ih1 ih2 =>
  intro hd
  obtain ⟨u1,ha,hl1,hm1⟩:=ih1
  obtain ⟨u2,hb,hl2,hm2⟩:=ih2 hd
  cases ys with
  | nil=>exact absurd rfl hy
  | cons y ys=>exact ⟨h++(u1++u2),by rw [ha,hb]; simp,Nat.succ_le_succ hl2,aCj h1 h4 h0 ha hm1 hl1 hm2⟩
end
noncomputable def s_then:Str:=ns [116,104,101,110]
noncomputable def eQ:Str:=ns [101,108,115,101]
noncomputable def Vb.own:Vb→List Str
 | .iff=>[s_then,eQ]
 | v=>v.keys
noncomputable def dot:RT:=(o8,oW)
structure SF where
 v:Vb
 tk:Nat
 done:List (Str×List PV)
 cur:Option (Str×List PV)
def SF.app (f:SF) (xs:List PV):SF:=match f.cur with
 | some (k,ys)=>{ f with cur:=some (k,ys++xs) }
 | none=>f
def SF.brs (f:SF):List (Str×List PV):=f.done++f.cur.toList
noncomputable def cZ (l:List (Str×List PV)):List PV:=l.map fun q=>brT q.1 q.2
noncomputable def bJ (f:SF):PV:=match f.v,f.brs with
 | .iff,[(_,xs)]=>ifT xs []
 | .iff,(_,xs)::(_,ys)::_=>ifT xs ys
 | v,l=>bY v (cZ l)
inductive pQ (d:Nat) (v:Vb) (tk:Nat) (dn:List (Str×List PV)) (a:List RT) (t:PV) (c:List RT):Prop
 | mk (brs:List PV) (b:List RT) (h1:P (.brs (v.own.drop tk)) d a brs b) (h2:cS v.endW b c) (h3:t=bY v (cZ dn++brs))
inductive mM (d:Nat) (v:Vb) (tk:Nat) (dn:List (Str×List PV)) (k:Str) (ys:List PV) (a:List RT) (t:PV) (c:List RT):Prop
 | mk (zs:List PV) (b:List RT) (brs:List PV) (b' : List RT) (h1:P .body (d + 1) a zs b) (h2:ys++zs ≠ []) (h3:P (.brs (v.own.drop tk)) d b brs b') (h4:cS v.endW b' c) (h5:t=bY v (cZ dn++brT k (ys++zs)::brs))
inductive kN (d:Nat) (ys:List PV) (a:List RT) (t:PV) (c:List RT):Prop
 | one (zs:List PV) (x:RT) (r:List RT) (h1:P .body (d + 1) a zs (x::r)) (h2:ys++zs ≠ []) (h3:x ∈ dG) (h4:cS eT (x::r) c) (h5:t=ifT (ys++zs) [])
 | two (zs:List PV) (b:List RT) (ws:List PV) (b' : List RT) (h1:P .body (d + 1) a zs (W wELSE::b)) (h2:ys++zs ≠ []) (h3:P .body (d + 1) b ws b') (h4:ws ≠ []) (h5:cS eT b' c) (h6:t=ifT (ys++zs) ws)
inductive mN (d:Nat) (xs ys:List PV) (a:List RT) (t:PV) (c:List RT):Prop
 | mk (zs:List PV) (b:List RT) (h1:P .body (d + 1) a zs b) (h2:ys++zs ≠ []) (h3:cS eT b c) (h4:t=ifT xs (ys++zs))
def aBb (d:Nat) (dn:List (Str×List PV)) (cur:Option (Str×List PV)) (a:List RT) (t:PV) (c:List RT):Prop:=match dn,cur with
 | [],some (_,ys)=>kN d ys a t c
 | (_,xs)::_,some (_,ys)=>mN d xs ys a t c
 | _,none=>False
def uC (d:Nat) (v:Vb) (tk:Nat) (dn:List (Str×List PV)) (cur:Option (Str×List PV)) (a:List RT) (t:PV) (c:List RT):Prop:=match cur with
 | none=>pQ d v tk dn a t c
 | some (k,ys)=>mM d v tk dn k ys a t c
def Res (d:Nat) (f:SF) (a:List RT) (t:PV) (c:List RT):Prop:=match f.v with
 | .iff=>aBb d f.done f.cur a t c
 | v=>uC d v f.tk f.done f.cur a t c
section
variable {d:Nat} {v:Vb} {tk:Nat} {dn:List (Str×List PV)} {cur:Option (Str×List PV)} {a:List RT} {t:PV} {c:List RT}
theorem gO (hv:v ≠ .iff):Res d ⟨v,tk,dn,cur⟩ a t c=uC d v tk dn cur a t c:=by cases v <;> first | rfl | exact absurd rfl hv
theorem vO (hv:v ≠ .iff):bJ ⟨v,tk,dn,cur⟩=bY v (cZ (dn++cur.toList)):=by cases v <;> first | rfl | exact absurd rfl hv
theorem zK (hv:v ≠ .iff):v.own=v.keys:=by cases v <;> first | rfl | exact absurd rfl hv
end
def KP (fd:List PV):List SF→List PV→List RT→List PV→Prop
 | [],pend,a,res=>∃ ts,P .body 0 a ts [dot]∧res=fd++pend++ts
 | f::fs,pend,a,res=>∃ t c,Res fs.length (f.app pend) a t c∧KP fd fs [t] c res
def hM:List SF→Prop
 | []=>True
 | f::_=>f.cur ≠ none
theorem nil_mem {α:Type} {x:α} {P:Prop} (h:x ∈ ([]:List α)):P:=nomatch h
theorem nil_cons {α:Type} {x:α} {l:List α} {P:Prop} (h:[]=x::l):P:=nomatch h
theorem eV (f:SF):f.app []=f:=by
 obtain ⟨v,tk,dn,cur⟩:=f
 cases cur with
 | none=>rfl
 | some q=>simp [SF.app]
theorem aKo (f:SF) (xs ys:List PV):(f.app xs).app ys=f.app (xs++ys):=by
 obtain ⟨v,tk,dn,cur⟩:=f
 cases cur with
 | none=>rfl
 | some q=>simp [SF.app]
theorem pZ {f:SF} {xs:List PV} (h:f.cur ≠ none):(f.app xs).cur ≠ none:=by
 obtain ⟨v,tk,dn,cur⟩:=f
 cases cur with
 | none=>exact absurd rfl h
 | some q=>simp [SF.app]
theorem aHL {d:Nat} {f:SF} {a b c:List RT} {s t:PV} (hv:cM a) (hc:f.cur ≠ none) (h:P .stm (d + 1) a [s] b) (hr:Res d (f.app [s]) b t c):Res d f a t c:=by
 obtain ⟨v,tk,dn,cur⟩:=f
 cases cur with
 | none=>exact absurd rfl hc
 | some q =>
  clear hc; obtain ⟨k,ys⟩:=q
  have app:∀ zs,ys++[s]++zs=ys++s::zs:=fun zs=>List.append_assoc ys [s] zs
  by_cases hi:v = .iff
  ·subst hi
   cases dn with
   | nil =>
    rcases hr with ⟨zs,x,r,h1,h2,h3,h4,h5⟩ | ⟨zs,b1,ws,b2,h1,h2,h3,h4,h5,h6⟩
    ·exact kN.one (s::zs) x r (P.cons hv h h1) (app zs ▸ h2) h3 h4 (app zs ▸ h5)
    ·exact kN.two (s::zs) b1 ws b2 (P.cons hv h h1) (app zs ▸ h2) h3 h4 h5 (app zs ▸ h6)
   | cons x dn =>
    obtain ⟨x,xs⟩:=x
    obtain ⟨zs,b',h1,h2,h3,h4⟩:=hr
    exact mN.mk (s::zs) b' (P.cons hv h h1) (app zs ▸ h2) h3 (app zs ▸ h4)
  ·obtain ⟨zs,b',brs,b2,h1,h2,h3,h4,h5⟩:=(gO hi).mp hr
   exact (gO hi).mpr (mM.mk (s::zs) b' brs b2 (P.cons hv h h1) (app zs ▸ h2) h3 h4 (app zs ▸ h5))
theorem xY {fd:List PV} {fs:List SF} {a b:List RT} {s:PV} {res:List PV} (hv:cM a) (hc:hM fs) (h:P .stm fs.length a [s] b) (hk:KP fd fs [s] b res):KP fd fs [] a res:=by
 cases fs with
 | nil =>
  obtain ⟨ts,h1,h2⟩:=hk
  exact ⟨s::ts,P.cons hv h h1,by simpa using h2⟩
 | cons f fs =>
  obtain ⟨t,c,h1,h2⟩:=hk
  exact ⟨t,c,by rw [eV]; exact aHL hv hc h h1,h2⟩
theorem aE1 {fd:List PV} {fs:List SF} {c:List RT} {res:List PV} (hc:hM fs) (hl:fs.length < 13) (hk:KP fd fs [eF] c res):KP fd fs [] (W wCONTINUE::c) res :=
 xY ⟨_,_,rfl,.head _⟩ hc (P.cont hl) hk
noncomputable def newF (v:Vb):SF:=match v with
 | .iff=>⟨.iff,1,[],some (s_then,[])⟩
 | v=>⟨v,0,[],none⟩
theorem yO {v:Vb} (hv:v ≠ .iff):newF v=⟨v,0,[],none⟩:=by cases v <;> first | rfl | exact absurd rfl hv
noncomputable def f4 (t:RT) (l:List RT):Bool:=l.any fun x=>sEq x.1 t.1 && sEq x.2 t.2
theorem rin {t:RT} {l:List RT} (h:f4 t l=true):t ∈ l:=by
 obtain ⟨x,hx,e⟩:=List.any_eq_true.mp h
 obtain ⟨e1,e2⟩:=Bool.and_eq_true_iff.mp e
 exact (Prod.ext (aK.mp e1) (aK.mp e2):x=t) ▸ hx
noncomputable def vbL:List Vb:=[.add,.sub,.rd,.del,.call,.iff]
theorem kC (v:Vb):v ∈ vbL:=match v with
 | .add=>.head _
 | .sub=>.tail _ (.head _)
 | .rd=>.tail _ (.tail _ (.head _))
 | .del=>.tail _ (.tail _ (.tail _ (.head _)))
 | .call=>.tail _ (.tail _ (.tail _ (.tail _ (.head _))))
 | .iff=>.tail _ (.tail _ (.tail _ (.tail _ (.tail _ (.head _)))))
theorem kD {p:Vb→Bool} (h:vbL.all p=true) (v:Vb):p v=true:=List.all_eq_true.mp h v (kC v)
theorem wY (v:Vb) (a:List RT):cM (v.hdr++a):=by
 have h:=kD (p:=fun v=>match v.hdr with | t::_=>f4 t bR | []=>false) (by kernel_rfl) v
 cases q:v.hdr with
 | nil=>rw [q] at h; exact ft h
 | cons t r=>rw [q] at h; exact ⟨t,r++a,rfl,rin h⟩
theorem aE4 {fd:List PV} {fs:List SF} {v:Vb} {c:List RT} {res:List PV} (hc:hM fs) (hl:fs.length < 13) (hf:v ≠ .iff→gW c) (hi:v = .iff→cM c) (hk:KP fd (newF v::fs) [] c res):KP fd fs [] (v.hdr++c) res:=by
 obtain ⟨t,c',h1,h2⟩:=hk
 rw [eV] at h1
 refine xY (wY v c) hc ?_ h2
 by_cases hv:v = .iff
 ·clear hf; subst hv
  rcases h1 with ⟨zs,x,r,q1,q2,q3,q4,q5⟩ | ⟨zs,b1,ws,b2,q1,q2,q3,q4,q5,q6⟩
  ·exact q5 ▸ P.iff1 hl (hi rfl) q1 q2 ⟨x,r,rfl,q3⟩ q4
  ·exact q6 ▸ P.iff2 hl (hi rfl) q1 q2 q3 q4 q5
 ·rw [yO hv,gO hv] at h1
  obtain ⟨brs,b,q1,q2,q3⟩:=h1
  exact q3 ▸ P.comp hl hv (hf hv) (zK hv ▸ q1) q2
theorem vD {d:Nat} {a:List RT} {ks:List Str} (h:∀ k ∈ ks,OL k a 0):P (.brs ks) d a [] a:=by
 induction ks with
 | nil=>exact P.brs0
 | cons k ks ih=>exact P.brsS (h k (.head _)) (ih fun k' hk=>h k' (.tail _ hk))
def Wf (f:SF):Prop:=match f.v with
 | .iff=>(∃ ys,f=⟨.iff,1,[],some (s_then,ys)⟩)∨∃ xs ys,f=⟨.iff,2,[(s_then,xs)],some (eQ,ys)⟩
 | _=>f.cur=none→f.done=[]∧f.tk=0
theorem mH {v:Vb} {tk:Nat} {dn:List (Str×List PV)} {cur:Option (Str×List PV)} (hv:v ≠ .iff):Wf ⟨v,tk,dn,cur⟩=(cur=none→dn=[]∧tk=0):=by cases v <;> first | rfl | exact absurd rfl hv
theorem kG {P:SF→Prop} (i1:∀ ys,P ⟨.iff,1,[],some (s_then,ys)⟩) (i2:∀ xs ys,P ⟨.iff,2,[(s_then,xs)],some (eQ,ys)⟩) (v0:∀ v,v ≠ .iff→P ⟨v,0,[],none⟩)
 (v1:∀ v tk dn k ys,v ≠ .iff→P ⟨v,tk,dn,some (k,ys)⟩) {f:SF} (h:Wf f):P f:=by
 obtain ⟨v,tk,dn,cur⟩:=f
 by_cases hv:v = .iff
 ·subst hv
  rcases h with ⟨ys,e⟩ | ⟨xs,ys,e⟩
  ·exact e ▸ i1 ys
  ·exact e ▸ i2 xs ys
 ·rw [mH hv] at h
  match cur,h with
  | none,h=>obtain ⟨z1,z2⟩:=h rfl; clear h; subst z1 z2; exact v0 v hv
  | some q,_=>exact v1 v tk dn q.1 q.2 hv
def c0 (f:SF):Prop:=∀ k ys,f.cur=some (k,ys)→ys ≠ []
structure mP (f:SF) (a:List RT):Prop where
 ol:f.v ≠ .iff→∀ k ∈ f.v.own.drop f.tk,OL k a 0
 hd:∃ t r,a=t::r∧t ∈ bL∧sEq t.2 f.v.endW=false∧(f.cur ≠ none→t ∈ dN)∧(f.v = .iff→f.tk=1→t ∈ dG)
theorem aAc {d:Nat} {f:SF} {t:RT} {r c:List RT} (hw:Wf f):c0 f→(f.v ≠ .iff→∀ k ∈ f.v.own.drop f.tk,OL k (t::r) 0)→cS f.v.endW (t::r) c→(f.cur ≠ none→t ∈ dN)→(f.v = .iff→f.tk=1→t ∈ dG)→Res d f (t::r) (bJ f) c :=
 kG (P:=fun f=>c0 f→(f.v ≠ .iff→∀ k ∈ f.v.own.drop f.tk,OL k (t::r) 0)→cS f.v.endW (t::r) c→(f.cur ≠ none→t ∈ dN)→(f.v = .iff→f.tk=1→t ∈ dG)→Res d f (t::r) (bJ f) c)
  (fun ys hf _ he ho hn=>kN.one [] t r (P.nil (ho nofun)) ((List.append_nil ys).symm ▸ hf _ _ rfl) (hn rfl rfl) he ((List.append_nil ys).symm ▸ rfl))
  (fun xs ys hf _ he ho _=>mN.mk [] _ (P.nil (ho nofun)) ((List.append_nil ys).symm ▸ hf _ _ rfl) he ((List.append_nil ys).symm ▸ rfl))
  (fun v hv _ ol he _ _=>vO hv ▸ (gO hv).mpr (pQ.mk [] _ (vD (ol hv)) he rfl))
  (fun v tk dn k ys hv hf ol he ho _=>vO hv ▸ (gO hv).mpr (mM.mk [] _ [] _ (P.nil (ho nofun)) ((List.append_nil ys).symm ▸ hf _ _ rfl) (vD (ol hv)) he (by rw [List.append_nil]; simp only [cZ,List.map_append]; rfl))) hw
theorem aAd {d:Nat} {f:SF} {a:List RT} (hw:Wf f) (hf:c0 f) (hs:mP f a):Res d f a (bJ f) a:=by
 obtain ⟨ol,t,r,rfl,ht,he,ho,hn⟩:=hs
 exact aAc hw hf ol ⟨t,r,rfl,ht,.inr ⟨he,rfl⟩⟩ ho hn
theorem x9 {fd:List PV} {f:SF} {fs:List SF} {a:List RT} {res pend:List PV} (hw:Wf (f.app pend)) (hf:c0 (f.app pend)) (hs:mP (f.app pend) a) (hk:KP fd fs [bJ (f.app pend)] a res):KP fd (f::fs) pend a res :=
 ⟨_,_,aAd hw hf hs,hk⟩
theorem k8 (v:Vb):W v.endW ∈ dN:=rin (kD (p:=fun v=>f4 (W v.endW) dN) (by kernel_rfl) v)
theorem v9 (v:Vb):W v.endW ∈ dG:=rin (kD (p:=fun v=>f4 (W v.endW) dG) (by kernel_rfl) v)
theorem iN {t:RT} (h:t ∈ dN):t ∈ bL:=List.mem_append_right _ h
theorem kS (f:SF) (xs:List PV):(f.app xs).v=f.v∧(f.app xs).tk=f.tk:=by obtain ⟨v,tk,dn,cur⟩:=f; cases cur <;> exact ⟨rfl,rfl⟩
theorem aE2 {fd:List PV} {f:SF} {fs:List SF} {c:List RT} {res pend:List PV} (hw:Wf (f.app pend)) (hf:c0 (f.app pend)) (hol:f.v ≠ .iff→∀ k ∈ f.v.own,OL k (W f.v.endW::c) 0) (hk:KP fd fs [bJ (f.app pend)] c res):KP fd (f::fs) pend (W f.v.endW::c) res:=by
 refine ⟨_,_,?_,hk⟩
 rw [← (kS f pend).1] at hol ⊢
 exact aAc hw hf (fun hv k hk=>hol hv k (List.mem_of_mem_drop hk)) ⟨_,_,rfl,iN (k8 _),.inl ⟨aK.mpr rfl,rfl,rfl⟩⟩ (fun _=>k8 _) (fun _ _=>v9 _)
theorem oJ {α β γ:Type} {f:α→γ} {g:α×β→γ}:∀ {l:List α} {l' : List β},l.map f=(l.zip l').map g→∀ q ∈ l.zip l',f q.1=g q
 | [],_,_,q,hq=>by cases hq
 | _::_,[],_,q,hq=>by cases hq
 | a::l,b::l',h,q,hq=>by
  simp only [List.zip_cons_cons,List.map_cons,List.cons.injEq] at h
  rcases List.mem_cons.mp hq with rfl | hq
  ·exact h.1
  ·exact oJ h.2 q hq
theorem oN {t:RT} {r:List RT} {k:Str} (ht:t ∈ j8) (hk:k ∈ cI):OL k (t::r) 0:=fun m pre p i l=>aJ (aJ (aGn m pre r p i l) k hk) t ht
theorem aGl {q:Nat×List RT} {kj:Str×Nat} {r:List RT} (hq:q ∈ opK.zip ops) (hk:kj ∈ cI.zip (List.range 8)):OL kj.1 (q.2++r) (match Nat.beq kj.2 q.1 with | true=>q.2.length | false=>0):=fun m pre p i l=>aJ (oJ (aGm m pre r p i l) kj hk) q hq
theorem aGj {t:RT} {kj:Str×Nat} {r:List RT} (ht:t ∈ bR) (hk:kj ∈ cI.zip (List.range 8)):OL kj.1 (W wINVALID::t::r) (match Nat.beq kj.2 4 with | true=>1 | false=>0):=fun m pre p i l=>aJ (oJ (aGg m pre r p i l) kj hk) t ht
theorem aGk {t:RT} {kj:Str×Nat} {r:List RT} (ht:t ∈ bR) (hk:kj ∈ cI.zip (List.range 8)):OL kj.1 (W wNOT::W wINVALID::t::r) (match Nat.beq kj.2 5 with | true=>2 | false=>0):=fun m pre p i l=>aJ (oJ (aGh m pre r p i l) kj hk) t ht
noncomputable def aW (j:Nat):Str:=([gP,j7,oX,oZ,j5,j6,l7,o7,l7,eQ][j]?).getD eQ
noncomputable def i4 (j:Nat):Nat:=([0,1,2,3,4,5,6,7,6,8][j]?).getD 8
noncomputable def opTok (j s:Nat):List RT :=
 (([[],[W wNOT],[],[W wNOT],[],[W wNOT],[],[W wNOT],[],[]]:List (List RT))[j]?).getD [] ++
 (match Nat.beq (s % 2) 1 with | true=>(([[W wON],[W wON],[W wAT],[W wAT],[],[],[W wON],[W wON],[W wON],[]]:List (List RT))[j]?).getD [] | false=>[]) ++
 (([[W gV,W kE],[W gV,W kE],[W fH],[W fH],[W wINVALID],[W wINVALID],[W fI],[W fI],[W i9],[W wELSE]]:List (List RT))[j]?).getD [] ++
 (match Nat.beq (s / 2 % 2) 1 with | true=>(([[],[],[],[],[W kF],[W kF],[],[],[],[]]:List (List RT))[j]?).getD [] | false=>[])
theorem aKl {α β:Type} {l:List α} {l' : List β} {i:Nat} {a:α} {b:β} (h1:l[i]? = some a) (h2:l'[i]? = some b):(a,b) ∈ l.zip l' :=
 List.mem_of_getElem? (List.getElem?_zip_eq_some.mpr ⟨h1,h2⟩)
theorem aEZ {k:Str} (hk:k ∈ cI):∃ n,(k,n) ∈ cI.zip (List.range 8):=by
 obtain ⟨i,hi,z1⟩:=List.getElem_of_mem hk; clear hk; subst z1
 exact ⟨i,aKl (List.getElem?_eq_getElem hi) (List.getElem?_range hi)⟩
theorem aGe:∀ a ∈ cI.zip (List.range 8),∀ j ∈ List.range 9,(Nat.beq a.2 (i4 j)=true ↔ a.1=aW j):=by
 have h:((cI.zip (List.range 8)).all fun a=>(List.range 9).all fun j=>(Nat.beq a.2 (i4 j) == sEq a.1 (aW j)))=true:=by kernel_rfl
 intro a ha j hj
 rw [List.all_eq_true] at h
 have:=h a ha
 rw [List.all_eq_true] at this
 have:=eq_of_beq (this j hj)
 rw [this,aK]
structure mL (j:Nat) (h:List RT) (c:List RT):Prop where
 len:1 ≤ h.length∧h.length ≤ 4
 hd:∃ t r,h=t::r∧t ∈ dN∧(j ≠ 9→t ∈ dG)∧∀ v:Vb,sEq t.2 v.endW=false
 ol:∀ k ∈ cI,OL k (h++c) (if k=aW j then h.length else 0)
noncomputable def lS:List (Nat×List RT):=opK.zip ops++[(4,[W wINVALID]),(5,[W wNOT,W wINVALID])]
noncomputable def aGp (j s:Nat):Nat:=(([[0,1,0,1],[2,3,2,3],[4,5,4,5],[6,7,6,7],[16,16,8,8],[17,17,9,9],[10,11,10,11],[12,13,12,13],[14,15,14,15]]:List (List Nat))[j]?.getD [])[s]?.getD 0
theorem aGA {j s:Nat} (hj:j ∈ List.range 9) (hs:s ∈ List.range 4):(i4 j,opTok j s) ∈ lS :=
 List.mem_of_getElem? (aJ (aJ (f:=fun j=>(List.range 4).map fun s=>lS[aGp j s]?) (g:=fun j=>(List.range 4).map fun s=>some (i4 j,opTok j s)) (l:=List.range 9) (by kernel_rfl) j hj) s hs)
theorem aGi {q:Nat×List RT} {kj:Str×Nat} {t:RT} {r:List RT} (hq:q ∈ lS) (ht:t ∈ bR) (hk:kj ∈ cI.zip (List.range 8)):OL kj.1 (q.2++t::r) (match Nat.beq kj.2 q.1 with | true=>q.2.length | false=>0):=by
 rcases List.mem_append.mp hq with hq | hq
 ·exact aGl hq hk
 ·rcases List.mem_cons.mp hq with e | hq
  ·exact e ▸ aGj ht hk
  ·exact List.mem_singleton.mp hq ▸ aGk ht hk
noncomputable def k9:List Str:=vbL.map Vb.endW
theorem v8 (v:Vb):v.endW ∈ k9:=List.mem_map_of_mem (kC v)
noncomputable def hY:List RT:=[W wNOT,W wON,W gV,W wAT,W fH,W wINVALID,W fI,W i9,W wELSE,dot]
theorem rH {t:RT} (ht:t ∈ hY) (v:Vb):sEq t.2 v.endW=false:=by
 have h:(hY.map fun t=>k9.map fun w=>sEq t.2 w)=hY.map fun _=>k9.map fun _=>false:=by kernel_rfl
 exact aJ (aJ h t ht) _ (v8 v)
theorem aKh {t:RT} (ht:t ∈ bR) (v:Vb):sEq t.2 v.endW=false:=by
 have h:(bR.map fun t=>k9.map fun w=>sEq t.2 w)=bR.map fun _=>k9.map fun _=>false:=by kernel_rfl
 exact aJ (aJ h t ht) _ (v8 v)
noncomputable def wZ (j:Nat):List RT→Bool
 | t::_=>f4 t hY && (f4 t dN && (Nat.beq j 9 || f4 t dG))
 | []=>false
theorem sO {j s:Nat} (hj:j < 10) (hs:s < 4):∃ t r,opTok j s=t::r∧t ∈ hY∧t ∈ dN∧(j ≠ 9→t ∈ dG):=by
 have h:wZ j (opTok j s)=true:=aJ (aJ (f:=fun j=>(List.range 4).map fun s=>wZ j (opTok j s)) (g:=fun j=>(List.range 4).map fun _=>true) (l:=List.range 10) (by kernel_rfl) j (List.mem_range.mpr hj)) s (List.mem_range.mpr hs)
 generalize opTok j s=l at h
 cases l with
 | nil=>exact ft h
 | cons t r =>
  obtain ⟨h1,h2⟩:=Bool.and_eq_true_iff.mp h
  obtain ⟨h2,h3⟩:=Bool.and_eq_true_iff.mp h2
  exact ⟨t,r,rfl,rin h1,rin h2,fun hn=>rin ((Bool.or_eq_true_iff.mp h3).resolve_left fun q=>hn (Nat.eq_of_beq_eq_true q))⟩
theorem aGF {q:Nat×List RT} (hq:q ∈ lS):1 ≤ q.2.length∧q.2.length ≤ 4:=by
 obtain ⟨l1,l2⟩:=Bool.and_eq_true_iff.mp (List.all_eq_true.mp (show (lS.all fun q=>Nat.ble 1 q.2.length && Nat.ble q.2.length 4)=true by kernel_rfl) q hq)
 exact ⟨Nat.le_of_ble_eq_true l1,Nat.le_of_ble_eq_true l2⟩
theorem aGf {n j:Nat} {k:Str} {l c:List RT} (h:OL k (l++c) (match Nat.beq n (i4 j) with | true=>l.length | false=>0)) (hi:Nat.beq n (i4 j)=true ↔ k=aW j):OL k (l++c) (if k=aW j then l.length else 0):=by
 by_cases e:k=aW j
 ·rw [hi.mpr e] at h; rw [if_pos e]; exact h
 ·rw [Bool.eq_false_iff.mpr fun q=>e (hi.mp q)] at h; rw [if_neg e]; exact h
theorem zG {j s:Nat} (hj:j < 9) (hs:s < 4) {c:List RT} (hc:cM c):mL j (opTok j s) c:=by
 obtain ⟨t,r,h1,h2,h3,h4⟩:=sO (Nat.lt_succ_of_lt hj) hs
 obtain ⟨t',c',hc',ht'⟩:=hc
 have h9:j ∈ List.range 9:=List.mem_range.mpr hj
 have hq:=aGA h9 (List.mem_range.mpr hs)
 generalize opTok j s=l at h1 hq
 refine ⟨aGF hq,⟨t,r,h1,h3,h4,rH h2⟩,fun k hk=>?_⟩
 obtain ⟨n,hn⟩:=aEZ hk
 subst hc'
 exact aGf (n:=n) (j:=j) (aGi (q:=(i4 j,l)) (kj:=(k,n)) hq ht' hn) (aGe (k,n) hn j h9)
theorem jZ {v:Vb} (hv:v ≠ .iff):v.own=v.keys∧∀ k ∈ v.own,k ∈ cI:=by
 rw [zK hv]
 refine ⟨rfl,fun k hk=>?_⟩
 obtain ⟨x,hx,e⟩:=List.any_eq_true.mp (List.all_eq_true.mp (kD (p:=fun v=>v.keys.all fun k=>cI.any fun x=>sEq x k) (by kernel_rfl) v) k hk)
 exact aK.mp e ▸ hx
noncomputable def bE (f:SF) (key:Str):Bool:=(f.v.own.drop f.tk).any fun k=>sEq k key
noncomputable def a7:List SF→Str→Nat
 | [],_=>0
 | f::fs,key=>match bE f key with
  | true=>fs.length + 1
  | false=>a7 fs key
noncomputable def aV (many:Nat) (fd:List PV):List SF→List PV→List PV×List SF
 | [],pend=>(fd++pend,[])
 | f::fs,pend=>match Nat.blt fs.length many with
  | true=>(fd,f.app pend::fs)
  | false=>aV many fd fs [bJ (f.app pend)]
noncomputable def dD (v w:Vb):Bool:=sEq v.name w.name
noncomputable def cA:List SF→Vb→Nat
 | [],_=>0
 | f::fs,v=>match dD f.v v with
  | true=>fs.length
  | false=>cA fs v
theorem jW {v w:Vb}:dD v w=true ↔ v=w:=by
 constructor
 ·intro h
  have e:∀ v:Vb,look v.name (vbL.map fun v=>(v.name,v))=some v:=fun v=>aJ (f:=fun v=>look v.name (vbL.map fun v=>(v.name,v))) (g:=some) (l:=vbL) (by kernel_rfl) v (kC v)
  exact (Option.some.inj ((e v).symm.trans (aK.mp h ▸ e w)))
 ·rintro rfl; exact aK.mpr rfl
theorem gA {f:SF} {xs:List PV} (h:Wf f):Wf (f.app xs) :=
 kG (P:=fun f=>Wf (f.app xs)) (fun _=>.inl ⟨_,rfl⟩) (fun _ _=>.inr ⟨_,_,rfl⟩) (fun _ hv=>(mH hv).mpr fun _=>⟨rfl,rfl⟩) (fun _ _ _ _ _ hv=>(mH hv).mpr nofun) h
theorem kR {f:SF} {x:PV}:c0 (f.app [x]):=by
 obtain ⟨v,tk,dn,cur⟩:=f
 cases cur with
 | none=>exact nofun
 | some q=>exact fun k ys e=>by cases e; exact List.append_ne_nil_of_right_ne_nil _ nofun
structure kO (f:SF) (a:List RT):Prop where
 ol:f.v ≠ .iff→∀ k ∈ f.v.own.drop f.tk,OL k a 0
 hd:∃ t r,a=t::r∧t ∈ bL∧sEq t.2 f.v.endW=false∧t ∈ dN∧(f.v = .iff→f.tk=1→t ∈ dG)
theorem kO.app {f:SF} {a:List RT} (h:kO f a) (xs:List PV):mP (f.app xs) a:=by
 obtain ⟨h1,t,r,h2,h3,h4,h5,h6⟩:=h
 obtain ⟨e1,e2⟩:=kS f xs
 exact ⟨by rw [e1,e2]; exact h1,t,r,h2,h3,by rw [e1]; exact h4,fun _=>h5,by rw [e1,e2]; exact h6⟩
theorem rW {fd:List PV} {pend:List PV} {a:List RT} {res:List PV} (h:KP (fd++pend) [] [] a res):KP fd [] pend a res:=by
 obtain ⟨ts,h1,h2⟩:=h
 exact ⟨ts,h1,by simpa using h2⟩
theorem rV {fd:List PV} {f:SF} {fs:List SF} {pend:List PV} {a:List RT} {res:List PV} (h:KP fd (f.app pend::fs) [] a res):KP fd (f::fs) pend a res:=by
 obtain ⟨t,c,h1,h2⟩:=h
 rw [eV] at h1
 exact ⟨t,c,h1,h2⟩
theorem aB0 {m n:Nat} (h:m ≤ n):Nat.blt n m=false:=Bool.eq_false_iff.mpr fun q=>Nat.not_le.mpr (Nat.le_of_ble_eq_true q) h
theorem aB1 {m n:Nat} (h:n < m):Nat.blt n m=true:=Nat.ble_eq_true_of_le h
theorem iJ {many:Nat} {fd:List PV} {f:SF} {fs:List SF} {pend:List PV} (h:many ≤ fs.length):aV many fd (f::fs) pend=aV many fd fs [bJ (f.app pend)]:=by
 show (match Nat.blt fs.length many with | true=>(fd,f.app pend::fs) | false=>aV many fd fs [bJ (f.app pend)])=_
 rw [aB0 h]
theorem nB {many:Nat} {fd:List PV} {f:SF} {fs:List SF} {pend:List PV} (h:fs.length < many):aV many fd (f::fs) pend=(fd,f.app pend::fs):=by
 show (match Nat.blt fs.length many with | true=>(fd,f.app pend::fs) | false=>aV many fd fs [bJ (f.app pend)])=_
 rw [aB1 h]
theorem xX {fd:List PV} {many:Nat} {a:List RT} {res:List PV} {fs:List SF}:∀ {pend:List PV},(∀ f ∈ fs,Wf f)→(∀ f ∈ fs.take (fs.length - many),kO f a)→(∀ f r,fs=f::r→c0 (f.app pend)) →
 KP (aV many fd fs pend).1 (aV many fd fs pend).2 [] a res→KP fd fs pend a res:=by
 induction fs with
 | nil=>exact fun _ _ _ hk=>rW hk
 | cons f fs ih =>
  intro pend hw hs hf hk
  rcases Nat.lt_or_ge fs.length many with hb | hb
  ·rw [nB hb] at hk; exact rV hk
  ·rw [iJ hb] at hk
   rw [show (f::fs).length - many=(fs.length - many) + 1 from Nat.succ_sub hb] at hs
   exact x9 (gA (hw f (.head _))) (hf f fs rfl) ((hs f (.head _)).app pend) (ih (fun g hg=>hw g (.tail _ hg)) (fun g hg=>hs g (.tail _ hg)) (fun g r _=>kR) hk)
theorem tQ {g:SF} {fs:List SF} {key:Str} (h:bE g key=true):a7 (g::fs) key=fs.length + 1:=by show (match bE g key with | true=>fs.length + 1 | false=>a7 fs key)=_; rw [h]
theorem tP {g:SF} {fs:List SF} {key:Str} (h:bE g key=false):a7 (g::fs) key=a7 fs key:=by show (match bE g key with | true=>fs.length + 1 | false=>a7 fs key)=_; rw [h]
theorem pE {key:Str}:∀ fs:List SF,a7 fs key ≤ fs.length
 | []=>Nat.le_refl _
 | h::fs=>by
  refine boolF (b:=bE h key) (fun hc=>?_) fun hc=>?_
  ·rw [tP hc]; exact Nat.le_succ_of_le (pE fs)
  ·rw [tQ hc]; exact Nat.le_refl _
theorem aJu {fs:List SF} {key:Str}:∀ f ∈ fs.take (fs.length - a7 fs key),bE f key=false:=by
 induction fs with
 | nil=>intro f hf; cases hf
 | cons g fs ih =>
  intro f hf
  refine boolF (b:=bE g key) (fun hc=>?_) fun hc=>?_
  ·rw [tP hc,show (g::fs).length - a7 fs key=(fs.length - a7 fs key) + 1 from Nat.succ_sub (pE fs)] at hf
   rcases List.mem_cons.mp hf with e | hf
   ·exact e ▸ hc
   ·exact ih f hf
  ·rw [tQ hc,show (g::fs).length - (fs.length + 1)=0 from Nat.sub_self _] at hf; cases hf
inductive Tak (key:Str) (fd:List PV) (fs:List SF) (pend:List PV) (q:List PV×List SF):Prop
 | mk (f:SF) (fs' : List SF) (pend' : List PV) (h1:q=(fd,f.app pend'::fs')) (h2:bE f key=true) (h3:f ∈ fs) (h4:fs' <:+ fs) (h5:fs'.length < fs.length) (h6:pend' = pend∧fs=f::fs'∨∃ x,pend' = [x])
theorem vN {fd:List PV} {key:Str} {fs:List SF}:∀ {pend:List PV},0 < a7 fs key→Tak key fd fs pend (aV (a7 fs key) fd fs pend):=by
 induction fs with
 | nil=>exact fun h=>absurd h (Nat.lt_irrefl 0)
 | cons g fs ih =>
  intro pend h
  refine boolF (b:=bE g key) (fun hc=>?_) fun hc=>?_
  ·rw [tP hc] at h ⊢
   rw [iJ (pE fs)]
   obtain ⟨f,fs',pend',h1,h2,h3,h4,h5,h6⟩:=ih (pend:=[bJ (g.app pend)]) h
   exact ⟨f,fs',pend',h1,h2,.tail _ h3,h4.trans (List.suffix_cons g fs),Nat.lt_succ_of_lt h5,.inr (h6.elim (fun h=>⟨_,h.1⟩) id)⟩
  ·rw [tQ hc,nB (Nat.lt_succ_self _)]
   exact ⟨g,fs,pend,rfl,hc,.head _,List.suffix_cons g fs,Nat.lt_succ_self _,.inl ⟨rfl,rfl⟩⟩
noncomputable def kIdx (key:Str):List Str→Nat
 | []=>0
 | k::r=>match sEq k key with
  | true=>0
  | false=>kIdx key r + 1
noncomputable def gQ (f:SF) (key:Str):SF:=⟨f.v,kIdx key f.v.own + 1,f.brs,some (key,[])⟩
theorem aCh {d:Nat} {k:Str} {ks2:List Str} {a b:List RT} {brs:List PV} {ks1:List Str} (ho:∀ k' ∈ ks1,OL k' a 0) (h:P (.brs (k::ks2)) d a brs b):P (.brs (ks1++k::ks2)) d a brs b:=by
 induction ks1 with
 | nil=>exact h
 | cons x ks1 ih=>exact P.brsS (ho x (.head _)) (ih fun k' hk=>ho k' (.tail _ hk))
theorem aFY {l:List Str}:noDup l=true→l.Nodup:=by
 induction l with
 | nil=>exact fun _=>.nil
 | cons x l ih =>
  intro h
  refine boolF (b:=l.any (fun y=>sEq y x)) (fun q=>?_) fun q=>?_
  ·exact List.nodup_cons.mpr ⟨fun hm=>List.any_eq_false.mp q x hm (aK.mpr rfl),ih (by have h:=(show (match l.any (fun y=>sEq y x) with | true=>false | false=>noDup l)=true from h); rw [q] at h; exact h)⟩
  ·have h:=(show (match l.any (fun y=>sEq y x) with | true=>false | false=>noDup l)=true from h); rw [q] at h; exact ft h
theorem aIx {key:Str} {l:List Str}:∀ {tk:Nat},l.Nodup→key ∈ l.drop tk→∃ ks1,l.drop tk=ks1++key::l.drop (kIdx key l + 1)∧key ∉ ks1:=by
 induction l with
 | nil=>intro tk _ h; rw [List.drop_nil] at h; cases h
 | cons x l ih =>
  intro tk hn h
  have hn':=List.nodup_cons.mp hn
  clear hn; refine boolF (b:=sEq x key) (fun hx=>?_) fun hx=>?_
  ·have ek:kIdx key (x::l)=kIdx key l + 1:=by show (match sEq x key with | true=>0 | false=>kIdx key l + 1)=_; rw [hx]
   rw [ek]
   cases tk with
   | zero =>
    have hne:key ≠ x:=fun e=>by rw [aK.mpr e.symm] at hx; exact tf hx
    obtain ⟨ks1,h1,h2⟩:=ih (tk:=0) hn'.2 ((List.mem_cons.mp h).resolve_left hne)
    exact ⟨x::ks1,congrArg (x::·) h1,fun hm=>(List.mem_cons.mp hm).elim hne h2⟩
   | succ tk=>exact ih (tk:=tk) hn'.2 h
  ·have e:=aK.mp hx
   clear ih; subst e
   cases tk with
   | zero=>exact ⟨[],by show _=_::List.drop ((match sEq x x with | true=>0 | false=>kIdx x l + 1) + 1) (x::l); rw [hx]; rfl,fun h=>nomatch h⟩
   | succ tk=>exact absurd (List.mem_of_mem_drop (l:=l) h) hn'.1
theorem aGK {v:Vb} {tk:Nat} {key:Str} (h:((v.own.drop tk).any fun k=>sEq k key)=true):∃ ks1,v.own.drop tk=ks1++key::v.own.drop (kIdx key v.own + 1)∧key ∉ ks1:=by
 obtain ⟨y,hy,e⟩:=List.any_eq_true.mp h
 exact aIx (aFY (kD (p:=fun v=>noDup v.own) (by kernel_rfl) v)) (aK.mp e ▸ hy)
theorem aJp {f:SF} {key:Str} (hw:Wf f):bE f key=true→Wf (gQ f key) :=
 kG (P:=fun f=>bE f key=true→Wf (gQ f key)) (fun ys hc=>by
  have e:eQ=key:=aK.mp ((Bool.or_false _).symm.trans hc)
  clear hc; subst e
  exact .inr ⟨ys,[],by kernel_rfl⟩)
  (fun _ _ hc=>ft hc) (fun _ hv _=>(mH hv).mpr nofun) (fun _ _ _ _ _ hv _=>(mH hv).mpr nofun) hw
theorem aAy {d:Nat} {v:Vb} {tk j:Nat} {h c:List RT} {zs:List PV} {b:List RT} {brs:List PV} {b' : List RT} (hv:v ≠ .iff) (hop:mL j h c) (hc:((v.own.drop tk).any fun k=>sEq k (aW j))=true) (q1:P .body (d + 1) c zs b) (q2:zs ≠ [])
 (q3:P (.brs (v.own.drop (kIdx (aW j) v.own + 1))) d b brs b'):P (.brs (v.own.drop tk)) d (h++c) (brT (aW j) zs::brs) b':=by
 obtain ⟨ks1,hs1,hs2⟩:=aGK hc
 have hin:∀ k ∈ v.own.drop tk,OL k (h++c) (if k=aW j then h.length else 0):=fun k hk=>hop.ol k ((jZ hv).2 k (List.mem_of_mem_drop hk))
 rw [hs1] at hin ⊢
 exact aCh (fun k hk=>(if_neg (fun e:k=aW j=>hs2 (e ▸ hk)):(if k=aW j then h.length else 0)=0) ▸ hin k (List.mem_append_left _ hk)) (P.brsT hop.len.1 hop.len.2 ((if_pos rfl:(if aW j=aW j then h.length else 0)=h.length) ▸ hin _ (List.mem_append_right _ (.head _))) q1 q2 q3)
theorem aGa {j:Nat} (hj:j < 9):aW j ≠ eQ:=fun e=>by
 have h:=aJ (f:=fun j=>sEq (aW j) eQ) (g:=fun _=>false) (l:=List.range 9) (by kernel_rfl) j (List.mem_range.mpr hj)
 rw [aK.mpr e] at h; exact tf h
def kM (f:SF) (j:Nat) (h c:List RT):Prop:=(j < 9∧mL j h c)∨(f.v = .iff∧j=9∧h=[W wELSE]∧cM c)
theorem kM.op {f:SF} {j:Nat} {h c:List RT} (ho:kM f j h c) (hv:f.v ≠ .iff):mL j h c:=ho.elim (fun h=>h.2) fun h=>absurd h.1 hv
theorem aHO {d:Nat} {f:SF} {j:Nat} {h c c' : List RT} {t:PV} (hw:Wf f):c0 f→bE f (aW j)=true→kM f j h c→Res d (gQ f (aW j)) c t c'→Res d f (h++c) t c' :=
 kG (P:=fun f=>c0 f→bE f (aW j)=true→kM f j h c→Res d (gQ f (aW j)) c t c'→Res d f (h++c) t c')
  (fun ys hf hc ho hr=>by
   have e:eQ=aW j:=aK.mp ((Bool.or_false _).symm.trans hc)
   clear hc; rcases ho with ⟨hj,_⟩ | ⟨_,rfl,rfl,_⟩
   ·exact absurd e.symm (aGa hj)
   ·obtain ⟨zs,b,q1,q2,q3,q4⟩:=(hr:mN d ys [] c t c')
    exact kN.two [] c zs b (P.nil (rin (by kernel_rfl))) ((List.append_nil ys).symm ▸ hf _ _ rfl) q1 q2 q3 ((List.append_nil ys).symm ▸ q4))
  (fun _ _ _ hc _ _=>ft hc)
  (fun v hv hf hc ho hr=>by
   obtain ⟨zs,b,brs,b',q1,q2,q3,q4,q5⟩:=(gO hv).mp hr
   exact (gO hv).mpr (pQ.mk _ _ (aAy hv (ho.op hv) hc q1 q2 q3) q4 q5))
  (fun v tk dn k ys hv hf hc ho hr=>by
   obtain ⟨zs,b,brs,b',q1,q2,q3,q4,q5⟩:=(gO hv).mp hr
   obtain ⟨x,r,hh,hx,_⟩:=(ho.op hv).hd
   exact (gO hv).mpr (mM.mk [] _ _ _ (hh ▸ P.nil hx) ((List.append_nil ys).symm ▸ hf _ _ rfl) (aAy hv (ho.op hv) hc q1 q2 q3) q4 (by rw [q5,List.append_nil]; simp only [cZ,SF.brs,List.map_append,List.append_assoc]; rfl))) hw
theorem aE6 {fd:List PV} {f:SF} {fs:List SF} {j:Nat} {h c:List RT} {res:List PV} (hw:Wf f) (hf:c0 f) (hc:bE f (aW j)=true) (ho:kM f j h c)
 (hk:KP fd (gQ f (aW j)::fs) [] c res):KP fd (f::fs) [] (h++c) res:=by
 obtain ⟨t,c',h1,h2⟩:=hk
 rw [eV] at h1
 exact ⟨t,c',(eV f).symm ▸ aHO hw hf hc ho h1,h2⟩
theorem aKt {t:RT} (h:t ∈ hY) (hn:t ≠ W wELSE):t ∈ dG:=by
 have q:=List.all_eq_true.mp (show (hY.all fun t=>f4 t [W wELSE] || f4 t dG)=true by kernel_rfl) t h
 exact (Bool.or_eq_true_iff.mp q).elim (fun q=>absurd (List.mem_singleton.mp (rin q)) hn) rin
theorem xJ {f:SF} {fs:List SF} {v:Vb} (h:dD f.v v=true):cA (f::fs) v=fs.length:=by show (match dD f.v v with | true=>fs.length | false=>cA fs v)=_; rw [h]
theorem xI {f:SF} {fs:List SF} {v:Vb} (h:dD f.v v=false):cA (f::fs) v=cA fs v:=by show (match dD f.v v with | true=>fs.length | false=>cA fs v)=_; rw [h]
theorem xH {v:Vb}:∀ fs:List SF,cA fs v ≤ fs.length
 | []=>Nat.le_refl _
 | h::fs=>by
  refine boolF (b:=dD h.v v) (fun hc=>?_) fun hc=>?_
  ·rw [xI hc]; exact Nat.le_succ_of_le (xH fs)
  ·rw [xJ hc]; exact Nat.le_succ _
theorem aDD (v:Vb):W v.endW ∈ j8:=rin (kD (p:=fun v=>f4 (W v.endW) j8) (by kernel_rfl) v)
theorem aDC (x y:Vb):sEq x.endW y.endW=dD y x:=aJ (aJ (f:=fun x=>vbL.map fun y=>sEq x.endW y.endW) (g:=fun x=>vbL.map fun y=>dD y x) (l:=vbL) (by kernel_rfl) x (kC x)) y (kC y)
theorem zD {v w:Vb} {c:List RT} {k:Str} (hv:v ≠ .iff) (hk:k ∈ v.own):OL k (W w.endW::c) 0:=oN (aDD w) ((jZ hv).2 k hk)
theorem aE3 {fd:List PV} {v:Vb} {c:List RT} {res:List PV} {fs:List SF}:∀ {pend:List PV},(∀ f ∈ fs,Wf f)→(∀ f r,fs=f::r→c0 (f.app pend))→(∃ f ∈ fs,f.v=v) →
 KP (aV (cA fs v) fd fs pend).1 (aV (cA fs v) fd fs pend).2 [] c res→KP fd fs pend (W v.endW::c) res:=by
 induction fs with
 | nil=>exact fun _ _ h _=>let ⟨_,hf,_⟩:=h; nomatch hf
 | cons f fs ih =>
  intro pend hw hf hv hk
  refine boolF (b:=dD f.v v) (fun hb=>?_) fun hb=>?_
  ·rw [xI hb,iJ (xH fs)] at hk
   have hv' : ∃ g ∈ fs,g.v=v:=by
    obtain ⟨g,hg,e⟩:=hv
    exact (List.mem_cons.mp hg).elim (fun q=>by rw [jW.mpr (q ▸ e)] at hb; exact tf hb) fun hg=>⟨g,hg,e⟩
   exact x9 (gA (hw f (.head _))) (hf f fs rfl) (kO.app ⟨fun hv k hk=>zD hv (List.mem_of_mem_drop hk),_,_,rfl,iN (k8 v),(aDC v f.v).trans hb,k8 v,fun _ _=>v9 v⟩ pend) (ih (fun g hg=>hw g (.tail _ hg)) (fun g r _=>kR) hv' hk)
  ·have:=jW.mp hb
   clear ih hv; subst this
   rw [xJ hb,iJ (Nat.le_refl _)] at hk
   refine aE2 (gA (hw f (.head _))) (hf f fs rfl) (fun hv k hk=>zD hv hk) ?_
   clear hw hf; cases fs with
   | nil=>exact rW hk
   | cons g gs=>rw [nB (show gs.length < (g::gs).length from Nat.lt_succ_self _)] at hk; exact rV hk
structure MS where
 toks:List RT
 fd:List PV
 fs:List SF
 due:Bool
noncomputable def eK:Nat→Option Vb
 | 1=>some .add
 | 2=>some .sub
 | 3=>some .rd
 | 4=>some .del
 | 5=>some .call
 | 6=>some .iff
 | _=>none
noncomputable def cF (r:Nat):List RT:=match eK r with
 | none=>[W wCONTINUE]
 | some v=>v.hdr
noncomputable def bZ (fd:List PV) (fs:List SF) (x:PV):List PV×List SF:=match fs with
 | []=>(fd++[x],[])
 | f::fs=>(fd,f.app [x]::fs)
noncomputable def a9 (fd:List PV) (fs:List SF):List PV×List SF:=match fs with
 | []=>(fd,[])
 | f::r=>match f.cur with
  | none=>bZ fd r (bJ f)
  | some _=>(fd,fs)
noncomputable def cQ (fd:List PV) (fs:List SF) (r:Nat):List PV×List SF:=match eK r with
 | none=>bZ (a9 fd fs).1 (a9 fd fs).2 eF
 | some v=>((a9 fd fs).1,newF v::(a9 fd fs).2)
noncomputable def openM (M:MS) (r:Nat):MS:=⟨M.toks++cF r,(cQ M.fd M.fs r).1,(cQ M.fd M.fs r).2,Nat.beq r 6⟩
noncomputable def iD (fd:List PV) (fs:List SF) (key:Str):List PV×List SF:=match aV (a7 fs key) fd fs [] with
 | (fd',f::fs')=>(fd',gQ f key::fs')
 | q=>q
noncomputable def f5 (M:MS) (j s:Nat):MS:=⟨M.toks++opTok j s,(iD M.fd M.fs (aW j)).1,(iD M.fd M.fs (aW j)).2,true⟩
noncomputable def gD (M:MS) (v:Vb):MS:=⟨M.toks++[W v.endW],(aV (cA M.fs v) M.fd M.fs []).1,(aV (cA M.fs v) M.fd M.fs []).2,false⟩
theorem xZ {fd:List PV} {fs:List SF} {x:PV} {a:List RT} {res:List PV} (h:KP (bZ fd fs x).1 (bZ fd fs x).2 [] a res):KP fd fs [x] a res:=by
 cases fs with
 | nil=>exact rW h
 | cons f fs=>exact rV h
def t8 (due:Bool) (c:List RT):Prop:=match due with
 | true=>cM c
 | false=>gW c
theorem cM.foll {c:List RT} (h:cM c):gW c:=by
 obtain ⟨t,r,h1,h2⟩:=h
 exact ⟨t,r,h1,List.mem_append_left _ h2⟩
theorem cM.ok {c:List RT} (h:cM c) (d:Bool):t8 d c:=by
 cases d
 ·exact h.foll
 ·exact h
structure c8 (M:MS):Prop where
 len:M.fs.length ≤ 8
 wf:∀ f ∈ M.fs,Wf f
 tail:∀ f r,M.fs=f::r→∀ g ∈ r,g.cur ≠ none
 due:M.due=true→M.fs=[]∨∃ f r k,M.fs=f::r∧f.cur=some (k,[])
 nd:M.due=false→∀ f r,M.fs=f::r→c0 f
 good:∀ c res,t8 M.due c→KP M.fd M.fs [] c res→KP [] [] [] (M.toks++c) res
theorem aEq {f:SF} (hw:Wf f):f.v = .iff→f.cur ≠ none:=kG (P:=fun f=>f.v = .iff→f.cur ≠ none) (fun _ _=>nofun) (fun _ _ _=>nofun) (fun _ hv q=>absurd q hv) (fun _ _ _ _ _ _ _=>nofun) hw
theorem aE5 {fd:List PV} {f:SF} {fs:List SF} {a:List RT} {res:List PV} (hw:Wf f) (hf:c0 f) (hs:mP f a) (hk:KP fd fs [bJ f] a res):KP fd (f::fs) [] a res :=
 ⟨_,_,(eV f).symm ▸ aAd hw hf hs,hk⟩
section
variable {fd:List PV} {fs:List SF} {x:PV}
theorem sX:(bZ fd fs x).2.length=fs.length:=by cases fs <;> rfl
theorem lX {p:SF→Prop} (hp:∀ f,p f→p (f.app [x])) (h:∀ f ∈ fs,p f):∀ f ∈ (bZ fd fs x).2,p f:=by
 cases fs with
 | nil=>exact h
 | cons g r=>exact fun f hf=>(List.mem_cons.mp hf).elim (fun e=>e ▸ hp g (h g (.head _))) fun hf=>h f (.tail _ hf)
theorem aHg {f:SF} {r:List SF} (h:(bZ fd fs x).2=f::r):c0 f:=by
 cases fs with
 | nil=>exact nomatch h
 | cons g gs=>exact (List.cons.inj h).1 ▸ kR
end
theorem aHb {fd:List PV} {f:SF} {r:List SF} (h:f.cur=none):a9 fd (f::r)=bZ fd r (bJ f):=by unfold a9; simp only [h]
theorem aHd {fd:List PV} {f:SF} {r:List SF} {q:Str×List PV} (h:f.cur=some q):a9 fd (f::r)=(fd,f::r):=by unfold a9; simp only [h]
inductive aA9 (fd:List PV) (fs:List SF) (q:List PV×List SF):Prop
 | mk (h1:q.2.length ≤ fs.length) (h2:∀ f ∈ q.2,Wf f∧f.cur ≠ none) (h4:∀ c res,cM c→KP q.1 q.2 [] c res→KP fd fs [] c res)
theorem zY {fd:List PV} {fs:List SF} (hw:∀ f ∈ fs,Wf f) (ht:∀ f r,fs=f::r→∀ g ∈ r,g.cur ≠ none):aA9 fd fs (a9 fd fs):=by
 cases fs with
 | nil=>exact ⟨Nat.le_refl _,fun _ h=>nil_mem h,fun _ _ _ h=>h⟩
 | cons f r =>
  have hr:∀ g ∈ r,Wf g∧g.cur ≠ none:=fun g hg=>⟨hw g (.tail _ hg),ht f r rfl g hg⟩
  have hf:=hw f (.head _)
  refine optE (o:=f.cur) (fun hc=>?_) fun q hc=>?_
  ·have hfi:f.v ≠ .iff:=fun q=>aEq hf q hc
   rw [aHb hc]
   refine ⟨Nat.le_trans (Nat.le_of_eq sX) (Nat.le_succ _),lX (fun f h=>⟨gA h.1,pZ h.2⟩) hr,fun c res hv h=>?_⟩
   obtain ⟨t,c',rfl,ht'⟩:=hv
   exact aE5 hf (fun k ys q=>nx (hc.symm.trans q)) ⟨fun _ k hk=>oN (List.mem_append_left _ ht') ((jZ hfi).2 k (List.mem_of_mem_drop hk)),t,c',rfl,List.mem_append_left _ ht',aKh ht' _,fun q=>absurd hc q,fun q=>absurd q hfi⟩ (xZ h)
  ·rw [aHd hc]
   exact ⟨Nat.le_refl _,fun g hg=>(List.mem_cons.mp hg).elim (fun e=>e ▸ ⟨hf,fun q=>nx (q.symm.trans hc)⟩) (hr g),fun _ _ _ h=>h⟩
theorem aAh (r:Nat) (c:List RT):cM (cF r++c):=by
 unfold cF
 cases h:eK r with
 | none=>exact ⟨_,_,rfl,.head _⟩
 | some v=>exact wY v c
theorem aF4 (v:Vb):Wf (newF v):=by
 cases v with
 | iff=>exact .inl ⟨_,rfl⟩
 | _=>exact fun _=>⟨rfl,rfl⟩
theorem aAP {r:Nat}:Nat.beq r 6=true ↔ eK r=some .iff:=by
 constructor
 ·intro h; rw [Nat.eq_of_beq_eq_true h]; rfl
 ·intro h
  rcases Nat.lt_or_ge r 7 with q | q
  ·exact List.all_eq_true.mp (show ((List.range 7).all fun r=>match eK r with | some .iff=>Nat.beq r 6 | _=>true)=true by kernel_rfl) r (List.mem_range.mpr q) |> fun z=>by rw [h] at z; exact z
  ·rw [← eR q] at h; exact nx h
theorem aGD {M:MS} {r:Nat} (h:eK r=none):openM M r=⟨M.toks++cF r,(bZ (a9 M.fd M.fs).1 (a9 M.fd M.fs).2 eF).1,(bZ (a9 M.fd M.fs).1 (a9 M.fd M.fs).2 eF).2,Nat.beq r 6⟩:=by unfold openM cQ; simp only [h]
theorem aGE {M:MS} {r:Nat} {v:Vb} (h:eK r=some v):openM M r=⟨M.toks++cF r,(a9 M.fd M.fs).1,newF v::(a9 M.fd M.fs).2,Nat.beq r 6⟩:=by unfold openM cQ; simp only [h]
theorem aF1 {v:Vb} (hv:v ≠ .iff):c0 (newF v):=yO hv ▸ nofun
theorem aF2 {v:Vb} (hv:v = .iff):(newF v).cur=some (s_then,[]):=hv ▸ rfl
theorem zH {M:MS} (I:c8 M) {r:Nat} (h8:M.fs.length < 8∨r=0):c8 (openM M r):=by
 obtain ⟨p1,p2,p4⟩:=zY (fd:=M.fd) I.wf I.tail
 have hcur:hM (a9 M.fd M.fs).2:=by
  cases h:(a9 M.fd M.fs).2 with
  | nil=>trivial
  | cons f fs=>exact (p2 f (h ▸ .head _)).2
 have hl8:=Nat.le_trans p1 I.len
 have hlen:(a9 M.fd M.fs).2.length < 13:=Nat.lt_of_le_of_lt hl8 (by decide)
 have good:∀ c res,KP (a9 M.fd M.fs).1 (a9 M.fd M.fs).2 [] (cF r++c) res→KP [] [] [] (M.toks++cF r++c) res:=fun c res hk =>
  (List.append_assoc _ _ _).symm ▸ I.good _ _ ((aAh r c).ok _) (p4 _ _ (aAh r c) hk)
 refine optE (o:=eK r) (fun hr=>?_) fun v hr=>?_
 ·have hd:Nat.beq r 6=false:=Bool.eq_false_iff.mpr fun q=>nx (hr.symm.trans (aAP.mp q))
  rw [aGD hr,hd]
  have ht:cF r=[W wCONTINUE]:=by unfold cF; rw [hr]
  exact ⟨Nat.le_trans (Nat.le_of_eq sX) hl8,lX (fun f h=>gA h) fun f hf=>(p2 f hf).1,
   fun f fs' he g hg=>lX (p:=fun f=>f.cur ≠ none) (fun f h=>pZ h) (fun f hf=>(p2 f hf).2) g ((he:(bZ (a9 M.fd M.fs).1 (a9 M.fd M.fs).2 eF).2=f::fs').symm ▸ List.mem_cons_of_mem f hg),fun e=>ft e,fun _ f fs' he=>aHg he,fun c res _ hk=>good c res (ht ▸ aE1 hcur hlen (xZ hk))⟩
 ·have h8' : M.fs.length < 8:=h8.resolve_right fun q=>sn (hr.symm.trans (q ▸ rfl))
  have hd:Nat.beq r 6=true ↔ v = .iff:=aAP.trans ⟨fun q=>Option.some.inj (hr.symm.trans q),fun q=>q ▸ hr⟩
  have ht:cF r=v.hdr:=by unfold cF; rw [hr]
  rw [aGE hr]
  refine ⟨Nat.succ_le_of_lt (Nat.lt_of_le_of_lt p1 h8'),fun f hf=>(List.mem_cons.mp hf).elim (fun e=>e ▸ aF4 v) fun hf=>(p2 f hf).1,fun f fs' he g hg=>(p2 g ((List.cons.inj he).2.symm ▸ hg)).2,
   fun hdue=>.inr ⟨_,_,s_then,rfl,aF2 (hd.mp hdue)⟩,fun hdue f fs' he=>(List.cons.inj he).1 ▸ aF1 fun q=>tf ((hd.mpr q).symm.trans hdue),fun c res hh hk=>good c res (ht ▸ aE4 hcur hlen (fun hv=>?_) (fun hv=>?_) hk)⟩
  ·rw [show Nat.beq r 6=false from Bool.eq_false_iff.mpr fun q=>hv (hd.mp q)] at hh; exact hh
  ·rw [hd.mpr hv] at hh; exact hh
inductive mO (fs:List SF) (pend:List PV):List SF→Prop
 | nil:mO fs pend []
 | cons (g:SF) (gs:List SF) (p:List PV) (h1:(g::gs) <:+ fs) (h2:(p=pend∧fs=g::gs)∨∃ x,p=[x]):mO fs pend (g.app p::gs)
theorem aCP {many:Nat} {fd:List PV} {fs:List SF}:∀ {pend:List PV},mO fs pend (aV many fd fs pend).2:=by
 induction fs with
 | nil=>exact .nil
 | cons f fs ih =>
  intro pend
  rcases Nat.lt_or_ge fs.length many with hb | hb
  ·rw [nB hb]; exact .cons f fs pend (List.suffix_refl _) (.inl ⟨rfl,rfl⟩)
  ·rw [iJ hb]
   have h:=ih (pend:=[bJ (f.app pend)])
   generalize (aV many fd fs [bJ (f.app pend)]).2=l at h
   cases h with
   | nil=>exact .nil
   | cons g gs p h1 h2=>exact .cons g gs p (h1.trans (List.suffix_cons f fs)) (.inr (h2.elim (fun h=>⟨_,h.1⟩) id))
theorem aCR {fd:List PV} {fs:List SF}:∀ {pend:List PV},(aV 0 fd fs pend).2=[]:=by
 induction fs with
 | nil=>exact rfl
 | cons f fs ih=>intro pend; rw [iJ (Nat.zero_le _)]; exact ih
theorem vI (f:SF) (xs:List PV) (k:Str):bE (f.app xs) k=bE f k:=by
 unfold bE
 rw [(kS f xs).1,(kS f xs).2]
theorem lH {f:SF} (h:c0 f):c0 (f.app []):=(eV f).symm ▸ h
theorem aCy {f:SF} (h:bE f eQ=true):f.v = .iff:=by
 apply Classical.byContradiction
 intro hv
 obtain ⟨k,hk,e⟩:=List.any_eq_true.mp h
 have hn:=aJ (f:=fun k=>sEq k eQ) (g:=fun _=>false) (l:=cI) (by kernel_rfl) k ((jZ hv).2 k (List.mem_of_mem_drop hk))
 exact tf (e.symm.trans hn)
theorem zE (s:Nat):opTok 9 s=[W wELSE]:=by
 unfold opTok
 cases Nat.beq (s % 2) 1 <;> cases Nat.beq (s / 2 % 2) 1 <;> rfl
theorem aGB {f:SF} {j s:Nat} (hj:j < 10) (hs:s < 4) {c:List RT} (hc:cM c) (hn:bE f (aW j)=false) (hw:Wf f):kO f (opTok j s++c):=by
 obtain ⟨t,r,h1,h2,h3,h4⟩:=sO hj hs
 refine ⟨fun hv k hk=>?_,t,r++c,h1 ▸ rfl,iN h3,rH h2 _,h3,fun hv ht=>h4 fun hj9=>?_⟩
 ·have hk8:=(jZ hv).2 k (List.mem_of_mem_drop hk)
  by_cases hj9:j=9
  ·clear hj hn h1 h4; subst hj9
   rw [zE]
   exact oN (rin (by kernel_rfl)) hk8
  ·have h:=(zG (Nat.lt_of_le_of_ne (Nat.le_of_lt_succ hj) hj9) hs hc).ol k hk8
   rw [if_neg (fun q=>tf ((show bE f (aW j)=true from List.any_eq_true.mpr ⟨k,hk,aK.mpr q⟩).symm.trans hn))] at h
   exact h
 ·clear hj h1 h4; subst hj9
  unfold bE at hn
  rw [hv,ht] at hn
  exact tf (.trans (by kernel_rfl) hn)
theorem aJr {M:MS} (I:c8 M) (hd:M.due=false) {j s:Nat} (hj:j < 10) (hs:s < 4) (ht:0 < a7 M.fs (aW j)):c8 (f5 M j s):=by
 obtain ⟨f,fs',pend',h1,h2,h3,h4,h5,h6⟩:=vN (fd:=M.fd) (pend:=[]) ht; clear ht
 have hg:c0 (f.app pend'):=by
  rcases h6 with ⟨h6,h7⟩ | ⟨x,h6⟩
  ·exact h6 ▸ lH (I.nd hd f fs' h7)
  ·exact h6 ▸ kR
 have hcan:bE (f.app pend') (aW j)=true:=(vI f pend' _).trans h2
 unfold f5 iD
 rw [h1]
 refine ⟨Nat.le_trans h5 I.len,fun g hg=>(List.mem_cons.mp hg).elim (fun e=>e ▸ aJp (gA (I.wf f h3)) hcan) fun hg=>I.wf g (h4.subset hg),fun x r hx g hg=>?_,fun _=>.inr ⟨_,_,aW j,rfl,rfl⟩,fun e=>tf e,fun c res hv hk=>?_⟩
 ·obtain ⟨pre,hpre⟩:=h4
  have hg:=(List.cons.inj hx).2.symm ▸ hg
  cases pre with
  | nil=>exact absurd (congrArg List.length hpre) (Nat.ne_of_lt h5)
  | cons y ys=>exact I.tail y _ hpre.symm g (List.mem_append_right _ hg)
 ·obtain ⟨t,r,q1,q2,q3,q4⟩:=sO hj hs
  refine (List.append_assoc _ _ _).symm ▸ I.good _ _ (hd ▸ ⟨t,r++c,q1 ▸ rfl,iN q3⟩) (xX (many:=a7 M.fs (aW j)) I.wf (fun g hg=>aGB hj hs hv (aJu g hg) (I.wf g (List.mem_of_mem_take hg))) (fun g r hg=>lH (I.nd hd g r hg)) ?_)
  rw [h1]
  refine aE6 (gA (I.wf f h3)) hg hcan ?_ hk
  by_cases hj9:j=9
  ·clear hj h1 hcan hk q1 q4; subst hj9
   exact .inr ⟨(kS f pend').1.trans (aCy h2),rfl,zE s,hv⟩
  ·have hj:=Nat.lt_of_le_of_ne (Nat.le_of_lt_succ hj) hj9
   exact .inl ⟨hj,zG hj hs hv⟩
inductive aA8 (l:List SF):Prop
 | mk (h1:l.length ≤ 8) (h2:∀ f ∈ l,Wf f) (h3:∀ f r,l=f::r→∀ g ∈ r,g.cur ≠ none) (h4:∀ f r,l=f::r→c0 f)
theorem aFn {M:MS} (I:c8 M) (hd:M.due=false) {l:List SF} (h:mO M.fs [] l):aA8 l:=by
 cases h with
 | nil=>exact ⟨Nat.zero_le _,fun _ h=>nil_mem h,fun _ _ e=>nil_cons e,fun _ _ e=>nil_cons e⟩
 | cons g gs p h1 h2 =>
  refine ⟨Nat.le_trans h1.length_le I.len,fun f hf=>(List.mem_cons.mp hf).elim (fun e=>e ▸ gA (I.wf g (h1.subset (.head _)))) fun hf=>I.wf f (h1.subset (.tail _ hf)),fun f r e x hx=>?_,fun f r e=>(List.cons.inj e).1 ▸ h2.elim (fun h=>h.1 ▸ lH (I.nd hd _ _ h.2)) fun h=>h.elim fun x h=>h ▸ kR⟩
  have hx:=(List.cons.inj e).2.symm ▸ hx
  obtain ⟨pre,hpre⟩:=h1
  cases pre with
  | nil=>exact I.tail g _ hpre.symm x hx
  | cons z zs=>exact I.tail z _ hpre.symm x (List.mem_append_right _ (.tail _ hx))
theorem aDE {M:MS} (I:c8 M) (hd:M.due=false) {v:Vb} (hv:∃ f ∈ M.fs,f.v=v):c8 (gD M v):=by
 obtain ⟨h1,h2,h3,h4⟩:=aFn I hd (aCP (many:=cA M.fs v) (fd:=M.fd))
 exact ⟨h1,h2,h3,fun e=>ft e,fun _=>h4,fun c res hh hk=>(List.append_assoc _ _ _).symm ▸ I.good _ _ (hd ▸ ⟨W v.endW,c,rfl,iN (k8 v)⟩) (aE3 I.wf (fun g r hg=>lH (I.nd hd g r hg)) hv hk)⟩
noncomputable def cG:MS:=⟨[],[],[],true⟩
theorem tM:c8 cG:=⟨Nat.zero_le _,fun _ h=>nil_mem h,fun _ _ e=>nil_cons e,fun _=>.inl rfl,fun e=>tf e,fun _ _ _ h=>h⟩
theorem iL:dot ∈ dN∧dot ∈ j8∧dot ∈ hY∧dot ∈ dG:=⟨rin (by kernel_rfl),rin (by kernel_rfl),rin (by kernel_rfl),rin (by kernel_rfl)⟩
theorem aE7 {M:MS} (I:c8 M) (hd:M.due=false):P .body 0 (M.toks++[dot]) (aV 0 M.fd M.fs []).1 [dot]:=by
 obtain ⟨ts,h1,h2⟩:=I.good [dot] (aV 0 M.fd M.fs []).1 (hd ▸ ⟨dot,[],rfl,iN iL.1⟩) (xX (many:=0) I.wf (fun f hf=>⟨fun hv k hk=>oN iL.2.1 ((jZ hv).2 k (List.mem_of_mem_drop hk)),dot,[],rfl,iN iL.1,rH iL.2.2.1 _,iL.1,fun _ _=>iL.2.2.2⟩)
  (fun f r hf=>lH (I.nd hd f r hf)) (aCR.symm ▸ ⟨[],P.nil iL.1,(by rw [List.append_nil,List.append_nil])⟩))
 exact h2.symm ▸ h1
noncomputable def bX (fs:List SF):List Nat:=(List.range 10).filter fun j=>Nat.blt 0 (a7 fs (aW j))
noncomputable def fG (fs:List SF) (n:Nat):Vb:=match fs.reverse[n]? with
 | some f=>f.v
 | none=>.add
noncomputable def gL (M:MS) (kind:Nat):Bool:=M.due || (Nat.beq kind 0 || ((Nat.beq kind 1 && dK (bX M.fs)) || dK M.fs))
noncomputable def cX (M:MS) (kind choice spare:Nat):MS:=match gL M kind,Nat.beq kind 1 with
 | true,_=>openM M (match Nat.blt M.fs.length 8 with | true=>choice % 7 | false=>0)
 | false,true=>f5 M (((bX M.fs)[choice % (bX M.fs).length]?).getD 0) spare
 | false,false=>gD M (fG M.fs (choice % M.fs.length))
theorem step_inv {M:MS} (I:c8 M) {kind choice spare:Nat} (hs:spare < 4):c8 (cX M kind choice spare):=by
 unfold cX
 cases ho:gL M kind with
 | false =>
  obtain ⟨o1,o2⟩:=Bool.or_eq_false_iff.mp ho
  obtain ⟨o3,o4⟩:=Bool.or_eq_false_iff.mp (Bool.or_eq_false_iff.mp o2).2
  cases hk:Nat.beq kind 1 with
  | false =>
   have hne:0 < M.fs.length:=List.length_pos_iff.mpr fun q=>tf ((congrArg dK q).symm.trans o4)
   have hlt:choice % M.fs.length < M.fs.reverse.length:=(List.length_reverse (as:=M.fs)).symm ▸ Nat.mod_lt _ hne
   refine aDE I o1 ?_
   unfold fG
   rw [List.getElem?_eq_getElem hlt]
   exact ⟨_,List.mem_reverse.mp (List.getElem_mem hlt),rfl⟩
  | true =>
   rw [hk] at o3
   have hne:0 < (bX M.fs).length:=List.length_pos_iff.mpr fun q=>tf ((congrArg dK q).symm.trans o3)
   have hlt:choice % (bX M.fs).length < (bX M.fs).length:=Nat.mod_lt _ hne
   obtain ⟨m1,m2⟩:=List.mem_filter.mp (List.getElem_mem hlt)
   rw [List.getElem?_eq_getElem hlt]
   exact aJr I o1 (List.mem_range.mp m1) hs (Nat.le_of_ble_eq_true m2)
 | true =>
  refine zH I ?_
  cases hb:Nat.blt M.fs.length 8 with
  | false=>exact .inr rfl
  | true=>exact .inl (Nat.le_of_ble_eq_true hb)
noncomputable def b0:MS→List (Nat×Nat×Nat)→MS
 | M,[]=>M
 | M,(k,c,s)::r=>b0 (cX M k c s) r
noncomputable def gE (M:MS):MS:=match M.due with
 | true=>openM M 0
 | false=>M
theorem aAj {l:List (Nat×Nat×Nat)}:∀ {M:MS},c8 M→(∀ q ∈ l,q.2.2 < 4)→c8 (b0 M l):=by
 induction l with
 | nil=>exact fun I _=>I
 | cons q r ih=>exact fun I h=>ih (step_inv I (h q (.head _))) fun q hq=>h q (.tail _ hq)
theorem wC {M:MS} (I:c8 M):c8 (gE M)∧(gE M).due=false:=by
 unfold gE
 cases h:M.due with
 | false=>exact ⟨I,h⟩
 | true=>exact ⟨zH I (.inr rfl),rfl⟩
theorem plain (l:List (Nat×Nat×Nat)) (h:∀ q ∈ l,q.2.2 < 4):P .body 0 ((gE (b0 cG l)).toks++[dot]) (aV 0 (gE (b0 cG l)).fd (gE (b0 cG l)).fs []).1 [dot] :=
 let I:=wC (aAj tM h)
 aE7 I.1 I.2
noncomputable def rtP (t:RT):PV:=.tup [.str t.1,.str t.2]
noncomputable def gS (l:List RT):PV:=.lst (l.map rtP)
noncomputable def bM (r:Nat):PV:=match eK r with
 | none=>.tup [.str wCONTINUE,gS [W wCONTINUE],eF,.tup []]
 | some v=>.tup [.str v.name,gS v.hdr,.tup v.tree,.tup (v.own.map PV.str)]
noncomputable def eE:Str:=ns []
noncomputable def aY (j:Nat):PV:=.tup [.lst [.str (aW j)],
 .str (([wON,wON,wAT,wAT,eE,eE,wON,wON,wON,eE][j]?).getD eE),
 .str (([ns [83,73,90,69,32,69,82,82,79,82],ns [83,73,90,69,32,69,82,82,79,82],fH,fH,wINVALID,wINVALID,fI,fI,i9,wELSE][j]?).getD eE),
 .str (([eE,eE,eE,eE,kF,kF,eE,eE,eE,eE][j]?).getD eE),
 .bool (([false,true,false,true,false,true,false,true,false,false][j]?).getD false)]
noncomputable def pK:V:=.pv (.lst ((List.range 7).map bM))
noncomputable def zJ:V:=.pv (.lst ((List.range 10).map aY))
theorem aKA (m:Nat) (σ:aC):(sys TT aA (m + 20)).call (fn 841) [] σ=some (pK,σ):=by kernel_rfl
theorem aKv (m:Nat) (σ:aC):(sys TT aA (m + 20)).call (fn 848) [] σ=some (zJ,σ):=by kernel_rfl
theorem aGG (m:Nat) (σ:aC):((List.range 10).map fun j=>(List.range 4).map fun s=>(sys TT aA (m + 20)).call (fn 855) [.pv (aY j),.pv (.int (.ofNat s))] σ)=(List.range 10).map fun j=>(List.range 4).map fun s=>some (.pv (gS (opTok j s)),σ):=by kernel_rfl
structure IFr where
 v:Vb
 tk:Nat
 brs:List (Str×Nat)
 home:Nat
noncomputable def brE (q:Str×Nat):V:=.tup [.pv (.str q.1),.li q.2]
noncomputable def brV:List (Str×Nat)→V
 | []=>.pv (.lst [])
 | q::r=>.vl (brE q::r.map brE)
noncomputable def frV (f:IFr):V:=.tup [.pv (.str f.v.name),.pv (.tup f.v.tree),.pv (.tup (f.v.own.map PV.str)),.pv (.int (.ofNat f.tk)),brV f.brs,.li f.home]
noncomputable def dX (k:Str):V:=.pv (.lst [.str k])
noncomputable abbrev fiT:FI:=cP 860 (aF 102)
noncomputable def dW (k:Str):aB:=[("pile",.li 1),("keys",dX k)]
noncomputable def jR (k:Str) (many:Nat):aB:=[("pile",.li 1),("keys",dX k),("many",.pv (.int (.ofNat many)))]
noncomputable def cH (k:Str) (many:Nat) (f:IFr):aB:=[("pile",.li 1),("keys",dX k),("many",.pv (.int (.ofNat many))),("verb",.pv (.str f.v.name)),("tree",.pv (.tup f.v.tree)),("own",.pv (.tup (f.v.own.map PV.str))),("taken",.pv (.int (.ofNat f.tk))),("branches",brV f.brs),("home",.li f.home)]
theorem aJB (I:Sys) (k:Str) (σ:aC):bI TT aA (C I) (fn 860) [.li 1,dX k] σ=(Rbind (blk (C I) fiT (dW k) [stm 102 0,stm 102 1]) fnK) σ:=by kernel_rfl
noncomputable def iM (n:Nat):List V:=intsFrom (.ofNat n) (-1) n
theorem aJC (m:Nat) (k:Str) (g:List GCell) (fd x1 x2 x3 x4 x5 x6 x7 x8:V) (l0:List V) (bod:List (List V)) :
 ([[],[x1],[x1,x2],[x1,x2,x3],[x1,x2,x3,x4],[x1,x2,x3,x4,x5],[x1,x2,x3,x4,x5,x6],[x1,x2,x3,x4,x5,x6,x7],[x1,x2,x3,x4,x5,x6,x7,x8]].map fun pl=>(C (sys TT aA (m + 20))).ex fiT (dW k) (stm 102 0) ⟨g,l0::pl::bod⟩) =
 [[],[x1],[x1,x2],[x1,x2,x3],[x1,x2,x3,x4],[x1,x2,x3,x4,x5],[x1,x2,x3,x4,x5,x6],[x1,x2,x3,x4,x5,x6,x7],[x1,x2,x3,x4,x5,x6,x7,x8]].map fun pl=>cU (D (sys TT aA (m + 20))) fiT (bP (stm 102 0)) (cC (stm 102 0)) (iM pl.length) (dW k) ⟨g,l0::pl::bod⟩:=by kernel_rfl
theorem aAB (I:Sys) (env:aB):blk (D I) fiT env (cC (stm 102 0))=blk (D I) fiT env [stB (stm 102 0) 0,stB (stm 102 0) 1]:=by kernel_rfl
theorem aJF (k:Str) (many:Nat):bindT fiT 9 (bP (stm 102 0)) (.pv (.int (.ofNat many))) (dW k)=some (jR k many):=by kernel_rfl
theorem aJG (k:Str) (many m2:Nat) (f:IFr):bindT fiT 9 (bP (stm 102 0)) (.pv (.int (.ofNat many))) (cH k m2 f)=some (cH k many f):=by kernel_rfl
noncomputable def asT (st:Stmt):Expr:=match st with
 | .Assign [t] _ _=>t
 | _=>.Constant .none 0 ⟨0,0,0,0⟩
theorem aJD (I:Sys) (k:Str) (f:IFr) (σ:aC):((List.range 8).map fun j=>[jR k (j + 1),cH k (j + 1) f].map fun env=>(D I).ex fiT env (stB (stm 102 0) 0) σ) =
 (List.range 8).map fun j=>[jR k (j + 1),cH k (j + 1) f].map fun env=>(Rbind (idx (.li 1) (.pv (.int (.ofNat j)))) fun v=>Rbind (oneOf (bindT fiT 9 (asT (stB (stm 102 0) 0)) v env)) fun env'=>Rpure (.next,env')) σ:=by kernel_rfl
theorem aJA (k:Str) (many:Nat) (f f' : IFr):([jR k many,cH k many f].map fun env=>bindT fiT 9 (asT (stB (stm 102 0) 0)) (frV f') env)=[jR k many,cH k many f].map fun _=>some (cH k many f'):=by kernel_rfl
noncomputable def vts:List (Vb×Nat):=[(.add,0),(.add,1),(.add,2),(.sub,0),(.sub,1),(.sub,2),(.rd,0),(.rd,1),(.rd,2),(.rd,3),(.rd,4),(.del,0),(.del,1),(.del,2),(.call,0),(.call,1),(.call,2),(.iff,1),(.iff,2)]
noncomputable def gJ:List Str:=cI++[eQ]
theorem aJE (m many:Nat) (brs:List (Str×Nat)) (home:Nat) (σ:aC):(gJ.map fun k=>vts.map fun q=>(D (sys TT aA (m + 20))).ex fiT (cH k many ⟨q.1,q.2,brs,home⟩) (stB (stm 102 0) 1) σ) =
 gJ.map fun k=>vts.map fun q=>some ((match bE ⟨q.1,q.2,[],none⟩ k with | true=>Fl.ret (.pv (.int (.ofNat many))) | false=>Fl.next,cH k many ⟨q.1,q.2,brs,home⟩),σ):=by kernel_rfl
theorem aJH (I:Sys) (k:Str) (many:Nat) (f:IFr) (σ:aC):([dW k,cH k many f].map fun env=>blk (C I) fiT env [stm 102 1] σ)=[dW k,cH k many f].map fun env=>some ((Fl.ret (.pv (.int 0)),env),σ):=by kernel_rfl
theorem pI {α:Type} {P:List α→Prop} (x0:α) (h:∀ x1 x2 x3 x4 x5 x6 x7 x8:α,∀ pl ∈ [[],[x1],[x1,x2],[x1,x2,x3],[x1,x2,x3,x4],[x1,x2,x3,x4,x5],[x1,x2,x3,x4,x5,x6],[x1,x2,x3,x4,x5,x6,x7],[x1,x2,x3,x4,x5,x6,x7,x8]],P pl):∀ pl:List α,pl.length ≤ 8→P pl
 | [],_=>h x0 x0 x0 x0 x0 x0 x0 x0 _ (List.mem_of_getElem? (i:=0) rfl)
 | [a],_=>h a x0 x0 x0 x0 x0 x0 x0 _ (List.mem_of_getElem? (i:=1) rfl)
 | [a,b],_=>h a b x0 x0 x0 x0 x0 x0 _ (List.mem_of_getElem? (i:=2) rfl)
 | [a,b,c],_=>h a b c x0 x0 x0 x0 x0 _ (List.mem_of_getElem? (i:=3) rfl)
 | [a,b,c,d],_=>h a b c d x0 x0 x0 x0 _ (List.mem_of_getElem? (i:=4) rfl)
 | [a,b,c,d,e],_=>h a b c d e x0 x0 x0 _ (List.mem_of_getElem? (i:=5) rfl)
 | [a,b,c,d,e,f],_=>h a b c d e f x0 x0 _ (List.mem_of_getElem? (i:=6) rfl)
 | [a,b,c,d,e,f,i],_=>h a b c d e f i x0 _ (List.mem_of_getElem? (i:=7) rfl)
 | [a,b,c,d,e,f,i,j],_=>h a b c d e f i j _ (List.mem_of_getElem? (i:=8) rfl)
 | _::_::_::_::_::_::_::_::_::_,hl=>absurd hl (Nat.not_le_of_gt (Nat.le_add_left 9 _))
noncomputable def plV (is:List IFr):List V:=is.reverse.map frV
theorem dO (is:List IFr):(plV is).length=is.length:=by simp [plV]
theorem aG0 {pre js:List IFr} {f:IFr}:(plV (pre++f::js))[js.length]? = some (frV f):=by
 unfold plV
 rw [List.reverse_append,List.reverse_cons]
 simp
theorem rI {g:List GCell} {l0 pl:List V} {bod:List (List V)} {j:Nat} {v:V} (hj:j ≤ 1000000) (h:pl[j]? = some v):idx (.li 1) (.pv (.int (.ofNat j))) ⟨g,l0::pl::bod⟩=some (v,⟨g,l0::pl::bod⟩):=by
 have h1:smallI (.ofNat j)=true:=Nat.ble_eq_true_of_le hj
 show (match smallI (.ofNat j) with | true=>hS (.li 1) (.ofNat j) | false=>Rno) _=_
 rw [h1]
 have h2:hS (.li 1) (.ofNat j)=Rbind (getL 1) (fun l=>oneOf (item l (.ofNat j))):=by kernel_rfl
 dsimp only
 rw [h2,aE (a:=pl) (σ₁:=⟨g,l0::pl::bod⟩) rfl]
 show oneOf (pl[j]?) _=_
 rw [h]
 rfl
theorem aDu (n:Nat):iM (n + 1) = .pv (.int (.ofNat (n + 1)))::iM n:=by
 show V.pv (.int (.ofNat (n + 1)))::intsFrom (Int.ofNat (n + 1) + -1) (-1) n=_
 have:Int.ofNat (n + 1) + -1=Int.ofNat n:=by
  exact Int.add_neg_cancel_right (n:Int) 1
 rw [this]
 rfl
noncomputable def gR:List IFr→Str→Nat
 | [],_=>0
 | f::fs,key=>match bE ⟨f.v,f.tk,[],none⟩ key with
  | true=>fs.length + 1
  | false=>gR fs key
theorem aAA {m:Nat} {k:Str} {g:List GCell} {l0:List V} {bod:List (List V)} (hk:k ∈ gJ):∀ (js:List IFr) (pre:List IFr) (env:aB),(pre++js).length ≤ 8→(∀ f ∈ js,(f.v,f.tk) ∈ vts)→(env=dW k∨∃ many f,env=cH k many f) →
 ∃ env',(env' = dW k∨∃ many f,env' = cH k many f)∧cU (D (sys TT aA (m + 20))) fiT (bP (stm 102 0)) (cC (stm 102 0)) (iM js.length) env ⟨g,l0::plV (pre++js)::bod⟩ =
  some ((match gR js k with | 0=>Fl.next | n + 1=>Fl.ret (.pv (.int (.ofNat (n + 1)))),env'),⟨g,l0::plV (pre++js)::bod⟩)
 | [],pre,env,_,_,he=>⟨env,he,rfl⟩
 | f::js,pre,env,hl,hv,he=>by
  have hl' : pre.length + (js.length + 1) ≤ 8:=by simpa using hl
  have hj:js.length ∈ List.range 8:=List.mem_range.mpr (adr hl' rfl)
  have step:∀ env1,bindT fiT 9 (bP (stm 102 0)) (.pv (.int (.ofNat (js.length + 1)))) env=some env1→(D (sys TT aA (m + 20))).ex fiT env1 (stB (stm 102 0) 0) ⟨g,l0::plV (pre++f::js)::bod⟩=some ((.next,cH k (js.length + 1) f),⟨g,l0::plV (pre++f::js)::bod⟩)→∃ env',(env' = dW k∨∃ many f,env' = cH k many f)∧cU (D (sys TT aA (m + 20))) fiT (bP (stm 102 0)) (cC (stm 102 0)) (iM (js.length + 1)) env ⟨g,l0::plV (pre++f::js)::bod⟩ =
   some ((match gR (f::js) k with | 0=>Fl.next | n + 1=>Fl.ret (.pv (.int (.ofNat (n + 1)))),env'),⟨g,l0::plV (pre++f::js)::bod⟩):=fun env1 h1 h2=>by
   have h3:=aJ (aJ (aJE m (js.length + 1) f.brs f.home ⟨g,l0::plV (pre++f::js)::bod⟩) k hk) (f.v,f.tk) (hv f (by exact (.head _)))
   have e:gR (f::js) k=(match bE ⟨f.v,f.tk,[],none⟩ k with | true=>js.length + 1 | false=>gR js k):=rfl
   rw [aDu]
   refine boolF (b:=bE ⟨f.v,f.tk,[],none⟩ k) (fun hc=>?_) fun hc=>?_
   ·rw [hc] at h3
    have ih:=aAA (m:=m) (g:=g) (l0:=l0) (bod:=bod) hk js (pre++[f]) (cH k (js.length + 1) f) (by rw [List.append_assoc]; exact hl) (fun x hx=>hv x (by simp [hx])) (.inr ⟨_,_,rfl⟩)
    rw [List.append_assoc] at ih
    obtain ⟨env',he',ih⟩:=ih
    refine ⟨env',he',?_⟩
    show Rbind (oneOf (bindT _ _ _ _ _)) _ _=_
    rw [h1,aE (a:=env1) (σ₁:=⟨g,l0::plV (pre++f::js)::bod⟩) rfl,aAB,e,hc]
    rw [aE (a:=(Fl.next,cH k (js.length + 1) f)) (σ₁:=⟨g,l0::plV (pre++f::js)::bod⟩)]
    ·exact ih
    ·rw [aO h2,aO h3]
     rfl
   ·rw [hc] at h3
    refine ⟨cH k (js.length + 1) f,.inr ⟨_,_,rfl⟩,?_⟩
    show Rbind (oneOf (bindT _ _ _ _ _)) _ _=_
    rw [h1,aE (a:=env1) (σ₁:=⟨g,l0::plV (pre++f::js)::bod⟩) rfl,aAB,e,hc]
    rw [aE (a:=(Fl.ret (.pv (.int (.ofNat (js.length + 1)))),cH k (js.length + 1) f)) (σ₁:=⟨g,l0::plV (pre++f::js)::bod⟩)]
    ·rfl
    ·rw [aO h2]
     exact eM h3
  have hg:∀ f' env2,env2 ∈ [jR k (js.length + 1),cH k (js.length + 1) f']→(D (sys TT aA (m + 20))).ex fiT env2 (stB (stm 102 0) 0) ⟨g,l0::plV (pre++f::js)::bod⟩=some ((.next,cH k (js.length + 1) f),⟨g,l0::plV (pre++f::js)::bod⟩):=fun f' env2 hm=>by
   rw [aJ (aJ (aJD (sys TT aA (m + 20)) k f' ⟨g,l0::plV (pre++f::js)::bod⟩) js.length hj) env2 hm,aE (rI (lel (Nat.le_of_lt (List.mem_range.mp hj)) rfl) aG0),aJ (aJA k (js.length + 1) f' f) env2 hm]
   rfl
  rcases he with rfl | ⟨many,f',rfl⟩
  ·exact step _ (aJF k _) (hg f _ (by exact (.head _)))
  ·exact step _ (aJG k _ _ _) (hg f' _ (by exact (.tail _ (.head _))))
theorem aJt {m:Nat} {k:Str} {g:List GCell} {l0:List V} {bod:List (List V)} (hk:k ∈ gJ) (is:List IFr) (hl:is.length ≤ 8) (hv:∀ f ∈ is,(f.v,f.tk) ∈ vts) :
 (sys TT aA (m + 22)).call (fn 860) [.li 1,dX k] ⟨g,l0::plV is::bod⟩=some (.pv (.int (.ofNat (gR is k))),⟨g,l0::plV is::bod⟩):=by
 rw [cK,aJB]
 have h1:(C (sys TT aA (m + 20))).ex fiT (dW k) (stm 102 0) ⟨g,l0::plV is::bod⟩=cU (D (sys TT aA (m + 20))) fiT (bP (stm 102 0)) (cC (stm 102 0)) (iM (plV is).length) (dW k) ⟨g,l0::plV is::bod⟩ :=
  pI (P:=fun pl=>(C (sys TT aA (m + 20))).ex fiT (dW k) (stm 102 0) ⟨g,l0::pl::bod⟩=cU (D (sys TT aA (m + 20))) fiT (bP (stm 102 0)) (cC (stm 102 0)) (iM pl.length) (dW k) ⟨g,l0::pl::bod⟩) (.pv .none)
   (fun x1 x2 x3 x4 x5 x6 x7 x8 pl hm=>aJ (aJC m k g (.pv .none) x1 x2 x3 x4 x5 x6 x7 x8 l0 bod) pl hm) (plV is) (by rw [dO]; exact hl)
 obtain ⟨env',he',h2⟩:=aAA (m:=m) (g:=g) (l0:=l0) (bod:=bod) hk is [] (dW k) (by exact (hl)) hv (.inl rfl)
 rw [dO] at h1
 have h2:=h1.trans h2
 cases ht:gR is k with
 | zero =>
  rw [ht] at h2
  have h3:∀ f many,env' ∈ [dW k,cH k many f]→blk (C (sys TT aA (m + 20))) fiT env' [stm 102 1] ⟨g,l0::plV is::bod⟩=some ((Fl.ret (.pv (.int 0)),env'),⟨g,l0::plV is::bod⟩):=fun f many hm=>aJ (aJH _ k many f _) env' hm
  have h3:blk (C (sys TT aA (m + 20))) fiT env' [stm 102 1] ⟨g,l0::plV is::bod⟩=some ((Fl.ret (.pv (.int 0)),env'),⟨g,l0::plV is::bod⟩):=by
   clear h2; rcases he' with rfl | ⟨many,f,rfl⟩
   ·exact h3 ⟨.add,0,[],0⟩ 0 (by exact (.head _))
   ·exact h3 f many (by exact (.tail _ (.head _)))
  rw [aE (a:=(Fl.ret (.pv (.int 0)),env')) (σ₁:=⟨g,l0::plV is::bod⟩)]
  ·rfl
  ·rw [aO h2]
   exact h3
 | succ n =>
  rw [ht] at h2
  rw [aE (a:=(Fl.ret (.pv (.int (.ofNat (n + 1)))),env')) (σ₁:=⟨g,l0::plV is::bod⟩) (eM h2)]
  rfl
noncomputable abbrev E (I:Sys):Sys:=gH TT aA I 38
noncomputable abbrev fiC:FI:=cP 865 (aF 103)
noncomputable def a0 (many:Nat) (tl:aB):aB:=("pile",.li 1)::("many",.pv (.int (.ofNat many)))::tl
noncomputable def six (f:IFr) (tl:aB):aB:=("verb",.pv (.str f.v.name))::("tree",.pv (.tup f.v.tree))::("own",.pv (.tup (f.v.own.map PV.str)))::("taken",.pv (.int (.ofNat f.tk)))::("branches",brV f.brs)::("home",.li f.home)::tl
noncomputable def whS (st:Stmt) (j:Nat):Stmt:=((whB st)[j]?).getD (.Pass ⟨0,0,0,0⟩)
noncomputable def thS (st:Stmt) (j:Nat):Stmt:=match st with
 | .If _ b _ _=>(b[j]?).getD (.Pass ⟨0,0,0,0⟩)
 | _=>.Pass ⟨0,0,0,0⟩
noncomputable def elS (st:Stmt) (j:Nat):Stmt:=match st with
 | .If _ _ b _=>(b[j]?).getD (.Pass ⟨0,0,0,0⟩)
 | _=>.Pass ⟨0,0,0,0⟩
noncomputable def tupF:V:=.st (.type "tuple")
noncomputable def nS (f:V):Bool:=match f with
 | .st (.type t)=>decide (t = "tuple")
 | _=>false
theorem aCD (I:Sys) (many:Nat) (σ:aC):bI TT aA (C I) (fn 865) [.li 1,.pv (.int (.ofNat many))] σ=(Rbind (blk (C I) fiC (a0 many []) [stm 103 0]) fnK) σ:=by kernel_rfl
theorem aCK (I:Sys) (many:Nat) (σ:aC):(C I).ex fiC (a0 many []) (stm 103 0) σ=f7 (D I) fiC (whT (stm 103 0)) (whB (stm 103 0)) eZ (a0 many []) σ:=by kernel_rfl
theorem vL (I:Sys) (env:aB):blk (D I) fiC env (whB (stm 103 0))=blk (D I) fiC env [whS (stm 103 0) 0,whS (stm 103 0) 1]:=by kernel_rfl
theorem vM (m:Nat) (tl:aB) (g:List GCell) (x1 x2 x3 x4 x5 x6 x7 x8:V) (l0:List V) (bod:List (List V)) :
 ([[],[x1],[x1,x2],[x1,x2,x3],[x1,x2,x3,x4],[x1,x2,x3,x4,x5],[x1,x2,x3,x4,x5,x6],[x1,x2,x3,x4,x5,x6,x7],[x1,x2,x3,x4,x5,x6,x7,x8]].map fun pl=>(List.range 9).map fun many=>(D (sys TT aA (m + 20))).tr fiC (a0 many tl) (whT (stm 103 0)) ⟨g,l0::pl::bod⟩) =
 [[],[x1],[x1,x2],[x1,x2,x3],[x1,x2,x3,x4],[x1,x2,x3,x4,x5],[x1,x2,x3,x4,x5,x6],[x1,x2,x3,x4,x5,x6,x7],[x1,x2,x3,x4,x5,x6,x7,x8]].map fun pl=>(List.range 9).map fun many=>some (Nat.blt many pl.length,⟨g,l0::pl::bod⟩):=by kernel_rfl
theorem aCI (I:Sys) (many:Nat) (tl:aB) (σ:aC):(D I).ex fiC (a0 many tl) (whS (stm 103 0) 0) σ=(Rbind (cD 1 "pop" []) fun v=>Rbind (oneOf (bindT fiC 9 (asT (whS (stm 103 0) 0)) v (a0 many tl))) fun env'=>Rpure (.next,env')) σ:=by kernel_rfl
noncomputable def boT (x:V):aB:=[("bodies",x)]
theorem aCC (many:Nat) (f f' : IFr) (x:V):([[],six f [],six f (boT x)].map fun tl=>bindT fiC 9 (asT (whS (stm 103 0) 0)) (frV f') (a0 many tl))=[six f' [],six f' [],six f' (boT x)].map fun tl=>some (a0 many tl):=by kernel_rfl
theorem aCG (I:Sys) (many tk home:Nat) (brs:List (Str×Nat)) (tl:aB) (σ:aC):([Vb.add,.sub,.rd,.del,.call].map fun v=>(D I).ex fiC (a0 many (six ⟨v,tk,brs,home⟩ tl)) (whS (stm 103 0) 1) σ) =
 [Vb.add,.sub,.rd,.del,.call].map fun v=>blk (E I) fiC (a0 many (six ⟨v,tk,brs,home⟩ tl)) [elS (whS (stm 103 0) 1) 0] σ:=by kernel_rfl
theorem aCJ (I:Sys) (many tk home:Nat) (brs:List (Str×Nat)) (tl:aB) (σ:aC):(D I).ex fiC (a0 many (six ⟨.iff,tk,brs,home⟩ tl)) (whS (stm 103 0) 1) σ =
 blk (E I) fiC (a0 many (six ⟨.iff,tk,brs,home⟩ tl)) [thS (whS (stm 103 0) 1) 0,thS (whS (stm 103 0) 1) 1] σ:=by kernel_rfl
noncomputable def compTup (c:V→List V→R V):List (Str×Nat)→R (List V)
 | []=>Rpure []
 | (k,j)::r=>Rbind (Rbind (Rbind (Rbind (c tupF [.li j]) fun b=>Rpure [b]) fun bs=>Rpure (.pv (.str k)::bs)) fun vs=>Rpure (mkTup vs)) fun x=>Rbind (compTup c r) fun xs=>Rpure (x::xs)
noncomputable def compB (c:V→List V→R V):List (Str×Nat)→R (List V)
 | []=>Rpure []
 | (_,j)::r=>Rbind (c tupF [.li j]) fun x=>Rbind (compB c r) fun xs=>Rpure (x::xs)
noncomputable def clR (c:V→List V→R V) (v:Vb) (brs:List (Str×Nat)) (home:Nat) (env:aB):R (Fl×aB) :=
 Rbind (Rbind (Rbind (Rbind (Rbind (Rbind (Rbind (Rbind (Rbind (compTup c brs) fun xs=>Rpure (mkVl xs)) fun b=>Rpure [b]) fun vs=>c tupF vs) fun b=>Rpure [b]) fun vs=>Rpure (mkTup vs)) fun b=>bS .Add (.pv (.tup v.tree)) b) fun b=>Rpure [b]) fun vs=>cD home "append" vs) fun _=>Rpure (Fl.next,env)
theorem aCB (c:V→List V→R V) (I:Sys) (many tk home:Nat) (k1 k2 k3 k4:Str) (j1 j2 j3 j4:Nat) (x:V) (σ:aC) :
 ([[],boT x].map fun tl=>[Vb.add,.sub,.rd,.del,.call].map fun v=>[[],[(k1,j1)],[(k1,j1),(k2,j2)],[(k1,j1),(k2,j2),(k3,j3)],[(k1,j1),(k2,j2),(k3,j3),(k4,j4)]].map fun brs=>(E (sel nS c I)).ex fiC (a0 many (six ⟨v,tk,brs,home⟩ tl)) (elS (whS (stm 103 0) 1) 0) σ) =
 [[],boT x].map fun tl=>[Vb.add,.sub,.rd,.del,.call].map fun v=>[[],[(k1,j1)],[(k1,j1),(k2,j2)],[(k1,j1),(k2,j2),(k3,j3)],[(k1,j1),(k2,j2),(k3,j3),(k4,j4)]].map fun brs=>clR c v brs home (a0 many (six ⟨v,tk,brs,home⟩ tl)) σ:=by kernel_rfl
theorem aCE (c:V→List V→R V) (I:Sys) (many tk home:Nat) (k1 k2:Str) (j1 j2:Nat) (x:V) (σ:aC) :
 ([[],boT x].map fun tl=>[[(k1,j1)],[(k1,j1),(k2,j2)]].map fun brs=>(E (sel nS c I)).ex fiC (a0 many (six ⟨.iff,tk,brs,home⟩ tl)) (thS (whS (stm 103 0) 1) 0) σ) =
 [[],boT x].map fun tl=>[[(k1,j1)],[(k1,j1),(k2,j2)]].map fun brs=>(Rbind (Rbind (Rbind (compB c brs) fun xs=>Rpure (mkVl xs)) fun a=>bS .Add a (.pv (.lst [.tup []]))) fun v=>Rbind (oneOf (bindT fiC 9 (asT (thS (whS (stm 103 0) 1) 0)) v (a0 many (six ⟨.iff,tk,brs,home⟩ tl)))) fun env'=>Rpure (Fl.next,env')) σ:=by kernel_rfl
theorem aCF (many:Nat) (f:IFr) (x y:V):([[],boT x].map fun tl=>bindT fiC 9 (asT (thS (whS (stm 103 0) 1) 0)) y (a0 many (six f tl)))=[[],boT x].map fun _=>some (a0 many (six f (boT y))):=by kernel_rfl
theorem aCH (I:Sys) (many tk home:Nat) (brs:List (Str×Nat)) (xs ys:List PV) (σ:aC):([([PV.tup xs,.tup []],ifT xs []),([.tup xs,.tup ys,.tup []],ifT xs ys)].map fun q=>(E I).ex fiC (a0 many (six ⟨.iff,tk,brs,home⟩ (boT (.pv (.lst q.1))))) (thS (whS (stm 103 0) 1) 1) σ) =
 [([PV.tup xs,.tup []],ifT xs []),([.tup xs,.tup ys,.tup []],ifT xs ys)].map fun q=>(Rbind (cD home "append" [.pv q.2]) fun _=>Rpure (Fl.next,a0 many (six ⟨.iff,tk,brs,home⟩ (boT (.pv (.lst q.1)))))) σ:=by kernel_rfl
theorem yJ {g:List GCell} {l0 xs:List V} {x:V} {bod:List (List V)} (h:xs.length + 1 ≤ 1000000):cD 1 "pop" [] ⟨g,l0::(xs++[x])::bod⟩=some (x,⟨g,l0::xs::bod⟩):=by
 have h1:sEq "pop" "pop" = true:=aK.mpr rfl
 have h2:small (xs++[x]).length=true:=Nat.ble_eq_true_of_le (by rw [List.length_append]; exact h)
 have h3:nV (xs++[x])=some x:=by
  show (match Nat.ble 1 (xs++[x]).length with | true=>(xs++[x])[(xs++[x]).length - 1]? | false=>none)=_
  have:Nat.ble 1 (xs++[x]).length=true:=Nat.ble_eq_true_of_le (by simp)
  rw [this]
  simp
 unfold cD
 rw [aE (a:=xs++[x]) (σ₁:=⟨g,l0::(xs++[x])::bod⟩) rfl]
 simp only [h1,h2,h3]
 have:(xs++[x]).take ((xs++[x]).length - 1)=xs:=by simp
 rw [this]
 rfl
theorem jY {g:List GCell} {l:List (List V)} {h:Nat} {xs:List V} {v:V} (hx:l[h]? = some xs) (hs:xs.length ≤ 1000000):cD h "append" [v] ⟨g,l⟩=some (.pv .none,⟨g,l.set h (xs++[v])⟩):=by
 have h1:sEq "append" "append" = true:=aK.mpr rfl
 have h2:small xs.length=true:=Nat.ble_eq_true_of_le hs
 unfold cD
 have hg:getL h ⟨g,l⟩=some (xs,⟨g,l⟩):=by unfold getL; simp only [hx]
 rw [aE hg]
 simp only [h1,h2]
 have hset:setL h (xs++[v]) ⟨g,l⟩=some ((),⟨g,l.set h (xs++[v])⟩):=by unfold setL; simp only [hx]
 rw [aE hset]
 rfl
theorem tT (u:Nat) {g:List GCell} {l:List (List V)} {j:Nat} {ys:List PV} (hx:l[j]? = some (ys.map V.pv)) (hs:ys.length ≤ 1000000):(sys TT aA (u + 1)).call tupF [.li j] ⟨g,l⟩=some (.pv (.tup ys),⟨g,l⟩):=by
 have h1:(sys TT aA (u + 1)).call tupF [.li j] ⟨g,l⟩=(Rbind (getL j) fun l=>(match small l.length with | true=>Rpure (mkTup l) | false=>Rno)) ⟨g,l⟩:=by kernel_rfl
 have hg:getL j ⟨g,l⟩=some (ys.map V.pv,⟨g,l⟩):=by unfold getL; simp only [hx]
 rw [h1,aE hg,List.length_map,show small ys.length=true from Nat.ble_eq_true_of_le hs,sE]
 rfl
theorem aJW (u:Nat) {σ:aC} {ps:List PV} (hs:ps.length ≤ 1000000):(sys TT aA (u + 1)).call tupF [.pv (.lst ps)] σ=some (.pv (.tup ps),σ):=by
 have h1:(sys TT aA (u + 1)).call tupF [.pv (.lst ps)] σ=(match small (ps.map V.pv).length with | true=>Rpure (mkTup (ps.map V.pv)) | false=>Rno) σ:=by kernel_rfl
 rw [h1,List.length_map,show small ps.length=true from Nat.ble_eq_true_of_le hs,sE]
 rfl
def BrR (bod:List (List PV)):List (Str×Nat)→List (Str×List PV)→Prop
 | [],s=>s=[]
 | (k,j)::r,s=>∃ ys s',s=(k,ys)::s'∧2 ≤ j∧bod[j - 2]? = some ys∧BrR bod r s'
noncomputable def bA:List IFr→Nat
 | []=>0
 | f::_=>match f.brs.getLast? with
  | some q=>q.2
  | none=>0
def dT (bod:List (List PV)):List IFr→List SF→Prop
 | [],fs=>fs=[]
 | i::is,fs=>∃ f fs',fs=f::fs'∧i.v=f.v∧i.tk=f.tk∧BrR bod i.brs f.brs∧i.home=bA is∧dT bod is fs'
def eA:List IFr→List Nat
 | []=>[]
 | i::is=>i.brs.map (·.2)++eA is
noncomputable abbrev cells (fd:List PV) (is:List IFr) (bod:List (List PV)):List (List V):=fd.map V.pv::plV is::bod.map (·.map V.pv)
structure a8 (n:Nat) (fd:List PV) (fs:List SF) (is:List IFr) (bod:List (List PV)):Prop where
 rf:dT bod is fs
 nd:(eA is).Nodup
 fdn:fd.length ≤ n
 bn:∀ b ∈ bod,b.length ≤ n
 vt:∀ f ∈ fs,(f.v,f.tk) ∈ vts∧f.brs.length ≤ f.tk
 len:fs.length ≤ 8
theorem BrR.len {bod:List (List PV)}:∀ {r:List (Str×Nat)} {s:List (Str×List PV)},BrR bod r s→r.length=s.length
 | [],_,h=>by rw [show _=_ from h]; rfl
 | (k,j)::r,_,h=>by obtain ⟨ys,s',rfl,_,_,h'⟩:=h; simp [h'.len]
theorem dT.len {bod:List (List PV)}:∀ {is:List IFr} {fs:List SF},dT bod is fs→is.length=fs.length
 | [],_,h=>by rw [show _=_ from h]; rfl
 | i::is,_,h=>by obtain ⟨f,fs',rfl,_,_,_,_,h'⟩:=h; simp [h'.len]
theorem BrR.other {bod bod' : List (List PV)}:∀ {r:List (Str×Nat)} {s:List (Str×List PV)},(∀ q ∈ r,∀ ys,bod[q.2 - 2]? = some ys→bod'[q.2 - 2]? = some ys)→BrR bod r s→BrR bod' r s
 | [],_,_,h=>h
 | (k,j)::r,_,hh,h=>by
  obtain ⟨ys,s',rfl,h1,h2,h3⟩:=h
  exact ⟨ys,s',rfl,h1,hh (k,j) (by exact (.head _)) ys h2,h3.other fun q hq=>hh q (by simp [hq])⟩
theorem dT.other {bod bod' : List (List PV)}:∀ {is:List IFr} {fs:List SF},(∀ j ∈ eA is,∀ ys,bod[j - 2]? = some ys→bod'[j - 2]? = some ys)→dT bod is fs→dT bod' is fs
 | [],_,_,h=>h
 | i::is,_,hh,h=>by
  obtain ⟨f,fs',rfl,h1,h2,h3,h4,h5⟩:=h
  exact ⟨f,fs',rfl,h1,h2,h3.other fun q hq=>hh q.2 (List.mem_append_left _ (List.mem_map_of_mem hq)),h4,h5.other fun j hj=>hh j (List.mem_append_right _ hj)⟩
theorem BrR.app {bod:List (List PV)}:∀ {r1 r2:List (Str×Nat)} {s1 s2:List (Str×List PV)},BrR bod r1 s1→BrR bod r2 s2→BrR bod (r1++r2) (s1++s2)
 | [],_,_,_,h1,h2=>by rw [show _=_ from h1]; exact h2
 | (k,j)::r,_,_,_,h1,h2=>by
  obtain ⟨ys,s',rfl,q1,q2,q3⟩:=h1
  exact ⟨ys,s'++_,rfl,q1,q2,q3.app h2⟩
theorem BrR.split {bod:List (List PV)}:∀ {r:List (Str×Nat)} {s1:List (Str×List PV)} {k:Str} {ys:List PV},BrR bod r (s1++[(k,ys)])→∃ r1 j,r=r1++[(k,j)]∧BrR bod r1 s1∧2 ≤ j∧bod[j - 2]? = some ys
 | [],s1,k,ys,h=>by have:=(show s1++[(k,ys)]=[] from h); simp at this
 | (k0,j)::r,s1,k,ys,h=>by
  obtain ⟨zs,s',e,h1,h2,h3⟩:=h
  cases s1 with
  | nil =>
   cases e
   have hr:r=[]:=by
    cases r with
    | nil=>rfl
    | cons q r=>obtain ⟨_,_,e,_⟩:=h3; cases e
   clear h3; subst hr
   exact ⟨[],j,rfl,rfl,h1,h2⟩
  | cons q s1 =>
   obtain ⟨k1,zs1⟩:=q
   simp only [List.cons_append,List.cons.injEq,Prod.mk.injEq] at e
   obtain ⟨⟨rfl,rfl⟩,rfl⟩:=e
   obtain ⟨r1,j',z1,q1,q2,q3⟩:=h3.split; clear h3; subst z1
   exact ⟨(k1,j)::r1,j',rfl,⟨zs1,s1,rfl,h1,h2,q1⟩,q2,q3⟩
theorem z9 {n:Nat} {fd:List PV} {fs:List SF} {is:List IFr} {bod:List (List PV)} {x:PV} (hR:a8 n fd fs is bod) (hc:hM fs) :
 ∃ ys fd' bod',(cells fd is bod)[bA is]? = some (ys.map V.pv)∧ys.length ≤ n∧(cells fd is bod).set (bA is) ((ys++[x]).map V.pv)=cells fd' is bod'∧a8 (n + 1) fd' (bZ fd fs x).2 is bod'∧fd' = (bZ fd fs x).1:=by
 cases is with
 | nil =>
  have:=(show fs=[] from hR.rf)
  clear hc; subst this
  refine ⟨fd,fd++[x],bod,rfl,hR.fdn,by simp [bA,cells],⟨rfl,by simp [eA],?_,fun b hb=>Nat.le_succ_of_le (hR.bn b hb),nofun,by simp [bZ]⟩,rfl⟩
  rw [List.length_append]; exact Nat.succ_le_succ hR.fdn
 | cons i is =>
  obtain ⟨f,fs',rfl,h1,h2,h3,h4,h5⟩:=hR.rf
  obtain ⟨v,tk,dn,cur⟩:=f
  cases cur with
  | none=>exact absurd rfl hc
  | some q =>
   clear hc; obtain ⟨k,ys⟩:=q
   have h3:=(show BrR bod i.brs (dn++[(k,ys)]) from h3)
   obtain ⟨r1,j,e1,q1,q2,q3⟩:=h3.split
   have hh:bA (i::is)=j:=by simp [bA,e1]
   have nd:=hR.nd
   have nd:=(show (i.brs.map (·.2)++eA is).Nodup from nd)
   rw [e1,List.map_append,List.append_assoc] at nd
   obtain ⟨nd1,nd2,nd3⟩:=List.nodup_append.mp nd; clear nd
   have nd4:=List.nodup_cons.mp (show (j::eA is).Nodup from nd2)
   have hlt:j - 2 < bod.length:=by
    obtain ⟨hlt,_⟩:=List.getElem?_eq_some_iff.mp q3
    exact hlt
   have oth:∀ j',j' ≠ j→2 ≤ j'∨True→∀ zs,bod[j' - 2]? = some zs→(j' - 2 ≠ j - 2)→(bod.set (j - 2) (ys++[x]))[j' - 2]? = some zs:=fun j' _ _ zs e hne=>by
    rw [List.getElem?_set_ne (Ne.symm hne)]; exact e
   have ge2:∀ {r:List (Str×Nat)} {s:List (Str×List PV)},BrR bod r s→∀ q ∈ r,2 ≤ q.2:=by
    intro r
    induction r with
    | nil=>intro s _ q hq; cases hq
    | cons a r ih =>
     obtain ⟨k',j'⟩:=a
     intro s h q hq
     obtain ⟨_,_,_,g1,_,g3⟩:=h
     rcases List.mem_cons.mp hq with rfl | hq
     ·exact g1
     ·exact ih g3 q hq
   have ge2F:∀ {is:List IFr} {fs:List SF},dT bod is fs→∀ j' ∈ eA is,2 ≤ j':=by
    intro is
    induction is with
    | nil=>intro fs _ j' hj; cases hj
    | cons a is ih =>
     intro fs h j' hj
     obtain ⟨_,_,_,_,_,g3,_,g5⟩:=h
     rcases List.mem_append.mp hj with hj | hj
     ·obtain ⟨q,hq,z1⟩:=List.mem_map.mp hj; clear hj; subst z1; exact ge2 g3 q hq
     ·exact ih g5 j' hj
   refine ⟨ys,fd,bod.set (j - 2) (ys++[x]),?_,?_,?_,⟨?_,hR.nd,Nat.le_succ_of_le hR.fdn,?_,?_,?_⟩,rfl⟩
   ·rw [hh]
    clear e1 nd2 nd3 nd4 hlt oth; obtain ⟨j2,z1⟩:∃ j2,j=j2 + 2:=⟨j - 2,(eR q2).symm⟩; clear q2 hh; subst z1
    show (bod.map (·.map V.pv))[j2]? = _
    rw [List.getElem?_map,show bod[j2]? = some ys from by simpa using q3]
    rfl
   ·exact hR.bn ys (List.mem_of_getElem? q3)
   ·rw [hh]
    clear e1 q3 nd2 nd3 nd4 hlt oth; obtain ⟨j2,z1⟩:∃ j2,j=j2 + 2:=⟨j - 2,(eR q2).symm⟩; clear q2 hh; subst z1
    show fd.map V.pv::plV (i::is)::(bod.map (·.map V.pv)).set j2 ((ys++[x]).map V.pv)=fd.map V.pv::plV (i::is)::(bod.set (j2 + 2 - 2) (ys++[x])).map (·.map V.pv)
    rw [List.map_set]
    rfl
   ·refine ⟨_,fs',rfl,h1,h2,?_,h4,h5.other fun j' hj' zs hz=>oth j' (fun q=>nd4.1 (q ▸ hj')) (.inr trivial) zs hz ?_⟩
    ·show BrR _ i.brs (dn++[(k,ys++[x])])
     rw [e1]
     refine BrR.app (q1.other fun q hq zs hz=>oth q.2 ?_ (.inr trivial) zs hz ?_) ⟨ys++[x],[],rfl,q2,by rw [List.getElem?_set_self hlt],rfl⟩
     ·exact fun e=>nd3 q.2 (List.mem_map_of_mem hq) j (by exact (.head _)) e
     ·have g:=ge2 q1 q hq
      exact sb2 g q2 fun e=>nd3 q.2 (List.mem_map_of_mem hq) j (by exact (.head _)) e
    ·have g:=ge2F h5 j' hj'
     exact sb2 g q2 fun q=>nd4.1 (q ▸ hj')
   ·intro b hb
    rcases List.mem_or_eq_of_mem_set hb with hb | rfl
    ·exact Nat.le_succ_of_le (hR.bn b hb)
    ·rw [List.length_append]; exact Nat.succ_le_succ (hR.bn ys (List.mem_of_getElem? q3))
   ·intro f hf
    rcases List.mem_cons.mp hf with rfl | hf
    ·have:=hR.vt _ (List.mem_cons_self ..)
     simpa [SF.app,SF.brs] using this
    ·exact hR.vt f (List.mem_cons_of_mem _ hf)
   ·simpa [bZ] using hR.len
theorem vJ {a b:List V} {bod:List (List PV)} {j:Nat} {ys:List PV} (hj:2 ≤ j) (h:bod[j - 2]? = some ys):(a::b::bod.map (·.map V.pv))[j]? = some (ys.map V.pv):=by
 obtain ⟨j2,z1⟩:∃ j2,j=j2 + 2:=⟨j - 2,(eR hj).symm⟩; clear hj; subst z1
 show (bod.map (·.map V.pv))[j2]? = _
 rw [List.getElem?_map,show bod[j2]? = some ys from by simpa using h]
 rfl
section
variable {u n:Nat} {g:List GCell} {a b:List V} {bod:List (List PV)}
theorem vS (hn:n ≤ 1000000) (hb:∀ b ∈ bod,b.length ≤ n):∀ {r:List (Str×Nat)} {s:List (Str×List PV)},BrR bod r s→compTup (sys TT aA (u + 1)).call r ⟨g,a::b::bod.map (·.map V.pv)⟩=some ((cZ s).map V.pv,⟨g,a::b::bod.map (·.map V.pv)⟩)
 | [],s,h=>by rw [show s=[] from h]; rfl
 | (k,j)::r,s,h=>by
  obtain ⟨ys,s',rfl,h1,h2,h3⟩:=h
  have h4:=tT u (g:=g) (vJ (a:=a) (b:=b) h1 h2) (Nat.le_trans (hb ys (List.mem_of_getElem? h2)) hn)
  show Rbind (Rbind (Rbind (Rbind ((sys TT aA (u + 1)).call tupF [.li j]) fun b=>Rpure [b]) fun bs=>Rpure (.pv (.str k)::bs)) fun vs=>Rpure (mkTup vs)) _ _=_
  rw [aE (a:=V.pv (brT k ys)) (σ₁:=⟨g,a::b::bod.map (·.map V.pv)⟩)]
  ·rw [aE (vS hn hb h3)]
   rfl
  ·rw [aE (a:=[V.pv (.str k),V.pv (.tup ys)]) (σ₁:=⟨g,a::b::bod.map (·.map V.pv)⟩)]
   ·rfl
   ·rw [aE (a:=[V.pv (.tup ys)]) (σ₁:=⟨g,a::b::bod.map (·.map V.pv)⟩)]
    ·rfl
    ·rw [aE h4]; rfl
theorem vQ (hn:n ≤ 1000000) (hb:∀ b ∈ bod,b.length ≤ n):∀ {r:List (Str×Nat)} {s:List (Str×List PV)},BrR bod r s→compB (sys TT aA (u + 1)).call r ⟨g,a::b::bod.map (·.map V.pv)⟩=some ((s.map fun q=>PV.tup q.2).map V.pv,⟨g,a::b::bod.map (·.map V.pv)⟩)
 | [],s,h=>by rw [show s=[] from h]; rfl
 | (k,j)::r,s,h=>by
  obtain ⟨ys,s',rfl,h1,h2,h3⟩:=h
  have h4:=tT u (g:=g) (vJ (a:=a) (b:=b) h1 h2) (Nat.le_trans (hb ys (List.mem_of_getElem? h2)) hn)
  show Rbind ((sys TT aA (u + 1)).call tupF [.li j]) _ _=_
  rw [aE h4,aE (vQ hn hb h3)]
  rfl
theorem aJO (v:Vb) (x:PV) (σ:aC):bS .Add (.pv (.tup v.tree)) (.pv (.tup [x])) σ=some (.pv (.tup (v.tree++[x])),σ):=by cases v <;> kernel_rfl
theorem aFz (x:PV) (xs:List PV) (h:xs.length ≤ 4) (σ:aC):bS .Add (.pv (.lst xs)) (.pv (.lst [x])) σ=some (.pv (.lst (xs++[x])),σ):=by
 match xs,h with
 | [],_=>kernel_rfl
 | [_],_=>kernel_rfl
 | [_,_],_=>kernel_rfl
 | [_,_,_],_=>kernel_rfl
 | [_,_,_,_],_=>kernel_rfl
 | _::_::_::_::_::_,h=>exact absurd h (by simp)
theorem aCA {v:Vb} {r:List (Str×Nat)} {s:List (Str×List PV)} {home:Nat} {env:aB} {xs:List V} (hn:n ≤ 1000000) (hb:∀ b ∈ bod,b.length ≤ n) (h:BrR bod r s) (hs:s.length ≤ 4) (hx:(a::b::bod.map (·.map V.pv))[home]? = some xs) (hxs:xs.length ≤ 1000000) :
 clR (sys TT aA (u + 1)).call v r home env ⟨g,a::b::bod.map (·.map V.pv)⟩=some ((Fl.next,env),⟨g,(a::b::bod.map (·.map V.pv)).set home (xs++[.pv (bY v (cZ s))])⟩):=by
 unfold clR
 have hl:(cZ s).length ≤ 1000000:=mln (lel hs rfl)
 have e1:Rbind (Rbind (compTup (sys TT aA (u + 1)).call r) fun xs=>Rpure (mkVl xs)) (fun b=>Rpure [b]) ⟨g,a::b::bod.map (·.map V.pv)⟩=some ([.pv (.lst (cZ s))],⟨g,a::b::bod.map (·.map V.pv)⟩):=by
  rw [aE (a:=V.pv (.lst (cZ s))) (σ₁:=⟨g,a::b::bod.map (·.map V.pv)⟩)]
  ·rfl
  ·rw [aE (vS hn hb h)]
   show some (mkVl ((cZ s).map V.pv),_)=_
   rw [iU]
 rw [aE (a:=V.pv .none) (σ₁:=⟨g,(a::b::bod.map (·.map V.pv)).set home (xs++[.pv (bY v (cZ s))])⟩)]
 ·rfl
 ·rw [aE (a:=[V.pv (bY v (cZ s))]) (σ₁:=⟨g,a::b::bod.map (·.map V.pv)⟩)]
  ·exact jY hx hxs
  ·rw [aE (a:=V.pv (bY v (cZ s))) (σ₁:=⟨g,a::b::bod.map (·.map V.pv)⟩)]
   ·rfl
   ·rw [aE (a:=V.pv (.tup [.tup (cZ s)])) (σ₁:=⟨g,a::b::bod.map (·.map V.pv)⟩)]
    ·exact aJO v _ _
    ·rw [aE (a:=[V.pv (.tup (cZ s))]) (σ₁:=⟨g,a::b::bod.map (·.map V.pv)⟩)]
     ·rfl
     ·rw [aE (a:=V.pv (.tup (cZ s))) (σ₁:=⟨g,a::b::bod.map (·.map V.pv)⟩)]
      ·rfl
      ·rw [aE e1]
       exact aJW u hl
end
def Tl (tl:aB):Prop:=tl=[]∨(∃ f,tl=six f [])∨∃ f x,tl=six f (boT x)
theorem aAN {α:Type} {P:List α→Prop} (x0:α) (h:∀ x1 x2 x3 x4:α,∀ pl ∈ [[],[x1],[x1,x2],[x1,x2,x3],[x1,x2,x3,x4]],P pl):∀ pl:List α,pl.length ≤ 4→P pl
 | [],_=>h x0 x0 x0 x0 _ (List.mem_of_getElem? (i:=0) rfl)
 | [a],_=>h a x0 x0 x0 _ (List.mem_of_getElem? (i:=1) rfl)
 | [a,b],_=>h a b x0 x0 _ (List.mem_of_getElem? (i:=2) rfl)
 | [a,b,c],_=>h a b c x0 _ (List.mem_of_getElem? (i:=3) rfl)
 | [a,b,c,d],_=>h a b c d _ (List.mem_of_getElem? (i:=4) rfl)
 | _::_::_::_::_::_,hl=>absurd hl (Nat.not_le_of_gt (Nat.le_add_left 5 _))
theorem i0 (i:IFr) (is:List IFr):plV (i::is)=plV is++[frV i]:=by simp [plV]
theorem aAR:∀ q ∈ vts,q.2 ≤ 4:=by
 have h:(vts.all fun q=>Nat.ble q.2 4)=true:=by kernel_rfl
 intro q hq
 rw [List.all_eq_true] at h
 exact Nat.le_of_ble_eq_true (h q hq)
theorem aCN {m n many:Nat} {g:List GCell} {fd:List PV} {f:SF} {fs:List SF} {i:IFr} {is:List IFr} {bod:List (List PV)} {tl:aB} (hn:n ≤ 100000) (hR:a8 n fd (f::fs) (i::is) bod) (hw:Wf f) (hc:hM fs) (ht:Tl tl) :
 ∃ tl' fd' bod',Tl tl'∧blk (D (sys TT aA (m + 20))) fiC (a0 many tl) (whB (stm 103 0)) ⟨g,cells fd (i::is) bod⟩=some ((.next,a0 many tl'),⟨g,cells fd' is bod'⟩)∧a8 (n + 1) fd' (bZ fd fs (bJ f)).2 is bod'∧fd' = (bZ fd fs (bJ f)).1:=by
 obtain ⟨f0,fs0,e0,h1,h2,h3,h4,h5⟩:=hR.rf
 cases e0
 have hR' : a8 n fd fs is bod:=⟨h5,(List.nodup_append.mp hR.nd).2.1,hR.fdn,hR.bn,fun x hx=>hR.vt x (List.mem_cons_of_mem _ hx),Nat.le_of_succ_le hR.len⟩
 obtain ⟨ys,fd',bod',a1,a2,a3,a4,a5⟩:=z9 (x:=bJ f) hR' hc
 have hvt:=hR.vt f (by exact (.head _))
 have hb4:f.brs.length ≤ 4:=Nat.le_trans hvt.2 (aAR _ hvt.1)
 have hi4:i.brs.length ≤ 4:=by rw [h3.len]; exact hb4
 have p1:(D (sys TT aA (m + 20))).ex fiC (a0 many tl) (whS (stm 103 0) 0) ⟨g,cells fd (i::is) bod⟩=(Rbind (oneOf (bindT fiC 9 (asT (whS (stm 103 0) 0)) (frV i) (a0 many tl))) fun env'=>Rpure (Fl.next,env')) ⟨g,cells fd is bod⟩:=by
  rw [aCI]
  show Rbind _ _ ⟨g,fd.map V.pv::plV (i::is)::_⟩=_
  rw [i0,aE (yJ (by rw [dO,h5.len]; exact lel hR.len rfl))]
 have p2:∃ tl2,(tl2=[]∨∃ x,tl2=boT x)∧(D (sys TT aA (m + 20))).ex fiC (a0 many tl) (whS (stm 103 0) 0) ⟨g,cells fd (i::is) bod⟩=some ((.next,a0 many (six i tl2)),⟨g,cells fd is bod⟩):=by
  have hb:=fun f0 x=>aCC many f0 i x
  simp only [List.map_cons,List.map_nil,List.cons.injEq,and_true] at hb
  rcases ht with rfl | ⟨f0,rfl⟩ | ⟨f0,x,rfl⟩
  ·exact ⟨[],.inl rfl,by rw [p1,(hb i (.pv .none)).1]; rfl⟩
  ·exact ⟨[],.inl rfl,by rw [p1,(hb f0 (.pv .none)).2.1]; rfl⟩
  ·exact ⟨boT x,.inr ⟨x,rfl⟩,by rw [p1,(hb f0 x).2.2]; rfl⟩
 clear hvt; obtain ⟨tl2,ht2,p2⟩:=p2
 have htm:∃ x,tl2 ∈ [[],boT x]:=by
  clear p2; rcases ht2 with rfl | ⟨x,rfl⟩
  ·exact ⟨.pv .none,by exact (.head _)⟩
  ·exact ⟨x,by exact (.tail _ (.head _))⟩
 obtain ⟨x0,htm⟩:=htm
 have hT2:∀ f0,Tl (six f0 tl2):=fun f0=>by
  clear p2 htm; rcases ht2 with rfl | ⟨x,rfl⟩
  ·exact .inr (.inl ⟨f0,rfl⟩)
  ·exact .inr (.inr ⟨f0,x,rfl⟩)
 have hys:(ys.map V.pv).length ≤ 1000000:=mln (Nat.le_trans a2 (lel hn rfl))
 have hset:(cells fd is bod).set (bA is) (ys.map V.pv++[.pv (bJ f)])=cells fd' is bod':=by rw [← a3]; simp
 clear a3; obtain ⟨iv,itk,ibrs,ihome⟩:=i
 simp only at h1 h2 h3 h4 hi4
 subst h1 h2 h4
 by_cases hv:f.v = .iff
 ·
  clear hb4; obtain ⟨v,tk,dn,cur⟩:=f
  simp only at hv
  subst hv
  have two:∃ s xs zs,(SF.brs ⟨.iff,tk,dn,cur⟩=s)∧(s.map fun q=>PV.tup q.2)++[.tup []]=zs∧((zs=[.tup xs,.tup []]∧s.length=1∧bJ ⟨.iff,tk,dn,cur⟩=ifT xs [])∨∃ ws,zs=[.tup xs,.tup ws,.tup []]∧s.length=2∧bJ ⟨.iff,tk,dn,cur⟩=ifT xs ws):=by
   clear a4 a5 hset h3 hR p1 p2; rcases hw with ⟨ys,w⟩ | ⟨xs,ys,w⟩
   ·obtain ⟨_,z1,z2,z3⟩:=SF.mk.inj w; clear w; subst z1 z2 z3
    exact ⟨_,ys,_,rfl,rfl,.inl ⟨rfl,rfl,rfl⟩⟩
   ·obtain ⟨_,z1,z2,z3⟩:=SF.mk.inj w; clear w; subst z1 z2 z3
    exact ⟨_,xs,_,rfl,rfl,.inr ⟨ys,rfl,rfl,rfl⟩⟩
  obtain ⟨s,xs,zs,e1,e2,e3⟩:=two
  rw [e1] at h3
  have hs2:s.length=1∨s.length=2:=by
   rcases e3 with ⟨_,e,_⟩ | ⟨_,_,e,_⟩
   ·exact .inl e
   ·exact .inr e
  have q1:(E (sys TT aA (m + 20))).ex fiC (a0 many (six ⟨.iff,tk,ibrs,bA is⟩ tl2)) (thS (whS (stm 103 0) 1) 0) ⟨g,cells fd is bod⟩=some ((.next,a0 many (six ⟨.iff,tk,ibrs,bA is⟩ (boT (.pv (.lst zs))))),⟨g,cells fd is bod⟩):=by
   have go:∀ k1 k2 j1 j2,ibrs ∈ [[(k1,j1)],[(k1,j1),(k2,j2)]]→(E (sys TT aA (m + 20))).ex fiC (a0 many (six ⟨.iff,tk,ibrs,bA is⟩ tl2)) (thS (whS (stm 103 0) 1) 0) ⟨g,cells fd is bod⟩=some ((.next,a0 many (six ⟨.iff,tk,ibrs,bA is⟩ (boT (.pv (.lst zs))))),⟨g,cells fd is bod⟩):=fun k1 k2 j1 j2 hm=>by
    have:=aJ (aJ (aCE (sys TT aA (m + 20)).call (sys TT aA (m + 20)) many tk (bA is) k1 k2 j1 j2 x0 ⟨g,cells fd is bod⟩) tl2 htm) ibrs hm
    rw [bH] at this
    rw [this]
    have b1:Rbind (Rbind (compB (sys TT aA (m + 20)).call ibrs) fun xs=>Rpure (mkVl xs)) (fun a=>bS .Add a (.pv (.lst [.tup []]))) ⟨g,cells fd is bod⟩=some (.pv (.lst zs),⟨g,cells fd is bod⟩):=by
     rw [aE (a:=V.pv (.lst (s.map fun q=>PV.tup q.2))) (σ₁:=⟨g,cells fd is bod⟩)]
     ·rw [aFz _ _ (mln (hs2.elim (fun e=>el e (by decide)) fun e=>el e (by decide))),e2]
     ·rw [aE (vQ (u:=m + 19) (n:=n) (lel hn rfl) hR.bn h3)]
      show some (mkVl ((s.map fun q=>PV.tup q.2).map V.pv),_)=_
      rw [iU]
    rw [aE b1,aJ (aCF many ⟨.iff,tk,ibrs,bA is⟩ x0 (.pv (.lst zs))) tl2 htm]
    rfl
   have hil:=h3.len
   rcases ibrs with _ | ⟨⟨k1,j1⟩,_ | ⟨⟨k2,j2⟩,_ | ⟨_,_⟩⟩⟩
   ·exact hs2.elim (fun e=>absurd (hil.trans e) (by decide)) fun e=>absurd (hil.trans e) (by decide)
   ·exact go k1 k1 j1 j1 (.head _)
   ·exact go k1 k2 j1 j2 (.tail _ (.head _))
   ·exact hs2.elim (fun e=>absurd (hil.trans e) (by simp)) fun e=>absurd (hil.trans e) (by simp)
  have q2:(E (sys TT aA (m + 20))).ex fiC (a0 many (six ⟨.iff,tk,ibrs,bA is⟩ (boT (.pv (.lst zs))))) (thS (whS (stm 103 0) 1) 1) ⟨g,cells fd is bod⟩=some ((.next,a0 many (six ⟨.iff,tk,ibrs,bA is⟩ (boT (.pv (.lst zs))))),⟨g,cells fd' is bod'⟩):=by
   have:=fun ws=>aCH (sys TT aA (m + 20)) many tk (bA is) ibrs xs ws ⟨g,cells fd is bod⟩
   simp only [List.map_cons,List.map_nil,List.cons.injEq,and_true] at this
   rcases e3 with ⟨e3,_,e4⟩ | ⟨ws,e3,_,e4⟩
   ·rw [e3,(this []).1,← e4,aE (jY a1 hys),hset]
    rfl
   ·rw [e3,(this ws).2,← e4,aE (jY a1 hys),hset]
    rfl
  refine ⟨six ⟨.iff,tk,ibrs,bA is⟩ (boT (.pv (.lst zs))),fd',bod',.inr (.inr ⟨_,_,rfl⟩),?_,a4,a5⟩
  rw [vL,aO p2,aO (env':=a0 many (six ⟨.iff,tk,ibrs,bA is⟩ (boT (.pv (.lst zs))))) (σ₁:=⟨g,cells fd' is bod'⟩)]
  ·rfl
  ·rw [aCJ,aO q1,aO q2]
   rfl
 ·
  have hm5:f.v ∈ [Vb.add,.sub,.rd,.del,.call]:=by cases h:f.v <;> first | exact absurd h hv | simp
  have hct:bJ f=bY f.v (cZ f.brs):=by
   clear hw a4 a5 hb4 hset h3 hR p1 p2 hm5; obtain ⟨v,tk,dn,cur⟩:=f
   cases v <;> first | rfl | exact absurd rfl hv
  have q1:(E (sys TT aA (m + 20))).ex fiC (a0 many (six ⟨f.v,f.tk,ibrs,bA is⟩ tl2)) (elS (whS (stm 103 0) 1) 0) ⟨g,cells fd is bod⟩=some ((.next,a0 many (six ⟨f.v,f.tk,ibrs,bA is⟩ tl2)),⟨g,cells fd' is bod'⟩):=by
   have go:∀ x1 x2 x3 x4:Str×Nat,∀ pl ∈ [[],[x1],[x1,x2],[x1,x2,x3],[x1,x2,x3,x4]],(E (sel nS (sys TT aA (m + 20)).call (sys TT aA (m + 20)))).ex fiC (a0 many (six ⟨f.v,f.tk,pl,bA is⟩ tl2)) (elS (whS (stm 103 0) 1) 0) ⟨g,cells fd is bod⟩=clR (sys TT aA (m + 20)).call f.v pl (bA is) (a0 many (six ⟨f.v,f.tk,pl,bA is⟩ tl2)) ⟨g,cells fd is bod⟩:=fun x1 x2 x3 x4 pl hm =>
    aJ (aJ (aJ (aCB (sys TT aA (m + 20)).call (sys TT aA (m + 20)) many f.tk (bA is) x1.1 x2.1 x3.1 x4.1 x1.2 x2.2 x3.2 x4.2 x0 ⟨g,cells fd is bod⟩) tl2 htm) f.v hm5) pl hm
   have:=aAN (gP,0) go ibrs hi4
   rw [bH] at this
   rw [this,aCA (u:=m + 19) (n:=n) (lel hn rfl) hR.bn h3 hb4 a1 hys,← hct,hset]
  refine ⟨six ⟨f.v,f.tk,ibrs,bA is⟩ tl2,fd',bod',hT2 _,?_,a4,a5⟩
  rw [vL,aO p2,aO (env':=a0 many (six ⟨f.v,f.tk,ibrs,bA is⟩ tl2)) (σ₁:=⟨g,cells fd' is bod'⟩)]
  ·rfl
  ·rw [aJ (aCG (sys TT aA (m + 20)) many f.tk (bA is) ibrs tl2 ⟨g,cells fd is bod⟩) f.v hm5,aO q1]
   rfl
def f9 (fs:List SF):Prop:=(∀ f ∈ fs,Wf f)∧∀ f r,fs=f::r→∀ g ∈ r,g.cur ≠ none
theorem a8.mono {n n' : Nat} {fd:List PV} {fs:List SF} {is:List IFr} {bod:List (List PV)} (h:a8 n fd fs is bod) (hn:n ≤ n'):a8 n' fd fs is bod :=
 ⟨h.rf,h.nd,Nat.le_trans h.fdn hn,fun b hb=>Nat.le_trans (h.bn b hb) hn,h.vt,h.len⟩
theorem aCO {many:Nat} {fd:List PV} {fs:List SF} {x:PV}:aV many fd fs [x]=aV many (bZ fd fs x).1 (bZ fd fs x).2 []:=by
 cases fs with
 | nil=>show (fd++[x],[])=(fd++[x]++[],[]); simp
 | cons f fs =>
  show aV many fd (f::fs) [x]=aV many fd (f.app [x]::fs) []
  show (match Nat.blt fs.length many with | true=>(fd,f.app [x]::fs) | false=>aV many fd fs [bJ (f.app [x])])=(match Nat.blt fs.length many with | true=>(fd,(f.app [x]).app []::fs) | false=>aV many fd fs [bJ ((f.app [x]).app [])])
  rw [eV]
theorem aHh {fd:List PV} {f:SF} {fs:List SF} {x:PV} (h:f9 (f::fs)):f9 (bZ fd fs x).2 :=
 ⟨lX (fun _ h=>gA h) fun g hg=>h.1 g (.tail _ hg),fun a r e y hy=>lX (p:=fun f=>f.cur ≠ none) (fun _ h=>pZ h) (h.2 f _ rfl) y (e.symm ▸ List.mem_cons_of_mem a hy)⟩
theorem aHD {f:SF} {fs:List SF} (h:f9 (f::fs)):hM fs:=by
 cases fs with
 | nil=>trivial
 | cons g gs=>exact h.2 f _ rfl g (by exact (.head _))
theorem aCS {m many:Nat} {g:List GCell} (hm:many ≤ 8):∀ (k:Nat) {fs:List SF} {fd:List PV} {is:List IFr} {bod:List (List PV)} {n:Nat} {tl:aB} {fuel:Nat},fs.length=k→a8 n fd fs is bod→f9 fs→Tl tl→n + k ≤ 100000→k < fuel →
 ∃ tl' fd' is' bod',f7 (D (sys TT aA (m + 20))) fiC (whT (stm 103 0)) (whB (stm 103 0)) fuel (a0 many tl) ⟨g,cells fd is bod⟩=some ((.next,a0 many tl'),⟨g,cells fd' is' bod'⟩) ∧
  a8 (n + k) fd' (aV many fd fs []).2 is' bod'∧fd' = (aV many fd fs []).1:=by
 intro k
 induction k with
 | zero =>
  intro fs fd is bod n tl fuel hk hR hr ht hn hf
  clear hr; obtain ⟨fuel,z1⟩:∃ f,fuel=f + 1:=⟨fuel - 1,(eR (Nat.zero_lt_of_lt hf)).symm⟩; clear hf; subst z1
  have hfs:fs=[]:=List.length_eq_zero_iff.mp hk
  clear hk; subst hfs
  have his:is=[]:=List.length_eq_zero_iff.mp (by rw [hR.rf.len]; rfl)
  subst his
  have q1:=aJ (aJ (vM m tl g (.pv .none) (.pv .none) (.pv .none) (.pv .none) (.pv .none) (.pv .none) (.pv .none) (.pv .none) (fd.map V.pv) (bod.map (·.map V.pv))) [] (by exact (.head _))) many (List.mem_range.mpr (Nat.lt_succ_of_le hm))
  refine ⟨tl,fd,[],bod,?_,hR,by show fd=fd++[]; simp⟩
  show Rbind _ _ _=_
  have q1:(D (sys TT aA (m + 20))).tr fiC (a0 many tl) (whT (stm 103 0)) ⟨g,cells fd [] bod⟩=some (Nat.blt many 0,⟨g,cells fd [] bod⟩):=q1
  rw [aE q1,show Nat.blt many 0=false from rfl]
  rfl
 | succ k ih =>
  intro fs fd is bod n tl fuel hk hR hr ht hn hf
  obtain ⟨fuel,rfl⟩:∃ f,fuel=f + 1:=⟨fuel - 1,(eR (Nat.zero_lt_of_lt hf)).symm⟩
  obtain ⟨f,r,rfl⟩:∃ f r,fs=f::r:=by
   clear hR hr; cases fs with
   | nil=>cases hk
   | cons f r=>exact ⟨f,r,rfl⟩
  have hkr:r.length=k:=by simpa using hk
  have hil:is.length=k + 1:=by rw [hR.rf.len,hk]
  have q1:(D (sys TT aA (m + 20))).tr fiC (a0 many tl) (whT (stm 103 0)) ⟨g,cells fd is bod⟩=some (Nat.blt many (k + 1),⟨g,cells fd is bod⟩):=by
   have:=pI (P:=fun pl=>(D (sys TT aA (m + 20))).tr fiC (a0 many tl) (whT (stm 103 0)) ⟨g,fd.map V.pv::pl::bod.map (·.map V.pv)⟩=some (Nat.blt many pl.length,⟨g,fd.map V.pv::pl::bod.map (·.map V.pv)⟩)) (.pv .none)
    (fun x1 x2 x3 x4 x5 x6 x7 x8 pl hp=>aJ (aJ (vM m tl g x1 x2 x3 x4 x5 x6 x7 x8 (fd.map V.pv) (bod.map (·.map V.pv))) pl hp) many (List.mem_range.mpr (Nat.lt_succ_of_le hm))) (plV is) (by rw [dO,hil,← hk]; exact hR.len)
   rw [dO,hil] at this
   exact this
  have e:aV many fd (f::r) []=(match Nat.blt r.length many with | true=>(fd,f.app []::r) | false=>aV many fd r [bJ (f.app [])]):=rfl
  refine boolF (b:=Nat.blt many (k + 1)) (fun hb=>?_) fun hb=>?_
  ·have hge:k + 1 ≤ many:=by
    rcases Nat.lt_or_ge many (k + 1) with q | q
    ·have:=Nat.ble_eq_true_of_le q
     rw [show Nat.blt many (k + 1)=true from this] at hb; exact tf hb
    ·exact q
   have hb2:Nat.blt r.length many=true:=Nat.ble_eq_true_of_le (el (congrArg Nat.succ hkr) hge)
   rw [e,hb2,eV]
   refine ⟨tl,fd,is,bod,?_,hR.mono (Nat.le_add_right _ _),rfl⟩
   show Rbind _ _ _=_
   rw [aE q1,hb]
   rfl
  ·have hlt:many ≤ k:=Nat.le_of_lt_succ (Nat.le_of_ble_eq_true hb)
   have hb2:Nat.blt r.length many=false:=by
    cases q:Nat.blt r.length many with
    | false=>rfl
    | true=>exact absurd (el (congrArg Nat.succ hkr).symm (Nat.le_trans (Nat.le_of_ble_eq_true q) hlt)) (Nat.not_succ_le_self k)
   rw [e,hb2,eV]
   obtain ⟨i,is',rfl⟩:∃ i is',is=i::is':=by
    clear hR q1; cases is with
    | nil=>cases hil
    | cons i is'=>exact ⟨i,is',rfl⟩
   obtain ⟨tl1,fd1,bod1,t1,r1,R1,e1⟩:=aCN (m:=m) (many:=many) (g:=g) (adl hn rfl) hR (hr.1 f (by exact (.head _))) (aHD hr) ht
   subst e1
   obtain ⟨tl2,fd2,is2,bod2,r2,R2,e2⟩:=ih (fs:=(bZ fd r (bJ f)).2) (fuel:=fuel) (by rw [sX]; exact hkr) R1 (aHh hr) t1 (by rw [Nat.add_assoc,Nat.add_comm 1]; exact hn) (Nat.lt_of_succ_lt_succ hf)
   dsimp only
   rw [aCO]
   refine ⟨tl2,fd2,is2,bod2,?_,R2.mono (Nat.le_of_eq (Nat.add_right_comm n 1 k)),e2⟩
   show Rbind _ _ _=_
   rw [aE q1,hb]
   show Rbind (blk _ _ _ _) _ _=_
   rw [aE r1]
   exact r2
theorem nC {m many n:Nat} {g:List GCell} {fs:List SF} {fd:List PV} {is:List IFr} {bod:List (List PV)} (hm:many ≤ 8) (hR:a8 n fd fs is bod) (hr:f9 fs) (hn:n ≤ 90000) :
 ∃ is' bod',(sys TT aA (m + 22)).call (fn 865) [.li 1,.pv (.int (.ofNat many))] ⟨g,cells fd is bod⟩=some (.pv .none,⟨g,cells (aV many fd fs []).1 is' bod'⟩)∧a8 (n + 8) (aV many fd fs []).1 (aV many fd fs []).2 is' bod':=by
 have hl:=hR.len
 obtain ⟨tl',fd',is',bod',h1,h2,h3⟩:=aCS (m:=m) (g:=g) hm fs.length rfl hR hr (.inl rfl) (fuel:=eZ) (le2 hn hl rfl) (show _ < 5000 from lll hl rfl)
 subst h3
 refine ⟨is',bod',?_,h2.mono (Nat.add_le_add_left hl n)⟩
 rw [cK,aCD]
 rw [aE (a:=(Fl.next,a0 many tl')) (σ₁:=⟨g,cells (aV many fd fs []).1 is' bod'⟩)]
 ·rfl
 ·rw [aO (by rw [aCK]; exact h1)]
  rfl
noncomputable abbrev fiO:FI:=cP 872 (aF 104)
noncomputable def bN (rw:V) (tl:aB):aB:=("pile",.li 1)::("row",rw)::("found",.li 0)::tl
noncomputable def hmT (h:Nat):aB:=[("home",.li h)]
noncomputable def fR (r h:Nat):aB:=match bM r with
 | .tup [a,b,c,d]=>bN (.pv (bM r)) [("home",.li h),("verb",.pv a),("tokens",.pv b),("tree",.pv c),("keys",.pv d)]
 | _=>[]
noncomputable def fr5 (x1 x2 x3 x4:V) (brs:List (Str×Nat)) (h:Nat):V:=.tup [x1,x2,x3,x4,brV brs,.li h]
theorem aGz (I:Sys) (rw:V) (σ:aC):bI TT aA (C I) (fn 872) [.li 1,rw,.li 0] σ=(Rbind (blk (C I) fiO (bN rw []) [stm 104 0,stm 104 1,stm 104 2,stm 104 3]) fnK) σ:=by kernel_rfl
theorem aGr (m:Nat) (rw:V) (g:List GCell) (l0:List V) (bod:List (List V)):(C (sys TT aA (m + 20))).ex fiO (bN rw []) (stm 104 0) ⟨g,l0::[]::bod⟩=some ((.next,bN rw []),⟨g,l0::[]::bod⟩):=by kernel_rfl
theorem aGq (m:Nat) (rw:V) (g:List GCell) (y1 y2 y3 y4 y5 y6 y7 x1 x2 x3 x4:V) (k1 k2 k3 k4:Str) (j1 j2 j3 j4 h:Nat) (l0:List V) (bod:List (List V)) :
 ([[],[y1],[y1,y2],[y1,y2,y3],[y1,y2,y3,y4],[y1,y2,y3,y4,y5],[y1,y2,y3,y4,y5,y6],[y1,y2,y3,y4,y5,y6,y7]].map fun ys=>[[(k1,j1)],[(k1,j1),(k2,j2)],[(k1,j1),(k2,j2),(k3,j3)],[(k1,j1),(k2,j2),(k3,j3),(k4,j4)]].map fun brs=>(C (sys TT aA (m + 20))).ex fiO (bN rw []) (stm 104 0) ⟨g,l0::(ys++[fr5 x1 x2 x3 x4 brs h])::bod⟩) =
 [[],[y1],[y1,y2],[y1,y2,y3],[y1,y2,y3,y4],[y1,y2,y3,y4,y5],[y1,y2,y3,y4,y5,y6],[y1,y2,y3,y4,y5,y6,y7]].map fun ys=>[[(k1,j1)],[(k1,j1),(k2,j2)],[(k1,j1),(k2,j2),(k3,j3)],[(k1,j1),(k2,j2),(k3,j3),(k4,j4)]].map fun brs=>some ((.next,bN rw []),⟨g,l0::(ys++[fr5 x1 x2 x3 x4 brs h])::bod⟩):=by kernel_rfl
theorem aGs (c:V→List V→R V) (m:Nat) (rw:V) (g:List GCell) (y1 y2 y3 y4 y5 y6 y7 x1 x2 x3 x4:V) (h:Nat) (l0:List V) (bod:List (List V)) :
 ([[],[y1],[y1,y2],[y1,y2,y3],[y1,y2,y3,y4],[y1,y2,y3,y4,y5],[y1,y2,y3,y4,y5,y6],[y1,y2,y3,y4,y5,y6,y7]].map fun ys=>(C (sel (a6 865) c (sys TT aA (m + 20)))).ex fiO (bN rw []) (stm 104 0) ⟨g,l0::(ys++[fr5 x1 x2 x3 x4 [] h])::bod⟩) =
 [[],[y1],[y1,y2],[y1,y2,y3],[y1,y2,y3,y4],[y1,y2,y3,y4,y5],[y1,y2,y3,y4,y5,y6],[y1,y2,y3,y4,y5,y6,y7]].map fun ys=>(Rbind (Rbind (c (fn 865) [.li 1,.pv (.int (.ofNat ys.length))]) fun _=>Rpure (Fl.next,bN rw [])) fP) ⟨g,l0::(ys++[fr5 x1 x2 x3 x4 [] h])::bod⟩:=by kernel_rfl
theorem aGu (m:Nat) (rw:V) (g:List GCell) (l0:List V) (bod:List (List V)):(C (sys TT aA (m + 20))).ex fiO (bN rw []) (stm 104 1) ⟨g,l0::[]::bod⟩=some ((.next,bN rw (hmT 0)),⟨g,l0::[]::bod⟩):=by kernel_rfl
theorem aGt (m:Nat) (rw:V) (g:List GCell) (y1 y2 y3 y4 y5 y6 y7 x1 x2 x3 x4:V) (k1 k2 k3 k4:Str) (j1 j2 j3 j4 h:Nat) (l0:List V) (bod:List (List V)) :
 ([[],[y1],[y1,y2],[y1,y2,y3],[y1,y2,y3,y4],[y1,y2,y3,y4,y5],[y1,y2,y3,y4,y5,y6],[y1,y2,y3,y4,y5,y6,y7]].map fun ys=>[[(k1,j1)],[(k1,j1),(k2,j2)],[(k1,j1),(k2,j2),(k3,j3)],[(k1,j1),(k2,j2),(k3,j3),(k4,j4)]].map fun brs=>(C (sys TT aA (m + 20))).ex fiO (bN rw []) (stm 104 1) ⟨g,l0::(ys++[fr5 x1 x2 x3 x4 brs h])::bod⟩) =
 [[],[y1],[y1,y2],[y1,y2,y3],[y1,y2,y3,y4],[y1,y2,y3,y4,y5],[y1,y2,y3,y4,y5,y6],[y1,y2,y3,y4,y5,y6,y7]].map fun ys=>[([(k1,j1)],j1),([(k1,j1),(k2,j2)],j2),([(k1,j1),(k2,j2),(k3,j3)],j3),([(k1,j1),(k2,j2),(k3,j3),(k4,j4)],j4)].map fun q=>some ((.next,bN rw (hmT q.2)),⟨g,l0::(ys++[fr5 x1 x2 x3 x4 q.1 h])::bod⟩):=by kernel_rfl
theorem aGv (I:Sys) (h:Nat) (σ:aC):((List.range 7).map fun r=>(C I).ex fiO (bN (.pv (bM r)) (hmT h)) (stm 104 2) σ)=(List.range 7).map fun r=>some ((Fl.next,fR r h),σ):=by kernel_rfl
theorem aGw (I:Sys) (h:Nat) (σ:aC):(C I).ex fiO (fR 0 h) (stm 104 3) σ=(Rbind (Rbind (cD h "append" [.pv eF]) fun _=>Rpure (Fl.next,fR 0 h)) fP) σ:=by kernel_rfl
theorem aGx (I:Sys) (h:Nat) (σ:aC):([((1:Nat),Vb.add),(2,.sub),(3,.rd),(4,.del),(5,.call)].map fun q=>(C I).ex fiO (fR q.1 h) (stm 104 3) σ)=[((1:Nat),Vb.add),(2,.sub),(3,.rd),(4,.del),(5,.call)].map fun q=>(Rbind (Rbind (cD 1 "append" [frV ⟨q.2,0,[],h⟩]) fun _=>Rpure (Fl.next,fR q.1 h)) fP) σ:=by kernel_rfl
theorem aGy (I:Sys) (h:Nat) (g:List GCell) (l:List (List V)):(C I).ex fiO (fR 6 h) (stm 104 3) ⟨g,l⟩=(Rbind (Rbind (cD 1 "append" [frV ⟨.iff,1,[(s_then,l.length)],h⟩]) fun _=>Rpure (Fl.next,fR 6 h)) fP) ⟨g,l++[[]]⟩:=by kernel_rfl
noncomputable abbrev fiQ:FI:=cP 877 (aF 105)
noncomputable def c5 (many:Nat) (k:Str) (tl:aB):aB:=("pile",.li 1)::("many",.pv (.int (.ofNat many)))::("keys",dX k)::tl
noncomputable def keT (k:Str):aB:=[("key",.pv (.str k))]
noncomputable def gB:List (Str×Vb×Nat):=gJ.flatMap fun k=>(vts.filter fun q=>bE ⟨q.1,q.2,[],none⟩ k).map fun q=>(k,q)
theorem aJo (I:Sys) (many:Nat) (k:Str) (σ:aC):bI TT aA (C I) (fn 877) [.li 1,.pv (.int (.ofNat many)),dX k] σ=(Rbind (blk (C I) fiQ (c5 many k []) [stm 105 0,stm 105 1,stm 105 2,stm 105 3]) fnK) σ:=by kernel_rfl
theorem aJj (c:V→List V→R V) (I:Sys) (many:Nat) (k:Str) (σ:aC):(C (sel (a6 865) c I)).ex fiQ (c5 many k []) (stm 105 0) σ=(Rbind (c (fn 865) [.li 1,.pv (.int (.ofNat many))]) fun _=>Rpure (Fl.next,c5 many k [])) σ:=by kernel_rfl
theorem aJk (I:Sys) (many:Nat) (k:Str) (σ:aC):(C I).ex fiQ (c5 many k []) (stm 105 1) σ=(Rbind (cD 1 "pop" []) fun v=>Rbind (oneOf (bindT fiQ 9 (asT (stm 105 1)) v (c5 many k []))) fun env'=>Rpure (Fl.next,env')) σ:=by kernel_rfl
theorem aJl (many:Nat) (k:Str) (f:IFr):bindT fiQ 9 (asT (stm 105 1)) (frV f) (c5 many k [])=some (c5 many k (six f [])):=by kernel_rfl
theorem aJm (I:Sys) (many home:Nat) (brs:List (Str×Nat)) (σ:aC):(gB.map fun q=>(C I).ex fiQ (c5 many q.1 (six ⟨q.2.1,q.2.2,brs,home⟩ [])) (stm 105 2) σ)=gB.map fun q=>some ((Fl.next,c5 many q.1 (six ⟨q.2.1,q.2.2,brs,home⟩ (keT q.1))),σ):=by kernel_rfl
theorem aJn (I:Sys) (many home:Nat) (k1 k2 k3 k4:Str) (j1 j2 j3 j4:Nat) (g:List GCell) (l:List (List V)) :
 (gB.map fun q=>[[],[(k1,j1)],[(k1,j1),(k2,j2)],[(k1,j1),(k2,j2),(k3,j3)],[(k1,j1),(k2,j2),(k3,j3),(k4,j4)]].map fun brs=>(C I).ex fiQ (c5 many q.1 (six ⟨q.2.1,q.2.2,brs,home⟩ (keT q.1))) (stm 105 3) ⟨g,l⟩) =
 gB.map fun q=>[[],[(k1,j1)],[(k1,j1),(k2,j2)],[(k1,j1),(k2,j2),(k3,j3)],[(k1,j1),(k2,j2),(k3,j3),(k4,j4)]].map fun brs=>(Rbind (cD 1 "append" [frV ⟨q.2.1,kIdx q.1 q.2.1.own + 1,brs++[(q.1,l.length)],home⟩]) fun _=>Rpure (Fl.next,c5 many q.1 (six ⟨q.2.1,q.2.2,brs,home⟩ (keT q.1)))) ⟨g,l++[[]]⟩:=by kernel_rfl
noncomputable abbrev fiN:FI:=cP 882 (aF 106)
noncomputable def d7 (w:Str):aB:=[("pile",.li 1),("verb",.pv (.str w))]
noncomputable def cJ (st:Stmt):Expr×Expr×List Expr×Scope:=match st with
 | .Return (some (.Subscript (.ListComp elt [⟨t,_,ifs,_⟩] csc _) _ _)) _=>(elt,t,ifs,csc)
 | _=>(.Constant .none 0 ⟨0,0,0,0⟩,.Constant .none 0 ⟨0,0,0,0⟩,[],⟨.function,[],false,false,[]⟩)
noncomputable abbrev E7 (I:Sys):Sys:=gH TT aA I 37
noncomputable abbrev eX:FI:=⟨compScope (cJ (stm 106 0)).2.2.2 fiN.sc,none,[]⟩
noncomputable def eW (w:Str) (k:Nat):aB:=[("pile",.li 1),("verb",.pv (.str w)),("place",.pv (.int (.ofNat k)))]
noncomputable def ups (a n:Nat):List V:=intsFrom (.ofNat a) 1 n
theorem aEu (I:Sys) (w:Str) (σ:aC):bI TT aA (C I) (fn 882) [.li 1,.pv (.str w)] σ=(Rbind (blk (C I) fiN (d7 w) [stm 106 0]) fnK) σ:=by kernel_rfl
theorem aEy (m:Nat) (w:Str) (g:List GCell) (x1 x2 x3 x4 x5 x6 x7 x8:V) (l0:List V) (bod:List (List V)) :
 ([[],[x1],[x1,x2],[x1,x2,x3],[x1,x2,x3,x4],[x1,x2,x3,x4,x5],[x1,x2,x3,x4,x5,x6],[x1,x2,x3,x4,x5,x6,x7],[x1,x2,x3,x4,x5,x6,x7,x8]].map fun pl=>(C (sys TT aA (m + 20))).ex fiN (d7 w) (stm 106 0) ⟨g,l0::pl::bod⟩) =
 [[],[x1],[x1,x2],[x1,x2,x3],[x1,x2,x3,x4],[x1,x2,x3,x4,x5],[x1,x2,x3,x4,x5,x6],[x1,x2,x3,x4,x5,x6,x7],[x1,x2,x3,x4,x5,x6,x7,x8]].map fun pl=>(Rbind (Rbind (Rbind (compVals (E7 (sys TT aA (m + 20))) eX (cJ (stm 106 0)).2.1 (cJ (stm 106 0)).2.2.1 (cJ (stm 106 0)).1 (ups 0 pl.length) (d7 w)) fun xs=>Rpure (mkVl xs)) fun v=>idx v (.pv (.int (-1)))) fun v=>Rpure (Fl.ret v,d7 w)) ⟨g,l0::pl::bod⟩:=by kernel_rfl
theorem aEs (w:Str) (k:Nat):bindT eX 9 (cJ (stm 106 0)).2.1 (.pv (.int (.ofNat k))) (d7 w)=some (eW w k):=by kernel_rfl
theorem aEt (w:Str) (k k' : Nat):bindT eX 9 (cJ (stm 106 0)).2.1 (.pv (.int (.ofNat k))) (eW w k')=some (eW w k):=by kernel_rfl
theorem aEv (I:Sys) (w:Str) (k:Nat) (σ:aC):(E7 I).ev eX (eW w k) (cJ (stm 106 0)).1 σ=some (.pv (.int (.ofNat k)),σ):=by kernel_rfl
noncomputable def inC:Expr:=((cJ (stm 106 0)).2.2.1[0]?).getD (.Constant .none 0 ⟨0,0,0,0⟩)
theorem aEx:(cJ (stm 106 0)).2.2.1=[inC]:=by kernel_rfl
theorem aEw (I:Sys) (w:Str) (k:Nat) (σ:aC):(E7 I).tr eX (eW w k) inC σ =
 (Rbind (Rbind (Rbind (idx (.li 1) (.pv (.int (.ofNat k)))) fun v=>idx v (.pv (.int 0))) fun a=>Rbind (cmp .Eq a (.pv (.str w))) fun x=>Rpure (.pv (.bool x))) truthy) σ:=by kernel_rfl
theorem uI {S:Sys} {fi:FI} {env:aB} {e:Expr} {σ σ₁:aC} {b:Bool} (h:S.tr fi env e σ=some (b,σ₁)):allTr S fi env .And [e] σ=some (b,σ₁):=by
 show Rbind (S.tr fi env e) _ σ=_
 rw [aE h]
 cases b <;> rfl
theorem tV {α:Type} {P:List α→Prop} (x0:α) (h:∀ x1 x2 x3 x4 x5 x6 x7:α,∀ pl ∈ [[],[x1],[x1,x2],[x1,x2,x3],[x1,x2,x3,x4],[x1,x2,x3,x4,x5],[x1,x2,x3,x4,x5,x6],[x1,x2,x3,x4,x5,x6,x7]],P pl):∀ pl:List α,pl.length ≤ 7→P pl
 | [],_=>h x0 x0 x0 x0 x0 x0 x0 _ (List.mem_of_getElem? (i:=0) rfl)
 | [a],_=>h a x0 x0 x0 x0 x0 x0 _ (List.mem_of_getElem? (i:=1) rfl)
 | [a,b],_=>h a b x0 x0 x0 x0 x0 _ (List.mem_of_getElem? (i:=2) rfl)
 | [a,b,c],_=>h a b c x0 x0 x0 x0 _ (List.mem_of_getElem? (i:=3) rfl)
 | [a,b,c,d],_=>h a b c d x0 x0 x0 _ (List.mem_of_getElem? (i:=4) rfl)
 | [a,b,c,d,e],_=>h a b c d e x0 x0 _ (List.mem_of_getElem? (i:=5) rfl)
 | [a,b,c,d,e,f],_=>h a b c d e f x0 _ (List.mem_of_getElem? (i:=6) rfl)
 | [a,b,c,d,e,f,i],_=>h a b c d e f i _ (List.mem_of_getElem? (i:=7) rfl)
 | _::_::_::_::_::_::_::_::_,hl=>absurd hl (Nat.not_le_of_gt (Nat.le_add_left 8 _))
theorem aAM {α:Type} {P:List α→Prop} (h:∀ x1 x2 x3 x4:α,∀ pl ∈ [[x1],[x1,x2],[x1,x2,x3],[x1,x2,x3,x4]],P pl):∀ pl:List α,pl ≠ []→pl.length ≤ 4→P pl
 | [],h0,_=>absurd rfl h0
 | [a],_,_=>h a a a a _ (List.mem_of_getElem? (i:=0) rfl)
 | [a,b],_,_=>h a b b b _ (List.mem_of_getElem? (i:=1) rfl)
 | [a,b,c],_,_=>h a b c c _ (List.mem_of_getElem? (i:=2) rfl)
 | [a,b,c,d],_,_=>h a b c d _ (List.mem_of_getElem? (i:=3) rfl)
 | _::_::_::_::_::_,_,hl=>absurd hl (Nat.not_le_of_gt (Nat.le_add_left 5 _))
theorem rA (i:IFr):frV i=fr5 (.pv (.str i.v.name)) (.pv (.tup i.v.tree)) (.pv (.tup (i.v.own.map PV.str))) (.pv (.int (.ofNat i.tk))) i.brs i.home:=rfl
theorem qE {f:SF} (hw:Wf f):f.brs=[] ↔ f.cur=none :=
 kG (P:=fun f=>f.brs=[] ↔ f.cur=none) (fun _=>⟨nofun,nofun⟩) (fun _ _=>⟨nofun,nofun⟩) (fun _ _=>⟨fun _=>rfl,fun _=>rfl⟩) (fun _ _ _ _ _ _=>⟨fun h=>absurd h (List.append_ne_nil_of_right_ne_nil _ nofun),nofun⟩) hw
theorem aCQ {fd:List PV} {f:SF} {r:List SF}:aV r.length fd (f::r) []=bZ fd r (bJ f):=by
 rw [iJ (Nat.le_refl _),eV]
 cases r with
 | nil=>rfl
 | cons g gs =>
  show (match Nat.blt gs.length (gs.length + 1) with | true=>(fd,g.app [bJ f]::gs) | false=>_)=_
  rw [show Nat.blt gs.length (gs.length + 1)=true from Nat.ble_eq_true_of_le (Nat.le_refl _)]
  rfl
theorem a8.tl {n:Nat} {fd:List PV} {f:SF} {fs:List SF} {i:IFr} {is:List IFr} {bod:List (List PV)} (hR:a8 n fd (f::fs) (i::is) bod):a8 n fd fs is bod∧i.v=f.v∧i.tk=f.tk∧BrR bod i.brs f.brs∧i.home=bA is:=by
 obtain ⟨f0,fs0,e0,h1,h2,h3,h4,h5⟩:=hR.rf
 cases e0
 exact ⟨⟨h5,(List.nodup_append.mp hR.nd).2.1,hR.fdn,hR.bn,fun x hx=>hR.vt x (List.mem_cons_of_mem _ hx),Nat.le_of_succ_le hR.len⟩,h1,h2,h3,h4⟩
theorem a8.brs4 {n:Nat} {fd:List PV} {f:SF} {fs:List SF} {i:IFr} {is:List IFr} {bod:List (List PV)} (hR:a8 n fd (f::fs) (i::is) bod):i.brs.length ≤ 4∧i.brs.length=f.brs.length:=by
 have hvt:=hR.vt f (by exact (.head _))
 have:=hR.tl.2.2.2.1.len
 exact ⟨by rw [this]; exact Nat.le_trans hvt.2 (aAR _ hvt.1),this⟩
theorem tA {n:Nat} {fd:List PV} {fs:List SF} {is:List IFr} {bod:List (List PV)} (hR:a8 n fd fs is bod) (hne:fs ≠ []):∃ f r i is',fs=f::r∧is=i::is':=by
 cases fs with
 | nil=>exact absurd rfl hne
 | cons f r =>
  cases is with
  | nil=>have:=hR.rf.len; cases this
  | cons i is'=>exact ⟨f,r,i,is',rfl,rfl⟩
theorem aHc {m n:Nat} {g:List GCell} {fd:List PV} {fs:List SF} {is:List IFr} {bod:List (List PV)} {rw0:V} (hR:a8 n fd fs is bod) (hr:f9 fs) (hn:n ≤ 80000) :
 ∃ is' bod',(C (sys TT aA (m + 22))).ex fiO (bN rw0 []) (stm 104 0) ⟨g,cells fd is bod⟩=some ((.next,bN rw0 []),⟨g,cells (a9 fd fs).1 is' bod'⟩)∧a8 (n + 8) (a9 fd fs).1 (a9 fd fs).2 is' bod':=by
 cases fs with
 | nil =>
  have his:is=[]:=List.length_eq_zero_iff.mp (by rw [hR.rf.len]; rfl)
  subst his
  exact ⟨[],bod,aGr (m + 2) rw0 g _ _,hR.mono (Nat.le_add_right _ _)⟩
 | cons f r =>
  obtain ⟨f',r',i,is',e1,rfl⟩:=tA hR (by simp)
  cases e1
  obtain ⟨hR',h1,h2,h3,h4⟩:=hR.tl
  have hl7:(plV is').length ≤ 7:=by rw [dO,hR'.rf.len]; exact Nat.le_of_succ_le_succ hR.len
  have hb:=hR.brs4
  by_cases hc:f.cur=none
  ·have hbn:i.brs=[]:=by
    have:=(qE (hr.1 f (by exact (.head _)))).mpr hc
    rw [this] at hb
    exact List.length_eq_zero_iff.mp hb.2
   have hp:a9 fd (f::r)=bZ fd r (bJ f):=by unfold a9; simp only [hc]
   have hlen:is'.length=r.length:=hR'.rf.len
   obtain ⟨is2,bod2,q1,q2⟩:=nC (m:=m) (many:=r.length) (g:=g) (Nat.le_of_succ_le hR.len) hR hr (lel hn rfl)
   rw [aCQ] at q1 q2
   refine ⟨is2,bod2,?_,by rw [hp]; exact q2⟩
   rw [hp]
   have:=tV (P:=fun ys=>(C (sel (a6 865) (sys TT aA (m + 22)).call (sys TT aA (m + 22)))).ex fiO (bN rw0 []) (stm 104 0) ⟨g,fd.map V.pv::(ys++[fr5 (.pv (.str i.v.name)) (.pv (.tup i.v.tree)) (.pv (.tup (i.v.own.map PV.str))) (.pv (.int (.ofNat i.tk))) [] i.home])::bod.map (·.map V.pv)⟩ =
    (Rbind (Rbind ((sys TT aA (m + 22)).call (fn 865) [.li 1,.pv (.int (.ofNat ys.length))]) fun _=>Rpure (Fl.next,bN rw0 [])) fP) ⟨g,fd.map V.pv::(ys++[fr5 (.pv (.str i.v.name)) (.pv (.tup i.v.tree)) (.pv (.tup (i.v.own.map PV.str))) (.pv (.int (.ofNat i.tk))) [] i.home])::bod.map (·.map V.pv)⟩) (.pv .none)
    (fun y1 y2 y3 y4 y5 y6 y7 ys hm=>aJ (aGs (sys TT aA (m + 22)).call (m + 2) rw0 g y1 y2 y3 y4 y5 y6 y7 _ _ _ _ i.home (fd.map V.pv) (bod.map (·.map V.pv))) ys hm) (plV is') hl7
   rw [bH,dO,hlen] at this
   have hcells:cells fd (i::is') bod=fd.map V.pv::(plV is'++[fr5 (.pv (.str i.v.name)) (.pv (.tup i.v.tree)) (.pv (.tup (i.v.own.map PV.str))) (.pv (.int (.ofNat i.tk))) [] i.home])::bod.map (·.map V.pv):=by
    show _::plV (i::is')::_=_
    rw [i0,rA,hbn]
   rw [hcells,this,← hcells]
   rw [aE (a:=(Fl.next,bN rw0 [])) (σ₁:=⟨g,cells (bZ fd r (bJ f)).1 is2 bod2⟩)]
   ·rfl
   ·rw [aE q1]
    rfl
  ·have hbn:i.brs ≠ []:=fun q=>by
    rw [q] at hb
    exact hc ((qE (hr.1 f (by exact (.head _)))).mp (List.length_eq_zero_iff.mp hb.2.symm))
   have hp:a9 fd (f::r)=(fd,f::r):=by
    unfold a9
    refine optE (o:=f.cur) (fun hq=>?_) fun q hq=>?_
    ·exact absurd hq hc
    ·simp only [hq]
   rw [hp]
   refine ⟨i::is',bod,?_,hR.mono (Nat.le_add_right _ _)⟩
   have:=tV (P:=fun ys=>(C (sys TT aA (m + 22))).ex fiO (bN rw0 []) (stm 104 0) ⟨g,fd.map V.pv::(ys++[frV i])::bod.map (·.map V.pv)⟩=some ((.next,bN rw0 []),⟨g,fd.map V.pv::(ys++[frV i])::bod.map (·.map V.pv)⟩)) (.pv .none)
    (fun y1 y2 y3 y4 y5 y6 y7 ys hm=>by
     rw [rA]
     exact aAM (P:=fun brs=>(C (sys TT aA (m + 22))).ex fiO (bN rw0 []) (stm 104 0) ⟨g,fd.map V.pv::(ys++[fr5 (.pv (.str i.v.name)) (.pv (.tup i.v.tree)) (.pv (.tup (i.v.own.map PV.str))) (.pv (.int (.ofNat i.tk))) brs i.home])::bod.map (·.map V.pv)⟩=some ((.next,bN rw0 []),⟨g,fd.map V.pv::(ys++[fr5 (.pv (.str i.v.name)) (.pv (.tup i.v.tree)) (.pv (.tup (i.v.own.map PV.str))) (.pv (.int (.ofNat i.tk))) brs i.home])::bod.map (·.map V.pv)⟩))
      (fun z1 z2 z3 z4 brs hb=>aJ (aJ (aGq (m + 2) rw0 g y1 y2 y3 y4 y5 y6 y7 _ _ _ _ z1.1 z2.1 z3.1 z4.1 z1.2 z2.2 z3.2 z4.2 i.home (fd.map V.pv) (bod.map (·.map V.pv))) ys hm) brs hb) i.brs hbn hb.1) (plV is') hl7
   rw [← i0] at this
   exact this
theorem aEg {m n:Nat} {g:List GCell} {fd:List PV} {fs:List SF} {is:List IFr} {bod:List (List PV)} {rw0:V} (hR:a8 n fd fs is bod) (hw:∀ f ∈ fs,Wf f∧f.cur ≠ none) :
 (C (sys TT aA (m + 22))).ex fiO (bN rw0 []) (stm 104 1) ⟨g,cells fd is bod⟩=some ((.next,bN rw0 (hmT (bA is))),⟨g,cells fd is bod⟩):=by
 cases fs with
 | nil =>
  have his:is=[]:=List.length_eq_zero_iff.mp (by rw [hR.rf.len]; rfl)
  clear hR; subst his
  exact aGu (m + 2) rw0 g _ _
 | cons f r =>
  obtain ⟨f',r',i,is',e1,rfl⟩:=tA hR (by simp)
  cases e1
  obtain ⟨hR',h1,h2,h3,h4⟩:=hR.tl
  have hl7:(plV is').length ≤ 7:=by rw [dO,hR'.rf.len]; exact Nat.le_of_succ_le_succ hR.len
  have hb:=hR.brs4
  have hbn:i.brs ≠ []:=fun q=>by
   rw [q] at hb
   exact (hw f (by exact (.head _))).2 ((qE (hw f (by exact (.head _))).1).mp (List.length_eq_zero_iff.mp hb.2.symm))
  clear hR h1 h2 h3 h4; obtain ⟨iv,itk,ibrs,ihome⟩:=i
  simp only at hbn hb
  have:=tV (P:=fun ys=>(C (sys TT aA (m + 22))).ex fiO (bN rw0 []) (stm 104 1) ⟨g,fd.map V.pv::(ys++[frV ⟨iv,itk,ibrs,ihome⟩])::bod.map (·.map V.pv)⟩=some ((.next,bN rw0 (hmT (bA (⟨iv,itk,ibrs,ihome⟩::is')))),⟨g,fd.map V.pv::(ys++[frV ⟨iv,itk,ibrs,ihome⟩])::bod.map (·.map V.pv)⟩)) (.pv .none)
   (fun y1 y2 y3 y4 y5 y6 y7 ys hm=>by
    rw [rA]
    refine aAM (P:=fun brs=>(C (sys TT aA (m + 22))).ex fiO (bN rw0 []) (stm 104 1) ⟨g,fd.map V.pv::(ys++[fr5 (.pv (.str iv.name)) (.pv (.tup iv.tree)) (.pv (.tup (iv.own.map PV.str))) (.pv (.int (.ofNat itk))) brs ihome])::bod.map (·.map V.pv)⟩=some ((.next,bN rw0 (hmT (bA (⟨iv,itk,brs,ihome⟩::is')))),⟨g,fd.map V.pv::(ys++[fr5 (.pv (.str iv.name)) (.pv (.tup iv.tree)) (.pv (.tup (iv.own.map PV.str))) (.pv (.int (.ofNat itk))) brs ihome])::bod.map (·.map V.pv)⟩))
     (fun z1 z2 z3 z4 brs hb=>?_) ibrs hbn hb.1
    have:=aJ (aGt (m + 2) rw0 g y1 y2 y3 y4 y5 y6 y7 (.pv (.str iv.name)) (.pv (.tup iv.tree)) (.pv (.tup (iv.own.map PV.str))) (.pv (.int (.ofNat itk))) z1.1 z2.1 z3.1 z4.1 z1.2 z2.2 z3.2 z4.2 ihome (fd.map V.pv) (bod.map (·.map V.pv))) ys hm
    simp only [List.mem_cons,List.not_mem_nil,or_false] at hb
    rcases hb with rfl | rfl | rfl | rfl
    ·exact at0 this
    ·exact at1 this
    ·exact at2 this
    ·exact at3 this) (plV is') hl7
  rw [← i0] at this
  exact this
theorem rJ {bod:List (List PV)}:∀ {is:List IFr} {fs:List SF},dT bod is fs→∀ j ∈ eA is,j < bod.length + 2
 | [],_,_,j,hj=>by cases hj
 | i::is,_,h,j,hj=>by
  obtain ⟨f,fs',rfl,_,_,h3,_,h5⟩:=h
  rcases List.mem_append.mp hj with hj | hj
  ·obtain ⟨q,hq,z1⟩:=List.mem_map.mp hj; clear hj; subst z1
   have go:∀ {r:List (Str×Nat)} {s:List (Str×List PV)},BrR bod r s→∀ q ∈ r,q.2 < bod.length + 2:=by
    intro r
    induction r with
    | nil=>intro s _ q hq; cases hq
    | cons a r ih =>
     obtain ⟨k',j'⟩:=a
     intro s h q hq
     obtain ⟨_,_,_,g1,g2,g3⟩:=h
     rcases List.mem_cons.mp hq with rfl | hq
     ·have:=(List.getElem?_eq_some_iff.mp g2).1
      exact (Nat.sub_lt_iff_lt_add g1).mp this
     ·exact ih g3 q hq
   exact go h3 q hq
  ·exact rJ h5 j hj
theorem aB4 {bod:List (List PV)} {z:List PV} {is:List IFr} {fs:List SF} (h:dT bod is fs):dT (bod++[z]) is fs :=
 h.other fun j _ ys e=>by
  rw [List.getElem?_append_left (List.getElem?_eq_some_iff.mp e).1]; exact e
theorem BrR.more {bod:List (List PV)} {z:List PV} {r:List (Str×Nat)} {s:List (Str×List PV)} (h:BrR bod r s):BrR (bod++[z]) r s :=
 h.other fun q _ ys e=>by
  rw [List.getElem?_append_left (List.getElem?_eq_some_iff.mp e).1]; exact e
theorem aF3 {v:Vb}:((newF v).v,(newF v).tk) ∈ vts∧(newF v).brs.length ≤ (newF v).tk:=by
 cases v <;> first | exact ⟨List.mem_of_getElem? (i:=0) rfl,Nat.le_refl 0⟩ | exact ⟨List.mem_of_getElem? (i:=3) rfl,Nat.le_refl 0⟩ | exact ⟨List.mem_of_getElem? (i:=6) rfl,Nat.le_refl 0⟩ | exact ⟨List.mem_of_getElem? (i:=11) rfl,Nat.le_refl 0⟩ | exact ⟨List.mem_of_getElem? (i:=14) rfl,Nat.le_refl 0⟩ | exact ⟨List.mem_of_getElem? (i:=17) rfl,Nat.le_refl 1⟩
theorem aHF {n:Nat} {fd:List PV} {fs:List SF} {is:List IFr} {bod:List (List PV)} {v:Vb} (hv:v ≠ .iff) (hR:a8 n fd fs is bod) (hl:fs.length < 8):a8 n fd (newF v::fs) (⟨v,0,[],bA is⟩::is) bod:=by
 refine ⟨⟨newF v,fs,rfl,?_,?_,?_,rfl,hR.rf⟩,hR.nd,hR.fdn,hR.bn,fun f hf=>?_,hl⟩
 ·cases v <;> first | rfl | exact absurd rfl hv
 ·cases v <;> first | rfl | exact absurd rfl hv
 ·cases v <;> first | rfl | exact absurd rfl hv
 ·rcases List.mem_cons.mp hf with rfl | hf
  ·exact aF3
  ·exact hR.vt f hf
theorem aAa {n:Nat} {fd:List PV} {f:SF} {fs:List SF} {is:List IFr} {bod:List (List PV)} {r:List (Str×Nat)} {k:Str} {dn:List (Str×List PV)} {v:Vb} {tk:Nat} {h:Nat} (hn:(r.map (·.2)++eA is).Nodup) (hlt:∀ q ∈ r,q.2 < bod.length + 2) (hr:BrR bod r dn) (hh:h=bA is)
 (hR:a8 n fd fs is bod) (hf:f=⟨v,tk,dn,some (k,[])⟩) (hvt:(v,tk) ∈ vts∧dn.length + 1 ≤ tk) (hl:fs.length < 8):a8 n fd (f::fs) (⟨v,tk,r++[(k,bod.length + 2)],h⟩::is) (bod++[[]]):=by
 subst hf hh
 refine ⟨⟨_,fs,rfl,rfl,rfl,?_,rfl,aB4 hR.rf⟩,?_,hR.fdn,fun b hb=>?_,fun f hf=>?_,hl⟩
 ·show BrR _ (r++[(k,bod.length + 2)]) (dn++[(k,[])])
  refine BrR.app hr.more ⟨[],[],rfl,Nat.le_add_left 2 _,?_,rfl⟩
  rw [Nat.add_sub_cancel]
  simp
 ·show ((r++[(k,bod.length + 2)]).map (·.2)++eA is).Nodup
  rw [List.map_append,List.append_assoc]
  obtain ⟨n1,n2,n3⟩:=List.nodup_append.mp hn
  have hnew:∀ j ∈ eA is,j ≠ bod.length + 2:=fun j hj e=>absurd e (Nat.ne_of_lt (rJ hR.rf j hj))
  refine List.nodup_append.mpr ⟨n1,?_,?_⟩
  ·show ((bod.length + 2)::eA is).Nodup
   exact List.nodup_cons.mpr ⟨fun hm=>hnew _ hm rfl,n2⟩
  ·intro a ha b hb
   rcases List.mem_cons.mp (show b ∈ (bod.length + 2)::eA is from hb) with rfl | hb
   ·obtain ⟨q,hq,z1⟩:=List.mem_map.mp ha; clear ha; subst z1
    exact Nat.ne_of_lt (hlt q hq)
   ·exact n3 a ha b hb
 ·rcases List.mem_append.mp hb with hb | hb
  ·exact hR.bn b hb
  ·rw [List.mem_singleton.mp hb]; exact Nat.zero_le _
 ·rcases List.mem_cons.mp hf with rfl | hf
  ·exact ⟨hvt.1,by simpa [SF.brs] using hvt.2⟩
  ·exact hR.vt f hf
theorem vK (fd:List PV) (is:List IFr) (bod:List (List PV)):cells fd is bod++[[]]=cells fd is (bod++[[]]):=by simp [cells]
theorem aCz (fd:List PV) (i:IFr) (is:List IFr) (bod:List (List PV)):(cells fd is bod).set 1 (plV is++[frV i])=cells fd (i::is) bod:=by
 show fd.map V.pv::(plV is++[frV i])::_=_
 rw [← i0]
theorem sV {g:List GCell} {fd:List PV} {i:IFr} {is:List IFr} {bod:List (List PV)} (h:is.length ≤ 8):cD 1 "append" [frV i] ⟨g,cells fd is bod⟩=some (.pv .none,⟨g,cells fd (i::is) bod⟩):=by
 rw [jY (l:=cells fd is bod) (h:=1) (xs:=plV is) rfl (by rw [dO]; exact lel h rfl),aCz]
theorem zI {m n r:Nat} {g:List GCell} {fd:List PV} {fs:List SF} {is:List IFr} {bod:List (List PV)} (hr7:r < 7) (hR:a8 n fd fs is bod) (hr:f9 fs) (h8:fs.length < 8∨r=0) (hn:n ≤ 80000) :
 ∃ is' bod',(sys TT aA (m + 24)).call (fn 872) [.li 1,.pv (bM r),.li 0] ⟨g,cells fd is bod⟩=some (.pv .none,⟨g,cells (cQ fd fs r).1 is' bod'⟩)∧a8 (n + 9) (cQ fd fs r).1 (cQ fd fs r).2 is' bod':=by
 obtain ⟨is1,bod1,p1,R1⟩:=aHc (m:=m) (g:=g) (rw0:=.pv (bM r)) hR hr hn
 obtain ⟨l1,w1,_⟩:=zY (fd:=fd) hr.1 hr.2
 have p2:=aEg (m:=m) (g:=g) (rw0:=.pv (bM r)) R1 w1
 have p3:=aJ (aGv (sys TT aA (m + 22)) (bA is1) ⟨g,cells (a9 fd fs).1 is1 bod1⟩) r (List.mem_range.mpr hr7)
 have hc:hM (a9 fd fs).2:=by
  cases h:(a9 fd fs).2 with
  | nil=>trivial
  | cons x xs=>exact (w1 x (by rw [h]; simp)).2
 have his:is1.length ≤ 8:=by rw [R1.rf.len]; exact R1.len
 have fin:∀ is' bod',(C (sys TT aA (m + 22))).ex fiO (fR r (bA is1)) (stm 104 3) ⟨g,cells (a9 fd fs).1 is1 bod1⟩=some ((.next,fR r (bA is1)),⟨g,cells (cQ fd fs r).1 is' bod'⟩)→a8 (n + 9) (cQ fd fs r).1 (cQ fd fs r).2 is' bod' →
  ∃ is' bod',(sys TT aA (m + 24)).call (fn 872) [.li 1,.pv (bM r),.li 0] ⟨g,cells fd is bod⟩=some (.pv .none,⟨g,cells (cQ fd fs r).1 is' bod'⟩)∧a8 (n + 9) (cQ fd fs r).1 (cQ fd fs r).2 is' bod':=fun is' bod' h1 h2=>by
  refine ⟨is',bod',?_,h2⟩
  rw [cK,aGz]
  rw [aE (a:=(Fl.next,fR r (bA is1))) (σ₁:=⟨g,cells (cQ fd fs r).1 is' bod'⟩)]
  ·rfl
  ·rw [aO p1,aO p2,aO p3,aO h1]
   rfl
 have blkR:∀ {h:Nat} {v:V} {env:aB} {σ σ' : aC},cD h "append" [v] σ=some (.pv .none,σ')→(Rbind (Rbind (cD h "append" [v]) fun _=>Rpure (Fl.next,env)) fP) σ=some ((.next,env),σ'):=fun {h v env σ σ'} e=>by
  rw [aE (a:=(Fl.next,env)) (σ₁:=σ') (by rw [aE e]; rfl)]
  rfl
 have comp:∀ (v:Vb),v ≠ .iff→eK r=some v→(r,v) ∈ [((1:Nat),Vb.add),(2,.sub),(3,.rd),(4,.del),(5,.call)]→r ≠ 0→∃ is' bod',(sys TT aA (m + 24)).call (fn 872) [.li 1,.pv (bM r),.li 0] ⟨g,cells fd is bod⟩=some (.pv .none,⟨g,cells (cQ fd fs r).1 is' bod'⟩)∧a8 (n + 9) (cQ fd fs r).1 (cQ fd fs r).2 is' bod':=fun v hv hvr hm h0=>by
  have e:cQ fd fs r=((a9 fd fs).1,newF v::(a9 fd fs).2):=by unfold cQ; rw [hvr]
  have h8':=Nat.lt_of_le_of_lt l1 (h8.resolve_right h0)
  have q:=aJ (aGx (sys TT aA (m + 22)) (bA is1) ⟨g,cells (a9 fd fs).1 is1 bod1⟩) (r,v) hm
  refine fin (⟨v,0,[],bA is1⟩::is1) bod1 ?_ ?_
  ·rw [e]
   exact q.trans (blkR (sV his))
  ·rw [e]
   exact (aHF hv R1 h8').mono (Nat.le_succ _)
 have tb:=List.all_eq_true.mp (show ((List.range 7).all fun r=>Nat.beq r 0 || (Nat.beq r 6 || match eK r with | some v=>!dD v .iff && [((1:Nat),Vb.add),(2,.sub),(3,.rd),(4,.del),(5,.call)].any (fun q=>Nat.beq q.1 r && dD q.2 v) | none=>false))=true by kernel_rfl) r (List.mem_range.mpr hr7)
 by_cases h0:r=0
 ·subst h0
  have e:cQ fd fs 0=bZ (a9 fd fs).1 (a9 fd fs).2 eF:=rfl
  obtain ⟨ys,fd',bod',a1,a2,a3,a4,a5⟩:=z9 (x:=eF) R1 hc
  subst a5
  refine fin is1 bod' ?_ (by rw [e]; exact a4)
  rw [aGw,e]
  refine blkR ?_
  rw [jY a1 (mln (Nat.le_trans a2 (Nat.le_trans (Nat.add_le_add_right hn 8) (by decide)))),← a3]
  simp
 by_cases h6:r=6
 ·subst h6
  have e:cQ fd fs 6=((a9 fd fs).1,newF .iff::(a9 fd fs).2):=rfl
  have h8':=Nat.lt_of_le_of_lt l1 (h8.resolve_right (by simp))
  refine fin (⟨.iff,1,[]++[(s_then,bod1.length + 2)],bA is1⟩::is1) (bod1++[[]]) ?_ ?_
  ·rw [aGy,e,vK]
   have hlen:(cells (a9 fd fs).1 is1 bod1).length=bod1.length + 2:=by simp [cells]
   rw [hlen]
   exact blkR (sV his)
  ·rw [e]
   exact (aAa (r:=[]) (dn:=[]) (by exact (R1.nd)) nofun rfl rfl R1 rfl ⟨by simp [vts],Nat.le_refl _⟩ h8').mono (Nat.le_succ _)
 ·rcases Bool.or_eq_true_iff.mp tb with q | q
  ·exact absurd (Nat.eq_of_beq_eq_true q) h0
  ·rcases Bool.or_eq_true_iff.mp q with q | q
   ·exact absurd (Nat.eq_of_beq_eq_true q) h6
   ·clear tb
    refine optE (o:=eK r) (fun hv=>?_) fun v hv=>?_
    ·rw [hv] at q; exact ft q
    ·rw [hv] at q
     obtain ⟨q1,q2⟩:=Bool.and_eq_true_iff.mp q
     obtain ⟨x,hx,q3⟩:=List.any_eq_true.mp q2
     obtain ⟨q4,q5⟩:=Bool.and_eq_true_iff.mp q3
     have hz:x=(r,v):=Prod.ext (Nat.eq_of_beq_eq_true q4) (jW.mp q5)
     exact comp v (fun e=>by rw [jW.mpr e] at q1; exact ft q1) hv (hz ▸ hx) h0
theorem aC5:∀ q ∈ gB,q.2.2 ≤ kIdx q.1 q.2.1.own∧(q.2.1,kIdx q.1 q.2.1.own + 1) ∈ vts:=by
 have h:(gB.all fun q=>Nat.ble q.2.2 (kIdx q.1 q.2.1.own) && (vts.any fun z=>dD z.1 q.2.1 && Nat.beq z.2 (kIdx q.1 q.2.1.own + 1)))=true:=by kernel_rfl
 intro q hq
 rw [List.all_eq_true] at h
 have:=h q hq
 rw [Bool.and_eq_true] at this
 refine ⟨Nat.le_of_ble_eq_true this.1,?_⟩
 obtain ⟨z,hz,e⟩:=List.any_eq_true.mp this.2
 rw [Bool.and_eq_true] at e
 have e1:=jW.mp e.1
 have e2:=Nat.eq_of_beq_eq_true e.2
 have:z=(q.2.1,kIdx q.1 q.2.1.own + 1):=Prod.ext e1 e2
 rw [← this]
 exact hz
theorem aC4 {k:Str} {v:Vb} {tk:Nat} (hk:k ∈ gJ) (hv:(v,tk) ∈ vts) (hc:bE ⟨v,tk,[],none⟩ k=true):(k,v,tk) ∈ gB:=by
 unfold gB
 rw [List.mem_flatMap]
 refine ⟨k,hk,List.mem_map.mpr ⟨(v,tk),List.mem_filter.mpr ⟨hv,hc⟩,rfl⟩⟩
theorem aJs {m n:Nat} {k:Str} {g:List GCell} {fd:List PV} {fs:List SF} {is:List IFr} {bod:List (List PV)} (hk:k ∈ gJ) (ht:0 < a7 fs k) (hR:a8 n fd fs is bod) (hr:f9 fs) (hn:n ≤ 80000) :
 ∃ is' bod',(sys TT aA (m + 24)).call (fn 877) [.li 1,.pv (.int (.ofNat (a7 fs k))),dX k] ⟨g,cells fd is bod⟩=some (.pv .none,⟨g,cells (iD fd fs k).1 is' bod'⟩)∧a8 (n + 9) (iD fd fs k).1 (iD fd fs k).2 is' bod':=by
 have hle:a7 fs k ≤ 8:=Nat.le_trans (pE fs) hR.len
 obtain ⟨is1,bod1,p1,R1⟩:=nC (m:=m) (many:=a7 fs k) (g:=g) hle hR hr (lel hn rfl)
 obtain ⟨f,fs',pend',h1,h2,h3,h4,h5,h6⟩:=vN (fd:=fd) (pend:=[]) ht
 rw [h1] at p1 R1
 have e:iD fd fs k=(fd,gQ (f.app pend') k::fs'):=by unfold iD; rw [h1]
 rw [e]
 obtain ⟨f0,r0,i,is2,e0,rfl⟩:=tA R1 (by simp)
 cases e0
 obtain ⟨R2,g1,g2,g3,g4⟩:=R1.tl
 have b4:=R1.brs4
 have hvt:=R1.vt (f.app pend') (by exact (.head _))
 have hcan:bE ⟨i.v,i.tk,[],none⟩ k=true:=by
  have:=(vI f pend' k).trans h2
  unfold bE at this ⊢
  rw [g1,g2]
  exact this
 have hcm:(k,i.v,i.tk) ∈ gB:=aC4 hk (by rw [g1,g2]; exact hvt.1) hcan
 have hco:=aC5 _ hcm
 have hlen2:is2.length ≤ 8:=el R2.rf.len (Nat.le_of_succ_le R1.len)
 have q0:=aJj (sys TT aA (m + 22)).call (sys TT aA (m + 22)) (a7 fs k) k ⟨g,cells fd is bod⟩
 rw [bH,aE p1] at q0
 have q1:(C (sys TT aA (m + 22))).ex fiQ (c5 (a7 fs k) k []) (stm 105 1) ⟨g,cells fd (i::is2) bod1⟩=some ((.next,c5 (a7 fs k) k (six i [])),⟨g,cells fd is2 bod1⟩):=by
  rw [aJk]
  show Rbind _ _ ⟨g,fd.map V.pv::plV (i::is2)::_⟩=_
  rw [i0,aE (yJ (by rw [dO]; exact Nat.succ_le_succ (lel hlen2 rfl))),aJl]
  rfl
 clear p1; obtain ⟨iv,itk,ibrs,ihome⟩:=i
 simp only at g1 g2 g3 g4 b4 hcan hcm hco
 have q2:=aJ (aJm (sys TT aA (m + 22)) (a7 fs k) ihome ibrs ⟨g,cells fd is2 bod1⟩) _ hcm
 have hclen:(cells fd is2 bod1).length=bod1.length + 2:=by simp [cells]
 have q3:(C (sys TT aA (m + 22))).ex fiQ (c5 (a7 fs k) k (six ⟨iv,itk,ibrs,ihome⟩ (keT k))) (stm 105 3) ⟨g,cells fd is2 bod1⟩=some ((.next,c5 (a7 fs k) k (six ⟨iv,itk,ibrs,ihome⟩ (keT k))),⟨g,cells fd (⟨iv,kIdx k iv.own + 1,ibrs++[(k,bod1.length + 2)],ihome⟩::is2) (bod1++[[]])⟩):=by
  have:=aAN (P:=fun brs=>(C (sys TT aA (m + 22))).ex fiQ (c5 (a7 fs k) k (six ⟨iv,itk,brs,ihome⟩ (keT k))) (stm 105 3) ⟨g,cells fd is2 bod1⟩=(Rbind (cD 1 "append" [frV ⟨iv,kIdx k iv.own + 1,brs++[(k,(cells fd is2 bod1).length)],ihome⟩]) fun _=>Rpure (Fl.next,c5 (a7 fs k) k (six ⟨iv,itk,brs,ihome⟩ (keT k)))) ⟨g,cells fd is2 bod1++[[]]⟩) (gP,0)
   (fun x1 x2 x3 x4 pl hp=>aJ (aJ (aJn (sys TT aA (m + 22)) (a7 fs k) ihome x1.1 x2.1 x3.1 x4.1 x1.2 x2.2 x3.2 x4.2 g (cells fd is2 bod1)) _ hcm) pl hp) ibrs b4.1
  rw [this,hclen,vK,aE (sV hlen2)]
  rfl
 refine ⟨⟨iv,kIdx k iv.own + 1,ibrs++[(k,bod1.length + 2)],ihome⟩::is2,bod1++[[]],?_,?_⟩
 ·rw [cK,aJo]
  rw [aE (a:=(Fl.next,c5 (a7 fs k) k (six ⟨iv,itk,ibrs,ihome⟩ (keT k)))) (σ₁:=⟨g,cells fd (⟨iv,kIdx k iv.own + 1,ibrs++[(k,bod1.length + 2)],ihome⟩::is2) (bod1++[[]])⟩)]
  ·rfl
  ·rw [aO q0,aO q1,aO q2,aO q3]
   rfl
 ·have hlt:∀ q ∈ ibrs,q.2 < bod1.length + 2:=fun q hq=>rJ R1.rf q.2 (List.mem_append_left _ (List.mem_map_of_mem hq))
  have hnd:=R1.nd
  refine (aAa (f:=gQ (f.app pend') k) (dn:=(f.app pend').brs) (v:=iv) (tk:=kIdx k iv.own + 1) (k:=k) hnd hlt g3 g4 R2 ?_ ⟨hco.2,?_⟩ ?_).mono (Nat.add_le_add_left (by decide) n)
  ·unfold gQ; rw [← g1]
  ·exact Nat.succ_le_succ (Nat.le_trans hvt.2 (el g2.symm hco.1))
  ·exact R1.len
noncomputable def places (w:Str):Nat→List IFr→List Nat
 | _,[]=>[]
 | a,f::js=>match sEq f.v.name w with
  | true=>a::places w (a + 1) js
  | false=>places w (a + 1) js
theorem aJ9 (a n:Nat):ups a (n + 1) = .pv (.int (.ofNat a))::ups (a + 1) n:=rfl
theorem wV (f:IFr) (σ:aC):idx (frV f) (.pv (.int 0)) σ=some (.pv (.str f.v.name),σ):=by kernel_rfl
theorem aC0 (x y:Str) (σ:aC):cmp .Eq (.pv (.str x)) (.pv (.str y)) σ=some (sEq x y,σ):=rfl
theorem xC {m:Nat} {w:Str} {g:List GCell} {l0:List V} {bod:List (List V)}:∀ (js pre:List IFr) (env:aB),pre.length + js.length ≤ 8→(env=d7 w∨∃ k,env=eW w k) →
 compVals (E7 (sys TT aA (m + 20))) eX (cJ (stm 106 0)).2.1 (cJ (stm 106 0)).2.2.1 (cJ (stm 106 0)).1 (ups pre.length js.length) env ⟨g,l0::(pre++js).map frV::bod⟩ =
  some (((places w pre.length js).map fun p=>PV.int (.ofNat p)).map V.pv,⟨g,l0::(pre++js).map frV::bod⟩)
 | [],pre,env,_,_=>rfl
 | f::js,pre,env,hl,he=>by
  have hb:bindT eX 9 (cJ (stm 106 0)).2.1 (.pv (.int (.ofNat pre.length))) env=some (eW w pre.length):=by
   rcases he with rfl | ⟨k,rfl⟩
   ·exact aEs _ _
   ·exact aEt _ _ _
  have hat:((pre++f::js).map frV)[pre.length]? = some (frV f):=by simp
  have ht:(E7 (sys TT aA (m + 20))).tr eX (eW w pre.length) inC ⟨g,l0::(pre++f::js).map frV::bod⟩=some (sEq f.v.name w,⟨g,l0::(pre++f::js).map frV::bod⟩):=by
   rw [aEw,aE (a:=V.pv (.bool (sEq f.v.name w))) (σ₁:=⟨g,l0::(pre++f::js).map frV::bod⟩)]
   ·rfl
   ·rw [aE (a:=V.pv (.str f.v.name)) (σ₁:=⟨g,l0::(pre++f::js).map frV::bod⟩)]
    ·rw [aE (aC0 _ _ _)]
     rfl
    ·rw [aE (rI (adl hl rfl) hat),wV]
  have ih:=xC (m:=m) (w:=w) (g:=g) (l0:=l0) (bod:=bod) js (pre++[f]) (eW w pre.length) (by rw [List.length_append,Nat.add_assoc,Nat.add_comm [f].length]; exact hl) (.inr ⟨_,rfl⟩)
  rw [List.append_assoc,List.length_append] at ih
  have ih:compVals (E7 (sys TT aA (m + 20))) eX (cJ (stm 106 0)).2.1 (cJ (stm 106 0)).2.2.1 (cJ (stm 106 0)).1 (ups (pre.length + 1) js.length) (eW w pre.length) ⟨g,l0::(pre++f::js).map frV::bod⟩ =
   some (((places w (pre.length + 1) js).map fun p=>PV.int (.ofNat p)).map V.pv,⟨g,l0::(pre++f::js).map frV::bod⟩):=ih
  rw [show (f::js).length=js.length + 1 from rfl,aJ9]
  show Rbind (oneOf (bindT _ _ _ _ _)) _ _=_
  rw [hb,aE (a:=eW w pre.length) (σ₁:=⟨g,l0::(pre++f::js).map frV::bod⟩) rfl]
  rw [aE (a:=sEq f.v.name w) (σ₁:=⟨g,l0::(pre++f::js).map frV::bod⟩) (by rw [aEx]; exact uI ht)]
  have e:places w pre.length (f::js)=(match sEq f.v.name w with | true=>pre.length::places w (pre.length + 1) js | false=>places w (pre.length + 1) js):=rfl
  rw [e]
  cases sEq f.v.name w with
  | true =>
   show Rbind ((E7 (sys TT aA (m + 20))).ev _ _ _) _ _=_
   rw [aE (aEv _ _ _ _),aE ih]
   rfl
  | false=>exact ih
theorem zU (w:Str) (f:IFr):∀ (xs:List IFr) (a:Nat),places w a (xs++[f])=places w a xs++(match sEq f.v.name w with | true=>[a + xs.length] | false=>[])
 | [],a=>by
  show (match sEq f.v.name w with | true=>a::[] | false=>[])=_
  cases sEq f.v.name w <;> rfl
 | x::xs,a=>by
  have e1:places w a (x::xs++[f])=(match sEq x.v.name w with | true=>a::places w (a + 1) (xs++[f]) | false=>places w (a + 1) (xs++[f])):=rfl
  have e2:places w a (x::xs)=(match sEq x.v.name w with | true=>a::places w (a + 1) xs | false=>places w (a + 1) xs):=rfl
  rw [e1,e2,zU w f xs (a + 1),show a + 1 + xs.length=a + (x::xs).length from Nat.add_right_comm a 1 xs.length]
  cases sEq x.v.name w <;> simp
theorem xG {bod:List (List PV)} {v:Vb}:∀ {is:List IFr} {fs:List SF},dT bod is fs→(∃ f ∈ fs,f.v=v)→(places v.name 0 is.reverse).getLast? = some (cA fs v)
 | [],fs,h,hv=>by
  rw [show fs=[] from h] at hv
  obtain ⟨_,hf,_⟩:=hv
  cases hf
 | i::is,fs,h,hv=>by
  have hlen:=h.len
  obtain ⟨f,fs',rfl,h1,h2,h3,h4,h5⟩:=h
  rw [List.reverse_cons,zU,h1]
  have e:cA (f::fs') v=(match dD f.v v with | true=>fs'.length | false=>cA fs' v):=rfl
  rw [e]
  have e2:dD f.v v=sEq f.v.name v.name:=rfl
  rw [e2]
  clear h1 h2 h3 e; cases hb:sEq f.v.name v.name with
  | false =>
   rw [List.append_nil]
   refine xG h5 ?_
   clear hlen; obtain ⟨x,hx,hxv⟩:=hv
   rcases List.mem_cons.mp hx with rfl | hx
   ·have:=jW.mpr hxv
    rw [e2,hb] at this
    exact ft this
   ·exact ⟨x,hx,hxv⟩
  | true =>
   simp at hlen ⊢
   exact hlen
theorem aEB {m n:Nat} {v:Vb} {g:List GCell} {fd:List PV} {fs:List SF} {is:List IFr} {bod:List (List PV)} (hR:a8 n fd fs is bod) (hv:∃ f ∈ fs,f.v=v) :
 (sys TT aA (m + 22)).call (fn 882) [.li 1,.pv (.str v.name)] ⟨g,cells fd is bod⟩=some (.pv (.int (.ofNat (cA fs v))),⟨g,cells fd is bod⟩):=by
 rw [cK,aEu]
 have hil:is.length ≤ 8:=by rw [hR.rf.len]; exact hR.len
 have h1:=pI (P:=fun pl=>(C (sys TT aA (m + 20))).ex fiN (d7 v.name) (stm 106 0) ⟨g,fd.map V.pv::pl::bod.map (·.map V.pv)⟩=(Rbind (Rbind (Rbind (compVals (E7 (sys TT aA (m + 20))) eX (cJ (stm 106 0)).2.1 (cJ (stm 106 0)).2.2.1 (cJ (stm 106 0)).1 (ups 0 pl.length) (d7 v.name)) fun xs=>Rpure (mkVl xs)) fun v=>idx v (.pv (.int (-1)))) fun x=>Rpure (Fl.ret x,d7 v.name)) ⟨g,fd.map V.pv::pl::bod.map (·.map V.pv)⟩) (.pv .none)
  (fun x1 x2 x3 x4 x5 x6 x7 x8 pl hp=>aJ (aEy m v.name g x1 x2 x3 x4 x5 x6 x7 x8 (fd.map V.pv) (bod.map (·.map V.pv))) pl hp) (plV is) (by rw [dO]; exact hil)
 have h2:=xC (m:=m) (w:=v.name) (g:=g) (l0:=fd.map V.pv) (bod:=bod.map (·.map V.pv)) is.reverse [] (d7 v.name) (by simpa using hil) (.inl rfl)
 rw [List.length_reverse] at h2
 rw [dO] at h1
 have h2:compVals (E7 (sys TT aA (m + 20))) eX (cJ (stm 106 0)).2.1 (cJ (stm 106 0)).2.2.1 (cJ (stm 106 0)).1 (ups 0 is.length) (d7 v.name) ⟨g,fd.map V.pv::plV is::bod.map (·.map V.pv)⟩=some (((places v.name 0 is.reverse).map fun p=>PV.int (.ofNat p)).map V.pv,⟨g,fd.map V.pv::plV is::bod.map (·.map V.pv)⟩):=h2
 have hl:=xG hR.rf hv
 have h3:(C (sys TT aA (m + 20))).ex fiN (d7 v.name) (stm 106 0) ⟨g,cells fd is bod⟩=some ((.ret (.pv (.int (.ofNat (cA fs v)))),d7 v.name),⟨g,cells fd is bod⟩):=by
  refine h1.trans ?_
  rw [aE (a:=V.pv (.int (.ofNat (cA fs v)))) (σ₁:=⟨g,cells fd is bod⟩)]
  ·rfl
  ·rw [aE (a:=V.pv (.lst ((places v.name 0 is.reverse).map fun p=>PV.int (.ofNat p)))) (σ₁:=⟨g,cells fd is bod⟩)]
   ·generalize places v.name 0 is.reverse=ps at hl
    have hx:∀ (l:List PV) (x:PV) (σ:aC),l.getLast? = some x→idx (.pv (.lst l)) (.pv (.int (-1))) σ=some (.pv x,σ):=fun l x σ hq=>by
     have h0:idx (.pv (.lst l)) (.pv (.int (-1))) σ=oneOf (item (l.map V.pv) (.negSucc 0)) σ:=by kernel_rfl
     rw [h0]
     show oneOf (match Nat.ble 1 (l.map V.pv).length with | true=>(l.map V.pv)[(l.map V.pv).length - 1]? | false=>none) σ=_
     have hne:l ≠ []:=fun q=>by rw [q] at hq; exact nx hq
     have hlp:=List.length_pos_iff.mpr hne
     rw [show Nat.ble 1 (l.map V.pv).length=true from Nat.ble_eq_true_of_le (by rw [List.length_map]; exact hlp)]
     rw [List.getElem?_map,List.length_map,← List.getLast?_eq_getElem?,hq]
     rfl
    refine hx _ _ _ ?_
    rw [List.getLast?_map,hl]
    rfl
   ·rw [aE h2,iU]
    rfl
 rw [aE (a:=(Fl.ret (.pv (.int (.ofNat (cA fs v)))),d7 v.name)) (σ₁:=⟨g,cells fd is bod⟩) (eM h3)]
 rfl
noncomputable abbrev E6 (I:Sys):Sys:=gH TT aA I 36
noncomputable abbrev fiL:FI:=cP 887 (aF 107)
noncomputable def aG (st:V) (T:List PV) (due:Bool) (tl:aB):aB:=("steps",st)::("tokens",.pv (.lst T))::("found",.li 0)::("pile",.li 1)::("is_due",.pv (.bool due))::("verbs",pK)::("openings",zJ)::tl
noncomputable def ksT (k c s:Nat) (tl:aB):aB:=("kind",.pv (.int (.ofNat k)))::("choice",.pv (.int (.ofNat c)))::("spare",.pv (.int (.ofNat s)))::tl
noncomputable def abT (ab:V) (tl:aB):aB:=("able",ab)::tl
noncomputable def t_r (x:V):aB:=[("row",x)]
noncomputable def t_v (y:V):aB:=[("verb",y)]
noncomputable def b9 (x y:V):aB:=[("row",x),("verb",y)]
noncomputable def bW (x y:V):aB:=[("verb",y),("row",x)]
noncomputable def aL (q:Nat×Nat×Nat):PV:=.tup [.int (.ofNat q.1),.int (.ofNat q.2.1),.int (.ofNat q.2.2)]
noncomputable def B0:Stmt:=stB (stm 107 2) 0
noncomputable def B1:Stmt:=stB (stm 107 2) 1
noncomputable def lJ (st:Stmt):Expr:=match st with
 | .If t _ _ _=>t
 | _=>.Constant .none 0 ⟨0,0,0,0⟩
noncomputable def asE (st:Stmt):Expr:=match st with
 | .Assign _ e _=>e
 | _=>.Constant .none 0 ⟨0,0,0,0⟩
noncomputable def ieT (e:Expr):Expr:=match e with
 | .IfExp t _ _ _=>t
 | _=>e
noncomputable def ieB (e:Expr):Expr:=match e with
 | .IfExp _ b _ _=>b
 | _=>e
noncomputable def ieO (e:Expr):Expr:=match e with
 | .IfExp _ _ o _=>o
 | _=>e
theorem aFi (I:Sys) (L:List PV) (σ:aC):bI TT aA (C I) (fn 887) [.pv (.lst L)] σ=gI [.pv (.lst L)] (cB (C I) 887 (aF 107) []) σ:=by kernel_rfl
theorem aFh (I:Sys) (L:List PV) (σ:aC):cB (C I) 887 (aF 107) [] [.pv (.lst L)] σ=(Rbind (blk (C I) fiL [("steps",.pv (.lst L))] [stm 107 0,stm 107 1,stm 107 2,stm 107 3,stm 107 4,stm 107 5]) fnK) σ:=by kernel_rfl
noncomputable def wI (st:V):aB:=[("steps",st),("tokens",.pv (.lst [])),("found",.li 0),("pile",.li 1),("is_due",.pv (.bool true))]
theorem aFe (I:Sys) (st:V) (g:List GCell):(C I).ex fiL [("steps",st)] (stm 107 0) ⟨g,[]⟩=some ((.next,wI st),⟨g,[[],[]]⟩):=by kernel_rfl
theorem aFf (m:Nat) (st:V) (σ:aC):(C (sys TT aA (m + 20))).ex fiL (wI st) (stm 107 1) σ=some ((.next,aG st [] true []),σ):=by kernel_rfl
theorem aFj (I:Sys) (L:List PV) (σ:aC):(C I).ex fiL (aG (.pv (.lst L)) [] true []) (stm 107 2) σ=cU (D I) fiL (bP (stm 107 2)) (cC (stm 107 2)) (L.map V.pv) (aG (.pv (.lst L)) [] true []) σ:=by kernel_rfl
theorem aFg (I:Sys) (env:aB):blk (D I) fiL env (cC (stm 107 2))=blk (D I) fiL env [B0,B1]:=by kernel_rfl
theorem aFk (st:V) (T:List PV) (due:Bool) (k c s:Nat):bindT fiL 9 (bP (stm 107 2)) (.pv (aL (k,c,s))) (aG st T due [])=some (aG st T due (ksT k c s [])):=by kernel_rfl
theorem aFl (st:V) (T:List PV) (due:Bool) (k c s k' c' s' : Nat) (tl:aB):bindT fiL 9 (bP (stm 107 2)) (.pv (aL (k,c,s))) (aG st T due (ksT k' c' s' tl))=some (aG st T due (ksT k c s tl)):=by kernel_rfl
theorem aBF (I:Sys) (st:V) (T:List PV) (c s:Nat) (ab:V) (tl:aB) (σ:aC) :
 ([(0,true),(0,false),(1,true),(2,true),(2,false)].map fun q=>[[],abT ab tl].map fun tl0=>(D I).ex fiL (aG st T q.2 (ksT q.1 c s tl0)) B0 σ) =
 [(0,true),(0,false),(1,true),(2,true),(2,false)].map fun q=>[[],abT ab tl].map fun tl0=>some ((Fl.next,aG st T q.2 (ksT q.1 c s (abT (.pv (.lst [])) tl0.tail))),σ):=by kernel_rfl
noncomputable def lcE (e:Expr):Expr×Expr×List Expr×Scope:=match e with
 | .ListComp elt [⟨t,_,ifs,_⟩] csc _=>(elt,t,ifs,csc)
 | _=>(.Constant .none 0 ⟨0,0,0,0⟩,.Constant .none 0 ⟨0,0,0,0⟩,[],⟨.function,[],false,false,[]⟩)
noncomputable def abC:Expr×Expr×List Expr×Scope:=lcE (ieB (asE B0))
noncomputable abbrev hG:FI:=⟨compScope abC.2.2.2 fiL.sc,none,[]⟩
noncomputable def abI:Expr:=(abC.2.2.1[0]?).getD (.Constant .none 0 ⟨0,0,0,0⟩)
theorem aBn:abC.2.2.1=[abI]:=by kernel_rfl
noncomputable def jP:aB:=[("pile",.li 1)]
noncomputable def uF:Expr:=match ieB (asE B0) with
 | .ListComp _ [⟨_,it,_,_⟩] _ _=>it
 | _=>.Constant .none 0 ⟨0,0,0,0⟩
theorem aBJ (I:Sys) (st:V) (T:List PV) (c s:Nat) (tl:aB) (σ:aC):(D I).ex fiL (aG st T false (ksT 1 c s tl)) B0 σ =
 (Rbind (compEv TT (E6 I) fiL (aG st T false (ksT 1 c s tl)) abC.1 abC.2.1 uF abC.2.2.1 abC.2.2.2) fun v=>Rbind (oneOf (bindT fiL 9 (asT B0) v (aG st T false (ksT 1 c s tl)))) fun env'=>Rpure (Fl.next,env')) σ:=by kernel_rfl
theorem aBH (I:Sys) (st:V) (T:List PV) (c s:Nat) (tl:aB) (σ:aC):jM TT (E6 I) fiL (aG st T false (ksT 1 c s tl)) abC.2.1 uF σ=some (((List.range 10).map aY).map V.pv,σ):=by kernel_rfl
theorem aBD (st:V) (T:List PV) (c s:Nat) (tl:aB):(small (((List.range 10).map aY).map V.pv).length,dH abC.2.2.2,eC abC.2.2.2.names,noDup (abC.2.2.2.names.map (·.1)),freeOk fiL (aG st T false (ksT 1 c s tl)) abC.2.2.2.names)=(true,true,true,true,true):=by kernel_rfl
theorem aBE (st:V) (T:List PV) (c s:Nat) (ab x y:V):([[],abT ab [],abT ab (t_r x),abT ab (t_v y),abT ab (b9 x y),abT ab (bW x y)].map fun tl0=>freeIn abC.2.2.2 (aG st T false (ksT 1 c s tl0)))=[[],abT ab [],abT ab (t_r x),abT ab (t_v y),abT ab (b9 x y),abT ab (bW x y)].map fun _=>jP:=by kernel_rfl
theorem vR {T:bK} {S:Sys} {fi:FI} {env env0:aB} {elt t it:Expr} {ifs:List Expr} {csc:Scope} {l xs:List V} {σ σ₁ σ₂:aC} (h1:jM T S fi env t it σ=some (l,σ₁)) (h2:(small l.length,dH csc,eC csc.names,noDup (csc.names.map (·.1)),freeOk fi env csc.names)=(true,true,true,true,true))
 (h3:freeIn csc env=env0) (h4:compVals S ⟨compScope csc fi.sc,none,[]⟩ t ifs elt l env0 σ₁=some (xs,σ₂)):compEv T S fi env elt t it ifs csc σ=some (mkVl xs,σ₂):=by
 simp only [Prod.mk.injEq] at h2
 obtain ⟨a,b,c,d,e⟩:=h2
 unfold compEv
 rw [aE h1]
 simp only [a,b,c,d,e,h3]
 rw [aE h4]
 rfl
theorem aBI {I:Sys} {st:V} {T:List PV} {c s:Nat} {tl:aB} {σ:aC} {xs:List V} (hf:freeIn abC.2.2.2 (aG st T false (ksT 1 c s tl))=jP) (h:compVals (E6 I) hG abC.2.1 abC.2.2.1 abC.1 (((List.range 10).map aY).map V.pv) jP σ=some (xs,σ)) :
 (D I).ex fiL (aG st T false (ksT 1 c s tl)) B0 σ=(Rbind (oneOf (bindT fiL 9 (asT B0) (mkVl xs) (aG st T false (ksT 1 c s tl)))) fun env'=>Rpure (Fl.next,env')) σ:=by
 rw [aBJ,aE (vR (aBH I st T c s tl σ) (aBD st T c s tl) hf h)]
theorem aBC (st v:V) (T:List PV) (c s:Nat) (ab:V) (tl:aB):([[],abT ab tl].map fun tl0=>bindT fiL 9 (asT B0) v (aG st T false (ksT 1 c s tl0)))=[[],abT ab tl].map fun tl0=>some (aG st T false (ksT 1 c s (abT v tl0.tail))):=by kernel_rfl
noncomputable def fQ (r:PV):aB:=[("pile",.li 1),("row",.pv r)]
theorem aBj (r:PV):bindT hG 9 abC.2.1 (.pv r) [("pile",.li 1)]=some (fQ r):=by kernel_rfl
theorem aBk (r r' : PV):bindT hG 9 abC.2.1 (.pv r) (fQ r')=some (fQ r):=by kernel_rfl
theorem aBl (I:Sys) (r:PV) (σ:aC):(E6 I).ev hG (fQ r) abC.1 σ=some (.pv r,σ):=by kernel_rfl
theorem aBm (c:V→List V→R V) (I:Sys) (σ:aC):((List.range 10).map fun j=>(E6 (sel (a6 860) c I)).tr hG (fQ (aY j)) abI σ) =
 (List.range 10).map fun j=>(Rbind (Rbind (c (fn 860) [.li 1,dX (aW j)]) fun a=>Rbind (cmp .Gt a (.pv (.int 0))) fun x=>Rpure (.pv (.bool x))) truthy) σ:=by kernel_rfl
theorem aBK (I:Sys) (env:aB) (σ:aC):(D I).ex fiL env B1 σ=(Rbind ((E I).tr fiL env (lJ B1)) fun r=>match r with
 | true=>blk (E I) fiL env [thS B1 0,thS B1 1,thS B1 2]
 | false=>blk (E I) fiL env [elS B1 0]) σ:=by kernel_rfl
theorem aBL (I:Sys) (st:V) (T:List PV) (c s:Nat) (a:PV) (A:List PV) (y:V) (Y:List V) (tl:aB) (g:List GCell) (l0:List V) (bod:List (List V)) :
 ([true,false].map fun due=>[0,1,2].map fun k=>[[],a::A].map fun ab=>[[],y::Y].map fun pl=>(E I).tr fiL (aG st T due (ksT k c s (abT (.pv (.lst ab)) tl))) (lJ B1) ⟨g,l0::pl::bod⟩) =
 [true,false].map fun due=>[0,1,2].map fun k=>[[],a::A].map fun ab=>[[],y::Y].map fun pl=>some (due || (Nat.beq k 0 || ((Nat.beq k 1 && dK ab) || dK pl)),⟨g,l0::pl::bod⟩):=by kernel_rfl
noncomputable def T0:Stmt:=thS B1 0
noncomputable def T1:Stmt:=thS B1 1
noncomputable def T2:Stmt:=thS B1 2
theorem aJc (I:Sys) (env:aB) (σ:aC):(E I).ex fiL env T0 σ=(Rbind (Rbind ((E6 I).tr fiL env (ieT (asE T0))) fun r=>match r with
 | true=>(E6 I).ev fiL env (ieB (asE T0))
 | false=>(E6 I).ev fiL env (ieO (asE T0))) fun v=>Rbind (oneOf (bindT fiL 9 (asT T0) v env)) fun env'=>Rpure (Fl.next,env')) σ:=by kernel_rfl
theorem aJe (m:Nat) (st:V) (T:List PV) (due:Bool) (tl:aB) (g:List GCell) (x1 x2 x3 x4 x5 x6 x7 x8:V) (l0:List V) (bod:List (List V)) :
 ([[],[x1],[x1,x2],[x1,x2,x3],[x1,x2,x3,x4],[x1,x2,x3,x4,x5],[x1,x2,x3,x4,x5,x6],[x1,x2,x3,x4,x5,x6,x7],[x1,x2,x3,x4,x5,x6,x7,x8]].map fun pl=>(E6 (sys TT aA (m + 20))).tr fiL (aG st T due tl) (ieT (asE T0)) ⟨g,l0::pl::bod⟩) =
 [[],[x1],[x1,x2],[x1,x2,x3],[x1,x2,x3,x4],[x1,x2,x3,x4,x5],[x1,x2,x3,x4,x5,x6],[x1,x2,x3,x4,x5,x6,x7],[x1,x2,x3,x4,x5,x6,x7,x8]].map fun pl=>some (Nat.blt pl.length 8,⟨g,l0::pl::bod⟩):=by kernel_rfl
theorem aJf (I:Sys) (st:V) (T:List PV) (due:Bool) (k c s:Nat) (tl:aB) (σ:aC):(E6 I).ev fiL (aG st T due (ksT k c s tl)) (ieB (asE T0)) σ=(Rbind (Rbind (I.call (.st (.builtin "len")) [pK]) fun b=>bS .Mod (.pv (.int (.ofNat c))) b) fun k=>idx pK k) σ:=by kernel_rfl
theorem aJd (I:Sys) (st:V) (T:List PV) (due:Bool) (tl:aB) (σ:aC):(E6 I).ev fiL (aG st T due tl) (ieO (asE T0)) σ=some (.pv (bM 0),σ):=by kernel_rfl
theorem aJb (st v:V) (T:List PV) (due:Bool) (k c s:Nat) (ab x y:V):([[],t_r x,t_v y,b9 x y,bW x y].map fun tl=>bindT fiL 9 (asT T0) v (aG st T due (ksT k c s (abT ab tl)))) =
 [t_r v,t_r v,bW v y,b9 v y,bW v y].map fun tl=>some (aG st T due (ksT k c s (abT ab tl))):=by kernel_rfl
theorem aJh (I:Sys) (st:V) (T:List PV) (due:Bool) (k c s:Nat) (ab y:V) (σ:aC):((List.range 7).map fun r=>[t_r (.pv (bM r)),bW (.pv (bM r)) y,b9 (.pv (bM r)) y].map fun tl=>(E I).ex fiL (aG st T due (ksT k c s (abT ab tl))) T1 σ) =
 (List.range 7).map fun r=>[t_r (.pv (bM r)),bW (.pv (bM r)) y,b9 (.pv (bM r)) y].map fun tl=>(Rbind (Rbind (Rbind (d6 (.pv (.lst T)) (.pv (gS (cF r)))) fun b=>Rpure [b,.pv (.bool (Nat.beq r 6))]) fun vs=>Rpure (mkTup vs)) fun v=>Rbind (oneOf (bindT fiL 9 (asT T1) v (aG st T due (ksT k c s (abT ab tl))))) fun env'=>Rpure (Fl.next,env')) σ:=by kernel_rfl
theorem aJg (st:V) (T T' : List PV) (due d' : Bool) (tl:aB):bindT fiL 9 (asT T1) (.pv (.tup [.lst T',.bool d'])) (aG st T due tl)=some (aG st T' d' tl):=by kernel_rfl
theorem aJi (cc:V→List V→R V) (I:Sys) (st:V) (T:List PV) (due:Bool) (k c s:Nat) (ab x y:V) (σ:aC):([t_r x,bW x y,b9 x y].map fun tl=>(E (sel (a6 872) cc I)).ex fiL (aG st T due (ksT k c s (abT ab tl))) T2 σ) =
 [t_r x,bW x y,b9 x y].map fun tl=>(Rbind (cc (fn 872) [.li 1,x,.li 0]) fun _=>Rpure (Fl.next,aG st T due (ksT k c s (abT ab tl)))) σ:=by kernel_rfl
noncomputable def N1:Stmt:=elS B1 0
noncomputable def U0:Stmt:=thS N1 0
noncomputable def U1:Stmt:=thS N1 1
noncomputable def U2:Stmt:=thS N1 2
noncomputable def V0:Stmt:=elS N1 0
noncomputable def V1:Stmt:=elS N1 1
noncomputable def V2:Stmt:=elS N1 2
theorem aFS (I:Sys) (st:V) (T:List PV) (due:Bool) (c s:Nat) (tl:aB) (σ:aC):(E I).ex fiL (aG st T due (ksT 1 c s tl)) N1 σ=blk (E7 I) fiL (aG st T due (ksT 1 c s tl)) [U0,U1,U2] σ:=by kernel_rfl
theorem aFT (I:Sys) (st:V) (T:List PV) (due:Bool) (c s:Nat) (tl:aB) (σ:aC):(E I).ex fiL (aG st T due (ksT 2 c s tl)) N1 σ=blk (E7 I) fiL (aG st T due (ksT 2 c s tl)) [V0,V1,V2] σ:=by kernel_rfl
theorem aJ5 (I:Sys) (st:V) (T:List PV) (due:Bool) (k c s:Nat) (A:List PV) (tl:aB) (σ:aC):(E7 I).ex fiL (aG st T due (ksT k c s (abT (.pv (.lst A)) tl))) U0 σ =
 (Rbind (Rbind (Rbind (I.call (.st (.builtin "len")) [.pv (.lst A)]) fun b=>bS .Mod (.pv (.int (.ofNat c))) b) fun k=>idx (.pv (.lst A)) k) fun v=>Rbind (oneOf (bindT fiL 9 (asT U0) v (aG st T due (ksT k c s (abT (.pv (.lst A)) tl))))) fun env'=>Rpure (Fl.next,env')) σ:=by kernel_rfl
theorem aJ4 (st v:V) (T:List PV) (due:Bool) (k c s:Nat) (ab x y:V):([[],t_r x,t_v y,b9 x y,bW x y].map fun tl=>bindT fiL 9 (asT U0) v (aG st T due (ksT k c s (abT ab tl)))) =
 [t_r v,t_r v,bW v y,b9 v y,bW v y].map fun tl=>some (aG st T due (ksT k c s (abT ab tl))):=by kernel_rfl
theorem aJ7 (cc:V→List V→R V) (I:Sys) (st:V) (T:List PV) (due:Bool) (k c s:Nat) (ab x y:V) (σ:aC):([t_r x,bW x y,b9 x y].map fun tl=>(E7 (sel (a6 855) cc I)).ex fiL (aG st T due (ksT k c s (abT ab tl))) U1 σ) =
 [t_r x,bW x y,b9 x y].map fun tl=>(Rbind (Rbind (Rbind (Rbind (cc (fn 855) [x,.pv (.int (.ofNat s))]) fun b=>d6 (.pv (.lst T)) b) fun b=>Rpure [b,.pv (.bool true)]) fun vs=>Rpure (mkTup vs)) fun v=>Rbind (oneOf (bindT fiL 9 (asT U1) v (aG st T due (ksT k c s (abT ab tl))))) fun env'=>Rpure (Fl.next,env')) σ:=by kernel_rfl
theorem aJ6 (st:V) (T T' : List PV) (due d' : Bool) (tl:aB):bindT fiL 9 (asT U1) (.pv (.tup [.lst T',.bool d'])) (aG st T due tl)=some (aG st T' d' tl):=by kernel_rfl
noncomputable def aEM (f:V):Bool:=a6 860 f || a6 877 f
theorem aJ8 (cc:V→List V→R V) (I:Sys) (st:V) (T:List PV) (due:Bool) (k c s:Nat) (ab y:V) (σ:aC):((List.range 10).map fun j=>[t_r (.pv (aY j)),bW (.pv (aY j)) y,b9 (.pv (aY j)) y].map fun tl=>(E7 (sel aEM cc I)).ex fiL (aG st T due (ksT k c s (abT ab tl))) U2 σ) =
 (List.range 10).map fun j=>[t_r (.pv (aY j)),bW (.pv (aY j)) y,b9 (.pv (aY j)) y].map fun tl=>(Rbind (Rbind (Rbind (Rbind (cc (fn 860) [.li 1,dX (aW j)]) fun b=>Rpure [b,dX (aW j)]) fun bs=>Rpure (V.li 1::bs)) fun vs=>cc (fn 877) vs) fun _=>Rpure (Fl.next,aG st T due (ksT k c s (abT ab tl)))) σ:=by kernel_rfl
theorem aKc (I:Sys) (st:V) (T:List PV) (due:Bool) (k c s:Nat) (tl:aB) (σ:aC):(E7 I).ex fiL (aG st T due (ksT k c s tl)) V0 σ =
 (Rbind (Rbind (Rbind (Rbind (I.call (.st (.builtin "len")) [.li 1]) fun b=>bS .Mod (.pv (.int (.ofNat c))) b) fun k=>idx (.li 1) k) fun v=>idx v (.pv (.int 0))) fun v=>Rbind (oneOf (bindT fiL 9 (asT V0) v (aG st T due (ksT k c s tl)))) fun env'=>Rpure (Fl.next,env')) σ:=by kernel_rfl
theorem aKb (st v:V) (T:List PV) (due:Bool) (k c s:Nat) (ab x y:V):([[],t_r x,t_v y,b9 x y,bW x y].map fun tl=>bindT fiL 9 (asT V0) v (aG st T due (ksT k c s (abT ab tl)))) =
 [t_v v,b9 x v,t_v v,b9 x v,bW x v].map fun tl=>some (aG st T due (ksT k c s (abT ab tl))):=by kernel_rfl
theorem aKe (m:Nat) (st:V) (T:List PV) (due:Bool) (k c s:Nat) (ab x:V) (σ:aC):(vbL.map fun v=>[t_v (.pv (.str v.name)),b9 x (.pv (.str v.name)),bW x (.pv (.str v.name))].map fun tl=>(E7 (sys TT aA (m + 20))).ex fiL (aG st T due (ksT k c s (abT ab tl))) V1 σ) =
 vbL.map fun v=>[t_v (.pv (.str v.name)),b9 x (.pv (.str v.name)),bW x (.pv (.str v.name))].map fun tl=>(Rbind (d6 (.pv (.lst T)) (.pv (gS [W v.endW]))) fun v=>Rbind (oneOf (bindT fiL 9 (asT V1) v (aG st T due (ksT k c s (abT ab tl))))) fun env'=>Rpure (Fl.next,env')) σ:=by kernel_rfl
theorem aKd (st:V) (T T' : List PV) (due:Bool) (tl:aB):bindT fiL 9 (asT V1) (.pv (.lst T')) (aG st T due tl)=some (aG st T' due tl):=by kernel_rfl
noncomputable def aEI (f:V):Bool:=a6 882 f || a6 865 f
theorem aKf (cc:V→List V→R V) (I:Sys) (st:V) (T:List PV) (due:Bool) (k c s:Nat) (ab x v:V) (σ:aC):([t_v v,b9 x v,bW x v].map fun tl=>(E7 (sel aEI cc I)).ex fiL (aG st T due (ksT k c s (abT ab tl))) V2 σ) =
 [t_v v,b9 x v,bW x v].map fun tl=>(Rbind (Rbind (Rbind (Rbind (cc (fn 882) [.li 1,v]) fun b=>Rpure [b]) fun bs=>Rpure (V.li 1::bs)) fun vs=>cc (fn 865) vs) fun _=>Rpure (Fl.next,aG st T due (ksT k c s (abT ab tl)))) σ:=by kernel_rfl
theorem aDB (I:Sys) (st:V) (T:List PV) (tl:aB) (σ:aC):(C I).ex fiL (aG st T false tl) (stm 107 3) σ=some ((.next,aG st T false tl),σ):=by kernel_rfl
theorem aDA (I:Sys) (st:V) (T:List PV) (tl:aB) (σ:aC):(C I).ex fiL (aG st T true tl) (stm 107 3) σ=blk (D I) fiL (aG st T true tl) [thS (stm 107 3) 0,thS (stm 107 3) 1] σ:=by kernel_rfl
theorem e_1 (m:Nat) (st:V) (T:List PV) (tl:aB) (σ:aC):(D (sys TT aA (m + 20))).ex fiL (aG st T true tl) (thS (stm 107 3) 0) σ=(Rbind (d6 (.pv (.lst T)) (.pv (gS [W wCONTINUE]))) fun v=>Rbind (oneOf (bindT fiL 9 (asT (thS (stm 107 3) 0)) v (aG st T true tl))) fun env'=>Rpure (Fl.next,env')) σ:=by kernel_rfl
theorem aDz (st:V) (T T' : List PV) (due:Bool) (tl:aB):bindT fiL 9 (asT (thS (stm 107 3) 0)) (.pv (.lst T')) (aG st T due tl)=some (aG st T' due tl):=by kernel_rfl
theorem e_2 (cc:V→List V→R V) (I:Sys) (st:V) (T:List PV) (due:Bool) (tl:aB) (σ:aC):(D (sel (a6 872) cc I)).ex fiL (aG st T due tl) (thS (stm 107 3) 1) σ=(Rbind (cc (fn 872) [.li 1,.pv (bM 0),.li 0]) fun _=>Rpure (Fl.next,aG st T due tl)) σ:=by kernel_rfl
theorem e_3 (cc:V→List V→R V) (I:Sys) (st:V) (T:List PV) (due:Bool) (tl:aB) (σ:aC):(C (sel (a6 865) cc I)).ex fiL (aG st T due tl) (stm 107 4) σ=(Rbind (cc (fn 865) [.li 1,.pv (.int (.ofNat 0))]) fun _=>Rpure (Fl.next,aG st T due tl)) σ:=by kernel_rfl
theorem e_4 (cc:V→List V→R V) (I:Sys) (st:V) (T:List PV) (due:Bool) (tl:aB) (σ:aC):(C (sel nS cc I)).ex fiL (aG st T due tl) (stm 107 5) σ=(Rbind (Rbind (Rbind (Rbind (cc tupF [.li 0]) fun b=>Rpure [b]) fun bs=>Rpure (V.pv (.lst T)::bs)) fun vs=>Rpure (mkTup vs)) fun v=>Rpure (Fl.ret v,aG st T due tl)) σ:=by kernel_rfl
theorem aAz {bod:List (List PV)} {k:Str}:∀ {is:List IFr} {fs:List SF},dT bod is fs→gR is k=a7 fs k
 | [],fs,h=>by rw [show fs=[] from h]; rfl
 | i::is,fs,h=>by
  have hl:=h.len
  clear hl; obtain ⟨f,fs',rfl,h1,h2,_,_,h5⟩:=h
  have e:bE ⟨i.v,i.tk,[],none⟩ k=bE f k:=by unfold bE; rw [h1,h2]
  show (match bE ⟨i.v,i.tk,[],none⟩ k with | true=>is.length + 1 | false=>gR is k)=(match bE f k with | true=>fs'.length + 1 | false=>a7 fs' k)
  rw [e,aAz h5,h5.len]
theorem aHG {n:Nat} {fd:List PV} {fs:List SF} {is:List IFr} {bod:List (List PV)} (hR:a8 n fd fs is bod):∀ i ∈ is,(i.v,i.tk) ∈ vts:=by
 have go:∀ {is:List IFr} {fs:List SF},dT bod is fs→(∀ f ∈ fs,(f.v,f.tk) ∈ vts)→∀ i ∈ is,(i.v,i.tk) ∈ vts:=by
  intro is
  induction is with
  | nil=>intro fs _ _ i hi; cases hi
  | cons a is ih =>
   intro fs h hv i hi
   obtain ⟨f,fs',rfl,h1,h2,_,_,h5⟩:=h
   rcases List.mem_cons.mp hi with rfl | hi
   ·rw [h1,h2]; exact hv f (by exact (.head _))
   ·exact ih h5 (fun x hx=>hv x (by simp [hx])) i hi
 exact go hR.rf fun f hf=>(hR.vt f hf).1
theorem aAf {j:Nat} (hj:j < 10):aW j ∈ gJ:=by
 obtain ⟨x,hx,e⟩:=List.any_eq_true.mp (List.all_eq_true.mp (show ((List.range 10).all fun j=>gJ.any fun k=>sEq k (aW j))=true by kernel_rfl) j (List.mem_range.mpr hj))
 exact aK.mp e ▸ hx
theorem aAC {m n:Nat} {j:Nat} (hj:j < 10) {g:List GCell} {fd:List PV} {fs:List SF} {is:List IFr} {bod:List (List PV)} (hR:a8 n fd fs is bod) :
 (sys TT aA (m + 22)).call (fn 860) [.li 1,dX (aW j)] ⟨g,cells fd is bod⟩=some (.pv (.int (.ofNat (a7 fs (aW j)))),⟨g,cells fd is bod⟩):=by
 rw [← aAz hR.rf]
 exact aJt (aAf hj) is (by rw [hR.rf.len]; exact hR.len) (aHG hR)
theorem aCX (t:Nat) (σ:aC):cmp .Gt (.pv (.int (.ofNat t))) (.pv (.int 0)) σ=some (Nat.blt 0 t,σ):=by
 have h:cmp .Gt (.pv (.int (.ofNat t))) (.pv (.int 0)) σ=some (decide (Int.ofNat t > 0),σ):=rfl
 rw [h]
 congr 2
 clear h; cases t with
 | zero=>rfl
 | succ t =>
  have:(Int.ofNat (t + 1) > 0):=Int.ofNat_lt.mpr (Nat.succ_pos t)
  rw [decide_eq_true this]
  rfl
theorem uG {I:Sys} {fs:List SF} {σ:aC} (hI:∀ j,j < 10→I.call (fn 860) [.li 1,dX (aW j)] σ=some (.pv (.int (.ofNat (a7 fs (aW j)))),σ)):∀ (js:List Nat) (env:aB),(∀ j ∈ js,j < 10)→(env=jP∨∃ r,env=fQ r) →
 compVals (E6 I) hG abC.2.1 abC.2.2.1 abC.1 ((js.map aY).map V.pv) env σ=some (((js.filter fun j=>Nat.blt 0 (a7 fs (aW j))).map aY).map V.pv,σ)
 | [],_,_,_=>rfl
 | j::js,env,hj,he=>by
  have hb:bindT hG 9 abC.2.1 (.pv (aY j)) env=some (fQ (aY j)):=by
   rcases he with rfl | ⟨r,rfl⟩
   ·exact aBj _
   ·exact aBk _ _
  have hif:=aJ (aBm I.call I σ) j (List.mem_range.mpr (hj j (by exact (.head _))))
  rw [bH] at hif
  have ht:(E6 I).tr hG (fQ (aY j)) abI σ=some (Nat.blt 0 (a7 fs (aW j)),σ):=by
   rw [hif,aE (a:=V.pv (.bool (Nat.blt 0 (a7 fs (aW j))))) (σ₁:=σ)]
   ·rfl
   ·rw [aE (hI j (hj j (by exact (.head _)))),aE (aCX _ _)]
    rfl
  have ih:=uG hI js (fQ (aY j)) (fun x hx=>hj x (by simp [hx])) (.inr ⟨_,rfl⟩)
  show Rbind (oneOf (bindT _ _ _ _ _)) _ _=_
  rw [hb,aE (a:=fQ (aY j)) (σ₁:=σ) rfl]
  rw [aE (a:=Nat.blt 0 (a7 fs (aW j))) (σ₁:=σ) (by rw [aBn]; exact uI ht)]
  rw [List.filter_cons]
  cases Nat.blt 0 (a7 fs (aW j)) with
  | true =>
   show Rbind ((E6 I).ev _ _ _) _ _=_
   rw [aE (aBl _ _ _),aE ih]
   rfl
  | false=>exact ih
theorem kP {T X:List PV} {σ:aC} (h:T.length + X.length ≤ 1000000):d6 (.pv (.lst T)) (.pv (.lst X)) σ=some (.pv (.lst (T++X)),σ):=by
 have h1:d6 (.pv (.lst T)) (.pv (.lst X)) σ=(Rbind (oneOf (some (T.map V.pv))) fun x=>Rbind (oneOf (some (X.map V.pv))) fun y=>oneOf (match small (x.length + y.length) with
  | true=>some (mkVl (x++y))
  | false=>none)) σ:=by kernel_rfl
 rw [h1]
 show oneOf (match small ((T.map V.pv).length + (X.map V.pv).length) with | true=>some (mkVl (T.map V.pv++X.map V.pv)) | false=>none) σ=_
 rw [List.length_map,List.length_map,show small (T.length + X.length)=true from Nat.ble_eq_true_of_le h,← List.map_append,iU]
 rfl
theorem nY (u:Nat) {L:List PV} {σ:aC} (h:L.length ≤ 1000000):(sys TT aA (u + 1)).call (.st (.builtin "len")) [.pv (.lst L)] σ=some (.pv (.int (.ofNat L.length)),σ):=by
 have h1:(sys TT aA (u + 1)).call (.st (.builtin "len")) [.pv (.lst L)] σ=dE (L.map V.pv).length σ:=by kernel_rfl
 rw [h1,List.length_map]
 unfold dE
 rw [show small L.length=true from Nat.ble_eq_true_of_le h]
 rfl
theorem aFo (u:Nat) {g:List GCell} {l0 pl:List V} {bod:List (List V)} (h:pl.length ≤ 1000000):(sys TT aA (u + 1)).call (.st (.builtin "len")) [.li 1] ⟨g,l0::pl::bod⟩=some (.pv (.int (.ofNat pl.length)),⟨g,l0::pl::bod⟩):=by
 have h1:(sys TT aA (u + 1)).call (.st (.builtin "len")) [.li 1] ⟨g,l0::pl::bod⟩=dE pl.length ⟨g,l0::pl::bod⟩:=by kernel_rfl
 rw [h1]
 unfold dE
 rw [show small pl.length=true from Nat.ble_eq_true_of_le h]
 rfl
theorem w7 {L:List PV} {j:Nat} {x:PV} {σ:aC} (hj:j ≤ 1000000) (h:L[j]? = some x):idx (.pv (.lst L)) (.pv (.int (.ofNat j))) σ=some (.pv x,σ):=by
 have h1:smallI (.ofNat j)=true:=Nat.ble_eq_true_of_le hj
 show (match smallI (.ofNat j) with | true=>hS (.pv (.lst L)) (.ofNat j) | false=>Rno) _=_
 rw [h1]
 have h2:hS (.pv (.lst L)) (.ofNat j) σ=oneOf ((L.map V.pv)[j]?) σ:=by kernel_rfl
 dsimp only
 rw [h2,List.getElem?_map,h]
 rfl
theorem sF {c k:Nat} {σ:aC} (hk:0 < k):bS .Mod (.pv (.int (.ofNat c))) (.pv (.int (.ofNat k))) σ=some (.pv (.int (.ofNat (c % k))),σ):=by
 have h1:bS .Mod (.pv (.int (.ofNat c))) (.pv (.int (.ofNat k))) σ=(match iV (.ofNat c) (.ofNat k) with | some z=>Rpure (V.pv (.int z)) | none=>Rno) σ:=by kernel_rfl
 rw [h1]
 have h2:iV (.ofNat c) (.ofNat k)=some (.ofNat (c % k)):=by
  unfold iV
  have:decide (0 < Int.ofNat k)=true:=decide_eq_true (Int.ofNat_lt.mpr hk)
  rw [this]
  rfl
 rw [h2]
 rfl
theorem aAJ {T X:List PV} {d:Bool} {σ:aC} {m:R V} (h:m σ=some (.pv (.lst (T++X)),σ)):(Rbind (Rbind m fun b=>Rpure [b,.pv (.bool d)]) fun vs=>Rpure (mkTup vs)) σ=some (.pv (.tup [.lst (T++X),.bool d]),σ):=by
 rw [aE (a:=[V.pv (.lst (T++X)),V.pv (.bool d)]) (σ₁:=σ)]
 ·rfl
 ·rw [aE h]; rfl
def S5 (tl:aB):Prop:=∃ x y,tl=[]∨tl=t_r x∨tl=t_v y∨tl=b9 x y∨tl=bW x y
structure Rel (n:Nat) (M:MS) (T:List PV) (is:List IFr) (bod:List (List PV)):Prop where
 rep:a8 n M.fd M.fs is bod
 inv:c8 M
 toks:T=M.toks.map rtP
theorem Rel.ready {n:Nat} {M:MS} {T:List PV} {is:List IFr} {bod:List (List PV)} (h:Rel n M T is bod):f9 M.fs:=⟨h.inv.wf,h.inv.tail⟩
theorem aAg (r:Nat):(cF r).length ≤ 5:=by
 unfold cF
 cases eK r with
 | none=>simp
 | some v=>cases v <;> simp [Vb.hdr]
theorem zF {j s:Nat} (hj:j < 10) (hs:s < 4):(opTok j s).length ≤ 4:=by
 have h:=List.all_eq_true.mp (show ((List.range 10).all fun j=>(List.range 4).all fun s=>Nat.ble (opTok j s).length 4)=true by kernel_rfl) j (List.mem_range.mpr hj)
 exact Nat.le_of_ble_eq_true (List.all_eq_true.mp h s (List.mem_range.mpr hs))
section
variable {m n k c s:Nat} {M:MS} {T:List PV} {g:List GCell} {is:List IFr} {bod:List (List PV)} {st ab:V}
theorem pB {r:Nat} {tl:aB} (hr7:r < 7) (hrv:r=(match Nat.blt M.fs.length 8 with | true=>c % 7 | false=>0)) (hR:Rel n M T is bod) (hT:T.length ≤ 900000) (hn:n ≤ 80000) (h5:S5 tl) :
 ∃ tl' is' bod',S5 tl'∧blk (E (sys TT aA (m + 24))) fiL (aG st T M.due (ksT k c s (abT ab tl))) [T0,T1,T2] ⟨g,cells M.fd is bod⟩ =
  some ((.next,aG st (T++(cF r).map rtP) (Nat.beq r 6) (ksT k c s (abT ab tl'))),⟨g,cells (openM M r).fd is' bod'⟩)∧a8 (n + 9) (openM M r).fd (openM M r).fs is' bod':=by
 have hil:is.length ≤ 8:=by rw [hR.rep.rf.len]; exact hR.rep.len
 have hpl:(plV is).length=M.fs.length:=by rw [dO,hR.rep.rf.len]
 have v0:Rbind ((E6 (sys TT aA (m + 24))).tr fiL (aG st T M.due (ksT k c s (abT ab tl))) (ieT (asE T0))) (fun r=>match r with
  | true=>(E6 (sys TT aA (m + 24))).ev fiL (aG st T M.due (ksT k c s (abT ab tl))) (ieB (asE T0))
  | false=>(E6 (sys TT aA (m + 24))).ev fiL (aG st T M.due (ksT k c s (abT ab tl))) (ieO (asE T0))) ⟨g,cells M.fd is bod⟩=some (.pv (bM r),⟨g,cells M.fd is bod⟩):=by
  have ht:=pI (P:=fun pl=>(E6 (sys TT aA (m + 24))).tr fiL (aG st T M.due (ksT k c s (abT ab tl))) (ieT (asE T0)) ⟨g,M.fd.map V.pv::pl::bod.map (·.map V.pv)⟩=some (Nat.blt pl.length 8,⟨g,M.fd.map V.pv::pl::bod.map (·.map V.pv)⟩)) (.pv .none)
   (fun x1 x2 x3 x4 x5 x6 x7 x8 pl hp=>aJ (aJe (m + 4) st T M.due (ksT k c s (abT ab tl)) g x1 x2 x3 x4 x5 x6 x7 x8 (M.fd.map V.pv) (bod.map (·.map V.pv))) pl hp) (plV is) (by rw [dO]; exact hil)
  rw [hpl] at ht
  rw [aE ht]
  cases hb:Nat.blt M.fs.length 8 with
  | false =>
   rw [hb] at hrv
   have hrv:r=0:=hrv
   show (E6 (sys TT aA (m + 24))).ev _ _ _ _=_
   rw [aJd,hrv]
  | true =>
   rw [hb] at hrv
   have hrv:r=c % 7:=hrv
   show (E6 (sys TT aA (m + 24))).ev _ _ _ _=_
   have hl:((List.range 7).map bM).length=7:=by exact (rfl)
   have hlen:=nY (m + 23) (L:=(List.range 7).map bM) (σ:=⟨g,cells M.fd is bod⟩) (by decide)
   rw [hl] at hlen
   rw [aJf]
   show Rbind (Rbind ((sys TT aA (m + 24)).call (.st (.builtin "len")) [.pv (.lst ((List.range 7).map bM))]) _) (fun k=>idx (.pv (.lst ((List.range 7).map bM))) k) _=_
   rw [aE (a:=V.pv (.int (.ofNat (c % 7)))) (σ₁:=⟨g,cells M.fd is bod⟩) (by rw [aE hlen]; exact sF (by decide)),← hrv]
   exact w7 (lel (Nat.le_of_lt hr7) rfl) (by rw [List.getElem?_map,List.getElem?_range hr7]; rfl)
 have q0:∃ tl',S5 tl'∧(∃ y,tl' ∈ [t_r (.pv (bM r)),bW (.pv (bM r)) y,b9 (.pv (bM r)) y])∧(E (sys TT aA (m + 24))).ex fiL (aG st T M.due (ksT k c s (abT ab tl))) T0 ⟨g,cells M.fd is bod⟩=some ((.next,aG st T M.due (ksT k c s (abT ab tl'))),⟨g,cells M.fd is bod⟩):=by
  obtain ⟨x,y,h5⟩:=h5
  have hb:=aJb st (.pv (bM r)) T M.due k c s ab x y
  have fin:∀ tl',bindT fiL 9 (asT T0) (.pv (bM r)) (aG st T M.due (ksT k c s (abT ab tl)))=some (aG st T M.due (ksT k c s (abT ab tl')))→(E (sys TT aA (m + 24))).ex fiL (aG st T M.due (ksT k c s (abT ab tl))) T0 ⟨g,cells M.fd is bod⟩=some ((.next,aG st T M.due (ksT k c s (abT ab tl'))),⟨g,cells M.fd is bod⟩):=fun tl' hb=>by
   rw [aJc,aE (a:=V.pv (bM r)) (σ₁:=⟨g,cells M.fd is bod⟩) (by exact v0),hb]
   rfl
  clear v0; rcases h5 with rfl | rfl | rfl | rfl | rfl
  ·exact ⟨_,⟨_,.pv .none,.inr (.inl rfl)⟩,⟨.pv .none,by exact (.head _)⟩,fin _ (at0 hb)⟩
  ·exact ⟨_,⟨_,.pv .none,.inr (.inl rfl)⟩,⟨.pv .none,by exact (.head _)⟩,fin _ (at1 hb)⟩
  ·exact ⟨_,⟨_,y,.inr (.inr (.inr (.inr rfl)))⟩,⟨y,by exact (.tail _ (.head _))⟩,fin _ (at2 hb)⟩
  ·exact ⟨_,⟨_,y,.inr (.inr (.inr (.inl rfl)))⟩,⟨y,by exact (.tail _ (.tail _ (.head _)))⟩,fin _ (at3 hb)⟩
  ·exact ⟨_,⟨_,y,.inr (.inr (.inr (.inr rfl)))⟩,⟨y,by exact (.tail _ (.head _))⟩,fin _ (at4 hb)⟩
 obtain ⟨tl',hs',⟨y,hm⟩,q0⟩:=q0
 have q1:(E (sys TT aA (m + 24))).ex fiL (aG st T M.due (ksT k c s (abT ab tl'))) T1 ⟨g,cells M.fd is bod⟩=some ((.next,aG st (T++(cF r).map rtP) (Nat.beq r 6) (ksT k c s (abT ab tl'))),⟨g,cells M.fd is bod⟩):=by
  rw [aJ (aJ (aJh (sys TT aA (m + 24)) st T M.due k c s ab y ⟨g,cells M.fd is bod⟩) r (List.mem_range.mpr hr7)) tl' hm]
  have ha:d6 (.pv (.lst T)) (.pv (gS (cF r))) ⟨g,cells M.fd is bod⟩=some (.pv (.lst (T++(cF r).map rtP)),⟨g,cells M.fd is bod⟩):=kP (le2 hT (mln (aAg r)) rfl)
  rw [aE (aAJ ha),aJg]
  rfl
 obtain ⟨is',bod',o1,o2⟩:=zI (m:=m) (g:=g) hr7 hR.rep hR.ready (by
  refine boolF (b:=Nat.blt M.fs.length 8) (fun hb=>?_) fun hb=>?_
  ·rw [hb] at hrv; exact .inr hrv
  ·exact .inl (Nat.le_of_ble_eq_true hb)) hn
 have q2:(E (sys TT aA (m + 24))).ex fiL (aG st (T++(cF r).map rtP) (Nat.beq r 6) (ksT k c s (abT ab tl'))) T2 ⟨g,cells M.fd is bod⟩=some ((.next,aG st (T++(cF r).map rtP) (Nat.beq r 6) (ksT k c s (abT ab tl'))),⟨g,cells (openM M r).fd is' bod'⟩):=by
  have:=aJ (aJi (sys TT aA (m + 24)).call (sys TT aA (m + 24)) st (T++(cF r).map rtP) (Nat.beq r 6) k c s ab (.pv (bM r)) y ⟨g,cells M.fd is bod⟩) tl' hm
  rw [bH] at this
  rw [this,aE o1]
  rfl
 refine ⟨tl',is',bod',hs',?_,o2⟩
 rw [aO q0,aO q1,aO q2]
 rfl
theorem aIQ {j:Nat} {A:List Nat} {tl:aB} (hs4:s < 4) (hA:A ≠ []) (hAl:A.length ≤ 10) (hj:A[c % A.length]? = some j) (hj10:j < 10) (ht:0 < a7 M.fs (aW j)) (hR:Rel n M T is bod) (hT:T.length ≤ 900000) (hn:n ≤ 80000) (h5:S5 tl) :
 ∃ tl' is' bod',S5 tl'∧blk (E7 (sys TT aA (m + 24))) fiL (aG st T M.due (ksT k c s (abT (.pv (.lst (A.map aY))) tl))) [U0,U1,U2] ⟨g,cells M.fd is bod⟩ =
  some ((.next,aG st (T++(opTok j s).map rtP) true (ksT k c s (abT (.pv (.lst (A.map aY))) tl'))),⟨g,cells (f5 M j s).fd is' bod'⟩)∧a8 (n + 9) (f5 M j s).fd (f5 M j s).fs is' bod':=by
 have hpos:0 < A.length:=List.length_pos_iff.mpr hA
 have hlt:c % A.length < A.length:=Nat.mod_lt _ hpos
 have q0:∃ tl',S5 tl'∧(∃ y,tl' ∈ [t_r (.pv (aY j)),bW (.pv (aY j)) y,b9 (.pv (aY j)) y])∧(E7 (sys TT aA (m + 24))).ex fiL (aG st T M.due (ksT k c s (abT (.pv (.lst (A.map aY))) tl))) U0 ⟨g,cells M.fd is bod⟩=some ((.next,aG st T M.due (ksT k c s (abT (.pv (.lst (A.map aY))) tl'))),⟨g,cells M.fd is bod⟩):=by
  obtain ⟨x,y,h5⟩:=h5
  have hb:=aJ4 st (.pv (aY j)) T M.due k c s (.pv (.lst (A.map aY))) x y
  have hlen:=nY (m + 23) (L:=A.map aY) (σ:=⟨g,cells M.fd is bod⟩) (mln (lel hAl rfl))
  rw [List.length_map] at hlen
  have fin:∀ tl',bindT fiL 9 (asT U0) (.pv (aY j)) (aG st T M.due (ksT k c s (abT (.pv (.lst (A.map aY))) tl)))=some (aG st T M.due (ksT k c s (abT (.pv (.lst (A.map aY))) tl')))→(E7 (sys TT aA (m + 24))).ex fiL (aG st T M.due (ksT k c s (abT (.pv (.lst (A.map aY))) tl))) U0 ⟨g,cells M.fd is bod⟩=some ((.next,aG st T M.due (ksT k c s (abT (.pv (.lst (A.map aY))) tl'))),⟨g,cells M.fd is bod⟩):=fun tl' hb=>by
   rw [aJ5,aE (a:=V.pv (aY j)) (σ₁:=⟨g,cells M.fd is bod⟩),hb]
   ·rfl
   ·rw [aE (a:=V.pv (.int (.ofNat (c % A.length)))) (σ₁:=⟨g,cells M.fd is bod⟩) (by rw [aE hlen]; exact sF hpos)]
    exact w7 (Nat.le_trans (Nat.le_of_lt hlt) (lel hAl rfl)) (by rw [List.getElem?_map,hj]; rfl)
  rcases h5 with rfl | rfl | rfl | rfl | rfl
  ·exact ⟨_,⟨_,.pv .none,.inr (.inl rfl)⟩,⟨.pv .none,by exact (.head _)⟩,fin _ (at0 hb)⟩
  ·exact ⟨_,⟨_,.pv .none,.inr (.inl rfl)⟩,⟨.pv .none,by exact (.head _)⟩,fin _ (at1 hb)⟩
  ·exact ⟨_,⟨_,y,.inr (.inr (.inr (.inr rfl)))⟩,⟨y,by exact (.tail _ (.head _))⟩,fin _ (at2 hb)⟩
  ·exact ⟨_,⟨_,y,.inr (.inr (.inr (.inl rfl)))⟩,⟨y,by exact (.tail _ (.tail _ (.head _)))⟩,fin _ (at3 hb)⟩
  ·exact ⟨_,⟨_,y,.inr (.inr (.inr (.inr rfl)))⟩,⟨y,by exact (.tail _ (.head _))⟩,fin _ (at4 hb)⟩
 obtain ⟨tl',hs',⟨y,hm⟩,q0⟩:=q0
 have q1:(E7 (sys TT aA (m + 24))).ex fiL (aG st T M.due (ksT k c s (abT (.pv (.lst (A.map aY))) tl'))) U1 ⟨g,cells M.fd is bod⟩=some ((.next,aG st (T++(opTok j s).map rtP) true (ksT k c s (abT (.pv (.lst (A.map aY))) tl'))),⟨g,cells M.fd is bod⟩):=by
  have h1:=aJ (aJ7 (sys TT aA (m + 24)).call (sys TT aA (m + 24)) st T M.due k c s (.pv (.lst (A.map aY))) (.pv (aY j)) y ⟨g,cells M.fd is bod⟩) tl' hm
  rw [bH] at h1
  have h2:=aJ (aJ (aGG (m + 4) ⟨g,cells M.fd is bod⟩) j (List.mem_range.mpr hj10)) s (List.mem_range.mpr hs4)
  have ha:Rbind ((sys TT aA (m + 24)).call (fn 855) [.pv (aY j),.pv (.int (.ofNat s))]) (fun b=>d6 (.pv (.lst T)) b) ⟨g,cells M.fd is bod⟩=some (.pv (.lst (T++(opTok j s).map rtP)),⟨g,cells M.fd is bod⟩):=by
   rw [aE h2]
   exact kP (le2 hT (mln (zF hj10 hs4)) rfl)
  rw [h1,aE (aAJ ha),aJ6]
  rfl
 obtain ⟨is',bod',o1,o2⟩:=aJs (m:=m) (g:=g) (aAf hj10) ht hR.rep hR.ready hn
 have q2:(E7 (sys TT aA (m + 24))).ex fiL (aG st (T++(opTok j s).map rtP) true (ksT k c s (abT (.pv (.lst (A.map aY))) tl'))) U2 ⟨g,cells M.fd is bod⟩=some ((.next,aG st (T++(opTok j s).map rtP) true (ksT k c s (abT (.pv (.lst (A.map aY))) tl'))),⟨g,cells (f5 M j s).fd is' bod'⟩):=by
  have h1:=aJ (aJ (aJ8 (sys TT aA (m + 24)).call (sys TT aA (m + 24)) st (T++(opTok j s).map rtP) true k c s (.pv (.lst (A.map aY))) y ⟨g,cells M.fd is bod⟩) j (List.mem_range.mpr hj10)) tl' hm
  rw [bH] at h1
  have h2:=aAC (m:=m + 2) hj10 (g:=g) hR.rep
  rw [h1,aE (a:=V.pv .none) (σ₁:=⟨g,cells (f5 M j s).fd is' bod'⟩)]
  ·rfl
  ·rw [aE (a:=[V.li 1,.pv (.int (.ofNat (a7 M.fs (aW j)))),dX (aW j)]) (σ₁:=⟨g,cells M.fd is bod⟩)]
   ·exact o1
   ·rw [aE (a:=[V.pv (.int (.ofNat (a7 M.fs (aW j)))),dX (aW j)]) (σ₁:=⟨g,cells M.fd is bod⟩) (by rw [aE h2]; rfl)]
    rfl
 refine ⟨tl',is',bod',hs',?_,o2⟩
 rw [aO q0,aO q1,aO q2]
 rfl
theorem aIR {tl:aB} {v:Vb} (hne:M.fs ≠ []) (hv:v=fG M.fs (c % M.fs.length)) (hR:Rel n M T is bod) (hT:T.length ≤ 900000) (hn:n ≤ 80000) (h5:S5 tl) :
 ∃ tl' is' bod',S5 tl'∧blk (E7 (sys TT aA (m + 24))) fiL (aG st T M.due (ksT k c s (abT ab tl))) [V0,V1,V2] ⟨g,cells M.fd is bod⟩ =
  some ((.next,aG st (T++[W v.endW].map rtP) M.due (ksT k c s (abT ab tl'))),⟨g,cells (gD M v).fd is' bod'⟩)∧a8 (n + 9) (gD M v).fd (gD M v).fs is' bod':=by
 have hil:is.length ≤ 8:=by rw [hR.rep.rf.len]; exact hR.rep.len
 have hpl:(plV is).length=M.fs.length:=by rw [dO,hR.rep.rf.len]
 have hpos:0 < M.fs.length:=List.length_pos_iff.mpr hne
 have hlt:c % M.fs.length < M.fs.length:=Nat.mod_lt _ hpos
 have revat:∀ {is:List IFr} {fs:List SF} {p:Nat},dT bod is fs→p < fs.length→∃ i,is.reverse[p]? = some i∧i.v=fG fs p:=by
  intro is
  induction is with
  | nil=>intro fs p h hp; rw [show fs=[] from h] at hp; cases hp
  | cons a is ih =>
   intro fs p h hp
   have hlen:=h.len
   clear hlen; obtain ⟨f,fs',rfl,h1,_,_,_,h5⟩:=h
   have hl':=h5.len
   by_cases hq:p < fs'.length
   ·obtain ⟨i,e1,e2⟩:=ih h5 hq
    refine ⟨i,?_,?_⟩
    ·rw [List.reverse_cons,List.getElem?_append_left (by rw [List.length_reverse,hl']; exact hq)]; exact e1
    ·rw [e2]; unfold fG
     rw [List.reverse_cons,List.getElem?_append_left (by rw [List.length_reverse]; exact hq)]
   ·have hpe:p=fs'.length:=Nat.le_antisymm (Nat.le_of_lt_succ hp) (Nat.le_of_not_lt hq)
    refine ⟨a,?_,?_⟩
    ·rw [List.reverse_cons,List.getElem?_append_right (by rw [List.length_reverse,hl']; exact Nat.le_of_not_lt hq)]; simp [hpe,hl']
    ·unfold fG
     rw [List.reverse_cons,List.getElem?_append_right (by rw [List.length_reverse]; exact Nat.le_of_not_lt hq)]
     simp [hpe,h1]
 obtain ⟨i,hi,hiv⟩:=revat hR.rep.rf hlt
 have hvf:∃ f ∈ M.fs,f.v=v:=by
  rw [hv]
  unfold fG
  rw [List.getElem?_eq_getElem (by rw [List.length_reverse]; exact hlt)]
  exact ⟨_,List.mem_reverse.mp (List.getElem_mem _),rfl⟩
 have q0:∃ tl',S5 tl'∧(∃ x,tl' ∈ [t_v (.pv (.str v.name)),b9 x (.pv (.str v.name)),bW x (.pv (.str v.name))])∧(E7 (sys TT aA (m + 24))).ex fiL (aG st T M.due (ksT k c s (abT ab tl))) V0 ⟨g,cells M.fd is bod⟩=some ((.next,aG st T M.due (ksT k c s (abT ab tl'))),⟨g,cells M.fd is bod⟩):=by
  obtain ⟨x,y,h5⟩:=h5
  have hb:=aKb st (.pv (.str v.name)) T M.due k c s ab x y
  have hlen:=aFo (m + 23) (g:=g) (l0:=M.fd.map V.pv) (pl:=plV is) (bod:=bod.map (·.map V.pv)) (by rw [dO]; exact lel hil rfl)
  rw [hpl] at hlen
  have fin:∀ tl',bindT fiL 9 (asT V0) (.pv (.str v.name)) (aG st T M.due (ksT k c s (abT ab tl)))=some (aG st T M.due (ksT k c s (abT ab tl')))→(E7 (sys TT aA (m + 24))).ex fiL (aG st T M.due (ksT k c s (abT ab tl))) V0 ⟨g,cells M.fd is bod⟩=some ((.next,aG st T M.due (ksT k c s (abT ab tl'))),⟨g,cells M.fd is bod⟩):=fun tl' hb=>by
   rw [aKc,aE (a:=V.pv (.str v.name)) (σ₁:=⟨g,cells M.fd is bod⟩),hb]
   ·rfl
   ·rw [aE (a:=frV i) (σ₁:=⟨g,cells M.fd is bod⟩)]
    ·rw [wV,hiv,← hv]
    ·rw [aE (a:=V.pv (.int (.ofNat (c % M.fs.length)))) (σ₁:=⟨g,cells M.fd is bod⟩) (by rw [aE hlen]; exact sF hpos)]
     exact rI (Nat.le_trans (Nat.le_of_lt hlt) (lel hR.rep.len rfl)) (by unfold plV; rw [List.getElem?_map,hi]; rfl)
  rcases h5 with rfl | rfl | rfl | rfl | rfl
  ·exact ⟨_,⟨.pv .none,_,.inr (.inr (.inl rfl))⟩,⟨.pv .none,by exact (.head _)⟩,fin _ (at0 hb)⟩
  ·exact ⟨_,⟨x,_,.inr (.inr (.inr (.inl rfl)))⟩,⟨x,by exact (.tail _ (.head _))⟩,fin _ (at1 hb)⟩
  ·exact ⟨_,⟨.pv .none,_,.inr (.inr (.inl rfl))⟩,⟨.pv .none,by exact (.head _)⟩,fin _ (at2 hb)⟩
  ·exact ⟨_,⟨x,_,.inr (.inr (.inr (.inl rfl)))⟩,⟨x,by exact (.tail _ (.head _))⟩,fin _ (at3 hb)⟩
  ·exact ⟨_,⟨x,_,.inr (.inr (.inr (.inr rfl)))⟩,⟨x,by exact (.tail _ (.tail _ (.head _)))⟩,fin _ (at4 hb)⟩
 obtain ⟨tl',hs',⟨x,hm⟩,q0⟩:=q0
 have hvm:v ∈ vbL:=kC v
 have q1:(E7 (sys TT aA (m + 24))).ex fiL (aG st T M.due (ksT k c s (abT ab tl'))) V1 ⟨g,cells M.fd is bod⟩=some ((.next,aG st (T++[W v.endW].map rtP) M.due (ksT k c s (abT ab tl'))),⟨g,cells M.fd is bod⟩):=by
  rw [aJ (aJ (aKe (m + 4) st T M.due k c s ab x ⟨g,cells M.fd is bod⟩) v hvm) tl' hm]
  have ha:d6 (.pv (.lst T)) (.pv (gS [W v.endW])) ⟨g,cells M.fd is bod⟩=some (.pv (.lst (T++[W v.endW].map rtP)),⟨g,cells M.fd is bod⟩):=kP (le2 hT (Nat.le_refl 1) rfl)
  rw [aE ha,aKd]
  rfl
 have hin:cA M.fs v ≤ 8:=by
  refine Nat.le_trans ?_ hR.rep.len
  clear hvf hv q0 q1 hm hR
  induction M.fs with
  | nil=>exact Nat.le_refl _
  | cons h fs ih =>
   show (match dD h.v v with | true=>fs.length | false=>cA fs v) ≤ _
   cases dD h.v v with
   | true=>exact Nat.le_succ _
   | false=>exact Nat.le_succ_of_le ih
 obtain ⟨is',bod',o1,o2⟩:=nC (m:=m + 2) (many:=cA M.fs v) (g:=g) hin hR.rep hR.ready (lel hn rfl)
 have q2:(E7 (sys TT aA (m + 24))).ex fiL (aG st (T++[W v.endW].map rtP) M.due (ksT k c s (abT ab tl'))) V2 ⟨g,cells M.fd is bod⟩=some ((.next,aG st (T++[W v.endW].map rtP) M.due (ksT k c s (abT ab tl'))),⟨g,cells (gD M v).fd is' bod'⟩):=by
  have h1:=aJ (aKf (sys TT aA (m + 24)).call (sys TT aA (m + 24)) st (T++[W v.endW].map rtP) M.due k c s ab x (.pv (.str v.name)) ⟨g,cells M.fd is bod⟩) tl' hm
  rw [bH] at h1
  have h2:=aEB (m:=m + 2) (g:=g) hR.rep hvf
  rw [h1,aE (a:=V.pv .none) (σ₁:=⟨g,cells (gD M v).fd is' bod'⟩)]
  ·rfl
  ·rw [aE (a:=[V.li 1,.pv (.int (.ofNat (cA M.fs v)))]) (σ₁:=⟨g,cells M.fd is bod⟩)]
   ·exact o1
   ·rw [aE (a:=[V.pv (.int (.ofNat (cA M.fs v)))]) (σ₁:=⟨g,cells M.fd is bod⟩) (by rw [aE h2]; rfl)]
    rfl
 refine ⟨tl',is',bod',hs',?_,o2.mono (Nat.add_le_add_left (by decide) n)⟩
 rw [aO q0,aO q1,aO q2]
 rfl
end
def TL0 (tl:aB):Prop:=tl=[]∨∃ ab tl5,S5 tl5∧tl=abT ab tl5
noncomputable def d3 (M:MS) (k:Nat):List Nat:=match Nat.beq k 1,M.due with
 | true,false=>bX M.fs
 | _,_=>[]
theorem aBo (fs:List SF):(bX fs).length ≤ 10:=by
 unfold bX
 exact Nat.le_trans (List.length_filter_le ..) (by exact (Nat.le_refl _))
section
variable {m n c s:Nat} {M:MS} {T:List PV} {g:List GCell} {is:List IFr} {bod:List (List PV)} {st:V}
theorem aBG {k:Nat} (hk:k < 3) {tl0:aB} (ht:TL0 tl0) (hR:Rel n M T is bod):S5 tl0.tail ∧
 (D (sys TT aA (m + 24))).ex fiL (aG st T M.due (ksT k c s tl0)) B0 ⟨g,cells M.fd is bod⟩=some ((.next,aG st T M.due (ksT k c s (abT (.pv (.lst ((d3 M k).map aY))) tl0.tail))),⟨g,cells M.fd is bod⟩):=by
 have h5:S5 tl0.tail:=by
  rcases ht with rfl | ⟨ab,tl5,h5,rfl⟩
  ·exact ⟨.pv .none,.pv .none,.inl rfl⟩
  ·exact h5
 refine ⟨h5,?_⟩
 have no:(k,M.due) ∈ [(0,true),(0,false),(1,true),(2,true),(2,false)]→(D (sys TT aA (m + 24))).ex fiL (aG st T M.due (ksT k c s tl0)) B0 ⟨g,cells M.fd is bod⟩=some ((.next,aG st T M.due (ksT k c s (abT (.pv (.lst [])) tl0.tail))),⟨g,cells M.fd is bod⟩):=fun hm=>by
  have:=fun ab tl=>aJ (aJ (aBF (sys TT aA (m + 24)) st T c s ab tl ⟨g,cells M.fd is bod⟩) (k,M.due) hm) tl0
  clear h5; rcases ht with rfl | ⟨ab,tl5,_,rfl⟩
  ·exact this (.pv .none) [] (by exact (.head _))
  ·exact this ab tl5 (by exact (.tail _ (.head _)))
 clear h5; cases hd:M.due with
 | false =>
  rw [hd] at no
  match k,hk with
  | 0,_ =>
   have e:d3 M 0=[]:=by unfold d3; rw [hd]
   rw [e]; exact no (by exact (.tail _ (.head _)))
  | 2,_ =>
   have e:d3 M 2=[]:=by unfold d3; rw [hd]
   rw [e]; exact no (by decide)
  | 1,_ =>
   have e:d3 M 1=bX M.fs:=by unfold d3; rw [hd]
   rw [e]
   have hf:freeIn abC.2.2.2 (aG st T false (ksT 1 c s tl0))=jP:=by
    have go:=fun ab x y=>aJ (aBE st T c s ab x y) tl0
    clear no; rcases ht with rfl | ⟨ab,tl5,⟨x,y,h⟩,rfl⟩
    ·exact go (.pv .none) (.pv .none) (.pv .none) (by exact (.head _))
    ·exact go ab x y (by rcases h with rfl | rfl | rfl | rfl | rfl <;> simp)
   have hl:=uG (I:=sys TT aA (m + 24)) (fs:=M.fs) (σ:=⟨g,cells M.fd is bod⟩) (fun j hj=>aAC (m:=m + 2) hj hR.rep) (List.range 10) jP (fun j hj=>List.mem_range.mp hj) (.inl rfl)
   rw [aBI hf hl,iU]
   have hb:=fun ab tl=>aJ (aBC st (.pv (.lst ((bX M.fs).map aY))) T c s ab tl) tl0
   have hb:bindT fiL 9 (asT B0) (.pv (.lst ((bX M.fs).map aY))) (aG st T false (ksT 1 c s tl0))=some (aG st T false (ksT 1 c s (abT (.pv (.lst ((bX M.fs).map aY))) tl0.tail))):=by
    clear no hf; rcases ht with rfl | ⟨ab,tl5,_,rfl⟩
    ·exact hb (.pv .none) [] (by exact (.head _))
    ·exact hb ab tl5 (by exact (.tail _ (.head _)))
   show Rbind (oneOf (bindT fiL 9 (asT B0) (.pv (.lst ((bX M.fs).map aY))) _)) _ _=_
   rw [hb]
   rfl
 | true =>
  have e:d3 M k=[]:=by unfold d3; rw [hd]; cases Nat.beq k 1 <;> rfl
  rw [e]
  rw [hd] at no
  match k,hk with
  | 0,_=>exact no (by exact (.head _))
  | 1,_=>exact no (by exact (.tail _ (.tail _ (.head _))))
  | 2,_=>exact no (by decide)
theorem aEL {α β:Type} (f:α→β) (l:List α):dK (l.map f)=dK l:=by cases l <;> rfl
theorem aJv {k:Nat} (hk:k < 3) {tl:aB} (hR:Rel n M T is bod) :
 (E (sys TT aA (m + 24))).tr fiL (aG st T M.due (ksT k c s (abT (.pv (.lst ((d3 M k).map aY))) tl))) (lJ B1) ⟨g,cells M.fd is bod⟩=some (gL M k,⟨g,cells M.fd is bod⟩):=by
 have key:∀ (ab:List PV) (pl:List V),(E (sys TT aA (m + 24))).tr fiL (aG st T M.due (ksT k c s (abT (.pv (.lst ab)) tl))) (lJ B1) ⟨g,M.fd.map V.pv::pl::bod.map (·.map V.pv)⟩=some (M.due || (Nat.beq k 0 || ((Nat.beq k 1 && dK ab) || dK pl)),⟨g,M.fd.map V.pv::pl::bod.map (·.map V.pv)⟩):=fun ab pl=>by
  have hkm:k ∈ [0,1,2]:=by
   match k,hk with
   | 0,_ | 1,_ | 2,_=>simp
  have:=fun a A y Y=>aJ (aJ (aJ (aBL (sys TT aA (m + 24)) st T c s a A y Y tl g (M.fd.map V.pv) (bod.map (·.map V.pv))) M.due (by cases M.due <;> simp)) k hkm) ab
  cases ab with
  | nil =>
   cases pl with
   | nil=>exact aJ (this .none [] (.pv .none) [] (by exact (.head _))) [] (by exact (.head _))
   | cons y Y=>exact aJ (this .none [] y Y (by exact (.head _))) (y::Y) (by exact (.tail _ (.head _)))
  | cons a A =>
   cases pl with
   | nil=>exact aJ (this a A (.pv .none) [] (by exact (.tail _ (.head _)))) [] (by exact (.head _))
   | cons y Y=>exact aJ (this a A y Y (by exact (.tail _ (.head _)))) (y::Y) (by exact (.tail _ (.head _)))
 rw [key]
 have e1:dK (plV is)=dK M.fs:=by
  have hl:=hR.rep.rf.len
  cases his:is with
  | nil=>rw [his] at hl; rw [List.length_eq_zero_iff.mp hl.symm]; rfl
  | cons i is' =>
   rw [his] at hl
   cases hfs:M.fs with
   | nil=>rw [hfs] at hl; cases hl
   | cons f r =>
    rw [i0]
    cases plV is' <;> rfl
 rw [e1,aEL]
 unfold gL d3
 cases M.due with
 | true=>simp
 | false =>
  cases Nat.beq k 1 with
  | true=>rfl
  | false=>simp
theorem aIV {k:Nat} (hk:k < 3) (hs:s < 4) {tl0:aB} (ht:TL0 tl0) (hR:Rel n M T is bod) (hT:T.length ≤ 900000) (hn:n ≤ 80000) :
 ∃ tl' T' is' bod',TL0 tl'∧blk (D (sys TT aA (m + 24))) fiL (aG st T M.due (ksT k c s tl0)) (cC (stm 107 2)) ⟨g,cells M.fd is bod⟩ =
  some ((.next,aG st T' (cX M k c s).due (ksT k c s tl')),⟨g,cells (cX M k c s).fd is' bod'⟩)∧Rel (n + 9) (cX M k c s) T' is' bod'∧T'.length ≤ T.length + 5:=by
 obtain ⟨h5,q0⟩:=aBG (m:=m) (g:=g) (st:=st) (c:=c) (s:=s) hk ht hR
 have q1:=aJv (m:=m) (g:=g) (st:=st) (c:=c) (s:=s) (tl:=tl0.tail) hk hR
 have hI:=step_inv hR.inv (kind:=k) (choice:=c) hs
 generalize habv:V.pv (.lst ((d3 M k).map aY))=ab at q0 q1
 have fin:∀ tl' T' is' bod',S5 tl'→(match gL M k with
  | true=>blk (E (sys TT aA (m + 24))) fiL (aG st T M.due (ksT k c s (abT ab tl0.tail))) [T0,T1,T2]
  | false=>blk (E (sys TT aA (m + 24))) fiL (aG st T M.due (ksT k c s (abT ab tl0.tail))) [N1]) ⟨g,cells M.fd is bod⟩=some ((.next,aG st T' (cX M k c s).due (ksT k c s (abT ab tl'))),⟨g,cells (cX M k c s).fd is' bod'⟩) →
  a8 (n + 9) (cX M k c s).fd (cX M k c s).fs is' bod'→T' = (cX M k c s).toks.map rtP→T'.length ≤ T.length + 5 →
  ∃ tl' T' is' bod',TL0 tl'∧blk (D (sys TT aA (m + 24))) fiL (aG st T M.due (ksT k c s tl0)) (cC (stm 107 2)) ⟨g,cells M.fd is bod⟩ =
  some ((.next,aG st T' (cX M k c s).due (ksT k c s tl')),⟨g,cells (cX M k c s).fd is' bod'⟩)∧Rel (n + 9) (cX M k c s) T' is' bod'∧T'.length ≤ T.length + 5:=fun tl' T' is' bod' h1 h2 h3 h4 h6=>by
  refine ⟨abT ab tl',T',is',bod',.inr ⟨ab,tl',h1,rfl⟩,?_,⟨h3,hI,h4⟩,h6⟩
  have q2:(D (sys TT aA (m + 24))).ex fiL (aG st T M.due (ksT k c s (abT ab tl0.tail))) B1 ⟨g,cells M.fd is bod⟩=some ((.next,aG st T' (cX M k c s).due (ksT k c s (abT ab tl'))),⟨g,cells (cX M k c s).fd is' bod'⟩):=by
   rw [aBK,aE q1]
   cases ho:gL M k with
   | false=>rw [ho] at h2; exact h2
   | true=>rw [ho] at h2; exact h2
  rw [aFg,aO q0,aO q2]
  rfl
 have hstep:cX M k c s=(match gL M k,Nat.beq k 1 with
  | true,_=>openM M (match Nat.blt M.fs.length 8 with | true=>c % 7 | false=>0)
  | false,true=>f5 M (((bX M.fs)[c % (bX M.fs).length]?).getD 0) s
  | false,false=>gD M (fG M.fs (c % M.fs.length))):=rfl
 clear hI q0 q1; cases ho:gL M k with
 | false =>
  have ho':=ho
  unfold gL at ho'
  simp only [Bool.or_eq_false_iff,Bool.and_eq_false_iff] at ho'
  obtain ⟨o1,o2,o3,o4⟩:=ho'
  rcases lt3 hk with rfl | rfl | rfl
  ·exact tf o2
  ·have hA:d3 M 1=bX M.fs:=by unfold d3; rw [o1]
   rw [hA] at habv
   subst habv
   have hne:bX M.fs ≠ []:=by
    rcases o3 with o3 | o3
    ·exact tf o3
    ·intro q; rw [q] at o3; exact tf o3
   have hlt:c % (bX M.fs).length < (bX M.fs).length:=Nat.mod_lt _ (List.length_pos_iff.mpr hne)
   generalize hj:(bX M.fs)[c % (bX M.fs).length]'hlt=j
   have hj0:(bX M.fs)[c % (bX M.fs).length]? = some j:=by rw [List.getElem?_eq_getElem hlt,hj]
   have hm:j ∈ bX M.fs:=by rw [← hj]; exact List.getElem_mem hlt
   have hm:=(show j ∈ (List.range 10).filter fun j=>Nat.blt 0 (a7 M.fs (aW j)) from hm)
   rw [List.mem_filter] at hm
   have hj10:=List.mem_range.mp hm.1
   have e:cX M 1 c s=f5 M j s:=by rw [hstep,ho,hj0]; rfl
   obtain ⟨tl',is',bod',z1,z2,z3⟩:=aIQ (m:=m) (g:=g) (st:=st) (k:=1) (c:=c) hs hne (aBo _) hj0 hj10 (Nat.le_of_ble_eq_true hm.2) hR hT hn h5
   refine fin tl' (T++(opTok j s).map rtP) is' bod' z1 ?_ (by rw [e]; exact z3) ?_ ?_
   ·rw [ho,e]
    show blk _ _ _ _ _=_
    rw [aO (by rw [aFS]; exact z2)]
    rfl
   ·rw [e,hR.toks]; show _=(M.toks++opTok j s).map rtP; rw [List.map_append]
   ·rw [List.length_append]; exact Nat.add_le_add_left (mln (lel (zF hj10 hs) rfl)) _
  ·have hne:M.fs ≠ []:=fun q=>by rw [q] at o4; exact tf o4
   have e:cX M 2 c s=gD M (fG M.fs (c % M.fs.length)):=by rw [hstep,ho]
   obtain ⟨tl',is',bod',z1,z2,z3⟩:=aIR (m:=m) (g:=g) (st:=st) (ab:=ab) (k:=2) (c:=c) (s:=s) hne rfl hR hT hn h5
   refine fin tl' (T++[W (fG M.fs (c % M.fs.length)).endW].map rtP) is' bod' z1 ?_ (by rw [e]; exact z3) ?_ ?_
   ·rw [ho,e]
    show blk _ _ _ _ _=_
    rw [aO (by rw [aFT]; exact z2)]
    show some ((Fl.next,aG st _ M.due _),_)=_
    rw [o1]
    rfl
   ·rw [e,hR.toks]; show _=(M.toks++[W (fG M.fs (c % M.fs.length)).endW]).map rtP; rw [List.map_append]
   ·simp
 | true =>
  generalize hr:(match Nat.blt M.fs.length 8 with | true=>c % 7 | false=>0)=r
  have hr7:r < 7:=by
   rw [← hr]
   cases Nat.blt M.fs.length 8 with
   | true=>exact Nat.mod_lt _ (by decide)
   | false=>exact (by decide:0 < 7)
  have e:cX M k c s=openM M r:=by rw [hstep,ho]; exact congrArg (openM M) hr
  obtain ⟨tl',is',bod',z1,z2,z3⟩:=pB (m:=m) (g:=g) (st:=st) (ab:=ab) (k:=k) (c:=c) (s:=s) hr7 hr.symm hR hT hn h5
  refine fin tl' (T++(cF r).map rtP) is' bod' z1 ?_ (by rw [e]; exact z3) ?_ ?_
  ·rw [ho,e]; exact z2
  ·rw [e,hR.toks]; show _=(M.toks++cF r).map rtP; rw [List.map_append]
  ·rw [List.length_append]; exact Nat.add_le_add_left (mln (aAg r)) _
def ENV (st:V) (T:List PV) (due:Bool) (env:aB):Prop:=env=aG st T due []∨∃ k c s tl,TL0 tl∧env=aG st T due (ksT k c s tl)
theorem aAt:∀ (l:List (Nat×Nat×Nat)) {n:Nat} {M:MS} {T:List PV} {is:List IFr} {bod:List (List PV)} {env:aB},(∀ q ∈ l,q.1 < 3∧q.2.2 < 4)→ENV st T M.due env→Rel n M T is bod→T.length + 5 * l.length ≤ 900000→n + 9 * l.length ≤ 80000 →
 ∃ env' T' is' bod',ENV st T' (b0 M l).due env'∧cU (D (sys TT aA (m + 24))) fiL (bP (stm 107 2)) (cC (stm 107 2)) ((l.map aL).map V.pv) env ⟨g,cells M.fd is bod⟩ =
  some ((.next,env'),⟨g,cells (b0 M l).fd is' bod'⟩)∧Rel (n + 9 * l.length) (b0 M l) T' is' bod'∧T'.length ≤ T.length + 5 * l.length
 | [],n,M,T,is,bod,env,_,he,hR,_,_=>⟨env,T,is,bod,he,rfl,hR,Nat.le_refl _⟩
 | (k,c,s)::l,n,M,T,is,bod,env,hq,he,hR,hT,hn=>by
  have hq0:=hq (k,c,s) (by exact (.head _))
  have hb:∃ tl0,TL0 tl0∧bindT fiL 9 (bP (stm 107 2)) (.pv (aL (k,c,s))) env=some (aG st T M.due (ksT k c s tl0)):=by
   rcases he with rfl | ⟨k',c',s',tl,htl,rfl⟩
   ·exact ⟨[],.inl rfl,aFk _ _ _ _ _ _⟩
   ·exact ⟨tl,htl,aFl _ _ _ _ _ _ _ _ _ _⟩
  obtain ⟨tl0,htl,hb⟩:=hb
  simp only [List.length_cons] at hT hn
  obtain ⟨tl',T',is',bod',h1,h2,h3,h4⟩:=aIV (m:=m) (g:=g) (st:=st) (c:=c) hq0.1 hq0.2 htl hR (adl hT rfl) (adl hn rfl)
  obtain ⟨env2,T2,is2,bod2,g1,g2,g3,g4⟩:=aAt l (fun q hx=>hq q (by simp [hx])) (.inr ⟨k,c,s,tl',h1,rfl⟩) h3 (s5 h4 hT) (el s9 hn)
  refine ⟨env2,T2,is2,bod2,g1,?_,⟨g3.rep.mono (Nat.le_of_eq s9),g3.inv,g3.toks⟩,Nat.le_trans g4 (s5 h4 (Nat.le_refl _))⟩
  show Rbind (oneOf (bindT _ _ _ _ _)) _ _=_
  rw [hb,aE (a:=aG st T M.due (ksT k c s tl0)) (σ₁:=⟨g,cells M.fd is bod⟩) rfl,aE h2]
  exact g2
end
noncomputable def aQ (l:List (Nat×Nat×Nat)):MS:=gE (b0 cG l)
theorem aE8 {m:Nat} {l:List (Nat×Nat×Nat)} (hq:∀ q ∈ l,q.1 < 3∧q.2.2 < 4) (hl:l.length ≤ 1000) (ls:List (List V)) :
 (sys TT aA (m + 26)).call (fn 887) [.pv (.lst (l.map aL))] ⟨[],ls⟩=some (.pv (.tup [.lst ((aQ l).toks.map rtP),.tup (aV 0 (aQ l).fd (aQ l).fs []).1]),⟨[],ls⟩)∧(aQ l).toks.length ≤ 5 * l.length + 1:=by
 rw [cK,aFi]
 have R0:Rel 0 cG [] [] []:=⟨⟨rfl,by simp [eA],Nat.le_refl _,nofun,nofun,by simp [cG]⟩,tM,rfl⟩
 obtain ⟨env1,T1,is1,bod1,h1,h2,h3,h4⟩:=aAt (m:=m) (g:=[]) (st:=.pv (.lst (l.map aL))) l hq (.inl rfl) R0 (zm 5 hl rfl) (zm 9 hl rfl)
 have h4:T1.length ≤ 5 * l.length:=Nat.zero_add (5 * l.length) ▸ h4
 obtain ⟨tl1,rfl⟩:∃ tl,env1=aG (.pv (.lst (l.map aL))) T1 (b0 cG l).due tl:=by
  clear h2; rcases h1 with rfl | ⟨k,c,s,tl,_,rfl⟩
  ·exact ⟨[],rfl⟩
  ·exact ⟨_,rfl⟩
 have e3:∃ due is2 bod2,(C (sys TT aA (m + 24))).ex fiL (aG (.pv (.lst (l.map aL))) T1 (b0 cG l).due tl1) (stm 107 3) ⟨[],cells (b0 cG l).fd is1 bod1⟩ =
  some ((.next,aG (.pv (.lst (l.map aL))) ((aQ l).toks.map rtP) due tl1),⟨[],cells (aQ l).fd is2 bod2⟩)∧a8 20000 (aQ l).fd (aQ l).fs is2 bod2∧(aQ l).toks.length ≤ 5 * l.length + 1:=by
  cases hd:(b0 cG l).due with
  | false =>
   have e:aQ l=b0 cG l:=by unfold aQ gE; rw [hd]
   refine ⟨false,is1,bod1,?_,by rw [e]; exact h3.rep.mono (zm 9 hl rfl),by rw [e]; exact Nat.le_succ_of_le (el ((List.length_map rtP).symm.trans (congrArg List.length h3.toks).symm) h4)⟩
   rw [aDB,e,← h3.toks]
  | true =>
   have e:aQ l=openM (b0 cG l) 0:=by unfold aQ gE; rw [hd]
   obtain ⟨is2,bod2,o1,o2⟩:=zI (m:=m) (r:=0) (g:=[]) (by decide) h3.rep h3.ready (.inr rfl) (zm 9 hl rfl)
   have ht:(aQ l).toks.map rtP=T1++[W wCONTINUE].map rtP:=by
    rw [e,h3.toks]; show ((b0 cG l).toks++[W wCONTINUE]).map rtP=_; rw [List.map_append]
   refine ⟨true,is2,bod2,?_,by rw [e]; exact o2.mono (Nat.add_le_add_right (zm 9 hl rfl:_ ≤ 19991) 9),el ((List.length_map rtP).symm.trans ((congrArg List.length ht).trans List.length_append)) (Nat.succ_le_succ h4)⟩
   rw [aDA,ht]
   have q1:(D (sys TT aA (m + 24))).ex fiL (aG (.pv (.lst (l.map aL))) T1 true tl1) (thS (stm 107 3) 0) ⟨[],cells (b0 cG l).fd is1 bod1⟩=some ((.next,aG (.pv (.lst (l.map aL))) (T1++[W wCONTINUE].map rtP) true tl1),⟨[],cells (b0 cG l).fd is1 bod1⟩):=by
    have ha:d6 (.pv (.lst T1)) (.pv (gS [W wCONTINUE])) ⟨[],cells (b0 cG l).fd is1 bod1⟩=some (.pv (.lst (T1++[W wCONTINUE].map rtP)),⟨[],cells (b0 cG l).fd is1 bod1⟩):=kP (Nat.succ_le_succ (Nat.le_trans h4 (lel (Nat.mul_le_mul_left 5 hl) rfl)))
    have:=e_1 (m + 4) (.pv (.lst (l.map aL))) T1 tl1 ⟨[],cells (b0 cG l).fd is1 bod1⟩
    rw [this,aE ha,aDz]
    rfl
   have q2:(D (sys TT aA (m + 24))).ex fiL (aG (.pv (.lst (l.map aL))) (T1++[W wCONTINUE].map rtP) true tl1) (thS (stm 107 3) 1) ⟨[],cells (b0 cG l).fd is1 bod1⟩=some ((.next,aG (.pv (.lst (l.map aL))) (T1++[W wCONTINUE].map rtP) true tl1),⟨[],cells (aQ l).fd is2 bod2⟩):=by
    have:=e_2 (sys TT aA (m + 24)).call (sys TT aA (m + 24)) (.pv (.lst (l.map aL))) (T1++[W wCONTINUE].map rtP) true tl1 ⟨[],cells (b0 cG l).fd is1 bod1⟩
    rw [bH] at this
    rw [this,aE o1,e]
    rfl
   rw [aO q1,aO q2]
   rfl
 obtain ⟨due,is2,bod2,e3,R2,hlen⟩:=e3
 have hI:=(wC (aAj tM (fun q hx=>(hq q hx).2))).1
 have hI:c8 (aQ l):=hI
 obtain ⟨is3,bod3,c1,R3⟩:=nC (m:=m + 2) (many:=0) (g:=[]) (Nat.zero_le _) R2 ⟨hI.wf,hI.tail⟩ (by decide)
 have e4:(C (sys TT aA (m + 24))).ex fiL (aG (.pv (.lst (l.map aL))) ((aQ l).toks.map rtP) due tl1) (stm 107 4) ⟨[],cells (aQ l).fd is2 bod2⟩=some ((.next,aG (.pv (.lst (l.map aL))) ((aQ l).toks.map rtP) due tl1),⟨[],cells (aV 0 (aQ l).fd (aQ l).fs []).1 is3 bod3⟩):=by
  have:=e_3 (sys TT aA (m + 24)).call (sys TT aA (m + 24)) (.pv (.lst (l.map aL))) ((aQ l).toks.map rtP) due tl1 ⟨[],cells (aQ l).fd is2 bod2⟩
  rw [bH] at this
  rw [this,aE c1]
  rfl
 have e5:(C (sys TT aA (m + 24))).ex fiL (aG (.pv (.lst (l.map aL))) ((aQ l).toks.map rtP) due tl1) (stm 107 5) ⟨[],cells (aV 0 (aQ l).fd (aQ l).fs []).1 is3 bod3⟩ =
  some ((.ret (.pv (.tup [.lst ((aQ l).toks.map rtP),.tup (aV 0 (aQ l).fd (aQ l).fs []).1])),aG (.pv (.lst (l.map aL))) ((aQ l).toks.map rtP) due tl1),⟨[],cells (aV 0 (aQ l).fd (aQ l).fs []).1 is3 bod3⟩):=by
  have:=e_4 (sys TT aA (m + 24)).call (sys TT aA (m + 24)) (.pv (.lst (l.map aL))) ((aQ l).toks.map rtP) due tl1 ⟨[],cells (aV 0 (aQ l).fd (aQ l).fs []).1 is3 bod3⟩
  rw [bH] at this
  have ht:=tT (m + 23) (g:=[]) (l:=cells (aV 0 (aQ l).fd (aQ l).fs []).1 is3 bod3) (j:=0) (ys:=(aV 0 (aQ l).fd (aQ l).fs []).1) rfl (lel R3.fdn rfl)
  rw [this,aE (a:=V.pv (.tup [.lst ((aQ l).toks.map rtP),.tup (aV 0 (aQ l).fd (aQ l).fs []).1])) (σ₁:=⟨[],cells (aV 0 (aQ l).fd (aQ l).fs []).1 is3 bod3⟩)]
  ·rfl
  ·rw [aE (a:=[V.pv (.lst ((aQ l).toks.map rtP)),V.pv (.tup (aV 0 (aQ l).fd (aQ l).fs []).1)]) (σ₁:=⟨[],cells (aV 0 (aQ l).fd (aQ l).fs []).1 is3 bod3⟩)]
   ·rfl
   ·rw [aE (a:=[V.pv (.tup (aV 0 (aQ l).fd (aQ l).fs []).1)]) (σ₁:=⟨[],cells (aV 0 (aQ l).fd (aQ l).fs []).1 is3 bod3⟩) (by rw [aE ht]; rfl)]
    rfl
 refine ⟨?_,hlen⟩
 refine nT (g:=[]) (g':=[]) (l':=cells (aV 0 (aQ l).fd (aQ l).fs []).1 is3 bod3) rfl rfl ?_ rfl
 rw [aFh]
 rw [aE (a:=(Fl.ret (.pv (.tup [.lst ((aQ l).toks.map rtP),.tup (aV 0 (aQ l).fd (aQ l).fs []).1])),aG (.pv (.lst (l.map aL))) ((aQ l).toks.map rtP) due tl1)) (σ₁:=⟨[],cells (aV 0 (aQ l).fd (aQ l).fs []).1 is3 bod3⟩)]
 ·rfl
 ·rw [aO (aFe _ _ _),aO (aFf (m + 4) _ _),aO (env':=aG (.pv (.lst (l.map aL))) T1 (b0 cG l).due tl1) (σ₁:=⟨[],cells (b0 cG l).fd is1 bod1⟩) (by rw [aFj]; exact h2),aO e3,aO e4]
  exact eM e5
mutual
def okT:PV→Bool
 | .none=>true
 | .bool _=>true
 | .int _=>true
 | .str _=>true
 | .bytes _=>true
 | .tup l=>c7 l
 | .lst _=>false
def c7:List PV→Bool
 | []=>true
 | a::r=>okT a && c7 r
end
theorem vF:∀ l:List UInt8,iI l l=true
 | []=>rfl
 | a::l=>by
  show (match Nat.beq a.toNat a.toNat with | true=>iI l l | false=>false)=true
  rw [Nat.beq_refl]
  exact vF l
mutual
theorem yY:∀ {t:PV},okT t=true→pyEq t t=some true
 | .none,_=>rfl
 | .bool b,_=>congrArg some (beq_self_eq_true b)
 | .int i,_=>congrArg some (decide_eq_true rfl)
 | .str s,_=>congrArg some (aK.mpr rfl)
 | .bytes b,_=>congrArg some (vF _)
 | .tup l,h=>y8 (l:=l) h
 | .lst _,h=>by exact ft h
theorem y8:∀ {l:List PV},c7 l=true→f3 l l=some true
 | [],_=>rfl
 | a::r,h=>by
  have h:=Bool.and_eq_true_iff.mp h
  show (match pyEq a a with | some true=>f3 r r | some false=>some false | none=>none)=_
  rw [yY h.1]
  exact y8 h.2
end
theorem y0:∀ {a b:List PV},c7 (a++b)=(c7 a && c7 b)
 | [],_=>(Bool.true_and _).symm
 | x::a,b=>(congrArg (okT x && ·) (y0 (a:=a))).trans (Bool.and_assoc ..).symm
theorem vX:∀ {a b:List PV} {n:Nat},bT a ≤ n→bT b ≤ n→bT (a++b) ≤ n
 | [],_,_,_,h=>h
 | x::a,b,n,h1,h2=>by
  have h1:=(show Nat.max (dep x) (bT a) ≤ n from h1)
  show Nat.max (dep x) (bT (a++b)) ≤ n
  have:=Nat.max_le.mp h1
  exact Nat.max_le.mpr ⟨this.1,vX this.2 h2⟩
def okD (n:Nat) (l:List PV):Prop:=c7 l=true∧bT l ≤ n
theorem sM {n:Nat} {t:PV} {l:List PV} (h1:okT t=true∧dep t ≤ n) (h2:okD n l):okD n (t::l) :=
 ⟨by show (okT t && c7 l)=true; rw [h1.1,h2.1]; rfl,Nat.max_le.mpr ⟨h1.2,h2.2⟩⟩
theorem aAF (v:Vb):c7 v.tree=true∧bT v.tree ≤ 6:=by
 cases v <;> exact ⟨by rfl,by show _ ≤ 6; decide +kernel⟩
theorem kY (l:List PV):dep (.tup l)=bT l + 1:=rfl
theorem aKu (l:List PV):okT (.tup l)=c7 l:=rfl
theorem aB6 {d:Nat} {a c:List RT} {ts:List PV} (h:P .body d a ts c) (hne:ts ≠ []):d < 13:=by
 cases h with
 | nil _=>exact absurd rfl hne
 | cons _ h1 _ =>
  clear hne; cases h1 with
  | cont h=>exact h
  | comp h _ _ _ _=>exact h
  | iff1 h _ _ _ _ _=>exact h
  | iff2 h _ _ _ _ _ _=>exact h
theorem kd1 {d x:Nat} (hd:d < 13) (h:x ≤ 10 + 6 * (14 - (d + 1))):x + 1 ≤ 10 + 6 * (14 - d) - 1:=by lia
theorem kd2 {d x:Nat} (h:x ≤ 6):x + 1 ≤ 10 + 6 * (14 - d) - 1:=by lia
theorem kd3 {d x:Nat} (h:x ≤ 10 + 6 * (14 - d) - 1):x + 1 ≤ 10 + 6 * (14 - d):=by lia
theorem kd4 {d x:Nat} (h:x ≤ 10 + 6 * (14 - d) - 3):x + 1 ≤ 10 + 6 * (14 - d) - 1:=by lia
theorem kd5 {d x y:Nat} (h:d + 1 < 13) (q:x ≤ y + 1) (i:y ≤ 10 + 6 * (14 - (d + 1))):x + 1 ≤ 10 + 6 * (14 - d) - 3:=by lia
theorem aJP {j:Job} {d:Nat} {a c:List RT} {ts:List PV} (h:P j d a ts c):okD (match j with | .brs _=>10 + 6 * (14 - d) - 3 | _=>10 + 6 * (14 - d)) ts:=by
 have nil:∀ n,okD n []:=fun n=>⟨rfl,Nat.zero_le _⟩
 have one:∀ {n:Nat} {t:PV},okT t=true→dep t ≤ n→okD n [t]:=fun h1 h2=>sM ⟨h1,h2⟩ (nil _)
 have ift:∀ {d:Nat} {ys zs:List PV},d < 13→okD (10 + 6 * (14 - (d + 1))) ys→okD (10 + 6 * (14 - (d + 1))) zs→okD (10 + 6 * (14 - d)) [ifT ys zs]:=fun {d ys zs} hd h1 h2=>by
  have ht:=aAF .iff
  refine one ?_ ?_
  ·show c7 [.str oY,.tup (Vb.tree .iff),.tup ys,.tup zs]=true
   show (c7 (Vb.tree .iff) && (c7 ys && (c7 zs && true)))=true
   rw [ht.1,h1.1,h2.1]; rfl
  ·show bT [.str oY,.tup (Vb.tree .iff),.tup ys,.tup zs] + 1 ≤ _
   have q1:bT [.tup zs] ≤ 10 + 6 * (14 - d) - 1:=Nat.max_le.mpr ⟨by rw [kY]; exact kd1 hd h2.2,Nat.zero_le _⟩
   have q2:bT [.tup ys,.tup zs] ≤ 10 + 6 * (14 - d) - 1:=Nat.max_le.mpr ⟨by rw [kY]; exact kd1 hd h1.2,q1⟩
   have q3:bT [.tup (Vb.tree .iff),.tup ys,.tup zs] ≤ 10 + 6 * (14 - d) - 1:=Nat.max_le.mpr ⟨by rw [kY]; exact kd2 ht.2,q2⟩
   have q4:bT [.str oY,.tup (Vb.tree .iff),.tup ys,.tup zs] ≤ 10 + 6 * (14 - d) - 1:=Nat.max_le.mpr ⟨Nat.zero_le _,q3⟩
   exact kd3 q4
 induction h with
 | nil _=>exact nil _
 | cons _ _ _ ih1 ih2 =>
  have h1:=ih1.1
  have h1:=(Bool.and_eq_true_iff.mp h1).1
  exact sM ⟨h1,(Nat.max_le.mp ih1.2).1⟩ ih2
 | @cont d r hd=>exact one rfl (Nat.le_trans (by decide) (Nat.le_add_right 10 _))
 | @comp d v a b c brs hd hv _ _ _ ih =>
  have ht:=aAF v
  refine one ?_ ?_
  ·show c7 (v.tree++[.tup brs])=true
   rw [y0,ht.1]
   show (true && (c7 brs && true))=true
   rw [ih.1]; rfl
  ·show bT (v.tree++[.tup brs]) + 1 ≤ 10 + 6 * (14 - d)
   have:=vX (a:=v.tree) (b:=[.tup brs]) (n:=10 + 6 * (14 - d) - 1) (Nat.le_of_succ_le (kd2 ht.2)) (Nat.max_le.mpr ⟨by rw [kY]; exact kd4 ih.2,Nat.zero_le _⟩)
   exact kd3 this
 | iff1 hd _ _ _ _ _ ih=>exact ift hd ih (nil _)
 | iff2 hd _ _ _ _ _ _ ih1 ih2=>exact ift hd ih1 ih2
 | brs0=>exact nil _
 | brsS _ _ ih=>exact ih
 | @brsT d k ks h a ys b brs c _ _ _ hb hy _ ih1 ih2 =>
  have hlt:=aB6 hb hy
  refine sM ⟨?_,?_⟩ ih2
  ·show c7 [.str k,.tup ys]=true
   show (c7 ys && true)=true
   rw [ih1.1]; rfl
  ·show bT [.str k,.tup ys] + 1 ≤ 10 + 6 * (14 - d) - 3
   have q1:bT [.tup ys] ≤ bT ys + 1:=Nat.max_le.mpr ⟨Nat.le_refl _,Nat.zero_le _⟩
   have q2:bT [.str k,.tup ys] ≤ bT ys + 1:=Nat.max_le.mpr ⟨Nat.zero_le _,q1⟩
   exact kd5 hlt q2 ih1.2
noncomputable abbrev fiG:FI:=cP 899 (aF 109)
noncomputable def eG0 (st:V):aB:=[("steps",st)]
noncomputable def eG1 (st:V) (T D:List PV):aB:=[("steps",st),("tokens",.pv (.lst T)),("due",.pv (.tup D))]
noncomputable def eG2 (st:V) (T D E:List PV):aB:=[("steps",st),("tokens",.pv (.lst T)),("due",.pv (.tup D)),("every",.pv (.lst E))]
noncomputable def eG3 (st:V) (T D E:List PV):aB:=[("steps",st),("tokens",.pv (.lst T)),("due",.pv (.tup D)),("every",.pv (.lst E)),("reader",.ob 0)]
theorem aH3 (I:Sys) (L:List PV) (σ:aC):bI TT aA (C I) (fn 899) [.pv (.lst L)] σ=gI [.pv (.lst L)] (cB (C I) 899 (aF 109) []) σ:=by kernel_rfl
theorem aH4 (I:Sys) (j:Nat) (σ:aC):bI TT aA (C I) (fn 899) [.li j] σ=lM [.li j] (cB (C I) 899 (aF 109) []) σ:=by kernel_rfl
theorem aH2 (I:Sys) (st:V) (σ:aC):cB (C I) 899 (aF 109) [] [st] σ=(Rbind (blk (C I) fiG (eG0 st) [stm 109 0,stm 109 1,stm 109 2,stm 109 3,stm 109 4]) fnK) σ:=by kernel_rfl
theorem aHS (c:V→List V→R V) (I:Sys) (st:V) (σ:aC):(C (sel (a6 887) c I)).ex fiG (eG0 st) (stm 109 0) σ=(Rbind (c (fn 887) [st]) fun v=>Rbind (oneOf (bindT fiG 9 (asT (stm 109 0)) v (eG0 st))) fun env'=>Rpure (Fl.next,env')) σ:=by kernel_rfl
theorem aHT (st:V) (T D:List PV):bindT fiG 9 (asT (stm 109 0)) (.pv (.tup [.lst T,.tup D])) (eG0 st)=some (eG1 st T D):=by kernel_rfl
theorem aHU (I:Sys) (st:V) (T D:List PV) (σ:aC):(C I).ex fiG (eG1 st T D) (stm 109 1) σ=(Rbind (d6 (.pv (.lst T)) (.pv (.lst [rtP dot]))) fun v=>Rbind (oneOf (bindT fiG 9 (asT (stm 109 1)) v (eG1 st T D))) fun env'=>Rpure (Fl.next,env')) σ:=by kernel_rfl
theorem aHV (st:V) (T D E:List PV):bindT fiG 9 (asT (stm 109 1)) (.pv (.lst E)) (eG1 st T D)=some (eG2 st T D E):=by kernel_rfl
noncomputable def rcE:Expr:=match asE (stm 109 2) with
 | .Call _ [e] _ _=>e
 | e=>e
noncomputable def rcC:Expr×Expr×List Expr×Scope:=lcE rcE
noncomputable def s8:Expr:=match rcE with
 | .ListComp _ [⟨_,it,_,_⟩] _ _=>it
 | e=>e
noncomputable abbrev lE:FI:=⟨compScope rcC.2.2.2 fiG.sc,none,[]⟩
theorem aHW (c:V→List V→R V) (I:Sys) (st:V) (T D E:List PV) (σ:aC):(C (sel (a6 774) c I)).ex fiG (eG2 st T D E) (stm 109 2) σ =
 (Rbind (Rbind (Rbind (compEv TT (E7 (sel (a6 774) c I)) fiG (eG2 st T D E) rcC.1 rcC.2.1 s8 rcC.2.2.1 rcC.2.2.2) fun b=>Rpure [b]) fun vs=>c (fn 774) vs) fun v=>Rbind (oneOf (bindT fiG 9 (asT (stm 109 2)) v (eG2 st T D E))) fun env'=>Rpure (Fl.next,env')) σ:=by kernel_rfl
theorem aHX (st:V) (T D E:List PV):bindT fiG 9 (asT (stm 109 2)) (.ob 0) (eG2 st T D E)=some (eG3 st T D E):=by kernel_rfl
theorem aHu (I:Sys) (st:V) (T D E:List PV) (σ:aC):jM TT (E7 I) fiG (eG2 st T D E) rcC.2.1 s8 σ=(match small (E.map V.pv).length with | true=>Rpure (numbered 0 (E.map V.pv)) | false=>Rno) σ:=by kernel_rfl
theorem aHq (st:V) (T D E:List PV):(dH rcC.2.2.2,eC rcC.2.2.2.names,noDup (rcC.2.2.2.names.map (·.1)),freeOk fiG (eG2 st T D E) rcC.2.2.2.names)=(true,true,true,true):=by kernel_rfl
theorem aHs (st:V) (T D E:List PV):freeIn rcC.2.2.2 (eG2 st T D E)=[]:=by kernel_rfl
theorem aHt:rcC.2.2.1=[]:=by kernel_rfl
noncomputable def eTk (i:Nat) (k w:Str):aB:=[("at",.pv (.int (.ofNat i))),("kind",.pv (.str k)),("worth",.pv (.str w))]
theorem aHo (i:Nat) (t:RT):bindT lE 9 rcC.2.1 (.pv (.tup [.int (.ofNat i),rtP t])) []=some (eTk i t.1 t.2):=by kernel_rfl
theorem aHp (i j:Nat) (t:RT) (k w:Str):bindT lE 9 rcC.2.1 (.pv (.tup [.int (.ofNat i),rtP t])) (eTk j k w)=some (eTk i t.1 t.2):=by kernel_rfl
noncomputable def bD (i:Nat):PV:=.tup [.int (.ofNat (i + 1)),.int 12]
theorem aHr (I:Sys) (i:Nat) (k w:Str) (σ:aC):(E7 I).ev lE (eTk i k w) rcC.1 σ=I.call (fn 804) [.pv (.str k),.pv (.str w),.pv (bD i)] σ:=by kernel_rfl
theorem aJL (m:Nat) (k w:Str) (p:PV) (l:List (List V)):(sys TT aA (m + 20)).call (fn 804) [.pv (.str k),.pv (.str w),.pv p] ⟨[],[]⟩=some (tkV TT ⟨k,w,p⟩,⟨[],[]⟩):=by kernel_rfl
theorem aHC (m:Nat) (L:List V):(sys TT aA (m + 20)).call (fn 774) [.vl L] ⟨[],[]⟩=(Rbind (oneOf (toTks TT L)) fun ts=>(match small ts.length with | true=>Rbind (setG 0 (.rdr [] ts (.vd []))) fun _=>Rpure (V.ob 0) | false=>Rno)) ⟨[.obj 774 [(dR,.vl L),(atName,.pv (.int 0)),(cW,.vd [])]],[]⟩:=by kernel_rfl
theorem aHY (I:Sys) (st:V) (T D E:List PV) (pre rest:List Tk) (nm:V) (l:List (List V)):(C I).ex fiG (eG3 st T D E) (stm 109 3) ⟨[.rdr pre rest nm],l⟩=some ((.next,eG3 st T D E),⟨[.rdr pre rest nm0],l⟩):=by kernel_rfl
noncomputable def rtE (st:Stmt):Expr:=match st with
 | .Return (some e) _=>e
 | _=>.Constant .none 0 ⟨0,0,0,0⟩
noncomputable def boE (e:Expr) (j:Nat):Expr:=match e with
 | .BoolOp _ es _=>(es[j]?).getD e
 | e=>e
theorem aHZ (I:Sys) (st:V) (T D E:List PV) (σ:aC):(C I).ex fiG (eG3 st T D E) (stm 109 4) σ=(Rbind (jJ (Mine.E I) fiG (eG3 st T D E) .And [boE (rtE (stm 109 4)) 0,boE (rtE (stm 109 4)) 1]) fun v=>Rpure (.ret v,eG3 st T D E)) σ:=by kernel_rfl
theorem aH0 (c:V→List V→R V) (I:Sys) (st:V) (T D E:List PV) (σ:aC):(Mine.E (sel (a6 36) c I)).ev fiG (eG3 st T D E) (boE (rtE (stm 109 4)) 0) σ=(Rbind (c (fn 36) [.ob 0,.pv (.int (.ofNat 0)),fn 894]) fun a=>Rbind (cmp .Eq a (.pv (.tup D))) fun x=>Rpure (.pv (.bool x))) σ:=by kernel_rfl
theorem aH1 (I:Sys) (st:V) (T D E:List PV) (pre rest:List Tk) (l:List (List V)):(Mine.E I).ev fiG (eG3 st T D E) (boE (rtE (stm 109 4)) 1) ⟨[.rdr pre rest nm0],l⟩=(Rbind (I.call (.st (.builtin "len")) [.pv (.lst T)]) fun b=>Rbind (cmp .Eq (.pv (.int (.ofNat pre.length))) b) fun x=>Rpure (.pv (.bool x))) ⟨[.rdr pre rest nm0],l⟩:=by kernel_rfl
theorem aJK (t:Tk):kB TT (tkV TT t)=some t:=by kernel_rfl
theorem aAE:∀ ts:List Tk,toTks TT (ts.map (tkV TT))=some ts
 | []=>rfl
 | t::ts=>by
  show (match kB TT (tkV TT t),toTks TT (ts.map (tkV TT)) with
   | some t,some l=>some (t::l)
   | _,_=>none)=_
  rw [aJK,aAE ts]
theorem z7 {m:Nat}:∀ (E:List RT) (i:Nat) (env:aB),(env=[]∨∃ j k w,env=eTk j k w) →
 compVals (E7 (sys TT aA (m + 20))) lE rcC.2.1 rcC.2.2.1 rcC.1 (numbered i ((E.map rtP).map V.pv)) env ⟨[],[]⟩=some ((tks E bD i).map (tkV TT),⟨[],[]⟩)
 | [],_,_,_=>rfl
 | t::E,i,env,he=>by
  have hb:bindT lE 9 rcC.2.1 (.pv (.tup [.int (.ofNat i),rtP t])) env=some (eTk i t.1 t.2):=by
   rcases he with rfl | ⟨j,k,w,rfl⟩
   ·exact aHo _ _
   ·exact aHp _ _ _ _ _
  have ih:=z7 (m:=m) E (i + 1) (eTk i t.1 t.2) (.inr ⟨_,_,_,rfl⟩)
  show Rbind (oneOf (bindT _ _ _ (.pv (.tup [.int (.ofNat i),rtP t])) _)) _ _=_
  rw [hb,aE (a:=eTk i t.1 t.2) (σ₁:=⟨[],[]⟩) rfl]
  rw [aE (a:=true) (σ₁:=⟨[],[]⟩) (by rw [aHt]; rfl)]
  show Rbind ((E7 (sys TT aA (m + 20))).ev _ _ _) _ _=_
  rw [aE (a:=tkV TT ⟨t.1,t.2,bD i⟩) (σ₁:=⟨[],[]⟩) (by rw [aHr]; exact aJL m t.1 t.2 (bD i) []),aE ih]
  rfl
theorem aCZ {ts:List PV} {n:Nat} (h:okD n ts) (hn:n ≤ 299) (σ:aC):cmp .Eq (.pv (.tup ts)) (.pv (.tup ts)) σ=some (true,σ):=by
 have h1:cmp .Eq (.pv (.tup ts)) (.pv (.tup ts)) σ=oneOf (hB (.pv (.tup ts)) (.pv (.tup ts)) (ts.map V.pv) (ts.map V.pv)) σ:=by kernel_rfl
 rw [h1]
 unfold hB
 clear h1; cases ts with
 | nil=>rfl
 | cons t r =>
  show oneOf (match pyEq (.tup (t::r)) (.tup (t::r)),Nat.ble (dep (.tup (t::r))) 300 with | some true,true=>some true | _,_=>none) σ=_
  rw [yY (t:=.tup (t::r)) h.1,show Nat.ble (dep (.tup (t::r))) 300=true from Nat.ble_eq_true_of_le (by rw [kY]; exact Nat.succ_le_succ (Nat.le_trans h.2 hn))]
  rfl
theorem aB7 {S:Sys} {fi:FI} {env:aB} {e1 e2:Expr} {σ σ₁:aC} (h:S.ev fi env e1 σ=some (.pv (.bool true),σ₁)):jJ S fi env .And [e1,e2] σ=S.ev fi env e2 σ₁:=by
 show Rbind (S.ev fi env e1) _ σ=_
 rw [aE h]
 rfl
theorem aFP (t:Tk) (r:List Tk):mkVl ((t::r).map (tkV TT)) = .vl ((t::r).map (tkV TT)):=rfl
theorem aED (n:Nat) (σ:aC):cmp .Eq (.pv (.int (.ofNat n))) (.pv (.int (.ofNat n))) σ=some (true,σ):=by
 have h1:cmp .Eq (.pv (.int (.ofNat n))) (.pv (.int (.ofNat n))) σ=some (decide (Int.ofNat n=Int.ofNat n),σ):=by kernel_rfl
 rw [h1,decide_eq_true rfl]
theorem aAe {m:Nat} {l:List (Nat×Nat×Nat)} (hq:∀ q ∈ l,q.1 < 3∧q.2.2 < 4) (hl:l.length ≤ 700) :
 ∃ σ',σ'.g.take 0=[]∧cB (C (sys TT aA (m + 264))) 899 (aF 109) [] [.pv (.lst (l.map aL))] ⟨[],[]⟩=some (.pv (.bool true),σ'):=by
 obtain ⟨hlaid,hlen⟩:=aE8 (m:=m + 238) hq (lel hl rfl) []
 generalize hts:(aV 0 (aQ l).fd (aQ l).fs []).1=ts at hlaid
 generalize htk:(aQ l).toks=toks at hlaid hlen
 have hP:P .body 0 (toks++[dot]) ts [dot]:=by
  have:=plain l (fun q hx=>(hq q hx).2)
  rw [← hts,← htk]
  exact this
 clear htk; obtain ⟨u,hu,htu,hloop⟩:=aKi hP
 have hu:u=toks:=(List.append_cancel_right hu).symm
 subst hu
 have hul:u.length ≤ 3501:=Nat.le_trans hlen (Nat.succ_le_succ (Nat.mul_le_mul_left 5 hl))
 have hok:okD 94 ts:=aJP hP
 have q0:(C (sys TT aA (m + 264))).ex fiG (eG0 (.pv (.lst (l.map aL)))) (stm 109 0) ⟨[],[]⟩=some ((.next,eG1 (.pv (.lst (l.map aL))) (u.map rtP) ts),⟨[],[]⟩):=by
  have:=aHS (sys TT aA (m + 264)).call (sys TT aA (m + 264)) (.pv (.lst (l.map aL))) ⟨[],[]⟩
  rw [bH] at this
  rw [this,aE hlaid,aHT]
  rfl
 have q1:(C (sys TT aA (m + 264))).ex fiG (eG1 (.pv (.lst (l.map aL))) (u.map rtP) ts) (stm 109 1) ⟨[],[]⟩=some ((.next,eG2 (.pv (.lst (l.map aL))) (u.map rtP) ts ((u++[dot]).map rtP)),⟨[],[]⟩):=by
  have ha:d6 (.pv (.lst (u.map rtP))) (.pv (.lst [rtP dot])) ⟨[],[]⟩=some (.pv (.lst ((u++[dot]).map rtP)),⟨[],[]⟩):=by
   rw [List.map_append]
   exact kP (le2 (mln hul) (Nat.le_refl 1) rfl)
  rw [aHU,aE ha,aHV]
  rfl
 have q2:(C (sys TT aA (m + 264))).ex fiG (eG2 (.pv (.lst (l.map aL))) (u.map rtP) ts ((u++[dot]).map rtP)) (stm 109 2) ⟨[],[]⟩ =
  some ((.next,eG3 (.pv (.lst (l.map aL))) (u.map rtP) ts ((u++[dot]).map rtP)),⟨[.rdr [] (tks (u++[dot]) bD 0) (.vd [])],[]⟩):=by
  have h1:=aHW (sys TT aA (m + 264)).call (sys TT aA (m + 264)) (.pv (.lst (l.map aL))) (u.map rtP) ts ((u++[dot]).map rtP) ⟨[],[]⟩
  rw [bH] at h1
  have hsm:small (((u++[dot]).map rtP).map V.pv).length=true:=Nat.ble_eq_true_of_le (by show _ ≤ 1000000; exact mln (mln (el List.length_append (le2 hul (Nat.le_refl 1) rfl))))
  have hsrc:jM TT (E7 (sys TT aA (m + 264))) fiG (eG2 (.pv (.lst (l.map aL))) (u.map rtP) ts ((u++[dot]).map rtP)) rcC.2.1 s8 ⟨[],[]⟩=some (numbered 0 (((u++[dot]).map rtP).map V.pv),⟨[],[]⟩):=by
   rw [aHu,hsm]
   rfl
  have nlen:∀ (l:List V) (k:Nat),(numbered k l).length=l.length:=by
   intro l
   induction l with
   | nil=>intro k; rfl
   | cons a l ih=>intro k; show (numbered (k + 1) l).length + 1=_; rw [ih]; rfl
  have hchk:(small (numbered 0 (((u++[dot]).map rtP).map V.pv)).length,dH rcC.2.2.2,eC rcC.2.2.2.names,noDup (rcC.2.2.2.names.map (·.1)),freeOk fiG (eG2 (.pv (.lst (l.map aL))) (u.map rtP) ts ((u++[dot]).map rtP)) rcC.2.2.2.names)=(true,true,true,true,true):=by
   rw [nlen,hsm,aHq]
  have hcv:=z7 (m:=m + 244) (u++[dot]) 0 [] (.inl rfl)
  have hce:=vR hsrc hchk (aHs (.pv (.lst (l.map aL))) (u.map rtP) ts ((u++[dot]).map rtP)) hcv
  have hne:∃ t r,tks (u++[dot]) bD 0=t::r:=by
   have:=mB bD (u++[dot]) 0
   cases h:tks (u++[dot]) bD 0 with
   | nil=>rw [h] at this; simp at this
   | cons t r=>exact ⟨t,r,rfl⟩
  have hvl:mkVl ((tks (u++[dot]) bD 0).map (tkV TT)) = .vl ((tks (u++[dot]) bD 0).map (tkV TT)):=by
   obtain ⟨t,r,h⟩:=hne
   rw [h,aFP]
  rw [hvl] at hce
  have hrd:(sys TT aA (m + 264)).call (fn 774) [.vl ((tks (u++[dot]) bD 0).map (tkV TT))] ⟨[],[]⟩=some (.ob 0,⟨[.rdr [] (tks (u++[dot]) bD 0) (.vd [])],[]⟩):=by
   have:=aHC (m + 244) ((tks (u++[dot]) bD 0).map (tkV TT))
   rw [show m + 244 + 20=m + 264 from rfl] at this
   rw [this,aAE]
   show (match small (tks (u++[dot]) bD 0).length with | true=>Rbind (setG 0 (.rdr [] (tks (u++[dot]) bD 0) (.vd []))) fun _=>Rpure (V.ob 0) | false=>Rno) _=_
   rw [show small (tks (u++[dot]) bD 0).length=true from Nat.ble_eq_true_of_le (by show _ ≤ 1000000; rw [mB,List.length_append]; exact le2 hul (Nat.le_refl 1) rfl)]
   rfl
  rw [h1,aE (a:=V.ob 0) (σ₁:=⟨[.rdr [] (tks (u++[dot]) bD 0) (.vd [])],[]⟩),aHX]
  ·rfl
  ·rw [aE (a:=[V.vl ((tks (u++[dot]) bD 0).map (tkV TT))]) (σ₁:=⟨[],[]⟩)]
   ·exact hrd
   ·rw [aE hce]
    rfl
 have q3:=aHY (sys TT aA (m + 264)) (.pv (.lst (l.map aL))) (u.map rtP) ts ((u++[dot]).map rtP) [] (tks (u++[dot]) bD 0) (.vd []) []
 have hbody:=u6 hloop (Nat.le_trans htu (lel hul rfl)) m [] bD 0 [] (el List.length_append (le2 hul (Nat.le_refl 1) rfl))
 rw [show m + LS 0 + 2=m + 264 from rfl] at hbody
 have e1:(Mine.E (sys TT aA (m + 264))).ev fiG (eG3 (.pv (.lst (l.map aL))) (u.map rtP) ts ((u++[dot]).map rtP)) (boE (rtE (stm 109 4)) 0) ⟨[.rdr [] (tks (u++[dot]) bD 0) nm0],[]⟩=some (.pv (.bool true),St ([]++tks u bD 0) [dot] bD (0 + u.length) []):=by
  have:=aH0 (sys TT aA (m + 264)).call (sys TT aA (m + 264)) (.pv (.lst (l.map aL))) (u.map rtP) ts ((u++[dot]).map rtP) ⟨[.rdr [] (tks (u++[dot]) bD 0) nm0],[]⟩
  rw [bH] at this
  rw [this,aE hbody,aE (aCZ hok (by decide) _)]
  rfl
 have e2:(Mine.E (sys TT aA (m + 264))).ev fiG (eG3 (.pv (.lst (l.map aL))) (u.map rtP) ts ((u++[dot]).map rtP)) (boE (rtE (stm 109 4)) 1) (St ([]++tks u bD 0) [dot] bD (0 + u.length) [])=some (.pv (.bool true),St ([]++tks u bD 0) [dot] bD (0 + u.length) []):=by
  have hl2:=nY (m + 263) (L:=u.map rtP) (σ:=St ([]++tks u bD 0) [dot] bD (0 + u.length) []) (mln (lel hul rfl))
  have hpl:([]++tks u bD 0).length=(u.map rtP).length:=by rw [List.nil_append,mB,List.length_map]
  rw [aH1,aE hl2,hpl,aE (aED _ _)]
  rfl
 have q4:(C (sys TT aA (m + 264))).ex fiG (eG3 (.pv (.lst (l.map aL))) (u.map rtP) ts ((u++[dot]).map rtP)) (stm 109 4) ⟨[.rdr [] (tks (u++[dot]) bD 0) nm0],[]⟩=some ((.ret (.pv (.bool true)),eG3 (.pv (.lst (l.map aL))) (u.map rtP) ts ((u++[dot]).map rtP)),St ([]++tks u bD 0) [dot] bD (0 + u.length) []):=by
  rw [aHZ,aE (by rw [aB7 e1]; exact e2)]
  rfl
 refine ⟨St ([]++tks u bD 0) [dot] bD (0 + u.length) [],rfl,?_⟩
 rw [aH2]
 rw [aE (a:=(Fl.ret (.pv (.bool true)),eG3 (.pv (.lst (l.map aL))) (u.map rtP) ts ((u++[dot]).map rtP))) (σ₁:=St ([]++tks u bD 0) [dot] bD (0 + u.length) [])]
 ·rfl
 ·rw [aO q0,aO q1,aO q2,aO q3]
  exact eM q4
theorem aH5 {m:Nat} {l:List (Nat×Nat×Nat)} (hq:∀ q ∈ l,q.1 < 3∧q.2.2 < 4) (hl:l.length ≤ 700) (ls:List (List V)):(sys TT aA (m + 266)).call (fn 899) [.pv (.lst (l.map aL))] ⟨[],ls⟩=some (.pv (.bool true),⟨[],ls⟩):=by
 obtain ⟨⟨g',l'⟩,h1,h2⟩:=aAe (m:=m) hq hl
 rw [cK,aH3]
 have:=nT (g:=[]) (l:=ls) (args:=[.pv (.lst (l.map aL))]) (body:=cB (C (sys TT aA (m + 264))) 899 (aF 109) []) rfl rfl h2 (by rw [show ([]:List GCell).length=0 from rfl,h1]; rfl)
 rw [this,show ([]:List GCell).length=0 from rfl,h1]
theorem aH6 {m j:Nat} {l:List (Nat×Nat×Nat)} (hq:∀ q ∈ l,q.1 < 3∧q.2.2 < 4) (hl:l.length ≤ 700) {ls:List (List V)} (hj:ls[j]? = some ((l.map aL).map V.pv)):(sys TT aA (m + 266)).call (fn 899) [.li j] ⟨[],ls⟩=some (.pv (.bool true),⟨[],ls⟩):=by
 obtain ⟨⟨g',l'⟩,h1,h2⟩:=aAe (m:=m) hq hl
 rw [cK,aH4]
 have hm:mapR eH [.li j] ⟨[],ls⟩=some ([.pv (.lst (l.map aL))],⟨[],ls⟩):=by
  have hg:getL j ⟨[],ls⟩=some ((l.map aL).map V.pv,⟨[],ls⟩):=by unfold getL; simp only [hj]
  have ha:eH (.li j) ⟨[],ls⟩=some (.pv (.lst (l.map aL)),⟨[],ls⟩):=by
   show Rbind (getL j) (fun l=>Rpure (mkVl l)) _=_
   rw [aE hg]
   show some (mkVl ((l.map aL).map V.pv),_)=_
   rw [iU]
  show Rbind (eH (.li j)) _ _=_
  rw [aE ha]
  rfl
 unfold lM
 rw [hm]
 show (match okVs 0 [.pv (.lst (l.map aL))],cB (C (sys TT aA (m + 264))) 899 (aF 109) [] [.pv (.lst (l.map aL))] ⟨[],[]⟩ with
  | true,some (v,_)=>(match lF v with
   | true=>some (v,(⟨[],ls⟩:aC))
   | false=>none)
  | _,_=>none)=_
 rw [h2]
 rfl
noncomputable abbrev fiP:FI:=cP 815 (aF 95)
noncomputable def scV (ns:List Int):V:=.pv (.lst (ns.map PV.int))
noncomputable def eP0 (ns:List Int):aB:=[("script",scV ns)]
noncomputable def eP1 (ns:List Int) (N:Int) (tl:aB):aB:=("script",scV ns)::("number",.pv (.int N))::tl
noncomputable def ceT (c:Int):aB:=[("cell",.pv (.int c))]
theorem aG5 (I:Sys) (ns:List Int) (σ:aC):bI TT aA (C I) (fn 815) [scV ns] σ=(Rbind (blk (C I) fiP (eP0 ns) [stm 95 0,stm 95 1,stm 95 2]) fnK) σ:=by kernel_rfl
theorem aG2 (I:Sys) (ns:List Int) (σ:aC):(C I).ex fiP (eP0 ns) (stm 95 0) σ=some ((.next,eP1 ns (.ofNat 5) []),σ):=by kernel_rfl
theorem aG3 (I:Sys) (ns:List Int) (N:Int) (σ:aC):(C I).ex fiP (eP1 ns N []) (stm 95 1) σ=(Rbind (Rbind (i6 (scV ns) none (some 24)) f6) fun src=>match src with
 | .vals l=>cU (D I) fiP (bP (stm 95 1)) (cC (stm 95 1)) l (eP1 ns N [])
 | .live i=>hJ (D I) fiP (bP (stm 95 1)) (cC (stm 95 1)) i eZ 0 (eP1 ns N [])) σ:=by kernel_rfl
theorem zX (ns:List Int) (N c c' : Int):([[],ceT c'].map fun tl=>bindT fiP 9 (bP (stm 95 1)) (.pv (.int c)) (eP1 ns N tl))=[[],ceT c'].map fun _=>some (eP1 ns N (ceT c)):=by kernel_rfl
noncomputable def ltI (c:Int):Int:=match decide (c < 0) with
 | true=>1
 | false=>0
noncomputable def pnV (N c:Int):R V:=Rbind (Rbind (bS .Mult (.pv (.int N)) (.pv (.int 1021))) fun a=>bS .Add a (.pv (.int (Int.ofNat c.natAbs % 10 ^ 40)))) fun a=>Rbind (bS .Mult (.pv (.int (3 * 10 ^ 40))) (.pv (.int (ltI c)))) fun b=>bS .Add a b
theorem aG6 (m:Nat) (ns:List Int) (N c:Int) (σ:aC):blk (D (sys TT aA (m + 20))) fiP (eP1 ns N (ceT c)) (cC (stm 95 1)) σ =
 (Rbind (Rbind (pnV N c) fun v=>Rbind (oneOf (bindT fiP 9 (asT (stB (stm 95 1) 0)) v (eP1 ns N (ceT c)))) fun env'=>Rpure (Fl.next,env')) fP) σ:=by kernel_rfl
theorem aG7 (ns:List Int) (N N' c:Int):bindT fiP 9 (asT (stB (stm 95 1) 0)) (.pv (.int N')) (eP1 ns N (ceT c))=some (eP1 ns N' (ceT c)):=by kernel_rfl
theorem aG4 (I:Sys) (ns:List Int) (N c:Int) (σ:aC):([[],ceT c].map fun tl=>(C I).ex fiP (eP1 ns N tl) (stm 95 2) σ)=[[],ceT c].map fun tl=>(Rbind (Rbind (Rbind (Rbind (Rbind (Rbind (i6 (scV ns) none (some 24)) fun b=>Rpure [b]) fun vs=>I.call (.st (.builtin "len")) vs) fun b=>Rpure [b]) fun bs=>Rpure (V.pv (.int N)::bs)) fun vs=>Rbind (newL vs) fun i=>Rpure (.li i)) fun v=>Rpure (.ret v,eP1 ns N tl)) σ:=by kernel_rfl
noncomputable abbrev fiD:FI:=cP 822 (aF 96)
noncomputable def eD (many:Nat) (tl:aB):aB:=("pen",.li 0)::("many",.pv (.int (.ofNat many)))::tl
noncomputable def aR (n k:Nat):List V:=[.pv (.int (.ofNat n)),.pv (.int (.ofNat k))]
theorem aDv (I:Sys) (many:Nat) (σ:aC):bI TT aA (C I) (fn 822) [.li 0,.pv (.int (.ofNat many))] σ=(Rbind (blk (C I) fiD (eD many []) [stm 96 0,stm 96 1,stm 96 2,stm 96 3]) fnK) σ:=by kernel_rfl
theorem aDw (I:Sys) (many n k:Nat) (ls:List (List V)):(C I).ex fiD (eD many []) (stm 96 0) ⟨[],aR (n + 1) k::ls⟩=some ((.next,eD many []),⟨[],aR (n + 1) k::ls⟩):=by kernel_rfl
theorem aDy (I:Sys) (many k:Nat) (ls:List (List V)):(C I).ex fiD (eD many []) (stm 96 0) ⟨[],aR 0 k::ls⟩=(Rbind (Rbind (bS .Pow (.pv (.int (1997 * Int.ofNat (k + 1) + 6011))) (.pv (.int 9))) fun v=>Rbind (setItem' (.li 0) (.pv (.int (.ofNat 0))) v) fun _=>Rpure (Fl.next,eD many [])) fP) ⟨[],aR 0 (k + 1)::ls⟩:=by kernel_rfl
theorem aDx (I:Sys) (n k:Nat) (ls:List (List V)):([8,5,70,4].map fun many=>blk (C I) fiD (eD many []) [stm 96 1,stm 96 2,stm 96 3] ⟨[],aR n k::ls⟩) =
 [8,5,70,4].map fun many=>some ((Fl.ret (.pv (.int (.ofNat (n % many)))),eD many [("digit",.pv (.int (.ofNat (n % many))))]),⟨[],aR (n / many) k::ls⟩):=by kernel_rfl
noncomputable abbrev bO:FI:=cP 906 (aF 110)
noncomputable def hH:List (Nat×Nat×Nat):=[(0,1,0),(1,1,1),(0,1,0),(1,0,0),(0,3,0),(1,2,1),(0,0,0),(2,0,0),(0,6,0),(0,5,0),(1,2,1),(0,0,0),(1,3,0)]
noncomputable def iA:List (Nat×Nat×Nat):=[(0,6,0),(0,6,0),(0,4,0),(1,1,2),(0,0,0),(1,0,0),(0,2,0),(1,0,1),(0,0,0),(1,1,0),(0,0,0),(2,0,0),(0,3,0)]
noncomputable def tE (l:List (Nat×Nat×Nat)):V:=.pv (.lst (l.map aL))
noncomputable def eW0 (sc:V):aB:=[("script",sc)]
noncomputable def eW1 (sc:V) (tl:aB):aB:=("script",sc)::("pen",.li 0)::("first",tE hH)::("second",tE iA)::tl
noncomputable def stT (tl:aB):aB:=("steps",.li 1)::tl
noncomputable def tkT (t k:Int):aB:=[("turn",.pv (.int t)),("kind",.pv (.int k))]
theorem aFL (I:Sys) (sc:V) (σ:aC):bI TT aA (C I) (fn 906) [sc] σ=(Rbind (blk (C I) bO (eW0 sc) [stm 110 0,stm 110 1,stm 110 2,stm 110 3,stm 110 4,stm 110 5,stm 110 6]) fnK) σ:=by kernel_rfl
theorem aFA (c:V→List V→R V) (I:Sys) (sc:V) (σ:aC):(C (sel (a6 815) c I)).ex bO (eW0 sc) (stm 110 0) σ=(Rbind (c (fn 815) [sc]) fun v=>Rpure (Fl.next,([("script",sc),("pen",v)]:aB))) σ:=by kernel_rfl
theorem aFB (I:Sys) (sc:V) (σ:aC):blk (C I) bO [("script",sc),("pen",.li 0)] [stm 110 1,stm 110 2] σ=some ((.next,eW1 sc []),σ):=by kernel_rfl
noncomputable def lwT (j:Nat):Expr:=match lJ (stm 110 3) with
 | .BoolOp _ es _=>(es[j]?).getD (.Constant .none 0 ⟨0,0,0,0⟩)
 | e=>e
theorem aFC (I:Sys) (sc:V) (σ:aC):(C I).ex bO (eW1 sc []) (stm 110 3) σ=(Rbind (allTr (E I) bO (eW1 sc []) .Or [lwT 0,lwT 1]) fun r=>match r with
 | true=>blk (D I) bO (eW1 sc []) [thS (stm 110 3) 0]
 | false=>Rpure (.next,eW1 sc [])) σ:=by kernel_rfl
theorem aFD (c:V→List V→R V) (I:Sys) (sc:V) (σ:aC):([(0,hH),(1,iA)].map fun q=>(E (sel (a6 899) c I)).tr bO (eW1 sc []) (lwT q.1) σ)=[(0,hH),(1,iA)].map fun q=>(Rbind (Rbind (c (fn 899) [tE q.2]) truthy) fun b=>Rpure (!b)) σ:=by kernel_rfl
theorem aFE (I:Sys) (sc:V) (p:List V):(C I).ex bO (eW1 sc []) (stm 110 4) ⟨[],[p]⟩=some ((.next,eW1 sc (stT [])),⟨[],[p,[]]⟩):=by kernel_rfl
theorem aFF (c:V→List V→R V) (I:Sys) (sc:V) (σ:aC):(C (sel (a6 822) c I)).ex bO (eW1 sc (stT [])) (stm 110 5) σ=(Rbind (Rbind (Rbind (Rbind (c (fn 822) [.li 0,.pv (.int (.ofNat 8))]) fun b=>bS .Add (.pv (.int 9)) b) fun b=>Rpure [b]) fun vs=>Rbind (oneOf (rangeOf vs)) fun l=>Rpure (Src.vals l)) fun src=>match src with
 | .vals l=>cU (D (sel (a6 822) c I)) bO (bP (stm 110 5)) (cC (stm 110 5)) l (eW1 sc (stT []))
 | .live i=>hJ (D (sel (a6 822) c I)) bO (bP (stm 110 5)) (cC (stm 110 5)) i eZ 0 (eW1 sc (stT []))) σ:=by kernel_rfl
noncomputable def tuT (t:Int):aB:=[("turn",.pv (.int t))]
noncomputable def tuK (t:Int) (v:V):aB:=[("turn",.pv (.int t)),("kind",v)]
theorem aFH (sc:V) (t t' k:Int):([[],tkT t' k].map fun tl=>bindT bO 9 (bP (stm 110 5)) (.pv (.int t)) (eW1 sc (stT tl)))=[tuT t,tkT t k].map fun tl=>some (eW1 sc (stT tl)):=by kernel_rfl
theorem aFK (I:Sys) (env:aB):blk (D I) bO env (cC (stm 110 5))=blk (D I) bO env [stB (stm 110 5) 0,stB (stm 110 5) 1]:=by kernel_rfl
theorem aFI (c:V→List V→R V) (I:Sys) (sc:V) (t k:Int) (σ:aC):([tuT t,tkT t k].map fun tl=>(D (sel (a6 822) c I)).ex bO (eW1 sc (stT tl)) (stB (stm 110 5) 0) σ) =
 [tuT t,tkT t k].map fun _=>(Rbind (c (fn 822) [.li 0,.pv (.int (.ofNat 5))]) fun v=>Rpure (Fl.next,eW1 sc (stT (tuK t v)))) σ:=by kernel_rfl
noncomputable def kd (k:Nat):Nat:=match k with
 | 0=>0
 | 1=>1
 | 2=>2
 | 3=>1
 | _=>0
theorem aFJ (c:V→List V→R V) (I:Sys) (sc:V) (t:Int) (σ:aC):((List.range 5).map fun k=>(D (sel (a6 822) c I)).ex bO (eW1 sc (stT (tkT t (.ofNat k)))) (stB (stm 110 5) 1) σ) =
 (List.range 5).map fun k=>(Rbind (Rbind (Rbind (Rbind (Rbind (Rbind (c (fn 822) [.li 0,.pv (.int (.ofNat 70))]) fun b=>Rbind (Rbind (c (fn 822) [.li 0,.pv (.int (.ofNat 4))]) fun b=>Rpure [b]) fun bs=>Rpure (b::bs)) fun bs=>Rpure (V.pv (.int (.ofNat (kd k)))::bs)) fun vs=>Rpure (mkTup vs)) fun b=>Rpure [b]) fun vs=>cD 1 "append" vs) fun _=>Rpure (Fl.next,eW1 sc (stT (tkT t (.ofNat k))))) σ:=by kernel_rfl
theorem aFG (c:V→List V→R V) (I:Sys) (sc:V) (tl:aB) (σ:aC):(C (sel (a6 899) c I)).ex bO (eW1 sc (stT tl)) (stm 110 6) σ=(Rbind (c (fn 899) [.li 1]) fun v=>Rpure (.ret v,eW1 sc (stT tl))) σ:=by kernel_rfl
theorem aIu {ns:List Int} (h:ns.length ≤ 1000000) (σ:aC):i6 (scV ns) none (some 24) σ=some (.pv (.lst ((ns.take 24).map PV.int)),σ):=by
 have h1:i6 (scV ns) none (some 24) σ=oneOf (gC ((ns.map PV.int).map V.pv) none (some 24)) σ:=by kernel_rfl
 rw [h1]
 unfold gC
 rw [show small ((ns.map PV.int).map V.pv).length=true from Nat.ble_eq_true_of_le (by show _ ≤ 1000000; simpa using h)]
 show some (mkVl (((ns.map PV.int).map V.pv).take 24),σ)=_
 rw [← List.map_take,← List.map_take,iU]
theorem yL {x y:Int} (h:decide (y.natAbs < 2 ^ 63)=true) (σ:aC):bS .Mult (.pv (.int x)) (.pv (.int y)) σ=some (.pv (.int (x * y)),σ):=by
 have h1:bS .Mult (.pv (.int x)) (.pv (.int y)) σ=(match iW x y with | some z=>Rpure (V.pv (.int z)) | none=>Rno) σ:=by kernel_rfl
 rw [h1]
 have h2:iW x y=some (x * y):=by
  unfold iW
  rw [h]
  cases decide (x.natAbs < 2 ^ 63) <;> rfl
 rw [h2]
 rfl
theorem mU (x y:Int) (σ:aC):bS .Add (.pv (.int x)) (.pv (.int y)) σ=some (.pv (.int (x + y)),σ):=by kernel_rfl
theorem aG1 {N:Int} (hN:0 ≤ N) (c:Int) (σ:aC):∃ N',0 ≤ N'∧pnV N c σ=some (.pv (.int N'),σ):=by
 have hlt:ltI c=1∨ltI c=0:=by
  unfold ltI
  cases decide (c < 0)
  ·exact .inr rfl
  ·exact .inl rfl
 refine ⟨N * 1021 + Int.ofNat c.natAbs % 10 ^ 40 + 3 * 10 ^ 40 * ltI c,?_,?_⟩
 ·have h1:(0:Int) ≤ Int.ofNat c.natAbs % 10 ^ 40:=Int.emod_nonneg _ (by decide +kernel)
  have h2:(0:Int) ≤ 3 * 10 ^ 40 * ltI c:=by
   rcases hlt with e | e <;> rw [e] <;> decide +kernel
  exact Int.add_nonneg (Int.add_nonneg (Int.mul_nonneg hN (by decide)) h1) h2
 ·unfold pnV
  rw [aE (a:=V.pv (.int (N * 1021 + Int.ofNat c.natAbs % 10 ^ 40))) (σ₁:=σ) (by rw [aE (yL (by decide +kernel) σ)]; exact mU _ _ _)]
  have hb:decide ((ltI c).natAbs < 2 ^ 63)=true:=by
   rcases hlt with e | e <;> rw [e] <;> decide +kernel
  rw [aE (yL hb σ)]
  exact mU _ _ _
theorem zP {m:Nat} {ns:List Int} {σ:aC}:∀ (cs:List Int) (N:Int) (tl:aB),0 ≤ N→(tl=[]∨∃ c,tl=ceT c) →
 ∃ N' tl',0 ≤ N'∧(tl' = []∨∃ c,tl' = ceT c)∧cU (D (sys TT aA (m + 20))) fiP (bP (stm 95 1)) (cC (stm 95 1)) ((cs.map PV.int).map V.pv) (eP1 ns N tl) σ=some ((.next,eP1 ns N' tl'),σ)
 | [],N,tl,hN,ht=>⟨N,tl,hN,ht,rfl⟩
 | c::cs,N,tl,hN,ht=>by
  obtain ⟨N1,hN1,h1⟩:=aG1 hN c σ
  have hb:bindT fiP 9 (bP (stm 95 1)) (.pv (.int c)) (eP1 ns N tl)=some (eP1 ns N (ceT c)):=by
   rcases ht with rfl | ⟨c',rfl⟩
   ·exact aJ (zX ns N c 0) [] (by exact (.head _))
   ·exact aJ (zX ns N c c') (ceT c') (by exact (.tail _ (.head _)))
  obtain ⟨N',tl',g1,g2,g3⟩:=zP (m:=m) (ns:=ns) (σ:=σ) cs N1 (ceT c) hN1 (.inr ⟨c,rfl⟩)
  refine ⟨N',tl',g1,g2,?_⟩
  show Rbind (oneOf (bindT _ _ _ _ _)) _ _=_
  rw [hb,aE (a:=eP1 ns N (ceT c)) (σ₁:=σ) rfl]
  rw [aE (a:=(Fl.next,eP1 ns N1 (ceT c))) (σ₁:=σ)]
  ·exact g3
  ·rw [aG6,aE (a:=(Fl.next,eP1 ns N1 (ceT c))) (σ₁:=σ)]
   ·rfl
   ·rw [aE h1,aG7]
    rfl
theorem yU {N:Int} (h:0 ≤ N):∃ n:Nat,N=Int.ofNat n:=⟨N.toNat,(Int.toNat_of_nonneg h).symm⟩
theorem aGR {m:Nat} {ns:List Int} (h:ns.length ≤ 63):∃ n k,k ≤ 24∧(sys TT aA (m + 22)).call (fn 815) [scV ns] ⟨[],[]⟩=some (.li 0,⟨[],[aR n k]⟩):=by
 obtain ⟨N,tl,hN,ht,h1⟩:=zP (m:=m) (ns:=ns) (σ:=⟨[],[]⟩) (ns.take 24) (.ofNat 5) [] (by decide) (.inl rfl)
 obtain ⟨n,z1⟩:=yU hN; clear hN; subst z1
 refine ⟨n,(ns.take 24).length,List.length_take_le 24 ns,?_⟩
 rw [cK,aG5]
 have hs:=aIu (ns:=ns) (lel h rfl) ⟨[],[]⟩
 have q1:(C (sys TT aA (m + 20))).ex fiP (eP1 ns (.ofNat 5) []) (stm 95 1) ⟨[],[]⟩=some ((.next,eP1 ns (.ofNat n) tl),⟨[],[]⟩):=by
  rw [aG3,aE (a:=Src.vals (((ns.take 24).map PV.int).map V.pv)) (σ₁:=⟨[],[]⟩) (by rw [aE hs]; rfl)]
  exact h1
 have q2:(C (sys TT aA (m + 20))).ex fiP (eP1 ns (.ofNat n) tl) (stm 95 2) ⟨[],[]⟩=some ((.ret (.li 0),eP1 ns (.ofNat n) tl),⟨[],[aR n (ns.take 24).length]⟩):=by
  have go:∀ c,tl ∈ [[],ceT c]→(C (sys TT aA (m + 20))).ex fiP (eP1 ns (.ofNat n) tl) (stm 95 2) ⟨[],[]⟩=some ((.ret (.li 0),eP1 ns (.ofNat n) tl),⟨[],[aR n (ns.take 24).length]⟩):=fun c hm=>by
   rw [aJ (aG4 (sys TT aA (m + 20)) ns (.ofNat n) c ⟨[],[]⟩) tl hm]
   have hlen:=nY (m + 19) (L:=(ns.take 24).map PV.int) (σ:=⟨[],[]⟩) (mln (lel (List.length_take_le 24 ns) rfl))
   rw [List.length_map] at hlen
   rw [aE (a:=V.li 0) (σ₁:=⟨[],[aR n (ns.take 24).length]⟩)]
   ·rfl
   ·rw [aE (a:=[V.pv (.int (.ofNat n)),V.pv (.int (.ofNat (ns.take 24).length))]) (σ₁:=⟨[],[]⟩)]
    ·rfl
    ·rw [aE (a:=[V.pv (.int (.ofNat (ns.take 24).length))]) (σ₁:=⟨[],[]⟩)]
     ·rfl
     ·rw [aE (a:=V.pv (.int (.ofNat (ns.take 24).length))) (σ₁:=⟨[],[]⟩)]
      ·rfl
      ·rw [aE (a:=[V.pv (.lst ((ns.take 24).map PV.int))]) (σ₁:=⟨[],[]⟩) (by rw [aE hs]; rfl)]
       exact hlen
  clear h1 q1; rcases ht with rfl | ⟨c,rfl⟩
  ·exact go 0 (by exact (.head _))
  ·exact go c (by exact (.tail _ (.head _)))
 rw [aE (a:=(Fl.ret (.li 0),eP1 ns (.ofNat n) tl)) (σ₁:=⟨[],[aR n (ns.take 24).length]⟩)]
 ·rfl
 ·rw [aO (aG2 _ _ _),aO q1]
  exact eM q2
theorem nF {m many n k:Nat} {ls:List (List V)} (hm:many ∈ [8,5,70,4]) (hk:k ≤ 1000) :
 ∃ d n' k',d < many∧k' ≤ k + 1∧(sys TT aA (m + 22)).call (fn 822) [.li 0,.pv (.int (.ofNat many))] ⟨[],aR n k::ls⟩=some (.pv (.int (.ofNat d)),⟨[],aR n' k'::ls⟩):=by
 have hpos:0 < many:=(by decide:∀ x ∈ [8,5,70,4],0 < x) many hm
 have first:∃ n1 k1,k1 ≤ k + 1∧(C (sys TT aA (m + 20))).ex fiD (eD many []) (stm 96 0) ⟨[],aR n k::ls⟩=some ((.next,eD many []),⟨[],aR n1 k1::ls⟩):=by
  cases n with
  | succ n=>exact ⟨n + 1,k,Nat.le_succ _,aDw _ _ _ _ _⟩
  | zero =>
   have hx:(0:Int) ≤ 1997 * Int.ofNat (k + 1) + 6011:=Int.add_nonneg (Int.mul_nonneg (by decide) (Int.natCast_nonneg _)) (by decide)
   obtain ⟨x,hx⟩:=yU hx
   have hxb:x ≤ 3000000:=by
    have h1:(1997 * ((k + 1:Nat):Int) + 6011)=(x:Int):=hx
    lia
   have hp:bS .Pow (.pv (.int (1997 * Int.ofNat (k + 1) + 6011))) (.pv (.int 9)) ⟨[],aR 0 (k + 1)::ls⟩=some (.pv (.int (.ofNat (x ^ 9))),⟨[],aR 0 (k + 1)::ls⟩):=by
    rw [hx]
    have h1:bS .Pow (.pv (.int (Int.ofNat x))) (.pv (.int 9)) ⟨[],aR 0 (k + 1)::ls⟩=(match j0 (Int.ofNat x) (.ofNat 9) with | some z=>Rpure (V.pv (.int z)) | none=>Rno) ⟨[],aR 0 (k + 1)::ls⟩:=by kernel_rfl
    rw [h1]
    have h2:j0 (Int.ofNat x) (.ofNat 9)=some (.ofNat (x ^ 9)):=by
     unfold j0
     have hb:decide ((Int.ofNat x).natAbs < 2 ^ 200)=true:=decide_eq_true (by
      show x < 2 ^ 200
      exact Nat.lt_of_le_of_lt hxb (by decide +kernel))
     have hble:Nat.ble 9 40=true:=rfl
     simp only [hb,hble]
     congr 1
    rw [h2]
    rfl
   refine ⟨x ^ 9,k + 1,Nat.le_refl _,?_⟩
   rw [aDy,aE (a:=(Fl.next,eD many [])) (σ₁:=⟨[],aR (x ^ 9) (k + 1)::ls⟩)]
   ·rfl
   ·rw [aE hp]
    rfl
 obtain ⟨n1,k1,hk1,q0⟩:=first
 have q1:=aJ (aDx (sys TT aA (m + 20)) n1 k1 ls) many hm
 refine ⟨n1 % many,n1 / many,k1,Nat.mod_lt _ hpos,hk1,?_⟩
 rw [cK,aDv]
 rw [aE (a:=(Fl.ret (.pv (.int (.ofNat (n1 % many)))),eD many [("digit",.pv (.int (.ofNat (n1 % many))))])) (σ₁:=⟨[],aR (n1 / many) k1::ls⟩)]
 ·rfl
 ·rw [aO q0]
  exact q1
theorem k3s {k k1 k2 k3 w c:Nat} (a:k1 ≤ k + 1) (b:k2 ≤ k1 + 1) (d:k3 ≤ k2 + 1) (h:k + 3 * (w + 1) ≤ c):k3 + 3 * w ≤ c:=by lia
theorem yA {m:Nat} {sc:V}:∀ (w:Nat) (a:Int) (n k:Nat) (L:List (Nat×Nat×Nat)) (tl:aB),k + 3 * w ≤ 900→L.length + w ≤ 100→(∀ q ∈ L,q.1 < 3∧q.2.2 < 4)→(tl=[]∨∃ t k,tl=tkT t k) →
 ∃ (n' k' : Nat) (L' : List (Nat×Nat×Nat)) (tl' : aB),L'.length=L.length + w∧(∀ q ∈ L',q.1 < 3∧q.2.2 < 4)∧cU (D (sys TT aA (m + 266))) bO (bP (stm 110 5)) (cC (stm 110 5)) (intsFrom a 1 w) (eW1 sc (stT tl)) ⟨[],[aR n k,(L.map aL).map V.pv]⟩ =
  some ((.next,eW1 sc (stT tl')),⟨[],[aR n' k',(L'.map aL).map V.pv]⟩)
 | 0,a,n,k,L,tl,_,_,hL,_=>⟨n,k,L,tl,rfl,hL,rfl⟩
 | w + 1,a,n,k,L,tl,hk,hl,hL,ht=>by
  have hb:∃ tl1,(tl1=tuT a∨∃ k,tl1=tkT a k)∧bindT bO 9 (bP (stm 110 5)) (.pv (.int a)) (eW1 sc (stT tl))=some (eW1 sc (stT tl1)):=by
   have hb:=fun t' k=>aFH sc a t' k
   rcases ht with rfl | ⟨t',k',rfl⟩
   ·exact ⟨_,.inl rfl,at0 (hb 0 0)⟩
   ·exact ⟨_,.inr ⟨k',rfl⟩,at1 (hb t' k')⟩
  obtain ⟨tl1,ht1,hb⟩:=hb
  obtain ⟨d5,n1,k1,d5lt,k1le,r1⟩:=nF (m:=m + 244) (many:=5) (n:=n) (k:=k) (ls:=[(L.map aL).map V.pv]) (by exact (.tail _ (.head _))) (adl hk rfl)
  obtain ⟨d70,n2,k2,_,k2le,r2⟩:=nF (m:=m + 244) (many:=70) (n:=n1) (k:=k1) (ls:=[(L.map aL).map V.pv]) (by exact (.tail _ (.tail _ (.head _)))) (Nat.le_trans k1le (Nat.succ_le_succ (adl hk rfl)))
  obtain ⟨d4,n3,k3,d4lt,k3le,r3⟩:=nF (m:=m + 244) (many:=4) (n:=n2) (k:=k2) (ls:=[(L.map aL).map V.pv]) (by decide) (Nat.le_trans k2le (Nat.succ_le_succ (Nat.le_trans k1le (Nat.succ_le_succ (adl hk rfl)))))
  have q0:(D (sys TT aA (m + 266))).ex bO (eW1 sc (stT tl1)) (stB (stm 110 5) 0) ⟨[],[aR n k,(L.map aL).map V.pv]⟩=some ((.next,eW1 sc (stT (tkT a (.ofNat d5)))),⟨[],[aR n1 k1,(L.map aL).map V.pv]⟩):=by
   have go:∀ kk,tl1 ∈ [tuT a,tkT a kk]→(D (sys TT aA (m + 266))).ex bO (eW1 sc (stT tl1)) (stB (stm 110 5) 0) ⟨[],[aR n k,(L.map aL).map V.pv]⟩=some ((.next,eW1 sc (stT (tkT a (.ofNat d5)))),⟨[],[aR n1 k1,(L.map aL).map V.pv]⟩):=fun kk hm=>by
    have:=aJ (aFI (sys TT aA (m + 266)).call (sys TT aA (m + 266)) sc a kk ⟨[],[aR n k,(L.map aL).map V.pv]⟩) tl1 hm
    rw [bH] at this
    rw [this,aE r1]
    rfl
   clear hb; rcases ht1 with rfl | ⟨kk,rfl⟩
   ·exact go 0 (by exact (.head _))
   ·exact go kk (by exact (.tail _ (.head _)))
  have q1:(D (sys TT aA (m + 266))).ex bO (eW1 sc (stT (tkT a (.ofNat d5)))) (stB (stm 110 5) 1) ⟨[],[aR n1 k1,(L.map aL).map V.pv]⟩=some ((.next,eW1 sc (stT (tkT a (.ofNat d5)))),⟨[],[aR n3 k3,((L++[(kd d5,d70,d4)]).map aL).map V.pv]⟩):=by
   have:=aJ (aFJ (sys TT aA (m + 266)).call (sys TT aA (m + 266)) sc a ⟨[],[aR n1 k1,(L.map aL).map V.pv]⟩) d5 (List.mem_range.mpr d5lt)
   rw [bH] at this
   have ha:=jY (g:=[]) (l:=[aR n3 k3,(L.map aL).map V.pv]) (h:=1) (xs:=(L.map aL).map V.pv) (v:=V.pv (aL (kd d5,d70,d4))) rfl (mln (mln (adl hl rfl)))
   rw [this,aE (a:=V.pv .none) (σ₁:=⟨[],[aR n3 k3,((L++[(kd d5,d70,d4)]).map aL).map V.pv]⟩)]
   ·rfl
   ·rw [aE (a:=[V.pv (aL (kd d5,d70,d4))]) (σ₁:=⟨[],[aR n3 k3,(L.map aL).map V.pv]⟩)]
    ·rw [ha]
     simp
    ·rw [aE (a:=V.pv (aL (kd d5,d70,d4))) (σ₁:=⟨[],[aR n3 k3,(L.map aL).map V.pv]⟩)]
     ·rfl
     ·rw [aE (a:=[V.pv (.int (.ofNat (kd d5))),V.pv (.int (.ofNat d70)),V.pv (.int (.ofNat d4))]) (σ₁:=⟨[],[aR n3 k3,(L.map aL).map V.pv]⟩)]
      ·rfl
      ·rw [aE (a:=[V.pv (.int (.ofNat d70)),V.pv (.int (.ofNat d4))]) (σ₁:=⟨[],[aR n3 k3,(L.map aL).map V.pv]⟩)]
       ·rfl
       ·rw [aE r2,aE (a:=[V.pv (.int (.ofNat d4))]) (σ₁:=⟨[],[aR n3 k3,(L.map aL).map V.pv]⟩) (by rw [aE r3]; rfl)]
        rfl
  have hkd:kd d5 < 3:=by
   exact Nat.lt_of_succ_le (Nat.le_of_ble_eq_true (List.all_eq_true.mp (show ((List.range 5).all fun d=>Nat.ble (kd d + 1) 3)=true by kernel_rfl) d5 (List.mem_range.mpr d5lt)))
  obtain ⟨n',k',L',tl',g1,g2,g3⟩:=yA (m:=m) (sc:=sc) w (a + 1) n3 k3 (L++[(kd d5,d70,d4)]) (tkT a (.ofNat d5)) (k3s k1le k2le k3le hk) (by rw [List.length_append,Nat.add_assoc,Nat.add_comm [_].length]; exact hl) (fun q hq=>by
   rcases List.mem_append.mp hq with hq | hq
   ·exact hL q hq
   ·rw [List.mem_singleton.mp hq]; exact ⟨hkd,d4lt⟩) (.inr ⟨_,_,rfl⟩)
  refine ⟨n',k',L',tl',by rw [g1,List.length_append]; exact Nat.add_right_comm _ 1 w,g2,?_⟩
  show Rbind (oneOf (bindT _ _ _ _ _)) _ _=_
  rw [hb,aE (a:=eW1 sc (stT tl1)) (σ₁:=⟨[],[aR n k,(L.map aL).map V.pv]⟩) rfl,aFK]
  rw [aE (a:=(Fl.next,eW1 sc (stT (tkT a (.ofNat d5))))) (σ₁:=⟨[],[aR n3 k3,((L++[(kd d5,d70,d4)]).map aL).map V.pv]⟩)]
  ·exact g3
  ·rw [aO q0,aO q1]
   rfl
theorem aFd {ns:List Int} (h:ns.length ≤ 63):∃ ls,(sys TT aA 268).call (fn 906) [scV ns] ⟨[],[]⟩=some (.pv (.bool true),⟨[],ls⟩):=by
 obtain ⟨n,k,hk,p0⟩:=aGR (m:=244) h
 have w0:(C (sys TT aA 266)).ex bO (eW0 (scV ns)) (stm 110 0) ⟨[],[]⟩=some ((.next,([("script",scV ns),("pen",.li 0)]:aB)),⟨[],[aR n k]⟩):=by
  have:=aFA (sys TT aA 266).call (sys TT aA 266) (scV ns) ⟨[],[]⟩
  rw [bH] at this
  rw [this,aE p0]
  rfl
 have f1:∀ q ∈ hH,q.1 < 3∧q.2.2 < 4:=by
  have h:(hH.all fun q=>Nat.blt q.1 3 && Nat.blt q.2.2 4)=true:=by kernel_rfl
  intro q hq
  rw [List.all_eq_true] at h
  have:=h q hq
  rw [Bool.and_eq_true] at this
  exact ⟨Nat.le_of_ble_eq_true this.1,Nat.le_of_ble_eq_true this.2⟩
 have f2:∀ q ∈ iA,q.1 < 3∧q.2.2 < 4:=by
  have h:(iA.all fun q=>Nat.blt q.1 3 && Nat.blt q.2.2 4)=true:=by kernel_rfl
  intro q hq
  rw [List.all_eq_true] at h
  have:=h q hq
  rw [Bool.and_eq_true] at this
  exact ⟨Nat.le_of_ble_eq_true this.1,Nat.le_of_ble_eq_true this.2⟩
 have w3:(C (sys TT aA 266)).ex bO (eW1 (scV ns) []) (stm 110 3) ⟨[],[aR n k]⟩=some ((.next,eW1 (scV ns) []),⟨[],[aR n k]⟩):=by
  have ht:∀ j l,(j,l) ∈ [(0,hH),(1,iA)]→(∀ q ∈ l,q.1 < 3∧q.2.2 < 4)→l.length ≤ 700→(E (sys TT aA 266)).tr bO (eW1 (scV ns) []) (lwT j) ⟨[],[aR n k]⟩=some (false,⟨[],[aR n k]⟩):=fun j l hm hq hl=>by
   have:=aJ (aFD (sys TT aA 266).call (sys TT aA 266) (scV ns) ⟨[],[aR n k]⟩) (j,l) hm
   rw [bH] at this
   have hr:=aH5 (m:=0) hq hl [aR n k]
   rw [this,aE (a:=true) (σ₁:=⟨[],[aR n k]⟩)]
   ·rfl
   ·show Rbind ((sys TT aA 266).call (fn 899) [.pv (.lst (l.map aL))]) _ _=_
    rw [aE hr]
    rfl
  have t1:=ht 0 hH (by exact (.head _)) f1 (by simp [hH])
  have t2:=ht 1 iA (by exact (.tail _ (.head _))) f2 (by simp [iA])
  have ha:allTr (E (sys TT aA 266)) bO (eW1 (scV ns) []) .Or [lwT 0,lwT 1] ⟨[],[aR n k]⟩=some (false,⟨[],[aR n k]⟩):=by
   show Rbind ((E (sys TT aA 266)).tr _ _ _) _ _=_
   rw [aE t1]
   show Rbind ((E (sys TT aA 266)).tr _ _ _) _ _=_
   rw [aE t2]
   rfl
  rw [aFC,aE ha]
  rfl
 obtain ⟨d8,n1,k1,d8lt,k1le,r8⟩:=nF (m:=244) (many:=8) (n:=n) (k:=k) (ls:=[[]]) (by exact (.head _)) (lel hk rfl)
 obtain ⟨n',k',L,tl,hL1,hL2,hloop⟩:=yA (m:=0) (sc:=scV ns) (9 + d8) 0 n1 k1 [] [] (le2 (Nat.le_trans k1le (Nat.succ_le_succ hk)) (Nat.mul_le_mul_left 3 (Nat.add_le_add_left (Nat.le_of_lt d8lt) 9)) rfl) (by rw [List.length_nil,Nat.zero_add]; exact lel (Nat.add_le_add_left (Nat.le_of_lt d8lt) 9) rfl) nofun (.inl rfl)
 have w5:(C (sys TT aA 266)).ex bO (eW1 (scV ns) (stT [])) (stm 110 5) ⟨[],[aR n k,[]]⟩=some ((.next,eW1 (scV ns) (stT tl)),⟨[],[aR n' k',(L.map aL).map V.pv]⟩):=by
  have:=aFF (sys TT aA 266).call (sys TT aA 266) (scV ns) ⟨[],[aR n k,[]]⟩
  rw [bH] at this
  rw [this,aE (a:=Src.vals (intsFrom 0 1 (9 + d8))) (σ₁:=⟨[],[aR n1 k1,[]]⟩)]
  ·exact hloop
  ·rw [aE (a:=[V.pv (.int (.ofNat (9 + d8)))]) (σ₁:=⟨[],[aR n1 k1,[]]⟩)]
   ·have hr:rangeOf [V.pv (.int (.ofNat (9 + d8)))]=some (intsFrom 0 1 (9 + d8)):=by
     show (match smallI (.ofNat (9 + d8)) with | true=>some (intsFrom 0 1 (Int.ofNat (9 + d8)).toNat) | false=>none)=_
     rw [show smallI (.ofNat (9 + d8))=true from Nat.ble_eq_true_of_le (show 9 + d8 ≤ 1000000 from lel (Nat.add_le_add_left (Nat.le_of_lt d8lt) 9) rfl)]
     rfl
    rw [hr]
    rfl
   ·rw [aE (a:=V.pv (.int (.ofNat (9 + d8)))) (σ₁:=⟨[],[aR n1 k1,[]]⟩)]
    ·rfl
    ·rw [aE r8]
     rw [mU]
     rfl
 have w6:(C (sys TT aA 266)).ex bO (eW1 (scV ns) (stT tl)) (stm 110 6) ⟨[],[aR n' k',(L.map aL).map V.pv]⟩=some ((.ret (.pv (.bool true)),eW1 (scV ns) (stT tl)),⟨[],[aR n' k',(L.map aL).map V.pv]⟩):=by
  have:=aFG (sys TT aA 266).call (sys TT aA 266) (scV ns) tl ⟨[],[aR n' k',(L.map aL).map V.pv]⟩
  rw [bH] at this
  have hr:=aH6 (m:=0) (j:=1) hL2 (by rw [hL1,List.length_nil,Nat.zero_add]; exact lel (Nat.add_le_add_left (Nat.le_of_lt d8lt) 9) rfl) (ls:=[aR n' k',(L.map aL).map V.pv]) rfl
  rw [this,aE hr]
  rfl
 refine ⟨[aR n' k',(L.map aL).map V.pv],?_⟩
 rw [show (268:Nat)=266 + 2 from rfl,cK,aFL]
 rw [aE (a:=(Fl.ret (.pv (.bool true)),eW1 (scV ns) (stT tl))) (σ₁:=⟨[],[aR n' k',(L.map aL).map V.pv]⟩)]
 ·rfl
 ·rw [aO w0]
  show blk _ _ _ ([stm 110 1,stm 110 2]++[stm 110 3,stm 110 4,stm 110 5,stm 110 6]) _=_
  rw [g7 (aFB _ _ _),aO w3,aO (aFE _ _ _),aO w5]
  exact eM w6
end
section
open PyProof.Rows PySem PySem.Calls PySem.W
structure FnI where
 a:Addr
 q:Str
 c:Addr
 t:Nat
 d:Value
 pm:Value
noncomputable def eN:List FnI:=[
 ⟨29,"is_verb_here",28,233,(.none),(.str "ledgerspeak.procread" 194)⟩,
 ⟨36,"body_at",35,240,(.none),(.str "ledgerspeak.procread" 194)⟩,
 ⟨43,"statement_at",42,250,(.none),(.str "ledgerspeak.procread" 194)⟩,
 ⟨103,"cut_quotient",102,339,(.none),(.str "ledgerspeak.decimals" 334)⟩,
 ⟨111,"decimal",110,348,(.ref 104),(.str "ledgerspeak.decimals" 334)⟩,
 ⟨118,"negated",117,356,(.none),(.str "ledgerspeak.decimals" 334)⟩,
 ⟨125,"units_at",124,363,(.none),(.str "ledgerspeak.decimals" 334)⟩,
 ⟨132,"is_whole",131,374,(.none),(.str "ledgerspeak.decimals" 334)⟩,
 ⟨139,"whole_of",138,381,(.none),(.str "ledgerspeak.decimals" 334)⟩,
 ⟨146,"worth_of",145,388,(.none),(.str "ledgerspeak.decimals" 334)⟩,
 ⟨153,"read_decimal",152,397,(.none),(.str "ledgerspeak.decimals" 334)⟩,
 ⟨161,"is_part_next",160,448,(.none),(.str "ledgerspeak.references" 409)⟩,
 ⟨168,"read_subscripts",167,457,(.none),(.str "ledgerspeak.references" 409)⟩,
 ⟨175,"read_part",174,466,(.none),(.str "ledgerspeak.references" 409)⟩,
 ⟨182,"read_ref",181,476,(.none),(.str "ledgerspeak.references" 409)⟩,
 ⟨189,"read_all",188,488,(.none),(.str "ledgerspeak.references" 409)⟩,
 ⟨196,"read_figure",195,496,(.none),(.str "ledgerspeak.references" 409)⟩,
 ⟨203,"read_operand",202,503,(.none),(.str "ledgerspeak.references" 409)⟩,
 ⟨210,"read_expression",209,516,(.none),(.str "ledgerspeak.expressions" 511)⟩,
 ⟨217,"sign_among",216,523,(.none),(.str "ledgerspeak.expressions" 511)⟩,
 ⟨224,"read_sum",223,532,(.none),(.str "ledgerspeak.expressions" 511)⟩,
 ⟨231,"read_product",230,542,(.none),(.str "ledgerspeak.expressions" 511)⟩,
 ⟨238,"read_factor",237,552,(.none),(.str "ledgerspeak.expressions" 511)⟩,
 ⟨245,"is_lone_number",244,563,(.none),(.str "ledgerspeak.expressions" 511)⟩,
 ⟨252,"read_power",251,572,(.none),(.str "ledgerspeak.expressions" 511)⟩,
 ⟨259,"read_primary",258,581,(.none),(.str "ledgerspeak.expressions" 511)⟩,
 ⟨266,"word_ahead",265,595,(.none),(.str "ledgerspeak.readarith" 590)⟩,
 ⟨273,"phrase_words",272,605,(.none),(.str "ledgerspeak.readarith" 590)⟩,
 ⟨280,"opening_length",279,612,(.none),(.str "ledgerspeak.readarith" 590)⟩,
 ⟨287,"body_here",286,626,(.none),(.str "ledgerspeak.readarith" 590)⟩,
 ⟨294,"branches_here",293,635,(.none),(.str "ledgerspeak.readarith" 590)⟩,
 ⟨301,"begins_operand",300,648,(.none),(.str "ledgerspeak.readarith" 590)⟩,
 ⟨308,"ref_here",307,655,(.none),(.str "ledgerspeak.readarith" 590)⟩,
 ⟨315,"is_numeric_operand",314,662,(.none),(.str "ledgerspeak.readarith" 590)⟩,
 ⟨322,"refuse_at",321,669,(.none),(.str "ledgerspeak.readarith" 590)⟩,
 ⟨329,"number_here",328,678,(.none),(.str "ledgerspeak.readarith" 590)⟩,
 ⟨336,"numbers_here",335,687,(.none),(.str "ledgerspeak.readarith" 590)⟩,
 ⟨343,"targets_here",342,695,(.none),(.str "ledgerspeak.readarith" 590)⟩,
 ⟨348,"goal_rows",347,705,(.none),(.str "ledgerspeak.readarith" 590)⟩,
 ⟨355,"sole_operand",354,711,(.none),(.str "ledgerspeak.readarith" 590)⟩,
 ⟨362,"given_rows",361,719,(.none),(.str "ledgerspeak.readarith" 590)⟩,
 ⟨369,"size_branches",368,726,(.none),(.str "ledgerspeak.readarith" 590)⟩,
 ⟨376,"read_corresponding",375,736,(.none),(.str "ledgerspeak.readarith" 590)⟩,
 ⟨383,"passes_corresponding",382,750,(.none),(.str "ledgerspeak.readarith" 590)⟩,
 ⟨390,"read_add",389,757,(.none),(.str "ledgerspeak.readarith" 590)⟩,
 ⟨397,"read_subtract",396,768,(.none),(.str "ledgerspeak.readarith" 590)⟩,
 ⟨404,"ref_behind",403,781,(.none),(.str "ledgerspeak.readfiles" 778)⟩,
 ⟨411,"read_read",410,789,(.none),(.str "ledgerspeak.readfiles" 778)⟩,
 ⟨418,"read_delete",417,802,(.none),(.str "ledgerspeak.readfiles" 778)⟩,
 ⟨431,"word_here",430,873,(.ref 424),(.str "ledgerspeak.conditions" 811)⟩,
 ⟨438,"is_relation_at",437,882,(.none),(.str "ledgerspeak.conditions" 811)⟩,
 ⟨445,"place_of_word",444,891,(.none),(.str "ledgerspeak.conditions" 811)⟩,
 ⟨452,"is_predicate_here",451,899,(.none),(.str "ledgerspeak.conditions" 811)⟩,
 ⟨459,"is_bare_relation_here",458,908,(.none),(.str "ledgerspeak.conditions" 811)⟩,
 ⟨473,"ConditionReader.__init__",472,927,(.none),(.str "ledgerspeak.conditions" 811)⟩,
 ⟨480,"ConditionReader.either",479,937,(.none),(.str "ledgerspeak.conditions" 811)⟩,
 ⟨487,"ConditionReader.both",486,945,(.none),(.str "ledgerspeak.conditions" 811)⟩,
 ⟨494,"ConditionReader.turned",493,953,(.none),(.str "ledgerspeak.conditions" 811)⟩,
 ⟨501,"ConditionReader.single",500,960,(.none),(.str "ledgerspeak.conditions" 811)⟩,
 ⟨508,"ConditionReader.unbracketed",507,971,(.none),(.str "ledgerspeak.conditions" 811)⟩,
 ⟨515,"ConditionReader.in_brackets",514,979,(.none),(.str "ledgerspeak.conditions" 811)⟩,
 ⟨522,"ConditionReader.subject_of_last",521,987,(.none),(.str "ledgerspeak.conditions" 811)⟩,
 ⟨529,"ConditionReader.sign_of_last",528,994,(.none),(.str "ledgerspeak.conditions" 811)⟩,
 ⟨536,"ConditionReader.predicate",535,1001,(.none),(.str "ledgerspeak.conditions" 811)⟩,
 ⟨543,"ConditionReader.relation",542,1012,(.none),(.str "ledgerspeak.conditions" 811)⟩,
 ⟨550,"ConditionReader.sign_here",549,1022,(.none),(.str "ledgerspeak.conditions" 811)⟩,
 ⟨565,"read_condition",564,1043,(.ref 558),(.str "ledgerspeak.conditions" 811)⟩,
 ⟨572,"read_if",571,1054,(.none),(.str "ledgerspeak.readflow" 1051)⟩,
 ⟨579,"read_mode",578,1065,(.none),(.str "ledgerspeak.readflow" 1051)⟩,
 ⟨586,"read_args",585,1074,(.none),(.str "ledgerspeak.readflow" 1051)⟩,
 ⟨593,"read_call",592,1084,(.none),(.str "ledgerspeak.readflow" 1051)⟩,
 ⟨600,"is_reserved",599,1101,(.none),(.str "ledgerspeak.reader" 1094)⟩,
 ⟨605,"octets_of_text",604,1108,(.none),(.str "ledgerspeak.reader" 1094)⟩,
 ⟨620,"Reader.__init__",619,1127,(.ref 613),(.str "ledgerspeak.reader" 1094)⟩,
 ⟨635,"Reader.is_done",634,1145,(.none),(.str "ledgerspeak.reader" 1094)⟩,
 ⟨642,"Reader.fault",641,1152,(.none),(.str "ledgerspeak.reader" 1094)⟩,
 ⟨649,"Reader.take",648,1160,(.none),(.str "ledgerspeak.reader" 1094)⟩,
 ⟨657,"Reader.is_kind",656,1169,(.ref 650),(.str "ledgerspeak.reader" 1094)⟩,
 ⟨664,"Reader.is_word",663,1179,(.none),(.str "ledgerspeak.reader" 1094)⟩,
 ⟨671,"Reader.skip",670,1189,(.none),(.str "ledgerspeak.reader" 1094)⟩,
 ⟨678,"Reader.need",677,1197,(.none),(.str "ledgerspeak.reader" 1094)⟩,
 ⟨685,"Reader.one_of",684,1205,(.none),(.str "ledgerspeak.reader" 1094)⟩,
 ⟨692,"Reader.word",691,1214,(.none),(.str "ledgerspeak.reader" 1094)⟩,
 ⟨700,"Reader.is_name",699,1222,(.ref 693),(.str "ledgerspeak.reader" 1094)⟩,
 ⟨707,"Reader.name",706,1230,(.none),(.str "ledgerspeak.reader" 1094)⟩,
 ⟨714,"Reader.names",713,1237,(.none),(.str "ledgerspeak.reader" 1094)⟩,
 ⟨722,"Reader.is_sign",721,1246,(.ref 715),(.str "ledgerspeak.reader" 1094)⟩,
 ⟨729,"Reader.skip_sign",728,1255,(.none),(.str "ledgerspeak.reader" 1094)⟩,
 ⟨736,"Reader.need_sign",735,1263,(.none),(.str "ledgerspeak.reader" 1094)⟩,
 ⟨743,"Reader.is_number",742,1271,(.none),(.str "ledgerspeak.reader" 1094)⟩,
 ⟨750,"Reader.signed",749,1278,(.none),(.str "ledgerspeak.reader" 1094)⟩,
 ⟨757,"Reader.whole",756,1287,(.none),(.str "ledgerspeak.reader" 1094)⟩,
 ⟨764,"Reader.literal",763,1295,(.none),(.str "ledgerspeak.reader" 1094)⟩,
 ⟨771,"Reader.octets",770,1302,(.none),(.str "ledgerspeak.reader" 1094)⟩,
 ⟨794,"Token.__init__",793,1337,(.ref 787),(.str "ledgerspeak.tokens" 1320)⟩,
 ⟨801,"Token.told",800,1348,(.none),(.str "ledgerspeak.tokens" 1320)⟩,
 ⟨815,"_law_pen",814,1369,(.none),(.str "law_pc0159_01" 1366)⟩,
 ⟨822,"_law_draw",821,1378,(.none),(.str "law_pc0159_01" 1366)⟩,
 ⟨827,"_law_words",826,1387,(.none),(.str "law_pc0159_01" 1366)⟩,
 ⟨834,"_law_bare",833,1393,(.none),(.str "law_pc0159_01" 1366)⟩,
 ⟨841,"_law_verbs",840,1400,(.none),(.str "law_pc0159_01" 1366)⟩,
 ⟨848,"_law_openings",847,1407,(.none),(.str "law_pc0159_01" 1366)⟩,
 ⟨855,"_law_opening_tokens",854,1413,(.none),(.str "law_pc0159_01" 1366)⟩,
 ⟨860,"_law_taker",859,1427,(.none),(.str "law_pc0159_01" 1366)⟩,
 ⟨865,"_law_close",864,1433,(.none),(.str "law_pc0159_01" 1366)⟩,
 ⟨872,"_law_open",871,1439,(.none),(.str "law_pc0159_01" 1366)⟩,
 ⟨877,"_law_take",876,1453,(.none),(.str "law_pc0159_01" 1366)⟩,
 ⟨882,"_law_innermost",881,1459,(.none),(.str "law_pc0159_01" 1366)⟩,
 ⟨887,"_law_laid",886,1465,(.none),(.str "law_pc0159_01" 1366)⟩,
 ⟨894,"_law_choose",893,1471,(.none),(.str "law_pc0159_01" 1366)⟩,
 ⟨899,"_law_right",898,1479,(.none),(.str "law_pc0159_01" 1366)⟩,
 ⟨906,"law",905,1485,(.none),(.str "law_pc0159_01" 1366)⟩]
noncomputable def fB:FnI:=⟨628,"Reader.peek",627,1137,(.ref 621),(.str "ledgerspeak.reader" 1094)⟩
noncomputable def pF:List (Addr×List Value):=[
 (22,[.str "ADD" 198,.str "SUBTRACT" 199,.str "MULTIPLY" 200,.str "DIVIDE" 201,.str "COMPUTE" 202,.str "MOVE" 203,.str "INITIALIZE" 204,.str "SET" 205,.str "STRING" 206,.str "UNSTRING" 207,.str "INSPECT" 208,.str "SEARCH" 209,.str "ACCEPT" 210,.str "DISPLAY" 211,.str "IF" 212,.str "EVALUATE" 213,.str "PERFORM" 214,.str "GO" 215,.str "EXIT" 216,.str "STOP" 217,.str "CALL" 218,.str "CONTINUE" 219,.str "OPEN" 220,.str "CLOSE" 221,.str "READ" 222,.str "WRITE" 223,.str "REWRITE" 224,.str "DELETE" 225,.str "START" 226,.str "SORT" 227,.str "MERGE" 228,.str "RELEASE" 229,.str "RETURN" 230]),
 (104,[.int 0 346]),
 (420,[.str "NUMERIC" 834,.str "ALPHABETIC" 835,.str "ALPHABETIC-LOWER" 836,.str "ALPHABETIC-UPPER" 837]),
 (423,[.str "=" 865,.str "<" 866,.str ">" 867,.str "<=" 868,.str ">=" 869]),
 (424,[.int 0 871]),
 (558,[.none]),
 (613,[.int 0 1125]),
 (621,[.int 0 1135]),
 (650,[.int 0 1167]),
 (693,[.int 0 1220]),
 (715,[.int 0 1244]),
 (786,[.int 0 1334,.int 0 1335]),
 (787,[.ref 786,.bool false])]
noncomputable def kZ:List (Addr×Nat×List (Str×Nat×Value)):=[
 (154,11,[("ZERO",413,.str "ZERO" 414),("ZEROS",415,.str "ZERO" 416),("ZEROES",417,.str "ZERO" 418),("SPACE",419,.str "SPACE" 420),("SPACES",421,.str "SPACE" 422),("HIGH-VALUE",423,.str "HIGH" 424),("HIGH-VALUES",425,.str "HIGH" 426),("LOW-VALUE",427,.str "LOW" 428),("LOW-VALUES",429,.str "LOW" 430),("QUOTE",431,.str "QUOTE" 432),("QUOTES",433,.str "QUOTE" 434)]),
 (419,6,[("=",815,.str "<>" 816),("<>",817,.str "=" 818),("<",819,.str ">=" 820),(">=",821,.str "<" 822),(">",823,.str "<=" 824),("<=",825,.str ">" 826)]),
 (421,5,[("POSITIVE",839,.str "POSITIVE" 840),("NEGATIVE",841,.str "NEGATIVE" 842),("ZERO",843,.str "ZERO" 844),("ZEROS",845,.str "ZERO" 846),("ZEROES",847,.str "ZERO" 848)]),
 (422,3,[("GREATER",855,.str ">" 856),("LESS",857,.str "<" 858),("EQUAL",859,.str "=" 860)])]
noncomputable def aJQ (us:List Value):Obj:={ cls:=.type "tuple",data:=.seq us.toArray 0 }
noncomputable def wD (P:Params) (e:Str×Nat×Value):DictEntry:=⟨PyData.keyHash P e.1,.str e.1 e.2.1,e.2.2⟩
noncomputable def vZ (P:Params) (n:Nat) (l:List (Str×Nat×Value)):Obj:=⟨.type "dict",none,.dict (l.map (wD P)).toArray n,#[]⟩
theorem mV {α:Type} {l:List α} {p:α→Bool} (e:l.all p=true) {x:α} (h:x ∈ l):p x=true:=List.all_eq_true.mp e x h
theorem fT {α β:Type} {l:List α} {F G:α→β} (e:l.map F=l.map G) {x:α} (h:x ∈ l):F x=G x:=List.map_inj_left.mp e x h
theorem aJS (P:Params):pF.map (fun t=>(kfrag P).lookup t.1)=pF.map fun t=>some (aJQ t.2):=by kernel_rfl
theorem aDl (P:Params):kZ.map (fun t=>(kfrag P).lookup t.1)=kZ.map fun t=>some (vZ P t.2.1 t.2.2):=by kernel_rfl
noncomputable def oC:Option Obj→Option Value
 | some o=>(match o.data with
  | .fields vs=>vs[1]?
  | _=>none)
 | none=>none
theorem aFV {o:Option Obj} {v:Value} (e:oC o=some v):∃ ob vs,o=some ob∧ob.data = .fields vs∧vs[1]? = some v:=by
 cases o with
 | none=>exact nx e
 | some ob =>
  have e:=(show (match ob.data with | .fields vs=>vs[1]? | _=>none)=some v from e)
  cases h:ob.data with
  | fields vs=>rw [h] at e; exact ⟨ob,vs,rfl,h,e⟩
  | _=>rw [h] at e; exact nx e
theorem aC2 (P:Params):eN.map (fun i=>oC ((kfrag P).lookup i.c))=eN.map fun i=>some (.str i.q i.t):=by kernel_rfl
theorem aGT (P:Params):(kfrag P).lookup 628=some (aI (aM 91 1) fB.q fB.d fB.pm (.ref fB.c)):=by kernel_rfl
theorem aGV (P:Params):oC ((kfrag P).lookup fB.c)=some (.str fB.q fB.t):=by kernel_rfl
theorem aDX (P:Params):(bU.zip eN).map (fun p=>(kfrag P).lookup p.1.1)=(bU.zip eN).map fun p=>some (aI p.1.2.st p.2.q p.2.d p.2.pm (.ref p.2.c)):=by kernel_rfl
theorem aKm:(bU.zip eN).map (·.1)=bU:=by kernel_rfl
theorem aKn:(bU.zip eN).map (·.2)=eN:=by kernel_rfl
theorem iS {α:Type} {a:Nat} {v:α}:∀ {l:List (Nat×α)},aX a l=some v→(a,v) ∈ l
 | [],e=>by exact nx e
 | (b,u)::r,e=>by
  have e:=(show (match Nat.beq b a with | true=>some u | false=>aX a r)=some v from e)
  refine boolF (b:=Nat.beq b a) (fun h=>?_) fun h=>?_
  ·rw [h] at e; exact .tail _ (iS e)
  ·rw [h] at e; cases e; rw [Nat.eq_of_beq_eq_true h]; exact .head _
theorem r9 {α:Type} {x:Str} {v:α}:∀ {l:List (Str×α)},look x l=some v→(x,v) ∈ l
 | [],e=>by exact nx e
 | (b,u)::r,e=>by
  unfold look at e
  refine boolF (b:=sEq b x) (fun h=>?_) fun h=>?_
  ·rw [h] at e; exact .tail _ (r9 e)
  ·rw [h] at e; cases e; rw [aK.mp h]; exact .head _
noncomputable def tupA (a:Addr):Option (List Value):=aX a pF
noncomputable def dicA (a:Addr):Option (Nat×List (Str×Nat×Value)):=aX a kZ
mutual
noncomputable def pC:PV→Value→Bool
 | .none,u=>(match u with | .none=>true | _=>false)
 | .bool b,u=>(match u with | .bool c=>(match b,c with | true,true=>true | false,false=>true | _,_=>false) | _=>false)
 | .int i,u=>(match u with | .int j _=>decide (i=j) | _=>false)
 | .str s,u=>(match u with | .str t _=>sEq s t | _=>false)
 | .bytes _,_=>false
 | .tup l,u=>(match u with | .ref a=>(match tupA a with | some us=>psC l us | none=>false) | _=>false)
 | .lst _,_=>false
noncomputable def psC:List PV→List Value→Bool
 | [],us=>(match us with | []=>true | _=>false)
 | p::l,us=>(match us with | []=>false | u::r=>(match pC p u with | true=>psC l r | false=>false))
end
noncomputable def asC:List (Str×V)→List (Str×Nat×Value)→Bool
 | [],us=>(match us with | []=>true | _=>false)
 | (x,v)::l,us=>(match us with | []=>false | (y,_,u)::r=>(match sEq x y,v with | true,.pv p=>(match pC p u with | true=>asC l r | false=>false) | _,_=>false))
noncomputable def vC:V→Value→Bool
 | .pv p,u=>pC p u
 | .st v,u=>(match v,u with | .ref a,.ref b=>Nat.beq a b | _,_=>false)
 | .vd as,u=>(match u with | .ref a=>(match dicA a with | some d=>asC as d.2 | none=>false) | _=>false)
 | _,_=>false
noncomputable def vsC:List V→List Value→Bool
 | [],us=>(match us with | []=>true | _=>false)
 | p::l,us=>(match us with | []=>false | u::r=>(match vC p u with | true=>vsC l r | false=>false))
section
variable {w:World} {g:Heap}
theorem sR {b:Addr} (h:b ∉ aS):b ∉ (G0 w).own:=by
 intro hb
 have hb:b ∈ (([]++[]++[]++aS)++[]:List Addr):=hb
 simp at hb
 exact h hb
theorem aJR {a us} (e:tupA a=some us):a ∉ aS:=by
 have h:pF.all (fun t=>!aS.contains t.1)=true:=by decide +kernel
 have:=mV h (iS e)
 intro q
 rw [List.contains_iff_mem.mpr q] at this; exact ft this
theorem v5 {a us} (e:dicA a=some us):a ∉ aS∧a ≠ 1:=by
 have h:kZ.all (fun t=>!aS.contains t.1 && !(Nat.beq t.1 1))=true:=by decide +kernel
 have:=mV h (iS e)
 clear e; obtain ⟨h1,h2⟩:=Bool.and_eq_true_iff.mp this; clear this
 refine ⟨fun q=>?_,fun q=>?_⟩
 ·rw [List.contains_iff_mem.mpr q] at h1; exact ft h1
 ·clear h1; subst q; exact ft h2
variable (K:(kfrag w.params).In g)
include K
theorem aAH {a us} (e:tupA a=some us):cT g a us:=⟨0,K _ _ (fT (aJS w.params) (iS e))⟩
mutual
theorem sU:∀ {p:PV} {u:Value},pC p u=true→PR (G0 w) g p u
 | .none,u,e=>by cases u <;> first | (exact ft e; done) | exact rfl
 | .bool b,u,e=>by
  cases u <;> first | (exact ft e; done) | skip
  rename_i c; cases b <;> cases c <;> first | (exact ft e; done) | rfl
 | .int i,u,e=>by
  cases u <;> first | (exact ft e; done) | skip
  rename_i j t; exact ⟨t,by rw [show i=j from of_decide_eq_true e]⟩
 | .str i,u,e=>by
  cases u <;> first | (exact ft e; done) | skip
  rename_i j t; exact ⟨t,by rw [aK.mp e]⟩
 | .bytes _,_,e=>by exact ft e
 | .tup l,u,e=>by
  cases u <;> first | (exact ft e; done) | skip
  rename_i a
  have e:(match tupA a with | some us=>psC l us | none=>false)=true:=e
  refine optE (o:=tupA a) (fun h=>?_) fun us h=>?_
  ·rw [h] at e; exact ft e
  ·rw [h] at e; exact ⟨a,us,rfl,sR (aJR h),aAH K h,zZ e⟩
 | .lst _,_,e=>by exact ft e
theorem zZ:∀ {l:List PV} {us:List Value},psC l us=true→PRs (G0 w) g l us
 | [],us,e=>by cases us with
  | nil=>exact rfl
  | cons=>exact ft e
 | p::l,us,e=>by
  cases us with
  | nil=>exact ft e
  | cons u r =>
   have e:(match pC p u with | true=>psC l r | false=>false)=true:=e
   refine boolF (b:=pC p u) (fun h=>?_) fun h=>?_
   ·rw [h] at e; exact ft e
   ·rw [h] at e; exact ⟨u,r,rfl,sU h,zZ e⟩
end
theorem uK:∀ {l:List (Str×V)} {us:List (Str×Nat×Value)},asC l us=true→VRas (G0 w) g l (us.map fun e=>(e.1,e.2.2))
 | [],us,e=>by cases us with
  | nil=>simp only [List.map_nil,VRas]
  | cons=>exact ft e
 | (x,v)::l,us,e=>by
  cases us with
  | nil=>exact ft e
  | cons y r =>
   obtain ⟨y,t,u⟩:=y
   have e:(match (generalizing:=false) sEq x y,v with | true,.pv p=>(match pC p u with | true=>asC l r | false=>false) | _,_=>false)=true:=e
   refine boolF (b:=sEq x y) (fun h=>?_) fun h=>?_
   ·rw [h] at e; exact ft e
   ·rw [h] at e
    cases v <;> first | (exact ft e; done) | skip
    rename_i p _
    have e:(match pC p u with | true=>asC l r | false=>false)=true:=e
    refine boolF (b:=pC p u) (fun h2=>?_) fun h2=>?_
    ·rw [h2] at e; exact ft e
    ·rw [h2] at e
     simp only [List.map_cons,VRas]
     exact ⟨u,_,by rw [aK.mp h],by exact sU K h2,uK e⟩
omit K in
theorem zL:∀ (l:List (Str×Nat×Value)),Pairs (strKind lw.row.prog w) (l.map (wD w.params)) (l.map fun e=>(e.1,e.2.2))
 | []=>.nil
 | e::r=>.cons (beq_self_eq_true e.1) rfl (zL r)
theorem aDm {a d} (e:dicA a=some d):t6 w g a (d.2.map fun e=>(e.1,e.2.2)):=by
 have hn:kZ.all (fun t=>noDup (t.2.2.map (·.1)))=true:=by kernel_rfl
 refine ⟨beq_eq_false_iff_ne.mpr (v5 e).2,vZ w.params d.1 d.2,_,_,K _ _ (fT (aDl w.params) (iS e)),⟨rfl,rfl,rfl⟩,rfl,fun x hx=>?_,?_,?_⟩
 ·rw [List.mem_toArray] at hx
  obtain ⟨y,_,z1⟩:=List.mem_map.mp hx; clear hx; subst z1
  exact ⟨y.1,beq_self_eq_true y.1,rfl⟩
 ·exact zL d.2
 ·rw [List.map_map]; exact lR (mV hn (iS e))
theorem aAO:∀ {v:V} {u:Value},vC v u=true→VR (G0 w) g v u
 | .pv p,u,e=>by exact sU K e
 | .st v,u,e=>by
  cases v <;> first | (exact ft e; done) | skip
  cases u <;> first | (exact ft e; done) | skip
  rw [Nat.eq_of_beq_eq_true e]
 | .vd as,u,e=>by
  cases u <;> first | (exact ft e; done) | skip
  rename_i a
  have e:(match dicA a with | some d=>asC as d.2 | none=>false)=true:=e
  refine optE (o:=dicA a) (fun h=>?_) fun d h=>?_
  ·rw [h] at e; exact ft e
  ·rw [h] at e; exact ⟨a,_,rfl,sR (v5 h).1,aDm K h,uK K e⟩
 | .tup _,_,e=>by exact ft e
 | .vl _,_,e=>by exact ft e
 | .fz _ _,_,e=>by exact ft e
 | .ob _,_,e=>by exact ft e
 | .li _,_,e=>by exact ft e
 | .clo _ _ _ _,_,e=>by exact ft e
theorem aAQ:∀ {l:List V} {us:List Value},vsC l us=true→VRs (G0 w) g l us
 | [],us,e=>by cases us with
  | nil=>exact rfl
  | cons=>exact ft e
 | p::l,us,e=>by
  cases us with
  | nil=>exact ft e
  | cons u r =>
   have e:(match vC p u with | true=>vsC l r | false=>false)=true:=e
   refine boolF (b:=vC p u) (fun h=>?_) fun h=>?_
   ·rw [h] at e; exact ft e
   ·rw [h] at e; exact ⟨u,r,rfl,aAO K h,aAQ e⟩
end
noncomputable def hF (P:Params):List DictEntry:=match (kfrag P).lookup 3 with
 | some o=>(match o.data with
  | .dict es _=>es.toList
  | _=>[])
 | none=>[]
noncomputable def eG (x:Str):List DictEntry→Option Value
 | []=>none
 | e::r=>match e.key with
  | .str n _=>(match sEq n x with
   | true=>some e.val
   | false=>eG x r)
  | _=>eG x r
theorem aDU (x:Str):∀ l:List DictEntry,nsFind l.toArray x=eG x l:=by
 intro l
 unfold nsFind findBy
 rw [List.find?_toArray]
 induction l with
 | nil=>rfl
 | cons e r ih =>
  rw [List.find?_cons]
  show _=(match e.key with | .str n _=>(match sEq n x with | true=>some e.val | false=>eG x r) | _=>eG x r)
  cases h:e.key with
  | str n t =>
   show (match n == x with | true=>some e | false=>_).map _=(match sEq n x with | true=>_ | false=>_)
   cases h2:sEq n x with
   | false =>
    have:(n == x)=false:=beq_eq_false_iff_ne.mpr fun q=>by rw [aK.mpr q] at h2; exact tf h2
    rw [this]; exact ih
   | true=>rw [aK.mp h2,beq_self_eq_true]; rfl
  | _=>exact ih
theorem rF {w:World} {h:Heap} {mg:Str→Option Value} (K:(kfrag w.params).In h) (N:h.Ns mainGlobals mg) (x:Str):mg x=eG x (hF w.params):=by
 obtain ⟨o,es,ep,h1,h2,_,h4⟩:=N
 have hl:(kfrag w.params).lookup 3=some o:=by
  have:∃ o',(kfrag w.params).lookup 3=some o':=⟨_,rfl⟩
  obtain ⟨o',e'⟩:=this
  have:=K _ _ e'
  rw [show (3:Addr)=mainGlobals from rfl,h1] at this
  rw [e',this]
 rw [← h4 x]
 unfold hF
 rw [hl]
 show nsFind es x=eG x (match o.data with | .dict es _=>es.toList | _=>[])
 rw [h2]
 exact aDU x es.toList
noncomputable def lY:Str:=ns [82,69,83,69,82,86,69,68]
theorem aD6 (P:Params):(iO.map fun p=>match eG p.1 (hF P) with | some u=>(match sEq p.1 lY with | true=>true | false=>vC p.2 u) | none=>false)=iO.map fun _=>true:=by
 kernel_rfl
theorem aD8 (P:Params):(look lY iO,eG lY (hF P))=(some (.pv (.str tB)),some (.str tC 1098)):=by kernel_rfl
theorem aCk (P:Params):(g8.map fun p=>(eG p.1 (hF P),bootBuiltins p.1))=g8.map fun p=>(none,match p.2 with | .st u=>some u | _=>none):=by kernel_rfl
theorem aCm:(g8.map fun p=>match p.2 with | .st _=>true | _=>false)=g8.map fun _=>true:=by kernel_rfl
theorem aB2 (P:Params):eG "__builtins__" (hF P)=some (.ref 4):=by kernel_rfl
noncomputable def aE9 (i:FnI):Bool:=match gK i.a with
 | none=>true
 | some (c',P)=>Nat.beq c' i.c && sEq (i.q++".<locals>."++"<lambda>") (fW P)
theorem aFa:((bU.zip eN).map fun p=>aE9 { p.2 with a:=p.1.1 })=(bU.zip eN).map fun _=>true:=by kernel_rfl
noncomputable def dfC (r:List V) (u:Value):Bool:=match u with
 | .none=>(match r with | []=>true | _=>false)
 | .ref t=>(match tupA t with | some us=>vsC r us | none=>false)
 | _=>false
theorem aDk:((bU.zip eN).map fun p=>dfC p.1.2.dflt p.2.d)=(bU.zip eN).map fun _=>true:=by kernel_rfl
noncomputable def gOf (h:Heap):Heap:=hideAll h aS
section
variable {w:World} {h:Heap} {mg mb:Str→Option Value}
theorem rE {b:Addr} {o:Obj} (e:h.get? b=some o) (hb:b ∉ aS):(gOf h).get? b=some o:=hideAll_get aS e hb
theorem wW (K:(kfrag w.params).In h):(kfrag w.params).In (gOf h):=fun a o e=>by
 refine rE (K a o e) fun hb=>?_
 have h1:iR.all (fun a=>!aS.contains a)=true:=by decide +kernel
 have h2:a ∈ iR:=by
  rw [xS w.params]
  generalize kfrag w.params=l at e
  induction l with
  | nil=>exact nx e
  | cons p r ih =>
   obtain ⟨b,q⟩:=p
   rw [List.lookup_cons] at e
   refine boolF (b:=a == b) (fun hb=>?_) fun hb=>?_
   ·rw [hb] at e; exact .tail _ (ih e)
   ·rw [beq_iff_eq.mp hb]; exact .head _
 have:=mV h1 h2
 rw [List.contains_iff_mem.mpr hb] at this; exact ft this
theorem sL {a:Addr} {m:Str→Option Value} (N:h.Ns a m) (ha:a ∉ aS):(gOf h).Ns a m:=let ⟨o,es,ep,e,r⟩:=N; ⟨o,es,ep,rE e ha,r⟩
theorem vP (K:(kfrag w.params).In h) {c:Addr} {q:Str} {t:Nat} (e:oC ((kfrag w.params).lookup c)=some (.str q t)):h.CodeRec (.ref c) q:=by
 obtain ⟨ob,vs,h1,h2,h3⟩:=aFV e
 exact ⟨c,ob,vs,t,rfl,K _ _ h1,h2,h3⟩
theorem vY {r:List V} {u:Value} (K:(kfrag w.params).In h) (e:dfC r u=true):(u = .none∧r=[])∨∃ t us,u = .ref t∧cT h t us∧VRs (G0 w) h r us:=by
 cases u <;> first | (exact ft e; done) | skip
 ·cases r with
  | nil=>exact .inl ⟨rfl,rfl⟩
  | cons=>exact ft e
 ·rename_i t
  have e:(match tupA t with | some us=>vsC r us | none=>false)=true:=e
  refine optE (o:=tupA t) (fun ht=>?_) fun us ht=>?_
  ·rw [ht] at e; exact ft e
  ·rw [ht] at e; exact .inr ⟨t,us,rfl,aAH K ht,aAQ K e⟩
theorem aDZ (K:(kfrag w.params).In h) (a:Nat) (r:fL) (e:aX a bU=some r):jB w h a r:=by
 have hm:=iS e
 rw [← aKm] at hm
 obtain ⟨p,hp,hpe⟩:=List.mem_map.mp hm
 have h1:=fT (aDX w.params) hp
 have h2:=fT aDk hp
 have h3:=fT aFa hp
 have h4:p.2 ∈ eN:=by rw [← aKn]; exact List.mem_map_of_mem hp
 have h5:=fT (aC2 w.params) h4
 clear hp h4; obtain ⟨⟨a',r'⟩,i⟩:=p
 cases hpe
 refine ⟨i.q,i.d,i.pm,i.c,K _ _ h1,vP K h5,vY K h2,fun c' P hl=>?_⟩
 have h3:(match gK a with | none=>true | some (c',P)=>Nat.beq c' i.c && sEq (i.q++".<locals>."++"<lambda>") (fW P))=true:=h3
 rw [hl] at h3
 obtain ⟨x,y⟩:=Bool.and_eq_true_iff.mp h3
 exact ⟨Nat.eq_of_beq_eq_true x,aK.mp y⟩
theorem aGP (K:(kfrag w.params).In h):jB w h 628 rpk :=
 ⟨fB.q,fB.d,fB.pm,fB.c,K _ _ (aGT w.params),vP K (aGV w.params),vY K (by kernel_rfl),fun c' P hl=>by rw [show gK 628=none by kernel_rfl] at hl; exact nx hl⟩
theorem aD7 (K:(kfrag w.params).In h) (N:h.Ns mainGlobals mg) (x:Str) (v:V) (e:look x iO=some v):∃ u,mg x=some u∧VR (G0 w) h v u:=by
 rw [rF K N x]
 have h1:(match eG x (hF w.params) with | some u=>(match sEq x lY with | true=>true | false=>vC v u) | none=>false)=true:=fT (aD6 w.params) (r9 e)
 cases hf:eG x (hF w.params) with
 | none=>rw [hf] at h1; exact ft h1
 | some u =>
  rw [hf] at h1
  refine ⟨u,rfl,?_⟩
  refine boolF (b:=sEq x lY) (fun hr=>?_) fun hr=>?_
  ·rw [hr] at h1; exact aAO K h1
  ·have hx:=aK.mp hr
   clear h1 hr; subst hx
   have h2:=aD8 w.params
   rw [e,hf] at h2
   clear e hf; injection h2 with h3 h4
   cases h3; cases h4
   exact ⟨1098,by rw [aHI]⟩
theorem aCl (K:(kfrag w.params).In h) (N:h.Ns mainGlobals mg) (hb:∀ x:Str,x ≠ "__name__"→mb x=bootBuiltins x) (x:Str) (v:V) (e:look x g8=some v):mg x=none∧∃ u,v = .st u∧mb x=some u:=by
 have hm:=r9 e
 have h1:=fT (aCk w.params) hm
 injection h1 with h1 h2
 have h3:=fT aCm hm
 cases v <;> first | (exact ft h3; done) | skip
 rename_i u
 refine ⟨(rF K N x).trans h1,u,rfl,(hb x fun q=>?_).trans h2⟩
 subst q
 have:bootBuiltins ("__name__" : Str)=some u:=h2
 have h4:look ("__name__" : Str) g8=none:=by kernel_rfl
 rw [h4] at e; exact nx e
theorem aBT (K:(kfrag w.params).In h) (T:h.Ns mainGlobals mg) (Tb:h.Ns builtinsNs mb) (hl:h.NoLimit) (hb:∀ x:Str,x ≠ "__name__"→mb x=bootBuiltins x)
 (bm:∃ bm ob,mg "__builtins__" = some (.ref bm)∧bm ≠ builtinsNs∧h.get? bm=some ob∧ob.cls = .type "module"∧ob.dict=some builtinsNs∧ob.data = .plain):aZ w (gOf h) mg mb:=by
 have K':=wW K
 have off:∀ {a:Addr},aS.contains a=false→a ∉ aS:=fun e q=>by rw [List.contains_iff_mem.mpr q] at e; exact tf e
 have N:=sL T (off (by decide +kernel))
 refine ⟨K',N,sL Tb (off (by decide +kernel)),?_,aD7 K' N,fun x v _ e=>aCl K' N hb x v e,aDZ K',?_,?_⟩
 ·obtain ⟨mc,h1,h2⟩:=hl
  exact ⟨mc,sL h1 (off (by decide +kernel)),h2⟩
 ·obtain ⟨b,ob,h1,h2,h3,h4,h5,h6⟩:=bm
  have hb4:=(rF K T "__builtins__").symm.trans h1
  rw [aB2] at hb4
  injection hb4 with hb4
  injection hb4 with hb4
  subst hb4
  have h3':=rE h3 (off (by decide +kernel))
  exact ⟨⟨4,ob,h1,h2,by decide,by decide,h3',h4,h5,h6⟩,⟨4,ob,h1,h2,by decide,by decide,h3',h4,h5,h6⟩,⟨4,ob,h1,h2,by decide,by decide,h3',h4,h5,h6⟩,⟨4,ob,h1,h2,by decide,by decide,h3',h4,h5,h6⟩⟩
 ·intro c P hm
  simp only [List.mem_cons,Prod.mk.injEq,List.not_mem_nil,or_false] at hm
  rcases hm with ⟨rfl,rfl⟩ | ⟨rfl,rfl⟩ | ⟨rfl,rfl⟩ | ⟨rfl,rfl⟩
  ·exact ⟨_,_,_,_,_,_,_,_,_,K' 42 _ rfl,rfl,rfl,rfl,rfl,rfl,rfl,rfl,rfl,by decide⟩
  ·exact ⟨_,_,_,_,_,_,_,_,_,K' 258 _ rfl,rfl,rfl,rfl,rfl,rfl,rfl,rfl,rfl,by decide⟩
  ·exact ⟨_,_,_,_,_,_,_,_,_,K' 564 _ rfl,rfl,rfl,rfl,rfl,rfl,rfl,rfl,rfl,by decide⟩
  ·exact ⟨_,_,_,_,_,_,_,_,_,K' 893 _ rfl,rfl,rfl,rfl,rfl,rfl,rfl,rfl,rfl,by decide⟩
end
set_option backward.match.sparseCases true in
theorem aHa {args:List WData} (e:lw.row.toRowW.claim.pre args=true):∃ ns:List Int,args=[.list (ns.map .int)]∧ns.length ≤ 63:=by
 obtain ⟨h1,h2⟩:=pre_splitW e; clear e
 obtain ⟨d,r,z1,h3,h4⟩:=hasAllW_cons h1; clear h1; subst z1
 obtain rfl:=hasAllW_nil h4
 obtain ⟨xs,z1,h5⟩:=hasW_list h3; clear h3; subst z1
 obtain ⟨ns,z1⟩:=items_int h5; clear h5; subst z1
 refine ⟨ns,rfl,?_⟩
 have h2:(match (WTm.and (.not (.lt (.lit (.int 63)) (.len (.arg 0)))) (.lit (.bool true))).value [] { args:=[.list (ns.map .int)] } with | some (.bool true)=>true | _=>false)=true:=h2
 have h6:(WTm.and (.not (.lt (.lit (.int 63)) (.len (.arg 0)))) (.lit (.bool true))).value [] { args:=[.list (ns.map .int)] } = some (.bool (!(decide ((63:Int) < ((ns.map WData.int).length:Int))))):=by
  cases hd:decide ((63:Int) < ((ns.map WData.int).length:Int)) <;>
  ·simp only [WTm.value,less?,Num.less?,hd,Option.map,List.getElem?_cons_zero,Bool.not_true,Bool.not_false]
 rw [h6] at h2
 refine boolF (b:=decide ((63:Int) < ((ns.map WData.int).length:Int))) (fun hd=>?_) fun hd=>?_
 ·have:=of_decide_eq_false hd
  rw [List.length_map] at this
  exact Int.ofNat_le.mp (Int.not_lt.mp this)
 ·rw [hd] at h2; exact ft h2
theorem z8 {R:WRecords} {cl:Str→Option Addr} {h:Heap} {G:Gh}:∀ {ns:List Int} {vs:List Value} {as:List Addr},ReadsAllW R cl h vs (ns.map .int) as→PRs G h (ns.map PV.int) vs
 | [],_,_,x=>by cases x; simp only [List.map_nil,PRs]
 | n::ns,_,_,x=>by
  cases x with
  | cons y z =>
   cases y
   simp only [List.map_cons,PRs]
   exact ⟨_,_,rfl,by exact ⟨_,rfl⟩,z8 z⟩
theorem aKj:WalkX q0 jX (XL q0 []) Yf0 Ya0 lw.row.toRowW d0 [] fun f vs=>PySem.call f vs:=by
 intro w s₀ s₁ mg mb G Y a o pm cd doc dV kV ha hd hc hdf hm hgens args vals as L hpre hlay hreads hwell has
 have K0:(kfrag w.params).In s₀.heap:=Frag.in_of (xS w.params) (congrArg Prod.fst Y)
 have K1:=K0.keeps L.keeps
 have htab:∀ P ∈ aS,s₁.heap.get? P=some (tabObj #[]):=fun P hP=>L.keeps _ _ (fT (F:=s₀.heap.get?) (G:=fun _=>some (tabObj #[])) (congrArg (fun x=>x.2.1) Y) hP)
 have B:=aBT (mb:=mb) K1 G.T.g G.T.b G.T.nolimit G.T.builtins G.T.bmain
 clear ha L hlay hwell has; obtain ⟨u,hu1,hu2⟩:=B.gl d0.name (.st (.ref 906)) (by kernel_rfl)
 subst hu2
 rw [hm] at hu1
 clear hm; injection hu1 with hu1
 injection hu1 with hu1
 subst hu1
 obtain ⟨ns,z1,hlen⟩:=aHa hpre; clear hpre; subst z1
 have I:Inv w (gOf s₁.heap) (G0 w) ⟨[],[]⟩ s₁.heap:=by
  refine ⟨rfl,fun b o e=>of_hideAll aS e,fun b hb=>?_,?_,fun b hb=>(by cases hb),rfl,rfl,fun i p c e=>(by simp [G0] at e),fun i p c e=>(by simp [G0] at e),fun P hP=>?_⟩
  ·have hb:b ∈ (([]++[]++[]++aS)++[]:List Addr):=hb
   simp at hb
   exact hideAll_none aS hb
  ·show ((([]++[]++[]++aS)++[]:List Addr)).Nodup
   decide
  ·exact ⟨#[],htab P hP,trivial,fun pos cv e=>by simp [codeAmong] at e⟩
 obtain ⟨u,hv,hl⟩:∃ u,vals=[u]∧VR (G0 w) s₁.heap (scV ns) u:=by
  cases hreads with
  | cons y z =>
   cases z
   cases y with
   | list e1 e2 e3 e4 =>
    refine ⟨_,rfl,?_⟩
    simp only [scV,VR,PR]
    refine ⟨_,_,rfl,sR fun q=>?_,⟨_,e1,e2,_,by rw [e3,Array.toArray_toList]⟩,z8 e4⟩
    have:=htab _ q
    rw [e1] at this
    clear e1 e3; cases this
    cases e2
 subst hv
 obtain ⟨ls,hrun⟩:=aFd hlen
 refine (tO B (aGH B (aGP (wW K1))) 268).call hrun ⟨by decide,by decide,rfl⟩ I (by exact rfl) (by exact ⟨_,_,rfl,hl,rfl⟩) ?_
 intro v s' G' I' S' r' g' o'
 obtain rfl:=r'
 refine ⟨.inl ⟨.bool true,.bool true,[],rfl,fun _=>rfl,.bool true,by kernel_rfl,fun _=>⟨.nil,fun _ h=>by cases h⟩⟩,⟨fun b o e=>?_,fun b o e=>S'.live b o e⟩,o',by rw [g',hgens]; exact .empty⟩
 by_cases hb:b ∈ aS
 ·have e0:=htab b hb
  rw [e] at e0
  clear e; cases e0
  obtain ⟨ps,h1,_⟩:=I'.tabs b hb
  have hcd:∃ c,CodeHd (gOf s₁.heap) c b:=by
   have hb' : b ∈ ([38,254,560,889]:List Nat):=hb
   simp only [List.mem_cons,List.not_mem_nil,or_false] at hb'
   clear hb h1; rcases hb' with rfl | rfl | rfl | rfl
   ·exact ⟨42,B.code _ _ (.head _)⟩
   ·exact ⟨258,B.code _ _ (.tail _ (.head _))⟩
   ·exact ⟨564,B.code _ _ (.tail _ (.tail _ (.head _)))⟩
   ·exact ⟨893,B.code _ _ (.tail _ (.tail _ (.tail _ (.head _))))⟩
  obtain ⟨c,hcd⟩:=hcd
  have hcd:=hcd.keeps (h':=s₁.heap) fun b o e=>of_hideAll aS e
  exact .inr (.inl ⟨(hcd.tab (htab b hb)).isCodeTable,rfl,#[],ps,rfl,by rw [h1]; simp⟩)
 ·refine .inl (S'.keep b o e (fun q=>?_) (fun q=>by cases q))
  have q:b ∈ (([]++[]++[]++aS):List Addr):=q
  simp at q
  exact hb q
theorem law_holds:lw.Holds:=aEf aKj
end
end Mine
theorem PySem.Challenge.cw_pc0159_01_holds : PySem.Challenge.rw_pc0159_01.Holds :=
  Mine.law_holds
