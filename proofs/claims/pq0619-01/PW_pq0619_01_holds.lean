import PyProof.Rows.All
import Wide.All
import OpenK.AllK
import Wide.FinOn
import PyProof.ExcClass3
import PyProof.ExcBaseAll.Exception
import PyProof.StationsW
import KE.KPairComp
import PyProof.Draws
import PyProof.EnumMake
import KE.KTryDeep
import PyProof.ExcArgsOwn
import PyProof.ExcAttrAll.Exception
import PyProof.ListMulAny
import PyProof.ListMulRoad
import KE.KTurns
import KE.KRangeStep
import PySem.Challenge.RW_pq0619_01
set_option Elab.async false
set_option maxRecDepth 100000
set_option maxHeartbeats 0
set_option rowWalk.seconds 0
set_option genInjectivity false
set_option genSizeOfSpec false
set_option linter.all false
namespace Mine
section
open PySem PySem.W PyProof.Rows
abbrev L : OpenLaw := PySem.Challenge.rw_pq0619_01
def lk4 : Look := { strict := false, foot := none, bare := [] }
theorem roadSs_append (k : Look) (a b : List Stmt) : noRoadLSs k (a ++ b) = (noRoadLSs k a && noRoadLSs k b) := by
  induction a with
  | nil => exact (Bool.true_and _).symm
  | cons x r ih =>
    show (noRoadLS k x && noRoadLSs k (r ++ b)) = ((noRoadLS k x && noRoadLSs k r) && noRoadLSs k b)
    rw [ih, Bool.and_assoc]
noncomputable def resC : List Char := [' ', 'A', 'C', 'C', 'E', 'P', 'T', ' ', 'A', 'C', 'C', 'E', 'S', 'S', ' ', 'A', 'D', 'D', ' ', 'A', 'D', 'V', 'A', 'N', 'C', 'I', 'N', 'G', ' ', 'A', 'F', 'T', 'E', 'R', ' ', 'A', 'L', 'L', ' ', 'A', 'L', 'P', 'H', 'A', 'B', 'E', 'T', 'I', 'C', ' ', 'A', 'L', 'P', 'H', 'A', 'B', 'E', 'T', 'I', 'C', '-', 'L', 'O', 'W', 'E', 'R', ' ', 'A', 'L', 'P', 'H', 'A', 'B', 'E', 'T', 'I', 'C', '-', 'U', 'P', 'P', 'E', 'R', ' ', 'A', 'L', 'P', 'H', 'A', 'N', 'U', 'M', 'E', 'R', 'I', 'C', ' ', 'A', 'L', 'P', 'H', 'A', 'N', 'U', 'M', 'E', 'R', 'I', 'C', '-', 'E', 'D', 'I', 'T', 'E', 'D', ' ', 'A', 'L', 'S', 'O', ' ', 'A', 'L', 'T', 'E', 'R', 'N', 'A', 'T', 'E', ' ', 'A', 'N', 'D', ' ', 'A', 'N', 'Y', ' ', 'A', 'R', 'E', ' ', 'A', 'R', 'E', 'A', ' ', 'A', 'R', 'E', 'A', 'S', ' ', 'A', 'S', 'C', 'E', 'N', 'D', 'I', 'N', 'G', ' ', 'A', 'S', 'S', 'I', 'G', 'N', ' ', 'A', 'T', ' ', 'A', 'U', 'T', 'H', 'O', 'R', ' ', 'B', 'E', 'F', 'O', 'R', 'E', ' ', 'B', 'I', 'N', 'A', 'R', 'Y', ' ', 'B', 'L', 'A', 'N', 'K', ' ', 'B', 'L', 'O', 'C', 'K', ' ', 'B', 'Y', ' ', 'C', 'A', 'L', 'L', ' ', 'C', 'H', 'A', 'R', 'A', 'C', 'T', 'E', 'R', ' ', 'C', 'H', 'A', 'R', 'A', 'C', 'T', 'E', 'R', 'S', ' ', 'C', 'L', 'O', 'S', 'E', ' ', 'C', 'O', 'M', 'P', ' ', 'C', 'O', 'M', 'P', '-', '3', ' ', 'C', 'O', 'M', 'P', 'U', 'T', 'A', 'T', 'I', 'O', 'N', 'A', 'L', ' ', 'C', 'O', 'M', 'P', 'U', 'T', 'A', 'T', 'I', 'O', 'N', 'A', 'L', '-', '3', ' ', 'C', 'O', 'M', 'P', 'U', 'T', 'E', ' ', 'C', 'O', 'N', 'F', 'I', 'G', 'U', 'R', 'A', 'T', 'I', 'O', 'N', ' ', 'C', 'O', 'N', 'T', 'A', 'I', 'N', 'S', ' ', 'C', 'O', 'N', 'T', 'E', 'N', 'T', ' ', 'C', 'O', 'N', 'T', 'I', 'N', 'U', 'E', ' ', 'C', 'O', 'N', 'V', 'E', 'R', 'T', 'I', 'N', 'G', ' ', 'C', 'O', 'P', 'Y', ' ', 'C', 'O', 'R', 'R', ' ', 'C', 'O', 'R', 'R', 'E', 'S', 'P', 'O', 'N', 'D', 'I', 'N', 'G', ' ', 'C', 'O', 'U', 'N', 'T', ' ', 'D', 'A', 'T', 'A', ' ', 'D', 'A', 'T', 'E', '-', 'C', 'O', 'M', 'P', 'I', 'L', 'E', 'D', ' ', 'D', 'A', 'T', 'E', '-', 'W', 'R', 'I', 'T', 'T', 'E', 'N', ' ', 'D', 'E', 'L', 'E', 'T', 'E', ' ', 'D', 'E', 'L', 'I', 'M', 'I', 'T', 'E', 'D', ' ', 'D', 'E', 'L', 'I', 'M', 'I', 'T', 'E', 'R', ' ', 'D', 'E', 'P', 'E', 'N', 'D', 'I', 'N', 'G', ' ', 'D', 'E', 'S', 'C', 'E', 'N', 'D', 'I', 'N', 'G', ' ', 'D', 'I', 'S', 'P', 'L', 'A', 'Y', ' ', 'D', 'I', 'V', 'I', 'D', 'E', ' ', 'D', 'I', 'V', 'I', 'S', 'I', 'O', 'N', ' ', 'D', 'O', 'W', 'N', ' ', 'D', 'U', 'P', 'L', 'I', 'C', 'A', 'T', 'E', 'S', ' ', 'D', 'Y', 'N', 'A', 'M', 'I', 'C', ' ', 'E', 'L', 'S', 'E', ' ', 'E', 'N', 'D', ' ', 'E', 'N', 'D', '-', 'A', 'D', 'D', ' ', 'E', 'N', 'D', '-', 'C', 'A', 'L', 'L', ' ', 'E', 'N', 'D', '-', 'C', 'O', 'M', 'P', 'U', 'T', 'E', ' ', 'E', 'N', 'D', '-', 'D', 'E', 'L', 'E', 'T', 'E', ' ', 'E', 'N', 'D', '-', 'D', 'I', 'V', 'I', 'D', 'E', ' ', 'E', 'N', 'D', '-', 'E', 'V', 'A', 'L', 'U', 'A', 'T', 'E', ' ', 'E', 'N', 'D', '-', 'I', 'F', ' ', 'E', 'N', 'D', '-', 'M', 'U', 'L', 'T', 'I', 'P', 'L', 'Y', ' ', 'E', 'N', 'D', '-', 'P', 'E', 'R', 'F', 'O', 'R', 'M', ' ', 'E', 'N', 'D', '-', 'R', 'E', 'A', 'D', ' ', 'E', 'N', 'D', '-', 'R', 'E', 'T', 'U', 'R', 'N', ' ', 'E', 'N', 'D', '-', 'R', 'E', 'W', 'R', 'I', 'T', 'E', ' ', 'E', 'N', 'D', '-', 'S', 'E', 'A', 'R', 'C', 'H', ' ', 'E', 'N', 'D', '-', 'S', 'T', 'A', 'R', 'T', ' ', 'E', 'N', 'D', '-', 'S', 'T', 'R', 'I', 'N', 'G', ' ', 'E', 'N', 'D', '-', 'S', 'U', 'B', 'T', 'R', 'A', 'C', 'T', ' ', 'E', 'N', 'D', '-', 'U', 'N', 'S', 'T', 'R', 'I', 'N', 'G', ' ', 'E', 'N', 'D', '-', 'W', 'R', 'I', 'T', 'E', ' ', 'E', 'N', 'V', 'I', 'R', 'O', 'N', 'M', 'E', 'N', 'T', ' ', 'E', 'Q', 'U', 'A', 'L', ' ', 'E', 'R', 'R', 'O', 'R', ' ', 'E', 'V', 'A', 'L', 'U', 'A', 'T', 'E', ' ', 'E', 'X', 'C', 'E', 'P', 'T', 'I', 'O', 'N', ' ', 'E', 'X', 'I', 'T', ' ', 'E', 'X', 'T', 'E', 'N', 'D', ' ', 'E', 'X', 'T', 'E', 'R', 'N', 'A', 'L', ' ', 'F', 'A', 'L', 'S', 'E', ' ', 'F', 'D', ' ', 'F', 'I', 'L', 'E', ' ', 'F', 'I', 'L', 'E', '-', 'C', 'O', 'N', 'T', 'R', 'O', 'L', ' ', 'F', 'I', 'L', 'L', 'E', 'R', ' ', 'F', 'I', 'R', 'S', 'T', ' ', 'F', 'O', 'R', ' ', 'F', 'R', 'O', 'M', ' ', 'G', 'I', 'V', 'I', 'N', 'G', ' ', 'G', 'L', 'O', 'B', 'A', 'L', ' ', 'G', 'O', ' ', 'G', 'R', 'E', 'A', 'T', 'E', 'R', ' ', 'H', 'I', 'G', 'H', '-', 'V', 'A', 'L', 'U', 'E', ' ', 'H', 'I', 'G', 'H', '-', 'V', 'A', 'L', 'U', 'E', 'S', ' ', 'I', '-', 'O', ' ', 'I', '-', 'O', '-', 'C', 'O', 'N', 'T', 'R', 'O', 'L', ' ', 'I', 'D', 'E', 'N', 'T', 'I', 'F', 'I', 'C', 'A', 'T', 'I', 'O', 'N', ' ', 'I', 'F', ' ', 'I', 'N', ' ', 'I', 'N', 'D', 'E', 'X', ' ', 'I', 'N', 'D', 'E', 'X', 'E', 'D', ' ', 'I', 'N', 'I', 'T', 'I', 'A', 'L', ' ', 'I', 'N', 'I', 'T', 'I', 'A', 'L', 'I', 'Z', 'E', ' ', 'I', 'N', 'P', 'U', 'T', ' ', 'I', 'N', 'P', 'U', 'T', '-', 'O', 'U', 'T', 'P', 'U', 'T', ' ', 'I', 'N', 'S', 'P', 'E', 'C', 'T', ' ', 'I', 'N', 'S', 'T', 'A', 'L', 'L', 'A', 'T', 'I', 'O', 'N', ' ', 'I', 'N', 'T', 'O', ' ', 'I', 'N', 'V', 'A', 'L', 'I', 'D', ' ', 'I', 'S', ' ', 'J', 'U', 'S', 'T', ' ', 'J', 'U', 'S', 'T', 'I', 'F', 'I', 'E', 'D', ' ', 'K', 'E', 'Y', ' ', 'L', 'A', 'B', 'E', 'L', ' ', 'L', 'E', 'A', 'D', 'I', 'N', 'G', ' ', 'L', 'E', 'F', 'T', ' ', 'L', 'E', 'S', 'S', ' ', 'L', 'I', 'N', 'E', ' ', 'L', 'I', 'N', 'E', 'S', ' ', 'L', 'I', 'N', 'K', 'A', 'G', 'E', ' ', 'L', 'O', 'C', 'K', ' ', 'L', 'O', 'W', '-', 'V', 'A', 'L', 'U', 'E', ' ', 'L', 'O', 'W', '-', 'V', 'A', 'L', 'U', 'E', 'S', ' ', 'M', 'E', 'R', 'G', 'E', ' ', 'M', 'O', 'D', 'E', ' ', 'M', 'O', 'V', 'E', ' ', 'M', 'U', 'L', 'T', 'I', 'P', 'L', 'Y', ' ', 'N', 'A', 'T', 'I', 'V', 'E', ' ', 'N', 'E', 'G', 'A', 'T', 'I', 'V', 'E', ' ', 'N', 'E', 'X', 'T', ' ', 'N', 'O', ' ', 'N', 'O', 'T', ' ', 'N', 'U', 'M', 'E', 'R', 'I', 'C', ' ', 'N', 'U', 'M', 'E', 'R', 'I', 'C', '-', 'E', 'D', 'I', 'T', 'E', 'D', ' ', 'O', 'B', 'J', 'E', 'C', 'T', '-', 'C', 'O', 'M', 'P', 'U', 'T', 'E', 'R', ' ', 'O', 'C', 'C', 'U', 'R', 'S', ' ', 'O', 'F', ' ', 'O', 'F', 'F', ' ', 'O', 'M', 'I', 'T', 'T', 'E', 'D', ' ', 'O', 'N', ' ', 'O', 'P', 'E', 'N', ' ', 'O', 'P', 'T', 'I', 'O', 'N', 'A', 'L', ' ', 'O', 'R', ' ', 'O', 'R', 'D', 'E', 'R', ' ', 'O', 'R', 'G', 'A', 'N', 'I', 'Z', 'A', 'T', 'I', 'O', 'N', ' ', 'O', 'T', 'H', 'E', 'R', ' ', 'O', 'U', 'T', 'P', 'U', 'T', ' ', 'O', 'V', 'E', 'R', 'F', 'L', 'O', 'W', ' ', 'P', 'A', 'C', 'K', 'E', 'D', '-', 'D', 'E', 'C', 'I', 'M', 'A', 'L', ' ', 'P', 'E', 'R', 'F', 'O', 'R', 'M', ' ', 'P', 'I', 'C', ' ', 'P', 'I', 'C', 'T', 'U', 'R', 'E', ' ', 'P', 'O', 'I', 'N', 'T', 'E', 'R', ' ', 'P', 'O', 'S', 'I', 'T', 'I', 'V', 'E', ' ', 'P', 'R', 'O', 'C', 'E', 'D', 'U', 'R', 'E', ' ', 'P', 'R', 'O', 'C', 'E', 'E', 'D', ' ', 'P', 'R', 'O', 'G', 'R', 'A', 'M', ' ', 'P', 'R', 'O', 'G', 'R', 'A', 'M', '-', 'I', 'D', ' ', 'Q', 'U', 'O', 'T', 'E', ' ', 'Q', 'U', 'O', 'T', 'E', 'S', ' ', 'R', 'A', 'N', 'D', 'O', 'M', ' ', 'R', 'E', 'A', 'D', ' ', 'R', 'E', 'C', 'O', 'R', 'D', ' ', 'R', 'E', 'C', 'O', 'R', 'D', 'S', ' ', 'R', 'E', 'D', 'E', 'F', 'I', 'N', 'E', 'S', ' ', 'R', 'E', 'F', 'E', 'R', 'E', 'N', 'C', 'E', ' ', 'R', 'E', 'L', 'A', 'T', 'I', 'V', 'E', ' ', 'R', 'E', 'L', 'E', 'A', 'S', 'E', ' ', 'R', 'E', 'M', 'A', 'I', 'N', 'D', 'E', 'R', ' ', 'R', 'E', 'N', 'A', 'M', 'E', 'S', ' ', 'R', 'E', 'P', 'L', 'A', 'C', 'E', ' ', 'R', 'E', 'P', 'L', 'A', 'C', 'I', 'N', 'G', ' ', 'R', 'E', 'T', 'U', 'R', 'N', ' ', 'R', 'E', 'W', 'R', 'I', 'T', 'E', ' ', 'R', 'I', 'G', 'H', 'T', ' ', 'R', 'O', 'U', 'N', 'D', 'E', 'D', ' ', 'R', 'U', 'N', ' ', 'S', 'A', 'M', 'E', ' ', 'S', 'D', ' ', 'S', 'E', 'A', 'R', 'C', 'H', ' ', 'S', 'E', 'C', 'T', 'I', 'O', 'N', ' ', 'S', 'E', 'C', 'U', 'R', 'I', 'T', 'Y', ' ', 'S', 'E', 'L', 'E', 'C', 'T', ' ', 'S', 'E', 'N', 'T', 'E', 'N', 'C', 'E', ' ', 'S', 'E', 'P', 'A', 'R', 'A', 'T', 'E', ' ', 'S', 'E', 'Q', 'U', 'E', 'N', 'T', 'I', 'A', 'L', ' ', 'S', 'E', 'T', ' ', 'S', 'I', 'G', 'N', ' ', 'S', 'I', 'Z', 'E', ' ', 'S', 'O', 'R', 'T', ' ', 'S', 'O', 'R', 'T', '-', 'M', 'E', 'R', 'G', 'E', ' ', 'S', 'O', 'U', 'R', 'C', 'E', '-', 'C', 'O', 'M', 'P', 'U', 'T', 'E', 'R', ' ', 'S', 'P', 'A', 'C', 'E', ' ', 'S', 'P', 'A', 'C', 'E', 'S', ' ', 'S', 'P', 'E', 'C', 'I', 'A', 'L', '-', 'N', 'A', 'M', 'E', 'S', ' ', 'S', 'T', 'A', 'N', 'D', 'A', 'R', 'D', ' ', 'S', 'T', 'A', 'R', 'T', ' ', 'S', 'T', 'A', 'T', 'U', 'S', ' ', 'S', 'T', 'O', 'P', ' ', 'S', 'T', 'R', 'I', 'N', 'G', ' ', 'S', 'U', 'B', 'T', 'R', 'A', 'C', 'T', ' ', 'S', 'Y', 'N', 'C', ' ', 'S', 'Y', 'N', 'C', 'H', 'R', 'O', 'N', 'I', 'Z', 'E', 'D', ' ', 'T', 'A', 'L', 'L', 'Y', 'I', 'N', 'G', ' ', 'T', 'E', 'S', 'T', ' ', 'T', 'H', 'A', 'N', ' ', 'T', 'H', 'E', 'N', ' ', 'T', 'H', 'R', 'O', 'U', 'G', 'H', ' ', 'T', 'H', 'R', 'U', ' ', 'T', 'I', 'M', 'E', 'S', ' ', 'T', 'O', ' ', 'T', 'R', 'A', 'I', 'L', 'I', 'N', 'G', ' ', 'T', 'R', 'U', 'E', ' ', 'U', 'N', 'S', 'T', 'R', 'I', 'N', 'G', ' ', 'U', 'N', 'T', 'I', 'L', ' ', 'U', 'P', ' ', 'U', 'P', 'O', 'N', ' ', 'U', 'S', 'A', 'G', 'E', ' ', 'U', 'S', 'I', 'N', 'G', ' ', 'V', 'A', 'L', 'U', 'E', ' ', 'V', 'A', 'L', 'U', 'E', 'S', ' ', 'V', 'A', 'R', 'Y', 'I', 'N', 'G', ' ', 'W', 'H', 'E', 'N', ' ', 'W', 'I', 'T', 'H', ' ', 'W', 'O', 'R', 'K', 'I', 'N', 'G', '-', 'S', 'T', 'O', 'R', 'A', 'G', 'E', ' ', 'W', 'R', 'I', 'T', 'E', ' ', 'Z', 'E', 'R', 'O', ' ', 'Z', 'E', 'R', 'O', 'E', 'S', ' ', 'Z', 'E', 'R', 'O', 'S', ' ']
set_option maxRecDepth 1000000 in
theorem lit_is : " ACCEPT ACCESS ADD ADVANCING AFTER ALL ALPHABETIC ALPHABETIC-LOWER ALPHABETIC-UPPER ALPHANUMERIC ALPHANUMERIC-EDITED ALSO ALTERNATE AND ANY ARE AREA AREAS ASCENDING ASSIGN AT AUTHOR BEFORE BINARY BLANK BLOCK BY CALL CHARACTER CHARACTERS CLOSE COMP COMP-3 COMPUTATIONAL COMPUTATIONAL-3 COMPUTE CONFIGURATION CONTAINS CONTENT CONTINUE CONVERTING COPY CORR CORRESPONDING COUNT DATA DATE-COMPILED DATE-WRITTEN DELETE DELIMITED DELIMITER DEPENDING DESCENDING DISPLAY DIVIDE DIVISION DOWN DUPLICATES DYNAMIC ELSE END END-ADD END-CALL END-COMPUTE END-DELETE END-DIVIDE END-EVALUATE END-IF END-MULTIPLY END-PERFORM END-READ END-RETURN END-REWRITE END-SEARCH END-START END-STRING END-SUBTRACT END-UNSTRING END-WRITE ENVIRONMENT EQUAL ERROR EVALUATE EXCEPTION EXIT EXTEND EXTERNAL FALSE FD FILE FILE-CONTROL FILLER FIRST FOR FROM GIVING GLOBAL GO GREATER HIGH-VALUE HIGH-VALUES I-O I-O-CONTROL IDENTIFICATION IF IN INDEX INDEXED INITIAL INITIALIZE INPUT INPUT-OUTPUT INSPECT INSTALLATION INTO INVALID IS JUST JUSTIFIED KEY LABEL LEADING LEFT LESS LINE LINES LINKAGE LOCK LOW-VALUE LOW-VALUES MERGE MODE MOVE MULTIPLY NATIVE NEGATIVE NEXT NO NOT NUMERIC NUMERIC-EDITED OBJECT-COMPUTER OCCURS OF OFF OMITTED ON OPEN OPTIONAL OR ORDER ORGANIZATION OTHER OUTPUT OVERFLOW PACKED-DECIMAL PERFORM PIC PICTURE POINTER POSITIVE PROCEDURE PROCEED PROGRAM PROGRAM-ID QUOTE QUOTES RANDOM READ RECORD RECORDS REDEFINES REFERENCE RELATIVE RELEASE REMAINDER RENAMES REPLACE REPLACING RETURN REWRITE RIGHT ROUNDED RUN SAME SD SEARCH SECTION SECURITY SELECT SENTENCE SEPARATE SEQUENTIAL SET SIGN SIZE SORT SORT-MERGE SOURCE-COMPUTER SPACE SPACES SPECIAL-NAMES STANDARD START STATUS STOP STRING SUBTRACT SYNC SYNCHRONIZED TALLYING TEST THAN THEN THROUGH THRU TIMES TO TRAILING TRUE UNSTRING UNTIL UP UPON USAGE USING VALUE VALUES VARYING WHEN WITH WORKING-STORAGE WRITE ZERO ZEROES ZEROS " = String.ofList resC := by kernel_rfl
noncomputable def resL : List Nat := [32, 65, 67, 67, 69, 80, 84, 32, 65, 67, 67, 69, 83, 83, 32, 65, 68, 68, 32, 65, 68, 86, 65, 78, 67, 73, 78, 71, 32, 65, 70, 84, 69, 82, 32, 65, 76, 76, 32, 65, 76, 80, 72, 65, 66, 69, 84, 73, 67, 32, 65, 76, 80, 72, 65, 66, 69, 84, 73, 67, 45, 76, 79, 87, 69, 82, 32, 65, 76, 80, 72, 65, 66, 69, 84, 73, 67, 45, 85, 80, 80, 69, 82, 32, 65, 76, 80, 72, 65, 78, 85, 77, 69, 82, 73, 67, 32, 65, 76, 80, 72, 65, 78, 85, 77, 69, 82, 73, 67, 45, 69, 68, 73, 84, 69, 68, 32, 65, 76, 83, 79, 32, 65, 76, 84, 69, 82, 78, 65, 84, 69, 32, 65, 78, 68, 32, 65, 78, 89, 32, 65, 82, 69, 32, 65, 82, 69, 65, 32, 65, 82, 69, 65, 83, 32, 65, 83, 67, 69, 78, 68, 73, 78, 71, 32, 65, 83, 83, 73, 71, 78, 32, 65, 84, 32, 65, 85, 84, 72, 79, 82, 32, 66, 69, 70, 79, 82, 69, 32, 66, 73, 78, 65, 82, 89, 32, 66, 76, 65, 78, 75, 32, 66, 76, 79, 67, 75, 32, 66, 89, 32, 67, 65, 76, 76, 32, 67, 72, 65, 82, 65, 67, 84, 69, 82, 32, 67, 72, 65, 82, 65, 67, 84, 69, 82, 83, 32, 67, 76, 79, 83, 69, 32, 67, 79, 77, 80, 32, 67, 79, 77, 80, 45, 51, 32, 67, 79, 77, 80, 85, 84, 65, 84, 73, 79, 78, 65, 76, 32, 67, 79, 77, 80, 85, 84, 65, 84, 73, 79, 78, 65, 76, 45, 51, 32, 67, 79, 77, 80, 85, 84, 69, 32, 67, 79, 78, 70, 73, 71, 85, 82, 65, 84, 73, 79, 78, 32, 67, 79, 78, 84, 65, 73, 78, 83, 32, 67, 79, 78, 84, 69, 78, 84, 32, 67, 79, 78, 84, 73, 78, 85, 69, 32, 67, 79, 78, 86, 69, 82, 84, 73, 78, 71, 32, 67, 79, 80, 89, 32, 67, 79, 82, 82, 32, 67, 79, 82, 82, 69, 83, 80, 79, 78, 68, 73, 78, 71, 32, 67, 79, 85, 78, 84, 32, 68, 65, 84, 65, 32, 68, 65, 84, 69, 45, 67, 79, 77, 80, 73, 76, 69, 68, 32, 68, 65, 84, 69, 45, 87, 82, 73, 84, 84, 69, 78, 32, 68, 69, 76, 69, 84, 69, 32, 68, 69, 76, 73, 77, 73, 84, 69, 68, 32, 68, 69, 76, 73, 77, 73, 84, 69, 82, 32, 68, 69, 80, 69, 78, 68, 73, 78, 71, 32, 68, 69, 83, 67, 69, 78, 68, 73, 78, 71, 32, 68, 73, 83, 80, 76, 65, 89, 32, 68, 73, 86, 73, 68, 69, 32, 68, 73, 86, 73, 83, 73, 79, 78, 32, 68, 79, 87, 78, 32, 68, 85, 80, 76, 73, 67, 65, 84, 69, 83, 32, 68, 89, 78, 65, 77, 73, 67, 32, 69, 76, 83, 69, 32, 69, 78, 68, 32, 69, 78, 68, 45, 65, 68, 68, 32, 69, 78, 68, 45, 67, 65, 76, 76, 32, 69, 78, 68, 45, 67, 79, 77, 80, 85, 84, 69, 32, 69, 78, 68, 45, 68, 69, 76, 69, 84, 69, 32, 69, 78, 68, 45, 68, 73, 86, 73, 68, 69, 32, 69, 78, 68, 45, 69, 86, 65, 76, 85, 65, 84, 69, 32, 69, 78, 68, 45, 73, 70, 32, 69, 78, 68, 45, 77, 85, 76, 84, 73, 80, 76, 89, 32, 69, 78, 68, 45, 80, 69, 82, 70, 79, 82, 77, 32, 69, 78, 68, 45, 82, 69, 65, 68, 32, 69, 78, 68, 45, 82, 69, 84, 85, 82, 78, 32, 69, 78, 68, 45, 82, 69, 87, 82, 73, 84, 69, 32, 69, 78, 68, 45, 83, 69, 65, 82, 67, 72, 32, 69, 78, 68, 45, 83, 84, 65, 82, 84, 32, 69, 78, 68, 45, 83, 84, 82, 73, 78, 71, 32, 69, 78, 68, 45, 83, 85, 66, 84, 82, 65, 67, 84, 32, 69, 78, 68, 45, 85, 78, 83, 84, 82, 73, 78, 71, 32, 69, 78, 68, 45, 87, 82, 73, 84, 69, 32, 69, 78, 86, 73, 82, 79, 78, 77, 69, 78, 84, 32, 69, 81, 85, 65, 76, 32, 69, 82, 82, 79, 82, 32, 69, 86, 65, 76, 85, 65, 84, 69, 32, 69, 88, 67, 69, 80, 84, 73, 79, 78, 32, 69, 88, 73, 84, 32, 69, 88, 84, 69, 78, 68, 32, 69, 88, 84, 69, 82, 78, 65, 76, 32, 70, 65, 76, 83, 69, 32, 70, 68, 32, 70, 73, 76, 69, 32, 70, 73, 76, 69, 45, 67, 79, 78, 84, 82, 79, 76, 32, 70, 73, 76, 76, 69, 82, 32, 70, 73, 82, 83, 84, 32, 70, 79, 82, 32, 70, 82, 79, 77, 32, 71, 73, 86, 73, 78, 71, 32, 71, 76, 79, 66, 65, 76, 32, 71, 79, 32, 71, 82, 69, 65, 84, 69, 82, 32, 72, 73, 71, 72, 45, 86, 65, 76, 85, 69, 32, 72, 73, 71, 72, 45, 86, 65, 76, 85, 69, 83, 32, 73, 45, 79, 32, 73, 45, 79, 45, 67, 79, 78, 84, 82, 79, 76, 32, 73, 68, 69, 78, 84, 73, 70, 73, 67, 65, 84, 73, 79, 78, 32, 73, 70, 32, 73, 78, 32, 73, 78, 68, 69, 88, 32, 73, 78, 68, 69, 88, 69, 68, 32, 73, 78, 73, 84, 73, 65, 76, 32, 73, 78, 73, 84, 73, 65, 76, 73, 90, 69, 32, 73, 78, 80, 85, 84, 32, 73, 78, 80, 85, 84, 45, 79, 85, 84, 80, 85, 84, 32, 73, 78, 83, 80, 69, 67, 84, 32, 73, 78, 83, 84, 65, 76, 76, 65, 84, 73, 79, 78, 32, 73, 78, 84, 79, 32, 73, 78, 86, 65, 76, 73, 68, 32, 73, 83, 32, 74, 85, 83, 84, 32, 74, 85, 83, 84, 73, 70, 73, 69, 68, 32, 75, 69, 89, 32, 76, 65, 66, 69, 76, 32, 76, 69, 65, 68, 73, 78, 71, 32, 76, 69, 70, 84, 32, 76, 69, 83, 83, 32, 76, 73, 78, 69, 32, 76, 73, 78, 69, 83, 32, 76, 73, 78, 75, 65, 71, 69, 32, 76, 79, 67, 75, 32, 76, 79, 87, 45, 86, 65, 76, 85, 69, 32, 76, 79, 87, 45, 86, 65, 76, 85, 69, 83, 32, 77, 69, 82, 71, 69, 32, 77, 79, 68, 69, 32, 77, 79, 86, 69, 32, 77, 85, 76, 84, 73, 80, 76, 89, 32, 78, 65, 84, 73, 86, 69, 32, 78, 69, 71, 65, 84, 73, 86, 69, 32, 78, 69, 88, 84, 32, 78, 79, 32, 78, 79, 84, 32, 78, 85, 77, 69, 82, 73, 67, 32, 78, 85, 77, 69, 82, 73, 67, 45, 69, 68, 73, 84, 69, 68, 32, 79, 66, 74, 69, 67, 84, 45, 67, 79, 77, 80, 85, 84, 69, 82, 32, 79, 67, 67, 85, 82, 83, 32, 79, 70, 32, 79, 70, 70, 32, 79, 77, 73, 84, 84, 69, 68, 32, 79, 78, 32, 79, 80, 69, 78, 32, 79, 80, 84, 73, 79, 78, 65, 76, 32, 79, 82, 32, 79, 82, 68, 69, 82, 32, 79, 82, 71, 65, 78, 73, 90, 65, 84, 73, 79, 78, 32, 79, 84, 72, 69, 82, 32, 79, 85, 84, 80, 85, 84, 32, 79, 86, 69, 82, 70, 76, 79, 87, 32, 80, 65, 67, 75, 69, 68, 45, 68, 69, 67, 73, 77, 65, 76, 32, 80, 69, 82, 70, 79, 82, 77, 32, 80, 73, 67, 32, 80, 73, 67, 84, 85, 82, 69, 32, 80, 79, 73, 78, 84, 69, 82, 32, 80, 79, 83, 73, 84, 73, 86, 69, 32, 80, 82, 79, 67, 69, 68, 85, 82, 69, 32, 80, 82, 79, 67, 69, 69, 68, 32, 80, 82, 79, 71, 82, 65, 77, 32, 80, 82, 79, 71, 82, 65, 77, 45, 73, 68, 32, 81, 85, 79, 84, 69, 32, 81, 85, 79, 84, 69, 83, 32, 82, 65, 78, 68, 79, 77, 32, 82, 69, 65, 68, 32, 82, 69, 67, 79, 82, 68, 32, 82, 69, 67, 79, 82, 68, 83, 32, 82, 69, 68, 69, 70, 73, 78, 69, 83, 32, 82, 69, 70, 69, 82, 69, 78, 67, 69, 32, 82, 69, 76, 65, 84, 73, 86, 69, 32, 82, 69, 76, 69, 65, 83, 69, 32, 82, 69, 77, 65, 73, 78, 68, 69, 82, 32, 82, 69, 78, 65, 77, 69, 83, 32, 82, 69, 80, 76, 65, 67, 69, 32, 82, 69, 80, 76, 65, 67, 73, 78, 71, 32, 82, 69, 84, 85, 82, 78, 32, 82, 69, 87, 82, 73, 84, 69, 32, 82, 73, 71, 72, 84, 32, 82, 79, 85, 78, 68, 69, 68, 32, 82, 85, 78, 32, 83, 65, 77, 69, 32, 83, 68, 32, 83, 69, 65, 82, 67, 72, 32, 83, 69, 67, 84, 73, 79, 78, 32, 83, 69, 67, 85, 82, 73, 84, 89, 32, 83, 69, 76, 69, 67, 84, 32, 83, 69, 78, 84, 69, 78, 67, 69, 32, 83, 69, 80, 65, 82, 65, 84, 69, 32, 83, 69, 81, 85, 69, 78, 84, 73, 65, 76, 32, 83, 69, 84, 32, 83, 73, 71, 78, 32, 83, 73, 90, 69, 32, 83, 79, 82, 84, 32, 83, 79, 82, 84, 45, 77, 69, 82, 71, 69, 32, 83, 79, 85, 82, 67, 69, 45, 67, 79, 77, 80, 85, 84, 69, 82, 32, 83, 80, 65, 67, 69, 32, 83, 80, 65, 67, 69, 83, 32, 83, 80, 69, 67, 73, 65, 76, 45, 78, 65, 77, 69, 83, 32, 83, 84, 65, 78, 68, 65, 82, 68, 32, 83, 84, 65, 82, 84, 32, 83, 84, 65, 84, 85, 83, 32, 83, 84, 79, 80, 32, 83, 84, 82, 73, 78, 71, 32, 83, 85, 66, 84, 82, 65, 67, 84, 32, 83, 89, 78, 67, 32, 83, 89, 78, 67, 72, 82, 79, 78, 73, 90, 69, 68, 32, 84, 65, 76, 76, 89, 73, 78, 71, 32, 84, 69, 83, 84, 32, 84, 72, 65, 78, 32, 84, 72, 69, 78, 32, 84, 72, 82, 79, 85, 71, 72, 32, 84, 72, 82, 85, 32, 84, 73, 77, 69, 83, 32, 84, 79, 32, 84, 82, 65, 73, 76, 73, 78, 71, 32, 84, 82, 85, 69, 32, 85, 78, 83, 84, 82, 73, 78, 71, 32, 85, 78, 84, 73, 76, 32, 85, 80, 32, 85, 80, 79, 78, 32, 85, 83, 65, 71, 69, 32, 85, 83, 73, 78, 71, 32, 86, 65, 76, 85, 69, 32, 86, 65, 76, 85, 69, 83, 32, 86, 65, 82, 89, 73, 78, 71, 32, 87, 72, 69, 78, 32, 87, 73, 84, 72, 32, 87, 79, 82, 75, 73, 78, 71, 45, 83, 84, 79, 82, 65, 71, 69, 32, 87, 82, 73, 84, 69, 32, 90, 69, 82, 79, 32, 90, 69, 82, 79, 69, 83, 32, 90, 69, 82, 79, 83, 32]
noncomputable def resS : Str := ⟨⟨resL⟩⟩
theorem resL_is : resC.map Char.toNat = resL := by kernel_rfl
theorem res_is : Str.ofString " ACCEPT ACCESS ADD ADVANCING AFTER ALL ALPHABETIC ALPHABETIC-LOWER ALPHABETIC-UPPER ALPHANUMERIC ALPHANUMERIC-EDITED ALSO ALTERNATE AND ANY ARE AREA AREAS ASCENDING ASSIGN AT AUTHOR BEFORE BINARY BLANK BLOCK BY CALL CHARACTER CHARACTERS CLOSE COMP COMP-3 COMPUTATIONAL COMPUTATIONAL-3 COMPUTE CONFIGURATION CONTAINS CONTENT CONTINUE CONVERTING COPY CORR CORRESPONDING COUNT DATA DATE-COMPILED DATE-WRITTEN DELETE DELIMITED DELIMITER DEPENDING DESCENDING DISPLAY DIVIDE DIVISION DOWN DUPLICATES DYNAMIC ELSE END END-ADD END-CALL END-COMPUTE END-DELETE END-DIVIDE END-EVALUATE END-IF END-MULTIPLY END-PERFORM END-READ END-RETURN END-REWRITE END-SEARCH END-START END-STRING END-SUBTRACT END-UNSTRING END-WRITE ENVIRONMENT EQUAL ERROR EVALUATE EXCEPTION EXIT EXTEND EXTERNAL FALSE FD FILE FILE-CONTROL FILLER FIRST FOR FROM GIVING GLOBAL GO GREATER HIGH-VALUE HIGH-VALUES I-O I-O-CONTROL IDENTIFICATION IF IN INDEX INDEXED INITIAL INITIALIZE INPUT INPUT-OUTPUT INSPECT INSTALLATION INTO INVALID IS JUST JUSTIFIED KEY LABEL LEADING LEFT LESS LINE LINES LINKAGE LOCK LOW-VALUE LOW-VALUES MERGE MODE MOVE MULTIPLY NATIVE NEGATIVE NEXT NO NOT NUMERIC NUMERIC-EDITED OBJECT-COMPUTER OCCURS OF OFF OMITTED ON OPEN OPTIONAL OR ORDER ORGANIZATION OTHER OUTPUT OVERFLOW PACKED-DECIMAL PERFORM PIC PICTURE POINTER POSITIVE PROCEDURE PROCEED PROGRAM PROGRAM-ID QUOTE QUOTES RANDOM READ RECORD RECORDS REDEFINES REFERENCE RELATIVE RELEASE REMAINDER RENAMES REPLACE REPLACING RETURN REWRITE RIGHT ROUNDED RUN SAME SD SEARCH SECTION SECURITY SELECT SENTENCE SEPARATE SEQUENTIAL SET SIGN SIZE SORT SORT-MERGE SOURCE-COMPUTER SPACE SPACES SPECIAL-NAMES STANDARD START STATUS STOP STRING SUBTRACT SYNC SYNCHRONIZED TALLYING TEST THAN THEN THROUGH THRU TIMES TO TRAILING TRUE UNSTRING UNTIL UP UPON USAGE USING VALUE VALUES VARYING WHEN WITH WORKING-STORAGE WRITE ZERO ZEROES ZEROS " = resS := by
  rw [lit_is]; exact (Fast.ofString_ofList resC).trans (congrArg (fun l : List Nat => (⟨⟨l⟩⟩ : Str)) resL_is)
theorem frame_first : frameAttrs.all (fun y => y.cps.toList.head? != some 32) = true := by decide +kernel
theorem res_no {y : Str} (h : (y.cps.toList.head? != some 32) = true) : resS ≠ y := by
  rintro rfl
  revert h
  decide +kernel
theorem res_frame : frameAttrs.contains resS = false := by
  rw [Bool.eq_false_iff]
  intro h
  exact res_no (List.all_eq_true.mp frame_first _ (List.contains_iff_mem.mp h)) rfl
theorem res_opens : resS.opensWith "__" = false := by decide +kernel
theorem res_road : roadStr resS = false := by
  show roadStr ⟨resL.toArray⟩ = false
  unfold roadStr
  simp only [List.any_toArray]
  kernel_rfl
theorem res_str : lk4.str resS = true := by
  have h1 : lk4.word resS = true := by
    simp only [Look.word, attrL, res_frame, res_opens, lk4]
    rfl
  simp only [Look.str, h1, res_road, Bool.or_true, Bool.not_false, Bool.true_or, Bool.and_true]
theorem stmt_is : L.row.prog.main.body.drop 47 = (Stmt.Assign [Expr.Name "RESERVED" ⟨216, 0, 216, 8⟩] (Expr.Constant (Const.str resS) 0 ⟨216, 11, 216, 1873⟩) ⟨216, 0, 216, 1873⟩) :: L.row.prog.main.body.drop 48 := by
  rw [← res_is]
  kernel_rfl
theorem stmt_ok : noRoadLS lk4 (Stmt.Assign [Expr.Name "RESERVED" ⟨216, 0, 216, 8⟩] (Expr.Constant (Const.str resS) 0 ⟨216, 11, 216, 1873⟩) ⟨216, 0, 216, 1873⟩) = true := by
  show (lk4.stores [Expr.Name "RESERVED" ⟨216, 0, 216, 8⟩] && noRoadLs lk4 [Expr.Name "RESERVED" ⟨216, 0, 216, 8⟩] && lk4.str resS) = true
  rw [res_str]
  decide +kernel
theorem pre_ok : noRoadLSs lk4 (L.row.prog.main.body.take 47) = true := by kernel_rfl
theorem post_ok : noRoadLSs lk4 (L.row.prog.main.body.drop 48) = true := by kernel_rfl
theorem body_ok : noRoadLSs lk4 L.row.prog.main.body = true := by
  rw [← List.take_append_drop 47 L.row.prog.main.body, roadSs_append, pre_ok, stmt_is, Bool.true_and]
  show (noRoadLS _ _ && noRoadLSs _ _) = true
  rw [stmt_ok, post_ok]; rfl
theorem strict_no : (!(importedModules L.row.prog.main.body).all cThrough.contains) = false := by
  have h : (importedModules L.row.prog.main.body).all cThrough.contains = true := by kernel_rfl
  rw [h]; rfl
theorem bare_no : (["vars", "dir", "locals"] : List Str).filter (readsOut L.row.prog L.row.prog.main.body) = [] := by
  have h : (["vars", "dir", "locals"] : List Str).all (fun n => !readsOut L.row.prog L.row.prog.main.body n) = true := by kernel_rfl
  rw [List.filter_eq_nil_iff]
  intro a ha
  have := List.all_eq_true.mp h a ha
  simpa using this
theorem lk_is : ({ strict := !(importedModules L.row.prog.main.body).all cThrough.contains, foot := none, bare := (["vars", "dir", "locals"] : List Str).filter (readsOut L.row.prog L.row.prog.main.body) } : Look) = lk4 := by
  rw [strict_no, bare_no]; rfl
theorem leaf4 : noRoadLSs { strict := !(importedModules L.row.prog.main.body).all cThrough.contains, foot := none, bare := (["vars", "dir", "locals"] : List Str).filter (readsOut L.row.prog L.row.prog.main.body) } L.row.prog.main.body = true :=
  (congrArg (fun k => noRoadLSs k L.row.prog.main.body) lk_is).trans body_ok
set_option maxRecDepth 100000 in
theorem said : L.wellSaid = true := by
  unfold OpenLaw.wellSaid OpenRow.wellSaid OpenRow.partSaid looksOpen
  repeat' (with_reducible refine look_both ?_ ?_)
  all_goals first | (with_reducible exact leaf4) | kernel_rfl
end
section
open PySem PySem.W PyProof.Rows
abbrev P0 := PySem.Challenge.pw_pq0619_01
abbrev R0 : RowW := OpenRow.toRowW (OpenLaw.row PySem.Challenge.rw_pq0619_01)
def viewQ : Program := view P0 [0, 2, 3, 4, 6, 7, 9, 10, 11, 12, 13, 14, 16, 17, 18, 19, 20, 21, 22, 23, 24, 26, 27, 28, 29, 30, 31, 32, 33, 34, 36, 37, 38, 39, 41, 42, 43, 44, 46, 48, 49, 50, 52, 54, 55, 56, 57, 58, 59, 60, 61, 62, 63]
abbrev looseQ : List PySem.Str := ["LedgerError", "decimal", "FIGURE_NAMES", "RESERVED", "Token"]
theorem boot0 : ∀ w : World, (fencedOpening treeTable P0 w 7090).map (fun s => (s.heap, s.gens, s.drawn, s.toks)) = some (boot_heap w.params, Array.mk [], boot_drawn, boot_toks) :=
  boot_open (by kernel_rfl) (by decide) (fun s => by kernel_rfl)
theorem left_of {p q : Program} {loose : List PySem.Str} {Xt : Shared → Bool} {α : Type} {Yf : Shared → α} {Ya : World → α} {N : Nat} {g0 : Bool}
    (bo : ∀ w : World, (fencedOpening treeTable p w N).map (fun s => (s.heap, s.gens, s.drawn, s.toks)) = some (boot_heap w.params, Array.mk [], boot_drawn, boot_toks))
    (h : ∀ (w : World), (fun os => (topFrom treeTable p w N ⟨boot_heap w.params, Array.mk [], boot_drawn, boot_toks, os⟩).map (fun s => (openSeen q loose (importedModules p.main.body) Xt g0 s, Yf s))) = fun _ => some (openGood q loose, Ya w)) :
    LeftO p q loose Xt Yf Ya N g0 := fun w => by
  obtain ⟨⟨h1, gs, d, k, os⟩, e, e'⟩ := Option.map_eq_some_iff.mp (bo w)
  obtain ⟨rfl, rfl, rfl, rfl⟩ : h1 = boot_heap w.params ∧ gs = Array.mk [] ∧ d = boot_drawn ∧ k = boot_toks := by simpa using e'
  unfold openEnds
  rw [e]
  exact congrFun (h w) os
theorem keepK {r : OpenRow} (_K : Params → Frag) (_hw : r.toRowW.promised) (h : r.Holds) : r.Holds := h
section
local macro_rules | `(tactic| o_law) => `(tactic| refine holds_law said fun said => ?_)
local macro_rules | `(tactic| o_head ($_ $k $_ $_ $_)) => `(tactic| refine keepK $k ?hw ?hc)
open_top hd0 for PySem.Challenge.rw_pq0619_01
end
section
local macro_rules | `(tactic| o_law) => `(tactic| refine holds_law said fun said => ?_)
local macro_rules | `(tactic| k_head) => `(tactic| x_head)
local macro_rules | `(tactic| o_head ($_ $k $_ $_)) => `(tactic| refine keepK $k ?hw ?hc)
open_top hx for PySem.Challenge.rw_pq0619_01
end
def asQ : List Addr := [2, 3, 15, 17, 18, 20, 21, 22, 29, 30, 31, 33, 34, 36, 37, 38, 40, 41, 43, 44, 45, 46, 47, 48, 51, 58, 59, 60, 63, 70, 71, 72, 75, 77, 78, 80, 81, 82, 83, 85, 86, 88, 89, 90, 92, 93, 95, 96, 97, 99, 100, 102, 103, 104, 106, 107, 109, 110, 111, 113, 114, 116, 117, 118, 120, 121, 123, 124, 125, 127, 128, 130, 131, 132, 133, 135, 136, 138, 139, 140, 142, 143, 145, 146, 147, 149, 150, 152, 153, 154, 156, 157, 159, 160, 161, 163, 164, 166, 167, 168, 170, 171, 173, 174, 175, 177, 178, 180, 181, 182, 184, 185, 187, 188, 189, 191, 192, 194, 195, 196, 198, 199, 201, 202, 203, 205, 206, 208, 209, 210, 212, 213, 215, 216, 217, 219, 220, 222, 223, 224, 226, 227, 229, 230, 231, 233, 234, 236, 237, 238, 240, 241, 243, 244, 245, 247, 248, 250, 251, 252, 254, 255, 257, 258, 259, 261, 262, 264, 265, 266, 268, 269, 271, 272, 273, 275, 276, 278, 279, 280, 283, 284, 285, 287, 288, 290, 291, 292, 295, 296, 304, 305, 307, 308, 310, 311, 312, 313, 315, 316, 318, 319, 320, 322, 323, 325, 326, 327, 329, 330, 332, 333, 334, 336, 337, 339, 340, 341, 342, 344, 345, 347, 348, 349, 351, 352, 354, 355, 356, 358, 359, 361, 362, 363, 365, 366, 368, 369, 370, 372, 373, 375, 376, 377, 379, 380, 382, 383, 384, 385, 387, 388, 390, 391, 392, 394, 395, 397, 398, 399, 401, 402, 404, 405, 406, 407, 409, 410, 412, 413, 414, 416, 417, 419, 420, 421, 423, 424, 426, 427, 428, 430, 431, 433, 434, 435, 437, 438, 440, 441, 442, 444, 445, 447, 448, 449, 451, 452, 454, 455, 456, 458, 459, 461, 462, 463, 464, 465, 466, 467, 477, 478, 479, 481, 482, 484, 485, 486, 488, 489, 491, 492, 493, 494, 495, 496, 497, 500, 503, 504, 505, 507, 508, 510, 511, 512, 514, 515, 517, 518, 519, 522, 523, 524, 527, 528, 529, 531, 532, 534, 535, 536, 538, 539, 541, 542, 543, 545, 546, 548, 549, 550, 552, 553, 555, 556, 557, 560, 561]
theorem asE : ∀ P, asQ = (hd0.heap_1 P).map (·.1) := fun _ => by kernel_rfl
noncomputable abbrev HK : Hook := kmHook hd0.heap_1 asQ asE [232]
abbrev XtQ : Shared → Bool := fun s => xlAt viewQ [] s && recOk (RowW.records R0) s
noncomputable def gapR (u : Nat → Obj) (rest : List Obj) (k : Nat) : Nat → List Obj := @Nat.rec (fun _ => Nat → List Obj) (fun _ => rest) (fun _ ih i => u i :: ih (Nat.succ i)) k
noncomputable def fillR (u : Nat → Obj) (X : Frag) : Nat → List Obj := @List.rec (Addr × Obj) (fun _ => Nat → List Obj) (fun _ => []) (fun q _ ih i => gapR u (q.2 :: ih (Nat.succ q.1)) (Nat.sub q.1 i) i) X
noncomputable def okA : List Nat → Nat → Nat → Bool
  | [], i, n => i == n
  | a :: as, i, n => Nat.ble i a && okA as (a + 1) n
theorem okA_le : ∀ {as : List Nat} {i n : Nat}, okA as i n = true → i ≤ n
  | [], i, n, h => by
    have : i = n := by simpa [okA] using h
    omega
  | a :: as, i, n, h => by
    simp only [okA, Bool.and_eq_true] at h
    have := okA_le h.2
    have := Nat.le_of_ble_eq_true h.1
    omega
theorem okA_lt : ∀ {as : List Nat} {i n : Nat}, okA as i n = true → ∀ a ∈ as, a < n
  | a :: as, i, n, h, b, hb => by
    simp only [okA, Bool.and_eq_true] at h
    rcases List.mem_cons.mp hb with rfl | hb
    · have := okA_le h.2; omega
    · exact okA_lt h.2 b hb
theorem gapR_of {l rest : List Obj} : ∀ (k i : Nat), i + k ≤ l.length → rest = l.drop (i + k) → gapR (fun i => (l[i]?).getD default) rest k i = l.drop i
  | 0, i, _, hr => by
    show rest = _
    rw [hr, Nat.add_zero]
  | k + 1, i, h, hr => by
    show (l[i]?).getD default :: gapR (fun i => (l[i]?).getD default) rest k (i + 1) = _
    rw [gapR_of k (i + 1) (by omega) (by rw [hr]; congr 1; omega), List.drop_eq_getElem_cons (show i < l.length by omega), List.getElem?_eq_getElem (by omega), Option.getD_some]
theorem fillR_of {l : List Obj} : ∀ (X : Frag) (i : Nat), okA (X.map (·.1)) i l.length = true → (∀ q ∈ X, l[q.1]? = some q.2) → fillR (fun i => (l[i]?).getD default) X i = l.drop i
  | [], i, h, _ => by
    have : i = l.length := by simpa [okA] using h
    show [] = _
    rw [this, List.drop_length]
  | (a, o) :: X, i, h, hX => by
    have h' : (Nat.ble i a && okA (X.map (·.1)) (a + 1) l.length) = true := h
    simp only [Bool.and_eq_true] at h'
    have h1 := Nat.le_of_ble_eq_true h'.1
    have h2 := okA_le h'.2
    have ha : l[a]? = some o := hX _ (.head _)
    obtain ⟨hl, e⟩ := List.getElem?_eq_some_iff.mp ha
    show gapR (fun i => (l[i]?).getD default) (o :: fillR (fun i => (l[i]?).getD default) X (a + 1)) (a - i) i = _
    refine gapR_of (a - i) i (by omega) ?_
    rw [fillR_of X (a + 1) h'.2 (fun q hq => hX q (.tail _ hq)), show i + (a - i) = a by omega, List.drop_eq_getElem_cons hl, e]
noncomputable def runG (stp : SharedT → Thread → Option (SharedT × Thread)) (ok : Thread → Bool) : Nat → SharedT → Thread → Option SharedT
  | 0, _, _ => none
  | n + 1, s, t => match through t with
    | true => some s
    | false => match ok t with
      | false => none
      | true => match stp s t with
        | some (s', t') => runG stp ok n s' t'
        | none => none
theorem runG_of {tb : String → Option Builtin} {p : Program} {w : World} {n₀ : Nat} {ann : Option Value} : ∀ {n : Nat} {s s' : SharedT} {t : Thread}, runG (stepT (denote tb) p w) (stepOk n₀ ann) n s t = some s' → topRun tb p w n₀ ann n s.abs t = some s'.abs
  | 0, _, _, _, h => by cases h
  | n + 1, s, s', t, h => by
    unfold runG at h
    unfold topRun
    cases he : through t with
    | true => rw [he] at h; cases h; rfl
    | false =>
      rw [he] at h
      cases hk : stepOk n₀ ann t with
      | false => rw [hk] at h; cases h
      | true =>
        rw [hk] at h
        cases hs : stepT (denote tb) p w s t with
        | none => rw [hs] at h; cases h
        | some r => obtain ⟨s₂, t₂⟩ := r; rw [hs] at h; rw [stepT_spec hs]; exact runG_of h
noncomputable def toT (l : List Obj) : Nat → BT → BT := match l with
  | [] => fun _ t => t
  | o :: l => fun i t => toT l (i + 1) (t.ins i o)
noncomputable def t0 (P : Params) : BT := toT (boot_heap P).objs.toList 0 .nil
theorem boot_abs (P : Params) : absHeap (t0 P) 11 (boot_heap P).life = boot_heap P := by kernel_rfl
theorem boot_size (P : Params) : (boot_heap P).objs.size = 11 := by kernel_rfl
theorem boot_ok (P : Params) : ((boot_heap P).isNs mainGlobals && (Array.mk [] : Array GenState).size == 0) = true := by kernel_rfl
def axQ : List Addr := [0, 1, 2, 3, 4, 5, 6, 7, 8, 9, 10, 11, 12, 13, 14, 15, 16, 17, 18, 19, 20, 21, 22, 29, 30, 31, 32, 33, 34, 35, 36, 37, 38, 39, 40, 41, 42, 43, 44, 45, 46, 47, 48, 51, 58, 59, 60, 63, 70, 71, 72, 75, 76, 77, 78, 79, 80, 81, 82, 83, 84, 85, 86, 87, 88, 89, 90, 91, 92, 93, 94, 95, 96, 97, 98, 99, 100, 101, 102, 103, 104, 105, 106, 107, 108, 109, 110, 111, 112, 113, 114, 115, 116, 117, 118, 119, 120, 121, 122, 123, 124, 125, 126, 127, 128, 129, 130, 131, 132, 133, 134, 135, 136, 137, 138, 139, 140, 141, 142, 143, 144, 145, 146, 147, 148, 149, 150, 151, 152, 153, 154, 155, 156, 157, 158, 159, 160, 161, 162, 163, 164, 165, 166, 167, 168, 169, 170, 171, 172, 173, 174, 175, 176, 177, 178, 179, 180, 181, 182, 183, 184, 185, 186, 187, 188, 189, 190, 191, 192, 193, 194, 195, 196, 197, 198, 199, 200, 201, 202, 203, 204, 205, 206, 207, 208, 209, 210, 211, 212, 213, 214, 215, 216, 217, 218, 219, 220, 221, 222, 223, 224, 225, 226, 227, 228, 229, 230, 231, 232, 233, 234, 235, 236, 237, 238, 239, 240, 241, 242, 243, 244, 245, 246, 247, 248, 249, 250, 251, 252, 253, 254, 255, 256, 257, 258, 259, 260, 261, 262, 263, 264, 265, 266, 267, 268, 269, 270, 271, 272, 273, 274, 275, 276, 277, 278, 279, 280, 281, 282, 283, 284, 285, 286, 287, 288, 289, 290, 291, 292, 293, 294, 295, 296, 304, 305, 306, 307, 308, 309, 310, 311, 312, 313, 314, 315, 316, 317, 318, 319, 320, 321, 322, 323, 324, 325, 326, 327, 328, 329, 330, 331, 332, 333, 334, 335, 336, 337, 338, 339, 340, 341, 342, 343, 344, 345, 346, 347, 348, 349, 350, 351, 352, 353, 354, 355, 356, 357, 358, 359, 360, 361, 362, 363, 364, 365, 366, 367, 368, 369, 370, 371, 372, 373, 374, 375, 376, 377, 378, 379, 380, 381, 382, 383, 384, 385, 386, 387, 388, 389, 390, 391, 392, 393, 394, 395, 396, 397, 398, 399, 400, 401, 402, 403, 404, 405, 406, 407, 408, 409, 410, 411, 412, 413, 414, 415, 416, 417, 418, 419, 420, 421, 422, 423, 424, 425, 426, 427, 428, 429, 430, 431, 432, 433, 434, 435, 436, 437, 438, 439, 440, 441, 442, 443, 444, 445, 446, 447, 448, 449, 450, 451, 452, 453, 454, 455, 456, 457, 458, 459, 460, 461, 462, 463, 464, 465, 466, 467, 477, 478, 479, 480, 481, 482, 483, 484, 485, 486, 487, 488, 489, 490, 491, 492, 493, 494, 495, 496, 497, 500, 501, 502, 503, 504, 505, 506, 507, 508, 509, 510, 511, 512, 513, 514, 515, 516, 517, 518, 519, 520, 521, 522, 523, 524, 525, 526, 527, 528, 529, 530, 531, 532, 533, 534, 535, 536, 537, 538, 539, 540, 541, 542, 543, 544, 545, 546, 547, 548, 549, 550, 551, 552, 553, 554, 555, 556, 557, 558, 559, 560, 561]
theorem axE : ∀ P, axQ = (hx.heap_1 P).map (·.1) := fun _ => by kernel_rfl
theorem axOk : okA axQ 0 562 = true := by decide +kernel
noncomputable abbrev annQ (w : World) : Option Value := (boot_heap w.params).nsMap mainGlobals "__annotations__"
noncomputable abbrev sT0 (w : World) (os : OsState) : SharedT := ⟨t0 w.params, 11, (boot_heap w.params).life, Array.mk [], boot_drawn, boot_toks, os⟩
def brR (w : World) : Prop := (fun os => (runG (stepT (denote treeTable) P0 w) (stepOk 11 (annQ w)) 7090 (sT0 w os) (topStub P0)).map (fun s => (axQ.map s.tree.get, s.n, s.gens))) = fun _ => some ((hx.heap_1 w.params).map (fun p => some p.2), 562, Array.mk [])
theorem brRF : ∀ w : World, brR (w.withFollow "special-get-raises" false) := by
  intro w
  unfold brR
  rw [PySem.W.Fast.te10156331382660048174, PySem.W.Fast.te11892475500146522536, PySem.W.Fast.te6613529449190102663, PySem.W.Fast.te14364793385576792824]
  kernel_rfl
theorem brRT : ∀ w : World, brR (w.withFollow "special-get-raises" true) := by
  intro w
  unfold brR
  rw [PySem.W.Fast.te10156331382660048174, PySem.W.Fast.te11892475500146522536, PySem.W.Fast.te6613529449190102663, PySem.W.Fast.te14364793385576792824]
  kernel_rfl
noncomputable abbrev runQ (w : World) (os : OsState) : Option Shared := topFrom treeTable P0 w 7090 ⟨boot_heap w.params, Array.mk [], boot_drawn, boot_toks, os⟩
noncomputable abbrev seenQ (s : Shared) := openSeen viewQ looseQ (importedModules P0.main.body) XtQ true s
abbrev goodQ := openGood viewQ looseQ
noncomputable abbrev hX (w : World) (u : Nat → Obj) (life : Life) : Heap := ⟨⟨fillR u (hx.heap_1 w.params) 0⟩, life⟩
noncomputable abbrev sX (w : World) (u : Nat → Obj) (life : Life) (drawn : Drawn) (toks : Nat) (os : OsState) : Shared := ⟨hX w u life, Array.mk [], drawn, toks, os⟩
section
variable (w : World) (u : Nat → Obj) (life : Life) (drawn : Drawn) (toks : Nat) (os : OsState)
theorem lkS : (staticsOk (importedModules P0.main.body) (boot_heap w.params) (hX w u life) && namesBound P0 (hX w u life) && gensDone (sX w u life drawn toks os) && laidKept (boot_heap w.params) (hX w u life)) = true := by kernel_rfl
theorem lkA : ((seenQ (sX w u life drawn toks os)).1, (seenQ (sX w u life drawn toks os)).2.1, (seenQ (sX w u life drawn toks os)).2.2.1) = (goodQ.1, goodQ.2.1, goodQ.2.2.1) := by kernel_rfl
theorem lkB : ((seenQ (sX w u life drawn toks os)).2.2.2.1, (seenQ (sX w u life drawn toks os)).2.2.2.2.1, (seenQ (sX w u life drawn toks os)).2.2.2.2.2.1) = (goodQ.2.2.2.1, goodQ.2.2.2.2.1, goodQ.2.2.2.2.2.1) := by kernel_rfl
theorem lkC : ((seenQ (sX w u life drawn toks os)).2.2.2.2.2.2.1, (seenQ (sX w u life drawn toks os)).2.2.2.2.2.2.2.1, (seenQ (sX w u life drawn toks os)).2.2.2.2.2.2.2.2) = (goodQ.2.2.2.2.2.2.1, goodQ.2.2.2.2.2.2.2.1, goodQ.2.2.2.2.2.2.2.2) := by kernel_rfl
theorem lkH : HK.obs (sX w u life drawn toks os) = HK.val w := by kernel_rfl
theorem lk : seenQ (sX w u life drawn toks os) = goodQ := by
  have a1 := Prod.mk.inj (lkA w u life drawn toks os)
  have a2 := Prod.mk.inj a1.2
  have b1 := Prod.mk.inj (lkB w u life drawn toks os)
  have b2 := Prod.mk.inj b1.2
  have c1 := Prod.mk.inj (lkC w u life drawn toks os)
  have c2 := Prod.mk.inj c1.2
  exact Prod.ext a1.1 (Prod.ext a2.1 (Prod.ext a2.2 (Prod.ext b1.1 (Prod.ext b2.1 (Prod.ext b2.2 (Prod.ext c1.1 (Prod.ext c2.1 c2.2)))))))
end
def brP (w : World) : Prop := (fun os => (runQ w os).map (fun s => (seenQ s, HK.obs s))) = fun _ => some (goodQ, HK.val w)
theorem brP_of {w : World} (a : brR w) : brP w := by
  unfold brP
  funext os
  have a1 := congrFun a os
  obtain ⟨s, h1, h2⟩ := Option.map_eq_some_iff.mp a1
  have h3 := runG_of h1
  obtain ⟨tree, n, life, gens, drawn, toks, os'⟩ := s
  simp only [Prod.mk.injEq] at h2
  obtain ⟨x1, x2, x3⟩ := h2
  subst x2; subst x3
  have hX1 : ∀ q ∈ hx.heap_1 w.params, tree.get q.1 = some q.2 := by
    rw [axE w.params, List.map_map] at x1
    exact List.map_inj_left.mp x1
  have hlen : (tree.list 562).length = 562 := by unfold BT.list; rw [List.length_map, List.length_range]
  have hok : okA ((hx.heap_1 w.params).map (·.1)) 0 562 = true := by rw [← axE w.params]; exact axOk
  have hX2 : ∀ q ∈ hx.heap_1 w.params, (tree.list 562)[q.1]? = some q.2 := fun q hq => by
    have := okA_lt hok q.1 (List.mem_map_of_mem hq)
    unfold BT.list
    rw [List.getElem?_map, List.getElem?_range this, Option.map_some, hX1 q hq, Option.getD_some]
  have e := fillR_of (l := tree.list 562) (hx.heap_1 w.params) 0 (by rw [hlen]; exact hok) hX2
  rw [List.drop_zero] at e
  have hs : (SharedT.mk tree 562 life (Array.mk []) drawn toks os').abs = sX w (fun i => ((tree.list 562)[i]?).getD default) life drawn toks os' := by
    unfold SharedT.abs absHeap
    show Shared.mk ⟨⟨tree.list 562⟩, life⟩ _ _ _ _ = Shared.mk ⟨⟨fillR _ _ 0⟩, life⟩ _ _ _ _
    rw [e]
  rw [hs] at h3
  have h4 : (sT0 w os).abs = ⟨boot_heap w.params, Array.mk [], boot_drawn, boot_toks, os⟩ := by
    unfold SharedT.abs
    show Shared.mk (absHeap (t0 w.params) 11 (boot_heap w.params).life) _ _ _ _ = _
    rw [boot_abs]
  rw [h4] at h3
  have h5 : runQ w os = some (sX w (fun i => ((tree.list 562)[i]?).getD default) life drawn toks os') := by
    unfold runQ topFrom
    simp only [boot_ok, boot_size]
    rw [h3]
    simp only [Option.bind_some, lkS]
  rw [h5, Option.map_some, lk, lkH]
theorem brF : ∀ w : World, brP (w.withFollow "special-get-raises" false) := fun w => brP_of (brRF w)
theorem brT : ∀ w : World, brP (w.withFollow "special-get-raises" true) := fun w => brP_of (brRT w)
section
local macro_rules | `(tactic| o_law) => `(tactic| refine holds_law said fun said => ?_)
local macro_rules | `(tactic| o_head ($_ $_ $_ $_ $_)) => `(tactic|
  refine holds_open (q := viewQ) (loose := looseQ) (Xt := XtQ) (XP := XL viewQ []) (Yf := HK.obs) (Ya := HK.val) (YP := HK.says) (N := 7090)
    (left_of boot0 (byRow2 "special-get-raises" brF brT))
    HK.of HK.keeps (fun s e => xl_of s (Bool.and_eq_true_iff.mp e).1) XL.keeps (by rfl) (by rfl) (by rfl) (fun s e => recFacts_of (Bool.and_eq_true_iff.mp e).2) (by rfl) (by assumption) (by decide +kernel) ⟨rfl, rfl, rfl, rfl, rfl, by decide +kernel⟩ ?hw ?hc)
open_top hd for PySem.Challenge.rw_pq0619_01
end
end
section
open PySem PySem.W PySem.Spec PySem.Calls PyProof.Rows
section
variable {prog : Program} {w : World} {A : Around} {E : Value → Shared → Prop} {s : Shared} {h₀ : Heap} {L : Addr} {m : PySem.Str → Option Value} {env : Env}
def SrcS (prog : Program) (w : World) (A : Around) (h₀ : Heap) (L : Addr) (m : PySem.Str → Option Value) (env : Env) (elt : PySem.Expr) (x : PySem.Str) (scope : Scope) (cl : List (PySem.Str × Addr)) (Fin : Shared → List Value → List (Addr × Obj) → Prop) (xv : Value) (s₁ : Shared) : Prop :=
  ∃ z t news, xv = .str z t ∧ Fr h₀ L s₁.heap m ∧ News h₀ L s₁.heap news ∧ z.cps.all (· < 128) = true ∧ z.cps.size ≤ sizeLine ∧
    ∀ s₂ : Shared, (∃ g, s₂ = { s₁ with heap := g }) → LCg.CompRest prog w A h₀ L m env elt x scope cl s₂ (fun _ => True) (SignAt z) (Fin s₂) z.cps.size 0 [] news
theorem AssignComp_S {elt iter : PySem.Expr} {x y : PySem.Str} {px py : Pos} {scope : Scope} {cl : List (PySem.Str × Addr)} {pos spos : Pos} {Q : Flow → Shared → Prop} (F₀ : Fr h₀ L s.heap m) (hLe : env.locals = L)
    (hsw : swapsWith (.ListComp elt [⟨.Name x px, iter, [], 0⟩] scope pos) (some (.Name y py)) spos.line env = pure true)
    (hclos : closureFor scope env = pure cl) (hcell : ∀ z ∈ scope.names, z.2 ≠ .cell) (hkind : scope.kind = .function)
    (hnames : ∀ z ∈ scope.names, z.2 = .local → scope.names.lookup z.1 = some .local) (hx : scope.names.lookup x = some .local)
    (hy : env.kindOf y = some .local) (hp : (env.scope.kind == .class || (env.scope.kind == .module && env.locals != env.globals)) = false)
    (hh : A.handled = none)
    (h : wpAny (model prog w) A (eval iter env) (SrcS prog w A h₀ L m env elt x scope cl (fun s₂ => LCg.FinA h₀ L m s₂ y Q)) E s)
    (hs : ∀ x, foldedSetIterable iter env x = pure x := by intro _; rfl) :
    wpAny (model prog w) A (exec (.Assign [.Name y py] (.ListComp elt [⟨.Name x px, iter, [], 0⟩] scope pos) spos) env) Q E s := by
  subst hLe
  rw [exec_Assign_Name_used _ _ _ _ hsw]
  refine wpAny_bind (wpAny_standAt (wpAny_bind ?_))
  show wpAny _ A (do let _ ← comprehension (.ListComp elt [⟨.Name x px, iter, [], 0⟩] scope pos) scope env _ (newList []) false (eval iter env) (some (assign (.Name y py) env))) _ _ s
  refine wpAny_bind (wpAny_mono (wpAny_comprehension_free (use := some (assign (.Name y py) env)) (Q := fun _ s' => Q .next s') rfl hs hclos hkind hnames
    (wpAny_mono h (fun xv s₁ h₁ => ?_) fun _ _ e => e)) (fun _ s' hq => wpAny_pure (wpAny_pure hq)) fun _ _ e => e)
  obtain ⟨z, t, news, rfl, F, N, ha, hsz, R⟩ := h₁
  refine wpAny_pyIter_ascii ha ?_
  refine LCg.block_U (S := fun _ => True) (Walks.strAscii hh s₁.heap.objs.size z t) hsz (fun i h st => by obtain ⟨o, e, _⟩ := st; exact ⟨o, e⟩)
    (fun i h h' o nw st e e' _ _ _ => by obtain ⟨o', q, r⟩ := st; rw [e] at q; cases q; exact ⟨o, e', r⟩) hcell hkind hx ⟨_, Heap.get?_push_size _ rfl, rfl, rfl⟩ (fun b hb => ?_)
    (F.keeps fun _ _ e => Heap.get?_push_of_some _ e) (N.grown fun _ _ e => Heap.get?_push_of_some _ e) (Nat.ne_of_lt F.ns.lt) (next_is_new F) (fun p hp => Nat.ne_of_lt (Heap.lt_size (N p hp).1)) trivial (R _ ⟨_, rfl⟩) ?_
  · rw [List.mem_singleton.mp hb]
    show s₁.heap.objs.size < (s₁.heap.push _).objs.size
    rw [Heap.size_push]; exact Nat.lt_succ_self _
  · intro D C h' tk m' ys news' F' N' o1 hn hC₀ hD₀ hCL hDL hCD offC fin
    show wpAny _ A (assign (.Name y py) env (.ref D)) _ _ _
    refine wpAny_assign_Name (wpAny_storeName_local hy F'.ns (fun h₂ hn₂ hs₂ => ?_) hp)
    have hL₀ : h₀.get? env.locals = none := Heap.get?_none_of_le F'.above
    have F₂ : Fr h₀ env.locals h₂ (fun z => if z = y then some (.ref D) else m z) := ⟨hn₂, fun b o e => hs₂.extBut b o (fun q => by rw [q, hL₀] at e; cases e) (F'.keep b o e), F'.above⟩
    refine ⟨m', hn.sameBut hs₂ hCL, fun h'' hs'' => fin D h'' _ (F₂.change hs'' hCL hC₀) (fun p hp => ?_) o1⟩
    have z : h₂.get? p.1 = some p.2 := hs₂.extBut _ _ (N' p hp).2.1 (N' p hp).1
    refine ⟨hs''.extBut _ _ ?_ z, (N' p hp).2⟩
    rcases List.mem_cons.mp hp with rfl | hp
    · exact Ne.symm hCD
    · exact offC p hp
theorem ints_snoc {k : Int} {t : Tok} {vs : List Value} {ks : List Int} (h : IntsAre vs ks) : IntsAre (vs ++ [.int k t]) (ks ++ [k]) := by
  induction h with
  | nil => exact .cons k t .nil
  | cons j u _ r => exact .cons j u r
theorem rest_S {elt : PySem.Expr} {x : PySem.Str} {scope : Scope} {cl : List (PySem.Str × Addr)} {Fin : List Value → List (Addr × Obj) → Prop} {z : PySem.Str} {news : List (Addr × Obj)}
    (turn : ∀ (c : Nat) u I oI C oC D m₂ ys h tk (E' : Value → Shared → Prop), c ∈ z.cps.toList → LCg.NsObj oC m₂ → m₂ x = some (.str ⟨#[c]⟩ u) → Fr h₀ L h m → News h₀ L h ((I, oI) :: (C, oC) :: (D, LCg.lst ys) :: news) → LCg.Off3 I C D news → ((@Ne Nat I C) ∧ (@Ne Nat I D) ∧ (@Ne Nat C D)) →
      wpAny (model prog w) A (eval elt (compEnvC scope cl C env)) (LCg.CompEnd h₀ L m { s with heap := h, toks := tk } I oI C oC D (LCg.lst ys) (fun _ => True) (fun y news' => news' = news ∧ ∃ t, y = .int (c : Nat) t)) E' { s with heap := h, toks := tk })
    (fin : ∀ ys, IntsAre ys (z.cps.toList.map fun (c : Nat) => (c : Int)) → Fin ys news) : LCg.CompRest prog w A h₀ L m env elt x scope cl s (fun _ => True) (SignAt z) Fin z.cps.size 0 [] news := by
  have key : ∀ (j i : Nat) (ys : List Value), i + j = z.cps.size → IntsAre ys ((z.cps.toList.take i).map fun (c : Nat) => (c : Int)) → LCg.CompRest prog w A h₀ L m env elt x scope cl s (fun _ => True) (SignAt z) Fin j i ys news := by
    intro j
    induction j with
    | zero =>
      intro i ys hi hy
      have e : i = z.cps.toList.length := by rw [Array.length_toList]; omega
      subst e
      rw [List.take_length] at hy
      exact LCg.CompRest.zero (fin ys hy)
    | succ j ih =>
      intro i ys hi hy
      refine LCg.CompRest.succ ?_
      intro v I oI C oC D m₂ h tk E' hv hC hx F N off ne
      obtain ⟨c, u, hc, rfl⟩ := hv
      have hc' : z.cps.toList[i]? = some c := by rw [Array.getElem?_toList]; exact hc
      refine wpAny_mono (turn c u I oI C oC D m₂ ys h tk E' (List.mem_of_getElem? hc') hC hx F N off ne) (fun y s₂ hq => ?_) fun _ _ e => e
      obtain ⟨h', tk', nw, e, F', N', off', hS, hn, t', hy'⟩ := hq
      subst hn
      refine ⟨h', tk', nw, e, F', N', off', hS, ?_⟩
      rw [hy']
      refine ih (i + 1) _ (by omega) ?_
      rw [List.take_add_one, hc']
      simpa using ints_snoc hy
  exact key z.cps.size 0 [] (by omega) (by simp only [List.take_zero, List.map_nil]; exact .nil)
theorem rest_T {ct elt : PySem.Expr} {x : PySem.Str} {scope : Scope} {cl : List (PySem.Str × Addr)} {S : List (Addr × Obj) → Prop} {Fin : List Value → List (Addr × Obj) → Prop} {vs : List Value} {ks : List Int} {news : List (Addr × Obj)} (hi : IntsAre vs ks)
    (turn : ∀ k u I oI C oC D m₂ ys h tk (E' : Value → Shared → Prop), k ∈ ks → LCg.NsObj oC m₂ → m₂ x = some (.int k u) → Fr h₀ L h m → News h₀ L h ((I, oI) :: (C, oC) :: (D, LCg.lst ys) :: news) → LCg.Off3 I C D news → ((@Ne Nat I C) ∧ (@Ne Nat I D) ∧ (@Ne Nat C D)) →
      wpAny (model prog w) A (isTrue ct (compEnvC scope cl C env) (eval ct (compEnvC scope cl C env))) (fun ok s' => ok = false ∧ LCg.CompEnd h₀ L m { s with heap := h, toks := tk } I oI C oC D (LCg.lst ys) S (fun _ news' => news' = news) Value.none s') E' { s with heap := h, toks := tk })
    (fin : Fin [] news) : LCt.CompRestT prog w A h₀ L m env ct elt x scope cl s S (fun i v => vs.toArray[i]? = some v) Fin vs.toArray.size 0 [] news := by
  have key : ∀ (j i : Nat), i + j = vs.length → LCt.CompRestT prog w A h₀ L m env ct elt x scope cl s S (fun i v => vs.toArray[i]? = some v) Fin j i [] news := by
    intro j
    induction j with
    | zero => intro i _; exact LCt.CompRestT.zero fin
    | succ j ih =>
      intro i hj
      refine LCt.CompRestT.succ ?_
      intro v I oI C oC D m₂ h tk E' hv hC hx F N off ne
      obtain ⟨k, t, e, hk⟩ := IntsAre.at hi i v (by simpa using hv)
      subst e
      refine wpAny_mono (turn k t I oI C oC D m₂ [] h tk E' (List.mem_of_getElem? hk) hC hx F N off ne) (fun ok s₂ hq => ?_) fun _ _ e => e
      obtain ⟨hok, h', tk', nw, e, F', N', off', hS, hn⟩ := hq
      subst hok; subst hn
      simp only [Bool.false_eq_true, if_false]
      exact ⟨h', tk', nw, e, F', N', off', hS, ih (i + 1) (by omega)⟩
  have := key vs.length 0 (by omega)
  rwa [← List.size_toArray] at this
noncomputable def StrRest (prog : Program) (w : World) (A : Around) (E : Value → Shared → Prop) (h₀ : Heap) (env : Env) (x : PySem.Str) (body : List Stmt) (Q : Flow → Shared → Prop) (s : Shared) (I : Addr) : List Nat → (PySem.Str → Option Value) → List (Addr × Obj) → Prop
  | [], m, news => ∀ h tk, Fr h₀ env.locals h m → News h₀ env.locals h news → Q .next { s with heap := h, toks := tk }
  | c :: r, m, news => ∀ (it : Obj) h tk u, Fr h₀ env.locals h (fun y => if y = x then some (.str ⟨#[c]⟩ u) else m y) → News h₀ env.locals h ((I, it) :: news) →
      wpAny (model prog w) A (execs body env) (UnrPost h₀ env.locals { s with heap := h, toks := tk } I it (fun m' n' => StrRest prog w A E h₀ env x body Q s I r m' n') Q) E { s with heap := h, toks := tk }
theorem StrRest.zero {x : PySem.Str} {body : List Stmt} {Q : Flow → Shared → Prop} {I : Addr} {m : PySem.Str → Option Value} {news : List (Addr × Obj)} (h : ∀ h tk, Fr h₀ env.locals h m → News h₀ env.locals h news → Q .next { s with heap := h, toks := tk }) :
    StrRest prog w A E h₀ env x body Q s I [] m news := h
theorem StrRest.succ {x : PySem.Str} {body : List Stmt} {Q : Flow → Shared → Prop} {I : Addr} {c : Nat} {r : List Nat} {m : PySem.Str → Option Value} {news : List (Addr × Obj)}
    (h : ∀ (it : Obj) h tk u, Fr h₀ env.locals h (fun y => if y = x then some (.str ⟨#[c]⟩ u) else m y) → News h₀ env.locals h ((I, it) :: news) →
      wpAny (model prog w) A (execs body env) (UnrPost h₀ env.locals { s with heap := h, toks := tk } I it (fun m' n' => StrRest prog w A E h₀ env x body Q s I r m' n') Q) E { s with heap := h, toks := tk }) :
    StrRest prog w A E h₀ env x body Q s I (c :: r) m news := h
theorem iter_strUnr {x : PySem.Str} {body : List Stmt} {Q : Flow → Shared → Prop} {z : PySem.Str} {t : Tok} {cs : List Nat} {m₀ : PySem.Str → Option Value} {news : List (Addr × Obj)}
    (hh : A.handled = none) (F : Fr h₀ env.locals s.heap m₀) (N : News h₀ env.locals s.heap news) (hz : z.cps.toList = cs) (ha : z.cps.all (· < 128) = true)
    (rest₀ : ∀ I : Addr, (∀ p ∈ news, p.1 < I) → StrRest prog w A E h₀ env x body Q s I cs m₀ news) :
    wpAny (model prog w) A (pyIter (.str z t)) (fun it s₂ => LoopAtV prog w A h₀ env x body Q E it s₂) E s := by
  subst hz
  refine wpAny_pyIter_ascii ha ?_
  have rest := rest₀ s.heap.objs.size fun p hp => Heap.lt_size (N p hp).1
  have W := Walks.strAscii (prog := prog) (w := w) (A := A) hh s.heap.objs.size z t
  have hnew := next_is_new F
  let J : Nat → (PySem.Str → Option Value) → List (Addr × Obj) → Prop := fun i m₁ news₁ => StrRest prog w A E h₀ env x body Q s s.heap.objs.size (z.cps.toList.drop i) m₁ news₁
  refine ⟨_, _, _, z.cps.size, _, _, m₀, news, J, rfl, W, ?_, ?_, ?_, ⟨_, Heap.get?_push_size _ rfl, rfl, rfl⟩, F.push _, (fun p hp => ⟨Heap.get?_push_of_some _ (N p hp).1, (N p hp).2⟩), (by show StrRest prog w A E h₀ env x body Q s s.heap.objs.size (z.cps.toList.drop 0) m₀ news; rw [List.drop_zero]; exact rest), ?_, ?_⟩
  · intro hmm
    exact absurd F.ns.lt ((List.mem_singleton.mp hmm) ▸ Nat.lt_irrefl _)
  · intro b hb
    rw [List.mem_singleton.mp hb]
    exact hnew
  · intro p hp hI
    exact absurd (Heap.lt_size (N p hp).1) ((List.mem_singleton.mp hI) ▸ Nat.lt_irrefl _)
  · rintro i v m₁ news₁ s₁ own ⟨hh', tk', rfl⟩ hin hP hJ hoff hown hget hall hst F₁ N₁
    obtain ⟨it, hit, hic⟩ := hst
    have hmemI := hall s.heap.objs.size (List.mem_cons_self ..) hnew _ hit
    obtain ⟨c, u, hc, rfl⟩ := hP
    have hc' : z.cps.toList[i]? = some c := by rw [Array.getElem?_toList]; exact hc
    have hdrop : z.cps.toList.drop i = c :: z.cps.toList.drop (i + 1) := by
      obtain ⟨hl, e⟩ := List.getElem?_eq_some_iff.mp hc'
      rw [List.drop_eq_getElem_cons hl, e]
    have hJ' : StrRest prog w A E h₀ env x body Q s s.heap.objs.size (z.cps.toList.drop i) m₁ news₁ := hJ
    rw [hdrop] at hJ'
    have N₂ : News h₀ env.locals hh' ((s.heap.objs.size, it) :: news₁) := fun p hp => by
      rcases List.mem_cons.mp hp with rfl | hp
      · exact N₁ _ (List.mem_append_left _ hmemI)
      · exact N₁ _ (List.mem_append_right _ hp)
    refine wpAny_mono (hJ' it hh' tk' u F₁ N₂) (fun f s₂ p => ?_) fun _ _ e => e
    have fin : UnrEnd h₀ env.locals { s with heap := hh', toks := tk' } s.heap.objs.size it (fun m' n' => StrRest prog w A E h₀ env x body Q s s.heap.objs.size (z.cps.toList.drop (i + 1)) m' n') s₂ →
        LoopStepU h₀ env.locals [s.heap.objs.size] own (J (i + 1)) { s with heap := hh', toks := tk' } .next s₂ := by
      rintro ⟨h', tk, m', news', e, F', N', ho, r⟩
      refine ⟨rfl, h', tk, m', news', e, F', fun p hp => ?_, fun p hp hI => ho p hp (List.mem_singleton.mp hI), r⟩
      rcases List.mem_append.mp hp with hp | hp
      · have h2 : hh'.get? p.1 = some p.2 := hget p hp
        have h1 : p.1 = s.heap.objs.size := List.mem_singleton.mp (hown p hp)
        have h3 : p = (s.heap.objs.size, it) := by
          rw [h1, hit] at h2
          exact Prod.ext h1 (Option.some.inj h2).symm
        rw [h3]; exact N' _ (List.mem_cons_self ..)
      · exact N' _ (List.mem_cons_of_mem _ hp)
    cases f with
    | ret v => exact .ret p
    | brk => exact .brk p
    | next => exact .next (fin p)
    | cont => exact .cont (fin p)
  · rintro h' tk m' news' F' N' _ hJ
    have hJ' : StrRest prog w A E h₀ env x body Q s s.heap.objs.size (z.cps.toList.drop z.cps.size) m' news' := hJ
    have zz : z.cps.toList.drop z.cps.size = [] := by rw [← Array.length_toList]; exact List.drop_length
    rw [zz] at hJ'
    exact hJ' h' tk F' N'
end
end
local macro_rules | `(tactic| ktr_room) => `(tactic| k_extra "ktr_room")
local macro_rules | `(tactic| ktr_units) => `(tactic| k_extra "ktr_units")
local macro_rules | `(tactic| k_mem) => `(tactic| k_extra "k_mem")
local macro_rules | `(tactic| cell_enter) => `(tactic| k_extra "cell_enter")
local macro_rules | `(tactic| walk_at "call ref") => `(tactic| k_extra "call ref")
local macro_rules | `(tactic| walk_at "pyIter ref") => `(tactic| k_extra "pyIter ref")
local macro_rules | `(tactic| walk_at "UnrEnd") => `(tactic| k_extra "UnrEnd")
local macro_rules | `(tactic| walk_at "exec Assign cons ListComp") => `(tactic| k_extra "exec Assign cons ListComp")
local macro_rules | `(tactic| walk_at "eval ListComp") => `(tactic| k_extra "eval ListComp")
local macro_rules | `(tactic| walk_at "ite") => `(tactic| k_extra "ite")
local macro_rules | `(tactic| walk_at "exec While") => `(tactic| k_extra "exec While")
local macro_rules | `(tactic| walk_at "exec While BoolOp") => `(tactic| k_extra "exec While BoolOp")
local macro_rules | `(tactic| walk_at "exec While Compare") => `(tactic| k_extra "exec While Compare")
local macro_rules | `(tactic| walk_at "exec While UnaryOp") => `(tactic| k_extra "exec While UnaryOp")
local macro_rules | `(tactic| walk_at "exec While Call") => `(tactic| k_extra "exec While Call")
local macro_rules | `(tactic| walk_at "exec For Name Name cons nil") => `(tactic| k_extra "exec For Name Name cons nil")
local macro_rules | `(tactic| walk_at "pyIter str") => `(tactic| k_extra "pyIter str")
local macro_rules | `(tactic| walk_at "StrRest") => `(tactic| k_extra "StrRest")
local macro_rules | `(tactic| walk_at "compareOp In str str") => `(tactic| k_extra "compareOp In str str")
local macro_rules | `(tactic| walk_at "compareOp NotIn str str") => `(tactic| k_extra "compareOp NotIn str str")
local macro_rules | `(tactic| walk_at "binaryOp Add str str") => `(tactic| k_extra "binaryOp Add str str")
local macro_rules | `(tactic| walk_at "call builtin:list.append") => `(tactic| k_extra "call builtin:list.append")
local macro_rules | `(tactic| walk_at "setAttr ref") => `(tactic| k_extra "setAttr ref")
local macro_rules | `(tactic| walk_at "subscriptTail") => `(tactic| k_extra "subscriptTail")
local macro_rules | `(tactic| walk_at "truthy ref") => `(tactic| k_extra "truthy ref")
local macro_rules | `(tactic| walk_at "getMethod type:Exception") => `(tactic| k_extra "getMethod type:Exception")
local macro_rules | `(tactic| walk_at "call builtin:Exception.__init__") => `(tactic| k_extra "call builtin:Exception.__init__")
local macro_rules | `(tactic| walk_at "exec Raise some none") => `(tactic| k_extra "exec Raise some none")
local macro_rules | `(tactic| walk_at "RaiseOk") => `(tactic| k_extra "RaiseOk")
local macro_rules | `(tactic| walk_at "leaving") => `(tactic| k_extra "leaving")
local macro_rules | `(tactic| walk_at "compareOp In str ref") => `(tactic| k_extra "compareOp In str ref")
local macro_rules | `(tactic| walk_at "eval IfExp") => `(tactic| k_extra "eval IfExp")
local macro_rules | `(tactic| walk_at "WhlPst") => `(tactic| k_extra "WhlPst")
local macro_rules | `(tactic| walk_at "call type:tuple") => `(tactic| k_extra "call type:tuple")
local macro_rules | `(tactic| walk_at "call builtin:list.extend") => `(tactic| k_extra "call builtin:list.extend")
local macro_rules | `(tactic| walk_at "compareOp Eq ref ref") => `(tactic| k_extra "compareOp Eq ref ref")
local macro_rules | `(tactic| walk_at "storeName") => `(tactic| k_extra "storeName")
local macro_rules | `(tactic| walk_at "call builtin:str.split") => `(tactic| k_extra "call builtin:str.split")
local macro_rules | `(tactic| walk_at "call type:enumerate") => `(tactic| k_extra "call type:enumerate")
local macro_rules | `(tactic| walk_at "binaryOp Add ref ref") => `(tactic| k_extra "binaryOp Add ref ref")
local macro_rules | `(tactic| walk_at "call builtin:len") => `(tactic| k_extra "call builtin:len")
local macro_rules | `(tactic| walk_at "getAttr ref") => `(tactic| k_extra "getAttr ref")
local macro_rules | `(tactic| walk_at "exec If") => `(tactic| k_extra "exec If")
local macro_rules | `(tactic| walk_at "setItem ref int") => `(tactic| k_extra "setItem ref int")
local macro_rules | `(tactic| walk_at "call builtin:sum") => `(tactic| k_extra "call builtin:sum")
section
open PySem PySem.W PySem.Spec PySem.Calls PyProof.Rows
theorem warmT0 : PySem.Challenge.rw_pq0619_01 = PySem.Challenge.rw_pq0619_01 ∧ hd0.heap_1 = hd0.heap_1 := by
  k_fill
  exact ⟨rfl, rfl⟩
-- the walk's lines for a top (open_top of HeadI sets them on) are off from here
theorem topOff : True := by
  w_top off
  exact True.intro
theorem lt_room {x d n b : Nat} {k j : Nat} (h : d + n < b) (e : x = d + k) (hk : Nat.ble (k + j) n = true) : x + j < b :=
  e ▸ (Nat.add_assoc d k j).symm ▸ Nat.lt_of_le_of_lt (Nat.add_le_add_left (Nat.le_of_ble_eq_true hk) d) h
theorem lt_room0 {x d n b : Nat} {k : Nat} (h : d + n < b) (e : x = d + k) (hk : Nat.ble k n = true) : x < b := lt_room (j := 0) h e hk
theorem le_c {a b c : Nat} (h : a ≤ b) (e : Nat.ble b c = true) : a ≤ c := Nat.le_trans h (Nat.le_of_ble_eq_true e)
theorem le_ab {a b x y c : Nat} (h : a ≤ x) (k : b ≤ y) (e : Nat.ble (x + y) c = true) : a + b ≤ c := Nat.le_trans (Nat.add_le_add h k) (Nat.le_of_ble_eq_true e)
-- 1
abbrev kh (w : World) (x : PySem.Str) := PyData.keyHash w.params x
structure Tk where
  (a d p : Addr) (k x : PySem.Str) (t1 t2 t3 t4 kt xt rt ct : Tok) (row : Int)
abbrev tokD (w : World) (t : Tk) : Obj := dictOf [⟨kh w "kind", .str "kind" t.t1, .str t.k t.kt⟩, ⟨kh w "worth", .str "worth" t.t2, .str t.x t.xt⟩, ⟨kh w "at", .str "at" t.t3, .ref t.p⟩, ⟨kh w "is_in_a", .str "is_in_a" t.t4, .bool false⟩] 4
abbrev posO (t : Tk) : Obj := { cls := .type "tuple", data := .seq [Value.int t.row t.rt, Value.int 12 t.ct].toArray }
structure RdI where
  (rd dR TL NM : Addr) (t1 t2 t3 : Tok) (n : Nat) (T : List Tk)
abbrev rdD (w : World) (r : RdI) (p : Int) (tp : Tok) : Obj := dictOf [⟨kh w "tokens", .str "tokens" r.t1, .ref r.TL⟩, ⟨kh w "at", .str "at" r.t2, .int p tp⟩, ⟨kh w "named", .str "named" r.t3, .ref r.NM⟩] 3
abbrev lstO (vs : List Value) (n : Nat) : Obj := { cls := .type "list", data := .seq vs.toArray n }
abbrev tvs (T : List Tk) : List Value := T.map fun t => .ref t.a
def posL : Pos := { line := 174, col := 36, endLine := 174, endCol := 76 }
def TabIn (led : List (Addr × Obj)) : Prop := ∃ ps : Array Value, (232, tabObj ps) ∈ led ∧ TriplesOk ps.toList ∧ (codeAmong posL ps.toList = none ∨ ∃ c', codeAmong posL ps.toList = some (.ref c'))
theorem TabIn.mono {led led' : List (Addr × Obj)} (T : TabIn led) (h : ∀ q ∈ led, q ∈ led') : TabIn led' := let ⟨ps, h1, h2⟩ := T; ⟨ps, h _ h1, h2⟩
structure Rdr (w : World) (r : RdI) (p : Int) (tp : Tok) (led : List (Addr × Obj)) : Prop where
  inst : (r.rd, instObj 465 r.dR) ∈ led
  dict : (r.dR, rdD w r p tp) ∈ led
  lst : (r.TL, lstO (tvs r.T) r.n) ∈ led
  toks : ∀ t ∈ r.T, (t.a, instObj 495 t.d) ∈ led ∧ (t.d, tokD w t) ∈ led ∧ (t.p, posO t) ∈ led ∧ t.x.length ≤ 1000
  p0 : 0 ≤ p
  fit : r.T.length < 2 ^ 61
  ple : p ≤ r.T.length
  tab : TabIn led
def tkV : Option Tk → Value
  | some t => .ref t.a
  | none => .none
theorem tvs_size (T : List Tk) : (tvs T).toArray.size = T.length := by simp
theorem tvs_at {T : List Tk} {i : Nat} {t : Tk} (h : T[i]? = some t) : (tvs T)[i]? = some (.ref t.a) := by
  rw [List.getElem?_map, h]; rfl
theorem lt_of_at {T : List Tk} {i : Int} {t : Tk} (h : T[i.toNat]? = some t) (h0 : 0 ≤ i) : i < T.length := by
  have := (List.getElem?_eq_some_iff.mp h).1
  omega
theorem tok_item {prog : Program} {w : World} {A : Around} {E : Value → Shared → Prop} {s : Shared} {h₀ : Heap} {L : Addr} {led : List (Addr × Obj)} {value slice : PySem.Expr} {l : Addr} {vs : List Value} {c : Nat} {k : Int} {u : Tok} {v : Value} {Q : Value → Shared → Prop}
    (N : News h₀ L s.heap led) (hm : (l, lstO vs c) ∈ led) (h0 : 0 ≤ k) (hhi : k < 2 ^ 63) (hx : vs[k.toNat]? = some v) (h : Q v s)
    (hs : subscripted slice false (.ref l) (.int k u) = operate [.ref l, .int k u] (getItem (.ref l) (.int k u)) := by with_unfolding_all rfl) :
    wpAny (model prog w) A (subscriptTail value slice (.ref l) (.int k u)) Q E s := by
  have hl : s.heap.IsList l vs.toArray := News.isList N hm
  exact tail_any hl.typeIs slot_list_getitem.lookup (wpAny_getItem_list hl h0 hhi (by simpa using hx) h) hs
-- 2
theorem News.drop {h₀ h : Heap} {L : Addr} {x : Addr × Obj} {led : List (Addr × Obj)} (N : News h₀ L h (x :: led)) : News h₀ L h led := fun p hp => N p (.tail _ hp)
theorem Rdr.mono {w : World} {r : RdI} {p : Int} {tp : Tok} {led led' : List (Addr × Obj)} (R : Rdr w r p tp led) (h : ∀ q ∈ led, q ∈ led') : Rdr w r p tp led' :=
  ⟨h _ R.inst, h _ R.dict, h _ R.lst, fun t ht => ⟨h _ (R.toks t ht).1, h _ (R.toks t ht).2.1, h _ (R.toks t ht).2.2.1, (R.toks t ht).2.2.2⟩, R.p0, R.fit, R.ple, R.tab.mono h⟩
theorem Rdr.cons {w : World} {r : RdI} {p : Int} {tp : Tok} {led : List (Addr × Obj)} {q : Addr × Obj} (R : Rdr w r p tp led) : Rdr w r p tp (q :: led) := R.mono fun _ h => .tail _ h
def kindIs (o : Option Tk) (x : PySem.Str) : Bool := match o with
  | some t => t.k == x
  | none => false
def worthIs (o : Option Tk) (k x : PySem.Str) : Bool := match o with
  | some t => t.k == k && t.x == x
  | none => false
theorem at0 {T : List Tk} {p : Int} {o : Option Tk} (h : T[p.toNat]? = o) : T[(p + 0).toNat]? = o := by rw [Int.add_zero]; exact h
-- 3
def isDict (o : Obj) : Bool := match o.data with
  | .dict _ _ => true
  | .fields _ => true
  | _ => false
def Keeps (led led' : List (Addr × Obj)) : Prop := ∀ q ∈ led, isDict q.2 = false → q ∈ led'
theorem Keeps.refl (led : List (Addr × Obj)) : Keeps led led := fun _ h _ => h
theorem Keeps.trans {a b c : List (Addr × Obj)} (h : Keeps a b) (k : Keeps b c) : Keeps a c := fun q hq hd => k q (h q hq hd) hd
theorem Keeps.cons {a b : List (Addr × Obj)} {x : Addr × Obj} (h : Keeps a b) : Keeps a (x :: b) := fun q hq hd => .tail _ (h q hq hd)
theorem same_of {h₀ h : Heap} {L a : Addr} {o o' : Obj} {led : List (Addr × Obj)} (N : News h₀ L h led) (h1 : (a, o) ∈ led) (h2 : (a, o') ∈ led) : o = o' := by
  have e1 := (N _ h1).1
  have e2 := (N _ h2).1
  rw [e1] at e2
  exact Option.some.inj e2
def front (a : Addr) (o : Obj) (led : List (Addr × Obj)) : List (Addr × Obj) := (a, o) :: led.filter fun q => q.1 != a
theorem front_off (a : Addr) (led : List (Addr × Obj)) : ∀ q ∈ led.filter (fun q => q.1 != a), q.1 ≠ a := fun q hq => by
  have := (List.mem_filter.mp hq).2
  simpa using this
theorem News.front {h₀ h : Heap} {L a : Addr} {o : Obj} {led : List (Addr × Obj)} (N : News h₀ L h led) (hm : (a, o) ∈ led) : News h₀ L h (front a o led) := fun q hq => by
  rcases List.mem_cons.mp hq with rfl | hq
  · exact N _ hm
  · exact N _ (List.mem_filter.mp hq).1
theorem front_mem {h₀ h : Heap} {L a b : Addr} {o o' x : Obj} {led : List (Addr × Obj)} (N : News h₀ L h led) (hm : (a, o) ∈ led) (hb : (b, x) ∈ led) (hne : x ≠ o) : (b, x) ∈ front a o' led := by
  refine List.mem_cons_of_mem _ (List.mem_filter.mpr ⟨hb, ?_⟩)
  have : b ≠ a := fun e => by subst e; exact hne (same_of N hb hm)
  simpa using this
theorem front_keeps {h₀ h : Heap} {L a : Addr} {o o' : Obj} {led : List (Addr × Obj)} (N : News h₀ L h led) (hm : (a, o) ∈ led) (hd : isDict o = true) : Keeps led (front a o' led) := fun q hq hn => by
  obtain ⟨b, x⟩ := q
  exact front_mem N hm hq fun e => by subst e; rw [hd] at hn; cases hn
theorem Rdr.set {w : World} {h₀ h : Heap} {L : Addr} {r : RdI} {p p' : Int} {tp tp' : Tok} {led : List (Addr × Obj)} (R : Rdr w r p tp led) (N : News h₀ L h led) (h0 : 0 ≤ p') (h1 : p' ≤ r.T.length) : Rdr w r p' tp' (front r.dR (rdD w r p' tp') led) := by
  have f : ∀ {b : Addr} {x : Obj}, (b, x) ∈ led → x ≠ rdD w r p tp → (b, x) ∈ front r.dR (rdD w r p' tp') led := fun hb hne => front_mem N R.dict hb hne
  refine ⟨f R.inst fun e => by simp at e, .head _, f R.lst fun e => by simp at e, fun t ht => ?_, h0, R.fit, h1, by obtain ⟨ps, e1, e2⟩ := R.tab; exact ⟨ps, f e1 fun e => by simp [tabObj] at e, e2⟩⟩
  obtain ⟨a1, a2, a3, a4⟩ := R.toks t ht
  exact ⟨f a1 fun e => by simp at e, f a2 fun e => by simp at e, f a3 fun e => by simp at e, a4⟩
section
variable {w : World} {mean : ExcName → Option Value} {pq : Program} {lq : List PySem.Str} {mg mb : PySem.Str → Option Value} {dp un : Nat} {gd : Option (List Code)} {cn : PySem.Str} {cs : Scope} {a : Addr} {ccd : Value} {cl : List (PySem.Str × Addr)} {outer : List Env} {A₀ : Around} {base h₀ : Heap} {L : Addr} {m : PySem.Str → Option Value} {s : Shared}
  {Q E : Value → Shared → Prop} {led : List (Addr × Obj)} {r : RdI} {p : Int} {tp : Tok}
  (B : Below A₀ base outer h₀) (F : Fr h₀ L s.heap m) (X : (hd0.heap_1 w.params).In h₀) (N : News h₀ L s.heap led) (T : Top pq lq mean mg mb h₀) (hk : cs.kind = .function) (R : Rdr w r p tp led)
include B F X N T hk R
omit B T hk in
theorem set_at {A : Around} {Q : Unit → Shared → Prop} {E : Value → Shared → Prop} {p' : Int} {tp' : Tok} (h0 : 0 ≤ p') (h1 : p' ≤ r.T.length)
    (h : ∀ h' led' , Fr h₀ L h' m → News h₀ L h' led' → Keeps led led' → Rdr w r p' tp' led' → Q () { s with heap := h', toks := s.toks + 2 }) :
    wpAny (model P0 w) A (setAttr (.ref r.rd) "at" (.int p' tp')) Q E s := by
  have I := InstAt.of_news N R.inst R.dict
  have N1 := News.front N R.dict
  have K1 := front_keeps (o' := rdD w r p' tp') N R.dict rfl
  have R1 := R.set (p' := p') (tp' := tp') N h0 h1
  k_dflt (refine' set_dict F X N1 I ?k5 ?k6 ?k7 ?k8 ?k9 ?k10 ?k11 ?k12 ?k13 ?_; (case k5 => exact rfl); (case k6 => k_is); (case k7 => k_is); (case k8 => k_is); (case k9 => k_is); (case k10 => k_get); (case k11 => k_put); (case k12 => exact Upd.head (front_off _ _)); (case k13 => exact Nat.le_of_ble_eq_true rfl); k_whole)
  intro h' F' N'
  exact h h' _ F' N' K1 R1
end
-- 4
-- 5
theorem ne_f {a b : PySem.Str} (h : (a != b) = false) : (a == b) = true := by simpa [bne] using h
-- 6
noncomputable def hasSub (y : List Nat) : List Nat → Bool
  | [] => y.isPrefixOf []
  | c :: l => y.isPrefixOf (c :: l) || hasSub y l
theorem hasSub_iff (y : List Nat) : ∀ l : List Nat, hasSub y l = true ↔ ∃ i, y.isPrefixOf (l.drop i) = true
  | [] => ⟨fun h => ⟨0, h⟩, fun ⟨i, h⟩ => by rw [List.drop_nil] at h; exact h⟩
  | c :: l => by
    show (y.isPrefixOf (c :: l) || hasSub y l) = true ↔ _
    rw [Bool.or_eq_true, hasSub_iff y l]
    constructor
    · rintro (h | ⟨i, h⟩)
      · exact ⟨0, h⟩
      · exact ⟨i + 1, h⟩
    · rintro ⟨i, h⟩
      cases i with
      | zero => exact Or.inl h
      | succ i => exact Or.inr ⟨i, h⟩
theorem sub_any (x y : PySem.Str) : (!(PySem.Builtin.Str.occurrences x y 0 x.length 1).isEmpty) = hasSub y.cps.toList x.cps.toList := by
  rw [Bool.eq_iff_iff, PySem.StrLaws.found_iff, hasSub_iff]
  constructor
  · rintro ⟨i, hi, hs⟩
    refine ⟨i, ?_⟩
    rw [List.isPrefixOf_iff_prefix, List.prefix_iff_eq_take]
    unfold PySem.Builtin.Str.subAt at hs
    have e := congrArg Array.toList (beq_iff_eq.mp hs)
    rw [Array.toList_extract] at e
    rw [← e]
    simp [PySem.Str.length, List.extract]
  · rintro ⟨i, hp⟩
    rw [List.isPrefixOf_iff_prefix] at hp
    obtain ⟨r, hr⟩ := hp
    by_cases hy : y.cps.toList = []
    · refine ⟨0, ?_, ?_⟩
      · show 0 + y.cps.size ≤ x.cps.size
        rw [← Array.length_toList, hy]; simp
      · unfold PySem.Builtin.Str.subAt
        rw [beq_iff_eq]
        apply Array.toList_inj.mp
        rw [Array.toList_extract, hy]
        have : y.length = 0 := by show y.cps.size = 0; rw [← Array.length_toList, hy]; rfl
        simp [List.extract, this]
    · have hlen : x.cps.toList.length - i = y.cps.toList.length + r.length := by rw [← List.length_drop, ← hr, List.length_append]
      have hpos : 0 < y.cps.toList.length := List.length_pos_iff.mpr hy
      refine ⟨i, ?_, ?_⟩
      · show i + y.cps.size ≤ x.cps.size
        rw [← Array.length_toList, ← Array.length_toList]
        omega
      · unfold PySem.Builtin.Str.subAt
        rw [beq_iff_eq]
        apply Array.toList_inj.mp
        rw [Array.toList_extract]
        simp only [List.extract, PySem.Str.length, Nat.add_sub_cancel_left]
        rw [← hr, ← Array.length_toList, List.take_left]
abbrev RES : PySem.Str := PySem.Str.ofString " ACCEPT ACCESS ADD ADVANCING AFTER ALL ALPHABETIC ALPHABETIC-LOWER ALPHABETIC-UPPER ALPHANUMERIC ALPHANUMERIC-EDITED ALSO ALTERNATE AND ANY ARE AREA AREAS ASCENDING ASSIGN AT AUTHOR BEFORE BINARY BLANK BLOCK BY CALL CHARACTER CHARACTERS CLOSE COMP COMP-3 COMPUTATIONAL COMPUTATIONAL-3 COMPUTE CONFIGURATION CONTAINS CONTENT CONTINUE CONVERTING COPY CORR CORRESPONDING COUNT DATA DATE-COMPILED DATE-WRITTEN DELETE DELIMITED DELIMITER DEPENDING DESCENDING DISPLAY DIVIDE DIVISION DOWN DUPLICATES DYNAMIC ELSE END END-ADD END-CALL END-COMPUTE END-DELETE END-DIVIDE END-EVALUATE END-IF END-MULTIPLY END-PERFORM END-READ END-RETURN END-REWRITE END-SEARCH END-START END-STRING END-SUBTRACT END-UNSTRING END-WRITE ENVIRONMENT EQUAL ERROR EVALUATE EXCEPTION EXIT EXTEND EXTERNAL FALSE FD FILE FILE-CONTROL FILLER FIRST FOR FROM GIVING GLOBAL GO GREATER HIGH-VALUE HIGH-VALUES I-O I-O-CONTROL IDENTIFICATION IF IN INDEX INDEXED INITIAL INITIALIZE INPUT INPUT-OUTPUT INSPECT INSTALLATION INTO INVALID IS JUST JUSTIFIED KEY LABEL LEADING LEFT LESS LINE LINES LINKAGE LOCK LOW-VALUE LOW-VALUES MERGE MODE MOVE MULTIPLY NATIVE NEGATIVE NEXT NO NOT NUMERIC NUMERIC-EDITED OBJECT-COMPUTER OCCURS OF OFF OMITTED ON OPEN OPTIONAL OR ORDER ORGANIZATION OTHER OUTPUT OVERFLOW PACKED-DECIMAL PERFORM PIC PICTURE POINTER POSITIVE PROCEDURE PROCEED PROGRAM PROGRAM-ID QUOTE QUOTES RANDOM READ RECORD RECORDS REDEFINES REFERENCE RELATIVE RELEASE REMAINDER RENAMES REPLACE REPLACING RETURN REWRITE RIGHT ROUNDED RUN SAME SD SEARCH SECTION SECURITY SELECT SENTENCE SEPARATE SEQUENTIAL SET SIGN SIZE SORT SORT-MERGE SOURCE-COMPUTER SPACE SPACES SPECIAL-NAMES STANDARD START STATUS STOP STRING SUBTRACT SYNC SYNCHRONIZED TALLYING TEST THAN THEN THROUGH THRU TIMES TO TRAILING TRUE UNSTRING UNTIL UP UPON USAGE USING VALUE VALUES VARYING WHEN WITH WORKING-STORAGE WRITE ZERO ZEROES ZEROS "
def resW (x : PySem.Str) : Bool := !(PySem.Builtin.Str.occurrences RES (PySem.Str.ofString " " ++ x ++ PySem.Str.ofString " ") 0 RES.length 1).isEmpty
theorem resW_eq (x : PySem.Str) : resW x = hasSub (PySem.Str.ofString " " ++ x ++ PySem.Str.ofString " ").cps.toList resL := by
  show (!(PySem.Builtin.Str.occurrences RES _ 0 RES.length 1).isEmpty) = _
  have h : RES = resS := res_is
  rw [h, sub_any]
  rfl
theorem sz1 {x : PySem.Str} (h : x.length ≤ 1000) : (PySem.Str.ofString " ").length + x.length ≤ sizeLine := by
  have : (PySem.Str.ofString " ").length = 1 := rfl
  unfold sizeLine
  omega
theorem sz2 {x : PySem.Str} (h : x.length ≤ 1000) : (PySem.Str.ofString " " ++ x).length + (PySem.Str.ofString " ").length ≤ sizeLine := by
  have e1 : (PySem.Str.ofString " ").length = 1 := rfl
  have e2 : (PySem.Str.ofString " " ++ x).length = (PySem.Str.ofString " ").length + x.length := Array.size_append
  unfold sizeLine
  omega
theorem resW_A : resW "A" = false := by rw [resW_eq]; decide +kernel
theorem resW_R : resW "R" = false := by rw [resW_eq]; decide +kernel
theorem resW_B : resW "B" = false := by rw [resW_eq]; decide +kernel
theorem resW_SPACE : resW "SPACE" = true := by rw [resW_eq]; decide +kernel
theorem resW_LOW : resW "LOW-VALUES" = true := by rw [resW_eq]; decide +kernel
theorem resW_DELIMITED : resW "DELIMITED" = true := by rw [resW_eq]; decide +kernel
theorem resW_INTO : resW "INTO" = true := by rw [resW_eq]; decide +kernel
theorem resW_WITH : resW "WITH" = true := by rw [resW_eq]; decide +kernel
theorem resW_ALL : resW "ALL" = true := by rw [resW_eq]; decide +kernel
-- 7
def nameIs (o : Option Tk) : Bool := match o with
  | some t => t.k == "word" && !resW t.x
  | none => false
-- 8
-- 9
-- 10
inductive Dt where
  | none
  | int (i : Int)
  | str (x : PySem.Str)
  | bytes (b : Array UInt8)
  | tup (l : List Dt)
mutual
inductive DV (led : List (Addr × Obj)) : Value → Dt → Prop
  | none : DV led .none .none
  | int (i t) : DV led (.int i t) (.int i)
  | str (x t) : DV led (.str x t) (.str x)
  | bytes (b t) : DV led (.bytes b t) (.bytes b)
  | tup {a vs n ds} : (a, ({ cls := .type "tuple", data := .seq (List.toArray vs) n } : Obj)) ∈ led → DVs led vs ds → DV led (.ref a) (.tup ds)
inductive DVs (led : List (Addr × Obj)) : List Value → List Dt → Prop
  | nil : DVs led [] []
  | cons {v vs d ds} : DV led v d → DVs led vs ds → DVs led (v :: vs) (d :: ds)
end
theorem DV.off {a b : List (Addr × Obj)} (k : ∀ x o, (x, o) ∈ a → isDict o = false → o.cls = .type "tuple" → (x, o) ∈ b) {v : Value} {d : Dt} (h : DV a v d) : DV b v d :=
  DV.rec (motive_1 := fun v d _ => DV b v d) (motive_2 := fun vs ds _ => DVs b vs ds) .none .int .str .bytes (fun h _ r => .tup (k _ _ h rfl rfl) r) .nil (fun _ _ h r => .cons h r) h
theorem DVs.ind {led : List (Addr × Obj)} {M : List Value → List Dt → Prop} (h0 : M [] []) (h1 : ∀ v vs d ds, DV led v d → DVs led vs ds → M vs ds → M (v :: vs) (d :: ds)) {vs : List Value} {ds : List Dt} (h : DVs led vs ds) : M vs ds :=
  DVs.rec (motive_1 := fun _ _ _ => True) (motive_2 := fun vs ds _ => M vs ds) trivial (fun _ _ => trivial) (fun _ _ => trivial) (fun _ _ => trivial) (fun _ _ _ => trivial) h0 (fun a b _ r => h1 _ _ _ _ a b r) h
theorem DVs.off {a b : List (Addr × Obj)} (k : ∀ x o, (x, o) ∈ a → isDict o = false → o.cls = .type "tuple" → (x, o) ∈ b) {vs : List Value} {ds : List Dt} (h : DVs a vs ds) : DVs b vs ds := h.ind .nil fun _ _ _ _ h _ r => .cons (h.off k) r
theorem DV.keeps {a b : List (Addr × Obj)} (k : Keeps a b) {v : Value} {d : Dt} (h : DV a v d) : DV b v d := h.off fun _ _ hm hd _ => k _ hm hd
theorem DVs.keeps {a b : List (Addr × Obj)} (k : Keeps a b) {v : List Value} {d : List Dt} (h : DVs a v d) : DVs b v d := h.off fun _ _ hm hd _ => k _ hm hd
theorem DV.cons {led : List (Addr × Obj)} {v : Value} {d : Dt} {q : Addr × Obj} (h : DV led v d) : DV (q :: led) v d := h.keeps (Keeps.cons (Keeps.refl _))
abbrev bytesOf (x : PySem.Str) : Array UInt8 := ((x.cps.toList.map fun (c : Nat) => (c : Int)).map fun n => n.toNat.toUInt8).toArray
-- 11
def KeepsW (a b : List (Addr × Obj)) : Prop := Keeps a b
-- 12
theorem sub_of {a b c : List (Addr × Obj)} (h : ∀ q ∈ a, q ∈ b) (k : ∀ q ∈ c, q ∈ a) : ∀ q ∈ c, q ∈ b := fun q hq => h q (k q hq)
theorem first_lt {led : List (Addr × Obj)} {I : Addr} (h : AllLt I led) : ∀ q ∈ led, q.1 < I := PySem.W.tb_ltOf h
section
variable {prog : Program} {w : World} {A : Around} {E : Value → Shared → Prop} {s : Shared} {x y : PySem.Str} {t u : Tok} {b : Bool} {Q : Value → Shared → Prop}
theorem in_lit (hb : (!(PySem.Builtin.Str.occurrences x y 0 x.length 1).isEmpty) = b) (h : Q (.bool b) s) : wpAny (model prog w) A (compareOp .In (.str y u) (.str x t)) Q E s := PyProof.Rows.in_str (by rw [hb]; exact h)
theorem notin_lit (hb : (!(!(PySem.Builtin.Str.occurrences x y 0 x.length 1).isEmpty)) = b) (h : Q (.bool b) s) : wpAny (model prog w) A (compareOp .NotIn (.str y u) (.str x t)) Q E s := PyProof.Rows.notIn_str (by rw [hb]; exact h)
theorem add_lit {z : PySem.Str} (hz : x ++ y = z) (hsz : x.length + y.length ≤ sizeLine) (h : ∀ t' tk, Q (.str z t') { s with toks := tk }) : wpAny (model prog w) A (binaryOp .Add (.str x t) (.str y u)) Q E s := PyProof.Rows.add_str (by rw [hz]; exact h) hsz
end
-- 13
theorem keeps_sub {a b : List (Addr × Obj)} (h : ∀ q ∈ a, q ∈ b) : Keeps a b := fun q hq _ => h q hq
def NumOk (t : Tk) (d : Int) : Prop := t.k = "number" ∧ ((t.x = "0" ∧ d = 0) ∨ (t.x = "1" ∧ d = 1) ∨ (t.x = "2" ∧ d = 2) ∨ (t.x = "7" ∧ d = 7))
-- 14
theorem Rdr.tabset {w : World} {h₀ h : Heap} {L : Addr} {r : RdI} {p : Int} {tp : Tok} {led : List (Addr × Obj)} {ps ps' : Array Value} (R : Rdr w r p tp led) (N : News h₀ L h led) (hm : (232, tabObj ps) ∈ led) (ht : TriplesOk ps'.toList) (hc : codeAmong posL ps'.toList = none ∨ ∃ c', codeAmong posL ps'.toList = some (.ref c')) :
    Rdr w r p tp (front 232 (tabObj ps') led) := by
  have f : ∀ {b : Addr} {x : Obj}, (b, x) ∈ led → x ≠ tabObj ps → (b, x) ∈ front 232 (tabObj ps') led := fun hb hne => front_mem N hm hb hne
  refine ⟨f R.inst fun e => by simp [tabObj] at e, f R.dict fun e => by simp [tabObj] at e, f R.lst fun e => by simp [tabObj] at e, fun t ht' => ?_, R.p0, R.fit, R.ple, ⟨ps', .head _, ht, hc⟩⟩
  obtain ⟨a1, a2, a3, a4⟩ := R.toks t ht'
  exact ⟨f a1 fun e => by simp [tabObj] at e, f a2 fun e => by simp [tabObj] at e, f a3 fun e => by simp [tabObj] at e, a4⟩
section
variable {M : Model} {A : Around} {E : Value → Shared → Prop} {s : Shared} {h₀ : Heap} {L a : Addr} {m mg mb : PySem.Str → Option Value} {cn : PySem.Str} {cs : Scope} {cl : List (PySem.Str × Addr)} {led : List (Addr × Obj)}
  {p : Program} {loose : List PySem.Str} {mean : ExcName → Option Value} {name qual : PySem.Str} {params : Arguments} {body : PySem.Expr} {scope : Scope} {firstLine : Nat} {clos : List (PySem.Str × Addr)}
theorem lam_any {w : World} {r : RdI} {q : Int} {tp : Tok} {Q : Value → Shared → Prop} (F : Fr h₀ L s.heap m) (N : News h₀ L s.heap led) (T : Top p loose mean mg mb h₀) (C : CodeHd h₀ 236 232) (R : Rdr w r q tp led)
    (hcl : closureFor scope (envX cn cs L a (.ref 236) cl) = pure clos)
    (h : ∀ f led' h' tk, Fr h₀ L h' m → News h₀ L h' led' → Keeps led led' → Rdr w r q tp led' → Q (.ref f) { s with heap := h', toks := tk }) :
    wpAny M A (makeFunction name qual params (.expr body) scope (envX cn cs L a (.ref 236) cl) [] [] [] posL firstLine) Q E s := by
  obtain ⟨ps, hm, ht, hc⟩ := R.tab
  rcases hc with hc | ⟨c', hc⟩
  · have N1 := News.front N hm
    refine kla_nest (g := fun o => (232, o) :: led.filter fun q => q.1 != 232) F N1 T C rfl (UpdF.head (front_off _ _)) ht hc hcl ?_
    intro f c' oc vs t ctv h' tk F' N' d1 d2 l1 l2
    have ht' : TriplesOk (ps ++ #[rawInt posL.line, rawInt posL.col, .ref c']).toList := by
      rw [Array.toList_append]; exact TriplesOk_snoc _ _ _ _ ht
    have hc' : codeAmong posL (ps ++ #[rawInt posL.line, rawInt posL.col, .ref c']).toList = some (.ref c') := by
      rw [Array.toList_append]; exact codeAmong_snoc _ ht hc
    exact h _ _ _ _ F' N' (Keeps.cons (Keeps.cons (front_keeps N hm rfl))) ((R.tabset N hm ht' (.inr ⟨_, hc'⟩)).cons.cons)
  · refine kla_hit F N T C rfl hm ht hc hcl ?_
    intro f ctv h' tk F' N' l1
    exact h _ _ _ _ F' N' (Keeps.cons (Keeps.refl _)) R.cons
end
-- 15
abbrev tupS (vs : List Value) : Obj := { cls := .type "tuple", data := .seq (List.toArray vs) 0 }
-- 16
-- 17
-- 18
-- 19
structure KW (a b : List (Addr × Obj)) : Prop where
  k : Keeps a b
-- 20
theorem keeps_h1 {a : Addr} {o : Obj} {l b : List (Addr × Obj)} (k : Keeps ((a, o) :: l) b) (h : isDict o = false) : (a, o) ∈ b := k _ (.head _) h
-- 21
theorem dv_ref {led : List (Addr × Obj)} {v : Value} {ds : List Dt} (h : DV led v (.tup ds)) : ∃ a, v = .ref a := by cases h; exact ⟨_, rfl⟩
theorem name_of_word {t : Tk} {x : PySem.Str} (h : t.k = "word") (hx : t.x = x) (hr : resW x = false) : nameIs (some t) = true := by
  show (t.k == "word" && !resW t.x) = true
  rw [hx, hr, h]; rfl
-- 22
-- 23
-- 24
-- 25
theorem front_off_mem {a b : Addr} {o x : Obj} {led : List (Addr × Obj)} (h : (b, x) ∈ led) (hne : b ≠ a) : (b, x) ∈ front a o led :=
  List.mem_cons_of_mem _ (List.mem_filter.mpr ⟨h, by simpa using hne⟩)
theorem Keeps.frontNew {a b : List (Addr × Obj)} {q : Addr} {o : Obj} (k : Keeps a b) (h : ∀ p ∈ a, isDict p.2 = false → p.1 < q) : Keeps a (front q o b) := fun p hp hd =>
  front_off_mem (k p hp hd) (Nat.ne_of_lt (h p hp hd))
theorem lt_of_keeps {a b : List (Addr × Obj)} {q : Addr} (l : ∀ p ∈ b, p.1 < q) (k : Keeps a b) : ∀ p ∈ a, isDict p.2 = false → p.1 < q := fun p hp hd => l p (k p hp hd)
theorem tl_ne {w : World} {r : RdI} {p : Int} {tp : Tok} {b : List (Addr × Obj)} {q : Addr} (l : ∀ p ∈ b, p.1 < q) (R : Rdr w r p tp b) : r.TL ≠ q := Nat.ne_of_lt (l _ R.lst)
structure LM (q : Addr) (vs : List Value) (n : Nat) (led : List (Addr × Obj)) : Prop where
  mem : (q, lstO vs n) ∈ led
theorem LM.keeps {q : Addr} {vs : List Value} {n : Nat} {a b : List (Addr × Obj)} (h : LM q vs n a) (k : Keeps a b) : LM q vs n b := ⟨k _ h.mem rfl⟩
theorem LM.fst0 {q : Addr} {a b : List (Addr × Obj)} (k : Keeps ((q, PySem.W.listOf #[] 0) :: a) b) : LM q [] 0 b := ⟨k _ (.head _) rfl⟩
theorem Rdr.frontL {w : World} {h₀ h : Heap} {L : Addr} {r : RdI} {p : Int} {tp : Tok} {led : List (Addr × Obj)} {q : Addr} {vs : List Value} {n : Nat} {o' : Obj} (R : Rdr w r p tp led) (N : News h₀ L h led) (hm : (q, lstO vs n) ∈ led) (hq : r.TL ≠ q) : Rdr w r p tp (front q o' led) := by
  have f : ∀ {b : Addr} {x : Obj}, (b, x) ∈ led → x ≠ lstO vs n → (b, x) ∈ front q o' led := fun hb hne => front_mem N hm hb hne
  refine ⟨f R.inst fun e => by simp at e, f R.dict fun e => by simp at e, front_off_mem R.lst hq, fun t ht => ?_, R.p0, R.fit, R.ple, by obtain ⟨ps, e1, e2⟩ := R.tab; exact ⟨ps, f e1 fun e => by simp [tabObj] at e, e2⟩⟩
  obtain ⟨a1, a2, a3, a4⟩ := R.toks t ht
  exact ⟨f a1 fun e => by simp at e, f a2 fun e => by simp at e, f a3 fun e => by simp at e, a4⟩
theorem append_F {w : World} {A : Around} {E : Value → Shared → Prop} {s : Shared} {h₀ : Heap} {L q : Addr} {m : PySem.Str → Option Value} {led : List (Addr × Obj)} {vs : List Value} {n : Nat} {x : Value} {Q : Value → Shared → Prop}
    (F : Fr h₀ L s.heap m) (N : News h₀ L s.heap led) (hm : (q, lstO vs n) ∈ led) (hsz : vs.length ≤ sizeLine)
    (h : ∀ h' led', Fr h₀ L h' m → News h₀ L h' led' → (q, lstO (vs ++ [x]) (n + 1)) ∈ led' → (∀ b o, (b, o) ∈ led → b ≠ q → (b, o) ∈ led') → (∀ a, Keeps a led → (∀ p ∈ a, isDict p.2 = false → p.1 < q) → Keeps a led') → (∀ r p tp, Rdr w r p tp led → r.TL ≠ q → Rdr w r p tp led') → (∀ v d, DV led v d → DV led' v d) → Q .none { s with heap := h' }) :
    wpAny (model P0 w) A (call (.builtin "list.append") [.ref q, x]) Q E s := by
  refine append_K F (News.front N hm) (Upd.head (front_off _ _)) ?_ (by rw [List.size_toArray]; exact hsz)
  intro h' F' N'
  have e : (vs.toArray.push x) = (vs ++ [x]).toArray := by simp
  refine h h' (front q (lstO (vs ++ [x]) (n + 1)) led) F' ?_ (.head _) (fun b o hb hne => front_off_mem hb hne) (fun a k hl => k.frontNew hl) (fun r p tp R hq => R.frontL N hm hq) fun v d D => D.off fun b o hb _ hc => front_mem N hm hb fun e => by subst e; simp at hc
  show News h₀ L h' ((q, ({ cls := .type "list", data := .seq (vs ++ [x]).toArray (n + 1) } : Obj)) :: _)
  rw [← e]
  exact N'
-- 26
abbrev Pr := PySem.Str × PySem.Str
inductive Kd where
  | a | ar | siz | spc | space | low | b
def Kd.toks : Kd → List Pr
  | .a => [("word", "A")]
  | .ar => [("word", "A"), ("word", "OF"), ("word", "R")]
  | .siz => [("literal", "SIZE")]
  | .spc => [("literal", " ")]
  | .space => [("word", "SPACE")]
  | .low => [("word", "LOW-VALUES")]
  | .b => [("word", "B"), ("sign", "("), ("number", "2"), ("sign", ":"), ("number", "1"), ("sign", ")")]
def Kd.tree : Kd → Dt
  | .a => .tup [.str "ref", .str "A", .tup [], .tup [], .none]
  | .ar => .tup [.str "ref", .str "A", .tup [.str "R"], .tup [], .none]
  | .siz => .tup [.str "text", .bytes (bytesOf "SIZE")]
  | .spc => .tup [.str "text", .bytes (bytesOf " ")]
  | .space => .tup [.str "figure", .str "SPACE"]
  | .low => .tup [.str "figure", .str "LOW"]
  | .b => .tup [.str "ref", .str "B", .tup [], .tup [], .tup [.tup [.str "number", .tup [.int 2, .int 0]], .tup [.str "number", .tup [.int 1, .int 0]]]]
theorem Kd.tree_tup (k : Kd) : ∃ hd tl, k.tree = .tup (.str hd :: tl) ∧ (hd = "ref" ∨ hd = "text" ∨ hd = "figure") := by
  cases k <;> exact ⟨_, _, rfl, by simp⟩
def Rest (T : List Tk) (p : Int) (l : List Pr) : Prop := 0 ≤ p ∧ (T.drop p.toNat).map (fun t => (t.k, t.x)) = l
theorem Rest.cons {T : List Tk} {p : Int} {k x : PySem.Str} {l : List Pr} (h : Rest T p ((k, x) :: l)) : ∃ t, T[p.toNat]? = some t ∧ t.k = k ∧ t.x = x ∧ Rest T (p + 1) l := by
  obtain ⟨h0, h⟩ := h
  cases e : T.drop p.toNat with
  | nil => rw [e] at h; cases h
  | cons t r =>
    rw [e, List.map_cons, List.cons.injEq, Prod.mk.injEq] at h
    obtain ⟨⟨h1, h2⟩, h3⟩ := h
    have e1 : (T.drop p.toNat)[0]? = some t := by rw [e]; rfl
    rw [List.getElem?_drop, Nat.add_zero] at e1
    refine ⟨t, e1, h1, h2, by omega, ?_⟩
    rw [show (p + 1).toNat = p.toNat + 1 by omega, ← List.drop_drop, e]
    exact h3
theorem Rest.nil {T : List Tk} {p : Int} (h : Rest T p []) : T[p.toNat]? = none := by
  have := List.map_eq_nil_iff.mp h.2
  exact List.getElem?_eq_none_iff.mpr (List.drop_eq_nil_iff.mp this)
theorem Rest.len {T : List Tk} {p : Int} {l : List Pr} (h : Rest T p l) (hp : p ≤ T.length) : p + l.length = T.length := by
  obtain ⟨h0, h⟩ := h
  have := congrArg List.length h
  rw [List.length_map, List.length_drop] at this
  omega
def calm : List Pr → Bool
  | [] => true
  | (k, x) :: _ => !(k == "word" && x == "OF") && !(k == "word" && x == "IN") && !(k == "sign" && x == "(")
theorem calm_is {T : List Tk} {p : Int} {l : List Pr} (H : Rest T p l) (hc : calm l = true) : ∃ o, T[p.toNat]? = o ∧ worthIs o "word" "OF" = false ∧ worthIs o "word" "IN" = false ∧ worthIs o "sign" "(" = false := by
  cases l with
  | nil => exact ⟨none, H.nil, rfl, rfl, rfl⟩
  | cons q l =>
    obtain ⟨k, x⟩ := q
    obtain ⟨t, h1, h2, h3, _⟩ := H.cons
    subst h2; subst h3
    unfold calm at hc
    rw [Bool.and_eq_true, Bool.and_eq_true, Bool.not_eq_true', Bool.not_eq_true', Bool.not_eq_true'] at hc
    exact ⟨some t, h1, hc.1.1, hc.1.2, hc.2⟩
inductive BegO : List Pr → Bool → Prop
  | nil : BegO [] false
  | a (l) : BegO (("word", "A") :: l) true
  | b (l) : BegO (("word", "B") :: l) true
  | lit (x l) : BegO (("literal", x) :: l) true
  | num (x l) : BegO (("number", x) :: l) true
  | space (l) : BegO (("word", "SPACE") :: l) true
  | low (l) : BegO (("word", "LOW-VALUES") :: l) true
  | all (l) : BegO (("word", "ALL") :: l) true
  | delimited (l) : BegO (("word", "DELIMITED") :: l) false
  | into (l) : BegO (("word", "INTO") :: l) false
  | wth (l) : BegO (("word", "WITH") :: l) false
  | dot (l) : BegO (("sign", ".") :: l) false
theorem Kd.begO (k : Kd) (l : List Pr) : BegO (k.toks ++ l) true := by cases k <;> constructor
theorem dv_head {led : List (Addr × Obj)} {v : Value} {x : PySem.Str} {ds : List Dt} (h : DV led v (.tup (.str x :: ds))) : ∃ a t vs n, v = .ref a ∧ (a, ({ cls := .type "tuple", data := .seq (List.toArray (Value.str x t :: vs)) n } : Obj)) ∈ led := by
  cases h with
  | tup hm hr => cases hr with
    | cons h1 h2 => cases h1; exact ⟨_, _, _, _, rfl, hm⟩
theorem wis_name {t : Tk} {k x : PySem.Str} (h1 : t.k = k) (h2 : t.x = x) : worthIs (some t) k x = true := by show (t.k == k && t.x == x) = true; rw [h1, h2]; simp
theorem wis_not {t : Tk} {k x y : PySem.Str} (h2 : t.x = y) (hn : (y == x) = false) : worthIs (some t) k x = false := by show (t.k == k && t.x == x) = false; rw [h2, hn, Bool.and_false]
theorem tup_item0 {prog : Program} {w : World} {A : Around} {E : Value → Shared → Prop} {s : Shared} {h₀ : Heap} {L : Addr} {led : List (Addr × Obj)} {value slice : PySem.Expr} {l : Addr} {v : Value} {vs : List Value} {c : Nat} {u : Tok} {Q : Value → Shared → Prop}
    (N : News h₀ L s.heap led) (hm : (l, ({ cls := .type "tuple", data := .seq (List.toArray (v :: vs)) c } : Obj)) ∈ led) (h : Q v s)
    (hs : subscripted slice false (.ref l) (.int 0 u) = operate [.ref l, .int 0 u] (getItem (.ref l) (.int 0 u)) := by with_unfolding_all rfl) :
    wpAny (model prog w) A (subscriptTail value slice (.ref l) (.int 0 u)) Q E s := by
  have ht : IsTup s.heap l (List.toArray (v :: vs)) := News.isTup N hm
  exact tail_any ht.typeIs PySem.F.slot_tuple_getitem.lookup (getItem_tuple ht (by decide) (by decide) (j := 0) (by simp [seqIndex?]) (by simp) h) hs
theorem in_tup {prog : Program} {w : World} {A : Around} {E : Value → Shared → Prop} {s : Shared} {h₀ : Heap} {L S : Addr} {led : List (Addr × Obj)} {vs : List Value} {ys : List PySem.Str} {x : PySem.Str} {u : Tok} {b : Bool} {Q : Value → Shared → Prop} (N : News h₀ L s.heap led) (hm : (S, tupS vs) ∈ led) (hi : StrsAre vs ys) (hb : (ys.any (· == x)) = b) (h : Q (.bool b) s) :
    wpAny (model prog w) A (compareOp .In (.str x u) (.ref S)) Q E s := in_tuple_strs (News.isTup N hm) hi (by rw [hb]; exact h)
-- 27
-- 28
def byT (b : Bool) : List Pr := if b = true then [("word", "BY")] else []
def delT : Option Kd → List Pr
  | none => [("word", "SIZE")]
  | some k => k.toks
def delTree : Option Kd → Dt
  | none => .none
  | some k => k.tree
structure Grp where
  (ks : List Kd) (b : Bool) (d : Option Kd)
def Grp.tail (g : Grp) : List Pr := ("word", "DELIMITED") :: (byT g.b ++ delT g.d)
def Grp.toks (g : Grp) : List Pr := g.ks.flatMap Kd.toks ++ g.tail
def Grp.rows (g : Grp) : List Dt := g.ks.map fun k => .tup [k.tree, delTree g.d]
theorem delT_head (d : Option Kd) (l : List Pr) : ∃ k x l', delT d ++ l = (k, x) :: l' ∧ (x == ("BY" : PySem.Str)) = false := by
  rcases d with _ | k
  · exact ⟨_, _, _, rfl, rfl⟩
  · cases k <;> exact ⟨_, _, _, rfl, rfl⟩
theorem Kd.head_size (k : Kd) (l : List Pr) : ∃ kk x l', k.toks ++ l = (kk, x) :: l' ∧ ((kk == ("word" : PySem.Str)) && (x == ("SIZE" : PySem.Str))) = false := by
  cases k <;> exact ⟨_, _, _, rfl, rfl⟩
theorem Kd.head_all (k : Kd) (l : List Pr) : ∃ kk x l', k.toks ++ l = (kk, x) :: l' ∧ (x == ("ALL" : PySem.Str)) = false := by
  cases k <;> exact ⟨_, _, _, rfl, rfl⟩
inductive BegT : List Pr → Bool → Prop
  | text (k l) : BegT (Kd.toks k ++ l) true
  | nil : BegT [] false
  | delimited (l) : BegT (("word", "DELIMITED") :: l) false
  | into (l) : BegT (("word", "INTO") :: l) false
  | wth (l) : BegT (("word", "WITH") :: l) false
  | all (l) : BegT (("word", "ALL") :: l) false
  | dot (l) : BegT (("sign", ".") :: l) false
theorem calm_toks (k : Kd) (l : List Pr) : calm (k.toks ++ l) = true := by cases k <;> rfl
theorem calm_flat (ks : List Kd) {l : List Pr} (h : calm l = true) : calm (ks.flatMap Kd.toks ++ l) = true := by
  cases ks with
  | nil => exact h
  | cons k ks => rw [List.flatMap_cons, List.append_assoc]; exact calm_toks _ _
end
section
open PySem PySem.W PySem.Spec PySem.Calls PyProof.Rows
section
variable {w : World} {mean : ExcName → Option Value} {pq : Program} {lq : List PySem.Str} {mg mb : PySem.Str → Option Value} {dp un : Nat} {gd : Option (List Code)} {cn : PySem.Str} {cs : Scope} {a : Addr} {ccd : Value} {cl : List (PySem.Str × Addr)} {outer : List Env} {A₀ : Around} {base h₀ : Heap} {L : Addr} {m : PySem.Str → Option Value} {s : Shared}
  {Q E : Value → Shared → Prop} {led : List (Addr × Obj)} {r : RdI} {p : Int} {tp : Tok}
  (B : Below A₀ base outer h₀) (F : Fr h₀ L s.heap m) (X : (hd0.heap_1 w.params).In h₀) (N : News h₀ L s.heap led) (T : Top pq lq mean mg mb h₀) (hk : cs.kind = .function) (R : Rdr w r p tp led)
include B F X N T hk R
theorem word9_1 : True := by
  k_with_none
  (k_with "ktr_room" => first | exact lt_room (k := 1) hdp rfl rfl | exact lt_room (k := 0) hdp rfl rfl | exact lt_room0 (k := 1) hdp rfl rfl | exact lt_room0 (k := 0) hdp rfl rfl | fail "ktr_room")
  (k_with "ktr_units" => first | exact lt_room (k := 3) hun rfl rfl | exact lt_room (k := 0) hun rfl rfl | exact lt_room0 (k := 3) hun rfl rfl | exact lt_room0 (k := 0) hun rfl rfl | fail "ktr_units")
  (k_with "k_mem" => assumption)
  (k_with "cell_enter" => (refine' code_def (by k_asm) (by k_asm) (by k_asm) (by k_asm) (by k_asm) (by exact rfl) (by exact rfl) (by first | exact rfl | assumption) (by k_is) (by k_is) (by ktr_room) (by first | exact BindsTo.of_eq rfl | exact binds_K (by k_in) rfl (by k_is) rfl rfl rfl) (by exact locs rfl) ?_ (by exact rfl) (by exact rfl) (by exact rfl) (by decide); k_whole; intro g' L' h' FG' F' N' B' X' T'; (try dsimp only); (try k_lift B'); (try k_fold)))
  (k_with "call ref" => (k_here; (with_reducible show wpAny _ _ (call (Prod.fst _) _) _ _ _); (dsimp only [List.cons_append, List.nil_append]); walk_at "call ref"))
  (k_with "pyIter ref" => ((with_reducible show wpAny _ _ (pyIter (Value.ref _)) (fun it s₂ => LoopAtV _ _ _ _ _ _ _ _ _ it s₂) _ _); (rename Fr _ _ _ _ => lF'); (with_unfolding_all refine iter_listUnr (by rfl) lF' (by k_asm) (by k_mem) (by rfl) (by rfl) ?_); clear lF'; intro i' l1))
  (k_with "UnrEnd" => refine UnrEnd.intro (by assumption) (by assumption) _ (fun _ hp => hp) (fun q hq => Nat.ne_of_lt ((by assumption : ∀ p ∈ _, p.1 < _) q hq)) ⟨by k_mem, ?_⟩)
  (k_with "exec Assign cons ListComp" => (k_here; (with_reducible show wpAny _ _ (exec (Stmt.Assign _ (PySem.Expr.ListComp _ [⟨_, _, [], _⟩] _ _) _) _) _ _ _); k_dflt (refine AssignComp_S (F₀ := by k_asm) (by rfl) (by with_unfolding_all rfl) (by with_unfolding_all rfl) (by decide) (by rfl) (by decide) (by rfl) (by rfl) (by rfl) (by rfl) ?_)))
  (k_with "eval ListComp" => (k_here; (with_reducible show wpAny _ _ (eval (PySem.Expr.ListComp _ [⟨_, _, [_], _⟩] _ _) _) _ _ _); k_dflt (refine LCt.ListComp_T (F₀ := by k_asm) (by with_unfolding_all rfl) (by decide) (by rfl) (by decide) (by rfl) ?_)))
  exact True.intro
omit R in
theorem octets_spec {x : PySem.Str} {xt : Tok} (h1 : x.cps.all (· < 128) = true) (h2 : x.cps.size ≤ 1000) (hdp : dp + 1 < recursionLimit) (hun : un + 8 < cLine)
    (hret : ∀ tt h' tk', Fr h₀ L h' m → News h₀ L h' led → Q (.bytes ((x.cps.toList.map fun (c : Nat) => (c : Int)).map fun n => n.toNat.toUInt8).toArray tt) { s with heap := h', toks := tk' }) :
    wpAny (model P0 w) (ktrTop dp un gd cn cs L a ccd cl outer) (call (.ref 296) [.str x xt]) Q E s := by
  refine wpAny_call ?_
  k_dflt cell_enter
  k_steps
  unfold SrcS
  refine ⟨_, _, _, rfl, by k_asm, by k_asm, h1, Nat.le_trans h2 (by decide), ?_⟩
  rintro s₂ ⟨g, rfl⟩
  refine rest_S ?turn ?fin
  case turn =>
    intro c u I oI C oC D m₂ ys h tk E' hc hC hx F' N' off ne
    k_steps
    exact LCg.CompEnd.intro (by assumption) (by assumption) _ (fun _ h => h) (by assumption) trivial ⟨rfl, _, rfl⟩
  case fin =>
    intro ys hys
    unfold LCg.FinA
    intro D h' tk F' N' o1
    k_steps
    have hbnd : ∀ k ∈ (x.cps.toList.map fun (c : Nat) => (c : Int)), 0 ≤ k ∧ k < 128 := fun k hk => by
      obtain ⟨c, hc, rfl⟩ := List.mem_map.mp hk
      have := Array.all_eq_true'.mp h1 c (Array.mem_toList_iff.mp hc)
      simp only [decide_eq_true_eq] at this
      omega
    have hsz : ys.toArray.size ≤ sizeLine := by
      have e1 := hys.length
      have e2 : (x.cps.toList.map fun (c : Nat) => (c : Int)).length = x.cps.size := by rw [List.length_map, Array.length_toList]
      have e3 : ys.length ≤ 1000 := by omega
      rw [List.size_toArray]
      exact Nat.le_trans e3 (show 1000 ≤ sizeLine by decide)
    refine LCt.CompSrcT.ledger (by rfl) (by k_asm) (by k_asm) (by k_mem) hsz ?_
    intro g'
    refine rest_T hys ?turn ?fin
    case turn =>
      intro k u I oI C oC D2 m₂ ys2 h2 tk2 E' hc hC hx F2 N2 off ne
      have hk := hbnd k hc
      k_steps
      · rw [decide_eq_false_iff_not]; omega
      · exact LCg.CompEnd.intro (by assumption) (by assumption) _ (fun _ h => h) (by assumption) (.inr ⟨_, by k_mem, rfl, _, rfl⟩) rfl
    case fin =>
      unfold LCg.FinE
      intro D2 h2 tk2 F2 N2 o2
      k_steps
      refine bytes_K (by k_asm) (by k_asm) (News.isList N2 (by k_mem)) hys (fun k hc => by have := hbnd k hc; omega) ?_ (by rfl) ?_
      · rw [← List.size_toArray]; exact hsz
      intro h3 t3 k3 F3 N3 hB
      k_steps
      all_goals exact hret _ _ _ (by k_asm) (News.drop (News.drop (by k_asm)))
end
end
section
open PySem PySem.W PySem.Spec PySem.Calls PyProof.Rows
structure FigX (x : PySem.Str) (c : Nat) (k : Int) : Prop where
  cs : x.cps.toList = [c]
  asc : x.cps.all (· < 128) = true
  fnd : (0 * 10 + Txt.find (PySem.Str.ofString "0123456789") { cps := #[c] } : Int) = k
  fig : (PySem.Builtin.Str.occurrences (PySem.Str.ofString "0123456789") { cps := #[c] } 0 (PySem.Str.ofString "0123456789").length 1).isEmpty = false
  len : x.length = 1
  h1 : ([PySem.Str.ofString "+", PySem.Str.ofString "-"].any fun y => y == PySem.Txt.slice x none (some 1)) = false
  h2 : (!(PySem.Builtin.Str.occurrences (PySem.Txt.slice x (some 0) none) (PySem.Str.ofString ".") 0 (PySem.Txt.slice x (some 0) none).length 1).isEmpty) = false
  h3 : PySem.Txt.slice x (some 0) none ++ PySem.Str.ofString "" = x
  h4 : (x == PySem.Str.ofString "") = false
  h5 : Nat.ble ((PySem.Txt.slice x (some 0) none).length + (PySem.Str.ofString "").length) sizeLine = true
  h6 : (!(!(PySem.Builtin.Str.occurrences (PySem.Str.ofString "0123456789") (PySem.Txt.item x (0 + ((0 : Nat) : Int))) 0 (PySem.Str.ofString "0123456789").length 1).isEmpty)) = false
  h7 : (PySem.Txt.slice x none (some 1) == PySem.Str.ofString "-") = false
theorem fig_0 : FigX "0" 48 0 := ⟨rfl, by decide +kernel, by decide +kernel, by decide +kernel, rfl, by decide +kernel, by decide +kernel, by decide +kernel, by decide +kernel, by decide +kernel, by decide +kernel, by decide +kernel⟩
theorem fig_1 : FigX "1" 49 1 := ⟨rfl, by decide +kernel, by decide +kernel, by decide +kernel, rfl, by decide +kernel, by decide +kernel, by decide +kernel, by decide +kernel, by decide +kernel, by decide +kernel, by decide +kernel⟩
theorem fig_2 : FigX "2" 50 2 := ⟨rfl, by decide +kernel, by decide +kernel, by decide +kernel, rfl, by decide +kernel, by decide +kernel, by decide +kernel, by decide +kernel, by decide +kernel, by decide +kernel, by decide +kernel⟩
theorem fig_7 : FigX "7" 55 7 := ⟨rfl, by decide +kernel, by decide +kernel, by decide +kernel, rfl, by decide +kernel, by decide +kernel, by decide +kernel, by decide +kernel, by decide +kernel, by decide +kernel, by decide +kernel⟩
theorem fig_ne {b : Bool} (h : b = false) : ¬ b = true := by rw [h]; exact Bool.false_ne_true
section
section
variable {w : World} {mean : ExcName → Option Value} {pq : Program} {lq : List PySem.Str} {mg mb : PySem.Str → Option Value} {dp un : Nat} {gd : Option (List Code)} {cn : PySem.Str} {cs : Scope} {a : Addr} {ccd : Value} {cl : List (PySem.Str × Addr)} {outer : List Env} {A₀ : Around} {base h₀ : Heap} {L : Addr} {m : PySem.Str → Option Value} {s : Shared}
  {Q E : Value → Shared → Prop} {led : List (Addr × Obj)} {r : RdI} {p : Int} {tp : Tok}
  (B : Below A₀ base outer h₀) (F : Fr h₀ L s.heap m) (X : (hd0.heap_1 w.params).In h₀) (N : News h₀ L s.heap led) (T : Top pq lq mean mg mb h₀) (hk : cs.kind = .function) (R : Rdr w r p tp led)
include B F X N T hk R
theorem word12_1 : True := by
  k_with_none
  (k_with "ktr_room" => first | exact lt_room (k := 1) hdp rfl rfl | exact lt_room (k := 0) hdp rfl rfl | exact lt_room0 (k := 1) hdp rfl rfl | exact lt_room0 (k := 0) hdp rfl rfl | fail "ktr_room")
  (k_with "ktr_units" => first | exact lt_room (k := 3) hun rfl rfl | exact lt_room (k := 0) hun rfl rfl | exact lt_room0 (k := 3) hun rfl rfl | exact lt_room0 (k := 0) hun rfl rfl | fail "ktr_units")
  (k_with "k_mem" => assumption)
  (k_with "cell_enter" => (refine' code_def (by k_asm) (by k_asm) (by k_asm) (by k_asm) (by k_asm) (by exact rfl) (by exact rfl) (by first | exact rfl | assumption) (by k_is) (by k_is) (by ktr_room) (by first | exact BindsTo.of_eq rfl | exact binds_K (by k_in) rfl (by k_is) rfl rfl rfl) (by exact locs rfl) ?_ (by exact rfl) (by exact rfl) (by exact rfl) (by decide); k_whole; intro g' L' h' FG' F' N' B' X' T'; (try dsimp only); (try k_lift B'); (try k_fold)))
  (k_with "call ref" => (k_here; (with_reducible show wpAny _ _ (call (Prod.fst _) _) _ _ _); (dsimp only [List.cons_append, List.nil_append]); walk_at "call ref"))
  (k_with "exec While" => (k_here; k_dflt (refine whl_start 100 ?_)))
  (k_with "exec While BoolOp" => (k_here; k_dflt (refine whl_start 100 ?_)))
  (k_with "exec While Compare" => (k_here; k_dflt (refine whl_start 100 ?_)))
  (k_with "exec While UnaryOp" => (k_here; k_dflt (refine whl_start 100 ?_)))
  (k_with "exec While Call" => (k_here; k_dflt (refine whl_start 100 ?_)))
  (k_with "exec For Name Name cons nil" => (k_here; (rename Fr _ _ _ _ => lF'); (with_unfolding_all refine' For_invVF lF' (by exact rfl) (by exact rfl) ?_; k_whole)))
  (k_with "pyIter str" => ((with_reducible show wpAny _ _ (pyIter (Value.str _ _)) (fun it s₂ => LoopAtV _ _ _ _ _ _ _ _ _ it s₂) _ _); (rename Fr _ _ _ _ => lF'); (with_unfolding_all refine iter_strUnr (cs := [c]) (by rfl) lF' (by k_asm) H.cs H.asc ?_); clear lF'; intro i' l1))
  (k_with "StrRest" => (with_unfolding_all first | (refine StrRest.succ (fun it' h' tk' u' F' N' => ?_)) | (refine StrRest.zero (fun h' tk' F' N' => ?_))))
  (k_with "UnrEnd" => refine UnrEnd.intro (by assumption) (by assumption) _ (fun _ hp => hp) (fun q hq => Nat.ne_of_lt ((by assumption : ∀ p ∈ _, p.1 < _) q hq)) ?_)
  exact True.intro
omit R in
theorem worth_of_c {x : PySem.Str} {c : Nat} {k : Int} {xt : Tok} (H : FigX x c k) (hdp : dp + 1 < recursionLimit) (hun : un + 8 < cLine)
    (hret : ∀ tt h' tk', Fr h₀ L h' m → News h₀ L h' led → Q (.int k tt) { s with heap := h', toks := tk' }) :
    wpAny (model P0 w) (ktrTop dp un gd cn cs L a ccd cl outer) (call (.ref 124) [.str x xt]) Q E s := by
  have e1 := H.len
  have e3 := H.fnd
  have hF := H.fig
  subst e3
  refine wpAny_call ?_
  k_dflt cell_enter
  k_steps
  all_goals first
    | (exact hret _ _ _ (by k_asm) (by first | k_asm | exact News.drop (by k_asm) | exact News.drop (News.drop (by k_asm)) | exact News.drop (News.drop (News.drop (by k_asm))) | exact News.drop (News.drop (News.drop (News.drop (by k_asm)))) | exact News.drop (News.drop (News.drop (News.drop (News.drop (by k_asm)))))))
    | exact absurd (hF.symm.trans (by assumption)) Bool.false_ne_true
omit R in
theorem decimal_c {k : Int} {xt yt : Tok} (hdp : dp + 1 < recursionLimit) (hun : un + 8 < cLine)
    (hret : ∀ v h' tk' led', Fr h₀ L h' m → News h₀ L h' led' → (∀ q ∈ led, q ∈ led') → DV led' v (.tup [.int k, .int 0]) → Q v { s with heap := h', toks := tk' }) :
    wpAny (model P0 w) (ktrTop dp un gd cn cs L a ccd cl outer) (call (.ref 89) [.int k xt, .int 0 yt]) Q E s := by
  refine wpAny_call ?_
  k_dflt cell_enter
  k_steps
  all_goals exact hret _ _ _ _ (by k_asm) (by k_asm) (fun _ h => .tail _ h) (DV.tup (by k_mem) (.cons (.int _ _) (.cons (.int _ _) .nil)))
end
end
section
section
variable {w : World} {mean : ExcName → Option Value} {pq : Program} {lq : List PySem.Str} {mg mb : PySem.Str → Option Value} {dp un : Nat} {gd : Option (List Code)} {cn : PySem.Str} {cs : Scope} {a : Addr} {ccd : Value} {cl : List (PySem.Str × Addr)} {outer : List Env} {A₀ : Around} {base h₀ : Heap} {L : Addr} {m : PySem.Str → Option Value} {s : Shared}
  {Q E : Value → Shared → Prop} {led : List (Addr × Obj)} {r : RdI} {p : Int} {tp : Tok}
  (B : Below A₀ base outer h₀) (F : Fr h₀ L s.heap m) (X : (hd0.heap_1 w.params).In h₀) (N : News h₀ L s.heap led) (T : Top pq lq mean mg mb h₀) (hk : cs.kind = .function) (R : Rdr w r p tp led)
include B F X N T hk R
theorem word12_2 : True := by
  k_with_none
  (k_with "ktr_room" => first | exact lt_room (k := 1) hdp rfl rfl | exact lt_room (k := 0) hdp rfl rfl | exact lt_room0 (k := 1) hdp rfl rfl | exact lt_room0 (k := 0) hdp rfl rfl | fail "ktr_room")
  (k_with "ktr_units" => first | exact lt_room (k := 3) hun rfl rfl | exact lt_room (k := 0) hun rfl rfl | exact lt_room0 (k := 3) hun rfl rfl | exact lt_room0 (k := 0) hun rfl rfl | fail "ktr_units")
  (k_with "k_mem" => assumption)
  (k_with "cell_enter" => (refine' code_def (by k_asm) (by k_asm) (by k_asm) (by k_asm) (by k_asm) (by exact rfl) (by exact rfl) (by first | exact rfl | assumption) (by k_is) (by k_is) (by ktr_room) (by first | exact BindsTo.of_eq rfl | exact binds_K (by k_in) rfl (by k_is) rfl rfl rfl) (by exact locs rfl) ?_ (by exact rfl) (by exact rfl) (by exact rfl) (by decide); k_whole; intro g' L' h' FG' F' N' B' X' T'; (try dsimp only); (try k_lift B'); (try k_fold)))
  (k_with "call ref" => (k_here; (with_reducible show wpAny _ _ (call (Prod.fst _) _) _ _ _); (dsimp only [List.cons_append, List.nil_append]); walk_at "call ref"))
  (k_with "exec While" => (k_here; k_dflt (refine whl_start 100 ?_)))
  (k_with "exec While BoolOp" => (k_here; k_dflt (refine whl_start 100 ?_)))
  (k_with "exec While Compare" => (k_here; k_dflt (refine whl_start 100 ?_)))
  (k_with "exec While UnaryOp" => (k_here; k_dflt (refine whl_start 100 ?_)))
  (k_with "exec While Call" => (k_here; k_dflt (refine whl_start 100 ?_)))
  (k_with "compareOp In str str" => (k_here; (with_reducible show wpAny _ _ (compareOp CmpOp.In (Value.str _ _) (Value.str _ _)) _ _ _); k_dflt (first | refine in_lit (b := false) H.h2 ?_ | refine in_lit (b := true) (by decide +kernel) ?_ | refine in_lit (b := false) (by decide +kernel) ?_)))
  (k_with "compareOp NotIn str str" => (k_here; (with_reducible show wpAny _ _ (compareOp CmpOp.NotIn (Value.str _ _) (Value.str _ _)) _ _ _); k_dflt (first | refine notin_lit (b := false) H.h6 ?_ | refine notin_lit (b := true) (by decide +kernel) ?_ | refine notin_lit (b := false) (by decide +kernel) ?_)))
  (k_with "binaryOp Add str str" => (k_here; (with_reducible show wpAny _ _ (binaryOp Operator.Add (Value.str _ _) (Value.str _ _)) _ _ _); k_dflt (refine add_lit (z := x) H.h3 (Nat.le_of_ble_eq_true H.h5) ?_; intro t9 tk9)))
  (k_with "UnrEnd" => first | refine UnrEnd.intro (by assumption) (by assumption) _ (fun _ hp => hp) (fun q hq => Nat.ne_of_lt ((by assumption : ∀ p ∈ _, p.1 < _) q hq)) ⟨by k_mem, ?_⟩ | (refine UnrEnd.intro (by assumption) (by assumption) _ (fun _ hp => hp) (fun q hq => Nat.ne_of_lt (first_lt (by assumption) q hq)) ?_))
  (k_with "call ref" => (k_here; (with_reducible show wpAny _ _ (call (Value.ref 124) [Value.str _ _]) _ _ _); k_dflt (refine' worth_of_c (by k_asm) (by k_asm) (by k_in) (by k_asm) (by k_asm) (by first | exact rfl | assumption) H (by ktr_room) (by ktr_units) ?_); intro t9 h9 tk9 F9 N9; (try dsimp only [tkV]); (try k_fold)))
  (k_with "call ref" => (k_here; (with_reducible show wpAny _ _ (call (Value.ref 89) [Value.int _ _, Value.int _ _]) _ _ _); k_dflt (refine' decimal_c (by k_asm) (by k_asm) (by k_in) (by k_asm) (by k_asm) (by first | exact rfl | assumption) (by ktr_room) (by ktr_units) ?_); intro v9 h9 tk9 led9 F9 N9 S9 D9; (try dsimp only [tkV]); (try k_fold)))
  (k_with "ite" => first | refine ite_neg (by first | exact fig_ne H.h1 | exact fig_ne H.h4 | exact fig_ne H.h7) ?_ | fail "ite")
  (k_with "pyIter ref" => exact absurd (by assumption : ((x.length : Nat) : Int) = 0) (by rw [H.len]; decide))
  exact True.intro
omit R in
theorem read_decimal_c {x : PySem.Str} {c : Nat} {k : Int} {xt : Tok} (H : FigX x c k) (hdp : dp + 3 < recursionLimit) (hun : un + 24 < cLine)
    (hret : ∀ v h' tk' led', Fr h₀ L h' m → News h₀ L h' led' → (∀ q ∈ led, q ∈ led') → DV led' v (.tup [.int k, .int 0]) → Q v { s with heap := h', toks := tk' }) :
    wpAny (model P0 w) (ktrTop dp un gd cn cs L a ccd cl outer) (call (.ref 131) [.str x xt]) Q E s := by
  have e1 := H.len
  refine wpAny_call ?_
  k_dflt cell_enter
  k_steps
  all_goals first | exact hret _ _ _ _ (by k_asm) (by k_asm) (sub_of (by assumption) fun q h => (by first | exact h | exact .tail _ h | exact .tail _ (.tail _ h) | exact .tail _ (.tail _ (.tail _ h)) | exact .tail _ (.tail _ (.tail _ (.tail _ h))) | exact .tail _ (.tail _ (.tail _ (.tail _ (.tail _ h)))) | exact .tail _ (.tail _ (.tail _ (.tail _ (.tail _ (.tail _ h))))) | exact .tail _ (.tail _ (.tail _ (.tail _ (.tail _ (.tail _ (.tail _ h)))))) | exact .tail _ (.tail _ (.tail _ (.tail _ (.tail _ (.tail _ (.tail _ (.tail _ h))))))) | exact .tail _ (.tail _ (.tail _ (.tail _ (.tail _ (.tail _ (.tail _ (.tail _ (.tail _ h)))))))))) (by assumption)
end
end
end
section
open PySem PySem.W PySem.Spec PySem.Calls PyProof.Rows
inductive Vt where
  | dt (d : Dt)
  | lst (l : List Vt)
  | tup (l : List Vt)
mutual
inductive VV (led : List (Addr × Obj)) : Value → Vt → Prop
  | dt {v d} : DV led v d → VV led v (.dt d)
  | lst {a vs n ds} : (a, lstO vs n) ∈ led → VVs led vs ds → VV led (.ref a) (.lst ds)
  | tup {a vs n ds} : (a, ({ cls := .type "tuple", data := .seq (List.toArray vs) n } : Obj)) ∈ led → VVs led vs ds → VV led (.ref a) (.tup ds)
inductive VVs (led : List (Addr × Obj)) : List Value → List Vt → Prop
  | nil : VVs led [] []
  | cons {v vs d ds} : VV led v d → VVs led vs ds → VVs led (v :: vs) (d :: ds)
end
def LT (o : Obj) : Prop := o.cls = .type "list" ∨ o.cls = .type "tuple"
theorem VV.map {a b : List (Addr × Obj)} (kt : ∀ x vs n, (x, ({ cls := .type "tuple", data := .seq (List.toArray vs) n } : Obj)) ∈ a → (x, ({ cls := .type "tuple", data := .seq (List.toArray vs) n } : Obj)) ∈ b) (kl : ∀ x vs n, (x, lstO vs n) ∈ a → (x, lstO vs n) ∈ b) (kd : ∀ {v d}, DV a v d → DV b v d) {v : Value} {d : Vt} (h : VV a v d) : VV b v d :=
  VV.rec (motive_1 := fun v d _ => VV b v d) (motive_2 := fun vs ds _ => VVs b vs ds) (fun h => .dt (kd h)) (fun h _ r => .lst (kl _ _ _ h) r) (fun h _ r => .tup (kt _ _ _ h) r) .nil (fun _ _ h r => .cons h r) h
theorem VVs.ind {led : List (Addr × Obj)} {M : List Value → List Vt → Prop} (h0 : M [] []) (h1 : ∀ v vs d ds, VV led v d → VVs led vs ds → M vs ds → M (v :: vs) (d :: ds)) {vs : List Value} {ds : List Vt} (h : VVs led vs ds) : M vs ds :=
  VVs.rec (motive_1 := fun _ _ _ => True) (motive_2 := fun vs ds _ => M vs ds) (fun _ => trivial) (fun _ _ _ => trivial) (fun _ _ _ => trivial) h0 (fun a b _ r => h1 _ _ _ _ a b r) h
theorem VV.lt {a b : List (Addr × Obj)} (k : ∀ q ∈ a, LT q.2 → q ∈ b) {v : Value} {d : Vt} (h : VV a v d) : VV b v d := h.map (fun _ _ _ h => k _ h (.inr rfl)) (fun _ _ _ h => k _ h (.inl rfl)) fun h => h.off fun _ _ hm _ hc => k _ hm (.inr hc)
theorem VVs.lt {a b : List (Addr × Obj)} (k : ∀ q ∈ a, LT q.2 → q ∈ b) {v : List Value} {d : List Vt} (h : VVs a v d) : VVs b v d := h.ind .nil fun _ _ _ _ h _ r => .cons (h.lt k) r
theorem VV.sub {a b : List (Addr × Obj)} (k : ∀ q ∈ a, q ∈ b) {v : Value} {d : Vt} (h : VV a v d) : VV b v d := h.lt fun q hq _ => k q hq
theorem VVs.sub {a b : List (Addr × Obj)} (k : ∀ q ∈ a, q ∈ b) {v : List Value} {d : List Vt} (h : VVs a v d) : VVs b v d := h.lt fun q hq _ => k q hq
inductive AV where
  | int (k : Int) | str (x : PySem.Str) | val (v : Value) | dt (d : Dt) | strs (ws : List PySem.Str) | tok (r : RdI) (q : Pr) | any | vt (V : Vt) | nil
-- the entries that κ holds
noncomputable def fl (κ : Addr × Obj → Prop) (led : List (Addr × Obj)) : List (Addr × Obj) := led.filter fun q => @decide (κ q) (Classical.propDecidable _)
theorem mem_fl {κ : Addr × Obj → Prop} {led : List (Addr × Obj)} {q : Addr × Obj} : q ∈ fl κ led ↔ q ∈ led ∧ κ q := by
  unfold fl
  rw [List.mem_filter]
  exact and_congr_right fun _ => @decide_eq_true_iff _ (Classical.propDecidable _)
def Kr (κ : Addr × Obj → Prop) (a b : List (Addr × Obj)) : Prop := ∀ q ∈ a, κ q → q ∈ b
theorem Kr.refl {κ : Addr × Obj → Prop} (a : List (Addr × Obj)) : Kr κ a a := fun _ h _ => h
theorem Kr.trans {κ : Addr × Obj → Prop} {a b c : List (Addr × Obj)} (h : Kr κ a b) (k : Kr κ b c) : Kr κ a c := fun q hq e => k q (h q hq e) e
theorem Kr.sub {κ : Addr × Obj → Prop} {a b : List (Addr × Obj)} (h : ∀ q ∈ a, q ∈ b) : Kr κ a b := fun q hq _ => h q hq
theorem Kr.cons {κ : Addr × Obj → Prop} {a : List (Addr × Obj)} {x : Addr × Obj} : Kr κ a (x :: a) := fun _ hq _ => .tail _ hq
theorem Kr.fl {κ : Addr × Obj → Prop} {a b : List (Addr × Obj)} (k : Kr κ a b) : ∀ q ∈ fl κ a, q ∈ fl κ b := fun q hq => let ⟨h1, h2⟩ := mem_fl.mp hq; mem_fl.mpr ⟨k q h1 h2, h2⟩
def isTL (o : Obj) : Prop := (isDict o = false ∧ o.cls = .type "tuple") ∨ ∃ vs ws n, vs ≠ [] ∧ o = lstO vs n ∧ StrsAre vs ws
theorem isTL.dict {o : Obj} (h : isTL o) : isDict o = false := by
  rcases h with ⟨h, _⟩ | ⟨vs, ws, n, _, h, _⟩
  · exact h
  · rw [h]; rfl
def AV.On (κ : Addr × Obj → Prop) (led : List (Addr × Obj)) (v : Value) : AV → Prop
  | .int k => ∃ t, v = .int k t
  | .str x => ∃ t, v = .str x t
  | .val u => v = u
  | .dt d => DV led v d
  | .strs ws => ∃ a vs n, v = .ref a ∧ (a, lstO vs n) ∈ led ∧ StrsAre vs ws ∧ vs ≠ []
  | .tok r q => ∃ t ∈ r.T, v = .ref t.a ∧ t.k = q.1 ∧ t.x = q.2
  | .any => True
  | .vt V => VV (fl κ led) v V
  | .nil => ∃ a n, v = .ref a ∧ (a, lstO [] n) ∈ fl κ led
theorem DV.tups {a b : List (Addr × Obj)} (k : ∀ q ∈ a, isTL q.2 → q ∈ b) {v : Value} {d : Dt} (h : DV a v d) : DV b v d := h.off fun x o hm hd hc => k _ hm (.inl ⟨hd, hc⟩)
theorem AV.On.tl {κ : Addr × Obj → Prop} {a b : List (Addr × Obj)} (k : ∀ q ∈ a, isTL q.2 → q ∈ b) (k2 : ∀ q ∈ a, κ q → LT q.2 → q ∈ b) {v : Value} : ∀ {x : AV}, x.On κ a v → x.On κ b v
  | .int _, h => h
  | .str _, h => h
  | .val _, h => h
  | .dt _, h => DV.tups k h
  | .strs ws, ⟨a, vs, n, e, h, r, z⟩ => ⟨a, vs, n, e, k _ h (.inr ⟨vs, ws, n, z, rfl, r⟩), r, z⟩
  | .tok _ _, h => h
  | .any, h => h
  | .vt _, h => VV.lt (fun q hq l => let ⟨h1, h2⟩ := mem_fl.mp hq; mem_fl.mpr ⟨k2 q h1 h2 l, h2⟩) h
  | .nil, ⟨a, n, e, h⟩ => ⟨a, n, e, let ⟨h1, h2⟩ := mem_fl.mp h; mem_fl.mpr ⟨k2 _ h1 h2 (.inl rfl), h2⟩⟩
def AV.plain : AV → Bool
  | .vt _ => false
  | .nil => false
  | _ => true
theorem AV.On.to {κ κ' : Addr × Obj → Prop} {led : List (Addr × Obj)} {v : Value} : ∀ {x : AV}, x.plain = true → x.On κ led v → x.On κ' led v
  | .int _, _, h => h
  | .str _, _, h => h
  | .val _, _, h => h
  | .dt _, _, h => h
  | .strs _, _, h => h
  | .tok _ _, _, h => h
  | .any, _, h => h
theorem AV.On.up {κ κ' : Addr × Obj → Prop} (s : ∀ q, κ q → κ' q) {led : List (Addr × Obj)} {v : Value} : ∀ {x : AV}, x.On κ led v → x.On κ' led v
  | .int _, h => h
  | .str _, h => h
  | .val _, h => h
  | .dt _, h => h
  | .strs _, h => h
  | .tok _ _, h => h
  | .any, h => h
  | .vt _, h => VV.sub (fun q hq => let ⟨h1, h2⟩ := mem_fl.mp hq; mem_fl.mpr ⟨h1, s q h2⟩) h
  | .nil, ⟨a, n, e, h⟩ => ⟨a, n, e, let ⟨h1, h2⟩ := mem_fl.mp h; mem_fl.mpr ⟨h1, s _ h2⟩⟩
noncomputable def OnAll (κ : Addr × Obj → Prop) (led : List (Addr × Obj)) : List Value → List AV → Prop
  | [], [] => True
  | v :: vs, a :: as => a.On κ led v ∧ OnAll κ led vs as
  | _, _ => False
theorem OnAll.l1 {κ : Addr × Obj → Prop} {led : List (Addr × Obj)} {vs : List Value} {a : AV} {P : Prop} (o : OnAll κ led vs [a]) (k : ∀ v, vs = [v] → a.On κ led v → P) : P := by
  cases vs with
  | nil => exact o.elim
  | cons v vs =>
    cases vs with
    | nil => exact k v rfl o.1
    | cons u vs => exact o.2.elim
theorem OnAll.l2 {κ : Addr × Obj → Prop} {led : List (Addr × Obj)} {vs : List Value} {a b : AV} {P : Prop} (o : OnAll κ led vs [a, b]) (k : ∀ v u, vs = [v, u] → a.On κ led v → b.On κ led u → P) : P := by
  cases vs with
  | nil => exact o.elim
  | cons v vs => exact OnAll.l1 o.2 fun u e h => k v u (by rw [e]) o.1 h
theorem OnAll.l3 {κ : Addr × Obj → Prop} {led : List (Addr × Obj)} {vs : List Value} {a b c : AV} {P : Prop} (o : OnAll κ led vs [a, b, c]) (k : ∀ v u x, vs = [v, u, x] → a.On κ led v → b.On κ led u → c.On κ led x → P) : P := by
  cases vs with
  | nil => exact o.elim
  | cons v vs => exact OnAll.l2 o.2 fun u x e h h' => k v u x (by rw [e]) o.1 h h'
theorem VV.tup2 {led : List (Addr × Obj)} {v : Value} {A B : Vt} {P : Prop} (h : VV led v (.tup [A, B])) (k : ∀ (t : Addr) (n : Nat) (x y : Value), v = .ref t → (t, ({ cls := .type "tuple", data := .seq (List.toArray [x, y]) n } : Obj)) ∈ led → VV led x A → VV led y B → P) : P := by
  cases h with
  | tup m r =>
    cases r with
    | cons d1 r =>
      cases r with
      | cons d2 r => cases r; exact k _ _ _ _ rfl m d1 d2
theorem VV.tup3 {led : List (Addr × Obj)} {v : Value} {A B C : Vt} {P : Prop} (h : VV led v (.tup [A, B, C])) (k : ∀ (t : Addr) (n : Nat) (x y z : Value), v = .ref t → (t, ({ cls := .type "tuple", data := .seq (List.toArray [x, y, z]) n } : Obj)) ∈ led → VV led x A → VV led y B → VV led z C → P) : P := by
  cases h with
  | tup m r =>
    cases r with
    | cons d1 r =>
      cases r with
      | cons d2 r =>
        cases r with
        | cons d3 r => cases r; exact k _ _ _ _ _ rfl m d1 d2 d3
theorem OnAll.up {κ κ' : Addr × Obj → Prop} (s : ∀ q, κ q → κ' q) {led : List (Addr × Obj)} : ∀ {vs : List Value} {as : List AV}, OnAll κ led vs as → OnAll κ' led vs as
  | [], [], _ => trivial
  | _ :: _, _ :: _, ⟨h, r⟩ => ⟨h.up s, OnAll.up s r⟩
structure Fn where
  (qual : PySem.Str) (scope : Scope) (a : Addr) (cd : Value)
structure Cx (w : World) (κ : Addr × Obj → Prop) (f : Fn) where
  (pq : Program) (lq : List PySem.Str) (mean : ExcName → Option Value) (mg mb : PySem.Str → Option Value)
  (A A₀ : Around) (base h₀ : Heap) (L : Addr) (cl : List (PySem.Str × Addr)) (outer : List Env) (g : Shared)
  hκ : ∀ a o, isTL o → κ (a, o)
  B : Below A₀ base outer h₀
  X : (hd0.heap_1 w.params).In h₀
  T : Top pq lq mean mg mb h₀
  hA : A.frames = some (envX f.qual f.scope L f.a f.cd cl :: outer)
  hh : A.handled = none
  hk : f.scope.kind = .function
abbrev Cx.env {w : World} {κ : Addr × Obj → Prop} {f : Fn} (C : Cx w κ f) : Env := envX f.qual f.scope C.L f.a f.cd C.cl
def Same (g s : Shared) : Prop := s.gens = g.gens ∧ s.drawn = g.drawn ∧ s.os = g.os
structure St {w : World} {κ : Addr × Obj → Prop} {f : Fn} (C : Cx w κ f) (lv : List (PySem.Str × AV)) (I : List (Addr × Obj) → Prop) (led : List (Addr × Obj)) (s : Shared) : Prop where
  same : Same C.g s
  N : News C.h₀ C.L s.heap led
  F : ∃ m, Fr C.h₀ C.L s.heap m ∧ ∀ q ∈ lv, ∃ v, m q.1 = some v ∧ q.2.On κ led v
  I : I led
section
variable {w : World} {κ : Addr × Obj → Prop} {f : Fn} {C : Cx w κ f} {lv lv' lv1 lv2 : List (PySem.Str × AV)} {I I1 I2 I' : List (Addr × Obj) → Prop} {led led1 : List (Addr × Obj)} {s : Shared} {α : Type}
theorem St.tok {k : Nat} (h : St C lv I led s) : St C lv I led { s with toks := k } := ⟨h.same, h.N, h.F, h.I⟩
def Po (C : Cx w κ f) (lv : List (PySem.Str × AV)) (I : List (Addr × Obj) → Prop) (led : List (Addr × Obj)) (R : List (Addr × Obj) → α → Prop) (v : α) (s' : Shared) : Prop := ∃ led', Kr κ led led' ∧ St C lv I led' s' ∧ R led' v
def Tr (C : Cx w κ f) (lv : List (PySem.Str × AV)) (I : List (Addr × Obj) → Prop) (t : Sem α) (lv' : List (PySem.Str × AV)) (I' : List (Addr × Obj) → Prop) (R : List (Addr × Obj) → α → Prop) : Prop :=
  ∀ led s, St C lv I led s → wpAny (model P0 w) C.A t (Po C lv' I' led R) (fun _ _ => False) s
abbrev NoE : Value → Shared → Prop := fun _ _ => False
theorem Tr.to {t : Sem α} {R : List (Addr × Obj) → α → Prop} (h : Tr C lv I t lv1 I1 R) (hs : St C lv I led s) {Q : α → Shared → Prop} (k : ∀ v s1 led1, Kr κ led led1 → St C lv1 I1 led1 s1 → R led1 v → Q v s1) : wpAny (model P0 w) C.A t Q NoE s :=
  wpAny_mono (h led s hs) (fun v s1 ⟨led1, k1, h1, r⟩ => k v s1 led1 k1 h1 r) fun _ _ e => e
theorem Po.same {R : List (Addr × Obj) → α → Prop} {v : α} (h : St C lv I led s) (r : R led v) : Po C lv I led R v s := ⟨led, Kr.refl _, h, r⟩
theorem Po.trans {R : List (Addr × Obj) → α → Prop} {v : α} (k : Kr κ led led1) (h : Po C lv I led1 R v s) : Po C lv I led R v s := let ⟨l, k1, h1, r⟩ := h; ⟨l, k.trans k1, h1, r⟩
theorem wpo {t : Sem α} {R : List (Addr × Obj) → α → Prop} (k : Kr κ led led1) (h : wpAny (model P0 w) C.A t (Po C lv I led1 R) NoE s) : wpAny (model P0 w) C.A t (Po C lv I led R) NoE s := wpAny_mono h (fun _ _ p => p.trans k) fun _ _ e => e
structure Ev (C : Cx w κ f) (lv : List (PySem.Str × AV)) (I : List (Addr × Obj) → Prop) (e : PySem.Expr) (a : AV) (I' : List (Addr × Obj) → Prop) : Prop where
  h : Tr C lv I (eval e C.env) lv I' fun led v => a.On κ led v
structure Ts (C : Cx w κ f) (lv : List (PySem.Str × AV)) (I : List (Addr × Obj) → Prop) (e : PySem.Expr) (b : Bool) (I' : List (Addr × Obj) → Prop) : Prop where
  h : Tr C lv I (PySem.isTrue e C.env (eval e C.env)) lv I' fun _ c => c = b
def notStar : PySem.Expr → Bool
  | .Starred _ _ => false
  | _ => true
structure Evs (C : Cx w κ f) (lv : List (PySem.Str × AV)) (I : List (Addr × Obj) → Prop) (es : List PySem.Expr) (as : List AV) (I' : List (Addr × Obj) → Prop) : Prop where
  h : ∀ pos, Tr C lv I (spliced (backTo pos (starEach es C.env))) lv I' fun led vs => OnAll κ led vs as
  st : es.all notStar = true
structure Go1 (C : Cx w κ f) (lv : List (PySem.Str × AV)) (I : List (Addr × Obj) → Prop) (st : Stmt) (lv' : List (PySem.Str × AV)) (I' : List (Addr × Obj) → Prop) : Prop where
  h : Tr C lv I (exec st C.env) lv' I' fun _ fl => fl = .next
structure Go (C : Cx w κ f) (lv : List (PySem.Str × AV)) (I : List (Addr × Obj) → Prop) (b : List Stmt) (lv' : List (PySem.Str × AV)) (I' : List (Addr × Obj) → Prop) : Prop where
  h : Tr C lv I (execs b C.env) lv' I' fun _ fl => fl = .next
structure Rt1 (C : Cx w κ f) (lv : List (PySem.Str × AV)) (I : List (Addr × Obj) → Prop) (st : Stmt) (a : AV) (I' : List (Addr × Obj) → Prop) : Prop where
  h : Tr C lv I (exec st C.env) [] I' fun led fl => ∃ v, fl = .ret v ∧ a.On κ led v
structure Rt (C : Cx w κ f) (lv : List (PySem.Str × AV)) (I : List (Addr × Obj) → Prop) (b : List Stmt) (a : AV) (I' : List (Addr × Obj) → Prop) : Prop where
  h : Tr C lv I (execs b C.env) [] I' fun led fl => ∃ v, fl = .ret v ∧ a.On κ led v
def Px (C : Cx w κ f) (m : PySem.Str → Option Value) (I : List (Addr × Obj) → Prop) (led : List (Addr × Obj)) (a : AV) (v : Value) (s' : Shared) : Prop := ∃ led', Kr κ led led' ∧ Same C.g s' ∧ Fr C.h₀ C.L s'.heap m ∧ News C.h₀ C.L s'.heap led' ∧ I led' ∧ a.On κ led' v
structure CallC (C : Cx w κ f) (I : List (Addr × Obj) → Prop) (fa : Addr) (as : List AV) (a : AV) (I' : List (Addr × Obj) → Prop) : Prop where
  h : ∀ m vs led s, Same C.g s → Fr C.h₀ C.L s.heap m → News C.h₀ C.L s.heap led → I led → OnAll κ led vs as → wpAny (model P0 w) C.A (call (.ref fa) vs) (Px C m I' led a) NoE s
def Room (C : Cx w κ f) (n : Nat) : Prop := C.A.depth + n < recursionLimit ∧ C.A.units + 8 * n < cLine
theorem Room.le {a b : Nat} (h : Room C b) (e : Nat.ble a b = true) : Room C a := by
  have := Nat.le_of_ble_eq_true e
  obtain ⟨h1, h2⟩ := h
  exact ⟨by omega, by omega⟩

theorem AV.On.kr {a b : List (Addr × Obj)} {v : Value} {x : AV} (h : x.On κ a v) (C : Cx w κ f) (k : Kr κ a b) : x.On κ b v := h.tl (fun q hq e => k q hq (C.hκ _ _ e)) fun q hq e _ => k q hq e
theorem Ev.to {e : PySem.Expr} {a : AV} (h : Ev C lv I e a I1) (hs : St C lv I led s) {Q : Value → Shared → Prop} (k : ∀ v s1 led1, Kr κ led led1 → St C lv I1 led1 s1 → a.On κ led1 v → Q v s1) : wpAny (model P0 w) C.A (eval e C.env) Q NoE s := h.h.to hs k
theorem Ts.to {e : PySem.Expr} {b : Bool} (h : Ts C lv I e b I1) (hs : St C lv I led s) {Q : Bool → Shared → Prop} (k : ∀ v s1 led1, Kr κ led led1 → St C lv I1 led1 s1 → v = b → Q v s1) : wpAny (model P0 w) C.A (PySem.isTrue e C.env (eval e C.env)) Q NoE s := h.h.to hs k
theorem Go1.to {st : Stmt} (h : Go1 C lv I st lv1 I1) (hs : St C lv I led s) {Q : Flow → Shared → Prop} (k : ∀ v s1 led1, Kr κ led led1 → St C lv1 I1 led1 s1 → v = .next → Q v s1) : wpAny (model P0 w) C.A (exec st C.env) Q NoE s := h.h.to hs k
theorem Go.to {b : List Stmt} (h : Go C lv I b lv1 I1) (hs : St C lv I led s) {Q : Flow → Shared → Prop} (k : ∀ v s1 led1, Kr κ led led1 → St C lv1 I1 led1 s1 → v = .next → Q v s1) : wpAny (model P0 w) C.A (execs b C.env) Q NoE s := h.h.to hs k
theorem Rt1.to {st : Stmt} {a : AV} (h : Rt1 C lv I st a I1) (hs : St C lv I led s) {Q : Flow → Shared → Prop} (k : ∀ v s1 led1, Kr κ led led1 → St C [] I1 led1 s1 → (∃ u, v = .ret u ∧ a.On κ led1 u) → Q v s1) : wpAny (model P0 w) C.A (exec st C.env) Q NoE s := h.h.to hs k
theorem Rt.to {b : List Stmt} {a : AV} (h : Rt C lv I b a I1) (hs : St C lv I led s) {Q : Flow → Shared → Prop} (k : ∀ v s1 led1, Kr κ led led1 → St C [] I1 led1 s1 → (∃ u, v = .ret u ∧ a.On κ led1 u) → Q v s1) : wpAny (model P0 w) C.A (execs b C.env) Q NoE s := h.h.to hs k
-- expressions
theorem Ev.cint {k : Int} {n : Nat} {pos : Pos} : Ev C lv I (.Constant (.int k) n pos) (.int k) I := ⟨fun led s hs => wpAny_Constant_int (Po.same hs.tok ⟨_, rfl⟩)⟩
theorem Ev.cstr {x : PySem.Str} {n : Nat} {pos : Pos} : Ev C lv I (.Constant (.str x) n pos) (.str x) I := ⟨fun led s hs => Constant_str (Po.same hs.tok ⟨_, rfl⟩)⟩
theorem Ev.cnone {n : Nat} {pos : Pos} : Ev C lv I (.Constant .none n pos) (.val .none) I := ⟨fun led s hs => wpAny_Constant_none (Po.same hs rfl)⟩
theorem Ev.cbool {b : Bool} {n : Nat} {pos : Pos} : Ev C lv I (.Constant (.bool b) n pos) (.val (.bool b)) I := ⟨fun led s hs => Constant_bool (Po.same hs rfl)⟩
theorem Ev.loc {x : PySem.Str} {a : AV} {pos : Pos} (hm : (x, a) ∈ lv) (hx : C.env.kindOf x = some .local := by rfl) (hd : (x == ("__debug__" : PySem.Str)) = false := by decide +kernel) : Ev C lv I (.Name x pos) a I := ⟨fun led s hs => by
  obtain ⟨m, F, h⟩ := hs.F
  obtain ⟨v, e, o⟩ := h _ hm
  exact nameX_L F e (Po.same hs o) C.hk hx hd⟩
theorem Ev.glo {x : PySem.Str} {v : Value} {pos : Pos} (e : nsIn (hd0.heap_1 w.params) mainGlobals x = some (some v)) (hx : C.env.kindOf x = some .globalImplicit := by rfl) (hd : (x == ("__debug__" : PySem.Str)) = false := by decide +kernel) : Ev C lv I (.Name x pos) (.val v) I := ⟨fun led s hs => by
  obtain ⟨m, F, h⟩ := hs.F
  exact nameX_K F C.X (topRead_of C.T) e (Po.same hs rfl) C.hk hx hd⟩
theorem Ev.blt {x : PySem.Str} {v : Value} {pos : Pos} (e : nsIn (hd0.heap_1 w.params) mainGlobals x = some none) (hv : bootBuiltins x = some v) (hn : x ≠ "__name__") (hx : C.env.kindOf x = some .globalImplicit := by rfl) (hd : (x == ("__debug__" : PySem.Str)) = false := by decide +kernel) : Ev C lv I (.Name x pos) (.val v) I := ⟨fun led s hs => by
  obtain ⟨m, F, h⟩ := hs.F
  exact nameX_B F C.X (topRead_of C.T) e hv hn (Po.same hs rfl) C.hk hx hd⟩
structure Opn (C : Cx w κ f) (op : CmpOp) (a b : AV) (c : Bool) : Prop where
  h : ∀ lv I led s v u, St C lv I led s → a.On κ led v → b.On κ led u → wpAny (model P0 w) C.A (compareOp op v u) (Po C lv I led fun _ r => r = .bool c) NoE s
theorem Ev.cmp {l r : PySem.Expr} {op : CmpOp} {pos : Pos} {a b : AV} {c : Bool} (h1 : Ev C lv I l a I1) (h2 : Ev C lv I1 r b I2) (h3 : Opn C op a b c) (hb : behindInMarks op r = false := by rfl) : Ev C lv I (.Compare l [op] [r] pos) (.val (.bool c)) I2 := ⟨fun led s hs =>
  wpAny_Compare1 (h1.to hs fun v s1 led1 k1 hs1 o1 => h2.to hs1 fun u s2 led2 k2 hs2 o2 => wpo (k1.trans k2) (h3.h _ _ _ _ _ _ hs2 ((o1.kr C k2)) o2)) hb⟩
theorem Ts.cmp {l r : PySem.Expr} {op : CmpOp} {pos : Pos} {a b : AV} {c : Bool} (h1 : Ev C lv I l a I1) (h2 : Ev C lv I1 r b I2) (h3 : Opn C op a b c) (hb : behindInMarks op r = false := by rfl) : Ts C lv I (.Compare l [op] [r] pos) c I2 := ⟨fun led s hs =>
  wpAny_isTrue_Compare1 (h1.to hs fun v s1 led1 k1 hs1 o1 => h2.to hs1 fun u s2 led2 k2 hs2 o2 => wpAny_mono (h3.h _ _ _ _ _ _ hs2 ((o1.kr C k2)) o2) (fun x s3 ⟨led3, k3, hs3, e⟩ => by subst e; exact wpAny_truthy_bool ⟨led3, (k1.trans k2).trans k3, hs3, rfl⟩) fun _ _ e => e) hb⟩
theorem Ts.not {x : PySem.Expr} {pos : Pos} {b : Bool} (h : Ts C lv I x b I1) : Ts C lv I (.UnaryOp .Not x pos) (!b) I1 := ⟨fun led s hs => isTrue_not (h.to hs fun c s1 led1 k hs1 e => by subst e; exact ⟨led1, k, hs1, rfl⟩)⟩
theorem Ts.evC {g : PySem.Expr} {as : List PySem.Expr} {p : Pos} {b : Bool} (h : Ev C lv I (.Call g as [] p) (.val (.bool b)) I1) : Ts C lv I (.Call g as [] p) b I1 := ⟨fun led s hs =>
  isTrue_plain (h.to hs fun v s1 led1 k hs1 o => by
    have o' : v = .bool b := o
    subst o'
    exact wpAny_truthy_bool ⟨led1, k, hs1, rfl⟩) rfl⟩
theorem Ts.evN {x : PySem.Str} {p : Pos} {b : Bool} (h : Ev C lv I (.Name x p) (.val (.bool b)) I1) : Ts C lv I (.Name x p) b I1 := ⟨fun led s hs =>
  isTrue_plain (h.to hs fun v s1 led1 k hs1 o => by
    have o' : v = .bool b := o
    subst o'
    exact wpAny_truthy_bool ⟨led1, k, hs1, rfl⟩) rfl⟩
theorem Ev.castb {e : PySem.Expr} {b c : Bool} (h : Ev C lv I e (.val (.bool b)) I1) (hb : b = c) : Ev C lv I e (.val (.bool c)) I1 := hb ▸ h
structure Ors (C : Cx w κ f) (lv : List (PySem.Str × AV)) (I : List (Addr × Obj) → Prop) (es : List PySem.Expr) (b : Bool) (I' : List (Addr × Obj) → Prop) : Prop where
  to : ∀ {pos : Pos} {whole : Sem Value}, Tr C lv I (PySem.isTrue (.BoolOp .Or es pos) C.env whole) lv I' fun _ c => c = b
theorem Ors.nil : Ors C lv I [] false I := ⟨fun led s hs => isTrue_or_nil (Po.same hs rfl)⟩
theorem Ors.stop {x : PySem.Expr} {rest : List PySem.Expr} {b : Bool} (h : Ts C lv I x b I1) (e : b = true) : Ors C lv I (x :: rest) true I1 := ⟨fun led s hs => isTrue_or (h.to hs fun c s1 led1 k hs1 q => by subst q; subst e; exact ⟨led1, k, hs1, rfl⟩)⟩
theorem Ors.go {x : PySem.Expr} {rest : List PySem.Expr} {b c : Bool} (h : Ts C lv I x b I1) (e : b = false) (r : Ors C lv I1 rest c I2) : Ors C lv I (x :: rest) c I2 := ⟨fun led s hs => isTrue_or (h.to hs fun c s1 led1 k hs1 q => by subst q; subst e; exact wpo k (r.to led1 s1 hs1))⟩
theorem Ts.or {es : List PySem.Expr} {b : Bool} {pos : Pos} (h : Ors C lv I es b I1) : Ts C lv I (.BoolOp .Or es pos) b I1 := ⟨h.to⟩
structure Ands (C : Cx w κ f) (lv : List (PySem.Str × AV)) (I : List (Addr × Obj) → Prop) (es : List PySem.Expr) (b : Bool) (I' : List (Addr × Obj) → Prop) : Prop where
  to : ∀ {pos : Pos} {whole : Sem Value}, Tr C lv I (PySem.isTrue (.BoolOp .And es pos) C.env whole) lv I' fun _ c => c = b
theorem Ands.nil : Ands C lv I [] true I := ⟨fun led s hs => isTrue_and_nil (Po.same hs rfl)⟩
theorem Ands.stop {x : PySem.Expr} {rest : List PySem.Expr} {b : Bool} (h : Ts C lv I x b I1) (e : b = false) : Ands C lv I (x :: rest) false I1 := ⟨fun led s hs => isTrue_and (h.to hs fun c s1 led1 k hs1 q => by subst q; subst e; exact ⟨led1, k, hs1, rfl⟩)⟩
theorem Ands.go {x : PySem.Expr} {rest : List PySem.Expr} {b c : Bool} (h : Ts C lv I x b I1) (e : b = true) (r : Ands C lv I1 rest c I2) : Ands C lv I (x :: rest) c I2 := ⟨fun led s hs => isTrue_and (h.to hs fun c s1 led1 k hs1 q => by subst q; subst e; exact wpo k (r.to led1 s1 hs1))⟩
theorem Ts.and {es : List PySem.Expr} {b : Bool} {pos : Pos} (h : Ands C lv I es b I1) : Ts C lv I (.BoolOp .And es pos) b I1 := ⟨h.to⟩
-- values of and / or: all parts are bools
structure Vnds (C : Cx w κ f) (lv : List (PySem.Str × AV)) (I : List (Addr × Obj) → Prop) (es : List PySem.Expr) (b : Bool) (I' : List (Addr × Obj) → Prop) : Prop where
  to : ∀ {pos : Pos}, Tr C lv I (eval (.BoolOp .And es pos) C.env) lv I' fun led v => (AV.val (.bool b)).On κ led v
theorem Vnds.one {x : PySem.Expr} {b : Bool} (h : Ev C lv I x (.val (.bool b)) I1) : Vnds C lv I [x] b I1 := ⟨fun led s hs => BoolOp_one (h.h led s hs)⟩
theorem Vnds.stop {x y : PySem.Expr} {rest : List PySem.Expr} {b : Bool} (h : Ev C lv I x (.val (.bool b)) I1) (e : b = false) : Vnds C lv I (x :: y :: rest) false I1 := ⟨fun led s hs => BoolOp_and (h.to hs fun v s1 led1 k hs1 q => by
      have q' : v = .bool _ := q
      subst q'; subst e
      exact wpAny_truthy_bool ⟨led1, k, hs1, rfl⟩)⟩
theorem Vnds.go {x y : PySem.Expr} {rest : List PySem.Expr} {b c : Bool} (h : Ev C lv I x (.val (.bool b)) I1) (e : b = true) (r : Vnds C lv I1 (y :: rest) c I2) : Vnds C lv I (x :: y :: rest) c I2 := ⟨fun led s hs => BoolOp_and (h.to hs fun v s1 led1 k hs1 q => by
      have q' : v = .bool _ := q
      subst q'; subst e
      exact wpAny_truthy_bool (wpo k (r.to led1 s1 hs1)))⟩
theorem Vnds.both {x y : PySem.Expr} {rest : List PySem.Expr} {b c : Bool} (h : Ev C lv I x (.val (.bool b)) I1) (r : b = true → Vnds C lv I1 (y :: rest) c I1) : Vnds C lv I (x :: y :: rest) (b && c) I1 := ⟨fun led s hs => BoolOp_and (h.to hs fun v s1 led1 k hs1 q => by
      have q' : v = .bool _ := q
      subst q'
      cases b with
      | false => exact wpAny_truthy_bool ⟨led1, k, hs1, rfl⟩
      | true => exact wpAny_truthy_bool (wpo k ((r rfl).to led1 s1 hs1)))⟩
theorem Ev.and {es : List PySem.Expr} {b : Bool} {pos : Pos} (h : Vnds C lv I es b I1) : Ev C lv I (.BoolOp .And es pos) (.val (.bool b)) I1 := ⟨h.to⟩
theorem Ev.not {x : PySem.Expr} {pos : Pos} {b : Bool} (h : Ev C lv I x (.val (.bool b)) I1) : Ev C lv I (.UnaryOp .Not x pos) (.val (.bool (!b))) I1 := ⟨fun led s hs => UnaryOp_ (h.to hs fun v s1 led1 k hs1 q => by
  have q' : v = .bool _ := q
  subst q'
  exact not_of (wpAny_truthy_bool ⟨led1, k, hs1, rfl⟩))⟩
theorem Ev.ifx {t b o : PySem.Expr} {pos : Pos} {c : Bool} {a : AV} (h : Ts C lv I t c I1) (ht : c = true → Ev C lv I1 b a I2) (hf : c = false → Ev C lv I1 o a I2) : Ev C lv I (.IfExp t b o pos) a I2 := ⟨fun led s hs => IfExp_ (h.to hs fun x s1 led1 k hs1 q => by
  subst q
  cases x with
  | true => exact wpo k ((ht rfl).h led1 s1 hs1)
  | false => exact wpo k ((hf rfl).h led1 s1 hs1))⟩
theorem star1 {e : PySem.Expr} {rest : List PySem.Expr} {env : Env} (h : notStar e = true) : starEach (e :: rest) env = (false, eval e env) :: starEach rest env := by
  cases e <;> first | rfl | (exact absurd h Bool.false_ne_true)
theorem star2 {pos : Pos} {env : Env} : ∀ {es : List PySem.Expr}, es.all notStar = true → ((backTo pos (starEach es env)).any fun x => x.1) = false
  | [], _ => rfl
  | e :: es, h => by
    rw [List.all_cons, Bool.and_eq_true] at h
    rw [star1 h.1]
    show (false || ((backTo pos (starEach es env)).any fun x => x.1)) = false
    rw [star2 h.2]; rfl
theorem Evs.nil : Evs C lv I [] [] I := ⟨fun pos led s hs => args_nil (Po.same hs trivial), rfl⟩
theorem Evs.cons {e : PySem.Expr} {rest : List PySem.Expr} {a : AV} {as : List AV} (h : Ev C lv I e a I1) (r : Evs C lv I1 rest as I2) (ns : notStar e = true := by rfl) : Evs C lv I (e :: rest) (a :: as) I2 := ⟨fun pos led s h0 =>
  args_cons (h.to h0 fun v s1 led1 k1 hs1 o1 => wpAny_mono (r.h pos led1 s1 hs1) (fun vs s2 ⟨led2, k2, hs2, o2⟩ => ⟨led2, k1.trans k2, hs2, o1.kr C k2, o2⟩) fun _ _ e => e) (star1 ns), by rw [List.all_cons, ns, r.st]; rfl⟩
theorem Evs.s1 {e : PySem.Expr} {rest : List PySem.Expr} {as : List AV} (h : Evs C lv I (e :: rest) as I1) : starEach (e :: rest) C.env = (false, eval e C.env) :: starEach rest C.env := star1 (by have := h.st; rw [List.all_cons, Bool.and_eq_true] at this; exact this.1)
theorem Evs.s2 {e : PySem.Expr} {rest : List PySem.Expr} {as : List AV} {pos : Pos} (h : Evs C lv I (e :: rest) as I1) : ((backTo pos (starEach rest C.env)).any fun x => x.1) = false := star2 (by have := h.st; rw [List.all_cons, Bool.and_eq_true] at this; exact this.2)
theorem star3 {pos : Pos} {env : Env} : ∀ {es : List PySem.Expr}, es.all notStar = true → ((backTo pos (starEach es env)).all fun x => !x.1) = true
  | [], _ => rfl
  | e :: es, h => by
    rw [List.all_cons, Bool.and_eq_true] at h
    rw [star1 h.1]
    show (true && ((backTo pos (starEach es env)).all fun x => !x.1)) = true
    rw [star3 h.2]; rfl
theorem mcall_eq (x : PySem.Str) (p : Pos) (name : PySem.Str) (apos pos : Pos) (args : List PySem.Expr) (env : Env) (hs : args.all notStar = true) (hn : Nat.blt args.length 30 = true) (hp : (apos.endLine == pos.line) = true) : ∃ pl, eval (.Call (.Attribute (.Name x p) name apos) args [] pos) env = (do
      let ov ← eval (.Name x p) env
      standAt apos.atName
      let (f, first) ← holding [ov] (getMethod ov name pl)
      callWith pos f first (backTo pos (starEach args env)) []) := by
  have hform : methodCallForm (args.length + 0) (backTo pos (starEach args env)) [] = true := by
    unfold methodCallForm
    rw [star3 hs]
    have := Nat.le_of_ble_eq_true hn
    simp only [List.all_nil, Bool.true_and, List.isEmpty_nil, if_true, Nat.add_zero, decide_eq_true_eq]
    omega
  have hpos : methodCallPos true (.Name x p) env apos pos = pure pos := by
    unfold methodCallPos
    rw [hp]; rfl
  refine ⟨(do return (← importBound (.Name x p) env).getD true), ?_⟩
  show (do let ov ← eval (.Name x p) env; standAt apos.atName; methodCall (.Name x p) name apos pos env ov (args.length + 0) (backTo pos (starEach args env)) []) = _
  unfold methodCall calleeOf
  rw [hform, hpos]
  rfl
theorem attr_name (x : PySem.Str) (p : Pos) (name : PySem.Str) (pos : Pos) (env : Env) : eval (.Attribute (.Name x p) name pos) env = (do
          let v ← eval (.Name x p) env
          standAt (Pos.atName pos)
          let r ← holding [v] (getAttr v name true)
          letTemporaryGo (.Name x p) v r
          pure r) := rfl
theorem attr_call (x : PySem.Str) (p0 : Pos) (nm : PySem.Str) (ap : Pos) (as : List PySem.Expr) (p : Pos) (name : PySem.Str) (pos : Pos) (env : Env) : eval (.Attribute (.Call (.Attribute (.Name x p0) nm ap) as [] p) name pos) env = (do
          let v ← eval (.Call (.Attribute (.Name x p0) nm ap) as [] p) env
          standAt (Pos.atName pos)
          let r ← holding [v] (getAttr v name true)
          letTemporaryGo (.Call (.Attribute (.Name x p0) nm ap) as [] p) v r
          pure r) := by rfl
theorem fcall_eq (x : PySem.Str) (p : Pos) (pos : Pos) (args : List PySem.Expr) (env : Env) : eval (.Call (.Name x p) args [] pos) env = (do
      callWith pos (← eval (.Name x p) env) [] (backTo pos (starEach args env)) (backToKw pos (keywordEach [] env))) := rfl
-- calls
theorem St.X {led : List (Addr × Obj)} {s : Shared} (h : St C lv I led s) : (hd0.heap_1 w.params).In s.heap := let ⟨_, F, _⟩ := h.F; C.X.keeps F.keep
structure Meth (C : Cx w κ f) (I : List (Addr × Obj) → Prop) (a : AV) (name : PySem.Str) (fa : Addr) : Prop where
  h : ∀ lv led s v, St C lv I led s → a.On κ led v → ∀ pl Q, Q (.ref fa, [v]) s → wpAny (model P0 w) C.A (getMethod v name pl) Q NoE s
theorem CallC.use {fa : Addr} {as : List AV} {a : AV} (h : CallC C I fa as a I1) {vs : List Value} (hs : St C lv I led1 s) (o : OnAll κ led1 vs as) (k : Kr κ led led1) : wpAny (model P0 w) C.A (call (.ref fa) vs) (Po C lv I1 led fun led v => a.On κ led v) NoE s := by
  obtain ⟨m, F, hl⟩ := hs.F
  refine wpAny_mono (h.h m vs led1 s hs.same F hs.N hs.I o) (fun v s2 p => ?_) fun _ _ e => e
  obtain ⟨led2, k2, s2', F2, N2, i2, o2⟩ := p
  exact ⟨led2, k.trans k2, ⟨s2', N2, ⟨m, F2, fun q hq => let ⟨u, e1, e2⟩ := hl q hq; ⟨u, e1, e2.kr C k2⟩⟩, i2⟩, o2⟩
theorem Ev.mcall0 {x : PySem.Str} {p : Pos} {name : PySem.Str} {apos pos : Pos} {fa : Addr} {a b : AV} (ho : Ev C lv I (.Name x p) a I1) (hm : Meth C I1 a name fa) (hk : keepIn (hd0.heap_1 w.params) (.ref fa) = true) (hc : CallC C I1 fa [a] b I2) (hp : (apos.endLine == pos.line) = true := by rfl) : Ev C lv I (.Call (.Attribute (.Name x p) name apos) [] [] pos) b I2 := ⟨fun led s hs => by
  obtain ⟨pl, he⟩ := mcall_eq x p name apos pos [] C.env rfl rfl hp
  exact MethodCall_ (ho.to hs fun v s1 led1 k1 hs1 o1 => hm.h _ _ _ _ hs1 o1 _ _ (callWith_K0 hs1.X hk (hc.use hs1 ⟨o1, trivial⟩ k1))) he⟩
theorem Ev.mcall {x : PySem.Str} {p : Pos} {e : PySem.Expr} {rest : List PySem.Expr} {name : PySem.Str} {apos pos : Pos} {fa : Addr} {a b : AV} {as : List AV} (ho : Ev C lv I (.Name x p) a I1) (hm : Meth C I1 a name fa) (hk : keepIn (hd0.heap_1 w.params) (.ref fa) = true) (hA : Evs C lv I1 (e :: rest) as I2) (hc : CallC C I2 fa (a :: as) b I') (hp : (apos.endLine == pos.line) = true := by rfl) (hn : Nat.blt (e :: rest).length 30 = true := by rfl) : Ev C lv I (.Call (.Attribute (.Name x p) name apos) (e :: rest) [] pos) b I' := ⟨fun led s hs => by
  obtain ⟨pl, he⟩ := mcall_eq x p name apos pos (e :: rest) C.env hA.st hn hp
  exact MethodCall_ (ho.to hs fun v s1 led1 k1 hs1 o1 => hm.h _ _ _ _ hs1 o1 _ _ (callWith_K C.X hk ((hA.h pos).to hs1 fun vs s2 led2 k2 hs2 o2 => ⟨hs2.X, hc.use hs2 ⟨o1.kr C k2, o2⟩ (k1.trans k2)⟩) hA.s1 hA.s2)) he⟩
theorem Ev.fcall {x : PySem.Str} {p : Pos} {e : PySem.Expr} {rest : List PySem.Expr} {pos : Pos} {fa : Addr} {b : AV} {as : List AV} (ho : Ev C lv I (.Name x p) (.val (.ref fa)) I1) (hk : keepIn (hd0.heap_1 w.params) (.ref fa) = true) (hA : Evs C lv I1 (e :: rest) as I2) (hc : CallC C I2 fa as b I') : Ev C lv I (.Call (.Name x p) (e :: rest) [] pos) b I' := ⟨fun led s hs =>
  Call_ (ho.to hs fun v s1 led1 k1 hs1 o1 => by
    have o' : v = .ref fa := o1
    subst o'
    exact callWith_K C.X hk ((hA.h pos).to hs1 fun vs s2 led2 k2 hs2 o2 => ⟨hs2.X, hc.use hs2 o2 (k1.trans k2)⟩) hA.s1 hA.s2) (fcall_eq _ _ _ _ _)⟩
structure BltC (C : Cx w κ f) (I : List (Addr × Obj) → Prop) (id : String) (as : List AV) (a : AV) : Prop where
  h : ∀ lv vs led s, St C lv I led s → OnAll κ led vs as → wpAny (model P0 w) C.A (call (.builtin id) vs) (Po C lv I led fun led v => a.On κ led v) NoE s
theorem Ev.bcall {x : PySem.Str} {p : Pos} {e : PySem.Expr} {rest : List PySem.Expr} {pos : Pos} {id : String} {b : AV} {as : List AV} (ho : Ev C lv I (.Name x p) (.val (.builtin id)) I1) (hA : Evs C lv I1 (e :: rest) as I2) (hc : BltC C I2 id as b) : Ev C lv I (.Call (.Name x p) (e :: rest) [] pos) b I2 := ⟨fun led s hs =>
  Call_ (ho.to hs fun v s1 led1 k1 hs1 o1 => by
    have o' : v = .builtin id := o1
    subst o'
    exact PyProof.Rows.callWith_builtin1 ((hA.h pos).to hs1 fun vs s2 led2 k2 hs2 o2 => wpo (k1.trans k2) (hc.h _ _ _ _ hs2 o2)) hA.s1 hA.s2) (fcall_eq _ _ _ _ _)⟩
structure BMeth (C : Cx w κ f) (I : List (Addr × Obj) → Prop) (a : AV) (name : PySem.Str) (id : String) : Prop where
  h : ∀ lv led s v, St C lv I led s → a.On κ led v → ∀ pl Q, Q (.builtin id, [v]) s → wpAny (model P0 w) C.A (getMethod v name pl) Q NoE s
theorem Ev.bmcall {x : PySem.Str} {p : Pos} {e : PySem.Expr} {rest : List PySem.Expr} {name : PySem.Str} {apos pos : Pos} {id : String} {a b : AV} {as : List AV} (ho : Ev C lv I (.Name x p) a I1) (hm : BMeth C I1 a name id) (hA : Evs C lv I1 (e :: rest) as I2) (hc : BltC C I2 id (a :: as) b) (hp : (apos.endLine == pos.line) = true := by rfl) (hn : Nat.blt (e :: rest).length 30 = true := by rfl) : Ev C lv I (.Call (.Attribute (.Name x p) name apos) (e :: rest) [] pos) b I2 := ⟨fun led s hs => by
  obtain ⟨pl, he⟩ := mcall_eq x p name apos pos (e :: rest) C.env hA.st hn hp
  exact MethodCall_ (ho.to hs fun v s1 led1 k1 hs1 o1 => hm.h _ _ _ _ hs1 o1 _ _ (callWith_method1 ((hA.h pos).to hs1 fun vs s2 led2 k2 hs2 o2 => wpo (k1.trans k2) (hc.h _ _ _ _ hs2 ⟨o1.kr C k2, o2⟩)) hA.s1 hA.s2)) he⟩
-- attributes, items, displays, sums
structure Attr (C : Cx w κ f) (I : List (Addr × Obj) → Prop) (a : AV) (name : PySem.Str) (b : AV) : Prop where
  h : ∀ lv led s v, St C lv I led s → a.On κ led v → wpAny (model P0 w) C.A (getAttr v name true) (Po C lv I led fun led v => b.On κ led v) NoE s
theorem Ev.attrN {x : PySem.Str} {p : Pos} {name : PySem.Str} {pos : Pos} {a b : AV} (ho : Ev C lv I (.Name x p) a I1) (h : Attr C I1 a name b) : Ev C lv I (.Attribute (.Name x p) name pos) b I1 := ⟨fun led s hs => Attribute_any_ (ho.to hs fun v s1 led1 k1 hs1 o1 => wpo k1 (h.h _ _ _ _ hs1 o1)) (attr_name _ _ _ _ _)⟩
theorem Ev.attrC {x : PySem.Str} {p0 : Pos} {nm : PySem.Str} {ap : Pos} {as : List PySem.Expr} {p : Pos} {name : PySem.Str} {pos : Pos} {a b : AV} (ho : Ev C lv I (.Call (.Attribute (.Name x p0) nm ap) as [] p) a I1) (h : Attr C I1 a name b) : Ev C lv I (.Attribute (.Call (.Attribute (.Name x p0) nm ap) as [] p) name pos) b I1 := ⟨fun led s hs => Attribute_any_ (ho.to hs fun v s1 led1 k1 hs1 o1 => wpo k1 (h.h _ _ _ _ hs1 o1)) (attr_call _ _ _ _ _ _ _ _ _)⟩
structure Bin (C : Cx w κ f) (op : Operator) (a b c : AV) : Prop where
  h : ∀ lv I led s v u, St C lv I led s → a.On κ led v → b.On κ led u → wpAny (model P0 w) C.A (binaryOp op v u) (Po C lv I led fun led v => c.On κ led v) NoE s
theorem Ev.bin {l r : PySem.Expr} {op : Operator} {pos : Pos} {a b c : AV} (h1 : Ev C lv I l a I1) (h2 : Ev C lv I1 r b I2) (h3 : Bin C op a b c) : Ev C lv I (.BinOp l op r pos) c I2 := ⟨fun led s hs =>
  wpAny_BinOp (h1.to hs fun v s1 led1 k1 hs1 o1 => h2.to hs1 fun u s2 led2 k2 hs2 o2 => wpo (k1.trans k2) (h3.h _ _ _ _ _ _ hs2 (o1.kr C k2) o2))⟩
theorem Bin.addInt {a b : Int} : Bin C .Add (.int a) (.int b) (.int (a + b)) := ⟨fun lv I led s v u hs ⟨t, e⟩ ⟨t', e'⟩ => by subst e; subst e'; exact add_int (Po.same hs.tok ⟨_, rfl⟩)⟩
theorem Bin.addStr {x y z : PySem.Str} (hz : x ++ y = z) (hsz : x.length + y.length ≤ sizeLine) : Bin C .Add (.str x) (.str y) (.str z) := ⟨fun lv I led s v u hs ⟨t, e⟩ ⟨t', e'⟩ => by subst e; subst e'; exact add_lit hz hsz fun t' tk => Po.same hs.tok ⟨_, rfl⟩⟩
structure Sub1 (C : Cx w κ f) (I : List (Addr × Obj) → Prop) (value slice : PySem.Expr) (a b c : AV) : Prop where
  h : ∀ lv led s v u, St C lv I led s → a.On κ led v → b.On κ led u → wpAny (model P0 w) C.A (subscriptTail value slice v u) (Po C lv I led fun led v => c.On κ led v) NoE s
theorem Ev.sub {l r : PySem.Expr} {pos : Pos} {a b c : AV} (h1 : Ev C lv I l a I1) (h2 : Ev C lv I1 r b I2) (h3 : Sub1 C I2 l r a b c) : Ev C lv I (.Subscript l r pos) c I2 := ⟨fun led s hs =>
  Subscript_ (h1.to hs fun v s1 led1 k1 hs1 o1 => h2.to hs1 fun u s2 led2 k2 hs2 o2 => wpo (k1.trans k2) (h3.h _ _ _ _ _ hs2 (o1.kr C k2) o2))⟩
def AV.toDt : AV → Option Dt
  | .int k => some (.int k)
  | .str x => some (.str x)
  | .val .none => some .none
  | .dt d => some d
  | _ => none
noncomputable def toDts : List AV → Option (List Dt)
  | [] => some []
  | a :: as => a.toDt.bind fun d => (toDts as).map (d :: ·)
theorem AV.toDt_on {a : AV} {d : Dt} {v : Value} (h : a.toDt = some d) (o : a.On κ led v) : DV led v d := by
  cases a with
  | int k => cases h; exact o.elim fun t e => e ▸ .int _ _
  | str k => cases h; exact o.elim fun t e => e ▸ .str _ _
  | dt d => cases h; exact o
  | val u => cases u with
    | none => cases h; exact (show v = .none from o) ▸ .none
    | _ => cases h
  | _ => cases h
theorem toDts_on {as : List AV} : ∀ {ds : List Dt} {vs : List Value}, toDts as = some ds → OnAll κ led vs as → DVs led vs ds := by
  induction as with
  | nil =>
    intro ds vs h o
    cases h
    cases vs with
    | nil => exact .nil
    | cons _ _ => exact False.elim o
  | cons a as ih =>
    intro ds vs h o
    cases vs with
    | nil => exact False.elim o
    | cons v vs =>
      refine (Option.bind_eq_some_iff.mp h).elim fun d h => ?_
      refine (Option.map_eq_some_iff.mp h.2).elim fun es h2 => ?_
      exact h2.2 ▸ .cons (AV.toDt_on h.1 o.1) (ih h2.1 o.2)
theorem DVs.cons1 {vs : List Value} {ds : List Dt} {x : Addr × Obj} (h : DVs led vs ds) : DVs (x :: led) vs ds := h.keeps (Keeps.cons (Keeps.refl _))
theorem onAll_len : ∀ {vs : List Value} {as : List AV}, OnAll κ led vs as → vs.length = as.length
  | [], [], _ => rfl
  | _ :: _, _ :: _, ⟨_, r⟩ => by simp only [List.length_cons, onAll_len r]
def MonoI (I : List (Addr × Obj) → Prop) : Prop := ∀ {a b}, I a → (∀ q ∈ a, q ∈ b) → I b
theorem Ev.tup {es : List PySem.Expr} {k : Nat} {pos : Pos} {as : List AV} {ds : List Dt} (h : Evs C lv I es as I1) (hd : toDts as = some ds) (hz : Nat.ble as.length 1000 = true) (hI : MonoI I1) : Ev C lv I (.Tuple es k pos) (.dt (.tup ds)) I1 := ⟨fun led s hs =>
  Tuple_ ((h.h pos).to hs fun vs s1 led1 k1 hs1 o1 => by
    obtain ⟨m, F, hl⟩ := hs1.F
    refine kup_newTuple F hs1.N (fun D h' F' N' l' => ⟨(D, _) :: led1, k1.trans Kr.cons, ⟨hs1.same, N', ⟨m, F', fun q hq => let ⟨v, e, o⟩ := hl q hq; ⟨v, e, o.tl (fun _ hq _ => .tail _ hq) fun _ hq _ _ => .tail _ hq⟩⟩, hI hs1.I fun _ hq => .tail _ hq⟩, .tup (.head _) (toDts_on hd o1).cons1⟩) ?_
    rw [onAll_len o1]
    have := Nat.le_of_ble_eq_true hz
    unfold sizeLine
    omega)⟩
-- statements
def NoDup (lv : List (PySem.Str × AV)) : Prop := (lv.map (·.1)).Nodup
structure SetTo (x : PySem.Str) (a : AV) (lv lv' : List (PySem.Str × AV)) : Prop where
  on : ∀ q ∈ lv', q = (x, a) ∨ (q ∈ lv ∧ (q.1 ≠ x ∨ ¬ NoDup lv))
theorem SetTo.nil {x : PySem.Str} {a : AV} : SetTo x a [] [(x, a)] := ⟨fun _ hq => .inl (List.mem_singleton.mp hq)⟩
theorem SetTo.here {x : PySem.Str} {a b : AV} {l : List (PySem.Str × AV)} : SetTo x a ((x, b) :: l) ((x, a) :: l) := ⟨fun q hq => by
  rcases List.mem_cons.mp hq with rfl | hq
  · exact .inl rfl
  · refine .inr ⟨.tail _ hq, ?_⟩
    by_cases e : q.1 = x
    · right
      intro nd
      unfold NoDup at nd
      rw [List.map_cons, List.nodup_cons] at nd
      exact nd.1 (by show x ∈ l.map (·.1); rw [← e]; exact List.mem_map_of_mem hq)
    · exact .inl e⟩
theorem SetTo.there {x y : PySem.Str} {a b : AV} {l l' : List (PySem.Str × AV)} (h : y ≠ x) (r : SetTo x a l l') : SetTo x a ((y, b) :: l) ((y, b) :: l') := ⟨fun q hq => by
  rcases List.mem_cons.mp hq with rfl | hq
  · exact .inr ⟨.head _, .inl h⟩
  · rcases r.on q hq with e | ⟨e1, e2⟩
    · exact .inl e
    · refine .inr ⟨.tail _ e1, e2.imp id fun nd n => nd ?_⟩
      unfold NoDup at n
      rw [List.map_cons, List.nodup_cons] at n
      exact n.2⟩
theorem Go.nil : Go C lv I [] lv I := ⟨fun led s hs => wpAny_execs_nil (Po.same hs rfl)⟩
theorem Go.cons {st : Stmt} {rest : List Stmt} (h : Go1 C lv I st lv1 I1) (r : Go C lv1 I1 rest lv2 I2) : Go C lv I (st :: rest) lv2 I2 := ⟨fun led s hs =>
  wpAny_execs_cons (h.to hs fun fl s1 led1 k1 hs1 e => by subst e; exact wpo k1 (r.h led1 s1 hs1))⟩
theorem Rt.go {st : Stmt} {rest : List Stmt} {a : AV} (h : Go1 C lv I st lv1 I1) (r : Rt C lv1 I1 rest a I2) : Rt C lv I (st :: rest) a I2 := ⟨fun led s hs =>
  wpAny_execs_cons (h.to hs fun fl s1 led1 k1 hs1 e => by subst e; exact wpo k1 (r.h led1 s1 hs1))⟩
theorem Rt.rt {st : Stmt} {rest : List Stmt} {a : AV} (h : Rt1 C lv I st a I1) : Rt C lv I (st :: rest) a I1 := ⟨fun led s hs =>
  wpAny_execs_cons (h.to hs fun fl s1 led1 k1 hs1 ⟨v, e, o⟩ => by subst e; exact ⟨led1, k1, hs1, v, rfl, o⟩)⟩
theorem St.nolv {led : List (Addr × Obj)} {s : Shared} (h : St C lv I led s) : St C [] I led s := ⟨h.same, h.N, let ⟨m, F, _⟩ := h.F; ⟨m, F, fun _ h => nomatch h⟩, h.I⟩
theorem Rt1.ret {e : PySem.Expr} {pos : Pos} {a : AV} (h : Ev C lv I e a I1) : Rt1 C lv I (.Return (some e) pos) a I1 := ⟨fun led s hs => wpAny_Return_some (h.to hs fun v s1 led1 k1 hs1 o => ⟨led1, k1, hs1.nolv, v, rfl, o⟩)⟩
theorem Go1.assign {x : PySem.Str} {p' pos : Pos} {e : PySem.Expr} {a : AV} (h : Ev C lv I e a I1) (h2 : SetTo x a lv lv') (nd : NoDup lv) (hx : C.env.kindOf x = some .local := by rfl) (hsw : swapsWith e (some (.Name x p')) pos.line C.env = pure false := by rfl) : Go1 C lv I (.Assign [.Name x p'] e pos) lv' I1 := ⟨fun led s hs =>
  wpAny_Assign_Name (h.to hs fun v s1 led1 k1 hs1 o => by
    obtain ⟨m, F, hl⟩ := hs1.F
    refine storeX_L F hs1.N (fun h' F' N' => ⟨led1, k1, ⟨hs1.same, N', ⟨_, F', fun q hq => ?_⟩, hs1.I⟩, rfl⟩) C.hk hx
    rcases h2.on q hq with rfl | ⟨h3, h4 | h4⟩
    · exact ⟨v, if_pos rfl, o⟩
    · obtain ⟨u, e1, e2⟩ := hl q h3
      exact ⟨u, by show (if q.1 = x then _ else _) = _; rw [if_neg h4]; exact e1, e2⟩
    · exact absurd nd h4) hsw⟩
theorem Go1.expr {e : PySem.Expr} {pos : Pos} {a : AV} (h : Ev C lv I e a I1) (hi : interactive C.env = false := by rfl) (hsw : swapsWith e none pos.line C.env = pure false := by rfl) : Go1 C lv I (.Expr e pos) lv I1 := ⟨fun led s hs => wpAny_Expr_any (h.to hs fun v s1 led1 k1 hs1 o => ⟨led1, k1, hs1, rfl⟩) hi hsw⟩
structure IfR (C : Cx w κ f) (lv : List (PySem.Str × AV)) (I : List (Addr × Obj) → Prop) (body orelse rest : List Stmt) (a : AV) (I' : List (Addr × Obj) → Prop) (b : Bool) : Prop where
  h : ∀ {I0 : List (Addr × Obj) → Prop} {t : PySem.Expr} {pos : Pos}, Ts C lv I0 t b I → Rt C lv I0 (.If t body orelse pos :: rest) a I'
theorem IfR.yr {body orelse rest : List Stmt} {a : AV} {b : Bool} (e : b = true) (h2 : Rt C lv I body a I2) : IfR C lv I body orelse rest a I2 b := ⟨fun h => ⟨fun led s hs =>
  wpAny_execs_cons (wpAny_If (h.to hs fun c s1 led1 k1 hs1 q => by subst q; subst e; exact h2.to hs1 fun fl s2 led2 k2 hs2 ⟨v, q, o⟩ => by subst q; exact ⟨led2, k1.trans k2, hs2, v, rfl, o⟩))⟩⟩
theorem IfR.yg {body orelse rest : List Stmt} {a : AV} {b : Bool} (e : b = true) (h2 : Go C lv I body lv1 I1) (r2 : Rt C lv1 I1 rest a I2) : IfR C lv I body orelse rest a I2 b := ⟨fun h => ⟨fun led s hs =>
  wpAny_execs_cons (wpAny_If (h.to hs fun c s1 led1 k1 hs1 q => by subst q; subst e; exact h2.to hs1 fun fl s2 led2 k2 hs2 q => by subst q; exact wpo (k1.trans k2) (r2.h led2 s2 hs2)))⟩⟩
theorem IfR.nr {body orelse rest : List Stmt} {a : AV} {b : Bool} (e : b = false) (h2 : Rt C lv I orelse a I2) : IfR C lv I body orelse rest a I2 b := ⟨fun h => ⟨fun led s hs =>
  wpAny_execs_cons (wpAny_If (h.to hs fun c s1 led1 k1 hs1 q => by subst q; subst e; exact h2.to hs1 fun fl s2 led2 k2 hs2 ⟨v, q, o⟩ => by subst q; exact ⟨led2, k1.trans k2, hs2, v, rfl, o⟩))⟩⟩
theorem IfR.ng {body orelse rest : List Stmt} {a : AV} {b : Bool} (e : b = false) (h2 : Go C lv I orelse lv1 I1) (r2 : Rt C lv1 I1 rest a I2) : IfR C lv I body orelse rest a I2 b := ⟨fun h => ⟨fun led s hs =>
  wpAny_execs_cons (wpAny_If (h.to hs fun c s1 led1 k1 hs1 q => by subst q; subst e; exact h2.to hs1 fun fl s2 led2 k2 hs2 q => by subst q; exact wpo (k1.trans k2) (r2.h led2 s2 hs2)))⟩⟩
theorem Rt.ifs {t : PySem.Expr} {body orelse rest : List Stmt} {pos : Pos} {b : Bool} {a : AV} (h : Ts C lv I t b I1) (k : IfR C lv I1 body orelse rest a I2 b) : Rt C lv I (.If t body orelse pos :: rest) a I2 := k.h h
theorem Go1.ifT {t : PySem.Expr} {body orelse : List Stmt} {pos : Pos} {b : Bool} (h : Ts C lv I t b I1) (e : b = true) (g : Go C lv I1 body lv2 I2) : Go1 C lv I (.If t body orelse pos) lv2 I2 := ⟨fun led s hs =>
  wpAny_If (h.to hs fun c s1 led1 k1 hs1 q => by subst q; subst e; exact wpo k1 (g.h led1 s1 hs1))⟩
theorem Go1.ifF {t : PySem.Expr} {body orelse : List Stmt} {pos : Pos} {b : Bool} (h : Ts C lv I t b I1) (e : b = false) (g : Go C lv I1 orelse lv2 I2) : Go1 C lv I (.If t body orelse pos) lv2 I2 := ⟨fun led s hs =>
  wpAny_If (h.to hs fun c s1 led1 k1 hs1 q => by subst q; subst e; exact wpo k1 (g.h led1 s1 hs1))⟩
structure Wh (C : Cx w κ f) (t : PySem.Expr) (body : List Stmt) (lv : List (PySem.Str × AV)) (I : List (Addr × Obj) → Prop) (lv1 : List (PySem.Str × AV)) (I1 : List (Addr × Obj) → Prop) : Prop where
  to : ∀ {led0 led s}, Kr κ led0 led → St C lv I led s → WhlRest P0 w C.A NoE C.env t body [] (Po C lv1 I1 led0 fun _ fl => fl = .next) 0 s
theorem Wh.stop {t : PySem.Expr} {body : List Stmt} {b : Bool} (h : Ts C lv I t b I1) (e : b = false) : Wh C t body lv I lv I1 := ⟨fun k hs => whl_turn (k := 0) PassesOwn.never (h.to hs fun c s1 led1 k1 hs1 q => by subst q; exact WhlIf.no e (wpAny_execs_nil ⟨led1, k.trans k1, hs1, rfl⟩))⟩
theorem Go1.while {t : PySem.Expr} {body : List Stmt} {pos : Pos} (h : Wh C t body lv I lv1 I1) : Go1 C lv I (.While t body [] pos) lv1 I1 := ⟨fun led s hs => whl_start 0 (h.to (Kr.refl _) hs)⟩
structure WhR (C : Cx w κ f) (t : PySem.Expr) (body : List Stmt) (a : AV) (I1 : List (Addr × Obj) → Prop) (lv : List (PySem.Str × AV)) (I : List (Addr × Obj) → Prop) : Prop where
  to : ∀ {led0 led s}, Kr κ led0 led → St C lv I led s → WhlRest P0 w C.A NoE C.env t body [] (Po C [] I1 led0 fun led fl => ∃ v, fl = .ret v ∧ a.On κ led v) 0 s
theorem WhR.ret {t : PySem.Expr} {body : List Stmt} {a : AV} {b : Bool} (h : Ts C lv I t b I1) (e : b = true) (g : Rt C lv I1 body a I2) : WhR C t body a I2 lv I := ⟨fun k hs => whl_turn (k := 0) PassesOwn.never (h.to hs fun c s1 led1 k1 hs1 q => by
      subst q
      exact WhlIf.yes e (g.to hs1 fun fl s2 led2 k2 hs2 ⟨v, q2, o⟩ => by subst q2; exact ⟨led2, (k.trans k1).trans k2, hs2, v, rfl, o⟩))⟩
theorem WhR.turn {t : PySem.Expr} {body : List Stmt} {a : AV} {I3 : List (Addr × Obj) → Prop} {b : Bool} (h : Ts C lv I t b I1) (e : b = true) (g : Go C lv I1 body lv1 I2) (r : WhR C t body a I3 lv1 I2) : WhR C t body a I3 lv I := ⟨fun k hs => whl_turn (k := 0) PassesOwn.never (h.to hs fun c s1 led1 k1 hs1 q => by
      subst q
      exact WhlIf.yes e (g.to hs1 fun fl s2 led2 k2 hs2 q2 => by subst q2; exact r.to ((k.trans k1).trans k2) hs2))⟩
theorem Rt1.while {t : PySem.Expr} {body : List Stmt} {a : AV} {pos : Pos} (h : WhR C t body a I1 lv I) : Rt1 C lv I (.While t body [] pos) a I1 := ⟨fun led s hs => whl_start 0 (h.to (Kr.refl _) hs)⟩
end
-- a call of a def of the text
section
variable {w : World} {κ : Addr × Obj → Prop} {f g : Fn} {C : Cx w κ f} {I I1 : List (Addr × Obj) → Prop}
theorem Room.down {C' : Cx w κ g} {n : Nat} (h : Room C (n + 1)) (e : C'.A = C.A.deeper C'.env) : Room C' n := by
  obtain ⟨h1, h2⟩ := h
  refine ⟨?_, ?_⟩
  · rw [e]; show C.A.depth + 1 + n < _; omega
  · rw [e]; show C.A.units + 3 + 8 * n < _; omega
theorem CallC.of {name qual : PySem.Str} {params : Arguments} {body : List Stmt} {scope : Scope} {dV kV doc pm cdv ct oc : Value} {an od : Option Addr} {osl : Array (Option Value)} {fa : Addr} {as : List AV} {a : AV} {lv0 : List (PySem.Str × AV)}
    (ho : (hd0.heap_1 w.params).lookup fa = some ⟨oc, od, .func (fnOf name qual params body scope dV kV doc pm an cdv ct), osl⟩) (hcd : codeIn (hd0.heap_1 w.params) cdv qual = true) (hr : C.A.depth < recursionLimit)
    (hb : ∀ led s vs, (hd0.heap_1 w.params).In s.heap → OnAll κ led vs as → ∃ bs, BindsTo s (fnOf name qual params body scope dV kV doc pm an cdv ct) ⟨vs, []⟩ bs ∧ (∀ y ∈ bs, scope.names.lookup y.1 = some .local) ∧ ∀ q ∈ lv0, ∃ v, bs.reverse.lookup q.1 = some v ∧ q.2.On κ led v)
    (hbody : ∀ C' : Cx w κ ⟨qual, scope, fa, cdv⟩, C'.A = C.A.deeper C'.env → C.h₀.StaysIn C'.h₀ → Tr C' lv0 I (execs body C'.env) [] I1 fun led fl => a.On κ led (match fl with | .ret v => v | _ => .none))
    (hk : scope.kind = .function) (hco : scope.isCoroutine = false) (hgen : scope.isGenerator = false) (hcell : ∀ x ∈ scope.names, x.2 ≠ .cell) : CallC C I fa as a I1 := ⟨fun m vs led s sm F N hI o => by
  have hX : (hd0.heap_1 w.params).In s.heap := C.X.keeps F.keep
  obtain ⟨bs, b1, b2, b3⟩ := hb led s vs hX o
  refine wpAny_call ?_
  refine code_def C.B F C.X N C.T C.hA rfl C.hk ho hcd hr b1 b2 (fun g' L' h1 Fg F' N' B' X' T' => ?_) hco hgen hk hcell
  let C' : Cx w κ ⟨qual, scope, fa, cdv⟩ := { pq := C.pq, lq := C.lq, mean := C.mean, mg := C.mg, mb := C.mb, A := C.A.deeper (envX qual scope L' fa cdv []), A₀ := C.A, base := C.base, h₀ := g', L := L', cl := [], outer := C.env :: C.outer, g := C.g, hκ := C.hκ, B := B', X := X', T := T', hA := by rw [Around.frames_deeper C.hA], hh := C.hh, hk := hk }
  have h2 := hbody C' rfl Fg.keep led { s with heap := h1, toks := s.toks + bs.length } ⟨sm, N', ⟨_, F', b3⟩, hI⟩
  refine wpAny_mono h2 (fun fl s2 p => ?_) fun _ _ e => e.elim
  obtain ⟨led2, k2, hs2, o2⟩ := p
  obtain ⟨m2, F2, _⟩ := hs2.F
  exact leaveK_ F2 hs2.N fun F3 N3 => ⟨led2, k2, hs2.same, F3, N3, hs2.I, o2⟩⟩
abbrev Cx.as (C : Cx w κ f) (κ' : Addr × Obj → Prop) (h : ∀ a o, isTL o → κ' (a, o)) : Cx w κ' f := { pq := C.pq, lq := C.lq, mean := C.mean, mg := C.mg, mb := C.mb, A := C.A, A₀ := C.A₀, base := C.base, h₀ := C.h₀, L := C.L, cl := C.cl, outer := C.outer, g := C.g, hκ := h, B := C.B, X := C.X, T := C.T, hA := C.hA, hh := C.hh, hk := C.hk }
theorem CallC.weak {κ' : Addr × Obj → Prop} {hκ' : ∀ a o, isTL o → κ' (a, o)} {fa : Addr} {as : List AV} {a : AV} (hs : ∀ q, κ q → κ' q) (h : CallC (C.as κ' hκ') I fa as a I1) (hp : a.plain = true := by rfl) : CallC C I fa as a I1 := ⟨fun m vs led s sm F N hI o => wpAny_mono (h.h m vs led s sm F N hI (o.up hs)) (fun v s2 p => let ⟨led2, k2, q1, q2, q3, q4, q5⟩ := p; ⟨led2, fun q hq e => k2 q hq (hs q e), q1, q2, q3, q4, q5.to hp⟩) fun _ _ e => e⟩
theorem Cx.top (C : Cx w κ f) : C.A = ktrTop C.A.depth C.A.units C.A.guards f.qual f.scope C.L f.a f.cd C.cl C.outer := by
  have h1 := C.hA
  have h2 := C.hh
  generalize C.A = A at h1 h2 ⊢
  cases A
  simp only at h1 h2
  subst h1; subst h2
  rfl
theorem CallC.ofK {fa : Addr} {as : List AV} {a : AV} (h : ∀ {m : PySem.Str → Option Value} {s : Shared} {led : List (Addr × Obj)} {vs : List Value} {Q : Value → Shared → Prop}, Fr C.h₀ C.L s.heap m → News C.h₀ C.L s.heap led → OnAll κ led vs as → I led →
      (∀ v h' tk' led', Fr C.h₀ C.L h' m → News C.h₀ C.L h' led' → Kr κ led led' → I1 led' → a.On κ led' v → Q v { s with heap := h', toks := tk' }) → wpAny (model P0 w) (ktrTop C.A.depth C.A.units C.A.guards f.qual f.scope C.L f.a f.cd C.cl C.outer) (call (.ref fa) vs) Q NoE s) : CallC C I fa as a I1 := ⟨fun m vs led s sm F N hI o => by
  rw [C.top]
  exact h F N o hI fun v h' tk' led' F' N' k' i' o' => ⟨led', k', sm, F', N', i', o'⟩⟩
theorem Rt.fn {b : List Stmt} {a : AV} {lv : List (PySem.Str × AV)} (h : Rt C lv I b a I1) : Tr C lv I (execs b C.env) [] I1 fun led fl => a.On κ led (match fl with | .ret v => v | _ => .none) := fun led s hs => h.to hs fun v s1 led1 k1 hs1 ⟨u, e, o⟩ => by subst e; exact ⟨led1, k1, hs1, o⟩
theorem Go.fn {b : List Stmt} {lv lv1 : List (PySem.Str × AV)} (h : Go C lv I b lv1 I1) : Tr C lv I (execs b C.env) [] I1 fun led fl => (AV.val .none).On κ led (match fl with | .ret v => v | _ => .none) := fun led s hs => h.to hs fun v s1 led1 k1 hs1 e => by subst e; exact ⟨led1, k1, hs1.nolv, rfl⟩
-- the arguments of a call, by their number
theorem bind1 {fd : FuncData} {scope : Scope} {a1 : AV} {lv0 : List (PySem.Str × AV)} {bs : Value → List (PySem.Str × Value)} (hb : ∀ s v1, (hd0.heap_1 w.params).In s.heap → BindsTo s fd ⟨[v1], []⟩ (bs v1)) (hl : ∀ v1, ((bs v1).all fun x => decide (scope.names.lookup x.1 = some .local)) = true)
    (hq : ∀ led v1, a1.On κ led v1 → ∀ q ∈ lv0, ∃ v, (bs v1).reverse.lookup q.1 = some v ∧ q.2.On κ led v) : ∀ led s vs, (hd0.heap_1 w.params).In s.heap → OnAll κ led vs [a1] → ∃ bs, BindsTo s fd ⟨vs, []⟩ bs ∧ (∀ y ∈ bs, scope.names.lookup y.1 = some .local) ∧ ∀ q ∈ lv0, ∃ v, bs.reverse.lookup q.1 = some v ∧ q.2.On κ led v :=
  fun led s vs X o => o.l1 fun v1 e o1 => ⟨bs v1, e ▸ hb s v1 X, locs (hl v1), hq led v1 o1⟩
theorem bind2 {fd : FuncData} {scope : Scope} {a1 a2 : AV} {lv0 : List (PySem.Str × AV)} {bs : Value → Value → List (PySem.Str × Value)} (hb : ∀ s v1 v2, (hd0.heap_1 w.params).In s.heap → BindsTo s fd ⟨[v1, v2], []⟩ (bs v1 v2)) (hl : ∀ v1 v2, ((bs v1 v2).all fun x => decide (scope.names.lookup x.1 = some .local)) = true)
    (hq : ∀ led v1 v2, a1.On κ led v1 → a2.On κ led v2 → ∀ q ∈ lv0, ∃ v, (bs v1 v2).reverse.lookup q.1 = some v ∧ q.2.On κ led v) : ∀ led s vs, (hd0.heap_1 w.params).In s.heap → OnAll κ led vs [a1, a2] → ∃ bs, BindsTo s fd ⟨vs, []⟩ bs ∧ (∀ y ∈ bs, scope.names.lookup y.1 = some .local) ∧ ∀ q ∈ lv0, ∃ v, bs.reverse.lookup q.1 = some v ∧ q.2.On κ led v :=
  fun led s vs X o => o.l2 fun v1 v2 e o1 o2 => ⟨bs v1 v2, e ▸ hb s v1 v2 X, locs (hl v1 v2), hq led v1 v2 o1 o2⟩
theorem bind3 {fd : FuncData} {scope : Scope} {a1 a2 a3 : AV} {lv0 : List (PySem.Str × AV)} {bs : Value → Value → Value → List (PySem.Str × Value)} (hb : ∀ s v1 v2 v3, (hd0.heap_1 w.params).In s.heap → BindsTo s fd ⟨[v1, v2, v3], []⟩ (bs v1 v2 v3)) (hl : ∀ v1 v2 v3, ((bs v1 v2 v3).all fun x => decide (scope.names.lookup x.1 = some .local)) = true)
    (hq : ∀ led v1 v2 v3, a1.On κ led v1 → a2.On κ led v2 → a3.On κ led v3 → ∀ q ∈ lv0, ∃ v, (bs v1 v2 v3).reverse.lookup q.1 = some v ∧ q.2.On κ led v) : ∀ led s vs, (hd0.heap_1 w.params).In s.heap → OnAll κ led vs [a1, a2, a3] → ∃ bs, BindsTo s fd ⟨vs, []⟩ bs ∧ (∀ y ∈ bs, scope.names.lookup y.1 = some .local) ∧ ∀ q ∈ lv0, ∃ v, bs.reverse.lookup q.1 = some v ∧ q.2.On κ led v :=
  fun led s vs X o => o.l3 fun v1 v2 v3 e o1 o2 o3 => ⟨bs v1 v2 v3, e ▸ hb s v1 v2 v3 X, locs (hl v1 v2 v3), hq led v1 v2 v3 o1 o2 o3⟩
end
section
variable {w : World} {κ : Addr × Obj → Prop} {mean : ExcName → Option Value} {pq : Program} {lq : List PySem.Str} {mg mb : PySem.Str → Option Value} {dp un : Nat} {gd : Option (List Code)} {cn : PySem.Str} {cs : Scope} {a : Addr} {ccd : Value} {cl : List (PySem.Str × Addr)} {outer : List Env} {A₀ : Around} {base h₀ : Heap} {L : Addr} {m : PySem.Str → Option Value} {s : Shared}
  {Q E : Value → Shared → Prop} {led : List (Addr × Obj)} {I I1 : List (Addr × Obj) → Prop}
abbrev mkC (hκ : ∀ a o, isTL o → κ (a, o)) (gd : Option (List Code)) (dp un : Nat) (L : Addr) (cl : List (PySem.Str × Addr)) (s : Shared) (B : Below A₀ base outer h₀) (X : (hd0.heap_1 w.params).In h₀) (T : Top pq lq mean mg mb h₀) (hk : cs.kind = .function) : Cx w κ ⟨cn, cs, a, ccd⟩ :=
  { pq := pq, lq := lq, mean := mean, mg := mg, mb := mb, A := ktrTop dp un gd cn cs L a ccd cl outer, A₀ := A₀, base := base, h₀ := h₀, L := L, cl := cl, outer := outer, g := s, hκ := hκ, B := B, X := X, T := T, hA := rfl, hh := rfl, hk := hk }
theorem CallC.k {fa : Addr} {as : List AV} {v : AV} {vs : List Value} {hκ : ∀ a o, isTL o → κ (a, o)} {B : Below A₀ base outer h₀} {X : (hd0.heap_1 w.params).In h₀} {T : Top pq lq mean mg mb h₀} {hk : cs.kind = .function} (F : Fr h₀ L s.heap m) (N : News h₀ L s.heap led) (hI : I led) (o : OnAll κ led vs as) (h : CallC (mkC (cn := cn) (a := a) (ccd := ccd) hκ gd dp un L cl s B X T hk) I fa as v I1)
    (hret : ∀ u h' tk' led', Fr h₀ L h' m → News h₀ L h' led' → Kr κ led led' → I1 led' → v.On κ led' u → Q u { s with heap := h', toks := tk' }) : wpAny (model P0 w) (ktrTop dp un gd cn cs L a ccd cl outer) (call (.ref fa) vs) Q E s := by
  refine wpAny_mono (h.h m vs led s ⟨rfl, rfl, rfl⟩ F N hI o) (fun u s2 p => ?_) fun _ _ e => e.elim
  obtain ⟨led2, k2, ⟨e1, e2, e3⟩, F2, N2, i2, o2⟩ := p
  have := hret u s2.heap s2.toks led2 F2 N2 k2 i2 o2
  cases s2
  simp only at e1 e2 e3
  subst e1; subst e2; subst e3
  exact this
end
end
section
open PySem PySem.W PySem.Spec PySem.Calls PyProof.Rows
-- the state of a reader: it stands at p, l is what is still to be read
structure RP (w : World) (r : RdI) (p : Int) (l : List Pr) (led : List (Addr × Obj)) : Prop where
  R : ∃ tp, Rdr w r p tp led
  H : Rest r.T p l
theorem RP.mono {w : World} {r : RdI} {p : Int} {l : List Pr} : MonoI (RP w r p l) := fun h k => ⟨let ⟨tp, R⟩ := h.R; ⟨tp, R.mono k⟩, h.H⟩
section
variable {w : World} {κ : Addr × Obj → Prop} {f : Fn} {C : Cx w κ f} {lv lv1 : List (PySem.Str × AV)} {I I1 I2 : List (Addr × Obj) → Prop} {led : List (Addr × Obj)} {s : Shared} {r : RdI} {p : Int} {l : List Pr} {x : PySem.Str}
theorem rd_attr {attr : PySem.Str} {v : Value} {b : AV} {tp : Tok} (hs : St C lv I led s) (R : Rdr w r p tp led) (hg : plainGet (hd0.heap_1 w.params) 465 attr = true) {at0 : Option Value} (ha : findIn (hd0.heap_1 w.params) (.ref 465) attr = some at0) (hn : noGet (hd0.heap_1 w.params) at0 = true)
    (hl : getL attr [⟨kh w "tokens", .str "tokens" r.t1, .ref r.TL⟩, ⟨kh w "at", .str "at" r.t2, .int p tp⟩, ⟨kh w "named", .str "named" r.t3, .ref r.NM⟩] = some (some v)) (hv : handedIn v = true) (o : b.On κ led v) : wpAny (model P0 w) C.A (getAttr (.ref r.rd) attr true) (Po C lv I led fun led v => b.On κ led v) NoE s := by
  obtain ⟨m, F, _⟩ := hs.F
  exact get_own F C.X (InstAt.of_news hs.N R.inst R.dict) hg (by k_is) ha hn hl hv (Po.same hs.tok o)
theorem Attr.at : Attr C (RP w r p l) (.val (.ref r.rd)) "at" (.int p) := ⟨fun lv led s v hs o => by
  have o' : v = .ref r.rd := o
  subst o'
  obtain ⟨tp, R⟩ := hs.I.R
  exact rd_attr hs R (by k_is) (by k_is) (by k_is) (by k_get) rfl ⟨tp, rfl⟩⟩
theorem Attr.tokens : Attr C (RP w r p l) (.val (.ref r.rd)) "tokens" (.val (.ref r.TL)) := ⟨fun lv led s v hs o => by
  have o' : v = .ref r.rd := o
  subst o'
  obtain ⟨tp, R⟩ := hs.I.R
  exact rd_attr hs R (by k_is) (by k_is) (by k_is) (by k_get) rfl rfl⟩
theorem tk_attr {attr : PySem.Str} {v : Value} {b : AV} {t : Tk} (hs : St C lv I led s) (h1 : (t.a, instObj 495 t.d) ∈ led) (h2 : (t.d, tokD w t) ∈ led) (hg : plainGet (hd0.heap_1 w.params) 495 attr = true) {at0 : Option Value} (ha : findIn (hd0.heap_1 w.params) (.ref 495) attr = some at0) (hn : noGet (hd0.heap_1 w.params) at0 = true)
    (hl : getL attr [⟨kh w "kind", .str "kind" t.t1, .str t.k t.kt⟩, ⟨kh w "worth", .str "worth" t.t2, .str t.x t.xt⟩, ⟨kh w "at", .str "at" t.t3, .ref t.p⟩, ⟨kh w "is_in_a", .str "is_in_a" t.t4, .bool false⟩] = some (some v)) (hv : handedIn v = true) (o : b.On κ led v) : wpAny (model P0 w) C.A (getAttr (.ref t.a) attr true) (Po C lv I led fun led v => b.On κ led v) NoE s := by
  obtain ⟨m, F, _⟩ := hs.F
  exact get_own F C.X (InstAt.of_news hs.N h1 h2) hg (by k_is) ha hn hl hv (Po.same hs.tok o)
theorem Attr.kind {k x : PySem.Str} : Attr C (RP w r p l) (.tok r (k, x)) "kind" (.str k) := ⟨fun lv led s v hs ⟨t, ht, e, e1, e2⟩ => by
  subst e
  obtain ⟨tp, R⟩ := hs.I.R
  obtain ⟨a1, a2, a3, a4⟩ := R.toks t ht
  exact tk_attr hs a1 a2 (by k_is) (by k_is) (by k_is) (by k_get) rfl ⟨_, by rw [e1]⟩⟩
theorem Attr.worth {k x : PySem.Str} : Attr C (RP w r p l) (.tok r (k, x)) "worth" (.str x) := ⟨fun lv led s v hs ⟨t, ht, e, e1, e2⟩ => by
  subst e
  obtain ⟨tp, R⟩ := hs.I.R
  obtain ⟨a1, a2, a3, a4⟩ := R.toks t ht
  exact tk_attr hs a1 a2 (by k_is) (by k_is) (by k_is) (by k_get) rfl ⟨_, by rw [e2]⟩⟩
theorem Meth.rd {name : PySem.Str} {fa : Addr} (hf : findIn (hd0.heap_1 w.params) (.ref 465) name = some (some (.ref fa))) (hg : plainGet (hd0.heap_1 w.params) 465 name = true) (ht : isFn (hd0.heap_1 w.params) (.ref fa) = true) (hl : ∀ t1 t2 t3 v1 v2 v3 h1 h2 h3, getL name [⟨h1, .str "tokens" t1, v1⟩, ⟨h2, .str "at" t2, v2⟩, ⟨h3, .str "named" t3, v3⟩] = some none) : Meth C (RP w r p l) (.val (.ref r.rd)) name fa := ⟨fun lv led s v hs o pl Q h => by
  have o' : v = .ref r.rd := o
  subst o'
  obtain ⟨m, F, _⟩ := hs.F
  obtain ⟨tp, R⟩ := hs.I.R
  exact method_inst F C.X (InstAt.of_news hs.N R.inst R.dict) hg hf ht (hl _ _ _ _ _ _ _ _ _) h⟩
theorem Opn.eqStr {x y : PySem.Str} : Opn C .Eq (.str x) (.str y) (x == y) := ⟨fun lv I led s v u hs ⟨t, e⟩ ⟨t', e'⟩ => by subst e; subst e'; exact eq_str (Po.same hs rfl)⟩
theorem Opn.eqStrT {x : PySem.Str} : Opn C .Eq (.str x) (.str x) true := ⟨fun lv I led s v u hs ⟨t, e⟩ ⟨t', e'⟩ => by subst e; subst e'; exact eq_str (Po.same hs (by simp))⟩
theorem Opn.neStrF {x : PySem.Str} : Opn C .NotEq (.str x) (.str x) false := ⟨fun lv I led s v u hs ⟨t, e⟩ ⟨t', e'⟩ => by subst e; subst e'; exact ne_str (Po.same hs (by simp))⟩
theorem Opn.neStrT {x y : PySem.Str} (h : (x == y) = false) : Opn C .NotEq (.str x) (.str y) true := ⟨fun lv I led s v u hs ⟨t, e⟩ ⟨t', e'⟩ => by subst e; subst e'; exact ne_str (Po.same hs (by rw [bne, h]; rfl))⟩
theorem beqT {x : PySem.Str} : (x == x) = true := by simp
theorem beqF {x y : PySem.Str} (h : (x == y) = false) : (x == y) = false := h
theorem strsAre_len {vs : List Value} {ys : List PySem.Str} (h : StrsAre vs ys) : vs.length = ys.length := by
  induction h with
  | nil => rfl
  | cons _ _ _ r => exact congrArg Nat.succ r
theorem BltC.lenStrs {ws : List PySem.Str} {n : Int} (hn : (ws.length : Int) = n) (h : Nat.ble ws.length 16384 = true) : BltC C I "len" [.strs ws] (.int n) := ⟨fun lv vs led s hs o => by
  refine o.l1 fun v e9 h90 => ?_
  subst e9
  obtain ⟨a, us, k, e, hm, hv⟩ := h90
  subst e
  have hl : us.length = ws.length := strsAre_len hv.1
  have := Nat.le_of_ble_eq_true h
  refine kun_lenL (k := n) (News.isList hs.N hm) (by rw [List.size_toArray, hl]; exact hn) (by omega) ?_
  exact Po.same hs.tok ⟨_, rfl⟩⟩
theorem BMeth.split {x : PySem.Str} : BMeth C I (.str x) "split" "str.split" := ⟨fun lv led s v hs ⟨t, e⟩ pl Q h => by subst e; exact GM.split h⟩
theorem BltC.split {x y : PySem.Str} {ws : List PySem.Str} (hne : ws ≠ []) (hI : MonoI I) (hw : Txt.split x y = ws) (hy : (y.length == 0) = false) (hx : Nat.ble (x.length + 2) 1000 = true) : BltC C I "str.split" [.str x, .str y] (.strs ws) := ⟨fun lv vs led s hs o => by
  refine o.l2 fun v u e9 h90 h91 => ?_
  subst e9
  obtain ⟨t, e⟩ := h90
  obtain ⟨t', e'⟩ := h91
  subst e; subst e'
  obtain ⟨m, F, hm⟩ := hs.F
  have hx' := Nat.le_of_ble_eq_true hx
  refine KSpl.split1 F hs.N hy (fun D l h' k h1 h2 F' N' l' => ⟨_, Kr.cons, ⟨hs.same, N', ⟨m, F', fun q hq => let ⟨v, e1, e2⟩ := hm q hq; ⟨v, e1, e2.tl (fun _ hq _ => .tail _ hq) fun _ hq _ _ => .tail _ hq⟩⟩, hI hs.I fun _ hq => .tail _ hq⟩, ⟨D, _, _, rfl, .head _, ?_⟩⟩) (by unfold sizeLine; omega)
  rw [h1, hw] at h2
  refine ⟨h2, fun e => hne ?_⟩
  rw [e] at h2
  cases h2
  rfl⟩
theorem Opn.gtIntV {x y : Int} {t : Tok} : Opn C .Gt (.int x) (.val (.int y t)) (decide (y < x)) := ⟨fun lv I led s v u hs ⟨t, e⟩ e' => by
  have e2 : u = .int y _ := e'
  subst e; subst e2; exact gt_int (Po.same hs rfl)⟩
theorem DVs.consE {led : List (Addr × Obj)} {vs : List Value} {d : Dt} {ds : List Dt} {P : Prop} (h : DVs led vs (d :: ds)) (k : ∀ v us, vs = v :: us → DV led v d → DVs led us ds → P) : P := by
  cases h with
  | cons a b => exact k _ _ rfl a b
theorem DV.strE {led : List (Addr × Obj)} {v : Value} {x : PySem.Str} {P : Prop} (h : DV led v (.str x)) (k : ∀ t, v = .str x t → P) : P := by
  cases h; exact k _ rfl
theorem strsOf {led : List (Addr × Obj)} {ys : List PySem.Str} : ∀ {vs : List Value}, DVs led vs (ys.map Dt.str) → StrsAre vs ys := by
  induction ys with
  | nil => intro vs h; cases h; exact .nil
  | cons y ys ih => exact fun h => h.consE fun v us e a b => a.strE fun t e2 => e ▸ e2 ▸ .cons y t (ih b)
theorem Opn.notinTup {x : PySem.Str} {ys : List PySem.Str} {b : Bool} (hb : (!(ys.any (· == x))) = b) : Opn C .NotIn (.str x) (.dt (.tup (ys.map Dt.str))) b := ⟨fun lv I led s v u hs ⟨t, e⟩ o => by
  subst e
  cases o with
  | tup hm hr => exact notin_tuple_strs (News.isTup hs.N hm) (strsOf hr) (by rw [hb]; exact Po.same hs rfl)⟩
theorem Opn.inTup {x : PySem.Str} {ys : List PySem.Str} {b : Bool} (hb : (ys.any (· == x)) = b) : Opn C .In (.str x) (.dt (.tup (ys.map Dt.str))) b := ⟨fun lv I led s v u hs ⟨t, e⟩ o => by
  subst e
  cases o with
  | tup hm hr => exact in_tuple_strs (News.isTup hs.N hm) (strsOf hr) (by rw [hb]; exact Po.same hs rfl)⟩
theorem Opn.inLit {x y : PySem.Str} {t : Tok} {b : Bool} (hb : (!(PySem.Builtin.Str.occurrences x y 0 x.length 1).isEmpty) = b) : Opn C .In (.str y) (.val (.str x t)) b := ⟨fun lv I led s v u hs ⟨t, e⟩ e' => by
  have e2 : u = .str x _ := e'
  subst e; subst e2
  exact in_lit hb (Po.same hs rfl)⟩
theorem Sub1.item0 {value slice : PySem.Expr} {x : PySem.Str} {ds : List Dt} (hsx : ∀ a b u, subscripted slice false (.ref a) (.int b u) = operate [.ref a, .int b u] (getItem (.ref a) (.int b u)) := by intros; with_unfolding_all rfl) : Sub1 C I value slice (.dt (.tup (.str x :: ds))) (.int 0) (.str x) := ⟨fun lv led s v u hs o ⟨t', e'⟩ => by
  subst e'
  obtain ⟨a, t, vs, n, e, hm⟩ := dv_head o
  subst e
  exact tup_item0 hs.N hm (Po.same hs ⟨_, rfl⟩) (hsx _ _ _)⟩
theorem Ev.list0 {pos : Pos} (hI : MonoI I) (hn : ∀ D n, κ (D, lstO [] n)) : Ev C lv I (.List [] pos) .nil I := ⟨fun led s hs => List_ (args_nil (by
  obtain ⟨m, F, hl⟩ := hs.F
  refine newList_K F hs.N (fun D h' F' N' l' => ⟨_, Kr.cons, ⟨hs.same, N', ⟨m, F', fun q hq => let ⟨v, e, o⟩ := hl q hq; ⟨v, e, o.tl (fun _ hq _ => .tail _ hq) fun _ hq _ _ => .tail _ hq⟩⟩, hI hs.I fun _ hq => .tail _ hq⟩, D, 0, rfl, mem_fl.mpr ⟨.head _, hn _ _⟩⟩) (by decide)))⟩
structure TypC (C : Cx w κ f) (I : List (Addr × Obj) → Prop) (T : String) (as : List AV) (a : AV) : Prop where
  h : ∀ lv vs led s, St C lv I led s → OnAll κ led vs as → wpAny (model P0 w) C.A (call (.type T) vs) (Po C lv I led fun led v => a.On κ led v) NoE s
theorem Ev.tcall {x : PySem.Str} {p : Pos} {e : PySem.Expr} {rest : List PySem.Expr} {pos : Pos} {T : String} {b : AV} {as : List AV} (ho : Ev C lv I (.Name x p) (.val (.type T)) I1) (hA : Evs C lv I1 (e :: rest) as I2) (hc : TypC C I2 T as b) : Ev C lv I (.Call (.Name x p) (e :: rest) [] pos) b I2 := ⟨fun led s hs =>
  Call_ (ho.to hs fun v s1 led1 k1 hs1 o1 => by
    have o' : v = .type T := o1
    subst o'
    exact PyProof.Rows.callWith_type1 ((hA.h pos).to hs1 fun vs s2 led2 k2 hs2 o2 => wpo (k1.trans k2) (hc.h _ _ _ _ hs2 o2)) hA.s1 hA.s2) (fcall_eq _ _ _ _ _)⟩
theorem TypC.tup0 (hI : MonoI I) : TypC C I "tuple" [.nil] (.dt (.tup [])) := ⟨fun lv vs led s hs o => by
  refine o.l1 fun v e9 h90 => ?_
  subst e9
  obtain ⟨a, k, e, hm'⟩ := h90
  subst e
  have hm := (mem_fl.mp hm').1
  obtain ⟨m, F, hl⟩ := hs.F
  exact kde_tupleOf F hs.N (News.isList hs.N hm) (by decide) rfl fun D h' F' N' l' => ⟨_, Kr.cons, ⟨hs.same, N', ⟨m, F', fun q hq => let ⟨v, e, o⟩ := hl q hq; ⟨v, e, o.tl (fun _ hq _ => .tail _ hq) fun _ hq _ _ => .tail _ hq⟩⟩, hI hs.I fun _ hq => .tail _ hq⟩, .tup (.head _) .nil⟩⟩
theorem Opn.ltInt {x y : Int} : Opn C .Lt (.int x) (.int y) (decide (x < y)) := ⟨fun lv I led s v u hs ⟨t, e⟩ ⟨t', e'⟩ => by subst e; subst e'; exact lt_int (Po.same hs rfl)⟩
theorem Opn.gtInt {x y : Int} : Opn C .Gt (.int x) (.int y) (decide (y < x)) := ⟨fun lv I led s v u hs ⟨t, e⟩ ⟨t', e'⟩ => by subst e; subst e'; exact gt_int (Po.same hs rfl)⟩
theorem Opn.eqInt {x y : Int} : Opn C .Eq (.int x) (.int y) (x == y) := ⟨fun lv I led s v u hs ⟨t, e⟩ ⟨t', e'⟩ => by subst e; subst e'; exact eq_int (Po.same hs rfl)⟩
theorem Opn.gtB {x y : Int} {b : Bool} (h : decide (y < x) = b) : Opn C .Gt (.int x) (.int y) b := h ▸ Opn.gtInt
theorem Opn.eqB {x y : Int} {b : Bool} (h : (x == y) = b) : Opn C .Eq (.int x) (.int y) b := h ▸ Opn.eqInt
theorem Opn.isNN : Opn C .Is (.val .none) (.val .none) true := ⟨fun lv I led s v u hs e e' => by
  have e1 : v = .none := e
  have e2 : u = .none := e'
  subst e1; subst e2; exact is_none_none (Po.same hs rfl)⟩
theorem Opn.isTN {q : Pr} : Opn C .Is (.tok r q) (.val .none) false := ⟨fun lv I led s v u hs ⟨t, _, e, _⟩ e' => by
  have e2 : u = .none := e'
  subst e; subst e2; exact is_ref_none (Po.same hs rfl)⟩
theorem Opn.isnotNN : Opn C .IsNot (.val .none) (.val .none) false := ⟨fun lv I led s v u hs e e' => by
  have e1 : v = .none := e
  have e2 : u = .none := e'
  subst e1; subst e2; exact isnot_none_none (Po.same hs rfl)⟩
theorem Opn.isnotTN {q : Pr} : Opn C .IsNot (.tok r q) (.val .none) true := ⟨fun lv I led s v u hs ⟨t, _, e, _⟩ e' => by
  have e2 : u = .none := e'
  subst e; subst e2; exact isnot_ref_none (Po.same hs rfl)⟩
theorem Opn.isDN {ds : List Dt} : Opn C .Is (.dt (.tup ds)) (.val .none) false := ⟨fun lv I led s v u hs e e' => by
  have e2 : u = .none := e'
  obtain ⟨a, e1⟩ := dv_ref e
  subst e1; subst e2; exact is_ref_none (Po.same hs rfl)⟩
theorem Opn.isBN {b : Array UInt8} : Opn C .Is (.dt (.bytes b)) (.val .none) false := ⟨fun lv I led s v u hs e e' => by
  have e2 : u = .none := e'
  cases e
  subst e2; exact is_bytes_none (Po.same hs rfl)⟩
theorem BltC.lenTL : BltC C (RP w r p l) "len" [.val (.ref r.TL)] (.int r.T.length) := ⟨fun lv vs led s hs o => by
  refine o.l1 fun v e9 o1 => ?_
  subst e9
  have o' : v = .ref r.TL := o1
  subst o'
  obtain ⟨tp, R⟩ := hs.I.R
  have h1 := R.fit
  refine KM.len_K (n := r.T.length) hs.N R.lst (tvs_size r.T) (by omega) ?_
  exact Po.same hs.tok ⟨_, rfl⟩⟩
theorem Rest.at {T : List Tk} : ∀ {k : Nat} {p : Int} {l : List Pr} {q : Pr}, Rest T p l → l[k]? = some q → ∃ t, T[(p + (k : Int)).toNat]? = some t ∧ t.k = q.1 ∧ t.x = q.2 := by
  intro k p l q h hq
  obtain ⟨h0, h⟩ := h
  rw [← h, List.getElem?_map, List.getElem?_drop] at hq
  obtain ⟨t, h1, h2⟩ := Option.map_eq_some_iff.mp hq
  refine ⟨t, ?_, by rw [← h2], by rw [← h2]⟩
  rw [← h1]
  congr 1
  omega
theorem Rest.at_none {T : List Tk} {k : Nat} {p : Int} {l : List Pr} (h : Rest T p l) (hq : l[k]? = none) : T.length ≤ p + (k : Int) := by
  obtain ⟨h0, h⟩ := h
  have := List.getElem?_eq_none_iff.mp hq
  rw [← h, List.length_map, List.length_drop] at this
  omega
theorem Sub1.tok {value slice : PySem.Expr} {k : Nat} {q : Pr} (hq : l[k]? = some q) (hsx : ∀ a b u, subscripted slice false (.ref a) (.int b u) = operate [.ref a, .int b u] (getItem (.ref a) (.int b u)) := by intros; with_unfolding_all rfl) :
    Sub1 C (RP w r p l) value slice (.val (.ref r.TL)) (.int (p + (k : Int))) (.tok r q) := ⟨fun lv led s v u hs o ⟨t', e'⟩ => by
  have o' : v = .ref r.TL := o
  subst o'; subst e'
  obtain ⟨tp, R⟩ := hs.I.R
  obtain ⟨t, h1, h2, h3⟩ := hs.I.H.at hq
  have h0 := R.p0
  have hf := R.fit
  have hl := (List.getElem?_eq_some_iff.mp h1).1
  exact tok_item hs.N R.lst (by omega) (by omega) (tvs_at h1) (Po.same hs ⟨t, List.mem_of_getElem? h1, rfl, h2, h3⟩) (hsx _ _ _)⟩
-- continuations by what a test gave
structure OrK (C : Cx w κ f) (lv : List (PySem.Str × AV)) (rest : List PySem.Expr) (I1 : List (Addr × Obj) → Prop) (b c : Bool) (I2 : List (Addr × Obj) → Prop) : Prop where
  h : ∀ {I : List (Addr × Obj) → Prop} {e : PySem.Expr}, Ts C lv I e b I1 → Ors C lv I (e :: rest) c I2
theorem OrK.stop {rest : List PySem.Expr} {b : Bool} (e : b = true) : OrK C lv rest I1 b true I1 := ⟨fun h => .stop h e⟩
theorem OrK.go {rest : List PySem.Expr} {b c : Bool} (e : b = false) (r : Ors C lv I1 rest c I2) : OrK C lv rest I1 b c I2 := ⟨fun h => .go h e r⟩
theorem Ors.any {e : PySem.Expr} {rest : List PySem.Expr} {b c : Bool} (h : Ts C lv I e b I1) (k : OrK C lv rest I1 b c I2) : Ors C lv I (e :: rest) c I2 := k.h h
structure AndK (C : Cx w κ f) (lv : List (PySem.Str × AV)) (rest : List PySem.Expr) (I1 : List (Addr × Obj) → Prop) (b c : Bool) (I2 : List (Addr × Obj) → Prop) : Prop where
  h : ∀ {I : List (Addr × Obj) → Prop} {e : PySem.Expr}, Ts C lv I e b I1 → Ands C lv I (e :: rest) c I2
theorem AndK.stop {rest : List PySem.Expr} {b : Bool} (e : b = false) : AndK C lv rest I1 b false I1 := ⟨fun h => .stop h e⟩
theorem AndK.go {rest : List PySem.Expr} {b c : Bool} (e : b = true) (r : Ands C lv I1 rest c I2) : AndK C lv rest I1 b c I2 := ⟨fun h => .go h e r⟩
theorem Ands.any {e : PySem.Expr} {rest : List PySem.Expr} {b c : Bool} (h : Ts C lv I e b I1) (k : AndK C lv rest I1 b c I2) : Ands C lv I (e :: rest) c I2 := k.h h
structure VndK (C : Cx w κ f) (lv : List (PySem.Str × AV)) (y : PySem.Expr) (rest : List PySem.Expr) (I1 : List (Addr × Obj) → Prop) (b c : Bool) (I2 : List (Addr × Obj) → Prop) : Prop where
  h : ∀ {I : List (Addr × Obj) → Prop} {e : PySem.Expr}, Ev C lv I e (.val (.bool b)) I1 → Vnds C lv I (e :: y :: rest) c I2
theorem VndK.stop {y : PySem.Expr} {rest : List PySem.Expr} {b : Bool} (e : b = false) : VndK C lv y rest I1 b false I1 := ⟨fun h => .stop h e⟩
theorem VndK.go {y : PySem.Expr} {rest : List PySem.Expr} {b c : Bool} (e : b = true) (r : Vnds C lv I1 (y :: rest) c I2) : VndK C lv y rest I1 b c I2 := ⟨fun h => .go h e r⟩
theorem VndK.both {y : PySem.Expr} {rest : List PySem.Expr} {b c : Bool} (r : b = true → Vnds C lv I1 (y :: rest) c I1) : VndK C lv y rest I1 b (b && c) I1 := ⟨fun h => .both h r⟩
theorem Vnds.any {e y : PySem.Expr} {rest : List PySem.Expr} {b c : Bool} (h : Ev C lv I e (.val (.bool b)) I1) (k : VndK C lv y rest I1 b c I2) : Vnds C lv I (e :: y :: rest) c I2 := k.h h
structure IfK (C : Cx w κ f) (lv : List (PySem.Str × AV)) (I1 : List (Addr × Obj) → Prop) (y n : PySem.Expr) (a : AV) (I2 : List (Addr × Obj) → Prop) (b : Bool) : Prop where
  h : ∀ {I : List (Addr × Obj) → Prop} {t : PySem.Expr} {pos : Pos}, Ts C lv I t b I1 → Ev C lv I (.IfExp t y n pos) a I2
theorem IfK.yes {y n : PySem.Expr} {a : AV} {b : Bool} (e : b = true) (h2 : Ev C lv I1 y a I2) : IfK C lv I1 y n a I2 b := ⟨fun h => .ifx h (fun _ => h2) (fun e2 => by rw [e] at e2; cases e2)⟩
theorem IfK.no {y n : PySem.Expr} {a : AV} {b : Bool} (e : b = false) (h2 : Ev C lv I1 n a I2) : IfK C lv I1 y n a I2 b := ⟨fun h => .ifx h (fun e2 => by rw [e] at e2; cases e2) (fun _ => h2)⟩
theorem Ev.ifk {t y n : PySem.Expr} {pos : Pos} {b : Bool} {a : AV} (h : Ts C lv I t b I1) (k : IfK C lv I1 y n a I2 b) : Ev C lv I (.IfExp t y n pos) a I2 := k.h h
structure GoK (C : Cx w κ f) (lv : List (PySem.Str × AV)) (I1 : List (Addr × Obj) → Prop) (body orelse : List Stmt) (lv1 : List (PySem.Str × AV)) (I2 : List (Addr × Obj) → Prop) (b : Bool) : Prop where
  h : ∀ {I : List (Addr × Obj) → Prop} {t : PySem.Expr} {pos : Pos}, Ts C lv I t b I1 → Go1 C lv I (.If t body orelse pos) lv1 I2
theorem GoK.yes {body orelse : List Stmt} {b : Bool} (e : b = true) (h2 : Go C lv I1 body lv1 I2) : GoK C lv I1 body orelse lv1 I2 b := ⟨fun h => .ifT h e h2⟩
theorem GoK.no {body orelse : List Stmt} {b : Bool} (e : b = false) (h2 : Go C lv I1 orelse lv1 I2) : GoK C lv I1 body orelse lv1 I2 b := ⟨fun h => .ifF h e h2⟩
theorem Go1.ifk {t : PySem.Expr} {body orelse : List Stmt} {pos : Pos} {b : Bool} (h : Ts C lv I t b I1) (k : GoK C lv I1 body orelse lv1 I2 b) : Go1 C lv I (.If t body orelse pos) lv1 I2 := k.h h
structure WhK (C : Cx w κ f) (t : PySem.Expr) (body : List Stmt) (lv : List (PySem.Str × AV)) (I1 : List (Addr × Obj) → Prop) (lv1 : List (PySem.Str × AV)) (I2 : List (Addr × Obj) → Prop) (b : Bool) : Prop where
  h : ∀ {I : List (Addr × Obj) → Prop}, Ts C lv I t b I1 → Wh C t body lv I lv1 I2
theorem WhK.stop {t : PySem.Expr} {body : List Stmt} {b : Bool} (e : b = false) : WhK C t body lv I1 lv I1 b := ⟨fun h => .stop h e⟩
theorem Wh.any {t : PySem.Expr} {body : List Stmt} {b : Bool} (h : Ts C lv I t b I1) (k : WhK C t body lv I1 lv1 I2 b) : Wh C t body lv I lv1 I2 := k.h h
def KP (r : RdI) (q : Addr × Obj) : Prop := isDict q.2 = false ∨ (q.1 ≠ r.dR ∧ q.1 ≠ 232)
def KD (q : Addr × Obj) : Prop := isDict q.2 = false
theorem hKP (r : RdI) : ∀ a o, isTL o → KP r (a, o) := fun _ _ h => .inl h.dict
theorem hKD : ∀ a o, isTL o → KD (a, o) := fun _ _ h => h.dict
theorem KD.KP (r : RdI) : ∀ q, KD q → KP r q := fun _ h => .inl h
end
section
variable {w : World} {r : RdI} {f : Fn} {C : Cx w (KP r) f} {lv lv1 lv2 lv' : List (PySem.Str × AV)} {I I1 : List (Addr × Obj) → Prop} {led : List (Addr × Obj)} {s : Shared} {p : Int} {l : List Pr} {x : PySem.Str}
theorem Go1.setat {o e : PySem.Expr} {p' pos : Pos} {k : Nat} {j : Int} {l' : List Pr} (h1 : Ev C lv I e (.int j) (RP w r p l)) (h2 : Ev C lv (RP w r p l) o (.val (.ref r.rd)) (RP w r p l)) (hj : j = p + (k : Int)) (hl : l.drop k = l') (hk : Nat.ble k l.length = true)
    (hsw : swapsWith e (some (.Attribute o "at" p')) pos.line C.env = pure false := by rfl) : Go1 C lv I (.Assign [.Attribute o "at" p'] e pos) lv (RP w r j l') := ⟨fun led s hs =>
  plainObj_wpAny_Assign_Attribute (h1.to hs fun v s1 led1 k1 hs1 ⟨t, e1⟩ => h2.to hs1 fun u s2 led2 k2 hs2 o2 => by
    have o' : u = .ref r.rd := o2
    subst o'; subst e1
    obtain ⟨m, F, hm⟩ := hs2.F
    obtain ⟨tp, R⟩ := hs2.I.R
    have H := hs2.I.H
    have hlen := H.len R.ple
    have hk' := Nat.le_of_ble_eq_true hk
    have h0 := R.p0
    have I0 := InstAt.of_news hs2.N R.inst R.dict
    have N1 := News.front hs2.N R.dict
    have R1 := R.set (p' := j) (tp' := t) hs2.N (by omega) (by omega)
    have k3 : Kr (KP r) led2 (front r.dR (rdD w r j t) led2) := fun q hq hκ => by
      rcases hκ with hκ | hκ
      · exact front_mem hs2.N R.dict (b := q.1) (x := q.2) hq fun e => by rw [e] at hκ; cases hκ
      · exact List.mem_cons_of_mem _ (List.mem_filter.mpr ⟨hq, by simpa using hκ.1⟩)
    k_dflt (refine' set_dict F C.X N1 I0 ?k5 ?k6 ?k7 ?k8 ?k9 ?k10 ?k11 ?k12 ?k13 ?_; (case k5 => exact rfl); (case k6 => k_is); (case k7 => k_is); (case k8 => k_is); (case k9 => k_is); (case k10 => k_get); (case k11 => k_put); (case k12 => exact Upd.head (front_off _ _)); (case k13 => exact Nat.le_of_ble_eq_true rfl); k_whole)
    intro h' F' N'
    refine ⟨_, (k1.trans k2).trans k3, ⟨hs2.same, N', ⟨m, F', fun q hq => ?_⟩, ⟨⟨t, R1⟩, ?_⟩⟩, rfl⟩
    · obtain ⟨v, e1, e2⟩ := hm q hq
      exact ⟨v, e1, e2.kr C k3⟩
    · obtain ⟨a1, a2⟩ := H
      refine ⟨by omega, ?_⟩
      rw [← hl, ← a2, ← List.map_drop, List.drop_drop]
      congr 2
      omega) hsw⟩
end
section
variable {w : World} {r : RdI} {κ : Addr × Obj → Prop} {f : Fn} {C : Cx w κ f} {lv lv1 lv2 lv' : List (PySem.Str × AV)} {I I1 : List (Addr × Obj) → Prop} {led : List (Addr × Obj)} {s : Shared} {p : Int} {l : List Pr} {x : PySem.Str}
-- loops over the words of a text
theorem Same.eq {g s s' : Shared} (h : Same g s) (h' : Same g s') : s' = { s with heap := s'.heap, toks := s'.toks } := by
  obtain ⟨a1, a2, a3⟩ := h
  obtain ⟨b1, b2, b3⟩ := h'
  cases s; cases s'
  simp only at a1 a2 a3 b1 b2 b3
  subst a1; subst a2; subst a3; subst b1; subst b2; subst b3
  rfl
structure FOff (r : RdI) (D : Addr) : Prop where
  d : D ≠ r.dR
  c : D ≠ 232
  i : D ≠ r.rd
  l : D ≠ r.TL
  t : ∀ t ∈ r.T, D ≠ t.a ∧ D ≠ t.d ∧ D ≠ t.p
structure KF (r : RdI) (κ : Addr × Obj → Prop) : Prop where
  h : ∀ D it, FOff r D → κ (D, it)
theorem KF.kp (r : RdI) : KF r (KP r) := ⟨fun D it o => .inr ⟨o.d, o.c⟩⟩
theorem KF.all (r : RdI) : KF r (fun _ => True) := ⟨fun _ _ _ => trivial⟩
theorem FOff.of {D : Addr} {tp : Tok} (R : Rdr w r p tp led) (h : ∀ q ∈ led, q.1 < D) : FOff r D := by
  have f : ∀ {a o}, (a, o) ∈ led → D ≠ a := fun hm => Ne.symm (Nat.ne_of_lt (h _ hm))
  obtain ⟨ps, hp, _⟩ := R.tab
  exact ⟨f R.dict, f hp, f R.inst, f R.lst, fun t ht => let ⟨a1, a2, a3, _⟩ := R.toks t ht; ⟨f a1, f a2, f a3⟩⟩
theorem RP.off {a b : List (Addr × Obj)} {D : Addr} (h : RP w r p l a) (o : FOff r D) (k : ∀ q ∈ a, q.1 ≠ D → q ∈ b) : RP w r p l b := by
  obtain ⟨⟨tp, R⟩, H⟩ := h
  refine ⟨⟨tp, k _ R.inst (Ne.symm o.i), k _ R.dict (Ne.symm o.d), k _ R.lst (Ne.symm o.l), fun t ht => ?_, R.p0, R.fit, R.ple, ?_⟩, H⟩
  · obtain ⟨a1, a2, a3, a4⟩ := R.toks t ht
    obtain ⟨o1, o2, o3⟩ := o.t t ht
    exact ⟨k _ a1 (Ne.symm o1), k _ a2 (Ne.symm o2), k _ a3 (Ne.symm o3), a4⟩
  · obtain ⟨ps, h1, h2⟩ := R.tab
    exact ⟨ps, k _ h1 (Ne.symm o.c), h2⟩
theorem isTL_ne {it o : Obj} (hc : it.cls = .type "list_iterator") (h : isTL o) : o ≠ it := by
  rintro rfl
  rcases h with ⟨_, h⟩ | ⟨vs, ws, n, _, h, _⟩
  · rw [h] at hc; revert hc; decide
  · rw [h] at hc
    have hc' : Value.type "list" = Value.type "list_iterator" := hc
    revert hc'; decide
theorem turn_st {u : PySem.Str} {t : Tok} {m : PySem.Str → Option Value} {it : Obj} {D : Addr} {h' : Heap} {tk : Nat} {s1 : Shared} (sm : Same C.g s1) (h : SetTo x (.str u) lv lv1) (nd : NoDup lv) (hm : ∀ q ∈ lv, ∃ v, m q.1 = some v ∧ q.2.On κ led v) (hI : RP w r p l led)
    (F : Fr C.h₀ C.L h' fun y => if y = x then some (.str u t) else m y) (N : News C.h₀ C.L h' ((D, it) :: led)) : St C lv1 (RP w r p l) ((D, it) :: led) { s1 with heap := h', toks := tk } := by
  refine ⟨sm, N, ⟨_, F, fun q hq => ?_⟩, RP.mono hI fun _ hq => .tail _ hq⟩
  rcases h.on q hq with rfl | ⟨h3, h4 | h4⟩
  · exact ⟨_, if_pos rfl, t, rfl⟩
  · obtain ⟨v, e1, e2⟩ := hm q h3
    exact ⟨v, by show (if q.1 = x then _ else _) = _; rw [if_neg h4]; exact e1, e2.tl (fun _ hq _ => .tail _ hq) fun _ hq _ _ => .tail _ hq⟩
  · exact absurd nd h4
theorem turn_end (hF : KF r κ) {it : Obj} {D : Addr} {h' : Heap} {tk : Nat} {s1 s2 : Shared} {led0 led2 : List (Addr × Obj)} {lp : Addr × Obj} {rest : (PySem.Str → Option Value) → List (Addr × Obj) → Prop} {Q : Flow → Shared → Prop} (hc : it.cls = .type "list_iterator") (hlp : isTL lp.2) (hD : lp.1 ≠ D) (off : FOff r D) (h0 : ∀ q ∈ led0, q.1 < D) (sm : Same C.g s1)
    (hl : lp ∈ led) (hk : Kr (κ) led0 led) (k2 : Kr (κ) ((D, it) :: led) led2) (hs : St C lv2 (RP w r p l) led2 s2)
    (ih : ∀ m b, (∀ q ∈ lv2, ∃ v, m q.1 = some v ∧ q.2.On κ b v) → RP w r p l b → lp ∈ b → Kr (κ) led0 b → rest m b) :
    UnrPost C.h₀ C.L { s1 with heap := h', toks := tk } D it (fun m' n' => lp ∈ n' ∧ rest m' n') Q .next s2 := by
  obtain ⟨m, F, hm⟩ := hs.F
  have hit : (D, it) ∈ led2 := k2 _ (.head _) (hF.h _ _ off)
  have kf : ∀ q ∈ led2, q.1 ≠ D → q ∈ led2.filter (fun q => q.1 != D) := fun q hq e => List.mem_filter.mpr ⟨hq, by simpa using e⟩
  have ltD : ∀ q ∈ led2, LT q.2 → q.1 ≠ D := fun q hq ht e => by
    obtain ⟨a, o⟩ := q
    have e' : a = D := e
    subst e'
    have e2 := same_of hs.N hq hit
    subst e2
    rcases ht with ht | ht
    · have h9 := ht.symm.trans hc
      revert h9; decide
    · have h9 := ht.symm.trans hc
      revert h9; decide
  have tlD : ∀ q ∈ led2, isTL q.2 → q.1 ≠ D := fun q hq ht e => by
    obtain ⟨a, o⟩ := q
    have e' : a = D := e
    subst e'
    exact isTL_ne hc ht (same_of hs.N hq hit)
  refine ⟨s2.heap, s2.toks, m, led2.filter (fun q => q.1 != D), Same.eq (g := C.g) sm hs.same, F, fun q hq => ?_, fun q hq => ?_, ?_, ?_⟩
  · rcases List.mem_cons.mp hq with rfl | hq
    · exact hs.N _ hit
    · exact hs.N _ (List.mem_filter.mp hq).1
  · have := (List.mem_filter.mp hq).2
    simpa using this
  · exact kf _ (k2 _ (.tail _ hl) (C.hκ _ _ hlp)) hD
  · refine ih m _ (fun q hq => ?_) (hs.I.off off kf) (kf _ (k2 _ (.tail _ hl) (C.hκ _ _ hlp)) hD) (fun q hq hκ => kf _ (k2 _ (.tail _ (hk q hq hκ)) hκ) (Nat.ne_of_lt (h0 q hq)))
    obtain ⟨v, e1, e2⟩ := hm q hq
    exact ⟨v, e1, e2.tl (fun q hq ht => kf q hq (tlD q hq ht)) fun q hq _ hl => kf q hq (ltD q hq hl)⟩
structure FR (r : RdI) (C : Cx w κ f) (x : PySem.Str) (body : List Stmt) (a : AV) (I' : List (Addr × Obj) → Prop) (ws : List PySem.Str) (lv : List (PySem.Str × AV)) (p : Int) (l : List Pr) : Prop where
  to : ∀ (hF : KF r κ) {s1 : Shared} {D : Addr} {lp : Addr × Obj} {led0 ledB : List (Addr × Obj)} (hlp : isTL lp.2) (hD : lp.1 ≠ D) (off : FOff r D) (hB : Kr κ ledB led0) (h0 : ∀ q ∈ led0, q.1 < D) (sm : Same C.g s1), ∀ vs m led, StrsAre vs ws → (∀ q ∈ lv, ∃ v, m q.1 = some v ∧ q.2.On κ led v) → RP w r p l led → lp ∈ led → Kr (κ) led0 led → ListRest P0 w C.A NoE C.h₀ C.env x body (fun fl s' => Po C [] I' ledB (fun led fl => ∃ v, fl = .ret v ∧ a.On κ led v) fl s') s1 D lp vs m led
theorem FR.ret {body : List Stmt} {a : AV} {I' : List (Addr × Obj) → Prop} {u : PySem.Str} {ws : List PySem.Str} (h : SetTo x (.str u) lv lv1) (nd : NoDup lv) (g : Rt C lv1 (RP w r p l) body a I') : FR r C x body a I' (u :: ws) lv p l := ⟨fun hF {s1 D lp led0 ledB} hlp hD off hB h0 sm vs m led hv hm hI hl hk => by
  cases hv with
  | cons y t hv =>
    exact ListRest.succ fun it h' tk hc F N => g.to (turn_st sm h nd hm hI F N) fun fl s2 led2 k2 hs2 ⟨v, e, o⟩ => by
      subst e
      exact ⟨led2, hB.trans fun q hq hκ => k2 _ (.tail _ (hk q hq hκ)) hκ, hs2, v, rfl, o⟩⟩
structure FG (r : RdI) (C : Cx w κ f) (x : PySem.Str) (body : List Stmt) (lv' : List (PySem.Str × AV)) (p' : Int) (l' : List Pr) (ws : List PySem.Str) (lv : List (PySem.Str × AV)) (p : Int) (l : List Pr) : Prop where
  to : ∀ (hF : KF r κ) {s1 : Shared} {D : Addr} {lp : Addr × Obj} {led0 ledB : List (Addr × Obj)} (hlp : isTL lp.2) (hD : lp.1 ≠ D) (off : FOff r D) (hB : Kr κ ledB led0) (h0 : ∀ q ∈ led0, q.1 < D) (sm : Same C.g s1), ∀ vs m led, StrsAre vs ws → (∀ q ∈ lv, ∃ v, m q.1 = some v ∧ q.2.On κ led v) → RP w r p l led → lp ∈ led → Kr (κ) led0 led → ListRest P0 w C.A NoE C.h₀ C.env x body (fun fl s' => Po C lv' (RP w r p' l') ledB (fun led fl => fl = .next) fl s') s1 D lp vs m led
theorem FG.nil {body : List Stmt} {p' : Int} {l' : List Pr} : FG r C x body lv' p' l' [] lv' p' l' := ⟨fun hF {s1 D lp led0 ledB} hlp hD off hB h0 sm vs m led hv hm hI hl hk => by
  cases hv
  exact ListRest.zero fun h tk F N => ⟨led, hB.trans hk, ⟨sm, N, ⟨m, F, hm⟩, hI⟩, rfl⟩⟩
theorem FG.next {body : List Stmt} {p' : Int} {l' : List Pr} {u : PySem.Str} {ws : List PySem.Str} {lv2 : List (PySem.Str × AV)} {p1 : Int} {l1 : List Pr} (h : SetTo x (.str u) lv lv1) (nd : NoDup lv) (g : Go C lv1 (RP w r p l) body lv2 (RP w r p1 l1)) (n : FG r C x body lv' p' l' ws lv2 p1 l1) : FG r C x body lv' p' l' (u :: ws) lv p l := ⟨fun hF {s1 D lp led0 ledB} hlp hD off hB h0 sm vs m led hv hm hI hl hk => by
  cases hv with
  | cons y t hv =>
    exact ListRest.succ fun it h' tk hc F N => g.to (turn_st sm h nd hm hI F N) fun fl s2 led2 k2 hs2 e => by
      subst e
      exact turn_end hF hc hlp hD off h0 sm hl hk k2 hs2 fun m b h1 h2 h3 h4 => n.to hF hlp hD off hB h0 sm _ _ _ hv h1 h2 h3 h4⟩
theorem for_strs {px pos : Pos} {iter : PySem.Expr} {body : List Stmt} {ws : List PySem.Str} {Q : Flow → Shared → Prop} (h : Ev C lv I iter (.strs ws) (RP w r p l)) (hs : St C lv I led s) (hx : C.env.kindOf x = some .local)
    (k : ∀ s1 D lp led1, isTL lp.2 → lp.1 ≠ D → FOff r D → (∀ q ∈ led1, q.1 < D) → Same C.g s1 → ∀ vs m, StrsAre vs ws → (∀ q ∈ lv, ∃ v, m q.1 = some v ∧ q.2.On κ led1 v) → RP w r p l led1 → lp ∈ led1 → Kr (κ) led led1 → ListRest P0 w C.A NoE C.h₀ C.env x body Q s1 D lp vs m led1)
    (hf : ∀ y, foldedSetIterable iter C.env y = pure y := by intro _; rfl) : wpAny (model P0 w) C.A (exec (.For (.Name x px) iter body [] pos) C.env) Q NoE s := by
  obtain ⟨m0, F0, _⟩ := hs.F
  have hkd := C.hk
  refine For_invVF (E := NoE) (h₀ := C.h₀) (m := m0) F0 hx (by show (f.scope.kind == .class || (f.scope.kind == .module && C.L != mainGlobals)) = false; rw [hkd]; rfl) (h.to hs fun v s1 led1 k1 hs1 o => ?_) hf PassesOwn.never
  obtain ⟨ax, vs, n, e, hm, hv, hz⟩ := o
  subst e
  obtain ⟨m, F, hl⟩ := hs1.F
  obtain ⟨tp, R⟩ := hs1.I.R
  exact iter_listUnr C.hh F hs1.N hm rfl rfl fun D lt => k s1 D _ led1 (.inr ⟨vs, ws, n, hz, rfl, hv⟩) (Nat.ne_of_lt (lt _ hm)) (FOff.of R lt) lt hs1.same vs m hv hl hs1.I hm k1
theorem Rt1.for (hF : KF r κ) {px pos : Pos} {iter : PySem.Expr} {body : List Stmt} {ws : List PySem.Str} {a : AV} {I' : List (Addr × Obj) → Prop} (h : Ev C lv I iter (.strs ws) (RP w r p l)) (g : FR r C x body a I' ws lv p l) (hx : C.env.kindOf x = some .local := by rfl) (hf : ∀ y, foldedSetIterable iter C.env y = pure y := by intro _; rfl) : Rt1 C lv I (.For (.Name x px) iter body [] pos) a I' := ⟨fun led s hs =>
  for_strs h hs hx (fun s1 D lp led1 a1 a2 a3 a4 a5 vs m hv hm hI hl hk => g.to hF a1 a2 a3 hk a4 a5 vs m led1 hv hm hI hl (Kr.refl _)) hf⟩
theorem Go1.for (hF : KF r κ) {px pos : Pos} {iter : PySem.Expr} {body : List Stmt} {ws : List PySem.Str} {p' : Int} {l' : List Pr} (h : Ev C lv I iter (.strs ws) (RP w r p l)) (g : FG r C x body lv' p' l' ws lv p l) (hx : C.env.kindOf x = some .local := by rfl) (hf : ∀ y, foldedSetIterable iter C.env y = pure y := by intro _; rfl) : Go1 C lv I (.For (.Name x px) iter body [] pos) lv' (RP w r p' l') := ⟨fun led s hs =>
  for_strs h hs hx (fun s1 D lp led1 a1 a2 a3 a4 a5 vs m hv hm hI hl hk => g.to hF a1 a2 a3 hk a4 a5 vs m led1 hv hm hI hl (Kr.refl _)) hf⟩
end
section
variable {w : World} {κ : Addr × Obj → Prop} {f : Fn} {C : Cx w κ f} {I I1 : List (Addr × Obj) → Prop} {lv lv1 lv2 : List (PySem.Str × AV)}
theorem fig_not {x : PySem.Str} {b : Bool} (h : ∀ lv I led s t, St C lv I led s → wpAny (model P0 w) C.A (compareOp .NotIn (.str x t) (.ref 132)) (Po C lv I led fun _ r => r = .bool b) NoE s) : Opn C .NotIn (.str x) (.val (.ref 132)) b := ⟨fun lv I led s v u hs ⟨t, e⟩ e' => by
  have e2 : u = .ref 132 := e'
  subst e; subst e2
  exact h _ _ _ _ _ hs⟩
theorem Opn.figA : Opn C .NotIn (.str "A") (.val (.ref 132)) true := fig_not fun lv I led s t hs => by
  obtain ⟨m, F, _⟩ := hs.F
  have X := C.X
  kt_k
  kt_at_notin
  exact Po.same hs.tok rfl
theorem Opn.figB : Opn C .NotIn (.str "B") (.val (.ref 132)) true := fig_not fun lv I led s t hs => by
  obtain ⟨m, F, _⟩ := hs.F
  have X := C.X
  kt_k
  kt_at_notin
  exact Po.same hs.tok rfl
theorem Opn.figS : Opn C .NotIn (.str "SPACE") (.val (.ref 132)) false := fig_not fun lv I led s t hs => by
  obtain ⟨m, F, _⟩ := hs.F
  have X := C.X
  kt_k
  kt_at_notin
  exact Po.same hs.tok rfl
theorem Opn.figL : Opn C .NotIn (.str "LOW-VALUES") (.val (.ref 132)) false := fig_not fun lv I led s t hs => by
  obtain ⟨m, F, _⟩ := hs.F
  have X := C.X
  kt_k
  kt_at_notin
  exact Po.same hs.tok rfl
theorem Sub1.figS {x n : PySem.Str} {p p2 : Pos} {e0 : PySem.Expr} : Sub1 C I (.Name x p) (.Attribute e0 n p2) (.val (.ref 132)) (.str "SPACE") (.str "SPACE") := ⟨fun lv led s v u hs e' ⟨t, e⟩ => by
  have e2 : v = .ref 132 := e'
  subst e; subst e2
  obtain ⟨m, F, _⟩ := hs.F
  have X := C.X
  rw [C.top]
  kt_k
  kt_at_item
  repeat (refine KTD.eachL_miss (by decide +kernel) ?_)
  refine KTD.eachL_hit (by decide +kernel) ?_
  refine KTD.opened_str fun t => ?_
  exact Po.same hs.tok ⟨_, rfl⟩⟩
theorem Sub1.figL {x n : PySem.Str} {p p2 : Pos} {e0 : PySem.Expr} : Sub1 C I (.Name x p) (.Attribute e0 n p2) (.val (.ref 132)) (.str "LOW-VALUES") (.str "LOW") := ⟨fun lv led s v u hs e' ⟨t, e⟩ => by
  have e2 : v = .ref 132 := e'
  subst e; subst e2
  obtain ⟨m, F, _⟩ := hs.F
  have X := C.X
  rw [C.top]
  kt_k
  kt_at_item
  repeat (refine KTD.eachL_miss (by decide +kernel) ?_)
  refine KTD.eachL_hit (by decide +kernel) ?_
  refine KTD.opened_str fun t => ?_
  exact Po.same hs.tok ⟨_, rfl⟩⟩
theorem Opn.notinT2 {x a b : PySem.Str} (h : ([a, b].any (· == x)) = false) : Opn C .NotIn (.str x) (.dt (.tup [.str a, .str b])) true := Opn.notinTup (ys := [a, b]) (by rw [h]; rfl)
theorem Opn.notinT1 {x a : PySem.Str} (h : ([a].any (· == x)) = false) : Opn C .NotIn (.str x) (.dt (.tup [.str a])) true := Opn.notinTup (ys := [a]) (by rw [h]; rfl)
theorem Opn.inF2 {x a b : PySem.Str} (h : ([a, b].any (· == x)) = false) : Opn C .In (.str x) (.dt (.tup [.str a, .str b])) false := Opn.inTup (ys := [a, b]) h
theorem Opn.inLitT {x y : PySem.Str} {t : Tok} (h : hasSub y.cps.toList x.cps.toList = true) : Opn C .In (.str y) (.val (.str x t)) true := Opn.inLit (by rw [sub_any]; exact h)
theorem Opn.inLitF {x y : PySem.Str} {t : Tok} (h : hasSub y.cps.toList x.cps.toList = false) : Opn C .In (.str y) (.val (.str x t)) false := Opn.inLit (by rw [sub_any]; exact h)
theorem Go1.assign2 {x y : PySem.Str} {px py tp pos : Pos} {k : Nat} {e : PySem.Expr} {a b : Int} (h : Ev C lv I e (.dt (.tup [.int a, .int b])) I1) (h1 : SetTo x (.int a) lv lv1) (h2 : SetTo y (.int b) lv1 lv2) (nd : NoDup lv) (nd1 : NoDup lv1) (hx : C.env.kindOf x = some .local := by rfl) (hy : C.env.kindOf y = some .local := by rfl)
    (hs1 : swapsWithSole [.Tuple [.Name x px, .Name y py] k tp] e pos.line C.env = pure false := by rfl) (hs2 : swappedStores [.Tuple [.Name x px, .Name y py] k tp] e C.env = pure none := by rfl) : Go1 C lv I (.Assign [.Tuple [.Name x px, .Name y py] k tp] e pos) lv2 I1 := ⟨fun led s hs =>
  Assign_Tuple (h.to hs fun v s1 led1 k1 hs1 o => by
    cases o with
    | tup hm hr =>
      cases hr with
      | cons d1 hr =>
        cases hr with
        | cons d2 hr =>
          cases hr; cases d1; cases d2
          rename_i c n t u
          obtain ⟨m, F, hl⟩ := hs1.F
          refine unpackN_ F hs1.N (News.isTup hs1.N hm) C.hh rfl rfl fun h' F' N' => ?_
          refine assignInOrder_cons (assign_Name (storeX_L F' N' (fun h'' F'' N'' => ?_) C.hk hx))
          refine assignInOrder_cons (assign_Name (storeX_L F'' N'' (fun h3 F3 N3 => ?_) C.hk hy))
          refine assignInOrder_nil ⟨led1, k1, ⟨hs1.same, N3, ⟨_, F3, fun q hq => ?_⟩, hs1.I⟩, rfl⟩
          rcases h2.on q hq with rfl | ⟨h5, h6 | h6⟩
          · exact ⟨_, if_pos rfl, u, rfl⟩
          · show ∃ v, (if q.1 = y then _ else if q.1 = x then _ else m q.1) = some v ∧ _
            rw [if_neg h6]
            rcases h1.on q h5 with rfl | ⟨h7, h8 | h8⟩
            · exact ⟨_, if_pos rfl, t, rfl⟩
            · rw [if_neg h8]; exact hl q h7
            · exact absurd nd h8
          · exact absurd nd1 h6) hs1 hs2⟩
end
section
variable {w : World} {κ : Addr × Obj → Prop} {f : Fn} {C : Cx w κ f} {I I1 : List (Addr × Obj) → Prop}
theorem CallC.ofC {name qual : PySem.Str} {params : Arguments} {body : List Stmt} {scope : Scope} {dV kV doc pm cdv ct oc : Value} {an od : Option Addr} {osl : Array (Option Value)} {fa : Addr} {as : List AV} {a : AV} {lv0 : List (PySem.Str × AV)}
    (ho : (hd0.heap_1 w.params).lookup fa = some ⟨oc, od, .func (fnOf name qual params body scope dV kV doc pm an cdv ct), osl⟩) (hcd : codeIn (hd0.heap_1 w.params) cdv qual = true) (hr : C.A.depth < recursionLimit) (hM : MonoI I)
    (hb : ∀ led s vs, (hd0.heap_1 w.params).In s.heap → OnAll κ led vs as → ∃ bs, BindsTo s (fnOf name qual params body scope dV kV doc pm an cdv ct) ⟨vs, []⟩ bs ∧ (bs.all fun y => scope.names.lookup y.1 == some .local || scope.names.lookup y.1 == some .cell) = true ∧ ∀ L', ∀ q ∈ lv0, ∃ v, bindL (envOfC qual scope L' fa cdv).kindOf bs (fun _ => none) q.1 = some v ∧ q.2.On κ led v)
    (hnd : ((cellsFrom 0 scope.names []).map (·.1)).Nodup)
    (hbody : ∀ C' : Cx w κ ⟨qual, scope, fa, cdv⟩, C'.A = C.A.deeper C'.env → C'.cl = cellsFrom (C'.L + 1) scope.names [] → C.h₀.StaysIn C'.h₀ → Tr C' lv0 I (execs body C'.env) [] I1 fun led fl => a.On κ led (match fl with | .ret v => v | _ => .none))
    (hk : scope.kind = .function) (hco : scope.isCoroutine = false) (hgen : scope.isGenerator = false) : CallC C I fa as a I1 := ⟨fun m vs led s sm F N hI o => by
  have hX : (hd0.heap_1 w.params).In s.heap := C.X.keeps F.keep
  obtain ⟨bs, b1, b2, b3⟩ := hb led s vs hX o
  refine wpAny_call ?_
  refine code_defC C.B F C.X N C.T C.hA rfl C.hk ho hcd hr b1 b2 hnd (fun g' L' h1 tk cells Fg F' N' Y' B' X' T' l' => ?_) hco hgen hk
  let C' : Cx w κ ⟨qual, scope, fa, cdv⟩ := { pq := C.pq, lq := C.lq, mean := C.mean, mg := C.mg, mb := C.mb, A := C.A.deeper (envX qual scope L' fa cdv (cellsFrom (L' + 1) scope.names [])), A₀ := C.A, base := C.base, h₀ := g', L := L', cl := cellsFrom (L' + 1) scope.names [], outer := C.env :: C.outer, g := C.g, hκ := C.hκ, B := B', X := X', T := T', hA := by rw [Around.frames_deeper C.hA], hh := C.hh, hk := hk }
  have h2 := hbody C' rfl rfl Fg.keep (cells ++ led) { s with heap := h1, toks := tk } ⟨sm, N', ⟨_, F', fun q hq => let ⟨v, e1, e2⟩ := b3 L' q hq; ⟨v, e1, e2.tl (fun _ hq _ => List.mem_append_right _ hq) fun _ hq _ _ => List.mem_append_right _ hq⟩⟩, hM hI fun _ hq => List.mem_append_right _ hq⟩
  refine wpAny_mono h2 (fun fl s2 p => ?_) fun _ _ e => e.elim
  obtain ⟨led2, k2, hs2, o2⟩ := p
  obtain ⟨m2, F2, _⟩ := hs2.F
  exact leaveK_ F2 hs2.N fun F3 N3 => ⟨led2, fun q hq e => k2 q (List.mem_append_right _ hq) e, hs2.same, F3, N3, hs2.I, o2⟩⟩
end
theorem Ev.lam {w : World} {qual : PySem.Str} {scope0 : Scope} {fa : Addr} {C : Cx w KD ⟨qual, scope0, fa, .ref 236⟩} {lv : List (PySem.Str × AV)} {r : RdI} {p : Int} {l : List Pr} {params : Arguments} {body : PySem.Expr} {scope : Scope} {clos : List (PySem.Str × Addr)} (CD : CodeHd C.h₀ 236 232) (hcl : closureFor scope C.env = pure clos) (hd : defaultsOf params C.env = ([], [])) : Ev C lv (RP w r p l) (.Lambda params body scope posL) .any (RP w r p l) := ⟨fun led s hs => by
  obtain ⟨m, F, hl⟩ := hs.F
  obtain ⟨tp, R⟩ := hs.I.R
  refine kla_eval hd (lam_any F hs.N C.T CD R hcl fun fa' led' h' tk F' N' K' R' => ⟨led', fun q hq e => K' q hq e, ⟨hs.same, N', ⟨m, F', fun q hq => ?_⟩, ⟨⟨tp, R'⟩, hs.I.H⟩⟩, trivial⟩)
  obtain ⟨v, e1, e2⟩ := hl q hq
  exact ⟨v, e1, e2.tl (fun q hq e => K' q hq e.dict) fun q hq e _ => K' q hq e⟩⟩
end
section
open PySem PySem.W PySem.Spec PySem.Calls PyProof.Rows
-- a list of the def's own, at a: κ does not hold it
def KO (κ : Addr × Obj → Prop) (a : Addr) (q : Addr × Obj) : Prop := κ q ∧ (isTL q.2 ∨ q.1 ≠ a)
theorem hKO {κ : Addr × Obj → Prop} {a : Addr} (h : ∀ b o, isTL o → κ (b, o)) : ∀ b o, isTL o → KO κ a (b, o) := fun b o t => ⟨h b o t, .inl t⟩
structure Own (κ : Addr × Obj → Prop) (a : Addr) (Vs : List Vt) (led : List (Addr × Obj)) : Prop where
  ex : ∃ vs n, (a, lstO vs n) ∈ led ∧ VVs (fl κ led) vs Vs
theorem AV.On.own {κ : Addr × Obj → Prop} {a : Addr} {led : List (Addr × Obj)} (l : ∀ q ∈ led, q.1 < a) {v : Value} : ∀ {x : AV}, x.On κ led v → x.On (KO κ a) led v
  | .int _, h => h
  | .str _, h => h
  | .val _, h => h
  | .dt _, h => h
  | .strs _, h => h
  | .tok _ _, h => h
  | .any, h => h
  | .vt _, h => VV.sub (fun q hq => let ⟨h1, h2⟩ := mem_fl.mp hq; mem_fl.mpr ⟨h1, h2, .inr (Nat.ne_of_lt (l q h1))⟩) h
  | .nil, ⟨b, n, e, h⟩ => ⟨b, n, e, let ⟨h1, h2⟩ := mem_fl.mp h; mem_fl.mpr ⟨h1, h2, .inr (Nat.ne_of_lt (l _ h1))⟩⟩
theorem AV.On.cons {κ : Addr × Obj → Prop} {y : Addr × Obj} {led : List (Addr × Obj)} {v : Value} {x : AV} (h : x.On κ led v) : x.On κ (y :: led) v := h.tl (fun _ hq _ => .tail _ hq) fun _ hq _ _ => .tail _ hq
section
variable {w : World} {κ : Addr × Obj → Prop} {f : Fn} {C : Cx w κ f} {lv lv1 : List (PySem.Str × AV)} {I I1 : List (Addr × Obj) → Prop}
end
-- what is added to a list of the def's own
def AV.toVt : AV → Option Vt
  | .int k => some (.dt (.int k))
  | .str x => some (.dt (.str x))
  | .val .none => some (.dt .none)
  | .dt d => some (.dt d)
  | .vt V => some V
  | _ => none
theorem toVt_on {κ : Addr × Obj → Prop} (hκ : ∀ b o, isTL o → κ (b, o)) {led : List (Addr × Obj)} {v : Value} {V : Vt} : ∀ {x : AV}, x.toVt = some V → x.On κ led v → VV (fl κ led) v V
  | .int k, h, ⟨t, e⟩ => by cases h; subst e; exact .dt (.int _ _)
  | .str k, h, ⟨t, e⟩ => by cases h; subst e; exact .dt (.str _ _)
  | .val .none, h, o => by
    have o' : v = .none := o
    cases h; subst o'; exact .dt .none
  | .dt d, h, o => by
    cases h
    exact .dt (DV.off (fun x o hm hd hc => mem_fl.mpr ⟨hm, hκ _ _ (.inl ⟨hd, hc⟩)⟩) o)
  | .vt V, h, o => by cases h; exact o
theorem VVs.snoc {led : List (Addr × Obj)} {vs : List Value} {ds : List Vt} {v : Value} {d : Vt} (h : VVs led vs ds) (k : VV led v d) : VVs led (vs ++ [v]) (ds ++ [d]) := h.ind (M := fun vs ds => VVs led (vs ++ [v]) (ds ++ [d])) (.cons k .nil) fun _ _ _ _ a _ r => .cons a r
theorem VVs.len {led : List (Addr × Obj)} {vs : List Value} {ds : List Vt} (h : VVs led vs ds) : vs.length = ds.length := h.ind (M := fun vs ds => vs.length = ds.length) rfl fun _ _ _ _ _ _ r => congrArg Nat.succ r
-- the list is none that the relation must hold: empty, or its first item is no text
def Safe : List Vt → Bool
  | [] => true
  | .lst _ :: _ => true
  | .tup _ :: _ => true
  | .dt (.tup _) :: _ => true
  | _ => false
theorem Safe.no {led : List (Addr × Obj)} {Vs : List Vt} {vs : List Value} {n : Nat} (h : Safe Vs = true) (o : VVs led vs Vs) : ¬ isTL (lstO vs n) := by
  rintro (⟨_, h1⟩ | ⟨us, ws, k, hz, e, hs⟩)
  · have h2 : Value.type "list" = Value.type "tuple" := h1
    revert h2; decide
  · have e2 : vs = us := by
      have := congrArg Obj.data e
      simp at this
      exact this.1
    subst e2
    cases hs with
    | nil => exact hz rfl
    | cons y t r =>
      cases o with
      | cons a b =>
        cases a with
        | dt d => cases d; cases h
abbrev JO (κ : Addr × Obj → Prop) (a : Addr) (I : List (Addr × Obj) → Prop) (Vs : List Vt) : List (Addr × Obj) → Prop := fun led => I led ∧ Own (KO κ a) a Vs led
structure OffI (a : Addr) (I : List (Addr × Obj) → Prop) : Prop where
  h : ∀ led led', I led → (∀ q ∈ led, q.1 ≠ a → q ∈ led') → I led'
section
variable {w : World} {κ : Addr × Obj → Prop} {a : Addr} {f : Fn} {C : Cx w (KO κ a) f} {lv : List (PySem.Str × AV)} {I I1 : List (Addr × Obj) → Prop}
theorem front_ne {b : Addr} {o x : Obj} {led : List (Addr × Obj)} (h : (b, x) ∈ led) (hne : b ≠ a) : (b, x) ∈ front a o led := List.mem_cons_of_mem _ (List.mem_filter.mpr ⟨h, by simpa using hne⟩)
theorem Go1.append {x : PySem.Str} {p ap pos p2 : Pos} {e : PySem.Expr} {av : AV} {V : Vt} {Vs : List Vt} (hx : Ev C lv (JO κ a I Vs) (.Name x p) (.val (.ref a)) (JO κ a I Vs)) (h : Evs C lv (JO κ a I Vs) [e] [av] (JO κ a I1 Vs)) (hv : av.toVt = some V) (hsafe : Safe Vs = true) (hlen : Nat.ble Vs.length 1000 = true) (hO : OffI a I1)
    (hp : (ap.endLine == pos.line) = true := by rfl) (hi : interactive C.env = false := by rfl) (hsw : swapsWith (.Call (.Attribute (.Name x p) "append" ap) [e] [] pos) none p2.line C.env = pure false := by rfl) : Go1 C lv (JO κ a I Vs) (.Expr (.Call (.Attribute (.Name x p) "append" ap) [e] [] pos) p2) lv (JO κ a I1 (Vs ++ [V])) := ⟨fun led s hs => by
  obtain ⟨pl, he⟩ := mcall_eq x p "append" ap pos [e] C.env h.st rfl hp
  refine wpAny_Expr_any (MethodCall_ (hx.to hs fun v s1 led1 k1 hs1 o1 => ?_) he) hi hsw
  have o' : v = .ref a := o1
  subst o'
  obtain ⟨vs0, n0, hm0, _⟩ := hs1.I.2.ex
  refine Calls.getMethod_list_append (hs1.N.get hm0) rfl rfl (callWith_method1 ((h.h pos).to hs1 fun us s2 led2 k2 hs2 o2 => ?_) h.s1 h.s2)
  refine o2.l1 fun u e9 ou => ?_
  subst e9
  obtain ⟨m, F, hl⟩ := hs2.F
  obtain ⟨vs, n, hm, hvs⟩ := hs2.I.2.ex
  have hz := Nat.le_of_ble_eq_true hlen
  have hno : ¬ KO κ a (a, lstO vs n) := fun q => q.2.elim (Safe.no hsafe hvs) fun h => h rfl
  refine append_K F (News.front hs2.N hm) (Upd.head (front_off _ _)) ?_ (by rw [List.size_toArray, hvs.len]; unfold sizeLine; omega)
  intro h' F' N'
  have e1 : (vs.toArray.push u) = (vs ++ [u]).toArray := by simp
  have N2 : News C.h₀ C.L h' (front a (lstO (vs ++ [u]) (n + 1)) led2) := by
    show News _ _ h' ((a, ({ cls := .type "list", data := .seq (vs ++ [u]).toArray (n + 1) } : Obj)) :: _)
    rw [← e1]; exact N'
  have k3 : ∀ q ∈ led2, KO κ a q → q ∈ front a (lstO (vs ++ [u]) (n + 1)) led2 := fun q hq hk => by
    obtain ⟨b, o⟩ := q
    by_cases hb : b = a
    · subst hb
      exact absurd (same_of hs2.N hq hm ▸ hk) hno
    · exact front_ne hq hb
  refine ⟨_, (k1.trans k2).trans k3, ⟨hs2.same, N2, ⟨m, F', fun q hq => ?_⟩, hO.h _ _ hs2.I.1 fun q hq hne => front_ne hq hne, ⟨vs ++ [u], n + 1, .head _, ?_⟩⟩, rfl⟩
  · obtain ⟨v, e2, e3⟩ := hl q hq
    exact ⟨v, e2, e3.kr C k3⟩
  · exact (hvs.snoc (toVt_on C.hκ hv ou)).sub (Kr.fl k3)⟩
theorem JO.mono {Vs : List Vt} (h : MonoI I) : MonoI (JO κ a I Vs) := fun j k => ⟨h j.1 k, let ⟨vs, n, h1, h2⟩ := j.2.ex; ⟨vs, n, k _ h1, h2.sub fun q hq => let ⟨a1, a2⟩ := mem_fl.mp hq; mem_fl.mpr ⟨k q a1, a2⟩⟩⟩
theorem VVs.consE {led : List (Addr × Obj)} {vs : List Value} {d : Vt} {ds : List Vt} {P : Prop} (h : VVs led vs (d :: ds)) (k : ∀ v us, vs = v :: us → VV led v d → VVs led us ds → P) : P := by
  cases h with
  | cons a b => exact k _ _ rfl a b
theorem VV.dtE {led : List (Addr × Obj)} {v : Value} {d : Dt} (h : VV led v (.dt d)) : DV led v d := by
  cases h; assumption
theorem dts_of {led : List (Addr × Obj)} {vs : List Value} {ds : List Dt} : VVs led vs (ds.map Vt.dt) → DVs led vs ds := by
  induction ds generalizing vs with
  | nil => intro h; cases h; exact .nil
  | cons d ds ih => exact fun h => h.consE fun v us e a b => e ▸ .cons a.dtE (ih b)
end
end
section
open PySem PySem.W PySem.Spec PySem.Calls PyProof.Rows
theorem bnF {b : Bool} (h : b = true) : (!b) = false := by rw [h]; rfl
theorem bnT {b : Bool} (h : b = false) : (!b) = true := by rw [h]; rfl
theorem noDup_k {lv : List (PySem.Str × AV)} (h : decide (List.Nodup (lv.map Prod.fst)) = true) : NoDup lv := by
  have := of_decide_eq_true h
  exact this
theorem andTT {x y : PySem.Str} : (x == x && y == y) = true := by simp
theorem andF1 {x y : PySem.Str} {c : Bool} (h : (x == y) = false) : (x == y && c) = false := by rw [h]; rfl
theorem nmT {x y : PySem.Str} (h : resW x = false) : (y == y && !resW x) = true := by rw [h]; simp
theorem nm_B : ((PySem.Str.ofString "word") == PySem.Str.ofString "word" && !resW "B") = true := by rw [resW_B]; simp
theorem nm_SPACE : ((PySem.Str.ofString "word") == PySem.Str.ofString "word" && !resW "SPACE") = false := by rw [resW_SPACE]; simp
theorem nm_LOW : ((PySem.Str.ofString "word") == PySem.Str.ofString "word" && !resW "LOW-VALUES") = false := by rw [resW_LOW]; simp
theorem nm_DELIMITED : ((PySem.Str.ofString "word") == PySem.Str.ofString "word" && !resW "DELIMITED") = false := by rw [resW_DELIMITED]; simp
theorem nm_INTO : ((PySem.Str.ofString "word") == PySem.Str.ofString "word" && !resW "INTO") = false := by rw [resW_INTO]; simp
theorem nm_WITH : ((PySem.Str.ofString "word") == PySem.Str.ofString "word" && !resW "WITH") = false := by rw [resW_WITH]; simp
theorem nm_ALL : ((PySem.Str.ofString "word") == PySem.Str.ofString "word" && !resW "ALL") = false := by rw [resW_ALL]; simp
theorem splitOI : Txt.split "OF IN" " " = ([("OF" : PySem.Str), "IN"] : List PySem.Str) := by decide +kernel
theorem Opn.neStrU {w : World} {κ : Addr × Obj → Prop} {f : Fn} {C : Cx w κ f} {x y : PySem.Str} (h : (x == y) = true) : Opn C .NotEq (.str x) (.str y) false := by rw [beq_iff_eq] at h; subst h; exact Opn.neStrF
theorem BltC.lenStr1 {w : World} {κ : Addr × Obj → Prop} {f : Fn} {C : Cx w κ f} {I : List (Addr × Obj) → Prop} {u : PySem.Str} : BltC C I "len" [.strs [u]] (.int 1) := BltC.lenStrs rfl rfl
theorem drop1 {α : Type} {q : α} {l : List α} : (q :: l).drop 1 = l := rfl
theorem ble1 {α : Type} {q : α} {l : List α} : Nat.ble 1 (q :: l).length = true := by rw [Nat.ble_eq]; exact Nat.succ_le_succ (Nat.zero_le _)
theorem Room.lt {w : World} {κ : Addr × Obj → Prop} {f : Fn} {C : Cx w κ f} {n : Nat} (h : Room C n) : C.A.depth < recursionLimit := by
  have := h.1
  omega
theorem lt_at {w : World} {r : RdI} {p : Int} {l : List Pr} {led : List (Addr × Obj)} {k : Nat} {q : Pr} (h : RP w r p l led) (hq : l[k]? = some q) : decide (p + (k : Int) < (r.T.length : Int)) = true := by
  obtain ⟨t, h1, _⟩ := h.H.at hq
  have := (List.getElem?_eq_some_iff.mp h1).1
  obtain ⟨tp, R⟩ := h.R
  have := R.p0
  exact decide_eq_true (by omega)
theorem nlt_at {w : World} {r : RdI} {p : Int} {l : List Pr} {led : List (Addr × Obj)} {k : Nat} (h : RP w r p l led) (hq : l[k]? = none) : decide (p + (k : Int) < (r.T.length : Int)) = false := by
  have := h.H.at_none hq
  exact decide_eq_false (by omega)
theorem len_at {w : World} {r : RdI} {p : Int} {l : List Pr} {led : List (Addr × Obj)} {k : Nat} {kk x : PySem.Str} (h : RP w r p l led) (hq : l[k]? = some (kk, x)) : x.length ≤ 1000 := by
  obtain ⟨t, h1, h2, h3⟩ := h.H.at hq
  obtain ⟨tp, R⟩ := h.R
  have := (R.toks t (List.mem_of_getElem? h1)).2.2.2
  rw [h3] at this
  exact this
theorem Opn.inRes {w : World} {κ : Addr × Obj → Prop} {f : Fn} {C : Cx w κ f} {x : PySem.Str} {t : Tok} {b : Bool} (hb : resW x = b) : Opn C .In (.str (PySem.Str.ofString " " ++ x ++ PySem.Str.ofString " ")) (.val (.str RES t)) b := ⟨fun lv I led s v u hs ⟨t, e⟩ e' => by
  have e2 : u = .str RES _ := e'
  subst e; subst e2
  exact in_lit hb (Po.same hs rfl)⟩
theorem CallC.pre {w : World} {κ : Addr × Obj → Prop} {f : Fn} {C : Cx w κ f} {I I1 : List (Addr × Obj) → Prop} {fa : Addr} {as : List AV} {a : AV} {P : Prop} (hP : ∀ led, I led → P) (h : P → CallC C I fa as a I1) : CallC C I fa as a I1 := ⟨fun m vs led s sm F N hI o => (h (hP led hI)).h m vs led s sm F N hI o⟩
theorem wordsT3 : True := by
  (k_with "k_clsL" => first
  | (with_reducible exact List.mem_cons_self)
  | ((with_reducible refine List.mem_cons_of_mem _ ?_); k_extra "k_clsL")
  | fail "k_clsL")
  (k_with "lcg_off" => first
  | (with_reducible exact SetTo.nil)
  | (with_reducible exact SetTo.here)
  | ((fail_if_success (fail_if_success (refine' SetTo.there ?_ ?_))); exact SetTo.there (by decide +kernel) (by k_extra "lcg_off"))
  | fail "lcg_off")
  (k_with "kbo_bools" => first
  | (with_reducible exact rfl)
  | (with_reducible assumption)
  | (with_reducible exact bnF rfl)
  | (with_reducible exact bnT rfl)
  | (with_reducible exact bnF (by assumption))
  | (with_reducible exact bnT (by assumption))
  | fail "kbo_bools")
  (k_with "tlg_ne" => first
  | exact Attr.kind
  | exact Attr.worth
  | exact Attr.at
  | exact Attr.tokens
  | fail "tlg_ne")
  (k_with "ktu_off1L" => first
  | ((fail_if_success (fail_if_success (refine' Meth.rd ?_ ?_ ?_ ?_))); exact Meth.rd (by k_is) (by k_is) (by k_is) (by intros; rfl))
  | fail "ktu_off1L")
  (k_with "ked_reads" => first
  | (with_reducible exact Opn.eqStrT)
  | (with_reducible exact Opn.neStrF)
  | exact Opn.eqStrF (by decide +kernel)
  | exact Opn.neStrT (by decide +kernel)
  | exact Opn.eqStrF (by assumption)
  | exact Opn.neStrT (by assumption)
  | exact Opn.neStrU (by assumption)
  | exact Opn.eqStrU (by assumption)
  | exact Opn.gtIntV
  | exact Opn.notinT2 (by decide +kernel)
  | exact Opn.notinT1 (by decide +kernel)
  | exact Opn.notinT2 (by assumption)
  | exact Opn.notinT1 (by assumption)
  | exact Opn.inF2 (by decide +kernel)
  | exact Opn.inF2 (by assumption)
  | (with_reducible exact Opn.figA)
  | (with_reducible exact Opn.figB)
  | (with_reducible exact Opn.figS)
  | (with_reducible exact Opn.figL)
  | exact Opn.inLitT (by decide +kernel)
  | exact Opn.inLitF (by decide +kernel)
  | exact Opn.isTN
  | exact Opn.isnotTN
  | exact Opn.isNN
  | exact Opn.isnotNN
  | exact Opn.isDN
  | exact Opn.isBN
  | exact Opn.inRes (by assumption)
  | exact Opn.eqStr
  | exact Opn.neStr
  | exact Opn.gtB (b := true) (by decide +kernel)
  | exact Opn.gtB (b := false) (by decide +kernel)
  | exact Opn.eqB (b := true) (by decide +kernel)
  | exact Opn.eqB (b := false) (by decide +kernel)
  | exact Opn.ltInt
  | exact Opn.gtInt
  | exact Opn.eqInt
  | fail "ked_reads")
  (k_with "tb_rel" => first
  | exact Bin.addInt
  | exact Bin.addStr rfl (by first | exact sz1 (by assumption) | exact sz2 (by assumption) | decide +kernel)
  | fail "tb_rel")
  (k_with "tb_start" => first
  | exact Sub1.tok (by assumption)
  | exact Sub1.item0
  | (with_reducible exact Sub1.figS)
  | (with_reducible exact Sub1.figL)
  | fail "tb_start")
  (k_with "ktu_offI" => first
  | exact BltC.lenTL
  | exact BltC.lenStr1
  | exact BltC.split (List.cons_ne_nil _ _) RP.mono splitOI (by decide +kernel) (by decide +kernel)
  | exact BltC.split (List.cons_ne_nil _ _) RP.mono (by first | assumption | decide +kernel) (by decide +kernel) (by first | assumption | decide +kernel)
  | fail "ktu_offI")
  (k_with "kp_flats" => first
  | exact Evs.nil
  | ((fail_if_success (fail_if_success (refine' Evs.cons ?_ ?_))); exact Evs.cons (by k_extra "kat_tups") (by k_extra "kp_flats"))
  | fail "kp_flats")
  (k_with "kat_tups" => first
  | exact Ev.cint
  | exact Ev.cstr
  | exact Ev.cnone
  | exact Ev.cbool
  | ((fail_if_success (fail_if_success (refine' Ev.loc ?_))); exact Ev.loc (by k_extra "k_clsL"))
  | ((fail_if_success (fail_if_success (refine' Ev.glo ?_))); exact Ev.glo (by k_is))
  | ((fail_if_success (fail_if_success (refine' Ev.blt ?_ ?_ ?_))); exact Ev.blt (by k_is) (by with_reducible first | exact boot_len | exact boot_tuple) (by decide +kernel))
  | ((fail_if_success (fail_if_success (refine' Ev.cmp ?_ ?_ ?_))); exact Ev.cmp (by k_extra "kat_tups") (by k_extra "kat_tups") (by k_extra "ked_reads"))
  | ((fail_if_success (fail_if_success (refine' Ev.attrN ?_ ?_))); exact Ev.attrN (by k_extra "kat_tups") (by k_extra "tlg_ne"))
  | ((fail_if_success (fail_if_success (refine' Ev.attrC ?_ ?_))); exact Ev.attrC (by k_extra "kat_tups") (by k_extra "tlg_ne"))
  | ((fail_if_success (fail_if_success (refine' Ev.bin ?_ ?_ ?_))); exact Ev.bin (by k_extra "kat_tups") (by k_extra "kat_tups") (by k_extra "tb_rel"))
  | ((fail_if_success (fail_if_success (refine' Ev.sub ?_ ?_ ?_))); exact Ev.sub (by k_extra "kat_tups") (by k_extra "kat_tups") (by k_extra "tb_start"))
  | ((fail_if_success (fail_if_success (refine' Ev.and ?_))); exact Ev.and (by k_extra "k_places"))
  | ((fail_if_success (fail_if_success (refine' Ev.not ?_))); exact Ev.not (by k_extra "kat_tups"))
  | ((fail_if_success (fail_if_success (refine' Ev.mcall0 ?_ ?_ ?_ ?_))); exact Ev.mcall0 (by k_extra "kat_tups") (by k_extra "ktu_off1L") (by k_is) (by k_extra "got_up"))
  | ((fail_if_success (fail_if_success (refine' Ev.mcall ?_ ?_ ?_ ?_ ?_))); exact Ev.mcall (by k_extra "kat_tups") (by k_extra "ktu_off1L") (by k_is) (by k_extra "kp_flats") (by k_extra "got_up"))
  | ((fail_if_success (fail_if_success (refine' Ev.bmcall ?_ ?_ ?_ ?_))); exact Ev.bmcall (by k_extra "kat_tups") (by exact BMeth.split) (by k_extra "kp_flats") (by k_extra "ktu_offI"))
  | ((fail_if_success (fail_if_success (refine' Ev.fcall ?_ ?_ ?_ ?_))); exact Ev.fcall (by k_extra "kat_tups") (by k_is) (by k_extra "kp_flats") (by k_extra "got_up"))
  | ((fail_if_success (fail_if_success (refine' Ev.bcall ?_ ?_ ?_))); exact Ev.bcall (by k_extra "kat_tups") (by k_extra "kp_flats") (by k_extra "ktu_offI"))
  | ((fail_if_success (fail_if_success (refine' Ev.tcall ?_ ?_ ?_))); exact Ev.tcall (by k_extra "kat_tups") (by k_extra "kp_flats") (by exact TypC.tup0 RP.mono))
  | exact Ev.list0 RP.mono (fun _ _ => rfl)
  | ((fail_if_success (fail_if_success (refine' Ev.ifk ?_ ?_))); exact Ev.ifk (by k_extra "keq_rows") (by first | ((fail_if_success (fail_if_success (refine' IfK.yes ?_ ?_))); exact IfK.yes (by k_extra "kbo_bools") (by k_extra "kat_tups")) | ((fail_if_success (fail_if_success (refine' IfK.no ?_ ?_))); exact IfK.no (by k_extra "kbo_bools") (by k_extra "kat_tups"))))
  | ((fail_if_success (fail_if_success (refine' Ev.tup ?_ ?_ ?_ ?_))); exact Ev.tup (by k_extra "kp_flats") (by exact rfl) (by exact rfl) (by exact RP.mono))
  | fail "kat_tups")
  (k_with "keq_rows" => first
  | ((fail_if_success (fail_if_success (refine' Ts.cmp ?_ ?_ ?_))); exact Ts.cmp (by k_extra "kat_tups") (by k_extra "kat_tups") (by k_extra "ked_reads"))
  | ((fail_if_success (fail_if_success (refine' Ts.not ?_))); exact Ts.not (by k_extra "keq_rows"))
  | ((fail_if_success (fail_if_success (refine' Ts.or ?_))); exact Ts.or (by k_extra "kqd_all"))
  | ((fail_if_success (fail_if_success (refine' Ts.and ?_))); exact Ts.and (by k_extra "k_subL"))
  | ((fail_if_success (fail_if_success (refine' Ts.evC ?_))); exact Ts.evC (by k_extra "kat_tups"))
  | ((fail_if_success (fail_if_success (refine' Ts.evN ?_))); exact Ts.evN (by k_extra "kat_tups"))
  | fail "keq_rows")
  (k_with "kqd_all" => first
  | exact Ors.nil
  | ((fail_if_success (fail_if_success (refine' Ors.any ?_ ?_))); exact Ors.any (by k_extra "keq_rows") (by first | ((fail_if_success (fail_if_success (refine' OrK.stop ?_))); exact OrK.stop (by k_extra "kbo_bools")) | ((fail_if_success (fail_if_success (refine' OrK.go ?_ ?_))); exact OrK.go (by k_extra "kbo_bools") (by k_extra "kqd_all")) | ((fail_if_success (fail_if_success (refine' OrK.both ?_))); exact OrK.both (by intro hb9; k_extra "kqd_all"))))
  | fail "kqd_all")
  (k_with "k_subL" => first
  | exact Ands.nil
  | ((fail_if_success (fail_if_success (refine' Ands.any ?_ ?_))); exact Ands.any (by k_extra "keq_rows") (by first | ((fail_if_success (fail_if_success (refine' AndK.stop ?_))); exact AndK.stop (by k_extra "kbo_bools")) | ((fail_if_success (fail_if_success (refine' AndK.go ?_ ?_))); exact AndK.go (by k_extra "kbo_bools") (by k_extra "k_subL"))))
  | fail "k_subL")
  (k_with "k_places" => first
  | ((fail_if_success (fail_if_success (refine' Vnds.any ?_ ?_))); exact Vnds.any (by k_extra "kat_tups") (by first | ((fail_if_success (fail_if_success (refine' VndK.stop ?_))); exact VndK.stop (by k_extra "kbo_bools")) | ((fail_if_success (fail_if_success (refine' VndK.go ?_ ?_))); exact VndK.go (by k_extra "kbo_bools") (by k_extra "k_places")) | ((fail_if_success (fail_if_success (refine' VndK.both ?_))); exact VndK.both (by intro hb9; k_extra "k_places"))))
  | ((fail_if_success (fail_if_success (refine' Vnds.one ?_))); exact Vnds.one (by k_extra "kat_tups"))
  | fail "k_places")
  (k_with "reads_via_all" => first
  | ((fail_if_success (fail_if_success (refine' Go1.assign ?_ ?_ ?_))); exact Go1.assign (by k_extra "kat_tups") (by k_extra "lcg_off") (by exact noDup_k (by kernel_rfl)))
  | ((fail_if_success (fail_if_success (refine' Go1.setat (k := 1) ?_ ?_ ?_ ?_ ?_))); exact Go1.setat (k := 1) (by k_extra "kat_tups") (by k_extra "kat_tups") (by first | exact rfl | assumption) (by exact drop1) (by exact ble1))
  | ((fail_if_success (fail_if_success (refine' Go1.assign2 ?_ ?_ ?_ ?_ ?_))); exact Go1.assign2 (by k_extra "kat_tups") (by k_extra "lcg_off") (by k_extra "lcg_off") (by exact noDup_k (by kernel_rfl)) (by exact noDup_k (by kernel_rfl)))
  | ((fail_if_success (fail_if_success (refine' Go1.expr ?_))); exact Go1.expr (by k_extra "kat_tups"))
  | ((fail_if_success (fail_if_success (refine' Go1.ifk ?_ ?_))); exact Go1.ifk (by k_extra "keq_rows") (by first | ((fail_if_success (fail_if_success (refine' GoK.yes ?_ ?_))); exact GoK.yes (by k_extra "kbo_bools") (by k_extra "ke_reads")) | ((fail_if_success (fail_if_success (refine' GoK.no ?_ ?_))); exact GoK.no (by k_extra "kbo_bools") (by k_extra "ke_reads"))))
  | ((fail_if_success (fail_if_success (refine' Go1.while ?_))); exact Go1.while (by k_extra "ktu_offL"))
  | ((fail_if_success (fail_if_success (refine' Go1.for ?_ ?_ ?_))); exact Go1.for (by first | assumption | exact KF.kp _) (by k_extra "kat_tups") (by k_extra "kas_types"))
  | fail "reads_via_all")
  (k_with "ktu_offL" => first
  | ((fail_if_success (fail_if_success (refine' Wh.any ?_ ?_))); exact Wh.any (by k_extra "keq_rows") (by first | ((fail_if_success (fail_if_success (refine' WhK.stop ?_))); exact WhK.stop (by k_extra "kbo_bools")) | ((fail_if_success (fail_if_success (refine' WhK.turn ?_ ?_ ?_))); exact WhK.turn (by k_extra "kbo_bools") (by k_extra "ke_reads") (by k_extra "ktu_offL"))))
  | fail "ktu_offL")
  (k_with "kas_types" => first
  | exact FG.nil
  | ((fail_if_success (fail_if_success (refine' FG.next ?_ ?_ ?_ ?_))); exact FG.next (by k_extra "lcg_off") (by exact noDup_k (by kernel_rfl)) (by k_extra "ke_reads") (by k_extra "kas_types"))
  | fail "kas_types")
  (k_with "o_fieldsN" => first
  | ((fail_if_success (fail_if_success (refine' FR.ret ?_ ?_ ?_))); exact FR.ret (by k_extra "lcg_off") (by exact noDup_k (by kernel_rfl)) (by k_extra "kct_strs"))
  | ((fail_if_success (fail_if_success (refine' FR.next ?_ ?_ ?_ ?_))); exact FR.next (by k_extra "lcg_off") (by exact noDup_k (by kernel_rfl)) (by k_extra "ke_reads") (by k_extra "o_fieldsN"))
  | fail "o_fieldsN")
  (k_with "k_allIn" => first
  | ((fail_if_success (fail_if_success (refine' WhR.ret ?_ ?_ ?_))); exact WhR.ret (by k_extra "keq_rows") (by k_extra "kbo_bools") (by k_extra "kct_strs"))
  | ((fail_if_success (fail_if_success (refine' WhR.turn ?_ ?_ ?_ ?_))); exact WhR.turn (by k_extra "keq_rows") (by k_extra "kbo_bools") (by k_extra "ke_reads") (by k_extra "k_allIn"))
  | fail "k_allIn")
  (k_with "ke_reads" => first
  | exact Go.nil
  | ((fail_if_success (fail_if_success (refine' Go.cons ?_ ?_))); exact Go.cons (by k_extra "reads_via_all") (by k_extra "ke_reads"))
  | fail "ke_reads")
  (k_with "kct_strs" => first
  | ((fail_if_success (fail_if_success (refine' Rt.rt (Rt1.ret ?_)))); exact Rt.rt (Rt1.ret (by k_extra "kat_tups")))
  | ((fail_if_success (fail_if_success (refine' Rt.ifs ?_ ?_))); exact Rt.ifs (by k_extra "keq_rows") (by first | ((fail_if_success (fail_if_success (refine' IfR.yr ?_ ?_))); exact IfR.yr (by k_extra "kbo_bools") (by k_extra "kct_strs")) | ((fail_if_success (fail_if_success (refine' IfR.yg ?_ ?_ ?_))); exact IfR.yg (by k_extra "kbo_bools") (by k_extra "ke_reads") (by k_extra "kct_strs")) | ((fail_if_success (fail_if_success (refine' IfR.ng ?_ ?_ ?_))); exact IfR.ng (by k_extra "kbo_bools") (by k_extra "ke_reads") (by k_extra "kct_strs")) | ((fail_if_success (fail_if_success (refine' IfR.nr ?_ ?_))); exact IfR.nr (by k_extra "kbo_bools") (by k_extra "kct_strs"))))
  | ((fail_if_success (fail_if_success (refine' Rt.rt (Rt1.for ?_ ?_ ?_)))); exact Rt.rt (Rt1.for (by first | assumption | exact KF.kp _) (by k_extra "kat_tups") (by k_extra "o_fieldsN")))
  | ((fail_if_success (fail_if_success (refine' Rt.rt (Rt1.while ?_)))); exact Rt.rt (Rt1.while (by k_extra "k_allIn")))
  | ((fail_if_success (fail_if_success (refine' Rt.go ?_ ?_))); exact Rt.go (by k_extra "reads_via_all") (by k_extra "kct_strs"))
  | fail "kct_strs")
  (k_with "lcg_src" => first
  | (with_reducible exact beqT)
  | exact beqF (by decide +kernel)
  | (with_reducible exact andTT)
  | exact andF1 (by decide +kernel)
  | exact andF2 (by decide +kernel)
  | (with_reducible assumption)
  | (with_reducible exact nmT (by assumption))
  | (with_reducible exact nmT resW_A)
  | (with_reducible exact nm_A)
  | (with_reducible exact nm_B)
  | (with_reducible exact nm_R)
  | (with_reducible exact nm_SPACE)
  | (with_reducible exact nm_LOW)
  | (with_reducible exact nm_DELIMITED)
  | (with_reducible exact nm_INTO)
  | (with_reducible exact nm_WITH)
  | (with_reducible exact nm_ALL)
  | decide +kernel
  | exact rfl
  | fail "lcg_src")
  (k_with "k_ownIn" => first
  | exact Room.le (by assumption) rfl
  | exact KF.kp _
  | (with_reducible assumption)
  | exact Room.as (Room.le (by assumption) rfl)
  | (with_reducible exact resW_A)
  | (with_reducible exact resW_B)
  | (with_reducible exact resW_R)
  | k_extra "lcg_src"
  | fail "k_ownIn")
  (k_with "got_up" => first
  | (show CallC _ _ 376 _ _ _; first | ((fail_if_success (fail_if_success (refine' one_of_t_C ?_))); exact one_of_t_C (by k_extra "k_ownIn")) | ((fail_if_success (fail_if_success (refine' one_of_n_C ?_ ?_ ?_))); exact one_of_n_C (by k_extra "k_ownIn") (by k_extra "k_ownIn") (by k_extra "k_ownIn")) | ((fail_if_success (fail_if_success (refine' one_of_f_C ?_ ?_ ?_ ?_ ?_))); exact one_of_f_C (by k_extra "k_ownIn") (by k_extra "k_ownIn") (by k_extra "k_ownIn") (by k_extra "k_ownIn") (by k_extra "k_ownIn")))
  | (show CallC _ _ 369 _ _ _; first | ((fail_if_success (fail_if_success (refine' need_t_C ?_ ?_ ?_))); exact need_t_C (by k_extra "k_ownIn") (by k_extra "k_ownIn") (by k_extra "k_ownIn")))
  | (show CallC _ _ 462 _ _ _; first | ((fail_if_success (fail_if_success (refine' octets_C ?_ ?_ ?_))); exact octets_C (by k_extra "k_ownIn") (by k_extra "k_ownIn") (by k_extra "k_ownIn")))
  | (show CallC _ _ 296 _ _ _; first | ((fail_if_success (fail_if_success (refine' octets_of_C ?_ ?_ ?_))); exact octets_of_C (by k_extra "k_ownIn") (by k_extra "k_ownIn") (by k_extra "k_ownIn")))
  | (show CallC _ _ 362 _ _ _; first | ((fail_if_success (fail_if_success (refine' skip_t_C ?_ ?_ ?_))); exact skip_t_C (by k_extra "k_ownIn") (by k_extra "k_ownIn") (by k_extra "k_ownIn")) | ((fail_if_success (fail_if_success (refine' skip_n_C ?_ ?_ ?_ ?_ ?_))); exact skip_n_C (by k_extra "k_ownIn") (by k_extra "k_ownIn") (by k_extra "k_ownIn") (by k_extra "k_ownIn") (by k_extra "k_ownIn")) | ((fail_if_success (fail_if_success (refine' skip_f_C ?_ ?_ ?_ ?_ ?_ ?_))); exact skip_f_C (by k_extra "k_ownIn") (by k_extra "k_ownIn") (by k_extra "k_ownIn") (by k_extra "k_ownIn") (by k_extra "k_ownIn") (by k_extra "k_ownIn")))
  | (show CallC _ _ 355 _ _ _; first | ((fail_if_success (fail_if_success (refine' is_word_n_C ?_ ?_ ?_ ?_ ?_))); exact is_word_n_C (by k_extra "k_ownIn") (by k_extra "k_ownIn") (by k_extra "k_ownIn") (by k_extra "k_ownIn") (by k_extra "k_ownIn")) | ((fail_if_success (fail_if_success (refine' is_word_s_C ?_ ?_ ?_ ?_ ?_ ?_))); exact is_word_s_C (by k_extra "k_ownIn") (by k_extra "k_ownIn") (by k_extra "k_ownIn") (by k_extra "k_ownIn") (by k_extra "k_ownIn") (by k_extra "k_ownIn")))
  | (show CallC _ _ 244 _ _ _; first | ((fail_if_success (fail_if_success (refine' word_ahead_n_C ?_ ?_))); exact word_ahead_n_C (by k_extra "k_ownIn") (by k_extra "k_ownIn")) | ((fail_if_success (fail_if_success (refine' word_ahead_s_C ?_ ?_ ?_))); exact word_ahead_s_C (by k_extra "k_ownIn") (by k_extra "k_ownIn") (by k_extra "k_ownIn")))
  | (show CallC _ _ 434 _ _ _; first | ((fail_if_success (fail_if_success (refine' is_number_n_C ?_ ?_))); exact is_number_n_C (by k_extra "k_ownIn") (by k_extra "k_ownIn")) | ((fail_if_success (fail_if_success (refine' is_number_s_C ?_ ?_ ?_ ?_ ?_))); exact is_number_s_C (by k_extra "k_ownIn") (by k_extra "k_ownIn") (by k_extra "k_ownIn") (by k_extra "k_ownIn") (by k_extra "k_ownIn")))
  | (show CallC _ _ 398 _ _ _; first | ((fail_if_success (fail_if_success (refine' name_t_C ?_ ?_))); exact name_t_C (by k_extra "k_ownIn") (by k_extra "k_ownIn")))
  | (show CallC _ _ 391 _ _ _; first | ((fail_if_success (fail_if_success (refine' is_name0_n_C ?_ ?_))); exact is_name0_n_C (by k_extra "k_ownIn") (by k_extra "k_ownIn")) | ((fail_if_success (fail_if_success (refine' is_name0_s_C ?_ ?_ ?_))); exact is_name0_s_C (by k_extra "k_ownIn") (by k_extra "k_ownIn") (by k_extra "k_ownIn")))
  | (show CallC _ _ 291 _ _ _; first | ((fail_if_success (fail_if_success (refine' is_reserved_C ?_ ?_ ?_))); exact is_reserved_C (by k_extra "k_ownIn") (by k_extra "k_ownIn") (by k_extra "k_ownIn")))
  | (show CallC _ _ 427 _ _ _; first | ((fail_if_success (fail_if_success (refine' need_sign_t_C ?_))); exact need_sign_t_C (by k_extra "k_ownIn")))
  | (show CallC _ _ 420 _ _ _; first | ((fail_if_success (fail_if_success (refine' skip_sign_t_C ?_))); exact skip_sign_t_C (by k_extra "k_ownIn")) | ((fail_if_success (fail_if_success (refine' skip_sign_n_C ?_ ?_))); exact skip_sign_n_C (by k_extra "k_ownIn") (by k_extra "k_ownIn")) | ((fail_if_success (fail_if_success (refine' skip_sign_f_C ?_ ?_ ?_))); exact skip_sign_f_C (by k_extra "k_ownIn") (by k_extra "k_ownIn") (by k_extra "k_ownIn")))
  | (show CallC _ _ 413 _ _ _; first | ((fail_if_success (fail_if_success (refine' is_sign0_n_C ?_ ?_))); exact is_sign0_n_C (by k_extra "k_ownIn") (by k_extra "k_ownIn")) | ((fail_if_success (fail_if_success (refine' is_sign_n_C ?_ ?_))); exact is_sign_n_C (by k_extra "k_ownIn") (by k_extra "k_ownIn")) | ((fail_if_success (fail_if_success (refine' is_sign0_s_C ?_ ?_ ?_))); exact is_sign0_s_C (by k_extra "k_ownIn") (by k_extra "k_ownIn") (by k_extra "k_ownIn")) | ((fail_if_success (fail_if_success (refine' is_sign_s_C ?_ ?_ ?_))); exact is_sign_s_C (by k_extra "k_ownIn") (by k_extra "k_ownIn") (by k_extra "k_ownIn")))
  | (show CallC _ _ 348 _ _ _; first | ((fail_if_success (fail_if_success (refine' is_kind0_n_C ?_ ?_))); exact is_kind0_n_C (by k_extra "k_ownIn") (by k_extra "k_ownIn")) | ((fail_if_success (fail_if_success (refine' is_kind_n_C ?_ ?_))); exact is_kind_n_C (by k_extra "k_ownIn") (by k_extra "k_ownIn")) | ((fail_if_success (fail_if_success (refine' is_kind0_s_C ?_ ?_ ?_))); exact is_kind0_s_C (by k_extra "k_ownIn") (by k_extra "k_ownIn") (by k_extra "k_ownIn")) | ((fail_if_success (fail_if_success (refine' is_kind_s_C ?_ ?_ ?_))); exact is_kind_s_C (by k_extra "k_ownIn") (by k_extra "k_ownIn") (by k_extra "k_ownIn")))
  | (show CallC _ _ 340 _ _ _; first | ((fail_if_success (fail_if_success (refine' take_s_C ?_))); exact take_s_C (by k_extra "k_ownIn")))
  | (show CallC _ _ 319 _ _ _; first | ((fail_if_success (fail_if_success (refine' peek0_n_C ?_ ?_))); exact peek0_n_C (by k_extra "k_ownIn") (by k_extra "k_ownIn")) | ((fail_if_success (fail_if_success (refine' peek0_s_C ?_ ?_))); exact peek0_s_C (by k_extra "k_ownIn") (by k_extra "k_ownIn")) | ((fail_if_success (fail_if_success (refine' peek_n_C ?_ ?_))); exact peek_n_C (by k_extra "k_ownIn") (by k_extra "k_ownIn")) | ((fail_if_success (fail_if_success (refine' peek_s_C ?_ ?_))); exact peek_s_C (by k_extra "k_ownIn") (by k_extra "k_ownIn")))
  | fail "got_up")
  exact True.intro
theorem peek_s_C {w : World} {r : RdI} {κ : Addr × Obj → Prop} {f : Fn} {C : Cx w κ f} {p : Int} {l : List Pr} {k : Nat} {q : Pr} (hq : l[k]? = some q) (hr : Room C 1) : CallC C (RP w r p l) 319 [.val (.ref r.rd), .int (k : Int)] (.tok r q) (RP w r p l) := by
  refine CallC.pre (fun led h => lt_at h hq) fun hlt => ?_
  refine' CallC.of (lv0 := [("self", .val (.ref r.rd)), ("ahead", .int (k : Int))]) ?k1 ?k2 ?k3 ?k4 ?k5 ?k6 ?k7 ?k8 ?k9
  case k1 => k_is
  case k2 => k_is
  case k6 => exact rfl
  case k7 => exact rfl
  case k8 => exact rfl
  case k9 => decide
  case k3 => exact hr.lt
  case k4 =>
    refine' bind2 (bs := fun v1 v2 => [("self", v1), ("ahead", v2)]) ?b1 ?b2 ?b3
    case b1 => (intros; exact binds_K (by assumption) rfl (by k_is) rfl rfl rfl)
    case b2 => (intros; exact rfl)
    case b3 => (intro led1 v1 v2 o1 o2; (repeat (first | exact List.forall_mem_nil _ | refine List.forall_mem_cons.mpr ⟨⟨_, rfl, (by first | assumption | exact ⟨_, rfl⟩ | exact rfl)⟩, ?_⟩)))
  intro C' hA hst
  have hr' := hr.down hA
  refine Rt.fn ?_
  k_extra "kct_strs"
theorem peek_n_C {w : World} {r : RdI} {κ : Addr × Obj → Prop} {f : Fn} {C : Cx w κ f} {p : Int} {l : List Pr} {k : Nat} (hq : l[k]? = none) (hr : Room C 1) : CallC C (RP w r p l) 319 [.val (.ref r.rd), .int (k : Int)] (.val .none) (RP w r p l) := by
  refine CallC.pre (fun led h => nlt_at h hq) fun hlt => ?_
  refine' CallC.of (lv0 := [("self", .val (.ref r.rd)), ("ahead", .int (k : Int))]) ?k1 ?k2 ?k3 ?k4 ?k5 ?k6 ?k7 ?k8 ?k9
  case k1 => k_is
  case k2 => k_is
  case k6 => exact rfl
  case k7 => exact rfl
  case k8 => exact rfl
  case k9 => decide
  case k3 => exact hr.lt
  case k4 =>
    refine' bind2 (bs := fun v1 v2 => [("self", v1), ("ahead", v2)]) ?b1 ?b2 ?b3
    case b1 => (intros; exact binds_K (by assumption) rfl (by k_is) rfl rfl rfl)
    case b2 => (intros; exact rfl)
    case b3 => (intro led1 v1 v2 o1 o2; (repeat (first | exact List.forall_mem_nil _ | refine List.forall_mem_cons.mpr ⟨⟨_, rfl, (by first | assumption | exact ⟨_, rfl⟩ | exact rfl)⟩, ?_⟩)))
  intro C' hA hst
  have hr' := hr.down hA
  refine Rt.fn ?_
  k_extra "kct_strs"
theorem peek0_s_C {w : World} {r : RdI} {κ : Addr × Obj → Prop} {f : Fn} {C : Cx w κ f} {p : Int} {l : List Pr} {q : Pr} (hq : l[0]? = some q) (hr : Room C 1) : CallC C (RP w r p l) 319 [.val (.ref r.rd)] (.tok r q) (RP w r p l) := by
  refine CallC.pre (fun led h => lt_at h hq) fun hlt => ?_
  refine' CallC.of (lv0 := [("self", .val (.ref r.rd)), ("ahead", .int ((0 : Nat) : Int))]) ?k1 ?k2 ?k3 ?k4 ?k5 ?k6 ?k7 ?k8 ?k9
  case k1 => k_is
  case k2 => k_is
  case k6 => exact rfl
  case k7 => exact rfl
  case k8 => exact rfl
  case k9 => decide
  case k3 => exact hr.lt
  case k4 =>
    refine' bind1 (bs := fun v1 => [("self", v1), ("ahead", .int 0 626)]) ?b1 ?b2 ?b3
    case b1 => (intros; exact binds_K (by assumption) rfl (by k_is) rfl rfl rfl)
    case b2 => (intros; exact rfl)
    case b3 => (intro led1 v1 o1; (repeat (first | exact List.forall_mem_nil _ | refine List.forall_mem_cons.mpr ⟨⟨_, rfl, (by first | assumption | exact ⟨_, rfl⟩ | exact rfl)⟩, ?_⟩)))
  intro C' hA hst
  have hr' := hr.down hA
  refine Rt.fn ?_
  k_extra "kct_strs"
theorem take_s_C {w : World} {r : RdI} {f : Fn} {C : Cx w (KP r) f} {p : Int} {l : List Pr} {q : Pr} (hr : Room C 2) : CallC C (RP w r p (q :: l)) 340 [.val (.ref r.rd)] (.tok r q) (RP w r (p + 1) l) := by
  refine' CallC.of (lv0 := [("self", .val (.ref r.rd))]) ?k1 ?k2 ?k3 ?k4 ?k5 ?k6 ?k7 ?k8 ?k9
  case k1 => k_is
  case k2 => k_is
  case k6 => exact rfl
  case k7 => exact rfl
  case k8 => exact rfl
  case k9 => decide
  case k3 => exact hr.lt
  case k4 =>
    refine' bind1 (bs := fun v1 => [("self", v1)]) ?b1 ?b2 ?b3
    case b1 => (intros; exact BindsTo.of_eq (by kernel_rfl))
    case b2 => (intros; exact rfl)
    case b3 => (intro led1 v1 o1; (repeat (first | exact List.forall_mem_nil _ | refine List.forall_mem_cons.mpr ⟨⟨_, rfl, (by first | assumption | exact ⟨_, rfl⟩ | exact rfl)⟩, ?_⟩)))
  intro C' hA hst
  have hr' := hr.down hA
  refine Rt.fn ?_
  k_extra "kct_strs"
theorem is_kind_s_C {w : World} {r : RdI} {κ : Addr × Obj → Prop} {f : Fn} {C : Cx w κ f} {p : Int} {l : List Pr} {k : Nat} {kk x K : PySem.Str} {b : Bool} (hq : l[k]? = some (kk, x)) (hb : (kk == K) = b) (hr : Room C 2) : CallC C (RP w r p l) 348 [.val (.ref r.rd), .str K, .int (k : Int)] (.val (.bool b)) (RP w r p l) := by
  subst hb
  refine' CallC.of (lv0 := [("self", .val (.ref r.rd)), ("kind", .str K), ("ahead", .int (k : Int))]) ?k1 ?k2 ?k3 ?k4 ?k5 ?k6 ?k7 ?k8 ?k9
  case k1 => k_is
  case k2 => k_is
  case k6 => exact rfl
  case k7 => exact rfl
  case k8 => exact rfl
  case k9 => decide
  case k3 => exact hr.lt
  case k4 =>
    refine' bind3 (bs := fun v1 v2 v3 => [("self", v1), ("kind", v2), ("ahead", v3)]) ?b1 ?b2 ?b3
    case b1 => (intros; exact binds_K (by assumption) rfl (by k_is) rfl rfl rfl)
    case b2 => (intros; exact rfl)
    case b3 => (intro led1 v1 v2 v3 o1 o2 o3; (repeat (first | exact List.forall_mem_nil _ | refine List.forall_mem_cons.mpr ⟨⟨_, rfl, (by first | assumption | exact ⟨_, rfl⟩ | exact rfl)⟩, ?_⟩)))
  intro C' hA hst
  have hr' := hr.down hA
  refine Rt.fn ?_
  k_extra "kct_strs"
theorem is_kind_n_C {w : World} {r : RdI} {κ : Addr × Obj → Prop} {f : Fn} {C : Cx w κ f} {p : Int} {l : List Pr} {k : Nat} {K : PySem.Str} (hq : l[k]? = none) (hr : Room C 2) : CallC C (RP w r p l) 348 [.val (.ref r.rd), .str K, .int (k : Int)] (.val (.bool false)) (RP w r p l) := by
  refine' CallC.of (lv0 := [("self", .val (.ref r.rd)), ("kind", .str K), ("ahead", .int (k : Int))]) ?k1 ?k2 ?k3 ?k4 ?k5 ?k6 ?k7 ?k8 ?k9
  case k1 => k_is
  case k2 => k_is
  case k6 => exact rfl
  case k7 => exact rfl
  case k8 => exact rfl
  case k9 => decide
  case k3 => exact hr.lt
  case k4 =>
    refine' bind3 (bs := fun v1 v2 v3 => [("self", v1), ("kind", v2), ("ahead", v3)]) ?b1 ?b2 ?b3
    case b1 => (intros; exact binds_K (by assumption) rfl (by k_is) rfl rfl rfl)
    case b2 => (intros; exact rfl)
    case b3 => (intro led1 v1 v2 v3 o1 o2 o3; (repeat (first | exact List.forall_mem_nil _ | refine List.forall_mem_cons.mpr ⟨⟨_, rfl, (by first | assumption | exact ⟨_, rfl⟩ | exact rfl)⟩, ?_⟩)))
  intro C' hA hst
  have hr' := hr.down hA
  refine Rt.fn ?_
  k_extra "kct_strs"
theorem is_kind0_s_C {w : World} {r : RdI} {κ : Addr × Obj → Prop} {f : Fn} {C : Cx w κ f} {p : Int} {l : List Pr} {kk x K : PySem.Str} {b : Bool} (hq : l[0]? = some (kk, x)) (hb : (kk == K) = b) (hr : Room C 2) : CallC C (RP w r p l) 348 [.val (.ref r.rd), .str K] (.val (.bool b)) (RP w r p l) := by
  subst hb
  refine' CallC.of (lv0 := [("self", .val (.ref r.rd)), ("kind", .str K), ("ahead", .int ((0 : Nat) : Int))]) ?k1 ?k2 ?k3 ?k4 ?k5 ?k6 ?k7 ?k8 ?k9
  case k1 => k_is
  case k2 => k_is
  case k6 => exact rfl
  case k7 => exact rfl
  case k8 => exact rfl
  case k9 => decide
  case k3 => exact hr.lt
  case k4 =>
    refine' bind2 (bs := fun v1 v2 => [("self", v1), ("kind", v2), ("ahead", .int 0 658)]) ?b1 ?b2 ?b3
    case b1 => (intros; exact binds_K (by assumption) rfl (by k_is) rfl rfl rfl)
    case b2 => (intros; exact rfl)
    case b3 => (intro led1 v1 v2 o1 o2; (repeat (first | exact List.forall_mem_nil _ | refine List.forall_mem_cons.mpr ⟨⟨_, rfl, (by first | assumption | exact ⟨_, rfl⟩ | exact rfl)⟩, ?_⟩)))
  intro C' hA hst
  have hr' := hr.down hA
  refine Rt.fn ?_
  k_extra "kct_strs"
theorem is_kind0_n_C {w : World} {r : RdI} {κ : Addr × Obj → Prop} {f : Fn} {C : Cx w κ f} {p : Int} {l : List Pr} {K : PySem.Str} (hq : l[0]? = none) (hr : Room C 2) : CallC C (RP w r p l) 348 [.val (.ref r.rd), .str K] (.val (.bool false)) (RP w r p l) := by
  refine' CallC.of (lv0 := [("self", .val (.ref r.rd)), ("kind", .str K), ("ahead", .int ((0 : Nat) : Int))]) ?k1 ?k2 ?k3 ?k4 ?k5 ?k6 ?k7 ?k8 ?k9
  case k1 => k_is
  case k2 => k_is
  case k6 => exact rfl
  case k7 => exact rfl
  case k8 => exact rfl
  case k9 => decide
  case k3 => exact hr.lt
  case k4 =>
    refine' bind2 (bs := fun v1 v2 => [("self", v1), ("kind", v2), ("ahead", .int 0 658)]) ?b1 ?b2 ?b3
    case b1 => (intros; exact binds_K (by assumption) rfl (by k_is) rfl rfl rfl)
    case b2 => (intros; exact rfl)
    case b3 => (intro led1 v1 v2 o1 o2; (repeat (first | exact List.forall_mem_nil _ | refine List.forall_mem_cons.mpr ⟨⟨_, rfl, (by first | assumption | exact ⟨_, rfl⟩ | exact rfl)⟩, ?_⟩)))
  intro C' hA hst
  have hr' := hr.down hA
  refine Rt.fn ?_
  k_extra "kct_strs"
theorem is_sign_s_C {w : World} {r : RdI} {κ : Addr × Obj → Prop} {f : Fn} {C : Cx w κ f} {p : Int} {l : List Pr} {k : Nat} {kk x S : PySem.Str} {b : Bool} (hq : l[k]? = some (kk, x)) (hb : (kk == "sign" && x == S) = b) (hr : Room C 3) : CallC C (RP w r p l) 413 [.val (.ref r.rd), .str S, .int (k : Int)] (.val (.bool b)) (RP w r p l) := by
  subst hb
  refine' CallC.of (lv0 := [("self", .val (.ref r.rd)), ("sign", .str S), ("ahead", .int (k : Int))]) ?k1 ?k2 ?k3 ?k4 ?k5 ?k6 ?k7 ?k8 ?k9
  case k1 => k_is
  case k2 => k_is
  case k6 => exact rfl
  case k7 => exact rfl
  case k8 => exact rfl
  case k9 => decide
  case k3 => exact hr.lt
  case k4 =>
    refine' bind3 (bs := fun v1 v2 v3 => [("self", v1), ("sign", v2), ("ahead", v3)]) ?b1 ?b2 ?b3
    case b1 => (intros; exact binds_K (by assumption) rfl (by k_is) rfl rfl rfl)
    case b2 => (intros; exact rfl)
    case b3 => (intro led1 v1 v2 v3 o1 o2 o3; (repeat (first | exact List.forall_mem_nil _ | refine List.forall_mem_cons.mpr ⟨⟨_, rfl, (by first | assumption | exact ⟨_, rfl⟩ | exact rfl)⟩, ?_⟩)))
  intro C' hA hst
  have hr' := hr.down hA
  refine Rt.fn ?_
  k_extra "kct_strs"
theorem is_sign0_s_C {w : World} {r : RdI} {κ : Addr × Obj → Prop} {f : Fn} {C : Cx w κ f} {p : Int} {l : List Pr} {kk x S : PySem.Str} {b : Bool} (hq : l[0]? = some (kk, x)) (hb : (kk == "sign" && x == S) = b) (hr : Room C 3) : CallC C (RP w r p l) 413 [.val (.ref r.rd), .str S] (.val (.bool b)) (RP w r p l) := by
  subst hb
  refine' CallC.of (lv0 := [("self", .val (.ref r.rd)), ("sign", .str S), ("ahead", .int ((0 : Nat) : Int))]) ?k1 ?k2 ?k3 ?k4 ?k5 ?k6 ?k7 ?k8 ?k9
  case k1 => k_is
  case k2 => k_is
  case k6 => exact rfl
  case k7 => exact rfl
  case k8 => exact rfl
  case k9 => decide
  case k3 => exact hr.lt
  case k4 =>
    refine' bind2 (bs := fun v1 v2 => [("self", v1), ("sign", v2), ("ahead", .int 0 734)]) ?b1 ?b2 ?b3
    case b1 => (intros; exact binds_K (by assumption) rfl (by k_is) rfl rfl rfl)
    case b2 => (intros; exact rfl)
    case b3 => (intro led1 v1 v2 o1 o2; (repeat (first | exact List.forall_mem_nil _ | refine List.forall_mem_cons.mpr ⟨⟨_, rfl, (by first | assumption | exact ⟨_, rfl⟩ | exact rfl)⟩, ?_⟩)))
  intro C' hA hst
  have hr' := hr.down hA
  refine Rt.fn ?_
  k_extra "kct_strs"
theorem is_sign0_n_C {w : World} {r : RdI} {κ : Addr × Obj → Prop} {f : Fn} {C : Cx w κ f} {p : Int} {l : List Pr} {S : PySem.Str} (hq : l[0]? = none) (hr : Room C 3) : CallC C (RP w r p l) 413 [.val (.ref r.rd), .str S] (.val (.bool false)) (RP w r p l) := by
  refine' CallC.of (lv0 := [("self", .val (.ref r.rd)), ("sign", .str S), ("ahead", .int ((0 : Nat) : Int))]) ?k1 ?k2 ?k3 ?k4 ?k5 ?k6 ?k7 ?k8 ?k9
  case k1 => k_is
  case k2 => k_is
  case k6 => exact rfl
  case k7 => exact rfl
  case k8 => exact rfl
  case k9 => decide
  case k3 => exact hr.lt
  case k4 =>
    refine' bind2 (bs := fun v1 v2 => [("self", v1), ("sign", v2), ("ahead", .int 0 734)]) ?b1 ?b2 ?b3
    case b1 => (intros; exact binds_K (by assumption) rfl (by k_is) rfl rfl rfl)
    case b2 => (intros; exact rfl)
    case b3 => (intro led1 v1 v2 o1 o2; (repeat (first | exact List.forall_mem_nil _ | refine List.forall_mem_cons.mpr ⟨⟨_, rfl, (by first | assumption | exact ⟨_, rfl⟩ | exact rfl)⟩, ?_⟩)))
  intro C' hA hst
  have hr' := hr.down hA
  refine Rt.fn ?_
  k_extra "kct_strs"
theorem skip_sign_f_C {w : World} {r : RdI} {κ : Addr × Obj → Prop} {f : Fn} {C : Cx w κ f} {p : Int} {l : List Pr} {kk x S : PySem.Str} (hq : l[0]? = some (kk, x)) (hb : (kk == "sign" && x == S) = false) (hr : Room C 4) : CallC C (RP w r p l) 420 [.val (.ref r.rd), .str S] (.val (.bool false)) (RP w r p l) := by
  refine' CallC.of (lv0 := [("self", .val (.ref r.rd)), ("sign", .str S)]) ?k1 ?k2 ?k3 ?k4 ?k5 ?k6 ?k7 ?k8 ?k9
  case k1 => k_is
  case k2 => k_is
  case k6 => exact rfl
  case k7 => exact rfl
  case k8 => exact rfl
  case k9 => decide
  case k3 => exact hr.lt
  case k4 =>
    refine' bind2 (bs := fun v1 v2 => [("self", v1), ("sign", v2)]) ?b1 ?b2 ?b3
    case b1 => (intros; exact BindsTo.of_eq (by kernel_rfl))
    case b2 => (intros; exact rfl)
    case b3 => (intro led1 v1 v2 o1 o2; (repeat (first | exact List.forall_mem_nil _ | refine List.forall_mem_cons.mpr ⟨⟨_, rfl, (by first | assumption | exact ⟨_, rfl⟩ | exact rfl)⟩, ?_⟩)))
  intro C' hA hst
  have hr' := hr.down hA
  refine Rt.fn ?_
  k_extra "kct_strs"
theorem skip_sign_t_C {w : World} {r : RdI} {f : Fn} {C : Cx w (KP r) f} {p : Int} {l : List Pr} {S : PySem.Str} (hr : Room C 4) : CallC C (RP w r p (("sign", S) :: l)) 420 [.val (.ref r.rd), .str S] (.val (.bool true)) (RP w r (p + 1) l) := by
  refine' CallC.of (lv0 := [("self", .val (.ref r.rd)), ("sign", .str S)]) ?k1 ?k2 ?k3 ?k4 ?k5 ?k6 ?k7 ?k8 ?k9
  case k1 => k_is
  case k2 => k_is
  case k6 => exact rfl
  case k7 => exact rfl
  case k8 => exact rfl
  case k9 => decide
  case k3 => exact hr.lt
  case k4 =>
    refine' bind2 (bs := fun v1 v2 => [("self", v1), ("sign", v2)]) ?b1 ?b2 ?b3
    case b1 => (intros; exact BindsTo.of_eq (by kernel_rfl))
    case b2 => (intros; exact rfl)
    case b3 => (intro led1 v1 v2 o1 o2; (repeat (first | exact List.forall_mem_nil _ | refine List.forall_mem_cons.mpr ⟨⟨_, rfl, (by first | assumption | exact ⟨_, rfl⟩ | exact rfl)⟩, ?_⟩)))
  intro C' hA hst
  have hr' := hr.down hA
  refine Rt.fn ?_
  k_extra "kct_strs"
theorem need_sign_t_C {w : World} {r : RdI} {f : Fn} {C : Cx w (KP r) f} {p : Int} {l : List Pr} {S : PySem.Str} (hr : Room C 5) : CallC C (RP w r p (("sign", S) :: l)) 427 [.val (.ref r.rd), .str S] (.val .none) (RP w r (p + 1) l) := by
  refine' CallC.of (lv0 := [("self", .val (.ref r.rd)), ("sign", .str S)]) ?k1 ?k2 ?k3 ?k4 ?k5 ?k6 ?k7 ?k8 ?k9
  case k1 => k_is
  case k2 => k_is
  case k6 => exact rfl
  case k7 => exact rfl
  case k8 => exact rfl
  case k9 => decide
  case k3 => exact hr.lt
  case k4 =>
    refine' bind2 (bs := fun v1 v2 => [("self", v1), ("sign", v2)]) ?b1 ?b2 ?b3
    case b1 => (intros; exact BindsTo.of_eq (by kernel_rfl))
    case b2 => (intros; exact rfl)
    case b3 => (intro led1 v1 v2 o1 o2; (repeat (first | exact List.forall_mem_nil _ | refine List.forall_mem_cons.mpr ⟨⟨_, rfl, (by first | assumption | exact ⟨_, rfl⟩ | exact rfl)⟩, ?_⟩)))
  intro C' hA hst
  have hr' := hr.down hA
  refine' Go.fn ?g1
  case g1 => k_extra "ke_reads"
theorem is_reserved_C {w : World} {r : RdI} {κ : Addr × Obj → Prop} {f : Fn} {C : Cx w κ f} {p : Int} {l : List Pr} {x : PySem.Str} {b : Bool} (hx : x.length ≤ 1000) (hb : resW x = b) (hr : Room C 1) : CallC C (RP w r p l) 291 [.str x] (.val (.bool b)) (RP w r p l) := by
  refine' CallC.of (lv0 := [("word", .str x)]) ?k1 ?k2 ?k3 ?k4 ?k5 ?k6 ?k7 ?k8 ?k9
  case k1 => k_is
  case k2 => k_is
  case k6 => exact rfl
  case k7 => exact rfl
  case k8 => exact rfl
  case k9 => decide
  case k3 => exact hr.lt
  case k4 =>
    refine' bind1 (bs := fun v1 => [("word", v1)]) ?b1 ?b2 ?b3
    case b1 => (intros; exact BindsTo.of_eq (by kernel_rfl))
    case b2 => (intros; exact rfl)
    case b3 => (intro led1 v1 o1; (repeat (first | exact List.forall_mem_nil _ | refine List.forall_mem_cons.mpr ⟨⟨_, rfl, (by first | assumption | exact ⟨_, rfl⟩ | exact rfl)⟩, ?_⟩)))
  intro C' hA hst
  have hr' := hr.down hA
  refine Rt.fn ?_
  k_extra "kct_strs"
theorem is_name0_s_C {w : World} {r : RdI} {κ : Addr × Obj → Prop} {f : Fn} {C : Cx w κ f} {p : Int} {l : List Pr} {kk x : PySem.Str} {b : Bool} (hq : l[0]? = some (kk, x)) (hb : (kk == "word" && !resW x) = b) (hr : Room C 3) : CallC C (RP w r p l) 391 [.val (.ref r.rd)] (.val (.bool b)) (RP w r p l) := by
  refine CallC.pre (fun led h => len_at h hq) fun hx => ?_
  subst hb
  refine' CallC.of (lv0 := [("self", .val (.ref r.rd)), ("ahead", .int ((0 : Nat) : Int))]) ?k1 ?k2 ?k3 ?k4 ?k5 ?k6 ?k7 ?k8 ?k9
  case k1 => k_is
  case k2 => k_is
  case k6 => exact rfl
  case k7 => exact rfl
  case k8 => exact rfl
  case k9 => decide
  case k3 => exact hr.lt
  case k4 =>
    refine' bind1 (bs := fun v1 => [("self", v1), ("ahead", .int 0 711)]) ?b1 ?b2 ?b3
    case b1 => (intros; exact binds_K (by assumption) rfl (by k_is) rfl rfl rfl)
    case b2 => (intros; exact rfl)
    case b3 => (intro led1 v1 o1; (repeat (first | exact List.forall_mem_nil _ | refine List.forall_mem_cons.mpr ⟨⟨_, rfl, (by first | assumption | exact ⟨_, rfl⟩ | exact rfl)⟩, ?_⟩)))
  intro C' hA hst
  have hr' := hr.down hA
  refine Rt.fn ?_
  k_extra "kct_strs"
theorem is_name0_n_C {w : World} {r : RdI} {κ : Addr × Obj → Prop} {f : Fn} {C : Cx w κ f} {p : Int} {l : List Pr} (hq : l[0]? = none) (hr : Room C 3) : CallC C (RP w r p l) 391 [.val (.ref r.rd)] (.val (.bool false)) (RP w r p l) := by
  refine' CallC.of (lv0 := [("self", .val (.ref r.rd)), ("ahead", .int ((0 : Nat) : Int))]) ?k1 ?k2 ?k3 ?k4 ?k5 ?k6 ?k7 ?k8 ?k9
  case k1 => k_is
  case k2 => k_is
  case k6 => exact rfl
  case k7 => exact rfl
  case k8 => exact rfl
  case k9 => decide
  case k3 => exact hr.lt
  case k4 =>
    refine' bind1 (bs := fun v1 => [("self", v1), ("ahead", .int 0 711)]) ?b1 ?b2 ?b3
    case b1 => (intros; exact binds_K (by assumption) rfl (by k_is) rfl rfl rfl)
    case b2 => (intros; exact rfl)
    case b3 => (intro led1 v1 o1; (repeat (first | exact List.forall_mem_nil _ | refine List.forall_mem_cons.mpr ⟨⟨_, rfl, (by first | assumption | exact ⟨_, rfl⟩ | exact rfl)⟩, ?_⟩)))
  intro C' hA hst
  have hr' := hr.down hA
  refine Rt.fn ?_
  k_extra "kct_strs"
theorem name_t_C {w : World} {r : RdI} {f : Fn} {C : Cx w (KP r) f} {p : Int} {l : List Pr} {x : PySem.Str} (hn : resW x = false) (hr : Room C 4) : CallC C (RP w r p (("word", x) :: l)) 398 [.val (.ref r.rd)] (.str x) (RP w r (p + 1) l) := by
  refine' CallC.of (lv0 := [("self", .val (.ref r.rd))]) ?k1 ?k2 ?k3 ?k4 ?k5 ?k6 ?k7 ?k8 ?k9
  case k1 => k_is
  case k2 => k_is
  case k6 => exact rfl
  case k7 => exact rfl
  case k8 => exact rfl
  case k9 => decide
  case k3 => exact hr.lt
  case k4 =>
    refine' bind1 (bs := fun v1 => [("self", v1)]) ?b1 ?b2 ?b3
    case b1 => (intros; exact BindsTo.of_eq (by kernel_rfl))
    case b2 => (intros; exact rfl)
    case b3 => (intro led1 v1 o1; (repeat (first | exact List.forall_mem_nil _ | refine List.forall_mem_cons.mpr ⟨⟨_, rfl, (by first | assumption | exact ⟨_, rfl⟩ | exact rfl)⟩, ?_⟩)))
  intro C' hA hst
  have hr' := hr.down hA
  refine Rt.fn ?_
  k_extra "kct_strs"
theorem is_number_s_C {w : World} {r : RdI} {κ : Addr × Obj → Prop} {f : Fn} {C : Cx w κ f} {p : Int} {l : List Pr} {kk x : PySem.Str} {b : Bool} (hq : l[0]? = some (kk, x)) (h1 : (kk == "sign" && x == "+") = false) (h2 : (kk == "sign" && x == "-") = false) (hb : (kk == "number") = b) (hr : Room C 4) : CallC C (RP w r p l) 434 [.val (.ref r.rd)] (.val (.bool b)) (RP w r p l) := by
  subst hb
  refine' CallC.of (lv0 := [("self", .val (.ref r.rd))]) ?k1 ?k2 ?k3 ?k4 ?k5 ?k6 ?k7 ?k8 ?k9
  case k1 => k_is
  case k2 => k_is
  case k6 => exact rfl
  case k7 => exact rfl
  case k8 => exact rfl
  case k9 => decide
  case k3 => exact hr.lt
  case k4 =>
    refine' bind1 (bs := fun v1 => [("self", v1)]) ?b1 ?b2 ?b3
    case b1 => (intros; exact BindsTo.of_eq (by kernel_rfl))
    case b2 => (intros; exact rfl)
    case b3 => (intro led1 v1 o1; (repeat (first | exact List.forall_mem_nil _ | refine List.forall_mem_cons.mpr ⟨⟨_, rfl, (by first | assumption | exact ⟨_, rfl⟩ | exact rfl)⟩, ?_⟩)))
  intro C' hA hst
  have hr' := hr.down hA
  refine Rt.fn ?_
  k_extra "kct_strs"
theorem is_number_n_C {w : World} {r : RdI} {κ : Addr × Obj → Prop} {f : Fn} {C : Cx w κ f} {p : Int} {l : List Pr} (hq : l[0]? = none) (hr : Room C 4) : CallC C (RP w r p l) 434 [.val (.ref r.rd)] (.val (.bool false)) (RP w r p l) := by
  refine' CallC.of (lv0 := [("self", .val (.ref r.rd))]) ?k1 ?k2 ?k3 ?k4 ?k5 ?k6 ?k7 ?k8 ?k9
  case k1 => k_is
  case k2 => k_is
  case k6 => exact rfl
  case k7 => exact rfl
  case k8 => exact rfl
  case k9 => decide
  case k3 => exact hr.lt
  case k4 =>
    refine' bind1 (bs := fun v1 => [("self", v1)]) ?b1 ?b2 ?b3
    case b1 => (intros; exact BindsTo.of_eq (by kernel_rfl))
    case b2 => (intros; exact rfl)
    case b3 => (intro led1 v1 o1; (repeat (first | exact List.forall_mem_nil _ | refine List.forall_mem_cons.mpr ⟨⟨_, rfl, (by first | assumption | exact ⟨_, rfl⟩ | exact rfl)⟩, ?_⟩)))
  intro C' hA hst
  have hr' := hr.down hA
  refine Rt.fn ?_
  k_extra "kct_strs"
theorem word_ahead_s_C {w : World} {r : RdI} {κ : Addr × Obj → Prop} {f : Fn} {C : Cx w κ f} {p : Int} {l : List Pr} {k : Nat} {kk x W : PySem.Str} {b : Bool} (hq : l[k]? = some (kk, x)) (hb : (kk == "word" && x == W) = b) (hr : Room C 2) : CallC C (RP w r p l) 244 [.val (.ref r.rd), .int (k : Int), .str W] (.val (.bool b)) (RP w r p l) := by
  subst hb
  refine' CallC.of (lv0 := [("reader", .val (.ref r.rd)), ("ahead", .int (k : Int)), ("word", .str W)]) ?k1 ?k2 ?k3 ?k4 ?k5 ?k6 ?k7 ?k8 ?k9
  case k1 => k_is
  case k2 => k_is
  case k6 => exact rfl
  case k7 => exact rfl
  case k8 => exact rfl
  case k9 => decide
  case k3 => exact hr.lt
  case k4 =>
    refine' bind3 (bs := fun v1 v2 v3 => [("reader", v1), ("ahead", v2), ("word", v3)]) ?b1 ?b2 ?b3
    case b1 => (intros; exact BindsTo.of_eq (by kernel_rfl))
    case b2 => (intros; exact rfl)
    case b3 => (intro led1 v1 v2 v3 o1 o2 o3; (repeat (first | exact List.forall_mem_nil _ | refine List.forall_mem_cons.mpr ⟨⟨_, rfl, (by first | assumption | exact ⟨_, rfl⟩ | exact rfl)⟩, ?_⟩)))
  intro C' hA hst
  have hr' := hr.down hA
  refine Rt.fn ?_
  k_extra "kct_strs"
theorem is_word_f1_C {w : World} {r : RdI} {κ : Addr × Obj → Prop} {f : Fn} {C : Cx w κ f} {p : Int} {l : List Pr} {W : PySem.Str} (hW : Txt.split W " " = [W]) (hl : Nat.ble (W.length + 2) 1000 = true) {kk x : PySem.Str} (hq : l[0]? = some (kk, x)) (h1 : (kk == "word") = false) (hF : KF r κ) (hr : Room C 3) : CallC C (RP w r p l) 355 [.val (.ref r.rd), .str W] (.val (.bool false)) (RP w r p l) := by
  refine' CallC.of (lv0 := [("self", .val (.ref r.rd)), ("words", .str W)]) ?k1 ?k2 ?k3 ?k4 ?k5 ?k6 ?k7 ?k8 ?k9
  case k1 => k_is
  case k2 => k_is
  case k6 => exact rfl
  case k7 => exact rfl
  case k8 => exact rfl
  case k9 => decide
  case k3 => exact hr.lt
  case k4 =>
    refine' bind2 (bs := fun v1 v2 => [("self", v1), ("words", v2)]) ?b1 ?b2 ?b3
    case b1 => (intros; exact BindsTo.of_eq (by kernel_rfl))
    case b2 => (intros; exact rfl)
    case b3 => (intro led1 v1 v2 o1 o2; (repeat (first | exact List.forall_mem_nil _ | refine List.forall_mem_cons.mpr ⟨⟨_, rfl, (by first | assumption | exact ⟨_, rfl⟩ | exact rfl)⟩, ?_⟩)))
  intro C' hA hst
  have hr' := hr.down hA
  refine Rt.fn ?_
  k_extra "kct_strs"
theorem is_word_f2_C {w : World} {r : RdI} {κ : Addr × Obj → Prop} {f : Fn} {C : Cx w κ f} {p : Int} {l : List Pr} {W : PySem.Str} (hW : Txt.split W " " = [W]) (hl : Nat.ble (W.length + 2) 1000 = true) {kk x : PySem.Str} (hq : l[0]? = some (kk, x)) (h1 : (kk == "word") = true) (h2 : (x == W) = false) (hF : KF r κ) (hr : Room C 3) : CallC C (RP w r p l) 355 [.val (.ref r.rd), .str W] (.val (.bool false)) (RP w r p l) := by
  refine' CallC.of (lv0 := [("self", .val (.ref r.rd)), ("words", .str W)]) ?k1 ?k2 ?k3 ?k4 ?k5 ?k6 ?k7 ?k8 ?k9
  case k1 => k_is
  case k2 => k_is
  case k6 => exact rfl
  case k7 => exact rfl
  case k8 => exact rfl
  case k9 => decide
  case k3 => exact hr.lt
  case k4 =>
    refine' bind2 (bs := fun v1 v2 => [("self", v1), ("words", v2)]) ?b1 ?b2 ?b3
    case b1 => (intros; exact BindsTo.of_eq (by kernel_rfl))
    case b2 => (intros; exact rfl)
    case b3 => (intro led1 v1 v2 o1 o2; (repeat (first | exact List.forall_mem_nil _ | refine List.forall_mem_cons.mpr ⟨⟨_, rfl, (by first | assumption | exact ⟨_, rfl⟩ | exact rfl)⟩, ?_⟩)))
  intro C' hA hst
  have hr' := hr.down hA
  refine Rt.fn ?_
  k_extra "kct_strs"
theorem is_word_t_C {w : World} {r : RdI} {κ : Addr × Obj → Prop} {f : Fn} {C : Cx w κ f} {p : Int} {l : List Pr} {W : PySem.Str} (hW : Txt.split W " " = [W]) (hl : Nat.ble (W.length + 2) 1000 = true) {kk x : PySem.Str} (hq : l[0]? = some (kk, x)) (h1 : (kk == "word") = true) (h2 : (x == W) = true) (hF : KF r κ) (hr : Room C 3) : CallC C (RP w r p l) 355 [.val (.ref r.rd), .str W] (.val (.bool true)) (RP w r p l) := by
  refine' CallC.of (lv0 := [("self", .val (.ref r.rd)), ("words", .str W)]) ?k1 ?k2 ?k3 ?k4 ?k5 ?k6 ?k7 ?k8 ?k9
  case k1 => k_is
  case k2 => k_is
  case k6 => exact rfl
  case k7 => exact rfl
  case k8 => exact rfl
  case k9 => decide
  case k3 => exact hr.lt
  case k4 =>
    refine' bind2 (bs := fun v1 v2 => [("self", v1), ("words", v2)]) ?b1 ?b2 ?b3
    case b1 => (intros; exact BindsTo.of_eq (by kernel_rfl))
    case b2 => (intros; exact rfl)
    case b3 => (intro led1 v1 v2 o1 o2; (repeat (first | exact List.forall_mem_nil _ | refine List.forall_mem_cons.mpr ⟨⟨_, rfl, (by first | assumption | exact ⟨_, rfl⟩ | exact rfl)⟩, ?_⟩)))
  intro C' hA hst
  have hr' := hr.down hA
  refine Rt.fn ?_
  k_extra "kct_strs"
theorem is_word_n_C {w : World} {r : RdI} {κ : Addr × Obj → Prop} {f : Fn} {C : Cx w κ f} {p : Int} {l : List Pr} {W : PySem.Str} (hW : Txt.split W " " = [W]) (hl : Nat.ble (W.length + 2) 1000 = true) (hq : l[0]? = none) (hF : KF r κ) (hr : Room C 3) : CallC C (RP w r p l) 355 [.val (.ref r.rd), .str W] (.val (.bool false)) (RP w r p l) := by
  refine' CallC.of (lv0 := [("self", .val (.ref r.rd)), ("words", .str W)]) ?k1 ?k2 ?k3 ?k4 ?k5 ?k6 ?k7 ?k8 ?k9
  case k1 => k_is
  case k2 => k_is
  case k6 => exact rfl
  case k7 => exact rfl
  case k8 => exact rfl
  case k9 => decide
  case k3 => exact hr.lt
  case k4 =>
    refine' bind2 (bs := fun v1 v2 => [("self", v1), ("words", v2)]) ?b1 ?b2 ?b3
    case b1 => (intros; exact BindsTo.of_eq (by kernel_rfl))
    case b2 => (intros; exact rfl)
    case b3 => (intro led1 v1 v2 o1 o2; (repeat (first | exact List.forall_mem_nil _ | refine List.forall_mem_cons.mpr ⟨⟨_, rfl, (by first | assumption | exact ⟨_, rfl⟩ | exact rfl)⟩, ?_⟩)))
  intro C' hA hst
  have hr' := hr.down hA
  refine Rt.fn ?_
  k_extra "kct_strs"
theorem is_word_s_C {w : World} {r : RdI} {κ : Addr × Obj → Prop} {f : Fn} {C : Cx w κ f} {p : Int} {l : List Pr} {W : PySem.Str} (hW : Txt.split W " " = [W]) (hl : Nat.ble (W.length + 2) 1000 = true) {kk x : PySem.Str} {b : Bool} (hq : l[0]? = some (kk, x)) (hb : (kk == "word" && x == W) = b) (hF : KF r κ) (hr : Room C 3) : CallC C (RP w r p l) 355 [.val (.ref r.rd), .str W] (.val (.bool b)) (RP w r p l) := by
  subst hb
  cases h1 : kk == ("word" : PySem.Str) with
  | false => rw [Bool.false_and]; exact is_word_f1_C hW hl hq h1 hF hr
  | true =>
    rw [Bool.true_and]
    cases h2 : x == W with
    | false => exact is_word_f2_C hW hl hq h1 h2 hF hr
    | true => exact is_word_t_C hW hl hq h1 h2 hF hr
theorem skip_f_C {w : World} {r : RdI} {κ : Addr × Obj → Prop} {f : Fn} {C : Cx w κ f} {p : Int} {l : List Pr} {W : PySem.Str} (hW : Txt.split W " " = [W]) (hl : Nat.ble (W.length + 2) 1000 = true) {kk x : PySem.Str} (hq : l[0]? = some (kk, x)) (hb : (kk == "word" && x == W) = false) (hF : KF r κ) (hr : Room C 4) : CallC C (RP w r p l) 362 [.val (.ref r.rd), .str W] (.val (.bool false)) (RP w r p l) := by
  refine' CallC.of (lv0 := [("self", .val (.ref r.rd)), ("words", .str W)]) ?k1 ?k2 ?k3 ?k4 ?k5 ?k6 ?k7 ?k8 ?k9
  case k1 => k_is
  case k2 => k_is
  case k6 => exact rfl
  case k7 => exact rfl
  case k8 => exact rfl
  case k9 => decide
  case k3 => exact hr.lt
  case k4 =>
    refine' bind2 (bs := fun v1 v2 => [("self", v1), ("words", v2)]) ?b1 ?b2 ?b3
    case b1 => (intros; exact BindsTo.of_eq (by kernel_rfl))
    case b2 => (intros; exact rfl)
    case b3 => (intro led1 v1 v2 o1 o2; (repeat (first | exact List.forall_mem_nil _ | refine List.forall_mem_cons.mpr ⟨⟨_, rfl, (by first | assumption | exact ⟨_, rfl⟩ | exact rfl)⟩, ?_⟩)))
  intro C' hA hst
  have hr' := hr.down hA
  refine Rt.fn ?_
  k_extra "kct_strs"
theorem skip_n_C {w : World} {r : RdI} {κ : Addr × Obj → Prop} {f : Fn} {C : Cx w κ f} {p : Int} {l : List Pr} {W : PySem.Str} (hW : Txt.split W " " = [W]) (hl : Nat.ble (W.length + 2) 1000 = true) (hq : l[0]? = none) (hF : KF r κ) (hr : Room C 4) : CallC C (RP w r p l) 362 [.val (.ref r.rd), .str W] (.val (.bool false)) (RP w r p l) := by
  refine' CallC.of (lv0 := [("self", .val (.ref r.rd)), ("words", .str W)]) ?k1 ?k2 ?k3 ?k4 ?k5 ?k6 ?k7 ?k8 ?k9
  case k1 => k_is
  case k2 => k_is
  case k6 => exact rfl
  case k7 => exact rfl
  case k8 => exact rfl
  case k9 => decide
  case k3 => exact hr.lt
  case k4 =>
    refine' bind2 (bs := fun v1 v2 => [("self", v1), ("words", v2)]) ?b1 ?b2 ?b3
    case b1 => (intros; exact BindsTo.of_eq (by kernel_rfl))
    case b2 => (intros; exact rfl)
    case b3 => (intro led1 v1 v2 o1 o2; (repeat (first | exact List.forall_mem_nil _ | refine List.forall_mem_cons.mpr ⟨⟨_, rfl, (by first | assumption | exact ⟨_, rfl⟩ | exact rfl)⟩, ?_⟩)))
  intro C' hA hst
  have hr' := hr.down hA
  refine Rt.fn ?_
  k_extra "kct_strs"
theorem skip_t_C {w : World} {r : RdI} {f : Fn} {C : Cx w (KP r) f} {p : Int} {l : List Pr} {W : PySem.Str} (hW : Txt.split W " " = [W]) (hl : Nat.ble (W.length + 2) 1000 = true)  (hr : Room C 4) : CallC C (RP w r p (("word", W) :: l)) 362 [.val (.ref r.rd), .str W] (.val (.bool true)) (RP w r (p + 1) l) := by
  refine' CallC.of (lv0 := [("self", .val (.ref r.rd)), ("words", .str W)]) ?k1 ?k2 ?k3 ?k4 ?k5 ?k6 ?k7 ?k8 ?k9
  case k1 => k_is
  case k2 => k_is
  case k6 => exact rfl
  case k7 => exact rfl
  case k8 => exact rfl
  case k9 => decide
  case k3 => exact hr.lt
  case k4 =>
    refine' bind2 (bs := fun v1 v2 => [("self", v1), ("words", v2)]) ?b1 ?b2 ?b3
    case b1 => (intros; exact BindsTo.of_eq (by kernel_rfl))
    case b2 => (intros; exact rfl)
    case b3 => (intro led1 v1 v2 o1 o2; (repeat (first | exact List.forall_mem_nil _ | refine List.forall_mem_cons.mpr ⟨⟨_, rfl, (by first | assumption | exact ⟨_, rfl⟩ | exact rfl)⟩, ?_⟩)))
  intro C' hA hst
  have hr' := hr.down hA
  refine Rt.fn ?_
  k_extra "kct_strs"
theorem need_t_C {w : World} {r : RdI} {f : Fn} {C : Cx w (KP r) f} {p : Int} {l : List Pr} {W : PySem.Str} (hW : Txt.split W " " = [W]) (hl : Nat.ble (W.length + 2) 1000 = true)  (hr : Room C 5) : CallC C (RP w r p (("word", W) :: l)) 369 [.val (.ref r.rd), .str W] (.val .none) (RP w r (p + 1) l) := by
  refine' CallC.of (lv0 := [("self", .val (.ref r.rd)), ("words", .str W)]) ?k1 ?k2 ?k3 ?k4 ?k5 ?k6 ?k7 ?k8 ?k9
  case k1 => k_is
  case k2 => k_is
  case k6 => exact rfl
  case k7 => exact rfl
  case k8 => exact rfl
  case k9 => decide
  case k3 => exact hr.lt
  case k4 =>
    refine' bind2 (bs := fun v1 v2 => [("self", v1), ("words", v2)]) ?b1 ?b2 ?b3
    case b1 => (intros; exact BindsTo.of_eq (by kernel_rfl))
    case b2 => (intros; exact rfl)
    case b3 => (intro led1 v1 v2 o1 o2; (repeat (first | exact List.forall_mem_nil _ | refine List.forall_mem_cons.mpr ⟨⟨_, rfl, (by first | assumption | exact ⟨_, rfl⟩ | exact rfl)⟩, ?_⟩)))
  intro C' hA hst
  have hr' := hr.down hA
  refine' Go.fn ?g1
  case g1 => k_extra "ke_reads"
theorem one_of_f_C {w : World} {r : RdI} {κ : Addr × Obj → Prop} {f : Fn} {C : Cx w κ f} {p : Int} {l : List Pr} {kk x : PySem.Str} (hq : l[0]? = some (kk, x)) (h1 : (kk == "word" && x == "OF") = false) (h2 : (kk == "word" && x == "IN") = false) (hF : KF r κ) (hr : Room C 5) : CallC C (RP w r p l) 376 [.val (.ref r.rd), .str "OF IN"] (.str "") (RP w r p l) := by
  refine' CallC.of (lv0 := [("self", .val (.ref r.rd)), ("words", .str "OF IN")]) ?k1 ?k2 ?k3 ?k4 ?k5 ?k6 ?k7 ?k8 ?k9
  case k1 => k_is
  case k2 => k_is
  case k6 => exact rfl
  case k7 => exact rfl
  case k8 => exact rfl
  case k9 => decide
  case k3 => exact hr.lt
  case k4 =>
    refine' bind2 (bs := fun v1 v2 => [("self", v1), ("words", v2)]) ?b1 ?b2 ?b3
    case b1 => (intros; exact BindsTo.of_eq (by kernel_rfl))
    case b2 => (intros; exact rfl)
    case b3 => (intro led1 v1 v2 o1 o2; (repeat (first | exact List.forall_mem_nil _ | refine List.forall_mem_cons.mpr ⟨⟨_, rfl, (by first | assumption | exact ⟨_, rfl⟩ | exact rfl)⟩, ?_⟩)))
  intro C' hA hst
  have hr' := hr.down hA
  refine Rt.fn ?_
  k_extra "kct_strs"
theorem one_of_n_C {w : World} {r : RdI} {κ : Addr × Obj → Prop} {f : Fn} {C : Cx w κ f} {p : Int} {l : List Pr} (hq : l[0]? = none) (hF : KF r κ) (hr : Room C 5) : CallC C (RP w r p l) 376 [.val (.ref r.rd), .str "OF IN"] (.str "") (RP w r p l) := by
  refine' CallC.of (lv0 := [("self", .val (.ref r.rd)), ("words", .str "OF IN")]) ?k1 ?k2 ?k3 ?k4 ?k5 ?k6 ?k7 ?k8 ?k9
  case k1 => k_is
  case k2 => k_is
  case k6 => exact rfl
  case k7 => exact rfl
  case k8 => exact rfl
  case k9 => decide
  case k3 => exact hr.lt
  case k4 =>
    refine' bind2 (bs := fun v1 v2 => [("self", v1), ("words", v2)]) ?b1 ?b2 ?b3
    case b1 => (intros; exact BindsTo.of_eq (by kernel_rfl))
    case b2 => (intros; exact rfl)
    case b3 => (intro led1 v1 v2 o1 o2; (repeat (first | exact List.forall_mem_nil _ | refine List.forall_mem_cons.mpr ⟨⟨_, rfl, (by first | assumption | exact ⟨_, rfl⟩ | exact rfl)⟩, ?_⟩)))
  intro C' hA hst
  have hr' := hr.down hA
  refine Rt.fn ?_
  k_extra "kct_strs"
theorem one_of_t_C {w : World} {r : RdI} {f : Fn} {C : Cx w (KP r) f} {p : Int} {l : List Pr}  (hr : Room C 5) : CallC C (RP w r p (("word", "OF") :: l)) 376 [.val (.ref r.rd), .str "OF IN"] (.str "OF") (RP w r (p + 1) l) := by
  refine' CallC.of (lv0 := [("self", .val (.ref r.rd)), ("words", .str "OF IN")]) ?k1 ?k2 ?k3 ?k4 ?k5 ?k6 ?k7 ?k8 ?k9
  case k1 => k_is
  case k2 => k_is
  case k6 => exact rfl
  case k7 => exact rfl
  case k8 => exact rfl
  case k9 => decide
  case k3 => exact hr.lt
  case k4 =>
    refine' bind2 (bs := fun v1 v2 => [("self", v1), ("words", v2)]) ?b1 ?b2 ?b3
    case b1 => (intros; exact BindsTo.of_eq (by kernel_rfl))
    case b2 => (intros; exact rfl)
    case b3 => (intro led1 v1 v2 o1 o2; (repeat (first | exact List.forall_mem_nil _ | refine List.forall_mem_cons.mpr ⟨⟨_, rfl, (by first | assumption | exact ⟨_, rfl⟩ | exact rfl)⟩, ?_⟩)))
  intro C' hA hst
  have hr' := hr.down hA
  refine Rt.fn ?_
  k_extra "kct_strs"
theorem octets_of_C {w : World} {r : RdI} {κ : Addr × Obj → Prop} {f : Fn} {C : Cx w κ f} {p : Int} {l : List Pr} {x : PySem.Str} (h1 : x.cps.all (· < 128) = true) (h2 : x.cps.size ≤ 1000) (hr : Room C 1) : CallC C (RP w r p l) 296 [.str x] (.dt (.bytes (bytesOf x))) (RP w r p l) :=
  CallC.ofK fun {m s led vs Q} F N o hI hret => by
    obtain ⟨tp, R⟩ := hI.R
    refine o.l1 fun v e9 h90 => ?_
    subst e9
    obtain ⟨t, e⟩ := h90
    subst e
    exact octets_spec C.B F C.X N C.T C.hk h1 h2 hr.1 hr.2 fun tt h' tk' F' N' => hret _ _ _ led F' N' (Kr.refl _) hI (.bytes _ _)
theorem octets_C {w : World} {r : RdI} {f : Fn} {C : Cx w (KP r) f} {p : Int} {l : List Pr} {x : PySem.Str} (h1 : x.cps.all (· < 128) = true) (h2 : x.cps.size ≤ 1000) (hr : Room C 4) : CallC C (RP w r p (("literal", x) :: l)) 462 [.val (.ref r.rd)] (.dt (.bytes (bytesOf x))) (RP w r (p + 1) l) := by
  refine' CallC.of (lv0 := [("self", .val (.ref r.rd))]) ?k1 ?k2 ?k3 ?k4 ?k5 ?k6 ?k7 ?k8 ?k9
  case k1 => k_is
  case k2 => k_is
  case k6 => exact rfl
  case k7 => exact rfl
  case k8 => exact rfl
  case k9 => decide
  case k3 => exact hr.lt
  case k4 =>
    refine' bind1 (bs := fun v1 => [("self", v1)]) ?b1 ?b2 ?b3
    case b1 => (intros; exact BindsTo.of_eq (by kernel_rfl))
    case b2 => (intros; exact rfl)
    case b3 => (intro led1 v1 o1; (repeat (first | exact List.forall_mem_nil _ | refine List.forall_mem_cons.mpr ⟨⟨_, rfl, (by first | assumption | exact ⟨_, rfl⟩ | exact rfl)⟩, ?_⟩)))
  intro C' hA hst
  have hr' := hr.down hA
  refine Rt.fn ?_
  k_extra "kct_strs"
end
section
open PySem PySem.W PySem.Spec PySem.Calls PyProof.Rows
theorem wordsT4 : True := by
  (k_with "kat_tups" => first
  | exact Ev.lam (by assumption) (by (rename (_ = cellsFrom _ _ _) => hc9); (show closureFor _ (envX _ _ _ _ _ (Cx.cl _)) = _); rw [hc9]; exact rfl) rfl
  | fail "kat_tups")
  (k_with "got_up" => first
  | (show CallC _ _ 160 _ _ _; first | ((fail_if_success (fail_if_success (refine' read_ref_A0_C ?_))); exact read_ref_A0_C (by k_extra "k_ownIn")) | ((fail_if_success (fail_if_success (refine' read_ref_A_C ?_ ?_ ?_ ?_))); exact read_ref_A_C (by k_extra "k_ownIn") (by k_extra "k_ownIn") (by k_extra "k_ownIn") (by k_extra "k_ownIn")) | ((fail_if_success (fail_if_success (refine' read_ref_B_C ?_ ?_ ?_ ?_))); exact read_ref_B_C (by k_extra "k_ownIn") (by k_extra "k_ownIn") (by k_extra "k_ownIn") (by k_extra "k_ownIn")))
  | (show CallC _ _ 153 _ _ _; first | ((fail_if_success (fail_if_success (refine' read_part_B_C ?_ ?_ ?_ ?_))); exact read_part_B_C (by k_extra "k_ownIn") (by k_extra "k_ownIn") (by k_extra "k_ownIn") (by k_extra "k_ownIn")))
  | (show CallC _ _ 139 _ _ _; first | ((fail_if_success (fail_if_success (refine' is_part_t_C ?_))); exact is_part_t_C (by k_extra "k_ownIn")) | ((fail_if_success (fail_if_success (refine' is_part_n_C ?_ ?_))); exact is_part_n_C (by k_extra "k_ownIn") (by k_extra "k_ownIn")) | ((fail_if_success (fail_if_success (refine' is_part_f_C ?_ ?_ ?_))); exact is_part_f_C (by k_extra "k_ownIn") (by k_extra "k_ownIn") (by k_extra "k_ownIn")))
  | (show CallC _ _ 188 _ _ _; first | ((fail_if_success (fail_if_success (refine' read_expr_num_C ?_ ?_ ?_ ?_ ?_ ?_))); exact read_expr_num_C (by k_extra "k_ownIn") (by k_extra "k_ownIn") (by k_extra "k_ownIn") (by k_extra "k_ownIn") (by k_extra "k_ownIn") (by k_extra "k_ownIn")))
  | (show CallC _ _ 202 _ _ _; first | ((fail_if_success (fail_if_success (refine' read_sum_num_C ?_ ?_ ?_ ?_ ?_ ?_ ?_))); exact read_sum_num_C (by k_extra "k_ownIn") (by k_extra "k_ownIn") (by k_extra "k_ownIn") (by k_extra "k_ownIn") (by k_extra "k_ownIn") (by k_extra "k_ownIn") (by k_extra "k_ownIn")))
  | (show CallC _ _ 209 _ _ _; first | ((fail_if_success (fail_if_success (refine' read_product_num_C ?_ ?_ ?_ ?_ ?_ ?_))); exact read_product_num_C (by k_extra "k_ownIn") (by k_extra "k_ownIn") (by k_extra "k_ownIn") (by k_extra "k_ownIn") (by k_extra "k_ownIn") (by k_extra "k_ownIn")))
  | (show CallC _ _ 216 _ _ _; first | ((fail_if_success (fail_if_success (refine' read_factor_num_C ?_ ?_ ?_ ?_ ?_ ?_))); exact read_factor_num_C (by k_extra "k_ownIn") (by k_extra "k_ownIn") (by k_extra "k_ownIn") (by k_extra "k_ownIn") (by k_extra "k_ownIn") (by k_extra "k_ownIn")))
  | (show CallC _ _ 230 _ _ _; first | ((fail_if_success (fail_if_success (refine' read_power_num_C ?_ ?_ ?_ ?_ ?_ ?_))); exact read_power_num_C (by k_extra "k_ownIn") (by k_extra "k_ownIn") (by k_extra "k_ownIn") (by k_extra "k_ownIn") (by k_extra "k_ownIn") (by k_extra "k_ownIn")))
  | (show CallC _ _ 237 _ _ _; first | ((fail_if_success (fail_if_success (refine' read_primary_num_C ?_ ?_ ?_))); exact read_primary_num_C (by assumption) (by assumption) (by exact Room.le (by assumption) rfl)))
  | (show CallC _ _ 195 _ _ _; first | ((fail_if_success (fail_if_success (refine' sa_1_C ?_ ?_ ?_))); exact sa_1_C (by k_extra "k_ownIn") (by k_extra "k_ownIn") (by k_extra "k_ownIn")) | ((fail_if_success (fail_if_success (refine' sa_2_C ?_ ?_ ?_))); exact sa_2_C (by k_extra "k_ownIn") (by k_extra "k_ownIn") (by k_extra "k_ownIn")) | ((fail_if_success (fail_if_success (refine' sa_kind_C ?_ ?_ ?_))); exact sa_kind_C (by k_extra "k_ownIn") (by k_extra "k_ownIn") (by k_extra "k_ownIn")))
  | (show CallC _ _ 181 _ _ _; first | ((fail_if_success (fail_if_success (refine' read_op_num_C ?_ ?_))); exact read_op_num_C (by k_extra "k_ownIn") (by k_extra "k_ownIn")))
  | (show CallC _ _ 441 _ _ _; first | ((fail_if_success (fail_if_success (refine' signed_num_C ?_ ?_))); exact signed_num_C (by k_extra "k_ownIn") (by k_extra "k_ownIn")))
  | (show CallC _ _ 174 _ _ _; first | ((fail_if_success (fail_if_success (refine' rf_L_C ?_))); exact rf_L_C (by k_extra "k_ownIn")) | ((fail_if_success (fail_if_success (refine' rf_S_C ?_))); exact rf_S_C (by k_extra "k_ownIn")) | ((fail_if_success (fail_if_success (refine' rf_B_C ?_))); exact rf_B_C (by k_extra "k_ownIn")) | ((fail_if_success (fail_if_success (refine' rf_A_C ?_))); exact rf_A_C (by k_extra "k_ownIn")))
  | (show CallC _ _ 376 _ _ _; first | ((fail_if_success (fail_if_success (refine' CallC.weak (hκ' := hKP _) (KD.KP _) (one_of_t_C ?_)))); exact CallC.weak (hκ' := hKP _) (KD.KP _) (one_of_t_C (by k_extra "k_ownIn"))) | ((fail_if_success (fail_if_success (refine' CallC.weak (hκ' := hKP _) (KD.KP _) (one_of_n_C ?_ ?_ ?_)))); exact CallC.weak (hκ' := hKP _) (KD.KP _) (one_of_n_C (by k_extra "k_ownIn") (by k_extra "k_ownIn") (by k_extra "k_ownIn"))) | ((fail_if_success (fail_if_success (refine' CallC.weak (hκ' := hKP _) (KD.KP _) (one_of_f_C ?_ ?_ ?_ ?_ ?_)))); exact CallC.weak (hκ' := hKP _) (KD.KP _) (one_of_f_C (by k_extra "k_ownIn") (by k_extra "k_ownIn") (by k_extra "k_ownIn") (by k_extra "k_ownIn") (by k_extra "k_ownIn"))))
  | (show CallC _ _ 369 _ _ _; first | ((fail_if_success (fail_if_success (refine' CallC.weak (hκ' := hKP _) (KD.KP _) (need_t_C ?_ ?_ ?_)))); exact CallC.weak (hκ' := hKP _) (KD.KP _) (need_t_C (by k_extra "k_ownIn") (by k_extra "k_ownIn") (by k_extra "k_ownIn"))))
  | (show CallC _ _ 462 _ _ _; first | ((fail_if_success (fail_if_success (refine' CallC.weak (hκ' := hKP _) (KD.KP _) (octets_C ?_ ?_ ?_)))); exact CallC.weak (hκ' := hKP _) (KD.KP _) (octets_C (by k_extra "k_ownIn") (by k_extra "k_ownIn") (by k_extra "k_ownIn"))))
  | (show CallC _ _ 362 _ _ _; first | ((fail_if_success (fail_if_success (refine' CallC.weak (hκ' := hKP _) (KD.KP _) (skip_t_C ?_ ?_ ?_)))); exact CallC.weak (hκ' := hKP _) (KD.KP _) (skip_t_C (by k_extra "k_ownIn") (by k_extra "k_ownIn") (by k_extra "k_ownIn"))) | ((fail_if_success (fail_if_success (refine' CallC.weak (hκ' := hKP _) (KD.KP _) (skip_n_C ?_ ?_ ?_ ?_ ?_)))); exact CallC.weak (hκ' := hKP _) (KD.KP _) (skip_n_C (by k_extra "k_ownIn") (by k_extra "k_ownIn") (by k_extra "k_ownIn") (by k_extra "k_ownIn") (by k_extra "k_ownIn"))) | ((fail_if_success (fail_if_success (refine' CallC.weak (hκ' := hKP _) (KD.KP _) (skip_f_C ?_ ?_ ?_ ?_ ?_ ?_)))); exact CallC.weak (hκ' := hKP _) (KD.KP _) (skip_f_C (by k_extra "k_ownIn") (by k_extra "k_ownIn") (by k_extra "k_ownIn") (by k_extra "k_ownIn") (by k_extra "k_ownIn") (by k_extra "k_ownIn"))))
  | (show CallC _ _ 355 _ _ _; first | ((fail_if_success (fail_if_success (refine' CallC.weak (hκ' := hKP _) (KD.KP _) (is_word_n_C ?_ ?_ ?_ ?_ ?_)))); exact CallC.weak (hκ' := hKP _) (KD.KP _) (is_word_n_C (by k_extra "k_ownIn") (by k_extra "k_ownIn") (by k_extra "k_ownIn") (by k_extra "k_ownIn") (by k_extra "k_ownIn"))) | ((fail_if_success (fail_if_success (refine' CallC.weak (hκ' := hKP _) (KD.KP _) (is_word_s_C ?_ ?_ ?_ ?_ ?_ ?_)))); exact CallC.weak (hκ' := hKP _) (KD.KP _) (is_word_s_C (by k_extra "k_ownIn") (by k_extra "k_ownIn") (by k_extra "k_ownIn") (by k_extra "k_ownIn") (by k_extra "k_ownIn") (by k_extra "k_ownIn"))))
  | (show CallC _ _ 398 _ _ _; first | ((fail_if_success (fail_if_success (refine' CallC.weak (hκ' := hKP _) (KD.KP _) (name_t_C ?_ ?_)))); exact CallC.weak (hκ' := hKP _) (KD.KP _) (name_t_C (by k_extra "k_ownIn") (by k_extra "k_ownIn"))))
  | (show CallC _ _ 427 _ _ _; first | ((fail_if_success (fail_if_success (refine' CallC.weak (hκ' := hKP _) (KD.KP _) (need_sign_t_C ?_)))); exact CallC.weak (hκ' := hKP _) (KD.KP _) (need_sign_t_C (by k_extra "k_ownIn"))))
  | (show CallC _ _ 420 _ _ _; first | ((fail_if_success (fail_if_success (refine' CallC.weak (hκ' := hKP _) (KD.KP _) (skip_sign_t_C ?_)))); exact CallC.weak (hκ' := hKP _) (KD.KP _) (skip_sign_t_C (by k_extra "k_ownIn"))) | ((fail_if_success (fail_if_success (refine' skip_sign_n_C ?_ ?_))); exact skip_sign_n_C (by k_extra "k_ownIn") (by k_extra "k_ownIn")) | ((fail_if_success (fail_if_success (refine' skip_sign_f_C ?_ ?_ ?_))); exact skip_sign_f_C (by k_extra "k_ownIn") (by k_extra "k_ownIn") (by k_extra "k_ownIn")))
  | (show CallC _ _ 340 _ _ _; first | ((fail_if_success (fail_if_success (refine' CallC.weak (hκ' := hKP _) (KD.KP _) (take_s_C ?_)))); exact CallC.weak (hκ' := hKP _) (KD.KP _) (take_s_C (by k_extra "k_ownIn"))))
  | exact Dec.h (by assumption) (Room.le (by assumption) rfl)
  | fail "got_up")
  exact True.intro
theorem rf_A_C {w : World} {r : RdI} {f : Fn} {C : Cx w KD f} {p : Int} {l : List Pr}  (hr : Room C 4) : CallC C (RP w r p (("word", "A") :: l)) 174 [.val (.ref r.rd)] (.val .none) (RP w r p (("word", "A") :: l)) := by
  refine' CallC.of (lv0 := [("reader", .val (.ref r.rd))]) ?k1 ?k2 ?k3 ?k4 ?k5 ?k6 ?k7 ?k8 ?k9
  case k1 => k_is
  case k2 => k_is
  case k6 => exact rfl
  case k7 => exact rfl
  case k8 => exact rfl
  case k9 => decide
  case k3 => exact hr.lt
  case k4 =>
    refine' bind1 (bs := fun v1 => [("reader", v1)]) ?b1 ?b2 ?b3
    case b1 => (intros; exact BindsTo.of_eq (by kernel_rfl))
    case b2 => (intros; exact rfl)
    case b3 => (intro led1 v1 o1; (repeat (first | exact List.forall_mem_nil _ | refine List.forall_mem_cons.mpr ⟨⟨_, rfl, (by first | assumption | exact ⟨_, rfl⟩ | exact rfl)⟩, ?_⟩)))
  intro C' hA hst
  have hr' := hr.down hA
  refine Rt.fn ?_
  k_extra "kct_strs"
theorem rf_B_C {w : World} {r : RdI} {f : Fn} {C : Cx w KD f} {p : Int} {l : List Pr}  (hr : Room C 4) : CallC C (RP w r p (("word", "B") :: l)) 174 [.val (.ref r.rd)] (.val .none) (RP w r p (("word", "B") :: l)) := by
  refine' CallC.of (lv0 := [("reader", .val (.ref r.rd))]) ?k1 ?k2 ?k3 ?k4 ?k5 ?k6 ?k7 ?k8 ?k9
  case k1 => k_is
  case k2 => k_is
  case k6 => exact rfl
  case k7 => exact rfl
  case k8 => exact rfl
  case k9 => decide
  case k3 => exact hr.lt
  case k4 =>
    refine' bind1 (bs := fun v1 => [("reader", v1)]) ?b1 ?b2 ?b3
    case b1 => (intros; exact BindsTo.of_eq (by kernel_rfl))
    case b2 => (intros; exact rfl)
    case b3 => (intro led1 v1 o1; (repeat (first | exact List.forall_mem_nil _ | refine List.forall_mem_cons.mpr ⟨⟨_, rfl, (by first | assumption | exact ⟨_, rfl⟩ | exact rfl)⟩, ?_⟩)))
  intro C' hA hst
  have hr' := hr.down hA
  refine Rt.fn ?_
  k_extra "kct_strs"
theorem rf_S_C {w : World} {r : RdI} {f : Fn} {C : Cx w KD f} {p : Int} {l : List Pr}  (hr : Room C 4) : CallC C (RP w r p (("word", "SPACE") :: l)) 174 [.val (.ref r.rd)] (.dt (.tup [.str "figure", .str "SPACE"])) (RP w r (p + 1) l) := by
  refine' CallC.of (lv0 := [("reader", .val (.ref r.rd))]) ?k1 ?k2 ?k3 ?k4 ?k5 ?k6 ?k7 ?k8 ?k9
  case k1 => k_is
  case k2 => k_is
  case k6 => exact rfl
  case k7 => exact rfl
  case k8 => exact rfl
  case k9 => decide
  case k3 => exact hr.lt
  case k4 =>
    refine' bind1 (bs := fun v1 => [("reader", v1)]) ?b1 ?b2 ?b3
    case b1 => (intros; exact BindsTo.of_eq (by kernel_rfl))
    case b2 => (intros; exact rfl)
    case b3 => (intro led1 v1 o1; (repeat (first | exact List.forall_mem_nil _ | refine List.forall_mem_cons.mpr ⟨⟨_, rfl, (by first | assumption | exact ⟨_, rfl⟩ | exact rfl)⟩, ?_⟩)))
  intro C' hA hst
  have hr' := hr.down hA
  refine Rt.fn ?_
  k_extra "kct_strs"
theorem rf_L_C {w : World} {r : RdI} {f : Fn} {C : Cx w KD f} {p : Int} {l : List Pr}  (hr : Room C 4) : CallC C (RP w r p (("word", "LOW-VALUES") :: l)) 174 [.val (.ref r.rd)] (.dt (.tup [.str "figure", .str "LOW"])) (RP w r (p + 1) l) := by
  refine' CallC.of (lv0 := [("reader", .val (.ref r.rd))]) ?k1 ?k2 ?k3 ?k4 ?k5 ?k6 ?k7 ?k8 ?k9
  case k1 => k_is
  case k2 => k_is
  case k6 => exact rfl
  case k7 => exact rfl
  case k8 => exact rfl
  case k9 => decide
  case k3 => exact hr.lt
  case k4 =>
    refine' bind1 (bs := fun v1 => [("reader", v1)]) ?b1 ?b2 ?b3
    case b1 => (intros; exact BindsTo.of_eq (by kernel_rfl))
    case b2 => (intros; exact rfl)
    case b3 => (intro led1 v1 o1; (repeat (first | exact List.forall_mem_nil _ | refine List.forall_mem_cons.mpr ⟨⟨_, rfl, (by first | assumption | exact ⟨_, rfl⟩ | exact rfl)⟩, ?_⟩)))
  intro C' hA hst
  have hr' := hr.down hA
  refine Rt.fn ?_
  k_extra "kct_strs"
structure Dec (w : World) (x : PySem.Str) (d : Int) : Prop where
  h : ∀ {r : RdI} {f : Fn} {C : Cx w KD f} {p : Int} {l : List Pr}, Room C 3 → CallC C (RP w r p l) 131 [.str x] (.dt (.tup [.int d, .int 0])) (RP w r p l)
theorem signed_num_C {w : World} {r : RdI} {f : Fn} {C : Cx w KD f} {p : Int} {l : List Pr} {x : PySem.Str} {d : Int} (hD : Dec w x d) (hr : Room C 5) : CallC C (RP w r p (("number", x) :: l)) 441 [.val (.ref r.rd)] (.dt (.tup [.int d, .int 0])) (RP w r (p + 1) l) := by
  refine' CallC.of (lv0 := [("self", .val (.ref r.rd))]) ?k1 ?k2 ?k3 ?k4 ?k5 ?k6 ?k7 ?k8 ?k9
  case k1 => k_is
  case k2 => k_is
  case k6 => exact rfl
  case k7 => exact rfl
  case k8 => exact rfl
  case k9 => decide
  case k3 => exact hr.lt
  case k4 =>
    refine' bind1 (bs := fun v1 => [("self", v1)]) ?b1 ?b2 ?b3
    case b1 => (intros; exact BindsTo.of_eq (by kernel_rfl))
    case b2 => (intros; exact rfl)
    case b3 => (intro led1 v1 o1; (repeat (first | exact List.forall_mem_nil _ | refine List.forall_mem_cons.mpr ⟨⟨_, rfl, (by first | assumption | exact ⟨_, rfl⟩ | exact rfl)⟩, ?_⟩)))
  intro C' hA hst
  have hr' := hr.down hA
  refine Rt.fn ?_
  k_extra "kct_strs"
theorem read_op_num_C {w : World} {r : RdI} {f : Fn} {C : Cx w KD f} {p : Int} {l : List Pr} {x : PySem.Str} {d : Int} {u : AV} (hD : Dec w x d) (hr : Room C 6) : CallC C (RP w r p (("number", x) :: l)) 181 [.val (.ref r.rd), u] (.dt (.tup [.str "number", .tup [.int d, .int 0]])) (RP w r (p + 1) l) := by
  refine' CallC.of (lv0 := [("reader", .val (.ref r.rd)), ("read_expr", u)]) ?k1 ?k2 ?k3 ?k4 ?k5 ?k6 ?k7 ?k8 ?k9
  case k1 => k_is
  case k2 => k_is
  case k6 => exact rfl
  case k7 => exact rfl
  case k8 => exact rfl
  case k9 => decide
  case k3 => exact hr.lt
  case k4 =>
    refine' bind2 (bs := fun v1 v2 => [("reader", v1), ("read_expr", v2)]) ?b1 ?b2 ?b3
    case b1 => (intros; exact BindsTo.of_eq (by kernel_rfl))
    case b2 => (intros; exact rfl)
    case b3 => (intro led1 v1 v2 o1 o2; (repeat (first | exact List.forall_mem_nil _ | refine List.forall_mem_cons.mpr ⟨⟨_, rfl, (by first | assumption | exact ⟨_, rfl⟩ | exact rfl)⟩, ?_⟩)))
  intro C' hA hst
  have hr' := hr.down hA
  refine Rt.fn ?_
  k_extra "kct_strs"
theorem sa_kind_C {w : World} {r : RdI} {κ : Addr × Obj → Prop} {f : Fn} {C : Cx w κ f} {p : Int} {l : List Pr} {kk x : PySem.Str} {u : AV} (hq : l[0]? = some (kk, x)) (hk : (kk == "sign") = false) (hr : Room C 2) : CallC C (RP w r p l) 195 [.val (.ref r.rd), u] (.str "") (RP w r p l) := by
  refine' CallC.of (lv0 := [("reader", .val (.ref r.rd)), ("signs", u)]) ?k1 ?k2 ?k3 ?k4 ?k5 ?k6 ?k7 ?k8 ?k9
  case k1 => k_is
  case k2 => k_is
  case k6 => exact rfl
  case k7 => exact rfl
  case k8 => exact rfl
  case k9 => decide
  case k3 => exact hr.lt
  case k4 =>
    refine' bind2 (bs := fun v1 v2 => [("reader", v1), ("signs", v2)]) ?b1 ?b2 ?b3
    case b1 => (intros; exact BindsTo.of_eq (by kernel_rfl))
    case b2 => (intros; exact rfl)
    case b3 => (intro led1 v1 v2 o1 o2; (repeat (first | exact List.forall_mem_nil _ | refine List.forall_mem_cons.mpr ⟨⟨_, rfl, (by first | assumption | exact ⟨_, rfl⟩ | exact rfl)⟩, ?_⟩)))
  intro C' hA hst
  have hr' := hr.down hA
  refine Rt.fn ?_
  k_extra "kct_strs"
theorem sa_2_C {w : World} {r : RdI} {κ : Addr × Obj → Prop} {f : Fn} {C : Cx w κ f} {p : Int} {l : List Pr} {x a b : PySem.Str} (hq : l[0]? = some ((PySem.Str.ofString "sign"), x)) (hk : ([a, b].any (· == x)) = false) (hr : Room C 2) : CallC C (RP w r p l) 195 [.val (.ref r.rd), (.dt (.tup [.str a, .str b]))] (.str "") (RP w r p l) := by
  refine' CallC.of (lv0 := [("reader", .val (.ref r.rd)), ("signs", (.dt (.tup [.str a, .str b])))]) ?k1 ?k2 ?k3 ?k4 ?k5 ?k6 ?k7 ?k8 ?k9
  case k1 => k_is
  case k2 => k_is
  case k6 => exact rfl
  case k7 => exact rfl
  case k8 => exact rfl
  case k9 => decide
  case k3 => exact hr.lt
  case k4 =>
    refine' bind2 (bs := fun v1 v2 => [("reader", v1), ("signs", v2)]) ?b1 ?b2 ?b3
    case b1 => (intros; exact BindsTo.of_eq (by kernel_rfl))
    case b2 => (intros; exact rfl)
    case b3 => (intro led1 v1 v2 o1 o2; (repeat (first | exact List.forall_mem_nil _ | refine List.forall_mem_cons.mpr ⟨⟨_, rfl, (by first | assumption | exact ⟨_, rfl⟩ | exact rfl)⟩, ?_⟩)))
  intro C' hA hst
  have hr' := hr.down hA
  refine Rt.fn ?_
  k_extra "kct_strs"
theorem sa_1_C {w : World} {r : RdI} {κ : Addr × Obj → Prop} {f : Fn} {C : Cx w κ f} {p : Int} {l : List Pr} {x a : PySem.Str} (hq : l[0]? = some ((PySem.Str.ofString "sign"), x)) (hk : ([a].any (· == x)) = false) (hr : Room C 2) : CallC C (RP w r p l) 195 [.val (.ref r.rd), (.dt (.tup [.str a]))] (.str "") (RP w r p l) := by
  refine' CallC.of (lv0 := [("reader", .val (.ref r.rd)), ("signs", (.dt (.tup [.str a])))]) ?k1 ?k2 ?k3 ?k4 ?k5 ?k6 ?k7 ?k8 ?k9
  case k1 => k_is
  case k2 => k_is
  case k6 => exact rfl
  case k7 => exact rfl
  case k8 => exact rfl
  case k9 => decide
  case k3 => exact hr.lt
  case k4 =>
    refine' bind2 (bs := fun v1 v2 => [("reader", v1), ("signs", v2)]) ?b1 ?b2 ?b3
    case b1 => (intros; exact BindsTo.of_eq (by kernel_rfl))
    case b2 => (intros; exact rfl)
    case b3 => (intro led1 v1 v2 o1 o2; (repeat (first | exact List.forall_mem_nil _ | refine List.forall_mem_cons.mpr ⟨⟨_, rfl, (by first | assumption | exact ⟨_, rfl⟩ | exact rfl)⟩, ?_⟩)))
  intro C' hA hst
  have hr' := hr.down hA
  refine Rt.fn ?_
  k_extra "kct_strs"
theorem read_primary_num_C {w : World} {r : RdI} {f : Fn} {C : Cx w KD f} {p : Int} {l : List Pr} {x : PySem.Str} {d : Int} {dep : Int} (CD : CodeHd C.h₀ 236 232) (hD : Dec w x d) (hr : Room C 7) : CallC C (RP w r p (("number", x) :: l)) 237 [.val (.ref r.rd), .int dep] (.dt (.tup [.str "number", .tup [.int d, .int 0]])) (RP w r (p + 1) l) := by
  refine' CallC.ofC (lv0 := [("reader", .val (.ref r.rd))]) ?k1 ?k2 ?k3 ?kM ?k4 ?kN ?k5 ?k6 ?k7 ?k8
  case k1 => k_is
  case k2 => k_is
  case k6 => exact rfl
  case k7 => exact rfl
  case k8 => exact rfl
  case kN => decide +kernel
  case k3 => exact hr.lt
  case kM => exact RP.mono
  case k4 =>
    intro led s vs X o
    refine o.l2 fun v1 v2 e9 o1 o2 => ?_
    subst e9
    exact ⟨[("reader", v1), ("depth", v2)], BindsTo.of_eq (by kernel_rfl), rfl, fun L' => List.forall_mem_cons.mpr ⟨⟨v1, rfl, o1⟩, List.forall_mem_nil _⟩⟩
  intro C' hA hcl hst
  have hr' := hr.down hA
  have CD' := CD.keeps hst
  refine Rt.fn ?_
  k_extra "kct_strs"
theorem read_power_num_C {w : World} {r : RdI} {f : Fn} {C : Cx w KD f} {p : Int} {l : List Pr} {x y : PySem.Str} {d dep : Int} (CD : CodeHd C.h₀ 236 232) (hD : Dec w x d) (h2 : ([(PySem.Str.ofString "+"), "-"].any (· == y)) = false) (h3 : ([(PySem.Str.ofString "*"), "/"].any (· == y)) = false) (h1 : ([(PySem.Str.ofString "**")].any (· == y)) = false)  (hr : Room C 8) : CallC C (RP w r p (("number", x) :: ("sign", y) :: l)) 230 [.val (.ref r.rd), .int dep] (.dt (.tup [.str "number", .tup [.int d, .int 0]])) (RP w r (p + 1) (("sign", y) :: l)) := by
  refine' CallC.of (lv0 := [("reader", .val (.ref r.rd)), ("depth", .int dep)]) ?k1 ?k2 ?k3 ?k4 ?k5 ?k6 ?k7 ?k8 ?k9
  case k1 => k_is
  case k2 => k_is
  case k6 => exact rfl
  case k7 => exact rfl
  case k8 => exact rfl
  case k9 => decide
  case k3 => exact hr.lt
  case k4 =>
    refine' bind2 (bs := fun v1 v2 => [("reader", v1), ("depth", v2)]) ?b1 ?b2 ?b3
    case b1 => (intros; exact BindsTo.of_eq (by kernel_rfl))
    case b2 => (intros; exact rfl)
    case b3 => (intro led1 v1 v2 o1 o2; (repeat (first | exact List.forall_mem_nil _ | refine List.forall_mem_cons.mpr ⟨⟨_, rfl, (by first | assumption | exact ⟨_, rfl⟩ | exact rfl)⟩, ?_⟩)))
  intro C' hA hst
  have hr' := hr.down hA
  have CD' := CD.keeps hst
  refine Rt.fn ?_
  k_extra "kct_strs"
theorem read_factor_num_C {w : World} {r : RdI} {f : Fn} {C : Cx w KD f} {p : Int} {l : List Pr} {x y : PySem.Str} {d dep : Int} (CD : CodeHd C.h₀ 236 232) (hD : Dec w x d) (h2 : ([(PySem.Str.ofString "+"), "-"].any (· == y)) = false) (h3 : ([(PySem.Str.ofString "*"), "/"].any (· == y)) = false) (h1 : ([(PySem.Str.ofString "**")].any (· == y)) = false)  (hr : Room C 9) : CallC C (RP w r p (("number", x) :: ("sign", y) :: l)) 216 [.val (.ref r.rd), .int dep] (.dt (.tup [.str "number", .tup [.int d, .int 0]])) (RP w r (p + 1) (("sign", y) :: l)) := by
  refine' CallC.of (lv0 := [("reader", .val (.ref r.rd)), ("depth", .int dep)]) ?k1 ?k2 ?k3 ?k4 ?k5 ?k6 ?k7 ?k8 ?k9
  case k1 => k_is
  case k2 => k_is
  case k6 => exact rfl
  case k7 => exact rfl
  case k8 => exact rfl
  case k9 => decide
  case k3 => exact hr.lt
  case k4 =>
    refine' bind2 (bs := fun v1 v2 => [("reader", v1), ("depth", v2)]) ?b1 ?b2 ?b3
    case b1 => (intros; exact BindsTo.of_eq (by kernel_rfl))
    case b2 => (intros; exact rfl)
    case b3 => (intro led1 v1 v2 o1 o2; (repeat (first | exact List.forall_mem_nil _ | refine List.forall_mem_cons.mpr ⟨⟨_, rfl, (by first | assumption | exact ⟨_, rfl⟩ | exact rfl)⟩, ?_⟩)))
  intro C' hA hst
  have hr' := hr.down hA
  have CD' := CD.keeps hst
  refine Rt.fn ?_
  k_extra "kct_strs"
theorem read_product_num_C {w : World} {r : RdI} {f : Fn} {C : Cx w KD f} {p : Int} {l : List Pr} {x y : PySem.Str} {d dep : Int} (CD : CodeHd C.h₀ 236 232) (hD : Dec w x d) (h2 : ([(PySem.Str.ofString "+"), "-"].any (· == y)) = false) (h3 : ([(PySem.Str.ofString "*"), "/"].any (· == y)) = false) (h1 : ([(PySem.Str.ofString "**")].any (· == y)) = false)  (hr : Room C 10) : CallC C (RP w r p (("number", x) :: ("sign", y) :: l)) 209 [.val (.ref r.rd), .int dep] (.dt (.tup [.str "number", .tup [.int d, .int 0]])) (RP w r (p + 1) (("sign", y) :: l)) := by
  refine' CallC.of (lv0 := [("reader", .val (.ref r.rd)), ("depth", .int dep)]) ?k1 ?k2 ?k3 ?k4 ?k5 ?k6 ?k7 ?k8 ?k9
  case k1 => k_is
  case k2 => k_is
  case k6 => exact rfl
  case k7 => exact rfl
  case k8 => exact rfl
  case k9 => decide
  case k3 => exact hr.lt
  case k4 =>
    refine' bind2 (bs := fun v1 v2 => [("reader", v1), ("depth", v2)]) ?b1 ?b2 ?b3
    case b1 => (intros; exact BindsTo.of_eq (by kernel_rfl))
    case b2 => (intros; exact rfl)
    case b3 => (intro led1 v1 v2 o1 o2; (repeat (first | exact List.forall_mem_nil _ | refine List.forall_mem_cons.mpr ⟨⟨_, rfl, (by first | assumption | exact ⟨_, rfl⟩ | exact rfl)⟩, ?_⟩)))
  intro C' hA hst
  have hr' := hr.down hA
  have CD' := CD.keeps hst
  refine Rt.fn ?_
  k_extra "kct_strs"
theorem read_sum_num_C {w : World} {r : RdI} {f : Fn} {C : Cx w KD f} {p : Int} {l : List Pr} {x y : PySem.Str} {d dep : Int} (CD : CodeHd C.h₀ 236 232) (hD : Dec w x d) (h2 : ([(PySem.Str.ofString "+"), "-"].any (· == y)) = false) (h3 : ([(PySem.Str.ofString "*"), "/"].any (· == y)) = false) (h1 : ([(PySem.Str.ofString "**")].any (· == y)) = false) (h20 : decide (20 < dep) = false) (hr : Room C 11) : CallC C (RP w r p (("number", x) :: ("sign", y) :: l)) 202 [.val (.ref r.rd), .int dep] (.dt (.tup [.str "number", .tup [.int d, .int 0]])) (RP w r (p + 1) (("sign", y) :: l)) := by
  refine' CallC.of (lv0 := [("reader", .val (.ref r.rd)), ("depth", .int dep)]) ?k1 ?k2 ?k3 ?k4 ?k5 ?k6 ?k7 ?k8 ?k9
  case k1 => k_is
  case k2 => k_is
  case k6 => exact rfl
  case k7 => exact rfl
  case k8 => exact rfl
  case k9 => decide
  case k3 => exact hr.lt
  case k4 =>
    refine' bind2 (bs := fun v1 v2 => [("reader", v1), ("depth", v2)]) ?b1 ?b2 ?b3
    case b1 => (intros; exact BindsTo.of_eq (by kernel_rfl))
    case b2 => (intros; exact rfl)
    case b3 => (intro led1 v1 v2 o1 o2; (repeat (first | exact List.forall_mem_nil _ | refine List.forall_mem_cons.mpr ⟨⟨_, rfl, (by first | assumption | exact ⟨_, rfl⟩ | exact rfl)⟩, ?_⟩)))
  intro C' hA hst
  have hr' := hr.down hA
  have CD' := CD.keeps hst
  refine Rt.fn ?_
  k_extra "kct_strs"
theorem read_expr_num_C {w : World} {r : RdI} {f : Fn} {C : Cx w KD f} {p : Int} {l : List Pr} {x y : PySem.Str} {d : Int} (CD : CodeHd C.h₀ 236 232) (hD : Dec w x d) (h2 : ([(PySem.Str.ofString "+"), "-"].any (· == y)) = false) (h3 : ([(PySem.Str.ofString "*"), "/"].any (· == y)) = false) (h1 : ([(PySem.Str.ofString "**")].any (· == y)) = false)  (hr : Room C 12) : CallC C (RP w r p (("number", x) :: ("sign", y) :: l)) 188 [.val (.ref r.rd)] (.dt (.tup [.str "number", .tup [.int d, .int 0]])) (RP w r (p + 1) (("sign", y) :: l)) := by
  refine' CallC.of (lv0 := [("reader", .val (.ref r.rd))]) ?k1 ?k2 ?k3 ?k4 ?k5 ?k6 ?k7 ?k8 ?k9
  case k1 => k_is
  case k2 => k_is
  case k6 => exact rfl
  case k7 => exact rfl
  case k8 => exact rfl
  case k9 => decide
  case k3 => exact hr.lt
  case k4 =>
    refine' bind1 (bs := fun v1 => [("reader", v1)]) ?b1 ?b2 ?b3
    case b1 => (intros; exact BindsTo.of_eq (by kernel_rfl))
    case b2 => (intros; exact rfl)
    case b3 => (intro led1 v1 o1; (repeat (first | exact List.forall_mem_nil _ | refine List.forall_mem_cons.mpr ⟨⟨_, rfl, (by first | assumption | exact ⟨_, rfl⟩ | exact rfl)⟩, ?_⟩)))
  intro C' hA hst
  have hr' := hr.down hA
  have CD' := CD.keeps hst
  refine Rt.fn ?_
  k_extra "kct_strs"
theorem is_part_f_C {w : World} {r : RdI} {κ : Addr × Obj → Prop} {f : Fn} {C : Cx w κ f} {p : Int} {l : List Pr} {kk x : PySem.Str} (hq : l[0]? = some (kk, x)) (hb : (kk == "sign" && x == "(") = false) (hr : Room C 4) : CallC C (RP w r p l) 139 [.val (.ref r.rd)] (.val (.bool false)) (RP w r p l) := by
  refine' CallC.of (lv0 := [("reader", .val (.ref r.rd))]) ?k1 ?k2 ?k3 ?k4 ?k5 ?k6 ?k7 ?k8 ?k9
  case k1 => k_is
  case k2 => k_is
  case k6 => exact rfl
  case k7 => exact rfl
  case k8 => exact rfl
  case k9 => decide
  case k3 => exact hr.lt
  case k4 =>
    refine' bind1 (bs := fun v1 => [("reader", v1)]) ?b1 ?b2 ?b3
    case b1 => (intros; exact BindsTo.of_eq (by kernel_rfl))
    case b2 => (intros; exact rfl)
    case b3 => (intro led1 v1 o1; (repeat (first | exact List.forall_mem_nil _ | refine List.forall_mem_cons.mpr ⟨⟨_, rfl, (by first | assumption | exact ⟨_, rfl⟩ | exact rfl)⟩, ?_⟩)))
  intro C' hA hst
  have hr' := hr.down hA
  refine Rt.fn ?_
  k_extra "kct_strs"
theorem is_part_n_C {w : World} {r : RdI} {κ : Addr × Obj → Prop} {f : Fn} {C : Cx w κ f} {p : Int} {l : List Pr} (hq : l[0]? = none) (hr : Room C 4) : CallC C (RP w r p l) 139 [.val (.ref r.rd)] (.val (.bool false)) (RP w r p l) := by
  refine' CallC.of (lv0 := [("reader", .val (.ref r.rd))]) ?k1 ?k2 ?k3 ?k4 ?k5 ?k6 ?k7 ?k8 ?k9
  case k1 => k_is
  case k2 => k_is
  case k6 => exact rfl
  case k7 => exact rfl
  case k8 => exact rfl
  case k9 => decide
  case k3 => exact hr.lt
  case k4 =>
    refine' bind1 (bs := fun v1 => [("reader", v1)]) ?b1 ?b2 ?b3
    case b1 => (intros; exact BindsTo.of_eq (by kernel_rfl))
    case b2 => (intros; exact rfl)
    case b3 => (intro led1 v1 o1; (repeat (first | exact List.forall_mem_nil _ | refine List.forall_mem_cons.mpr ⟨⟨_, rfl, (by first | assumption | exact ⟨_, rfl⟩ | exact rfl)⟩, ?_⟩)))
  intro C' hA hst
  have hr' := hr.down hA
  refine Rt.fn ?_
  k_extra "kct_strs"
theorem is_part_t_C {w : World} {r : RdI} {κ : Addr × Obj → Prop} {f : Fn} {C : Cx w κ f} {p : Int} {l : List Pr} {x : PySem.Str} (hr : Room C 4) : CallC C (RP w r p (("sign", "(") :: ("number", x) :: ("sign", ":") :: l)) 139 [.val (.ref r.rd)] (.val (.bool true)) (RP w r p (("sign", "(") :: ("number", x) :: ("sign", ":") :: l)) := by
  refine' CallC.of (lv0 := [("reader", .val (.ref r.rd))]) ?k1 ?k2 ?k3 ?k4 ?k5 ?k6 ?k7 ?k8 ?k9
  case k1 => k_is
  case k2 => k_is
  case k6 => exact rfl
  case k7 => exact rfl
  case k8 => exact rfl
  case k9 => decide
  case k3 => exact hr.lt
  case k4 =>
    refine' bind1 (bs := fun v1 => [("reader", v1)]) ?b1 ?b2 ?b3
    case b1 => (intros; exact BindsTo.of_eq (by kernel_rfl))
    case b2 => (intros; exact rfl)
    case b3 => (intro led1 v1 o1; (repeat (first | exact List.forall_mem_nil _ | refine List.forall_mem_cons.mpr ⟨⟨_, rfl, (by first | assumption | exact ⟨_, rfl⟩ | exact rfl)⟩, ?_⟩)))
  intro C' hA hst
  have hr' := hr.down hA
  refine Rt.fn ?_
  k_extra "kct_strs"
theorem read_part_B_C {w : World} {r : RdI} {f : Fn} {C : Cx w KD f} {p : Int} {l : List Pr} {x y : PySem.Str} {d e : Int} (CD : CodeHd C.h₀ 236 232) (hD : Dec w x d) (hE : Dec w y e) (hr : Room C 14) : CallC C (RP w r p (("sign", "(") :: ("number", x) :: ("sign", ":") :: ("number", y) :: ("sign", ")") :: l)) 153 [.val (.ref r.rd), .val (.ref 188)] (.dt (.tup [.tup [.str "number", .tup [.int d, .int 0]], .tup [.str "number", .tup [.int e, .int 0]]])) (RP w r (p + 1 + 1 + 1 + 1 + 1) l) := by
  refine' CallC.of (lv0 := [("reader", .val (.ref r.rd)), ("read_expr", .val (.ref 188))]) ?k1 ?k2 ?k3 ?k4 ?k5 ?k6 ?k7 ?k8 ?k9
  case k1 => k_is
  case k2 => k_is
  case k6 => exact rfl
  case k7 => exact rfl
  case k8 => exact rfl
  case k9 => decide
  case k3 => exact hr.lt
  case k4 =>
    refine' bind2 (bs := fun v1 v2 => [("reader", v1), ("read_expr", v2)]) ?b1 ?b2 ?b3
    case b1 => (intros; exact BindsTo.of_eq (by kernel_rfl))
    case b2 => (intros; exact rfl)
    case b3 => (intro led1 v1 v2 o1 o2; (repeat (first | exact List.forall_mem_nil _ | refine List.forall_mem_cons.mpr ⟨⟨_, rfl, (by first | assumption | exact ⟨_, rfl⟩ | exact rfl)⟩, ?_⟩)))
  intro C' hA hst
  have hr' := hr.down hA
  have CD' := CD.keeps hst
  refine Rt.fn ?_
  k_extra "kct_strs"
theorem read_ref_B_C {w : World} {r : RdI} {f : Fn} {C : Cx w KD f} {p : Int} {l : List Pr} {x y : PySem.Str} {d e : Int} (CD : CodeHd C.h₀ 236 232) (hD : Dec w x d) (hE : Dec w y e) (hr : Room C 15) : CallC C (RP w r p (("word", "B") :: ("sign", "(") :: ("number", x) :: ("sign", ":") :: ("number", y) :: ("sign", ")") :: l)) 160 [.val (.ref r.rd), .val (.ref 188)] (.dt (.tup [.str "ref", .str "B", .tup [], .tup [], (.tup [.tup [.str "number", .tup [.int d, .int 0]], .tup [.str "number", .tup [.int e, .int 0]]])])) (RP w r (p + 1 + 1 + 1 + 1 + 1 + 1) l) := by
  refine' CallC.of (lv0 := [("reader", .val (.ref r.rd)), ("read_expr", .val (.ref 188))]) ?k1 ?k2 ?k3 ?k4 ?k5 ?k6 ?k7 ?k8 ?k9
  case k1 => k_is
  case k2 => k_is
  case k6 => exact rfl
  case k7 => exact rfl
  case k8 => exact rfl
  case k9 => decide
  case k3 => exact hr.lt
  case k4 =>
    refine' bind2 (bs := fun v1 v2 => [("reader", v1), ("read_expr", v2)]) ?b1 ?b2 ?b3
    case b1 => (intros; exact BindsTo.of_eq (by kernel_rfl))
    case b2 => (intros; exact rfl)
    case b3 => (intro led1 v1 v2 o1 o2; (repeat (first | exact List.forall_mem_nil _ | refine List.forall_mem_cons.mpr ⟨⟨_, rfl, (by first | assumption | exact ⟨_, rfl⟩ | exact rfl)⟩, ?_⟩)))
  intro C' hA hst
  have hr' := hr.down hA
  have CD' := CD.keeps hst
  refine Rt.fn ?_
  k_extra "kct_strs"
theorem read_ref_A_C {w : World} {r : RdI} {f : Fn} {C : Cx w KD f} {p : Int} {l : List Pr} {kk x : PySem.Str} (c1 : (kk == "word" && x == "OF") = false) (c2 : (kk == "word" && x == "IN") = false) (c3 : (kk == "sign" && x == "(") = false) (hr : Room C 15) : CallC C (RP w r p (("word", "A") :: (kk, x) :: l)) 160 [.val (.ref r.rd), .val (.ref 188)] (.dt (.tup [.str "ref", .str "A", .tup [], .tup [], .none])) (RP w r (p + 1) ((kk, x) :: l)) := by
  refine' CallC.of (lv0 := [("reader", .val (.ref r.rd)), ("read_expr", .val (.ref 188))]) ?k1 ?k2 ?k3 ?k4 ?k5 ?k6 ?k7 ?k8 ?k9
  case k1 => k_is
  case k2 => k_is
  case k6 => exact rfl
  case k7 => exact rfl
  case k8 => exact rfl
  case k9 => decide
  case k3 => exact hr.lt
  case k4 =>
    refine' bind2 (bs := fun v1 v2 => [("reader", v1), ("read_expr", v2)]) ?b1 ?b2 ?b3
    case b1 => (intros; exact BindsTo.of_eq (by kernel_rfl))
    case b2 => (intros; exact rfl)
    case b3 => (intro led1 v1 v2 o1 o2; (repeat (first | exact List.forall_mem_nil _ | refine List.forall_mem_cons.mpr ⟨⟨_, rfl, (by first | assumption | exact ⟨_, rfl⟩ | exact rfl)⟩, ?_⟩)))
  intro C' hA hst
  have hr' := hr.down hA
  refine Rt.fn ?_
  k_extra "kct_strs"
theorem read_ref_A0_C {w : World} {r : RdI} {f : Fn} {C : Cx w KD f} {p : Int}  (hr : Room C 15) : CallC C (RP w r p [("word", "A")]) 160 [.val (.ref r.rd), .val (.ref 188)] (.dt (.tup [.str "ref", .str "A", .tup [], .tup [], .none])) (RP w r (p + 1) []) := by
  refine' CallC.of (lv0 := [("reader", .val (.ref r.rd)), ("read_expr", .val (.ref 188))]) ?k1 ?k2 ?k3 ?k4 ?k5 ?k6 ?k7 ?k8 ?k9
  case k1 => k_is
  case k2 => k_is
  case k6 => exact rfl
  case k7 => exact rfl
  case k8 => exact rfl
  case k9 => decide
  case k3 => exact hr.lt
  case k4 =>
    refine' bind2 (bs := fun v1 v2 => [("reader", v1), ("read_expr", v2)]) ?b1 ?b2 ?b3
    case b1 => (intros; exact BindsTo.of_eq (by kernel_rfl))
    case b2 => (intros; exact rfl)
    case b3 => (intro led1 v1 v2 o1 o2; (repeat (first | exact List.forall_mem_nil _ | refine List.forall_mem_cons.mpr ⟨⟨_, rfl, (by first | assumption | exact ⟨_, rfl⟩ | exact rfl)⟩, ?_⟩)))
  intro C' hA hst
  have hr' := hr.down hA
  refine Rt.fn ?_
  k_extra "kct_strs"
theorem read_op_lit_C {w : World} {r : RdI} {f : Fn} {C : Cx w KD f} {p : Int} {l : List Pr} {x : PySem.Str} (h1 : x.cps.all (· < 128) = true) (h2 : x.cps.size ≤ 1000) (hr : Room C 16) : CallC C (RP w r p (("literal", x) :: l)) 181 [.val (.ref r.rd), .val (.ref 188)] (.dt (.tup [.str "text", .bytes (bytesOf x)])) (RP w r (p + 1) l) := by
  refine' CallC.of (lv0 := [("reader", .val (.ref r.rd)), ("read_expr", .val (.ref 188))]) ?k1 ?k2 ?k3 ?k4 ?k5 ?k6 ?k7 ?k8 ?k9
  case k1 => k_is
  case k2 => k_is
  case k6 => exact rfl
  case k7 => exact rfl
  case k8 => exact rfl
  case k9 => decide
  case k3 => exact hr.lt
  case k4 =>
    refine' bind2 (bs := fun v1 v2 => [("reader", v1), ("read_expr", v2)]) ?b1 ?b2 ?b3
    case b1 => (intros; exact BindsTo.of_eq (by kernel_rfl))
    case b2 => (intros; exact rfl)
    case b3 => (intro led1 v1 v2 o1 o2; (repeat (first | exact List.forall_mem_nil _ | refine List.forall_mem_cons.mpr ⟨⟨_, rfl, (by first | assumption | exact ⟨_, rfl⟩ | exact rfl)⟩, ?_⟩)))
  intro C' hA hst
  have hr' := hr.down hA
  refine Rt.fn ?_
  k_extra "kct_strs"
theorem read_op_A_C {w : World} {r : RdI} {f : Fn} {C : Cx w KD f} {p : Int} {l : List Pr} {kk x : PySem.Str} (c1 : (kk == "word" && x == "OF") = false) (c2 : (kk == "word" && x == "IN") = false) (c3 : (kk == "sign" && x == "(") = false) (hr : Room C 16) : CallC C (RP w r p (("word", "A") :: (kk, x) :: l)) 181 [.val (.ref r.rd), .val (.ref 188)] (.dt (.tup [.str "ref", .str "A", .tup [], .tup [], .none])) (RP w r (p + 1) ((kk, x) :: l)) := by
  refine' CallC.of (lv0 := [("reader", .val (.ref r.rd)), ("read_expr", .val (.ref 188))]) ?k1 ?k2 ?k3 ?k4 ?k5 ?k6 ?k7 ?k8 ?k9
  case k1 => k_is
  case k2 => k_is
  case k6 => exact rfl
  case k7 => exact rfl
  case k8 => exact rfl
  case k9 => decide
  case k3 => exact hr.lt
  case k4 =>
    refine' bind2 (bs := fun v1 v2 => [("reader", v1), ("read_expr", v2)]) ?b1 ?b2 ?b3
    case b1 => (intros; exact BindsTo.of_eq (by kernel_rfl))
    case b2 => (intros; exact rfl)
    case b3 => (intro led1 v1 v2 o1 o2; (repeat (first | exact List.forall_mem_nil _ | refine List.forall_mem_cons.mpr ⟨⟨_, rfl, (by first | assumption | exact ⟨_, rfl⟩ | exact rfl)⟩, ?_⟩)))
  intro C' hA hst
  have hr' := hr.down hA
  refine Rt.fn ?_
  k_extra "kct_strs"
theorem read_op_A0_C {w : World} {r : RdI} {f : Fn} {C : Cx w KD f} {p : Int}  (hr : Room C 16) : CallC C (RP w r p [("word", "A")]) 181 [.val (.ref r.rd), .val (.ref 188)] (.dt (.tup [.str "ref", .str "A", .tup [], .tup [], .none])) (RP w r (p + 1) []) := by
  refine' CallC.of (lv0 := [("reader", .val (.ref r.rd)), ("read_expr", .val (.ref 188))]) ?k1 ?k2 ?k3 ?k4 ?k5 ?k6 ?k7 ?k8 ?k9
  case k1 => k_is
  case k2 => k_is
  case k6 => exact rfl
  case k7 => exact rfl
  case k8 => exact rfl
  case k9 => decide
  case k3 => exact hr.lt
  case k4 =>
    refine' bind2 (bs := fun v1 v2 => [("reader", v1), ("read_expr", v2)]) ?b1 ?b2 ?b3
    case b1 => (intros; exact BindsTo.of_eq (by kernel_rfl))
    case b2 => (intros; exact rfl)
    case b3 => (intro led1 v1 v2 o1 o2; (repeat (first | exact List.forall_mem_nil _ | refine List.forall_mem_cons.mpr ⟨⟨_, rfl, (by first | assumption | exact ⟨_, rfl⟩ | exact rfl)⟩, ?_⟩)))
  intro C' hA hst
  have hr' := hr.down hA
  refine Rt.fn ?_
  k_extra "kct_strs"
theorem read_op_S_C {w : World} {r : RdI} {f : Fn} {C : Cx w KD f} {p : Int} {l : List Pr}  (hr : Room C 16) : CallC C (RP w r p (("word", "SPACE") :: l)) 181 [.val (.ref r.rd), .val (.ref 188)] (.dt (.tup [.str "figure", .str "SPACE"])) (RP w r (p + 1) l) := by
  refine' CallC.of (lv0 := [("reader", .val (.ref r.rd)), ("read_expr", .val (.ref 188))]) ?k1 ?k2 ?k3 ?k4 ?k5 ?k6 ?k7 ?k8 ?k9
  case k1 => k_is
  case k2 => k_is
  case k6 => exact rfl
  case k7 => exact rfl
  case k8 => exact rfl
  case k9 => decide
  case k3 => exact hr.lt
  case k4 =>
    refine' bind2 (bs := fun v1 v2 => [("reader", v1), ("read_expr", v2)]) ?b1 ?b2 ?b3
    case b1 => (intros; exact BindsTo.of_eq (by kernel_rfl))
    case b2 => (intros; exact rfl)
    case b3 => (intro led1 v1 v2 o1 o2; (repeat (first | exact List.forall_mem_nil _ | refine List.forall_mem_cons.mpr ⟨⟨_, rfl, (by first | assumption | exact ⟨_, rfl⟩ | exact rfl)⟩, ?_⟩)))
  intro C' hA hst
  have hr' := hr.down hA
  refine Rt.fn ?_
  k_extra "kct_strs"
theorem read_op_L_C {w : World} {r : RdI} {f : Fn} {C : Cx w KD f} {p : Int} {l : List Pr}  (hr : Room C 16) : CallC C (RP w r p (("word", "LOW-VALUES") :: l)) 181 [.val (.ref r.rd), .val (.ref 188)] (.dt (.tup [.str "figure", .str "LOW"])) (RP w r (p + 1) l) := by
  refine' CallC.of (lv0 := [("reader", .val (.ref r.rd)), ("read_expr", .val (.ref 188))]) ?k1 ?k2 ?k3 ?k4 ?k5 ?k6 ?k7 ?k8 ?k9
  case k1 => k_is
  case k2 => k_is
  case k6 => exact rfl
  case k7 => exact rfl
  case k8 => exact rfl
  case k9 => decide
  case k3 => exact hr.lt
  case k4 =>
    refine' bind2 (bs := fun v1 v2 => [("reader", v1), ("read_expr", v2)]) ?b1 ?b2 ?b3
    case b1 => (intros; exact BindsTo.of_eq (by kernel_rfl))
    case b2 => (intros; exact rfl)
    case b3 => (intro led1 v1 v2 o1 o2; (repeat (first | exact List.forall_mem_nil _ | refine List.forall_mem_cons.mpr ⟨⟨_, rfl, (by first | assumption | exact ⟨_, rfl⟩ | exact rfl)⟩, ?_⟩)))
  intro C' hA hst
  have hr' := hr.down hA
  refine Rt.fn ?_
  k_extra "kct_strs"
theorem read_op_B_C {w : World} {r : RdI} {f : Fn} {C : Cx w KD f} {p : Int} {l : List Pr} {x y : PySem.Str} {d e : Int} (CD : CodeHd C.h₀ 236 232) (hD : Dec w x d) (hE : Dec w y e) (hr : Room C 16) : CallC C (RP w r p (("word", "B") :: ("sign", "(") :: ("number", x) :: ("sign", ":") :: ("number", y) :: ("sign", ")") :: l)) 181 [.val (.ref r.rd), .val (.ref 188)] (.dt (.tup [.str "ref", .str "B", .tup [], .tup [], (.tup [.tup [.str "number", .tup [.int d, .int 0]], .tup [.str "number", .tup [.int e, .int 0]]])])) (RP w r (p + 1 + 1 + 1 + 1 + 1 + 1) l) := by
  refine' CallC.of (lv0 := [("reader", .val (.ref r.rd)), ("read_expr", .val (.ref 188))]) ?k1 ?k2 ?k3 ?k4 ?k5 ?k6 ?k7 ?k8 ?k9
  case k1 => k_is
  case k2 => k_is
  case k6 => exact rfl
  case k7 => exact rfl
  case k8 => exact rfl
  case k9 => decide
  case k3 => exact hr.lt
  case k4 =>
    refine' bind2 (bs := fun v1 v2 => [("reader", v1), ("read_expr", v2)]) ?b1 ?b2 ?b3
    case b1 => (intros; exact BindsTo.of_eq (by kernel_rfl))
    case b2 => (intros; exact rfl)
    case b3 => (intro led1 v1 v2 o1 o2; (repeat (first | exact List.forall_mem_nil _ | refine List.forall_mem_cons.mpr ⟨⟨_, rfl, (by first | assumption | exact ⟨_, rfl⟩ | exact rfl)⟩, ?_⟩)))
  intro C' hA hst
  have hr' := hr.down hA
  have CD' := CD.keeps hst
  refine Rt.fn ?_
  k_extra "kct_strs"
end
section
open PySem PySem.W PySem.Spec PySem.Calls PyProof.Rows
theorem bt_ok {k x : PySem.Str} {l : List Pr} {b : Bool} (h : BegT ((k, x) :: l) b) : ∃ b1, BegO ((k, x) :: l) b1 ∧ (b1 && !(k == "word" && x == "ALL")) = b := by
  generalize e : (k, x) :: l = q at h
  cases h with
  | text kd l' =>
    obtain ⟨kk, xx, l2, e2, he⟩ := Kd.head_all kd l'
    refine ⟨true, kd.begO l', ?_⟩
    rw [← e] at e2
    cases e2
    rw [he]; simp
  | nil => cases e
  | delimited l => cases e; exact ⟨false, .delimited _, rfl⟩
  | into l => cases e; exact ⟨false, .into _, rfl⟩
  | wth l => cases e; exact ⟨false, .wth _, rfl⟩
  | all l => cases e; exact ⟨true, .all _, by simp⟩
  | dot l => cases e; exact ⟨false, .dot _, rfl⟩
theorem wordsT5 : True := by
  (k_with "got_up" => first
  | (show CallC _ _ 251 _ _ _; first | ((fail_if_success (fail_if_success (refine' bo_C ?_ ?_))); exact bo_C (by k_extra "k_ownIn") (by k_extra "k_ownIn")))
  | fail "got_up")
  exact True.intro
theorem bo_a_C {w : World} {r : RdI} {κ : Addr × Obj → Prop} {f : Fn} {C : Cx w κ f} {p : Int} {l : List Pr}  (hr : Room C 5) : CallC C (RP w r p (("word", "A") :: l)) 251 [.val (.ref r.rd)] (.val (.bool true)) (RP w r p (("word", "A") :: l)) := by
  refine' CallC.of (lv0 := [("reader", .val (.ref r.rd))]) ?k1 ?k2 ?k3 ?k4 ?k5 ?k6 ?k7 ?k8 ?k9
  case k1 => k_is
  case k2 => k_is
  case k6 => exact rfl
  case k7 => exact rfl
  case k8 => exact rfl
  case k9 => decide
  case k3 => exact hr.lt
  case k4 =>
    refine' bind1 (bs := fun v1 => [("reader", v1)]) ?b1 ?b2 ?b3
    case b1 => (intros; exact BindsTo.of_eq (by kernel_rfl))
    case b2 => (intros; exact rfl)
    case b3 => (intro led1 v1 o1; (repeat (first | exact List.forall_mem_nil _ | refine List.forall_mem_cons.mpr ⟨⟨_, rfl, (by first | assumption | exact ⟨_, rfl⟩ | exact rfl)⟩, ?_⟩)))
  intro C' hA hst
  have hr' := hr.down hA
  refine Rt.fn ?_
  k_extra "kct_strs"
theorem bo_b_C {w : World} {r : RdI} {κ : Addr × Obj → Prop} {f : Fn} {C : Cx w κ f} {p : Int} {l : List Pr}  (hr : Room C 5) : CallC C (RP w r p (("word", "B") :: l)) 251 [.val (.ref r.rd)] (.val (.bool true)) (RP w r p (("word", "B") :: l)) := by
  refine' CallC.of (lv0 := [("reader", .val (.ref r.rd))]) ?k1 ?k2 ?k3 ?k4 ?k5 ?k6 ?k7 ?k8 ?k9
  case k1 => k_is
  case k2 => k_is
  case k6 => exact rfl
  case k7 => exact rfl
  case k8 => exact rfl
  case k9 => decide
  case k3 => exact hr.lt
  case k4 =>
    refine' bind1 (bs := fun v1 => [("reader", v1)]) ?b1 ?b2 ?b3
    case b1 => (intros; exact BindsTo.of_eq (by kernel_rfl))
    case b2 => (intros; exact rfl)
    case b3 => (intro led1 v1 o1; (repeat (first | exact List.forall_mem_nil _ | refine List.forall_mem_cons.mpr ⟨⟨_, rfl, (by first | assumption | exact ⟨_, rfl⟩ | exact rfl)⟩, ?_⟩)))
  intro C' hA hst
  have hr' := hr.down hA
  refine Rt.fn ?_
  k_extra "kct_strs"
theorem bo_lit_C {w : World} {r : RdI} {κ : Addr × Obj → Prop} {f : Fn} {C : Cx w κ f} {p : Int} {l : List Pr} {x : PySem.Str} (hr : Room C 5) : CallC C (RP w r p (("literal", x) :: l)) 251 [.val (.ref r.rd)] (.val (.bool true)) (RP w r p (("literal", x) :: l)) := by
  refine' CallC.of (lv0 := [("reader", .val (.ref r.rd))]) ?k1 ?k2 ?k3 ?k4 ?k5 ?k6 ?k7 ?k8 ?k9
  case k1 => k_is
  case k2 => k_is
  case k6 => exact rfl
  case k7 => exact rfl
  case k8 => exact rfl
  case k9 => decide
  case k3 => exact hr.lt
  case k4 =>
    refine' bind1 (bs := fun v1 => [("reader", v1)]) ?b1 ?b2 ?b3
    case b1 => (intros; exact BindsTo.of_eq (by kernel_rfl))
    case b2 => (intros; exact rfl)
    case b3 => (intro led1 v1 o1; (repeat (first | exact List.forall_mem_nil _ | refine List.forall_mem_cons.mpr ⟨⟨_, rfl, (by first | assumption | exact ⟨_, rfl⟩ | exact rfl)⟩, ?_⟩)))
  intro C' hA hst
  have hr' := hr.down hA
  refine Rt.fn ?_
  k_extra "kct_strs"
theorem bo_num_C {w : World} {r : RdI} {κ : Addr × Obj → Prop} {f : Fn} {C : Cx w κ f} {p : Int} {l : List Pr} {x : PySem.Str} (hr : Room C 5) : CallC C (RP w r p (("number", x) :: l)) 251 [.val (.ref r.rd)] (.val (.bool true)) (RP w r p (("number", x) :: l)) := by
  refine' CallC.of (lv0 := [("reader", .val (.ref r.rd))]) ?k1 ?k2 ?k3 ?k4 ?k5 ?k6 ?k7 ?k8 ?k9
  case k1 => k_is
  case k2 => k_is
  case k6 => exact rfl
  case k7 => exact rfl
  case k8 => exact rfl
  case k9 => decide
  case k3 => exact hr.lt
  case k4 =>
    refine' bind1 (bs := fun v1 => [("reader", v1)]) ?b1 ?b2 ?b3
    case b1 => (intros; exact BindsTo.of_eq (by kernel_rfl))
    case b2 => (intros; exact rfl)
    case b3 => (intro led1 v1 o1; (repeat (first | exact List.forall_mem_nil _ | refine List.forall_mem_cons.mpr ⟨⟨_, rfl, (by first | assumption | exact ⟨_, rfl⟩ | exact rfl)⟩, ?_⟩)))
  intro C' hA hst
  have hr' := hr.down hA
  refine Rt.fn ?_
  k_extra "kct_strs"
theorem bo_space_C {w : World} {r : RdI} {κ : Addr × Obj → Prop} {f : Fn} {C : Cx w κ f} {p : Int} {l : List Pr}  (hr : Room C 5) : CallC C (RP w r p (("word", "SPACE") :: l)) 251 [.val (.ref r.rd)] (.val (.bool true)) (RP w r p (("word", "SPACE") :: l)) := by
  refine' CallC.of (lv0 := [("reader", .val (.ref r.rd))]) ?k1 ?k2 ?k3 ?k4 ?k5 ?k6 ?k7 ?k8 ?k9
  case k1 => k_is
  case k2 => k_is
  case k6 => exact rfl
  case k7 => exact rfl
  case k8 => exact rfl
  case k9 => decide
  case k3 => exact hr.lt
  case k4 =>
    refine' bind1 (bs := fun v1 => [("reader", v1)]) ?b1 ?b2 ?b3
    case b1 => (intros; exact BindsTo.of_eq (by kernel_rfl))
    case b2 => (intros; exact rfl)
    case b3 => (intro led1 v1 o1; (repeat (first | exact List.forall_mem_nil _ | refine List.forall_mem_cons.mpr ⟨⟨_, rfl, (by first | assumption | exact ⟨_, rfl⟩ | exact rfl)⟩, ?_⟩)))
  intro C' hA hst
  have hr' := hr.down hA
  refine Rt.fn ?_
  k_extra "kct_strs"
theorem bo_low_C {w : World} {r : RdI} {κ : Addr × Obj → Prop} {f : Fn} {C : Cx w κ f} {p : Int} {l : List Pr}  (hr : Room C 5) : CallC C (RP w r p (("word", "LOW-VALUES") :: l)) 251 [.val (.ref r.rd)] (.val (.bool true)) (RP w r p (("word", "LOW-VALUES") :: l)) := by
  refine' CallC.of (lv0 := [("reader", .val (.ref r.rd))]) ?k1 ?k2 ?k3 ?k4 ?k5 ?k6 ?k7 ?k8 ?k9
  case k1 => k_is
  case k2 => k_is
  case k6 => exact rfl
  case k7 => exact rfl
  case k8 => exact rfl
  case k9 => decide
  case k3 => exact hr.lt
  case k4 =>
    refine' bind1 (bs := fun v1 => [("reader", v1)]) ?b1 ?b2 ?b3
    case b1 => (intros; exact BindsTo.of_eq (by kernel_rfl))
    case b2 => (intros; exact rfl)
    case b3 => (intro led1 v1 o1; (repeat (first | exact List.forall_mem_nil _ | refine List.forall_mem_cons.mpr ⟨⟨_, rfl, (by first | assumption | exact ⟨_, rfl⟩ | exact rfl)⟩, ?_⟩)))
  intro C' hA hst
  have hr' := hr.down hA
  refine Rt.fn ?_
  k_extra "kct_strs"
theorem bo_all_C {w : World} {r : RdI} {κ : Addr × Obj → Prop} {f : Fn} {C : Cx w κ f} {p : Int} {l : List Pr}  (hr : Room C 5) : CallC C (RP w r p (("word", "ALL") :: l)) 251 [.val (.ref r.rd)] (.val (.bool true)) (RP w r p (("word", "ALL") :: l)) := by
  refine' CallC.of (lv0 := [("reader", .val (.ref r.rd))]) ?k1 ?k2 ?k3 ?k4 ?k5 ?k6 ?k7 ?k8 ?k9
  case k1 => k_is
  case k2 => k_is
  case k6 => exact rfl
  case k7 => exact rfl
  case k8 => exact rfl
  case k9 => decide
  case k3 => exact hr.lt
  case k4 =>
    refine' bind1 (bs := fun v1 => [("reader", v1)]) ?b1 ?b2 ?b3
    case b1 => (intros; exact BindsTo.of_eq (by kernel_rfl))
    case b2 => (intros; exact rfl)
    case b3 => (intro led1 v1 o1; (repeat (first | exact List.forall_mem_nil _ | refine List.forall_mem_cons.mpr ⟨⟨_, rfl, (by first | assumption | exact ⟨_, rfl⟩ | exact rfl)⟩, ?_⟩)))
  intro C' hA hst
  have hr' := hr.down hA
  refine Rt.fn ?_
  k_extra "kct_strs"
theorem bo_delimited_C {w : World} {r : RdI} {κ : Addr × Obj → Prop} {f : Fn} {C : Cx w κ f} {p : Int} {l : List Pr}  (hr : Room C 5) : CallC C (RP w r p (("word", "DELIMITED") :: l)) 251 [.val (.ref r.rd)] (.val (.bool false)) (RP w r p (("word", "DELIMITED") :: l)) := by
  refine' CallC.of (lv0 := [("reader", .val (.ref r.rd))]) ?k1 ?k2 ?k3 ?k4 ?k5 ?k6 ?k7 ?k8 ?k9
  case k1 => k_is
  case k2 => k_is
  case k6 => exact rfl
  case k7 => exact rfl
  case k8 => exact rfl
  case k9 => decide
  case k3 => exact hr.lt
  case k4 =>
    refine' bind1 (bs := fun v1 => [("reader", v1)]) ?b1 ?b2 ?b3
    case b1 => (intros; exact BindsTo.of_eq (by kernel_rfl))
    case b2 => (intros; exact rfl)
    case b3 => (intro led1 v1 o1; (repeat (first | exact List.forall_mem_nil _ | refine List.forall_mem_cons.mpr ⟨⟨_, rfl, (by first | assumption | exact ⟨_, rfl⟩ | exact rfl)⟩, ?_⟩)))
  intro C' hA hst
  have hr' := hr.down hA
  refine Rt.fn ?_
  k_extra "kct_strs"
theorem bo_into_C {w : World} {r : RdI} {κ : Addr × Obj → Prop} {f : Fn} {C : Cx w κ f} {p : Int} {l : List Pr}  (hr : Room C 5) : CallC C (RP w r p (("word", "INTO") :: l)) 251 [.val (.ref r.rd)] (.val (.bool false)) (RP w r p (("word", "INTO") :: l)) := by
  refine' CallC.of (lv0 := [("reader", .val (.ref r.rd))]) ?k1 ?k2 ?k3 ?k4 ?k5 ?k6 ?k7 ?k8 ?k9
  case k1 => k_is
  case k2 => k_is
  case k6 => exact rfl
  case k7 => exact rfl
  case k8 => exact rfl
  case k9 => decide
  case k3 => exact hr.lt
  case k4 =>
    refine' bind1 (bs := fun v1 => [("reader", v1)]) ?b1 ?b2 ?b3
    case b1 => (intros; exact BindsTo.of_eq (by kernel_rfl))
    case b2 => (intros; exact rfl)
    case b3 => (intro led1 v1 o1; (repeat (first | exact List.forall_mem_nil _ | refine List.forall_mem_cons.mpr ⟨⟨_, rfl, (by first | assumption | exact ⟨_, rfl⟩ | exact rfl)⟩, ?_⟩)))
  intro C' hA hst
  have hr' := hr.down hA
  refine Rt.fn ?_
  k_extra "kct_strs"
theorem bo_wth_C {w : World} {r : RdI} {κ : Addr × Obj → Prop} {f : Fn} {C : Cx w κ f} {p : Int} {l : List Pr}  (hr : Room C 5) : CallC C (RP w r p (("word", "WITH") :: l)) 251 [.val (.ref r.rd)] (.val (.bool false)) (RP w r p (("word", "WITH") :: l)) := by
  refine' CallC.of (lv0 := [("reader", .val (.ref r.rd))]) ?k1 ?k2 ?k3 ?k4 ?k5 ?k6 ?k7 ?k8 ?k9
  case k1 => k_is
  case k2 => k_is
  case k6 => exact rfl
  case k7 => exact rfl
  case k8 => exact rfl
  case k9 => decide
  case k3 => exact hr.lt
  case k4 =>
    refine' bind1 (bs := fun v1 => [("reader", v1)]) ?b1 ?b2 ?b3
    case b1 => (intros; exact BindsTo.of_eq (by kernel_rfl))
    case b2 => (intros; exact rfl)
    case b3 => (intro led1 v1 o1; (repeat (first | exact List.forall_mem_nil _ | refine List.forall_mem_cons.mpr ⟨⟨_, rfl, (by first | assumption | exact ⟨_, rfl⟩ | exact rfl)⟩, ?_⟩)))
  intro C' hA hst
  have hr' := hr.down hA
  refine Rt.fn ?_
  k_extra "kct_strs"
theorem bo_dot_C {w : World} {r : RdI} {κ : Addr × Obj → Prop} {f : Fn} {C : Cx w κ f} {p : Int} {l : List Pr}  (hr : Room C 5) : CallC C (RP w r p (("sign", ".") :: l)) 251 [.val (.ref r.rd)] (.val (.bool false)) (RP w r p (("sign", ".") :: l)) := by
  refine' CallC.of (lv0 := [("reader", .val (.ref r.rd))]) ?k1 ?k2 ?k3 ?k4 ?k5 ?k6 ?k7 ?k8 ?k9
  case k1 => k_is
  case k2 => k_is
  case k6 => exact rfl
  case k7 => exact rfl
  case k8 => exact rfl
  case k9 => decide
  case k3 => exact hr.lt
  case k4 =>
    refine' bind1 (bs := fun v1 => [("reader", v1)]) ?b1 ?b2 ?b3
    case b1 => (intros; exact BindsTo.of_eq (by kernel_rfl))
    case b2 => (intros; exact rfl)
    case b3 => (intro led1 v1 o1; (repeat (first | exact List.forall_mem_nil _ | refine List.forall_mem_cons.mpr ⟨⟨_, rfl, (by first | assumption | exact ⟨_, rfl⟩ | exact rfl)⟩, ?_⟩)))
  intro C' hA hst
  have hr' := hr.down hA
  refine Rt.fn ?_
  k_extra "kct_strs"
theorem bo_nil_C {w : World} {r : RdI} {κ : Addr × Obj → Prop} {f : Fn} {C : Cx w κ f} {p : Int}  (hr : Room C 5) : CallC C (RP w r p []) 251 [.val (.ref r.rd)] (.val (.bool false)) (RP w r p []) := by
  refine' CallC.of (lv0 := [("reader", .val (.ref r.rd))]) ?k1 ?k2 ?k3 ?k4 ?k5 ?k6 ?k7 ?k8 ?k9
  case k1 => k_is
  case k2 => k_is
  case k6 => exact rfl
  case k7 => exact rfl
  case k8 => exact rfl
  case k9 => decide
  case k3 => exact hr.lt
  case k4 =>
    refine' bind1 (bs := fun v1 => [("reader", v1)]) ?b1 ?b2 ?b3
    case b1 => (intros; exact BindsTo.of_eq (by kernel_rfl))
    case b2 => (intros; exact rfl)
    case b3 => (intro led1 v1 o1; (repeat (first | exact List.forall_mem_nil _ | refine List.forall_mem_cons.mpr ⟨⟨_, rfl, (by first | assumption | exact ⟨_, rfl⟩ | exact rfl)⟩, ?_⟩)))
  intro C' hA hst
  have hr' := hr.down hA
  refine Rt.fn ?_
  k_extra "kct_strs"
theorem bo_C {w : World} {r : RdI} {κ : Addr × Obj → Prop} {f : Fn} {C : Cx w κ f} {p : Int} {l : List Pr} {b : Bool} (hb : BegO l b) (hr : Room C 5) : CallC C (RP w r p l) 251 [.val (.ref r.rd)] (.val (.bool b)) (RP w r p l) := by
  cases hb with
  | nil => exact bo_nil_C hr
  | a l => exact bo_a_C hr
  | b l => exact bo_b_C hr
  | lit x l => exact bo_lit_C hr
  | num x l => exact bo_num_C hr
  | space l => exact bo_space_C hr
  | low l => exact bo_low_C hr
  | all l => exact bo_all_C hr
  | delimited l => exact bo_delimited_C hr
  | into l => exact bo_into_C hr
  | wth l => exact bo_wth_C hr
  | dot l => exact bo_dot_C hr
theorem bt_cons_C {w : World} {r : RdI} {κ : Addr × Obj → Prop} {f : Fn} {C : Cx w κ f} {p : Int} {l : List Pr} {kk x : PySem.Str} {b1 b : Bool} (hb : BegO ((kk, x) :: l) b1) (he : (b1 && !(kk == "word" && x == "ALL")) = b) (hr : Room C 6) : CallC C (RP w r p ((kk, x) :: l)) 279 [.val (.ref r.rd)] (.val (.bool b)) (RP w r p ((kk, x) :: l)) := by
  subst he
  refine' CallC.of (lv0 := [("reader", .val (.ref r.rd))]) ?k1 ?k2 ?k3 ?k4 ?k5 ?k6 ?k7 ?k8 ?k9
  case k1 => k_is
  case k2 => k_is
  case k6 => exact rfl
  case k7 => exact rfl
  case k8 => exact rfl
  case k9 => decide
  case k3 => exact hr.lt
  case k4 =>
    refine' bind1 (bs := fun v1 => [("reader", v1)]) ?b1 ?b2 ?b3
    case b1 => (intros; exact BindsTo.of_eq (by kernel_rfl))
    case b2 => (intros; exact rfl)
    case b3 => (intro led1 v1 o1; (repeat (first | exact List.forall_mem_nil _ | refine List.forall_mem_cons.mpr ⟨⟨_, rfl, (by first | assumption | exact ⟨_, rfl⟩ | exact rfl)⟩, ?_⟩)))
  intro C' hA hst
  have hr' := hr.down hA
  refine Rt.fn ?_
  k_extra "kct_strs"
theorem bt_nil_C {w : World} {r : RdI} {κ : Addr × Obj → Prop} {f : Fn} {C : Cx w κ f} {p : Int} (hb : BegO [] false) (hr : Room C 6) : CallC C (RP w r p []) 279 [.val (.ref r.rd)] (.val (.bool false)) (RP w r p []) := by
  refine' CallC.of (lv0 := [("reader", .val (.ref r.rd))]) ?k1 ?k2 ?k3 ?k4 ?k5 ?k6 ?k7 ?k8 ?k9
  case k1 => k_is
  case k2 => k_is
  case k6 => exact rfl
  case k7 => exact rfl
  case k8 => exact rfl
  case k9 => decide
  case k3 => exact hr.lt
  case k4 =>
    refine' bind1 (bs := fun v1 => [("reader", v1)]) ?b1 ?b2 ?b3
    case b1 => (intros; exact BindsTo.of_eq (by kernel_rfl))
    case b2 => (intros; exact rfl)
    case b3 => (intro led1 v1 o1; (repeat (first | exact List.forall_mem_nil _ | refine List.forall_mem_cons.mpr ⟨⟨_, rfl, (by first | assumption | exact ⟨_, rfl⟩ | exact rfl)⟩, ?_⟩)))
  intro C' hA hst
  have hr' := hr.down hA
  refine Rt.fn ?_
  k_extra "kct_strs"
theorem bt_C {w : World} {r : RdI} {κ : Addr × Obj → Prop} {f : Fn} {C : Cx w κ f} {p : Int} {l : List Pr} {b : Bool} (hb : BegT l b) (hr : Room C 6) : CallC C (RP w r p l) 279 [.val (.ref r.rd)] (.val (.bool b)) (RP w r p l) := by
  cases l with
  | nil =>
    generalize e : ([] : List Pr) = q at hb
    cases hb with
    | nil => exact bt_nil_C .nil hr
    | text k l => cases k <;> cases e
    | _ => cases e
  | cons q l =>
    obtain ⟨k, x⟩ := q
    obtain ⟨b1, h1, h2⟩ := bt_ok hb
    exact bt_cons_C h1 h2 hr
end
section
open PySem PySem.W PySem.Spec PySem.Calls PyProof.Rows
def restOf (T : List Tk) (p : Int) : List Pr := (T.drop p.toNat).map fun t => (t.k, t.x)
theorem rest_some {T : List Tk} {p : Int} {t : Tk} (h : 0 ≤ p) (ht : T[p.toNat]? = some t) : Rest T p ((t.k, t.x) :: restOf T (p + 1)) := by
  refine ⟨h, ?_⟩
  obtain ⟨hl, e⟩ := List.getElem?_eq_some_iff.mp ht
  rw [List.drop_eq_getElem_cons hl, List.map_cons, e, restOf, show (p + 1).toNat = p.toNat + 1 by omega]
theorem rest_none {T : List Tk} {p : Int} (h : 0 ≤ p) (ht : T[p.toNat]? = none) : Rest T p [] := by
  refine ⟨h, ?_⟩
  rw [List.drop_eq_nil_iff.mpr (List.getElem?_eq_none_iff.mp ht)]; rfl
theorem wis_both {t : Tk} {k x : PySem.Str} (h : worthIs (some t) k x = true) : t.k = k ∧ t.x = x := by
  obtain ⟨h1, h2⟩ := Bool.and_eq_true_iff.mp h
  exact ⟨by simpa using h1, by simpa using h2⟩
section
variable {w : World} {mean : ExcName → Option Value} {pq : Program} {lq : List PySem.Str} {mg mb : PySem.Str → Option Value} {dp un : Nat} {gd : Option (List Code)} {cn : PySem.Str} {cs : Scope} {a : Addr} {ccd : Value} {cl : List (PySem.Str × Addr)} {outer : List Env} {A₀ : Around} {base h₀ : Heap} {L : Addr} {m : PySem.Str → Option Value} {s : Shared}
  {Q E : Value → Shared → Prop} {led : List (Addr × Obj)} {r : RdI} {p : Int} {tp : Tok}
  (B : Below A₀ base outer h₀) (F : Fr h₀ L s.heap m) (X : (hd0.heap_1 w.params).In h₀) (N : News h₀ L s.heap led) (T : Top pq lq mean mg mb h₀) (hk : cs.kind = .function) (R : Rdr w r p tp led)
include B F X N T hk R
-- a contract of the Hoare layer as the walks use it; what the def may change: what κ does not hold
theorem cpsK {κ : Addr × Obj → Prop} (hκ : ∀ a o, isTL o → κ (a, o)) (kd : ∀ q, KD q → κ q) {l l' : List Pr} {p' : Int} {n : Nat} {fa : Addr} {as : List AV} {vs : List Value} {v : AV} (H : Rest r.T p l) (h : ∀ C : Cx w κ ⟨cn, cs, a, ccd⟩, C.h₀ = h₀ → Room C n → CallC C (RP w r p l) fa as v (RP w r p' l')) (o : OnAll κ led vs as) (hdp : dp + n < recursionLimit) (hun : un + 8 * n < cLine)
    (hret : ∀ u h' tk' led' tp', Fr h₀ L h' m → News h₀ L h' led' → Keeps led led' → Rdr w r p' tp' led' → Rest r.T p' l' → v.On κ led' u → Q u { s with heap := h', toks := tk' }) : wpAny (model P0 w) (ktrTop dp un gd cn cs L a ccd cl outer) (call (.ref fa) vs) Q E s :=
  CallC.k (B := B) (X := X) (T := T) (hk := hk) (hκ := hκ) F N ⟨⟨tp, R⟩, H⟩ o (h _ rfl ⟨hdp, hun⟩) fun u h' tk' led' F' N' k' i' o' => let ⟨tp', R'⟩ := i'.R; hret u h' tk' led' tp' F' N' (fun q hq e => k' q hq (kd q e)) R' i'.H o'
-- nothing is changed
theorem cpsS {l : List Pr} {n : Nat} {fa : Addr} {as : List AV} {vs : List Value} {v : AV} (H : Rest r.T p l) (h : ∀ C : Cx w (fun _ => True) ⟨cn, cs, a, ccd⟩, Room C n → CallC C (RP w r p l) fa as v (RP w r p l)) (o : OnAll (fun _ => True) led vs as) (hdp : dp + n < recursionLimit) (hun : un + 8 * n < cLine)
    (hret : ∀ u h' tk' led', Fr h₀ L h' m → News h₀ L h' led → v.On (fun _ => True) led' u → Q u { s with heap := h', toks := tk' }) : wpAny (model P0 w) (ktrTop dp un gd cn cs L a ccd cl outer) (call (.ref fa) vs) Q E s :=
  CallC.k (B := B) (X := X) (T := T) (hk := hk) (hκ := fun _ _ _ => trivial) F N ⟨⟨tp, R⟩, H⟩ o (h _ ⟨hdp, hun⟩) fun u h' tk' led' F' N' k' i' o' => hret u h' tk' led' F' (fun q hq => N' q (k' q hq trivial)) o'
theorem name_spec {t : Tk} (hT : r.T[p.toNat]? = some t) (q1 : nameIs (some t) = true) (hdp : dp + 4 < recursionLimit) (hun : un + 32 < cLine)
    (hret : ∀ led' tp' tt h' tk', Fr h₀ L h' m → News h₀ L h' led' → Keeps led led' → Rdr w r (p + 1) tp' led' → Q (.str t.x tt) { s with heap := h', toks := tk' }) :
    wpAny (model P0 w) (ktrTop dp un gd cn cs L a ccd cl outer) (call (.ref 398) [.ref r.rd]) Q E s := by
  obtain ⟨h1, h2⟩ := Bool.and_eq_true_iff.mp q1
  have hk1 : t.k = "word" := by simpa using h1
  have H := rest_some R.p0 hT
  rw [hk1] at H
  exact cpsK B F X N T hk R (hKP r) (KD.KP r) H (fun C _ hr => name_t_C (by simpa using h2) hr) ⟨rfl, trivial⟩ hdp hun fun u h' tk' led' tp' F' N' K' R' H' ⟨t', e⟩ => e ▸ hret _ _ _ _ _ F' N' K' R'
theorem one_of_none {o : Option Tk} (hT : r.T[p.toNat]? = o) {xt : Tok} (q1 : worthIs o "word" "OF" = false) (q2 : worthIs o "word" "IN" = false) (hdp : dp + 5 < recursionLimit) (hun : un + 40 < cLine)
    (hret : ∀ t' h' tk', Fr h₀ L h' m → News h₀ L h' led → Q (.str "" t') { s with heap := h', toks := tk' }) :
    wpAny (model P0 w) (ktrTop dp un gd cn cs L a ccd cl outer) (call (.ref 376) [.ref r.rd, .str "OF IN" xt]) Q E s := by
  cases o with
  | none =>
    exact cpsS B F X N T hk R (rest_none R.p0 hT) (fun C hr => one_of_n_C rfl (KF.all r) hr) ⟨rfl, ⟨_, rfl⟩, trivial⟩ hdp hun fun u h' tk' led' F' N' ⟨t', e⟩ => e ▸ hret _ _ _ F' N'
  | some t =>
    exact cpsS B F X N T hk R (rest_some R.p0 hT) (fun C hr => one_of_f_C rfl q1 q2 (KF.all r) hr) ⟨rfl, ⟨_, rfl⟩, trivial⟩ hdp hun fun u h' tk' led' F' N' ⟨t', e⟩ => e ▸ hret _ _ _ F' N'
theorem one_of_of {t : Tk} (hT : r.T[p.toNat]? = some t) {xt : Tok} (q1 : worthIs (some t) "word" "OF" = true) (hdp : dp + 5 < recursionLimit) (hun : un + 40 < cLine)
    (hret : ∀ led' tp' t' h' tk', Fr h₀ L h' m → News h₀ L h' led' → Keeps led led' → Rdr w r (p + 1) tp' led' → Q (.str "OF" t') { s with heap := h', toks := tk' }) :
    wpAny (model P0 w) (ktrTop dp un gd cn cs L a ccd cl outer) (call (.ref 376) [.ref r.rd, .str "OF IN" xt]) Q E s := by
  obtain ⟨h1, h2⟩ := wis_both q1
  have H := rest_some R.p0 hT
  rw [h1, h2] at H
  exact cpsK B F X N T hk R (hKP r) (KD.KP r) H (fun C _ hr => one_of_t_C hr) ⟨rfl, ⟨_, rfl⟩, trivial⟩ hdp hun fun u h' tk' led' tp' F' N' K' R' H' ⟨t', e⟩ => e ▸ hret _ _ _ _ _ F' N' K' R'
theorem is_sign0_spec {o : Option Tk} (hT : r.T[p.toNat]? = o) {x : PySem.Str} {xt : Tok} {b : Bool} (hb : worthIs o "sign" x = b) (hdp : dp + 3 < recursionLimit) (hun : un + 24 < cLine)
    (hret : ∀ h' tk', Fr h₀ L h' m → News h₀ L h' led → Q (.bool b) { s with heap := h', toks := tk' }) :
    wpAny (model P0 w) (ktrTop dp un gd cn cs L a ccd cl outer) (call (.ref 413) [.ref r.rd, .str x xt]) Q E s := by
  cases o with
  | none =>
    exact cpsS B F X N T hk R (rest_none R.p0 hT) (fun C hr => is_sign0_n_C rfl hr) ⟨rfl, ⟨_, rfl⟩, trivial⟩ hdp hun fun u h' tk' led' F' N' e => by
      have e' : u = .bool false := e
      have hb' : b = false := by rw [← hb]; rfl
      subst e'; subst hb'
      exact hret _ _ F' N'
  | some t =>
    exact cpsS B F X N T hk R (rest_some R.p0 hT) (fun C hr => is_sign0_s_C rfl hb hr) ⟨rfl, ⟨_, rfl⟩, trivial⟩ hdp hun fun u h' tk' led' F' N' e => by
      have e' : u = .bool b := e
      subst e'; exact hret _ _ F' N'
theorem is_part_f {o : Option Tk} (hT : r.T[p.toNat]? = o) (q1 : worthIs o "sign" "(" = false) (hdp : dp + 4 < recursionLimit) (hun : un + 32 < cLine)
    (hret : ∀ h' tk', Fr h₀ L h' m → News h₀ L h' led → Q (.bool false) { s with heap := h', toks := tk' }) :
    wpAny (model P0 w) (ktrTop dp un gd cn cs L a ccd cl outer) (call (.ref 139) [.ref r.rd]) Q E s := by
  cases o with
  | none =>
    exact cpsS B F X N T hk R (rest_none R.p0 hT) (fun C hr => is_part_n_C rfl hr) ⟨rfl, trivial⟩ hdp hun fun u h' tk' led' F' N' e => by
      have e' : u = .bool false := e
      subst e'; exact hret _ _ F' N'
  | some t =>
    exact cpsS B F X N T hk R (rest_some R.p0 hT) (fun C hr => is_part_f_C rfl q1 hr) ⟨rfl, trivial⟩ hdp hun fun u h' tk' led' F' N' e => by
      have e' : u = .bool false := e
      subst e'; exact hret _ _ F' N'
end
end
section
open PySem PySem.W PySem.Spec PySem.Calls PyProof.Rows
section
section
variable {w : World} {mean : ExcName → Option Value} {pq : Program} {lq : List PySem.Str} {mg mb : PySem.Str → Option Value} {dp un : Nat} {gd : Option (List Code)} {cn : PySem.Str} {cs : Scope} {a : Addr} {ccd : Value} {cl : List (PySem.Str × Addr)} {outer : List Env} {A₀ : Around} {base h₀ : Heap} {L : Addr} {m : PySem.Str → Option Value} {s : Shared}
  {Q E : Value → Shared → Prop} {led : List (Addr × Obj)} {r : RdI} {p : Int} {tp : Tok}
  (B : Below A₀ base outer h₀) (F : Fr h₀ L s.heap m) (X : (hd0.heap_1 w.params).In h₀) (N : News h₀ L s.heap led) (T : Top pq lq mean mg mb h₀) (hk : cs.kind = .function) (R : Rdr w r p tp led)
include B F X N T hk R
theorem word25_1 : True := by
  k_with_none
  (k_with "ktr_room" => first | exact lt_room (k := 1) hdp rfl rfl | exact lt_room (k := 0) hdp rfl rfl | exact lt_room0 (k := 1) hdp rfl rfl | exact lt_room0 (k := 0) hdp rfl rfl | fail "ktr_room")
  (k_with "ktr_units" => first | exact lt_room (k := 3) hun rfl rfl | exact lt_room (k := 0) hun rfl rfl | exact lt_room0 (k := 3) hun rfl rfl | exact lt_room0 (k := 0) hun rfl rfl | fail "ktr_units")
  (k_with "k_mem" => first | assumption | exact LM.mem (by assumption) | exact List.Mem.head _ | exact List.Mem.tail _ (List.Mem.head _))
  (k_with "cell_enter" => (refine' code_def (by k_asm) (by k_asm) (by k_asm) (by k_asm) (by k_asm) (by exact rfl) (by exact rfl) (by first | exact rfl | assumption) (by k_is) (by k_is) (by ktr_room) (by first | exact BindsTo.of_eq rfl | exact binds_K (by k_in) rfl (by k_is) rfl rfl rfl) (by exact locs rfl) ?_ (by exact rfl) (by exact rfl) (by exact rfl) (by decide); k_whole; intro g' L' h' FG' F' N' B' X' T'; (try dsimp only); (try k_lift B'); (try k_fold)))
  (k_with "call ref" => (k_here; (with_reducible show wpAny _ _ (call (Prod.fst _) _) _ _ _); (dsimp only [List.cons_append, List.nil_append]); walk_at "call ref"))
  (k_with "exec While" => (k_here; k_dflt (refine whl_start 100 ?_)))
  (k_with "exec While BoolOp" => (k_here; k_dflt (refine whl_start 100 ?_)))
  (k_with "exec While Compare" => (k_here; k_dflt (refine whl_start 100 ?_)))
  (k_with "exec While UnaryOp" => (k_here; k_dflt (refine whl_start 100 ?_)))
  (k_with "exec While Call" => (k_here; k_dflt (refine whl_start 100 ?_)))
  (k_with "call builtin:list.append" => (k_here; (with_reducible show wpAny _ _ (call (Value.builtin _) [Value.ref _, _]) _ _ _); k_dflt (refine' append_F (by k_asm) (by k_asm) (by k_mem) (by decide) ?_); intro h9 led9 F9 N9 hm9 off9 K9 R9 D9; (have lm9 := LM.mk hm9); (rename (∀ p : Addr × Obj, p ∈ _ → p.1 < _) => lq9); (have K9' := K9 _ (by assumption) (lt_of_keeps lq9 (by assumption))); (have R9' := R9 _ _ _ (by assumption) (tl_ne lq9 (by assumption))); (clear K9 R9); (have R8' := R9'); (obtain ⟨m1, m2, m3, m4, m5, m6, m7⟩ := R8'); (try k_fold)))
  (k_with "call ref" => (k_here; (with_reducible show wpAny _ _ (call (Value.ref 413) [Value.ref _, Value.str _ _]) _ _ _); k_dflt (refine' is_sign0_spec (by k_asm) (by k_asm) (by k_in) (by k_asm) (by k_asm) (by first | exact rfl | assumption) (by first | assumption | exact Rdr.cons (by assumption) | exact Rdr.cons (Rdr.cons (by assumption)) | exact Rdr.cons (Rdr.cons (Rdr.cons (by assumption)))) (by assumption) (by first | assumption | exact rfl) (by ktr_room) (by ktr_units) ?_); intro h9 tk9 F9 N9; (try dsimp only [tkV]); (try k_fold)))
  (k_with "call ref" => (k_here; (with_reducible show wpAny _ _ (call (Value.ref 376) [Value.ref _, Value.str _ _]) _ _ _); k_dflt (refine' one_of_none (by k_asm) (by k_asm) (by k_in) (by k_asm) (by k_asm) (by first | exact rfl | assumption) (by first | assumption | exact Rdr.cons (by assumption) | exact Rdr.cons (Rdr.cons (by assumption)) | exact Rdr.cons (Rdr.cons (Rdr.cons (by assumption)))) (by assumption) (by assumption) (by assumption) (by ktr_room) (by ktr_units) ?_); intro t9 h9 tk9 F9 N9; (try dsimp only [tkV]); (try k_fold)))
  (k_with "call ref" => (k_here; (with_reducible show wpAny _ _ (call (Value.ref 376) [Value.ref _, Value.str _ _]) _ _ _); k_dflt (refine' one_of_of (by k_asm) (by k_asm) (by k_in) (by k_asm) (by k_asm) (by first | exact rfl | assumption) (by first | assumption | exact Rdr.cons (by assumption) | exact Rdr.cons (Rdr.cons (by assumption)) | exact Rdr.cons (Rdr.cons (Rdr.cons (by assumption)))) (by assumption) (by assumption) (by ktr_room) (by ktr_units) ?_); intro led9 tp9 t9 h9 tk9 F9 N9 K9 R9; (try have lm8 := LM.fst0 K9); (try have lm9 := LM.keeps (by assumption) K9); (try have mx := keeps_h1 K9 rfl); (try have my := keeps_h2 K9 rfl); (have K9' := Keeps.trans (by first | assumption | exact Keeps.cons (by assumption) | exact Keeps.cons (Keeps.cons (by assumption))) K9); (clear K9); (have R9' := R9); (obtain ⟨m1, m2, m3, m4, m5, m6, m7⟩ := R9'); (try obtain ⟨z1, z2, z3, z4⟩ := m4 _ (List.mem_of_getElem? (by assumption))); (try dsimp only [tkV]); (try k_fold)))
  (k_with "call ref" => (k_here; (with_reducible show wpAny _ _ (call (Value.ref 398) [Value.ref _]) _ _ _); k_dflt (refine' name_spec (by k_asm) (by k_asm) (by k_in) (by k_asm) (by k_asm) (by first | exact rfl | assumption) (by first | assumption | exact Rdr.cons (by assumption) | exact Rdr.cons (Rdr.cons (by assumption)) | exact Rdr.cons (Rdr.cons (Rdr.cons (by assumption)))) (by assumption) (by assumption) (by ktr_room) (by ktr_units) ?_); intro led9 tp9 tt9 h9 tk9 F9 N9 K9 R9; (try have lm8 := LM.fst0 K9); (try have lm9 := LM.keeps (by assumption) K9); (try have mx := keeps_h1 K9 rfl); (try have my := keeps_h2 K9 rfl); (have K9' := Keeps.trans (by first | assumption | exact Keeps.cons (by assumption) | exact Keeps.cons (Keeps.cons (by assumption))) K9); (clear K9); (have R9' := R9); (obtain ⟨m1, m2, m3, m4, m5, m6, m7⟩ := R9'); (try obtain ⟨z1, z2, z3, z4⟩ := m4 _ (List.mem_of_getElem? (by assumption))); (try dsimp only [tkV]); (try k_fold)))
  (k_with "call ref" => (k_here; (with_reducible show wpAny _ _ (call (Value.ref 139) [Value.ref _]) _ _ _); k_dflt (refine' is_part_f (by k_asm) (by k_asm) (by k_in) (by k_asm) (by k_asm) (by first | exact rfl | assumption) (by first | assumption | exact Rdr.cons (by assumption) | exact Rdr.cons (Rdr.cons (by assumption)) | exact Rdr.cons (Rdr.cons (Rdr.cons (by assumption)))) (by assumption) (by assumption) (by ktr_room) (by ktr_units) ?_); intro h9 tk9 F9 N9; (try dsimp only [tkV]); (try k_fold)))
  exact True.intro
theorem read_ref_AR {t t1 t2 : Tk} {o : Option Tk} {v : Value} (hT : r.T[p.toNat]? = some t) (hT1 : r.T[(p + 1).toNat]? = some t1) (hT2 : r.T[(p + 1 + 1).toNat]? = some t2) (hT3 : r.T[(p + 1 + 1 + 1).toNat]? = o) (n0 : nameIs (some t) = true) (n1 : worthIs (some t1) "word" "OF" = true) (n2 : nameIs (some t2) = true) (q2 : worthIs o "word" "OF" = false) (q3 : worthIs o "word" "IN" = false) (q4 : worthIs o "sign" "(" = false) (hdp : dp + 6 < recursionLimit) (hun : un + 48 < cLine)
    (hret : ∀ led' tp' v h' tk', Fr h₀ L h' m → News h₀ L h' led' → Keeps led led' → Rdr w r (p + 1 + 1 + 1) tp' led' → DV led' v (.tup [.str "ref", .str t.x, .tup [.str t2.x], .tup [], .none]) → Q v { s with heap := h', toks := tk' }) :
    wpAny (model P0 w) (ktrTop dp un gd cn cs L a ccd cl outer) (call (.ref 160) [.ref r.rd, v]) Q E s := by
  have R0 := R
  obtain ⟨r1, r2, r3, r4, r5, r6, r7⟩ := R0
  have r8 := tvs_size r.T
  have K0 := Keeps.refl led
  refine wpAny_call ?_
  k_dflt cell_enter
  k_steps
  all_goals first | exact hret _ _ _ _ _ (by k_asm) (by k_asm) (by first | assumption | exact Keeps.cons (by assumption) | exact Keeps.cons (Keeps.cons (by assumption)) | exact Keeps.cons (Keeps.cons (Keeps.cons (by assumption))) | exact Keeps.cons (Keeps.cons (Keeps.cons (Keeps.cons (by assumption))))) (by first | assumption | exact Rdr.cons (by assumption) | exact Rdr.cons (Rdr.cons (by assumption)) | exact Rdr.cons (Rdr.cons (Rdr.cons (by assumption))) | exact Rdr.cons (Rdr.cons (Rdr.cons (Rdr.cons (by assumption))))) (DV.tup (by k_mem) (.cons (.str _ _) (.cons (.str _ _) (.cons (DV.tup (.tail _ (.head _)) (.cons (.str _ _) .nil)) (.cons (DV.tup (.tail _ (.tail _ (.head _))) .nil) (.cons .none .nil)))))) | (exfalso; omega)
end
end
end
section
open PySem PySem.W PySem.Spec PySem.Calls PyProof.Rows
theorem dec_of {x : PySem.Str} {c : Nat} {k : Int} (H : FigX x c k) (w : World) : Dec w x k := ⟨fun {r f C p l} hr => CallC.ofK fun {m s led vs Q} F N o hI hret => by
  refine o.l1 fun v e9 h90 => ?_
  subst e9
  obtain ⟨t, e⟩ := h90
  subst e
  exact read_decimal_c C.B F C.X N C.T C.hk H hr.1 hr.2 fun v h' tk' led' F' N' S' D' => hret _ _ _ led' F' N' (fun q hq _ => S' q hq) (RP.mono hI S') D'⟩
theorem dec_0 (w : World) : Dec w "0" 0 := dec_of fig_0 w
theorem dec_1 (w : World) : Dec w "1" 1 := dec_of fig_1 w
theorem dec_2 (w : World) : Dec w "2" 2 := dec_of fig_2 w
theorem dec_7 (w : World) : Dec w "7" 7 := dec_of fig_7 w
theorem read_ref_AR_C {w : World} {r : RdI} {f : Fn} {C : Cx w KD f} {p : Int} {l : List Pr} (hc : calm l = true) (hr : Room C 6) : CallC C (RP w r p (("word", "A") :: ("word", "OF") :: ("word", "R") :: l)) 160 [.val (.ref r.rd), .val (.ref 188)] (.dt (.tup [.str "ref", .str "A", .tup [.str "R"], .tup [], .none])) (RP w r (p + 1 + 1 + 1) l) :=
  CallC.ofK fun {m s led vs Q} F N o hI hret => by
    obtain ⟨⟨tp, R⟩, H⟩ := hI
    obtain ⟨t, h1, h2, h3, H1⟩ := H.cons
    obtain ⟨t1, k1, k2, k3, H2⟩ := H1.cons
    obtain ⟨t2, m1, m2, m3, H3⟩ := H2.cons
    obtain ⟨o3, n1, n2, n3, n4⟩ := calm_is H3 hc
    refine o.l2 fun v1 v2 e9 e1 e2 => ?_
    subst e9
    have e1' : v1 = .ref r.rd := e1
    subst e1'
    refine read_ref_AR C.B F C.X N C.T C.hk R h1 k1 m1 n1 (name_of_word h2 h3 resW_A) (wis_name k2 k3) (name_of_word m2 m3 resW_R) n2 n3 n4 hr.1 hr.2 fun led' tp' v h' tk' F' N' K' R' D' => ?_
    rw [h3, m3] at D'
    exact hret v h' tk' led' F' N' K' ⟨⟨tp', R'⟩, H3⟩ D'
theorem wordsT6 : True := by
  (k_with "k_clsL" => first
  | (with_reducible exact List.mem_cons_self)
  | ((with_reducible refine List.mem_cons_of_mem _ ?_); k_extra "k_clsL")
  | fail "k_clsL")
  (k_with "lcg_off" => first
  | (with_reducible exact SetTo.nil)
  | (with_reducible exact SetTo.here)
  | ((fail_if_success (fail_if_success (refine' SetTo.there ?_ ?_))); exact SetTo.there (by decide +kernel) (by k_extra "lcg_off"))
  | fail "lcg_off")
  (k_with "kbo_bools" => first
  | (with_reducible exact rfl)
  | (with_reducible assumption)
  | (with_reducible exact bnF rfl)
  | (with_reducible exact bnT rfl)
  | (with_reducible exact bnF (by assumption))
  | (with_reducible exact bnT (by assumption))
  | fail "kbo_bools")
  (k_with "tlg_ne" => first
  | exact Attr.kind
  | exact Attr.worth
  | exact Attr.at
  | exact Attr.tokens
  | fail "tlg_ne")
  (k_with "ktu_off1L" => first
  | ((fail_if_success (fail_if_success (refine' Meth.rd ?_ ?_ ?_ ?_))); exact Meth.rd (by k_is) (by k_is) (by k_is) (by intros; rfl))
  | fail "ktu_off1L")
  (k_with "ked_reads" => first
  | (with_reducible exact Opn.eqStrT)
  | (with_reducible exact Opn.neStrF)
  | exact Opn.eqStrF (by decide +kernel)
  | exact Opn.neStrT (by decide +kernel)
  | exact Opn.eqStrF (by assumption)
  | exact Opn.neStrT (by assumption)
  | exact Opn.neStrU (by assumption)
  | exact Opn.eqStrU (by assumption)
  | exact Opn.gtIntV
  | exact Opn.notinT2 (by decide +kernel)
  | exact Opn.notinT1 (by decide +kernel)
  | exact Opn.notinT2 (by assumption)
  | exact Opn.notinT1 (by assumption)
  | exact Opn.inF2 (by decide +kernel)
  | exact Opn.inF2 (by assumption)
  | (with_reducible exact Opn.figA)
  | (with_reducible exact Opn.figB)
  | (with_reducible exact Opn.figS)
  | (with_reducible exact Opn.figL)
  | exact Opn.inLitT (by decide +kernel)
  | exact Opn.inLitF (by decide +kernel)
  | exact Opn.isTN
  | exact Opn.isnotTN
  | exact Opn.isNN
  | exact Opn.isnotNN
  | exact Opn.isDN
  | exact Opn.isBN
  | exact Opn.inRes (by assumption)
  | exact Opn.eqStr
  | exact Opn.neStr
  | exact Opn.gtB (b := true) (by decide +kernel)
  | exact Opn.gtB (b := false) (by decide +kernel)
  | exact Opn.eqB (b := true) (by decide +kernel)
  | exact Opn.eqB (b := false) (by decide +kernel)
  | exact Opn.ltInt
  | exact Opn.gtInt
  | exact Opn.eqInt
  | fail "ked_reads")
  (k_with "tb_rel" => first
  | exact Bin.addInt
  | exact Bin.addStr rfl (by first | exact sz1 (by assumption) | exact sz2 (by assumption) | decide +kernel)
  | fail "tb_rel")
  (k_with "tb_start" => first
  | exact Sub1.tok (by assumption)
  | exact Sub1.item0
  | (with_reducible exact Sub1.figS)
  | (with_reducible exact Sub1.figL)
  | fail "tb_start")
  (k_with "ktu_offI" => first
  | exact BltC.lenTL
  | exact BltC.lenStr1
  | exact BltC.split (List.cons_ne_nil _ _) RP.mono splitOI (by decide +kernel) (by decide +kernel)
  | exact BltC.split (List.cons_ne_nil _ _) RP.mono (by first | assumption | decide +kernel) (by decide +kernel) (by first | assumption | decide +kernel)
  | fail "ktu_offI")
  (k_with "kp_flats" => first
  | exact Evs.nil
  | ((fail_if_success (fail_if_success (refine' Evs.cons ?_ ?_))); exact Evs.cons (by k_extra "kat_tups") (by k_extra "kp_flats"))
  | fail "kp_flats")
  (k_with "kat_tups" => first
  | exact Ev.cint
  | exact Ev.cstr
  | exact Ev.cnone
  | exact Ev.cbool
  | ((fail_if_success (fail_if_success (refine' Ev.loc ?_))); exact Ev.loc (by k_extra "k_clsL"))
  | ((fail_if_success (fail_if_success (refine' Ev.glo ?_))); exact Ev.glo (by k_is))
  | ((fail_if_success (fail_if_success (refine' Ev.blt ?_ ?_ ?_))); exact Ev.blt (by k_is) (by with_reducible first | exact boot_len | exact boot_tuple) (by decide +kernel))
  | ((fail_if_success (fail_if_success (refine' Ev.cmp ?_ ?_ ?_))); exact Ev.cmp (by k_extra "kat_tups") (by k_extra "kat_tups") (by k_extra "ked_reads"))
  | ((fail_if_success (fail_if_success (refine' Ev.attrN ?_ ?_))); exact Ev.attrN (by k_extra "kat_tups") (by k_extra "tlg_ne"))
  | ((fail_if_success (fail_if_success (refine' Ev.attrC ?_ ?_))); exact Ev.attrC (by k_extra "kat_tups") (by k_extra "tlg_ne"))
  | ((fail_if_success (fail_if_success (refine' Ev.bin ?_ ?_ ?_))); exact Ev.bin (by k_extra "kat_tups") (by k_extra "kat_tups") (by k_extra "tb_rel"))
  | ((fail_if_success (fail_if_success (refine' Ev.sub ?_ ?_ ?_))); exact Ev.sub (by k_extra "kat_tups") (by k_extra "kat_tups") (by k_extra "tb_start"))
  | ((fail_if_success (fail_if_success (refine' Ev.and ?_))); exact Ev.and (by k_extra "k_places"))
  | ((fail_if_success (fail_if_success (refine' Ev.not ?_))); exact Ev.not (by k_extra "kat_tups"))
  | ((fail_if_success (fail_if_success (refine' Ev.mcall0 ?_ ?_ ?_ ?_))); exact Ev.mcall0 (by k_extra "kat_tups") (by k_extra "ktu_off1L") (by k_is) (by k_extra "got_up"))
  | ((fail_if_success (fail_if_success (refine' Ev.mcall ?_ ?_ ?_ ?_ ?_))); exact Ev.mcall (by k_extra "kat_tups") (by k_extra "ktu_off1L") (by k_is) (by k_extra "kp_flats") (by k_extra "got_up"))
  | ((fail_if_success (fail_if_success (refine' Ev.bmcall ?_ ?_ ?_ ?_))); exact Ev.bmcall (by k_extra "kat_tups") (by exact BMeth.split) (by k_extra "kp_flats") (by k_extra "ktu_offI"))
  | ((fail_if_success (fail_if_success (refine' Ev.fcall ?_ ?_ ?_ ?_))); exact Ev.fcall (by k_extra "kat_tups") (by k_is) (by k_extra "kp_flats") (by k_extra "got_up"))
  | ((fail_if_success (fail_if_success (refine' Ev.bcall ?_ ?_ ?_))); exact Ev.bcall (by k_extra "kat_tups") (by k_extra "kp_flats") (by k_extra "ktu_offI"))
  | ((fail_if_success (fail_if_success (refine' Ev.tcall ?_ ?_ ?_))); exact Ev.tcall (by k_extra "kat_tups") (by k_extra "kp_flats") (by exact TypC.tup0 RP.mono))
  | exact Ev.list0 RP.mono (fun _ _ => rfl)
  | ((fail_if_success (fail_if_success (refine' Ev.ifk ?_ ?_))); exact Ev.ifk (by k_extra "keq_rows") (by first | ((fail_if_success (fail_if_success (refine' IfK.yes ?_ ?_))); exact IfK.yes (by k_extra "kbo_bools") (by k_extra "kat_tups")) | ((fail_if_success (fail_if_success (refine' IfK.no ?_ ?_))); exact IfK.no (by k_extra "kbo_bools") (by k_extra "kat_tups"))))
  | ((fail_if_success (fail_if_success (refine' Ev.tup ?_ ?_ ?_ ?_))); exact Ev.tup (by k_extra "kp_flats") (by exact rfl) (by exact rfl) (by exact RP.mono))
  | fail "kat_tups")
  (k_with "keq_rows" => first
  | ((fail_if_success (fail_if_success (refine' Ts.cmp ?_ ?_ ?_))); exact Ts.cmp (by k_extra "kat_tups") (by k_extra "kat_tups") (by k_extra "ked_reads"))
  | ((fail_if_success (fail_if_success (refine' Ts.not ?_))); exact Ts.not (by k_extra "keq_rows"))
  | ((fail_if_success (fail_if_success (refine' Ts.or ?_))); exact Ts.or (by k_extra "kqd_all"))
  | ((fail_if_success (fail_if_success (refine' Ts.and ?_))); exact Ts.and (by k_extra "k_subL"))
  | ((fail_if_success (fail_if_success (refine' Ts.evC ?_))); exact Ts.evC (by k_extra "kat_tups"))
  | ((fail_if_success (fail_if_success (refine' Ts.evN ?_))); exact Ts.evN (by k_extra "kat_tups"))
  | fail "keq_rows")
  (k_with "kqd_all" => first
  | exact Ors.nil
  | ((fail_if_success (fail_if_success (refine' Ors.any ?_ ?_))); exact Ors.any (by k_extra "keq_rows") (by first | ((fail_if_success (fail_if_success (refine' OrK.stop ?_))); exact OrK.stop (by k_extra "kbo_bools")) | ((fail_if_success (fail_if_success (refine' OrK.go ?_ ?_))); exact OrK.go (by k_extra "kbo_bools") (by k_extra "kqd_all")) | ((fail_if_success (fail_if_success (refine' OrK.both ?_))); exact OrK.both (by intro hb9; k_extra "kqd_all"))))
  | fail "kqd_all")
  (k_with "k_subL" => first
  | exact Ands.nil
  | ((fail_if_success (fail_if_success (refine' Ands.any ?_ ?_))); exact Ands.any (by k_extra "keq_rows") (by first | ((fail_if_success (fail_if_success (refine' AndK.stop ?_))); exact AndK.stop (by k_extra "kbo_bools")) | ((fail_if_success (fail_if_success (refine' AndK.go ?_ ?_))); exact AndK.go (by k_extra "kbo_bools") (by k_extra "k_subL"))))
  | fail "k_subL")
  (k_with "k_places" => first
  | ((fail_if_success (fail_if_success (refine' Vnds.any ?_ ?_))); exact Vnds.any (by k_extra "kat_tups") (by first | ((fail_if_success (fail_if_success (refine' VndK.stop ?_))); exact VndK.stop (by k_extra "kbo_bools")) | ((fail_if_success (fail_if_success (refine' VndK.go ?_ ?_))); exact VndK.go (by k_extra "kbo_bools") (by k_extra "k_places")) | ((fail_if_success (fail_if_success (refine' VndK.both ?_))); exact VndK.both (by intro hb9; k_extra "k_places"))))
  | ((fail_if_success (fail_if_success (refine' Vnds.one ?_))); exact Vnds.one (by k_extra "kat_tups"))
  | fail "k_places")
  (k_with "reads_via_all" => first
  | ((fail_if_success (fail_if_success (refine' Go1.assign ?_ ?_ ?_))); exact Go1.assign (by k_extra "kat_tups") (by k_extra "lcg_off") (by exact noDup_k (by kernel_rfl)))
  | ((fail_if_success (fail_if_success (refine' Go1.setat (k := 1) ?_ ?_ ?_ ?_ ?_))); exact Go1.setat (k := 1) (by k_extra "kat_tups") (by k_extra "kat_tups") (by first | exact rfl | assumption) (by exact drop1) (by exact ble1))
  | ((fail_if_success (fail_if_success (refine' Go1.assign2 ?_ ?_ ?_ ?_ ?_))); exact Go1.assign2 (by k_extra "kat_tups") (by k_extra "lcg_off") (by k_extra "lcg_off") (by exact noDup_k (by kernel_rfl)) (by exact noDup_k (by kernel_rfl)))
  | ((fail_if_success (fail_if_success (refine' Go1.expr ?_))); exact Go1.expr (by k_extra "kat_tups"))
  | ((fail_if_success (fail_if_success (refine' Go1.ifk ?_ ?_))); exact Go1.ifk (by k_extra "keq_rows") (by first | ((fail_if_success (fail_if_success (refine' GoK.yes ?_ ?_))); exact GoK.yes (by k_extra "kbo_bools") (by k_extra "ke_reads")) | ((fail_if_success (fail_if_success (refine' GoK.no ?_ ?_))); exact GoK.no (by k_extra "kbo_bools") (by k_extra "ke_reads"))))
  | ((fail_if_success (fail_if_success (refine' Go1.while ?_))); exact Go1.while (by k_extra "ktu_offL"))
  | ((fail_if_success (fail_if_success (refine' Go1.for ?_ ?_ ?_))); exact Go1.for (by first | assumption | exact KF.kp _) (by k_extra "kat_tups") (by k_extra "kas_types"))
  | fail "reads_via_all")
  (k_with "ktu_offL" => first
  | ((fail_if_success (fail_if_success (refine' Wh.any ?_ ?_))); exact Wh.any (by k_extra "keq_rows") (by first | ((fail_if_success (fail_if_success (refine' WhK.stop ?_))); exact WhK.stop (by k_extra "kbo_bools")) | ((fail_if_success (fail_if_success (refine' WhK.turn ?_ ?_ ?_))); exact WhK.turn (by k_extra "kbo_bools") (by k_extra "ke_reads") (by k_extra "ktu_offL"))))
  | fail "ktu_offL")
  (k_with "kas_types" => first
  | exact FG.nil
  | ((fail_if_success (fail_if_success (refine' FG.next ?_ ?_ ?_ ?_))); exact FG.next (by k_extra "lcg_off") (by exact noDup_k (by kernel_rfl)) (by k_extra "ke_reads") (by k_extra "kas_types"))
  | fail "kas_types")
  (k_with "o_fieldsN" => first
  | ((fail_if_success (fail_if_success (refine' FR.ret ?_ ?_ ?_))); exact FR.ret (by k_extra "lcg_off") (by exact noDup_k (by kernel_rfl)) (by k_extra "kct_strs"))
  | ((fail_if_success (fail_if_success (refine' FR.next ?_ ?_ ?_ ?_))); exact FR.next (by k_extra "lcg_off") (by exact noDup_k (by kernel_rfl)) (by k_extra "ke_reads") (by k_extra "o_fieldsN"))
  | fail "o_fieldsN")
  (k_with "k_allIn" => first
  | ((fail_if_success (fail_if_success (refine' WhR.ret ?_ ?_ ?_))); exact WhR.ret (by k_extra "keq_rows") (by k_extra "kbo_bools") (by k_extra "kct_strs"))
  | ((fail_if_success (fail_if_success (refine' WhR.turn ?_ ?_ ?_ ?_))); exact WhR.turn (by k_extra "keq_rows") (by k_extra "kbo_bools") (by k_extra "ke_reads") (by k_extra "k_allIn"))
  | fail "k_allIn")
  (k_with "ke_reads" => first
  | exact Go.nil
  | ((fail_if_success (fail_if_success (refine' Go.cons ?_ ?_))); exact Go.cons (by k_extra "reads_via_all") (by k_extra "ke_reads"))
  | fail "ke_reads")
  (k_with "kct_strs" => first
  | ((fail_if_success (fail_if_success (refine' Rt.rt (Rt1.ret ?_)))); exact Rt.rt (Rt1.ret (by k_extra "kat_tups")))
  | ((fail_if_success (fail_if_success (refine' Rt.ifs ?_ ?_))); exact Rt.ifs (by k_extra "keq_rows") (by first | ((fail_if_success (fail_if_success (refine' IfR.yr ?_ ?_))); exact IfR.yr (by k_extra "kbo_bools") (by k_extra "kct_strs")) | ((fail_if_success (fail_if_success (refine' IfR.yg ?_ ?_ ?_))); exact IfR.yg (by k_extra "kbo_bools") (by k_extra "ke_reads") (by k_extra "kct_strs")) | ((fail_if_success (fail_if_success (refine' IfR.ng ?_ ?_ ?_))); exact IfR.ng (by k_extra "kbo_bools") (by k_extra "ke_reads") (by k_extra "kct_strs")) | ((fail_if_success (fail_if_success (refine' IfR.nr ?_ ?_))); exact IfR.nr (by k_extra "kbo_bools") (by k_extra "kct_strs"))))
  | ((fail_if_success (fail_if_success (refine' Rt.rt (Rt1.for ?_ ?_ ?_)))); exact Rt.rt (Rt1.for (by first | assumption | exact KF.kp _) (by k_extra "kat_tups") (by k_extra "o_fieldsN")))
  | ((fail_if_success (fail_if_success (refine' Rt.rt (Rt1.while ?_)))); exact Rt.rt (Rt1.while (by k_extra "k_allIn")))
  | ((fail_if_success (fail_if_success (refine' Rt.go ?_ ?_))); exact Rt.go (by k_extra "reads_via_all") (by k_extra "kct_strs"))
  | fail "kct_strs")
  (k_with "lcg_src" => first
  | (with_reducible exact beqT)
  | exact beqF (by decide +kernel)
  | (with_reducible exact andTT)
  | exact andF1 (by decide +kernel)
  | exact andF2 (by decide +kernel)
  | (with_reducible assumption)
  | (with_reducible exact nmT (by assumption))
  | (with_reducible exact nmT resW_A)
  | (with_reducible exact nm_A)
  | (with_reducible exact nm_B)
  | (with_reducible exact nm_R)
  | (with_reducible exact nm_SPACE)
  | (with_reducible exact nm_LOW)
  | (with_reducible exact nm_DELIMITED)
  | (with_reducible exact nm_INTO)
  | (with_reducible exact nm_WITH)
  | (with_reducible exact nm_ALL)
  | decide +kernel
  | exact rfl
  | fail "lcg_src")
  (k_with "k_ownIn" => first
  | exact Room.le (by assumption) rfl
  | exact KF.kp _
  | (with_reducible assumption)
  | exact Room.as (Room.le (by assumption) rfl)
  | (with_reducible exact resW_A)
  | (with_reducible exact resW_B)
  | (with_reducible exact resW_R)
  | k_extra "lcg_src"
  | fail "k_ownIn")
  (k_with "k_ownIn" => first
  | exact Kd.begO _ _
  | fail "k_ownIn")
  (k_with "got_up" => first
  | (show CallC _ _ 265 _ _ _; first | ((fail_if_success (fail_if_success (refine' op_here_C ?_ ?_ ?_ ?_))); exact op_here_C (by assumption) (by assumption) (by assumption) (by exact Room.le (by assumption) rfl)))
  | (show CallC _ _ 181 _ _ _; first | ((fail_if_success (fail_if_success (refine' read_op_k_C ?_ ?_ ?_))); exact read_op_k_C (by k_extra "k_ownIn") (by k_extra "k_ownIn") (by k_extra "k_ownIn")) | ((fail_if_success (fail_if_success (refine' read_op_num_C ?_ ?_))); exact read_op_num_C (by k_extra "k_ownIn") (by k_extra "k_ownIn")))
  | (show CallC _ _ 160 _ _ _; first | ((fail_if_success (fail_if_success (refine' read_ref_AR_C ?_ ?_))); exact read_ref_AR_C (by k_extra "k_ownIn") (by k_extra "k_ownIn")) | ((fail_if_success (fail_if_success (refine' read_ref_A0_C ?_))); exact read_ref_A0_C (by k_extra "k_ownIn")) | ((fail_if_success (fail_if_success (refine' read_ref_A_C ?_ ?_ ?_ ?_))); exact read_ref_A_C (by k_extra "k_ownIn") (by k_extra "k_ownIn") (by k_extra "k_ownIn") (by k_extra "k_ownIn")) | ((fail_if_success (fail_if_success (refine' read_ref_B_C ?_ ?_ ?_ ?_))); exact read_ref_B_C (by k_extra "k_ownIn") (by k_extra "k_ownIn") (by k_extra "k_ownIn") (by k_extra "k_ownIn")))
  | (show CallC _ _ 251 _ _ _; first | ((fail_if_success (fail_if_success (refine' bo_C ?_ ?_))); exact bo_C (by k_extra "k_ownIn") (by k_extra "k_ownIn")))
  | (show CallC _ _ 153 _ _ _; first | ((fail_if_success (fail_if_success (refine' read_part_B_C ?_ ?_ ?_ ?_))); exact read_part_B_C (by k_extra "k_ownIn") (by k_extra "k_ownIn") (by k_extra "k_ownIn") (by k_extra "k_ownIn")))
  | (show CallC _ _ 139 _ _ _; first | ((fail_if_success (fail_if_success (refine' is_part_t_C ?_))); exact is_part_t_C (by k_extra "k_ownIn")) | ((fail_if_success (fail_if_success (refine' is_part_n_C ?_ ?_))); exact is_part_n_C (by k_extra "k_ownIn") (by k_extra "k_ownIn")) | ((fail_if_success (fail_if_success (refine' is_part_f_C ?_ ?_ ?_))); exact is_part_f_C (by k_extra "k_ownIn") (by k_extra "k_ownIn") (by k_extra "k_ownIn")))
  | (show CallC _ _ 188 _ _ _; first | ((fail_if_success (fail_if_success (refine' read_expr_num_C ?_ ?_ ?_ ?_ ?_ ?_))); exact read_expr_num_C (by k_extra "k_ownIn") (by k_extra "k_ownIn") (by k_extra "k_ownIn") (by k_extra "k_ownIn") (by k_extra "k_ownIn") (by k_extra "k_ownIn")))
  | (show CallC _ _ 202 _ _ _; first | ((fail_if_success (fail_if_success (refine' read_sum_num_C ?_ ?_ ?_ ?_ ?_ ?_ ?_))); exact read_sum_num_C (by k_extra "k_ownIn") (by k_extra "k_ownIn") (by k_extra "k_ownIn") (by k_extra "k_ownIn") (by k_extra "k_ownIn") (by k_extra "k_ownIn") (by k_extra "k_ownIn")))
  | (show CallC _ _ 209 _ _ _; first | ((fail_if_success (fail_if_success (refine' read_product_num_C ?_ ?_ ?_ ?_ ?_ ?_))); exact read_product_num_C (by k_extra "k_ownIn") (by k_extra "k_ownIn") (by k_extra "k_ownIn") (by k_extra "k_ownIn") (by k_extra "k_ownIn") (by k_extra "k_ownIn")))
  | (show CallC _ _ 216 _ _ _; first | ((fail_if_success (fail_if_success (refine' read_factor_num_C ?_ ?_ ?_ ?_ ?_ ?_))); exact read_factor_num_C (by k_extra "k_ownIn") (by k_extra "k_ownIn") (by k_extra "k_ownIn") (by k_extra "k_ownIn") (by k_extra "k_ownIn") (by k_extra "k_ownIn")))
  | (show CallC _ _ 230 _ _ _; first | ((fail_if_success (fail_if_success (refine' read_power_num_C ?_ ?_ ?_ ?_ ?_ ?_))); exact read_power_num_C (by k_extra "k_ownIn") (by k_extra "k_ownIn") (by k_extra "k_ownIn") (by k_extra "k_ownIn") (by k_extra "k_ownIn") (by k_extra "k_ownIn")))
  | (show CallC _ _ 195 _ _ _; first | ((fail_if_success (fail_if_success (refine' sa_1_C ?_ ?_ ?_))); exact sa_1_C (by k_extra "k_ownIn") (by k_extra "k_ownIn") (by k_extra "k_ownIn")) | ((fail_if_success (fail_if_success (refine' sa_2_C ?_ ?_ ?_))); exact sa_2_C (by k_extra "k_ownIn") (by k_extra "k_ownIn") (by k_extra "k_ownIn")) | ((fail_if_success (fail_if_success (refine' sa_kind_C ?_ ?_ ?_))); exact sa_kind_C (by k_extra "k_ownIn") (by k_extra "k_ownIn") (by k_extra "k_ownIn")))
  | (show CallC _ _ 441 _ _ _; first | ((fail_if_success (fail_if_success (refine' signed_num_C ?_ ?_))); exact signed_num_C (by k_extra "k_ownIn") (by k_extra "k_ownIn")))
  | (show CallC _ _ 174 _ _ _; first | ((fail_if_success (fail_if_success (refine' rf_L_C ?_))); exact rf_L_C (by k_extra "k_ownIn")) | ((fail_if_success (fail_if_success (refine' rf_S_C ?_))); exact rf_S_C (by k_extra "k_ownIn")) | ((fail_if_success (fail_if_success (refine' rf_B_C ?_))); exact rf_B_C (by k_extra "k_ownIn")) | ((fail_if_success (fail_if_success (refine' rf_A_C ?_))); exact rf_A_C (by k_extra "k_ownIn")))
  | (show CallC _ _ 376 _ _ _; first | ((fail_if_success (fail_if_success (refine' CallC.weak (hκ' := hKP _) (KD.KP _) (one_of_t_C ?_)))); exact CallC.weak (hκ' := hKP _) (KD.KP _) (one_of_t_C (by k_extra "k_ownIn"))) | ((fail_if_success (fail_if_success (refine' CallC.weak (hκ' := hKP _) (KD.KP _) (one_of_n_C ?_ ?_ ?_)))); exact CallC.weak (hκ' := hKP _) (KD.KP _) (one_of_n_C (by k_extra "k_ownIn") (by k_extra "k_ownIn") (by k_extra "k_ownIn"))) | ((fail_if_success (fail_if_success (refine' CallC.weak (hκ' := hKP _) (KD.KP _) (one_of_f_C ?_ ?_ ?_ ?_ ?_)))); exact CallC.weak (hκ' := hKP _) (KD.KP _) (one_of_f_C (by k_extra "k_ownIn") (by k_extra "k_ownIn") (by k_extra "k_ownIn") (by k_extra "k_ownIn") (by k_extra "k_ownIn"))))
  | (show CallC _ _ 369 _ _ _; first | ((fail_if_success (fail_if_success (refine' CallC.weak (hκ' := hKP _) (KD.KP _) (need_t_C ?_ ?_ ?_)))); exact CallC.weak (hκ' := hKP _) (KD.KP _) (need_t_C (by k_extra "k_ownIn") (by k_extra "k_ownIn") (by k_extra "k_ownIn"))))
  | (show CallC _ _ 462 _ _ _; first | ((fail_if_success (fail_if_success (refine' CallC.weak (hκ' := hKP _) (KD.KP _) (octets_C ?_ ?_ ?_)))); exact CallC.weak (hκ' := hKP _) (KD.KP _) (octets_C (by k_extra "k_ownIn") (by k_extra "k_ownIn") (by k_extra "k_ownIn"))))
  | (show CallC _ _ 296 _ _ _; first | ((fail_if_success (fail_if_success (refine' octets_of_C ?_ ?_ ?_))); exact octets_of_C (by k_extra "k_ownIn") (by k_extra "k_ownIn") (by k_extra "k_ownIn")))
  | (show CallC _ _ 362 _ _ _; first | ((fail_if_success (fail_if_success (refine' CallC.weak (hκ' := hKP _) (KD.KP _) (skip_t_C ?_ ?_ ?_)))); exact CallC.weak (hκ' := hKP _) (KD.KP _) (skip_t_C (by k_extra "k_ownIn") (by k_extra "k_ownIn") (by k_extra "k_ownIn"))) | ((fail_if_success (fail_if_success (refine' CallC.weak (hκ' := hKP _) (KD.KP _) (skip_n_C ?_ ?_ ?_ ?_ ?_)))); exact CallC.weak (hκ' := hKP _) (KD.KP _) (skip_n_C (by k_extra "k_ownIn") (by k_extra "k_ownIn") (by k_extra "k_ownIn") (by k_extra "k_ownIn") (by k_extra "k_ownIn"))) | ((fail_if_success (fail_if_success (refine' CallC.weak (hκ' := hKP _) (KD.KP _) (skip_f_C ?_ ?_ ?_ ?_ ?_ ?_)))); exact CallC.weak (hκ' := hKP _) (KD.KP _) (skip_f_C (by k_extra "k_ownIn") (by k_extra "k_ownIn") (by k_extra "k_ownIn") (by k_extra "k_ownIn") (by k_extra "k_ownIn") (by k_extra "k_ownIn"))))
  | (show CallC _ _ 355 _ _ _; first | ((fail_if_success (fail_if_success (refine' CallC.weak (hκ' := hKP _) (KD.KP _) (is_word_n_C ?_ ?_ ?_ ?_ ?_)))); exact CallC.weak (hκ' := hKP _) (KD.KP _) (is_word_n_C (by k_extra "k_ownIn") (by k_extra "k_ownIn") (by k_extra "k_ownIn") (by k_extra "k_ownIn") (by k_extra "k_ownIn"))) | ((fail_if_success (fail_if_success (refine' CallC.weak (hκ' := hKP _) (KD.KP _) (is_word_s_C ?_ ?_ ?_ ?_ ?_ ?_)))); exact CallC.weak (hκ' := hKP _) (KD.KP _) (is_word_s_C (by k_extra "k_ownIn") (by k_extra "k_ownIn") (by k_extra "k_ownIn") (by k_extra "k_ownIn") (by k_extra "k_ownIn") (by k_extra "k_ownIn"))))
  | (show CallC _ _ 244 _ _ _; first | ((fail_if_success (fail_if_success (refine' word_ahead_n_C ?_ ?_))); exact word_ahead_n_C (by k_extra "k_ownIn") (by k_extra "k_ownIn")) | ((fail_if_success (fail_if_success (refine' word_ahead_s_C ?_ ?_ ?_))); exact word_ahead_s_C (by k_extra "k_ownIn") (by k_extra "k_ownIn") (by k_extra "k_ownIn")))
  | (show CallC _ _ 434 _ _ _; first | ((fail_if_success (fail_if_success (refine' is_number_n_C ?_ ?_))); exact is_number_n_C (by k_extra "k_ownIn") (by k_extra "k_ownIn")) | ((fail_if_success (fail_if_success (refine' is_number_s_C ?_ ?_ ?_ ?_ ?_))); exact is_number_s_C (by k_extra "k_ownIn") (by k_extra "k_ownIn") (by k_extra "k_ownIn") (by k_extra "k_ownIn") (by k_extra "k_ownIn")))
  | (show CallC _ _ 398 _ _ _; first | ((fail_if_success (fail_if_success (refine' CallC.weak (hκ' := hKP _) (KD.KP _) (name_t_C ?_ ?_)))); exact CallC.weak (hκ' := hKP _) (KD.KP _) (name_t_C (by k_extra "k_ownIn") (by k_extra "k_ownIn"))))
  | (show CallC _ _ 391 _ _ _; first | ((fail_if_success (fail_if_success (refine' is_name0_n_C ?_ ?_))); exact is_name0_n_C (by k_extra "k_ownIn") (by k_extra "k_ownIn")) | ((fail_if_success (fail_if_success (refine' is_name0_s_C ?_ ?_ ?_))); exact is_name0_s_C (by k_extra "k_ownIn") (by k_extra "k_ownIn") (by k_extra "k_ownIn")))
  | (show CallC _ _ 291 _ _ _; first | ((fail_if_success (fail_if_success (refine' is_reserved_C ?_ ?_ ?_))); exact is_reserved_C (by k_extra "k_ownIn") (by k_extra "k_ownIn") (by k_extra "k_ownIn")))
  | (show CallC _ _ 427 _ _ _; first | ((fail_if_success (fail_if_success (refine' CallC.weak (hκ' := hKP _) (KD.KP _) (need_sign_t_C ?_)))); exact CallC.weak (hκ' := hKP _) (KD.KP _) (need_sign_t_C (by k_extra "k_ownIn"))))
  | (show CallC _ _ 420 _ _ _; first | ((fail_if_success (fail_if_success (refine' CallC.weak (hκ' := hKP _) (KD.KP _) (skip_sign_t_C ?_)))); exact CallC.weak (hκ' := hKP _) (KD.KP _) (skip_sign_t_C (by k_extra "k_ownIn"))) | ((fail_if_success (fail_if_success (refine' skip_sign_n_C ?_ ?_))); exact skip_sign_n_C (by k_extra "k_ownIn") (by k_extra "k_ownIn")) | ((fail_if_success (fail_if_success (refine' skip_sign_f_C ?_ ?_ ?_))); exact skip_sign_f_C (by k_extra "k_ownIn") (by k_extra "k_ownIn") (by k_extra "k_ownIn")))
  | (show CallC _ _ 413 _ _ _; first | ((fail_if_success (fail_if_success (refine' is_sign0_n_C ?_ ?_))); exact is_sign0_n_C (by k_extra "k_ownIn") (by k_extra "k_ownIn")) | ((fail_if_success (fail_if_success (refine' is_sign_n_C ?_ ?_))); exact is_sign_n_C (by k_extra "k_ownIn") (by k_extra "k_ownIn")) | ((fail_if_success (fail_if_success (refine' is_sign0_s_C ?_ ?_ ?_))); exact is_sign0_s_C (by k_extra "k_ownIn") (by k_extra "k_ownIn") (by k_extra "k_ownIn")) | ((fail_if_success (fail_if_success (refine' is_sign_s_C ?_ ?_ ?_))); exact is_sign_s_C (by k_extra "k_ownIn") (by k_extra "k_ownIn") (by k_extra "k_ownIn")))
  | (show CallC _ _ 348 _ _ _; first | ((fail_if_success (fail_if_success (refine' is_kind0_n_C ?_ ?_))); exact is_kind0_n_C (by k_extra "k_ownIn") (by k_extra "k_ownIn")) | ((fail_if_success (fail_if_success (refine' is_kind_n_C ?_ ?_))); exact is_kind_n_C (by k_extra "k_ownIn") (by k_extra "k_ownIn")) | ((fail_if_success (fail_if_success (refine' is_kind0_s_C ?_ ?_ ?_))); exact is_kind0_s_C (by k_extra "k_ownIn") (by k_extra "k_ownIn") (by k_extra "k_ownIn")) | ((fail_if_success (fail_if_success (refine' is_kind_s_C ?_ ?_ ?_))); exact is_kind_s_C (by k_extra "k_ownIn") (by k_extra "k_ownIn") (by k_extra "k_ownIn")))
  | (show CallC _ _ 340 _ _ _; first | ((fail_if_success (fail_if_success (refine' CallC.weak (hκ' := hKP _) (KD.KP _) (take_s_C ?_)))); exact CallC.weak (hκ' := hKP _) (KD.KP _) (take_s_C (by k_extra "k_ownIn"))))
  | (show CallC _ _ 319 _ _ _; first | ((fail_if_success (fail_if_success (refine' peek0_n_C ?_ ?_))); exact peek0_n_C (by k_extra "k_ownIn") (by k_extra "k_ownIn")) | ((fail_if_success (fail_if_success (refine' peek0_s_C ?_ ?_))); exact peek0_s_C (by k_extra "k_ownIn") (by k_extra "k_ownIn")) | ((fail_if_success (fail_if_success (refine' peek_n_C ?_ ?_))); exact peek_n_C (by k_extra "k_ownIn") (by k_extra "k_ownIn")) | ((fail_if_success (fail_if_success (refine' peek_s_C ?_ ?_))); exact peek_s_C (by k_extra "k_ownIn") (by k_extra "k_ownIn")))
  | fail "got_up")
  exact True.intro
theorem read_op_AR_C {w : World} {r : RdI} {f : Fn} {C : Cx w KD f} {p : Int} {l : List Pr} (hc : calm l = true) (hr : Room C 16) : CallC C (RP w r p (("word", "A") :: ("word", "OF") :: ("word", "R") :: l)) 181 [.val (.ref r.rd), .val (.ref 188)] (.dt (.tup [.str "ref", .str "A", .tup [.str "R"], .tup [], .none])) (RP w r (p + 1 + 1 + 1) l) := by
  refine' CallC.of (lv0 := [("reader", .val (.ref r.rd)), ("read_expr", .val (.ref 188))]) ?k1 ?k2 ?k3 ?k4 ?k5 ?k6 ?k7 ?k8 ?k9
  case k1 => k_is
  case k2 => k_is
  case k6 => exact rfl
  case k7 => exact rfl
  case k8 => exact rfl
  case k9 => decide
  case k3 => exact hr.lt
  case k4 =>
    refine' bind2 (bs := fun v1 v2 => [("reader", v1), ("read_expr", v2)]) ?b1 ?b2 ?b3
    case b1 => (intros; exact BindsTo.of_eq (by kernel_rfl))
    case b2 => (intros; exact rfl)
    case b3 => (intro led1 v1 v2 o1 o2; (repeat (first | exact List.forall_mem_nil _ | refine List.forall_mem_cons.mpr ⟨⟨_, rfl, (by first | assumption | exact ⟨_, rfl⟩ | exact rfl)⟩, ?_⟩)))
  intro C' hA hst
  have hr' := hr.down hA
  refine Rt.fn ?_
  k_extra "kct_strs"
theorem calm_cons {k x : PySem.Str} {l : List Pr} (h : calm ((k, x) :: l) = true) : (k == "word" && x == "OF") = false ∧ (k == "word" && x == "IN") = false ∧ (k == "sign" && x == "(") = false := by
  unfold calm at h
  rw [Bool.and_eq_true, Bool.and_eq_true, Bool.not_eq_true', Bool.not_eq_true', Bool.not_eq_true'] at h
  exact ⟨h.1.1, h.1.2, h.2⟩
theorem RP.cast {w : World} {r : RdI} {p q : Int} {l : List Pr} (h : p = q) : RP w r p l = RP w r q l := by rw [h]
theorem read_op_k_C {w : World} {r : RdI} {f : Fn} {C : Cx w KD f} {p : Int} {l : List Pr} {k : Kd} (CD : CodeHd C.h₀ 236 232) (hc : calm l = true) (hr : Room C 16) : CallC C (RP w r p (k.toks ++ l)) 181 [.val (.ref r.rd), .val (.ref 188)] (.dt k.tree) (RP w r (p + (k.toks.length : Int)) l) := by
  cases k with
  | a =>
    cases l with
    | nil => exact read_op_A0_C hr
    | cons q l =>
      obtain ⟨kk, x⟩ := q
      obtain ⟨c1, c2, c3⟩ := calm_cons hc
      exact read_op_A_C c1 c2 c3 hr
  | ar => rw [RP.cast (show p + ((Kd.toks .ar).length : Int) = p + 1 + 1 + 1 from by show p + 3 = _; omega)]; exact read_op_AR_C hc hr
  | siz => exact read_op_lit_C (by decide +kernel) (by decide +kernel) hr
  | spc => exact read_op_lit_C (by decide +kernel) (by decide +kernel) hr
  | space => exact read_op_S_C hr
  | low => exact read_op_L_C hr
  | b => rw [RP.cast (show p + ((Kd.toks .b).length : Int) = p + 1 + 1 + 1 + 1 + 1 + 1 from by show p + 6 = _; omega)]; exact read_op_B_C CD (dec_2 w) (dec_1 w) hr
theorem op_here_C {w : World} {r : RdI} {f : Fn} {C : Cx w KD f} {p : Int} {l : List Pr} {k : Kd} {d : Dt} (hd : k.tree = d) (CD : CodeHd C.h₀ 236 232) (hc : calm l = true) (hr : Room C 17) : CallC C (RP w r p (k.toks ++ l)) 265 [.val (.ref r.rd)] (.dt d) (RP w r (p + (k.toks.length : Int)) l) := by
  subst hd
  refine' CallC.of (lv0 := [("reader", .val (.ref r.rd))]) ?k1 ?k2 ?k3 ?k4 ?k5 ?k6 ?k7 ?k8 ?k9
  case k1 => k_is
  case k2 => k_is
  case k6 => exact rfl
  case k7 => exact rfl
  case k8 => exact rfl
  case k9 => decide
  case k3 => exact hr.lt
  case k4 =>
    refine' bind1 (bs := fun v1 => [("reader", v1)]) ?b1 ?b2 ?b3
    case b1 => (intros; exact BindsTo.of_eq (by kernel_rfl))
    case b2 => (intros; exact rfl)
    case b3 => (intro led1 v1 o1; (repeat (first | exact List.forall_mem_nil _ | refine List.forall_mem_cons.mpr ⟨⟨_, rfl, (by first | assumption | exact ⟨_, rfl⟩ | exact rfl)⟩, ?_⟩)))
  intro C' hA hst
  have hr' := hr.down hA
  have CD' := CD.keeps hst
  refine Rt.fn ?_
  k_extra "kct_strs"
theorem text_here_C {w : World} {r : RdI} {f : Fn} {C : Cx w KD f} {p : Int} {l : List Pr} {k : Kd} {x0 : PySem.Str} {tl : List Dt} (hd : k.tree = .tup (.str x0 :: tl)) (hn : ([(PySem.Str.ofString "number"), "all"].any (· == x0)) = false) (CD : CodeHd C.h₀ 236 232) (hc : calm l = true) (hr : Room C 18) : CallC C (RP w r p (k.toks ++ l)) 272 [.val (.ref r.rd)] (.dt (.tup (.str x0 :: tl))) (RP w r (p + (k.toks.length : Int)) l) := by
  refine' CallC.of (lv0 := [("reader", .val (.ref r.rd))]) ?k1 ?k2 ?k3 ?k4 ?k5 ?k6 ?k7 ?k8 ?k9
  case k1 => k_is
  case k2 => k_is
  case k6 => exact rfl
  case k7 => exact rfl
  case k8 => exact rfl
  case k9 => decide
  case k3 => exact hr.lt
  case k4 =>
    refine' bind1 (bs := fun v1 => [("reader", v1)]) ?b1 ?b2 ?b3
    case b1 => (intros; exact BindsTo.of_eq (by kernel_rfl))
    case b2 => (intros; exact rfl)
    case b3 => (intro led1 v1 o1; (repeat (first | exact List.forall_mem_nil _ | refine List.forall_mem_cons.mpr ⟨⟨_, rfl, (by first | assumption | exact ⟨_, rfl⟩ | exact rfl)⟩, ?_⟩)))
  intro C' hA hst
  have hr' := hr.down hA
  have CD' := CD.keeps hst
  refine Rt.fn ?_
  k_extra "kct_strs"
end
section
open PySem PySem.W PySem.Spec PySem.Calls PyProof.Rows
theorem wordsT7 : True := by
  (k_with "k_ownIn" => first | exact BegO.num _ _ | exact BegO.all _ | fail "k_ownIn")
  (k_with "got_up" => first
  | (show CallC _ _ 181 _ _ _; first | ((fail_if_success (fail_if_success (refine' read_op_all_C ?_ ?_ ?_))); exact read_op_all_C (by k_extra "k_ownIn") (by k_extra "k_ownIn") (by k_extra "k_ownIn")) | ((fail_if_success (fail_if_success (refine' read_op_num_C ?_ ?_))); exact read_op_num_C (by k_extra "k_ownIn") (by k_extra "k_ownIn")))
  | (show CallC _ _ 167 _ _ _; first | ((fail_if_success (fail_if_success (refine' read_all_lit_C ?_ ?_ ?_))); exact read_all_lit_C (by k_extra "k_ownIn") (by k_extra "k_ownIn") (by k_extra "k_ownIn")))
  | (show CallC _ _ 160 _ _ _; first | ((fail_if_success (fail_if_success (refine' read_ref_A0_C ?_))); exact read_ref_A0_C (by k_extra "k_ownIn")) | ((fail_if_success (fail_if_success (refine' read_ref_A_C ?_ ?_ ?_ ?_))); exact read_ref_A_C (by k_extra "k_ownIn") (by k_extra "k_ownIn") (by k_extra "k_ownIn") (by k_extra "k_ownIn")) | ((fail_if_success (fail_if_success (refine' read_ref_B_C ?_ ?_ ?_ ?_))); exact read_ref_B_C (by k_extra "k_ownIn") (by k_extra "k_ownIn") (by k_extra "k_ownIn") (by k_extra "k_ownIn")))
  | fail "got_up")
  exact True.intro
theorem read_all_lit_C {w : World} {r : RdI} {f : Fn} {C : Cx w KD f} {p : Int} {l : List Pr} {x : PySem.Str} (h1 : x.cps.all (· < 128) = true) (h2 : x.cps.size ≤ 1000) (hr : Room C 6) : CallC C (RP w r p (("literal", x) :: l)) 167 [.val (.ref r.rd)] (.dt (.tup [.str "all", .bytes (bytesOf x)])) (RP w r (p + 1) l) := by
  refine' CallC.of (lv0 := [("reader", .val (.ref r.rd))]) ?k1 ?k2 ?k3 ?k4 ?k5 ?k6 ?k7 ?k8 ?k9
  case k1 => k_is
  case k2 => k_is
  case k6 => exact rfl
  case k7 => exact rfl
  case k8 => exact rfl
  case k9 => decide
  case k3 => exact hr.lt
  case k4 =>
    refine' bind1 (bs := fun v1 => [("reader", v1)]) ?b1 ?b2 ?b3
    case b1 => (intros; exact BindsTo.of_eq (by kernel_rfl))
    case b2 => (intros; exact rfl)
    case b3 => (intro led1 v1 o1; (repeat (first | exact List.forall_mem_nil _ | refine List.forall_mem_cons.mpr ⟨⟨_, rfl, (by first | assumption | exact ⟨_, rfl⟩ | exact rfl)⟩, ?_⟩)))
  intro C' hA hst
  have hr' := hr.down hA
  refine Rt.fn ?_
  k_extra "kct_strs"
theorem read_op_all_C {w : World} {r : RdI} {f : Fn} {C : Cx w KD f} {p : Int} {l : List Pr} {x : PySem.Str} (h1 : x.cps.all (· < 128) = true) (h2 : x.cps.size ≤ 1000) (hr : Room C 8) : CallC C (RP w r p (("word", "ALL") :: ("literal", x) :: l)) 181 [.val (.ref r.rd), .val (.ref 188)] (.dt (.tup [.str "all", .bytes (bytesOf x)])) (RP w r (p + 1 + 1) l) := by
  refine' CallC.of (lv0 := [("reader", .val (.ref r.rd)), ("read_expr", .val (.ref 188))]) ?k1 ?k2 ?k3 ?k4 ?k5 ?k6 ?k7 ?k8 ?k9
  case k1 => k_is
  case k2 => k_is
  case k6 => exact rfl
  case k7 => exact rfl
  case k8 => exact rfl
  case k9 => decide
  case k3 => exact hr.lt
  case k4 =>
    refine' bind2 (bs := fun v1 v2 => [("reader", v1), ("read_expr", v2)]) ?b1 ?b2 ?b3
    case b1 => (intros; exact BindsTo.of_eq (by kernel_rfl))
    case b2 => (intros; exact rfl)
    case b3 => (intro led1 v1 v2 o1 o2; (repeat (first | exact List.forall_mem_nil _ | refine List.forall_mem_cons.mpr ⟨⟨_, rfl, (by first | assumption | exact ⟨_, rfl⟩ | exact rfl)⟩, ?_⟩)))
  intro C' hA hst
  have hr' := hr.down hA
  refine Rt.fn ?_
  k_extra "kct_strs"
theorem op_all_C {w : World} {r : RdI} {f : Fn} {C : Cx w KD f} {p : Int} {l : List Pr} {x : PySem.Str} (h1 : x.cps.all (· < 128) = true) (h2 : x.cps.size ≤ 1000) (hr : Room C 9) : CallC C (RP w r p (("word", "ALL") :: ("literal", x) :: l)) 265 [.val (.ref r.rd)] (.dt (.tup [.str "all", .bytes (bytesOf x)])) (RP w r (p + 1 + 1) l) := by
  refine' CallC.of (lv0 := [("reader", .val (.ref r.rd))]) ?k1 ?k2 ?k3 ?k4 ?k5 ?k6 ?k7 ?k8 ?k9
  case k1 => k_is
  case k2 => k_is
  case k6 => exact rfl
  case k7 => exact rfl
  case k8 => exact rfl
  case k9 => decide
  case k3 => exact hr.lt
  case k4 =>
    refine' bind1 (bs := fun v1 => [("reader", v1)]) ?b1 ?b2 ?b3
    case b1 => (intros; exact BindsTo.of_eq (by kernel_rfl))
    case b2 => (intros; exact rfl)
    case b3 => (intro led1 v1 o1; (repeat (first | exact List.forall_mem_nil _ | refine List.forall_mem_cons.mpr ⟨⟨_, rfl, (by first | assumption | exact ⟨_, rfl⟩ | exact rfl)⟩, ?_⟩)))
  intro C' hA hst
  have hr' := hr.down hA
  refine Rt.fn ?_
  k_extra "kct_strs"
theorem op_num_C {w : World} {r : RdI} {f : Fn} {C : Cx w KD f} {p : Int} {l : List Pr} {x : PySem.Str} {d : Int} (hD : Dec w x d) (hr : Room C 9) : CallC C (RP w r p (("number", x) :: l)) 265 [.val (.ref r.rd)] (.dt (.tup [.str "number", .tup [.int d, .int 0]])) (RP w r (p + 1) l) := by
  refine' CallC.of (lv0 := [("reader", .val (.ref r.rd))]) ?k1 ?k2 ?k3 ?k4 ?k5 ?k6 ?k7 ?k8 ?k9
  case k1 => k_is
  case k2 => k_is
  case k6 => exact rfl
  case k7 => exact rfl
  case k8 => exact rfl
  case k9 => decide
  case k3 => exact hr.lt
  case k4 =>
    refine' bind1 (bs := fun v1 => [("reader", v1)]) ?b1 ?b2 ?b3
    case b1 => (intros; exact BindsTo.of_eq (by kernel_rfl))
    case b2 => (intros; exact rfl)
    case b3 => (intro led1 v1 o1; (repeat (first | exact List.forall_mem_nil _ | refine List.forall_mem_cons.mpr ⟨⟨_, rfl, (by first | assumption | exact ⟨_, rfl⟩ | exact rfl)⟩, ?_⟩)))
  intro C' hA hst
  have hr' := hr.down hA
  refine Rt.fn ?_
  k_extra "kct_strs"
theorem NumOk.dec {t : Tk} {d : Int} (h : NumOk t d) (w : World) : Dec w t.x d := by
  rcases h.2 with ⟨h1, h2⟩ | ⟨h1, h2⟩ | ⟨h1, h2⟩ | ⟨h1, h2⟩ <;> rw [h1, h2]
  · exact dec_0 w
  · exact dec_1 w
  · exact dec_2 w
  · exact dec_7 w
theorem byT_del (b : Bool) (d : Option Kd) (l : List Pr) : b = false → ∃ k x l', byT b ++ (delT d ++ l) = (k, x) :: l' ∧ delT d ++ l = (k, x) :: l' ∧ (k == ("word" : PySem.Str) && x == ("BY" : PySem.Str)) = false := by
  rintro rfl
  obtain ⟨k, x, l', e, h⟩ := delT_head d l
  exact ⟨k, x, l', e, e, by rw [h, Bool.and_false]⟩
section
variable {w : World} {mean : ExcName → Option Value} {pq : Program} {lq : List PySem.Str} {mg mb : PySem.Str → Option Value} {dp un : Nat} {gd : Option (List Code)} {cn : PySem.Str} {cs : Scope} {a : Addr} {ccd : Value} {cl : List (PySem.Str × Addr)} {outer : List Env} {A₀ : Around} {base h₀ : Heap} {L : Addr} {m : PySem.Str → Option Value} {s : Shared}
  {Q E : Value → Shared → Prop} {led : List (Addr × Obj)} {r : RdI} {p : Int} {tp : Tok}
  (B : Below A₀ base outer h₀) (F : Fr h₀ L s.heap m) (X : (hd0.heap_1 w.params).In h₀) (N : News h₀ L s.heap led) (T : Top pq lq mean mg mb h₀) (hk : cs.kind = .function) (R : Rdr w r p tp led)
include B F X N T hk R

theorem need_R {l : List Pr} {xt : Tok} (H : Rest r.T p (("word", "DELIMITED") :: l)) (hdp : dp + 5 < recursionLimit) (hun : un + 40 < cLine)
    (hret : ∀ led' tp' p' h' tk', Fr h₀ L h' m → News h₀ L h' led' → Keeps led led' → Rdr w r p' tp' led' → Rest r.T p' (l) → Q (.none) { s with heap := h', toks := tk' }) :
    wpAny (model P0 w) (ktrTop dp un gd cn cs L a ccd cl outer) (call (.ref 369) [.ref r.rd, .str "DELIMITED" xt]) Q E s :=
  cpsK B F X N T hk R (hKP r) (KD.KP r) H (fun C _ hr => need_t_C (by decide +kernel) (by decide +kernel) hr) ⟨rfl, ⟨_, rfl⟩, trivial⟩ hdp hun fun u h' tk' led' tp' F' N' K' R' H' e => by
    have e' : u = .none := e
    subst e'
    exact hret _ _ _ _ _ F' N' K' R' H'
theorem skip_t_R {W : PySem.Str} (hW : Txt.split W " " = [W]) (hl : Nat.ble (W.length + 2) 1000 = true) {l : List Pr} {xt : Tok} (H : Rest r.T p (("word", W) :: l)) (hdp : dp + 4 < recursionLimit) (hun : un + 32 < cLine)
    (hret : ∀ led' tp' p' h' tk', Fr h₀ L h' m → News h₀ L h' led' → Keeps led led' → Rdr w r p' tp' led' → Rest r.T p' (l) → Q (.bool true) { s with heap := h', toks := tk' }) :
    wpAny (model P0 w) (ktrTop dp un gd cn cs L a ccd cl outer) (call (.ref 362) [.ref r.rd, .str W xt]) Q E s :=
  cpsK B F X N T hk R (hKP r) (KD.KP r) H (fun C _ hr => skip_t_C hW hl hr) ⟨rfl, ⟨_, rfl⟩, trivial⟩ hdp hun fun u h' tk' led' tp' F' N' K' R' H' e => by
    have e' : u = .bool true := e
    subst e'
    exact hret _ _ _ _ _ F' N' K' R' H'
theorem skip_f_R {W : PySem.Str} (hW : Txt.split W " " = [W]) (hl : Nat.ble (W.length + 2) 1000 = true) {k x : PySem.Str} {l : List Pr} {xt : Tok} (H : Rest r.T p ((k, x) :: l)) (hb : (k == "word" && x == W) = false) (hdp : dp + 4 < recursionLimit) (hun : un + 32 < cLine)
    (hret : ∀ h' tk', Fr h₀ L h' m → News h₀ L h' led → Q (.bool false) { s with heap := h', toks := tk' }) :
    wpAny (model P0 w) (ktrTop dp un gd cn cs L a ccd cl outer) (call (.ref 362) [.ref r.rd, .str W xt]) Q E s :=
  cpsS B F X N T hk R H (fun C hr => skip_f_C hW hl rfl hb (KF.all r) hr) ⟨rfl, ⟨_, rfl⟩, trivial⟩ hdp hun fun u h' tk' led' F' N' e => by
    have e' : u = .bool false := e
    subst e'
    exact hret _ _ F' N'
theorem skip_by_R {b : Bool} {d : Option Kd} {l : List Pr} {xt : Tok} (H : Rest r.T p (byT b ++ (delT d ++ l))) (hdp : dp + 4 < recursionLimit) (hun : un + 32 < cLine)
    (hret : ∀ led' tp' p' h' tk', Fr h₀ L h' m → News h₀ L h' led' → Keeps led led' → Rdr w r p' tp' led' → Rest r.T p' (delT d ++ l) → Q (.bool b) { s with heap := h', toks := tk' }) :
    wpAny (model P0 w) (ktrTop dp un gd cn cs L a ccd cl outer) (call (.ref 362) [.ref r.rd, .str "BY" xt]) Q E s := by
  cases b with
  | true => exact skip_t_R B F X N T hk R (by decide +kernel) (by decide +kernel) H hdp hun hret
  | false =>
    obtain ⟨k, x, l', e1, e2, e3⟩ := byT_del false d l rfl
    have H2 := H
    rw [e1] at H2
    exact skip_f_R B F X N T hk R (by decide +kernel) (by decide +kernel) H2 e3 hdp hun fun h' tk' F' N' => hret _ _ _ _ _ F' N' (Keeps.refl _) R H
theorem skip_by_R2 {l : List Pr} {xt : Tok} (H : Rest r.T p (("word", "BY") :: l)) (hdp : dp + 4 < recursionLimit) (hun : un + 32 < cLine)
    (hret : ∀ led' tp' p' h' tk', Fr h₀ L h' m → News h₀ L h' led' → Keeps led led' → Rdr w r p' tp' led' → Rest r.T p' (l) → Q (.bool true) { s with heap := h', toks := tk' }) :
    wpAny (model P0 w) (ktrTop dp un gd cn cs L a ccd cl outer) (call (.ref 362) [.ref r.rd, .str "BY" xt]) Q E s := skip_t_R B F X N T hk R (by decide +kernel) (by decide +kernel) H hdp hun hret
theorem skip_size_t_R {l : List Pr} {xt : Tok} (H : Rest r.T p (delT none ++ l)) (hdp : dp + 4 < recursionLimit) (hun : un + 32 < cLine)
    (hret : ∀ led' tp' p' h' tk', Fr h₀ L h' m → News h₀ L h' led' → Keeps led led' → Rdr w r p' tp' led' → Rest r.T p' (l) → Q (.bool true) { s with heap := h', toks := tk' }) :
    wpAny (model P0 w) (ktrTop dp un gd cn cs L a ccd cl outer) (call (.ref 362) [.ref r.rd, .str "SIZE" xt]) Q E s := skip_t_R B F X N T hk R (by decide +kernel) (by decide +kernel) H hdp hun hret
theorem skip_size_f_R {k : Kd} {l : List Pr} {xt : Tok} (H : Rest r.T p (delT (some k) ++ l)) (hdp : dp + 4 < recursionLimit) (hun : un + 32 < cLine)
    (hret : ∀ h' tk', Fr h₀ L h' m → News h₀ L h' led → Q (.bool false) { s with heap := h', toks := tk' }) :
    wpAny (model P0 w) (ktrTop dp un gd cn cs L a ccd cl outer) (call (.ref 362) [.ref r.rd, .str "SIZE" xt]) Q E s := by
  obtain ⟨kk, x, l', e, he⟩ := Kd.head_size k l
  have H2 : Rest r.T p (k.toks ++ l) := H
  rw [e] at H2
  exact skip_f_R B F X N T hk R (by decide +kernel) (by decide +kernel) H2 he hdp hun hret
theorem skip_size_R2 {l : List Pr} {x : PySem.Str} {xt : Tok} (H : Rest r.T p (("number", x) :: l)) (hdp : dp + 4 < recursionLimit) (hun : un + 32 < cLine)
    (hret : ∀ h' tk', Fr h₀ L h' m → News h₀ L h' led → Q (.bool false) { s with heap := h', toks := tk' }) :
    wpAny (model P0 w) (ktrTop dp un gd cn cs L a ccd cl outer) (call (.ref 362) [.ref r.rd, .str "SIZE" xt]) Q E s := skip_f_R B F X N T hk R (by decide +kernel) (by decide +kernel) H (andF1 (by decide +kernel)) hdp hun hret
theorem skip_f_delimited {o : Option Tk} (hT : r.T[p.toNat]? = o) {xt : Tok} (q1 : worthIs o "word" "DELIMITED" = false) (hdp : dp + 4 < recursionLimit) (hun : un + 32 < cLine)
    (hret : ∀ h' tk', Fr h₀ L h' m → News h₀ L h' led → Q (.bool false) { s with heap := h', toks := tk' }) :
    wpAny (model P0 w) (ktrTop dp un gd cn cs L a ccd cl outer) (call (.ref 362) [.ref r.rd, .str "DELIMITED" xt]) Q E s := by
  cases o with
  | none =>
    exact cpsS B F X N T hk R (rest_none R.p0 hT) (fun C hr => skip_n_C (by decide +kernel) (by decide +kernel) rfl (KF.all r) hr) ⟨rfl, ⟨_, rfl⟩, trivial⟩ hdp hun fun u h' tk' led' F' N' e => by
      have e' : u = .bool false := e
      subst e'
      exact hret _ _ F' N'
  | some t => exact skip_f_R B F X N T hk R (by decide +kernel) (by decide +kernel) (rest_some R.p0 hT) q1 hdp hun hret
theorem bt_R {l : List Pr} {b : Bool} (H : Rest r.T p l) (hb : BegT l b) (hdp : dp + 6 < recursionLimit) (hun : un + 48 < cLine)
    (hret : ∀ h' tk', Fr h₀ L h' m → News h₀ L h' led → Q (.bool b) { s with heap := h', toks := tk' }) :
    wpAny (model P0 w) (ktrTop dp un gd cn cs L a ccd cl outer) (call (.ref 279) [.ref r.rd]) Q E s :=
  cpsS B F X N T hk R H (fun C hr => bt_C hb hr) ⟨rfl, trivial⟩ hdp hun fun u h' tk' led' F' N' e => by
    have e' : u = .bool b := e
    subst e'
    exact hret _ _ F' N'
theorem text_here (CD : CodeHd h₀ 236 232) {k : Kd} {l : List Pr} (H : Rest r.T p (k.toks ++ l)) (hc : calm l = true) (hdp : dp + 18 < recursionLimit) (hun : un + 144 < cLine)
    (hret : ∀ led' tp' v p' h' tk', Fr h₀ L h' m → News h₀ L h' led' → Keeps led led' → Rdr w r p' tp' led' → Rest r.T p' l → DV led' v k.tree → Q v { s with heap := h', toks := tk' }) :
    wpAny (model P0 w) (ktrTop dp un gd cn cs L a ccd cl outer) (call (.ref 272) [.ref r.rd]) Q E s := by
  obtain ⟨hd, tl, e, hh⟩ := k.tree_tup
  have hn : ([(PySem.Str.ofString "number"), "all"].any (· == hd)) = false := by rcases hh with rfl | rfl | rfl <;> decide +kernel
  exact cpsK B F X N T hk R hKD (fun _ h => h) H (fun C hC hr => text_here_C e hn (hC ▸ CD) hc hr) ⟨rfl, trivial⟩ hdp hun fun u h' tk' led' tp' F' N' K' R' H' D' => hret _ _ _ _ _ _ F' N' K' R' H' (e ▸ D')
theorem oph_all {t t1 : Tk} {l : List Pr} (H : Rest r.T p l) (hb : BegO l true) (hT : r.T[p.toNat]? = some t) (hx1 : t.k = "word") (hx2 : t.x = "ALL") (hT1 : r.T[(p + 1).toNat]? = some t1) (hk1 : t1.k = "literal") (h1 : t1.x.cps.all (· < 128) = true) (h2 : t1.x.cps.size ≤ 1000) (hdp : dp + 9 < recursionLimit) (hun : un + 72 < cLine)
    (hret : ∀ led' tp' v h' tk', Fr h₀ L h' m → News h₀ L h' led' → Keeps led led' → Rdr w r (p + 1 + 1) tp' led' → DV led' v (.tup [.str "all", .bytes (bytesOf t1.x)]) → Q v { s with heap := h', toks := tk' }) :
    wpAny (model P0 w) (ktrTop dp un gd cn cs L a ccd cl outer) (call (.ref 265) [.ref r.rd]) Q E s := by
  have H1 := rest_some R.p0 hT
  have H2 := rest_some (p := p + 1) (by have := R.p0; omega) hT1
  have H3 : Rest r.T p ((("word", "ALL") : Pr) :: (("literal", t1.x) : Pr) :: restOf r.T (p + 1 + 1)) := by
    have e := H2.2
    rw [hk1] at e
    have : restOf r.T (p + 1) = (((PySem.Str.ofString "literal"), t1.x) : Pr) :: restOf r.T (p + 1 + 1) := e
    rw [hx1, hx2, this] at H1
    exact H1
  exact cpsK B F X N T hk R hKD (fun _ h => h) H3 (fun C _ hr => op_all_C h1 h2 hr) ⟨rfl, trivial⟩ hdp hun fun u h' tk' led' tp' F' N' K' R' H' D' => hret _ _ _ _ _ F' N' K' R' D'
theorem oph_num {t : Tk} {d : Int} {l : List Pr} (H : Rest r.T p l) (hb : BegO l true) (hT : r.T[p.toNat]? = some t) (hn : NumOk t d) (hdp : dp + 9 < recursionLimit) (hun : un + 72 < cLine)
    (hret : ∀ led' tp' v h' tk', Fr h₀ L h' m → News h₀ L h' led' → Keeps led led' → Rdr w r (p + 1) tp' led' → DV led' v (.tup [.str "number", .tup [.int d, .int 0]]) → Q v { s with heap := h', toks := tk' }) :
    wpAny (model P0 w) (ktrTop dp un gd cn cs L a ccd cl outer) (call (.ref 265) [.ref r.rd]) Q E s := by
  have H1 := rest_some R.p0 hT
  rw [hn.1] at H1
  exact cpsK B F X N T hk R hKD (fun _ h => h) H1 (fun C _ hr => op_num_C (hn.dec w) hr) ⟨rfl, trivial⟩ hdp hun fun u h' tk' led' tp' F' N' K' R' H' D' => hret _ _ _ _ _ F' N' K' R' D'
end
end
section
open PySem PySem.W PySem.Spec PySem.Calls PyProof.Rows
abbrev bm72 : List Value := [.ref 47, .type "Exception", .type "BaseException", .type "object"]
abbrev c72 : Obj := excClassObj "GrammarFault" "GrammarFault" 72 71 [.ref 47] bm72 true [] [] false none none (some (.ref 63)) none (some (.str "GrammarFault" 252)) (some (.str "GrammarFault" 260)) (some (.bool true)) "Exception.__new__"
theorem k72 (w : World) : (hd0.heap_1 w.params).lookup 72 = some c72 := by k_is
abbrev excT (t : Addr) (dd : Option Addr) : Obj := { cls := .ref 72, dict := dd, data := .fields #[.ref t, .none, .none, .none, .bool false, .none] }
abbrev tupO (vs : List Value) : Obj := { cls := .type "tuple", data := .seq vs.toArray }
section
variable {prog : Program} {w : World} {A : Around} {R : Result → Shared → Prop} {E : Value → Shared → Prop} {h : Heap} {g : Array GenState} {d : Drawn} {t : Nat} {os : OsState}
theorem check_new72 {M : Model} {rest : List Value} {Q : Unit → Shared → Prop} (hC : h.get? 72 = some c72) (hq : Q () ⟨h, g, d, t, os⟩) : wpAny M A (checkBuiltinCall "Exception.__new__" ⟨.ref 72 :: rest, []⟩) Q E ⟨h, g, d, t, os⟩ := by
  have Fn := PySem.F.excBase_Exception
  have hcont : (Value.ref 72 :: bm72).contains (.type "Exception") = true := by decide +kernel
  have hstar := Fn.noStar
  simp only [checkBuiltinCall, Fn.newKind, Fn.newSplit, Fn.newRow]
  repeat (first | refine wpAny_loadPart_at hC ?_ | (refine wpAny_isSubtype_exc hC ?_; rw [hcont]) | refine wpAny_staticBase_exc hC ?_ | refine wpAny_madeBy_exc hC ?_ | simp only [bne_self_eq_false, Bool.false_eq_true, if_false] | wp_step)
  exact hq
theorem new72 {rest : List Value} (hC : h.get? 72 = some c72) (hrest : rest.length ≤ sizeLine)
    (hq : R (.ok (.ret (.ref (h.objs.size + 1)))) ⟨(h.push (tupO rest)).push (excT h.objs.size none), g, d, t, os⟩) :
    codeAny (model prog w) A (.builtin "Exception.__new__" ⟨.ref 72 :: rest, []⟩) R ⟨h, g, d, t, os⟩ := by
  have Fn := PySem.F.excBase_Exception
  have hends := Fn.ends
  have hcB : (Value.ref 72 :: bm72).contains (.type "Exception") = true := by decide +kernel
  have hcA : (Value.ref 72 :: bm72).contains (.type "AttributeError") = false := by decide +kernel
  have hcN : (Value.ref 72 :: bm72).contains (.type "NameError") = false := by decide +kernel
  refine codeAny_builtinAt Fn.entry ?_
  unfold Builtin.«BaseException.__new__»
  refine PySem.wpAt_bind ?_
  show PySem.wpAt _ _ _ (stack >>= _) _ _ _
  refine PySem.wpAt_bind (PySem.wpAt_stack fun p below => PySem.wpAt_of_wpAny ?_)
  wp_walk
  refine PySem.wpAt_of_wpAny ?_
  rw [Fn.owner]
  repeat (first | with_reducible refine wpAny_madeHere_exc Fn.canon hC ?_ | with_reducible refine wpAny_loadPart_at hC ?_ | (with_reducible refine wpAny_isSubtype_exc hC ?_; first | rw [hcB] | rw [hcA] | rw [hcN]) | wp_step)
  show R _ _
  rw [Heap.size_push]
  exact hq
end
end
section
open PySem PySem.W PySem.Spec PySem.Calls PyProof.Rows
section
variable {prog : Program} {w : World} {A : Around} {R : Result → Shared → Prop} {E : Value → Shared → Prop} {h : Heap} {g : Array GenState} {d : Drawn} {t : Nat} {os : OsState}
theorem makeE_core {rest : List Value} (X : (hd0.heap_1 w.params).In h) (hrest : rest.length ≤ sizeLine)
    (hq : codeAny (model prog w) (A.under (.builtin "type.__call__" ⟨.ref 72 :: rest, []⟩)) (.call (.ref 37) ⟨.ref (h.objs.size + 1) :: rest, []⟩) (InitBack (h.objs.size + 1) R) ⟨(h.push (tupO rest)).push (excT h.objs.size none), g, d, t, os⟩) :
    codeAny (model prog w) A (.call (.ref 72) ⟨rest, []⟩) R ⟨h, g, d, t, os⟩ := by
  have Fn := PySem.F.excBase_Exception
  have hC : h.get? 72 = some c72 := X _ _ (k72 w)
  have call : Looks (model prog w) h (specialOf (.ref 72) "__call__") (some (.builtin "type.__call__")) := looks_specialIn X (by k_is)
  have typ : Looks (model prog w) h (isInstance (.ref 72) (.type "type")) true := looks_instIn X (by k_is)
  refine codeAny_of_tree ?_
  show wpAny _ _ (callAny (.ref 72) _) _ _ _
  refine nd_load hC ?_
  show wpAny _ _ (callAny.viaDunder (.ref 72) _) _ _ _
  unfold callAny.viaDunder
  refine wpAny_bind (call.at ?_)
  dsimp only
  rw [tc_bind]
  refine wpAny_bind (wpAny_pure (wpAny_bind (wpAny_pure ?_)))
  refine wpAny_pure (a := Fin.again (.call (.builtin "type.__call__") ⟨.ref 72 :: rest, []⟩)) (And.intro rfl ?_)
  refine codeAny_call_builtin_at (Code.quiet_builtin _ (by decide +kernel)) entry_typeCall (check_slot tc_kind tc_split typ (tc_args _ _ _) ?_)
  unfold Builtin.«type.__call__»
  repeat (first | with_reducible refine wpAny_loadPart_at hC ?_ | with_reducible refine wpAny_madeBy_exc hC ?_ | wp_step)
  refine codeAny_call_builtin_code (Code.quiet_builtin _ Fn.quiet) (check_new72 hC ?_)
  refine new72 hC hrest ?_
  show wpAny _ _ _ _ _ _
  have k : ∀ b o, h.get? b = some o → ((h.push (tupO rest)).push (excT h.objs.size none)).get? b = some o := fun b o e => Heap.get?_push_of_some _ (Heap.get?_push_of_some _ e)
  have hx : ((h.push (tupO rest)).push (excT h.objs.size none)).get? (h.objs.size + 1) = some (excT h.objs.size none) := by heap_get
  have X₁ : (hd0.heap_1 w.params).In ((h.push (tupO rest)).push (excT h.objs.size none)) := X.keeps k
  have hC₁ := k _ _ hC
  have hcC : (Value.ref 72 :: bm72).contains (.ref 72) = true := by decide +kernel
  have hi : Looks (model prog w) ((h.push (tupO rest)).push (excT h.objs.size none)) (typeLookup (.ref 72) "__init__") (some (.ref 37)) := looks_findIn X₁ (by k_is)
  have hb : Looks (model prog w) ((h.push (tupO rest)).push (excT h.objs.size none)) (bindSpecial (.ref 37) (.ref (h.objs.size + 1))) (.ref 37, [.ref (h.objs.size + 1)]) := bind_fn X₁ _ (by k_is)
  unfold isInstance
  repeat (first | with_reducible refine wpAny_loadPart_at hx ?_ | (with_reducible refine wpAny_isSubtype_exc hC₁ ?_; rw [hcC]) | wp_step)
  show wpAny _ _ (typeLookup (.ref 72) _) _ _ _
  refine hi.here ?_
  refine wpAny_holding (wpAny_bind (hb.here ?_))
  refine wpAny_bind (wpAny_call (codeAny_mono hq fun r s' z => ?_))
  rcases r with e | (v | _ | _ | _) <;> first | exact z | exact z.elim | skip
  obtain ⟨rfl, z⟩ := z
  exact wpAny_pure (wpAny_pure z)
theorem makeE {s : Shared} {h₀ : Heap} {L : Addr} {m : PySem.Str → Option Value} {news : List (Addr × Obj)} {rest : List Value} {Q : Value → Shared → Prop} (F : Fr h₀ L s.heap m) (X₀ : (hd0.heap_1 w.params).In h₀) (N : News h₀ L s.heap news) (hz : rest.length ≤ sizeLine)
    (h : ∀ e t h', Fr h₀ L h' m → News h₀ L h' ((e, excT t none) :: (t, tupO rest) :: news) → (∀ p ∈ news, p.1 < t) → t < e →
      codeAny (model prog w) (A.under (.builtin "type.__call__" ⟨.ref 72 :: rest, []⟩)) (.call (.ref 37) ⟨.ref e :: rest, []⟩) (InitBack e fun r s' => match r with | .ok (.ret v) => Q v s' | .ok _ => False | .error x => E x s') { s with heap := h' }) :
    wpAny (model prog w) A (call (.ref 72) rest []) Q E s := by
  obtain ⟨hh, g, d, t, os⟩ := s
  refine wpAny_call (makeE_core (X₀.keeps F.keep) hz (h _ hh.objs.size _ ((F.push _).push _) ?_ (fun p hp => Heap.lt_size (N p hp).1) (Nat.lt_succ_self _)))
  have := (N.push F (tupO rest)).push (F.push _) (excT hh.objs.size none)
  rwa [Heap.size_push] at this
end
end
section
open PySem PySem.W PySem.Spec PySem.Calls PyProof.Rows PySem.Builtin PySem.Builtin.ObjectAttr
section
variable {prog : Program} {w : World} {A : Around} {R : Result → Shared → Prop} {E : Value → Shared → Prop} {s : Shared} {h₀ : Heap} {L x dx : Addr} {m : PySem.Str → Option Value} {pre post news : List (Addr × Obj)} {ox od' : Obj} {od : Option Obj} {name : PySem.Str} {tk : Tok} {v : Value} {es : List DictEntry} {n : Nat}
theorem osaE (X : (hd0.heap_1 w.params).In s.heap) (I : PySem.W.InstAt s.heap x ox 72 od) (ht : takerIn (hd0.heap_1 w.params) 72 name = some none)
    (h : ∀ b, wpAny (model prog w) A.in1 (storeInOwnDict (.ref x) (.ref 72) (.str name tk) name v b)
      (fun fin s' => match fin with | .done f => R (.ok f) s' | .again c' => c'.quiet = true ∧ codeAny (model prog w) A c' R s') (fun e s' => R (.error e) s') s) :
    codeAny (model prog w) A (.call (.builtin "object.__setattr__") ⟨[.ref x, .str name tk, v], []⟩) R s := by
  have SF := PySem.F.store_object
  have hc : ∃ cd, clsIn (hd0.heap_1 w.params) 72 = some cd ∧ cd.mro = .ref 72 :: bm72 := ⟨_, by unfold clsIn; rw [k72], rfl⟩
  obtain ⟨cd, hc, hmro⟩ := hc
  have sub : Looks (model prog w) s.heap (isInstance (.ref x) (.type "object")) true := I.type.andThen (looks_mroIn X (by k_is))
  refine codeAny_call_builtin SF.slot.plain SF.entry (@check_slot (model prog w) _ _ s "object.__setattr__" "object" "__setattr__" (.ref x) [.str name tk, v] [] _ SF.kind SF.split sub (SF.args (.ref x) (.str name tk) v) ?_)
  obtain ⟨attr, ha, hr⟩ := Option.bind_eq_some_iff.mp ht
  have hm : Looks (model prog w) s.heap (mroOf (.ref 72)) (.ref 72 :: bm72) := by rw [← hmro]; exact (looks_clsIn X hc).andThen .now
  have L3 : Looks (model prog w) s.heap (storeTaker? attr) none := by
    cases attr with
    | none => exact .now
    | some a =>
      obtain ⟨b, hb, hz⟩ := Option.map_eq_some_iff.mp hr
      refine (looks_takesIn X hb).andThen ?_
      cases b
      · exact .now
      · cases hz
  rw [osa_eq, refuse_eq]
  refine wpAny_bind (wpAny_bind (I.type.here (wpAny_bind (hm.here ?_))))
  rw [refuseLoop_ref, refuseLoop_ref, PySem.F.store_Exception.passes]
  refine wpAny_pure (wpAny_bind (I.type.here (wpAny_bind ((looks_findIn X ha).here (wpAny_bind (L3.here ?_))))))
  exact h _
theorem storeD {Q : Fin → Shared → Prop} {od : Obj} (F : Fr h₀ L s.heap m) (N : News h₀ L s.heap (pre ++ (dx, od) :: post)) (hl : (lookIn name od).isSome = true) (h1 : ∀ p ∈ pre, p.1 ≠ dx) (h2 : ∀ p ∈ post, p.1 ≠ dx)
    (e : Obj.putName name (PyData.keyHash w.params name) (.str name s.toks) v od = od') (e' : od'.data = .dict es.toArray n) (hz : es.length ≤ 1000)
    (h : ∀ h', Fr h₀ L h' m → News h₀ L h' (pre ++ (dx, od') :: post) → Q (.done (.ret .none)) { s with heap := h', toks := s.toks + 1 }) :
    wpAny (model prog w) A (storeInDict dx (.str name tk) name v) Q E s := by
  obtain ⟨U1, U2⟩ := news_upd (f := Obj.putName name (PyData.keyHash w.params name) (.str name s.toks) v) F N h1 h2 e (by obtain ⟨_, _, dd, _⟩ := od'; cases e'; rfl)
  have D := (N (dx, od) (by simp)).1
  have D' := (U2 (dx, od') (by simp)).1
  unfold storeInDict newKeyGuard
  refine wpAny_bind (wpAny_pure (wpAny_bind ?_))
  unfold nsSet
  refine wpAny_bind (wpAny_bind (wpAny_askSetting (wpAny_pure (wpAny_bind (wpAny_mkText (wpAny_bind (wpAny_loadPart D ?_)))))))
  unfold lookIn at hl
  split at hl
  · rename_i es₀ n₀ q
    rw [q]
    dsimp only
    have c : (!es₀.any (·.key.isStr name) && es₀.any (·.refKey)) = false := by
      rw [← Array.any_toList, ← Array.any_toList]
      split at hl
      · rename_i en he
        rw [List.any_eq_true.mpr ⟨en, List.mem_of_find?_eq_some he, List.find?_some he⟩]; rfl
      · split at hl
        · cases hl
        · rename_i z; rw [Bool.not_eq_true] at z; rw [z, Bool.and_false]
    rw [aRefKeyMayBeTheName_at, c]
    refine wpAny_updatePart D ?_
    refine wpAny_bind (wpAny_lookBehind D' (by rw [e']; exact pastItsLine_dict (by rw [List.size_toArray, sizeLine_eq]; omega)) ?_)
    exact wpAny_pure (h _ U1 U2)
  · cases hl
theorem setE_old {Q : Unit → Shared → Prop} {t : Addr} {es' : List DictEntry} {n' : Nat} (F : Fr h₀ L s.heap m) (X₀ : (hd0.heap_1 w.params).In h₀) (N : News h₀ L s.heap ((x, excT t (some dx)) :: (dx, dictOf es n) :: post)) (hx : x ≠ dx) (h2 : ∀ p ∈ post, p.1 ≠ dx)
    (ht : takerIn (hd0.heap_1 w.params) 72 name = some none) (hl : (getL name es).isSome = true)
    (e : (putL name (PyData.keyHash w.params name) (.str name (s.toks + 1)) v es, putN name es n) = (es', n')) (hz : es'.length ≤ 1000)
    (h : ∀ h', Fr h₀ L h' m → News h₀ L h' ((x, excT t (some dx)) :: (dx, dictOf es' n') :: post) → Q () { s with heap := h', toks := s.toks + 2 }) :
    wpAny (model prog w) A (setAttr (.ref x) name v) Q E s := by
  obtain ⟨e1, e2⟩ := Prod.mk.inj e
  have I : PySem.W.InstAt s.heap x (excT t (some dx)) 72 (some (dictOf es n)) := ⟨(N _ (.head _)).1, rfl, rfl, (N _ (.tail _ (.head _))).1⟩
  refine set_plain (X₀.keeps F.keep) I (by k_is) (osaE (s := { s with toks := s.toks + 1 }) (X₀.keeps F.keep) I ht fun b => ?_)
  have hc : ∃ cd, clsIn (hd0.heap_1 w.params) 72 = some cd ∧ cd.hasDict = true := ⟨_, by unfold clsIn; rw [k72], rfl⟩
  obtain ⟨cd, hc, hd'⟩ := hc
  have hxx := (N _ (.head _)).1
  refine wpAny_bind (wpAny_pure (wpAny_bind (wpAny_bind (wpAny_loadPart hxx (wpAny_bind (Looks.here (s := { s with toks := s.toks + 1 }) (looks_clsIn (X₀.keeps F.keep) hc) ?_))))))
  rw [hd']
  refine wpAny_pure (a := some dx) ?_
  dsimp only
  refine storeD (s := { s with toks := s.toks + 1 }) (pre := [(x, excT t (some dx))]) F N hl (fun p hp => by rw [List.mem_singleton.mp hp]; exact hx) h2 (by rw [putName_dict, e1, e2]) rfl hz fun h' F' N' => h h' F' N'
theorem setE_new {Q : Unit → Shared → Prop} {t : Addr} (F : Fr h₀ L s.heap m) (X₀ : (hd0.heap_1 w.params).In h₀) (N : News h₀ L s.heap ((x, excT t none) :: news)) (h2 : ∀ p ∈ news, p.1 ≠ x)
    (ht : takerIn (hd0.heap_1 w.params) 72 name = some none)
    (h : ∀ dx h' tk u, Fr h₀ L h' m → News h₀ L h' ((x, excT t (some dx)) :: (dx, dictOf [⟨PyData.keyHash w.params name, .str name u, v⟩] 1) :: news) → (∀ p ∈ news, p.1 < dx) → x < dx → Q () { s with heap := h', toks := tk }) :
    wpAny (model prog w) A (setAttr (.ref x) name v) Q E s := by
  have I : PySem.W.InstAt s.heap x (excT t none) 72 none := ⟨(N _ (.head _)).1, rfl, rfl, trivial⟩
  refine set_plain (X₀.keeps F.keep) I (by k_is) (osaE (s := { s with toks := s.toks + 1 }) (X₀.keeps F.keep) I ht fun b => ?_)
  have hc : ∃ cd, clsIn (hd0.heap_1 w.params) 72 = some cd ∧ cd.hasDict = true := ⟨_, by unfold clsIn; rw [k72], rfl⟩
  obtain ⟨cd, hc, hd'⟩ := hc
  have hxx := (N _ (.head _)).1
  refine wpAny_bind (wpAny_pure (wpAny_bind (wpAny_bind (wpAny_loadPart hxx (wpAny_bind (Looks.here (s := { s with toks := s.toks + 1 }) (looks_clsIn (X₀.keeps F.keep) hc) ?_))))))
  rw [hd']
  have hx₁ : (s.heap.push emptyDict).get? x = some (excT t none) := Heap.get?_push_of_some _ hxx
  have N1 := N.push F emptyDict
  have lt : ∀ p ∈ (x, excT t none) :: news, p.1 < s.heap.objs.size := fun p hp => Heap.lt_size (N p hp).1
  obtain ⟨U1, U2⟩ := news_upd (f := fun o : Obj => { cls := o.cls, dict := some s.heap.objs.size, data := o.data, slots := o.slots }) (o' := excT t (some s.heap.objs.size)) (pre := [(s.heap.objs.size, emptyDict)]) (F.push _) N1 (fun p hp => by rw [List.mem_singleton.mp hp]; exact Nat.ne_of_gt (lt _ (.head _))) h2 rfl rfl
  show wpAny _ _ (alloc emptyDict >>= fun d => update x (fun o => { cls := o.cls, dict := some d, data := o.data, slots := o.slots }) >>= fun _ => dictMade (.ref 72) x d) _ _ _
  refine wpAny_bind (wpAny_alloc (wpAny_bind (wpAny_update' hx₁ ?_)))
  refine wpAny_pure ?_
  dsimp only
  refine storeD (s := { s with heap := (s.heap.push emptyDict).update x fun o => { cls := o.cls, dict := some s.heap.objs.size, data := o.data, slots := o.slots }, toks := s.toks + 1 }) (n := 1) (es := [⟨PyData.keyHash w.params name, .str name (s.toks + 1), v⟩]) (od := emptyDict) (od' := dictOf [⟨PyData.keyHash w.params name, .str name (s.toks + 1), v⟩] 1) (pre := [(x, excT t (some s.heap.objs.size))]) (post := news) U1 (fun p hp => U2 p ?_) rfl
    (fun p hp => by rw [List.mem_singleton.mp hp]; exact Nat.ne_of_lt (lt (x, excT t none) (.head _))) (fun p hp => Nat.ne_of_lt (lt p (.tail _ hp))) ?_ rfl (by simp) fun h' F' N' => h s.heap.objs.size h' _ _ F' N' (fun p hp => lt p (.tail _ hp)) (lt _ (.head _))
  · simp only [List.cons_append, List.nil_append, List.mem_cons] at hp ⊢
    rcases hp with h | h | h
    · exact .inr (.inl h)
    · exact .inl h
    · exact .inr (.inr h)
  · rfl
end
end
section
open PySem PySem.W PySem.Spec PySem.Calls PyProof.Rows
theorem meta_Exception : typeOf (.type "Exception") = pure (.type "type") := by kernel_rfl
section
variable {prog : Program} {w : World} {A : Around} {R : Result → Shared → Prop} {E : Value → Shared → Prop} {h : Heap} {g : Array GenState} {d : Drawn} {t : Nat} {os : OsState}
theorem check_init72 {M : Model} {e : Addr} {oe : Obj} {rest : List Value} {Q : Unit → Shared → Prop} (hC : h.get? 72 = some c72) (he : h.get? e = some oe) (hcls : oe.cls = .ref 72) (hq : Q () ⟨h, g, d, t, os⟩) :
    wpAny M A (checkBuiltinCall "Exception.__init__" ⟨.ref e :: rest, []⟩) Q E ⟨h, g, d, t, os⟩ := by
  have F := PySem.F.excBase_Exception
  have hcB : (Value.ref 72 :: bm72).contains (.type "Exception") = true := by decide +kernel
  have hshort := F.noStar
  simp only [checkBuiltinCall, F.initKind, F.initSplit, F.initRow]
  repeat (first | (with_reducible refine wpAny_loadPart_at he ?_; rw [hcls]) | with_reducible refine wpAny_loadPart_at hC ?_ | (with_reducible refine wpAny_isSubtype_exc hC ?_; rw [hcB]) | wp_step)
  refine wpAny_onRaise ?_
  rw [show ∀ (a b : String) (n : Nat), Bind.check ⟨.positional, "*", "Exception", .self, [⟨"args", .varPos, false⟩]⟩ a b n (List.map (fun x => x.fst) ({ pos := Value.ref e :: rest } : Args).kw) = pure () from
    fun a b n => check_star_args _ _ _ _ _ _]
  exact wpAny_pure hq
end
section
variable {prog : Program} {w : World} {A : Around} {E : Value → Shared → Prop} {s : Shared} {h₀ : Heap} {L e t : Addr} {m : PySem.Str → Option Value} {news : List (Addr × Obj)} {rest : List Value}
theorem initE {Q : Value → Shared → Prop} (F : Fr h₀ L s.heap m) (X₀ : (hd0.heap_1 w.params).In h₀) (N : News h₀ L s.heap ((e, excT t none) :: news)) (h2 : ∀ p ∈ news, p.1 ≠ e) (hz : rest.length ≤ sizeLine)
    (h : ∀ t' h', Fr h₀ L h' m → News h₀ L h' ((e, excT t' none) :: (t', tupO rest) :: news) → (∀ p ∈ news, p.1 < t') → e < t' → Q .none { s with heap := h' }) :
    wpAny (model prog w) A (call (.builtin "Exception.__init__") (.ref e :: rest)) Q E s := by
  have FB := PySem.F.excBase_Exception
  have X := X₀.keeps F.keep
  have he := (N _ (.head _)).1
  have lt : ∀ p ∈ (e, excT t none) :: news, p.1 < s.heap.objs.size := fun p hp => Heap.lt_size (N p hp).1
  have he₁ : (s.heap.push (tupO rest)).get? e = some (excT t none) := Heap.get?_push_of_some _ he
  have N1 := N.push F (tupO rest)
  obtain ⟨U1, U2⟩ := news_upd (f := Obj.mapFields (·.setIfInBounds 0 (Value.ref s.heap.objs.size))) (o' := excT s.heap.objs.size none) (pre := [(s.heap.objs.size, tupO rest)]) (F.push _) N1 (fun p hp => by rw [List.mem_singleton.mp hp]; exact Nat.ne_of_gt (lt (e, excT t none) (.head _))) h2 rfl rfl
  have fin := h s.heap.objs.size _ U1 (fun p hp => U2 p (by
    simp only [List.cons_append, List.nil_append, List.mem_cons] at hp ⊢
    rcases hp with h | h | h
    · exact .inr (.inl h)
    · exact .inl h
    · exact .inr (.inr h))) (fun p hp => lt p (.tail _ hp)) (lt (e, excT t none) (.head _))
  obtain ⟨hh, g, d, tk, os⟩ := s
  refine wpAny_call (codeAny_call_builtin FB.init.plain FB.initEntry (check_init72 (X _ _ (k72 w)) he rfl ?_))
  wp_walk
  exact fin
end
end
section
open PySem PySem.W PySem.Spec PySem.Calls PyProof.Rows
theorem dict_mapFields (f : Array Value → Array Value) (o : Obj) : (Obj.mapFields f o).dict = o.dict := by
  obtain ⟨c, dd, dt, sl⟩ := o
  cases dt <;> rfl
/-- the exception at e, of class 72, with its dict at d, and its newest traceback entry, whose flight is fl -/
def TrD (base : Heap) (e d : Addr) (fl : Value) (h : Heap) : Prop :=
  ∃ oe vs T oT ts, h.get? e = some oe ∧ oe.cls = .ref 72 ∧ oe.dict = some d ∧ oe.data = .fields vs ∧ vs[1]? = some (.ref T) ∧ base.get? T = none ∧ T ≠ e ∧ h.get? T = some oT ∧ oT.data = .fields ts ∧ ts[3]? = some fl
structure FlyD (base : Heap) (l : List Env) (e d : Addr) (fl : Value) (h : Heap) : Prop where
  stay : base.StaysIn h
  new : base.get? e = none
  fr : h.FunFrames base l
  tr : TrD base e d fl h
section
variable {M : Model} {A : Around} {E : Value → Shared → Prop} {s : Shared} {base : Heap} {env : Env} {outer : List Env} {L e d : Addr} {oe : Obj} {vs : Array Value} {head : Value} {hadNext : Bool} {Q : Unit → Shared → Prop}
theorem entryD (hfr : A.frames = some (env :: outer)) (hl : s.heap.FunFrames base (env :: outer)) (hf : env.frame = some L)
    (he : s.heap.get? e = some oe) (hkb : base.StaysIn s.heap) (hen : base.get? e = none) (hd : oe.data = .fields vs) (hsz : 1 < vs.size) (hc : oe.cls = .ref 72) (hdd : oe.dict = some d)
    (h : ∀ h', FlyD base (env :: outer) e d (rawInt L) h' → s.heap.UpToSlots h' → Q () { s with heap := h' }) :
    wpAny M A (do let a ← frameOf env; let pl ← entryPlaceOf L hadNext; let b ← EntryCells.newEntry head a .none (rawInt L) .none pl; setField (.ref e) 1 b) Q E s := by
  have hene : e ∉ (env :: outer).filterMap (·.frame) := fun hm => by
    obtain ⟨_, o, ho, hnf⟩ := hl.mem hm
    rw [he] at ho; injection ho with ho; subst ho; exact hnf vs hd
  refine wpAny_bind (wpAny_frameOf_fun hfr hl hf fun h₁ hs₁ => ?_)
  refine wpAny_bind (wpAny_entryPlaceOf fun pl hpl => ?_)
  unfold EntryCells.newEntry newFields
  refine wpAny_bind (wpAny_newObj_type ?_ (hpl.sizeOk5 _ _ _ _ _))
  have he₁ : h₁.get? e = some oe := (hs₁.2.1 e hene).trans he
  have kb₁ : base.StaysIn h₁ := fun b o hbo => (hs₁.2.1 b fun hm => by rw [(hl.mem hm).1] at hbo; cases hbo).trans (hkb b o hbo)
  have he₂ := Heap.get?_push_of_some (h := h₁) { cls := .type "traceback", dict := none, data := .fields ([head, .ref L, .none, rawInt L, .none] ++ (if pl.isEmpty then List.replicate 6 Value.none else pl)).toArray } he₁
  refine wpAny_setField he₂ hd hsz (h _ ?_ ?_)
  all_goals
    have hTe : h₁.objs.size ≠ e := Nat.ne_of_gt (Heap.lt_size he₁)
    have hd₃ := Obj.data_mapFields hd (·.setIfInBounds 1 (Value.ref h₁.objs.size))
    have he₃ := Heap.get?_update_self (Obj.mapFields (·.setIfInBounds 1 (Value.ref h₁.objs.size))) he₂ (Obj.isFreed_of_fields hd₃)
    have hT₃ := (Heap.get?_update_other (h₁.push { cls := .type "traceback", dict := none, data := .fields ([head, .ref L, .none, rawInt L, .none] ++ (if pl.isEmpty then List.replicate 6 Value.none else pl)).toArray })
      (Obj.mapFields (·.setIfInBounds 1 (Value.ref h₁.objs.size))) (Ne.symm hTe)).trans (Heap.get?_push_size h₁ rfl)
    have keep : ∀ b o, b ≠ e → h₁.get? b = some o →
        ((h₁.push { cls := .type "traceback", dict := none, data := .fields ([head, .ref L, .none, rawInt L, .none] ++ (if pl.isEmpty then List.replicate 6 Value.none else pl)).toArray }).update e (Obj.mapFields (·.setIfInBounds 1 (Value.ref h₁.objs.size)))).get? b = some o :=
      fun b o hbe hb => by
        rw [Heap.get?_update_other _ _ (Ne.symm hbe)]
        exact Heap.get?_push_of_some _ hb
    have noRecord : ∀ b o, s.heap.get? b = some o → (∀ vs, o.data ≠ .fields vs) → b ≠ e := fun b o hb hnf q => by
      rw [q, he] at hb; injection hb with hb; subst hb; exact hnf vs hd
  · refine ⟨fun b o hbo => keep b o (fun q => by rw [q, hen] at hbo; cases hbo) (kb₁ b o hbo), hen, hl.of_keeps fun b o hb hnf => ?_, ?_⟩
    · obtain ⟨sl, hs⟩ := hs₁.2.2 b o hb
      exact ⟨_, keep b _ (noRecord b o hb hnf) hs, rfl⟩
    · exact ⟨_, _, h₁.objs.size, _, _, he₃, (Obj.cls_mapFields _ _).trans hc, (dict_mapFields _ _).trans hdd, hd₃, by simp [hsz], kb₁.fresh, hTe, hT₃, rfl, by first | (simp; done) | (rcases hpl with rfl | ⟨_, _, _, _, _, _, _, rfl⟩ <;> simp)⟩
  · intro b o hb hnf
    obtain ⟨sl, hs⟩ := hs₁.2.2 b o hb
    exact ⟨sl, keep b _ (noRecord b o hb hnf) hs⟩
theorem landD {l : List Env} {fl : Value} (x : FlyD base l e d fl s.heap) (h : ∀ h', FlyD base l e d .none h' → s.heap.UpToSlots h' → Q () { s with heap := h' }) : wpAny M A (setFlight (.ref e) none) Q E s := by
  obtain ⟨k1, k2, k3, oe, vs, T, oT, ts, he, hc, hdd, hd, h1, hnT, hTe, hT, hdT, h3⟩ := x
  have hsz3 : 3 < ts.size := (Array.getElem?_eq_some_iff.mp h3).1
  have other : ∀ b, b ≠ T → (s.heap.update T (Obj.mapFields (·.setIfInBounds 3 ((none : Option Addr).elim Value.none fun f => rawInt f)))).get? b = s.heap.get? b :=
    fun b hb => Heap.get?_update_other _ _ (Ne.symm hb)
  have noRecord : ∀ b o, s.heap.get? b = some o → (∀ vs, o.data ≠ .fields vs) → b ≠ T := fun b o hb hnf q => by
    rw [q, hT] at hb; injection hb with hb; subst hb; exact hnf ts hdT
  unfold setFlight
  refine wpAny_bind (wpAny_field he hd h1 ?_)
  rw [if_pos (show (Value.ref T != Value.none) = true from by simp)]
  refine wpAny_setField hT hdT hsz3 (h _ ⟨fun b o hbo => (other b fun q => by rw [q, hnT] at hbo; cases hbo).trans (k1 b o hbo), k2,
    k3.of_keeps fun b o hb hnf => ⟨o, (other b (noRecord b o hb hnf)).trans hb, rfl⟩, ?_⟩ fun b o hb hnf => ⟨o.slots, (other b (noRecord b o hb hnf)).trans hb⟩)
  exact ⟨oe, vs, T, _, _, (other e (Ne.symm hTe)).trans he, hc, hdd, hd, h1, hnT, hTe, Heap.get?_update_self _ hT (Obj.isFreed_of_fields (Obj.data_mapFields hdT _)), Obj.data_mapFields hdT _, by simp [hsz3]⟩
theorem noteD_on (hfr : A.frames = some (env :: outer)) (hf : env.frame = some L) (x : FlyD base (env :: outer) e d .none s.heap)
    (h : ∀ h', FlyD base (env :: outer) e d (rawInt L) h' → s.heap.UpToSlots h' → Q () { s with heap := h' }) : wpAny M A (noteFrame (.ref e) env) Q E s := by
  obtain ⟨hkb, hen, hl, oe, vs, T, oT, ts, he, hc, hdd, hd, h1, hnT, hTe, hT, hdT, h3⟩ := x
  unfold noteFrame
  simp only [hf]
  refine wpAny_bind (wpAny_field he hd h1 ?_)
  rw [if_pos (show (Value.ref T != Value.none) = true from by simp)]
  refine wpAny_bind (wpAny_field hT hdT h3 ?_)
  rw [if_neg (show ¬ ((Value.none == rawInt L) = true) from by simp [rawInt])]
  refine wpAny_bind (wpAny_setField hT hdT (Array.getElem?_eq_some_iff.mp h3).1 ?_)
  have other : ∀ b, b ≠ T → (s.heap.update T (Obj.mapFields (·.setIfInBounds 3 Value.none))).get? b = s.heap.get? b := fun b hb => Heap.get?_update_other _ _ (Ne.symm hb)
  have noRecord : ∀ b o, s.heap.get? b = some o → (∀ vs, o.data ≠ .fields vs) → b ≠ T := fun b o hb hnf q => by
    rw [q, hT] at hb; injection hb with hb; subst hb; exact hnf ts hdT
  refine entryD hfr (hl.of_keeps fun b o hb hnf => ⟨o, (other b (noRecord b o hb hnf)).trans hb, rfl⟩) hf ((other e (Ne.symm hTe)).trans he)
    (fun b o hbo => (other b fun q => by rw [q, hnT] at hbo; cases hbo).trans (hkb b o hbo)) hen hd (Array.getElem?_eq_some_iff.mp h1).1 hc hdd
    fun h' x1 x2 => h h' x1 fun b o hb hnf => x2 b o ((other b (noRecord b o hb hnf)).trans hb) hnf
theorem leaveD_on (hfr : A.frames = some (env :: outer)) (hf : env.frame = some L) (x : FlyD base (env :: outer) e d .none s.heap)
    (h : ∀ h', FlyD base outer e d .none h' → s.heap.UpToSlots h' → Q () { s with heap := h' }) : wpAny M A (leaving env (.ref e)) Q E s := by
  unfold leaving
  refine wpAny_bind (noteD_on hfr hf x fun h₁ x₁ u₁ => ?_)
  refine landD (s := { s with heap := h₁ }) x₁ fun h₂ x₂ u₂ => ?_
  obtain ⟨k1, k2, ⟨_, _, k3⟩, k4⟩ := x₂
  exact h h₂ ⟨k1, k2, k3, k4⟩ (u₁.trans u₂)
theorem leaveD_first {t : Addr} (hfr : A.frames = some (env :: outer)) (hf : env.frame = some L) (hl : s.heap.FunFrames base (env :: outer)) (hkb : base.StaysIn s.heap) (hen : base.get? e = none) (he : s.heap.get? e = some (excT t (some d)))
    (h : ∀ h', FlyD base outer e d .none h' → s.heap.UpToSlots h' → Q () { s with heap := h' }) : wpAny M A (leaving env (.ref e)) Q E s := by
  unfold leaving
  refine wpAny_bind ?_
  unfold noteFrame
  simp only [hf]
  refine wpAny_bind (wpAny_field he rfl (x := .none) rfl ?_)
  rw [if_neg (by decide)]
  refine entryD hfr hl hf he hkb hen rfl (by simp) rfl rfl fun h₁ x₁ u₁ => ?_
  refine landD (s := { s with heap := h₁ }) x₁ fun h₂ x₂ u₂ => ?_
  obtain ⟨k1, k2, ⟨_, _, k3⟩, k4⟩ := x₂
  exact h h₂ ⟨k1, k2, k3, k4⟩ (u₁.trans u₂)
end
end
section
open PySem PySem.W PySem.Spec PySem.Calls PyProof.Rows
mutual
noncomputable def Dt.depth : Dt → Nat
  | .tup l => Dt.depths l + 1
  | _ => 0
noncomputable def Dt.depths : List Dt → Nat
  | [] => 0
  | d :: l => max d.depth (Dt.depths l)
end
section
variable {h₀ : Heap} {L : Addr} {led : List (Addr × Obj)}
mutual
theorem dv_eq {s : Shared} (N : News h₀ L s.heap led) : ∀ (d : Dt) {v v' : Value} {A : Around}, DV led v d → DV led v' d → A.units + d.depth < cLine → PySem.SeqAt.EqAt A s v v' true
  | .none, _, _, A, h, k, _ => by cases h; cases k; exact .same _
  | .int i, _, _, A, h, k, _ => by cases h; cases k; intro prog w E Q hq; exact wpAny_eqBool_int (by simpa using hq)
  | .str x, _, _, A, h, k, _ => by cases h; cases k; intro prog w E Q hq; exact eqBool_str (by simpa using hq)
  | .bytes b, _, _, A, h, k, _ => by cases h; cases k; intro prog w E Q hq; exact eqBool_bytes (by simpa using hq)
  | .tup l, _, _, A, h, k, hu => by
    cases h with
    | @tup a vs n _ hm hr =>
    cases k with
    | @tup b us n' _ hm' hr' =>
    by_cases e : a = b
    · subst e; exact .same _
    · have hd : Dt.depth (.tup l) = Dt.depths l + 1 := by rw [Dt.depth]
      rw [hd] at hu
      have q := dvs_eq N l (A := A.in1) hr hr' (by show A.units + 1 + _ < _; omega)
      have r := PySem.SeqAt.RcAt.tuples (A := A) (e := fun _ => true) (News.isTup N hm) (News.isTup N hm') (by omega) (fun j h1 h2 => q.2 j _ _ (by simp at h1 ⊢) (by simp at h2 ⊢))
      refine .of_refs e ?_
      have z : ((List.range (min vs.toArray.size us.toArray.size)).all (fun _ => true) && vs.toArray.size == us.toArray.size) = true := by
        simp [q.1]
      rw [z] at r
      exact r
theorem dvs_eq {s : Shared} (N : News h₀ L s.heap led) : ∀ (l : List Dt) {vs us : List Value} {A : Around}, DVs led vs l → DVs led us l → A.units + Dt.depths l < cLine →
    vs.length = us.length ∧ ∀ (j : Nat) a b, vs[j]? = some a → us[j]? = some b → PySem.SeqAt.EqAt A s a b true
  | [], _, _, A, h, k, _ => by
    cases h; cases k
    exact ⟨rfl, fun j _ _ h1 _ => by simp at h1⟩
  | d :: l, _, _, A, h, k, hu => by
    cases h with
    | @cons v vs _ _ h1 h2 =>
    cases k with
    | @cons u us _ _ k1 k2 =>
    have hd : Dt.depths (d :: l) = max d.depth (Dt.depths l) := by rw [Dt.depths]
    rw [hd] at hu
    have q := dvs_eq N l h2 k2 (A := A) (by omega)
    have p := dv_eq N d h1 k1 (A := A) (by omega)
    refine ⟨by simp [q.1], fun j a b ha hb => ?_⟩
    cases j with
    | zero => cases ha; cases hb; exact p
    | succ j => exact q.2 j a b ha hb
end
end
end
section
open PySem PySem.W PySem.Spec PySem.Calls PyProof.Rows
def isLC (o : Obj) : Bool := match o.data with
  | .cell _ => true
  | .seq _ _ => o.cls == .type "list"
  | _ => false
theorem front_lc {h₀ h : Heap} {L a b : Addr} {o o' x : Obj} {led : List (Addr × Obj)} (N : News h₀ L h led) (hm : (a, o) ∈ led) (hL : isLC o = true) (hb : (b, x) ∈ led) (hx : isLC x = false) : (b, x) ∈ front a o' led :=
  front_mem N hm hb fun e => by rw [e, hL] at hx; cases hx
theorem Rdr.frontLC {w : World} {h₀ h : Heap} {L : Addr} {r : RdI} {p : Int} {tp : Tok} {led : List (Addr × Obj)} {q : Addr} {oq o' : Obj} (R : Rdr w r p tp led) (N : News h₀ L h led) (hm : (q, oq) ∈ led) (hL : isLC oq = true) (hq : r.TL ≠ q) : Rdr w r p tp (front q o' led) := by
  have f : ∀ {b : Addr} {x : Obj}, (b, x) ∈ led → isLC x = false → (b, x) ∈ front q o' led := fun hb hx => front_lc N hm hL hb hx
  refine ⟨f R.inst rfl, f R.dict rfl, front_off_mem R.lst hq, fun t ht => ?_, R.p0, R.fit, R.ple, by obtain ⟨ps, e1, e2⟩ := R.tab; exact ⟨ps, f e1 rfl, e2⟩⟩
  obtain ⟨a1, a2, a3, a4⟩ := R.toks t ht
  exact ⟨f a1 rfl, f a2 rfl, f a3 rfl, a4⟩
theorem DV.frontLC {h₀ h : Heap} {L : Addr} {led : List (Addr × Obj)} {q : Addr} {oq o' : Obj} (N : News h₀ L h led) (hm : (q, oq) ∈ led) (hL : isLC oq = true) {v : Value} {d : Dt} (h : DV led v d) : DV (front q o' led) v d :=
  DV.rec (motive_1 := fun v d _ => DV (front q o' led) v d) (motive_2 := fun vs ds _ => DVs (front q o' led) vs ds) .none .int .str .bytes (fun h _ r => .tup (front_lc N hm hL h rfl) r) .nil (fun _ _ h r => .cons h r) h
theorem DVs.frontLC {h₀ h : Heap} {L : Addr} {led : List (Addr × Obj)} {q : Addr} {oq o' : Obj} (N : News h₀ L h led) (hm : (q, oq) ∈ led) (hL : isLC oq = true) {v : List Value} {d : List Dt} (h : DVs led v d) : DVs (front q o' led) v d := h.ind .nil fun _ _ _ _ h _ r => .cons (h.frontLC N hm hL) r
theorem Keeps.frontN {a b : List (Addr × Obj)} {q : Addr} {o : Obj} (k : Keeps a b) (h : ∀ p ∈ a, isDict p.2 = false → p.1 ≠ q) : Keeps a (front q o b) := fun p hp hd =>
  front_off_mem (k p hp hd) (h p hp hd)
theorem DVs.snoc {led : List (Addr × Obj)} {vs : List Value} {ds : List Dt} {v : Value} {d : Dt} (h : DVs led vs ds) (k : DV led v d) : DVs led (vs ++ [v]) (ds ++ [d]) := h.ind (M := fun vs ds => DVs led (vs ++ [v]) (ds ++ [d])) (.cons k .nil) fun _ _ _ _ a _ r => .cons a r
theorem DVs.app {led : List (Addr × Obj)} {vs us : List Value} {ds es : List Dt} (h : DVs led vs ds) (k : DVs led us es) : DVs led (vs ++ us) (ds ++ es) := h.ind (M := fun vs ds => DVs led (vs ++ us) (ds ++ es)) k fun _ _ _ _ a _ r => .cons a r
theorem DVs.len {led : List (Addr × Obj)} {vs : List Value} {ds : List Dt} (h : DVs led vs ds) : vs.length = ds.length := h.ind (M := fun vs ds => vs.length = ds.length) rfl fun _ _ _ _ _ _ r => congrArg Nat.succ r
theorem DVs.at {led : List (Addr × Obj)} {vs : List Value} {ds : List Dt} {i : Nat} {v : Value} (h : DVs led vs ds) (e : vs[i]? = some v) : ∃ d, ds[i]? = some d ∧ DV led v d :=
  h.ind (M := fun vs ds => ∀ i, vs[i]? = some v → ∃ d, ds[i]? = some d ∧ DV led v d) (fun _ e => by rw [List.getElem?_nil] at e; cases e) (fun u vs d ds a _ r i => Nat.casesOn i (fun e => ⟨d, rfl, Option.some.inj e ▸ a⟩) fun i e => r i e) i e
structure RowsAt (lr : Addr) (vs : List Value) (ds : List Dt) (n : Nat) (led : List (Addr × Obj)) : Prop where
  mem : (lr, lstO vs n) ∈ led
  dv : DVs led vs ds
structure GrpAt (q : Addr) (vs : List Value) (ds : List Dt) (n : Nat) (led : List (Addr × Obj)) : Prop where
  mem : (q, lstO vs n) ∈ led
  dv : DVs led vs ds
structure CellAt (c : Addr) (led : List (Addr × Obj)) : Prop where
  ex : ∃ o v, (c, o) ∈ led ∧ o.data = .cell v
structure CellIs (c : Addr) (v : Value) (d : Dt) (led : List (Addr × Obj)) : Prop where
  ex : ∃ o, (c, o) ∈ led ∧ o.data = .cell (some v)
  dv : DV led v d
theorem cell_isDict {o : Obj} {v : Option Value} (h : o.data = .cell v) : isDict o = false := by unfold isDict; rw [h]
theorem RowsAt.keeps {lr n vs ds a b} (h : RowsAt lr vs ds n a) (k : Keeps a b) : RowsAt lr vs ds n b := ⟨k _ h.mem rfl, h.dv.keeps k⟩
theorem GrpAt.keeps {lr n vs ds a b} (h : GrpAt lr vs ds n a) (k : Keeps a b) : GrpAt lr vs ds n b := ⟨k _ h.mem rfl, h.dv.keeps k⟩
theorem CellAt.keeps {c a b} (h : CellAt c a) (k : Keeps a b) : CellAt c b := let ⟨o, v, h1, h2⟩ := h.ex; ⟨o, v, k _ h1 (cell_isDict h2), h2⟩
theorem CellIs.at {c v d a} (h : CellIs c v d a) : CellAt c a := let ⟨o, h1, h2⟩ := h.ex; ⟨o, _, h1, h2⟩
theorem kcons {x : Addr × Obj} {led : List (Addr × Obj)} : Keeps led (x :: led) := Keeps.cons (Keeps.refl _)
section
variable {w : World} {A : Around} {E : Value → Shared → Prop} {s : Shared} {h₀ : Heap} {L q lr c : Addr} {m : PySem.Str → Option Value} {led led0 : List (Addr × Obj)} {vs rvs : List Value} {ds rds : List Dt} {n rn : Nat} {x : Value} {d : Dt} {r : RdI} {p : Int} {tp : Tok}
theorem append_G {Q : Value → Shared → Prop} (F : Fr h₀ L s.heap m) (N : News h₀ L s.heap led) (G : GrpAt q vs ds n led) (W : RowsAt lr rvs rds rn led) (C : CellAt c led) (D : DV led x d) (K : Keeps led0 led) (R : Rdr w r p tp led)
    (hr : lr ≠ q) (hc : c ≠ q) (hK : ∀ p ∈ led0, isDict p.2 = false → p.1 ≠ q) (hq : r.TL ≠ q) (hsz : vs.length ≤ sizeLine)
    (h : ∀ h' led', Fr h₀ L h' m → News h₀ L h' led' → GrpAt q (vs ++ [x]) (ds ++ [d]) (n + 1) led' → RowsAt lr rvs rds rn led' → CellAt c led' → Keeps led0 led' → Rdr w r p tp led' → Q .none { s with heap := h' }) :
    wpAny (model P0 w) A (call (.builtin "list.append") [.ref q, x]) Q E s := by
  refine append_K F (News.front N G.mem) (Upd.head (front_off _ _)) ?_ (by rw [List.size_toArray]; exact hsz)
  intro h' F' N'
  have e : (vs.toArray.push x) = (vs ++ [x]).toArray := by simp
  obtain ⟨oc, vc, c1, c2⟩ := C.ex
  refine h h' (front q (lstO (vs ++ [x]) (n + 1)) led) F' ?_ ⟨.head _, (G.dv.snoc D).frontLC N G.mem rfl⟩ ⟨front_off_mem W.mem hr, W.dv.frontLC N G.mem rfl⟩ ⟨oc, vc, front_off_mem c1 hc, c2⟩ (K.frontN hK) (R.frontLC N G.mem rfl hq)
  show News h₀ L h' ((q, ({ cls := .type "list", data := .seq (vs ++ [x]).toArray (n + 1) } : Obj)) :: _)
  rw [← e]
  exact N'
theorem extend_G {Q : Value → Shared → Prop} {b : Addr} {us : List Value} {es : List Dt} {k : Nat} (F : Fr h₀ L s.heap m) (N : News h₀ L s.heap led) (W : RowsAt lr rvs rds rn led) (hb : (b, lstO us k) ∈ led) (D : DVs led us es) (C : CellAt c led) (K : Keeps led0 led) (R : Rdr w r p tp led)
    (hne : us ≠ []) (hbl : b ≠ lr) (hc : c ≠ lr) (hK : ∀ p ∈ led0, isDict p.2 = false → p.1 ≠ lr) (hq : r.TL ≠ lr) (hsz : rvs.length + us.length ≤ 10000)
    (h : ∀ h' led', Fr h₀ L h' m → News h₀ L h' led' → RowsAt lr (rvs ++ us) (rds ++ es) (rn + 1) led' → CellAt c led' → Keeps led0 led' → Rdr w r p tp led' → Q .none { s with heap := h' }) :
    wpAny (model P0 w) A (call (.builtin "list.extend") [.ref lr, .ref b]) Q E s := by
  have N1 := News.front N W.mem
  refine kl_extend (its := rvs.toArray) (its2 := us.toArray) (l := rvs ++ us) F N1 (front_off_mem hb hbl) (by simp) (by simpa using hne) (Upd.head (front_off _ _)) ?_ ?_ ?_ ?_
  · simp only [List.size_toArray]
    unfold Builtin.List.listTooLong
    simp
    intro _
    have h5 : 10000 ≤ sizeLine := by decide
    omega
  · simp only [List.toList_toArray]
    exact Nat.le_trans (show rvs.length ≤ 10000 by omega) (by decide)
  · simp only [List.size_toArray]
    exact Nat.le_trans (show rvs.length + us.length ≤ 10000 by omega) (by decide)
  intro h' F' N'
  obtain ⟨oc, vc, c1, c2⟩ := C.ex
  exact h h' (front lr (lstO (rvs ++ us) (rn + 1)) led) F' N' ⟨.head _, (W.dv.app D).frontLC N W.mem rfl⟩ ⟨oc, vc, front_off_mem c1 hc, c2⟩ (K.frontN hK) (R.frontLC N W.mem rfl hq)
theorem store_G {cn : PySem.Str} {cs : Scope} {a : Addr} {ccd : Value} {cl : List (PySem.Str × Addr)} {z : PySem.Str} {Q : Unit → Shared → Prop} (F : Fr h₀ L s.heap m) (N : News h₀ L s.heap led) (C : CellAt c led) (W : RowsAt lr rvs rds rn led) (G : GrpAt q vs ds n led) (D : DV led x d) (K : Keeps led0 led) (R : Rdr w r p tp led)
    (hr : lr ≠ c) (hg : q ≠ c) (hK : ∀ p ∈ led0, isDict p.2 = false → p.1 ≠ c) (hq : r.TL ≠ c) (hcl : cl.lookup z = some c)
    (h : ∀ h' led', Fr h₀ L h' m → News h₀ L h' led' → CellIs c x d led' → RowsAt lr rvs rds rn led' → GrpAt q vs ds n led' → Keeps led0 led' → Rdr w r p tp led' → Q () { s with heap := h' })
    (hk : cs.kind = .function := by rfl) (hx : (envX cn cs L a ccd cl).kindOf z = some .cell := by rfl) : wpAny (model P0 w) A (storeName (envX cn cs L a ccd cl) z x) Q E s := by
  obtain ⟨oc, vc, c1, c2⟩ := C.ex
  have hL : isLC oc = true := by unfold isLC; rw [c2]
  refine storeX_C F (News.front N c1) hcl (UpdF.head (front_off _ _)) c2 ?_ hk hx
  intro h' o' F' N' d'
  exact h h' (front c o' led) F' N' ⟨⟨o', .head _, d'⟩, D.frontLC N c1 hL⟩ ⟨front_off_mem W.mem hr, W.dv.frontLC N c1 hL⟩ ⟨front_off_mem G.mem hg, G.dv.frontLC N c1 hL⟩ (K.frontN hK) (R.frontLC N c1 hL hq)
theorem eq_nil {prog : Program} {Q : Value → Shared → Prop} {a b : Addr} {k : Nat} (N : News h₀ L s.heap led) (h1 : (a, lstO vs n) ∈ led) (h2 : (b, PySem.W.listOf #[] k) ∈ led) (hu : A.units < cLine) (h : Q (.bool vs.isEmpty) s) :
    wpAny (model prog w) A (compareOp .Eq (.ref a) (.ref b)) Q E s := by
  cases vs with
  | nil => exact PySem.SeqAt.eq_listAt (e := fun _ => true) (News.isList N h1) (News.isList N h2) rfl hu (fun j h1 _ => by simp at h1) h
  | cons v vs => exact PySem.SeqAt.eq_list_lengthsAt (News.isList N h1) (News.isList N h2) (by simp) hu h
end
section
variable {prog : Program} {w : World} {A : Around} {E : Value → Shared → Prop} {s : Shared} {h₀ : Heap} {L : Addr} {m : PySem.Str → Option Value} {env : Env}
theorem rest_L {elt : PySem.Expr} {x : PySem.Str} {scope : Scope} {cl : List (PySem.Str × Addr)} {S : List (Addr × Obj) → Prop} {Fin : List Value → List (Addr × Obj) → Prop} {its : Array Value} {led : List (Addr × Obj)} (J : Nat → List Value → List (Addr × Obj) → Prop) (j0 : J 0 [] led)
    (turn : ∀ i v ys news I oI C oC D m₂ h tk (E' : Value → Shared → Prop), its[i]? = some v → J i ys news → LCg.NsObj oC m₂ → m₂ x = some v → Fr h₀ L h m → News h₀ L h ((I, oI) :: (C, oC) :: (D, LCg.lst ys) :: news) → LCg.Off3 I C D news → ((@Ne Nat I C) ∧ (@Ne Nat I D) ∧ (@Ne Nat C D)) →
      wpAny (model prog w) A (eval elt (compEnvC scope cl C env)) (LCg.CompEnd h₀ L m { s with heap := h, toks := tk } I oI C oC D (LCg.lst ys) S (fun y news' => J (i + 1) (ys ++ [y]) news')) E' { s with heap := h, toks := tk })
    (fin : ∀ ys news, J its.size ys news → Fin ys news) : LCg.CompRest prog w A h₀ L m env elt x scope cl s S (fun i v => its[i]? = some v) Fin its.size 0 [] led := by
  have key : ∀ (k i : Nat) (ys : List Value) (news : List (Addr × Obj)), i + k = its.size → J i ys news → LCg.CompRest prog w A h₀ L m env elt x scope cl s S (fun i v => its[i]? = some v) Fin k i ys news := by
    intro k
    induction k with
    | zero =>
      intro i ys news hi hj
      have e : i = its.size := by omega
      subst e
      exact LCg.CompRest.zero (fin ys news hj)
    | succ k ih =>
      intro i ys news hi hj
      refine LCg.CompRest.succ ?_
      intro v I oI C oC D m₂ h tk E' hv hC hx F N off ne
      refine wpAny_mono (turn i v ys news I oI C oC D m₂ h tk E' hv hj hC hx F N off ne) (fun y s₂ hq => ?_) fun _ _ e => e
      obtain ⟨h', tk', nw, e, F', N', off', hS, hj'⟩ := hq
      exact ⟨h', tk', nw, e, F', N', off', hS, ih (i + 1) _ _ (by omega) hj'⟩
  exact key its.size 0 [] led (by omega) j0
end
end
section
open PySem PySem.W PySem.Spec PySem.Calls PyProof.Rows
abbrev dl (b : Bool) (d : Option Kd) (l : List Pr) : List Pr := ("word", "DELIMITED") :: (byT b ++ (delT d ++ l))
theorem off1_mem {D : Addr} : ∀ {l : List (Addr × Obj)}, LCg.Off1 D l → ∀ p ∈ l, p.1 ≠ D
  | [], _, _, h => nomatch h
  | _ :: _, x, p, h => by
    rcases List.mem_cons.mp h with rfl | h
    · exact x.1
    · exact off1_mem x.2 p h
theorem comp_tup {h₀ : Heap} {L I C D T : Addr} {m : PySem.Str → Option Value} {s₁ : Shared} {oI oC oD oT : Obj} {S : List (Addr × Obj) → Prop} {rest : Value → List (Addr × Obj) → Prop} {y : Value} {h' : Heap} {tk : Nat} {news : List (Addr × Obj)}
    (F : Fr h₀ L h' m) (N : News h₀ L h' ((T, oT) :: (I, oI) :: (C, oC) :: (D, oD) :: news)) (off : LCg.Off3 I C D news) (l : I < T ∧ C < T ∧ D < T ∧ AllLt T news) (hS : S ((T, oT) :: news)) (r : rest y ((T, oT) :: news)) :
    LCg.CompEnd h₀ L m s₁ I oI C oC D oD S rest y { s₁ with heap := h', toks := tk } := by
  refine LCg.CompEnd.intro F N ((T, oT) :: news) (fun p hp => ?_) ⟨⟨Nat.ne_of_gt l.1, Nat.ne_of_gt l.2.1, Nat.ne_of_gt l.2.2.1⟩, off⟩ hS r
  simp only [List.mem_cons] at hp ⊢
  rcases hp with h | h | h | h | h
  · exact .inr (.inl h)
  · exact .inr (.inr (.inl h))
  · exact .inr (.inr (.inr (.inl h)))
  · exact .inl h
  · exact .inr (.inr (.inr (.inr h)))
theorem tup_R {prog : Program} {w : World} {A : Around} {E : Value → Shared → Prop} {s : Shared} {h₀ : Heap} {L lr : Addr} {m : PySem.Str → Option Value} {led : List (Addr × Obj)} {vs : List Value} {ds : List Dt} {n : Nat} {Q : Value → Shared → Prop} (F : Fr h₀ L s.heap m) (N : News h₀ L s.heap led) (W : RowsAt lr vs ds n led) (hz : vs.length ≤ 1000)
    (h : ∀ D h', Fr h₀ L h' m → News h₀ L h' ((D, ({ cls := .type "tuple", data := .seq vs.toArray } : Obj)) :: led) → Q (.ref D) { s with heap := h' }) : wpAny (model prog w) A (call (.type "tuple") [.ref lr]) Q E s :=
  kde_tupleOf F N (News.isList N W.mem) (by rw [List.size_toArray]; omega) (List.toList_toArray) fun D h' F' N' _ => h D h' F' N'
structure SrcStop (prog : Program) (w : World) (A : Around) (h₀ : Heap) (L : Addr) (m : PySem.Str → Option Value) (env : Env) (elt : PySem.Expr) (x : PySem.Str) (scope : Scope) (cl : List (PySem.Str × Addr)) (Q : Value → Shared → Prop) (xv : Value) (s₁ : Shared) : Prop where
  h : LCg.CompSrc prog w A h₀ L m env elt x scope cl (fun s₂ => LCg.FinE h₀ L m s₂ Q) xv s₁
theorem ListComp_S {prog : Program} {w : World} {A : Around} {E : Value → Shared → Prop} {s : Shared} {h₀ : Heap} {L : Addr} {m : PySem.Str → Option Value} {env : Env} {elt iter : PySem.Expr} {x : PySem.Str} {px : Pos} {scope : Scope} {cl : List (PySem.Str × Addr)} {pos : Pos} {Q : Value → Shared → Prop} (F₀ : Fr h₀ L s.heap m)
    (hclos : closureFor scope env = pure cl) (hcell : ∀ y ∈ scope.names, y.2 ≠ .cell) (hkind : scope.kind = .function)
    (hnames : ∀ y ∈ scope.names, y.2 = .local → scope.names.lookup y.1 = some .local) (hx : scope.names.lookup x = some .local)
    (h : wpAny (model prog w) A (eval iter env) (SrcStop prog w A h₀ L m env elt x scope cl Q) E s)
    (hs : ∀ x, foldedSetIterable iter env x = pure x := by intro _; rfl) :
    wpAny (model prog w) A (eval (.ListComp elt [⟨.Name x px, iter, [], 0⟩] scope pos) env) Q E s :=
  LCg.ListComp_U F₀ hclos hcell hkind hnames hx (wpAny_mono h (fun _ _ q => q.h) fun _ _ e => e) hs
structure TestOk (g : Heap) (L : Addr) (m : PySem.Str → Option Value) (led : List (Addr × Obj)) (s : Shared) (b : Bool) (s₂ : Shared) : Prop where
  tr : b = true
  ex : ∃ h' tk' led', s₂ = { s with heap := h', toks := tk' } ∧ Fr g L h' m ∧ News g L h' led' ∧ ∀ q ∈ led, q ∈ led'
structure InI (w : World) (r : RdI) (g : Heap) (L : Addr) (m : PySem.Str → Option Value) (led0 : List (Addr × Obj)) (lr c : Addr) (rvs : List Value) (rds : List Dt) (rn : Nat) (q : Addr) (D : List Dt) (l : List Pr) (ks : List Kd) (h : Heap) (led : List (Addr × Obj)) (p : Int) (tp : Tok) (vs : List Value) (ds : List Dt) (n : Nat) : Prop where
  F : Fr g L h m
  N : News g L h led
  K : Keeps led0 led
  R : Rdr w r p tp led
  H : Rest r.T p (ks.flatMap Kd.toks ++ l)
  rows : RowsAt lr rvs rds rn led
  cell : CellAt c led
  grp : GrpAt q vs ds n led
  tot : ds ++ ks.map Kd.tree = D
  sz : D.length ≤ 1000
structure OutI (w : World) (r : RdI) (g : Heap) (L : Addr) (led0 : List (Addr × Obj)) (lr c : Addr) (D : List Dt) (tl : List Pr) (gs : List Grp) (h : Heap) (led : List (Addr × Obj)) (p : Int) (tp : Tok) (rvs : List Value) (rds : List Dt) (rn : Nat) (mo : PySem.Str → Option Value) : Prop where
  F : Fr g L h (fun z : PySem.Str => if z = "reader" then some (.ref r.rd) else if z = "rows" then some (.ref lr) else mo z)
  N : News g L h led
  K : Keeps led0 led
  R : Rdr w r p tp led
  H : Rest r.T p (gs.flatMap Grp.toks ++ tl)
  rows : RowsAt lr rvs rds rn led
  cell : CellAt c led
  tot : rds ++ gs.flatMap Grp.rows = D
  sz : D.length ≤ 1000
theorem fr_out {g h : Heap} {L rd lr : Addr} {m : PySem.Str → Option Value} (F : Fr g L h m) (h1 : m "reader" = some (.ref rd)) (h2 : m "rows" = some (.ref lr)) : Fr g L h (fun z : PySem.Str => if z = "reader" then some (.ref rd) else if z = "rows" then some (.ref lr) else m z) := by
  have e : (fun z : PySem.Str => if z = "reader" then some (.ref rd) else if z = "rows" then some (.ref lr) else m z) = m := funext fun z => by
    split
    · rename_i q; rw [q, h1]
    · split
      · rename_i q; rw [q, h2]
      · rfl
  rw [e]; exact F
section
variable {prog : Program} {w : World} {A : Around} {E : Value → Shared → Prop} {s : Shared} {env : Env} {test : PySem.Expr} {body orelse : List Stmt} {Q : Flow → Shared → Prop}
structure WhlStop (prog : Program) (w : World) (A : Around) (E : Value → Shared → Prop) (env : Env) (test : PySem.Expr) (body orelse : List Stmt) (Q : Flow → Shared → Prop) (s : Shared) : Prop where
  h : WhlRest prog w A E env test body orelse Q 0 s
def WhlPst (prog : Program) (w : World) (A : Around) (E : Value → Shared → Prop) (env : Env) (test : PySem.Expr) (body orelse : List Stmt) (Q : Flow → Shared → Prop) (f : Flow) (s : Shared) : Prop :=
  match f with
  | .next => WhlStop prog w A E env test body orelse Q s
  | .cont => WhlStop prog w A E env test body orelse Q s
  | .brk => Q .next s
  | .ret v => Q (.ret v) s
theorem whl_startS {pos : Pos} (h : WhlStop prog w A E env test body orelse Q s) : wpAny (model prog w) A (exec (.While test body orelse pos) env) Q E s := whl_start 0 h.h
theorem whl_turnS (hE : PassesOwn (model prog w) A env E)
    (h : wpAny (model prog w) A (isTrue test env (eval test env)) (fun b s₂ => WhlIf b (wpAny (model prog w) A (execs body env) (WhlPst prog w A E env test body orelse Q) E s₂) (wpAny (model prog w) A (execs orelse env) Q E s₂)) E s) :
    WhlStop prog w A E env test body orelse Q s := by
  refine ⟨whl_turn (k := 0) hE (wpAny_mono h (fun b s₂ h₂ => ?_) fun _ _ e => e)⟩
  cases b with
  | false => exact h₂
  | true =>
    refine WhlIf.yes rfl ?_
    have h₃ : wpAny (model prog w) A (execs body env) (WhlPst prog w A E env test body orelse Q) E s₂ := h₂
    refine wpAny_mono h₃ (fun f s₃ h₄ => ?_) fun _ _ e => e
    cases f with
    | next => exact h₄.h
    | cont => exact h₄.h
    | brk => exact h₄
    | ret v => exact h₄
end
section
variable {prog : Program} {w : World} {A : Around} {E : Value → Shared → Prop} {s : Shared} {env : Env} {test : PySem.Expr} {body orelse : List Stmt} {Q : Flow → Shared → Prop}
  {r : RdI} {g : Heap} {L lr c q : Addr} {m mo : PySem.Str → Option Value} {led0 led : List (Addr × Obj)} {rvs vs : List Value} {rds ds D : List Dt} {rn n : Nat} {l tl : List Pr} {ks : List Kd} {gs gs₀ : List Grp} {p : Int} {tp : Tok}
theorem inner_loop (I : InI w r g L m led0 lr c rvs rds rn q D l ks s.heap led p tp vs ds n)
    (hE : PassesOwn (model prog w) A env E) (step : ∀ (Q : Flow → Shared → Prop) (E : Value → Shared → Prop), PassesOwn (model prog w) A env E → ∀ k ks h tk led p tp vs ds n, InI w r g L m led0 lr c rvs rds rn q D l (k :: ks) h led p tp vs ds n →
      (∀ h' tk' led' p' tp' vs' ds' n', InI w r g L m led0 lr c rvs rds rn q D l ks h' led' p' tp' vs' ds' n' → WhlStop prog w A E env test body orelse Q { s with heap := h', toks := tk' }) → WhlStop prog w A E env test body orelse Q { s with heap := h, toks := tk })
    (done : ∀ h tk led p tp vs ds n, InI w r g L m led0 lr c rvs rds rn q D l [] h led p tp vs ds n → WhlStop prog w A E env test body orelse Q { s with heap := h, toks := tk }) : WhlStop prog w A E env test body orelse Q s := by
  have key : ∀ ks h tk led p tp vs ds n, InI w r g L m led0 lr c rvs rds rn q D l ks h led p tp vs ds n → WhlStop prog w A E env test body orelse Q { s with heap := h, toks := tk } := by
    intro ks
    induction ks with
    | nil => exact done
    | cons k ks ih => intro h tk led p tp vs ds n I; exact step Q E hE k ks h tk led p tp vs ds n I ih
  exact key ks s.heap s.toks led p tp vs ds n I
theorem outer_loop (I : OutI w r g L led0 lr c D tl gs s.heap led p tp rvs rds rn mo) (hg : gs ≠ [] ∨ rvs ≠ [])
    (hE : PassesOwn (model prog w) A env E) (step : ∀ (Q : Flow → Shared → Prop) (E : Value → Shared → Prop), PassesOwn (model prog w) A env E → ∀ gr gs h tk led p tp rvs rds rn mo, OutI w r g L led0 lr c D tl (gr :: gs) h led p tp rvs rds rn mo →
      (∀ h' tk' led' p' tp' rvs' rds' rn' mo', OutI w r g L led0 lr c D tl gs h' led' p' tp' rvs' rds' rn' mo' → rvs' ≠ [] → WhlStop prog w A E env test body orelse Q { s with heap := h', toks := tk' }) → gr ∈ gs₀ → (∀ x ∈ gs, x ∈ gs₀) → WhlStop prog w A E env test body orelse Q { s with heap := h, toks := tk })
    (done : ∀ h tk led p tp rvs rds rn mo, OutI w r g L led0 lr c D tl [] h led p tp rvs rds rn mo → rvs ≠ [] → WhlStop prog w A E env test body orelse Q { s with heap := h, toks := tk }) (hs : ∀ x ∈ gs, x ∈ gs₀) : WhlStop prog w A E env test body orelse Q s := by
  have key : ∀ gs h tk led p tp rvs rds rn mo, OutI w r g L led0 lr c D tl gs h led p tp rvs rds rn mo → (gs ≠ [] ∨ rvs ≠ []) → (∀ x ∈ gs, x ∈ gs₀) → WhlStop prog w A E env test body orelse Q { s with heap := h, toks := tk } := by
    intro gs
    induction gs with
    | nil =>
      intro h tk led p tp rvs rds rn mo I hg _
      rcases hg with hg | hg
      · exact absurd rfl hg
      · exact done h tk led p tp rvs rds rn mo I hg
    | cons gr gs ih =>
      intro h tk led p tp rvs rds rn mo I _ hs
      exact step Q E hE gr gs h tk led p tp rvs rds rn mo I (fun h' tk' led' p' tp' rvs' rds' rn' mo' I' hn => ih h' tk' led' p' tp' rvs' rds' rn' mo' I' (.inr hn) fun x hx => hs x (.tail _ hx)) (hs _ (.head _)) fun x hx => hs x (.tail _ hx)
  exact key gs s.heap s.toks led p tp rvs rds rn mo I hg hs
end
end
section
open PySem PySem.W PySem.Spec PySem.Calls PyProof.Rows
def GF (w : World) (e : Addr) (t : Tk) (led : List (Addr × Obj)) : Prop := ∃ t' d u1 u2 n wh, (e, excT t' (some d)) ∈ led ∧ (d, dictOf [⟨kh w "what", .str "what" u1, wh⟩, ⟨kh w "at", .str "at" u2, .ref t.p⟩] n) ∈ led ∧ (t.p, posO t) ∈ led
theorem exc_off {g h : Heap} {L : Addr} {news : List (Addr × Obj)} {t e : Addr} {oe o : Obj} (N : News g L h ((e, oe) :: (t, o) :: news)) (l : ∀ p ∈ news, p.1 < t) (l' : t < e) : ∀ p ∈ (t, o) :: news, p.1 ≠ e := fun p hp => by
  rcases List.mem_cons.mp hp with rfl | hp
  · exact Nat.ne_of_lt l'
  · exact Nat.ne_of_lt (Nat.lt_trans (l p hp) l')
theorem exc_off2 {g h : Heap} {L : Addr} {news : List (Addr × Obj)} {t' e : Addr} {oe o : Obj} (N : News g L h ((e, oe) :: (t', o) :: news)) (l : ∀ p ∈ news, p.1 ≠ e) (l' : e < t') : ∀ p ∈ (t', o) :: news, p.1 ≠ e := fun p hp => by
  rcases List.mem_cons.mp hp with rfl | hp
  · exact Nat.ne_of_gt l'
  · exact l p hp
theorem lt_ne {news : List (Addr × Obj)} {d : Addr} (l : ∀ p ∈ news, p.1 < d) : ∀ p ∈ news, p.1 ≠ d := fun p hp => Nat.ne_of_lt (l p hp)
theorem tok_item_if {prog : Program} {w : World} {A : Around} {E : Value → Shared → Prop} {s : Shared} {h₀ : Heap} {L : Addr} {led : List (Addr × Obj)} {value slice : PySem.Expr} {l : Addr} {vs : List Value} {n : Nat} {c : Prop} [Decidable c] {k k' : Int} {u u' : Tok} {v : Value} {Q : Value → Shared → Prop}
    (N : News h₀ L s.heap led) (hm : (l, lstO vs n) ∈ led) (hc : ¬ c) (h0 : 0 ≤ k) (hhi : k < 2 ^ 63) (hx : vs[k.toNat]? = some v) (h : Q v s)
    (hs : ∀ z y, subscripted slice false (.ref l) (.int z y) = operate [.ref l, .int z y] (getItem (.ref l) (.int z y)) := by intro _ _; with_unfolding_all rfl) :
    wpAny (model prog w) A (subscriptTail value slice (.ref l) (.int (if c then k' else k) (if c then u' else u))) Q E s := by
  rw [if_neg hc, if_neg hc]
  exact tok_item N hm h0 hhi hx h (hs _ _)
theorem truthy_L {prog : Program} {w : World} {A : Around} {E : Value → Shared → Prop} {s : Shared} {h₀ : Heap} {L l : Addr} {led : List (Addr × Obj)} {vs : List Value} {n : Nat} {Q : Bool → Shared → Prop} (N : News h₀ L s.heap led) (hm : (l, lstO vs n) ∈ led) (hz : vs.toArray.size < 2 ^ 61) (h0 : 0 < vs.toArray.size) (h : Q true { s with toks := s.toks + 1 + 1 }) :
    wpAny (model prog w) A (truthy (.ref l)) Q E s := by
  refine wpAny_truthy_list (News.isList N hm) (by omega) ?_
  have e : (!vs.toArray.isEmpty) = true := by
    cases vs with
    | nil => simp at h0
    | cons v vs => rfl
  rw [e]; exact h
section
section
variable {w : World} {mean : ExcName → Option Value} {pq : Program} {lq : List PySem.Str} {mg mb : PySem.Str → Option Value} {dp un : Nat} {gd : Option (List Code)} {cn : PySem.Str} {cs : Scope} {a : Addr} {ccd : Value} {cl : List (PySem.Str × Addr)} {outer : List Env} {A₀ : Around} {base h₀ : Heap} {L : Addr} {m : PySem.Str → Option Value} {s : Shared}
  {Q E : Value → Shared → Prop} {led : List (Addr × Obj)} {r : RdI} {p : Int} {tp : Tok}
  (B : Below A₀ base outer h₀) (F : Fr h₀ L s.heap m) (X : (hd0.heap_1 w.params).In h₀) (N : News h₀ L s.heap led) (T : Top pq lq mean mg mb h₀) (hk : cs.kind = .function) (R : Rdr w r p tp led)
include B F X N T hk R
theorem word31_1 : True := by
  k_with_none
  (k_with "ktr_room" => first | exact lt_room (k := 1) hdp rfl rfl | exact lt_room (k := 0) hdp rfl rfl | exact lt_room0 (k := 1) hdp rfl rfl | exact lt_room0 (k := 0) hdp rfl rfl | fail "ktr_room")
  (k_with "ktr_units" => first | exact lt_room (k := 3) hun rfl rfl | exact lt_room (k := 0) hun rfl rfl | exact lt_room0 (k := 3) hun rfl rfl | exact lt_room0 (k := 0) hun rfl rfl | fail "ktr_units")
  (k_with "k_mem" => first | assumption | exact List.Mem.head _ | exact List.Mem.tail _ (List.Mem.head _))
  (k_with "cell_enter" => (refine' code_def (by k_asm) (by k_asm) (by k_asm) (by k_asm) (by k_asm) (by exact rfl) (by exact rfl) (by first | exact rfl | assumption) (by k_is) (by k_is) (by ktr_room) (by first | exact BindsTo.of_eq rfl | exact binds_K (by k_in) rfl (by k_is) rfl rfl rfl) (by exact locs rfl) ?_ (by exact rfl) (by exact rfl) (by exact rfl) (by decide); k_whole; intro g' L' h' FG' F' N' B' X' T'; (try dsimp only); (try k_lift B'); (try k_fold)))
  (k_with "call ref" => (k_here; (with_reducible show wpAny _ _ (call (Prod.fst _) _) _ _ _); (dsimp only [List.cons_append, List.nil_append]); walk_at "call ref"))
  (k_with "setAttr ref" => (k_here; k_dflt (refine' setE_new (by k_asm) (by k_in) (by k_asm) (by assumption) (by k_is) ?_); intro d9 h9 tk9 u9 F9 N9 l5 l4))
  (k_with "setAttr ref" => (k_here; k_dflt (refine' setE_old (by k_asm) (by k_in) (by k_asm) (by exact Nat.ne_of_lt (by assumption)) (by exact lt_ne (by assumption)) (by k_is) (by k_get) (by k_put) (by exact Nat.le_of_ble_eq_true rfl) ?_); intro h9 F9 N9))
  (k_with "exec While" => (k_here; k_dflt (refine whl_start 100 ?_)))
  (k_with "exec While BoolOp" => (k_here; k_dflt (refine whl_start 100 ?_)))
  (k_with "exec While Compare" => (k_here; k_dflt (refine whl_start 100 ?_)))
  (k_with "exec While UnaryOp" => (k_here; k_dflt (refine whl_start 100 ?_)))
  (k_with "exec While Call" => (k_here; k_dflt (refine whl_start 100 ?_)))
  (k_with "subscriptTail" => (k_here; (with_reducible show wpAny _ _ (subscriptTail _ _ (Value.ref _) (Value.int _ _)) _ _ _); (with_unfolding_all refine' tok_item (by k_asm) (by k_mem) (by omega) (by omega) (by exact tvs_at (by assumption)) ?_ (by with_unfolding_all rfl); k_whole)))
  (k_with "subscriptTail" => (k_here; (with_reducible show wpAny _ _ (subscriptTail _ _ (Value.ref _) (Value.int (ite _ _ _) (ite _ _ _))) _ _ _); (with_unfolding_all refine' tok_item_if (by k_asm) (by k_mem) (by omega) (by omega) (by omega) (by exact tvs_at (by assumption)) ?_ (by (intro _ _; with_unfolding_all rfl)); k_whole)))
  (k_with "truthy ref" => (k_here; (with_reducible show wpAny _ _ (truthy (Value.ref _)) _ _ _); k_dflt (refine' truthy_L (by k_asm) (by k_mem) (by omega) (by omega) ?_; k_whole)))
  (k_with "getMethod type:Exception" => (k_here; refine' method_type (by k_asm) (by k_in) (by exact meta_Exception) (by decide +kernel) (by k_dflt k_is) (by k_handed) ?_))
  (k_with "call builtin:Exception.__init__" => (k_here; k_dflt (refine' initE (by k_asm) (by k_in) (by k_asm) (by assumption) (by exact (show 1 ≤ sizeLine by decide)) ?_); intro t9 h9 F9 N9 l7 l6; (have o9 := exc_off2 N9 (by assumption) l6)))
  (k_with "call ref" => (k_here; (with_reducible show wpAny _ _ (call (Value.ref 72) [_, _]) _ _ _); k_dflt (refine' makeE (by k_asm) (by k_in) (by k_asm) (by exact (show 2 ≤ sizeLine by decide)) ?_); intro e9 t9 h9 F9 N9 l9 l8; (have o9 := exc_off N9 l9 l8); cell_enter))
  exact True.intro
theorem fault_spec {t : Tk} (hT : r.T[p.toNat]? = some t) {x : PySem.Str} {xt : Tok} (hdp : dp + 2 < recursionLimit) (hun : un + 16 < cLine)
    (hret : ∀ e led' h' tk', Fr h₀ L h' m → News h₀ L h' led' → Keeps led led' → Rdr w r p tp led' → GF w e t led' → Q (.ref e) { s with heap := h', toks := tk' }) :
    wpAny (model P0 w) (ktrTop dp un gd cn cs L a ccd cl outer) (call (.ref 333) [.ref r.rd, .str x xt]) Q E s := by
  have R0 := R
  obtain ⟨r1, r2, r3, r4, r5, r6, r7⟩ := R0
  have r8 := tvs_size r.T
  have K0 := Keeps.refl led
  obtain ⟨y1, y2, y3, y4⟩ := r4 t (List.mem_of_getElem? hT)
  have r9 := lt_of_at hT (by omega)
  refine wpAny_call ?_
  k_dflt cell_enter
  k_steps
  all_goals exact hret _ _ _ _ (by k_asm) (by k_asm) (Keeps.cons (Keeps.cons (Keeps.cons (Keeps.cons K0)))) (Rdr.cons (Rdr.cons (Rdr.cons (Rdr.cons R)))) ⟨_, _, _, _, _, _, List.Mem.head _, .tail _ (List.Mem.head _), .tail _ (.tail _ (.tail _ (.tail _ y3)))⟩
end
end
end
section
open PySem PySem.W PySem.Spec PySem.Calls PyProof.Rows
structure RaisedG (w : World) (base G : Heap) (l : List Env) (e : Addr) (t : Tk) (led : List (Addr × Obj)) (h : Heap) : Prop where
  ex : ∃ B d u1 u2 n wh, base.StaysIn B ∧ (∀ b o, G.get? b = some o → b ∉ l.filterMap (·.frame) → B.get? b = some o) ∧ FlyD B l e d .none h ∧
    B.get? d = some (dictOf [⟨kh w "what", .str "what" u1, wh⟩, ⟨kh w "at", .str "at" u2, .ref t.p⟩] n) ∧ G.get? d = none ∧ G.get? e = none ∧ (t.p, posO t) ∈ led ∧ (∀ q ∈ led, isDict q.2 = false → B.get? q.1 = some q.2) ∧
    ∃ ps : Array Value, B.get? 232 = some (tabObj ps) ∧ TriplesOk ps.toList ∧ (codeAmong posL ps.toList = none ∨ ∃ c', codeAmong posL ps.toList = some (.ref c'))
structure RaiseOk (E : Value → Shared → Prop) (v : Value) (s : Shared) : Prop where
  ex : ∃ e t d, v = .ref e ∧ s.heap.get? 72 = some c72 ∧ s.heap.get? e = some (excT t (some d)) ∧ E (.ref e) s
section
variable {prog : Program} {w : World} {M : Model} {A : Around} {E : Value → Shared → Prop} {s : Shared} {env : Env}
theorem raiseD {x : PySem.Expr} {pos : Pos} {Q : Flow → Shared → Prop} (hh : A.handled = none) (h : wpAny (model prog w) A (eval x env) (RaiseOk E) E s) :
    wpAny (model prog w) A (exec (.Raise (some x) none pos) env) Q E s := by
  have hcB : (Value.ref 72 :: bm72).contains (.type "BaseException") = true := by decide +kernel
  rw [arm_exec_Raise]
  refine wpAny_bind (wpAny_standAt ?_)
  simp only [evalOpt, Option.map]
  unfold raiseStmt
  refine wpAny_bind (wpAny_bind (wpAny_mono h (fun v s₁ h₁ => wpAny_bind (wpAny_standAt (wpAny_pure ?_))) fun _ _ x => x))
  obtain ⟨e, t, d, rfl, hC, he, hE⟩ := h₁
  obtain ⟨hp, g, dr, tk, os⟩ := s₁
  repeat (first | with_reducible refine wpAny_loadPart_at he ?_ | with_reducible refine wpAny_loadPart_at hC ?_ | (with_reducible refine wpAny_isSubtype_exc hC ?_; rw [hcB]) | wp_step)
  exact wpAny_raiseNew_none hh hE
end
section
variable {w : World} {M : Model} {A : Around} {E : Value → Shared → Prop} {s : Shared} {base g g₂ : Heap} {outer : List Env} {L a e : Addr} {m : PySem.Str → Option Value} {name : PySem.Str} {scope : Scope} {cd : Value} {cl : List (PySem.Str × Addr)} {t : Tk} {Q : Unit → Shared → Prop} {led : List (Addr × Obj)}
theorem mem_fr {b : Addr} (hm : b ∈ (envX name scope L a cd cl :: outer).filterMap (·.frame)) : b = L ∨ b ∈ outer.filterMap (·.frame) := by
  obtain ⟨env, he, hf⟩ := List.mem_filterMap.mp hm
  rcases List.mem_cons.mp he with rfl | he
  · exact .inl (Option.some.inj hf).symm
  · exact .inr (List.mem_filterMap.mpr ⟨env, he, hf⟩)
theorem leaveG_on (K : Below A base outer g) (F : Fr g L g₂ m) (R : RaisedG w base g₂ (envX name scope L a cd cl :: outer) e t led s.heap) (hsm : g₂.UpToSlots s.heap)
    (hQ : ∀ h', RaisedG w base g outer e t led h' → g.UpToSlots h' → Q () { s with heap := h' }) :
    wpAny M (A.deeper (envX name scope L a cd cl)) (leaving (envX name scope L a cd cl) (.ref e)) Q E s := by
  obtain ⟨B, d, u1, u2, n, wh, hB, hBG, hfl, r1, r2, r3, r4⟩ := R.ex
  exact leaveD_on (Around.frames_deeper K.stack) rfl hfl fun h' x1 x2 => hQ h' ⟨B, d, u1, u2, n, wh, hB, fun b o q nm => hBG b o (F.keep b o q) (fun hm => by
      rcases mem_fr hm with z | z
      · rw [z, kts_self F] at q; cases q
      · exact nm z), x1, r1, kts_none F.keep r2, kts_none F.keep r3, r4⟩ ((Heap.UpToSlots.of_keeps F.keep).trans (hsm.trans x2))
theorem leaveG_first (K : Below A base outer g) (F : Fr g L s.heap m) (N : News g L s.heap led) (G : GF w e t led) (tab : TabIn led)
    (hQ : ∀ h', RaisedG w base g outer e t led h' → g.UpToSlots h' → Q () { s with heap := h' }) (hk : scope.kind = .function := by rfl) :
    wpAny M (A.deeper (envX name scope L a cd cl)) (leaving (envX name scope L a cd cl) (.ref e)) Q E s := by
  obtain ⟨t', d, u1, u2, n, wh, G1, G2, G3⟩ := G
  have K' := pushX (env := envX name scope L a cd cl) K F rfl hk
  have hin : ∀ env ∈ (envX name scope L a cd cl :: outer), ∀ b, env.frame = some b → b ∈ e :: (envX name scope L a cd cl :: outer).filterMap (·.frame) := fun env he b hb => .tail _ (List.mem_filterMap.mpr ⟨env, he, hb⟩)
  have fresh : ∀ {b : Addr}, g.get? b = none → base.get? b = none := fun hb => fresh_of_stays K.stays hb
  have ne := fresh (N _ G1).2.2
  have st : base.StaysIn (hideAll s.heap (e :: (envX name scope L a cd cl :: outer).filterMap (·.frame))) := fun b o q => hideAll_get _ (K'.stays b o q) fun hm => by
    rcases List.mem_cons.mp hm with rfl | hm
    · rw [ne] at q; cases q
    · rw [(K'.frames.mem hm).1] at q; cases q
  have sg : ∀ b o, g.get? b = some o → b ∉ outer.filterMap (·.frame) → (hideAll s.heap (e :: (envX name scope L a cd cl :: outer).filterMap (·.frame))).get? b = some o := fun b o q nm => hideAll_get _ (F.keep b o q) fun hm => by
    rcases List.mem_cons.mp hm with rfl | hm
    · rw [(N _ G1).2.2] at q; cases q
    · rcases mem_fr hm with z | z
      · rw [z, kts_self F] at q; cases q
      · exact nm z
  have hl : ∀ q ∈ led, q.1 ≠ e → (hideAll s.heap (e :: (envX name scope L a cd cl :: outer).filterMap (·.frame))).get? q.1 = some q.2 := fun q hq hne => by
    refine hideAll_get _ (N q hq).1 fun hm => ?_
    rcases List.mem_cons.mp hm with h | hm
    · exact hne h
    · obtain ⟨env, he, hf⟩ := List.mem_filterMap.mp hm
      rcases List.mem_cons.mp he with rfl | he
      · exact (N q hq).2.1 (Option.some.inj hf).symm
      · obtain ⟨o, ho, _⟩ := (K.frames.mem (List.mem_filterMap.mpr ⟨env, he, hf⟩)).2
        rw [(N q hq).2.2] at ho; cases ho
  have hd : d ≠ e := fun q => by subst q; have := same_of N G1 G2; simp at this
  obtain ⟨ps, T1, T2, T3⟩ := tab
  have h232 : (232 : Addr) ≠ e := fun q => by
    rw [← q] at G1
    have := same_of N G1 T1
    simp [tabObj] at this
  refine leaveD_first (base := hideAll s.heap (e :: (envX name scope L a cd cl :: outer).filterMap (·.frame))) (t := t') (d := d) (Around.frames_deeper K.stack) rfl (funFrames_hide K'.frames hin) (fun b o q => of_hideAll _ q) (hideAll_none _ (.head _)) (N _ G1).1 fun h' x1 x2 => ?_
  refine hQ h' ⟨_, d, u1, u2, n, wh, st, sg, x1, hl _ G2 hd, (N _ G2).2.2, (N _ G1).2.2, G3, fun q hq hq2 => hl q hq fun z => ?_, ps, hl _ T1 h232, T2, T3⟩ ((Heap.UpToSlots.of_keeps F.keep).trans x2)
  obtain ⟨b, o⟩ := q
  simp only at z
  subst z
  rw [same_of N hq G1] at hq2
  cases hq2
end
end
section
open PySem PySem.W PySem.Spec PySem.Calls PyProof.Rows
theorem raise_ok {w : World} {g : Heap} {L e : Addr} {m : PySem.Str → Option Value} {led : List (Addr × Obj)} {E : Value → Shared → Prop} {s : Shared} {t : Tk} (F : Fr g L s.heap m) (X : (hd0.heap_1 w.params).In g) (N : News g L s.heap led) (G : GF w e t led) (hE : E (.ref e) s) : RaiseOk E (.ref e) s :=
  let ⟨_, _, _, _, _, _, G1, _, _⟩ := G
  ⟨e, _, _, rfl, F.keep _ _ (X _ _ (k72 w)), (N _ G1).1, hE⟩
section
section
variable {w : World} {mean : ExcName → Option Value} {pq : Program} {lq : List PySem.Str} {mg mb : PySem.Str → Option Value} {dp un : Nat} {gd : Option (List Code)} {cn : PySem.Str} {cs : Scope} {a : Addr} {ccd : Value} {cl : List (PySem.Str × Addr)} {outer : List Env} {A₀ : Around} {base h₀ : Heap} {L : Addr} {m : PySem.Str → Option Value} {s : Shared}
  {Q E : Value → Shared → Prop} {led : List (Addr × Obj)} {r : RdI} {p : Int} {tp : Tok}
  (B : Below A₀ base outer h₀) (F : Fr h₀ L s.heap m) (X : (hd0.heap_1 w.params).In h₀) (N : News h₀ L s.heap led) (T : Top pq lq mean mg mb h₀) (hk : cs.kind = .function) (R : Rdr w r p tp led)
include B F X N T hk R
theorem word32_1 : True := by
  k_with_none
  (k_with "ktr_room" => first | exact lt_room (k := 1) hdp rfl rfl | exact lt_room (k := 0) hdp rfl rfl | exact lt_room0 (k := 1) hdp rfl rfl | exact lt_room0 (k := 0) hdp rfl rfl | fail "ktr_room")
  (k_with "ktr_units" => first | exact lt_room (k := 3) hun rfl rfl | exact lt_room (k := 0) hun rfl rfl | exact lt_room0 (k := 3) hun rfl rfl | exact lt_room0 (k := 0) hun rfl rfl | fail "ktr_units")
  (k_with "k_mem" => first | assumption | exact List.Mem.head _ | exact List.Mem.tail _ (List.Mem.head _))
  (k_with "cell_enter" => (refine' code_def (by k_asm) (by k_asm) (by k_asm) (by k_asm) (by k_asm) (by exact rfl) (by exact rfl) (by first | exact rfl | assumption) (by k_is) (by k_is) (by ktr_room) (by first | exact BindsTo.of_eq rfl | exact binds_K (by k_in) rfl (by k_is) rfl rfl rfl) (by exact locs rfl) ?_ (by exact rfl) (by exact rfl) (by exact rfl) (by decide); k_whole; intro g' L' h' FG' F' N' B' X' T'; (try dsimp only); (try k_lift B'); (try k_fold)))
  (k_with "call ref" => (k_here; (with_reducible show wpAny _ _ (call (Prod.fst _) _) _ _ _); (dsimp only [List.cons_append, List.nil_append]); walk_at "call ref"))
  (k_with "setAttr ref" => (k_here; (with_reducible show wpAny _ _ (setAttr (Value.ref _) (PySem.Str.ofString "at") (Value.int _ _)) _ _ _); k_dflt (refine' set_at (by k_asm) (by k_in) (by k_asm) (by first | assumption | exact Rdr.cons (by assumption) | exact Rdr.cons (Rdr.cons (by assumption)) | exact Rdr.cons (Rdr.cons (Rdr.cons (by assumption)))) (by omega) (by omega) ?_); intro h9 led9 F9 N9 K9 R9; (try have mx := K9 _ (List.Mem.head _) rfl); (try have my := K9 _ (List.Mem.tail _ (List.Mem.head _)) rfl); (have K9' := Keeps.trans (by first | assumption | exact Keeps.cons (by assumption) | exact Keeps.cons (Keeps.cons (by assumption))) K9); (clear K9); (have R9' := R9); (obtain ⟨m1, m2, m3, m4, m5, m6, m7⟩ := R9'); (try obtain ⟨z1, z2, z3, z4⟩ := m4 _ (List.mem_of_getElem? (by assumption)))))
  (k_with "exec While" => (k_here; k_dflt (refine whl_start 100 ?_)))
  (k_with "exec While BoolOp" => (k_here; k_dflt (refine whl_start 100 ?_)))
  (k_with "exec While Compare" => (k_here; k_dflt (refine whl_start 100 ?_)))
  (k_with "exec While UnaryOp" => (k_here; k_dflt (refine whl_start 100 ?_)))
  (k_with "exec While Call" => (k_here; k_dflt (refine whl_start 100 ?_)))
  (k_with "exec Raise some none" => (k_here; k_dflt (refine raiseD (by exact rfl) ?_)))
  (k_with "RaiseOk" => (k_dflt (refine' raise_ok (by k_asm) (by k_in) (by k_asm) (by assumption) ?_)))
  (k_with "leaving" => first | (k_dflt (refine' leaveG_on (by k_asm) (by assumption) (by assumption) (by assumption) ?_); intro h9 R9 U9) | (k_dflt (refine' leaveG_first (by k_asm) (by k_asm) (by k_asm) (by assumption) (by assumption) ?_ (by exact rfl)); intro h9 R9 U9))
  (k_with "call ref" => (k_here; (with_reducible show wpAny _ _ (call (Value.ref 333) [Value.ref _, Value.str _ _]) _ _ _); k_dflt (refine' fault_spec (by k_asm) (by k_asm) (by k_in) (by k_asm) (by k_asm) (by first | exact rfl | assumption) (by first | assumption | exact Rdr.cons (by assumption) | exact Rdr.cons (Rdr.cons (by assumption)) | exact Rdr.cons (Rdr.cons (Rdr.cons (by assumption)))) (by assumption) (by ktr_room) (by ktr_units) ?_); intro e9 led9 h9 tk9 F9 N9 K9 R9 G9; (have tb9 := Rdr.tab R9); (have KK9 := Keeps.trans (by first | assumption | exact Keeps.cons (by assumption) | exact Keeps.cons (Keeps.cons (by assumption)) | exact Keeps.cons (Keeps.cons (Keeps.cons (by assumption)))) K9); (try dsimp only [tkV]); (try k_fold)))
  (k_with "call ref" => (k_here; (with_reducible show wpAny _ _ (call (Value.ref 362) [Value.ref _, Value.str (PySem.Str.ofString "DELIMITED") _]) _ _ _); k_dflt (refine' skip_f_delimited (by k_asm) (by k_asm) (by k_in) (by k_asm) (by k_asm) (by first | exact rfl | assumption) (by first | assumption | exact Rdr.cons (by assumption) | exact Rdr.cons (Rdr.cons (by assumption)) | exact Rdr.cons (Rdr.cons (Rdr.cons (by assumption)))) (by assumption) (by assumption) (by ktr_room) (by ktr_units) ?_); intro h9 tk9 F9 N9; (try dsimp only [tkV]); (try k_fold)))
  exact True.intro
theorem need_bad {t : Tk} {xt : Tok} (hT : r.T[p.toNat]? = some t) (q1 : worthIs (some t) "word" "DELIMITED" = false) (hdp : dp + 5 < recursionLimit) (hun : un + 40 < cLine)
    (hret : ∀ e g₂ led' h' tk', Fr h₀ L g₂ m → g₂.UpToSlots h' → Keeps led led' → RaisedG w base g₂ (envX cn cs L a ccd cl :: outer) e t led' h' → E (.ref e) { s with heap := h', toks := tk' }) :
    wpAny (model P0 w) (ktrTop dp un gd cn cs L a ccd cl outer) (call (.ref 369) [.ref r.rd, .str "DELIMITED" xt]) Q E s := by
  have R0 := R
  obtain ⟨r1, r2, r3, r4, r5, r6, r7⟩ := R0
  have r8 := tvs_size r.T
  have K0 := Keeps.refl led
  refine wpAny_call ?_
  k_dflt cell_enter
  k_steps
  all_goals first | exact hret _ _ _ _ _ (by k_asm) (by assumption) (by assumption) (by assumption) | (exfalso; omega)
end
end
section
section
variable {w : World} {mean : ExcName → Option Value} {pq : Program} {lq : List PySem.Str} {mg mb : PySem.Str → Option Value} {dp un : Nat} {gd : Option (List Code)} {cn : PySem.Str} {cs : Scope} {a : Addr} {ccd : Value} {cl : List (PySem.Str × Addr)} {outer : List Env} {A₀ : Around} {base h₀ : Heap} {L : Addr} {m : PySem.Str → Option Value} {s : Shared}
  {Q E : Value → Shared → Prop} {led : List (Addr × Obj)} {r : RdI} {p : Int} {tp : Tok}
  (B : Below A₀ base outer h₀) (F : Fr h₀ L s.heap m) (X : (hd0.heap_1 w.params).In h₀) (N : News h₀ L s.heap led) (T : Top pq lq mean mg mb h₀) (hk : cs.kind = .function) (R : Rdr w r p tp led)
include B F X N T hk R
theorem word32_2 : True := by
  k_with_none
  (k_with "ktr_room" => first | exact lt_room (k := 1) hdp rfl rfl | exact lt_room (k := 0) hdp rfl rfl | exact lt_room0 (k := 1) hdp rfl rfl | exact lt_room0 (k := 0) hdp rfl rfl | fail "ktr_room")
  (k_with "ktr_units" => first | exact lt_room (k := 3) hun rfl rfl | exact lt_room (k := 0) hun rfl rfl | exact lt_room0 (k := 3) hun rfl rfl | exact lt_room0 (k := 0) hun rfl rfl | fail "ktr_units")
  (k_with "k_mem" => first | assumption | exact List.Mem.head _ | exact List.Mem.tail _ (List.Mem.head _))
  (k_with "cell_enter" => (refine' code_def (by k_asm) (by k_asm) (by k_asm) (by k_asm) (by k_asm) (by exact rfl) (by exact rfl) (by first | exact rfl | assumption) (by k_is) (by k_is) (by ktr_room) (by first | exact BindsTo.of_eq rfl | exact binds_K (by k_in) rfl (by k_is) rfl rfl rfl) (by exact locs rfl) ?_ (by exact rfl) (by exact rfl) (by exact rfl) (by decide); k_whole; intro g' L' h' FG' F' N' B' X' T'; (try dsimp only); (try k_lift B'); (try k_fold)))
  (k_with "call ref" => (k_here; (with_reducible show wpAny _ _ (call (Prod.fst _) _) _ _ _); (dsimp only [List.cons_append, List.nil_append]); walk_at "call ref"))
  (k_with "setAttr ref" => (k_here; (with_reducible show wpAny _ _ (setAttr (Value.ref _) (PySem.Str.ofString "at") (Value.int _ _)) _ _ _); k_dflt (refine' set_at (by k_asm) (by k_in) (by k_asm) (by first | assumption | exact Rdr.cons (by assumption) | exact Rdr.cons (Rdr.cons (by assumption)) | exact Rdr.cons (Rdr.cons (Rdr.cons (by assumption)))) (by omega) (by omega) ?_); intro h9 led9 F9 N9 K9 R9; (try have mx := K9 _ (List.Mem.head _) rfl); (try have my := K9 _ (List.Mem.tail _ (List.Mem.head _)) rfl); (have K9' := Keeps.trans (by first | assumption | exact Keeps.cons (by assumption) | exact Keeps.cons (Keeps.cons (by assumption))) K9); (clear K9); (have R9' := R9); (obtain ⟨m1, m2, m3, m4, m5, m6, m7⟩ := R9'); (try (have zz := m4 _ (List.mem_of_getElem? (by assumption)); obtain ⟨z1, z2, z3, z4⟩ := zz))))
  (k_with "exec While" => (k_here; k_dflt (refine whl_start 100 ?_)))
  (k_with "exec While BoolOp" => (k_here; k_dflt (refine whl_start 100 ?_)))
  (k_with "exec While Compare" => (k_here; k_dflt (refine whl_start 100 ?_)))
  (k_with "exec While UnaryOp" => (k_here; k_dflt (refine whl_start 100 ?_)))
  (k_with "exec While Call" => (k_here; k_dflt (refine whl_start 100 ?_)))
  (k_with "exec Raise some none" => (k_here; k_dflt (refine raiseD (by exact rfl) ?_)))
  (k_with "RaiseOk" => (k_dflt (refine' raise_ok (by k_asm) (by k_in) (by k_asm) (by assumption) ?_)))
  (k_with "leaving" => first | (k_dflt (refine' leaveG_on (by k_asm) (by assumption) (by assumption) (by assumption) ?_); intro h9 R9 U9) | (k_dflt (refine' leaveG_first (by k_asm) (by k_asm) (by k_asm) (by assumption) (by assumption) ?_ (by exact rfl)); intro h9 R9 U9))
  (k_with "call ref" => (k_here; (with_reducible show wpAny _ _ (call (Value.ref 333) [Value.ref _, Value.str _ _]) _ _ _); k_dflt (refine' fault_spec (by k_asm) (by k_asm) (by k_in) (by k_asm) (by k_asm) (by first | exact rfl | assumption) (by first | assumption | exact Rdr.cons (by assumption) | exact Rdr.cons (Rdr.cons (by assumption)) | exact Rdr.cons (Rdr.cons (Rdr.cons (by assumption)))) (by assumption) (by ktr_room) (by ktr_units) ?_); intro e9 led9 h9 tk9 F9 N9 K9 R9 G9; (have tb9 := Rdr.tab R9); (have KK9 := Keeps.trans (by first | assumption | exact Keeps.cons (by assumption) | exact Keeps.cons (Keeps.cons (by assumption)) | exact Keeps.cons (Keeps.cons (Keeps.cons (by assumption)))) K9); (try dsimp only [tkV]); (try k_fold)))
  exact True.intro
theorem refuse_spec {t : Tk} {q : Int} {tq xt : Tok} {x : PySem.Str} (hT : r.T[q.toNat]? = some t) (q0 : 0 ≤ q) (hdp : dp + 4 < recursionLimit) (hun : un + 32 < cLine)
    (hret : ∀ e g₂ led' h' tk', Fr h₀ L g₂ m → g₂.UpToSlots h' → Keeps led led' → RaisedG w base g₂ (envX cn cs L a ccd cl :: outer) e t led' h' → E (.ref e) { s with heap := h', toks := tk' }) :
    wpAny (model P0 w) (ktrTop dp un gd cn cs L a ccd cl outer) (call (.ref 258) [.ref r.rd, .int q tq, .str x xt]) Q E s := by
  have R0 := R
  obtain ⟨r1, r2, r3, r4, r5, r6, r7⟩ := R0
  have r8 := tvs_size r.T
  have K0 := Keeps.refl led
  have r9 := lt_of_at hT q0
  refine wpAny_call ?_
  k_dflt cell_enter
  k_steps
  all_goals first | exact hret _ _ _ _ _ (by k_asm) (by assumption) (by assumption) (by assumption) | (exfalso; omega)
end
end
end
section
open PySem PySem.W PySem.Spec PySem.Calls PyProof.Rows
section
section
variable {w : World} {mean : ExcName → Option Value} {pq : Program} {lq : List PySem.Str} {mg mb : PySem.Str → Option Value} {dp un : Nat} {gd : Option (List Code)} {cn : PySem.Str} {cs : Scope} {a : Addr} {ccd : Value} {cl : List (PySem.Str × Addr)} {outer : List Env} {A₀ : Around} {base h₀ : Heap} {L : Addr} {m : PySem.Str → Option Value} {s : Shared}
  {Q E : Value → Shared → Prop} {led : List (Addr × Obj)} {r : RdI} {p : Int} {tp : Tok}
  (B : Below A₀ base outer h₀) (F : Fr h₀ L s.heap m) (X : (hd0.heap_1 w.params).In h₀) (N : News h₀ L s.heap led) (T : Top pq lq mean mg mb h₀) (hk : cs.kind = .function) (R : Rdr w r p tp led)
include B F X N T hk R
theorem word33_1 : True := by
  k_with_none
  (k_with "ktr_room" => first | exact lt_room (k := 1) hdp rfl rfl | exact lt_room (k := 0) hdp rfl rfl | exact lt_room0 (k := 1) hdp rfl rfl | exact lt_room0 (k := 0) hdp rfl rfl | fail "ktr_room")
  (k_with "ktr_units" => first | exact lt_room (k := 3) hun rfl rfl | exact lt_room (k := 0) hun rfl rfl | exact lt_room0 (k := 3) hun rfl rfl | exact lt_room0 (k := 0) hun rfl rfl | fail "ktr_units")
  (k_with "k_mem" => first | assumption | exact List.Mem.head _ | exact List.Mem.tail _ (List.Mem.head _))
  (k_with "cell_enter" => (refine' code_def (by k_asm) (by k_asm) (by k_asm) (by k_asm) (by k_asm) (by exact rfl) (by exact rfl) (by first | exact rfl | assumption) (by k_is) (by k_is) (by ktr_room) (by first | exact BindsTo.of_eq rfl | exact binds_K (by k_in) rfl (by k_is) rfl rfl rfl) (by exact locs rfl) ?_ (by exact rfl) (by exact rfl) (by exact rfl) (by decide); k_whole; intro g' L' h' FG' F' N' B' X' T'; (try dsimp only); (try k_lift B'); (try k_fold)))
  (k_with "call ref" => (k_here; (with_reducible show wpAny _ _ (call (Prod.fst _) _) _ _ _); (dsimp only [List.cons_append, List.nil_append]); walk_at "call ref"))
  (k_with "setAttr ref" => (k_here; (with_reducible show wpAny _ _ (setAttr (Value.ref _) (PySem.Str.ofString "at") (Value.int _ _)) _ _ _); k_dflt (refine' set_at (by k_asm) (by k_in) (by k_asm) (by first | assumption | exact Rdr.cons (by assumption) | exact Rdr.cons (Rdr.cons (by assumption)) | exact Rdr.cons (Rdr.cons (Rdr.cons (by assumption)))) (by omega) (by omega) ?_); intro h9 led9 F9 N9 K9 R9; (try have mx := K9 _ (List.Mem.head _) rfl); (try have my := K9 _ (List.Mem.tail _ (List.Mem.head _)) rfl); (have K9' := Keeps.trans (by first | assumption | exact Keeps.cons (by assumption) | exact Keeps.cons (Keeps.cons (by assumption))) K9); (clear K9); (have R9' := R9); (obtain ⟨m1, m2, m3, m4, m5, m6, m7⟩ := R9'); (try obtain ⟨z1, z2, z3, z4⟩ := m4 _ (List.mem_of_getElem? (by assumption)))))
  (k_with "exec While" => (k_here; k_dflt (refine whl_start 100 ?_)))
  (k_with "exec While BoolOp" => (k_here; k_dflt (refine whl_start 100 ?_)))
  (k_with "exec While Compare" => (k_here; k_dflt (refine whl_start 100 ?_)))
  (k_with "exec While UnaryOp" => (k_here; k_dflt (refine whl_start 100 ?_)))
  (k_with "exec While Call" => (k_here; k_dflt (refine whl_start 100 ?_)))
  (k_with "exec Raise some none" => (k_here; k_dflt (refine raiseD (by exact rfl) ?_)))
  (k_with "RaiseOk" => (k_dflt (refine' raise_ok (by k_asm) (by k_in) (by k_asm) (by assumption) ?_)))
  (k_with "leaving" => first | (k_dflt (refine' leaveG_on (by k_asm) (by assumption) (by assumption) (by assumption) ?_); intro h9 R9 U9) | (k_dflt (refine' leaveG_first (by k_asm) (by k_asm) (by k_asm) (by assumption) (by assumption) ?_ (by exact rfl)); intro h9 R9 U9))
  (k_with "subscriptTail" => (k_here; (with_reducible show wpAny _ _ (subscriptTail _ _ (Value.ref _) (Value.int _ _)) _ _ _); (with_unfolding_all refine' tup_item0 (by k_asm) (by k_mem) ?_ (by with_unfolding_all rfl); k_whole)))
  (k_with "compareOp In str ref" => (k_here; (with_reducible show wpAny _ _ (compareOp CmpOp.In (Value.str _ _) (Value.ref _)) _ _ _); k_dflt (refine in_tup (b := true) (by k_asm) (by k_mem) (by first | exact .cons _ _ (.cons _ _ .nil) | exact .cons _ _ .nil) (by first | rfl | decide) ?_)))
  (k_with "call ref" => (k_here; (with_reducible show wpAny _ _ (call (Value.ref 265) [Value.ref _]) _ _ _); k_dflt (refine' oph_all (by k_asm) (by k_asm) (by k_in) (by k_asm) (by k_asm) (by first | exact rfl | assumption) (by first | assumption | exact Rdr.cons (by assumption) | exact Rdr.cons (Rdr.cons (by assumption)) | exact Rdr.cons (Rdr.cons (Rdr.cons (by assumption)))) (by assumption) (by assumption) (by assumption) (by assumption) (by assumption) (by assumption) (by assumption) (by assumption) (by assumption) (by ktr_room) (by ktr_units) ?_); intro led9 tp9 v9 h9 tk9 F9 N9 K9 R9 D9; (obtain ⟨a9, t9, vs9, n9, ev, hm9⟩ := dv_head D9); (subst ev); (try have mx := K9 _ (List.Mem.head _) rfl); (try have my := K9 _ (List.Mem.tail _ (List.Mem.head _)) rfl); (have K9' := Keeps.trans (by first | assumption | exact Keeps.cons (by assumption) | exact Keeps.cons (Keeps.cons (by assumption))) K9); (clear K9); (have R9' := R9); (obtain ⟨m1, m2, m3, m4, m5, m6, m7⟩ := R9'); (try (have zz := m4 _ (List.mem_of_getElem? (by assumption)); obtain ⟨z1, z2, z3, z4⟩ := zz)); (try dsimp only [tkV]); (try k_fold)))
  (k_with "call ref" => (k_here; (with_reducible show wpAny _ _ (call (Value.ref 265) [Value.ref _]) _ _ _); k_dflt (refine' oph_num (by k_asm) (by k_asm) (by k_in) (by k_asm) (by k_asm) (by first | exact rfl | assumption) (by first | assumption | exact Rdr.cons (by assumption) | exact Rdr.cons (Rdr.cons (by assumption)) | exact Rdr.cons (Rdr.cons (Rdr.cons (by assumption)))) (by assumption) (by assumption) (by assumption) (by assumption) (by ktr_room) (by ktr_units) ?_); intro led9 tp9 v9 h9 tk9 F9 N9 K9 R9 D9; (obtain ⟨a9, t9, vs9, n9, ev, hm9⟩ := dv_head D9); (subst ev); (try have mx := K9 _ (List.Mem.head _) rfl); (try have my := K9 _ (List.Mem.tail _ (List.Mem.head _)) rfl); (have K9' := Keeps.trans (by first | assumption | exact Keeps.cons (by assumption) | exact Keeps.cons (Keeps.cons (by assumption))) K9); (clear K9); (have R9' := R9); (obtain ⟨m1, m2, m3, m4, m5, m6, m7⟩ := R9'); (try (have zz := m4 _ (List.mem_of_getElem? (by assumption)); obtain ⟨z1, z2, z3, z4⟩ := zz)); (try dsimp only [tkV]); (try k_fold)))
  (k_with "call ref" => (k_here; (with_reducible show wpAny _ _ (call (Value.ref 258) [Value.ref _, Value.int _ _, Value.str _ _]) _ _ _); k_dflt (refine' refuse_spec (by k_asm) (by k_asm) (by k_in) (by k_asm) (by k_asm) (by first | exact rfl | assumption) (by first | assumption | exact Rdr.cons (by assumption) | exact Rdr.cons (Rdr.cons (by assumption)) | exact Rdr.cons (Rdr.cons (Rdr.cons (by assumption)))) (by assumption) (by assumption) (by ktr_room) (by ktr_units) ?_); intro e9 g9 led9 h9 tk9 F9 U9 K9 R9; (have KK9 := Keeps.trans (by first | assumption | exact Keeps.cons (by assumption) | exact Keeps.cons (Keeps.cons (by assumption)) | exact Keeps.cons (Keeps.cons (Keeps.cons (by assumption)))) K9); (try dsimp only [tkV]); (try k_fold)))
  exact True.intro
theorem text_bad_all {t t1 : Tk} {l : List Pr} (H : Rest r.T p l) (hb : BegO l true) (hT : r.T[p.toNat]? = some t) (hx1 : t.k = "word") (hx2 : t.x = "ALL") (hT1 : r.T[(p + 1).toNat]? = some t1) (hk1 : t1.k = "literal") (h1 : t1.x.cps.all (· < 128) = true) (h2 : t1.x.cps.size ≤ 1000) (hdp : dp + 10 < recursionLimit) (hun : un + 80 < cLine)
    (hret : ∀ e g₂ led' h' tk', Fr h₀ L g₂ m → g₂.UpToSlots h' → Keeps led led' → RaisedG w base g₂ (envX cn cs L a ccd cl :: outer) e t led' h' → E (.ref e) { s with heap := h', toks := tk' }) :
    wpAny (model P0 w) (ktrTop dp un gd cn cs L a ccd cl outer) (call (.ref 272) [.ref r.rd]) Q E s := by
  have R0 := R
  obtain ⟨r1, r2, r3, r4, r5, r6, r7⟩ := R0
  have r8 := tvs_size r.T
  have K0 := Keeps.refl led
  refine wpAny_call ?_
  k_dflt cell_enter
  k_steps
  all_goals first | exact hret _ _ _ _ _ (by k_asm) (by assumption) (by assumption) (by assumption) | (exfalso; omega)
theorem text_bad_num {t : Tk} {d : Int} {l : List Pr} (H : Rest r.T p l) (hb : BegO l true) (hT : r.T[p.toNat]? = some t) (hn : NumOk t d) (hdp : dp + 10 < recursionLimit) (hun : un + 80 < cLine)
    (hret : ∀ e g₂ led' h' tk', Fr h₀ L g₂ m → g₂.UpToSlots h' → Keeps led led' → RaisedG w base g₂ (envX cn cs L a ccd cl :: outer) e t led' h' → E (.ref e) { s with heap := h', toks := tk' }) :
    wpAny (model P0 w) (ktrTop dp un gd cn cs L a ccd cl outer) (call (.ref 272) [.ref r.rd]) Q E s := by
  have R0 := R
  obtain ⟨r1, r2, r3, r4, r5, r6, r7⟩ := R0
  have r8 := tvs_size r.T
  have K0 := Keeps.refl led
  refine wpAny_call ?_
  k_dflt cell_enter
  k_steps
  all_goals first | exact hret _ _ _ _ _ (by k_asm) (by assumption) (by assumption) (by assumption) | (exfalso; omega)
end
end
end
section
open PySem PySem.W PySem.Spec PySem.Calls PyProof.Rows
structure Cut (P : Prop) : Prop where
  h : P
theorem if_cut {w : World} {A : Around} {Q E : Value → Shared → Prop} {s : Shared} {h₀ : Heap} {L : Addr} {m : PySem.Str → Option Value} {led : List (Addr × Obj)} {r : RdI} {e : PySem.Expr} {env : Env} (l : List Pr) (t : Dt) (F : Fr h₀ L s.heap m) (N : News h₀ L s.heap led)
    (hh : Cut (∀ Q' : Value → Shared → Prop, (∀ led' tp' v p' h' tk', Fr h₀ L h' m → News h₀ L h' led' → Keeps led led' → Rdr w r p' tp' led' → Rest r.T p' l → DV led' v t → Q' v { s with heap := h', toks := tk' }) → wpAny (model P0 w) A (eval e env) Q' E s))
    (k : ∀ led' tp' v p' h' tk', Fr h₀ L h' m → News h₀ L h' led' → Keeps led led' → Rdr w r p' tp' led' → Rest r.T p' l → DV led' v t → Q v { s with heap := h', toks := tk' }) : wpAny (model P0 w) A (eval e env) Q E s := hh.h Q k
abbrev intoP : Pr := ("word", "INTO")
section
section
variable {w : World} {mean : ExcName → Option Value} {pq : Program} {lq : List PySem.Str} {mg mb : PySem.Str → Option Value} {dp un : Nat} {gd : Option (List Code)} {cn : PySem.Str} {cs : Scope} {a : Addr} {ccd : Value} {cl : List (PySem.Str × Addr)} {outer : List Env} {A₀ : Around} {base h₀ : Heap} {L : Addr} {m : PySem.Str → Option Value} {s : Shared}
  {Q E : Value → Shared → Prop} {led : List (Addr × Obj)} {r : RdI} {p : Int} {tp : Tok}
  (B : Below A₀ base outer h₀) (F : Fr h₀ L s.heap m) (X : (hd0.heap_1 w.params).In h₀) (N : News h₀ L s.heap led) (T : Top pq lq mean mg mb h₀) (hk : cs.kind = .function) (R : Rdr w r p tp led)
include B F X N T hk R
theorem word34_1 : True := by
  k_with_none
  (k_with "ktr_room" => first | exact lt_room (k := 1) hdp rfl rfl | exact lt_room (k := 0) hdp rfl rfl | exact lt_room0 (k := 1) hdp rfl rfl | exact lt_room0 (k := 0) hdp rfl rfl | fail "ktr_room")
  (k_with "ktr_units" => first | exact lt_room (k := 3) hun rfl rfl | exact lt_room (k := 0) hun rfl rfl | exact lt_room0 (k := 3) hun rfl rfl | exact lt_room0 (k := 0) hun rfl rfl | fail "ktr_units")
  (k_with "k_mem" => first | assumption | exact List.Mem.head _ | exact List.Mem.tail _ (List.Mem.head _))
  (k_with "cell_enter" => (refine' code_defC (by k_asm) (by k_asm) (by k_asm) (by k_asm) (by k_asm) (by exact rfl) (by exact rfl) (by first | exact rfl | assumption) (by k_is) (by k_is) (by ktr_room) (by first | exact BindsTo.of_eq rfl | exact binds_K (by k_in) rfl (by k_is) rfl rfl rfl) (by exact rfl) (by decide +kernel) ?_ (by exact rfl) (by exact rfl) (by exact rfl); k_whole; intro g'w L'w h'w tk'w cells'w FG'w F'w N'w Y'w B'w X'w T'w l1w; k_cells Y'w; (try simp only [List.cons_append, List.nil_append] at N'w); (try dsimp only); (try k_lift B'w); (try k_fold)))
  (k_with "WhlPst" => (dsimp only [WhlPst]))
  (k_with "exec While" => (k_here; k_dflt (refine whl_startS ?_)))
  (k_with "exec While BoolOp" => (k_here; k_dflt (refine whl_startS ?_)))
  (k_with "exec While Compare" => (k_here; k_dflt (refine whl_startS ?_)))
  (k_with "exec While UnaryOp" => (k_here; k_dflt (refine whl_startS ?_)))
  (k_with "exec While Call" => (k_here; k_dflt (refine whl_startS ?_)))
  (k_with "exec Raise some none" => (k_here; k_dflt (refine raiseD (by exact rfl) ?_)))
  (k_with "RaiseOk" => (k_dflt (refine' raise_ok (by k_asm) (by k_in) (by k_asm) (by assumption) ?_)))
  (k_with "leaving" => first | (k_dflt (refine' leaveG_on (by k_asm) (by assumption) (by assumption) (by assumption) ?_); intro h9w R9w U9w) | (k_dflt (refine' leaveG_first (by k_asm) (by k_asm) (by k_asm) (by assumption) (by assumption) ?_ (by exact rfl)); intro h9w R9w U9w))
  (k_with "call type:tuple" => (k_here; (with_reducible show wpAny _ _ (call (Value.type _) [Value.ref _]) _ _ _); k_dflt (refine' tup_R (by k_asm) (by k_asm) (by first | assumption | exact RowsAt.keeps (by assumption) kcons) (by assumption) ?_; k_whole); intro D9w h9w F9w N9w))
  (k_with "eval ListComp" => (k_here; k_dflt (refine ListComp_S (F₀ := by k_asm) (by with_unfolding_all rfl) (by decide) (by rfl) (by decide) (by rfl) ?_)))
  (k_with "call builtin:list.extend" => (k_here; (try dsimp only [List.cons_append, List.nil_append]); (with_reducible show wpAny _ _ (call (Value.builtin _) [Value.ref _, Value.ref _]) _ _ _); k_dflt (refine' extend_G (by k_asm) (by k_asm) (by assumption) (by assumption) (by assumption) (by assumption) (by assumption) (by assumption) (by assumption) (by assumption) (by assumption) (by assumption) (by assumption) (by assumption) ?_); intro h9w led9w F9w N9w W9w C9w K9w R9w; (try k_fold)))
  (k_with "k_mem" => first | assumption | exact GrpAt.mem (by assumption) | exact RowsAt.mem (by assumption) | exact List.Mem.head _ | exact List.Mem.tail _ (List.Mem.head _))
  (k_with "compareOp Eq ref ref" => (k_here; (with_reducible show wpAny _ _ (compareOp CmpOp.Eq (Value.ref _) (Value.ref _)) _ _ _); k_dflt (refine eq_nil (vs := _) (by k_asm) (by first | exact List.Mem.tail _ (RowsAt.mem (by assumption)) | exact RowsAt.mem (by assumption)) (List.Mem.head _) (by ktr_units) ?_); (try dsimp only [List.isEmpty])))
  (k_with "call builtin:list.append" => (k_here; (with_reducible show wpAny _ _ (call (Value.builtin _) [Value.ref _, _]) _ _ _); k_dflt (refine' append_G (by k_asm) (by k_asm) (by assumption) (by assumption) (by assumption) (by assumption) (by assumption) (by assumption) (by assumption) (by assumption) (by assumption) (by assumption) (by exact Nat.le_trans (by assumption) (by decide)) ?_); intro h9w led9w F9w N9w G9w W9w C9w K9w R9w; (try k_fold)))
  (k_with "storeName" => (k_here; k_dflt (refine' store_G (by k_asm) (by k_asm) (by assumption) (by assumption) (by assumption) (by first | assumption | exact DV.none) (by assumption) (by assumption) (by exact Ne.symm (by assumption)) (by exact Ne.symm (by assumption)) (by assumption) (by assumption) (by exact rfl) ?_ (by exact rfl) (by exact rfl)); intro h9w led9w F9w N9w C9w W9w G9w K9w R9w; (have ca9w := CellIs.at C9w); (try k_fold)))
  (k_with "call ref" => (k_here; (with_reducible show wpAny _ _ (call (Value.ref 272) [Value.ref _]) _ _ _); k_dflt (refine' text_here (by k_asm) (by k_asm) (by k_in) (by k_asm) (by k_asm) (by first | exact rfl | assumption) (by first | assumption | exact Rdr.cons (by assumption) | exact Rdr.cons (Rdr.cons (by assumption)) | exact Rdr.cons (Rdr.cons (Rdr.cons (by assumption)))) (by first | assumption | exact CodeHd.keeps (by assumption) (Fr.keep (by assumption))) (by assumption) (by assumption) (by ktr_room) (by ktr_units) ?_); intro led9w tp9w v9w p9w h9w tk9w F9w N9w K9w R9w H9w D9w; (have mi9w := Rdr.inst R9w); (have md9w := Rdr.dict R9w); (try have rw9w := RowsAt.keeps (by assumption) K9w); (try have gr9w := GrpAt.keeps (by assumption) K9w); (try have ce9w := CellAt.keeps (by assumption) K9w); (try have ci9w := CellIs.keeps (by assumption) K9w); (have K9'w := Keeps.trans (by first | assumption | exact Keeps.cons (by assumption) | exact Keeps.cons (Keeps.cons (by assumption))) K9w); (have m5w := R9w.p0); (have m6w := R9w.fit); (have m7w := R9w.ple); (try dsimp only [tkV]); (try k_fold)))
  (k_with "call ref" => (k_here; (with_reducible show wpAny _ _ (call (Value.ref 279) [Value.ref _]) _ _ _); k_dflt (refine' bt_R (by k_asm) (by k_asm) (by k_in) (by k_asm) (by k_asm) (by first | exact rfl | assumption) (by first | assumption | exact Rdr.cons (by assumption) | exact Rdr.cons (Rdr.cons (by assumption)) | exact Rdr.cons (Rdr.cons (Rdr.cons (by assumption)))) (by assumption) (by assumption) (by ktr_room) (by ktr_units) ?_); intro h9w tk9w F9w N9w; (try dsimp only [tkV]); (try k_fold)))
  (k_with "call ref" => (k_here; (with_reducible show wpAny _ _ (call (Value.ref 369) [Value.ref _, Value.str _ _]) _ _ _); k_dflt (refine' need_bad (by k_asm) (by k_asm) (by k_in) (by k_asm) (by k_asm) (by first | exact rfl | assumption) (by first | assumption | exact Rdr.cons (by assumption) | exact Rdr.cons (Rdr.cons (by assumption)) | exact Rdr.cons (Rdr.cons (Rdr.cons (by assumption)))) (by assumption) (by assumption) (by ktr_room) (by ktr_units) ?_); intro e9w g9w led9w h9w tk9w F9w U9w K9w R9w; (have KK9w := Keeps.trans (by first | assumption | exact Keeps.cons (by assumption) | exact Keeps.cons (Keeps.cons (by assumption)) | exact Keeps.cons (Keeps.cons (Keeps.cons (by assumption)))) K9w); (try dsimp only [tkV]); (try k_fold)))
  (k_with "call ref" => (k_here; (with_reducible show wpAny _ _ (call (Value.ref 369) [Value.ref _, Value.str _ _]) _ _ _); k_dflt (refine' need_R (by k_asm) (by k_asm) (by k_in) (by k_asm) (by k_asm) (by first | exact rfl | assumption) (by first | assumption | exact Rdr.cons (by assumption) | exact Rdr.cons (Rdr.cons (by assumption)) | exact Rdr.cons (Rdr.cons (Rdr.cons (by assumption)))) (by assumption) (by ktr_room) (by ktr_units) ?_); intro led9w tp9w p9w h9w tk9w F9w N9w K9w R9w H9w; (have mi9w := Rdr.inst R9w); (have md9w := Rdr.dict R9w); (try have rw9w := RowsAt.keeps (by assumption) K9w); (try have gr9w := GrpAt.keeps (by assumption) K9w); (try have ce9w := CellAt.keeps (by assumption) K9w); (try have ci9w := CellIs.keeps (by assumption) K9w); (have K9'w := Keeps.trans (by first | assumption | exact Keeps.cons (by assumption) | exact Keeps.cons (Keeps.cons (by assumption))) K9w); (have m5w := R9w.p0); (have m6w := R9w.fit); (have m7w := R9w.ple); (try dsimp only [tkV]); (try k_fold)))
  (k_with "call ref" => (k_here; (with_reducible show wpAny _ _ (call (Value.ref 362) [Value.ref _, Value.str (PySem.Str.ofString "BY") _]) _ _ _); k_dflt (refine' skip_by_R (by k_asm) (by k_asm) (by k_in) (by k_asm) (by k_asm) (by first | exact rfl | assumption) (by first | assumption | exact Rdr.cons (by assumption) | exact Rdr.cons (Rdr.cons (by assumption)) | exact Rdr.cons (Rdr.cons (Rdr.cons (by assumption)))) (by assumption) (by ktr_room) (by ktr_units) ?_); intro led9w tp9w p9w h9w tk9w F9w N9w K9w R9w H9w; (have mi9w := Rdr.inst R9w); (have md9w := Rdr.dict R9w); (try have rw9w := RowsAt.keeps (by assumption) K9w); (try have gr9w := GrpAt.keeps (by assumption) K9w); (try have ce9w := CellAt.keeps (by assumption) K9w); (try have ci9w := CellIs.keeps (by assumption) K9w); (have K9'w := Keeps.trans (by first | assumption | exact Keeps.cons (by assumption) | exact Keeps.cons (Keeps.cons (by assumption))) K9w); (have m5w := R9w.p0); (have m6w := R9w.fit); (have m7w := R9w.ple); (try dsimp only [tkV]); (try k_fold)))
  (k_with "call ref" => (k_here; (with_reducible show wpAny _ _ (call (Value.ref 362) [Value.ref _, Value.str (PySem.Str.ofString "SIZE") _]) _ _ _); k_dflt (refine' skip_size_t_R (by k_asm) (by k_asm) (by k_in) (by k_asm) (by k_asm) (by first | exact rfl | assumption) (by first | assumption | exact Rdr.cons (by assumption) | exact Rdr.cons (Rdr.cons (by assumption)) | exact Rdr.cons (Rdr.cons (Rdr.cons (by assumption)))) (by assumption) (by ktr_room) (by ktr_units) ?_); intro led9w tp9w p9w h9w tk9w F9w N9w K9w R9w H9w; (have mi9w := Rdr.inst R9w); (have md9w := Rdr.dict R9w); (try have rw9w := RowsAt.keeps (by assumption) K9w); (try have gr9w := GrpAt.keeps (by assumption) K9w); (try have ce9w := CellAt.keeps (by assumption) K9w); (try have ci9w := CellIs.keeps (by assumption) K9w); (have K9'w := Keeps.trans (by first | assumption | exact Keeps.cons (by assumption) | exact Keeps.cons (Keeps.cons (by assumption))) K9w); (have m5w := R9w.p0); (have m6w := R9w.fit); (have m7w := R9w.ple); (try dsimp only [tkV]); (try k_fold)))
  (k_with "call ref" => (k_here; (with_reducible show wpAny _ _ (call (Value.ref 362) [Value.ref _, Value.str (PySem.Str.ofString "SIZE") _]) _ _ _); k_dflt (refine' skip_size_f_R (by k_asm) (by k_asm) (by k_in) (by k_asm) (by k_asm) (by first | exact rfl | assumption) (by first | assumption | exact Rdr.cons (by assumption) | exact Rdr.cons (Rdr.cons (by assumption)) | exact Rdr.cons (Rdr.cons (Rdr.cons (by assumption)))) (by assumption) (by ktr_room) (by ktr_units) ?_); intro h9w tk9w F9w N9w; (try dsimp only [tkV]); (try k_fold)))
  (k_with "eval IfExp" => (k_here; (with_reducible show wpAny _ _ (eval (PySem.Expr.IfExp _ _ _ _) _) _ _ _); k_dflt (refine' if_cut (r := r) (gs'.flatMap Grp.toks ++ tl) (delTree d) (by k_asm) (by k_asm) ?_ ?_); rotate_left; intro led9w tp9w v9w p9w h9w tk9w F9w N9w K9w R9w H9w D9w; (have mi9w := Rdr.inst R9w); (have md9w := Rdr.dict R9w); (try have rw9w := RowsAt.keeps (by assumption) K9w); (try have gr9w := GrpAt.keeps (by assumption) K9w); (try have ce9w := CellAt.keeps (by assumption) K9w); (have K9'w := Keeps.trans (by first | assumption | exact Keeps.cons (by assumption) | exact Keeps.cons (Keeps.cons (by assumption))) K9w); (have m5w := R9w.p0); (have m6w := R9w.fit); (have m7w := R9w.ple); (try k_fold)))
  exact True.intro
theorem strung (CD : CodeHd h₀ 236 232) {gs : List Grp} {tl : List Pr} (H : Rest r.T p (gs.flatMap Grp.toks ++ tl)) (hg : gs ≠ []) (hks : ∀ g ∈ gs, g.ks ≠ []) (hc : calm tl = true) (hsz : (gs.flatMap Grp.rows).length ≤ 1000) (hdp : dp + 19 < recursionLimit) (hun : un + 152 < cLine)
    (hret : (BegT tl false ∧ (∀ led' tp' v p' h' tk', Fr h₀ L h' m → News h₀ L h' led' → Keeps led led' → Rdr w r p' tp' led' → Rest r.T p' tl → DV led' v (.tup (gs.flatMap Grp.rows)) → Q v { s with heap := h', toks := tk' })) ∨ (∃ (k0 : Kd) (ks : List Kd) (l : List Pr) (tx : Tk), tl = Kd.toks k0 ++ (ks.flatMap Kd.toks ++ intoP :: l) ∧ ks.length ≤ 100 ∧ r.T[r.T.length - (l.length + 1)]? = some tx ∧ ∀ e g₂ led' h' tk', Fr h₀ L g₂ m → g₂.UpToSlots h' → Keeps led led' → RaisedG w base g₂ (envX cn cs L a ccd cl :: outer) e tx led' h' → E (.ref e) { s with heap := h', toks := tk' })) :
    wpAny (model P0 w) (ktrTop dp un gd cn cs L a ccd cl outer) (call (.ref 284) [.ref r.rd]) Q E s := by
  have K0 := Keeps.refl led
  refine wpAny_call ?_
  k_dflt cell_enter
  k_steps
  have B'w := True.intro; have C9w := True.intro; have D9w := True.intro; have F'w := True.intro; have F9w := True.intro; have FG'w := True.intro; have G9w := True.intro; have H9w := True.intro; have K9'w := True.intro; have K9w := True.intro; have KK9w := True.intro; have L'w := True.intro; have N'w := True.intro; have N9w := True.intro; have R9w := True.intro; have T'w := True.intro; have U9w := True.intro; have W9w := True.intro; have X'w := True.intro; have Y'w := True.intro; have ca9w := True.intro; have ce9w := True.intro; have cells'w := True.intro; have ci9w := True.intro; have e9w := True.intro; have g'w := True.intro; have g9w := True.intro; have gr9w := True.intro; have h'w := True.intro; have h9w := True.intro; have l1w := True.intro; have led9w := True.intro; have m5w := True.intro; have m6w := True.intro; have m7w := True.intro; have md9w := True.intro; have mi9w := True.intro; have p9w := True.intro; have rw9w := True.intro; have tk'w := True.intro; have tk9w := True.intro; have tp9w := True.intro; have v9w := True.intro
  rename_i g1 L1 hx1 tkx1 FG1 B1 X1 T1 l1 o1 d1 lr hx2 l2 hx3 F4 N4
  clear B'w C9w D9w F'w F9w FG'w G9w H9w K9'w K9w KK9w L'w N'w N9w R9w T'w U9w W9w X'w Y'w ca9w ce9w cells'w ci9w e9w g'w g9w gr9w h'w h9w l1w led9w m5w m6w m7w md9w mi9w p9w rw9w tk'w tk9w tp9w v9w
  have hltr : ∀ p ∈ led, isDict p.2 = false → p.1 ≠ lr := fun p hp _ => Nat.ne_of_lt (first_lt l2.2 p hp)
  have hltc : ∀ p ∈ led, isDict p.2 = false → p.1 ≠ L1 + 1 := fun p hp _ => Nat.ne_of_lt (Nat.lt_succ_of_lt (l1 p hp))
  have hcr : L1 + 1 ≠ lr := Nat.ne_of_lt l2.1
  have htr : r.TL ≠ lr := hltr _ R.lst rfl
  have htc : r.TL ≠ L1 + 1 := hltc _ R.lst rfl
  refine outer_loop (gs₀ := gs) (r := r) (led0 := led) (lr := lr) (c := L1 + 1) (D := gs.flatMap Grp.rows) (tl := tl) (p := p) (tp := tp) (rvs := []) (rds := []) (rn := 0) ⟨fr_out F4 rfl rfl, N4, Keeps.cons kcons, R.cons.cons, H, ⟨.head _, .nil⟩, ⟨⟨o1, _, .tail _ (.head _), d1⟩⟩, rfl, hsz⟩ (.inl hg) (by first | passes_own | with_unfolding_all passes_own) ?_ ?_ (fun _ h => h)
  · clear F4 N4 d1
    intro Qo Eo hEo gr gs' h2 tk2 led2 p2 tp2 rvs rds rn mo I ih hmem hsub
    obtain ⟨F2, N2, K2, R2, H2, W2, C2, tot, sz⟩ := I
    obtain ⟨ks0, b, d⟩ := gr
    obtain ⟨k0, ks, rfl⟩ := List.exists_cons_of_ne_nil (hks _ hmem)
    have H3 : Rest r.T p2 (k0.toks ++ (ks.flatMap Kd.toks ++ (dl b d (gs'.flatMap Grp.toks ++ tl)))) := by
      have e : (({ ks := k0 :: ks, b := b, d := d } : Grp) :: gs').flatMap Grp.toks ++ tl = k0.toks ++ (ks.flatMap Kd.toks ++ (dl b d (gs'.flatMap Grp.toks ++ tl))) := by
        simp [Grp.toks, Grp.tail]
      rw [e] at H2; exact H2
    have hb1 : BegT (k0.toks ++ (ks.flatMap Kd.toks ++ (dl b d (gs'.flatMap Grp.toks ++ tl)))) true := .text _ _
    refine whl_turnS hEo ?_
    refine wpAny_mono (Q := TestOk g1 L1 (fun z : PySem.Str => if z = "reader" then some (.ref r.rd) else if z = "rows" then some (.ref lr) else mo z) led2 s) ?_ (fun b s₂ hq => ?_) (fun _ _ e => e)
    · cases rvs with
      | nil =>
        k_steps
        all_goals exact ⟨rfl, _, _, _, rfl, by k_asm, by k_asm, fun _ h => .tail _ h⟩
      | cons v vs =>
        k_steps
        all_goals exact ⟨rfl, _, _, _, rfl, by k_asm, by k_asm, fun _ h => .tail _ h⟩
    · obtain ⟨rfl, h3, tk3, led3, rfl, F3, N3, S3⟩ := hq
      refine WhlIf.yes rfl ?_
      have K3 := Keeps.trans K2 (keeps_sub S3)
      have R3 := R2.mono S3
      have W3 := W2.keeps (keeps_sub S3)
      have C3 := C2.keeps (keeps_sub S3)
      clear F2 N2 K2 R2 H2 W2 C2 S3 hb1
      have hc1 : calm (ks.flatMap Kd.toks ++ (dl b d (gs'.flatMap Grp.toks ++ tl))) = true := calm_flat _ rfl
      k_steps
      have B'w := True.intro; have C9w := True.intro; have D9w := True.intro; have F'w := True.intro; have F9w := True.intro; have FG'w := True.intro; have G9w := True.intro; have H9w := True.intro; have K9'w := True.intro; have K9w := True.intro; have KK9w := True.intro; have L'w := True.intro; have N'w := True.intro; have N9w := True.intro; have R9w := True.intro; have T'w := True.intro; have U9w := True.intro; have W9w := True.intro; have X'w := True.intro; have Y'w := True.intro; have ca9w := True.intro; have ce9w := True.intro; have cells'w := True.intro; have ci9w := True.intro; have e9w := True.intro; have g'w := True.intro; have g9w := True.intro; have gr9w := True.intro; have h'w := True.intro; have h9w := True.intro; have l1w := True.intro; have led9w := True.intro; have m5w := True.intro; have m6w := True.intro; have m7w := True.intro; have md9w := True.intro; have mi9w := True.intro; have p9w := True.intro; have rw9w := True.intro; have tk'w := True.intro; have tk9w := True.intro; have tp9w := True.intro; have v9w := True.intro
      rename_i led4 tp4 v4 p4 h4 tk4 K4 R4 H4 D4 mi4 md4 W4 C4 K4' m5 m6 m7 q hq1 lq h5 F5 N5
      clear B'w C9w D9w F'w F9w FG'w G9w H9w K9'w K9w KK9w L'w N'w N9w R9w T'w U9w W9w X'w Y'w ca9w ce9w cells'w ci9w e9w g'w g9w gr9w h'w h9w l1w led9w m5w m6w m7w md9w mi9w p9w rw9w tk'w tk9w tp9w v9w
      have hrq : lr ≠ q := Nat.ne_of_lt (lq _ W4.mem)
      have hcq : L1 + 1 ≠ q := by obtain ⟨_, _, z1, _⟩ := C4.ex; exact Nat.ne_of_lt (lq _ z1)
      have hKq : ∀ p ∈ led, isDict p.2 = false → p.1 ≠ q := fun p hp hd => Nat.ne_of_lt (lq _ (K4' p hp hd))
      have htq : r.TL ≠ q := Nat.ne_of_lt (lq _ R4.lst)
      have szk : ((k0 :: ks).map Kd.tree).length + rds.length ≤ 1000 := by
        have e := congrArg List.length tot
        simp only [List.length_append, List.flatMap_cons, Grp.rows, List.length_map] at e
        rw [List.length_map]
        have e2 := sz
        omega
      refine inner_loop (r := r) (led0 := led) (lr := lr) (c := L1 + 1) (rvs := rvs) (rds := rds) (rn := rn) (q := q) (D := (k0 :: ks).map Kd.tree) (l := dl b d (gs'.flatMap Grp.toks ++ tl)) (ks := ks) (vs := [v4]) (ds := [k0.tree]) (n := 0) ⟨F5, N5, Keeps.cons K4', R4.cons, H4, W4.keeps kcons, C4.keeps kcons, ⟨.head _, .cons D4.cons .nil⟩, rfl, by omega⟩ hEo ?_ ?_
      · clear F5 N5 K4 R4 H4 D4 mi4 md4 W4 C4 K4' H3 hc1 K3 R3 W3 C3 hmem tot sz hsub ih
        intro Qi Ei hEi k ks' h6 tk6 led6 p6 tp6 vs6 ds6 n6 I ih2
        obtain ⟨F6, N6, K6, R6, H6, W6, C6, G6, tot6, sz6⟩ := I
        have H7 : Rest r.T p6 (k.toks ++ (ks'.flatMap Kd.toks ++ dl b d (gs'.flatMap Grp.toks ++ tl))) := by rw [List.flatMap_cons, List.append_assoc] at H6; exact H6
        clear H6
        have hb7 : BegT (k.toks ++ (ks'.flatMap Kd.toks ++ dl b d (gs'.flatMap Grp.toks ++ tl))) true := .text _ _
        have hc7 : calm (ks'.flatMap Kd.toks ++ dl b d (gs'.flatMap Grp.toks ++ tl)) = true := calm_flat _ rfl
        have hz7 : vs6.length ≤ 1000 := by
          have e := congrArg List.length tot6
          have e2 := G6.dv.len
          rw [List.length_append] at e
          omega
        refine whl_turnS hEi ?_
        k_steps
        all_goals exact ih2 _ _ _ _ _ _ _ _ ⟨by k_asm, by k_asm, by assumption, by assumption, by assumption, by assumption, by assumption, by assumption, by first | (rw [List.append_assoc]; exact tot6) | exact tot6 | simpa [List.append_assoc] using tot6, sz6⟩
      · clear F5 N5 K4 R4 H4 D4 mi4 md4 W4 C4 K4' H3 hc1 K3 R3 W3 C3
        intro h6 tk6 led6 p6 tp6 vs6 ds6 n6 I
        obtain ⟨F6, N6, K6, R6, H6, W6, C6, G6, tot6, sz6⟩ := I
        have H7 : Rest r.T p6 (dl b d (gs'.flatMap Grp.toks ++ tl)) := H6
        clear H6
        have mi6 := R6.inst
        have md6 := R6.dict
        have hb7 : BegT (dl b d (gs'.flatMap Grp.toks ++ tl)) false := .delimited _
        have hc7 : calm (gs'.flatMap Grp.toks ++ tl) = true := by
          cases gs' with
          | nil => exact hc
          | cons g9 gs9 =>
            obtain ⟨k9, ks9, e9⟩ := List.exists_cons_of_ne_nil (hks g9 (hsub _ (.head _)))
            simp only [List.flatMap_cons, Grp.toks, e9, List.append_assoc]
            exact calm_toks _ _
        refine whl_turnS hEo ?_
        have hc8 : calm (gs'.flatMap Grp.toks ++ tl) = true := hc7
        k_steps
        rotate_left
        · refine ⟨fun Q' kq => ?_⟩
          cases d with
          | none =>
            k_steps
            all_goals exact kq _ _ _ _ _ _ (by k_asm) (by k_asm) (by assumption) (by assumption) (by assumption) DV.none
          | some kd =>
            k_steps
            all_goals exact kq _ _ _ _ _ _ (by k_asm) (by k_asm) (by assumption) (by assumption) (by assumption) (by assumption)
        · have B'w := True.intro; have C9w := True.intro; have D9w := True.intro; have F'w := True.intro; have F9w := True.intro; have FG'w := True.intro; have G9w := True.intro; have H9w := True.intro; have K9'w := True.intro; have K9w := True.intro; have KK9w := True.intro; have L'w := True.intro; have N'w := True.intro; have N9w := True.intro; have R9w := True.intro; have T'w := True.intro; have U9w := True.intro; have W9w := True.intro; have X'w := True.intro; have Y'w := True.intro; have ca9w := True.intro; have ce9w := True.intro; have cells'w := True.intro; have ci9w := True.intro; have e9w := True.intro; have g'w := True.intro; have g9w := True.intro; have gr9w := True.intro; have h'w := True.intro; have h9w := True.intro; have l1w := True.intro; have led9w := True.intro; have m5w := True.intro; have m6w := True.intro; have m7w := True.intro; have md9w := True.intro; have mi9w := True.intro; have p9w := True.intro; have rw9w := True.intro; have tk'w := True.intro; have tk9w := True.intro; have tp9w := True.intro; have v9w := True.intro
          rename_i H8 D8 mi8 md8 rw8 gr8 ce8 Kx8 m58 m68 m78 h8 led8 F8 N8 C8 W8 G8 K8 R8 ca8
          clear B'w C9w D9w F'w F9w FG'w G9w H9w K9'w K9w KK9w L'w N'w N9w R9w T'w U9w W9w X'w Y'w ca9w ce9w cells'w ci9w e9w g'w g9w gr9w h'w h9w l1w led9w m5w m6w m7w md9w mi9w p9w rw9w tk'w tk9w tp9w v9w
          have hds : ds6 = (k0 :: ks).map Kd.tree := by rw [List.map_nil, List.append_nil] at tot6; exact tot6
          have hlen := G8.dv.len
          have hz8 : vs6.length ≤ 1000 := by rw [hlen, hds]; exact sz6
          refine ⟨LCg.CompSrc.ledger (by rfl) (by k_asm) (by k_asm) G8.mem (by rw [List.size_toArray]; exact Nat.le_trans hz8 (by decide)) ?_⟩
          intro g9
          refine rest_L (J := fun i ys news => (∀ q ∈ led8, q ∈ news) ∧ DVs news ys ((ds6.take i).map fun e0 => Dt.tup [e0, delTree d])) ⟨fun _ h => h, by simpa using DVs.nil⟩ ?_ ?_
          · intro i v ys news I oI C oC D m₂ h tk E' hv hj hC hx F N off ne
            obtain ⟨hj1, hj2⟩ := hj
            obtain ⟨dv, hd1, hd2⟩ := G8.dv.at (i := i) (by simpa using hv)
            obtain ⟨oc, c1, c2⟩ := C8.ex
            have c3 := hj1 _ c1
            k_steps
            have B'w := True.intro; have C9w := True.intro; have D9w := True.intro; have F'w := True.intro; have F9w := True.intro; have FG'w := True.intro; have G9w := True.intro; have H9w := True.intro; have K9'w := True.intro; have K9w := True.intro; have KK9w := True.intro; have L'w := True.intro; have N'w := True.intro; have N9w := True.intro; have R9w := True.intro; have T'w := True.intro; have U9w := True.intro; have W9w := True.intro; have X'w := True.intro; have Y'w := True.intro; have ca9w := True.intro; have ce9w := True.intro; have cells'w := True.intro; have ci9w := True.intro; have e9w := True.intro; have g'w := True.intro; have g9w := True.intro; have gr9w := True.intro; have h'w := True.intro; have h9w := True.intro; have l1w := True.intro; have led9w := True.intro; have m5w := True.intro; have m6w := True.intro; have m7w := True.intro; have md9w := True.intro; have mi9w := True.intro; have p9w := True.intro; have rw9w := True.intro; have tk'w := True.intro; have tk9w := True.intro; have tp9w := True.intro; have v9w := True.intro
            rename_i T9 h9 F9 N9 l9
            clear B'w C9w D9w F'w F9w FG'w G9w H9w K9'w K9w KK9w L'w N'w N9w R9w T'w U9w W9w X'w Y'w ca9w ce9w cells'w ci9w e9w g'w g9w gr9w h'w h9w l1w led9w m5w m6w m7w md9w mi9w p9w rw9w tk'w tk9w tp9w v9w
            have S9 : ∀ (oT : Obj), ∀ q ∈ led8, q ∈ (T9, oT) :: news := fun _ q h => .tail _ (hj1 q h)
            refine comp_tup F9 N9 off l9 (.inr ⟨_, S9 _ _ G8.mem, rfl, _, rfl⟩) ⟨S9 _, ?_⟩
            rw [List.take_add_one, hd1]
            simpa using (hj2.keeps kcons).snoc (DV.tup (List.Mem.head _) (.cons (hd2.keeps (keeps_sub (S9 _))) (.cons (C8.dv.keeps (keeps_sub (S9 _))) .nil)))
          · intro ys news hj
            obtain ⟨hj1, hj2⟩ := hj
            have hes : ((ds6.take vs6.toArray.size).map fun e0 => Dt.tup [e0, delTree d]) = Grp.rows { ks := k0 :: ks, b := b, d := d } := by
              rw [List.size_toArray, hlen, List.take_length, hds]
              simp [Grp.rows]
            rw [hes] at hj2
            unfold LCg.FinE
            intro D h tk F N o1
            have S9 : ∀ q ∈ led8, q ∈ (D, LCg.lst ys) :: news := fun q h => .tail _ (hj1 q h)
            have W9 := W8.keeps (keeps_sub S9)
            have ca9 := ca8.keeps (keeps_sub S9)
            have K9 := Keeps.trans K8 (keeps_sub S9)
            have R9 := R8.mono S9
            have D9 : DVs ((D, LCg.lst ys) :: news) ys _ := hj2.keeps kcons
            have hmD : (D, lstO ys ys.length) ∈ (D, LCg.lst ys) :: news := .head _
            have hne : ys ≠ [] := by
              intro e
              have := hj2.len
              rw [e] at this
              simp [Grp.rows] at this
            have hDl : D ≠ lr := Ne.symm (off1_mem o1 _ (hj1 _ W8.mem))
            have hsz9 : rvs.length + ys.length ≤ 10000 := by
              have e1 := hj2.len
              have e2 := W8.dv.len
              simp [Grp.rows] at e1
              simp at szk
              omega
            clear C8 W8 G8 K8 R8 ca8 rw8 gr8 ce8 Kx8 mi8 md8
            k_steps
            all_goals exact ih _ _ _ _ _ _ _ _ _ ⟨fr_out (by k_asm) rfl rfl, by k_asm, by assumption, by assumption, H8, by assumption, by assumption, by first | (rw [List.append_assoc]; exact tot) | exact tot | simpa [List.append_assoc] using tot, sz⟩ (by simp [hne])
  · intro h2 tk2 led2 p2 tp2 rvs rds rn mo I hne
    obtain ⟨F2, N2, K2, R2, H2, W2, C2, tot, sz⟩ := I
    rcases hret with ⟨hb, hret⟩ | ⟨k0, ks, l, tx, htl, hks2, htx, hraise⟩
    · have H3 : Rest r.T p2 tl := H2
      clear H2
      refine whl_turnS (by first | passes_own | with_unfolding_all passes_own) ?_
      obtain ⟨v0, rvs, rfl⟩ := List.exists_cons_of_ne_nil hne
      have hz2 : (v0 :: rvs).length ≤ 1000 := by
        have e1 := W2.dv.len
        have e2 := congrArg List.length tot
        rw [List.length_append] at e2
        omega
      have hrd : rds = gs.flatMap Grp.rows := by rw [List.flatMap_nil, List.append_nil] at tot; exact tot
      subst hrd
      k_steps
      all_goals first | exact hret _ _ _ _ _ _ (by k_asm) (by k_asm) (by first | assumption | exact Keeps.cons (by assumption) | exact Keeps.cons (Keeps.cons (by assumption)) | exact Keeps.cons (Keeps.cons (Keeps.cons (by assumption))) | exact Keeps.cons (Keeps.cons (Keeps.cons (Keeps.cons (by assumption))))) (by first | assumption | exact Rdr.cons (by assumption) | exact Rdr.cons (Rdr.cons (by assumption)) | exact Rdr.cons (Rdr.cons (Rdr.cons (by assumption))) | exact Rdr.cons (Rdr.cons (Rdr.cons (Rdr.cons (by assumption))))) H3 (DV.tup (List.Mem.head _) (by first | exact W2.dv.keeps kcons | exact W2.dv.keeps (Keeps.cons kcons)))
    · have H3 : Rest r.T p2 (k0.toks ++ (ks.flatMap Kd.toks ++ intoP :: l)) := by rw [← htl]; exact H2
      clear H2
      have hb1 : BegT (k0.toks ++ (ks.flatMap Kd.toks ++ intoP :: l)) true := .text _ _
      refine whl_turnS (by first | passes_own | with_unfolding_all passes_own) ?_
      obtain ⟨v0, rvs, rfl⟩ := List.exists_cons_of_ne_nil hne
      refine wpAny_mono (Q := TestOk g1 L1 (fun z : PySem.Str => if z = "reader" then some (.ref r.rd) else if z = "rows" then some (.ref lr) else mo z) led2 s) ?_ (fun b s₂ hq => ?_) (fun _ _ e => e)
      · k_steps
        all_goals exact ⟨rfl, _, _, _, rfl, by k_asm, by k_asm, fun _ h => .tail _ h⟩
      · obtain ⟨rfl, h3, tk3, led3, rfl, F3, N3, S3⟩ := hq
        refine WhlIf.yes rfl ?_
        have K3 := Keeps.trans K2 (keeps_sub S3)
        have R3 := R2.mono S3
        have W3 := W2.keeps (keeps_sub S3)
        have C3 := C2.keeps (keeps_sub S3)
        clear F2 N2 K2 R2 W2 C2 S3 hb1
        have hc1 : calm (ks.flatMap Kd.toks ++ intoP :: l) = true := calm_flat _ rfl
        k_steps
        have B'w := True.intro; have C9w := True.intro; have D9w := True.intro; have F'w := True.intro; have F9w := True.intro; have FG'w := True.intro; have G9w := True.intro; have H9w := True.intro; have K9'w := True.intro; have K9w := True.intro; have KK9w := True.intro; have L'w := True.intro; have N'w := True.intro; have N9w := True.intro; have R9w := True.intro; have T'w := True.intro; have U9w := True.intro; have W9w := True.intro; have X'w := True.intro; have Y'w := True.intro; have ca9w := True.intro; have ce9w := True.intro; have cells'w := True.intro; have ci9w := True.intro; have e9w := True.intro; have g'w := True.intro; have g9w := True.intro; have gr9w := True.intro; have h'w := True.intro; have h9w := True.intro; have l1w := True.intro; have led9w := True.intro; have m5w := True.intro; have m6w := True.intro; have m7w := True.intro; have md9w := True.intro; have mi9w := True.intro; have p9w := True.intro; have rw9w := True.intro; have tk'w := True.intro; have tk9w := True.intro; have tp9w := True.intro; have v9w := True.intro
        rename_i led4 tp4 v4 p4 h4 tk4 K4 R4 H4 D4 mi4 md4 W4 C4 K4' m5 m6 m7 q hq1 lq h5 F5 N5
        clear B'w C9w D9w F'w F9w FG'w G9w H9w K9'w K9w KK9w L'w N'w N9w R9w T'w U9w W9w X'w Y'w ca9w ce9w cells'w ci9w e9w g'w g9w gr9w h'w h9w l1w led9w m5w m6w m7w md9w mi9w p9w rw9w tk'w tk9w tp9w v9w
        have hrq : lr ≠ q := Nat.ne_of_lt (lq _ W4.mem)
        have hcq : L1 + 1 ≠ q := by obtain ⟨_, _, z1, _⟩ := C4.ex; exact Nat.ne_of_lt (lq _ z1)
        have hKq : ∀ p ∈ led, isDict p.2 = false → p.1 ≠ q := fun p hp hd => Nat.ne_of_lt (lq _ (K4' p hp hd))
        have htq : r.TL ≠ q := Nat.ne_of_lt (lq _ R4.lst)
        have szk : ((k0 :: ks).map Kd.tree).length ≤ 1000 := by rw [List.length_map, List.length_cons]; omega
        refine inner_loop (r := r) (led0 := led) (lr := lr) (c := L1 + 1) (rvs := v0 :: rvs) (rds := rds) (rn := rn) (q := q) (D := (k0 :: ks).map Kd.tree) (l := intoP :: l) (ks := ks) (vs := [v4]) (ds := [k0.tree]) (n := 0) ⟨F5, N5, Keeps.cons K4', R4.cons, H4, W4.keeps kcons, C4.keeps kcons, ⟨.head _, .cons D4.cons .nil⟩, rfl, szk⟩ (by first | passes_own | with_unfolding_all passes_own) ?_ ?_
        · clear F5 N5 K4 R4 H4 D4 mi4 md4 W4 C4 K4' H3 hc1 K3 R3 W3 C3 tot sz
          intro Qi Ei hEi k ks' h6 tk6 led6 p6 tp6 vs6 ds6 n6 I ih2
          obtain ⟨F6, N6, K6, R6, H6, W6, C6, G6, tot6, sz6⟩ := I
          have H7 : Rest r.T p6 (k.toks ++ (ks'.flatMap Kd.toks ++ intoP :: l)) := by rw [List.flatMap_cons, List.append_assoc] at H6; exact H6
          clear H6
          have hb7 : BegT (k.toks ++ (ks'.flatMap Kd.toks ++ intoP :: l)) true := .text _ _
          have hc7 : calm (ks'.flatMap Kd.toks ++ intoP :: l) = true := calm_flat _ rfl
          have hz7 : vs6.length ≤ 1000 := by
            have e := congrArg List.length tot6
            have e2 := G6.dv.len
            rw [List.length_append] at e
            omega
          refine whl_turnS hEi ?_
          k_steps
          all_goals exact ih2 _ _ _ _ _ _ _ _ ⟨by k_asm, by k_asm, by assumption, by assumption, by assumption, by assumption, by assumption, by assumption, by first | (rw [List.append_assoc]; exact tot6) | exact tot6 | simpa [List.append_assoc] using tot6, sz6⟩
        · clear F5 N5 K4 R4 H4 D4 mi4 md4 W4 C4 K4' H3 hc1 K3 R3 W3 C3
          intro h6 tk6 led6 p6 tp6 vs6 ds6 n6 I
          obtain ⟨F6, N6, K6, R6, H6, W6, C6, G6, tot6, sz6⟩ := I
          have H7 : Rest r.T p6 (intoP :: l) := H6
          clear H6
          have mi6 := R6.inst
          have md6 := R6.dict
          have hb7 : BegT (intoP :: l) false := .into _
          have hl7 := H7.len R6.ple
          have hT7 : r.T[p6.toNat]? = some tx := by
            rw [← htx]; congr 1
            rw [List.length_cons] at hl7
            have := R6.p0
            omega
          obtain ⟨ty, hy1, hy2, hy3, _⟩ := Rest.cons H7
          rw [hT7] at hy1
          obtain rfl := Option.some.inj hy1
          have q7 : worthIs (some tx) "word" "DELIMITED" = false := wis_not hy3 rfl
          refine whl_turnS (by first | passes_own | with_unfolding_all passes_own) ?_
          k_steps
          all_goals exact hraise _ _ _ _ _ (by k_asm) (by assumption) (by assumption) (by assumption)
end
end
end
section
open PySem PySem.W PySem.Spec PySem.Calls PyProof.Rows
theorem at_len {T : List Tk} {p : Int} {q : Pr} {l : List Pr} {t : Tk} (H : Rest T p (q :: l)) (hp : p ≤ T.length) (h : T[T.length - (l.length + 1)]? = some t) : T[p.toNat]? = some t := by
  have := H.len hp
  have h0 := H.1
  rw [← h]; congr 1
  rw [List.length_cons] at this
  omega
section
variable {w : World} {mean : ExcName → Option Value} {pq : Program} {lq : List PySem.Str} {mg mb : PySem.Str → Option Value} {dp un : Nat} {gd : Option (List Code)} {cn : PySem.Str} {cs : Scope} {a : Addr} {ccd : Value} {cl : List (PySem.Str × Addr)} {outer : List Env} {A₀ : Around} {base h₀ : Heap} {L : Addr} {m : PySem.Str → Option Value} {s : Shared}
  {Q E : Value → Shared → Prop} {led : List (Addr × Obj)} {r : RdI} {p : Int} {tp : Tok}
  (B : Below A₀ base outer h₀) (F : Fr h₀ L s.heap m) (X : (hd0.heap_1 w.params).In h₀) (N : News h₀ L s.heap led) (T : Top pq lq mean mg mb h₀) (hk : cs.kind = .function) (R : Rdr w r p tp led)
include B F X N T hk R
theorem text_num_R {l : List Pr} {x : PySem.Str} {t : Tk} (H : Rest r.T p (("number", x) :: l)) (hx : x = "0" ∨ x = "7") (ht : r.T[r.T.length - (l.length + 1)]? = some t) (hdp : dp + 10 < recursionLimit) (hun : un + 80 < cLine)
    (hret : ∀ e g₂ led' h' tk', Fr h₀ L g₂ m → g₂.UpToSlots h' → Keeps led led' → RaisedG w base g₂ (envX cn cs L a ccd cl :: outer) e t led' h' → E (.ref e) { s with heap := h', toks := tk' }) :
    wpAny (model P0 w) (ktrTop dp un gd cn cs L a ccd cl outer) (call (.ref 272) [.ref r.rd]) Q E s := by
  obtain ⟨t', h1, h2, h3, H1⟩ := Rest.cons H
  rw [at_len H R.ple ht] at h1
  obtain rfl := Option.some.inj h1
  rcases hx with hx | hx
  · exact text_bad_num (d := 0) B F X N T hk R H (.num _ _) (at_len H R.ple ht) ⟨h2, by rw [h3, hx]; simp⟩ hdp hun hret
  · exact text_bad_num (d := 7) B F X N T hk R H (.num _ _) (at_len H R.ple ht) ⟨h2, by rw [h3, hx]; simp⟩ hdp hun hret
theorem text_all_R {l : List Pr} {t : Tk} (H : Rest r.T p (("word", "ALL") :: ("literal", "x") :: l)) (ht : r.T[r.T.length - (l.length + 2)]? = some t) (hdp : dp + 10 < recursionLimit) (hun : un + 80 < cLine)
    (hret : ∀ e g₂ led' h' tk', Fr h₀ L g₂ m → g₂.UpToSlots h' → Keeps led led' → RaisedG w base g₂ (envX cn cs L a ccd cl :: outer) e t led' h' → E (.ref e) { s with heap := h', toks := tk' }) :
    wpAny (model P0 w) (ktrTop dp un gd cn cs L a ccd cl outer) (call (.ref 272) [.ref r.rd]) Q E s := by
  obtain ⟨t', h1, h2, h3, H1⟩ := Rest.cons H
  obtain ⟨t1, g1, g2, g3, H2⟩ := Rest.cons H1
  rw [at_len H R.ple ht] at h1
  obtain rfl := Option.some.inj h1
  exact text_bad_all B F X N T hk R H (.all _) (at_len H R.ple ht) h2 h3 g1 g2 (by rw [g3]; decide +kernel) (by rw [g3]; decide) hdp hun hret
end
section
section
variable {w : World} {mean : ExcName → Option Value} {pq : Program} {lq : List PySem.Str} {mg mb : PySem.Str → Option Value} {dp un : Nat} {gd : Option (List Code)} {cn : PySem.Str} {cs : Scope} {a : Addr} {ccd : Value} {cl : List (PySem.Str × Addr)} {outer : List Env} {A₀ : Around} {base h₀ : Heap} {L : Addr} {m : PySem.Str → Option Value} {s : Shared}
  {Q E : Value → Shared → Prop} {led : List (Addr × Obj)} {r : RdI} {p : Int} {tp : Tok}
  (B : Below A₀ base outer h₀) (F : Fr h₀ L s.heap m) (X : (hd0.heap_1 w.params).In h₀) (N : News h₀ L s.heap led) (T : Top pq lq mean mg mb h₀) (hk : cs.kind = .function) (R : Rdr w r p tp led)
include B F X N T hk R
theorem word35_1 : True := by
  k_with_none
  (k_with "ktr_room" => first | exact lt_room (k := 1) hdp rfl rfl | exact lt_room (k := 0) hdp rfl rfl | exact lt_room0 (k := 1) hdp rfl rfl | exact lt_room0 (k := 0) hdp rfl rfl | fail "ktr_room")
  (k_with "ktr_units" => first | exact lt_room (k := 3) hun rfl rfl | exact lt_room (k := 0) hun rfl rfl | exact lt_room0 (k := 3) hun rfl rfl | exact lt_room0 (k := 0) hun rfl rfl | fail "ktr_units")
  (k_with "k_mem" => first | assumption | exact List.Mem.head _ | exact List.Mem.tail _ (List.Mem.head _))
  (k_with "cell_enter" => (refine' code_defC (by k_asm) (by k_asm) (by k_asm) (by k_asm) (by k_asm) (by exact rfl) (by exact rfl) (by first | exact rfl | assumption) (by k_is) (by k_is) (by ktr_room) (by first | exact BindsTo.of_eq rfl | exact binds_K (by k_in) rfl (by k_is) rfl rfl rfl) (by exact rfl) (by decide +kernel) ?_ (by exact rfl) (by exact rfl) (by exact rfl); k_whole; intro g' L' h' tk' cells' FG' F' N' Y' B' X' T' l1; k_cells Y'; (try simp only [List.cons_append, List.nil_append] at N'); (try dsimp only); (try k_lift B'); (try k_fold)))
  (k_with "exec While" => (k_here; k_dflt (refine whl_start 100 ?_)))
  (k_with "exec While BoolOp" => (k_here; k_dflt (refine whl_start 100 ?_)))
  (k_with "exec While Compare" => (k_here; k_dflt (refine whl_start 100 ?_)))
  (k_with "exec While UnaryOp" => (k_here; k_dflt (refine whl_start 100 ?_)))
  (k_with "exec While Call" => (k_here; k_dflt (refine whl_start 100 ?_)))
  (k_with "exec Raise some none" => (k_here; k_dflt (refine raiseD (by exact rfl) ?_)))
  (k_with "RaiseOk" => (k_dflt (refine' raise_ok (by k_asm) (by k_in) (by k_asm) (by assumption) ?_)))
  (k_with "leaving" => first | (k_dflt (refine' leaveG_on (by k_asm) (by assumption) (by assumption) (by assumption) ?_); intro h9 R9 U9) | (k_dflt (refine' leaveG_first (by k_asm) (by k_asm) (by k_asm) (by assumption) (by assumption) ?_ (by exact rfl)); intro h9 R9 U9))
  (k_with "call ref" => (k_here; (with_reducible show wpAny _ _ (call (Value.ref 272) [Value.ref _]) _ _ _); k_dflt (refine' text_num_R (by k_asm) (by k_asm) (by k_in) (by k_asm) (by k_asm) (by first | exact rfl | assumption) (by first | assumption | exact Rdr.cons (by assumption) | exact Rdr.cons (Rdr.cons (by assumption)) | exact Rdr.cons (Rdr.cons (Rdr.cons (by assumption)))) (by assumption) (by assumption) (by assumption) (by ktr_room) (by ktr_units) ?_); intro e9 g9 led9 h9 tk9 F9 U9 K9 R9; (have KK9 := Keeps.trans (by first | assumption | exact Keeps.cons (by assumption) | exact Keeps.cons (Keeps.cons (by assumption)) | exact Keeps.cons (Keeps.cons (Keeps.cons (by assumption)))) K9); (try dsimp only [tkV]); (try k_fold)))
  (k_with "call ref" => (k_here; (with_reducible show wpAny _ _ (call (Value.ref 272) [Value.ref _]) _ _ _); k_dflt (refine' text_all_R (by k_asm) (by k_asm) (by k_in) (by k_asm) (by k_asm) (by first | exact rfl | assumption) (by first | assumption | exact Rdr.cons (by assumption) | exact Rdr.cons (Rdr.cons (by assumption)) | exact Rdr.cons (Rdr.cons (Rdr.cons (by assumption)))) (by assumption) (by assumption) (by ktr_room) (by ktr_units) ?_); intro e9 g9 led9 h9 tk9 F9 U9 K9 R9; (have KK9 := Keeps.trans (by first | assumption | exact Keeps.cons (by assumption) | exact Keeps.cons (Keeps.cons (by assumption)) | exact Keeps.cons (Keeps.cons (Keeps.cons (by assumption)))) K9); (try dsimp only [tkV]); (try k_fold)))
  exact True.intro
theorem strung_num0 {l : List Pr} {x : PySem.Str} {t : Tk} (H : Rest r.T p (("number", x) :: l)) (hx : x = "0" ∨ x = "7") (ht : r.T[r.T.length - (l.length + 1)]? = some t) (hdp : dp + 11 < recursionLimit) (hun : un + 88 < cLine)
    (hret : ∀ e g₂ led' h' tk', Fr h₀ L g₂ m → g₂.UpToSlots h' → Keeps led led' → RaisedG w base g₂ (envX cn cs L a ccd cl :: outer) e t led' h' → E (.ref e) { s with heap := h', toks := tk' }) :
    wpAny (model P0 w) (ktrTop dp un gd cn cs L a ccd cl outer) (call (.ref 284) [.ref r.rd]) Q E s := by
  have mi := R.inst
  have md := R.dict
  have K0 := Keeps.refl led
  refine wpAny_call ?_
  k_dflt cell_enter
  k_steps
  all_goals first | exact hret _ _ _ _ _ (by k_asm) (by assumption) (by assumption) (by assumption) | (exfalso; omega)
theorem strung_all0 {l : List Pr} {t : Tk} (H : Rest r.T p (("word", "ALL") :: ("literal", "x") :: l)) (ht : r.T[r.T.length - (l.length + 2)]? = some t) (hdp : dp + 11 < recursionLimit) (hun : un + 88 < cLine)
    (hret : ∀ e g₂ led' h' tk', Fr h₀ L g₂ m → g₂.UpToSlots h' → Keeps led led' → RaisedG w base g₂ (envX cn cs L a ccd cl :: outer) e t led' h' → E (.ref e) { s with heap := h', toks := tk' }) :
    wpAny (model P0 w) (ktrTop dp un gd cn cs L a ccd cl outer) (call (.ref 284) [.ref r.rd]) Q E s := by
  have mi := R.inst
  have md := R.dict
  have K0 := Keeps.refl led
  refine wpAny_call ?_
  k_dflt cell_enter
  k_steps
  all_goals first | exact hret _ _ _ _ _ (by k_asm) (by assumption) (by assumption) (by assumption) | (exfalso; omega)
end
end
section
section
variable {w : World} {mean : ExcName → Option Value} {pq : Program} {lq : List PySem.Str} {mg mb : PySem.Str → Option Value} {dp un : Nat} {gd : Option (List Code)} {cn : PySem.Str} {cs : Scope} {a : Addr} {ccd : Value} {cl : List (PySem.Str × Addr)} {outer : List Env} {A₀ : Around} {base h₀ : Heap} {L : Addr} {m : PySem.Str → Option Value} {s : Shared}
  {Q E : Value → Shared → Prop} {led : List (Addr × Obj)} {r : RdI} {p : Int} {tp : Tok}
  (B : Below A₀ base outer h₀) (F : Fr h₀ L s.heap m) (X : (hd0.heap_1 w.params).In h₀) (N : News h₀ L s.heap led) (T : Top pq lq mean mg mb h₀) (hk : cs.kind = .function) (R : Rdr w r p tp led)
include B F X N T hk R
theorem word35_2 : True := by
  k_with_none
  (k_with "ktr_room" => first | exact lt_room (k := 1) hdp rfl rfl | exact lt_room (k := 0) hdp rfl rfl | exact lt_room0 (k := 1) hdp rfl rfl | exact lt_room0 (k := 0) hdp rfl rfl | fail "ktr_room")
  (k_with "ktr_units" => first | exact lt_room (k := 3) hun rfl rfl | exact lt_room (k := 0) hun rfl rfl | exact lt_room0 (k := 3) hun rfl rfl | exact lt_room0 (k := 0) hun rfl rfl | fail "ktr_units")
  (k_with "k_mem" => first | assumption | exact List.Mem.head _ | exact List.Mem.tail _ (List.Mem.head _))
  (k_with "cell_enter" => (refine' code_defC (by k_asm) (by k_asm) (by k_asm) (by k_asm) (by k_asm) (by exact rfl) (by exact rfl) (by first | exact rfl | assumption) (by k_is) (by k_is) (by ktr_room) (by first | exact BindsTo.of_eq rfl | exact binds_K (by k_in) rfl (by k_is) rfl rfl rfl) (by exact rfl) (by decide +kernel) ?_ (by exact rfl) (by exact rfl) (by exact rfl); k_whole; intro g' L' h' tk' cells' FG' F' N' Y' B' X' T' l1; k_cells Y'; (try simp only [List.cons_append, List.nil_append] at N'); (try dsimp only); (try k_lift B'); (try k_fold)))
  (k_with "exec While" => (k_here; k_dflt (refine whl_start 100 ?_)))
  (k_with "exec While BoolOp" => (k_here; k_dflt (refine whl_start 100 ?_)))
  (k_with "exec While Compare" => (k_here; k_dflt (refine whl_start 100 ?_)))
  (k_with "exec While UnaryOp" => (k_here; k_dflt (refine whl_start 100 ?_)))
  (k_with "exec While Call" => (k_here; k_dflt (refine whl_start 100 ?_)))
  (k_with "exec Raise some none" => (k_here; k_dflt (refine raiseD (by exact rfl) ?_)))
  (k_with "RaiseOk" => (k_dflt (refine' raise_ok (by k_asm) (by k_in) (by k_asm) (by assumption) ?_)))
  (k_with "leaving" => first | (k_dflt (refine' leaveG_on (by k_asm) (by assumption) (by assumption) (by assumption) ?_); intro h9 R9 U9) | (k_dflt (refine' leaveG_first (by k_asm) (by k_asm) (by k_asm) (by assumption) (by assumption) ?_ (by exact rfl)); intro h9 R9 U9))
  (k_with "call ref" => (k_here; (with_reducible show wpAny _ _ (call (Value.ref 272) [Value.ref _]) _ _ _); k_dflt (refine' text_num_R (by k_asm) (by k_asm) (by k_in) (by k_asm) (by k_asm) (by first | exact rfl | assumption) (by first | assumption | exact Rdr.cons (by assumption) | exact Rdr.cons (Rdr.cons (by assumption)) | exact Rdr.cons (Rdr.cons (Rdr.cons (by assumption)))) (by assumption) (by assumption) (by assumption) (by ktr_room) (by ktr_units) ?_); intro e9 g9 led9 h9 tk9 F9 U9 K9 R9; (have KK9 := Keeps.trans (by first | assumption | exact Keeps.cons (by assumption) | exact Keeps.cons (Keeps.cons (by assumption)) | exact Keeps.cons (Keeps.cons (Keeps.cons (by assumption)))) K9); (try dsimp only [tkV]); (try k_fold)))
  (k_with "call ref" => (k_here; (with_reducible show wpAny _ _ (call (Value.ref 272) [Value.ref _]) _ _ _); k_dflt (refine' text_here (by k_asm) (by k_asm) (by k_in) (by k_asm) (by k_asm) (by first | exact rfl | assumption) (by first | assumption | exact Rdr.cons (by assumption) | exact Rdr.cons (Rdr.cons (by assumption)) | exact Rdr.cons (Rdr.cons (Rdr.cons (by assumption)))) (by first | assumption | exact CodeHd.keeps (by assumption) (Fr.keep (by assumption))) (by assumption) (by assumption) (by ktr_room) (by ktr_units) ?_); intro led9 tp9 v9 p9 h9 tk9 F9 N9 K9 R9 H9 D9; (have KK9 := Keeps.trans (by first | assumption | exact Keeps.cons (by assumption) | exact Keeps.cons (Keeps.cons (by assumption)) | exact Keeps.cons (Keeps.cons (Keeps.cons (by assumption)))) K9); (have mi9 := Rdr.inst R9); (have md9 := Rdr.dict R9); (have m5 := R9.p0); (have m6 := R9.fit); (have m7 := R9.ple); (try have lm8 := LM.fst0 K9); (try have lm9 := LM.keeps (by assumption) K9); (try dsimp only [tkV]); (try k_fold)))
  (k_with "call ref" => (k_here; (with_reducible show wpAny _ _ (call (Value.ref 279) [Value.ref _]) _ _ _); k_dflt (refine' bt_R (by k_asm) (by k_asm) (by k_in) (by k_asm) (by k_asm) (by first | exact rfl | assumption) (by first | assumption | exact Rdr.cons (by assumption) | exact Rdr.cons (Rdr.cons (by assumption)) | exact Rdr.cons (Rdr.cons (Rdr.cons (by assumption)))) (by assumption) (by assumption) (by ktr_room) (by ktr_units) ?_); intro h9 tk9 F9 N9; (try dsimp only [tkV]); (try k_fold)))
  (k_with "call ref" => (k_here; (with_reducible show wpAny _ _ (call (Value.ref 369) [Value.ref _, Value.str _ _]) _ _ _); k_dflt (refine' need_R (by k_asm) (by k_asm) (by k_in) (by k_asm) (by k_asm) (by first | exact rfl | assumption) (by first | assumption | exact Rdr.cons (by assumption) | exact Rdr.cons (Rdr.cons (by assumption)) | exact Rdr.cons (Rdr.cons (Rdr.cons (by assumption)))) (by assumption) (by ktr_room) (by ktr_units) ?_); intro led9 tp9 p9 h9 tk9 F9 N9 K9 R9 H9; (have KK9 := Keeps.trans (by first | assumption | exact Keeps.cons (by assumption) | exact Keeps.cons (Keeps.cons (by assumption)) | exact Keeps.cons (Keeps.cons (Keeps.cons (by assumption)))) K9); (have mi9 := Rdr.inst R9); (have md9 := Rdr.dict R9); (have m5 := R9.p0); (have m6 := R9.fit); (have m7 := R9.ple); (try have lm8 := LM.fst0 K9); (try have lm9 := LM.keeps (by assumption) K9); (try dsimp only [tkV]); (try k_fold)))
  (k_with "call ref" => (k_here; (with_reducible show wpAny _ _ (call (Value.ref 362) [Value.ref _, Value.str (PySem.Str.ofString "BY") _]) _ _ _); k_dflt (refine' skip_by_R2 (by k_asm) (by k_asm) (by k_in) (by k_asm) (by k_asm) (by first | exact rfl | assumption) (by first | assumption | exact Rdr.cons (by assumption) | exact Rdr.cons (Rdr.cons (by assumption)) | exact Rdr.cons (Rdr.cons (Rdr.cons (by assumption)))) (by assumption) (by ktr_room) (by ktr_units) ?_); intro led9 tp9 p9 h9 tk9 F9 N9 K9 R9 H9; (have KK9 := Keeps.trans (by first | assumption | exact Keeps.cons (by assumption) | exact Keeps.cons (Keeps.cons (by assumption)) | exact Keeps.cons (Keeps.cons (Keeps.cons (by assumption)))) K9); (have mi9 := Rdr.inst R9); (have md9 := Rdr.dict R9); (have m5 := R9.p0); (have m6 := R9.fit); (have m7 := R9.ple); (try have lm8 := LM.fst0 K9); (try have lm9 := LM.keeps (by assumption) K9); (try dsimp only [tkV]); (try k_fold)))
  (k_with "call ref" => (k_here; (with_reducible show wpAny _ _ (call (Value.ref 362) [Value.ref _, Value.str (PySem.Str.ofString "SIZE") _]) _ _ _); k_dflt (refine' skip_size_R2 (by k_asm) (by k_asm) (by k_in) (by k_asm) (by k_asm) (by first | exact rfl | assumption) (by first | assumption | exact Rdr.cons (by assumption) | exact Rdr.cons (Rdr.cons (by assumption)) | exact Rdr.cons (Rdr.cons (Rdr.cons (by assumption)))) (by assumption) (by ktr_room) (by ktr_units) ?_); intro h9 tk9 F9 N9; (try dsimp only [tkV]); (try k_fold)))
  exact True.intro
theorem strung_num3 (CD : CodeHd h₀ 236 232) {l : List Pr} {x : PySem.Str} {t : Tk} (H : Rest r.T p (Kd.a.toks ++ ((("word", "DELIMITED") : Pr) :: ("word", "BY") :: ("number", x) :: l))) (hx : x = "0" ∨ x = "7") (ht : r.T[r.T.length - (l.length + 1)]? = some t) (hdp : dp + 19 < recursionLimit) (hun : un + 152 < cLine)
    (hret : ∀ e g₂ led' h' tk', Fr h₀ L g₂ m → g₂.UpToSlots h' → Keeps led led' → RaisedG w base g₂ (envX cn cs L a ccd cl :: outer) e t led' h' → E (.ref e) { s with heap := h', toks := tk' }) :
    wpAny (model P0 w) (ktrTop dp un gd cn cs L a ccd cl outer) (call (.ref 284) [.ref r.rd]) Q E s := by
  have mi := R.inst
  have md := R.dict
  have hc : calm ((("word", "DELIMITED") : Pr) :: ("word", "BY") :: ("number", x) :: l) = true := rfl
  have hb : BegT ((("word", "DELIMITED") : Pr) :: ("word", "BY") :: ("number", x) :: l) false := .delimited _
  have K0 := Keeps.refl led
  refine wpAny_call ?_
  k_dflt cell_enter
  k_steps
  all_goals first | exact hret _ _ _ _ _ (by k_asm) (by assumption) (by assumption) (by assumption) | (exfalso; omega)
end
end
end
section
open PySem PySem.W PySem.Spec PySem.Calls PyProof.Rows
structure LD (a : Addr) (ds : List Dt) (led : List (Addr × Obj)) : Prop where
  ex : ∃ vs n, (a, lstO vs n) ∈ led ∧ DVs led vs ds
theorem LD.keeps {q ds a b} (h : LD q ds a) (k : Keeps a b) : LD q ds b := let ⟨vs, n, h1, h2⟩ := h.ex; ⟨vs, n, k _ h1 rfl, h2.keeps k⟩
def prDt (q : Pr) : Dt := .tup [.str q.1, .str q.2]
def wordP (x : PySem.Str) : Pr := ("word", x)
theorem strs_at {vs : List Value} {ys : List PySem.Str} {i : Nat} {v : Value} (h : StrsAre vs ys) (hv : vs[i]? = some v) : ∃ y t, ys[i]? = some y ∧ v = .str y t := by
  induction h generalizing i with
  | nil => simp at hv
  | cons x t r ih =>
    cases i with
    | zero => cases hv; exact ⟨_, _, rfl, rfl⟩
    | succ i => simpa using ih (by simpa using hv)
section
section
variable {w : World} {mean : ExcName → Option Value} {pq : Program} {lq : List PySem.Str} {mg mb : PySem.Str → Option Value} {dp un : Nat} {gd : Option (List Code)} {cn : PySem.Str} {cs : Scope} {a : Addr} {ccd : Value} {cl : List (PySem.Str × Addr)} {outer : List Env} {A₀ : Around} {base h₀ : Heap} {L : Addr} {m : PySem.Str → Option Value} {s : Shared}
  {Q E : Value → Shared → Prop} {led : List (Addr × Obj)} {r : RdI} {p : Int} {tp : Tok}
  (B : Below A₀ base outer h₀) (F : Fr h₀ L s.heap m) (X : (hd0.heap_1 w.params).In h₀) (N : News h₀ L s.heap led) (T : Top pq lq mean mg mb h₀) (hk : cs.kind = .function) (R : Rdr w r p tp led)
include B F X N T hk R
theorem word36_1 : True := by
  k_with_none
  (k_with "ktr_room" => first | exact lt_room (k := 1) hdp rfl rfl | exact lt_room (k := 0) hdp rfl rfl | exact lt_room0 (k := 1) hdp rfl rfl | exact lt_room0 (k := 0) hdp rfl rfl | fail "ktr_room")
  (k_with "ktr_units" => first | exact lt_room (k := 3) hun rfl rfl | exact lt_room (k := 0) hun rfl rfl | exact lt_room0 (k := 3) hun rfl rfl | exact lt_room0 (k := 0) hun rfl rfl | fail "ktr_units")
  (k_with "k_mem" => first | assumption | exact List.Mem.head _ | exact List.Mem.tail _ (List.Mem.head _))
  (k_with "cell_enter" => (refine' code_def (by k_asm) (by k_asm) (by k_asm) (by k_asm) (by k_asm) (by exact rfl) (by exact rfl) (by first | exact rfl | assumption) (by k_is) (by k_is) (by ktr_room) (by first | exact BindsTo.of_eq rfl | exact binds_K (by k_in) rfl (by k_is) rfl rfl rfl) (by exact locs rfl) ?_ (by exact rfl) (by exact rfl) (by exact rfl) (by decide); k_whole; intro g'w L'w h'w FG'w F'w N'w B'w X'w T'w; (try dsimp only); (try k_lift B'w); (try k_fold)))
  (k_with "call ref" => (k_here; (with_reducible show wpAny _ _ (call (Prod.fst _) _) _ _ _); (dsimp only [List.cons_append, List.nil_append]); walk_at "call ref"))
  (k_with "exec While" => (k_here; k_dflt (refine whl_start 100 ?_)))
  (k_with "exec While BoolOp" => (k_here; k_dflt (refine whl_start 100 ?_)))
  (k_with "exec While Compare" => (k_here; k_dflt (refine whl_start 100 ?_)))
  (k_with "exec While UnaryOp" => (k_here; k_dflt (refine whl_start 100 ?_)))
  (k_with "exec While Call" => (k_here; k_dflt (refine whl_start 100 ?_)))
  (k_with "eval ListComp" => (k_here; k_dflt (refine ListComp_S (F₀ := by k_asm) (by with_unfolding_all rfl) (by decide) (by rfl) (by decide) (by rfl) ?_)))
  (k_with "call builtin:str.split" => (k_here; (with_reducible show wpAny _ _ (call (Value.builtin "str.split") _) _ _ _); (refine KSpl.split1 (by k_asm) (by k_asm) (by decide) ?_ (by assumption)); intro D9w l9w h9w tk9w e9w a9w F9w N9w l8w))
  exact True.intro
omit R in
theorem words {x : PySem.Str} {xt : Tok} {ws : List PySem.Str} (hx : (x == PySem.Str.ofString "") = false) (hs : Txt.split x (PySem.Str.ofString " ") = ws) (hz : ws.length ≤ 1000) (hsz : x.length + 2 ≤ sizeLine) (hdp : dp + 2 < recursionLimit) (hun : un + 16 < cLine)
    (hret : ∀ a led' h' tk', Fr h₀ L h' m → News h₀ L h' led' → (∀ q ∈ led, q ∈ led') → (∀ q ∈ led, q.1 ≠ a) → LD a (ws.map fun y => prDt (wordP y)) led' → Q (.ref a) { s with heap := h', toks := tk' }) :
    wpAny (model P0 w) (ktrTop dp un gd cn cs L a ccd cl outer) (call (.ref 523) [.str x xt]) Q E s := by
  refine wpAny_call ?_
  k_dflt cell_enter
  k_steps
  · have B'w := True.intro; have D9w := True.intro; have F'w := True.intro; have F9w := True.intro; have FG'w := True.intro; have L'w := True.intro; have N'w := True.intro; have N9w := True.intro; have T'w := True.intro; have X'w := True.intro; have a9w := True.intro; have e9w := True.intro; have g'w := True.intro; have h'w := True.intro; have h9w := True.intro; have l8w := True.intro; have l9w := True.intro; have tk9w := True.intro
    rename_i D9 l9 h9 tk9 e9 a9 F9 N9 l8
    clear B'w D9w F'w F9w FG'w L'w N'w N9w T'w X'w a9w e9w g'w h'w h9w l8w l9w tk9w
    have hl : (strValues l9).length = ws.length := by rw [a9.length, e9, hs]
    rw [e9, hs] at a9
    refine ⟨LCg.CompSrc.ledger (by rfl) (by k_asm) (by k_asm) (List.Mem.head _) (by rw [List.size_toArray, hl]; exact Nat.le_trans hz (by decide)) ?_⟩
    intro g9
    refine rest_L (J := fun i ys news => (∀ q ∈ (D9, PySem.W.listOf (strValues l9).toArray 0) :: led, q ∈ news) ∧ DVs news ys ((ws.take i).map fun y => prDt (wordP y))) ⟨fun _ h => h, by simpa using DVs.nil⟩ ?_ ?_
    · intro i v ys news I oI C oC D m₂ h tk E' hv hj hC hx F N off ne
      obtain ⟨hj1, hj2⟩ := hj
      obtain ⟨y, u, hy, rfl⟩ := strs_at a9 (i := i) (by simpa using hv)
      k_steps
      have B'w := True.intro; have D9w := True.intro; have F'w := True.intro; have F9w := True.intro; have FG'w := True.intro; have L'w := True.intro; have N'w := True.intro; have N9w := True.intro; have T'w := True.intro; have X'w := True.intro; have a9w := True.intro; have e9w := True.intro; have g'w := True.intro; have h'w := True.intro; have h9w := True.intro; have l8w := True.intro; have l9w := True.intro; have tk9w := True.intro
      rename_i T9 h9 F9 N9 l9
      clear B'w D9w F'w F9w FG'w L'w N'w N9w T'w X'w a9w e9w g'w h'w h9w l8w l9w tk9w
      have S9 : ∀ (oT : Obj), ∀ q ∈ news, q ∈ (T9, oT) :: news := fun _ q h => .tail _ h
      refine comp_tup F9 N9 off l9 (.inr ⟨_, S9 _ _ (hj1 _ (List.Mem.head _)), rfl, _, rfl⟩) ⟨fun q hq => .tail _ (hj1 q hq), ?_⟩
      rw [List.take_add_one, hy]
      simpa [prDt, wordP] using (hj2.keeps kcons).snoc (DV.tup (List.Mem.head _) (.cons (.str _ _) (.cons (.str _ _) .nil)))
    · intro ys news hj
      obtain ⟨hj1, hj2⟩ := hj
      rw [List.size_toArray, hl, List.take_length] at hj2
      unfold LCg.FinE
      intro D h tk F N o1
      k_steps
      all_goals exact hret _ _ _ _ (by k_asm) (by k_asm) (fun q hq => .tail _ (hj1 q (.tail _ hq))) (fun q hq => off1_mem o1 q (hj1 q (.tail _ hq))) ⟨ys, _, List.Mem.head _, hj2.keeps kcons⟩
  · exfalso
    have e := ne_f (by assumption : (x != PySem.Str.ofString "") = false)
    rw [hx] at e; cases e
end
end
end
section
open PySem PySem.W PySem.Spec PySem.Calls PyProof.Rows
section
variable {prog : Program} {w : World} {A : Around} {E : Value → Shared → Prop} {s : Shared}
theorem enum_assign {env : Env} {a b c : PySem.Str} {pa pb pc tp p2 : Pos} {kk k2 : Nat} {T y : Addr} {x kv wv : Value} {m : PySem.Str → Option Value} {Q : Unit → Shared → Prop} (hh : A.handled = none) (ht : s.heap.IsTuple T #[x, .ref y]) (hy : s.heap.IsTuple y #[kv, wv])
    (ha : env.kindOf a = some .local) (hb : env.kindOf b = some .local) (hc : env.kindOf c = some .local) (hp : (env.scope.kind == .class || (env.scope.kind == .module && env.locals != env.globals)) = false) (hn : s.heap.Ns env.locals m) (hyL : y ≠ env.locals)
    (h : ∀ (h' : Heap) (tk : Nat), h'.Ns env.locals (fun z => if z = c then some wv else if z = b then some kv else if z = a then some x else m z) → (∀ q o, q ≠ env.locals → s.heap.get? q = some o → h'.get? q = some o) → Q () { s with heap := h', toks := tk }) :
    wpAny (model prog w) A (assign (.Tuple [.Name a pa, .Tuple [.Name b pb, .Name c pc] k2 p2] kk tp) env (.ref T)) Q E s := by
  refine wpAny_assign_Tuple hh ht rfl rfl fun h₁ he₁ => ?_
  have hL : env.locals ≠ s.heap.objs.size := Nat.ne_of_lt hn.lt
  have hn₁ : h₁.Ns env.locals m := hn.at' fun o e => he₁ _ o hL e
  have up₁ : ∀ c o, s.heap.get? c = some o → h₁.get? c = some o := fun c o e => he₁ c o (Nat.ne_of_lt (Heap.lt_size e)) e
  show wpAny _ _ (assignInOrder [assign (.Name a pa) env, assign (.Tuple [.Name b pb, .Name c pc] k2 p2) env] [x, .ref y]) _ _ _
  refine assignInOrder_cons ?_
  refine wpAny_assign_Name (wpAny_storeName_local ha hn₁ (fun h₂ hn₂ hs₂ => ?_) hp)
  refine assignInOrder_cons ?_
  have hy₂ : h₂.IsTuple y #[kv, wv] := by
    obtain ⟨o, e, r⟩ := hy
    exact ⟨o, hs₂.extBut y o hyL (up₁ y o e), r⟩
  refine kcp_assign hh hy₂ hb hc hp hn₂ fun h₃ tk₃ hn₃ hs₃ => ?_
  refine assignInOrder_nil ?_
  exact h h₃ _ hn₃ fun q o hq e => hs₃ q o hq (hs₂.extBut q o hq (up₁ q o e))
end
def Off4 (e it C D : Addr) (l : List (Addr × Obj)) : Prop := ∀ p ∈ l, p.1 ≠ e ∧ p.1 ≠ it ∧ p.1 ≠ C ∧ p.1 ≠ D
inductive EInv (h₀ : Heap) (L : Addr) (m : PySem.Str → Option Value) (s₂ : Shared) (e it l : Addr) (items : Array Value) (D C : Addr) (J : Nat → List Value → List (Addr × Obj) → Prop) (k : Nat) (s' : Shared) : Prop
  | mk (h' : Heap) (tk i : Nat) (ys : List Value) (m' : PySem.Str → Option Value) (news' : List (Addr × Obj)) : s' = { s₂ with heap := h', toks := tk } → i ≤ items.size → k = items.size + 1 - i → ys.length = i → ((∃ old, IsEnum h' e it i old) ∧ (h'.IsListIter it l i ∧ h'.IsList l items)) → Fr h₀ L h' m → h'.Ns C m' → News h₀ L h' ((D, LCg.lst ys) :: news') → Off4 e it C D news' → J i ys news' → EInv h₀ L m s₂ e it l items D C J k s'
structure End2 (h₀ : Heap) (L : Addr) (m : PySem.Str → Option Value) (s₁ : Shared) (e it C D : Addr) (oe oit oC oD : Obj) (rest : Value → List (Addr × Obj) → Prop) (y : Value) (s₂ : Shared) : Prop where
  ex : ∃ h' tk news', s₂ = { s₁ with heap := h', toks := tk } ∧ Fr h₀ L h' m ∧ News h₀ L h' ((e, oe) :: (it, oit) :: (C, oC) :: (D, oD) :: news') ∧ Off4 e it C D news' ∧ rest y news'
section
variable {prog : Program} {w : World} {A : Around} {E : Value → Shared → Prop} {h₀ : Heap} {L : Addr} {m : PySem.Str → Option Value} {env : Env}
theorem enum_block {elt iter : PySem.Expr} {a b c : PySem.Str} {pa pb pc tp p2 : Pos} {kk k2 : Nat} {scope : Scope} {cl : List (PySem.Str × Addr)} {pos : Pos} {s₂ : Shared} {e it l : Addr} {items : Array Value} {k : Nat} {led : List (Addr × Obj)}
    {RR : Value → Addr → Result → Shared → Prop} (J : Nat → List Value → List (Addr × Obj) → Prop)
    (hh : A.handled = none) (hsz : items.size ≤ sizeLine) (hcell : ∀ y ∈ scope.names, y.2 ≠ .cell) (hkind : scope.kind = .function)
    (hxa : scope.names.lookup a = some .local) (hxb : scope.names.lookup b = some .local) (hxc : scope.names.lookup c = some .local) (hab : ¬ a = b) (hac : ¬ a = c) (hbc : ¬ b = c)
    (he : IsEnum s₂.heap e it 0 .none) (hit : s₂.heap.IsListIter it l 0) (hei : e ≠ it) (F : Fr h₀ L s₂.heap m) (N : News h₀ L s₂.heap led) (hl : (l, ({ cls := .type "list", data := .seq items k } : Obj)) ∈ led)
    (his : ∀ (i : Nat) (x : Value), items[i]? = some x → ∃ (y : Addr) (kv wv : Value) (n : Nat), x = .ref y ∧ (y, ({ cls := .type "tuple", data := .seq #[kv, wv] n } : Obj)) ∈ led)
    (hLe : L ≠ e) (hLi : L ≠ it) (he₀ : h₀.get? e = none) (hi₀ : h₀.get? it = none) (off : ∀ p ∈ led, p.1 ≠ e ∧ p.1 ≠ it)
    (j0 : J 0 [] led) (sub : ∀ i ys news, J i ys news → ∀ q ∈ led, q ∈ news)
    (turn : ∀ (i : Nat) (y : Addr) (kv wv : Value) (n : Nat) (t : Tok) ys news oe oit C oC D m₂ h tk (E' : Value → Shared → Prop), items[i]? = some (.ref y) → (y, ({ cls := .type "tuple", data := .seq #[kv, wv] n } : Obj)) ∈ led → J i ys news → LCg.NsObj oC m₂ → m₂ a = some (.int i t) → m₂ b = some kv → m₂ c = some wv →
      Fr h₀ L h m → News h₀ L h ((e, oe) :: (it, oit) :: (C, oC) :: (D, LCg.lst ys) :: news) → Off4 e it C D news →
      wpAny (model prog w) A (eval elt (compEnvC scope cl C env)) (End2 h₀ L m { s₂ with heap := h, toks := tk } e it C D oe oit oC (LCg.lst ys) (fun y news' => J (i + 1) (ys ++ [y]) news')) E' { s₂ with heap := h, toks := tk })
    (fin : ∀ D C h tk m' ys news', J items.size ys news' → Fr h₀ L h m → News h₀ L h ((D, LCg.lst ys) :: news') → (∀ p ∈ news', p.1 ≠ D) → h.Ns C m' → h₀.get? C = none → h₀.get? D = none → C ≠ L → D ≠ L → C ≠ D → (∀ p ∈ news', p.1 ≠ C) → RR (.ref D) C (.ok .next) { s₂ with heap := h, toks := tk }) :
    wpAny (model prog w) A (newList []) (fun acc s₃ => wpAny (model prog w) A (newFunctionEnv scope env.globals cl [] env.qual none .none (some env)) (fun cenv s₄ =>
      codeAny (model prog w) A (.compStart (.ListComp elt [⟨.Tuple [.Name a pa, .Tuple [.Name b pb, .Name c pc] k2 p2] kk tp, iter, [], 0⟩] scope pos) 0 (.ref e) acc { cenv with scope := relabel scope env }) (RR acc cenv.locals) s₄) E s₃) E s₂ := by
  refine wpAny_newObj_type (wpAny_newFunctionEnv hcell (by intro y hy; simp at hy) (fun h₁ hns₁ hsb₁ => ?_) hkind)
  dsimp only at hns₁ hsb₁ ⊢
  generalize hH2 : s₂.heap.push { cls := .type "list", dict := none, data := .seq ([] : List Value).toArray } = H2 at hns₁ hsb₁ ⊢
  have hC : H2.objs.size = s₂.heap.objs.size + 1 := by rw [← hH2, Heap.size_push]
  have hDC : s₂.heap.objs.size ≠ H2.objs.size := by rw [hC]; exact Nat.ne_of_lt (Nat.lt_succ_self _)
  have below : ∀ b, b < s₂.heap.objs.size → b ≠ H2.objs.size ∧ b ≠ s₂.heap.objs.size := fun b hb => ⟨by rw [hC]; exact Nat.ne_of_lt (Nat.lt_succ_of_lt hb), Nat.ne_of_lt hb⟩
  have helt : e < s₂.heap.objs.size := Heap.lt_size he
  have hilt : it < s₂.heap.objs.size := by obtain ⟨_, q, _⟩ := hit; exact Heap.lt_size q
  have hne : l ≠ it := (off _ hl).2
  have hle : l ≠ e := (off _ hl).1
  have old : ∀ b o, s₂.heap.get? b = some o → h₁.get? b = some o := fun b o e => hsb₁.extBut b o (below b (Heap.lt_size e)).1 (Heap.get?_push_of_some _ (hH2 ▸ Heap.get?_push_of_some _ e))
  have hacc : h₁.get? s₂.heap.objs.size = some (LCg.lst []) := hsb₁.extBut _ _ hDC (Heap.get?_push_of_some _ (hH2 ▸ Heap.get?_push_size _ rfl))
  have fresh : ∀ a, s₂.heap.objs.size ≤ a → s₂.heap.get? a = none := fun a ha => by
    cases e : s₂.heap.get? a with
    | none => rfl
    | some o' => exact absurd (Heap.lt_size e) (Nat.not_lt.mpr ha)
  have fresh₀ : ∀ a, s₂.heap.objs.size ≤ a → h₀.get? a = none := fun a ha => by
    cases e : h₀.get? a with
    | none => rfl
    | some o' => have := F.keep a o' e; rw [fresh a ha] at this; cases this
  have hD₀ : h₀.get? s₂.heap.objs.size = none := fresh₀ _ (Nat.le_refl _)
  have hC₀ : h₀.get? H2.objs.size = none := fresh₀ _ (by rw [hC]; exact Nat.le_succ _)
  have hLlt : L < s₂.heap.objs.size := F.ns.lt
  have hDL : s₂.heap.objs.size ≠ L := Ne.symm (below L hLlt).2
  have hCL : H2.objs.size ≠ L := Ne.symm (below L hLlt).1
  have hCe : e ≠ H2.objs.size := (below e helt).1
  have hDe : e ≠ s₂.heap.objs.size := (below e helt).2
  have hCi : it ≠ H2.objs.size := (below it hilt).1
  have hDi : it ≠ s₂.heap.objs.size := (below it hilt).2
  have off₀ : Off4 e it H2.objs.size s₂.heap.objs.size led := fun p hp => ⟨(off p hp).1, (off p hp).2, (below _ (Heap.lt_size (N p hp).1)).1, (below _ (Heap.lt_size (N p hp).1)).2⟩
  have W := WalksT.enumerateD (Draws.list (prog := prog) (w := w) (A := A.in1) hh it l hne items) e hei (by simp only [List.mem_cons, List.not_mem_nil, or_false, not_or]; exact ⟨hei, Ne.symm hle⟩) (by simp)
  have loop : ∀ s₃ : Shared, s₃ = { s₂ with heap := h₁, toks := s₂.toks + ([] : List (PySem.Str × Value)).length } →
      codeAny (model prog w) A (.compLoop (.ListComp elt [⟨.Tuple [.Name a pa, .Tuple [.Name b pb, .Name c pc] k2 p2] kk tp, iter, [], 0⟩] scope pos) 0 (.ref e) (.ref s₂.heap.objs.size) (compEnvC scope cl H2.objs.size env))
        (RR (.ref s₂.heap.objs.size) H2.objs.size) s₃ := by
    rintro s₃ rfl
    refine kcp_loop
      (fun k s' => EInv h₀ L m s₂ e it l items s₂.heap.objs.size H2.objs.size J k s') ?_ (items.size + 1)
      ⟨h₁, _, 0, [], _, led, rfl, Nat.zero_le _, rfl, rfl, ⟨⟨_, old _ _ he⟩, hit.at fun o q => old it o q, (News.isList N hl).at fun o q => old l o q⟩, F.keeps old, hns₁, fun p hp => ?_, off₀, j0⟩
    · rintro k s' ⟨h', tk, i, ys, m', news', rfl, hi, rfl, hyl, hst', F', hn', N', off', hJ⟩
      have hsub := sub i ys news' hJ
      by_cases hlt : i < items.size
      · refine W.item i _ _ _ hlt hst' fun T vals h₂ tk₂ hP hTs hT hMd hk₂ => ?_
        obtain ⟨t, x, hx, rfl⟩ := hP
        obtain ⟨y, kv, wv, n, rfl, hy⟩ := his i x hx
        have hapart := W.apart i T h₂ hMd
        refine W.go _ _ _ i T _ _ _ hMd fun h₃ hst₃ hk₃ => ?_
        have up₃ : ∀ q o, q ≠ e → q ≠ it → h'.get? q = some o → h₃.get? q = some o := fun q o h1 h2 z => hk₃ q o (by simp [h1, h2]) (hk₂ q o (by simp [h1, h2]) z)
        have hT₃ : h₃.IsTuple T #[.int i t, .ref y] := by
          obtain ⟨o, z, r⟩ := hT
          exact ⟨o, hk₃ T o hapart z, r⟩
        have hyl' := off' _ (hsub _ hy)
        have hy' : h'.IsTuple y #[kv, wv] := ⟨_, (N' _ (.tail _ (hsub _ hy))).1, rfl, _, rfl⟩
        have hy₃ : h₃.IsTuple y #[kv, wv] := by
          obtain ⟨o, z, r⟩ := hy'
          exact ⟨o, up₃ y o hyl'.1 hyl'.2.1 z, r⟩
        refine enum_assign (env := compEnvC scope cl H2.objs.size env) hh hT₃ hy₃ (lookup_relabel_local hxa) (lookup_relabel_local hxb) (lookup_relabel_local hxc) (by simp [compEnvC, relabel, hkind]) (hn'.at' fun o z => up₃ _ o (Ne.symm hCe) (Ne.symm hCi) z) hyl'.2.2.1 fun h₄ tk₄ hn₄ hs₄ => ?_
        have up : ∀ q o, q ≠ e → q ≠ it → q ≠ H2.objs.size → h'.get? q = some o → h₄.get? q = some o := fun q o h1 h2 h3 z => hs₄ q o h3 (up₃ q o h1 h2 z)
        obtain ⟨⟨old₃, hE₃⟩, hI₃, hL₃⟩ := hst₃
        have hE₄ : IsEnum h₄ e it ((i + 1 : Nat) : Int) old₃ := hs₄ e _ hCe hE₃
        obtain ⟨oI, heI, hoI⟩ : ∃ oI : Obj, h₄.get? it = some oI ∧ ∀ h : Heap, h.get? it = some oI → h.IsListIter it l (i + 1) := by
          obtain ⟨o, z, r⟩ := hI₃
          exact ⟨o, hs₄ it _ hCi z, fun _ q => ⟨o, q, r⟩⟩
        obtain ⟨oC, heC, hoC⟩ := LCg.ns_obj hn₄
        have F₄ : Fr h₀ L h₄ m := ⟨F'.ns.at' fun o z => up _ o hLe hLi (Ne.symm hCL) z, fun q o z => up q o (fun r => by rw [r, he₀] at z; cases z) (fun r => by rw [r, hi₀] at z; cases z) (fun r => by rw [r, hC₀] at z; cases z) (F'.keep q o z), F'.above⟩
        have N₄ : News h₀ L h₄ ((e, _) :: (it, oI) :: (H2.objs.size, oC) :: (s₂.heap.objs.size, LCg.lst ys) :: news') := fun q hq => by
          rcases List.mem_cons.mp hq with rfl | hq
          · exact ⟨hE₄, Ne.symm hLe, he₀⟩
          rcases List.mem_cons.mp hq with rfl | hq
          · exact ⟨heI, Ne.symm hLi, hi₀⟩
          rcases List.mem_cons.mp hq with rfl | hq
          · exact ⟨heC, hCL, hC₀⟩
          have z := N' q hq
          rcases List.mem_cons.mp hq with rfl | hq
          · exact ⟨up _ _ (Ne.symm hDe) (Ne.symm hDi) hDC z.1, z.2⟩
          · obtain ⟨z1, z2, z3, _⟩ := off' q hq
            exact ⟨up _ _ z1 z2 z3 z.1, z.2⟩
        refine wpAny_mono (turn i y kv wv n t ys news' _ oI H2.objs.size oC s₂.heap.objs.size _ h₄ _ _ hx hy hJ hoC (by simp [hab, hac]) (by simp [hbc]) (by simp) F₄ N₄ off') (fun v s₅ h₅ => ?_) fun _ _ q => q
        obtain ⟨h₅, tk₅, news₅, rfl, F₅, N₅, off₅, hJ₅⟩ := h₅
        have zE := (N₅ _ (.head _)).1
        have zI := (N₅ _ (.tail _ (.head _))).1
        have zC := (N₅ _ (.tail _ (.tail _ (.head _)))).1
        have zD := (N₅ _ (.tail _ (.tail _ (.tail _ (.head _))))).1
        have N₅' : News h₀ L h₅ news₅ := fun q hq => N₅ q (.tail _ (.tail _ (.tail _ (.tail _ hq))))
        refine append_at (hsz := by show ys.toArray.size ≤ sizeLine; rw [List.size_toArray, hyl]; exact Nat.le_trans hi hsz) zD fun h₆ hs₆ hD₆ => ?_
        have hl₅ : h₅.IsList l items := News.isList N₅' (sub _ _ _ hJ₅ _ hl)
        refine ⟨items.size + 1 - (i + 1), by omega, h₆, tk₅, i + 1, ys ++ [v], _, news₅, rfl, hlt, rfl, by rw [List.length_append, List.length_singleton, hyl],
          ⟨⟨old₃, hs₆.extBut e _ hDe zE⟩, hoI h₆ (hs₆.extBut it oI hDi zI), hl₅.at fun o z => hs₆.extBut l o ((off₅ _ (sub _ _ _ hJ₅ _ hl)).2.2.2) z⟩, F₅.change hs₆ hDL hD₀, (hoC.ns zC).sameBut hs₆ (Ne.symm hDC), fun q hq => ?_, off₅, hJ₅⟩
        rcases List.mem_cons.mp hq with rfl | hq
        · exact ⟨hD₆.trans (congrArg some (LCg.lst_snoc ys v)), hDL, hD₀⟩
        · exact ⟨hs₆.extBut _ _ (off₅ q hq).2.2.2 (N₅' q hq).1, (N₅' q hq).2⟩
      · have hin : i = items.size := Nat.le_antisymm hi (Nat.not_lt.mp hlt)
        subst hin
        refine W.done _ _ _ hst' fun h₂ tk₂ hk₂ => ?_
        have up₂ : ∀ q o, q ≠ e → q ≠ it → h'.get? q = some o → h₂.get? q = some o := fun q o h1 h2 z => hk₂ q o (by simp [h1, h2]) z
        refine fin _ _ h₂ tk₂ _ ys news' hJ ⟨F'.ns.at' fun o z => up₂ _ o hLe hLi z, fun q o z => up₂ q o (fun r => by rw [r, he₀] at z; cases z) (fun r => by rw [r, hi₀] at z; cases z) (F'.keep q o z), F'.above⟩ (fun p hp => ?_) (fun p hp => (off' p hp).2.2.2)
          (hn'.at' fun o z => up₂ _ o (Ne.symm hCe) (Ne.symm hCi) z) hC₀ hD₀ hCL hDL (Ne.symm hDC) fun p hp => (off' p hp).2.2.1
        have z := N' p hp
        rcases List.mem_cons.mp hp with rfl | hp
        · exact ⟨up₂ _ _ (Ne.symm hDe) (Ne.symm hDi) z.1, z.2⟩
        · exact ⟨up₂ _ _ (off' p hp).1 (off' p hp).2.1 z.1, z.2⟩
    · rcases List.mem_cons.mp hp with rfl | hp
      · exact ⟨hacc, hDL, hD₀⟩
      · exact ⟨old _ _ (N p hp).1, (N p hp).2⟩
  exact codeAny_compStart_list (loop _ rfl) (wpAny_pyIter_enum (old _ _ he) (loop _ rfl))
end
end
section
open PySem PySem.W PySem.Spec PySem.Calls PyProof.Rows
theorem pr_at {led : List (Addr × Obj)} {vs : List Value} {l : List Pr} {i : Nat} {v : Value} (hdv : DVs led vs (l.map prDt)) (hx : vs[i]? = some v) : ∃ q y t1 t2 n, l[i]? = some q ∧ v = .ref y ∧ (y, ({ cls := .type "tuple", data := .seq #[.str q.1 t1, .str q.2 t2] n } : Obj)) ∈ led := by
  obtain ⟨d, hd, D⟩ := hdv.at hx
  rw [List.getElem?_map] at hd
  cases e : l[i]? with
  | none => rw [e] at hd; cases hd
  | some q =>
    rw [e] at hd
    obtain rfl := Option.some.inj hd
    unfold prDt at D
    cases D with
    | tup hm hr =>
      cases hr with
      | cons h1 hr =>
        cases hr with
        | cons h2 hr =>
          cases hr; cases h1; cases h2
          exact ⟨q, _, _, _, _, rfl, rfl, hm⟩
def TJ (w : World) (led : List (Addr × Obj)) (l : List Pr) (i : Nat) (ys : List Value) (news : List (Addr × Obj)) : Prop :=
  (∀ q ∈ led, q ∈ news) ∧ ∃ T : List Tk, T.length = i ∧ ys = tvs T ∧ (∀ t ∈ T, (t.a, instObj 495 t.d) ∈ news ∧ (t.d, tokD w t) ∈ news ∧ (t.p, posO t) ∈ news) ∧ T.map (fun t => (t.k, t.x)) = l.take i ∧ ∀ (j : Nat) t, T[j]? = some t → t.row = j + 1
theorem tj_zero {w : World} {led : List (Addr × Obj)} {l : List Pr} : TJ w led l 0 [] led := ⟨fun _ h => h, [], rfl, rfl, (fun _ h => nomatch h), by simp, fun j t h => by simp at h⟩
theorem tj_next {w : World} {led news : List (Addr × Obj)} {l : List Pr} {i : Nat} {ys : List Value} {q : Pr} {x d P : Addr} {u1 u2 u3 u4 t1 t2 rt ct : Tok} (h : TJ w led l i ys news) (hq : l[i]? = some q) :
    TJ w led l (i + 1) (ys ++ [.ref x]) ((x, instObj 495 d) :: (d, tokD w ⟨x, d, P, q.1, q.2, u1, u2, u3, u4, t1, t2, rt, ct, (i : Int) + 1⟩) :: (P, posO ⟨x, d, P, q.1, q.2, u1, u2, u3, u4, t1, t2, rt, ct, (i : Int) + 1⟩) :: news) := by
  obtain ⟨h1, T, h2, h3, h4, h5, h6⟩ := h
  refine ⟨fun q hq => .tail _ (.tail _ (.tail _ (h1 q hq))), T ++ [⟨x, d, P, q.1, q.2, u1, u2, u3, u4, t1, t2, rt, ct, (i : Int) + 1⟩], by simp [h2], by rw [h3]; simp, fun t ht => ?_, ?_, fun j t ht => ?_⟩
  · rcases List.mem_append.mp ht with ht | ht
    · obtain ⟨a, b, c⟩ := h4 t ht
      exact ⟨.tail _ (.tail _ (.tail _ a)), .tail _ (.tail _ (.tail _ b)), .tail _ (.tail _ (.tail _ c))⟩
    · rw [List.mem_singleton.mp ht]
      exact ⟨.head _, .tail _ (.head _), .tail _ (.tail _ (.head _))⟩
  · rw [List.map_append, h5, List.take_add_one, hq]; rfl
  · rw [List.getElem?_append] at ht
    split at ht
    · exact h6 j t ht
    · rename_i hlt
      have : j - T.length = 0 := by
        by_cases e : j - T.length = 0
        · exact e
        · rw [List.getElem?_eq_none (by simp; omega)] at ht; cases ht
      rw [this] at ht
      cases ht
      show ((i : Int) + 1) = (j : Int) + 1
      omega
theorem end_tok {h₀ h' : Heap} {L e it C D x d P : Addr} {m : PySem.Str → Option Value} {s₁ : Shared} {oe oit oC oD ox od oP : Obj} {rest : Value → List (Addr × Obj) → Prop} {y : Value} {tk : Nat} {news : List (Addr × Obj)}
    (F : Fr h₀ L h' m) (N : News h₀ L h' ((x, ox) :: (d, od) :: (P, oP) :: (e, oe) :: (it, oit) :: (C, oC) :: (D, oD) :: news)) (off : Off4 e it C D news) (l1 : e < P ∧ it < P ∧ C < P ∧ D < P ∧ AllLt P news) (l2 : P < d ∧ e < d ∧ it < d ∧ C < d ∧ D < d ∧ AllLt d news) (l3 : d < x)
    (r : rest y ((x, ox) :: (d, od) :: (P, oP) :: news)) : End2 h₀ L m s₁ e it C D oe oit oC oD rest y { s₁ with heap := h', toks := tk } := by
  refine ⟨h', tk, _, rfl, F, fun p hp => N p ?_, fun p hp => ?_, r⟩
  · simp only [List.mem_cons] at hp ⊢
    rcases hp with h | h | h | h | h | h | h | h <;> simp [h]
  · simp only [List.mem_cons] at hp
    obtain ⟨a1, a2, a3, a4, _⟩ := l1
    obtain ⟨_, b1, b2, b3, b4, _⟩ := l2
    rcases hp with rfl | rfl | rfl | h
    · exact ⟨Nat.ne_of_gt (Nat.lt_trans b1 l3), Nat.ne_of_gt (Nat.lt_trans b2 l3), Nat.ne_of_gt (Nat.lt_trans b3 l3), Nat.ne_of_gt (Nat.lt_trans b4 l3)⟩
    · exact ⟨Nat.ne_of_gt b1, Nat.ne_of_gt b2, Nat.ne_of_gt b3, Nat.ne_of_gt b4⟩
    · exact ⟨Nat.ne_of_gt a1, Nat.ne_of_gt a2, Nat.ne_of_gt a3, Nat.ne_of_gt a4⟩
    · exact off p h
theorem mk_rdr {w : World} {news : List (Addr × Obj)} {rd dR D NM : Addr} {oN : Obj} {T : List Tk} {t1 t2 t3 tp : Tok} (h4 : ∀ t ∈ T, (t.a, instObj 495 t.d) ∈ news ∧ (t.d, tokD w t) ∈ news ∧ (t.p, posO t) ∈ news) (hx : ∀ t ∈ T, t.x.length ≤ 1000) (hf : T.length < 2 ^ 61) (tab : TabIn news) :
    Rdr w ⟨rd, dR, D, NM, t1, t2, t3, (tvs T).length, T⟩ 0 tp ((NM, oN) :: (rd, instObj 465 dR) :: (dR, rdD w ⟨rd, dR, D, NM, t1, t2, t3, (tvs T).length, T⟩ 0 tp) :: (D, LCg.lst (tvs T)) :: news) where
  inst := .tail _ (.head _)
  dict := .tail _ (.tail _ (.head _))
  lst := .tail _ (.tail _ (.tail _ (.head _)))
  toks := fun t ht => by
    obtain ⟨a, b, c⟩ := h4 t ht
    exact ⟨.tail _ (.tail _ (.tail _ (.tail _ a))), .tail _ (.tail _ (.tail _ (.tail _ b))), .tail _ (.tail _ (.tail _ (.tail _ c))), hx t ht⟩
  p0 := Int.le_refl _
  fit := hf
  ple := Int.natCast_nonneg _
  tab := tab.mono fun _ h => .tail _ (.tail _ (.tail _ (.tail _ h)))
structure EnumStop (prog : Program) (w : World) (A : Around) (E : Value → Shared → Prop) (env : Env) (elt iter target : PySem.Expr) (scope : Scope) (cl : List (PySem.Str × Addr)) (pos : Pos) (Q : Value → Shared → Prop) (xv : Value) (s₁ : Shared) : Prop where
  h : wpAny (model prog w) A (pyIter xv) (fun it s₂ => wpAny (model prog w) A (newList []) (fun acc s₃ => wpAny (model prog w) A (newFunctionEnv scope env.globals cl [] env.qual none .none (some env)) (fun cenv s₄ =>
      codeAny (model prog w) A (.compStart (.ListComp elt [⟨target, iter, [], 0⟩] scope pos) 0 it acc { cenv with scope := relabel scope env }) (compPost (model prog w) A E none Q acc cenv.locals) s₄) E s₃) E s₂) E s₁
theorem ListCompE {prog : Program} {w : World} {A : Around} {E : Value → Shared → Prop} {s : Shared} {env : Env} {elt iter target : PySem.Expr} {scope : Scope} {cl : List (PySem.Str × Addr)} {pos : Pos} {Q : Value → Shared → Prop}
    (hclos : closureFor scope env = pure cl) (hkind : scope.kind = .function) (hnames : ∀ y ∈ scope.names, y.2 = .local → scope.names.lookup y.1 = some .local)
    (h : wpAny (model prog w) A (eval iter env) (EnumStop prog w A E env elt iter target scope cl pos Q) E s) (hs : ∀ x, foldedSetIterable iter env x = pure x := by intro _; rfl) :
    wpAny (model prog w) A (eval (.ListComp elt [⟨target, iter, [], 0⟩] scope pos) env) Q E s := by
  rw [eval_ListComp]
  exact wpAny_comprehension_free (use := none) rfl hs hclos hkind hnames (wpAny_mono h (fun _ _ q => q.h) fun _ _ e => e)
section
section
variable {w : World} {mean : ExcName → Option Value} {pq : Program} {lq : List PySem.Str} {mg mb : PySem.Str → Option Value} {dp un : Nat} {gd : Option (List Code)} {cn : PySem.Str} {cs : Scope} {a : Addr} {ccd : Value} {cl : List (PySem.Str × Addr)} {outer : List Env} {A₀ : Around} {base h₀ : Heap} {L : Addr} {m : PySem.Str → Option Value} {s : Shared}
  {Q E : Value → Shared → Prop} {led : List (Addr × Obj)} {r : RdI} {p : Int} {tp : Tok}
  (B : Below A₀ base outer h₀) (F : Fr h₀ L s.heap m) (X : (hd0.heap_1 w.params).In h₀) (N : News h₀ L s.heap led) (T : Top pq lq mean mg mb h₀) (hk : cs.kind = .function) (R : Rdr w r p tp led)
include B F X N T hk R
theorem word37_1 : True := by
  k_with_none
  (k_with "ktr_room" => first | exact lt_room (k := 1) hdp rfl rfl | exact lt_room (k := 0) hdp rfl rfl | exact lt_room0 (k := 1) hdp rfl rfl | exact lt_room0 (k := 0) hdp rfl rfl | fail "ktr_room")
  (k_with "ktr_units" => first | exact lt_room (k := 3) hun rfl rfl | exact lt_room (k := 0) hun rfl rfl | exact lt_room0 (k := 3) hun rfl rfl | exact lt_room0 (k := 0) hun rfl rfl | fail "ktr_units")
  (k_with "k_mem" => first | assumption | exact List.Mem.head _ | exact List.Mem.tail _ (List.Mem.head _))
  (k_with "cell_enter" => (refine' code_def (by k_asm) (by k_asm) (by k_asm) (by k_asm) (by k_asm) (by exact rfl) (by exact rfl) (by first | exact rfl | assumption) (by k_is) (by k_is) (by ktr_room) (by first | exact BindsTo.of_eq rfl | exact binds_K (by k_in) rfl (by k_is) rfl rfl rfl) (by exact locs rfl) ?_ (by exact rfl) (by exact rfl) (by exact rfl) (by decide); k_whole; intro g'w L'w h'w FG'w F'w N'w B'w X'w T'w; (try dsimp only); (try k_lift B'w); (try k_fold)))
  (k_with "call ref" => (k_here; (with_reducible show wpAny _ _ (call (Prod.fst _) _) _ _ _); (dsimp only [List.cons_append, List.nil_append]); walk_at "call ref"))
  (k_with "eval ListComp" => (k_here; k_dflt (refine ListCompE (by with_unfolding_all rfl) (by rfl) (by decide) ?_)))
  (k_with "call type:enumerate" => (k_here; (with_reducible show wpAny _ _ (call (Value.type _) [Value.ref _]) _ _ _); k_dflt (refine call_enumerate_list (News.isList (by k_asm) (by k_mem)) ?_); intro h9w he9w hi9w hs9w hk9w))
  (k_with "call ref" => (k_here; k_dflt (refine' call_cls (by k_asm) (by k_in) (by k_asm) (by k_is) (by k_is) (by k_is) ?_; k_whole; intro x'w d'w h'w F'w N'w l1w l2w; (try k_lt l1w); (try k_lt2 l2w); (try k_sweep)); k_dflt cell_enter))
  exact True.intro
omit R in
theorem reader_spec {la : Addr} {l : List Pr} (hL : LD la (l.map prDt) led) (hT : TabIn led) (hx : ∀ q ∈ l, q.2.length ≤ 1000) (hz : l.length ≤ 1000) (hdp : dp + 4 < recursionLimit) (hun : un + 32 < cLine)
    (hret : ∀ r tp led' h' tk', Fr h₀ L h' m → News h₀ L h' led' → Keeps led led' → Rdr w r 0 tp led' → Rest r.T 0 l → (∀ (i : Nat) t, r.T[i]? = some t → t.row = i + 1) → Q (.ref r.rd) { s with heap := h', toks := tk' }) :
    wpAny (model P0 w) (ktrTop dp un gd cn cs L a ccd cl outer) (call (.ref 528) [.ref la]) Q E s := by
  obtain ⟨vs, n, hm, hdv⟩ := hL.ex
  refine wpAny_call ?_
  k_dflt cell_enter
  k_steps
  have B'w := True.intro; have F'w := True.intro; have FG'w := True.intro; have L'w := True.intro; have N'w := True.intro; have T'w := True.intro; have X'w := True.intro; have d'w := True.intro; have g'w := True.intro; have h'w := True.intro; have h9w := True.intro; have he9w := True.intro; have hi9w := True.intro; have hk9w := True.intro; have hs9w := True.intro; have l1w := True.intro; have l2w := True.intro; have x'w := True.intro
  rename_i g1 L1 hh1 FG1 F1 N1 B1 X1 T1 h9 he9 hi9 hs9 hk9
  clear B'w F'w FG'w L'w N'w T'w X'w d'w g'w h'w h9w he9w hi9w hk9w hs9w l1w l2w x'w
  dsimp only at he9 hi9 hs9 hk9
  have F9 := F1.keeps hk9
  have N9 : News g1 L1 h9 led := fun q hq => ⟨hk9 _ _ (N1 q hq).1, (N1 q hq).2⟩
  have lt9 : ∀ q ∈ led, q.1 < hh1.objs.size := fun q hq => Heap.lt_size (N1 q hq).1
  have hg : ∀ x, hh1.objs.size ≤ x → g1.get? x = none := fun x hx => by
    cases e : g1.get? x with
    | none => rfl
    | some o => exact absurd (Heap.lt_size (F1.keep x o e)) (Nat.not_lt.mpr hx)
  have hL1 : L1 < hh1.objs.size := F1.ns.lt
  have hlen : vs.length = l.length := by rw [hdv.len, List.length_map]
  clear F1
  refine ⟨wpAny_pyIter_enum he9 ?_⟩
  refine enum_block (J := TJ w led l)
    (items := vs.toArray) (led := led) (by rfl) (by rw [List.size_toArray, hlen]; exact Nat.le_trans hz (by decide)) (by decide) (by rfl) (by rfl) (by rfl) (by rfl) (by decide) (by decide) (by decide) he9 hi9 (Nat.succ_ne_self _) F9 N9 hm ?_ (Nat.ne_of_lt (Nat.lt_succ_of_lt hL1)) (Nat.ne_of_lt hL1) (hg _ (Nat.le_succ _)) (hg _ (Nat.le_refl _)) (fun q hq => ⟨Nat.ne_of_lt (Nat.lt_succ_of_lt (lt9 q hq)), Nat.ne_of_lt (lt9 q hq)⟩)
    tj_zero (fun i ys news h => h.1) ?_ ?_
  · intro i x hx
    obtain ⟨q, y, t1, t2, n', e1, e2, e3⟩ := pr_at hdv (i := i) (by simpa using hx)
    exact ⟨y, _, _, n', e2, e3⟩
  · intro i y kv wv nn t ys news oe oit C oC D m₂ h tk E' hx hy hJ hC ha hb hc F N off
    obtain ⟨q, y', t1, t2, n', e1, e2, e3⟩ := pr_at hdv (i := i) (by simpa using hx)
    obtain rfl := Value.ref.inj e2
    have e4 := same_of N1 hy e3
    simp only [Obj.mk.injEq, Data.seq.injEq, Array.mk.injEq, List.cons.injEq, true_and, and_true] at e4
    obtain ⟨⟨rfl, rfl⟩, rfl⟩ := e4
    clear he9 hi9 hs9 hk9 F9 N9 lt9 hg N1
    k_steps
    exact end_tok (by k_asm) (by k_asm) off (by assumption) (by assumption) (by assumption) (tj_next hJ e1)
  · intro D C h tk m' ys news' hJ F N offD hn hC₀ hD₀ hCL hDL hCD offC
    refine ⟨m', hn, fun h'' hs'' => ?_⟩
    have F2 := F.change hs'' hCL hC₀
    have N2 : News g1 L1 h'' ((D, LCg.lst ys) :: news') := fun p hp => by
      refine ⟨hs''.extBut _ _ ?_ (N p hp).1, (N p hp).2⟩
      rcases List.mem_cons.mp hp with rfl | hp
      · exact Ne.symm hCD
      · exact offC p hp
    obtain ⟨hJ1, T, hT1, hT2, hT3, hT4, hT5⟩ := hJ
    clear he9 hi9 hs9 hk9 F9 N9 lt9 hg N1 F N
    subst hT2
    rw [List.size_toArray, hlen] at hT1
    rw [List.size_toArray, hlen, List.take_length] at hT4
    have hxx : ∀ t ∈ T, t.x.length ≤ 1000 := fun t ht => by
      have := hx (t.k, t.x) (by rw [← hT4]; exact List.mem_map.mpr ⟨t, ht, rfl⟩)
      exact this
    have hK := keeps_sub hJ1
    have hR0 : Rest T 0 l := ⟨Int.le_refl _, by simpa using hT4⟩
    have hfT : T.length < 2 ^ 61 := by omega
    have htab := hT.mono hJ1
    k_steps
    exact hret ⟨_, _, D, _, _, _, _, (tvs T).length, T⟩ _ _ _ _ (by k_asm) (by k_asm) (Keeps.cons (Keeps.cons (Keeps.cons (Keeps.cons hK)))) (mk_rdr hT3 hxx hfT htab) hR0 hT5
end
end
end
section
open PySem PySem.W PySem.Spec PySem.Calls PyProof.Rows PyProof.V
section
variable {prog : Program} {w : World} {A₀ A : Around} {s : Shared} {base h₀ g₀ : Heap} {L a : Addr} {m : PySem.Str → Option Value} {cn : PySem.Str} {cs : Scope} {ccd : Value} {cl : List (PySem.Str × Addr)} {news : List (Addr × Obj)} {K : Frag} {p : Program} {loose : List PySem.Str} {mean : ExcName → Option Value} {mg mb : PySem.Str → Option Value}
    {R : Result → Shared → Prop} {name qual : PySem.Str} {params : Arguments} {body : List Stmt} {scope : Scope} {dV kV doc pm cdv ct oc : Value} {an od : Option Addr} {osl : Array (Option Value)} {f : Addr} {args : Args} {binds : List (PySem.Str × Value)}
theorem code_defH (B : Below A₀ base [] h₀) (F : Fr h₀ L s.heap m) (X₀ : K.In h₀) (N : News h₀ L s.heap news) (T : Top p loose mean mg mb h₀) (hA : A.frames = some [envX cn cs L a ccd cl]) (hck : cs.kind = .function)
    (ho : K.lookup f = some ⟨oc, od, .func (fnOf name qual params body scope dV kV doc pm an cdv ct), osl⟩) (hcd : codeIn K cdv qual = true) (hroom : A.depth < recursionLimit)
    (hbind : BindsTo s (fnOf name qual params body scope dV kV doc pm an cdv ct) args binds) (hloc : ∀ y ∈ binds, scope.names.lookup y.1 = some .local)
    (h : ∀ g L' h₁, (∀ b o, s.heap.get? b = some o → b ∉ news.map (·.1) → g.get? b = some o) → Fr h₀ L g m → Fr g L' h₁ (fun y => binds.reverse.lookup y) → News g L' h₁ news → Below A base [envX cn cs L a ccd cl] g → K.In g → Top p loose mean mg mb g →
      wpAny (model prog w) (A.deeper (envOf qual scope L' f cdv)) (execs body (envOf qual scope L' f cdv))
        (fun fl s' => LeaveS0 [L] h₀ L m g R (match fl with | .ret v => v | _ => .none) s')
        (fun e s' => wpAny (model prog w) (A.deeper (envOf qual scope L' f cdv)) (leaving (envOf qual scope L' f cdv) e) (fun _ s'' => R (.error e) s'') (fun e' s'' => R (.error e') s'') s')
        { s with heap := h₁, toks := s.toks + binds.length })
    (hco : scope.isCoroutine = false) (hgen : scope.isGenerator = false) (hk : scope.kind = .function)
    (hcell : ∀ x ∈ scope.names, x.2 ≠ .cell) : codeAny (model prog w) A (.call (.ref f) args) R s := by
  have X := X₀.keeps F.keep
  refine codeAny_call_def (fd := fnOf name qual params body scope dV kV doc pm an cdv ct) (body := body) (binds := binds) hroom (X _ _ ho) rfl (T.nolimit.keeps F.keep) (codeRec_of X hcd) rfl hbind hcell hloc (fun h₁ hns hk₁ => ?_) hco hgen hk
  have nm : ∀ b o, h₀.get? b = some o → b ∉ news.map (·.1) := fun b o e q => by
    obtain ⟨p, hp, rfl⟩ := List.mem_map.mp q
    rw [(N p hp).2.2] at e; cases e
  obtain ⟨oL, es, ep, hL, hLd, hLk, hLf⟩ := F.ns
  have nL : L ∉ news.map (·.1) := fun q => by
    obtain ⟨p, hp, e⟩ := List.mem_map.mp q
    exact (N p hp).2.1 e
  obtain ⟨FG, BG, st, lv⟩ := groundX (R := fun _ _ => True) (env := envX cn cs L a ccd cl) B F N hA rfl hck
  have hLg := hideAll_get (news.map (·.1)) hL nL
  have hNs : ∀ (sl : Array (Option Value)) h', h'.get? L = some { oL with slots := sl } → Heap.Ns h' L m := fun sl h' e => ⟨_, es, ep, e, hLd, hLk, hLf⟩
  refine wpAny_mono (h _ s.heap.objs.size h₁ (fun b o e nb => hideAll_get _ e nb) ⟨hNs oL.slots _ hLg, st, F.above⟩ ⟨hns, fun b o e => hk₁ b o (of_hideAll _ e), Nat.le_of_eq (hideAll_size _ _)⟩
    (fun p hp => ⟨hk₁ _ _ (N p hp).1, Nat.ne_of_lt (Heap.lt_size (N p hp).1), hideAll_none _ (List.mem_map_of_mem hp)⟩) BG (X₀.keeps st) (T.keeps st)) (fun fl s' hl => ?_) fun _ _ y => y
  obtain ⟨g', L', m', news', T', F', N', k⟩ := hl
  have nL₀ : h₀.get? L = none := kts_self F
  obtain ⟨sl, hs⟩ := T'.up hLg
  refine k ⟨hNs sl _ (F'.keep _ _ hs), fun b o e => F'.keep b o (T'.other b o (st b o e) (fun q => by
    rw [List.mem_singleton.mp q, nL₀] at e
    cases e)), F.above⟩ fun p hp => ⟨(N' p hp).1, fun q => ?_, ?_⟩
  · have := (N' p hp).2.2; rw [q, hs] at this; cases this
  · cases q : h₀.get? p.1 with
    | none => rfl
    | some o =>
      obtain ⟨sl', hs'⟩ := T'.up (st _ _ q)
      have := (N' p hp).2.2
      rw [hs'] at this
      cases this
end
/-- what a call left alone: all that did not stand in the ledger it was given -/
def Rests (h : Heap) (led : List (Addr × Obj)) (h' : Heap) (led' : List (Addr × Obj)) : Prop := ∀ b o, h.get? b = some o → b ∉ led.map (·.1) → h'.get? b = some o ∧ ∀ p ∈ led', p.1 ≠ b
theorem rests_of {h h' g : Heap} {L : Addr} {m : PySem.Str → Option Value} {led led' : List (Addr × Obj)} (G : ∀ b o, h.get? b = some o → b ∉ led.map (·.1) → g.get? b = some o) (F : Fr g L h' m) (N : News g L h' led') : Rests h led h' led' := fun b o e nb =>
  ⟨F.keep _ _ (G b o e nb), fun p hp q => by
    have h1 := (N p hp).2.2
    rw [q, G b o e nb] at h1
    cases h1⟩
end
section
open PySem PySem.W PySem.Spec PySem.Calls PyProof.Rows
def LP (a : Addr) (l : List Pr) (led : List (Addr × Obj)) : Prop := LD a (l.map prDt) led
theorem LP.keeps {q l a b} (h : LP q l a) (k : Keeps a b) : LP q l b := LD.keeps h k
theorem add_LD {prog : Program} {w : World} {A : Around} {E : Value → Shared → Prop} {s : Shared} {h₀ : Heap} {L a b : Addr} {m : PySem.Str → Option Value} {led : List (Addr × Obj)} {da db : List Dt} {Q : Value → Shared → Prop} (F : Fr h₀ L s.heap m) (N : News h₀ L s.heap led) (hA : LD a da led) (hB : LD b db led) (hz : da.length + db.length ≤ 16000)
    (h : ∀ D h' led', Fr h₀ L h' m → News h₀ L h' led' → (∀ q ∈ led, q ∈ led') → LD D (da ++ db) led' → (∀ p ∈ led, p.1 < D) → Q (.ref D) { s with heap := h' }) : wpAny (model prog w) A (binaryOp .Add (.ref a) (.ref b)) Q E s := by
  obtain ⟨vs, n, h1, h2⟩ := hA.ex
  obtain ⟨us, k, g1, g2⟩ := hB.ex
  have e1 := h2.len
  have e2 := g2.len
  refine kmk_add_lit (zs := vs ++ us) F N (News.isList N h1) (News.isList N g1) (by simp) (fun D h' F' N' lt => h D h' _ F' N' (fun q hq => .tail _ hq) ⟨_, _, List.Mem.head _, (h2.app g2).keeps kcons⟩ lt) ?_
  show vs.length + us.length ≤ sizeLine
  rw [e1, e2]
  exact Nat.le_trans hz (by decide)
theorem add_LP {prog : Program} {w : World} {A : Around} {E : Value → Shared → Prop} {s : Shared} {h₀ : Heap} {L a b : Addr} {m : PySem.Str → Option Value} {led : List (Addr × Obj)} {da db : List Pr} {Q : Value → Shared → Prop} (F : Fr h₀ L s.heap m) (N : News h₀ L s.heap led) (hA : LP a da led) (hB : LP b db led) (hz : da.length + db.length ≤ 16000)
    (h : ∀ D h' led', Fr h₀ L h' m → News h₀ L h' led' → (∀ q ∈ led, q ∈ led') → LP D (da ++ db) led' → (∀ p ∈ led, p.1 < D) → Q (.ref D) { s with heap := h' }) : wpAny (model prog w) A (binaryOp .Add (.ref a) (.ref b)) Q E s :=
  add_LD F N hA hB (by rw [List.length_map, List.length_map]; exact hz) fun D h' led' F' N' S' D' lt => h D h' led' F' N' S' (by unfold LP; rw [List.map_append]; exact D') lt
theorem len_LP {prog : Program} {w : World} {A : Around} {E : Value → Shared → Prop} {s : Shared} {h₀ : Heap} {L a : Addr} {led : List (Addr × Obj)} {l : List Pr} {Q : Value → Shared → Prop} (N : News h₀ L s.heap led) (hA : LP a l led) (hz : l.length ≤ 16000)
    (h : Q (.int l.length (s.toks + 1)) { s with toks := s.toks + 1 + 1 }) : wpAny (model prog w) A (call (.builtin "len") [.ref a]) Q E s := by
  obtain ⟨vs, n, h1, h2⟩ := hA.ex
  have e : vs.length = l.length := by rw [h2.len, List.length_map]
  refine PyProof.Rows.len_list (News.isList N h1) (by rw [List.size_toArray]; omega) ?_
  rw [List.size_toArray, e]; exact h
section
section
variable {w : World} {mean : ExcName → Option Value} {pq : Program} {lq : List PySem.Str} {mg mb : PySem.Str → Option Value} {dp un : Nat} {gd : Option (List Code)} {cn : PySem.Str} {cs : Scope} {a : Addr} {ccd : Value} {cl : List (PySem.Str × Addr)} {A₀ : Around} {base h₀ : Heap} {L : Addr} {m : PySem.Str → Option Value} {s : Shared}
  {Q E : Value → Shared → Prop} {led : List (Addr × Obj)} {r : RdI} {p : Int} {tp : Tok}
  (B : Below A₀ base [] h₀) (F : Fr h₀ L s.heap m) (X : (hd0.heap_1 w.params).In h₀) (N : News h₀ L s.heap led) (T : Top pq lq mean mg mb h₀) (hk : cs.kind = .function) (R : Rdr w r p tp led)
include B F X N T hk R
theorem word38_1 : True := by
  k_with_none
  (k_with "ktr_room" => first | exact lt_room (k := 1) hdp rfl rfl | exact lt_room (k := 0) hdp rfl rfl | exact lt_room0 (k := 1) hdp rfl rfl | exact lt_room0 (k := 0) hdp rfl rfl | fail "ktr_room")
  (k_with "ktr_units" => first | exact lt_room (k := 3) hun rfl rfl | exact lt_room (k := 0) hun rfl rfl | exact lt_room0 (k := 3) hun rfl rfl | exact lt_room0 (k := 0) hun rfl rfl | fail "ktr_units")
  (k_with "k_mem" => first | assumption | exact List.Mem.head _ | exact List.Mem.tail _ (List.Mem.head _))
  (k_with "cell_enter" => (refine' code_def (by k_asm) (by k_asm) (by k_asm) (by k_asm) (by k_asm) (by exact rfl) (by exact rfl) (by first | exact rfl | assumption) (by k_is) (by k_is) (by ktr_room) (by first | exact BindsTo.of_eq rfl | exact binds_K (by k_in) rfl (by k_is) rfl rfl rfl) (by exact locs rfl) ?_ (by exact rfl) (by exact rfl) (by exact rfl) (by decide); k_whole; intro g' L' h' FG' F' N' B' X' T'; (try dsimp only); (try k_lift B'); (try k_fold)))
  (k_with "call ref" => (k_here; (with_reducible show wpAny _ _ (call (Prod.fst _) _) _ _ _); (dsimp only [List.cons_append, List.nil_append]); walk_at "call ref"))
  (k_with "binaryOp Add ref ref" => (k_here; (with_reducible show wpAny _ _ (binaryOp _ (Value.ref _) (Value.ref _)) _ _ _); k_dflt (refine' add_LP (by k_asm) (by k_asm) (by assumption) (by assumption) (by omega) ?_); intro D9 h9 led9 F9 N9 S9 P9 lt9; (have K9 := keeps_sub S9); (try have la9 := LP.keeps (by assumption) (keeps_sub S9)); (try have tb9 := TabIn.mono (by assumption) S9)))
  (k_with "call builtin:len" => (k_here; (with_reducible show wpAny _ _ (call (Value.builtin _) [Value.ref _]) _ _ _); k_dflt (refine' len_LP (by k_asm) (by first | assumption | exact LP.keeps (by assumption) (by assumption)) (by omega) ?_; k_whole)))
  (k_with "call ref" => (k_here; (with_reducible show wpAny _ _ (call (Value.ref 528) [Value.ref _]) _ _ _); k_dflt (refine' reader_spec (by k_asm) (by k_asm) (by k_in) (by k_asm) (by k_asm) (by first | exact rfl | assumption) (by assumption) (by assumption) (by assumption) (by assumption) (by ktr_room) (by ktr_units) ?_); intro r9 tp9 led9 h9 tk9 F9 N9 K9 R9 H9 O9; (try have la9 := LP.keeps (by assumption) K9); (have mi9 := Rdr.inst R9); (have md9 := Rdr.dict R9); (have tb9 := Rdr.tab R9); (have KK9 := Keeps.trans (by assumption) K9); (have ln8 := Rest.len H9 R9.ple); (try dsimp only [tkV]); (try k_fold)))
  (k_with "call ref" => (k_here; (with_reducible show wpAny _ _ (call (Value.ref 284) [Value.ref _]) _ _ _); k_dflt (refine' strung (by k_asm) (by k_asm) (by k_in) (by k_asm) (by k_asm) (by first | exact rfl | assumption) (by first | assumption | exact Rdr.cons (by assumption) | exact Rdr.cons (Rdr.cons (by assumption)) | exact Rdr.cons (Rdr.cons (Rdr.cons (by assumption)))) (by first | assumption | exact CodeHd.keeps (by assumption) (Fr.keep (by assumption))) (by assumption) (by assumption) (by assumption) (by assumption) (by assumption) (by ktr_room) (by ktr_units) ?_); refine Or.inl ⟨by assumption, ?_⟩; intro led9 tp9 v9 p9 h9 tk9 F9 N9 K9 R9 H9 D9; (try have la9 := LP.keeps (by assumption) K9); (have mi9 := Rdr.inst R9); (have md9 := Rdr.dict R9); (have tb9 := Rdr.tab R9); (have KK9 := Keeps.trans (by assumption) K9); (have ln9 := Rest.len H9 R9.ple); (try dsimp only [tkV]); (try k_fold)))
  exact True.intro
omit R in
theorem read_spec (CD : CodeHd h₀ 236 232) {la lb : Addr} {gs : List Grp} {tl : List Pr} (hA : LP la (gs.flatMap Grp.toks) led) (hB : LP lb tl led) (tab : TabIn led) (hg : gs ≠ []) (hks : ∀ g ∈ gs, g.ks ≠ []) (hb : BegT tl false) (hc : calm tl = true) (hsz : (gs.flatMap Grp.rows).length ≤ 1000) (hz : (gs.flatMap Grp.toks ++ tl).length ≤ 1000) (hx : ∀ q ∈ gs.flatMap Grp.toks ++ tl, q.2.length ≤ 1000) (hdp : dp + 20 < recursionLimit) (hun : un + 160 < cLine)
    (hret : ∀ led' v h' tk', Fr h₀ L h' m → News h₀ L h' led' → Keeps led led' → TabIn led' → DV led' v (.tup (gs.flatMap Grp.rows)) → Rests s.heap led h' led' → Q v { s with heap := h', toks := tk' }) :
    wpAny (model P0 w) (ktrTop dp un gd cn cs L a ccd cl []) (call (.ref 542) [.ref la, .ref lb]) Q E s := by
  have K0 := Keeps.refl led
  have hz2 := hz
  rw [List.length_append] at hz2
  have hap : (gs.flatMap Grp.toks ++ tl).length = (gs.flatMap Grp.toks).length + tl.length := List.length_append
  refine wpAny_call ?_
  k_dflt (refine' code_defH ?k1 ?k2 ?k3 ?k4 ?k5 ?kA ?kK ?k6 ?k7 ?k8 ?k9 ?kB ?_ ?c2 ?c3 ?c4 ?c5; (case kA => exact rfl); (case kK => assumption); (case k1 => k_asm); (case k2 => k_asm); (case k3 => k_asm); (case k4 => k_asm); (case k5 => k_asm); (case k6 => k_is); (case k7 => k_is); (case k8 => ktr_room); (case k9 => first | exact BindsTo.of_eq rfl | exact binds_K (by k_in) rfl (by k_is) rfl rfl rfl); (case c5 => decide); (case kB => exact locs rfl); (case c2 => exact rfl); (case c3 => exact rfl); (case c4 => exact rfl); k_whole; intro g' L' h' GG' FG' F' N' B' X' T'; (try dsimp only); (try k_lift B'); (try k_fold))
  k_steps
  all_goals first | exact hret _ _ _ _ (by k_asm) (by k_asm) (by assumption) (by assumption) (by assumption) (rests_of GG' (by assumption) (by assumption)) | (exfalso; omega)
end
end
end
section
open PySem PySem.W PySem.Spec PySem.Calls PyProof.Rows PyProof.V
section
variable {prog : Program} {w : World} {A₀ A : Around} {s : Shared} {base h₀ g₀ : Heap} {outer : List Env} {L a : Addr} {m : PySem.Str → Option Value} {cn : PySem.Str} {cs : Scope} {ccd : Value} {cl : List (PySem.Str × Addr)} {news : List (Addr × Obj)} {K : Frag} {p : Program} {loose : List PySem.Str} {mean : ExcName → Option Value} {mg mb : PySem.Str → Option Value}
    {R : Result → Shared → Prop} {name qual : PySem.Str} {params : Arguments} {body : List Stmt} {scope : Scope} {dV kV doc pm cdv ct oc : Value} {an od : Option Addr} {osl : Array (Option Value)} {f : Addr} {args : Args} {binds : List (PySem.Str × Value)}
theorem g_enter (B : Below A₀ base outer h₀) (F : Fr h₀ L s.heap m) (N : News h₀ L s.heap news) (hA : A.frames = some (envX cn cs L a ccd cl :: outer)) (hck : cs.kind = .function) :
    ∃ oL es ep, (hideAll s.heap (news.map (·.1))).get? L = some oL ∧ oL.data = .dict es ep ∧ (∀ (sl : Array (Option Value)) h', h'.get? L = some { oL with slots := sl } → Heap.Ns h' L m) ∧
      h₀.StaysIn (hideAll s.heap (news.map (·.1))) ∧ Below A base (envX cn cs L a ccd cl :: outer) (hideAll s.heap (news.map (·.1))) := by
  have nm : ∀ b o, h₀.get? b = some o → b ∉ news.map (·.1) := fun b o e q => by
    obtain ⟨p, hp, rfl⟩ := List.mem_map.mp q
    rw [(N p hp).2.2] at e; cases e
  obtain ⟨FG, BG, st, lv⟩ := groundX (R := fun _ _ => True) (env := envX cn cs L a ccd cl) B F N hA rfl hck
  obtain ⟨oL, es, ep, hL, hLd, hLk, hLf⟩ := F.ns
  have nL : L ∉ news.map (·.1) := fun q => by
    obtain ⟨p, hp, e⟩ := List.mem_map.mp q
    exact (N p hp).2.1 e
  exact ⟨oL, es, ep, hideAll_get _ hL nL, hLd, fun sl h' e => ⟨_, es, ep, e, hLd, hLk, hLf⟩, st, BG⟩
theorem code_defG (B : Below A₀ base [] h₀) (F : Fr h₀ L s.heap m) (X₀ : K.In h₀) (N : News h₀ L s.heap news) (T : Top p loose mean mg mb h₀) (hA : A.frames = some [envX cn cs L a ccd cl]) (hck : cs.kind = .function)
    (ho : K.lookup f = some ⟨oc, od, .func (fnOf name qual params body scope dV kV doc pm an cdv ct), osl⟩) (hcd : codeIn K cdv qual = true) (hroom : A.depth < recursionLimit)
    (hbind : BindsTo s (fnOf name qual params body scope dV kV doc pm an cdv ct) args binds) (hloc : ∀ y ∈ binds, scope.names.lookup y.1 = some .local)
    (h : ∀ g L' h₁, Fr h₀ L g m → Fr g L' h₁ (fun y => binds.reverse.lookup y) → News g L' h₁ news → Below A base [envX cn cs L a ccd cl] g → K.In g → Top p loose mean mg mb g →
      wpAny (model prog w) (A.deeper (envOf qual scope L' f cdv)) (execs body (envOf qual scope L' f cdv))
        (fun fl s' => LeaveS0 [L] h₀ L m g R (match fl with | .ret v => v | _ => .none) s')
        (fun e s' => wpAny (model prog w) (A.deeper (envOf qual scope L' f cdv)) (leaving (envOf qual scope L' f cdv) e) (fun _ s'' => R (.error e) s'') (fun e' s'' => R (.error e') s'') s')
        { s with heap := h₁, toks := s.toks + binds.length })
    (hco : scope.isCoroutine = false) (hgen : scope.isGenerator = false) (hk : scope.kind = .function)
    (hcell : ∀ x ∈ scope.names, x.2 ≠ .cell) : codeAny (model prog w) A (.call (.ref f) args) R s := by
  have X := X₀.keeps F.keep
  refine codeAny_call_def (fd := fnOf name qual params body scope dV kV doc pm an cdv ct) (body := body) (binds := binds) hroom (X _ _ ho) rfl (T.nolimit.keeps F.keep) (codeRec_of X hcd) rfl hbind hcell hloc (fun h₁ hns hk₁ => ?_) hco hgen hk
  obtain ⟨oL, es, ep, hLg, hLd, hNs, st, B₂⟩ := g_enter B F N hA hck
  refine wpAny_mono (h _ s.heap.objs.size h₁ ⟨hNs oL.slots _ hLg, st, F.above⟩ ⟨hns, fun b o e => hk₁ b o (of_hideAll _ e), Nat.le_of_eq (hideAll_size _ _)⟩
    (fun p hp => ⟨hk₁ _ _ (N p hp).1, Nat.ne_of_lt (Heap.lt_size (N p hp).1), hideAll_none _ (List.mem_map_of_mem hp)⟩) B₂ (X₀.keeps st) (T.keeps st)) (fun fl s' hl => ?_) fun _ _ y => y
  obtain ⟨g', L', m', news', T', F', N', k⟩ := hl
  have nL₀ : h₀.get? L = none := kts_self F
  obtain ⟨sl, hs⟩ := T'.up hLg
  refine k ⟨hNs sl _ (F'.keep _ _ hs), fun b o e => F'.keep b o (T'.other b o (st b o e) (fun q => by
    rw [List.mem_singleton.mp q, nL₀] at e
    cases e)), F.above⟩ fun p hp => ⟨(N' p hp).1, fun q => ?_, ?_⟩
  · have := (N' p hp).2.2; rw [q, hs] at this; cases this
  · cases q : h₀.get? p.1 with
    | none => rfl
    | some o =>
      obtain ⟨sl', hs'⟩ := T'.up (st _ _ q)
      have := (N' p hp).2.2
      rw [hs'] at this
      cases this
end
section
variable {prog : Program} {w : World} {A₀ : Around} {E : Value → Shared → Prop} {s' : Shared} {base g g₀ G Hn : Heap} {outer : List Env} {L a e : Addr} {m : PySem.Str → Option Value} {name : PySem.Str} {scope : Scope} {cd : Value}
  {n : PySem.Str} {b₀ : Stmt} {suite : List Stmt} {pos np : Pos} {rest : List ExceptHandler} {Q : Flow → Shared → Prop} {led led' : List (Addr × Obj)} {t : Tk}
  {mean : ExcName → Option Value} {mg mb : PySem.Str → Option Value}
theorem caughtG (R : RaisedG w base G (envOf name scope L a cd :: outer) e t led' s'.heap) (F : Fr g L G m) (K : Below A₀ base outer g) (hsm : G.UpToSlots s'.heap) (XB : (hd0.heap_1 w.params).In base) {pq : Program} {lq : List PySem.Str} (TB : Top pq lq mean mg mb base)
    (N : News g L Hn led) (KL : Keeps led led') (hp : (t.p, posO t) ∈ led) (tab : TabIn led)
    (k : ∀ h' g' tk oe d u1 u2 n₁ wh ps ledX, KtsTurn (outer.filterMap (·.frame)) g g' → Fr g' L h' (fun y => if y = n then some (.ref e) else m y) → oe.cls = .ref 72 → oe.dict = some d → (∃ vs, oe.data = .fields vs) →
      News g' L h' ((e, oe) :: (d, dictOf [⟨kh w "what", .str "what" u1, wh⟩, ⟨kh w "at", .str "at" u2, .ref t.p⟩] n₁) :: (t.p, posO t) :: (232, tabObj ps) :: ledX) → TriplesOk ps.toList → (codeAmong posL ps.toList = none ∨ ∃ c', codeAmong posL ps.toList = some (.ref c')) → Keeps led ledX → Below A₀ base outer g' → (hd0.heap_1 w.params).In g' → Top pq lq mean mg mb g' →
      wpAny (model prog w) ((A₀.deeper (envOf name scope L a cd)).mark (some (.ref e))) (execs (b₀ :: suite) (envOf name scope L a cd))
        (fun f s₄ => wpAny (model prog w) (A₀.deeper (envOf name scope L a cd)) (do bindName (envOf name scope L a cd) n .none; unbindBehindTheSuite (envOf name scope L a cd) n pos) (fun _ s₅ => Q f s₅) E s₄)
        (AsSuiteRaised (model prog w) ((A₀.deeper (envOf name scope L a cd)).mark (some (.ref e))) (envOf name scope L a cd) n pos (notedBy (model prog w) ((A₀.deeper (envOf name scope L a cd)).mark (some (.ref e))) (envOf name scope L a cd) (cameBackBy (model prog w) (A₀.deeper (envOf name scope L a cd)) (envOf name scope L a cd) E)))
        { s' with heap := h', toks := tk })
    (hk : scope.kind = .function := by rfl) (hlo : (envOf name scope L a cd).kindOf n = some .local := by rfl) (hx : (envOf name scope L a cd).kindOf "GrammarFault" = some .globalImplicit := by rfl) :
    wpAny (model prog w) (A₀.deeper (envOf name scope L a cd)) (noteFrame (.ref e) (envOf name scope L a cd))
      (fun _ s₂ => wpAny (model prog w) (A₀.deeper (envOf name scope L a cd)) (setFlight (.ref e) none) (fun _ s₃ =>
        wpAny (model prog w) (A₀.deeper (envOf name scope L a cd)) (handleBy (.ref e) (envOf name scope L a cd) (.ExceptHandler (some (.Name "GrammarFault" np)) (some n) (b₀ :: suite) pos :: rest)) Q E s₃) E s₂) E s' := by
  obtain ⟨B, d, u1, u2, n₁, wh, hB, hBG, hfl, r1, r2, r3, r4, r5, ps, r6, r7, r8⟩ := R.ex
  have hL : B.get? L = none := by
    obtain ⟨_, ⟨L', _, hf, hn', _⟩, _⟩ := hfl.fr
    obtain rfl : L = L' := Option.some.inj hf
    exact hn'
  refine noteD_on (Around.frames_deeper K.stack) rfl hfl fun h₄ x₄ hsm₄ => ?_
  refine landD (s := { s' with heap := h₄ }) x₄ fun h₅ x₅ hsm₅' => ?_
  have hsm₅ := hsm₄.trans hsm₅'
  obtain ⟨g₅, T₅, F₅, K₅⟩ := kts_ground K F hBG x₅.stay (hsm.trans hsm₅)
  have X₅ : (hd0.heap_1 w.params).In g₅ := XB.keeps K₅.stays
  have P₅ : TopRead pq lq mg mb g₅ := topRead_of (TB.keeps K₅.stays)
  obtain ⟨ob, vs₅, T5, oT5, ts5, hob, hobc, hobd, hobf, _⟩ := id x₅.tr
  have hC₅ : h₅.get? 72 = some c72 := F₅.keep _ _ (X₅ _ _ (k72 w))
  refine wpAny_handleBy_cons (codeAny_handlers_test (name_K F₅ X₅ P₅ (v := .ref 72) (by k_is) ?_ hk hx (by decide))) (by intro q; cases q)
  refine wpAny_excMatches_sub_self hC₅ hob hobc (by decide +kernel) (codeAny_handlers_suite_as ?_)
  refine landD (s := { s' with heap := h₅ }) x₅ fun h₆ x₆ hsm₆ => ?_
  obtain ⟨g₆, T₆, F₆, K₆⟩ := kts_ground K F hBG x₆.stay ((hsm.trans hsm₅).trans hsm₆)
  obtain ⟨oe, vs₆, T6, oT6, ts6, hoe, hoec, hoed, hoef, _⟩ := id x₆.tr
  have ne₆ : g₆.get? e = none := T₆.none_ _ (kts_none F.keep r3)
  have nd₆ : g₆.get? d = none := T₆.none_ _ (kts_none F.keep r2)
  have eL : e ≠ L := fun q => by
    have h1 := F₆.ns
    obtain ⟨o, es, ep, h2, h3, _⟩ := h1
    rw [← q, hoe] at h2
    cases h2
    rw [hoef] at h3; cases h3
  have nB : ∀ b o, B.get? b = some o → b ≠ L := fun b o h q => by rw [q, hL] at h; cases h
  have up : ∀ b o, B.get? b = some o → h₆.get? b = some o := x₆.stay
  obtain ⟨ps₀, tm, _⟩ := tab
  have Nall : News g₆ L h₆ ((e, oe) :: (d, dictOf [⟨kh w "what", .str "what" u1, wh⟩, ⟨kh w "at", .str "at" u2, .ref t.p⟩] n₁) :: (t.p, posO t) :: (232, tabObj ps) :: led.filter fun q => !isDict q.2) := fun q hq => by
    rcases List.mem_cons.mp hq with rfl | hq
    · exact ⟨hoe, eL, ne₆⟩
    rcases List.mem_cons.mp hq with rfl | hq
    · exact ⟨up _ _ r1, nB _ _ r1, nd₆⟩
    rcases List.mem_cons.mp hq with rfl | hq
    · have z := r5 _ (KL _ hp rfl) rfl
      exact ⟨up _ _ z, nB _ _ z, T₆.none_ _ (N _ hp).2.2⟩
    rcases List.mem_cons.mp hq with rfl | hq
    · exact ⟨up _ _ r6, nB _ _ r6, T₆.none_ _ (N _ tm).2.2⟩
    obtain ⟨h1, h2⟩ := List.mem_filter.mp hq
    have h3 : isDict q.2 = false := by simpa using h2
    have z := r5 _ (KL _ h1 h3) h3
    exact ⟨up _ _ z, nB _ _ z, T₆.none_ _ (N _ h1).2.2⟩
  have X₆ : (hd0.heap_1 w.params).In g₆ := XB.keeps K₆.stays
  have P₆ : Top pq lq mean mg mb g₆ := TB.keeps K₆.stays
  refine stN F₆ Nall (fun h₇ F₇ N₇ => ?_) hk hlo
  exact k h₇ g₆ _ oe d u1 u2 n₁ wh ps _ T₆ F₇ hoec hoed ⟨_, hoef⟩ N₇ r7 r8 (fun q h1 h2 => List.mem_filter.mpr ⟨h1, by simpa using h2⟩) K₆ X₆ P₆
end
end
section
open PySem PySem.W PySem.Spec PySem.Calls PyProof.Rows PySem.Builtin PySem.Builtin.ObjectAttr
section
variable {prog : Program} {w : World} {A : Around} {E : Value → Shared → Prop} {s : Shared} {x : Addr} {ox od : Obj} {P : Addr} {expr : Bool} {Q : Value → Shared → Prop}
theorem ga_call {tk : Tok} {R : Result → Shared → Prop} {name : PySem.Str} {v : Value} (X : (hd0.heap_1 w.params).In s.heap) (I : PySem.W.InstAt s.heap x ox 72 (some od)) (hf : findObj (hd0.heap_1 w.params) 72 (some od) name = some (.value v)) (h : R (.ok (.ret v)) s) :
    codeAny (model prog w) A (.call (.builtin "BaseException.__getattribute__") ⟨[.ref x, .str name tk], []⟩) R s := by
  have hk : builtinKind "BaseException.__getattribute__" = some .slot := by decide +kernel
  have hsplit : splitId "BaseException.__getattribute__" = some ("BaseException", "__getattribute__") := by decide +kernel
  have sub : Looks (model prog w) s.heap (isInstance (.ref x) (.type "BaseException")) true := I.type.andThen (looks_mroIn X (by k_is))
  refine codeAny_call_builtin PySem.F.attr_Exception.ga.plain PySem.F.entry_bexc_ga (@check_slot (model prog w) _ _ s "BaseException.__getattribute__" "BaseException" "__getattribute__" (.ref x) [.str name tk] [] _ hk hsplit sub (PySem.F.args_bexc_ga _ _) ?_)
  obtain ⟨hh, g, d, t, os⟩ := s
  have L0 := I.type (M := model prog w)
  have L1 := looks_find (M := model prog w) X I hf
  unfold Builtin.«object.__getattribute__»
  refine wpAny_bind (wpAny_pure (wpAny_bind (wpAny_pure (wpAny_bind (L0.at (wpAny_bind (L1.at ?_)))))))
  exact wpAny_pure h
theorem getE {name : PySem.Str} {v : Value} (X : (hd0.heap_1 w.params).In s.heap) (I : PySem.W.InstAt s.heap x ox 72 (some od)) (hf : findObj (hd0.heap_1 w.params) 72 (some od) name = some (.value v)) (hh : handedIn v = true) (h : Q v { s with toks := s.toks + 1 }) :
    wpAny (model prog w) A (getAttr (.ref x) name expr) Q E s := by
  obtain ⟨hp, g, d, t, os⟩ := s
  have L0 := I.type (M := model prog w)
  have L1 := looks_findIn (M := model prog w) X (t := .ref 72) (name := "__getattribute__") (r := some (.builtin "BaseException.__getattribute__")) (by k_is)
  have L2 := looks_findIn (M := model prog w) X (t := .ref 72) (name := "__getattr__") (r := none) (by k_is)
  have hx0 : (expr && onTheHeap (Value.builtin "BaseException.__getattribute__")) = false := by cases expr <;> rfl
  have hx2 : (Value.builtin "BaseException.__getattribute__" == Value.builtin "object.__getattribute__") = false := by decide +kernel
  have hx1 : (onTheHeap (Value.ref 72) && Value.builtin "BaseException.__getattribute__" == Value.builtin "object.__getattribute__") = false := by rw [hx2]; rfl
  have f3 := PySem.F.attr_Exception.ga.bind (.ref x)
  unfold getAttr getAttrBy
  refine wpAny_bind (wpAny_mkText (wpAny_holding (wpAny_bind (L0.at (wpAny_bind (L1.at ?_))))))
  dsimp only
  rw [hx1, if_neg (by decide)]
  repeat (any_goals (first | assumption | with_reducible refine L2.at ?_ | with_reducible refine L0.at ?_ | wp_step))
  refine ga_call (s := ⟨hp, g, d, t + 1, os⟩) X I hf ?_
  show wpAny _ _ (handedOut v) _ _ _
  rw [handedOut_of hh]
  exact wpAny_pure h
end
end
section
open PySem PySem.W PySem.Spec PySem.Calls PyProof.Rows
inductive BadL : List Pr → Nat → Prop
  | num0 (x : PySem.Str) (l : List Pr) : (x = "0" ∨ x = "7") → BadL (("number", x) :: l) 0
  | all0 (l : List Pr) : BadL (("word", "ALL") :: ("literal", "x") :: l) 0
  | num3 (x : PySem.Str) (l : List Pr) : (x = "0" ∨ x = "7") → BadL (Kd.a.toks ++ ((("word", "DELIMITED") : Pr) :: ("word", "BY") :: ("number", x) :: l)) 3
  | into (gs : List Grp) (k0 : Kd) (ks : List Kd) (l : List Pr) : gs ≠ [] → (∀ g ∈ gs, g.ks ≠ []) → (gs.flatMap Grp.rows).length ≤ 1000 → ks.length ≤ 100 → BadL (gs.flatMap Grp.toks ++ (Kd.toks k0 ++ (ks.flatMap Kd.toks ++ intoP :: l))) (gs.flatMap Grp.toks ++ (Kd.toks k0 ++ ks.flatMap Kd.toks)).length
section
variable {w : World} {mean : ExcName → Option Value} {pq : Program} {lq : List PySem.Str} {mg mb : PySem.Str → Option Value} {dp un : Nat} {gd : Option (List Code)} {cn : PySem.Str} {cs : Scope} {a : Addr} {ccd : Value} {cl : List (PySem.Str × Addr)} {outer : List Env} {A₀ : Around} {base h₀ : Heap} {L : Addr} {m : PySem.Str → Option Value} {s : Shared}
  {Q E : Value → Shared → Prop} {led : List (Addr × Obj)} {r : RdI} {p : Int} {tp : Tok}
  (B : Below A₀ base outer h₀) (F : Fr h₀ L s.heap m) (X : (hd0.heap_1 w.params).In h₀) (N : News h₀ L s.heap led) (T : Top pq lq mean mg mb h₀) (hk : cs.kind = .function) (R : Rdr w r p tp led)
include B F X N T hk R
theorem strung_bad (CD : CodeHd h₀ 236 232) {l : List Pr} {i : Nat} {t : Tk} (hp : p = 0) (H : Rest r.T p l) (hB : BadL l i) (ht : r.T[i]? = some t) (hdp : dp + 19 < recursionLimit) (hun : un + 152 < cLine)
    (hret : ∀ e g₂ led' h' tk', Fr h₀ L g₂ m → g₂.UpToSlots h' → Keeps led led' → RaisedG w base g₂ (envX cn cs L a ccd cl :: outer) e t led' h' → E (.ref e) { s with heap := h', toks := tk' }) :
    wpAny (model P0 w) (ktrTop dp un gd cn cs L a ccd cl outer) (call (.ref 284) [.ref r.rd]) Q E s := by
  subst hp
  have hl := H.len R.ple
  cases hB with
  | num0 x l hx => exact strung_num0 B F X N T hk R H hx (by rw [← ht]; congr 1; rw [List.length_cons] at hl; omega) (by omega) (by omega) hret
  | all0 l => exact strung_all0 B F X N T hk R H (by rw [← ht]; congr 1; simp only [List.length_cons] at hl; omega) (by omega) (by omega) hret
  | num3 x l hx => exact strung_num3 B F X N T hk R CD H hx (by rw [← ht]; congr 1; simp only [List.length_append, List.length_cons, Kd.toks, List.length_nil] at hl; omega) (by omega) (by omega) hret
  | into gs k0 ks l h1 h2 h3 h4 =>
    refine strung B F X N T hk R CD H h1 h2 (calm_toks _ _) h3 hdp hun (.inr ⟨k0, ks, l, t, rfl, h4, ?_, hret⟩)
    rw [← ht]; congr 1
    simp only [List.length_append, List.length_cons] at hl ⊢
    omega
end
theorem eq_tup2 {prog : Program} {w : World} {A : Around} {E : Value → Shared → Prop} {s : Shared} {h₀ : Heap} {L a b : Addr} {led : List (Addr × Obj)} {x y x' y' : Int} {t u t' u' : Tok} {n n' : Nat} {Q : Value → Shared → Prop} (N : News h₀ L s.heap led) (h1 : (a, ({ cls := .type "tuple", data := .seq #[.int x t, .int y u] n } : Obj)) ∈ led) (h2 : (b, ({ cls := .type "tuple", data := .seq #[.int x' t', .int y' u'] n' } : Obj)) ∈ led) (ex : x = x') (ey : y = y') (hu : A.units < cLine) (h : Q (.bool true) s) :
    wpAny (model prog w) A (compareOp .Eq (.ref a) (.ref b)) Q E s := by
  subst ex; subst ey
  refine PySem.SeqAt.eq_tupleAt (e := fun _ => true) (News.isTup N h1) (News.isTup N h2) hu (fun j h1 h2 => ?_) h
  intro prog w E Q hq
  match j, h1 with
  | 0, _ => exact wpAny_eqBool_int (by simpa using hq)
  | 1, _ => exact wpAny_eqBool_int (by simpa using hq)
  | j + 2, h1 => exact absurd h1 (by simp)
theorem rest_at {T : List Tk} {l : List Pr} {i : Nat} (H : Rest T 0 l) (hi : i < l.length) : ∃ t, T[i]? = some t := by
  have h := congrArg List.length H.2
  rw [List.length_map, List.length_drop] at h
  exact ⟨T[i]'(by have : (0 : Int).toNat = 0 := rfl; omega), by rw [List.getElem?_eq_getElem]⟩
theorem getE_at {prog : Program} {w : World} {A : Around} {E : Value → Shared → Prop} {s : Shared} {g : Heap} {L e d P : Addr} {m : PySem.Str → Option Value} {led : List (Addr × Obj)} {oe : Obj} {u1 u2 : Tok} {wh : Value} {n : Nat} {expr : Bool} {Q : Value → Shared → Prop} (F : Fr g L s.heap m) (X : (hd0.heap_1 w.params).In g) (N : News g L s.heap led) (c1 : oe.cls = .ref 72) (c2 : oe.dict = some d) (c3 : ∃ vs, oe.data = .fields vs) (h1 : (e, oe) ∈ led)
    (h2 : (d, dictOf [⟨kh w "what", .str "what" u1, wh⟩, ⟨kh w "at", .str "at" u2, .ref P⟩] n) ∈ led) (h : Q (.ref P) { s with toks := s.toks + 1 }) : wpAny (model prog w) A (getAttr (.ref e) "at" expr) Q E s := by
  obtain ⟨vs, c3⟩ := c3
  have I : PySem.W.InstAt s.heap e oe 72 (some (dictOf [⟨kh w "what", .str "what" u1, wh⟩, ⟨kh w "at", .str "at" u2, .ref P⟩] n)) := ⟨(N _ h1).1, c1, by unfold notCls; rw [c3], by rw [c2]; exact (N _ h2).1⟩
  exact getE (X.keeps F.keep) I (findObj_own (attr := none) (by k_is) (by k_is) rfl rfl) rfl h
section
section
variable {w : World} {mean : ExcName → Option Value} {pq : Program} {lq : List PySem.Str} {mg mb : PySem.Str → Option Value} {dp un : Nat} {gd : Option (List Code)} {cn : PySem.Str} {cs : Scope} {a : Addr} {ccd : Value} {cl : List (PySem.Str × Addr)} {A₀ : Around} {base h₀ : Heap} {L : Addr} {m : PySem.Str → Option Value} {s : Shared}
  {Q E : Value → Shared → Prop} {led : List (Addr × Obj)} {r : RdI} {p : Int} {tp : Tok}
  (B : Below A₀ base [] h₀) (F : Fr h₀ L s.heap m) (X : (hd0.heap_1 w.params).In h₀) (N : News h₀ L s.heap led) (T : Top pq lq mean mg mb h₀) (hk : cs.kind = .function) (R : Rdr w r p tp led)
include B F X N T hk R
theorem word39_1 : True := by
  k_with_none
  (k_with "ktr_room" => first | exact lt_room (k := 1) hdp rfl rfl | exact lt_room (k := 0) hdp rfl rfl | exact lt_room0 (k := 1) hdp rfl rfl | exact lt_room0 (k := 0) hdp rfl rfl | fail "ktr_room")
  (k_with "ktr_units" => first | exact lt_room (k := 3) hun rfl rfl | exact lt_room (k := 0) hun rfl rfl | exact lt_room0 (k := 3) hun rfl rfl | exact lt_room0 (k := 0) hun rfl rfl | fail "ktr_units")
  (k_with "k_mem" => first | assumption | exact List.Mem.head _ | exact List.Mem.tail _ (List.Mem.head _))
  (k_with "cell_enter" => (refine' code_def (by k_asm) (by k_asm) (by k_asm) (by k_asm) (by k_asm) (by exact rfl) (by exact rfl) (by first | exact rfl | assumption) (by k_is) (by k_is) (by ktr_room) (by first | exact BindsTo.of_eq rfl | exact binds_K (by k_in) rfl (by k_is) rfl rfl rfl) (by exact locs rfl) ?_ (by exact rfl) (by exact rfl) (by exact rfl) (by decide); k_whole; intro g'w L'w h'w FG'w F'w N'w B'w X'w T'w; (try dsimp only); (try k_lift B'w); (try k_fold)))
  (k_with "call ref" => (k_here; (with_reducible show wpAny _ _ (call (Prod.fst _) _) _ _ _); (dsimp only [List.cons_append, List.nil_append]); walk_at "call ref"))
  (k_with "getAttr ref" => (k_dflt (refine' getE_at (by k_asm) (by k_in) (by k_asm) (by assumption) (by assumption) (by assumption) (by first | exact List.Mem.head _ | exact .tail _ (List.Mem.head _)) (by first | exact .tail _ (List.Mem.head _) | exact .tail _ (.tail _ (List.Mem.head _))) ?_)))
  (k_with "compareOp Eq ref ref" => (k_dflt (refine' eq_tup2 (by k_asm) (by exact .tail _ (.tail _ (.tail _ (List.Mem.head _)))) (by exact List.Mem.head _) (by assumption) (by exact rfl) (by ktr_units) ?_)))
  (k_with "call ref" => (k_here; (with_reducible show wpAny _ _ (call (Value.ref 528) [Value.ref _]) _ _ _); k_dflt (refine' reader_spec (by k_asm) (by k_asm) (by k_in) (by k_asm) (by k_asm) (by first | exact rfl | assumption) (by assumption) (by assumption) (by assumption) (by assumption) (by ktr_room) (by ktr_units) ?_); intro r9w tp9w led9w h9w tk9w F9w N9w K9w R9w H9w O9w; (have mi9w := Rdr.inst R9w); (have md9w := Rdr.dict R9w); (have tb9w := Rdr.tab R9w); (obtain ⟨t9w, ht9w⟩ := rest_at H9w (by assumption)); (have ho9w := O9w _ _ ht9w); (have hp9w := (R9w.toks _ (List.mem_of_getElem? ht9w)).2.2.1); (try dsimp only [tkV]); (try k_fold)))
  (k_with "call ref" => (k_here; (with_reducible show wpAny _ _ (call (Value.ref 284) [Value.ref _]) _ _ _); k_dflt (refine' strung_bad (by k_asm) (by k_asm) (by k_in) (by k_asm) (by k_asm) (by first | exact rfl | assumption) (by first | assumption | exact Rdr.cons (by assumption) | exact Rdr.cons (Rdr.cons (by assumption)) | exact Rdr.cons (Rdr.cons (Rdr.cons (by assumption)))) (by first | assumption | exact CodeHd.keeps (by assumption) (Fr.keep (by assumption))) (by exact rfl) (by assumption) (by assumption) (by assumption) (by ktr_room) (by ktr_units) ?_); intro e9w g9w led9w h9w tk9w F9w U9w K9w R9w; (try dsimp only [tkV]); (try k_fold)))
  exact True.intro
omit R in
theorem refused_spec (XB : (hd0.heap_1 w.params).In base) (TB : Top pq lq mean mg mb base) (CD : CodeHd h₀ 236 232) {la : Addr} {l : List Pr} {i : Nat} {it : Tok} (hA : LP la l led) (tab : TabIn led) (hB : BadL l i) (hi : i < l.length) (hx : ∀ q ∈ l, q.2.length ≤ 1000) (hz : l.length ≤ 1000) (hdp : dp + 21 < recursionLimit) (hun : un + 168 < cLine)
    (hret : ∀ led' h' tk', Fr h₀ L h' m → News h₀ L h' led' → Keeps led led' → TabIn led' → Q (.bool true) { s with heap := h', toks := tk' }) :
    wpAny (model P0 w) (ktrTop dp un gd cn cs L a ccd cl []) (call (.ref 549) [.ref la, .int i it]) Q E s := by
  have K0 := Keeps.refl led
  refine wpAny_call ?_
  k_dflt (refine' code_defG ?k1 ?k2 ?k3 ?k4 ?k5 ?kA ?kK ?k6 ?k7 ?k8 ?k9 ?kB ?_ ?c2 ?c3 ?c4 ?c5; (case kA => exact rfl); (case kK => assumption); (case k1 => k_asm); (case k2 => k_asm); (case k3 => k_asm); (case k4 => k_asm); (case k5 => k_asm); (case k6 => k_is); (case k7 => k_is); (case k8 => ktr_room); (case k9 => first | exact BindsTo.of_eq rfl | exact binds_K (by k_in) rfl (by k_is) rfl rfl rfl); (case c5 => decide); (case kB => exact locs rfl); (case c2 => exact rfl); (case c3 => exact rfl); (case c4 => exact rfl); k_whole; intro g' L' h' FG' F' N' B' X' T'; (try dsimp only); (try k_lift B'); (try k_fold))
  k_steps
  have B'w := True.intro; have F'w := True.intro; have F9w := True.intro; have FG'w := True.intro; have H9w := True.intro; have K9w := True.intro; have L'w := True.intro; have N'w := True.intro; have N9w := True.intro; have O9w := True.intro; have R9w := True.intro; have T'w := True.intro; have U9w := True.intro; have X'w := True.intro; have e9w := True.intro; have g'w := True.intro; have g9w := True.intro; have h'w := True.intro; have h9w := True.intro; have ho9w := True.intro; have hp9w := True.intro; have ht9w := True.intro; have led9w := True.intro; have md9w := True.intro; have mi9w := True.intro; have r9w := True.intro; have t9w := True.intro; have tb9w := True.intro; have tk9w := True.intro; have tp9w := True.intro
  rename_i r2 tp2 led2 h2 tk2 F2 N2 K2 R2 H2 O2 mi2 md2 tb2 t2 ht2 ho2 hp2 e3 g3 led3 h3 tk3 F3 U3 K3 R3
  clear B'w F'w F9w FG'w H9w K9w L'w N'w N9w O9w R9w T'w U9w X'w e9w g'w g9w h'w h9w ho9w hp9w ht9w led9w md9w mi9w r9w t9w tb9w tk9w tp9w
  refine caughtG R3 F3 B' U3 XB TB N2 K3 hp2 tb2 ?_
  intro h4 g4 tk4 oe d u1 u2 n1 wh ps ledX T4 F4 c1 c2 c3 N4 q1 q2 KX B4 X4 P4
  have K4 : Keeps led ((e3, oe) :: (d, dictOf [⟨kh w "what", .str "what" u1, wh⟩, ⟨kh w "at", .str "at" u2, .ref t2.p⟩] n1) :: (t2.p, posO t2) :: (232, tabObj ps) :: ledX) := Keeps.cons (Keeps.cons (Keeps.cons (Keeps.cons (Keeps.trans K2 KX))))
  have tab4 : TabIn ((e3, oe) :: (d, dictOf [⟨kh w "what", .str "what" u1, wh⟩, ⟨kh w "at", .str "at" u2, .ref t2.p⟩] n1) :: (t2.p, posO t2) :: (232, tabObj ps) :: ledX) := ⟨ps, .tail _ (.tail _ (.tail _ (.head _))), q1, q2⟩
  clear F2 N2 K2 R2 H2 O2 mi2 md2 tb2 ht2 hp2 F3 U3 K3 R3 N' B' X' T' KX
  k_steps
  all_goals first | exact hret _ _ _ (by k_asm) (by k_asm) (Keeps.cons K4) (tab4.mono fun _ h => .tail _ h) | exact hret _ _ _ (by k_asm) (by k_asm) K4 tab4
end
end
end
section
open PySem PySem.W PySem.Spec PySem.Calls PyProof.Rows
structure PenAt (pa ca : Addr) (turn cur : Int) (cs : List Int) (led : List (Addr × Obj)) : Prop where
  ex : ∃ t1 t2 n vs k, (pa, lstO [.ref ca, .int turn t1, .int cur t2] n) ∈ led ∧ (ca, lstO vs k) ∈ led ∧ IntsAre vs cs
  ne : ca ≠ pa
  bnd : ∀ c ∈ cs, 0 ≤ c ∧ c < 2 * 10 ^ 40
  len : cs.length ≤ 30
  t0 : 0 ≤ turn
  c0 : 0 ≤ cur
theorem pen_mk {pa ca : Addr} {turn cur : Int} {cs : List Int} {led : List (Addr × Obj)} {t1 t2 : Tok} {n k : Nat} {vs : List Value} (h1 : (pa, lstO [.ref ca, .int turn t1, .int cur t2] n) ∈ led) (h2 : (ca, lstO vs k) ∈ led) (h3 : IntsAre vs cs) (h4 : ca ≠ pa) (h5 : ∀ c ∈ cs, 0 ≤ c ∧ c < 2 * 10 ^ 40) (h6 : cs.length ≤ 30) (h7 : 0 ≤ turn) (h8 : 0 ≤ cur) : PenAt pa ca turn cur cs led := ⟨⟨_, _, _, _, _, h1, h2, h3⟩, h4, h5, h6, h7, h8⟩
theorem nn_pow {a z : Int} (h : 0 ≤ a) : 0 ≤ a ^ Int.toNat 7 + z.fmod 1000003 := Int.add_nonneg (Int.pow_nonneg h) (Int.fmod_nonneg_of_pos _ (by decide))
theorem in_rest {pa ca : Addr} {o : Obj} {led : List (Addr × Obj)} (h : (ca, o) ∈ led) (hne : ca ≠ pa) : (ca, o) ∈ led.filter fun q => q.1 != pa := List.mem_filter.mpr ⟨h, by simpa using hne⟩
structure CutP (P : Prop) : Prop where
  h : P
theorem fr_two {g h : Heap} {L : Addr} {x y : PySem.Str} {u v : Value} {m : PySem.Str → Option Value} (F : Fr g L h m) (h1 : m x = some u) (h2 : m y = some v) : Fr g L h (fun z : PySem.Str => if z = x then some u else if z = y then some v else m z) := by
  have e : (fun z : PySem.Str => if z = x then some u else if z = y then some v else m z) = m := funext fun z => by
    split
    · rename_i q; rw [q, h1]
    · split
      · rename_i q; rw [q, h2]
      · rfl
  rw [e]; exact F
theorem pen_cut {w : World} {A : Around} {Q : Flow → Shared → Prop} {E : Value → Shared → Prop} {s : Shared} {g : Heap} {L pa ca : Addr} {m0 : PySem.Str → Option Value} {rs : List (Addr × Obj)} {o : Obj} {st : Stmt} {env : Env} (turn : Int) (u v : Value) (F : Fr g L s.heap m0) (N : News g L s.heap ((pa, o) :: rs))
    (hh : CutP (∀ Q' : Flow → Shared → Prop, (∀ (turn' cur' : Int) (t1 t2 : Tok) (n : Nat) (mo : PySem.Str → Option Value) (h' : Heap) (tk' : Nat), turn' ≤ turn + 1 → 0 ≤ turn' → 0 ≤ cur' → Fr g L h' (fun z : PySem.Str => if z = "pen" then some u else if z = "many" then some v else mo z) → News g L h' ((pa, lstO [.ref ca, .int turn' t1, .int cur' t2] n) :: rs) → Q' .next { s with heap := h', toks := tk' }) → wpAny (model P0 w) A (exec st env) Q' E s))
    (k : ∀ (turn' cur' : Int) (t1 t2 : Tok) (n : Nat) (mo : PySem.Str → Option Value) (h' : Heap) (tk' : Nat), turn' ≤ turn + 1 → 0 ≤ turn' → 0 ≤ cur' → Fr g L h' (fun z : PySem.Str => if z = "pen" then some u else if z = "many" then some v else mo z) → News g L h' ((pa, lstO [.ref ca, .int turn' t1, .int cur' t2] n) :: rs) → Q .next { s with heap := h', toks := tk' }) : wpAny (model P0 w) A (exec st env) Q E s := hh.h Q k
section
section
variable {w : World} {mean : ExcName → Option Value} {pq : Program} {lq : List PySem.Str} {mg mb : PySem.Str → Option Value} {dp un : Nat} {gd : Option (List Code)} {cn : PySem.Str} {cs : Scope} {a : Addr} {ccd : Value} {cl : List (PySem.Str × Addr)} {outer : List Env} {A₀ : Around} {base h₀ : Heap} {L : Addr} {m : PySem.Str → Option Value} {s : Shared}
  {Q E : Value → Shared → Prop} {led : List (Addr × Obj)} {r : RdI} {p : Int} {tp : Tok}
  (B : Below A₀ base outer h₀) (F : Fr h₀ L s.heap m) (X : (hd0.heap_1 w.params).In h₀) (N : News h₀ L s.heap led) (T : Top pq lq mean mg mb h₀) (hk : cs.kind = .function) (R : Rdr w r p tp led)
include B F X N T hk R
theorem word40_1 : True := by
  k_with_none
  (k_with "ktr_room" => first | exact lt_room (k := 1) hdp rfl rfl | exact lt_room (k := 0) hdp rfl rfl | exact lt_room0 (k := 1) hdp rfl rfl | exact lt_room0 (k := 0) hdp rfl rfl | fail "ktr_room")
  (k_with "ktr_units" => first | exact lt_room (k := 3) hun rfl rfl | exact lt_room (k := 0) hun rfl rfl | exact lt_room0 (k := 3) hun rfl rfl | exact lt_room0 (k := 0) hun rfl rfl | fail "ktr_units")
  (k_with "k_mem" => first | assumption | exact List.Mem.head _ | exact List.Mem.tail _ (List.Mem.head _))
  (k_with "cell_enter" => (refine' code_def (by k_asm) (by k_asm) (by k_asm) (by k_asm) (by k_asm) (by exact rfl) (by exact rfl) (by first | exact rfl | assumption) (by k_is) (by k_is) (by ktr_room) (by first | exact BindsTo.of_eq rfl | exact binds_K (by k_in) rfl (by k_is) rfl rfl rfl) (by exact locs rfl) ?_ (by exact rfl) (by exact rfl) (by exact rfl) (by decide); k_whole; intro g' L' h' FG' F' N' B' X' T'; (try dsimp only); (try k_lift B'); (try k_fold)))
  (k_with "call ref" => (k_here; (with_reducible show wpAny _ _ (call (Prod.fst _) _) _ _ _); (dsimp only [List.cons_append, List.nil_append]); walk_at "call ref"))
  (k_with "setItem ref int" => (k_here; k_dflt (refine' ki_set (by k_asm) (by k_asm) (by decide) (by decide) (by rfl) (Upd.head (by assumption)) ?_); intro h' F' N'; (try dsimp only [List.nil_append, List.cons_append] at N')))
  (k_with "call builtin:len" => (k_here; (with_reducible show wpAny _ _ (call (Value.builtin _) [Value.ref _]) _ _ _); k_dflt (refine' PyProof.Rows.len_list (by exact News.isList (by k_asm) (.tail _ (by assumption))) (by omega) ?_)))
  (k_with "subscriptTail" => (k_here; (with_reducible show wpAny _ _ (subscriptTail _ _ (Value.ref _) (Value.int _ _)) _ _ _); (with_unfolding_all refine' int_item (by k_asm) (by exact .tail _ (by assumption)) (by assumption) (by assumption) (by omega) (by assumption) ?_ (by with_unfolding_all rfl)); intro c9 u9 hc9; (have hb9 := (by assumption : ∀ c ∈ _, 0 ≤ c ∧ c < 2 * 10 ^ 40) _ hc9)))
  (k_with "call builtin:sum" => (k_here; (with_reducible show wpAny _ _ (call (Value.builtin _) [Value.ref _]) _ _ _); k_dflt (refine' PyProof.Rows.LSm.sum_ints (by k_asm) (by k_asm) (by exact rfl) (by exact News.isList (by k_asm) (.tail _ (by assumption))) (by assumption) ?_); intro h9 tk9 u9 F9 N9))
  (k_with "exec If" => (k_here; k_dflt (refine' pen_cut (pa := pa) (ca := ca) turn (.ref pa) (.int many mt) (by k_asm) (by k_asm) ?_ ?_); rotate_left; intro tu9w cu9w t19w t29w n9w mo9w h9w tk9w le9w h09w hc9w F9w N9w; (try k_fold)))
  exact True.intro
omit R in
theorem draw_spec {pa ca : Addr} {turn cur many : Int} {mt : Tok} {zs : List Int} (hP : PenAt pa ca turn cur zs led) (hm1 : 1 ≤ many) (hm2 : many ≤ 10) (htn : turn ≤ 1000) (hdp : dp + 1 < recursionLimit) (hun : un + 8 < cLine)
    (hret : ∀ d u turn' cur' led' h' tk', 0 ≤ d → d < many → turn' ≤ turn + 1 → PenAt pa ca turn' cur' zs led' → Fr h₀ L h' m → News h₀ L h' led' → (∀ q ∈ led, q.1 ≠ pa → q ∈ led') → Q (.int d u) { s with heap := h', toks := tk' }) :
    wpAny (model P0 w) (ktrTop dp un gd cn cs L a ccd cl outer) (call (.ref 511) [.ref pa, .int many mt]) Q E s := by
  obtain ⟨⟨t1, t2, n, vs, k, hp, hc, hi⟩, hne, hbd, hln, ht0, hc0⟩ := hP
  have hc2 := in_rest hc hne
  have N1 := News.front N hp
  unfold front at N1
  have hoff := front_off pa led
  have hgd : 0 ≤ zs.getD turn.toNat 0 ∧ zs.getD turn.toNat 0 < 2 * 10 ^ 40 := by
    rw [List.getD_eq_getElem?_getD]
    cases e : zs[turn.toNat]? with
    | none => exact ⟨Int.le_refl _, by decide⟩
    | some c => exact hbd c (List.mem_of_getElem? e)
  have hvz : vs.toArray.size = zs.length := by rw [List.size_toArray, hi.length]
  have hq : ∀ q ∈ led, q.1 ≠ pa → q ∈ led.filter fun q => q.1 != pa := fun q h1 h2 => List.mem_filter.mpr ⟨h1, by simpa using h2⟩
  clear N
  refine wpAny_call ?_
  k_dflt cell_enter
  k_steps
  rotate_left
  · refine ⟨fun Q' kq => ?_⟩
    refine wpAny_If ?_
    k_steps
    all_goals first
      | (refine' kq (turn + 1) _ _ _ _ _ _ _ (Int.le_refl _) (by omega) ?n (fr_two ?F ?e1 ?e2) ?N; (case F => k_asm); (case e1 => exact rfl); (case e2 => exact rfl); (case N => k_asm); (case n => first | exact hgd.1 | exact nn_pow (by omega) | omega))
      | (refine' kq turn _ _ _ _ _ _ _ (by omega) ht0 ?n (fr_two ?F ?e1 ?e2) ?N; (case F => k_asm); (case e1 => exact rfl); (case e2 => exact rfl); (case N => k_asm); (case n => exact hc0))
  all_goals (refine' hret _ _ _ _ _ _ _ (Int.fmod_nonneg_of_pos _ (by omega)) (Int.fmod_lt_of_pos _ (by omega)) (by assumption) ?P ?F ?N ?q; (case F => k_asm); (case N => k_asm); (case P => (refine' pen_mk ?h (.tail _ hc2) hi hne hbd hln ?t ?n; (case h => exact List.Mem.head _); (case t => assumption); (case n => exact Int.fdiv_nonneg (by assumption) (by omega)))); (case q => exact fun q h1 h2 => .tail _ (hq q h1 h2)))
end
end
end
section
open PySem PySem.W PySem.Spec PySem.Calls PyProof.Rows
def isPen (o : Obj) : Bool := match o.data with
  | .seq vs _ => match vs.toList with
    | [.ref _, .int _ _, .int _ _] => o.cls == .type "list"
    | _ => false
  | _ => false
def KeepP (a b : List (Addr × Obj)) : Prop := ∀ q ∈ a, isDict q.2 = false → isPen q.2 = false → q ∈ b
def KeepQ (pa : Addr) (a b : List (Addr × Obj)) : Prop := ∀ q ∈ a, q.1 ≠ pa → q ∈ b
theorem KeepQ.trans {pa : Addr} {a b c : List (Addr × Obj)} (h : KeepQ pa a b) (k : KeepQ pa b c) : KeepQ pa a c := fun q hq h2 => k q (h q hq h2) h2
theorem PenAt.keeps {pa ca turn cur zs a b} (h : PenAt pa ca turn cur zs a) (k : Keeps a b) : PenAt pa ca turn cur zs b := by
  obtain ⟨⟨t1, t2, n, vs, j, h1, h2, h3⟩, r1, r2, r3, r4, r5⟩ := h
  exact ⟨⟨t1, t2, n, vs, j, k _ h1 rfl, k _ h2 rfl, h3⟩, r1, r2, r3, r4, r5⟩
theorem off_pen {h₀ h : Heap} {L pa ca x : Addr} {o : Obj} {turn cur : Int} {zs : List Int} {led : List (Addr × Obj)} (N : News h₀ L h led) (hP : PenAt pa ca turn cur zs led) (hx : (x, o) ∈ led) (h2 : isPen o = false) : x ≠ pa := fun e => by
  obtain ⟨⟨t1, t2, n, vs, j, h3, _⟩, _⟩ := hP
  subst e
  have e3 := same_of N hx h3
  rw [e3] at h2
  exact Bool.noConfusion (show true = false from h2)
theorem idx_at {vs : List Value} {d : Int} (h0 : 0 ≤ d) (h : d < vs.length) : ∃ v, vs[d.toNat]? = some v := ⟨vs[d.toNat]'(by omega), by rw [List.getElem?_eq_getElem]⟩
section
section
variable {w : World} {mean : ExcName → Option Value} {pq : Program} {lq : List PySem.Str} {mg mb : PySem.Str → Option Value} {dp un : Nat} {gd : Option (List Code)} {cn : PySem.Str} {cs : Scope} {a : Addr} {ccd : Value} {cl : List (PySem.Str × Addr)} {outer : List Env} {A₀ : Around} {base h₀ : Heap} {L : Addr} {m : PySem.Str → Option Value} {s : Shared}
  {Q E : Value → Shared → Prop} {led : List (Addr × Obj)} {r : RdI} {p : Int} {tp : Tok}
  (B : Below A₀ base outer h₀) (F : Fr h₀ L s.heap m) (X : (hd0.heap_1 w.params).In h₀) (N : News h₀ L s.heap led) (T : Top pq lq mean mg mb h₀) (hk : cs.kind = .function) (R : Rdr w r p tp led)
include B F X N T hk R
theorem word41_1 : True := by
  k_with_none
  (k_with "ktr_room" => first | exact lt_room (k := 1) hdp rfl rfl | exact lt_room (k := 0) hdp rfl rfl | exact lt_room0 (k := 1) hdp rfl rfl | exact lt_room0 (k := 0) hdp rfl rfl | fail "ktr_room")
  (k_with "ktr_units" => first | exact lt_room (k := 3) hun rfl rfl | exact lt_room (k := 0) hun rfl rfl | exact lt_room0 (k := 3) hun rfl rfl | exact lt_room0 (k := 0) hun rfl rfl | fail "ktr_units")
  (k_with "k_mem" => first | assumption | exact List.Mem.head _ | exact List.Mem.tail _ (List.Mem.head _))
  (k_with "cell_enter" => (refine' code_def (by k_asm) (by k_asm) (by k_asm) (by k_asm) (by k_asm) (by exact rfl) (by exact rfl) (by first | exact rfl | assumption) (by k_is) (by k_is) (by ktr_room) (by first | exact BindsTo.of_eq rfl | exact binds_K (by k_in) rfl (by k_is) rfl rfl rfl) (by exact locs rfl) ?_ (by exact rfl) (by exact rfl) (by exact rfl) (by decide); k_whole; intro g'w L'w h'w FG'w F'w N'w B'w X'w T'w; (try dsimp only); (try k_lift B'w); (try k_fold)))
  (k_with "call ref" => (k_here; (with_reducible show wpAny _ _ (call (Prod.fst _) _) _ _ _); (dsimp only [List.cons_append, List.nil_append]); walk_at "call ref"))
  exact True.intro
omit R in
theorem draw {pa ca : Addr} {turn cur many : Int} {mt : Tok} {zs : List Int} (hP : PenAt pa ca turn cur zs led) (hm1 : 1 ≤ many) (hm2 : many ≤ 10) (htn : turn ≤ 1000) (hdp : dp + 1 < recursionLimit) (hun : un + 8 < cLine)
    (hret : ∀ d u turn' cur' led' h' tk', 0 ≤ d → d < many → turn' ≤ turn + 1 → PenAt pa ca turn' cur' zs led' → Fr h₀ L h' m → News h₀ L h' led' → KeepQ pa led led' → Q (.int d u) { s with heap := h', toks := tk' }) :
    wpAny (model P0 w) (ktrTop dp un gd cn cs L a ccd cl outer) (call (.ref 511) [.ref pa, .int many mt]) Q E s := by
  exact draw_spec B F X N T hk hP hm1 hm2 htn hdp hun fun d u t' c' led' h' tk' a b c P F' N' k => hret d u t' c' led' h' tk' a b c P F' N' k
end
end
section
section
variable {w : World} {mean : ExcName → Option Value} {pq : Program} {lq : List PySem.Str} {mg mb : PySem.Str → Option Value} {dp un : Nat} {gd : Option (List Code)} {cn : PySem.Str} {cs : Scope} {a : Addr} {ccd : Value} {cl : List (PySem.Str × Addr)} {outer : List Env} {A₀ : Around} {base h₀ : Heap} {L : Addr} {m : PySem.Str → Option Value} {s : Shared}
  {Q E : Value → Shared → Prop} {led : List (Addr × Obj)} {r : RdI} {p : Int} {tp : Tok}
  (B : Below A₀ base outer h₀) (F : Fr h₀ L s.heap m) (X : (hd0.heap_1 w.params).In h₀) (N : News h₀ L s.heap led) (T : Top pq lq mean mg mb h₀) (hk : cs.kind = .function) (R : Rdr w r p tp led)
include B F X N T hk R
theorem word41_2 : True := by
  k_with_none
  (k_with "ktr_room" => first | exact lt_room (k := 1) hdp rfl rfl | exact lt_room (k := 0) hdp rfl rfl | exact lt_room0 (k := 1) hdp rfl rfl | exact lt_room0 (k := 0) hdp rfl rfl | fail "ktr_room")
  (k_with "ktr_units" => first | exact lt_room (k := 3) hun rfl rfl | exact lt_room (k := 0) hun rfl rfl | exact lt_room0 (k := 3) hun rfl rfl | exact lt_room0 (k := 0) hun rfl rfl | fail "ktr_units")
  (k_with "k_mem" => first | assumption | exact List.Mem.head _ | exact List.Mem.tail _ (List.Mem.head _))
  (k_with "cell_enter" => (refine' code_def (by k_asm) (by k_asm) (by k_asm) (by k_asm) (by k_asm) (by exact rfl) (by exact rfl) (by first | exact rfl | assumption) (by k_is) (by k_is) (by ktr_room) (by first | exact BindsTo.of_eq rfl | exact binds_K (by k_in) rfl (by k_is) rfl rfl rfl) (by exact locs rfl) ?_ (by exact rfl) (by exact rfl) (by exact rfl) (by decide); k_whole; intro g'w L'w h'w FG'w F'w N'w B'w X'w T'w; (try dsimp only); (try k_lift B'w); (try k_fold)))
  (k_with "call ref" => (k_here; (with_reducible show wpAny _ _ (call (Prod.fst _) _) _ _ _); (dsimp only [List.cons_append, List.nil_append]); walk_at "call ref"))
  (k_with "call builtin:len" => (k_here; (with_reducible show wpAny _ _ (call (Value.builtin _) [Value.ref _]) _ _ _); k_dflt (refine' PyProof.Rows.len_list (by exact News.isList (by k_asm) (by assumption)) (by (rw [List.size_toArray]; omega)) ?_)))
  (k_with "subscriptTail" => (k_here; (with_reducible show wpAny _ _ (subscriptTail _ _ (Value.ref _) (Value.int _ _)) _ _ _); (with_unfolding_all refine' tok_item (by k_asm) (by exact (by assumption : KeepQ _ _ _) _ (by assumption) (by assumption)) (by omega) (by omega) (by assumption) ?_ (by with_unfolding_all rfl)); k_whole))
  (k_with "call ref" => (k_here; (with_reducible show wpAny _ _ (call (Value.ref 511) [Value.ref _, Value.int _ _]) _ _ _); k_dflt (refine' draw (by k_asm) (by k_asm) (by k_in) (by k_asm) (by k_asm) (by first | exact rfl | assumption) (by assumption) (by omega) (by omega) (by omega) (by ktr_room) (by ktr_units) ?_); intro d9w u9w tn9w cu9w led9w h9w tk9w lo9w hi9w tl9w P9w F9w N9w K9w; (rw [List.size_toArray] at hi9w); (obtain ⟨v9w, hv9w⟩ := idx_at lo9w hi9w); (try dsimp only [tkV]); (try k_fold)))
  exact True.intro
omit R in
theorem pick {pa ca la : Addr} {turn cur : Int} {zs : List Int} {vs : List Value} {n : Nat} (hP : PenAt pa ca turn cur zs led) (hV : (la, lstO vs n) ∈ led) (hv : isPen (lstO vs n) = false) (h1 : 1 ≤ vs.length) (h2 : vs.length ≤ 10) (htn : turn ≤ 1000) (hdp : dp + 2 < recursionLimit) (hun : un + 16 < cLine)
    (hret : ∀ (i : Nat) v turn' cur' led' h' tk', vs[i]? = some v → turn' ≤ turn + 1 → PenAt pa ca turn' cur' zs led' → Fr h₀ L h' m → News h₀ L h' led' → KeepQ pa led led' → Q v { s with heap := h', toks := tk' }) :
    wpAny (model P0 w) (ktrTop dp un gd cn cs L a ccd cl outer) (call (.ref 518) [.ref pa, .ref la]) Q E s := by
  have hs9 : vs.toArray.size = vs.length := List.size_toArray ..
  have hla := off_pen N hP hV hv
  refine wpAny_call ?_
  k_dflt cell_enter
  k_steps
  all_goals first | exact hret _ _ _ _ _ _ _ (by assumption) (by assumption) (by assumption) (by k_asm) (by k_asm) (by assumption)
end
end
theorem cell_bnd (z : Int) : (0 ≤ (if z < 0 then -z else z).fmod (10 ^ Int.toNat 40) + 10 ^ Int.toNat 40 * if decide (z < 0) = true then 1 else 0) ∧ ((if z < 0 then -z else z).fmod (10 ^ Int.toNat 40) + 10 ^ Int.toNat 40 * if decide (z < 0) = true then 1 else 0) < 2 * 10 ^ 40 := by
  have e : (2 : Int) * 10 ^ 40 = 2 * 10 ^ Int.toNat 40 := rfl
  have hp : (0 : Int) < 10 ^ Int.toNat 40 := Int.pow_pos (by decide)
  rw [e]
  have h1 := Int.fmod_nonneg_of_pos (if z < 0 then -z else z) hp
  have h2 := Int.fmod_lt_of_pos (if z < 0 then -z else z) hp
  generalize (if z < 0 then -z else z).fmod (10 ^ Int.toNat 40) = x at h1 h2
  generalize (10 : Int) ^ Int.toNat 40 = P at h1 h2 hp
  split <;> omega
structure SrcStopA (prog : Program) (w : World) (A : Around) (h₀ : Heap) (L : Addr) (m : PySem.Str → Option Value) (env : Env) (elt : PySem.Expr) (x : PySem.Str) (scope : Scope) (cl : List (PySem.Str × Addr)) (y : PySem.Str) (Q : Flow → Shared → Prop) (xv : Value) (s₁ : Shared) : Prop where
  h : LCg.CompSrc prog w A h₀ L m env elt x scope cl (fun s₂ => LCg.FinA h₀ L m s₂ y Q) xv s₁
theorem AsgComp_S {prog : Program} {w : World} {A : Around} {E : Value → Shared → Prop} {s : Shared} {h₀ : Heap} {L : Addr} {m : PySem.Str → Option Value} {env : Env} {elt iter : PySem.Expr} {x y : PySem.Str} {px py : Pos} {scope : Scope} {cl : List (PySem.Str × Addr)} {pos spos : Pos} {Q : Flow → Shared → Prop} (F₀ : Fr h₀ L s.heap m) (hLe : env.locals = L)
    (hsw : swapsWith (.ListComp elt [⟨.Name x px, iter, [], 0⟩] scope pos) (some (.Name y py)) spos.line env = pure true)
    (hclos : closureFor scope env = pure cl) (hcell : ∀ z ∈ scope.names, z.2 ≠ .cell) (hkind : scope.kind = .function)
    (hnames : ∀ z ∈ scope.names, z.2 = .local → scope.names.lookup z.1 = some .local) (hx : scope.names.lookup x = some .local)
    (hy : env.kindOf y = some .local) (hp : (env.scope.kind == .class || (env.scope.kind == .module && env.locals != env.globals)) = false)
    (h : wpAny (model prog w) A (eval iter env) (SrcStopA prog w A h₀ L m env elt x scope cl y Q) E s)
    (hs : ∀ x, foldedSetIterable iter env x = pure x := by intro _; rfl) :
    wpAny (model prog w) A (exec (.Assign [.Name y py] (.ListComp elt [⟨.Name x px, iter, [], 0⟩] scope pos) spos) env) Q E s :=
  LCg.Assign_ListComp_U F₀ hLe hsw hclos hcell hkind hnames hx hy hp (wpAny_mono h (fun _ _ q => q.h) fun _ _ e => e) hs
section
section
variable {w : World} {mean : ExcName → Option Value} {pq : Program} {lq : List PySem.Str} {mg mb : PySem.Str → Option Value} {dp un : Nat} {gd : Option (List Code)} {cn : PySem.Str} {cs : Scope} {a : Addr} {ccd : Value} {cl : List (PySem.Str × Addr)} {outer : List Env} {A₀ : Around} {base h₀ : Heap} {L : Addr} {m : PySem.Str → Option Value} {s : Shared}
  {Q E : Value → Shared → Prop} {led : List (Addr × Obj)} {r : RdI} {p : Int} {tp : Tok}
  (B : Below A₀ base outer h₀) (F : Fr h₀ L s.heap m) (X : (hd0.heap_1 w.params).In h₀) (N : News h₀ L s.heap led) (T : Top pq lq mean mg mb h₀) (hk : cs.kind = .function) (R : Rdr w r p tp led)
include B F X N T hk R
theorem word41_3 : True := by
  k_with_none
  (k_with "ktr_room" => first | exact lt_room (k := 1) hdp rfl rfl | exact lt_room (k := 0) hdp rfl rfl | exact lt_room0 (k := 1) hdp rfl rfl | exact lt_room0 (k := 0) hdp rfl rfl | fail "ktr_room")
  (k_with "ktr_units" => first | exact lt_room (k := 3) hun rfl rfl | exact lt_room (k := 0) hun rfl rfl | exact lt_room0 (k := 3) hun rfl rfl | exact lt_room0 (k := 0) hun rfl rfl | fail "ktr_units")
  (k_with "k_mem" => first | assumption | exact List.Mem.head _ | exact List.Mem.tail _ (List.Mem.head _))
  (k_with "cell_enter" => (refine' code_def (by k_asm) (by k_asm) (by k_asm) (by k_asm) (by k_asm) (by exact rfl) (by exact rfl) (by first | exact rfl | assumption) (by k_is) (by k_is) (by ktr_room) (by first | exact BindsTo.of_eq rfl | exact binds_K (by k_in) rfl (by k_is) rfl rfl rfl) (by exact locs rfl) ?_ (by exact rfl) (by exact rfl) (by exact rfl) (by decide); k_whole; intro g'w L'w h'w FG'w F'w N'w B'w X'w T'w; (try dsimp only); (try k_lift B'w); (try k_fold)))
  (k_with "call ref" => (k_here; (with_reducible show wpAny _ _ (call (Prod.fst _) _) _ _ _); (dsimp only [List.cons_append, List.nil_append]); walk_at "call ref"))
  (k_with "exec Assign cons ListComp" => (k_here; k_dflt (refine AsgComp_S (F₀ := by k_asm) rfl (by with_unfolding_all rfl) (by with_unfolding_all rfl) (by decide) (by rfl) (by decide) (by rfl) (by rfl) (by rfl) ?_)))
  exact True.intro
omit R in
theorem pen_spec {sa : Addr} {vs : List Value} {zs : List Int} (hS : h₀.IsList sa vs.toArray) (hi : IntsAre vs zs) (hz : zs.length ≤ 63) (hdp : dp + 2 < recursionLimit) (hun : un + 16 < cLine)
    (hret : ∀ pa ca cs led' h' tk', PenAt pa ca 0 0 cs led' → Fr h₀ L h' m → News h₀ L h' led' → (∀ q ∈ led, q ∈ led') → (∀ q ∈ led, q.1 ≠ pa) → Q (.ref pa) { s with heap := h', toks := tk' }) :
    wpAny (model P0 w) (ktrTop dp un gd cn cs L a ccd cl outer) (call (.ref 504) [.ref sa]) Q E s := by
  refine wpAny_call ?_
  k_dflt cell_enter
  have B'w := True.intro; have F'w := True.intro; have F9w := True.intro; have FG'w := True.intro; have K9w := True.intro; have L'w := True.intro; have N'w := True.intro; have N9w := True.intro; have P9w := True.intro; have T'w := True.intro; have X'w := True.intro; have cu9w := True.intro; have d9w := True.intro; have g'w := True.intro; have h'w := True.intro; have h9w := True.intro; have hi9w := True.intro; have hv9w := True.intro; have led9w := True.intro; have lo9w := True.intro; have tk9w := True.intro; have tl9w := True.intro; have tn9w := True.intro; have u9w := True.intro; have v9w := True.intro
  rename_i g' L' h' FG' F' N' B' X' T'
  clear B'w F'w F9w FG'w K9w L'w N'w N9w P9w T'w X'w cu9w d9w g'w h'w h9w hi9w hv9w led9w lo9w tk9w tl9w tn9w u9w v9w
  have hS' := Fr.lst FG' hS
  k_steps
  have B'w := True.intro; have F'w := True.intro; have F9w := True.intro; have FG'w := True.intro; have K9w := True.intro; have L'w := True.intro; have N'w := True.intro; have N9w := True.intro; have P9w := True.intro; have T'w := True.intro; have X'w := True.intro; have cu9w := True.intro; have d9w := True.intro; have g'w := True.intro; have h'w := True.intro; have h9w := True.intro; have hi9w := True.intro; have hv9w := True.intro; have led9w := True.intro; have lo9w := True.intro; have tk9w := True.intro; have tl9w := True.intro; have tn9w := True.intro; have u9w := True.intro; have v9w := True.intro
  rename_i D9 ws9 h9 F9 N9 l9 hI9 hC9 hL9
  clear B'w F'w F9w FG'w K9w L'w N'w N9w P9w T'w X'w cu9w d9w g'w h'w h9w hi9w hv9w led9w lo9w tk9w tl9w tn9w u9w v9w
  have hl9 := hI9.length
  have hz9 : ws9.length ≤ 30 := by rw [hl9, List.length_take]; exact Nat.min_le_left _ _
  refine ⟨LCg.CompSrc.ledger (by rfl) (by k_asm) (by k_asm) (List.Mem.head _) (by rw [List.size_toArray]; exact Nat.le_trans hz9 (by decide)) ?_⟩
  intro g9
  refine rest_L (J := fun i ys news => (∀ q ∈ (D9, listOf ws9.toArray 0) :: led, q ∈ news) ∧ ∃ cs, IntsAre ys cs ∧ cs.length = i ∧ ∀ c ∈ cs, 0 ≤ c ∧ c < 2 * 10 ^ 40) ⟨fun _ h => h, [], .nil, rfl, by simp⟩ ?_ ?_
  · intro i v ys news I oI C oC D m₂ h tk E' hv hj hC hx F N off ne
    obtain ⟨hj1, cs, hj2, hj3, hj4⟩ := hj
    obtain ⟨z, u, rfl, hz⟩ := IntsAre.at hI9 i v (by simpa using hv)
    k_steps
    refine LCg.CompEnd.intro F N news (fun _ h => h) off (.inr ⟨_, hj1 _ (List.Mem.head _), rfl, _, rfl⟩) ⟨hj1, _, ints_snoc hj2, by rw [List.length_append, hj3]; rfl, fun c hc => ?_⟩
    rcases List.mem_append.mp hc with hc | hc
    · exact hj4 c hc
    · rw [List.mem_singleton.mp hc]
      clear hc
      exact cell_bnd z
  · intro ys news hj
    obtain ⟨hj1, cs, hj2, hj3, hj4⟩ := hj
    unfold LCg.FinA
    intro D h tk F N o1
    k_steps
    rw [List.size_toArray] at hj3
    have hlen : cs.length ≤ 30 := by omega
    refine' hret _ _ cs _ _ _ ?P ?F ?N ?q ?nf
    case F => k_asm
    case N => k_asm
    case P =>
      refine' pen_mk (List.Mem.head _) (.tail _ (List.Mem.head _)) hj2 ?ne hj4 hlen (Int.le_refl _) (Int.le_refl _)
      case ne => exact Nat.ne_of_lt (by assumption : D < _ ∧ _).1
    case q => exact fun q hq => .tail _ (.tail _ (hj1 q (.tail _ hq)))
    case nf => exact fun q hq => Nat.ne_of_lt (first_lt (by assumption : D < _ ∧ AllLt _ news).2 _ (hj1 q (.tail _ hq)))
end
end
end
section
open PySem PySem.W PySem.Spec PySem.Calls PyProof.Rows PySem.Builtin
theorem noFill_tuple_mul : fillsNumberSlot (.type "tuple") "mul" = pure false :=
  PySem.fillsNumberSlot_seq (id := "tuple.__mul__") (r := some (.builtin "tuple.__rmul__")) F.slot_tuple_mul.lookup (by decide +kernel) F.slot_tuple_rmul.lookup (by decide +kernel)
theorem repeat_tuple : seqRepeat? (.type "tuple") = pure (some (.builtin "tuple.__mul__")) := by
  unfold seqRepeat?
  rw [PySem.seqSlot_of (T := "tuple") (name := "__mul__") (id := "tuple.__mul__") F.slot_tuple_mul.lookup (by decide +kernel), PySem.seqSlot_of (T := "tuple") (name := "__rmul__") (id := "tuple.__rmul__") F.slot_tuple_rmul.lookup (by decide +kernel)]
  rfl
theorem int_rmul_tuple (a : Int) (t : Tok) (l : Addr) (items : Array Value) (n : Nat) (d : Option Addr) (sl : Array (Option Value)) :
    Meets (Builtin.«int.__rmul__» ⟨[.int a t, .ref l], []⟩) (fun _ R s => s.heap.get? l = some { cls := .type "tuple", dict := d, data := .seq items n, slots := sl } ∧ R (.ok (.ret Value.notImplemented)) s) :=
  .of_wp fun prog w A R s h => by obtain ⟨hp, g, d, tk, os⟩ := s; obtain ⟨hl, h⟩ := h; wp_walk; exact ⟨_, rfl, h⟩
theorem tuple_mul2 (l : Addr) (v : Value) (n : Nat) (d : Option Addr) (sl : Array (Option Value)) (u : Tok) :
    Meets (Builtin.«tuple.__mul__» ⟨[.ref l, .int 2 u], []⟩) (fun _ R s => s.heap.get? l = some { cls := .type "tuple", dict := d, data := .seq #[v] n, slots := sl } ∧ R (.ok (.ret (Value.ref s.heap.objs.size))) { s with heap := s.heap.push { cls := Value.type "tuple", data := Data.seq #[v, v] }, toks := s.toks }) :=
  .of_wp fun prog w A R s h => by
    obtain ⟨hp, g, d, tk, os⟩ := s; obtain ⟨hl, h⟩ := h
    wp_walk
    exact ⟨_, rfl, h⟩
theorem tup_twice {prog : Program} {w : World} {A : Around} {E : Value → Shared → Prop} {s : Shared} {h₀ : Heap} {L : Addr} {m : PySem.Str → Option Value} {news : List (Addr × Obj)} {l : Addr} {v : Value} {n : Nat} {u : Tok} {Q : Value → Shared → Prop} (Fm : Fr h₀ L s.heap m) (N : News h₀ L s.heap news) (hl : (l, ({ cls := .type "tuple", data := .seq #[v] n } : Obj)) ∈ news)
    (h : ∀ D h', Fr h₀ L h' m → News h₀ L h' ((D, ({ cls := .type "tuple", data := .seq #[v, v] 0 } : Obj)) :: news) → (∀ p ∈ news, p.1 < D) → Q (.ref D) { s with heap := h' }) : wpAny (model prog w) A (binaryOp .Mult (.ref l) (.int 2 u)) Q E s := by
  have ho := (N _ hl).1
  refine wpAny_binaryOp_repeat_ref (T := "tuple") (U := "int") (by decide) ⟨_, ho, rfl⟩ (fun s' => typeIs_int s' 2 u) noFill_tuple_mul F.fills_int_mul F.slot_int_rmul repeat_tuple F.slot_int_index.lookup
    (call_meets F.slot_int_rmul (typeIs_int s 2 u) F.entry_int_rmul (F.args_int_rmul_2 _ _) (int_rmul_tuple 2 u l _ n _ _)
      ⟨ho, rfl, ⟨_, ho, rfl⟩, call_meets F.slot_tuple_mul ⟨_, ho, rfl⟩ F.entry_tuple_mul (F.args_tuple_mul_2 _ _)
        (tuple_mul2 l v n _ _ u)
        ⟨ho, ?_⟩⟩)
  exact h _ _ (Fm.push _) (News.push Fm N _) (fun p hp => Heap.lt_size (N p hp).1)
end
section
open PySem PySem.W PySem.Spec PySem.Calls PyProof.Rows
theorem ex4 {α β γ δ : Sort _} {p : α → β → γ → δ → Prop} {G : Prop} (h : ∃ a b c d, p a b c d) (k : ∀ a b c d, p a b c d → G) : G := let ⟨a, b, c, d, q⟩ := h; k a b c d q
theorem an3 {a b c G : Prop} (h : a ∧ b ∧ c) (k : a → b → c → G) : G := k h.1 h.2.1 h.2.2
theorem an4 {a b c d G : Prop} (h : a ∧ b ∧ c ∧ d) (k : a → b → c → d → G) : G := k h.1 h.2.1 h.2.2.1 h.2.2.2
theorem an5 {a b c d e G : Prop} (h : a ∧ b ∧ c ∧ d ∧ e) (k : a → b → c → d → e → G) : G := k h.1 h.2.1 h.2.2.1 h.2.2.2.1 h.2.2.2.2
theorem St.m {w : World} {κ : Addr × Obj → Prop} {f : Fn} {C : Cx w κ f} {lv : List (PySem.Str × AV)} {I : List (Addr × Obj) → Prop} {led : List (Addr × Obj)} {s : Shared} {G : Prop} (h : St C lv I led s) (k : ∀ m, Fr C.h₀ C.L s.heap m → (∀ q ∈ lv, ∃ v, m q.1 = some v ∧ q.2.On κ led v) → G) : G := let ⟨m, a, b⟩ := h.F; k m a b
theorem VV.lstE {led : List (Addr × Obj)} {v : Value} {Vs : List Vt} {G : Prop} (h : VV led v (.lst Vs)) (k : ∀ ax vs n, v = .ref ax → (ax, lstO vs n) ∈ led → VVs led vs Vs → G) : G := by
  cases h with
  | lst m1 q1 => exact k _ _ _ rfl m1 q1
-- what is asked of an invariant of the ledger: S has the addresses that it speaks of
structure GI (κ : Addr × Obj → Prop) (S : Addr → Prop) (I : List (Addr × Obj) → Prop) : Prop where
  mono : ∀ a b, I a → (∀ q ∈ a, q ∈ b) → I b
  frs : ∀ led a o, I led → (∀ q ∈ led, q.1 ≠ a) → isDict o = false → κ (a, o)
  off : ∀ D led led', ¬ S D → I led → (∀ q ∈ led, q.1 = D → ¬ LT q.2) → (∀ q ∈ led, q.1 ≠ D → q ∈ led') → I led'
  sin : ∀ led a, I led → S a → ∃ o, (a, o) ∈ led
theorem GI.m {κ S I} (G : GI κ S I) : MonoI I := fun h k => G.mono _ _ h k
theorem GI.ns {κ S I} (G : GI κ S I) {led : List (Addr × Obj)} {D : Addr} (h : I led) (l : ∀ q ∈ led, q.1 < D) : ¬ S D := fun q => let ⟨o, ho⟩ := G.sin _ _ h q; Nat.lt_irrefl _ (l _ ho)
noncomputable def toVts : List AV → Option (List Vt)
  | [] => some []
  | a :: as => a.toVt.bind fun V => (toVts as).map (V :: ·)
theorem toVts_on {κ : Addr × Obj → Prop} (hκ : ∀ b o, isTL o → κ (b, o)) {led : List (Addr × Obj)} : ∀ {as : List AV} {Vs : List Vt} {vs : List Value}, toVts as = some Vs → OnAll κ led vs as → VVs (fl κ led) vs Vs
  | [], Vs, [], h, _ => by cases h; exact .nil
  | [], _, _ :: _, _, o => o.elim
  | _ :: _, _, [], _, o => o.elim
  | a :: as, Vs, v :: vs, h, ⟨o, r⟩ => by
    obtain ⟨V, h1, h2⟩ := Option.bind_eq_some_iff.mp h
    obtain ⟨Ws, h3, h4⟩ := Option.map_eq_some_iff.mp h2
    subst h4
    exact .cons (toVt_on hκ h1 o) (toVts_on hκ h3 r)
def Vt.av : Vt → AV
  | .dt (.int k) => .int k
  | .dt (.str x) => .str x
  | .dt .none => .val .none
  | .dt d => .dt d
  | V => .vt V
theorem dv_fl {κ : Addr × Obj → Prop} {led : List (Addr × Obj)} {v : Value} {d : Dt} (h : DV (fl κ led) v d) : DV led v d := h.keeps (keeps_sub fun q hq => (mem_fl.mp hq).1)
theorem Vt.av_on {κ : Addr × Obj → Prop} {led : List (Addr × Obj)} {v : Value} : ∀ {V : Vt}, VV (fl κ led) v V → V.av.On κ led v
  | .dt .none, h => by cases h with | dt h => cases h; rfl
  | .dt (.int k), h => by cases h with | dt h => cases h; exact ⟨_, rfl⟩
  | .dt (.str x), h => by cases h with | dt h => cases h; exact ⟨_, rfl⟩
  | .dt (.bytes b), h => by cases h with | dt h => exact dv_fl h
  | .dt (.tup l), h => by cases h with | dt h => exact dv_fl h
  | .lst l, h => h
  | .tup l, h => h
theorem VVs.app {led : List (Addr × Obj)} {vs us : List Value} {as bs : List Vt} (h : VVs led vs as) (k : VVs led us bs) : VVs led (vs ++ us) (as ++ bs) := h.ind (M := fun vs ds => VVs led (vs ++ us) (ds ++ bs)) k fun _ _ _ _ a _ r => .cons a r
def AvOk (V : Vt) (a : AV) : Prop := ∀ (κ : Addr × Obj → Prop) (led : List (Addr × Obj)) (v : Value), VV (fl κ led) v V → a.On κ led v
theorem AvOk.av {V : Vt} : AvOk V V.av := fun _ _ _ h => Vt.av_on h
theorem AvOk.vt {V : Vt} : AvOk V (.vt V) := fun _ _ _ h => h
theorem AvOk.dt {d : Dt} : AvOk (.dt d) (.dt d) := fun _ _ _ h => by cases h with | dt h => exact dv_fl h
theorem AvOk.int {x : Int} : AvOk (.dt (.int x)) (.int x) := AvOk.av
theorem VVs.at {led : List (Addr × Obj)} {vs : List Value} {ds : List Vt} {i : Nat} {V : Vt} (h : VVs led vs ds) (e : ds[i]? = some V) : ∃ v, vs[i]? = some v ∧ VV led v V :=
  h.ind (M := fun vs ds => ∀ i, ds[i]? = some V → ∃ v, vs[i]? = some v ∧ VV led v V) (fun _ e => by rw [List.getElem?_nil] at e; cases e) (fun u vs d ds a _ r i => Nat.casesOn i (fun e => ⟨u, rfl, Option.some.inj e ▸ a⟩) fun i e => r i e) i e
theorem VVs.set {led : List (Addr × Obj)} {vs : List Value} {ds : List Vt} {i : Nat} {v : Value} {V : Vt} (h : VVs led vs ds) (k : VV led v V) : VVs led (vs.set i v) (ds.set i V) :=
  h.ind (M := fun vs ds => ∀ i, VVs led (vs.set i v) (ds.set i V)) (fun _ => .nil) (fun u vs d ds a b r i => Nat.casesOn i (.cons k b) fun i => .cons a (r i)) i
theorem ki_at : ∀ {l : List Value} {k : Nat} {v : Value}, k < l.length → ki_setL l k v = some (l.set k v)
  | [], _, _, h => by simp at h
  | x :: l, 0, v, h => rfl
  | x :: l, k + 1, v, h => by
    have := ki_at (l := l) (k := k) (v := v) (by simpa using h)
    simp [ki_setL, this]
theorem VVs.kr {κ : Addr × Obj → Prop} {a b : List (Addr × Obj)} {vs : List Value} {Vs : List Vt} (h : VVs (fl κ a) vs Vs) (k : Kr κ a b) : VVs (fl κ b) vs Vs := h.sub (Kr.fl k)
theorem VV.kr {κ : Addr × Obj → Prop} {a b : List (Addr × Obj)} {v : Value} {V : Vt} (h : VV (fl κ a) v V) (k : Kr κ a b) : VV (fl κ b) v V := h.sub (Kr.fl k)
section
variable {w : World} {κ : Addr × Obj → Prop} {f : Fn} {C : Cx w κ f} {lv lv' lv1 lv2 : List (PySem.Str × AV)} {I I1 I2 I' : List (Addr × Obj) → Prop} {led led1 : List (Addr × Obj)} {s : Shared} {S : Addr → Prop}
theorem Ev.cbytes {x : List UInt8} {n : Nat} {pos : Pos} : Ev C lv I (.Constant (.bytes x) n pos) (.dt (.bytes x.toArray)) I := ⟨fun led s hs => Constant_bytes (Po.same hs.tok (.bytes _ _))⟩
-- a state with one object more, of which nothing is said yet
structure StF (C : Cx w κ f) (lv : List (PySem.Str × AV)) (I : List (Addr × Obj) → Prop) (led : List (Addr × Obj)) (x : Addr × Obj) (s : Shared) : Prop where
  same : Same C.g s
  N : News C.h₀ C.L s.heap (x :: led)
  F : ∃ m, Fr C.h₀ C.L s.heap m ∧ ∀ q ∈ lv, ∃ v, m q.1 = some v ∧ q.2.On κ led v
  I : I led
  lt : ∀ q ∈ led, q.1 < x.1
theorem StF.m {x : Addr × Obj} {G : Prop} (h : StF C lv I led x s) (k : ∀ m, Fr C.h₀ C.L s.heap m → (∀ q ∈ lv, ∃ v, m q.1 = some v ∧ q.2.On κ led v) → G) : G := let ⟨m, a, b⟩ := h.F; k m a b
theorem StF.st {x : Addr × Obj} (h : StF C lv I led x s) (hM : MonoI I) : St C lv I (x :: led) s := ⟨h.same, h.N, let ⟨m, F, h1⟩ := h.F; ⟨m, F, fun q hq => let ⟨v, e, o⟩ := h1 q hq; ⟨v, e, o.cons⟩⟩, hM h.I fun _ hq => .tail _ hq⟩
theorem StF.fresh {a : Addr} {o : Obj} (h : StF C lv I led (a, o) s) (G : GI κ S I) (hd : isDict o = false) : κ (a, o) := G.frs _ _ _ h.I (fun q hq => Nat.ne_of_lt (h.lt q hq)) hd
structure EvO (C : Cx w κ f) (lv : List (PySem.Str × AV)) (I : List (Addr × Obj) → Prop) (e : PySem.Expr) (Vs : List Vt) (I' : List (Addr × Obj) → Prop) : Prop where
  h : ∀ led s, St C lv I led s → wpAny (model P0 w) C.A (eval e C.env) (fun v s' => ∃ a vs n led1, v = .ref a ∧ Kr κ led led1 ∧ StF C lv I' led1 (a, lstO vs n) s' ∧ VVs (fl κ led1) vs Vs) NoE s
theorem Ev.ofO {e : PySem.Expr} {Vs : List Vt} (h : EvO C lv I e Vs I') (G : GI κ S I') : Ev C lv I e (.vt (.lst Vs)) I' := ⟨fun led s hs => wpAny_mono (h.h led s hs) (fun v s' ⟨a, vs, n, led1, e, k, hF, hv⟩ => by
  subst e
  exact ⟨_, k.trans Kr.cons, hF.st G.m, .lst (mem_fl.mpr ⟨.head _, hF.fresh G rfl⟩) (hv.kr Kr.cons)⟩) fun _ _ e => e⟩
theorem EvO.disp {es : List PySem.Expr} {pos : Pos} {as : List AV} {Vs : List Vt} (h : Evs C lv I es as I') (hv : toVts as = some Vs) (hz : Nat.ble as.length 1000 = true) : EvO C lv I (.List es pos) Vs I' := ⟨fun led s hs =>
  List_ ((h.h pos).to hs fun vs s1 led1 k1 hs1 o1 => by
    obtain ⟨m, F, hl⟩ := hs1.F
    have h3 := Nat.le_of_ble_eq_true hz
    refine newList_K F hs1.N (fun D h' F' N' l' => ⟨D, vs, 0, led1, rfl, k1, ⟨hs1.same, N', ⟨m, F', hl⟩, hs1.I, l'⟩, toVts_on C.hκ hv o1⟩) ?_
    rw [onAll_len o1]
    exact Nat.le_trans h3 (by decide))⟩
theorem EvO.add {l r : PySem.Expr} {pos : Pos} {As Bs : List Vt} (h1 : Ev C lv I l (.vt (.lst As)) I1) (h2 : Ev C lv I1 r (.vt (.lst Bs)) I2) (hz : As.length + Bs.length ≤ 16000) : EvO C lv I (.BinOp l .Add r pos) (As ++ Bs) I2 := ⟨fun led s hs =>
  wpAny_BinOp (h1.to hs fun v s1 led1 k1 hs1 o1 => h2.to hs1 fun u s2 led2 k2 hs2 o2 => by
    have o1' : VV (fl κ led2) v (.lst As) := VV.kr o1 k2
    have o2' : VV (fl κ led2) u (.lst Bs) := o2
    cases o1' with
    | lst m1 q1 =>
      cases o2' with
      | lst m2 q2 =>
        rename_i a vs n b us k
        obtain ⟨m, F, hl⟩ := hs2.F
        refine kmk_add_lit (zs := vs ++ us) F hs2.N (News.isList hs2.N (mem_fl.mp m1).1) (News.isList hs2.N (mem_fl.mp m2).1) (by simp) (fun D h' F' N' l' => ⟨D, vs ++ us, 0, led2, rfl, k1.trans k2, ⟨hs2.same, N', ⟨m, F', hl⟩, hs2.I, l'⟩, ?_⟩) ?_
        · exact VVs.app q1 q2
        · simp only [List.toList_toArray, q1.len, q2.len]
          exact Nat.le_trans hz (by decide))⟩
end
section
variable {w : World} {κ : Addr × Obj → Prop} {f : Fn} {C : Cx w κ f} {lv lv' lv1 lv2 : List (PySem.Str × AV)} {I I1 I2 I' : List (Addr × Obj) → Prop} {led led1 : List (Addr × Obj)} {s : Shared} {S : Addr → Prop}
theorem Ev.list {es : List PySem.Expr} {pos : Pos} {as : List AV} {Vs : List Vt} (h : Evs C lv I es as I') (hv : toVts as = some Vs) (hz : Nat.ble as.length 1000 = true) (G : GI κ S I') : Ev C lv I (.List es pos) (.vt (.lst Vs)) I' := .ofO (.disp h hv hz) G
theorem Ev.addL {l r : PySem.Expr} {pos : Pos} {As Bs : List Vt} (h1 : Ev C lv I l (.vt (.lst As)) I1) (h2 : Ev C lv I1 r (.vt (.lst Bs)) I2) (hz : As.length + Bs.length ≤ 16000) (G : GI κ S I2) : Ev C lv I (.BinOp l .Add r pos) (.vt (.lst (As ++ Bs))) I2 := .ofO (.add h1 h2 hz) G
theorem Ev.tupV {es : List PySem.Expr} {k : Nat} {pos : Pos} {as : List AV} {Vs : List Vt} (h : Evs C lv I es as I') (hv : toVts as = some Vs) (hz : Nat.ble as.length 1000 = true) (G : GI κ S I') : Ev C lv I (.Tuple es k pos) (.vt (.tup Vs)) I' := ⟨fun led s hs =>
  Tuple_ ((h.h pos).to hs fun vs s1 led1 k1 hs1 o1 => by
    obtain ⟨m, F, hl⟩ := hs1.F
    have h3 := Nat.le_of_ble_eq_true hz
    refine kup_newTuple F hs1.N (fun D h' F' N' l' => ?_) ?_
    · have hF : StF C lv I' led1 _ { s1 with heap := h' } := ⟨hs1.same, N', ⟨m, F', hl⟩, hs1.I, l'⟩
      exact ⟨_, k1.trans Kr.cons, hF.st G.m, .tup (mem_fl.mpr ⟨.head _, hF.fresh G rfl⟩) ((toVts_on C.hκ hv o1).kr Kr.cons)⟩
    · rw [onAll_len o1]
      exact Nat.le_trans h3 (by decide))⟩
theorem Ev.addT {l r : PySem.Expr} {pos : Pos} {a b : List Dt} (h1 : Ev C lv I l (.dt (.tup a)) I1) (h2 : Ev C lv I1 r (.dt (.tup b)) I2) (hz : a.length + b.length ≤ 16000) (G : GI κ S I2) : Ev C lv I (.BinOp l .Add r pos) (.dt (.tup (a ++ b))) I2 := ⟨fun led s hs =>
  wpAny_BinOp (h1.to hs fun v s1 led1 k1 hs1 o1 => h2.to hs1 fun u s2 led2 k2 hs2 o2 => by
    have o1' : DV led2 v (.tup a) := o1.kr C k2
    have o2' : DV led2 u (.tup b) := o2
    cases o1' with
    | tup m1 q1 =>
      cases o2' with
      | tup m2 q2 =>
        rename_i x vs n y us k
        obtain ⟨m, F, hl⟩ := hs2.F
        have e1 := q1.len
        have e2 := q2.len
        have t1 := News.isTup hs2.N m1
        have t2 := News.isTup hs2.N m2
        have hzz : vs.toArray.toList.length + us.toArray.toList.length ≤ 16384 := by simp only [e1, e2]; omega
        by_cases hv : vs = []
        · subst hv
          cases q1
          exact kde_addT0 F hs2.N t1 t2 rfl hzz ⟨led2, k1.trans k2, hs2, .tup m2 q2⟩
        · by_cases hu : us = []
          · subst hu
            cases q2
            rw [List.append_nil]
            exact kde_addT1 F hs2.N t1 t2 (by simpa using hv) rfl hzz ⟨led2, k1.trans k2, hs2, .tup m1 q1⟩
          · refine kde_addT (zs := vs ++ us) F hs2.N t1 t2 (by simpa using hv) (by simpa using hu) hzz (by simp) fun D h' F' N' l' => ?_
            have hF : StF C lv I2 led2 _ { s2 with heap := h' } := ⟨hs2.same, N', ⟨m, F', hl⟩, hs2.I, l'⟩
            exact ⟨_, (k1.trans k2).trans Kr.cons, hF.st G.m, .tup (.head _) (q1.app q2).cons1⟩)⟩
theorem Ev.mul2 {l : PySem.Expr} {pos : Pos} {n : Nat} {p2 : Pos} {d : Dt} (h1 : Ev C lv I l (.dt (.tup [d])) I1) (G : GI κ S I1) : Ev C lv I (.BinOp l .Mult (.Constant (.int 2) n p2) pos) (.dt (.tup [d, d])) I1 := ⟨fun led s hs =>
  wpAny_BinOp (h1.to hs fun v s1 led1 k1 hs1 o1 => wpAny_Constant_int (by
    have o1' : DV led1 v (.tup [d]) := o1
    cases o1' with
    | tup m1 q1 =>
      cases q1 with
      | cons a1 a2 =>
        cases a2
        obtain ⟨m, F, hl⟩ := hs1.F
        refine tup_twice F hs1.N m1 fun D h' F' N' l' => ?_
        have hF : StF C lv I1 led1 _ { s1 with heap := h', toks := s1.toks + 1 } := ⟨hs1.same, N', ⟨m, F', hl⟩, hs1.I, l'⟩
        exact ⟨_, k1.trans Kr.cons, hF.st G.m, .tup (vs := [_, _]) (.head _) (.cons a1.cons (.cons a1.cons .nil))⟩))⟩
theorem dts_eq {A : Around} {h₀ : Heap} {L : Addr} {v u : Value} {l : List Dt} (N : News h₀ L s.heap led) (h1 : DV led v (.tup l)) (h2 : DV led u (.tup l)) (hu : A.units + 1 + Dt.depths l < cLine) : ∃ a b vs us, v = .ref a ∧ u = .ref b ∧ IsTup s.heap a (List.toArray vs) ∧ IsTup s.heap b (List.toArray us) ∧ (∀ j (h1 : j < vs.toArray.size) (h2 : j < us.toArray.size), PySem.SeqAt.EqAt A.in1 s vs.toArray[j] us.toArray[j] true) ∧ vs.length = us.length := by
  cases h1 with
  | tup m1 q1 =>
    cases h2 with
    | tup m2 q2 =>
      have q := dvs_eq N l (A := A.in1) q1 q2 (by show A.units + 1 + _ < _; omega)
      exact ⟨_, _, _, _, rfl, rfl, News.isTup N m1, News.isTup N m2, fun j h1 h2 => q.2 j _ _ (by simp at h1 ⊢) (by simp at h2 ⊢), q.1⟩
theorem Opn.eqDt {l : List Dt} (hu : C.A.units + 1 + Dt.depths l < cLine) : Opn C .Eq (.dt (.tup l)) (.dt (.tup l)) true := ⟨fun lv I led s v u hs o1 o2 => by
  obtain ⟨a, b, vs, us, e1, e2, t1, t2, h, hl⟩ := dts_eq hs.N o1 o2 hu
  subst e1; subst e2
  refine PySem.SeqAt.eq_tupleAt (e := fun _ => true) t1 t2 (by omega) h (Po.same hs ?_)
  simp [hl]⟩
theorem Opn.neDt {l : List Dt} (hu : C.A.units + 1 + Dt.depths l < cLine) : Opn C .NotEq (.dt (.tup l)) (.dt (.tup l)) false := ⟨fun lv I led s v u hs o1 o2 => by
  obtain ⟨a, b, vs, us, e1, e2, t1, t2, h, hl⟩ := dts_eq hs.N o1 o2 hu
  subst e1; subst e2
  refine PySem.SeqAt.RcNeAt.tuples (e := fun _ => true) t1 t2 (by omega) h _ _ _ _ (Po.same hs ?_)
  simp [hl]⟩
theorem Opn.neNil {V : Vt} {Vs : List Vt} (hu : C.A.units < cLine) : Opn C .NotEq (.vt (.lst (V :: Vs))) (.vt (.lst [])) true := ⟨fun lv I led s v u hs o1 o2 => by
  have o1' : VV (fl κ led) v (.lst (V :: Vs)) := o1
  have o2' : VV (fl κ led) u (.lst []) := o2
  cases o1' with
  | lst m1 q1 =>
    cases o2' with
    | lst m2 q2 =>
      cases q2
      cases q1
      exact PySem.SeqAt.RcNeAt.lists_lengths (News.isList hs.N (mem_fl.mp m1).1) (News.isList hs.N (mem_fl.mp m2).1) (by simp) hu _ _ _ _ (Po.same hs rfl)⟩
theorem Opn.neNilF (hu : C.A.units < cLine) : Opn C .NotEq (.vt (.lst [])) (.vt (.lst [])) false := ⟨fun lv I led s v u hs o1 o2 => by
  have o1' : VV (fl κ led) v (.lst []) := o1
  have o2' : VV (fl κ led) u (.lst []) := o2
  cases o1' with
  | lst m1 q1 =>
    cases o2' with
    | lst m2 q2 =>
      cases q2
      cases q1
      exact PySem.SeqAt.RcNeAt.lists (e := fun _ => true) (News.isList hs.N (mem_fl.mp m1).1) (News.isList hs.N (mem_fl.mp m2).1) rfl hu (fun j h1 => by simp at h1) _ _ _ _ (Po.same hs rfl)⟩
theorem Opn.geInt {x y : Int} : Opn C .GtE (.int x) (.int y) (decide (y ≤ x)) := ⟨fun lv I led s v u hs ⟨t, e⟩ ⟨t', e'⟩ => by subst e; subst e'; exact PyProof.Rows.ge_int (Po.same hs rfl)⟩
theorem TypC.intB {b : Bool} : TypC C I "int" [.val (.bool b)] (.int (if b then 1 else 0)) := ⟨fun lv vs led s hs o => by
  refine o.l1 fun v e9 e => ?_
  subst e9
  have e' : v = .bool b := e
  subst e'
  exact call_int_bool (Po.same hs.tok ⟨_, rfl⟩)⟩
theorem TypC.tupL {ds : List Dt} (G : GI κ S I) (hz : ds.length ≤ 16000) : TypC C I "tuple" [.vt (.lst (ds.map Vt.dt))] (.dt (.tup ds)) := ⟨fun lv vs led s hs o => by
  refine o.l1 fun v e9 e => ?_
  subst e9
  have e' : VV (fl κ led) v (.lst (ds.map Vt.dt)) := e
  cases e' with
  | lst m1 q1 =>
    obtain ⟨m, F, hl⟩ := hs.F
    have hd := (dts_of q1).keeps (keeps_sub fun q hq => (mem_fl.mp hq).1)
    have hlen := q1.len
    rw [List.length_map] at hlen
    refine kde_tupleOf F hs.N (News.isList hs.N (mem_fl.mp m1).1) (by rw [List.size_toArray, hlen]; omega) rfl fun D h' F' N' l' => ?_
    have hF : StF C lv I led _ { s with heap := h' } := ⟨hs.same, N', ⟨m, F', hl⟩, hs.I, l'⟩
    exact ⟨_, Kr.cons, hF.st G.m, .tup (.head _) (by simpa using hd.cons1)⟩⟩
theorem BltC.lenV {Vs : List Vt} {n : Int} (hn : (Vs.length : Int) = n) (hz : Vs.length ≤ 16000) : BltC C I "len" [.vt (.lst Vs)] (.int n) := ⟨fun lv vs led s hs o => by
  refine o.l1 fun v e9 e => ?_
  subst e9
  have e' : VV (fl κ led) v (.lst Vs) := e
  cases e' with
  | lst m1 q1 =>
    have hlen := q1.len
    refine kun_lenL (k := n) (News.isList hs.N (mem_fl.mp m1).1) (by rw [List.size_toArray, hlen]; exact hn) (by omega) ?_
    exact Po.same hs.tok ⟨_, rfl⟩⟩
-- values of which only a property is known
structure EvX (C : Cx w κ f) (lv : List (PySem.Str × AV)) (I : List (Addr × Obj) → Prop) (e : PySem.Expr) (P : Vt → Prop) (I' : List (Addr × Obj) → Prop) : Prop where
  h : Tr C lv I (eval e C.env) lv I' fun led v => ∃ V, P V ∧ VV (fl κ led) v V
theorem EvX.of {e : PySem.Expr} {a : AV} {V : Vt} {P : Vt → Prop} (h : Ev C lv I e a I1) (hv : a.toVt = some V) (hp : P V) : EvX C lv I e P I1 := ⟨fun led s hs => h.to hs fun v s1 led1 k1 hs1 o => ⟨led1, k1, hs1, V, hp, toVt_on C.hκ hv o⟩⟩
theorem EvX.mono {e : PySem.Expr} {P P' : Vt → Prop} (h : EvX C lv I e P I1) (hp : ∀ V, P V → P' V) : EvX C lv I e P' I1 := ⟨fun led s hs => h.h.to hs fun v s1 led1 k1 hs1 ⟨V, p, o⟩ => ⟨led1, k1, hs1, V, hp V p, o⟩⟩
structure CallX (C : Cx w κ f) (I : List (Addr × Obj) → Prop) (fa : Addr) (as : List AV) (P : Vt → Prop) (I' : List (Addr × Obj) → Prop) : Prop where
  h : ∀ m vs led s, Same C.g s → Fr C.h₀ C.L s.heap m → News C.h₀ C.L s.heap led → I led → OnAll κ led vs as → wpAny (model P0 w) C.A (call (.ref fa) vs) (fun v s' => ∃ led', Kr κ led led' ∧ Same C.g s' ∧ Fr C.h₀ C.L s'.heap m ∧ News C.h₀ C.L s'.heap led' ∧ I' led' ∧ ∃ V, P V ∧ VV (fl κ led') v V) NoE s
theorem CallX.use {fa : Addr} {as : List AV} {P : Vt → Prop} (h : CallX C I fa as P I1) {vs : List Value} (hs : St C lv I led1 s) (o : OnAll κ led1 vs as) (k : Kr κ led led1) : wpAny (model P0 w) C.A (call (.ref fa) vs) (Po C lv I1 led fun led v => ∃ V, P V ∧ VV (fl κ led) v V) NoE s := by
  obtain ⟨m, F, hl⟩ := hs.F
  refine wpAny_mono (h.h m vs led1 s hs.same F hs.N hs.I o) (fun v s2 p => ?_) fun _ _ e => e
  obtain ⟨led2, k2, s2', F2, N2, i2, o2⟩ := p
  exact ⟨led2, k.trans k2, ⟨s2', N2, ⟨m, F2, fun q hq => let ⟨u, e1, e2⟩ := hl q hq; ⟨u, e1, e2.kr C k2⟩⟩, i2⟩, o2⟩
theorem EvX.call {x : PySem.Str} {p : Pos} {e : PySem.Expr} {rest : List PySem.Expr} {pos : Pos} {fa : Addr} {P : Vt → Prop} {as : List AV} (ho : Ev C lv I (.Name x p) (.val (.ref fa)) I1) (hk : keepIn (hd0.heap_1 w.params) (.ref fa) = true) (hA : Evs C lv I1 (e :: rest) as I2) (hc : CallX C I2 fa as P I') : EvX C lv I (.Call (.Name x p) (e :: rest) [] pos) P I' := ⟨fun led s hs =>
  Call_ (ho.to hs fun v s1 led1 k1 hs1 o1 => by
    have o' : v = .ref fa := o1
    subst o'
    exact callWith_K C.X hk ((hA.h pos).to hs1 fun vs s2 led2 k2 hs2 o2 => ⟨hs2.X, hc.use hs2 o2 (k1.trans k2)⟩) hA.s1 hA.s2) (fcall_eq _ _ _ _ _)⟩
-- an int of which only a property is known: as an argument of a test or a sum
theorem EvX.int1 {e : PySem.Expr} {n : Nat} {p2 pos : Pos} {k : Int} {P : Int → Prop} (h : EvX C lv I e (fun V => ∃ d, P d ∧ V = .dt (.int d)) I1) : EvX C lv I (.BinOp (.Constant (.int k) n p2) .Add e pos) (fun V => ∃ d, P d ∧ V = .dt (.int (k + d))) I1 := ⟨fun led s hs =>
  wpAny_BinOp (wpAny_Constant_int (h.h.to hs.tok fun v s1 led1 k1 hs1 ⟨V, ⟨d, p, e⟩, o⟩ => by
    subst e
    cases o with
    | dt o =>
      cases o
      exact add_int ⟨led1, k1, hs1.tok, _, ⟨d, p, rfl⟩, .dt (.int _ _)⟩))⟩
theorem EvX.ifn {l : PySem.Expr} {b o : PySem.Expr} {pos p3 : Pos} {n : Nat} {p2 : Pos} {k : Int} {P P' : Vt → Prop} (h : EvX C lv I l (fun V => ∃ d, V = .dt (.int d)) I1) (hb : EvX C lv I1 b P I2) (ho : EvX C lv I1 o P I2) : EvX C lv I (.IfExp (.Compare l [.Gt] [.Constant (.int k) n p2] p3) b o pos) P I2 := ⟨fun led s hs =>
  IfExp_ (wpAny_isTrue_Compare1 (h.h.to hs fun v s1 led1 k1 hs1 ⟨V, ⟨d, e⟩, q⟩ => wpAny_Constant_int (by
    subst e
    cases q with
    | dt q =>
      cases q
      refine gt_int (wpAny_truthy_bool ?_)
      cases decide (k < d) with
      | true => exact wpo k1 (hb.h led1 _ hs1.tok)
      | false => exact wpo k1 (ho.h led1 _ hs1.tok))) (by rfl))⟩
end
-- statement lists with any end
structure Sx {w : World} {κ : Addr × Obj → Prop} {f : Fn} (C : Cx w κ f) (lv : List (PySem.Str × AV)) (I : List (Addr × Obj) → Prop) (b : List Stmt) (R : Flow → List (Addr × Obj) → Shared → Prop) : Prop where
  h : ∀ led s, St C lv I led s → wpAny (model P0 w) C.A (execs b C.env) (fun fl s' => ∃ led', Kr κ led led' ∧ R fl led' s') NoE s
theorem GI.offs {κ S I} (G : GI κ S I) : ∀ {Ds : List Addr} {led led' : List (Addr × Obj)}, (∀ D ∈ Ds, ¬ S D) → I led → (∀ q ∈ led, q.1 ∈ Ds → ¬ LT q.2) → (∀ q ∈ led, q.1 ∉ Ds → q ∈ led') → I led'
  | [], led, led', _, h, _, k => G.mono _ _ h fun q hq => k q hq (by simp)
  | D :: Ds, led, led', hS, h, hl, k => G.offs (Ds := Ds) (led := led.filter fun q => q.1 != D) (fun x hx => hS x (.tail _ hx)) (G.off D _ _ (hS D (.head _)) h (fun q hq e => hl q hq (e ▸ .head _)) fun q hq hne => List.mem_filter.mpr ⟨hq, by simpa using hne⟩) (fun q hq hm => hl q (List.mem_filter.mp hq).1 (.tail _ hm)) fun q hq hn => by
      obtain ⟨h1, h2⟩ := List.mem_filter.mp hq
      refine k q h1 fun hm => ?_
      rcases List.mem_cons.mp hm with e | hm
      · simp [e] at h2
      · exact hn hm
theorem isTL.lt {o : Obj} (h : isTL o) : LT o := by
  rcases h with ⟨_, h⟩ | ⟨vs, ws, n, _, h, _⟩
  · exact .inr h
  · exact .inl (by rw [h])
section
variable {w : World} {κ : Addr × Obj → Prop} {f : Fn} {C : Cx w κ f} {lv lv' lv1 lv2 lv3 lv4 : List (PySem.Str × AV)} {I I1 I2 I' : List (Addr × Obj) → Prop} {led led1 : List (Addr × Obj)} {s : Shared} {S : Addr → Prop} {R : Flow → List (Addr × Obj) → Shared → Prop} {rest : List Stmt}
theorem Sx.next {led0 led1 : List (Addr × Obj)} {s1 : Shared} (h : Sx C lv I rest R) (hs : St C lv I led1 s1) (k : Kr κ led0 led1) : wpAny (model P0 w) C.A (execs rest C.env) (fun fl s' => ∃ led', Kr κ led0 led' ∧ R fl led' s') NoE s1 := wpAny_mono (h.h _ _ hs) (fun _ _ ⟨l, k2, r⟩ => ⟨l, k.trans k2, r⟩) fun _ _ e => e
theorem Sx.nil (k : ∀ led s, St C lv I led s → R .next led s) : Sx C lv I [] R := ⟨fun led s hs => wpAny_execs_nil ⟨led, Kr.refl _, k led s hs⟩⟩
theorem Sx.go {st : Stmt} (h : Go1 C lv I st lv1 I1) (r : Sx C lv1 I1 rest R) : Sx C lv I (st :: rest) R := ⟨fun led s hs => wpAny_execs_cons (h.to hs fun fl s1 led1 k1 hs1 e => by subst e; exact r.next hs1 k1)⟩
theorem Sx.ret {e : PySem.Expr} {pos : Pos} {a : AV} (h : Ev C lv I e a I1) (k : ∀ led s v, St C lv I1 led s → a.On κ led v → R (.ret v) led s) : Sx C lv I (.Return (some e) pos :: rest) R := ⟨fun led s hs => wpAny_execs_cons (wpAny_Return_some (h.to hs fun v s1 led1 k1 hs1 o => ⟨led1, k1, k _ _ _ hs1 o⟩))⟩
theorem Sx.retX {e : PySem.Expr} {pos : Pos} {P : Vt → Prop} (h : EvX C lv I e P I1) (k : ∀ led s v V, St C lv I1 led s → P V → VV (fl κ led) v V → R (.ret v) led s) : Sx C lv I (.Return (some e) pos :: rest) R := ⟨fun led s hs => wpAny_execs_cons (wpAny_Return_some (h.h.to hs fun v s1 led1 k1 hs1 ⟨V, p, o⟩ => ⟨led1, k1, k _ _ _ _ hs1 p o⟩))⟩
theorem set_lv {x : PySem.Str} {a : AV} {m : PySem.Str → Option Value} {v : Value} (h2 : SetTo x a lv lv') (nd : NoDup lv) (hl : ∀ q ∈ lv, ∃ u, m q.1 = some u ∧ q.2.On κ led u) (o : a.On κ led v) : ∀ q ∈ lv', ∃ u, (fun y => if y = x then some v else m y) q.1 = some u ∧ q.2.On κ led u := fun q hq => by
  rcases h2.on q hq with rfl | ⟨h3, h4 | h4⟩
  · exact ⟨v, if_pos rfl, o⟩
  · obtain ⟨u, e1, e2⟩ := hl q h3
    exact ⟨u, by show (if q.1 = x then _ else _) = _; rw [if_neg h4]; exact e1, e2⟩
  · exact absurd nd h4
-- a name is stored in a state
theorem store_lv {x : PySem.Str} {a : AV} {v : Value} {Q : Unit → Shared → Prop} (hs : St C lv I led s) (h2 : SetTo x a lv lv') (nd : NoDup lv) (o : a.On κ led v) (hx : C.env.kindOf x = some .local) (h : ∀ s1, St C lv' I led s1 → Q () s1) : wpAny (model P0 w) C.A (storeName C.env x v) Q NoE s := by
  obtain ⟨m, F, hl⟩ := hs.F
  exact storeX_L F hs.N (fun h' F' N' => h _ ⟨hs.same, N', ⟨_, F', set_lv h2 nd hl o⟩, hs.I⟩) C.hk hx
theorem Sx.assignX {x : PySem.Str} {p' pos : Pos} {e : PySem.Expr} {P : Vt → Prop} (h : EvX C lv I e P I1) (nd : NoDup lv) (k : ∀ V, P V → ∃ lv1, SetTo x V.av lv lv1 ∧ Sx C lv1 I1 rest R) (hx : C.env.kindOf x = some .local := by rfl) (hsw : swapsWith e (some (.Name x p')) pos.line C.env = pure false := by rfl) : Sx C lv I (.Assign [.Name x p'] e pos :: rest) R := ⟨fun led s hs =>
  wpAny_execs_cons (wpAny_Assign_Name (h.h.to hs fun v s1 led1 k1 hs1 ⟨V, p, o⟩ => by
    obtain ⟨lv1, h2, r⟩ := k V p
    exact store_lv hs1 h2 nd (Vt.av_on o) hx fun s2 hs2 => r.next hs2 k1) hsw)⟩
theorem Go1.swap2 {x y : PySem.Str} {px py tp pos : Pos} {k : Nat} {e : PySem.Expr} {V1 V2 : Vt} {a1 a2 : AV} (h : Ev C lv I e (.vt (.tup [V1, V2])) I1) (ok1 : AvOk V1 a1) (ok2 : AvOk V2 a2) (h1 : SetTo y a2 lv lv1) (h2 : SetTo x a1 lv1 lv2) (nd : NoDup lv) (nd1 : NoDup lv1) (hw : swappedStores [.Tuple [.Name x px, .Name y py] k tp] e C.env = pure (some [x, y])) (hx : C.env.kindOf x = some .local := by rfl) (hy : C.env.kindOf y = some .local := by rfl)
    (hs1 : swapsWithSole [.Tuple [.Name x px, .Name y py] k tp] e pos.line C.env = pure false := by rfl) : Go1 C lv I (.Assign [.Tuple [.Name x px, .Name y py] k tp] e pos) lv2 I1 := ⟨fun led s hs =>
  Assign_Tuple_swapped (h.to hs fun v s1 led1 k1 hs1 o => by
    have o' : VV (fl κ led1) v (.tup [V1, V2]) := o
    refine o'.tup2 fun t9 n9 x91 x92 e9 hm d1 d2 => ?_
    subst e9
    obtain ⟨m, F, hl⟩ := hs1.F
    refine unpackItemsN_ F hs1.N (News.isTup hs1.N (mem_fl.mp hm).1) C.hh rfl fun h' F' N' => ?_
    have hs3 : St C lv I1 led1 { s1 with heap := h' } := ⟨hs1.same, N', ⟨m, F', hl⟩, hs1.I⟩
    refine assignInOrder_cons (bindName_ (store_lv hs3 h1 nd (ok2 _ _ _ d2) hy fun s4 hs4 => ?_))
    refine assignInOrder_cons (bindName_ (store_lv hs4 h2 nd1 (ok1 _ _ _ d1) hx fun s5 hs5 => ?_))
    exact assignInOrder_nil ⟨led1, k1, hs5, rfl⟩) hs1 hw⟩
theorem Go1.swap3 {x y z : PySem.Str} {px py pz tp pos : Pos} {k : Nat} {e : PySem.Expr} {V1 V2 V3 : Vt} {a1 a2 a3 : AV} (h : Ev C lv I e (.vt (.tup [V1, V2, V3])) I1) (ok1 : AvOk V1 a1) (ok2 : AvOk V2 a2) (ok3 : AvOk V3 a3) (h0 : SetTo z a3 lv lv1) (h1 : SetTo y a2 lv1 lv2) (h2 : SetTo x a1 lv2 lv3) (nd : NoDup lv) (nd1 : NoDup lv1) (nd2 : NoDup lv2) (hw : swappedStores [.Tuple [.Name x px, .Name y py, .Name z pz] k tp] e C.env = pure (some [x, y, z])) (hx : C.env.kindOf x = some .local := by rfl) (hy : C.env.kindOf y = some .local := by rfl) (hz : C.env.kindOf z = some .local := by rfl)
    (hs1 : swapsWithSole [.Tuple [.Name x px, .Name y py, .Name z pz] k tp] e pos.line C.env = pure false := by rfl) : Go1 C lv I (.Assign [.Tuple [.Name x px, .Name y py, .Name z pz] k tp] e pos) lv3 I1 := ⟨fun led s hs =>
  Assign_Tuple_swapped (h.to hs fun v s1 led1 k1 hs1 o => by
    have o' : VV (fl κ led1) v (.tup [V1, V2, V3]) := o
    refine o'.tup3 fun t9 n9 x91 x92 x93 e9 hm d1 d2 d3 => ?_
    subst e9
    obtain ⟨m, F, hl⟩ := hs1.F
    refine unpackItemsN_ F hs1.N (News.isTup hs1.N (mem_fl.mp hm).1) C.hh rfl fun h' F' N' => ?_
    have hs3 : St C lv I1 led1 { s1 with heap := h' } := ⟨hs1.same, N', ⟨m, F', hl⟩, hs1.I⟩
    refine assignInOrder_cons (bindName_ (store_lv hs3 h0 nd (ok3 _ _ _ d3) hz fun s4 hs4 => ?_))
    refine assignInOrder_cons (bindName_ (store_lv hs4 h1 nd1 (ok2 _ _ _ d2) hy fun s5 hs5 => ?_))
    refine assignInOrder_cons (bindName_ (store_lv hs5 h2 nd2 (ok1 _ _ _ d1) hx fun s6 hs6 => ?_))
    exact assignInOrder_nil ⟨led1, k1, hs6, rfl⟩) hs1 hw⟩
-- a list of the def's own
theorem Own.mk' {a : Addr} {vs : List Value} {n : Nat} {Vs : List Vt} (h : VVs (fl κ led) vs Vs) (l : ∀ q ∈ led, q.1 < a) : Own (KO κ a) a Vs ((a, lstO vs n) :: led) := ⟨vs, n, .head _, h.sub fun q hq => let ⟨h1, h2⟩ := mem_fl.mp hq; mem_fl.mpr ⟨.tail _ h1, h2, .inr (Nat.ne_of_lt (l q h1))⟩⟩
theorem Sx.own {lv' : Addr → List (PySem.Str × AV)} {x : PySem.Str} {p' pos : Pos} {e : PySem.Expr} {Vs : List Vt} (G : GI κ S I1) (h : EvO C lv I e Vs I1) (h1 : ∀ a, SetTo x (.val (.ref a)) lv (lv' a)) (nd : NoDup lv) (k : ∀ a, ¬ S a → (∀ o, isDict o = false → κ (a, o)) → Sx (C.as (KO κ a) (hKO C.hκ)) (lv' a) (JO κ a I1 Vs) rest R)
    (hx : C.env.kindOf x = some .local := by rfl) (hsw : swapsWith e (some (.Name x p')) pos.line C.env = pure false := by rfl) : Sx C lv I (.Assign [.Name x p'] e pos :: rest) R := ⟨fun led s hs =>
  wpAny_execs_cons (wpAny_Assign_Name (wpAny_mono (h.h led s hs) (fun v s1 ⟨a, vs, n, led1, e, k1, hF, hv⟩ => by
    subst e
    obtain ⟨m, F, hl⟩ := hF.F
    refine storeX_L F hF.N (fun h2 F2 N2 => ?_) C.hk hx
    have hl2 : ∀ q ∈ lv, ∃ u, m q.1 = some u ∧ q.2.On (KO κ a) ((a, lstO vs n) :: led1) u := fun q hq => let ⟨u, e1, e2⟩ := hl q hq; ⟨u, e1, (e2.own hF.lt).cons⟩
    have h3 := (k a (G.ns hF.I hF.lt) fun o ho => G.frs _ _ _ hF.I (fun q hq => Nat.ne_of_lt (hF.lt q hq)) ho).h ((a, lstO vs n) :: led1) { s1 with heap := h2, toks := s1.toks + 1 } ⟨hF.same, N2, ⟨_, F2, set_lv (h1 a) nd hl2 rfl⟩, G.mono _ _ hF.I fun _ hq => .tail _ hq, Own.mk' hv hF.lt⟩
    exact wpAny_mono h3 (fun fl s3 ⟨led3, k3, r⟩ => ⟨led3, k1.trans fun q hq e => k3 q (.tail _ hq) ⟨e, .inr (Nat.ne_of_lt (hF.lt q hq))⟩, r⟩) fun _ _ e => e) fun _ _ e => e) hsw)⟩
inductive Rls (a : Addr) (Vs : List Vt) : List (PySem.Str × AV) → List (PySem.Str × AV) → Prop
  | here {x l} : Rls a Vs ((x, .val (.ref a)) :: l) ((x, .vt (.lst Vs)) :: l)
  | there {y l l'} (r : Rls a Vs l l') : Rls a Vs (y :: l) (y :: l')
theorem Rls.on {a : Addr} {Vs : List Vt} (h : Rls a Vs lv lv') : ∀ q ∈ lv', q ∈ lv ∨ ((q.1, .val (.ref a)) ∈ lv ∧ q.2 = .vt (.lst Vs)) := by
  induction h with
  | here =>
    intro q hq
    rcases List.mem_cons.mp hq with rfl | hq
    · exact .inr ⟨.head _, rfl⟩
    · exact .inl (.tail _ hq)
  | there r ih =>
    intro q hq
    rcases List.mem_cons.mp hq with rfl | hq
    · exact .inl (.head _)
    · exact (ih q hq).imp (fun h => .tail _ h) fun ⟨h1, h2⟩ => ⟨.tail _ h1, h2⟩
theorem Sx.release {a : Addr} {Vs : List Vt} {h9 : ∀ b o, isTL o → KO κ a (b, o)} (h : Rls a Vs lv lv') (hκ : ∀ o, isDict o = false → κ (a, o)) (r : Sx C lv' I rest R) : Sx (C.as (KO κ a) h9) lv (JO κ a I Vs) rest R := ⟨fun led s hs => by
  obtain ⟨m, F, hl⟩ := hs.F
  obtain ⟨vs, n, hm, hv⟩ := hs.I.2.ex
  have h2 := r.h led s ⟨hs.same, hs.N, ⟨m, F, fun q hq => ?_⟩, hs.I.1⟩
  · exact wpAny_mono h2 (fun fl s3 ⟨led3, k3, r⟩ => ⟨led3, fun q hq e => k3 q hq e.1, r⟩) fun _ _ e => e
  · rcases h.on q hq with h3 | ⟨h3, h4⟩
    · obtain ⟨u, e1, e2⟩ := hl q h3
      exact ⟨u, e1, e2.up fun _ h => h.1⟩
    · obtain ⟨u, e1, e2⟩ := hl _ h3
      have e2' : u = .ref a := e2
      subst e2'
      rw [h4]
      exact ⟨_, e1, VV.lst (mem_fl.mpr ⟨hm, hκ _ rfl⟩) (hv.sub fun q hq => let ⟨a1, a2⟩ := mem_fl.mp hq; mem_fl.mpr ⟨a1, a2.1⟩)⟩⟩
end
section
variable {w : World} {κ : Addr × Obj → Prop} {a : Addr} {f : Fn} {C : Cx w (KO κ a) f} {lv lv1 : List (PySem.Str × AV)} {I I1 I2 I3 : List (Addr × Obj) → Prop} {S : Addr → Prop}
theorem GI.own {Vs : List Vt} (G : GI κ S I) : GI (KO κ a) (fun x => S x ∨ x = a) (JO κ a I Vs) :=
  ⟨fun _ _ h k => JO.mono G.m h k, fun led b o h k hd => ⟨G.frs _ _ _ h.1 k hd, .inr fun e => by
      obtain ⟨vs, n, hm, _⟩ := h.2.ex
      exact k _ hm e.symm⟩,
    fun D led led' hS h hl k => ⟨G.off D _ _ (fun h => hS (.inl h)) h.1 hl k, by
      obtain ⟨vs, n, hm, hv⟩ := h.2.ex
      have hne : a ≠ D := fun e => hS (.inr e.symm)
      exact ⟨vs, n, k _ hm hne, VVs.lt (fun q hq ht => let ⟨h1, h2⟩ := mem_fl.mp hq; mem_fl.mpr ⟨k q h1 fun e => hl q h1 e ht, h2⟩) hv⟩⟩,
    fun led x h hx => hx.elim (G.sin _ _ h.1) fun e => by
      obtain ⟨vs, n, hm, _⟩ := h.2.ex
      subst e; exact ⟨_, hm⟩⟩
-- an item of a list of the def's own, read and stored
theorem Sub1.ownI {value slice : PySem.Expr} {Vs : List Vt} {k : Int} {V : Vt} (h0 : 0 ≤ k) (hk : Vs[k.toNat]? = some V) (hz : Vs.length ≤ 1000) (hsx : ∀ a b u, subscripted slice false (.ref a) (.int b u) = operate [.ref a, .int b u] (getItem (.ref a) (.int b u)) := by intros; with_unfolding_all rfl) :
    Sub1 C (JO κ a I Vs) value slice (.val (.ref a)) (.int k) V.av := ⟨fun lv led s v u hs o ⟨t', e'⟩ => by
  have o' : v = .ref a := o
  subst o'; subst e'
  obtain ⟨vs, n, hm, hv⟩ := hs.I.2.ex
  have hlen := hv.len
  have hlt := (List.getElem?_eq_some_iff.mp hk).1
  obtain ⟨x, hx, ho⟩ := hv.at hk
  exact tok_item hs.N hm h0 (by omega) hx (Po.same hs (Vt.av_on ho)) (hsx _ _ _)⟩
theorem Go1.setO {x : PySem.Str} {p pos p2 : Pos} {e i : PySem.Expr} {av : AV} {V : Vt} {Vs : List Vt} {k : Int} (h1 : Ev C lv (JO κ a I Vs) e av (JO κ a I1 Vs)) (h2 : Ev C lv (JO κ a I1 Vs) (.Name x p) (.val (.ref a)) (JO κ a I1 Vs)) (h3 : Ev C lv (JO κ a I1 Vs) i (.int k) (JO κ a I1 Vs)) (h0 : 0 ≤ k) (hk : k.toNat < Vs.length) (hv : av.toVt = some V) (hsafe : Safe Vs = true) (hz : Vs.length ≤ 1000) (hO : OffI a I1)
    (hsw : swapsWith e (some (.Subscript (.Name x p) i p2)) pos.line C.env = pure false := by rfl) : Go1 C lv (JO κ a I Vs) (.Assign [.Subscript (.Name x p) i p2] e pos) lv (JO κ a I1 (Vs.set k.toNat V)) := ⟨fun led s hs =>
  wpAny_Assign_Subscript (h1.to hs fun v s1 led1 k1 hs1 o1 => h2.to hs1 fun ov s2 led2 k2 hs2 o2 => h3.to hs2 fun iv s3 led3 k3 hs3 o3 => by
    have o2' : ov = .ref a := o2
    subst o2'
    obtain ⟨t, e3⟩ := o3
    subst e3
    obtain ⟨m, F, hl⟩ := hs3.F
    obtain ⟨vs, n, hm, hvs⟩ := hs3.I.2.ex
    have hlen := hvs.len
    have hno : ¬ KO κ a (a, lstO vs n) := fun q => q.2.elim (Safe.no hsafe hvs) fun h => h rfl
    refine ki_set (its := vs.toArray) (n := n) (q := vs.set k.toNat v) F (News.front hs3.N hm) h0 (by omega) (ki_at (l := vs) (by omega)) (Upd.head (front_off _ _)) fun h' F' N' => ?_
    have k4 : ∀ q ∈ led3, KO κ a q → q ∈ front a (lstO (vs.set k.toNat v) n) led3 := fun q hq hk => by
      obtain ⟨b, o⟩ := q
      by_cases hb : b = a
      · subst hb
        exact absurd (same_of hs3.N hq hm ▸ hk) hno
      · exact front_ne hq hb
    refine ⟨_, ((k1.trans k2).trans k3).trans k4, ⟨hs3.same, N', ⟨m, F', fun q hq => ?_⟩, hO.h _ _ hs3.I.1 fun q hq hne => front_ne hq hne, ⟨vs.set k.toNat v, n, .head _, ?_⟩⟩, rfl⟩
    · obtain ⟨v, e2, e3⟩ := hl q hq
      exact ⟨v, e2, e3.kr C k4⟩
    · exact (hvs.set (toVt_on C.hκ hv ((o1.kr C k2).kr C k3))).sub (Kr.fl k4)) hsw⟩
end
-- a def of the text, of whose result only a property is told
def EndX {w : World} {κ : Addr × Obj → Prop} {f : Fn} (C : Cx w κ f) (J : List (Addr × Obj) → Prop) (P : Vt → Prop) (fl : Flow) (led : List (Addr × Obj)) (s : Shared) : Prop := St C [] J led s ∧ ∃ V, P V ∧ VV (Mine.fl κ led) (match fl with | .ret v => v | _ => .none) V
section
variable {w : World} {κ : Addr × Obj → Prop} {f : Fn} {C : Cx w κ f} {I I1 : List (Addr × Obj) → Prop}
theorem CallX.of {name qual : PySem.Str} {params : Arguments} {body : List Stmt} {scope : Scope} {dV kV doc pm cdv ct oc : Value} {an od : Option Addr} {osl : Array (Option Value)} {fa : Addr} {as : List AV} {P : Vt → Prop} {lv0 : List (PySem.Str × AV)} {J J' : List (Addr × Obj) → List (Addr × Obj) → Prop}
    (ho : (hd0.heap_1 w.params).lookup fa = some ⟨oc, od, .func (fnOf name qual params body scope dV kV doc pm an cdv ct), osl⟩) (hcd : codeIn (hd0.heap_1 w.params) cdv qual = true) (hr : C.A.depth < recursionLimit)
    (hb : ∀ led s vs, (hd0.heap_1 w.params).In s.heap → OnAll κ led vs as → ∃ bs, BindsTo s (fnOf name qual params body scope dV kV doc pm an cdv ct) ⟨vs, []⟩ bs ∧ (∀ y ∈ bs, scope.names.lookup y.1 = some .local) ∧ ∀ q ∈ lv0, ∃ v, bs.reverse.lookup q.1 = some v ∧ q.2.On κ led v)
    (hJ : ∀ led0, I led0 → J led0 led0) (hJ' : ∀ led0 led, I led0 → Kr κ led0 led → J' led0 led → I1 led)
    (hbody : ∀ led0, I led0 → ∀ C' : Cx w κ ⟨qual, scope, fa, cdv⟩, C'.A = C.A.deeper C'.env → C.h₀.StaysIn C'.h₀ → Sx C' lv0 (J led0) body (EndX C' (J' led0) P))
    (hk : scope.kind = .function) (hco : scope.isCoroutine = false) (hgen : scope.isGenerator = false) (hcell : ∀ x ∈ scope.names, x.2 ≠ .cell) : CallX C I fa as P I1 := ⟨fun m vs led s sm F N hI o => by
  have hX : (hd0.heap_1 w.params).In s.heap := C.X.keeps F.keep
  obtain ⟨bs, b1, b2, b3⟩ := hb led s vs hX o
  refine wpAny_call ?_
  refine code_def C.B F C.X N C.T C.hA rfl C.hk ho hcd hr b1 b2 (fun g' L' h1 Fg F' N' B' X' T' => ?_) hco hgen hk hcell
  let C' : Cx w κ ⟨qual, scope, fa, cdv⟩ := { pq := C.pq, lq := C.lq, mean := C.mean, mg := C.mg, mb := C.mb, A := C.A.deeper (envX qual scope L' fa cdv []), A₀ := C.A, base := C.base, h₀ := g', L := L', cl := [], outer := C.env :: C.outer, g := C.g, hκ := C.hκ, B := B', X := X', T := T', hA := by rw [Around.frames_deeper C.hA], hh := C.hh, hk := hk }
  have h2 := (hbody led hI C' rfl Fg.keep).h led { s with heap := h1, toks := s.toks + bs.length } ⟨sm, N', ⟨_, F', b3⟩, hJ led hI⟩
  refine wpAny_mono h2 (fun fl s2 p => ?_) fun _ _ e => e.elim
  obtain ⟨led2, k2, hs2, V, p, o2⟩ := p
  obtain ⟨m2, F2, _⟩ := hs2.F
  exact leaveK_ F2 hs2.N fun F3 N3 => ⟨led2, k2, hs2.same, F3, N3, hJ' led led2 hI k2 hs2.I, V, p, o2⟩⟩
end
end
section
open PySem PySem.W PySem.Spec PySem.Calls PyProof.Rows
-- loops: the state between two turns
def SJ {w : World} {κ : Addr × Obj → Prop} {f : Fn} (C : Cx w κ f) {σ : Type} (P : Nat → σ → Prop) (lvσ : Nat → σ → List (PySem.Str × AV)) (Iσ : Nat → σ → List (Addr × Obj) → Prop) (i : Nat) (led : List (Addr × Obj)) (s : Shared) : Prop := ∃ t, P i t ∧ St C (lvσ i t) (Iσ i t) led s
def JJ (κ : Addr × Obj → Prop) {σ : Type} (P : Nat → σ → Prop) (lvσ : Nat → σ → List (PySem.Str × AV)) (Iσ : Nat → σ → List (Addr × Obj) → Prop) (led0 : List (Addr × Obj)) (i : Nat) (m : PySem.Str → Option Value) (led : List (Addr × Obj)) : Prop := ∃ t, P i t ∧ Kr κ led0 led ∧ (∀ q ∈ lvσ i t, ∃ v, m q.1 = some v ∧ q.2.On κ led v) ∧ Iσ i t led
theorem JJ.e {κ : Addr × Obj → Prop} {σ : Type} {P : Nat → σ → Prop} {lvσ : Nat → σ → List (PySem.Str × AV)} {Iσ : Nat → σ → List (Addr × Obj) → Prop} {led0 : List (Addr × Obj)} {i : Nat} {m : PySem.Str → Option Value} {led : List (Addr × Obj)} {G : Prop} (h : JJ κ P lvσ Iσ led0 i m led) (k : ∀ t, P i t → Kr κ led0 led → (∀ q ∈ lvσ i t, ∃ v, m q.1 = some v ∧ q.2.On κ led v) → Iσ i t led → G) : G := let ⟨t, a, b, c, d⟩ := h; k t a b c d
theorem VV.dtI {led : List (Addr × Obj)} {v : Value} {k : Int} {G : Prop} (h : VV led v (.dt (.int k))) (c : ∀ t, v = .int k t → G) : G := by
  cases h with
  | dt o => cases o; exact c _ rfl
-- an invariant that holds objects of a loop's own
structure Its (S : Addr → Prop) (its : List (Addr × Obj)) : Prop where
  h : ∀ q ∈ its, ¬ S q.1 ∧ ¬ LT q.2
def II (I : List (Addr × Obj) → Prop) (its led : List (Addr × Obj)) : Prop := I led ∧ ∀ q ∈ its, q ∈ led
theorem GI.its {κ S I} {its : List (Addr × Obj)} (G : GI κ S I) : GI κ (fun x => S x ∨ x ∈ its.map (·.1)) (II I its) :=
  ⟨fun _ _ h k => ⟨G.mono _ _ h.1 k, fun q hq => k _ (h.2 q hq)⟩, fun _ _ _ h k hd => G.frs _ _ _ h.1 k hd, fun D _ _ hS h hl k => ⟨G.off D _ _ (fun e => hS (.inl e)) h.1 hl k, fun q hq => k _ (h.2 q hq) fun e => hS (.inr (e ▸ List.mem_map_of_mem hq))⟩,
   fun _ x h hx => hx.elim (G.sin _ _ h.1) fun e => by
     obtain ⟨q, hq, e⟩ := List.mem_map.mp e
     subst e
     exact ⟨q.2, h.2 q hq⟩⟩
theorem VVs.at' {led : List (Addr × Obj)} {vs : List Value} {ds : List Vt} {i : Nat} {v : Value} (h : VVs led vs ds) (e : vs[i]? = some v) : ∃ V, ds[i]? = some V ∧ VV led v V :=
  h.ind (M := fun vs ds => ∀ i, vs[i]? = some v → ∃ V, ds[i]? = some V ∧ VV led v V) (fun _ e => by rw [List.getElem?_nil] at e; cases e) (fun u vs d ds a _ r i => Nat.casesOn i (fun e => ⟨d, rfl, Option.some.inj e ▸ a⟩) fun i e => r i e) i e
section
variable {w : World} {κ : Addr × Obj → Prop} {f : Fn} {C : Cx w κ f} {lv lv1 : List (PySem.Str × AV)} {I I1 : List (Addr × Obj) → Prop} {S : Addr → Prop} {σ : Type} {P : Nat → σ → Prop} {lvσ : Nat → σ → List (PySem.Str × AV)} {Iσ : List (Addr × Obj) → Nat → σ → List (Addr × Obj) → Prop}
-- the end of a turn: the loop's own objects leave the ledger
theorem turn_J {Ds : List Addr} {its led0 ledj led2 : List (Addr × Obj)} {i : Nat} {s1 s2 : Shared} (G : ∀ i t, P i t → GI κ S (Iσ [] i t)) (hI : ∀ its i t led, Iσ its i t led ↔ Iσ [] i t led ∧ ∀ q ∈ its, q ∈ led) (sm : Same C.g s1) (hits : Its S its) (hDs : its.map (·.1) = Ds) (h0 : ∀ q ∈ led0, q.1 ∉ Ds) (k1 : Kr κ led0 ledj) (k2 : Kr κ (its ++ ledj) led2) (hs : SJ C P lvσ (Iσ its) (i + 1) led2 s2) :
    ∃ h' tk m' led3, s2 = { s1 with heap := h', toks := tk } ∧ Fr C.h₀ C.L h' m' ∧ News C.h₀ C.L h' (its ++ led3) ∧ (∀ p ∈ led3, p.1 ∉ Ds) ∧ JJ κ P lvσ (Iσ []) led0 (i + 1) m' led3 := by
  obtain ⟨t, p, hs⟩ := hs
  obtain ⟨m, F, hm⟩ := hs.F
  obtain ⟨hs1, hit⟩ := (hI _ _ _ _).mp hs.I
  have hSD : ∀ D ∈ Ds, ¬ S D := fun D hD => by
    rw [← hDs] at hD
    obtain ⟨x, hx, e⟩ := List.mem_map.mp hD
    subst e
    exact (hits.h x hx).1
  have hlt : ∀ q ∈ led2, q.1 ∈ Ds → ¬ LT q.2 := fun q hq hd => by
    rw [← hDs] at hd
    obtain ⟨x, hx, e⟩ := List.mem_map.mp hd
    obtain ⟨qa, qo⟩ := q
    obtain ⟨xa, xo⟩ := x
    have e' : xa = qa := e
    subst e'
    rw [same_of hs.N hq (hit _ hx)]
    exact (hits.h _ hx).2
  have kf : ∀ q ∈ led2, q.1 ∉ Ds → q ∈ led2.filter (fun q => decide (q.1 ∉ Ds)) := fun q hq e => List.mem_filter.mpr ⟨hq, by simpa using e⟩
  have nl : ∀ q ∈ led2, LT q.2 → q.1 ∉ Ds := fun q hq ht hd => hlt q hq hd ht
  refine ⟨s2.heap, s2.toks, m, led2.filter (fun q => decide (q.1 ∉ Ds)), Same.eq (g := C.g) sm hs.same, F, fun q hq => ?_, fun q hq => by simpa using (List.mem_filter.mp hq).2, t, p, fun q hq e => kf q (k2 q (List.mem_append_right _ (k1 q hq e)) e) (h0 q hq), fun q hq => ?_, (G _ _ p).offs hSD hs1 hlt kf⟩
  · rcases List.mem_append.mp hq with hq | hq
    · exact hs.N _ (hit q hq)
    · exact hs.N _ (List.mem_filter.mp hq).1
  · obtain ⟨v, e1, e2⟩ := hm q hq
    exact ⟨v, e1, e2.tl (fun q hq ht => kf q hq (nl q hq ht.lt)) fun q hq _ ht => kf q hq (nl q hq ht)⟩
end
section
variable {prog : Program} {w : World} {A : Around} {E : Value → Shared → Prop} {s : Shared} {env : Env} {h₀ : Heap} {target : PySem.Expr} {body : List Stmt} {Q : Flow → Shared → Prop}
theorem iter_listJ {ax : Addr} {lo : Obj} {vs : List Value} {n : Nat} {m₀ : PySem.Str → Option Value} {news : List (Addr × Obj)}
    (hh : A.handled = none) (F : Fr h₀ env.locals s.heap m₀) (N : News h₀ env.locals s.heap news) (hm : (ax, lo) ∈ news) (hc : lo.cls = .type "list") (hd : lo.data = .seq vs.toArray n)
    (J : Nat → (PySem.Str → Option Value) → List (Addr × Obj) → Prop) (h0 : J 0 m₀ news) (hJ : ∀ i m ns, J i m ns → (ax, lo) ∈ ns)
    (step : ∀ i v m₁ news₁ h tk I oI, (∀ p ∈ news, p.1 < I) → vs[i]? = some v → J i m₁ news₁ → oI.cls = .type "list_iterator" → Fr h₀ env.locals h m₁ → News h₀ env.locals h ((I, oI) :: news₁) →
      wpAny (model prog w) A (assign target env v) (fun _ s₂ => wpAny (model prog w) A (execs body env) (UnrPost h₀ env.locals { s with heap := h, toks := tk } I oI (J (i + 1)) Q) E s₂) E { s with heap := h, toks := tk })
    (fin : ∀ h tk m' news', Fr h₀ env.locals h m' → News h₀ env.locals h news' → J vs.length m' news' → Q .next { s with heap := h, toks := tk }) :
    wpAny (model prog w) A (pyIter (.ref ax)) (fun it s₂ => TurnsAt prog w A h₀ env target body Q E it s₂) E s := by
  have hax := N _ hm
  have hl : s.heap.IsList ax vs.toArray := ⟨lo, hax.1, hc, n, hd⟩
  have hlt : ax < s.heap.objs.size := Heap.lt_size hax.1
  have hne : ax ≠ s.heap.objs.size := Nat.ne_of_lt hlt
  have hnew : h₀.get? s.heap.objs.size = none := next_is_new F
  refine wpAny_pyIter_list hl ?_
  refine ⟨s.heap.objs.size, _, _, _, _, _, _, m₀, news, J, rfl, KTurns.ofWalks (Walks.list hh s.heap.objs.size ax hne vs.toArray) fun i v s Q E st q => letGo_listiter st.1 q, ?_, ?_, ?_, ?_, F.push _, fun p hp => ⟨Heap.get?_push_of_some _ (N p hp).1, (N p hp).2⟩, h0, ?_, ?_⟩
  · intro hI
    rcases List.mem_cons.mp hI with e | hI
    · exact absurd F.ns.lt (e ▸ Nat.lt_irrefl _)
    · exact hax.2.1 (List.mem_singleton.mp hI).symm
  · intro b hb
    rw [List.mem_singleton.mp hb]
    exact hnew
  · exact fun p hp hI => absurd (Heap.lt_size (N p hp).1) ((List.mem_singleton.mp hI) ▸ Nat.lt_irrefl _)
  · exact ⟨⟨_, Heap.get?_push_size _ rfl, rfl, rfl⟩, hl.at fun o e => Heap.get?_push_of_some _ e⟩
  · intro i v m₁ news₁ h₁ tk₁ own hin hPi hj hoff hown hget hall hst₁ F₁ N₁
    obtain ⟨⟨oI, hI, hIc, hId⟩, _⟩ := id hst₁
    have hmem : (s.heap.objs.size, oI) ∈ own := hall s.heap.objs.size (List.mem_cons_self ..) hnew _ hI
    have hv : vs[i]? = some v := by
      have z : vs.toArray[i]? = some v := hPi
      simpa using z
    have N₂ : News h₀ env.locals h₁ ((s.heap.objs.size, oI) :: news₁) := fun p hp => by
      rcases List.mem_cons.mp hp with rfl | hp
      · exact N₁ _ (List.mem_append_left _ hmem)
      · exact N₁ _ (List.mem_append_right _ hp)
    have tail : ∀ s₃, UnrEnd h₀ env.locals { s with heap := h₁, toks := tk₁ } s.heap.objs.size oI (J (i + 1)) s₃ → LoopStepU h₀ env.locals [s.heap.objs.size] own (J (i + 1)) { s with heap := h₁, toks := tk₁ } .next s₃ := by
      rintro s₃ ⟨h', tk, m', news', e, F', N', ho, r⟩
      refine ⟨rfl, h', tk, m', news', e, F', ?_, fun p hp hI => ho p hp (List.mem_singleton.mp hI), r⟩
      rintro ⟨pa, po⟩ hp
      rcases List.mem_append.mp hp with hp | hp
      · have h2 : h₁.get? pa = some po := hget _ hp
        rcases List.mem_cons.mp (hown _ hp) with h3 | h3
        · have h4 : pa = s.heap.objs.size := h3
          subst h4
          rw [hI] at h2
          cases h2
          exact N' _ (List.mem_cons_self ..)
        · have h4 : pa = ax := List.mem_singleton.mp h3
          subst h4
          have h5 := (N₁ _ (List.mem_append_right _ (hJ _ _ _ hj))).1
          rw [h5] at h2
          cases h2
          exact N' _ (List.mem_cons_of_mem _ (hJ _ _ _ r))
      · exact N' _ (List.mem_cons_of_mem _ hp)
    refine wpAny_mono (step i v m₁ news₁ h₁ tk₁ _ oI (fun p hp => Heap.lt_size (N p hp).1) hv hj hIc F₁ N₂) (fun _ s₂ h₂ => wpAny_mono h₂ (fun f s₃ p => ?_) fun _ _ e => e) fun _ _ e => e
    cases f with
    | ret v => exact .ret p
    | brk => exact .brk p
    | next => exact .next (tail _ p)
    | cont => exact .cont (tail _ p)
  · intro h' tk m' news' F' N' _ hj
    exact fin h' tk m' news' F' N' (by simpa using hj)
theorem krs_inv {x : PySem.Str} {I : Addr} {a c : Int} {n : Nat} (J : Nat → (PySem.Str → Option Value) → List (Addr × Obj) → Prop)
    (step : ∀ i t m news h tk, i < n → J i m news → Fr h₀ env.locals h (fun y => if y = x then some (.int (a + (i : Int) * c) t) else m y) → News h₀ env.locals h ((I, krsIt (a + ((i + 1 : Nat) : Int) * c) ((n : Int) - ((i + 1 : Nat) : Int)) c) :: news) →
      wpAny (model prog w) A (execs body env) (UnrPost h₀ env.locals { s with heap := h, toks := tk } I (krsIt (a + ((i + 1 : Nat) : Int) * c) ((n : Int) - ((i + 1 : Nat) : Int)) c) (J (i + 1)) Q) E { s with heap := h, toks := tk })
    (fin : ∀ h tk m news, Fr h₀ env.locals h m → News h₀ env.locals h news → J n m news → Q .next { s with heap := h, toks := tk }) :
    ∀ k i m news, k + i = n → J i m news → KrsRest prog w A E h₀ env x body Q s I a c n k i m news
  | 0, i, m, news, e, hj => fun h tk F N => fin h tk m news F N (by rw [Nat.zero_add] at e; exact e ▸ hj)
  | k + 1, i, m, news, e, hj => fun t h tk F N => by
    have tail : ∀ s₂, UnrEnd h₀ env.locals { s with heap := h, toks := tk } I (krsIt (a + ((i + 1 : Nat) : Int) * c) ((n : Int) - ((i + 1 : Nat) : Int)) c) (J (i + 1)) s₂ → UnrEnd h₀ env.locals { s with heap := h, toks := tk } I (krsIt (a + ((i + 1 : Nat) : Int) * c) ((n : Int) - ((i + 1 : Nat) : Int)) c) (KrsRest prog w A E h₀ env x body Q s I a c n k (i + 1)) s₂ := by
      rintro s₂ ⟨h', tk', m', news', e1, F', N', o, j⟩
      exact ⟨h', tk', m', news', e1, F', N', o, krs_inv J step fin k (i + 1) m' news' (by omega) j⟩
    refine wpAny_mono (step i t m news h tk (by omega) hj F N) (fun f s₂ p => ?_) fun _ _ e => e
    cases f with
    | ret v => exact p
    | brk => exact p
    | next => exact tail _ p
    | cont => exact tail _ p
end
theorem range_of {d : Int} (h0 : 0 ≤ d) (h1 : d < 3) : ∃ n : Nat, 1 ≤ n ∧ n ≤ 3 ∧ Builtin.Range.small 0 (1 + d) 1 = true ∧ Builtin.Range.rangeSize 0 (1 + d) 1 = (n : Int) := by
  have h : d = 0 ∨ d = 1 ∨ d = 2 := by omega
  rcases h with rfl | rfl | rfl
  · exact ⟨1, by decide, by decide, by decide, by decide⟩
  · exact ⟨2, by decide, by decide, by decide, by decide⟩
  · exact ⟨3, by decide, by decide, by decide, by decide⟩
section
variable {w : World} {κ : Addr × Obj → Prop} {f : Fn} {C : Cx w κ f} {lv lv1 : List (PySem.Str × AV)} {I I1 : List (Addr × Obj) → Prop} {S : Addr → Prop} {σ : Type} {P : Nat → σ → Prop} {lvσ : Nat → σ → List (PySem.Str × AV)} {Iσ : List (Addr × Obj) → Nat → σ → List (Addr × Obj) → Prop} {R : Flow → List (Addr × Obj) → Shared → Prop} {rst body : List Stmt} {x : PySem.Str} {px pos : Pos}
theorem not_lt {o : Obj} {c : String} (h : o.cls = .type c) (h1 : (c == "list") = false) (h2 : (c == "tuple") = false) : ¬ LT o := fun q => by
  rcases q with q | q <;> (rw [h] at q; cases q; first | exact absurd h1 (by decide) | exact absurd h2 (by decide))
theorem Sx.forL {iter : PySem.Expr} {Vs : List Vt} (h : Ev C lv I iter (.vt (.lst Vs)) I1) (t0 : σ) (p0 : P 0 t0) (l0 : lvσ 0 t0 = lv) (i0 : ∀ led, I1 led → Iσ [] 0 t0 led) (G : ∀ i t, P i t → GI κ S (Iσ [] i t)) (hI : ∀ its i t led, Iσ its i t led ↔ Iσ [] i t led ∧ ∀ q ∈ its, q ∈ led)
    (step : ∀ its i t V, Its S its → Vs[i]? = some V → P i t → ∃ lv1, SetTo x V.av (lvσ i t) lv1 ∧ NoDup (lvσ i t) ∧ Sx C lv1 (Iσ its i t) body (fun fl led s => fl = .next ∧ SJ C P lvσ (Iσ its) (i + 1) led s))
    (rest : ∀ t, P Vs.length t → Sx C (lvσ Vs.length t) (Iσ [] Vs.length t) rst R) (hx : C.env.kindOf x = some .local := by rfl) (hf : ∀ y, foldedSetIterable iter C.env y = pure y := by intro _; rfl) : Sx C lv I (.For (.Name x px) iter body [] pos :: rst) R := ⟨fun led s hs => by
  refine hs.m fun m0 F0 _ => ?_
  refine wpAny_execs_cons (For_turns (h₀ := C.h₀) (m := m0) F0 (h.to hs fun v s1 led1 k1 hs1 o => ?_) hf PassesOwn.never)
  have o' : VV (fl κ led1) v (.lst Vs) := o
  refine o'.lstE fun ax vs n ev m1 q1 => ?_
  · subst ev
    refine hs1.m fun m F hl => ?_
    have hm1 := (mem_fl.mp m1)
    refine iter_listJ C.hh F hs1.N hm1.1 rfl rfl (JJ κ P lvσ (Iσ []) led1) ⟨t0, p0, Kr.refl _, by rw [l0]; exact hl, i0 _ hs1.I⟩ (fun i m ns ⟨t, p, k, _⟩ => k _ hm1.1 hm1.2) ?_ ?_
    · intro i v m₁ news₁ h tk Ia oI hlt hv hJ hc F1 N1
      refine hJ.e fun t p k hl1 hi1 => (q1.at' hv).elim fun V hV' => ?_
      have hV := hV'.1
      have ho := hV'.2
      have hits : Its S [(Ia, oI)] := ⟨fun q hq => by
        rw [List.mem_singleton.mp hq]
        exact ⟨(G 0 t0 p0).ns (i0 _ hs1.I) hlt, not_lt hc (by decide) (by decide)⟩⟩
      refine (step _ i t V hits hV p).elim fun lv1 hq => an3 hq fun h2 nd r => ?_
      have hs2 : St C (lvσ i t) (Iσ [(Ia, oI)] i t) ((Ia, oI) :: news₁) { s1 with heap := h, toks := tk } := ⟨hs1.same, N1, ⟨m₁, F1, fun q hq => let ⟨u, e1, e2⟩ := hl1 q hq; ⟨u, e1, e2.cons⟩⟩, (hI _ _ _ _).mpr ⟨(G _ _ p).mono _ _ hi1 fun _ hq => .tail _ hq, fun q hq => by rw [List.mem_singleton.mp hq]; exact .head _⟩⟩
      refine assign_Name (store_lv hs2 h2 nd (Vt.av_on ((ho.kr k).kr Kr.cons)) hx fun s3 hs3 => ?_)
      refine wpAny_mono (r.h _ _ hs3) (fun f2 s4 ⟨led2, k2, e, sj⟩ => ?_) fun _ _ e => e.elim
      subst e
      exact ex4 (turn_J (Ds := [Ia]) (s1 := { s1 with heap := h, toks := tk }) G hI hs1.same hits rfl (fun q hq hm => absurd (hlt q hq) (by rw [List.mem_singleton.mp hm]; exact Nat.lt_irrefl _)) k k2 sj) fun h' tk' m' led3 b => an5 b fun a1 a2 a3 a4 a5 => ⟨h', tk', m', led3, a1, a2, a3, fun p hp e => a4 p hp (by rw [e]; exact List.mem_singleton.mpr rfl), a5⟩
    · intro h tk m' led3 F3 N3 hJ
      refine hJ.e fun t p k hl3 hi3 => ?_
      rw [q1.len] at p hl3 hi3
      exact (rest t p).next ⟨hs1.same, N3, ⟨m', F3, hl3⟩, hi3⟩ (k1.trans k)⟩
theorem Sx.forR {e : PySem.Expr} {p p2 : Pos} {PV : Vt → Prop} (h : EvX C lv I e PV I1) (hPV : ∀ V, PV V → ∃ d : Int, 0 ≤ d ∧ d < 3 ∧ V = .dt (.int (1 + d))) (t0 : σ) (p0 : P 0 t0) (l0 : lvσ 0 t0 = lv) (i0 : ∀ led, I1 led → Iσ [] 0 t0 led) (G : ∀ i t, P i t → GI κ S (Iσ [] i t)) (hI : ∀ its i t led, Iσ its i t led ↔ Iσ [] i t led ∧ ∀ q ∈ its, q ∈ led)
    (step : ∀ its i t, Its S its → i < 3 → P i t → ∃ lv1, SetTo x .any (lvσ i t) lv1 ∧ NoDup (lvσ i t) ∧ Sx C lv1 (Iσ its i t) body (fun fl led s => fl = .next ∧ SJ C P lvσ (Iσ its) (i + 1) led s))
    (rest : ∀ n t, 1 ≤ n → n ≤ 3 → P n t → Sx C (lvσ n t) (Iσ [] n t) rst R) (hr : nsIn (hd0.heap_1 w.params) mainGlobals "range" = some none) (hx : C.env.kindOf x = some .local := by rfl) (hkr : C.env.kindOf "range" = some .globalImplicit := by rfl) (ns : notStar e = true := by rfl) (hf : ∀ y, foldedSetIterable (.Call (.Name "range" p) [e] [] p2) C.env y = pure y := by intro _; rfl) : Sx C lv I (.For (.Name x px) (.Call (.Name "range" p) [e] [] p2) body [] pos :: rst) R := ⟨fun led s hs => by
  have hkd := C.hk
  refine wpAny_execs_cons (For_invV C.h₀ hx (by show (f.scope.kind == .class || (f.scope.kind == .module && C.L != mainGlobals)) = false; rw [hkd]; rfl) (Call_ ((Ev.blt (v := .type "range") hr boot_range (by decide) hkr).to hs fun fv s0 led0 k0 hs0 o0 => ?_) (fcall_eq _ _ _ _ _)) hf PassesOwn.never)
  have o0' : fv = .type "range" := o0
  subst o0'
  refine PyProof.Rows.callWith_type1 (args_cons (h.h.to hs0 fun v s1 led1 k1 hs1 ⟨V, pv, o⟩ => args_nil ?_) (star1 ns)) (star1 ns) rfl
  refine (hPV V pv).elim fun d hd => an3 hd fun d0 d3 e => ?_
  subst e
  refine VV.dtI o fun t9 e9 => ?_
  · subst e9
    refine hs1.m fun m F hl => ?_
    refine range1_rows F hs1.N fun h' tk t1 u1 v1 hR F' N' _ => ?_
    refine (range_of d0 d3).elim fun n hn => an4 hn fun n1 n3 sm rs => ?_
    refine krs_iter (c := 1) C.hh hR sm rs F' N' fun Ia hlt => krs_inv (J := JJ κ P lvσ (Iσ []) led1) ?_ ?_ n 0 m led1 (by omega) ⟨t0, p0, Kr.refl _, by rw [l0]; exact hl, i0 _ hs1.I⟩
    · intro i t m₁ news₁ h tk hi hJ F1 N1
      refine hJ.e fun t' p k hl1 hi1 => ?_
      have hits : Its S [(Ia, krsIt (0 + ((i + 1 : Nat) : Int) * 1) ((n : Int) - ((i + 1 : Nat) : Int)) 1)] := ⟨fun q hq => by
        rw [List.mem_singleton.mp hq]
        exact ⟨(G 0 t0 p0).ns (i0 _ hs1.I) hlt, not_lt rfl (by decide) (by decide)⟩⟩
      refine (step _ i t' hits (by omega) p).elim fun lv1 hq => an3 hq fun h2 nd r => ?_
      refine wpAny_mono (r.h _ { s1 with heap := h, toks := tk } ⟨hs1.same, N1, ⟨_, F1, set_lv h2 nd (fun q hq => let ⟨u, e1, e2⟩ := hl1 q hq; ⟨u, e1, e2.cons⟩) trivial⟩, (hI _ _ _ _).mpr ⟨(G _ _ p).mono _ _ hi1 fun _ hq => .tail _ hq, fun q hq => by rw [List.mem_singleton.mp hq]; exact .head _⟩⟩) (fun f2 s4 ⟨led2, k2, e, sj⟩ => ?_) fun _ _ e => e.elim
      subst e
      exact ex4 (turn_J (Ds := [Ia]) (s1 := { s1 with heap := h, toks := tk }) G hI hs1.same hits rfl (fun q hq hm => absurd (hlt q hq) (by rw [List.mem_singleton.mp hm]; exact Nat.lt_irrefl _)) k k2 sj) fun h' tk' m' led3 b => an5 b fun a1 a2 a3 a4 a5 => ⟨h', tk', m', led3, a1, a2, a3, fun p hp e => a4 p hp (by rw [e]; exact List.mem_singleton.mpr rfl), a5⟩
    · intro h tk m' led3 F3 N3 hJ
      exact hJ.e fun t p k hl3 hi3 => (rest n t n1 n3 p).next ⟨hs1.same, N3, ⟨m', F3, hl3⟩, hi3⟩ ((k0.trans k1).trans k)⟩
end
end
section
open PySem PySem.W PySem.Spec PySem.Calls PyProof.Rows
-- texts as lists of words
def WordsOf (x : PySem.Str) (l : List Pr) : Prop := ∃ ws, (x == PySem.Str.ofString "") = false ∧ Txt.split x (PySem.Str.ofString " ") = ws ∧ ws.length ≤ 1000 ∧ x.length + 2 ≤ sizeLine ∧ ws.map wordP = l
abbrev pv (q : Pr) : Vt := .dt (prDt q)
abbrev tv (l : List Pr) : Vt := .lst (l.map pv)
theorem vvs_dt {led : List (Addr × Obj)} {vs : List Value} {ds : List Dt} (h : DVs led vs ds) : VVs led vs (ds.map Vt.dt) := h.ind (M := fun vs ds => VVs led vs (ds.map Vt.dt)) .nil fun _ _ _ _ a _ r => .cons (.dt a) r
theorem vv_of_LD {κ : Addr × Obj → Prop} (hκ : ∀ b o, isTL o → κ (b, o)) {a : Addr} {led : List (Addr × Obj)} {ds : List Dt} (h : LD a ds led) (ha : ∀ o, isDict o = false → κ (a, o)) : VV (fl κ led) (.ref a) (.lst (ds.map Vt.dt)) := by
  obtain ⟨vs, n, h1, h2⟩ := h.ex
  exact .lst (mem_fl.mpr ⟨h1, ha _ rfl⟩) (vvs_dt (DVs.off (fun x o hm hd hc => mem_fl.mpr ⟨hm, hκ _ _ (.inl ⟨hd, hc⟩)⟩) h2))
theorem ld_of_vv {κ : Addr × Obj → Prop} {led : List (Addr × Obj)} {v : Value} {ds : List Dt} (h : VV (fl κ led) v (.lst (ds.map Vt.dt))) : ∃ a, v = .ref a ∧ LD a ds led := by
  cases h with
  | lst m q => exact ⟨_, rfl, _, _, (mem_fl.mp m).1, (dts_of q).keeps (keeps_sub fun q hq => (mem_fl.mp hq).1)⟩
section
variable {w : World} {κ : Addr × Obj → Prop} {f : Fn} {C : Cx w κ f} {I I1 : List (Addr × Obj) → Prop} {S : Addr → Prop}
theorem CallX.ofK {fa : Addr} {as : List AV} {P : Vt → Prop} (h : ∀ {m : PySem.Str → Option Value} {s : Shared} {led : List (Addr × Obj)} {vs : List Value} {Q : Value → Shared → Prop}, Fr C.h₀ C.L s.heap m → News C.h₀ C.L s.heap led → OnAll κ led vs as → I led →
      (∀ v V h' tk' led', Fr C.h₀ C.L h' m → News C.h₀ C.L h' led' → Kr κ led led' → I1 led' → P V → VV (fl κ led') v V → Q v { s with heap := h', toks := tk' }) → wpAny (model P0 w) (ktrTop C.A.depth C.A.units C.A.guards f.qual f.scope C.L f.a f.cd C.cl C.outer) (call (.ref fa) vs) Q NoE s) : CallX C I fa as P I1 := ⟨fun m vs led s sm F N hI o => by
  rw [C.top]
  exact h F N o hI fun v V h' tk' led' F' N' k' i' p' o' => ⟨led', k', sm, F', N', i', V, p', o'⟩⟩
theorem words_T {x : PySem.Str} {l : List Pr} (G : GI κ S I) (hw : WordsOf x l) (hr : Room C 2) : CallC C I 523 [.str x] (.vt (tv l)) I := CallC.ofK fun {m s led vs Q} F N o hI hret => by
  obtain ⟨ws, h1, h2, h3, h4, h5⟩ := hw
  refine o.l1 fun v e9 h90 => ?_
  subst e9
  obtain ⟨t, e⟩ := h90
  subst e
  refine words C.B F C.X N C.T C.hk h1 h2 h3 h4 hr.1 hr.2 fun a led' h' tk' F' N' S' nf l' => hret _ h' tk' led' F' N' (Kr.sub S') (G.mono _ _ hI S') ?_
  subst h5
  have := vv_of_LD C.hκ l' fun o ho => G.frs _ _ _ hI nf ho
  show VV _ _ (.lst ((ws.map wordP).map pv))
  rw [List.map_map] at this ⊢
  exact this
-- the pen
structure Pn (pa ca : Addr) (zs : List Int) (b : Int) (led : List (Addr × Obj)) : Prop where
  h : ∃ turn cur, turn ≤ b ∧ PenAt pa ca turn cur zs led
theorem pen_notTL {v : Value} {a b : Int} {t u : Tok} {n : Nat} : ¬ isTL (lstO [v, .int a t, .int b u] n) := by
  rintro (⟨_, h1⟩ | ⟨us, ws, k, hz, e, hs⟩)
  · have h2 : Value.type "list" = Value.type "tuple" := h1
    revert h2; decide
  · have e2 : [v, .int a t, .int b u] = us := by
      have := congrArg Obj.data e
      simp at this
      exact this.1
    subst e2
    cases hs with
    | cons y t r => cases r
theorem Pn.kr {pa ca : Addr} {zs : List Int} {b : Int} {led led' : List (Addr × Obj)} {h₀ h : Heap} {L : Addr} (hp : ∀ q, κ q → isTL q.2 ∨ q.1 ≠ pa) (N : News h₀ L h led) (P : Pn pa ca zs b led) (k : KeepQ pa led led') : Kr κ led led' := fun q hq e => by
  rcases hp q e with h1 | h1
  · by_cases h2 : q.1 = pa
    · obtain ⟨turn, cur, _, ⟨⟨t1, t2, n, vs, j, a1, _⟩, _⟩⟩ := P.h
      obtain ⟨qa, qo⟩ := q
      have h3 : qa = pa := h2
      subst h3
      rw [same_of N hq a1] at h1
      exact absurd h1 pen_notTL
    · exact k q hq h2
  · exact k q hq h1
def noPen : List Vt → Bool
  | [_, .dt (.int _), .dt (.int _)] => false
  | _ => true
theorem isPen_shape {vs : List Value} {n : Nat} (h : isPen (lstO vs n) = true) : ∃ a i t j u, vs = [.ref a, .int i t, .int j u] := by
  unfold isPen at h
  simp only at h
  split at h
  · exact ⟨_, _, _, _, _, rfl⟩
  · cases h
theorem noPen_on {led : List (Addr × Obj)} {vs : List Value} {Vs : List Vt} {n : Nat} (h : VVs led vs Vs) (hn : noPen Vs = true) : isPen (lstO vs n) = false := by
  cases e : isPen (lstO vs n) with
  | false => rfl
  | true =>
    obtain ⟨a, i, t, j, u, e⟩ := isPen_shape e
    subst e
    cases h with
    | cons a r =>
      cases r with
      | cons b r =>
        cases r with
        | cons c r =>
          cases r
          cases b with
          | dt b => cases b; cases c with
            | dt c => cases c; cases hn
variable {pa ca : Addr} {zs : List Int} {b many : Int}
theorem draw_T (hp : ∀ q, κ q → isTL q.2 ∨ q.1 ≠ pa) (hI : ∀ led, I led → Pn pa ca zs b led) (hI' : ∀ led0 led, I led0 → KeepQ pa led0 led → Kr κ led0 led → Pn pa ca zs (b + 1) led → I1 led) (h1 : 1 ≤ many) (h2 : many ≤ 10) (hb : b ≤ 900) (hr : Room C 1) : CallX C I 511 [.val (.ref pa), .int many] (fun V => ∃ d, (0 ≤ d ∧ d < many) ∧ V = .dt (.int d)) I1 := CallX.ofK fun {m s led vs Q} F N o hi hret => by
  refine o.l2 fun v u e9 e1 h91 => ?_
  subst e9
  obtain ⟨t, e⟩ := h91
  have e1' : v = .ref pa := e1
  subst e1'; subst e
  obtain ⟨turn, cur, ht, hP⟩ := (hI led hi).h
  refine draw C.B F C.X N C.T C.hk hP h1 h2 (by omega) hr.1 hr.2 fun d u t' c' led' h' tk' x y z P F' N' k => ?_
  have kr := Pn.kr hp N (hI led hi) k
  exact hret _ _ h' tk' led' F' N' kr (hI' _ _ hi k kr ⟨t', c', by omega, P⟩) ⟨d, ⟨x, y⟩, rfl⟩ (.dt (.int _ _))
theorem pick_T {Vs : List Vt} (hp : ∀ q, κ q → isTL q.2 ∨ q.1 ≠ pa) (hI : ∀ led, I led → Pn pa ca zs b led) (hI' : ∀ led0 led, I led0 → KeepQ pa led0 led → Kr κ led0 led → Pn pa ca zs (b + 1) led → I1 led) (h1 : Nat.ble 1 Vs.length = true) (h2 : Nat.ble Vs.length 10 = true) (hn : noPen Vs = true) (hb : b ≤ 900) (hr : Room C 2) : CallX C I 518 [.val (.ref pa), .vt (.lst Vs)] (fun V => V ∈ Vs) I1 := CallX.ofK fun {m s led vs Q} F N o hi hret => by
  refine o.l2 fun v u e9 e1 e2 => ?_
  subst e9
  have e1' : v = .ref pa := e1
  have e2' : VV (fl κ led) u (.lst Vs) := e2
  subst e1'
  cases e2' with
  | lst m1 q1 =>
    have a1 := Nat.le_of_ble_eq_true h1
    have a2 := Nat.le_of_ble_eq_true h2
    have a3 := q1.len
    obtain ⟨turn, cur, ht, hP⟩ := (hI led hi).h
    refine pick C.B F C.X N C.T C.hk hP (mem_fl.mp m1).1 (noPen_on q1 hn) (by omega) (by omega) (by omega) hr.1 hr.2 fun i v t' c' led' h' tk' x z P F' N' k => ?_
    have kr := Pn.kr hp N (hI led hi) k
    obtain ⟨V, hV, hv⟩ := q1.at' x
    exact hret _ V h' tk' led' F' N' kr (hI' _ _ hi k kr ⟨t', c', by omega, P⟩) (List.mem_of_getElem? hV) (hv.kr kr)
end
end
section
open PySem PySem.W PySem.Spec PySem.Calls PyProof.Rows
theorem w_INTO_A : WordsOf (PySem.Str.ofString "INTO A") ([("word", "INTO"), ("word", "A")]) := ⟨["INTO", "A"], by decide +kernel, by decide +kernel, by decide, by decide, rfl⟩
theorem w_A_A : WordsOf (PySem.Str.ofString "A A") ([("word", "A"), ("word", "A")]) := ⟨["A", "A"], by decide +kernel, by decide +kernel, by decide, by decide, rfl⟩
theorem w_DELIMITED_BY_SIZE : WordsOf (PySem.Str.ofString "DELIMITED BY SIZE") ([("word", "DELIMITED"), ("word", "BY"), ("word", "SIZE")]) := ⟨["DELIMITED", "BY", "SIZE"], by decide +kernel, by decide +kernel, by decide, by decide, rfl⟩
theorem w_DELIMITED_SPACE : WordsOf (PySem.Str.ofString "DELIMITED SPACE") ([("word", "DELIMITED"), ("word", "SPACE")]) := ⟨["DELIMITED", "SPACE"], by decide +kernel, by decide +kernel, by decide, by decide, rfl⟩
theorem w_ALL : WordsOf (PySem.Str.ofString "ALL") ([("word", "ALL")]) := ⟨["ALL"], by decide +kernel, by decide +kernel, by decide, by decide, rfl⟩
theorem w_DELIMITED_BY : WordsOf (PySem.Str.ofString "DELIMITED BY") ([("word", "DELIMITED"), ("word", "BY")]) := ⟨["DELIMITED", "BY"], by decide +kernel, by decide +kernel, by decide, by decide, rfl⟩
theorem w_WITH_POINTER_A : WordsOf (PySem.Str.ofString "WITH POINTER A") ([("word", "WITH"), ("word", "POINTER"), ("word", "A")]) := ⟨["WITH", "POINTER", "A"], by decide +kernel, by decide +kernel, by decide, by decide, rfl⟩
theorem w_A : WordsOf (PySem.Str.ofString "A") ([("word", "A")]) := ⟨["A"], by decide +kernel, by decide +kernel, by decide, by decide, rfl⟩
theorem w_A_OF_R : WordsOf (PySem.Str.ofString "A OF R") ([("word", "A"), ("word", "OF"), ("word", "R")]) := ⟨["A", "OF", "R"], by decide +kernel, by decide +kernel, by decide, by decide, rfl⟩
theorem w_SPACE : WordsOf (PySem.Str.ofString "SPACE") ([("word", "SPACE")]) := ⟨["SPACE"], by decide +kernel, by decide +kernel, by decide, by decide, rfl⟩
theorem w_LOW_VALUES : WordsOf (PySem.Str.ofString "LOW-VALUES") ([("word", "LOW-VALUES")]) := ⟨["LOW-VALUES"], by decide +kernel, by decide +kernel, by decide, by decide, rfl⟩
theorem w_B : WordsOf (PySem.Str.ofString "B") ([("word", "B")]) := ⟨["B"], by decide +kernel, by decide +kernel, by decide, by decide, rfl⟩
theorem w_SIZE : WordsOf (PySem.Str.ofString "SIZE") ([("word", "SIZE")]) := ⟨["SIZE"], by decide +kernel, by decide +kernel, by decide, by decide, rfl⟩
theorem w_DELIMITED : WordsOf (PySem.Str.ofString "DELIMITED") ([("word", "DELIMITED")]) := ⟨["DELIMITED"], by decide +kernel, by decide +kernel, by decide, by decide, rfl⟩
-- the words of the law's level
theorem II.mono {I : List (Addr × Obj) → Prop} {its : List (Addr × Obj)} (h : MonoI I) : MonoI (II I its) := fun j k => ⟨h j.1 k, fun q hq => k _ (j.2 q hq)⟩
theorem GI.m' {κ S I} (G : GI κ S I) : MonoI I := G.m
theorem lwords : True := by
  k_with_none
  (k_with "LMEM" => first
    | (with_reducible exact List.mem_cons_self)
    | ((with_reducible refine List.mem_cons_of_mem _ ?_); k_extra "LMEM")
    | fail "LMEM")
  (k_with "LSET" => first
    | (with_reducible exact SetTo.nil)
    | (with_reducible exact SetTo.here)
    | (show SetTo _ _ (_ :: _) _; exact SetTo.there (by decide +kernel) (by k_extra "LSET"))
    | fail "LSET")
  (k_with "LG" => first
    | (with_reducible assumption)
    | ((with_reducible show GI _ _ (JO _ _ _ _)); (with_reducible exact GI.own (by k_extra "LG")))
    | ((with_reducible show GI _ _ (II _ _)); (with_reducible exact GI.its (by k_extra "LG")))
    | fail "LG")
  (k_with "LM" => first
    | (with_reducible exact GI.m' (by assumption))
    | ((with_reducible show MonoI (JO _ _ _ _)); (with_reducible exact JO.mono (by k_extra "LM")))
    | ((with_reducible show MonoI (II _ _)); (with_reducible exact II.mono (by k_extra "LM")))
    | fail "LM")
  (k_with "LSZ" => first
    | exact Nat.le_of_ble_eq_true rfl
    | ((try simp only [List.length_append, List.length_cons, List.length_nil, List.length_map]); omega)
    | fail "LSZ")
  (k_with "LRLS" => first
    | exact Rls.here
    | (show Rls _ _ (_ :: _) _; exact Rls.there (by k_extra "LRLS"))
    | fail "LRLS")
  (k_with "LROOM" => first
    | exact Room.le (by assumption) rfl
    | exact Room.as (Room.le (by assumption) rfl)
    | fail "LROOM")
  (k_with "LW" => first
    | assumption | exact w_A | exact w_INTO_A | exact w_A_A | exact w_DELIMITED_BY_SIZE | exact w_DELIMITED_SPACE | exact w_ALL | exact w_DELIMITED_BY | exact w_WITH_POINTER_A | exact w_A_OF_R | exact w_SPACE | exact w_LOW_VALUES | exact w_B | exact w_SIZE | exact w_DELIMITED
    | fail "LW")
  (k_with "LCALL" => first
    | exact words_T (by k_extra "LG") (by k_extra "LW") (by k_extra "LROOM")
    | fail "LCALL")
  (k_with "LARGS" => first
    | (show Evs _ _ _ [] _ _; exact Evs.nil)
    | (show Evs _ _ _ (_ :: _) _ _; exact Evs.cons (by k_extra "LEV") (by k_extra "LARGS"))
    | fail "LARGS")
  (k_with "LEV" => first
    | (show Ev _ _ _ (.Constant _ _ _) _ _; first | exact Ev.cint | exact Ev.cstr | exact Ev.cnone | exact Ev.cbool | exact Ev.cbytes | fail "LEV")
    | (show Ev _ _ _ (.Name _ _) _ _; first
      | exact Ev.loc (by k_extra "LMEM")
      | (show Ev _ _ _ (.Name _ _) (.val _) _; exact Ev.glo (by k_is))
      | fail "LEV")
    | (show Ev _ _ _ (.Call (.Name _ _) (_ :: _) [] _) _ _; exact Ev.fcall (by k_extra "LEV") (by k_is) (by k_extra "LARGS") (by k_extra "LCALL"))
    | (show Ev _ _ _ (.BinOp _ .Add _ _) _ _; exact Ev.addL (by k_extra "LEV") (by k_extra "LEV") (by k_extra "LSZ") (by k_extra "LG"))
    | (show Ev _ _ _ (.List _ _) _ _; exact Ev.list (by k_extra "LARGS") (by exact rfl) (by exact rfl) (by k_extra "LG"))
    | (show Ev _ _ _ (.Tuple _ _ _) _ _; first
      | exact Ev.tup (by k_extra "LARGS") (by exact rfl) (by exact rfl) (by k_extra "LM")
      | exact Ev.tupV (by k_extra "LARGS") (by exact rfl) (by exact rfl) (by k_extra "LG")
      | fail "LEV")
    | fail "LEV")
  (k_with "LASG" => first
    | exact Go1.assign (by k_extra "LEV") (by k_extra "LSET") (noDup_k (by kernel_rfl))
    | fail "LASG")
  trivial
def txV (k : Kd) : Vt := .tup [tv k.toks, .dt k.tree]
theorem tx_all : ∀ V, V ∈ [Kd.a, .ar, .siz, .spc, .space, .low, .b].map txV → ∃ k, V = txV k := fun V h => by
  obtain ⟨k, _, e⟩ := List.mem_map.mp h
  exact ⟨k, e.symm⟩
theorem Pn.mono {pa ca : Addr} {zs : List Int} {b : Int} {led led' : List (Addr × Obj)} (h : Pn pa ca zs b led) (k : ∀ q ∈ led, q ∈ led') : Pn pa ca zs b led' := let ⟨t, c, h1, h2⟩ := h.h; ⟨t, c, h1, h2.keeps (keeps_sub k)⟩
theorem Pn.at {pa ca : Addr} {zs : List Int} {b : Int} {led : List (Addr × Obj)} (h : Pn pa ca zs b led) : (∃ o, (pa, o) ∈ led) ∧ ∃ o, (ca, o) ∈ led := by
  obtain ⟨turn, cur, _, ⟨⟨t1, t2, n, vs, j, a1, a2, _⟩, _⟩⟩ := h.h
  exact ⟨⟨_, a1⟩, _, a2⟩
theorem Pn.off {pa ca D : Addr} {zs : List Int} {b : Int} {led led' : List (Addr × Obj)} (h : Pn pa ca zs b led) (h1 : pa ≠ D) (h2 : ca ≠ D) (k : ∀ q ∈ led, q.1 ≠ D → q ∈ led') : Pn pa ca zs b led' := by
  obtain ⟨turn, cur, ht, ⟨⟨t1, t2, n, vs, j, a1, a2, a3⟩, r1, r2, r3, r4, r5⟩⟩ := h.h
  exact ⟨turn, cur, ht, ⟨⟨t1, t2, n, vs, j, k _ a1 h1, k _ a2 h2, a3⟩, r1, r2, r3, r4, r5⟩⟩
-- a def's invariant: what stood at its start stands, but for the pen
def His (pa ca : Addr) (zs : List Int) (led0 : List (Addr × Obj)) (b : Int) (led : List (Addr × Obj)) : Prop := KeepQ pa led0 led ∧ Pn pa ca zs b led
def HisS (pa ca : Addr) (led0 : List (Addr × Obj)) (x : Addr) : Prop := x = pa ∨ x = ca ∨ ∃ o, (x, o) ∈ led0
theorem His.offA {pa ca D : Addr} {zs : List Int} {led0 led led' : List (Addr × Obj)} {b : Int} (hS : ¬ HisS pa ca led0 D) (h : His pa ca zs led0 b led) (k : ∀ q ∈ led, q.1 ≠ D → q ∈ led') : His pa ca zs led0 b led' :=
  ⟨fun q hq hne => k _ (h.1 q hq hne) fun e => hS (.inr (.inr ⟨q.2, e ▸ hq⟩)), h.2.off (fun e => hS (.inl e.symm)) (fun e => hS (.inr (.inl e.symm))) k⟩
theorem His.pn {pa ca : Addr} {zs : List Int} {led0 : List (Addr × Obj)} {b : Int} : ∀ led, His pa ca zs led0 b led → Pn pa ca zs b led := fun _ h => h.2
theorem His.draw {κ : Addr × Obj → Prop} {pa ca : Addr} {zs : List Int} {led0 : List (Addr × Obj)} {b : Int} : ∀ led1 led, His pa ca zs led0 b led1 → KeepQ pa led1 led → Kr κ led1 led → Pn pa ca zs (b + 1) led → His pa ca zs led0 (b + 1) led := fun _ _ h k _ p => ⟨h.1.trans k, p⟩
theorem His.offI {pa ca D : Addr} {zs : List Int} {led0 : List (Addr × Obj)} {b : Int} (hS : ¬ HisS pa ca led0 D) : OffI D (His pa ca zs led0 b) := ⟨fun _ _ h k => h.offA hS k⟩
theorem GI.his {κ S I} {pa ca : Addr} {zs : List Int} {led0 : List (Addr × Obj)} {b : Int} (G : GI κ S I) (h0 : I led0) : GI κ (HisS pa ca led0) (His pa ca zs led0 b) :=
  ⟨fun _ _ h k => ⟨fun q hq hne => k _ (h.1 q hq hne), h.2.mono k⟩, fun led a o h hn hd => G.frs led0 a o h0 (fun q hq e => by
      by_cases h1 : q.1 = pa
      · obtain ⟨⟨o, ho⟩, _⟩ := h.2.at
        exact hn _ ho (h1.symm.trans e)
      · exact hn _ (h.1 q hq h1) e) hd,
   fun D _ _ hS h _ k => h.offA hS k, fun led a h hS => by
     obtain ⟨h1, h2⟩ := h.2.at
     rcases hS with rfl | rfl | ⟨o, ho⟩
     · exact h1
     · exact h2
     · by_cases e : a = pa
       · subst e; exact h1
       · exact ⟨o, h.1 _ ho e⟩⟩
section
variable {w : World} {κ : Addr × Obj → Prop} {f : Fn} {C : Cx w κ f} {I I1 : List (Addr × Obj) → Prop} {S : Addr → Prop} {pa ca : Addr} {zs : List Int} {b : Int}
theorem text_T (hp : ∀ q, κ q → isTL q.2 ∨ q.1 ≠ pa) (G : GI κ S I) (hI : ∀ led, I led → Pn pa ca zs b led) (hI' : ∀ led0 led, I led0 → KeepQ pa led0 led → Kr κ led0 led → Pn pa ca zs (b + 1) led → I1 led) (hb : b ≤ 900) (hr : Room C 4) : CallX C I 535 [.val (.ref pa)] (fun V => ∃ k, V = txV k) I1 := by
  refine' CallX.of (lv0 := [("pen", .val (.ref pa))]) (J := fun led0 => His pa ca zs led0 b) (J' := fun led0 => His pa ca zs led0 (b + 1)) ?k1 ?k2 ?k3 ?k4 ?kJ ?kK ?k5 ?k6 ?k7 ?k8 ?k9
  case k1 => k_is
  case k2 => k_is
  case k6 => exact rfl
  case k7 => exact rfl
  case k8 => exact rfl
  case k9 => decide
  case k3 => exact hr.lt
  case k4 =>
    refine' bind1 (bs := fun v1 => [("pen", v1)]) ?b1 ?b2 ?b3
    case b1 => (intros; exact BindsTo.of_eq (by kernel_rfl))
    case b2 => (intros; exact rfl)
    case b3 => (intro led1 v1 o1; (repeat (first | exact List.forall_mem_nil _ | refine List.forall_mem_cons.mpr ⟨⟨_, rfl, (by first | assumption | exact ⟨_, rfl⟩ | exact rfl)⟩, ?_⟩)))
  case kJ => exact fun led0 h => ⟨fun q hq _ => hq, hI _ h⟩
  case kK => exact fun led0 led h k1 k2 => hI' _ _ h k2.1 k1 k2.2
  intro led0 h0 C' hA hst
  have hr' := hr.down hA
  have G1 : GI κ (HisS pa ca led0) (His pa ca zs led0 b) := G.his h0
  refine Sx.go (by k_extra "LASG") ?_
  refine Sx.go (by k_extra "LASG") ?_
  refine Sx.own G1 (EvO.add (by k_extra "LEV") (by k_extra "LEV") (by k_extra "LSZ")) (by intro a; k_extra "LSET") (noDup_k (by kernel_rfl)) ?_
  intro a hSa hκa
  refine Sx.go (by k_extra "LASG") ?_
  refine Sx.go (Go1.append (by k_extra "LEV") (by k_extra "LARGS") (by exact rfl) (by exact rfl) (by exact rfl) (His.offI hSa)) ?_
  refine Sx.release (by k_extra "LRLS") hκa ?_
  refine Sx.retX (EvX.call (by k_extra "LEV") (by k_is) (by k_extra "LARGS") (pick_T (I1 := His pa ca zs led0 (b + 1)) hp His.pn His.draw (by exact rfl) (by exact rfl) (by exact rfl) hb (by k_extra "LROOM"))) ?_
  intro led s v V hs hm hv
  exact ⟨hs.nolv, V, tx_all V hm, hv⟩
end
end
section
open PySem PySem.W PySem.Spec PySem.Calls PyProof.Rows
section
variable {w : World} {κ : Addr × Obj → Prop} {f : Fn} {C : Cx w κ f} {lv lv' lv1 lv2 lv3 lv4 : List (PySem.Str × AV)} {I I1 I2 I' : List (Addr × Obj) → Prop} {led led1 : List (Addr × Obj)} {s : Shared} {S : Addr → Prop} {R : Flow → List (Addr × Obj) → Shared → Prop} {rest : List Stmt}
theorem St.sub (h : St C lv I led s) (k : ∀ q ∈ lv', q ∈ lv) : St C lv' I led s := ⟨h.same, h.N, let ⟨m, F, h1⟩ := h.F; ⟨m, F, fun q hq => h1 q (k q hq)⟩, h.I⟩
theorem St.imp (h : St C lv I led s) (k : ∀ led, I led → I1 led) : St C lv I1 led s := ⟨h.same, h.N, h.F, k _ h.I⟩
theorem EvX.weak {e : PySem.Expr} {P : Vt → Prop} (h : EvX C lv I e P I1) (k : ∀ led, I1 led → I2 led) : EvX C lv I e P I2 := ⟨fun led s hs => h.h.to hs fun v s1 led1 k1 hs1 o => ⟨led1, k1, hs1.imp k, o⟩⟩
theorem Ev.addP {l r : PySem.Expr} {pos : Pos} {A B : List Pr} (h1 : Ev C lv I l (.vt (tv A)) I1) (h2 : Ev C lv I1 r (.vt (tv B)) I2) (hz : A.length + B.length ≤ 16000) (G : GI κ S I2) : Ev C lv I (.BinOp l .Add r pos) (.vt (tv (A ++ B))) I2 := by
  have := Ev.addL (pos := pos) h1 h2 (by rw [List.length_map, List.length_map]; exact hz) G
  rw [← List.map_append] at this
  exact this
inductive Un2 {w : World} {κ : Addr × Obj → Prop} {f : Fn} (C : Cx w κ f) (x y : PySem.Str) (lv : List (PySem.Str × AV)) (V : Vt) (J : List (Addr × Obj) → Prop) (rest : List Stmt) (R : Flow → List (Addr × Obj) → Shared → Prop) : Prop
  | mk (V1 V2 : Vt) (a1 a2 : AV) (lv1 lv2 : List (PySem.Str × AV)) : V = .tup [V1, V2] → AvOk V1 a1 → AvOk V2 a2 → SetTo x a1 lv lv1 → SetTo y a2 lv1 lv2 → NoDup lv1 → Sx C lv2 J rest R → Un2 C x y lv V J rest R
theorem Sx.unpackA {x y : PySem.Str} {px py tp pos : Pos} {k : Nat} {e : PySem.Expr} {P : Vt → Prop} (h : EvX C lv I e P I1) (nd : NoDup lv) (kk : ∀ V, P V → Un2 C x y lv V I1 rest R) (hx : C.env.kindOf x = some .local := by rfl) (hy : C.env.kindOf y = some .local := by rfl)
    (hs1 : swapsWithSole [.Tuple [.Name x px, .Name y py] k tp] e pos.line C.env = pure false := by rfl) (hs2 : swappedStores [.Tuple [.Name x px, .Name y py] k tp] e C.env = pure none := by rfl) : Sx C lv I (.Assign [.Tuple [.Name x px, .Name y py] k tp] e pos :: rest) R := ⟨fun led s hs =>
  wpAny_execs_cons (Assign_Tuple (h.h.to hs fun v s1 led1 k1 hs1 ⟨V, p, o⟩ => by
    obtain ⟨V1, V2, a1, a2, lv1, lv2, e, ok1, ok2, h1, h2, nd1, r⟩ := kk V p
    subst e
    refine o.tup2 fun t9 n9 x91 x92 e9 hm d1 d2 => ?_
    subst e9
    refine hs1.m fun m F hl => ?_
    refine unpackN_ F hs1.N (News.isTup hs1.N (mem_fl.mp hm).1) C.hh rfl rfl fun h' F' N' => ?_
    have hs3 : St C lv I1 led1 { s1 with heap := h' } := ⟨hs1.same, N', ⟨m, F', hl⟩, hs1.I⟩
    refine assignInOrder_cons (assign_Name (store_lv hs3 h1 nd (ok1 _ _ _ d1) hx fun s4 hs4 => ?_))
    refine assignInOrder_cons (assign_Name (store_lv hs4 h2 nd1 (ok2 _ _ _ d2) hy fun s5 hs5 => ?_))
    exact assignInOrder_nil (r.next hs5 k1)) hs1 hs2)⟩
-- arguments, the last a list of one's own
structure EvsO (C : Cx w κ f) (lv : List (PySem.Str × AV)) (I : List (Addr × Obj) → Prop) (es : List PySem.Expr) (as : List AV) (Vs : List Vt) (I' : List (Addr × Obj) → Prop) : Prop where
  h : ∀ pos led s, St C lv I led s → wpAny (model P0 w) C.A (spliced (backTo pos (starEach es C.env))) (fun vs s' => ∃ us a ws n led1, vs = us ++ [.ref a] ∧ Kr κ led led1 ∧ StF C lv I' led1 (a, lstO ws n) s' ∧ OnAll κ led1 us as ∧ VVs (fl κ led1) ws Vs) NoE s
theorem EvsO.last {e : PySem.Expr} {Vs : List Vt} (h : EvO C lv I e Vs I') (ns : notStar e = true := by rfl) : EvsO C lv I [e] [] Vs I' := ⟨fun pos led s hs => args_cons (wpAny_mono (h.h led s hs) (fun v s1 ⟨a, vs, n, led1, e, k1, hF, hv⟩ => args_nil ⟨[], a, vs, n, led1, by rw [e]; rfl, k1, hF, trivial, hv⟩) fun _ _ e => e) (star1 ns)⟩
theorem EvsO.cons {e : PySem.Expr} {rest : List PySem.Expr} {a : AV} {as : List AV} {Vs : List Vt} (h : Ev C lv I e a I1) (r : EvsO C lv I1 rest as Vs I') (ns : notStar e = true := by rfl) : EvsO C lv I (e :: rest) (a :: as) Vs I' := ⟨fun pos led s hs =>
  args_cons (h.to hs fun v s1 led1 k1 hs1 o1 => wpAny_mono (r.h pos led1 s1 hs1) (fun vs s2 ⟨us, b, ws, n, led2, e, k2, hF, o2, hv⟩ => ⟨v :: us, b, ws, n, led2, by rw [e]; rfl, k1.trans k2, hF, ⟨o1.kr C k2, o2⟩, hv⟩) fun _ _ e => e) (star1 ns)⟩
theorem Sx.swap3own {lv3 : Addr → List (PySem.Str × AV)} {lv1 lv2 : Addr → List (PySem.Str × AV)} {x y z : PySem.Str} {px py pz tp pos p2 : Pos} {k k2 : Nat} {es : List PySem.Expr} {a1 a2 : AV} {Vs : List Vt} (G : GI κ S I1) (h : EvsO C lv I es [a1, a2] Vs I1) (h0 : ∀ a, SetTo z (.val (.ref a)) lv (lv1 a)) (h1 : ∀ a, SetTo y a2 (lv1 a) (lv2 a)) (h2 : ∀ a, SetTo x a1 (lv2 a) (lv3 a)) (nd : NoDup lv) (nd1 : ∀ a, NoDup (lv1 a)) (nd2 : ∀ a, NoDup (lv2 a))
    (kk : ∀ a, ¬ S a → (∀ o, isDict o = false → κ (a, o)) → Sx (C.as (KO κ a) (hKO C.hκ)) (lv3 a) (JO κ a I1 Vs) rest R) (hz : Nat.ble es.length 1000 = true) (hw : swappedStores [.Tuple [.Name x px, .Name y py, .Name z pz] k tp] (.Tuple es k2 p2) C.env = pure (some [x, y, z])) (hx : C.env.kindOf x = some .local := by rfl) (hy : C.env.kindOf y = some .local := by rfl) (hzz : C.env.kindOf z = some .local := by rfl)
    (hs1 : swapsWithSole [.Tuple [.Name x px, .Name y py, .Name z pz] k tp] (.Tuple es k2 p2) pos.line C.env = pure false := by rfl) : Sx C lv I (.Assign [.Tuple [.Name x px, .Name y py, .Name z pz] k tp] (.Tuple es k2 p2) pos :: rest) R := ⟨fun led s hs =>
  wpAny_execs_cons (Assign_Tuple_swapped (Tuple_ (wpAny_mono (h.h p2 led s hs) (fun vs s1 ⟨us, a, ws, n, led1, e, k1, hF, o, hv⟩ => by
    refine o.l2 fun v1 v2 e9 o1 o2 => ?_
    subst e9
    subst e
    refine hF.m fun m F hl => ?_
    refine kup_newTuple F hF.N (fun D h' F' N' l' => ?_) (by show 3 ≤ sizeLine; decide)
    refine unpackItemsN_ F' N' (News.isTup N' (.head _)) C.hh rfl fun h'' F'' N'' => ?_
    have sub : ∀ q ∈ led1, q ∈ (D, ({ cls := .type "tuple", data := .seq (List.toArray ([v1, v2] ++ [Value.ref a])) } : Obj)) :: (a, lstO ws n) :: led1 := fun q hq => .tail _ (.tail _ hq)
    have up : ∀ {x : AV} {v : Value}, x.On κ led1 v → x.On (KO κ a) ((D, ({ cls := .type "tuple", data := .seq (List.toArray ([v1, v2] ++ [Value.ref a])) } : Obj)) :: (a, lstO ws n) :: led1) v := fun h => ((h.own hF.lt).cons).cons
    have hs3 : St (C.as (KO κ a) (hKO C.hκ)) lv (JO κ a I1 Vs) ((D, ({ cls := .type "tuple", data := .seq (List.toArray ([v1, v2] ++ [Value.ref a])) } : Obj)) :: (a, lstO ws n) :: led1) { s1 with heap := h'' } := ⟨hF.same, N'', ⟨m, F'', fun q hq => let ⟨u, e1, e2⟩ := hl q hq; ⟨u, e1, up e2⟩⟩, G.mono _ _ hF.I sub, by
      obtain ⟨vs, n, a1, a2⟩ := (Own.mk' (n := n) hv hF.lt).ex
      exact ⟨vs, n, .tail _ a1, a2.sub (Kr.fl Kr.cons)⟩⟩
    refine assignInOrder_cons (bindName_ (store_lv (C := C.as (KO κ a) (hKO C.hκ)) hs3 (h0 a) nd rfl hzz fun s4 hs4 => ?_))
    refine assignInOrder_cons (bindName_ (store_lv (C := C.as (KO κ a) (hKO C.hκ)) hs4 (h1 a) (nd1 a) (up o2) hy fun s5 hs5 => ?_))
    refine assignInOrder_cons (bindName_ (store_lv (C := C.as (KO κ a) (hKO C.hκ)) hs5 (h2 a) (nd2 a) (up o1) hx fun s6 hs6 => ?_))
    refine assignInOrder_nil (wpAny_mono ((kk a (G.ns hF.I hF.lt) fun o ho => G.frs _ _ _ hF.I (fun q hq => Nat.ne_of_lt (hF.lt q hq)) ho).h _ _ hs6) (fun fl s7 ⟨led3, k3, r⟩ => ⟨led3, k1.trans fun q hq e => k3 q (sub q hq) ⟨e, .inr (Nat.ne_of_lt (hF.lt q hq))⟩, r⟩) fun _ _ e => e)) fun _ _ e => e)) hs1 hw)⟩
end
-- a call that leaves alone what does not stand in the ledger it is given
structure CallXR {w : World} {κ : Addr × Obj → Prop} {f : Fn} (C : Cx w κ f) (I : List (Addr × Obj) → Prop) (fa : Addr) (as : List AV) (P : Vt → Prop) (I' : List (Addr × Obj) → Prop) : Prop where
  h : ∀ m vs led s, Same C.g s → Fr C.h₀ C.L s.heap m → News C.h₀ C.L s.heap led → I led → OnAll κ led vs as → wpAny (model P0 w) C.A (call (.ref fa) vs) (fun v s' => ∃ led', Kr κ led led' ∧ Same C.g s' ∧ Fr C.h₀ C.L s'.heap m ∧ News C.h₀ C.L s'.heap led' ∧ I' led' ∧ (∃ V, P V ∧ VV (fl κ led') v V) ∧ Rests s.heap led s'.heap led') NoE s
section
variable {w : World} {κ : Addr × Obj → Prop} {f : Fn} {C : Cx w κ f} {I I1 : List (Addr × Obj) → Prop}
theorem CallXR.of {name qual : PySem.Str} {params : Arguments} {body : List Stmt} {scope : Scope} {dV kV doc pm cdv ct oc : Value} {an od : Option Addr} {osl : Array (Option Value)} {fa : Addr} {as : List AV} {P : Vt → Prop} {lv0 : List (PySem.Str × AV)} {J J' : List (Addr × Obj) → List (Addr × Obj) → Prop}
    (ho : (hd0.heap_1 w.params).lookup fa = some ⟨oc, od, .func (fnOf name qual params body scope dV kV doc pm an cdv ct), osl⟩) (hcd : codeIn (hd0.heap_1 w.params) cdv qual = true) (hr : C.A.depth < recursionLimit) (hout : C.outer = [])
    (hb : ∀ led s vs, (hd0.heap_1 w.params).In s.heap → OnAll κ led vs as → ∃ bs, BindsTo s (fnOf name qual params body scope dV kV doc pm an cdv ct) ⟨vs, []⟩ bs ∧ (∀ y ∈ bs, scope.names.lookup y.1 = some .local) ∧ ∀ q ∈ lv0, ∃ v, bs.reverse.lookup q.1 = some v ∧ q.2.On κ led v)
    (hJ : ∀ led0, I led0 → J led0 led0) (hJ' : ∀ led0 led, I led0 → Kr κ led0 led → J' led0 led → I1 led)
    (hbody : ∀ led0, I led0 → ∀ C' : Cx w κ ⟨qual, scope, fa, cdv⟩, C'.A = C.A.deeper C'.env → Sx C' lv0 (J led0) body (EndX C' (J' led0) P))
    (hk : scope.kind = .function) (hco : scope.isCoroutine = false) (hgen : scope.isGenerator = false) (hcell : ∀ x ∈ scope.names, x.2 ≠ .cell) : CallXR C I fa as P I1 := ⟨fun m vs led s sm F N hI o => by
  have hX : (hd0.heap_1 w.params).In s.heap := C.X.keeps F.keep
  obtain ⟨bs, b1, b2, b3⟩ := hb led s vs hX o
  have hA := C.hA
  have hB := C.B
  rw [hout] at hA hB
  refine wpAny_call ?_
  refine code_defH hB F C.X N C.T hA C.hk ho hcd hr b1 b2 (fun g' L' h1 Gk Fg F' N' B' X' T' => ?_) hco hgen hk hcell
  let C' : Cx w κ ⟨qual, scope, fa, cdv⟩ := { pq := C.pq, lq := C.lq, mean := C.mean, mg := C.mg, mb := C.mb, A := C.A.deeper (envX qual scope L' fa cdv []), A₀ := C.A, base := C.base, h₀ := g', L := L', cl := [], outer := [C.env], g := C.g, hκ := C.hκ, B := B', X := X', T := T', hA := by rw [Around.frames_deeper hA], hh := C.hh, hk := hk }
  have h2 := (hbody led hI C' rfl).h led { s with heap := h1, toks := s.toks + bs.length } ⟨sm, N', ⟨_, F', b3⟩, hJ led hI⟩
  refine wpAny_mono h2 (fun fl s2 p => ?_) fun _ _ e => e.elim
  obtain ⟨led2, k2, hs2, V, p, o2⟩ := p
  obtain ⟨m2, F2, _⟩ := hs2.F
  exact leaveS0_ F2 hs2.N KtsTurn.refl fun F3 N3 => ⟨led2, k2, hs2.same, F3, N3, hJ' led led2 hI k2 hs2.I, ⟨V, p, o2⟩, rests_of Gk F2 hs2.N⟩⟩
end
theorem lwords5 : True := by
  k_with_none
  (k_with "LMEM" => first
    | (with_reducible exact List.mem_cons_self)
    | ((with_reducible refine List.mem_cons_of_mem _ ?_); k_extra "LMEM")
    | fail "LMEM")
  (k_with "LSET" => first
    | (with_reducible exact SetTo.nil)
    | (with_reducible exact SetTo.here)
    | (show SetTo _ _ (_ :: _) _; exact SetTo.there (by decide +kernel) (by k_extra "LSET"))
    | fail "LSET")
  (k_with "LG" => first
    | (with_reducible assumption)
    | ((with_reducible show GI _ _ (JO _ _ _ _)); (with_reducible exact GI.own (by k_extra "LG")))
    | ((with_reducible show GI _ _ (II _ _)); (with_reducible exact GI.its (by k_extra "LG")))
    | fail "LG")
  (k_with "LM" => first
    | (with_reducible exact GI.m' (by assumption))
    | ((with_reducible show MonoI (JO _ _ _ _)); (with_reducible exact JO.mono (by k_extra "LM")))
    | ((with_reducible show MonoI (II _ _)); (with_reducible exact II.mono (by k_extra "LM")))
    | fail "LM")
  (k_with "LSZ" => first
    | exact Nat.le_of_ble_eq_true rfl
    | ((try simp only [List.length_append, List.length_cons, List.length_nil, List.length_map]); refine' le_ab ?_ ?_ ?_ <;> first | assumption | (refine' Nat.add_le_add ?_ ?_ <;> first | assumption | exact Nat.le_refl _) | exact rfl)
    | ((try simp only [List.length_append, List.length_cons, List.length_nil, List.length_map]); omega)
    | fail "LSZ")
  (k_with "LRLS" => first
    | exact Rls.here
    | (show Rls _ _ (_ :: _) _; exact Rls.there (by k_extra "LRLS"))
    | fail "LRLS")
  (k_with "LROOM" => first
    | exact Room.le (by assumption) rfl
    | exact Room.as (Room.le (by assumption) rfl)
    | fail "LROOM")
  (k_with "LW" => first
    | assumption | exact w_A | exact w_INTO_A | exact w_A_A | exact w_DELIMITED_BY_SIZE | exact w_DELIMITED_SPACE | exact w_ALL | exact w_DELIMITED_BY | exact w_WITH_POINTER_A | exact w_A_OF_R | exact w_SPACE | exact w_LOW_VALUES | exact w_B | exact w_SIZE | exact w_DELIMITED
    | fail "LW")
  (k_with "LCALL" => first
    | exact words_T (by k_extra "LG") (by k_extra "LW") (by k_extra "LROOM")
    | fail "LCALL")
  (k_with "LARGS" => first
    | (show Evs _ _ _ [] _ _; exact Evs.nil)
    | (show Evs _ _ _ (_ :: _) _ _; exact Evs.cons (by k_extra "LEV") (by k_extra "LARGS"))
    | fail "LARGS")
  (k_with "LEV" => first
    | (show Ev _ _ _ (.Constant _ _ _) _ _; first | exact Ev.cint | exact Ev.cstr | exact Ev.cnone | exact Ev.cbool | exact Ev.cbytes | fail "LEV")
    | (show Ev _ _ _ (.Name _ _) _ _; first
      | exact Ev.loc (by k_extra "LMEM")
      | (show Ev _ _ _ (.Name _ _) (.val _) _; exact Ev.glo (by k_is))
      | fail "LEV")
    | (show Ev _ _ _ (.Call (.Name _ _) (_ :: _) [] _) _ _; exact Ev.fcall (by k_extra "LEV") (by k_is) (by k_extra "LARGS") (by k_extra "LCALL"))
    | (show Ev _ _ _ (.BinOp _ .Add _ _) _ _; exact Ev.addP (by k_extra "LEV") (by k_extra "LEV") (by k_extra "LSZ") (by k_extra "LG"))
    | (show Ev _ _ _ (.BinOp _ .Add _ _) _ _; exact Ev.addL (by k_extra "LEV") (by k_extra "LEV") (by k_extra "LSZ") (by k_extra "LG"))
    | (show Ev _ _ _ (.List _ _) _ _; exact Ev.list (by k_extra "LARGS") (by exact rfl) (by exact rfl) (by k_extra "LG"))
    | (show Ev _ _ _ (.Tuple _ _ _) _ _; first
      | exact Ev.tup (by k_extra "LARGS") (by exact rfl) (by exact rfl) (by k_extra "LM")
      | exact Ev.tupV (by k_extra "LARGS") (by exact rfl) (by exact rfl) (by k_extra "LG")
      | fail "LEV")
    | fail "LEV")
  (k_with "LASG" => first
    | exact Go1.assign (by k_extra "LEV") (by k_extra "LSET") (noDup_k (by kernel_rfl))
    | fail "LASG")
  trivial
theorem by_of {V : Vt} (h : V ∈ [Vt.dt (.str (PySem.Str.ofString "DELIMITED")), .dt (.str (PySem.Str.ofString "DELIMITED BY"))]) : ∃ bb x, V = .dt (.str x) ∧ WordsOf x (("word", "DELIMITED") :: byT bb) := by
  simp only [List.mem_cons, List.not_mem_nil, or_false] at h
  rcases h with rfl | rfl
  · exact ⟨false, _, rfl, w_DELIMITED⟩
  · exact ⟨true, _, rfl, w_DELIMITED_BY⟩
def rowV (d : Option Kd) (k : Kd) : Vt := .dt (.tup [k.tree, delTree d])
theorem rowV_safe (d : Option Kd) (ks : List Kd) : Safe (ks.map (rowV d)) = true := by cases ks <;> rfl
theorem Kd.toks_len (k : Kd) : k.toks.length ≤ 10 := by cases k <;> decide
theorem byT_len (b : Bool) : (byT b).length ≤ 1 := by cases b <;> decide
theorem delT_len (d : Option Kd) : (delT d).length ≤ 10 := by
  cases d with
  | none => decide
  | some k => exact Kd.toks_len k
theorem flat_len (f : Kd → List Pr) (n : Nat) (hf : ∀ k, (f k).length ≤ n) : ∀ ks : List Kd, (ks.flatMap f).length ≤ n * ks.length
  | [] => by simp
  | k :: ks => by
    have h1 := flat_len f n hf ks
    have h2 := hf k
    rw [List.flatMap_cons, List.length_append, List.length_cons, Nat.mul_add]
    omega
def grpV (G : Grp) : Vt := .tup [tv G.toks, tv (G.ks.flatMap fun k => k.toks ++ G.tail), .lst (G.rows.map Vt.dt)]
def sngl (t : List Pr) (ks : List Kd) : List Pr := ks.flatMap fun k => k.toks ++ t
theorem Pn.le {pa ca : Addr} {zs : List Int} {b b' : Int} {led : List (Addr × Obj)} (h : Pn pa ca zs b led) (hb : b ≤ b') : Pn pa ca zs b' led := let ⟨t, c, h1, h2⟩ := h.h; ⟨t, c, Int.le_trans h1 hb, h2⟩
theorem His.le {pa ca : Addr} {zs : List Int} {led0 : List (Addr × Obj)} {b b' : Int} (hb : b ≤ b') : ∀ led, His pa ca zs led0 b led → His pa ca zs led0 b' led := fun _ h => ⟨h.1, h.2.le hb⟩
theorem draw_any {m : Int} : ∀ V, (∃ d, (0 ≤ d ∧ d < m) ∧ V = Vt.dt (.int d)) → ∃ d, V = Vt.dt (.int d) := fun V ⟨d, _, e⟩ => ⟨d, e⟩
theorem draw_3 : ∀ V, (∃ d, (0 ≤ d ∧ d < 3) ∧ V = Vt.dt (.int (1 + d))) → ∃ d : Int, 0 ≤ d ∧ d < 3 ∧ V = .dt (.int (1 + d)) := fun V ⟨d, ⟨h1, h2⟩, e⟩ => ⟨d, h1, h2, e⟩
theorem jo_its {κ : Addr × Obj → Prop} {a : Addr} {X : List (Addr × Obj) → Prop} {Vs : List Vt} (its led : List (Addr × Obj)) : JO κ a (II X its) Vs led ↔ JO κ a (II X []) Vs led ∧ ∀ q ∈ its, q ∈ led := ⟨fun ⟨⟨h1, h2⟩, h3⟩ => ⟨⟨⟨h1, fun _ h => nomatch h⟩, h3⟩, h2⟩, fun ⟨⟨⟨h1, _⟩, h3⟩, h2⟩ => ⟨⟨h1, h2⟩, h3⟩⟩
theorem jo_pn {κ : Addr × Obj → Prop} {a pa ca : Addr} {zs : List Int} {led0 its : List (Addr × Obj)} {b : Int} {Vs : List Vt} : ∀ led, JO κ a (II (His pa ca zs led0 b) its) Vs led → Pn pa ca zs b led := fun _ h => h.1.1.2
theorem jo_draw {κ : Addr × Obj → Prop} {a pa ca : Addr} {zs : List Int} {led0 its : List (Addr × Obj)} {b : Int} {Vs : List Vt} (ha : a ≠ pa) (hi : ∀ q ∈ its, q.1 ≠ pa) : ∀ led1 led, JO κ a (II (His pa ca zs led0 b) its) Vs led1 → KeepQ pa led1 led → Kr (KO κ a) led1 led → Pn pa ca zs (b + 1) led → JO κ a (II (His pa ca zs led0 (b + 1)) its) Vs led := fun led1 led h k kr p => by
  obtain ⟨vs, n, h1, h2⟩ := h.2.ex
  exact ⟨⟨⟨h.1.1.1.trans k, p⟩, fun q hq => k _ (h.1.2 q hq) (hi q hq)⟩, vs, n, k _ h1 ha, h2.kr kr⟩
theorem jo_pn0 {κ : Addr × Obj → Prop} {a pa ca : Addr} {zs : List Int} {led0 : List (Addr × Obj)} {b : Int} {Vs : List Vt} : ∀ led, JO κ a (His pa ca zs led0 b) Vs led → Pn pa ca zs b led := fun _ h => h.1.2
theorem jo_draw0 {κ : Addr × Obj → Prop} {a pa ca : Addr} {zs : List Int} {led0 : List (Addr × Obj)} {b : Int} {Vs : List Vt} (ha : a ≠ pa) : ∀ led1 led, JO κ a (His pa ca zs led0 b) Vs led1 → KeepQ pa led1 led → Kr (KO κ a) led1 led → Pn pa ca zs (b + 1) led → JO κ a (II (His pa ca zs led0 (b + 1)) []) Vs led := fun led1 led h k kr p => jo_draw ha (its := []) (fun _ h => nomatch h) led1 led ⟨⟨h.1, fun _ h => nomatch h⟩, h.2⟩ k kr p
theorem II.offI {a : Addr} {X : List (Addr × Obj) → Prop} {its : List (Addr × Obj)} (h : OffI a X) (hi : ∀ q ∈ its, q.1 ≠ a) : OffI a (II X its) := ⟨fun led led' j k => ⟨h.h _ _ j.1 k, fun q hq => k _ (j.2 q hq) (hi q hq)⟩⟩
theorem rowV_len (d : Option Kd) (ks : List Kd) (h : ks.length < 3) : Nat.ble (ks.map (rowV d)).length 1000 = true := Nat.ble_eq_true_of_le (by rw [List.length_map]; omega)
theorem sngl_snoc (t : List Pr) (ks : List Kd) (k : Kd) : sngl t (ks ++ [k]) = sngl t ks ++ k.toks ++ t := by unfold sngl; rw [List.flatMap_append]; simp
theorem toks_snoc (ks : List Kd) (k : Kd) : (ks ++ [k]).flatMap Kd.toks = ks.flatMap Kd.toks ++ k.toks := by rw [List.flatMap_append]; simp
theorem sngl_len (bb : Bool) (d : Option Kd) (ks : List Kd) : (sngl ((("word", "DELIMITED") : Pr) :: byT bb ++ delT d) ks).length ≤ 22 * ks.length := flat_len _ 22 (fun k => by have h1 := k.toks_len; have h2 := byT_len bb; have h3 := delT_len d; simp only [List.length_append, List.length_cons]; omega) ks
theorem Sx.imp {w : World} {κ : Addr × Obj → Prop} {f : Fn} {C : Cx w κ f} {lv lv' : List (PySem.Str × AV)} {I I1 : List (Addr × Obj) → Prop} {R : Flow → List (Addr × Obj) → Shared → Prop} {b : List Stmt} (h : Sx C lv' I1 b R) (k : ∀ led, I led → I1 led) (k2 : ∀ q ∈ lv', q ∈ lv) : Sx C lv I b R := ⟨fun led s hs => h.h led s ((hs.imp k).sub k2)⟩
section
variable {w : World} {κ : Addr × Obj → Prop} {f : Fn} {C : Cx w κ f} {I I1 : List (Addr × Obj) → Prop} {S : Addr → Prop} {pa ca : Addr} {zs : List Int} {b : Int}
theorem group_T (hp : ∀ q, κ q → isTL q.2 ∨ q.1 ≠ pa) (G : GI κ S I) (hI : ∀ led, I led → Pn pa ca zs b led) (hI' : ∀ led0 led, I led0 → KeepQ pa led0 led → Kr κ led0 led → Pn pa ca zs (b + 7) led → I1 led) (hb : b ≤ 800) (hout : C.outer = []) (hr : Room C 5) : CallXR C I 556 [.val (.ref pa)] (fun V => ∃ g : Grp, g.ks ≠ [] ∧ g.ks.length ≤ 3 ∧ V = grpV g) I1 := by
  refine' CallXR.of (lv0 := [("pen", .val (.ref pa))]) (J := fun led0 => His pa ca zs led0 b) (J' := fun led0 => His pa ca zs led0 (b + 7)) ?k1 ?k2 ?k3 ?ko ?k4 ?kJ ?kK ?k5 ?k6 ?k7 ?k8 ?k9
  case k1 => k_is
  case k2 => k_is
  case k6 => exact rfl
  case k7 => exact rfl
  case k8 => exact rfl
  case k9 => decide
  case k3 => exact hr.lt
  case ko => exact hout
  case k4 =>
    refine' bind1 (bs := fun v1 => [("pen", v1)]) ?b1 ?b2 ?b3
    case b1 => (intros; exact BindsTo.of_eq (by kernel_rfl))
    case b2 => (intros; exact rfl)
    case b3 => (intro led1 v1 o1; (repeat (first | exact List.forall_mem_nil _ | refine List.forall_mem_cons.mpr ⟨⟨_, rfl, (by first | assumption | exact ⟨_, rfl⟩ | exact rfl)⟩, ?_⟩)))
  case kJ => exact fun led0 h => ⟨fun q hq _ => hq, hI _ h⟩
  case kK => exact fun led0 led h k1 k2 => hI' _ _ h k2.1 k1 k2.2
  intro led0 h0 C' hA
  have hr' := hr.down hA
  have G0 : ∀ b, GI κ (HisS pa ca led0) (His pa ca zs led0 b) := fun b => G.his h0
  have G1 := G0 b
  have G2 := G0 (b + 1)
  have G3 := G0 (b + 1 + 1)
  have G4 := G0 (b + 1 + 1 + 1)
  have G5 := G0 (b + 1 + 1 + 1 + 1)
  -- by
  refine Sx.assignX (EvX.call (by k_extra "LEV") (by k_is) (by k_extra "LARGS") (pick_T (I1 := His pa ca zs led0 (b + 1)) hp His.pn His.draw (by exact rfl) (by exact rfl) (by exact rfl) (by omega) (by k_extra "LROOM"))) (noDup_k (by kernel_rfl)) ?_
  intro V hV
  obtain ⟨bb, x, e, hw⟩ := by_of hV
  subst e
  refine ⟨_, by k_extra "LSET", ?_⟩
  -- mark, tree
  refine Sx.unpackA (P := fun V => ∃ d, V = .tup [tv (delT d), .dt (delTree d)]) (EvX.ifn (I1 := His pa ca zs led0 (b + 1 + 1)) (P' := fun _ => True) (EvX.mono (EvX.call (by k_extra "LEV") (by k_is) (by k_extra "LARGS") (draw_T hp His.pn His.draw (by decide) (by decide) (by omega) (by k_extra "LROOM"))) draw_any) (EvX.mono (EvX.call (by k_extra "LEV") (by k_is) (by k_extra "LARGS") (text_T hp G3 His.pn His.draw (by omega) (by k_extra "LROOM"))) fun V ⟨k, e⟩ => ⟨some k, e⟩) (EvX.weak (EvX.of (by k_extra "LEV") (by exact rfl) ⟨none, rfl⟩) (His.le (by omega)))) (noDup_k (by kernel_rfl)) ?_
  rintro V ⟨d, rfl⟩
  refine ⟨_, _, _, _, _, _, rfl, AvOk.vt, AvOk.dt, by k_extra "LSET", by k_extra "LSET", noDup_k (by kernel_rfl), ?_⟩
  have ld := delT_len d
  have lb := byT_len bb
  refine Sx.go (by k_extra "LASG") ?_
  refine Sx.swap3own G4 (EvsO.cons (by k_extra "LEV") (EvsO.cons (by k_extra "LEV") (EvsO.last (EvO.disp (by k_extra "LARGS") (by exact rfl) (by exact rfl))))) (by intro a; k_extra "LSET") (by intro a; k_extra "LSET") (by intro a; k_extra "LSET") (noDup_k (by kernel_rfl)) (by intro a; exact noDup_k (by kernel_rfl)) (by intro a; exact noDup_k (by kernel_rfl)) ?_ (by exact rfl) (by rfl)
  intro a hSa hκa
  have hpO : ∀ q, KO κ a q → isTL q.2 ∨ q.1 ≠ pa := fun q h => hp q h.1
  have hapa : a ≠ pa := fun e => hSa (.inl e)
  refine Sx.forR (σ := List Kd) (S := fun x => (HisS pa ca led0 x ∨ x ∈ ([] : List (Addr × Obj)).map (·.1)) ∨ x = a) (P := fun i ks => ks.length = i)
    (lvσ := fun _ ks => [("pen", .val (.ref pa)), ("by", .str x), ("mark", .vt (tv (delT d))), ("tree", .dt (delTree d)), ("tail", .vt (tv ((("word", "DELIMITED") : Pr) :: byT bb ++ delT d))), ("rows", .val (.ref a)), ("single", .vt (tv (sngl ((("word", "DELIMITED") : Pr) :: byT bb ++ delT d) ks))), ("group", .vt (tv (ks.flatMap Kd.toks)))])
    (Iσ := fun its i ks => JO κ a (II (His pa ca zs led0 (b + 1 + 1 + 1 + 1 + (i : Int))) its) (ks.map (rowV d)))
    (EvX.int1 (EvX.call (by k_extra "LEV") (by k_is) (by k_extra "LARGS") (draw_T (I1 := JO κ a (II (His pa ca zs led0 (b + 1 + 1 + 1 + 1)) []) []) hpO jo_pn0 (jo_draw0 hapa) (by decide) (by decide) (by omega) (by k_extra "LROOM"))))
    draw_3 [] rfl rfl (fun led h => ⟨⟨His.le (by omega) _ h.1.1, fun _ h => nomatch h⟩, h.2⟩) (fun i ks _ => (G0 _).its.own) (fun its i ks led => jo_its its led) ?step ?rest (by k_is)
  case step =>
    intro its i ks hits hi hk
    have G6 := G0 (b + 1 + 1 + 1 + 1 + (i : Int))
    have G7 := G0 (b + 1 + 1 + 1 + 1 + (i : Int) + 1)
    have hipa : ∀ q ∈ its, q.1 ≠ pa := fun q hq e => (hits.h q hq).1 (.inl (.inl (.inl e)))
    have hia : ∀ q ∈ its, q.1 ≠ a := fun q hq e => (hits.h q hq).1 (.inr e)
    refine ⟨_, by k_extra "LSET", noDup_k (by kernel_rfl), ?_⟩
    refine Sx.unpackA (EvX.call (by k_extra "LEV") (by k_is) (by k_extra "LARGS") (text_T (I1 := JO κ a (II (His pa ca zs led0 (b + 1 + 1 + 1 + 1 + (i : Int) + 1)) its) (ks.map (rowV d))) hpO (by k_extra "LG") jo_pn (jo_draw hapa hipa) (by omega) (by k_extra "LROOM"))) (noDup_k (by kernel_rfl)) ?_
    rintro V ⟨k, rfl⟩
    refine ⟨_, _, _, _, _, _, rfl, AvOk.vt, AvOk.dt, by k_extra "LSET", by k_extra "LSET", noDup_k (by kernel_rfl), ?_⟩
    have l1 := k.toks_len
    have hk2 : ks.length ≤ 2 := by rw [hk]; exact Nat.le_of_lt_succ hi
    have l2 : (ks.flatMap Kd.toks).length ≤ 20 := Nat.le_trans (flat_len Kd.toks 10 Kd.toks_len ks) (Nat.mul_le_mul_left 10 hk2)
    have l3 : (sngl ((("word", "DELIMITED") : Pr) :: byT bb ++ delT d) ks).length ≤ 44 := Nat.le_trans (sngl_len bb d ks) (Nat.mul_le_mul_left 22 hk2)
    refine Sx.go (Go1.swap2 (by k_extra "LEV") AvOk.vt AvOk.vt (by k_extra "LSET") (by k_extra "LSET") (noDup_k (by kernel_rfl)) (noDup_k (by kernel_rfl)) (by rfl)) ?_
    refine Sx.go (Go1.append (by k_extra "LEV") (by k_extra "LARGS") (by exact rfl) (rowV_safe d ks) (rowV_len d ks (Nat.lt_succ_of_le hk2)) (II.offI (His.offI hSa) hia)) ?_
    refine Sx.nil fun led s hs => ⟨rfl, ks ++ [k], by simp [hk], ?_⟩
    refine (hs.imp (I1 := JO κ a (II (His pa ca zs led0 (b + 1 + 1 + 1 + 1 + ((i + 1 : Nat) : Int))) its) ((ks ++ [k]).map (rowV d))) fun led h => ?_).sub fun q hq => ?_
    · rw [List.map_append]
      exact ⟨⟨His.le (by omega) _ h.1.1, h.1.2⟩, h.2⟩
    · dsimp only at hq
      rw [sngl_snoc, toks_snoc] at hq
      simp only [List.mem_cons, List.not_mem_nil, or_false] at hq
      rcases hq with rfl | rfl | rfl | rfl | rfl | rfl | rfl | rfl <;> first | k_extra "LMEM" | (repeat (first | exact List.mem_cons_self | refine List.mem_cons_of_mem _ ?_))
  case rest =>
    intro n ks n1 n3 hk
    have G8 := G0 (b + 1 + 1 + 1 + 1 + (n : Int))
    have hk3 : ks.length ≤ 3 := hk ▸ n3
    have l2 : (ks.flatMap Kd.toks).length ≤ 30 := Nat.le_trans (flat_len Kd.toks 10 Kd.toks_len ks) (Nat.mul_le_mul_left 10 hk3)
    have l3 : (sngl ((("word", "DELIMITED") : Pr) :: byT bb ++ delT d) ks).length ≤ 66 := Nat.le_trans (sngl_len bb d ks) (Nat.mul_le_mul_left 22 hk3)
    refine Sx.imp (I1 := JO κ a (His pa ca zs led0 (b + 1 + 1 + 1 + 1 + (n : Int))) (ks.map (rowV d))) ?_ (fun _ h => ⟨h.1.1, h.2⟩) (fun _ h => h)
    refine Sx.release (by k_extra "LRLS") hκa ?_
    refine Sx.retX (P := fun V => ∃ g : Grp, g.ks ≠ [] ∧ g.ks.length ≤ 3 ∧ V = grpV g) (EvX.of (by k_extra "LEV") (by exact rfl) ⟨⟨ks, bb, d⟩, fun e => by subst e; simp at hk; omega, by show ks.length ≤ 3; exact hk3, ?_⟩) ?_
    · unfold grpV Grp.rows
      rw [List.map_map]
      rfl
    · intro led s v V hs hm hv
      exact ⟨hs.nolv.imp (His.le (by omega)), V, hm, hv⟩
end
end
section
open PySem PySem.W PySem.Spec PySem.Calls PyProof.Rows
-- what a value's entries are: objects with items
def SQ (o : Obj) : Prop := ∃ vs n, o.data = .seq vs n
theorem DV.sq {a b : List (Addr × Obj)} (k : ∀ q ∈ a, SQ q.2 → q ∈ b) {v : Value} {d : Dt} (h : DV a v d) : DV b v d :=
  DV.rec (motive_1 := fun v d _ => DV b v d) (motive_2 := fun vs ds _ => DVs b vs ds) .none .int .str .bytes (fun h _ r => .tup (k _ h ⟨_, _, rfl⟩) r) .nil (fun _ _ h r => .cons h r) h
theorem VV.sq {a b : List (Addr × Obj)} (k : ∀ q ∈ a, SQ q.2 → q ∈ b) {v : Value} {d : Vt} (h : VV a v d) : VV b v d := h.map (fun _ _ _ h => k _ h ⟨_, _, rfl⟩) (fun _ _ _ h => k _ h ⟨_, _, rfl⟩) fun h => h.sq k
theorem AV.On.sq {κ κ' : Addr × Obj → Prop} {a b : List (Addr × Obj)} (k : ∀ q ∈ a, SQ q.2 → q ∈ b) (k2 : ∀ q ∈ a, κ q → SQ q.2 → κ' q) {v : Value} : ∀ {x : AV}, x.On κ a v → x.On κ' b v
  | .int _, h => h
  | .str _, h => h
  | .val _, h => h
  | .dt _, h => DV.sq k h
  | .strs ws, ⟨x, vs, n, e, h, r, z⟩ => ⟨x, vs, n, e, k _ h ⟨_, _, rfl⟩, r, z⟩
  | .tok _ _, h => h
  | .any, h => h
  | .vt _, h => VV.sq (fun q hq l => let ⟨h1, h2⟩ := mem_fl.mp hq; mem_fl.mpr ⟨k q h1 l, k2 q h1 h2 l⟩) h
  | .nil, ⟨x, n, e, h⟩ => ⟨x, n, e, let ⟨h1, h2⟩ := mem_fl.mp h; mem_fl.mpr ⟨k _ h1 ⟨_, _, rfl⟩, k2 _ h1 h2 ⟨_, _, rfl⟩⟩⟩
-- the law's invariants: ahead of the pen, and behind
structure Cel (c : Addr) (v : Value) (led : List (Addr × Obj)) : Prop where
  h : ∃ o, (c, o) ∈ led ∧ o.data = .cell (some v)
structure L0 (pc : Addr) (led : List (Addr × Obj)) : Prop where
  tab : TabIn led
  cel : ∃ o v, (pc, o) ∈ led ∧ o.data = .cell v
structure L1 (pc pa ca : Addr) (zs : List Int) (b : Int) (led : List (Addr × Obj)) : Prop where
  tab : TabIn led
  cel : Cel pc (.ref pa) led
  pen : Pn pa ca zs b led
theorem TabIn.off {led led' : List (Addr × Obj)} {D : Addr} (h : TabIn led) (hD : D ≠ 232) (k : ∀ q ∈ led, q.1 ≠ D → q ∈ led') : TabIn led' := let ⟨ps, h1, h2⟩ := h; ⟨ps, k _ h1 (Ne.symm hD), h2⟩
theorem GI.l0 {pc : Addr} : GI KD (fun x => x = 232 ∨ x = pc) (L0 pc) :=
  ⟨fun _ _ h k => ⟨h.tab.mono k, let ⟨o, v, h1, h2⟩ := h.cel; ⟨o, v, k _ h1, h2⟩⟩, fun _ _ _ _ _ hd => hd,
   fun D _ _ hS h _ k => ⟨h.tab.off (fun e => hS (.inl e)) k, let ⟨o, v, h1, h2⟩ := h.cel; ⟨o, v, k _ h1 fun e => hS (.inr e.symm), h2⟩⟩,
   fun _ _ h hS => by
     rcases hS with rfl | rfl
     · exact let ⟨_, h1, _⟩ := h.tab; ⟨_, h1⟩
     · exact let ⟨o, _, h1, _⟩ := h.cel; ⟨o, h1⟩⟩
def L1S (pc pa ca : Addr) (x : Addr) : Prop := x = 232 ∨ x = pc ∨ x = pa ∨ x = ca
theorem L1.offA {pc pa ca D : Addr} {zs : List Int} {b : Int} {led led' : List (Addr × Obj)} (hS : ¬ L1S pc pa ca D) (h : L1 pc pa ca zs b led) (k : ∀ q ∈ led, q.1 ≠ D → q ∈ led') : L1 pc pa ca zs b led' :=
  ⟨h.tab.off (fun e => hS (.inl e)) k, let ⟨o, h1, h2⟩ := h.cel.h; ⟨o, k _ h1 fun e => hS (.inr (.inl e.symm)), h2⟩, h.pen.off (fun e => hS (.inr (.inr (.inl e.symm)))) (fun e => hS (.inr (.inr (.inr e.symm)))) k⟩
theorem L1.offI {pc pa ca D : Addr} {zs : List Int} {b : Int} (hS : ¬ L1S pc pa ca D) : OffI D (L1 pc pa ca zs b) := ⟨fun _ _ h k => h.offA hS k⟩
theorem GI.l1 {pc pa ca : Addr} {zs : List Int} {b : Int} : GI (KO KD pa) (L1S pc pa ca) (L1 pc pa ca zs b) :=
  ⟨fun _ _ h k => ⟨h.tab.mono k, let ⟨o, h1, h2⟩ := h.cel.h; ⟨o, k _ h1, h2⟩, h.pen.mono k⟩, fun _ _ _ h hn hd => ⟨hd, .inr fun e => by
      obtain ⟨⟨o, ho⟩, _⟩ := h.pen.at
      exact hn _ ho e.symm⟩,
   fun D _ _ hS h _ k => h.offA hS k,
   fun _ _ h hS => by
     rcases hS with rfl | rfl | rfl | rfl
     · exact let ⟨_, h1, _⟩ := h.tab; ⟨_, h1⟩
     · exact let ⟨o, h1, _⟩ := h.cel.h; ⟨o, h1⟩
     · exact h.pen.at.1
     · exact h.pen.at.2⟩
theorem L1.le {pc pa ca : Addr} {zs : List Int} {b b' : Int} (hb : b ≤ b') : ∀ led, L1 pc pa ca zs b led → L1 pc pa ca zs b' led := fun _ h => ⟨h.tab, h.cel, h.pen.le hb⟩
theorem L1.pn {pc pa ca : Addr} {zs : List Int} {b : Int} : ∀ led, L1 pc pa ca zs b led → Pn pa ca zs b led := fun _ h => h.pen
-- what keeps all but the pen keeps the rest of it
structure Apart (pc pa : Addr) : Prop where
  c : pc ≠ pa
  t : (232 : Addr) ≠ pa
theorem L1.draw {κ : Addr × Obj → Prop} {pc pa ca : Addr} {zs : List Int} {b b' : Int} (ap : Apart pc pa) : ∀ led1 led, L1 pc pa ca zs b led1 → KeepQ pa led1 led → Kr κ led1 led → Pn pa ca zs b' led → L1 pc pa ca zs b' led := fun _ _ h k _ p =>
  ⟨let ⟨ps, h1, h2⟩ := h.tab; ⟨ps, k _ h1 ap.t, h2⟩, let ⟨o, h1, h2⟩ := h.cel.h; ⟨o, k _ h1 ap.c, h2⟩, p⟩
theorem L1.keep {pc pa ca : Addr} {zs : List Int} {b : Int} : ∀ led1 led, L1 pc pa ca zs b led1 → Keeps led1 led → TabIn led → L1 pc pa ca zs b led := fun _ _ h k t =>
  ⟨t, let ⟨o, h1, h2⟩ := h.cel.h; ⟨o, k _ h1 (cell_isDict h2), h2⟩, let ⟨t, c, h1, h2⟩ := h.pen.h; ⟨t, c, h1, h2.keeps k⟩⟩
theorem L0.keep {pc : Addr} : ∀ led1 led, L0 pc led1 → Keeps led1 led → TabIn led → L0 pc led := fun _ _ h k t => ⟨t, let ⟨o, v, h1, h2⟩ := h.cel; ⟨o, v, k _ h1 (cell_isDict h2), h2⟩⟩
section
variable {w : World} {κ : Addr × Obj → Prop} {f : Fn} {C : Cx w κ f} {lv lv' lv1 lv2 : List (PySem.Str × AV)} {I I1 I2 I' : List (Addr × Obj) → Prop} {led led1 : List (Addr × Obj)} {s : Shared} {S : Addr → Prop} {rest : List Stmt} {pc pa ca : Addr} {zs : List Int} {b : Int}
theorem Ev.cell {x : PySem.Str} {c : Addr} {v : Value} {pos : Pos} (hI : ∀ led, I led → Cel c v led) (hc : C.cl.lookup x = some c) (hx : C.env.kindOf x = some .cell := by rfl) (hd : (x == ("__debug__" : PySem.Str)) = false := by decide +kernel) : Ev C lv I (.Name x pos) (.val v) I := ⟨fun led s hs => by
  obtain ⟨o, h1, h2⟩ := (hI led hs.I).h
  exact nameX_C hs.N hc h1 h2 (Po.same hs rfl) C.hk hx hd⟩
-- reads and refusals
theorem lp_of_on {v : Value} {l : List Pr} (h : AV.On κ led v (.vt (tv l))) : ∃ a, v = .ref a ∧ LP a l led := by
  have h' : VV (fl κ led) v (.lst ((l.map prDt).map Vt.dt)) := by rw [List.map_map]; exact h
  exact ld_of_vv h'
theorem read_T {its : List (Addr × Obj)} {A B : List Pr} {rows : List Dt} {gs : List Grp} (G : GI κ S I) (hi : Its S its) (hκ : ∀ q, κ q → isDict q.2 = false) (hI : ∀ led, I led → TabIn led) (hI' : ∀ led0 led, I led0 → Keeps led0 led → TabIn led → I led) (CD : CodeHd C.h₀ 236 232) (hout : C.outer = []) (hA : gs.flatMap Grp.toks = A) (hR : gs.flatMap Grp.rows = rows) (hg : gs ≠ []) (hks : ∀ g ∈ gs, g.ks ≠ []) (hb : BegT B false) (hc : calm B = true) (hsz : rows.length ≤ 1000) (hz : (A ++ B).length ≤ 1000) (hx : ∀ q ∈ A ++ B, q.2.length ≤ 1000) (hr : Room C 20) :
    CallC C (II I its) 542 [.vt (tv A), .vt (tv B)] (.dt (.tup rows)) (II I its) := CallC.ofK fun {m s led vs Q} F N o hI0 hret => by
  subst hA; subst hR
  refine o.l2 fun v u e9 o1 o2 => ?_
  subst e9
  have ndl : ∀ q ∈ led, LT q.2 → q.1 ∉ its.map (·.1) := fun q hq ht hm => by
    obtain ⟨x, hx, e⟩ := List.mem_map.mp hm
    obtain ⟨qa, qo⟩ := q
    obtain ⟨xa, xo⟩ := x
    have e' : xa = qa := e
    subst e'
    rw [same_of N hq (hI0.2 _ hx)] at ht
    exact (hi.h _ hx).2 ht
  have kf : ∀ q ∈ led, q.1 ∉ its.map (·.1) → q ∈ led.filter (fun q => decide (q.1 ∉ its.map (·.1))) := fun q hq e => List.mem_filter.mpr ⟨hq, by simpa using e⟩
  have up : ∀ {x : AV} {v : Value}, x.On κ led v → x.On κ (led.filter (fun q => decide (q.1 ∉ its.map (·.1)))) v := fun h => h.tl (fun q hq ht => kf q hq (ndl q hq ht.lt)) fun q hq _ ht => kf q hq (ndl q hq ht)
  have nf : ∀ q ∈ led.filter (fun q => decide (q.1 ∉ its.map (·.1))), q.1 ∉ its.map (·.1) := fun q hq => by simpa using (List.mem_filter.mp hq).2
  have I1 : I (led.filter (fun q => decide (q.1 ∉ its.map (·.1)))) := G.offs (Ds := its.map (·.1)) (fun D hD => by
    obtain ⟨x, hx, e⟩ := List.mem_map.mp hD
    subst e
    exact (hi.h x hx).1) hI0.1 (fun q hq hm ht => ndl q hq ht hm) kf
  obtain ⟨la, e1, lA⟩ := lp_of_on (up o1)
  obtain ⟨lb, e2, lB⟩ := lp_of_on (up o2)
  subst e1; subst e2
  have hB := C.B
  rw [hout] at hB
  rw [hout]
  refine read_spec hB F C.X (fun q hq => N q (List.mem_filter.mp hq).1) C.T C.hk CD lA lB (hI _ I1) hg hks hb hc hsz hz hx hr.1 hr.2 fun led' v h' tk' F' N' K' T' D' R' => ?_
  have hmem : ∀ q ∈ its, h'.get? q.1 = some q.2 ∧ ∀ p ∈ led', p.1 ≠ q.1 := fun q hq => R' q.1 q.2 (N _ (hI0.2 q hq)).1 fun hm => by
    obtain ⟨p, hp, e⟩ := List.mem_map.mp hm
    exact nf p hp (e ▸ List.mem_map_of_mem hq)
  refine hret v h' tk' (its ++ led') F' (fun q hq => ?_) (fun q hq hk => ?_) ⟨G.mono _ _ (hI' _ _ I1 K' T') fun _ hq => List.mem_append_right _ hq, fun q hq => List.mem_append_left _ hq⟩ (D'.keeps (keeps_sub fun _ hq => List.mem_append_right _ hq))
  · rcases List.mem_append.mp hq with hq | hq
    · exact ⟨(hmem q hq).1, (N _ (hI0.2 q hq)).2⟩
    · exact N' q hq
  · by_cases hm : q.1 ∈ its.map (·.1)
    · obtain ⟨x, hx, e⟩ := List.mem_map.mp hm
      obtain ⟨qa, qo⟩ := q
      obtain ⟨xa, xo⟩ := x
      have e' : xa = qa := e
      subst e'
      have := same_of N hq (hI0.2 _ hx)
      subst this
      exact List.mem_append_left _ hx
    · exact List.mem_append_right _ (K' q (kf q hq hm) (hκ q hk))
theorem refused_T {l : List Pr} {i : Nat} (hκ : ∀ q, κ q → isDict q.2 = false) (hI : ∀ led, I led → TabIn led) (hI' : ∀ led0 led, I led0 → Keeps led0 led → TabIn led → I led) (XB : (hd0.heap_1 w.params).In C.base) (TB : Top C.pq C.lq C.mean C.mg C.mb C.base) (CD : CodeHd C.h₀ 236 232) (hout : C.outer = []) (hB : BadL l i) (hi : i < l.length) (hx : ∀ q ∈ l, q.2.length ≤ 1000) (hz : l.length ≤ 1000) (hr : Room C 21) :
    CallC C I 549 [.vt (tv l), .int i] (.val (.bool true)) I := CallC.ofK fun {m s led vs Q} F N o hI0 hret => by
  refine o.l2 fun v u e9 o1 h91 => ?_
  subst e9
  obtain ⟨t, e⟩ := h91
  subst e
  obtain ⟨la, e1, lA⟩ := lp_of_on o1
  subst e1
  have hBB := C.B
  rw [hout] at hBB
  rw [hout]
  exact refused_spec hBB F C.X N C.T C.hk XB TB CD lA (hI _ hI0) hB hi hx hz hr.1 hr.2 fun led' h' tk' F' N' K' T' => hret _ h' tk' led' F' N' (fun q hq hk => K' q hq (hκ q hk)) (hI' _ _ hI0 K' T') rfl
end
end
section
open PySem PySem.W PySem.Spec PySem.Calls PyProof.Rows
-- the law's body ahead of the pen: nothing is asked of what it leaves
structure Lx {w : World} {κ : Addr × Obj → Prop} {f : Fn} (C : Cx w κ f) (lv : List (PySem.Str × AV)) (I : List (Addr × Obj) → Prop) (b : List Stmt) (R : Flow → List (Addr × Obj) → Shared → Prop) : Prop where
  h : ∀ led s, St C lv I led s → wpAny (model P0 w) C.A (execs b C.env) (fun fl s' => ∃ led', R fl led' s') NoE s
section
variable {w : World} {κ : Addr × Obj → Prop} {f : Fn} {C : Cx w κ f} {lv lv1 : List (PySem.Str × AV)} {I I1 : List (Addr × Obj) → Prop} {rest : List Stmt} {R : Flow → List (Addr × Obj) → Shared → Prop}
theorem Lx.go {st : Stmt} (h : Go1 C lv I st lv1 I1) (r : Lx C lv1 I1 rest R) : Lx C lv I (st :: rest) R := ⟨fun led s hs => wpAny_execs_cons (h.to hs fun fl s1 led1 k1 hs1 e => by subst e; exact r.h _ _ hs1)⟩
end
section
variable {w : World} {f : Fn} {lv lv1 : List (PySem.Str × AV)} {rest : List Stmt} {R : Flow → List (Addr × Obj) → Shared → Prop} {pc : Addr} {sa : Addr} {vs : List Value} {zs0 : List Int}
inductive PenR {κ : Addr × Obj → Prop} {w : World} {f : Fn} (C : Cx w κ f) (m : PySem.Str → Option Value) (led : List (Addr × Obj)) (s : Shared) (v : Value) (s' : Shared) : Prop
  | mk (pa ca : Addr) (cs : List Int) (led' : List (Addr × Obj)) (h' : Heap) (tk' : Nat) : v = .ref pa → s' = { s with heap := h', toks := tk' } → PenAt pa ca 0 0 cs led' → Fr C.h₀ C.L h' m → News C.h₀ C.L h' led' → (∀ q ∈ led, q ∈ led') → (∀ q ∈ led, q.1 ≠ pa) → PenR C m led s v s'
theorem pen_call {κ : Addr × Obj → Prop} {C : Cx w κ f} {m : PySem.Str → Option Value} {led : List (Addr × Obj)} {s : Shared} (F : Fr C.h₀ C.L s.heap m) (N : News C.h₀ C.L s.heap led) (hS : C.h₀.IsList sa (List.toArray vs)) (hi : IntsAre vs zs0) (hz : zs0.length ≤ 63) (hr : Room C 2) :
    wpAny (model P0 w) C.A (call (.ref 504) [.ref sa]) (fun v s' => PenR C m led s v s') NoE s := by
  rw [C.top]
  exact pen_spec C.B F C.X N C.T C.hk hS hi hz hr.1 hr.2 fun pa ca cs led' h' tk' P F' N' S' nf => ⟨pa, ca, cs, led', h', tk', rfl, rfl, P, F', N', S', nf⟩
theorem Lx.pen {C : Cx w KD f} {p' p1 p2 p3 pos : Pos} (hS : C.h₀.IsList sa (List.toArray vs)) (hi : IntsAre vs zs0) (hz : zs0.length ≤ 63) (hr : Room C 2) (hsc : (("script", .val (.ref sa)) : PySem.Str × AV) ∈ lv) (hpc : C.cl.lookup ("pen" : PySem.Str) = some pc) (hg : nsIn (hd0.heap_1 w.params) mainGlobals "_law_pen" = some (some (.ref 504))) (hk : keepIn (hd0.heap_1 w.params) (.ref 504) = true)
    (k : ∀ pa ca zs, Apart pc pa → Sx (C.as (KO KD pa) (hKO C.hκ)) lv (L1 pc pa ca zs 0) rest R) (hkp : C.env.kindOf "pen" = some .cell := by rfl) (hks : C.env.kindOf "script" = some .local := by rfl) (hkf : C.env.kindOf "_law_pen" = some .globalImplicit := by rfl) (hsw : swapsWith (.Call (.Name "_law_pen" p1) [.Name "script" p2] [] p3) (some (.Name "pen" p')) pos.line C.env = pure false := by rfl) :
    Lx C lv (L0 pc) (.Assign [.Name "pen" p'] (.Call (.Name "_law_pen" p1) [.Name "script" p2] [] p3) pos :: rest) R := ⟨fun led s hs => by
  have hA : Evs C lv (L0 pc) [.Name "script" p2] [.val (.ref sa)] (L0 pc) := .cons (Ev.loc hsc hks) .nil
  refine wpAny_execs_cons (wpAny_Assign_Name (Call_ ((Ev.glo (C := C) (lv := lv) (I := L0 pc) hg hkf).to hs fun fv s0 led0 k0 hs0 o0 => ?_) (fcall_eq _ _ _ _ _)) hsw)
  have o0' : fv = .ref 504 := o0
  subst o0'
  refine callWith_K C.X hk ((hA.h p3).to hs0 fun us s1 led1 k1 hs1 o1 => ⟨hs1.X, ?_⟩) hA.s1 hA.s2
  refine o1.l1 fun u e9 e => ?_
  subst e9
  have e' : u = .ref sa := e
  subst e'
  refine hs1.m fun m F hl => ?_
  obtain ⟨oc, vc, c1, c2⟩ := hs1.I.cel
  refine wpAny_mono (pen_call F hs1.N hS hi hz hr) (fun v s2 p => ?_) fun _ _ e => e.elim
  obtain ⟨pa, ca, cs, led', h', tk', rfl, rfl, P, F', N', S', nf⟩ := p
  have c1' := S' _ c1
  refine storeX_C F' (News.front N' c1') hpc (UpdF.head (front_off _ _)) c2 ?_ C.hk hkp
  intro h2 o' F2 N2 d'
  have ncell : ∀ q ∈ led1, (∀ v, q.2.data ≠ .cell v) → q.1 ≠ pc := fun q hq hn e => by
    obtain ⟨qa, qo⟩ := q
    have e' : qa = pc := e
    subst e'
    rw [same_of hs1.N hq c1] at hn
    exact hn _ c2
  have keep : ∀ q ∈ led1, q.1 ≠ pc → q ∈ front pc o' led' := fun q hq hne => front_off_mem (S' q hq) hne
  have ap : Apart pc pa := ⟨nf _ c1, let ⟨ps, t1, _⟩ := hs1.I.tab; nf _ t1⟩
  obtain ⟨⟨t1, t2, n, vs, j, a1, a2, a3⟩, r1⟩ := id P
  have npc : ∀ a o, (a, o) ∈ led' → (∃ vs n, o.data = .seq vs n) → a ≠ pc := fun a o ho ⟨vs, n, hd⟩ e => by
    subst e
    rw [same_of N' ho c1', c2] at hd
    cases hd
  have h3 := (k pa ca cs ap).h (front pc o' led') { s1 with heap := h2, toks := tk' } ⟨hs1.same, N2, ⟨m, F2, fun q hq => ?_⟩, ⟨?_, ⟨o', .head _, d'⟩, ?_⟩⟩
  · exact wpAny_mono h3 (fun _ _ ⟨l, _, r⟩ => ⟨l, r⟩) fun _ _ e => e
  · obtain ⟨u, e1, e2⟩ := hl q hq
    exact ⟨u, e1, e2.sq (fun q hq ⟨vs, n, hd⟩ => keep q hq (ncell q hq fun v h => by rw [hd] at h; cases h)) fun q hq hk _ => ⟨hk, .inr (nf q hq)⟩⟩
  · obtain ⟨ps, t1, t2⟩ := hs1.I.tab
    exact ⟨ps, keep _ t1 (ncell _ t1 fun v h => by cases h), t2⟩
  · exact Pn.off ⟨0, 0, Int.le_refl _, P⟩ (npc _ _ a1 ⟨_, _, rfl⟩) (npc _ _ a2 ⟨_, _, rfl⟩) fun q hq hne => front_off_mem hq hne⟩
end
section
variable {w : World} {f : Fn} {pa ca pc : Addr} {C : Cx w (KO KD pa) f} {lv lv1 : List (PySem.Str × AV)} {rest : List Stmt} {R : Flow → List (Addr × Obj) → Shared → Prop} {zs : List Int} {b : Int}
theorem hpK {pa : Addr} : ∀ q, KO KD pa q → isTL q.2 ∨ q.1 ≠ pa := fun _ h => h.2
theorem exX {α β : Sort _} {a b c d e : α → Prop} {p : β → Prop} {x : α → β → Prop} {G : Prop} (h : ∃ l, a l ∧ b l ∧ c l ∧ d l ∧ e l ∧ ∃ V, p V ∧ x l V) (k : ∀ l V, a l → b l → c l → d l → e l → p V → x l V → G) : G :=
  h.elim fun l h => h.2.2.2.2.2.elim fun V q => k l V h.1 h.2.1 h.2.2.1 h.2.2.2.1 h.2.2.2.2.1 q.1 q.2
theorem exXR {α β : Sort _} {a b c d e r : α → Prop} {p : β → Prop} {x : α → β → Prop} {G : Prop} (h : ∃ l, a l ∧ b l ∧ c l ∧ d l ∧ e l ∧ (∃ V, p V ∧ x l V) ∧ r l) (k : ∀ l V, a l → b l → c l → d l → e l → p V → x l V → r l → G) : G :=
  h.elim fun l h => h.2.2.2.2.2.1.elim fun V q => k l V h.1 h.2.1 h.2.2.1 h.2.2.2.1 h.2.2.2.2.1 q.1 q.2 h.2.2.2.2.2.2
inductive GIv (pc pa ca : Addr) (zs : List Int) (b : Int) (led : List (Addr × Obj)) (i : Nat) (ys : List Value) (led2 : List (Addr × Obj)) : Prop
  | mk (gs : List Grp) : gs.length = i → (∀ g ∈ gs, g.ks ≠ [] ∧ g.ks.length ≤ 3) → Kr (KO KD pa) led led2 → L1 pc pa ca zs (b + 1 + 7 * (i : Int)) led2 → VVs (fl (KO KD pa) led2) ys (gs.map grpV) → GIv pc pa ca zs b led i ys led2
theorem comp_law {x y : PySem.Str} {px py p1 p2 p3 q1 q2 q3 q4 q5 q6 q7 q8 pos spos : Pos} {n1 n2 : Nat} {scope : Scope} {cl' : List (PySem.Str × Addr)} (ap : Apart pc pa) (hout : C.outer = []) (hr : Room C 6) (hb : b ≤ 700) (hpc : C.cl.lookup ("pen" : PySem.Str) = some pc) (hcl : cl'.lookup ("pen" : PySem.Str) = some pc) (hclos : closureFor scope C.env = pure cl')
    (g1 : nsIn (hd0.heap_1 w.params) mainGlobals "range" = some none) (g2 : nsIn (hd0.heap_1 w.params) mainGlobals "_law_draw" = some (some (.ref 511))) (g3 : nsIn (hd0.heap_1 w.params) mainGlobals "_law_group" = some (some (.ref 556))) (k2 : keepIn (hd0.heap_1 w.params) (.ref 511) = true) (k3 : keepIn (hd0.heap_1 w.params) (.ref 556) = true)
    (hcell : ∀ z ∈ scope.names, z.2 ≠ .cell) (hkind : scope.kind = .function) (hnames : ∀ z ∈ scope.names, z.2 = .local → scope.names.lookup z.1 = some .local) (hx : scope.names.lookup x = some .local) (nd : NoDup lv)
    (k : ∀ gs : List Grp, gs ≠ [] → gs.length ≤ 3 → (∀ g ∈ gs, g.ks ≠ [] ∧ g.ks.length ≤ 3) → ∃ lv1, SetTo y (.vt (.lst (gs.map grpV))) lv lv1 ∧ Sx C lv1 (L1 pc pa ca zs (b + 22)) rest R)
    (hsw : swapsWith (.ListComp (.Call (.Name "_law_group" p1) [.Name "pen" p2] [] p3) [⟨.Name x px, .Call (.Name "range" q1) [.BinOp (.Constant (.int 1) n1 q2) .Add (.Call (.Name "_law_draw" q3) [.Name "pen" q4, .Constant (.int 3) n2 q5] [] q6) q7] [] q8, [], 0⟩] scope pos) (some (.Name y py)) spos.line C.env = pure true)
    (hkc : ∀ C0, (compEnvC scope cl' C0 C.env).kindOf "pen" = some .cell) (hkg : ∀ C0, (compEnvC scope cl' C0 C.env).kindOf "_law_group" = some .globalImplicit) (hks : ∀ C0, (compEnvC scope cl' C0 C.env).scope.kind = .function)
    (hy : C.env.kindOf y = some .local := by rfl) (hkp : C.env.kindOf "pen" = some .cell := by rfl) (hkr : C.env.kindOf "range" = some .globalImplicit := by rfl) (hkd : C.env.kindOf "_law_draw" = some .globalImplicit := by rfl) :
    Sx C lv (L1 pc pa ca zs b) (.Assign [.Name y py] (.ListComp (.Call (.Name "_law_group" p1) [.Name "pen" p2] [] p3) [⟨.Name x px, .Call (.Name "range" q1) [.BinOp (.Constant (.int 1) n1 q2) .Add (.Call (.Name "_law_draw" q3) [.Name "pen" q4, .Constant (.int 3) n2 q5] [] q6) q7] [] q8, [], 0⟩] scope pos) spos :: rest) R := ⟨fun led s hs => by
  have hck := C.hk
  refine hs.m fun m F hl => ?_
  refine hs.I.cel.h.elim fun oc hoc => ?_
  have c1 := hoc.1
  have c2 := hoc.2
  refine wpAny_execs_cons (AsgComp_S F rfl hsw hclos hcell hkind hnames hx hy (by show (f.scope.kind == .class || (f.scope.kind == .module && C.L != mainGlobals)) = false; rw [hck]; rfl) ?_)
  refine Call_ (nameX_B F C.X (topRead_of C.T) g1 boot_range (by decide) ?_ C.hk hkr (by decide +kernel)) (fcall_eq _ _ _ _ _)
  refine PyProof.Rows.callWith_type1 (args_cons ?_ (star1 rfl)) (star1 rfl) rfl
  refine wpAny_BinOp (wpAny_Constant_int ?_)
  refine Call_ (nameX_K F C.X (topRead_of C.T) g2 ?_ C.hk hkd (by decide +kernel)) (fcall_eq _ _ _ _ _)
  refine callWith_K C.X k2 (args_cons (nameX_C hs.N hpc c1 c2 (args_cons (wpAny_Constant_int (args_nil ⟨hs.X, ?_⟩)) (star1 rfl)) C.hk hkp (by decide +kernel)) (star1 rfl)) (star1 rfl) rfl
  refine wpAny_mono ((draw_T (I1 := L1 pc pa ca zs (b + 1)) hpK L1.pn (L1.draw ap) (by decide) (by decide) (by omega) (hr.le rfl)).h m _ led _ hs.same F hs.N hs.I ⟨rfl, ⟨_, rfl⟩, trivial⟩) (fun v s1 p => ?_) fun _ _ e => e.elim
  refine exX p fun led1 V kr1 sm1 F1 N1 I1 pV o => pV.elim fun d hd => ?_
  have d0 := hd.1.1
  have d3 := hd.1.2
  have eV := hd.2
  clear hd pV p
  subst eV
  have hl1 : ∀ q ∈ lv, ∃ v, m q.1 = some v ∧ q.2.On (KO KD pa) led1 v := fun q hq => let ⟨u, e1, e2⟩ := hl q hq; ⟨u, e1, e2.kr C kr1⟩
  refine VV.dtI o fun t9 e9 => ?_
  · subst e9
    refine add_int (args_nil ?_)
    refine range1_rows F1 N1 fun h' tk t1 u1 v1 hR F' N' _ => ?_
    refine (range_of d0 d3).elim fun n hn => an4 hn fun n1 n3 sm rs => ?_
    clear hn
    refine ⟨LCg.CompSrc.range C.hh F' N' hR sm rs (Nat.le_trans n3 (by decide)) fun g => ?_⟩
    have key : ∀ (Fin : List Value → List (Addr × Obj) → Prop), (∀ ys led2, GIv pc pa ca zs b led n ys led2 → Fin ys led2) → ∀ (k i : Nat) (ys : List Value) (led2 : List (Addr × Obj)), i + k = n → GIv pc pa ca zs b led i ys led2 →
        LCg.CompRest P0 w C.A C.h₀ C.L m C.env (.Call (.Name "_law_group" p1) [.Name "pen" p2] [] p3) x scope cl' { s1 with heap := g, toks := tk } (fun _ => True) (fun i v => ∃ t, v = .int (0 + (i : Int)) t) Fin k i ys led2 := by
      intro Fin hfin kk
      induction kk with
      | zero =>
        intro i ys led2 hi hG
        rw [Nat.add_zero] at hi
        subst hi
        exact LCg.CompRest.zero (hfin _ _ hG)
      | succ kk ih =>
        rintro i ys led2 hi ⟨gs, e1, e2, e3, e4, e5⟩
        refine LCg.CompRest.succ ?_
        intro v I oI C0 oC D m2 h tk9 E' hv hC hx F3 N3 off ne
        have N4 : News C.h₀ C.L h led2 := fun q hq => N3 q (.tail _ (.tail _ (.tail _ hq)))
        refine e4.cel.h.elim fun oc2 hoc2 => ?_
        have c3 := hoc2.1
        have c4 := hoc2.2
        refine wpAny_mono (E := NoE) ?_ (fun _ _ e => e) (fun _ _ e => e.elim)
        refine Call_ (LCgL.ld_global F3 C.X C.T g3 ?_ rfl (hks C0) (hkg C0) (by decide +kernel)) (fcall_eq _ _ _ _ _)
        refine callWith_K C.X k3 (args_cons (lcf_cell N4 hcl c3 c4 (args_nil ⟨C.X.keeps F3.keep, ?_⟩) (hks C0) (hkc C0) (by decide +kernel)) (star1 rfl)) (star1 rfl) rfl
        refine wpAny_mono ((group_T (I1 := L1 pc pa ca zs (b + 1 + 7 * ((i + 1 : Nat) : Int))) hpK GI.l1 L1.pn (fun led1 led h k1 k2 p => L1.draw ap led1 led h k1 k2 (p.le (by omega))) (by omega) hout (hr.le rfl)).h m [.ref pa] led2 { s1 with heap := h, toks := tk9 } sm1 F3 N4 e4 ⟨rfl, trivial⟩) (fun v s4 p => ?_) fun _ _ e => e.elim
        refine exXR p fun led4 V kr4 sm4 F4 N5 I4 pV ho rr => pV.elim fun gg hgg => an3 hgg fun g4 g5 eV => ?_
        clear hgg pV p
        subst eV
        have offm := off.mem
        have f1 := rr I oI (N3 (I, oI) (.head _)).1 fun hm => by
          obtain ⟨q, hq, e⟩ := List.mem_map.mp hm
          exact (offm q hq).1 e
        have f2 := rr C0 oC (N3 (C0, oC) (.tail _ (.head _))).1 fun hm => by
          obtain ⟨q, hq, e⟩ := List.mem_map.mp hm
          exact (offm q hq).2.1 e
        have f3 := rr D (LCg.lst ys) (N3 (D, LCg.lst ys) (.tail _ (.tail _ (.head _)))).1 fun hm => by
          obtain ⟨q, hq, e⟩ := List.mem_map.mp hm
          exact (offm q hq).2.2 e
        refine ⟨s4.heap, s4.toks, led4, Same.eq (g := C.g) sm1 sm4, F4, fun q hq => ?_, LCg.Off3.of fun q hq => ⟨f1.2 q hq, f2.2 q hq, f3.2 q hq⟩, trivial, ih (i + 1) _ _ (by omega) ⟨gs ++ [gg], by simp [e1], fun g hg => ?_, e3.trans kr4, I4, ?_⟩⟩
        · rcases List.mem_cons.mp hq with rfl | hq
          · exact ⟨f1.1, (N3 _ (.head _)).2⟩
          · rcases List.mem_cons.mp hq with rfl | hq
            · exact ⟨f2.1, (N3 _ (.tail _ (.head _))).2⟩
            · rcases List.mem_cons.mp hq with rfl | hq
              · exact ⟨f3.1, (N3 _ (.tail _ (.tail _ (.head _)))).2⟩
              · exact N5 q hq
        · rcases List.mem_append.mp hg with hg | hg
          · exact e2 g hg
          · rw [List.mem_singleton.mp hg]; exact ⟨g4, g5⟩
        · rw [List.map_append]
          exact (e5.kr kr4).snoc ho
    refine key _ (fun ys led2 hG => ?_) n 0 [] led1 (Nat.zero_add _) ⟨[], rfl, (fun _ h => nomatch h), kr1, L1.le (by omega) _ I1, .nil⟩
    · obtain ⟨gs, e1, e2, e3, e4, e5⟩ := hG
      unfold LCg.FinA
      intro D h tk9 F3 N3 o1
      obtain ⟨lv1, h2, r⟩ := k gs (fun e => by subst e; simp at e1; omega) (by omega) e2
      have hD : D ≠ pa := fun e => by
        obtain ⟨⟨o, ho⟩, _⟩ := e4.pen.at
        exact off1_mem o1 _ ho e.symm
      exact r.next ⟨sm1, N3, ⟨_, F3, set_lv h2 nd (fun q hq => let ⟨u, e1, e2⟩ := hl q hq; ⟨u, e1, (e2.kr C e3).cons⟩) (.lst (mem_fl.mpr ⟨.head _, rfl, .inr hD⟩) (e5.kr Kr.cons))⟩, GI.l1.mono _ _ (L1.le (by omega) _ e4) fun _ hq => .tail _ hq⟩ (e3.trans Kr.cons)⟩
end
end
section
open PySem PySem.W PySem.Spec PySem.Calls PyProof.Rows
section
variable {w : World} {κ : Addr × Obj → Prop} {f : Fn} {C : Cx w κ f} {lv lv' lv1 lv2 lv3 : List (PySem.Str × AV)} {I I1 I2 I' : List (Addr × Obj) → Prop} {led led1 : List (Addr × Obj)} {s : Shared} {S : Addr → Prop} {R : Flow → List (Addr × Obj) → Shared → Prop} {rest : List Stmt}
theorem Sx.unpack4own {lv4 : Addr → List (PySem.Str × AV)} {x1 x2 x3 x4 : PySem.Str} {p1 p2 p3 p4 tp pos pe : Pos} {k k2 : Nat} {es : List PySem.Expr} {a1 a2 a3 : AV} {Vs : List Vt} (G : GI κ S I1) (h : EvsO C lv I es [a1, a2, a3] Vs I1) (h1 : SetTo x1 a1 lv lv1) (h2 : SetTo x2 a2 lv1 lv2) (h3 : SetTo x3 a3 lv2 lv3) (h4 : ∀ a, SetTo x4 (.val (.ref a)) lv3 (lv4 a)) (nd : NoDup lv) (nd1 : NoDup lv1) (nd2 : NoDup lv2) (nd3 : NoDup lv3)
    (kk : ∀ a, ¬ S a → (∀ o, isDict o = false → κ (a, o)) → Sx (C.as (KO κ a) (hKO C.hκ)) (lv4 a) (JO κ a I1 Vs) rest R) (hx1 : C.env.kindOf x1 = some .local := by rfl) (hx2 : C.env.kindOf x2 = some .local := by rfl) (hx3 : C.env.kindOf x3 = some .local := by rfl) (hx4 : C.env.kindOf x4 = some .local := by rfl)
    (hs1 : swapsWithSole [.Tuple [.Name x1 p1, .Name x2 p2, .Name x3 p3, .Name x4 p4] k tp] (.Tuple es k2 pe) pos.line C.env = pure false := by rfl) (hs2 : swappedStores [.Tuple [.Name x1 p1, .Name x2 p2, .Name x3 p3, .Name x4 p4] k tp] (.Tuple es k2 pe) C.env = pure none := by rfl) : Sx C lv I (.Assign [.Tuple [.Name x1 p1, .Name x2 p2, .Name x3 p3, .Name x4 p4] k tp] (.Tuple es k2 pe) pos :: rest) R := ⟨fun led s hs =>
  wpAny_execs_cons (Assign_Tuple (Tuple_ (wpAny_mono (h.h pe led s hs) (fun vs s1 ⟨us, a, ws, n, led1, e, k1, hF, o, hv⟩ => by
    refine o.l3 fun v1 v2 v3 e9 o1 o2 o3 => ?_
    subst e9
    subst e
    refine hF.m fun m F hl => ?_
    refine kup_newTuple F hF.N (fun D h' F' N' l' => ?_) (by show 4 ≤ sizeLine; decide)
    refine unpackN_ F' N' (News.isTup N' (.head _)) C.hh rfl rfl fun h'' F'' N'' => ?_
    have sub : ∀ q ∈ led1, q ∈ (D, ({ cls := .type "tuple", data := .seq (List.toArray ([v1, v2, v3] ++ [Value.ref a])) } : Obj)) :: (a, lstO ws n) :: led1 := fun q hq => .tail _ (.tail _ hq)
    have up : ∀ {x : AV} {v : Value}, x.On κ led1 v → x.On (KO κ a) ((D, ({ cls := .type "tuple", data := .seq (List.toArray ([v1, v2, v3] ++ [Value.ref a])) } : Obj)) :: (a, lstO ws n) :: led1) v := fun h => ((h.own hF.lt).cons).cons
    have hs3 : St (C.as (KO κ a) (hKO C.hκ)) lv (JO κ a I1 Vs) ((D, ({ cls := .type "tuple", data := .seq (List.toArray ([v1, v2, v3] ++ [Value.ref a])) } : Obj)) :: (a, lstO ws n) :: led1) { s1 with heap := h'' } := ⟨hF.same, N'', ⟨m, F'', fun q hq => let ⟨u, e1, e2⟩ := hl q hq; ⟨u, e1, up e2⟩⟩, G.mono _ _ hF.I sub, by
      obtain ⟨vs, n, a1, a2⟩ := (Own.mk' (n := n) hv hF.lt).ex
      exact ⟨vs, n, .tail _ a1, a2.sub (Kr.fl Kr.cons)⟩⟩
    refine assignInOrder_cons (assign_Name (store_lv (C := C.as (KO κ a) (hKO C.hκ)) hs3 h1 nd (up o1) hx1 fun s4 hs4 => ?_))
    refine assignInOrder_cons (assign_Name (store_lv (C := C.as (KO κ a) (hKO C.hκ)) hs4 h2 nd1 (up o2) hx2 fun s5 hs5 => ?_))
    refine assignInOrder_cons (assign_Name (store_lv (C := C.as (KO κ a) (hKO C.hκ)) hs5 h3 nd2 (up o3) hx3 fun s6 hs6 => ?_))
    refine assignInOrder_cons (assign_Name (store_lv (C := C.as (KO κ a) (hKO C.hκ)) hs6 (h4 a) nd3 rfl hx4 fun s7 hs7 => ?_))
    refine assignInOrder_nil (wpAny_mono ((kk a (G.ns hF.I hF.lt) fun o ho => G.frs _ _ _ hF.I (fun q hq => Nat.ne_of_lt (hF.lt q hq)) ho).h _ _ hs7) (fun fl s7 ⟨led3, k3, r⟩ => ⟨led3, k1.trans fun q hq e => k3 q (sub q hq) ⟨e, .inr (Nat.ne_of_lt (hF.lt q hq))⟩, r⟩) fun _ _ e => e)) fun _ _ e => e)) hs1 hs2)⟩
end
section
variable {w : World} {κ : Addr × Obj → Prop} {a : Addr} {f : Fn} {C : Cx w (KO κ a) f} {lv : List (PySem.Str × AV)} {I0 : List (Addr × Obj) → Prop} {S : Addr → Prop} {R : Flow → List (Addr × Obj) → Shared → Prop} {rst body : List Stmt}
abbrev SE (S : Addr → Prop) (a : Addr) (x : Addr) : Prop := (S x ∨ x ∈ ([] : List (Addr × Obj)).map (·.1)) ∨ x = a
inductive StE {w : World} {κ : Addr × Obj → Prop} {f : Fn} (C : Cx w κ f) (x0 x1 x2 x3 : PySem.Str) (lv : List (PySem.Str × AV)) (i : Nat) (V : Vt) (J : List (Addr × Obj) → Prop) (body : List Stmt) (R : Flow → List (Addr × Obj) → Shared → Prop) : Prop
  | mk (V1 V2 V3 : Vt) (a1 a2 a3 : AV) (lv1 lv2 lv3 lv4 : List (PySem.Str × AV)) : V = .tup [V1, V2, V3] → AvOk V1 a1 → AvOk V2 a2 → AvOk V3 a3 → SetTo x0 (.int (i : Int)) lv lv1 → SetTo x1 a1 lv1 lv2 → SetTo x2 a2 lv2 lv3 → SetTo x3 a3 lv3 lv4 → NoDup lv → NoDup lv1 → NoDup lv2 → NoDup lv3 → Sx C lv4 J body R → StE C x0 x1 x2 x3 lv i V J body R
theorem Sx.forE {x0 x1 x2 x3 : PySem.Str} {p0 p1 p2 p3 tp0 tp1 pe pc pos : Pos} {k0 k1 : Nat} {e : PySem.Expr} {Vs : List Vt} {lvN : Nat → List (PySem.Str × AV)} {W : Nat → List Vt} (G : GI κ S I0) (h : Ev C lv (JO κ a I0 (W 0)) e (.vt (.lst Vs)) (JO κ a I0 (W 0))) (l0 : lvN 0 = lv) (he : nsIn (hd0.heap_1 w.params) mainGlobals "enumerate" = some none) (hbe : bootBuiltins "enumerate" = some (.type "enumerate"))
    (step : ∀ (its : List (Addr × Obj)) (i : Nat) (V : Vt), Its (SE S a) its → Vs[i]? = some V → StE C x0 x1 x2 x3 (lvN i) i V (JO κ a (II I0 its) (W i)) body (fun fl led s => fl = .next ∧ St C (lvN (i + 1)) (JO κ a (II I0 its) (W (i + 1))) led s))
    (rest : Sx C (lvN Vs.length) (JO κ a I0 (W Vs.length)) rst R) (hx0 : C.env.kindOf x0 = some .local := by rfl) (hx1 : C.env.kindOf x1 = some .local := by rfl) (hx2 : C.env.kindOf x2 = some .local := by rfl) (hx3 : C.env.kindOf x3 = some .local := by rfl) (hke : C.env.kindOf "enumerate" = some .globalImplicit := by rfl) (ns : notStar e = true := by rfl) (hf : ∀ y, foldedSetIterable (.Call (.Name "enumerate" pe) [e] [] pc) C.env y = pure y := by intro _; rfl) :
    Sx C lv (JO κ a I0 (W 0)) (.For (.Tuple [.Name x0 p0, .Tuple [.Name x1 p1, .Name x2 p2, .Name x3 p3] k1 tp1] k0 tp0) (.Call (.Name "enumerate" pe) [e] [] pc) body [] pos :: rst) R := ⟨fun led s hs => by
  refine hs.m fun m0 F0 _ => ?_
  refine wpAny_execs_cons (For_turns (h₀ := C.h₀) (m := m0) F0 (Call_ ((Ev.blt (v := .type "enumerate") he hbe (by decide) hke).to hs fun fv s0 led0 kk0 hs0 o0 => ?_) (fcall_eq _ _ _ _ _)) hf PassesOwn.never)
  have o0' : fv = .type "enumerate" := o0
  subst o0'
  refine PyProof.Rows.callWith_type1 (args_cons (h.to hs0 fun v s1 led1 kk1 hs1 o => args_nil ?_) (star1 ns)) (star1 ns) rfl
  have o' : VV (fl (KO κ a) led1) v (.lst Vs) := o
  refine o'.lstE fun ax vs n ev m1 q1 => ?_
  · subst ev
    refine hs1.m fun m F hl => ?_
    have hm1 := mem_fl.mp m1
    have GG : ∀ (i : Nat) (t : Unit), True → GI (KO κ a) (SE S a) (JO κ a (II I0 []) (W i)) := fun i t _ => G.its.own
    have HI : ∀ (its : List (Addr × Obj)) (i : Nat) (t : Unit) (led : List (Addr × Obj)), JO κ a (II I0 its) (W i) led ↔ JO κ a (II I0 []) (W i) led ∧ ∀ q ∈ its, q ∈ led := fun its i t led => jo_its its led
    have hj0 : JO κ a (II I0 []) (W 0) led1 := ⟨⟨hs1.I.1, fun _ h => nomatch h⟩, hs1.I.2⟩
    refine ktu_enum C.hh F hs1.N hm1.1 rfl rfl rfl fun Ia hlt => ?_
    have key : ∀ (us : List Value) (i : Nat) (m2 : PySem.Str → Option Value) (led2 : List (Addr × Obj)), vs.drop i = us → i + us.length = vs.length → JJ (KO κ a) (σ := Unit) (fun _ _ => True) (fun i _ => lvN i) (fun i _ => JO κ a (II I0 []) (W i)) led1 i m2 led2 →
        ItemsRest P0 w C.A NoE C.h₀ C.env (.Tuple [.Name x0 p0, .Tuple [.Name x1 p1, .Name x2 p2, .Name x3 p3] k1 tp1] k0 tp0) body (fun f s' => match f with | .next => wpAny (model P0 w) C.A (execs rst C.env) (fun fl s' => ∃ led', Kr (KO κ a) led led' ∧ R fl led' s') NoE s' | f => (fun fl s' => ∃ led', Kr (KO κ a) led led' ∧ R fl led' s') f s') s1 [(Ia + 1, "enumerate"), (Ia, "list_iterator")] [(ax, lstO vs n)] (enumItems i us) m2 led2 := by
      intro us
      induction us with
      | nil =>
        intro i m2 led2 hd hi hJ
        refine hJ.e fun t _ kr hl2 hj => ItemsRest.zero fun h tk F3 N3 => ?_
        have e : i = Vs.length := by rw [← q1.len]; simpa using hi
        subst e
        exact rest.next ⟨hs1.same, N3, ⟨m2, F3, hl2⟩, ⟨hj.1.1, hj.2⟩⟩ ((kk0.trans kk1).trans kr)
      | cons v us ih =>
        intro i m2 led2 hd hi hJ
        refine hJ.e fun t _ kr hl2 hj => ?_
        have hv : vs[i]? = some v := by
          have := congrArg (fun l => l[0]?) hd
          simpa using this
        refine (q1.at' hv).elim fun V hV' => ?_
        have hV := hV'.1
        have hov := hV'.2
        refine ItemsRest.pair fun T t3 h tk hT F3 => AllObj.cons fun o1 hc1 => AllObj.cons fun o2 hc2 => AllObj.nil fun N3 => ?_
        have hits : Its (SE S a) [(Ia + 1, o1), (Ia, o2)] := ⟨fun q hq => by
          have nsI : ∀ {x : Addr}, Ia ≤ x → ¬ SE S a x := fun {x} hx hS => by
            obtain ⟨o, ho⟩ := (GG 0 () trivial).sin _ _ hj0 hS
            exact absurd (Nat.lt_of_lt_of_le (hlt _ ho) hx) (Nat.lt_irrefl _)
          rcases List.mem_cons.mp hq with rfl | hq
          · exact ⟨nsI (Nat.le_succ _), not_lt (c := "enumerate") hc1 (by decide) (by decide)⟩
          · rw [List.mem_singleton.mp hq]
            exact ⟨nsI (Nat.le_refl _), not_lt (c := "list_iterator") hc2 (by decide) (by decide)⟩⟩
        obtain ⟨V1, V2, V3, a1, a2, a3, lv1, lv2, lv3, lv4, eV, kA, kB, kC, s1', s2', s3', s4', n0, n1, n2, n3, r⟩ := step _ i V hits hV
        subst eV
        have hov2 : VV (fl (KO κ a) ([(Ia + 1, o1), (Ia, o2)] ++ led2)) v (.tup [V1, V2, V3]) := (hov.kr kr).sub (Kr.fl fun q hq _ => List.mem_append_right _ hq)
        refine hov2.tup3 fun t9 n9 x91 x92 x93 e9 hm d1 d2 d3 => ?_
        subst e9
        have hs2 : St C (lvN i) (JO κ a (II I0 [(Ia + 1, o1), (Ia, o2)]) (W i)) ([(Ia + 1, o1), (Ia, o2)] ++ led2) { s1 with heap := h, toks := tk } := ⟨hs1.same, N3, ⟨m2, F3, fun q hq => let ⟨u, e1, e2⟩ := hl2 q hq; ⟨u, e1, e2.cons.cons⟩⟩, (HI _ _ () _).mpr ⟨(GG i () trivial).mono _ _ hj fun _ hq => List.mem_append_right _ hq, fun q hq => List.mem_append_left _ hq⟩⟩
        refine unpackN_ F3 N3 hT C.hh rfl rfl fun h' F' N' => ?_
        have hs3 : St C (lvN i) (JO κ a (II I0 [(Ia + 1, o1), (Ia, o2)]) (W i)) ([(Ia + 1, o1), (Ia, o2)] ++ led2) { s1 with heap := h', toks := tk } := ⟨hs1.same, N', ⟨m2, F', let ⟨m9, F9, h9⟩ := hs2.F; fun q hq => let ⟨u, e1, e2⟩ := hl2 q hq; ⟨u, e1, e2.cons.cons⟩⟩, hs2.I⟩
        refine assignInOrder_cons (assign_Name (store_lv hs3 s1' n0 ⟨t3, rfl⟩ hx0 fun s4 hs4 => ?_))
        refine assignInOrder_cons ?_
        refine hs4.m fun m4 F4 hl4 => ?_
        refine unpackN_ (k := k1) F4 hs4.N (News.isTup hs4.N (mem_fl.mp hm).1) C.hh rfl rfl fun h5 F5 N5 => ?_
        have hs5 : St C lv1 (JO κ a (II I0 [(Ia + 1, o1), (Ia, o2)]) (W i)) ([(Ia + 1, o1), (Ia, o2)] ++ led2) { s4 with heap := h5 } := ⟨hs4.same, N5, ⟨m4, F5, hl4⟩, hs4.I⟩
        refine assignInOrder_cons (assign_Name (store_lv hs5 s2' n1 (kA _ _ _ d1) hx1 fun s6 hs6 => ?_))
        refine assignInOrder_cons (assign_Name (store_lv hs6 s3' n2 (kB _ _ _ d2) hx2 fun s7 hs7 => ?_))
        refine assignInOrder_cons (assign_Name (store_lv hs7 s4' n3 (kC _ _ _ d3) hx3 fun s8 hs8 => ?_))
        refine assignInOrder_nil (assignInOrder_nil ?_)
        refine wpAny_mono (r.h _ _ hs8) (fun f2 s9 ⟨led3, kr3, ef, hs9⟩ => ?_) fun _ _ e => e.elim
        subst ef
        refine ex4 (turn_J (Ds := [Ia + 1, Ia]) (s1 := { s1 with heap := h, toks := tk }) (σ := Unit) (P := fun _ _ => True) (lvσ := fun i _ => lvN i) (Iσ := fun its i _ => JO κ a (II I0 its) (W i)) GG HI hs1.same hits rfl (fun q hq hm => by
          have := hlt q hq
          rcases List.mem_cons.mp hm with e | hm
          · rw [e] at this; exact Nat.lt_irrefl _ (Nat.lt_trans (Nat.lt_succ_self _) this)
          · rw [List.mem_singleton.mp hm] at this; exact Nat.lt_irrefl _ this) kr kr3 ⟨(), trivial, hs9⟩) fun h' tk' m' led4 b => an5 b fun b1 b2 b3 b4 b5 => ?_
        have hax : (ax, lstO vs n) ∈ led4 := by
          exact b5.e fun _ _ k9 _ _ => k9 _ hm1.1 hm1.2
        refine ⟨h', tk', m', led4, b1, b2, b3, fun p hp q hq e => b4 p hp ?_, ⟨hax, trivial⟩, ih (i + 1) m' led4 ?_ ?_ b5⟩
        · rw [e]
          rcases List.mem_cons.mp hq with rfl | hq
          · exact .head _
          · rw [List.mem_singleton.mp hq]; exact .tail _ (.head _)
        · have := congrArg (List.drop 1) hd
          simpa [List.drop_drop, Nat.add_comm] using this
        · simp only [List.length_cons] at hi; omega
    exact key vs 0 m led1 rfl (by simp) ⟨(), trivial, Kr.refl _, by subst l0; exact hl, hj0⟩⟩
end
end
section
open PySem PySem.W PySem.Spec PySem.Calls PyProof.Rows
-- sizes, short texts, depths
def Sh (l : List Pr) : Prop := ∀ q ∈ l, q.2.length ≤ 1000
theorem Sh.app {a b : List Pr} (h : Sh a) (k : Sh b) : Sh (a ++ b) := fun q hq => (List.mem_append.mp hq).elim (h q) (k q)
theorem Sh.of {l : List Pr} (h : l.all (fun q => decide (q.2.length ≤ 1000)) = true) : Sh l := fun q hq => by simpa using List.all_eq_true.mp h q hq
theorem Kd.sh (k : Kd) : Sh k.toks := Sh.of (by cases k <;> decide)
theorem sh_flat {α : Type} {f : α → List Pr} {l : List α} (h : ∀ x ∈ l, Sh (f x)) : Sh (l.flatMap f) := fun q hq => by
  obtain ⟨x, hx, hq⟩ := List.mem_flatMap.mp hq
  exact h x hx q hq
theorem byT_sh (b : Bool) : Sh (byT b) := Sh.of (by cases b <;> decide)
theorem size_sh : Sh (delT none) := Sh.of (by decide)
theorem Grp.tail_sh (g : Grp) : Sh g.tail := by
  obtain ⟨ks, b, d⟩ := g
  unfold Grp.tail
  refine Sh.app (a := [_]) (Sh.of (by decide)) (Sh.app (byT_sh b) ?_)
  cases d with
  | none => exact size_sh
  | some k => exact k.sh
theorem Grp.toks_sh (g : Grp) : Sh g.toks := (sh_flat fun k _ => k.sh).app g.tail_sh
theorem gs_sh (gs : List Grp) : Sh (gs.flatMap Grp.toks) := sh_flat fun g _ => g.toks_sh
theorem Grp.tail_len (g : Grp) : g.tail.length ≤ 12 := by
  have h1 := byT_len g.b
  have h2 := delT_len g.d
  unfold Grp.tail
  simp only [List.length_cons, List.length_append]
  omega
abbrev Ok3 (g : Grp) : Prop := g.ks ≠ [] ∧ g.ks.length ≤ 3
theorem flat_le {α β : Type} (f : α → List β) (n : Nat) : ∀ (l : List α), (∀ x ∈ l, (f x).length ≤ n) → (l.flatMap f).length ≤ n * l.length
  | [], _ => by simp
  | x :: l, h => by
    have h1 := flat_le f n l fun y hy => h y (.tail _ hy)
    have h2 := h x (.head _)
    rw [List.flatMap_cons, List.length_append, List.length_cons, Nat.mul_add]
    omega
theorem Ok3.toks {g : Grp} (h : Ok3 g) : g.toks.length ≤ 42 := by
  have h1 := flat_len Kd.toks 10 Kd.toks_len g.ks
  have h2 := g.tail_len
  have h3 := h.2
  unfold Grp.toks
  rw [List.length_append]
  omega
theorem Ok3.rows {g : Grp} (h : Ok3 g) : g.rows.length ≤ 3 := by unfold Grp.rows; rw [List.length_map]; exact h.2
def sg (g : Grp) : List Pr := g.ks.flatMap fun k => k.toks ++ g.tail
theorem Ok3.sg {g : Grp} (h : Ok3 g) : (sg g).length ≤ 66 := by
  have h1 := flat_len (fun k => k.toks ++ g.tail) 22 (fun k => by
    have h1 := k.toks_len
    have h2 := g.tail_len
    simp only [List.length_append]
    omega) g.ks
  have h2 := h.2
  unfold Mine.sg
  omega
-- each text in a group of its own
def ones (g : Grp) : List Grp := g.ks.map fun k => ⟨[k], g.b, g.d⟩
theorem ones_toks (g : Grp) : (ones g).flatMap Grp.toks = sg g := by
  obtain ⟨ks, b, d⟩ := g
  unfold ones sg
  rw [List.flatMap_map]
  congr 1
  funext k
  unfold Grp.toks Grp.tail
  simp
theorem ones_rows (g : Grp) : (ones g).flatMap Grp.rows = g.rows := by
  obtain ⟨ks, b, d⟩ := g
  unfold ones Grp.rows
  rw [List.flatMap_map]
  simp only [List.map_cons, List.map_nil]
  induction ks with
  | nil => rfl
  | cons k ks ih => rw [List.flatMap_cons, ih]; rfl
theorem all_toks (gs : List Grp) : (gs.flatMap ones).flatMap Grp.toks = gs.flatMap sg := by
  rw [List.flatMap_assoc]
  congr 1
  funext g
  exact ones_toks g
theorem all_rows (gs : List Grp) : (gs.flatMap ones).flatMap Grp.rows = gs.flatMap Grp.rows := by
  rw [List.flatMap_assoc]
  congr 1
  funext g
  exact ones_rows g
theorem ones_ok {gs : List Grp} : ∀ g ∈ gs.flatMap ones, g.ks ≠ [] := fun g hg => by
  obtain ⟨g', _, h⟩ := List.mem_flatMap.mp hg
  obtain ⟨k, _, rfl⟩ := List.mem_map.mp h
  exact fun e => nomatch e
theorem ones_ne {gs : List Grp} (hg : gs ≠ []) (hk : ∀ g ∈ gs, Ok3 g) : gs.flatMap ones ≠ [] := by
  cases gs with
  | nil => exact absurd rfl hg
  | cons g gs =>
    obtain ⟨h1, _⟩ := hk g (.head _)
    obtain ⟨ks, b, d⟩ := g
    cases ks with
    | nil => exact absurd rfl h1
    | cons k ks => exact fun e => nomatch e
theorem tk3 {α : Type _} {l : List α} {n : Nat} (h : l.length ≤ n) (i : Nat) : (l.take i).length ≤ n := by rw [List.length_take]; exact Nat.le_trans (Nat.min_le_right _ _) h
theorem dr3 {α : Type _} {l : List α} {n : Nat} (h : l.length ≤ n) (i : Nat) : (l.drop i).length ≤ n := by rw [List.length_drop]; exact Nat.le_trans (Nat.sub_le _ _) h
theorem depths_app : ∀ (a b : List Dt), Dt.depths (a ++ b) = max (Dt.depths a) (Dt.depths b)
  | [], b => by rw [List.nil_append, Dt.depths]; exact (Nat.zero_max _).symm
  | d :: a, b => by rw [List.cons_append, Dt.depths, depths_app a b, Dt.depths]; exact (Nat.max_assoc _ _ _).symm
theorem Kd.depth (k : Kd) : k.tree.depth ≤ 6 := by cases k <;> decide +kernel
theorem delTree_depth (d : Option Kd) : (delTree d).depth ≤ 6 := by
  cases d with
  | none => decide +kernel
  | some k => exact k.depth
theorem rows_depth : ∀ (gs : List Grp), Dt.depths (gs.flatMap Grp.rows) ≤ 7 := by
  have h1 : ∀ (d : Option Kd) (ks : List Kd), Dt.depths (ks.map fun k => Dt.tup [k.tree, delTree d]) ≤ 7 := fun d ks => by
    induction ks with
    | nil => exact Nat.le_of_ble_eq_true rfl
    | cons k ks ih =>
      have a1 := k.depth
      have a2 := delTree_depth d
      rw [List.map_cons, Dt.depths, Dt.depth, Dt.depths, Dt.depths, Dt.depths]
      exact Nat.max_le.mpr ⟨Nat.succ_le_succ (Nat.max_le.mpr ⟨a1, Nat.max_le.mpr ⟨a2, Nat.zero_le _⟩⟩), ih⟩
  intro gs
  induction gs with
  | nil => decide +kernel
  | cons g gs ih =>
    rw [List.flatMap_cons, depths_app]
    have h2 : Dt.depths g.rows ≤ 7 := h1 g.d g.ks
    exact Nat.max_le.mpr ⟨h2, ih⟩
theorem Room.un {w : World} {κ : Addr × Obj → Prop} {f : Fn} {C : Cx w κ f} (h : Room C 3) {l : List Dt} (hl : Dt.depths l ≤ 7) : C.A.units + 1 + Dt.depths l < cLine :=
  Nat.lt_of_le_of_lt (Nat.add_le_add_left hl _) (lt_room (k := 1) (j := 7) h.2 rfl rfl)
theorem Room.un0 {w : World} {κ : Addr × Obj → Prop} {f : Fn} {C : Cx w κ f} (h : Room C 3) : C.A.units < cLine := lt_room0 (k := 0) h.2 rfl rfl
-- what stands behind
structure Beh (B : List Pr) : Prop where
  beg : BegT B false
  calm : calm B = true
  sh : Sh B
  len : B.length ≤ 10
theorem beh_of {V : Vt} (h : V ∈ [tv [("word", "INTO"), ("word", "A")], tv [], tv [("word", "ALL"), ("literal", "x")], tv [("sign", ".")], tv [("word", "WITH"), ("word", "POINTER"), ("word", "A")]]) : ∃ B, V = tv B ∧ Beh B := by
  simp only [List.mem_cons, List.not_mem_nil, or_false] at h
  rcases h with rfl | rfl | rfl | rfl | rfl
  · exact ⟨_, rfl, .into _, by decide, Sh.of (by decide), by decide⟩
  · exact ⟨_, rfl, .nil, by decide, Sh.of (by decide), by decide⟩
  · exact ⟨_, rfl, .all _, by decide, Sh.of (by decide), by decide⟩
  · exact ⟨_, rfl, .dot _, by decide, Sh.of (by decide), by decide⟩
  · exact ⟨_, rfl, .wth _, by decide, Sh.of (by decide), by decide⟩
-- the two parts
theorem cut_hi {gs : List Grp} {i d : Nat} {g : Grp} (hg : gs[i]? = some g) (h : d ≤ i) : (gs.take (i + 1)).take d = (gs.take i).take d ∧ (gs.take (i + 1)).drop d = (gs.take i).drop d ++ [g] := by
  have hl : (gs.take i).length = i := by
    have := (List.getElem?_eq_some_iff.mp hg).1
    rw [List.length_take]; omega
  have e : gs.take (i + 1) = gs.take i ++ [g] := by rw [List.take_add_one, hg]; rfl
  rw [e]
  exact ⟨List.take_append_of_le_length (by omega), List.drop_append_of_le_length (by omega)⟩
theorem cut_lo {gs : List Grp} {i d : Nat} {g : Grp} (hg : gs[i]? = some g) (h : i < d) : (gs.take (i + 1)).take d = (gs.take i).take d ++ [g] ∧ (gs.take (i + 1)).drop d = (gs.take i).drop d := by
  have hl : (gs.take i).length = i := by
    have := (List.getElem?_eq_some_iff.mp hg).1
    rw [List.length_take]; omega
  have e : gs.take (i + 1) = gs.take i ++ [g] := by rw [List.take_add_one, hg]; rfl
  rw [e]
  refine ⟨?_, ?_⟩
  · rw [List.take_of_length_le (l := gs.take i ++ [g]) (i := d) (by rw [List.length_append, hl]; exact h), List.take_of_length_le (l := gs.take i) (i := d) (by omega)]
  · rw [List.drop_of_length_le (l := gs.take i ++ [g]) (i := d) (by rw [List.length_append, hl]; exact h), List.drop_of_length_le (l := gs.take i) (i := d) (by omega)]
theorem flat_snoc {α β : Type} (f : α → List β) (l : List α) (x : α) : (l ++ [x]).flatMap f = l.flatMap f ++ f x := by rw [List.flatMap_append]; simp
theorem flat_ne {P : List Grp} (h : P ≠ []) : P.flatMap Grp.toks ≠ [] := by
  cases P with
  | nil => exact absurd rfl h
  | cons g P =>
    intro e
    rw [List.flatMap_cons] at e
    have := List.append_eq_nil_iff.mp e
    unfold Grp.toks Grp.tail at this
    simp at this
section
variable {w : World} {κ : Addr × Obj → Prop} {f : Fn} {C : Cx w κ f} {lv lv' lv1 lv2 : List (PySem.Str × AV)} {I I1 I2 I' : List (Addr × Obj) → Prop} {led led1 : List (Addr × Obj)} {s : Shared} {S : Addr → Prop} {rest : List Stmt} {pc pa ca : Addr} {zs : List Int} {b : Int}
theorem Sx.assignA {R : Flow → List (Addr × Obj) → Shared → Prop} {x : PySem.Str} {p' pos : Pos} {e : PySem.Expr} {P : Vt → Prop} (h : EvX C lv I e P I1) (nd : NoDup lv) (k : ∀ V, P V → ∃ a lv1, AvOk V a ∧ SetTo x a lv lv1 ∧ Sx C lv1 I1 rest R) (hx : C.env.kindOf x = some .local := by rfl) (hsw : swapsWith e (some (.Name x p')) pos.line C.env = pure false := by rfl) : Sx C lv I (.Assign [.Name x p'] e pos :: rest) R := ⟨fun led s hs =>
  wpAny_execs_cons (wpAny_Assign_Name (h.h.to hs fun v s1 led1 k1 hs1 ⟨V, p, o⟩ => by
    obtain ⟨a, lv1, ok, h2, r⟩ := k V p
    exact store_lv hs1 h2 nd (ok _ _ _ o) hx fun s2 hs2 => r.next hs2 k1) hsw)⟩
theorem Opn.neTv {A : List Pr} (h : A ≠ []) (hu : C.A.units < cLine) : Opn C .NotEq (.vt (tv A)) (.vt (tv [])) true := by
  cases A with
  | nil => exact absurd rfl h
  | cons q l => exact Opn.neNil hu
theorem Ev.list1P {k x : PySem.Str} {n1 n2 n3 : Nat} {p1 p2 p3 p4 : Pos} (G : GI κ S I) : Ev C lv I (.List [.Tuple [.Constant (.str k) n1 p1, .Constant (.str x) n2 p2] n3 p3] p4) (.vt (tv [(k, x)])) I :=
  Ev.list (.cons (Ev.tup (.cons Ev.cstr (.cons Ev.cstr .nil)) rfl rfl G.m) .nil) rfl rfl G
theorem Ev.list0P {p4 : Pos} (G : GI κ S I) : Ev C lv I (.List [] p4) (.vt (tv [])) I := Ev.list .nil rfl rfl G
theorem CallC.nil {fa : Addr} {as : List AV} {a : AV} (h : CallC C (II I []) fa as a (II I1 [])) : CallC C I fa as a I1 := ⟨fun m vs led s sm F N hI o => wpAny_mono (h.h m vs led s sm F N ⟨hI, fun _ h => nomatch h⟩ o) (fun v s' ⟨led', a1, a2, a3, a4, a5, a6⟩ => ⟨led', a1, a2, a3, a4, a5.1, a6⟩) fun _ _ e => e⟩
theorem Its.nil : Its S [] := ⟨fun _ h => nomatch h⟩
theorem read_T0 {A B : List Pr} {gs : List Grp} (G : GI κ S I) (hκ : ∀ q, κ q → isDict q.2 = false) (hI : ∀ led, I led → TabIn led) (hI' : ∀ led0 led, I led0 → Keeps led0 led → TabIn led → I led) (CD : CodeHd C.h₀ 236 232) (hout : C.outer = []) (hA : gs.flatMap Grp.toks = A) (hg : gs ≠ []) (hks : ∀ g ∈ gs, g.ks ≠ []) (hB : Beh B) (hsz : (gs.flatMap Grp.rows).length ≤ 1000) (hz : A.length ≤ 900) (hx : Sh A) (hr : Room C 20) :
    CallC C I 542 [.vt (tv A), .vt (tv B)] (.dt (.tup (gs.flatMap Grp.rows))) I := CallC.nil (read_T G Its.nil hκ hI hI' CD hout hA rfl hg hks hB.beg hB.calm hsz (by rw [List.length_append]; have := hB.len; omega) (hx.app hB.sh) hr)
theorem L0.ti : ∀ led, L0 pc led → TabIn led := fun _ h => h.tab
theorem L1.ti : ∀ led, L1 pc pa ca zs b led → TabIn led := fun _ h => h.tab
theorem L1.ce : ∀ led, L1 pc pa ca zs b led → Cel pc (.ref pa) led := fun _ h => h.cel
theorem KD.d : ∀ q, KD q → isDict q.2 = false := fun _ h => h
theorem KO.d {a : Addr} : ∀ q, KO KD a q → isDict q.2 = false := fun _ h => h.1
end
-- the law's frame
theorem law_entry {w : World} {pq : Program} {lq : List PySem.Str} {mean : ExcName → Option Value} {mg mb : PySem.Str → Option Value} {A₀ : Around} {h₀ : Heap} {L fa pc sa : Addr} {cd : Value} {scope : Scope} {qual : PySem.Str} {body : List Stmt} {s : Shared} {m : PySem.Str → Option Value} {w0 : Obj} {v0 : Option Value} {Q : Flow → Shared → Prop} {E : Value → Shared → Prop}
    (B : Below A₀ h₀ [] h₀) (X : (hd0.heap_1 w.params).In h₀) (T : Top pq lq mean mg mb h₀) (hA : (A₀.deeper (envOfC qual scope L fa cd)).frames = some [envOfC qual scope L fa cd]) (hh : (A₀.deeper (envOfC qual scope L fa cd)).handled = none) (hk : scope.kind = .function) (F : Fr h₀ L s.heap m) (N : News h₀ L s.heap [(pc, w0), (232, tabObj #[])]) (hw : w0.data = .cell v0) (hm : m "script" = some (.ref sa))
    (h : ∀ C : Cx w KD ⟨qual, scope, fa, cd⟩, C.A = A₀.deeper (envOfC qual scope L fa cd) → C.h₀ = h₀ → (hd0.heap_1 w.params).In C.base → Top C.pq C.lq C.mean C.mg C.mb C.base → C.outer = [] → C.L = L → C.cl = cellsFrom (L + 1) scope.names [] → Lx C [("script", .val (.ref sa))] (L0 pc) body (fun fl led s' => fl = .ret (.bool true) ∧ St C [] TabIn led s'))
    (hq : ∀ s' m', Fr h₀ L s'.heap m' → Same s s' → GrownAt 232 s'.heap → Q (.ret (.bool true)) s') : wpAny (model P0 w) (A₀.deeper (envOfC qual scope L fa cd)) (execs body (envOfC qual scope L fa cd)) Q E s := by
  let C : Cx w KD ⟨qual, scope, fa, cd⟩ := { pq := pq, lq := lq, mean := mean, mg := mg, mb := mb, A := A₀.deeper (envOfC qual scope L fa cd), A₀ := A₀, base := h₀, h₀ := h₀, L := L, cl := cellsFrom (L + 1) scope.names [], outer := [], g := s, hκ := hKD, B := B, X := X, T := T, hA := hA, hh := hh, hk := hk }
  refine wpAny_mono ((h C rfl rfl X T rfl rfl rfl).h [(pc, w0), (232, tabObj #[])] s ⟨⟨rfl, rfl, rfl⟩, N, ⟨m, F, fun q hq => ?_⟩, ⟨⟨#[], .tail _ (.head _), ?_, .inl rfl⟩, ⟨w0, v0, .head _, hw⟩⟩⟩) (fun fl s' ⟨led, e, hs⟩ => ?_) fun _ _ e => e.elim
  · rw [List.mem_singleton.mp hq]
    exact ⟨_, hm, rfl⟩
  · trivial
  · subst e
    obtain ⟨m', F', _⟩ := hs.F
    obtain ⟨ps, h1, _⟩ := hs.I
    exact hq s' m' F' hs.same (GrownAt.of hs.N h1)
end
section
open PySem PySem.W PySem.Spec PySem.Calls PyProof.Rows
theorem lwords9 : True := by
  k_with_none
  (k_with "LMEM" => first
    | (with_reducible exact List.mem_cons_self)
    | ((with_reducible refine List.mem_cons_of_mem _ ?_); k_extra "LMEM")
    | fail "LMEM")
  (k_with "LSET" => first
    | (with_reducible exact SetTo.nil)
    | (with_reducible exact SetTo.here)
    | (show SetTo _ _ (_ :: _) _; exact SetTo.there (by decide +kernel) (by k_extra "LSET"))
    | fail "LSET")
  (k_with "LG" => first
    | (with_reducible assumption)
    | (with_reducible exact GI.l0)
    | (with_reducible exact GI.l1)
    | ((with_reducible show GI _ _ (JO _ _ _ _)); (with_reducible exact GI.own (by k_extra "LG")))
    | ((with_reducible show GI _ _ (II _ _)); (with_reducible exact GI.its (by k_extra "LG")))
    | fail "LG")
  (k_with "LM" => first
    | (with_reducible exact GI.m' (by assumption))
    | (with_reducible exact GI.m' GI.l0)
    | (with_reducible exact GI.m' GI.l1)
    | ((with_reducible show MonoI (JO _ _ _ _)); (with_reducible exact JO.mono (by k_extra "LM")))
    | ((with_reducible show MonoI (II _ _)); (with_reducible exact II.mono (by k_extra "LM")))
    | fail "LM")
  (k_with "LSZ" => first
    | exact Nat.le_of_ble_eq_true rfl
    | ((try simp only [List.length_append, List.length_cons, List.length_nil, List.length_map]); refine' le_ab ?_ ?_ ?_ <;> first | assumption | (refine' Nat.add_le_add ?_ ?_ <;> first | assumption | exact Nat.le_refl _) | exact rfl)
    | ((try simp only [List.length_append, List.length_cons, List.length_nil, List.length_map]); omega)
    | fail "LSZ")
  (k_with "LRLS" => first
    | exact Rls.here
    | (show Rls _ _ (_ :: _) _; exact Rls.there (by k_extra "LRLS"))
    | fail "LRLS")
  (k_with "LROOM" => first
    | exact Room.le (by assumption) rfl
    | exact Room.as (Room.le (by assumption) rfl)
    | fail "LROOM")
  (k_with "LW" => first
    | assumption | exact w_A | exact w_INTO_A | exact w_A_A | exact w_DELIMITED_BY_SIZE | exact w_DELIMITED_SPACE | exact w_ALL | exact w_DELIMITED_BY | exact w_WITH_POINTER_A | exact w_A_OF_R | exact w_SPACE | exact w_LOW_VALUES | exact w_B | exact w_SIZE | exact w_DELIMITED
    | fail "LW")
  (k_with "LCALL" => first
    | exact words_T (by k_extra "LG") (by k_extra "LW") (by k_extra "LROOM")
    | fail "LCALL")
  (k_with "LARGS" => first
    | (show Evs _ _ _ [] _ _; exact Evs.nil)
    | (show Evs _ _ _ (_ :: _) _ _; exact Evs.cons (by k_extra "LEV") (by k_extra "LARGS"))
    | fail "LARGS")
  (k_with "LEV" => first
    | (show Ev _ _ _ (.Constant _ _ _) _ _; first | exact Ev.cint | exact Ev.cstr | exact Ev.cnone | exact Ev.cbool | exact Ev.cbytes | fail "LEV")
    | (show Ev _ _ _ (.Name _ _) _ _; first
      | exact Ev.loc (by k_extra "LMEM")
      | (show Ev _ _ _ (.Name _ _) (.val _) _; exact Ev.glo (by k_is))
      | (show Ev _ _ _ (.Name _ _) (.val _) _; exact Ev.cell L1.ce (by assumption))
      | fail "LEV")
    | (show Ev _ _ _ (.Call (.Name _ _) (_ :: _) [] _) _ _; exact Ev.fcall (by k_extra "LEV") (by k_is) (by k_extra "LARGS") (by k_extra "LCALL"))
    | (show Ev _ _ _ (.BinOp _ .Add _ _) _ _; exact Ev.addP (by k_extra "LEV") (by k_extra "LEV") (by k_extra "LSZ") (by k_extra "LG"))
    | (show Ev _ _ _ (.BinOp _ .Add _ _) _ _; exact Ev.addL (by k_extra "LEV") (by k_extra "LEV") (by k_extra "LSZ") (by k_extra "LG"))
    | (show Ev _ _ _ (.List [] _) _ _; exact Ev.list0P (by k_extra "LG"))
    | (show Ev _ _ _ (.List [.Tuple [.Constant (.str _) _ _, .Constant (.str _) _ _] _ _] _) _ _; exact Ev.list1P (by k_extra "LG"))
    | (show Ev _ _ _ (.List _ _) _ _; exact Ev.list (by k_extra "LARGS") (by exact rfl) (by exact rfl) (by k_extra "LG"))
    | (show Ev _ _ _ (.BinOp _ .Add _ _) _ _; exact Ev.addT (by k_extra "LEV") (by k_extra "LEV") (by k_extra "LSZ") (by k_extra "LG"))
    | (show Ev _ _ _ (.BinOp _ .Mult _ _) _ _; exact Ev.mul2 (by k_extra "LEV") (by k_extra "LG"))
    | (show Ev _ _ _ (.Tuple _ _ _) _ _; first
      | exact Ev.tup (by k_extra "LARGS") (by exact rfl) (by exact rfl) (by k_extra "LM")
      | exact Ev.tupV (by k_extra "LARGS") (by exact rfl) (by exact rfl) (by k_extra "LG")
      | fail "LEV")
    | fail "LEV")
  (k_with "LASG" => first
    | exact Go1.assign (by k_extra "LEV") (by k_extra "LSET") (noDup_k (by kernel_rfl))
    | fail "LASG")
  trivial
theorem not_ok {gs : List Grp} (h : gs.all (fun g => !g.ks.isEmpty) = true) : ∀ g ∈ gs, g.ks ≠ [] := fun g hg e => by
  have := List.all_eq_true.mp h g hg
  rw [e] at this
  exact Bool.noConfusion this
theorem ii_its {X : List (Addr × Obj) → Prop} (its led : List (Addr × Obj)) : II X its led ↔ II X [] led ∧ ∀ q ∈ its, q ∈ led := ⟨fun ⟨h1, h2⟩ => ⟨⟨h1, fun _ h => nomatch h⟩, h2⟩, fun ⟨⟨h1, _⟩, h2⟩ => ⟨h1, h2⟩⟩
theorem Its.l1 {S : Addr → Prop} {its : List (Addr × Obj)} (h : Its (fun x => S x ∨ x ∈ ([] : List (Addr × Obj)).map (·.1)) its) : Its S its := ⟨fun q hq => ⟨fun e => (h.h q hq).1 (.inl e), (h.h q hq).2⟩⟩
def fnd (ps : List (List Grp)) (i : Nat) : List Dt := (ps.take i).flatMap fun P => P.flatMap Grp.rows
theorem fnd_succ {ps : List (List Grp)} {i : Nat} {P : List Grp} (h : ps[i]? = some P) : fnd ps (i + 1) = fnd ps i ++ P.flatMap Grp.rows := by
  unfold fnd
  rw [List.take_add_one, h]
  exact flat_snoc _ _ _
theorem fnd_all (gs : List Grp) (d : Nat) : fnd [gs.take d, gs.drop d] 2 = gs.flatMap Grp.rows := by
  show (gs.take d).flatMap Grp.rows ++ ((gs.drop d).flatMap Grp.rows ++ []) = _
  rw [List.append_nil, ← List.flatMap_append, List.take_append_drop]
theorem fnd_le {ps : List (List Grp)} (h : ∀ P ∈ ps, (P.flatMap Grp.rows).length ≤ 9) (h2 : ps.length ≤ 2) (i : Nat) : (fnd ps i).length ≤ 18 := Nat.le_trans (flat_le _ 9 _ fun P hP => h P (List.mem_of_mem_take hP)) (Nat.mul_le_mul_left 9 (tk3 h2 i))
theorem part_at {P0 P1 : List Grp} {i : Nat} {V : Vt} (h : ([tv (P0.flatMap Grp.toks), tv (P1.flatMap Grp.toks)] : List Vt)[i]? = some V) : ∃ P, ([P0, P1] : List (List Grp))[i]? = some P ∧ V = tv (P.flatMap Grp.toks) := by
  match i, h with
  | 0, h => cases h; exact ⟨_, rfl, rfl⟩
  | 1, h => cases h; exact ⟨_, rfl, rfl⟩
  | i + 2, h => simp at h
theorem clos_pen {env : Env} {pc : Addr} (h : env.cells.lookup ("pen" : PySem.Str) = some pc) : closureFor { kind := .function, names := [(".0", .local), ("turn", .local), ("_law_group", .globalImplicit), ("pen", .free)], isGenerator := false, isCoroutine := false } env = pure ([(("pen" : PySem.Str), pc)] : List (PySem.Str × Addr)) := by
  have e : cellOf env "pen" = pure pc := by unfold cellOf; rw [h]
  unfold closureFor
  simp only [List.forIn_cons, List.forIn_nil]
  rw [e]
  rfl
theorem beh_into : Beh [("word", "INTO"), ("word", "A")] := ⟨.into _, by decide, Sh.of (by decide), by decide⟩
theorem beh_nil : Beh [] := ⟨.nil, by decide, Sh.of (by decide), by decide⟩
theorem beh_all : Beh [("word", "ALL"), ("literal", "x")] := ⟨.all _, by decide, Sh.of (by decide), by decide⟩
theorem beh_all' : Beh (([("word", "ALL")] : List Pr) ++ ([("literal", "x")] : List Pr)) := beh_all
section
variable {w : World} {κ : Addr × Obj → Prop} {f : Fn} {C : Cx w κ f}
theorem Opn.neE {l l' : List Dt} (e : l = l') (hu : C.A.units + 1 + Dt.depths l < cLine) : Opn C .NotEq (.dt (.tup l)) (.dt (.tup l')) false := by
  subst e
  exact Opn.neDt hu
theorem Opn.eqE {l l' : List Dt} (e : l = l') (hu : C.A.units + 1 + Dt.depths l < cLine) : Opn C .Eq (.dt (.tup l)) (.dt (.tup l')) true := by
  subst e
  exact Opn.eqDt hu
end
end
end Mine
open PySem PySem.W PySem.Spec PySem.Calls PyProof.Rows
open Mine
set_option maxHeartbeats 2000000
theorem PySem.Challenge.cw_pq0619_01_holds : PySem.Challenge.rw_pq0619_01.Holds :=
  Mine.hd (by
  intro w s₀ s₁ mg mb G Y fa o pm cd doc dV kV ho hd hcd hD hmg hg args vals as hpre hlay hrd hwl hlo
  have KX := km_in_of Y
  km_tabs Y
  have X := (Ground.X G).1
  have V := (Ground.X G).2
  refine Ground.open G ?_
  intro T B D TE TW
  try (refine guard_noD D (by decide +kernel) ?_; clear D)
  km_lay T hmg ho hd cd
  clear hmg
  wrow_args hpre hlay hrd hwl hlo
  all_goals (first | refine callC_kw (enter_call ?_) | refine enter_call ?_)
  all_goals w_top on
  all_goals kn_posts
  all_goals w_call any ho hd hcd hD T F
  all_goals clear hd
  all_goals kn_ghosts F T
  all_goals k_drop
  all_goals (try k_fold)
  refine law_entry (by assumption) (by assumption) (by assumption) rfl rfl rfl (by assumption) (by assumption) (by assumption) rfl ?law ?fin
  case fin =>
    intro s' m' F' sm gr
    refine ⟨?_, gr, trivial⟩
    obtain ⟨e1, e2, e3⟩ := sm
    dsimp only at e1 e2 e3
    rw [hg] at e1
    dsimp only
    refine goodW_bool F' e1 (raisesW_false ?_) ?_ e3
    · wrow_none_raised
    · wrow_post
  intro C hA hh XB TB hout hL hcl
  have hpc : C.cl.lookup ("pen" : PySem.Str) = some (s₁.heap.objs.size + 1) := by rw [hcl]; rfl
  have hr : Room C 30 := by
    refine ⟨?_, ?_⟩
    · rw [hA]; show callerA.depth + 1 + 30 < _; decide
    · rw [hA]; show callerA.units + 3 + 8 * 30 < _; decide
  have CD : CodeHd C.h₀ 236 232 := by rw [hh]; assumption
  have hS := lifted
  rw [← hh] at hS
  (rename IntsAre _ _ => hInts)
  (rename ¬ (_ : Int) < _ => h63)
  have hlen := Int.ofNat_le.mp (Int.not_lt.mp h63)
  dsimp only
  revert hpc
  generalize s₁.heap.objs.size + 1 = pc
  intro hpc
  refine Lx.go (by k_extra "LASG") ?_
  refine Lx.go (Go1.swap2 (by k_extra "LEV") AvOk.vt AvOk.vt (by k_extra "LSET") (by k_extra "LSET") (noDup_k (by kernel_rfl)) (noDup_k (by kernel_rfl)) (by rfl)) ?_
  refine Lx.go (by k_extra "LASG") ?_
  refine Lx.go (by k_extra "LASG") ?_
  have read0 : ∀ (gs : List Grp) {A B : List Pr}, gs.flatMap Grp.toks = A → Beh B → gs ≠ [] → gs.all (fun g => !g.ks.isEmpty) = true → Nat.ble (gs.flatMap Grp.rows).length 1000 = true → Nat.ble A.length 900 = true → CallC C (L0 pc) 542 [.vt (tv A), .vt (tv B)] (.dt (.tup (gs.flatMap Grp.rows))) (L0 pc) := fun gs A B h1 h2 h3 h4 h5 h6 => read_T0 GI.l0 KD.d L0.ti L0.keep CD hout h1 h3 (not_ok h4) h2 (Nat.le_of_ble_eq_true h5) (Nat.le_of_ble_eq_true h6) (h1 ▸ gs_sh gs) (hr.le rfl)
  have bad0 : ∀ (i : Nat) {l : List Pr}, BadL l i → Nat.blt i l.length = true → l.all (fun q => decide (q.2.length ≤ 1000)) = true → Nat.ble l.length 1000 = true → CallC C (L0 pc) 549 [.vt (tv l), .int i] (.val (.bool true)) (L0 pc) := fun i l h1 h2 h3 h4 => refused_T KD.d L0.ti L0.keep XB TB CD hout h1 (Nat.le_of_ble_eq_true h2) (Sh.of h3) (Nat.le_of_ble_eq_true h4) (hr.le rfl)
  have un : ∀ gs : List Grp, C.A.units + 1 + Dt.depths (gs.flatMap Grp.rows) < cLine := fun gs => (hr.le rfl : Room C 3).un (rows_depth gs)
  refine Lx.go (Go1.ifF (Ts.cmp (Ev.fcall (by k_extra "LEV") (by k_is) (by k_extra "LARGS") (read0 [⟨[.a, .a], false, some .space⟩, ⟨[.a], true, none⟩] (by rfl) (by exact beh_into) (by decide) (by rfl) (by rfl) (by rfl))) (by k_extra "LEV") (by exact Opn.neE (by rfl) (un _))) rfl Go.nil) ?_
  refine Lx.go (Go1.ifF (Ts.or (Ors.go (Ts.cmp (Ev.fcall (by k_extra "LEV") (by k_is) (by k_extra "LARGS") (read0 [⟨[.a], true, none⟩] (by rfl) (by exact beh_all') (by decide) (by rfl) (by rfl) (by rfl))) (by k_extra "LEV") (by exact Opn.neE (by rfl) (un _))) rfl (Ors.go (Ts.cmp (Ev.fcall (by k_extra "LEV") (by k_is) (by k_extra "LARGS") (read0 [⟨[.a], true, none⟩] (by rfl) (by exact beh_nil) (by decide) (by rfl) (by rfl) (by rfl))) (by k_extra "LEV") (by exact Opn.neE (by rfl) (un _))) rfl Ors.nil))) rfl Go.nil) ?_
  refine Lx.go (Go1.ifF (Ts.or (Ors.go (Ts.not (Ts.evC (Ev.fcall (by k_extra "LEV") (by k_is) (by k_extra "LARGS") (bad0 6 (by exact BadL.into [⟨[.a], true, none⟩] .a [.a] [("word", "A")] (by decide) (not_ok rfl) (by decide) (by decide)) (by rfl) (by rfl) (by rfl))))) rfl (Ors.go (Ts.not (Ts.evC (Ev.fcall (by k_extra "LEV") (by k_is) (by k_extra "LARGS") (bad0 0 (by exact BadL.num0 "7" _ (.inr rfl)) (by rfl) (by rfl) (by rfl))))) rfl Ors.nil))) rfl Go.nil) ?_
  refine Lx.go (Go1.ifF (Ts.or (Ors.go (Ts.not (Ts.evC (Ev.fcall (by k_extra "LEV") (by k_is) (by k_extra "LARGS") (bad0 0 (by exact BadL.all0 _) (by rfl) (by rfl) (by rfl))))) rfl (Ors.go (Ts.not (Ts.evC (Ev.fcall (by k_extra "LEV") (by k_is) (by k_extra "LARGS") (bad0 3 (by exact BadL.num3 "0" [] (.inl rfl)) (by rfl) (by rfl) (by rfl))))) rfl Ors.nil))) rfl Go.nil) ?_
  refine Lx.pen hS hInts hlen (hr.le rfl) (by k_extra "LMEM") hpc (by k_is) (by k_is) fun pa ca zs ap => ?_
  refine comp_law ap hout (hr.le rfl) (by omega) hpc (cl' := [("pen", pc)]) rfl ?clos (by k_is) (by k_is) (by k_is) (by k_is) (by k_is) (by decide) rfl (by decide) rfl (noDup_k (by kernel_rfl)) ?kk (by with_unfolding_all rfl) (fun _ => rfl) (fun _ => rfl) (fun _ => rfl)
  case clos => exact clos_pen hpc
  intro gs hne hl3 hok
  refine ⟨_, by k_extra "LSET", ?_⟩
  have hn : (gs.map grpV).length = gs.length := List.length_map ..
  refine Sx.assignA (EvX.call (by k_extra "LEV") (by k_is) (by k_extra "LARGS") (pick_T (I1 := L1 pc pa ca zs (0 + 22 + 1)) hpK L1.pn (L1.draw ap) (by exact rfl) (by exact rfl) (by exact rfl) (by omega) (by k_extra "LROOM"))) (noDup_k (by kernel_rfl)) ?_
  intro V hV
  obtain ⟨B, e, hB⟩ := beh_of hV
  subst e
  refine ⟨_, _, AvOk.vt, by k_extra "LSET", ?_⟩
  refine Sx.assignA (EvX.call (by k_extra "LEV") (by k_is) (Evs.cons (by k_extra "LEV") (Evs.cons (Ev.bin (Ev.bcall (Ev.blt (by k_is) boot_len (by decide)) (by k_extra "LARGS") (BltC.lenV rfl (by omega))) Ev.cint Bin.addInt) Evs.nil)) (draw_T (I1 := L1 pc pa ca zs (0 + 22 + 1 + 1)) hpK L1.pn (L1.draw ap) (by omega) (by omega) (by omega) (by k_extra "LROOM"))) (noDup_k (by kernel_rfl)) ?_
  rintro V ⟨d, ⟨d0, d1⟩, rfl⟩
  refine ⟨_, _, AvOk.int, by k_extra "LSET", ?_⟩
  refine Sx.unpack4own GI.l1 (EvsO.cons (by k_extra "LEV") (EvsO.cons (by k_extra "LEV") (EvsO.cons (by k_extra "LEV") (EvsO.last (EvO.disp (by k_extra "LARGS") (by exact rfl) (by exact rfl)))))) (by k_extra "LSET") (by k_extra "LSET") (by k_extra "LSET") (by intro a; k_extra "LSET") (noDup_k (by kernel_rfl)) (noDup_k (by kernel_rfl)) (noDup_k (by kernel_rfl)) (noDup_k (by kernel_rfl)) ?_
  intro a2 hSa hκa
  let lo : Nat → List Grp := fun i => (gs.take i).take d.toNat
  let hi : Nat → List Grp := fun i => (gs.take i).drop d.toNat
  have t0 : lo 0 = [] ∧ hi 0 = [] := ⟨by show List.take _ [] = []; simp, by show List.drop _ [] = []; simp⟩
  have okt : ∀ i, ∀ g ∈ gs.take i, Ok3 g := fun i g hg => hok g (List.mem_of_mem_take hg)
  have lt1 : ∀ i, ((gs.take i).flatMap Grp.toks).length ≤ 126 := fun i => Nat.le_trans (flat_le Grp.toks 42 _ fun g hg => (okt i g hg).toks) (Nat.mul_le_mul_left 42 (tk3 hl3 i))
  have lt2 : ∀ i, ((gs.take i).flatMap sg).length ≤ 198 := fun i => Nat.le_trans (flat_le sg 66 _ fun g hg => (okt i g hg).sg) (Nat.mul_le_mul_left 66 (tk3 hl3 i))
  have lt3 : ∀ i, ((gs.take i).flatMap Grp.rows).length ≤ 9 := fun i => Nat.le_trans (flat_le Grp.rows 3 _ fun g hg => (okt i g hg).rows) (Nat.mul_le_mul_left 3 (tk3 hl3 i))
  have lt4 : ∀ i, ((lo i).flatMap Grp.toks).length ≤ 126 := fun i => Nat.le_trans (flat_le Grp.toks 42 _ fun g hg => (okt i g (List.mem_of_mem_take hg)).toks) (Nat.mul_le_mul_left 42 (tk3 (tk3 hl3 i) d.toNat))
  have lt5 : ∀ i, ((hi i).flatMap Grp.toks).length ≤ 126 := fun i => Nat.le_trans (flat_le Grp.toks 42 _ fun g hg => (okt i g (List.mem_of_mem_drop hg)).toks) (Nat.mul_le_mul_left 42 (dr3 (tk3 hl3 i) d.toNat))
  refine Sx.imp (I1 := JO (KO KD pa) a2 (L1 pc pa ca zs (0 + 22 + 1 + 1)) [tv ((lo 0).flatMap Grp.toks), tv ((hi 0).flatMap Grp.toks)]) ?_ (fun led h => by rw [t0.1, t0.2]; exact h) (fun _ h => h)
  refine Sx.forE (G := GI.l1) (Vs := gs.map grpV) (W := fun i => [tv ((lo i).flatMap Grp.toks), tv ((hi i).flatMap Grp.toks)])
    (lvN := fun i => [("script", _), ("into", .vt (tv [("word", "INTO"), ("word", "A")])), ("two", _), ("a", _), ("size", _), ("item", _), ("groups", .vt (.lst (gs.map grpV))), ("behind", .vt (tv B)), ("cut", .int d), ("whole", .vt (tv ((gs.take i).flatMap Grp.toks))), ("single", .vt (tv ((gs.take i).flatMap sg))), ("rows", .vt (.lst (((gs.take i).flatMap Grp.rows).map Vt.dt))), ("parts", .val (.ref a2))])
    (by k_extra "LEV") rfl (by k_is) (by decide +kernel) ?step ?rest
  case step =>
    intro its i V hits hV
    have hg : ∃ g, gs[i]? = some g ∧ grpV g = V := by rw [List.getElem?_map] at hV; exact Option.map_eq_some_iff.mp hV
    obtain ⟨g, hg, rfl⟩ := hg
    have og : Ok3 g := hok g (List.mem_of_getElem? hg)
    have g1 := og.toks
    have g2 := og.sg
    have g3 := og.rows
    have ta : gs.take (i + 1) = gs.take i ++ [g] := by rw [List.take_add_one, hg]; rfl
    have m1 := lt1 i
    have m2 := lt2 i
    have m3 := lt3 i
    have m4 := lt4 i
    have m5 := lt5 i
    have hia : ∀ q ∈ its, q.1 ≠ a2 := fun q hq e => (hits.h q hq).1 (.inr e)
    have hO : OffI a2 (II (L1 pc pa ca zs (0 + 22 + 1 + 1)) its) := II.offI (L1.offI hSa) hia
    refine ⟨tv g.toks, tv (sg g), .lst (g.rows.map Vt.dt), .vt (tv g.toks), .vt (tv (sg g)), .vt (.lst (g.rows.map Vt.dt)), _, _, _, _, rfl, AvOk.vt, AvOk.vt, AvOk.vt, by k_extra "LSET", by k_extra "LSET", by k_extra "LSET", by k_extra "LSET", noDup_k (by kernel_rfl), noDup_k (by kernel_rfl), noDup_k (by kernel_rfl), noDup_k (by kernel_rfl), ?_⟩
    refine Sx.go (Go1.swap3 (by k_extra "LEV") AvOk.vt AvOk.vt AvOk.vt (by k_extra "LSET") (by k_extra "LSET") (by k_extra "LSET") (noDup_k (by kernel_rfl)) (noDup_k (by kernel_rfl)) (noDup_k (by kernel_rfl)) (by rfl)) ?_
    by_cases hd : d.toNat ≤ i
    · obtain ⟨c1, c2⟩ := cut_hi hg hd
      refine Sx.go (Go1.setO (k := 1) (V := tv ((hi i).flatMap Grp.toks ++ g.toks)) (Ev.addP (A := (hi i).flatMap Grp.toks) (B := g.toks) (Ev.sub (by k_extra "LEV") (Ev.tcall (Ev.blt (by k_is) PyProof.Rows.boot_int (by decide)) (Evs.cons (Ev.castb (Ev.cmp (by k_extra "LEV") (by k_extra "LEV") Opn.geInt) (decide_eq_true (show d ≤ (i : Int) from Int.toNat_le.mp hd))) Evs.nil) TypC.intB) (Sub1.ownI (V := tv ((hi i).flatMap Grp.toks)) (by decide) (by rfl) (by exact Nat.le_of_ble_eq_true rfl))) (by k_extra "LEV") (by omega) (by k_extra "LG")) (by k_extra "LEV") (Ev.tcall (Ev.blt (by k_is) PyProof.Rows.boot_int (by decide)) (Evs.cons (Ev.castb (Ev.cmp (by k_extra "LEV") (by k_extra "LEV") Opn.geInt) (decide_eq_true (show d ≤ (i : Int) from Int.toNat_le.mp hd))) Evs.nil) TypC.intB) (by decide) (by exact Nat.le_of_ble_eq_true rfl) (by exact rfl) (by rfl) (by exact Nat.le_of_ble_eq_true rfl) hO) ?_
      refine Sx.nil fun led s hs => ⟨rfl, (hs.imp fun led h => ?_).sub fun q hq => ?_⟩
      · have e1 : lo (i + 1) = lo i := c1
        have e2 : hi (i + 1) = hi i ++ [g] := c2
        rw [e1, e2, flat_snoc]
        exact h
      · try dsimp only at hq
        rw [ta, flat_snoc, flat_snoc, flat_snoc, List.map_append] at hq
        simp only [List.mem_cons, List.not_mem_nil, or_false] at hq
        rcases hq with rfl | rfl | rfl | rfl | rfl | rfl | rfl | rfl | rfl | rfl | rfl | rfl | rfl <;> k_extra "LMEM"
    · obtain ⟨c1, c2⟩ := cut_lo hg (Nat.lt_of_not_le hd)
      refine Sx.go (Go1.setO (k := 0) (V := tv ((lo i).flatMap Grp.toks ++ g.toks)) (Ev.addP (A := (lo i).flatMap Grp.toks) (B := g.toks) (Ev.sub (by k_extra "LEV") (Ev.tcall (Ev.blt (by k_is) PyProof.Rows.boot_int (by decide)) (Evs.cons (Ev.castb (Ev.cmp (by k_extra "LEV") (by k_extra "LEV") Opn.geInt) (decide_eq_false (show ¬ d ≤ (i : Int) from fun h => hd (Int.toNat_le.mpr h)))) Evs.nil) TypC.intB) (Sub1.ownI (V := tv ((lo i).flatMap Grp.toks)) (by decide) (by rfl) (by exact Nat.le_of_ble_eq_true rfl))) (by k_extra "LEV") (by omega) (by k_extra "LG")) (by k_extra "LEV") (Ev.tcall (Ev.blt (by k_is) PyProof.Rows.boot_int (by decide)) (Evs.cons (Ev.castb (Ev.cmp (by k_extra "LEV") (by k_extra "LEV") Opn.geInt) (decide_eq_false (show ¬ d ≤ (i : Int) from fun h => hd (Int.toNat_le.mpr h)))) Evs.nil) TypC.intB) (by decide) (by exact Nat.le_of_ble_eq_true rfl) (by exact rfl) (by rfl) (by exact Nat.le_of_ble_eq_true rfl) hO) ?_
      refine Sx.nil fun led s hs => ⟨rfl, (hs.imp fun led h => ?_).sub fun q hq => ?_⟩
      · have e1 : lo (i + 1) = lo i ++ [g] := c1
        have e2 : hi (i + 1) = hi i := c2
        rw [e1, e2, flat_snoc]
        exact h
      · try dsimp only at hq
        rw [ta, flat_snoc, flat_snoc, flat_snoc, List.map_append] at hq
        simp only [List.mem_cons, List.not_mem_nil, or_false] at hq
        rcases hq with rfl | rfl | rfl | rfl | rfl | rfl | rfl | rfl | rfl | rfl | rfl | rfl | rfl <;> k_extra "LMEM"
  case rest =>
    have tN : gs.take (gs.map grpV).length = gs := by rw [hn]; exact List.take_length
    have hloN : lo (gs.map grpV).length = gs.take d.toNat := by show (gs.take _).take _ = _; rw [tN]
    have hhiN : hi (gs.map grpV).length = gs.drop d.toNat := by show (gs.take _).drop _ = _; rw [tN]
    have w1 := lt1 (gs.map grpV).length
    have w2 := lt2 (gs.map grpV).length
    have w3 := lt3 (gs.map grpV).length
    rw [tN] at w1 w2 w3
    rw [tN, hloN, hhiN]
    clear_value lo hi
    refine Sx.release (by k_extra "LRLS") hκa ?_
    have read1 : ∀ (gs' : List Grp) {A B : List Pr}, gs'.flatMap Grp.toks = A → Beh B → gs' ≠ [] → (∀ g ∈ gs', g.ks ≠ []) → (gs'.flatMap Grp.rows).length ≤ 1000 → A.length ≤ 900 → CallC (C.as (KO KD pa) (hKO C.hκ)) (L1 pc pa ca zs (0 + 22 + 1 + 1)) 542 [.vt (tv A), .vt (tv B)] (.dt (.tup (gs'.flatMap Grp.rows))) (L1 pc pa ca zs (0 + 22 + 1 + 1)) := fun gs' A B h1 h2 h3 h4 h5 h6 => read_T0 GI.l1 KO.d L1.ti L1.keep CD hout h1 h3 h4 h2 h5 h6 (h1 ▸ gs_sh gs') (hr.le rfl)
    refine Sx.go (Go1.ifF (Ts.or (Ors.go (Ts.cmp (Ev.fcall (by k_extra "LEV") (by k_is) (by k_extra "LARGS") (read1 gs rfl hB hne (fun g hg => (hok g hg).1) (le_c w3 rfl) (le_c w1 rfl))) (Ev.tcall (Ev.blt (by k_is) boot_tuple (by decide)) (by k_extra "LARGS") (TypC.tupL (ds := gs.flatMap Grp.rows) GI.l1 (le_c w3 rfl))) (by exact Opn.neE rfl (un gs))) rfl (Ors.go (Ts.cmp (Ev.fcall (by k_extra "LEV") (by k_is) (by k_extra "LARGS") (read1 (gs.flatMap ones) (all_toks gs) hB (ones_ne hne hok) ones_ok (by rw [Mine.all_rows]; exact le_c w3 rfl) (le_c w2 rfl))) (Ev.tcall (Ev.blt (by k_is) boot_tuple (by decide)) (by k_extra "LARGS") (TypC.tupL (ds := gs.flatMap Grp.rows) GI.l1 (le_c w3 rfl))) (by exact Opn.neE (Mine.all_rows gs) (un _))) rfl Ors.nil))) rfl Go.nil) ?_
    refine Sx.go (by k_extra "LASG") ?_
    have okP : ∀ P ∈ [gs.take d.toNat, gs.drop d.toNat], (∀ g ∈ P, Ok3 g) ∧ P.length ≤ 3 := fun P hP => by
      simp only [List.mem_cons, List.not_mem_nil, or_false] at hP
      rcases hP with rfl | rfl
      · exact ⟨fun g hg => hok g (List.mem_of_mem_take hg), tk3 hl3 _⟩
      · exact ⟨fun g hg => hok g (List.mem_of_mem_drop hg), dr3 hl3 _⟩
    have rowP : ∀ P ∈ [gs.take d.toNat, gs.drop d.toNat], (P.flatMap Grp.rows).length ≤ 9 := fun P hP => Nat.le_trans (flat_le Grp.rows 3 _ fun g hg => ((okP P hP).1 g hg).rows) (Nat.mul_le_mul_left 3 (okP P hP).2)
    have tokP : ∀ P ∈ [gs.take d.toNat, gs.drop d.toNat], (P.flatMap Grp.toks).length ≤ 126 := fun P hP => Nat.le_trans (flat_le Grp.toks 42 _ fun g hg => ((okP P hP).1 g hg).toks) (Nat.mul_le_mul_left 42 (okP P hP).2)
    refine Sx.forL (σ := Unit) (S := fun x => L1S pc pa ca x ∨ x ∈ ([] : List (Addr × Obj)).map (·.1)) (P := fun _ _ => True) (Vs := [tv ((gs.take d.toNat).flatMap Grp.toks), tv ((gs.drop d.toNat).flatMap Grp.toks)]) (Iσ := fun its i _ => II (L1 pc pa ca zs (0 + 22 + 1 + 1)) its)
      (lvσ := fun i _ => [("script", _), ("into", .vt (tv [("word", "INTO"), ("word", "A")])), ("two", _), ("a", _), ("size", _), ("item", _), ("groups", _), ("behind", _), ("cut", _), ("whole", _), ("single", _), ("rows", .vt (.lst ((gs.flatMap Grp.rows).map Vt.dt))), ("parts", _), ("found", .dt (.tup (fnd [gs.take d.toNat, gs.drop d.toNat] i)))])
      (by k_extra "LEV") () trivial rfl (fun led h => ⟨h, fun _ h => nomatch h⟩) (fun _ _ _ => GI.l1.its) (fun its i t led => ii_its its led) ?step2 ?rest2
    case step2 =>
      intro its i t V hits hV _
      obtain ⟨P, hP, rfl⟩ := part_at hV
      have hPm := List.mem_of_getElem? hP
      have q1 := rowP P hPm
      have q2 := tokP P hPm
      have q3 := fnd_le (ps := [gs.take d.toNat, gs.drop d.toNat]) rowP (Nat.le_refl _) i
      refine ⟨_, (by show SetTo _ (.vt (tv (P.flatMap Grp.toks))) _ _; k_extra "LSET"), noDup_k (by kernel_rfl), ?_⟩
      refine' Sx.go (Go1.assign (a := .dt (.tup (P.flatMap Grp.rows))) (I1 := II (L1 pc pa ca zs (0 + 22 + 1 + 1)) its) ?ev (by k_extra "LSET") (noDup_k (by kernel_rfl))) ?go
      case ev =>
        by_cases hp : P = []
        · subst hp
          exact Ev.ifk (Ts.cmp (by k_extra "LEV") (by k_extra "LEV") (by exact Opn.neNilF (hr.le rfl : Room C 3).un0)) (IfK.no rfl (by k_extra "LEV"))
        · exact Ev.ifk (Ts.cmp (by k_extra "LEV") (by k_extra "LEV") (Opn.neTv (flat_ne hp) (hr.le rfl : Room C 3).un0)) (IfK.yes rfl (Ev.fcall (by k_extra "LEV") (by k_is) (by k_extra "LARGS") (read_T (B := [("word", "INTO"), ("word", "A")]) (gs := P) GI.l1 hits.l1 KO.d L1.ti L1.keep CD hout rfl rfl hp (fun g hg => ((okP P hPm).1 g hg).1) beh_into.beg beh_into.calm (by omega) (by simp only [List.length_append, List.length_cons, List.length_nil]; omega) ((gs_sh P).app beh_into.sh) (hr.le rfl))))
      case go =>
        refine Sx.go (Go1.ifF (Ts.cmp (by k_extra "LEV") (by k_extra "LEV") Opn.isDN) rfl Go.nil) ?_
        refine Sx.go (by k_extra "LASG") ?_
        refine Sx.nil fun led s hs => ⟨rfl, (), trivial, hs.sub fun q hq => ?_⟩
        try dsimp only at hq
        rw [fnd_succ hP] at hq
        simp only [List.mem_cons, List.not_mem_nil, or_false] at hq
        rcases hq with rfl | rfl | rfl | rfl | rfl | rfl | rfl | rfl | rfl | rfl | rfl | rfl | rfl | rfl <;> k_extra "LMEM"
    case rest2 =>
      intro t _
      refine Sx.imp (I1 := L1 pc pa ca zs (0 + 22 + 1 + 1)) ?_ (fun _ h => h.1) (fun _ h => h)
      refine Sx.ret (a := .val (.bool true)) (Ev.cmp (by k_extra "LEV") (Ev.tcall (Ev.blt (by k_is) boot_tuple (by decide)) (by k_extra "LARGS") (TypC.tupL (ds := gs.flatMap Grp.rows) GI.l1 (le_c w3 rfl))) (by exact Opn.eqE (fnd_all gs d.toNat) (by rw [show fnd [gs.take d.toNat, gs.drop d.toNat] ([tv ((gs.take d.toNat).flatMap Grp.toks), tv ((gs.drop d.toNat).flatMap Grp.toks)] : List Vt).length = gs.flatMap Grp.rows from fnd_all gs d.toNat]; exact un gs))) fun led s v hs o => ?_
      have o' : v = .bool true := o
      subst o'
      obtain ⟨m, F, _⟩ := hs.F
      exact ⟨rfl, hs.same, hs.N, ⟨m, F, fun _ h => nomatch h⟩, hs.I.tab⟩)
