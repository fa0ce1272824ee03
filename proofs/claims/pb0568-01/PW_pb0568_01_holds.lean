import PyProof.Rows.All
import Wide.All
import OpenK.AllK
import Wide.FinOn
import OpenK.KCall
import KE.KPar
import KE.KTryMore
import OpenK.KMake
import OpenK.KCls
import PyProof.ExcClass
import PyProof.StationsW
import PyProof.ExcBaseAll.Exception
import PyProof.ForRange
import PyProof.RulesFinally
import PyProof.RulesAs
import PyProof.NsDelKeeps
import PyProof.TableCode
import PyProof.StrLaws
import PySem.Challenge.RW_pb0568_01
set_option Elab.async false
set_option maxRecDepth 100000
set_option linter.all false
set_option genSizeOf false
set_option genInjectivity false
namespace Mine
theorem ai {a b : Prop} (x : a) (y : b) : a ∧ b := ⟨x, y⟩
section
open PySem (Str)
inductive MV where
 | none | bool (b : Bool) | int (i : Int) | str (s : Str) | tup (vs : List MV) | scr (xs : List Int) | ref (a : Nat) | fn (f : Nat)
inductive MO where
 | inst (c : Nat) (fs : List (Nat × MV))
 | exc (fs : List (Nat × MV))
 | list (vs : List MV)
 | dict (kvs : List (MV × MV))
noncomputable abbrev St := List MO
noncomputable abbrev Loc := List (Option MV)
inductive BOp where
 | add | sub | mul | mod | fdiv | pow
inductive COp where
 | eq | ne | lt | gt | ge | le | is | isNot | inn | notIn
inductive BK where
 | lapp | lpop | dget | dpop | join | find
inductive Op where
 | attr (n : Nat) | sub | sto | sfr | bin (o : BOp) | cmp (o : COp) | not | list | tup | len | strf | isi (c : Nat) | exc
 | call | new (c : Nat) | base | bm (k : BK) | setA (n : Nat) | setS | drop | raise
inductive PE where
 | loc (i : Nat) | cst (v : MV) | nil | cons (a b : PE) | op (o : Op) (a : PE) | meth (e : PE) (n : Nat) (a : PE) | dict (ks : List Str) (a : PE)
 | bools (c : Bool) (e r : PE) | ite (t b o : PE) | tnot (t : PE) | tnil (c : Bool) | tcons (c : Bool) (t r : PE) | val (e : PE) | stuck
inductive Tgt where
 | loc (i : Nat) | attr (e : PE) (n : Nat)
inductive PS where
 | nil | seq (s r : PS) | asg (i : Nat) (e : PE) | act (o : Op) (a : PE) | unp (ts : List Tgt) (e : PE) | unpR (is : List Nat) (e : PE)
 | aug (e : PE) (n : Nat) (o : BOp) (x : PE) | ret (e : PE) | ite (t : PE) (b o : PS) | while (t : PE) (b : PS) | forL (i : Nat) (e : PE) (b : PS) | forR (i : Nat) (e : PE) (b : PS) | forT (e : PE)
 | tryX (b : PS) (x : Nat) (h : PS) | fin (b f : PS) | stuck
structure FnRec where
 params : Nat
 locals : Nat
 dflts : List MV
 body : PS
noncomputable abbrev b_Raised___init__ : PS := (.seq (.act .drop (.cons (.op .exc (.cons (.loc 0) (.cons (.loc 2) .nil))) .nil))
 (.seq (.act (.setA 7) (.cons (.loc 1) (.cons (.loc 0) .nil)))
 (.seq (.act (.setA 8) (.cons (.loc 2) (.cons (.loc 0) .nil)))
 (.seq (.act (.setA 9) (.cons (.loc 3) (.cons (.loc 0) .nil)))
 (.seq (.act (.setA 10) (.cons (.loc 4) (.cons (.loc 0) .nil)))
 (.seq (.act (.setA 11) (.cons (.loc 5) (.cons (.loc 0) .nil)))
 (.seq (.act (.setA 12) (.cons (.cst (.str "")) (.cons (.loc 0) .nil)))
 (.seq (.act (.setA 13) (.cons (.cst (.bool false)) (.cons (.loc 0) .nil)))
 (.seq (.act (.setA 14) (.cons (.cst (.int 0)) (.cons (.loc 0) .nil)))
 (.seq (.act (.setA 15) (.cons (.op .list .nil) (.cons (.loc 0) .nil))) .nil))))))))))
noncomputable abbrev b_Nest___init__ : PS := (.seq (.act (.setA 16) (.cons (.loc 1) (.cons (.loc 0) .nil)))
 (.seq (.act (.setA 17) (.cons (.loc 2) (.cons (.loc 0) .nil)))
 (.seq (.act (.setA 18) (.cons (.loc 3) (.cons (.loc 0) .nil)))
 (.seq (.act (.setA 19) (.cons (.loc 4) (.cons (.loc 0) .nil))) .nil))))
noncomputable abbrev b_Pause___init__ : PS := (.seq (.act (.setA 20) (.cons (.loc 1) (.cons (.loc 0) .nil)))
 (.seq (.act (.setA 21) (.cons (.loc 2) (.cons (.loc 0) .nil))) .nil))
noncomputable abbrev b_error : PS := (.seq (.ret (.op (.new 3) (.cons (.cst (.int 1)) (.cons (.loc 0) (.cons (.loc 1) .nil))))) .nil)
noncomputable abbrev b_cut : PS := (.seq (.ite (.val (.op (.cmp .gt) (.cons (.op .len (.cons (.loc 0) .nil)) (.cons (.loc 1) .nil)))) (.seq (.ret (.op (.bin .add) (.cons (.op .sto (.cons (.loc 0) (.cons (.loc 1) .nil))) (.cons (.cst (.str "...")) .nil)))) .nil) .nil)
 (.seq (.ret (.loc 0)) .nil))
noncomputable abbrev b_note_row : PS := (.seq (.ite (.val (.op (.cmp .ne) (.cons (.op (.attr 7) (.cons (.loc 0) .nil)) (.cons (.cst (.int 1)) .nil)))) (.seq (.ret (.cst .none)) .nil) .nil)
 (.seq (.ite (.val (.op (.cmp .eq) (.cons (.op (.attr 12) (.cons (.loc 0) .nil)) (.cons (.cst (.str "")) .nil)))) (.seq (.act (.setA 12) (.cons (.op (.attr 8) (.cons (.loc 0) .nil)) (.cons (.loc 0) .nil))) .nil) .nil)
 (.seq (.act (.setA 12) (.cons (.op (.bin .add) (.cons (.op (.bin .add) (.cons (.op (.attr 12) (.cons (.loc 0) .nil)) (.cons (.cst (.str "\n    ")) .nil))) (.cons (.loc 1) .nil))) (.cons (.loc 0) .nil)))
 (.seq (.act (.setA 13) (.cons (.cst (.bool true)) (.cons (.loc 0) .nil))) .nil))))
noncomputable abbrev b_end_return : PS := (.seq (.ite (.val (.op (.cmp .eq) (.cons (.op (.attr 11) (.cons (.loc 0) .nil)) (.cons (.cst (.int 0)) .nil)))) (.seq (.ret (.op (.attr 8) (.cons (.loc 0) .nil))) .nil) .nil)
 (.seq (.act (.setA 7) (.cons (.op (.attr 11) (.cons (.loc 0) .nil)) (.cons (.loc 0) .nil)))
 (.seq (.act (.setA 10) (.cons (.ite (.val (.op (.cmp .eq) (.cons (.op (.attr 11) (.cons (.loc 0) .nil)) (.cons (.cst (.int 2)) .nil)))) (.cst (.int 1)) (.cst (.int 0))) (.cons (.loc 0) .nil)))
 (.seq (.act (.setA 11) (.cons (.cst (.int 0)) (.cons (.loc 0) .nil)))
 (.seq (.act (.setA 13) (.cons (.cst (.bool true)) (.cons (.loc 0) .nil)))
 (.seq (.act .raise (.cons (.loc 0) .nil)) .nil))))))
noncomputable abbrev b_end_proc : PS := (.seq (.ite (.val (.op (.cmp .eq) (.cons (.op (.attr 7) (.cons (.loc 1) .nil)) (.cons (.cst (.int 2)) .nil)))) (.seq (.ite (.val (.op (.cmp .gt) (.cons (.op (.attr 10) (.cons (.loc 1) .nil)) (.cons (.cst (.int 1)) .nil)))) (.seq (.act (.setA 10) (.cons (.op (.bin .sub) (.cons (.op (.attr 10) (.cons (.loc 1) .nil)) (.cons (.cst (.int 1)) .nil))) (.cons (.loc 1) .nil)))
 (.seq (.act .raise (.cons (.loc 1) .nil)) .nil)) .nil)
 (.seq (.ret (.meth (.cst (.fn 9)) 99 (.cons (.loc 1) .nil))) .nil)) .nil)
 (.seq (.asg 2 (.loc 1))
 (.seq (.ite (.val (.op (.cmp .inn) (.cons (.op (.attr 7) (.cons (.loc 1) .nil)) (.cons (.op .tup (.cons (.cst (.int 3)) (.cons (.cst (.int 4)) .nil))) .nil)))) (.seq (.asg 3 (.ite (.val (.op (.cmp .eq) (.cons (.op (.attr 7) (.cons (.loc 1) .nil)) (.cons (.cst (.int 3)) .nil)))) (.cst (.str "break")) (.cst (.str "continue"))))
  (.seq (.asg 2 (.meth (.cst (.fn 5)) 99 (.cons (.op (.bin .add) (.cons (.op (.bin .add) (.cons (.cst (.str "invoked \"")) (.cons (.loc 3) .nil))) (.cons (.cst (.str "\" outside of a loop")) .nil))) (.cons (.op .tup (.cons (.cst (.str "TCL")) (.cons (.cst (.str "RESULT")) (.cons (.cst (.str "UNEXPECTED")) .nil)))) .nil))))
  (.seq (.act (.setA 14) (.cons (.op (.attr 14) (.cons (.loc 1) .nil)) (.cons (.loc 2) .nil))) .nil))) .nil)
 (.seq (.act .drop (.cons (.meth (.cst (.fn 8)) 99 (.cons (.loc 2) (.cons (.op (.bin .add) (.cons (.op (.bin .add) (.cons (.op (.bin .add) (.cons (.op (.bin .add) (.cons (.cst (.str "(procedure \"")) (.cons (.meth (.cst (.fn 6)) 99 (.cons (.op (.attr 19) (.cons (.loc 0) .nil)) (.cons (.cst (.int 60)) .nil))) .nil))) (.cons (.cst (.str "\" line ")) .nil))) (.cons (.op .strf (.cons (.op (.attr 14) (.cons (.loc 2) .nil)) .nil)) .nil))) (.cons (.cst (.str ")")) .nil))) .nil))) .nil))
 (.seq (.act (.setA 14) (.cons (.cst (.int 0)) (.cons (.loc 2) .nil)))
 (.seq (.act .raise (.cons (.loc 2) .nil)) .nil))))))
noncomputable abbrev b_Act___init__ : PS := (.seq (.act (.setA 7) (.cons (.loc 1) (.cons (.loc 0) .nil)))
 (.seq (.act (.setA 22) (.cons (.loc 2) (.cons (.loc 0) .nil)))
 (.seq (.act (.setA 23) (.cons (.cst (.int 0)) (.cons (.loc 0) .nil)))
 (.seq (.act (.setA 24) (.cons (.op .list .nil) (.cons (.loc 0) .nil)))
 (.seq (.act (.setA 26) (.cons (.op (.bin .mul) (.cons (.op .list (.cons (.cst .none) .nil)) (.cons (.op .len (.cons (.op (.attr 25) (.cons (.loc 1) .nil)) .nil)) .nil))) (.cons (.loc 0) .nil)))
 (.seq (.act (.setA 27) (.cons (.dict [] .nil) (.cons (.loc 0) .nil)))
 (.seq (.act (.setA 28) (.cons (.op .tup (.cons (.cst (.int 0)) (.cons (.cst (.str "")) (.cons (.cst .none) .nil)))) (.cons (.loc 0) .nil))) .nil)))))))
noncomputable abbrev b_taker : PS := (.seq (.forL 3 (.loc 0) (.seq (.unp [.loc 4, .loc 5, .loc 6, .loc 7, .loc 8, .loc 9] (.loc 3))
 (.seq (.ite (.tcons true (.val (.op (.cmp .le) (.cons (.loc 5) (.cons (.loc 1) .nil)))) (.tcons true (.val (.op (.cmp .lt) (.cons (.loc 1) (.cons (.loc 6) .nil)))) (.tnil true))) (.seq (.ite (.tcons false (.val (.op (.cmp .eq) (.cons (.loc 4) (.cons (.cst (.str "catch")) .nil)))) (.tcons false (.val (.op (.cmp .eq) (.cons (.loc 2) (.cons (.cst (.int 3)) .nil)))) (.tcons false (.tcons true (.val (.op (.cmp .eq) (.cons (.loc 2) (.cons (.cst (.int 4)) .nil)))) (.tcons true (.val (.op (.cmp .isNot) (.cons (.loc 8) (.cons (.cst .none) .nil)))) (.tnil true))) (.tnil false)))) (.seq (.ret (.loc 3)) .nil) .nil) .nil) .nil) .nil)))
 (.seq (.ret (.cst .none)) .nil))
noncomputable abbrev b_note_source : PS := (.seq (.asg 2 (.op (.bin .sub) (.cons (.op (.attr 23) (.cons (.loc 0) .nil)) (.cons (.cst (.int 1)) .nil))))
 (.seq (.forT (.op (.attr 29) (.cons (.op (.attr 7) (.cons (.loc 0) .nil)) .nil))) .nil))
noncomputable abbrev b_Machine___init__ : PS := (.seq (.act (.setA 30) (.cons (.loc 1) (.cons (.loc 0) .nil)))
 (.seq (.act (.setA 31) (.cons (.loc 2) (.cons (.loc 0) .nil)))
 (.seq (.act (.setA 32) (.cons (.loc 3) (.cons (.loc 0) .nil)))
 (.seq (.act (.setA 33) (.cons (.op .list .nil) (.cons (.loc 0) .nil)))
 (.seq (.act (.setA 34) (.cons (.dict [] .nil) (.cons (.loc 0) .nil)))
 (.seq (.act (.setA 35) (.cons (.cst .none) (.cons (.loc 0) .nil)))
 (.seq (.act (.setA 36) (.cons (.cst (.int 0)) (.cons (.loc 0) .nil)))
 (.seq (.act (.setA 37) (.cons (.cst (.str "")) (.cons (.loc 0) .nil))) .nil))))))))
noncomputable abbrev b_Machine_code_for : PS := (.seq (.asg 3 (.op .tup (.cons (.loc 1) (.cons (.loc 2) (.cons (.meth (.op (.attr 30) (.cons (.loc 0) .nil)) 38 .nil) .nil)))))
 (.seq (.asg 4 (.meth (.op (.attr 34) (.cons (.loc 0) .nil)) 4 (.cons (.loc 3) .nil)))
 (.seq (.ite (.tcons false (.val (.op (.cmp .is) (.cons (.loc 4) (.cons (.cst .none) .nil)))) (.tcons false (.val (.op (.cmp .ne) (.cons (.op (.attr 39) (.cons (.loc 4) .nil)) (.cons (.op (.attr 39) (.cons (.op (.attr 30) (.cons (.loc 0) .nil)) .nil)) .nil)))) (.tnil false))) (.seq (.asg 4 (.meth (.loc 0) 32 (.cons (.op (.attr 30) (.cons (.loc 0) .nil)) (.cons (.loc 1) (.cons (.loc 2) .nil)))))
  (.seq (.act .setS (.cons (.loc 4) (.cons (.op (.attr 34) (.cons (.loc 0) .nil)) (.cons (.loc 3) .nil)))) .nil)) .nil)
 (.seq (.ret (.loc 4)) .nil))))
noncomputable abbrev b_Machine_enter : PS := (.seq (.ite (.val (.op (.cmp .ge) (.cons (.op .len (.cons (.op (.attr 33) (.cons (.loc 0) .nil)) .nil)) (.cons (.op (.attr 40) (.cons (.op (.attr 30) (.cons (.loc 0) .nil)) .nil)) .nil)))) (.seq (.act .drop (.cons (.meth (.op (.attr 30) (.cons (.loc 0) .nil)) 41 (.cons (.loc 1) .nil)) .nil))
 (.seq (.act .raise (.cons (.meth (.cst (.fn 5)) 99 (.cons (.cst (.str "too many nested evaluations (infinite loop?)")) (.cons (.op .tup (.cons (.cst (.str "TCL")) (.cons (.cst (.str "LIMIT")) (.cons (.cst (.str "STACK")) .nil)))) .nil))) .nil)) .nil)) .nil)
 (.seq (.act .drop (.cons (.meth (.op (.attr 33) (.cons (.loc 0) .nil)) 0 (.cons (.op (.new 6) (.cons (.meth (.loc 0) 42 (.cons (.op (.attr 16) (.cons (.loc 1) .nil)) (.cons (.op (.attr 18) (.cons (.loc 1) .nil)) .nil))) (.cons (.loc 1) .nil))) .nil)) .nil)) .nil))
noncomputable abbrev b_Machine_drop : PS := (.seq (.act .drop (.cons (.meth (.op (.attr 30) (.cons (.loc 0) .nil)) 41 (.cons (.op (.attr 22) (.cons (.meth (.op (.attr 33) (.cons (.loc 0) .nil)) 1 .nil) .nil)) .nil)) .nil)) .nil)
noncomputable abbrev b_Machine_give : PS := (.seq (.act (.setA 35) (.cons (.cst .none) (.cons (.loc 0) .nil)))
 (.seq (.ite (.val (.op (.cmp .gt) (.cons (.op .len (.cons (.op (.attr 33) (.cons (.loc 0) .nil)) .nil)) (.cons (.cst (.int 0)) .nil)))) (.seq (.act .drop (.cons (.meth (.op (.attr 24) (.cons (.op .sub (.cons (.op (.attr 33) (.cons (.loc 0) .nil)) (.cons (.cst (.int (-1))) .nil))) .nil)) 0 (.cons (.loc 1) .nil)) .nil)) .nil) (.seq (.act (.setA 37) (.cons (.loc 1) (.cons (.loc 0) .nil))) .nil)) .nil))
noncomputable abbrev b_Machine_leave : PS := (.seq (.act .drop (.cons (.meth (.loc 0) 43 .nil) .nil))
 (.seq (.act .drop (.cons (.meth (.loc 0) 44 (.cons (.loc 1) .nil)) .nil)) .nil))
noncomputable abbrev b_Machine_take : PS := (.seq (.ite (.val (.op (.isi 4) (.cons (.loc 1) .nil))) (.seq (.act .drop (.cons (.meth (.loc 0) 45 (.cons (.loc 1) .nil)) .nil)) .nil) (.seq (.ite (.val (.op (.isi 5) (.cons (.loc 1) .nil))) (.seq (.act (.setA 35) (.cons (.loc 1) (.cons (.loc 0) .nil)))
 (.seq (.asg 2 (.op (.attr 46) (.cons (.op (.attr 30) (.cons (.loc 0) .nil)) .nil)))
 (.seq (.ite (.tcons false (.val (.op (.cmp .is) (.cons (.loc 2) (.cons (.cst .none) .nil)))) (.tcons false (.val (.op (.cmp .is) (.cons (.op (.attr 35) (.cons (.op (.attr 47) (.cons (.loc 2) .nil)) .nil)) (.cons (.cst .none) .nil)))) (.tnil false))) (.seq (.act (.setA 35) (.cons (.cst .none) (.cons (.loc 0) .nil)))
  (.seq (.act .raise (.cons (.meth (.cst (.fn 5)) 99 (.cons (.cst (.str "cannot yield: C stack busy")) (.cons (.op .tup (.cons (.cst (.str "TCL")) (.cons (.cst (.str "COROUTINE")) (.cons (.cst (.str "CANT_YIELD")) .nil)))) .nil))) .nil)) .nil)) .nil) .nil))) (.seq (.act .drop (.cons (.meth (.loc 0) 44 (.cons (.loc 1) .nil)) .nil)) .nil)) .nil)) .nil)
noncomputable abbrev b_Machine_go_on : PS := (.seq (.unp [.loc 4, .loc 5, .loc 6, .loc 7, .loc 8, .loc 9] (.loc 2))
 (.seq (.act (.setA 24) (.cons (.op .sto (.cons (.op (.attr 24) (.cons (.loc 1) .nil)) (.cons (.loc 9) .nil))) (.cons (.loc 1) .nil)))
 (.seq (.act (.setA 23) (.cons (.loc 7) (.cons (.loc 1) .nil)))
 (.seq (.ite (.val (.op (.cmp .eq) (.cons (.loc 4) (.cons (.cst (.str "catch")) .nil)))) (.seq (.act (.setA 28) (.cons (.op .tup (.cons (.op (.attr 7) (.cons (.loc 3) .nil)) (.cons (.op (.attr 8) (.cons (.loc 3) .nil)) (.cons (.loc 3) .nil)))) (.cons (.loc 1) .nil)))
  (.seq (.ite (.val (.op (.cmp .inn) (.cons (.cst (.str "caught")) (.cons (.op (.attr 31) (.cons (.loc 0) .nil)) .nil)))) (.seq (.act .drop (.cons (.meth (.op .sub (.cons (.op (.attr 31) (.cons (.loc 0) .nil)) (.cons (.cst (.str "caught")) .nil))) 99 (.cons (.loc 0) (.cons (.loc 1) (.cons (.cst .none) (.cons (.cst .none) .nil))))) .nil)) .nil) .nil) .nil)) (.seq (.ite (.val (.op (.cmp .eq) (.cons (.op (.attr 7) (.cons (.loc 3) .nil)) (.cons (.cst (.int 4)) .nil)))) (.seq (.act (.setA 23) (.cons (.loc 8) (.cons (.loc 1) .nil))) .nil) .nil) .nil)) .nil))))
noncomputable abbrev b_Machine_unwind : PS := (.seq (.while (.val (.op (.cmp .gt) (.cons (.op .len (.cons (.op (.attr 33) (.cons (.loc 0) .nil)) .nil)) (.cons (.cst (.int 0)) .nil)))) (.seq (.asg 2 (.op .sub (.cons (.op (.attr 33) (.cons (.loc 0) .nil)) (.cons (.cst (.int (-1))) .nil))))
 (.seq (.act .drop (.cons (.meth (.cst (.fn 13)) 99 (.cons (.loc 2) (.cons (.loc 1) .nil))) .nil))
 (.seq (.asg 3 (.meth (.cst (.fn 12)) 99 (.cons (.op (.attr 48) (.cons (.op (.attr 7) (.cons (.loc 2) .nil)) .nil)) (.cons (.op (.bin .sub) (.cons (.op (.attr 23) (.cons (.loc 2) .nil)) (.cons (.cst (.int 1)) .nil))) (.cons (.op (.attr 7) (.cons (.loc 1) .nil)) .nil)))))
 (.seq (.ite (.val (.op (.cmp .isNot) (.cons (.loc 3) (.cons (.cst .none) .nil)))) (.seq (.act .drop (.cons (.meth (.loc 0) 49 (.cons (.loc 2) (.cons (.loc 3) (.cons (.loc 1) .nil)))) .nil))
  (.seq (.ret (.cst .none)) .nil)) .nil)
 (.seq (.ite (.val (.op (.attr 18) (.cons (.op (.attr 22) (.cons (.loc 2) .nil)) .nil))) (.seq (.tryX (.seq (.act .drop (.cons (.meth (.loc 0) 41 (.cons (.meth (.cst (.fn 10)) 99 (.cons (.op (.attr 22) (.cons (.loc 2) .nil)) (.cons (.loc 1) .nil))) .nil)) .nil))
  (.seq (.ret (.cst .none)) .nil)) 4 (.seq (.asg 1 (.loc 4)) .nil)) .nil) .nil)
 (.seq (.act .drop (.cons (.meth (.loc 0) 43 .nil) .nil)) .nil)))))))
 (.seq (.act .raise (.cons (.loc 1) .nil)) .nil))
noncomputable abbrev b_Machine_step : PS := (.seq (.asg 1 (.op .sub (.cons (.op (.attr 33) (.cons (.loc 0) .nil)) (.cons (.cst (.int (-1))) .nil))))
 (.seq (.ite (.val (.op (.cmp .ge) (.cons (.op (.attr 23) (.cons (.loc 1) .nil)) (.cons (.op .len (.cons (.op (.attr 50) (.cons (.op (.attr 7) (.cons (.loc 1) .nil)) .nil)) .nil)) .nil)))) (.seq (.act .drop (.cons (.meth (.loc 0) 41 (.cons (.ite (.val (.op (.cmp .gt) (.cons (.op .len (.cons (.op (.attr 24) (.cons (.loc 1) .nil)) .nil)) (.cons (.cst (.int 0)) .nil)))) (.meth (.op (.attr 24) (.cons (.loc 1) .nil)) 1 .nil) (.cst (.str ""))) .nil)) .nil))
  (.seq (.ret (.cst .none)) .nil)) .nil)
 (.seq (.unp [.loc 2, .loc 3, .loc 4] (.op .sub (.cons (.op (.attr 50) (.cons (.op (.attr 7) (.cons (.loc 1) .nil)) .nil)) (.cons (.op (.attr 23) (.cons (.loc 1) .nil)) .nil))))
 (.seq (.aug (.loc 1) 23 .add (.cst (.int 1)))
 (.seq (.aug (.loc 0) 36 .add (.cst (.int 1)))
 (.seq (.ite (.val (.op (.cmp .notIn) (.cons (.loc 2) (.cons (.op (.attr 31) (.cons (.loc 0) .nil)) .nil)))) (.seq (.act .raise (.cons (.meth .stuck 99 (.cons (.op (.bin .add) (.cons (.cst (.str "there is no op ")) (.cons (.loc 2) .nil))) .nil)) .nil)) .nil) .nil)
 (.seq (.tryX (.seq (.act .drop (.cons (.meth (.op .sub (.cons (.op (.attr 31) (.cons (.loc 0) .nil)) (.cons (.loc 2) .nil))) 99 (.cons (.loc 0) (.cons (.loc 1) (.cons (.loc 3) (.cons (.loc 4) .nil))))) .nil)) .nil) 5 (.seq (.act .drop (.cons (.meth (.loc 0) 51 (.cons (.loc 5) .nil)) .nil)) .nil)) .nil)))))))
noncomputable abbrev b_Machine_run : PS := (.seq (.asg 1 (.op (.attr 30) (.cons (.loc 0) .nil)))
 (.seq (.aug (.loc 1) 52 .add (.cst (.int 1)))
 (.seq (.fin (.seq (.ite (.val (.op (.cmp .gt) (.cons (.op (.attr 52) (.cons (.loc 1) .nil)) (.cons (.op (.attr 40) (.cons (.loc 1) .nil)) .nil)))) (.seq (.act .drop (.cons (.meth (.loc 0) 51 (.cons (.meth (.cst (.fn 5)) 99 (.cons (.cst (.str "too many nested evaluations (infinite loop?)")) (.cons (.op .tup (.cons (.cst (.str "TCL")) (.cons (.cst (.str "LIMIT")) (.cons (.cst (.str "STACK")) .nil)))) .nil))) .nil)) .nil)) .nil) .nil)
  (.seq (.while (.tcons true (.val (.op (.cmp .is) (.cons (.op (.attr 35) (.cons (.loc 0) .nil)) (.cons (.cst .none) .nil)))) (.tcons true (.val (.op (.cmp .gt) (.cons (.op .len (.cons (.op (.attr 33) (.cons (.loc 0) .nil)) .nil)) (.cons (.cst (.int 0)) .nil)))) (.tnil true))) (.seq (.act .drop (.cons (.meth (.loc 0) 53 .nil) .nil)) .nil)) .nil)) (.seq (.aug (.loc 1) 52 .sub (.cst (.int 1))) .nil))
 (.seq (.ite (.val (.op (.cmp .isNot) (.cons (.op (.attr 35) (.cons (.loc 0) .nil)) (.cons (.cst .none) .nil)))) (.seq (.ret (.op .tup (.cons (.cst (.str "pause")) (.cons (.op (.attr 35) (.cons (.loc 0) .nil)) .nil)))) .nil) .nil)
 (.seq (.ret (.op .tup (.cons (.cst (.str "done")) (.cons (.op (.attr 37) (.cons (.loc 0) .nil)) .nil)))) .nil)))))
noncomputable abbrev b_run_code : PS := (.seq (.asg 2 (.op (.attr 54) (.cons (.op (.attr 30) (.cons (.loc 0) .nil)) .nil)))
 (.seq (.asg 3 (.op (.attr 33) (.cons (.loc 0) .nil)))
 (.seq (.act (.setA 33) (.cons (.op .list (.cons (.op (.new 6) (.cons (.loc 1) (.cons (.op (.new 4) (.cons (.cst (.str "")) .nil)) .nil))) .nil)) (.cons (.loc 0) .nil)))
 (.seq (.fin (.seq (.unp [.loc 4, .loc 5] (.meth (.loc 0) 55 .nil)) .nil) (.seq (.act (.setA 33) (.cons (.loc 3) (.cons (.loc 0) .nil)))
  (.seq (.act (.setA 35) (.cons (.cst .none) (.cons (.loc 0) .nil)))
  (.seq (.act (.setA 54) (.cons (.loc 2) (.cons (.op (.attr 30) (.cons (.loc 0) .nil)) .nil))) .nil))))
 (.seq (.ite (.val (.op (.cmp .ne) (.cons (.loc 4) (.cons (.cst (.str "done")) .nil)))) (.seq (.act .raise (.cons (.meth .stuck 99 (.cons (.cst (.str "a code that pauses is no coroutine's")) .nil)) .nil)) .nil) .nil)
 (.seq (.ret (.loc 5)) .nil))))))
noncomputable abbrev b_Code___init__ : PS := (.seq (.act (.setA 50) (.cons (.loc 1) (.cons (.loc 0) .nil)))
 (.seq (.act (.setA 48) (.cons (.loc 2) (.cons (.loc 0) .nil)))
 (.seq (.act (.setA 25) (.cons (.loc 3) (.cons (.loc 0) .nil)))
 (.seq (.act (.setA 29) (.cons (.loc 4) (.cons (.loc 0) .nil)))
 (.seq (.act (.setA 39) (.cons (.loc 5) (.cons (.loc 0) .nil))) .nil)))))
noncomputable abbrev b_Coroutine___init__ : PS := (.seq (.act (.setA 56) (.cons (.loc 1) (.cons (.loc 0) .nil)))
 (.seq (.act (.setA 47) (.cons (.loc 2) (.cons (.loc 0) .nil)))
 (.seq (.act (.setA 57) (.cons (.cst .none) (.cons (.loc 0) .nil)))
 (.seq (.act (.setA 54) (.cons (.cst .none) (.cons (.loc 0) .nil)))
 (.seq (.act (.setA 58) (.cons (.cst (.str "")) (.cons (.loc 0) .nil)))
 (.seq (.act (.setA 59) (.cons (.cst (.bool false)) (.cons (.loc 0) .nil)))
 (.seq (.act (.setA 60) (.cons (.cst (.bool false)) (.cons (.loc 0) .nil)))
 (.seq (.act (.setA 61) (.cons (.cst .none) (.cons (.loc 0) .nil))) .nil))))))))
noncomputable abbrev b_Host___init__ : PS := (.seq (.act (.setA 66) (.cons (.dict [] .nil) (.cons (.loc 0) .nil)))
 (.seq (.act (.setA 67) (.cons (.dict [] .nil) (.cons (.loc 0) .nil)))
 (.seq (.act (.setA 40) (.cons (.loc 1) (.cons (.loc 0) .nil)))
 (.seq (.act (.setA 68) (.cons (.loc 2) (.cons (.loc 0) .nil)))
 (.seq (.act (.setA 52) (.cons (.cst (.int 0)) (.cons (.loc 0) .nil)))
 (.seq (.act (.setA 69) (.cons (.cst (.int 0)) (.cons (.loc 0) .nil)))
 (.seq (.act (.setA 39) (.cons (.cst (.int 0)) (.cons (.loc 0) .nil)))
 (.seq (.act (.setA 54) (.cons (.cst .none) (.cons (.loc 0) .nil)))
 (.seq (.act (.setA 46) (.cons (.cst .none) (.cons (.loc 0) .nil))) .nil)))))))))
noncomputable abbrev b_Host_tool : PS := (.seq (.ite (.val (.op (.cmp .notIn) (.cons (.loc 1) (.cons (.op (.attr 66) (.cons (.loc 0) .nil)) .nil)))) (.seq (.act .raise (.cons (.meth .stuck 99 (.cons (.op (.bin .add) (.cons (.cst (.str "the host lacks the tool ")) (.cons (.loc 1) .nil))) .nil)) .nil)) .nil) .nil)
 (.seq (.ret (.op .sub (.cons (.op (.attr 66) (.cons (.loc 0) .nil)) (.cons (.loc 1) .nil)))) .nil))
noncomputable abbrev b_Host_spend : PS := (.seq (.aug (.loc 0) 69 .add (.cst (.int 1)))
 (.seq (.ite (.tcons true (.val (.op (.cmp .isNot) (.cons (.op (.attr 68) (.cons (.loc 0) .nil)) (.cons (.cst .none) .nil)))) (.tcons true (.val (.op (.cmp .gt) (.cons (.op (.attr 69) (.cons (.loc 0) .nil)) (.cons (.op (.attr 68) (.cons (.loc 0) .nil)) .nil)))) (.tnil true))) (.seq (.act .raise (.cons (.meth .stuck 99 (.cons (.cst (.str "the script spent all its fuel")) .nil)) .nil)) .nil) .nil) .nil))
noncomputable abbrev b_Host_where : PS := (.seq (.ret (.cst (.str "::"))) .nil)
noncomputable abbrev b_Host_run : PS := (.seq (.ite (.val (.op (.cmp .ge) (.cons (.op (.attr 52) (.cons (.loc 0) .nil)) (.cons (.op (.attr 40) (.cons (.loc 0) .nil)) .nil)))) (.seq (.act .raise (.cons (.meth (.cst (.fn 5)) 99 (.cons (.cst (.str "too many nested evaluations (infinite loop?)")) (.cons (.op .tup (.cons (.cst (.str "TCL")) (.cons (.cst (.str "LIMIT")) (.cons (.cst (.str "STACK")) .nil)))) .nil))) .nil)) .nil) .nil)
 (.seq (.asg 2 (.meth (.loc 0) 70 (.cons (.cst (.str "run")) .nil)))
 (.seq (.aug (.loc 0) 52 .add (.cst (.int 1)))
 (.seq (.fin (.seq (.ret (.meth (.loc 2) 99 (.cons (.loc 0) (.cons (.loc 1) .nil)))) .nil) (.seq (.aug (.loc 0) 52 .sub (.cst (.int 1))) .nil)) .nil))))
noncomputable abbrev b_Host_call : PS := (.seq (.ite (.tnot (.val (.loc 1))) (.seq (.ret (.cst (.str ""))) .nil) .nil)
 (.seq (.asg 2 (.meth (.loc 0) 71 (.cons (.loc 1) .nil)))
 (.seq (.ite (.val (.op (.isi 4) (.cons (.loc 2) .nil))) (.seq (.ret (.meth (.loc 0) 72 (.cons (.loc 2) .nil))) .nil) .nil)
 (.seq (.ite (.val (.op (.isi 5) (.cons (.loc 2) .nil))) (.seq (.act .raise (.cons (.meth (.cst (.fn 5)) 99 (.cons (.cst (.str "cannot yield: C stack busy")) (.cons (.op .tup (.cons (.cst (.str "TCL")) (.cons (.cst (.str "COROUTINE")) (.cons (.cst (.str "CANT_YIELD")) .nil)))) .nil))) .nil)) .nil) .nil)
 (.seq (.ret (.loc 2)) .nil)))))
noncomputable abbrev b_Host_finish : PS := (.seq (.fin (.seq (.tryX (.seq (.ret (.meth (.loc 0) 55 (.cons (.op (.attr 16) (.cons (.loc 1) .nil)) .nil))) .nil) 2 (.seq (.ite (.val (.op (.attr 18) (.cons (.loc 1) .nil))) (.seq (.ret (.meth (.cst (.fn 10)) 99 (.cons (.loc 1) (.cons (.loc 2) .nil)))) .nil) .nil)
 (.seq (.act .raise (.cons (.loc 2) .nil)) .nil))) .nil) (.seq (.act .drop (.cons (.meth (.loc 0) 41 (.cons (.loc 1) .nil)) .nil)) .nil)) .nil)
noncomputable abbrev b_Host_leave : PS := (.seq (.ite (.val (.op (.cmp .isNot) (.cons (.op (.attr 17) (.cons (.loc 1) .nil)) (.cons (.cst .none) .nil)))) (.seq (.act (.setA 54) (.cons (.op (.attr 17) (.cons (.loc 1) .nil)) (.cons (.loc 0) .nil))) .nil) .nil) .nil)
noncomputable abbrev b_act : PS := (.seq (.ite (.val (.op (.cmp .is) (.cons (.loc 3) (.cons (.cst .none) .nil)))) (.seq (.ret (.meth (.loc 2) 99 (.cons (.loc 0) (.cons (.loc 1) .nil)))) .nil) .nil)
 (.seq (.ret (.meth (.loc 2) 99 (.cons (.loc 0) (.cons (.loc 1) (.cons (.loc 3) .nil))))) .nil))
noncomputable abbrev b_SmallHost___init__ : PS := (.seq (.act .drop (.cons (.op .base (.cons (.loc 0) (.cons (.loc 1) (.cons (.loc 2) .nil)))) .nil))
 (.seq (.act (.setA 75) (.cons (.dict [] .nil) (.cons (.loc 0) .nil)))
 (.seq (.act (.setA 76) (.cons (.dict [] .nil) (.cons (.loc 0) .nil)))
 (.seq (.act (.setA 77) (.cons (.dict [] .nil) (.cons (.loc 0) .nil))) .nil))))
noncomputable abbrev b_SmallHost_put : PS := (.seq (.act .drop (.cons (.meth (.loc 0) 82 (.cons (.loc 1) .nil)) .nil))
 (.seq (.act .setS (.cons (.op .tup (.cons (.loc 2) (.cons (.loc 3) .nil))) (.cons (.op (.attr 76) (.cons (.loc 0) .nil)) (.cons (.loc 1) .nil)))) .nil))
noncomputable abbrev b_SmallHost_remove : PS := (.seq (.act .drop (.cons (.meth (.op (.attr 76) (.cons (.loc 0) .nil)) 1 (.cons (.loc 1) (.cons (.cst .none) .nil))) .nil))
 (.seq (.act .drop (.cons (.meth (.op (.attr 77) (.cons (.loc 0) .nil)) 1 (.cons (.loc 1) (.cons (.cst .none) .nil))) .nil))
 (.seq (.ite (.val (.op (.cmp .inn) (.cons (.loc 1) (.cons (.op (.attr 67) (.cons (.loc 0) .nil)) .nil)))) (.seq (.aug (.loc 0) 39 .add (.cst (.int 1))) .nil) .nil) .nil)))
noncomputable abbrev b_SmallHost_begin : PS := (.seq (.ite (.val (.op (.cmp .notIn) (.cons (.op .sub (.cons (.loc 1) (.cons (.cst (.int 0)) .nil))) (.cons (.op (.attr 76) (.cons (.loc 0) .nil)) .nil)))) (.seq (.act .raise (.cons (.meth (.cst (.fn 5)) 99 (.cons (.op (.bin .add) (.cons (.op (.bin .add) (.cons (.cst (.str "invalid command name \"")) (.cons (.op .sub (.cons (.loc 1) (.cons (.cst (.int 0)) .nil))) .nil))) (.cons (.cst (.str "\"")) .nil))) (.cons (.op .tup (.cons (.cst (.str "TCL")) (.cons (.cst (.str "LOOKUP")) (.cons (.cst (.str "COMMAND")) (.cons (.op .sub (.cons (.loc 1) (.cons (.cst (.int 0)) .nil))) .nil))))) .nil))) .nil)) .nil) .nil)
 (.seq (.act .drop (.cons (.meth (.loc 0) 83 .nil) .nil))
 (.seq (.unp [.loc 2, .loc 3] (.op .sub (.cons (.op (.attr 76) (.cons (.loc 0) .nil)) (.cons (.op .sub (.cons (.loc 1) (.cons (.cst (.int 0)) .nil))) .nil))))
 (.seq (.ret (.meth (.cst (.fn 43)) 99 (.cons (.loc 0) (.cons (.loc 1) (.cons (.loc 2) (.cons (.loc 3) .nil)))))) .nil))))
noncomputable abbrev b_taken : PS := (.seq (.asg 2 (.op (.bin .sub) (.cons (.op .len (.cons (.op (.attr 24) (.cons (.loc 0) .nil)) .nil)) (.cons (.loc 1) .nil))))
 (.seq (.asg 3 (.op .sfr (.cons (.op (.attr 24) (.cons (.loc 0) .nil)) (.cons (.loc 2) .nil))))
 (.seq (.act (.setA 24) (.cons (.op .sto (.cons (.op (.attr 24) (.cons (.loc 0) .nil)) (.cons (.loc 2) .nil))) (.cons (.loc 0) .nil)))
 (.seq (.ret (.loc 3)) .nil))))
noncomputable abbrev b_op_push : PS := (.seq (.act .drop (.cons (.meth (.op (.attr 24) (.cons (.loc 1) .nil)) 0 (.cons (.loc 2) .nil)) .nil)) .nil)
noncomputable abbrev b_op_join : PS := (.seq (.asg 4 (.meth (.cst (.fn 60)) 99 (.cons (.loc 1) (.cons (.loc 2) .nil))))
 (.seq (.act .drop (.cons (.meth (.op (.attr 24) (.cons (.loc 1) .nil)) 0 (.cons (.meth (.cst (.str "")) 2 (.cons (.loc 4) .nil)) .nil)) .nil)) .nil))
noncomputable abbrev b_call : PS := (.seq (.ite (.val (.op (.cmp .eq) (.cons (.op .len (.cons (.loc 1) .nil)) (.cons (.cst (.int 0)) .nil)))) (.seq (.act .drop (.cons (.meth (.loc 0) 44 (.cons (.cst (.str "")) .nil)) .nil)) .nil) (.seq (.act .drop (.cons (.meth (.loc 0) 86 (.cons (.meth (.op (.attr 30) (.cons (.loc 0) .nil)) 71 (.cons (.loc 1) .nil)) .nil)) .nil)) .nil)) .nil)
noncomputable abbrev b_op_invoke : PS := (.seq (.act .drop (.cons (.meth (.cst (.fn 70)) 99 (.cons (.loc 0) (.cons (.meth (.cst (.fn 60)) 99 (.cons (.loc 1) (.cons (.loc 2) .nil))) .nil))) .nil)) .nil)
noncomputable abbrev b_go : PS := (.seq (.ite (.val (.op (.cmp .lt) (.cons (.loc 2) (.cons (.op (.attr 23) (.cons (.loc 1) .nil)) .nil)))) (.seq (.act .drop (.cons (.meth (.op (.attr 30) (.cons (.loc 0) .nil)) 83 .nil) .nil)) .nil) .nil)
 (.seq (.act (.setA 23) (.cons (.loc 2) (.cons (.loc 1) .nil))) .nil))
noncomputable abbrev b_op_start : PS := (.seq (.ite (.val (.op (.cmp .ne) (.cons (.op (.attr 39) (.cons (.op (.attr 30) (.cons (.loc 0) .nil)) .nil)) (.cons (.op (.attr 39) (.cons (.op (.attr 7) (.cons (.loc 1) .nil)) .nil)) .nil)))) (.seq (.ite (.val (.op (.cmp .is) (.cons (.op (.attr 46) (.cons (.op (.attr 30) (.cons (.loc 0) .nil)) .nil)) (.cons (.cst .none) .nil)))) (.seq (.act .drop (.cons (.meth (.op (.attr 24) (.cons (.loc 1) .nil)) 0 (.cons (.meth (.op (.attr 30) (.cons (.loc 0) .nil)) 55 (.cons (.loc 2) .nil)) .nil)) .nil))
 (.seq (.act (.setA 23) (.cons (.loc 3) (.cons (.loc 1) .nil))) .nil)) (.seq (.act (.setA 23) (.cons (.loc 3) (.cons (.loc 1) .nil)))
 (.seq (.act .drop (.cons (.meth (.loc 0) 45 (.cons (.op (.new 4) (.cons (.loc 2) .nil)) .nil)) .nil)) .nil))) .nil) .nil) .nil)
noncomputable abbrev b_op_jump : PS := (.seq (.act .drop (.cons (.meth (.cst (.fn 72)) 99 (.cons (.loc 0) (.cons (.loc 1) (.cons (.loc 2) .nil)))) .nil)) .nil)
noncomputable abbrev b_plain_ops : PS := (.seq (.ret (.dict ["push", "pop", "load", "load_name", "load_element", "store", "store_name", "store_element", "join", "invoke", "start", "jump", "fail"] (.cons (.cst (.fn 61)) (.cons (.cst (.fn 62)) (.cons (.cst (.fn 63)) (.cons (.cst (.fn 64)) (.cons (.cst (.fn 65)) (.cons (.cst (.fn 66)) (.cons (.cst (.fn 67)) (.cons (.cst (.fn 68)) (.cons (.cst (.fn 69)) (.cons (.cst (.fn 71)) (.cons (.cst (.fn 73)) (.cons (.cst (.fn 74)) (.cons (.cst (.fn 75)) .nil))))))))))))))) .nil)
noncomputable abbrev b_law_cell : PS := (.seq (.ret (.ite (.val (.op (.cmp .lt) (.cons (.loc 1) (.cons (.op .len (.cons (.loc 0) .nil)) .nil)))) (.op .sub (.cons (.loc 0) (.cons (.loc 1) .nil))) (.cst (.int 0)))) .nil)
noncomputable abbrev b_law_item : PS := (.seq (.asg 3 (.op (.bin .add) (.cons (.op (.bin .add) (.cons (.meth (.cst (.fn 77)) 99 (.cons (.loc 0) (.cons (.loc 1) .nil))) (.cons (.op (.bin .mul) (.cons (.cst (.int 5)) (.cons (.loc 1) .nil))) .nil))) (.cons (.cst (.int 2)) .nil))))
 (.seq (.unpR [4, 5] (.op .tup (.cons (.op (.bin .mod) (.cons (.loc 3) (.cons (.cst (.int 4)) .nil))) (.cons (.op (.bin .mod) (.cons (.op (.bin .add) (.cons (.op (.bin .fdiv) (.cons (.loc 3) (.cons (.cst (.int 4)) .nil))) (.cons (.loc 1) .nil))) (.cons (.cst (.int 8)) .nil))) .nil))))
 (.seq (.asg 6 (.op .tup (.cons (.cst (.str "call")) (.cons (.op .list (.cons (.cst (.str "r")) (.cons (.op .strf (.cons (.loc 5) .nil)) (.cons (.op .strf (.cons (.loc 2) .nil)) .nil)))) .nil))))
 (.seq (.ite (.val (.op (.cmp .eq) (.cons (.loc 4) (.cons (.cst (.int 0)) .nil)))) (.seq (.ret (.loc 6)) .nil) .nil)
 (.seq (.ite (.val (.op (.cmp .eq) (.cons (.loc 4) (.cons (.cst (.int 1)) .nil)))) (.seq (.ret (.op .tup (.cons (.cst (.str "piece")) (.cons (.op (.bin .add) (.cons (.cst (.str "s")) (.cons (.op .strf (.cons (.loc 1) .nil)) .nil))) (.cons (.op .list (.cons (.loc 6) .nil)) (.cons (.cst (.bool false)) .nil)))))) .nil) .nil)
 (.seq (.asg 7 (.op (.cmp .eq) (.cons (.op (.bin .mod) (.cons (.op (.bin .fdiv) (.cons (.loc 3) (.cons (.cst (.int 32)) .nil))) (.cons (.cst (.int 2)) .nil))) (.cons (.cst (.int 0)) .nil))))
 (.seq (.ite (.val (.op (.cmp .eq) (.cons (.loc 4) (.cons (.cst (.int 2)) .nil)))) (.seq (.asg 8 (.op .tup (.cons (.cst (.str "piece")) (.cons (.op (.bin .add) (.cons (.cst (.str "t")) (.cons (.op .strf (.cons (.loc 1) .nil)) .nil))) (.cons (.op .list (.cons (.op .tup (.cons (.cst (.str "call")) (.cons (.op .list (.cons (.cst (.str "r")) (.cons (.op .strf (.cons (.op (.bin .mod) (.cons (.op (.bin .add) (.cons (.loc 5) (.cons (.cst (.int 3)) .nil))) (.cons (.cst (.int 8)) .nil))) .nil)) (.cons (.op .strf (.cons (.loc 2) .nil)) .nil)))) .nil))) .nil)) (.cons (.cst (.bool false)) .nil))))))
  (.seq (.ret (.op .tup (.cons (.cst (.str "loop")) (.cons (.op (.bin .add) (.cons (.cst (.str "s")) (.cons (.op .strf (.cons (.loc 1) .nil)) .nil))) (.cons (.op .list (.cons (.loc 6) (.cons (.loc 8) .nil))) (.cons (.loc 7) .nil)))))) .nil)) .nil)
 (.seq (.asg 8 (.op .tup (.cons (.cst (.str "loop")) (.cons (.op (.bin .add) (.cons (.cst (.str "t")) (.cons (.op .strf (.cons (.loc 1) .nil)) .nil))) (.cons (.op .list (.cons (.loc 6) .nil)) (.cons (.loc 7) .nil))))))
 (.seq (.ret (.op .tup (.cons (.cst (.str "piece")) (.cons (.op (.bin .add) (.cons (.cst (.str "s")) (.cons (.op .strf (.cons (.loc 1) .nil)) .nil))) (.cons (.op .list (.cons (.loc 8) (.cons (.op .tup (.cons (.cst (.str "call")) (.cons (.op .list (.cons (.cst (.str "r")) (.cons (.op .strf (.cons (.op (.bin .mod) (.cons (.op (.bin .add) (.cons (.loc 5) (.cons (.cst (.int 2)) .nil))) (.cons (.cst (.int 8)) .nil))) .nil)) (.cons (.op .strf (.cons (.loc 2) .nil)) .nil)))) .nil))) .nil))) (.cons (.cst (.bool false)) .nil)))))) .nil)))))))))
noncomputable abbrev b_law_book : PS := (.seq (.asg 1 (.dict ["P0", "P1", "P2", "Q"] (.cons (.op .list .nil) (.cons (.op .list .nil) (.cons (.op .list .nil) (.cons (.op .list (.cons (.op .tup (.cons (.cst (.str "piece")) (.cons (.cst (.str "q")) (.cons (.op .list (.cons (.op .tup (.cons (.cst (.str "call")) (.cons (.op .list (.cons (.cst (.str "o")) .nil)) .nil))) .nil)) (.cons (.cst (.bool false)) .nil))))) .nil)) .nil))))))
 (.seq (.forR 2 (.cst (.int 7)) (.seq (.asg 3 (.op .sub (.cons (.op .list (.cons (.cst (.int 0)) (.cons (.cst (.int 0)) (.cons (.cst (.int 0)) (.cons (.cst (.int 1)) (.cons (.cst (.int 1)) (.cons (.cst (.int 2)) (.cons (.cst (.int 2)) .nil)))))))) (.cons (.loc 2) .nil))))
  (.seq (.asg 4 (.meth (.cst (.fn 78)) 99 (.cons (.loc 0) (.cons (.loc 2) (.cons (.loc 3) .nil)))))
  (.seq (.act .drop (.cons (.meth (.op .sub (.cons (.loc 1) (.cons (.op (.bin .add) (.cons (.cst (.str "P")) (.cons (.op .strf (.cons (.loc 3) .nil)) .nil))) .nil))) 0 (.cons (.loc 4) .nil)) .nil))
  (.seq (.ite (.val (.op (.cmp .ne) (.cons (.op .sub (.cons (.loc 4) (.cons (.cst (.int 0)) .nil))) (.cons (.cst (.str "call")) .nil)))) (.seq (.act .setS (.cons (.op .list (.cons (.loc 4) .nil)) (.cons (.loc 1) (.cons (.op .sub (.cons (.loc 4) (.cons (.cst (.int 1)) .nil))) .nil))))
   (.seq (.forL 5 (.op .sub (.cons (.loc 4) (.cons (.cst (.int 2)) .nil))) (.seq (.ite (.val (.op (.cmp .ne) (.cons (.op .sub (.cons (.loc 5) (.cons (.cst (.int 0)) .nil))) (.cons (.cst (.str "call")) .nil)))) (.seq (.act .setS (.cons (.op .list (.cons (.loc 5) .nil)) (.cons (.loc 1) (.cons (.op .sub (.cons (.loc 5) (.cons (.cst (.int 1)) .nil))) .nil)))) .nil) .nil) .nil)) .nil)) .nil) .nil)))))
 (.seq (.ret (.loc 1)) .nil)))
noncomputable abbrev b_law_deeds : PS := (.seq (.asg 1 (.op .list .nil))
 (.seq (.forR 2 (.cst (.int 8)) (.seq (.asg 3 (.op (.bin .add) (.cons (.op (.bin .add) (.cons (.meth (.cst (.fn 77)) 99 (.cons (.loc 0) (.cons (.op (.bin .add) (.cons (.cst (.int 7)) (.cons (.loc 2) .nil))) .nil))) (.cons (.loc 2) .nil))) (.cons (.cst (.int 1)) .nil))))
  (.seq (.asg 4 (.op (.bin .fdiv) (.cons (.loc 3) (.cons (.cst (.int 8)) .nil))))
  (.seq (.asg 5 (.op .sub (.cons (.op .list (.cons (.cst (.str "text")) (.cons (.cst (.str "turn")) (.cons (.cst (.str "nest")) (.cons (.cst (.str "put")) (.cons (.cst (.str "raise")) (.cons (.cst (.str "turn")) (.cons (.cst (.str "nest")) (.cons (.cst (.str "put")) .nil))))))))) (.cons (.op (.bin .mod) (.cons (.loc 3) (.cons (.cst (.int 8)) .nil))) .nil))))
  (.seq (.act .drop (.cons (.meth (.loc 1) 0 (.cons (.op .tup (.cons (.loc 5) (.cons (.op (.bin .add) (.cons (.cst (.str "v")) (.cons (.op .strf (.cons (.loc 2) .nil)) .nil))) (.cons (.loc 4) .nil)))) .nil)) .nil)) .nil)))))
 (.seq (.ret (.loc 1)) .nil)))
noncomputable abbrev b_law_rows : PS := (.seq (.forR 4 (.op .len (.cons (.loc 2) .nil)) (.seq (.asg 5 (.op .sub (.cons (.loc 2) (.cons (.loc 4) .nil))))
 (.seq (.ite (.val (.op (.cmp .eq) (.cons (.op .sub (.cons (.loc 5) (.cons (.cst (.int 0)) .nil))) (.cons (.cst (.str "call")) .nil)))) (.seq (.forL 6 (.op .sub (.cons (.loc 5) (.cons (.cst (.int 1)) .nil))) (.seq (.act .drop (.cons (.meth (.loc 0) 0 (.cons (.op .tup (.cons (.cst (.str "push")) (.cons (.loc 6) (.cons (.cst .none) .nil)))) .nil)) .nil)) .nil))
  (.seq (.act .drop (.cons (.meth (.loc 0) 0 (.cons (.op .tup (.cons (.cst (.str "invoke")) (.cons (.op .len (.cons (.op .sub (.cons (.loc 5) (.cons (.cst (.int 1)) .nil))) .nil)) (.cons (.cst .none) .nil)))) .nil)) .nil)) .nil)) (.seq (.asg 7 (.op .len (.cons (.loc 0) .nil)))
  (.seq (.act .drop (.cons (.meth (.loc 0) 0 (.cons (.op .tup (.cons (.cst (.str "start")) (.cons (.op .sub (.cons (.loc 5) (.cons (.cst (.int 1)) .nil))) (.cons (.cst (.int 0)) .nil)))) .nil)) .nil))
  (.seq (.act .drop (.cons (.meth (.cst (.fn 81)) 99 (.cons (.loc 0) (.cons (.loc 1) (.cons (.op .sub (.cons (.loc 5) (.cons (.cst (.int 2)) .nil))) (.cons (.op (.bin .add) (.cons (.loc 3) (.cons (.loc 4) .nil))) .nil))))) .nil))
  (.seq (.asg 8 (.op .len (.cons (.loc 0) .nil)))
  (.seq (.ite (.val (.op (.cmp .eq) (.cons (.op .sub (.cons (.loc 5) (.cons (.cst (.int 0)) .nil))) (.cons (.cst (.str "loop")) .nil)))) (.seq (.asg 9 (.ite (.val (.op .sub (.cons (.loc 5) (.cons (.cst (.int 3)) .nil)))) (.op (.bin .add) (.cons (.loc 8) (.cons (.cst (.int 3)) .nil))) (.cst .none)))
   (.seq (.act .drop (.cons (.meth (.loc 1) 0 (.cons (.op .tup (.cons (.cst (.str "loop")) (.cons (.op (.bin .add) (.cons (.loc 7) (.cons (.cst (.int 1)) .nil))) (.cons (.loc 8) (.cons (.op (.bin .add) (.cons (.loc 8) (.cons (.cst (.int 1)) .nil))) (.cons (.loc 9) (.cons (.op (.bin .add) (.cons (.loc 3) (.cons (.loc 4) .nil))) .nil))))))) .nil)) .nil))
   (.seq (.act .drop (.cons (.meth (.loc 0) 0 (.cons (.op .tup (.cons (.cst (.str "jump")) (.cons (.op (.bin .add) (.cons (.loc 8) (.cons (.cst (.int 4)) .nil))) (.cons (.cst .none) .nil)))) .nil)) .nil))
   (.seq (.act .drop (.cons (.meth (.loc 0) 0 (.cons (.op .tup (.cons (.cst (.str "push")) (.cons (.cst (.str "B")) (.cons (.cst .none) .nil)))) .nil)) .nil))
   (.seq (.act .drop (.cons (.meth (.loc 0) 0 (.cons (.op .tup (.cons (.cst (.str "jump")) (.cons (.op (.bin .add) (.cons (.loc 8) (.cons (.cst (.int 4)) .nil))) (.cons (.cst .none) .nil)))) .nil)) .nil))
   (.seq (.act .drop (.cons (.meth (.loc 0) 0 (.cons (.op .tup (.cons (.cst (.str "push")) (.cons (.cst (.str "C")) (.cons (.cst .none) .nil)))) .nil)) .nil)) .nil)))))) .nil)
  (.seq (.act .setS (.cons (.op .tup (.cons (.cst (.str "start")) (.cons (.op .sub (.cons (.loc 5) (.cons (.cst (.int 1)) .nil))) (.cons (.op .len (.cons (.loc 0) .nil)) .nil)))) (.cons (.loc 0) (.cons (.loc 7) .nil)))) .nil))))))) .nil)))
 (.seq (.act .drop (.cons (.meth (.loc 0) 0 (.cons (.op .tup (.cons (.cst (.str "join")) (.cons (.op .len (.cons (.loc 2) .nil)) (.cons (.cst .none) .nil)))) .nil)) .nil)) .nil))
noncomputable abbrev b_law_maker : PS := (.seq (.unpR [3, 4] (.op .tup (.cons (.op .list .nil) (.cons (.op .list .nil) .nil))))
 (.seq (.act .drop (.cons (.meth (.cst (.fn 81)) 99 (.cons (.loc 3) (.cons (.loc 4) (.cons (.op .sub (.cons (.op .sub (.cons (.op (.attr 66) (.cons (.loc 0) .nil)) (.cons (.cst (.str "book")) .nil))) (.cons (.loc 1) .nil))) (.cons (.cst (.int 0)) .nil))))) .nil))
 (.seq (.ret (.op (.new 8) (.cons (.loc 3) (.cons (.loc 4) (.cons (.op .list .nil) (.cons (.op .list .nil) (.cons (.op (.attr 39) (.cons (.loc 0) .nil)) .nil))))))) .nil)))
noncomputable abbrev b_law_items : PS := (.seq (.asg 2 (.op .list .nil))
 (.seq (.forL 3 (.loc 1) (.seq (.ite (.val (.op (.cmp .eq) (.cons (.op .sub (.cons (.loc 3) (.cons (.cst (.int 0)) .nil))) (.cons (.cst (.str "call")) .nil)))) (.seq (.act .drop (.cons (.meth (.loc 2) 0 (.cons (.meth (.loc 0) 87 (.cons (.op .sub (.cons (.loc 3) (.cons (.cst (.int 1)) .nil))) .nil)) .nil)) .nil)) .nil) (.seq (.ite (.val (.op (.cmp .eq) (.cons (.op .sub (.cons (.loc 3) (.cons (.cst (.int 0)) .nil))) (.cons (.cst (.str "piece")) .nil)))) (.seq (.act .drop (.cons (.meth (.loc 2) 0 (.cons (.meth (.cst (.fn 83)) 99 (.cons (.loc 0) (.cons (.op .sub (.cons (.loc 3) (.cons (.cst (.int 2)) .nil))) .nil))) .nil)) .nil)) .nil) (.seq (.tryX (.seq (.act .drop (.cons (.meth (.loc 2) 0 (.cons (.meth (.cst (.fn 83)) 99 (.cons (.loc 0) (.cons (.op .sub (.cons (.loc 3) (.cons (.cst (.int 2)) .nil))) .nil))) .nil)) .nil)) .nil) 4 (.seq (.ite (.tcons true (.val (.op (.cmp .ne) (.cons (.op (.attr 7) (.cons (.loc 4) .nil)) (.cons (.cst (.int 3)) .nil)))) (.tcons true (.tnot (.tcons true (.val (.op (.cmp .eq) (.cons (.op (.attr 7) (.cons (.loc 4) .nil)) (.cons (.cst (.int 4)) .nil)))) (.tcons true (.val (.op .sub (.cons (.loc 3) (.cons (.cst (.int 3)) .nil)))) (.tnil true)))) (.tnil true))) (.seq (.act .raise (.cons (.loc 4) .nil)) .nil) .nil)
  (.seq (.act .drop (.cons (.meth (.loc 2) 0 (.cons (.ite (.val (.op (.cmp .eq) (.cons (.op (.attr 7) (.cons (.loc 4) .nil)) (.cons (.cst (.int 3)) .nil)))) (.cst (.str "B")) (.cst (.str "C"))) .nil)) .nil)) .nil))) .nil)) .nil)) .nil))
 (.seq (.ret (.meth (.cst (.str "")) 2 (.cons (.loc 2) .nil))) .nil)))
noncomputable abbrev b_law_plain : PS := (.seq (.ret (.meth (.cst (.fn 83)) 99 (.cons (.loc 0) (.cons (.op .sub (.cons (.op .sub (.cons (.op (.attr 66) (.cons (.loc 0) .nil)) (.cons (.cst (.str "book")) .nil))) (.cons (.loc 1) .nil))) .nil)))) .nil)
noncomputable abbrev b_law_idle : PS := (.seq (.ret (.cst (.str "idle"))) .nil)
noncomputable abbrev b_law_deed : PS := (.seq (.unp [.loc 3, .loc 4, .loc 5, .loc 6] (.loc 2))
 (.seq (.act .drop (.cons (.meth (.loc 5) 0 (.cons (.op .tup (.cons (.cst (.str "call")) (.cons (.op .sub (.cons (.loc 1) (.cons (.cst (.int 1)) .nil))) (.cons (.op .sub (.cons (.loc 1) (.cons (.cst (.int 2)) .nil))) (.cons (.op (.attr 54) (.cons (.loc 0) .nil)) .nil))))) .nil)) .nil))
 (.seq (.unp [.loc 7, .loc 8, .loc 9] (.op .sub (.cons (.loc 3) (.cons (.meth (.cst (.str "01234567")) 3 (.cons (.op .sub (.cons (.loc 1) (.cons (.cst (.int 1)) .nil))) .nil)) .nil))))
 (.seq (.ite (.val (.op (.cmp .eq) (.cons (.loc 7) (.cons (.cst (.str "put")) .nil)))) (.seq (.act .drop (.cons (.meth (.loc 0) 88 (.cons (.cst (.str "i")) (.cons (.cst (.fn 85)) .nil))) .nil)) .nil) .nil)
 (.seq (.ite (.val (.op (.cmp .eq) (.cons (.loc 7) (.cons (.cst (.str "turn")) .nil)))) (.seq (.asg 10 (.ite (.val (.op (.cmp .eq) (.cons (.op (.bin .mod) (.cons (.loc 9) (.cons (.cst (.int 2)) .nil))) (.cons (.cst (.int 0)) .nil)))) (.cst (.str "yield")) (.cst (.str "yieldto"))))
  (.seq (.ite (.val (.op (.cmp .eq) (.cons (.loc 4) (.cons (.op .list .nil) .nil)))) (.seq (.ret (.op (.new 5) (.cons (.loc 10) (.cons (.op .list (.cons (.loc 8) .nil)) .nil)))) .nil) .nil)
  (.seq (.act .drop (.cons (.meth (.loc 5) 0 (.cons (.op .tup (.cons (.cst (.str "turn")) (.cons (.loc 10) (.cons (.loc 8) .nil)))) .nil)) .nil))
  (.seq (.act .setS (.cons (.op (.bin .add) (.cons (.op .sub (.cons (.loc 6) (.cons (.cst (.int 0)) .nil))) (.cons (.cst (.int 1)) .nil))) (.cons (.loc 6) (.cons (.cst (.int 0)) .nil))))
  (.seq (.ret (.op .sub (.cons (.loc 4) (.cons (.op (.bin .mod) (.cons (.op (.bin .sub) (.cons (.op .sub (.cons (.loc 6) (.cons (.cst (.int 0)) .nil))) (.cons (.cst (.int 1)) .nil))) (.cons (.op .len (.cons (.loc 4) .nil)) .nil))) .nil)))) .nil))))) .nil)
 (.seq (.ite (.val (.op (.cmp .eq) (.cons (.loc 7) (.cons (.cst (.str "raise")) .nil)))) (.seq (.asg 11 (.op .sub (.cons (.op .list (.cons (.cst (.int 3)) (.cons (.cst (.int 1)) (.cons (.cst (.int 4)) (.cons (.cst (.int 2)) (.cons (.cst (.int 5)) .nil)))))) (.cons (.op (.bin .mod) (.cons (.loc 9) (.cons (.cst (.int 5)) .nil))) .nil))))
  (.seq (.ite (.val (.op (.cmp .eq) (.cons (.loc 11) (.cons (.cst (.int 2)) .nil)))) (.seq (.act .raise (.cons (.op (.new 3) (.cons (.cst (.int 2)) (.cons (.loc 8) (.cons (.op .tup (.cons (.cst (.str "NONE")) .nil)) (.cons (.op (.bin .add) (.cons (.cst (.int 1)) (.cons (.op (.bin .mod) (.cons (.op (.bin .fdiv) (.cons (.loc 9) (.cons (.cst (.int 5)) .nil))) (.cons (.cst (.int 2)) .nil))) .nil))) (.cons (.op .sub (.cons (.op .list (.cons (.cst (.int 0)) (.cons (.cst (.int 1)) (.cons (.cst (.int 3)) (.cons (.cst (.int 4)) .nil))))) (.cons (.op (.bin .mod) (.cons (.op (.bin .fdiv) (.cons (.loc 9) (.cons (.cst (.int 10)) .nil))) (.cons (.cst (.int 4)) .nil))) .nil))) .nil)))))) .nil)) .nil) .nil)
  (.seq (.act .raise (.cons (.op (.new 3) (.cons (.loc 11) (.cons (.loc 8) (.cons (.op .tup (.cons (.cst (.str "LAW")) (.cons (.loc 8) .nil))) .nil)))) .nil)) .nil))) .nil)
 (.seq (.ite (.tcons true (.val (.op (.cmp .eq) (.cons (.loc 7) (.cons (.cst (.str "nest")) .nil)))) (.tcons true (.val (.op (.cmp .ne) (.cons (.op .sub (.cons (.loc 1) (.cons (.cst (.int 2)) .nil))) (.cons (.cst (.str "2")) .nil)))) (.tcons true (.val (.op (.cmp .lt) (.cons (.op .sub (.cons (.loc 6) (.cons (.cst (.int 1)) .nil))) (.cons (.cst (.int 4)) .nil)))) (.tnil true)))) (.seq (.act .setS (.cons (.op (.bin .add) (.cons (.op .sub (.cons (.loc 6) (.cons (.cst (.int 1)) .nil))) (.cons (.cst (.int 1)) .nil))) (.cons (.loc 6) (.cons (.cst (.int 1)) .nil))))
  (.seq (.asg 12 (.cst .none))
  (.seq (.ite (.val (.op (.cmp .eq) (.cons (.op (.bin .mod) (.cons (.op (.bin .fdiv) (.cons (.loc 9) (.cons (.cst (.int 2)) .nil))) (.cons (.cst (.int 2)) .nil))) (.cons (.cst (.int 0)) .nil)))) (.seq (.asg 12 (.op (.attr 54) (.cons (.loc 0) .nil)))
   (.seq (.act (.setA 54) (.cons (.op (.bin .add) (.cons (.cst (.str "f")) (.cons (.op .sub (.cons (.loc 1) (.cons (.cst (.int 1)) .nil))) .nil))) (.cons (.loc 0) .nil))) .nil)) .nil)
  (.seq (.ret (.op (.new 4) (.cons (.ite (.val (.op (.cmp .eq) (.cons (.op .sub (.cons (.loc 1) (.cons (.cst (.int 2)) .nil))) (.cons (.cst (.str "0")) .nil)))) (.cst (.str "P1")) (.cst (.str "P2"))) (.cons (.loc 12) (.cons (.op (.cmp .eq) (.cons (.op (.bin .mod) (.cons (.loc 9) (.cons (.cst (.int 2)) .nil))) (.cons (.cst (.int 1)) .nil))) (.cons (.cst (.str "p")) .nil)))))) .nil)))) .nil)
 (.seq (.ret (.loc 8)) .nil))))))))
noncomputable abbrev b_law_host : PS := (.seq (.asg 4 (.op (.new 12) .nil))
 (.seq (.act (.setA 54) (.cons (.cst (.str "top")) (.cons (.loc 4) .nil)))
 (.seq (.act .setS (.cons (.cst (.bool true)) (.cons (.op (.attr 67) (.cons (.loc 4) .nil)) (.cons (.cst (.str "i")) .nil))))
 (.seq (.act .setS (.cons (.loc 0) (.cons (.op (.attr 66) (.cons (.loc 4) .nil)) (.cons (.cst (.str "book")) .nil))))
 (.seq (.act .setS (.cons (.cst (.fn 84)) (.cons (.op (.attr 66) (.cons (.loc 4) .nil)) (.cons (.cst (.str "run")) .nil))))
 (.seq (.act .drop (.cons (.meth (.loc 4) 88 (.cons (.cst (.str "r")) (.cons (.cst (.fn 86)) (.cons (.op .tup (.cons (.loc 1) (.cons (.loc 2) (.cons (.loc 3) (.cons (.op .list (.cons (.cst (.int 0)) (.cons (.cst (.int 0)) .nil))) .nil))))) .nil)))) .nil))
 (.seq (.act .drop (.cons (.meth (.loc 4) 88 (.cons (.cst (.str "o")) (.cons (.cst (.fn 85)) .nil))) .nil))
 (.seq (.ret (.loc 4)) .nil))))))))
noncomputable abbrev b_law_turns : PS := (.seq (.asg 6 (.op (.new 9) (.cons (.cst (.str "c")) (.cons (.loc 1) .nil))))
 (.seq (.act (.setA 46) (.cons (.loc 6) (.cons (.loc 0) .nil)))
 (.seq (.act .drop (.cons (.meth (.loc 1) 45 (.cons (.op (.new 4) (.cons (.cst (.str "P0")) .nil)) .nil)) .nil))
 (.seq (.asg 7 (.cst (.int 0)))
 (.seq (.unp [.loc 8, .loc 9] (.meth (.loc 1) 55 .nil))
 (.seq (.while (.val (.op (.cmp .eq) (.cons (.loc 8) (.cons (.cst (.str "pause")) .nil)))) (.seq (.act .drop (.cons (.meth (.loc 3) 0 (.cons (.op .tup (.cons (.cst (.str "turn")) (.cons (.op (.attr 20) (.cons (.loc 9) .nil)) (.cons (.op .sub (.cons (.op (.attr 21) (.cons (.loc 9) .nil)) (.cons (.cst (.int 0)) .nil))) .nil)))) .nil)) .nil))
  (.seq (.unpR [10, 11] (.op .tup (.cons (.op (.attr 54) (.cons (.loc 0) .nil)) (.cons (.op .len (.cons (.op (.attr 33) (.cons (.loc 1) .nil)) .nil)) .nil))))
  (.seq (.unp [.attr (.loc 0) 54, .attr (.loc 0) 46] (.op .tup (.cons (.cst (.str "out")) (.cons (.cst .none) .nil))))
  (.seq (.ite (.val (.op (.cmp .eq) (.cons (.op (.bin .mod) (.cons (.op (.bin .fdiv) (.cons (.loc 5) (.cons (.op (.bin .pow) (.cons (.cst (.int 2)) (.cons (.loc 7) .nil))) .nil))) (.cons (.cst (.int 2)) .nil))) (.cons (.cst (.int 1)) .nil)))) (.seq (.act .drop (.cons (.meth (.loc 0) 88 (.cons (.cst (.str "i")) (.cons (.cst (.fn 85)) .nil))) .nil)) .nil) .nil)
  (.seq (.asg 12 (.bools true (.op (.cmp .eq) (.cons (.op (.attr 52) (.cons (.loc 0) .nil)) (.cons (.cst (.int 0)) .nil))) (.op (.cmp .eq) (.cons (.meth (.cst (.fn 25)) 99 (.cons (.loc 2) (.cons (.meth (.loc 2) 42 (.cons (.cst (.str "Q")) (.cons (.cst (.bool false)) .nil))) .nil))) (.cons (.cst (.str "idle")) .nil)))))
  (.seq (.ite (.tcons false (.tnot (.val (.loc 12))) (.tcons false (.val (.op (.cmp .ne) (.cons (.op (.attr 54) (.cons (.loc 0) .nil)) (.cons (.cst (.str "out")) .nil)))) (.tcons false (.val (.op (.cmp .is) (.cons (.op (.attr 35) (.cons (.loc 1) .nil)) (.cons (.cst .none) .nil)))) (.tcons false (.val (.op (.cmp .ne) (.cons (.op .len (.cons (.op (.attr 33) (.cons (.loc 1) .nil)) .nil)) (.cons (.loc 11) .nil)))) (.tcons false (.val (.op (.cmp .eq) (.cons (.loc 11) (.cons (.cst (.int 0)) .nil)))) (.tnil false)))))) (.seq (.ret (.cst (.str "not apart"))) .nil) .nil)
  (.seq (.unp [.attr (.loc 0) 54, .attr (.loc 0) 46] (.op .tup (.cons (.loc 10) (.cons (.loc 6) .nil))))
  (.seq (.act .drop (.cons (.meth (.loc 1) 44 (.cons (.op .sub (.cons (.loc 4) (.cons (.op (.bin .mod) (.cons (.loc 7) (.cons (.op .len (.cons (.loc 4) .nil)) .nil))) .nil))) .nil)) .nil))
  (.seq (.asg 7 (.op (.bin .add) (.cons (.loc 7) (.cons (.cst (.int 1)) .nil))))
  (.seq (.unp [.loc 8, .loc 9] (.meth (.loc 1) 55 .nil)) .nil)))))))))))
 (.seq (.ret (.loc 9)) .nil)))))))
noncomputable abbrev b_law_told : PS := (.seq (.ret (.op .tup (.cons (.cst (.str "raised")) (.cons (.op (.attr 7) (.cons (.loc 0) .nil)) (.cons (.op (.attr 8) (.cons (.loc 0) .nil)) (.cons (.op (.attr 9) (.cons (.loc 0) .nil)) (.cons (.op (.attr 10) (.cons (.loc 0) .nil)) (.cons (.op (.attr 11) (.cons (.loc 0) .nil)) .nil)))))))) .nil)
noncomputable abbrev b_law : PS := (.seq (.unpR [1, 2] (.op .tup (.cons (.meth (.cst (.fn 79)) 99 (.cons (.loc 0) .nil)) (.cons (.meth (.cst (.fn 80)) 99 (.cons (.loc 0) .nil)) .nil))))
 (.seq (.asg 3 (.op .list (.cons (.cst (.str "")) (.cons (.cst (.str "a b")) (.cons (.cst (.str "1")) (.cons (.cst (.str "no")) (.cons (.op (.bin .add) (.cons (.cst (.str "z")) (.cons (.op .strf (.cons (.op (.bin .mod) (.cons (.meth (.cst (.fn 77)) 99 (.cons (.loc 0) (.cons (.cst (.int 15)) .nil))) (.cons (.op (.bin .pow) (.cons (.cst (.int 10)) (.cons (.cst (.int 9)) .nil))) .nil))) .nil)) .nil))) .nil)))))))
 (.seq (.unpR [4, 5, 6] (.op .tup (.cons (.op .list .nil) (.cons (.op .list .nil) (.cons (.op .list .nil) .nil)))))
 (.seq (.asg 7 (.meth (.cst (.fn 87)) 99 (.cons (.loc 1) (.cons (.loc 2) (.cons (.op .list .nil) (.cons (.loc 4) .nil))))))
 (.seq (.asg 8 (.op (.new 7) (.cons (.loc 7) (.cons (.meth (.cst (.fn 76)) 99 .nil) (.cons (.cst (.fn 82)) .nil)))))
 (.seq (.tryX (.seq (.asg 9 (.op .tup (.cons (.cst (.str "done")) (.cons (.meth (.cst (.fn 88)) 99 (.cons (.loc 7) (.cons (.loc 8) (.cons (.op (.new 7) (.cons (.loc 7) (.cons (.meth (.cst (.fn 76)) 99 .nil) (.cons (.cst (.fn 82)) .nil)))) (.cons (.loc 4) (.cons (.loc 3) (.cons (.op (.bin .mod) (.cons (.op (.bin .add) (.cons (.meth (.cst (.fn 77)) 99 (.cons (.loc 0) (.cons (.cst (.int 16)) .nil))) (.cons (.cst (.int 1)) .nil))) (.cons (.op (.bin .pow) (.cons (.cst (.int 2)) (.cons (.cst (.int 40)) .nil))) .nil))) .nil))))))) .nil)))) .nil) 10 (.seq (.asg 9 (.meth (.cst (.fn 89)) 99 (.cons (.loc 10) .nil))) .nil))
 (.seq (.ite (.tcons false (.val (.op (.cmp .ne) (.cons (.op (.attr 33) (.cons (.loc 8) .nil)) (.cons (.op .list .nil) .nil)))) (.tcons false (.val (.op (.cmp .isNot) (.cons (.op (.attr 35) (.cons (.loc 8) .nil)) (.cons (.cst .none) .nil)))) (.tcons false (.val (.op (.cmp .ne) (.cons (.op (.attr 52) (.cons (.loc 7) .nil)) (.cons (.cst (.int 0)) .nil)))) (.tcons false (.val (.op (.cmp .ne) (.cons (.op (.attr 54) (.cons (.loc 7) .nil)) (.cons (.cst (.str "top")) .nil)))) (.tnil false))))) (.seq (.ret (.cst (.bool false))) .nil) .nil)
 (.seq (.asg 7 (.meth (.cst (.fn 87)) 99 (.cons (.loc 1) (.cons (.loc 2) (.cons (.loc 3) (.cons (.loc 5) .nil))))))
 (.seq (.asg 8 (.op (.new 7) (.cons (.loc 7) (.cons (.meth (.cst (.fn 76)) 99 .nil) (.cons (.cst (.fn 82)) .nil)))))
 (.seq (.tryX (.seq (.asg 11 (.op .tup (.cons (.cst (.str "done")) (.cons (.meth (.cst (.fn 25)) 99 (.cons (.loc 8) (.cons (.meth (.loc 8) 42 (.cons (.cst (.str "P0")) (.cons (.cst (.bool false)) .nil))) .nil))) .nil)))) .nil) 10 (.seq (.asg 11 (.meth (.cst (.fn 89)) 99 (.cons (.loc 10) .nil))) .nil))
 (.seq (.ite (.tcons false (.val (.op (.cmp .ne) (.cons (.op (.attr 33) (.cons (.loc 8) .nil)) (.cons (.op .list .nil) .nil)))) (.tcons false (.val (.op (.cmp .ne) (.cons (.op (.attr 52) (.cons (.loc 7) .nil)) (.cons (.cst (.int 0)) .nil)))) (.tcons false (.val (.op (.cmp .ne) (.cons (.op (.attr 54) (.cons (.loc 7) .nil)) (.cons (.cst (.str "top")) .nil)))) (.tnil false)))) (.seq (.ret (.cst (.bool false))) .nil) .nil)
 (.seq (.asg 7 (.meth (.cst (.fn 87)) 99 (.cons (.loc 1) (.cons (.loc 2) (.cons (.loc 3) (.cons (.loc 6) .nil))))))
 (.seq (.tryX (.seq (.asg 12 (.op .tup (.cons (.cst (.str "done")) (.cons (.meth (.loc 7) 55 (.cons (.cst (.str "P0")) .nil)) .nil)))) .nil) 10 (.seq (.asg 12 (.meth (.cst (.fn 89)) 99 (.cons (.loc 10) .nil))) .nil))
 (.seq (.ret (.bools true (.op (.cmp .eq) (.cons (.loc 9) (.cons (.loc 11) .nil))) (.bools true (.op (.cmp .eq) (.cons (.loc 9) (.cons (.loc 12) .nil))) (.bools true (.op (.cmp .eq) (.cons (.loc 4) (.cons (.loc 5) .nil))) (.bools true (.op (.cmp .eq) (.cons (.loc 4) (.cons (.loc 6) .nil))) (.op (.cmp .eq) (.cons (.op (.attr 54) (.cons (.loc 7) .nil)) (.cons (.cst (.str "top")) .nil)))))))) .nil))))))))))))))
noncomputable def fnL : List (Option FnRec) := [none,
 none,
 some ⟨6, 6, [.tup [.str "NONE"], .int 0, .int 0], b_Raised___init__⟩,
 some ⟨5, 5, [.none, .bool false, .str ""], b_Nest___init__⟩,
 some ⟨3, 3, [], b_Pause___init__⟩,
 some ⟨2, 2, [.tup [.str "NONE"]], b_error⟩,
 some ⟨2, 2, [], b_cut⟩,
 none,
 some ⟨2, 2, [], b_note_row⟩,
 some ⟨1, 1, [], b_end_return⟩,
 some ⟨2, 4, [], b_end_proc⟩,
 some ⟨3, 3, [], b_Act___init__⟩,
 some ⟨3, 10, [], b_taker⟩,
 some ⟨2, 6, [], b_note_source⟩,
 some ⟨4, 4, [], b_Machine___init__⟩,
 some ⟨3, 5, [], b_Machine_code_for⟩,
 some ⟨2, 2, [], b_Machine_enter⟩,
 some ⟨1, 1, [], b_Machine_drop⟩,
 some ⟨2, 2, [], b_Machine_give⟩,
 some ⟨2, 2, [], b_Machine_leave⟩,
 some ⟨2, 3, [], b_Machine_take⟩,
 some ⟨4, 10, [], b_Machine_go_on⟩,
 some ⟨2, 5, [], b_Machine_unwind⟩,
 some ⟨1, 6, [], b_Machine_step⟩,
 some ⟨1, 2, [], b_Machine_run⟩,
 some ⟨2, 6, [], b_run_code⟩,
 some ⟨6, 6, [], b_Code___init__⟩,
 some ⟨3, 3, [], b_Coroutine___init__⟩,
 none,
 some ⟨3, 3, [.int 40, .none], b_Host___init__⟩,
 some ⟨2, 2, [], b_Host_tool⟩,
 some ⟨1, 1, [], b_Host_spend⟩,
 some ⟨1, 1, [], b_Host_where⟩,
 some ⟨2, 3, [], b_Host_run⟩,
 none,
 some ⟨2, 3, [], b_Host_call⟩,
 some ⟨2, 3, [], b_Host_finish⟩,
 some ⟨2, 2, [], b_Host_leave⟩,
 none,
 none,
 none,
 none,
 none,
 some ⟨4, 4, [], b_act⟩,
 some ⟨3, 3, [.int 40, .none], b_SmallHost___init__⟩,
 none,
 none,
 none,
 none,
 none,
 none,
 none,
 none,
 none,
 some ⟨4, 4, [.none], b_SmallHost_put⟩,
 some ⟨2, 2, [], b_SmallHost_remove⟩,
 none,
 none,
 some ⟨2, 4, [], b_SmallHost_begin⟩,
 none,
 some ⟨2, 4, [], b_taken⟩,
 some ⟨4, 4, [], b_op_push⟩,
 none,
 none,
 none,
 none,
 none,
 none,
 none,
 some ⟨4, 5, [], b_op_join⟩,
 some ⟨2, 2, [], b_call⟩,
 some ⟨4, 4, [], b_op_invoke⟩,
 some ⟨3, 3, [], b_go⟩,
 some ⟨4, 4, [], b_op_start⟩,
 some ⟨4, 4, [], b_op_jump⟩,
 none,
 some ⟨0, 0, [], b_plain_ops⟩,
 some ⟨2, 2, [], b_law_cell⟩,
 some ⟨3, 9, [], b_law_item⟩,
 some ⟨1, 6, [], b_law_book⟩,
 some ⟨1, 6, [], b_law_deeds⟩,
 some ⟨4, 10, [], b_law_rows⟩,
 some ⟨3, 5, [], b_law_maker⟩,
 some ⟨2, 5, [], b_law_items⟩,
 some ⟨2, 2, [], b_law_plain⟩,
 some ⟨2, 2, [], b_law_idle⟩,
 some ⟨3, 13, [], b_law_deed⟩,
 some ⟨4, 5, [], b_law_host⟩,
 some ⟨6, 13, [], b_law_turns⟩,
 some ⟨1, 1, [], b_law_told⟩,
 some ⟨1, 13, [], b_law⟩]
noncomputable def locL : List (List Str) := ([[], [], ["self", "code", "value", "errorcode", "level", "ret"], ["self", "script", "back", "is_proc", "label"], ["self", "kind", "words"], ["text", "errorcode"], ["text", "most"], [], ["raised", "text"], ["raised"], ["nest", "raised", "fault", "word"], ["self", "code", "nest"], ["ranges", "place", "code", "held", "kind", "first", "behind", "to_break", "to_continue", "depth"], ["act", "raised", "place", "first", "behind", "text"], ["self", "host", "ops", "maker"], ["self", "text", "is_slots", "key", "code"], ["self", "nest"], ["self"], ["self", "text"], ["self", "text"], ["self", "result", "coro"], ["self", "act", "held", "raised", "kind", "first", "behind", "to_break", "to_continue", "depth"], ["self", "raised", "act", "held", "fault"], ["self", "act", "op", "a", "b", "raised"], ["self", "host"], ["machine", "code", "frame", "acts", "sort", "text"], ["self", "rows", "ranges", "names", "sources", "epoch"], ["self", "name", "machine"], [], ["self", "limit", "fuel"], ["self", "name"], ["self"], ["self"], ["self", "script", "runner"], [], ["self", "words", "got"], ["self", "nest", "raised"], ["self", "nest"], [], [], [], [], [], ["host", "words", "action", "data"], ["self", "limit", "fuel"], [], [], [], [], [], [], [], [], [], ["self", "name", "action", "data"], ["self", "name"], [], [], ["self", "words", "action", "data"], [], ["act", "count", "at", "texts"], ["machine", "act", "a", "b"], [], [], [], [], [], [], [], ["machine", "act", "a", "b", "texts"], ["machine", "words"], ["machine", "act", "a", "b"], ["machine", "act", "to"], ["machine", "act", "a", "b"], ["machine", "act", "a", "b"], [], [], ["script", "place"], ["script", "c", "level", "number", "kind", "j", "first", "takes", "inner"], ["script", "book", "c", "level", "item", "inner"], ["script", "deeds", "j", "number", "more", "sort"], ["rows", "ranges", "items", "depth", "i", "item", "word", "place", "behind", "again"], ["host", "text", "is_slots", "rows", "ranges"], ["host", "items", "texts", "item", "fault"], ["host", "text"], ["host", "words"], ["host", "words", "data", "deeds", "answers", "log", "count", "sort", "value", "more", "kind", "code", "back"], ["book", "deeds", "answers", "log", "host"], ["host", "machine", "other", "log", "answers", "mask", "coro", "turns", "sort", "got", "frame", "deep", "is_apart"], ["fault"], ["script", "book", "deeds", "answers", "log", "once_log", "plain_log", "host", "machine", "told", "fault", "once_told", "plain_told"]] : List (List String)).map (·.map Str.ofString)
noncomputable def gTab : List (Str × Bool × Nat) := ([("error", false, 5), ("cut", false, 6), ("note_row", false, 8), ("end_return", false, 9), ("end_proc", false, 10), ("taker", false, 12), ("note_source", false, 13), ("run_code", false, 25), ("act", false, 43), ("taken", false, 60), ("op_push", false, 61), ("op_pop", false, 62), ("op_load", false, 63), ("op_load_name", false, 64), ("op_load_element", false, 65), ("op_store", false, 66), ("op_store_name", false, 67), ("op_store_element", false, 68), ("op_join", false, 69), ("call", false, 70), ("op_invoke", false, 71), ("go", false, 72), ("op_start", false, 73), ("op_jump", false, 74), ("op_fail", false, 75), ("plain_ops", false, 76), ("_law_cell", false, 77), ("_law_item", false, 78), ("_law_book", false, 79), ("_law_deeds", false, 80), ("_law_rows", false, 81), ("_law_maker", false, 82), ("_law_items", false, 83), ("_law_plain", false, 84), ("_law_idle", false, 85), ("_law_deed", false, 86), ("_law_host", false, 87), ("_law_turns", false, 88), ("_law_told", false, 89), ("law", false, 90), ("Raised", true, 3), ("Nest", true, 4), ("Pause", true, 5), ("Act", true, 6), ("Machine", true, 7), ("Code", true, 8), ("Coroutine", true, 9), ("Host", true, 11), ("SmallHost", true, 12)] : List (String × Bool × Nat)).map fun p => (Str.ofString p.1, p.2)
noncomputable def methL : List (Nat × Nat) := [(5, 1), (105, 1), (205, 1), (305, 2), (405, 3), (505, 4), (605, 11), (705, 14), (742, 15), (745, 16), (743, 17), (744, 18), (741, 19), (786, 20), (749, 21), (751, 22), (753, 23), (755, 24), (805, 26), (905, 27), (1005, 28), (1105, 29), (1170, 30), (1183, 31), (1138, 32), (1155, 33), (1189, 34), (1187, 35), (1172, 36), (1141, 37), (1190, 38), (1205, 44), (1281, 45), (1278, 46), (1279, 47), (1280, 48), (1284, 49), (1285, 50), (1243, 51), (1291, 52), (1292, 53), (1288, 54), (1282, 55), (1293, 56), (1294, 57), (1271, 58), (1270, 30), (1283, 31), (1238, 32), (1255, 33), (1289, 34), (1287, 35), (1272, 36), (1241, 37), (1290, 38)]
noncomputable def kindL : List (Nat × Bool) := [(3, true), (4, false), (5, false), (6, false), (7, false), (8, false), (9, false), (12, false)]
noncomputable def nmS : List Str := (["append", "pop", "join", "find", "get", "__init__", "why", "code", "value", "errorcode", "level", "ret", "info", "is_noted", "line", "extra", "script", "back", "is_proc", "label", "kind", "words", "nest", "pc", "stack", "names", "slots", "each", "caught", "sources", "host", "ops", "maker", "acts", "book", "pause", "steps", "text", "where", "epoch", "limit", "leave", "code_for", "drop", "give", "enter", "coroutine", "machine", "ranges", "go_on", "rows", "unwind", "depth", "step", "frame", "run", "name", "command", "waits", "is_running", "is_done", "outer", "traces", "is_busy", "is_element", "writes", "tools", "inline", "fuel", "spent", "tool", "begin", "finish", "endswith", "startswith", "vars", "commands", "firsts", "place", "read_var", "write_var", "has", "remove", "spend", "read", "write", "take", "call", "put", "run_global", "outcome", "stamp", "array", "add", "is_first"] : List String).map Str.ofString
inductive Rs (α : Type) where
 | ok (a : α) (σ : St)
 | err (e : Nat) (σ : St)
inductive Fl where
 | nxt
 | ret (v : MV)
inductive RS where
 | ok (f : Fl) (L : Loc) (σ : St)
 | err (e : Nat) (L : Loc) (σ : St)
noncomputable abbrev MM (α : Type) := St → Rs α → Prop
noncomputable abbrev SM := St → RS → Prop
noncomputable def Rs.go {α β : Type} (q : Rs α) (f : α → MM β) (r : Rs β) : Prop := match q with
 | .ok a σ => f a σ r
 | .err e σ => r = .err e σ
noncomputable def bnd {α β : Type} (m : MM α) (f : α → MM β) : MM β := fun σ r => ∃ q, m σ q ∧ q.go f r
noncomputable def ret {α : Type} (a : α) : MM α := fun σ r => r = .ok a σ
noncomputable abbrev stk {α : Type} : MM α := fun _ _ => False
noncomputable abbrev Caller := Nat → List MV → Option Nat → MM MV
noncomputable def fns (f : Nat) : Option FnRec := (fnL[f]?).join
noncomputable def lookN {α : Type} (n : Nat) : List (Nat × α) → Option α
 | [] => none
 | p :: r => bif Nat.beq p.1 n then some p.2 else lookN n r
noncomputable def meths (c n : Nat) : Option Nat := lookN (100 * c + n) methL
noncomputable def kind (c : Nat) : Option Bool := lookN c kindL
noncomputable def locTab (f : Nat) : List Str := (locL[f]?).getD []
noncomputable def excCl : Nat := 3
noncomputable def baseFn : Nat := 29
noncomputable def MV.int? : MV → Option Int
 | .int i => some i
 | _ => Option.none
noncomputable def MV.str? : MV → Option Str
 | .str s => some s
 | _ => Option.none
noncomputable def MV.bool? : MV → Option Bool
 | .bool b => some b
 | _ => Option.none
noncomputable def MV.tup? : MV → Option (List MV)
 | .tup l => some l
 | _ => Option.none
noncomputable def MV.ref? : MV → Option Nat
 | .ref l => some l
 | _ => Option.none
noncomputable def MV.none? : MV → Bool
 | .none => true
 | _ => false
noncomputable def putN (n : Nat) (v : MV) : List (Nat × MV) → List (Nat × MV)
 | [] => [(n, v)]
 | p :: r => bif Nat.beq p.1 n then (p.1, v) :: r else p :: putN n v r
noncomputable def LIM : Nat := 1000000
mutual
noncomputable def eqP : MV → MV → Option Bool
 | .none, b => bif b.none? then some true else b.str?.map fun _ => false
 | .bool a, b => b.bool?.map (a == ·)
 | .int a, b => b.int?.map (a == ·)
 | .str a, b => bif b.none? then some false else b.str?.map (a == ·)
 | .tup a, b => b.tup?.bind (eqPs a)
 | .scr _, _ => none
 | .ref _, _ => none
 | .fn _, _ => none
noncomputable def eqPs : List MV → List MV → Option Bool
 | [], l => some l.isEmpty
 | a :: r, l => match l with
  | [] => some false
  | b :: s => (eqP a b).bind fun t => bif t then eqPs r s else some false
end
mutual
noncomputable def shal : MV → Nat → Bool
 | .none, n => Nat.blt 0 n
 | .bool _, n => Nat.blt 0 n
 | .int _, n => Nat.blt 0 n
 | .str _, n => Nat.blt 0 n
 | .tup vs, n => Nat.blt 0 n && shals vs (n - 1)
 | .scr _, _ => false
 | .ref _, _ => false
 | .fn _, _ => false
noncomputable def shals : List MV → Nat → Bool
 | [], _ => true
 | v :: r, n => shal v n && shals r n
end
noncomputable def key3 : List MV → Option (Str × Bool × Str)
 | [a, b, c] => a.str?.bind fun x => b.bool?.bind fun y => c.str?.map fun z => (x, y, z)
 | _ => none
noncomputable def MV.key? (v : MV) : Option (Str × Bool × Str) := v.tup?.bind key3
noncomputable def keq (a b : MV) : Bool := match a.str? with
 | some x => (b.str?.map fun y => x == y).getD false
 | none => (a.key?.bind fun x => b.key?.map fun y => x.1 == y.1 && (x.2.1 == y.2.1 && x.2.2 == y.2.2)).getD false
noncomputable def isStrK (v : MV) : Bool := v.str?.isSome
noncomputable def isTupK (v : MV) : Bool := v.key?.isSome
noncomputable def lookK (k : MV) : List (MV × MV) → Option MV
 | [] => none
 | p :: r => bif keq p.1 k then some p.2 else lookK k r
noncomputable def putK (k v : MV) : List (MV × MV) → List (MV × MV)
 | [] => [(k, v)]
 | p :: r => bif keq p.1 k then (p.1, v) :: r else p :: putK k v r
noncomputable def delK (k : MV) : List (MV × MV) → List (MV × MV)
 | [] => []
 | p :: r => bif keq p.1 k then r else p :: delK k r
noncomputable def idx (vs : List MV) (i : Int) : Option MV := if 0 ≤ i then (if i < LIM then vs[i.toNat]? else none) else if -i ≤ vs.length ∧ -i < LIM then vs[(i + vs.length).toNat]? else none
noncomputable def anyInt (x : Int) : List MV → Option Bool
 | [] => some false
 | v :: r => v.int?.bind fun y => (anyInt x r).map fun b => (y == x) || b
noncomputable def strsOf : List MV → Option (List Str)
 | [] => some []
 | v :: r => v.str?.bind fun s => (strsOf r).map (s :: ·)
noncomputable def j9 : List Str → Str
 | [] => Str.empty
 | s :: r => s ++ j9 r
noncomputable def findStr (s x : Str) : Int := match PySem.Builtin.Str.occurrences s x 0 s.length 1 with
 | i :: _ => (i : Int)
 | [] => -1
noncomputable def askCl (c : Nat) : Bool := Nat.beq c 4 || Nat.beq c 5
noncomputable def two1000 : Int := 2 ^ 1000
inductive Tr (σ : St) : MV → Bool → Prop
 | none : Tr σ .none false
 | bool (b : Bool) : Tr σ (.bool b) b
 | int (i : Int) : Tr σ (.int i) (i != 0)
 | list {a : Nat} {l : List MV} : σ[a]? = some (.list l) → Tr σ (.ref a) (!l.isEmpty)
inductive EqV (σ : St) : MV → MV → Bool → Prop
 | val {a b : MV} {t : Bool} : (shal a 5 && shal b 5) = true → eqP a b = some t → EqV σ a b t
 | list {i j : Nat} {x y : List MV} {t : Bool} : σ[i]? = some (.list x) → σ[j]? = some (.list y) → (shals x 5 && shals y 5) = true → eqPs x y = some t → EqV σ (.ref i) (.ref j) t
inductive PAttr (n : Nat) (σ : St) : MV → Rs (List MV) → Prop
 | inst {a c : Nat} {fs : List (Nat × MV)} {w : MV} : σ[a]? = some (.inst c fs) → lookN n fs = some w → PAttr n σ (.ref a) (.ok [w] σ)
 | exc {a : Nat} {fs : List (Nat × MV)} {w : MV} : σ[a]? = some (.exc fs) → lookN n fs = some w → PAttr n σ (.ref a) (.ok [w] σ)
inductive PSub (σ : St) : MV → MV → Rs (List MV) → Prop
 | tup {vs : List MV} {i : Int} {w : MV} : idx vs i = some w → PSub σ (.tup vs) (.int i) (.ok [w] σ)
 | scr {xs : List Int} {i x : Int} : 0 ≤ i → i < LIM → xs[i.toNat]? = some x → PSub σ (.scr xs) (.int i) (.ok [.int x] σ)
 | list {a : Nat} {vs : List MV} {i : Int} {w : MV} : σ[a]? = some (.list vs) → idx vs i = some w → PSub σ (.ref a) (.int i) (.ok [w] σ)
 | dict {a : Nat} {kvs : List (MV × MV)} {k : Str} {w : MV} : σ[a]? = some (.dict kvs) → kvs.all (fun p => isStrK p.1) = true → lookK (.str k) kvs = some w → PSub σ (.ref a) (.str k) (.ok [w] σ)
inductive PPart (t : Bool) (σ : St) : MV → MV → Rs (List MV) → Prop
 | mk {a : Nat} {vs : List MV} {k : Int} : σ[a]? = some (.list vs) → 0 ≤ k → k ≤ vs.length → PPart t σ (.ref a) (.int k) (.ok [.ref σ.length] (σ ++ [.list (bif t then vs.take k.toNat else vs.drop k.toNat)]))
inductive PBin (σ : St) : BOp → MV → MV → Rs (List MV) → Prop
 | addI {x y : Int} : PBin σ .add (.int x) (.int y) (.ok [.int (x + y)] σ)
 | addS {x y : Str} : x.length + y.length ≤ LIM → PBin σ .add (.str x) (.str y) (.ok [.str (x ++ y)] σ)
 | sub {x y : Int} : PBin σ .sub (.int x) (.int y) (.ok [.int (x - y)] σ)
 | mul {x y : Int} : -(2 ^ 64) < y → y < 2 ^ 64 → PBin σ .mul (.int x) (.int y) (.ok [.int (x * y)] σ)
 | rep {a : Nat} {vs : List MV} : σ[a]? = some (.list vs) → PBin σ .mul (.ref a) (.int 0) (.ok [.ref σ.length] (σ ++ [.list []]))
 | mod {x y : Int} : 0 < y → PBin σ .mod (.int x) (.int y) (.ok [.int (x % y)] σ)
 | div {x y : Int} : 0 < y → y < two1000 → PBin σ .fdiv (.int x) (.int y) (.ok [.int (x / y)] σ)
 | pow {x y : Int} : 0 ≤ y → y ≤ 900 → x.natAbs < 1000 → PBin σ .pow (.int x) (.int y) (.ok [.int (x ^ y.toNat)] σ)
inductive PCmp (σ : St) : COp → MV → MV → Rs (List MV) → Prop
 | eq {a b : MV} {t : Bool} : EqV σ a b t → PCmp σ .eq a b (.ok [.bool t] σ)
 | ne {a b : MV} {t : Bool} : EqV σ a b t → PCmp σ .ne a b (.ok [.bool (!t)] σ)
 | lt {x y : Int} : PCmp σ .lt (.int x) (.int y) (.ok [.bool (decide (x < y))] σ)
 | gt {x y : Int} : PCmp σ .gt (.int x) (.int y) (.ok [.bool (decide (y < x))] σ)
 | le {x y : Int} : PCmp σ .le (.int x) (.int y) (.ok [.bool (decide (x ≤ y))] σ)
 | ge {x y : Int} : PCmp σ .ge (.int x) (.int y) (.ok [.bool (decide (y ≤ x))] σ)
 | is {a : MV} : PCmp σ .is a .none (.ok [.bool a.none?] σ)
 | isNot {a : MV} : PCmp σ .isNot a .none (.ok [.bool (!a.none?)] σ)
 | inD {d : Nat} {kvs : List (MV × MV)} {k : Str} : σ[d]? = some (.dict kvs) → kvs.all (fun p => isStrK p.1) = true → PCmp σ .inn (.str k) (.ref d) (.ok [.bool (lookK (.str k) kvs).isSome] σ)
 | inT {x : Int} {vs : List MV} {t : Bool} : anyInt x vs = some t → PCmp σ .inn (.int x) (.tup vs) (.ok [.bool t] σ)
 | notIn {d : Nat} {kvs : List (MV × MV)} {k : Str} : σ[d]? = some (.dict kvs) → kvs.all (fun p => isStrK p.1) = true → PCmp σ .notIn (.str k) (.ref d) (.ok [.bool (!(lookK (.str k) kvs).isSome)] σ)
inductive PLen (σ : St) : MV → Rs (List MV) → Prop
 | scr {xs : List Int} : xs.length ≤ LIM → PLen σ (.scr xs) (.ok [.int xs.length] σ)
 | str {s : Str} : s.length ≤ LIM → PLen σ (.str s) (.ok [.int s.length] σ)
 | list {a : Nat} {vs : List MV} : σ[a]? = some (.list vs) → PLen σ (.ref a) (.ok [.int vs.length] σ)
inductive PStr (σ : St) : MV → Rs (List MV) → Prop
 | mk {i : Int} : i.natAbs < 10 ^ 10 → PStr σ (.int i) (.ok [.str (Str.ofString (toString i))] σ)
inductive PIsi (c : Nat) (σ : St) : MV → Rs (List MV) → Prop
 | str {s : Str} : askCl c = true → PIsi c σ (.str s) (.ok [.bool false] σ)
 | inst {a d : Nat} {fs : List (Nat × MV)} : askCl c = true → askCl d = true → σ[a]? = some (.inst d fs) → PIsi c σ (.ref a) (.ok [.bool (Nat.beq d c)] σ)
inductive PSetA (n : Nat) (σ : St) : MV → MV → Rs (List MV) → Prop
 | inst {a c : Nat} {fs : List (Nat × MV)} {x : MV} : σ[a]? = some (.inst c fs) → fs.length < 500 → meths c n = none → PSetA n σ x (.ref a) (.ok [] (σ.set a (.inst c (putN n x fs))))
 | exc {a : Nat} {fs : List (Nat × MV)} {x : MV} : σ[a]? = some (.exc fs) → fs.length < 500 → meths excCl n = none → PSetA n σ x (.ref a) (.ok [] (σ.set a (.exc (putN n x fs))))
inductive PSetS (σ : St) : MV → MV → MV → Rs (List MV) → Prop
 | list {a : Nat} {vs : List MV} {i : Int} {x : MV} : σ[a]? = some (.list vs) → 0 ≤ i → i < vs.length → PSetS σ x (.ref a) (.int i) (.ok [] (σ.set a (.list (vs.set i.toNat x))))
 | dictS {a : Nat} {kvs : List (MV × MV)} {k : Str} {x : MV} : σ[a]? = some (.dict kvs) → kvs.all (fun p => isStrK p.1) = true → kvs.length < LIM → PSetS σ x (.ref a) (.str k) (.ok [] (σ.set a (.dict (putK (.str k) x kvs))))
 | dictT {a : Nat} {kvs : List (MV × MV)} {k l : Str} {b : Bool} {x : MV} : σ[a]? = some (.dict kvs) → kvs.all (fun p => isTupK p.1) = true → kvs.length < LIM →
  PSetS σ x (.ref a) (.tup [.str k, .bool b, .str l]) (.ok [] (σ.set a (.dict (putK (.tup [.str k, .bool b, .str l]) x kvs))))
inductive PBm (σ : St) : BK → MV → List MV → Rs (List MV) → Prop
 | join {a : Nat} {vs : List MV} {l : List Str} : σ[a]? = some (.list vs) → strsOf vs = some l → (j9 l).length ≤ LIM → PBm σ .join (.str Str.empty) [.ref a] (.ok [.str (j9 l)] σ)
 | find {s x : Str} : PBm σ .find (.str s) [.str x] (.ok [.int (findStr s x)] σ)
 | lapp {a : Nat} {vs : List MV} {x : MV} : σ[a]? = some (.list vs) → vs.length < LIM → PBm σ .lapp (.ref a) [x] (.ok [.none] (σ.set a (.list (vs ++ [x]))))
 | lpop {a : Nat} {vs : List MV} {x : MV} : σ[a]? = some (.list (vs ++ [x])) → PBm σ .lpop (.ref a) [] (.ok [x] (σ.set a (.list vs)))
 | dget {a : Nat} {kvs : List (MV × MV)} {k l : Str} {b : Bool} : σ[a]? = some (.dict kvs) → kvs.all (fun p => isTupK p.1) = true →
  PBm σ .dget (.ref a) [.tup [.str k, .bool b, .str l]] (.ok [(lookK (.tup [.str k, .bool b, .str l]) kvs).getD .none] σ)
 | dpop {a : Nat} {kvs : List (MV × MV)} {k : Str} {d : MV} : σ[a]? = some (.dict kvs) → kvs.all (fun p => isStrK p.1) = true →
  PBm σ .dpop (.ref a) [.str k, d] (.ok [(lookK (.str k) kvs).getD d] (σ.set a (.dict (delK (.str k) kvs))))
inductive Lk (n : Nat) (σ : St) : MV → Op → List MV → Prop
 | fld {a c f : Nat} {fs : List (Nat × MV)} : Nat.blt n 95 = true → σ[a]? = some (.inst c fs) → lookN n fs = some (.fn f) → Lk n σ (.ref a) .call [.fn f]
 | meth {a c f : Nat} {fs : List (Nat × MV)} : Nat.blt n 95 = true → σ[a]? = some (.inst c fs) → lookN n fs = none → meths c n = some f → Lk n σ (.ref a) .call [.fn f, .ref a]
 | app {a : Nat} {vs : List MV} : n = 0 → σ[a]? = some (.list vs) → Lk n σ (.ref a) (.bm .lapp) [.ref a]
 | pop {a : Nat} {vs : List MV} : n = 1 → σ[a]? = some (.list vs) → Lk n σ (.ref a) (.bm .lpop) [.ref a]
 | get {a : Nat} {kvs : List (MV × MV)} : n = 4 → σ[a]? = some (.dict kvs) → Lk n σ (.ref a) (.bm .dget) [.ref a]
 | dpop {a : Nat} {kvs : List (MV × MV)} : n = 1 → σ[a]? = some (.dict kvs) → Lk n σ (.ref a) (.bm .dpop) [.ref a]
 | call {f : Nat} : n = 99 → Lk n σ (.fn f) .call [.fn f]
 | join {s : Str} : n = 2 → Lk n σ (.str s) (.bm .join) [.str s]
 | find {s : Str} : n = 3 → Lk n σ (.str s) (.bm .find) [.str s]
noncomputable def mayRaise : Option Nat → Nat → Bool
 | Option.none, _ => true
 | some h, e => Nat.ble h e
noncomputable def un {α : Type} (vs : List MV) (k : MV → MM α) : MM α := match vs with
 | [v] => k v
 | _ => stk
noncomputable def du {α : Type} (vs : List MV) (k : MV → MV → MM α) : MM α := match vs with
 | [v, w] => k v w
 | _ => stk
noncomputable def tri {α : Type} (vs : List MV) (k : MV → MV → MV → MM α) : MM α := match vs with
 | [v, w, u] => k v w u
 | _ => stk
noncomputable def allocM (o : MO) : MM MV := fun σ r => r = .ok (.ref σ.length) (σ ++ [o])
section
variable (C : Caller) (hd : Option Nat)
noncomputable def one (m : MM MV) : MM (List MV) := bnd m fun v => ret [v]
noncomputable def newM (c : Nat) (args : List MV) : MM (List MV) := fun σ r => ∃ f b q, meths c 5 = some f ∧ kind c = some b ∧ C f (.ref σ.length :: args) hd (σ ++ [bif b then .exc [] else .inst c []]) q ∧ q.go (fun v σ' r => v = .none ∧ r = .ok [.ref σ.length] σ') r
noncomputable def prim (o : Op) (vs : List MV) : MM (List MV) := match o with
 | .attr n => un vs fun v σ => PAttr n σ v
 | .sub => du vs fun v w σ => PSub σ v w
 | .sto => du vs fun v w σ => PPart true σ v w
 | .sfr => du vs fun v w σ => PPart false σ v w
 | .bin o => du vs fun v w σ => PBin σ o v w
 | .cmp o => du vs fun v w σ => PCmp σ o v w
 | .not => un vs fun v σ r => ∃ b, Tr σ v b ∧ r = .ok [.bool (!b)] σ
 | .list => fun σ r => vs.length ≤ LIM ∧ r = .ok [.ref σ.length] (σ ++ [.list vs])
 | .tup => fun σ r => Nat.ble vs.length 100 = true ∧ r = .ok [.tup vs] σ
 | .len => un vs fun v σ => PLen σ v
 | .strf => un vs fun v σ => PStr σ v
 | .isi c => un vs fun v σ => PIsi c σ v
 | .exc => du vs fun v _ σ r => ∃ a fs, v = .ref a ∧ σ[a]? = some (.exc fs) ∧ r = .ok [.none] σ
 | .call => fun σ r => ∃ f args, vs = .fn f :: args ∧ one (C f args hd) σ r
 | .new c => newM C hd c vs
 | .base => one (C baseFn vs hd)
 | .bm k => fun σ r => ∃ v args, vs = v :: args ∧ PBm σ k v args r
 | .setA n => du vs fun v w σ => PSetA n σ v w
 | .setS => tri vs fun v w u σ => PSetS σ v w u
 | .drop => un vs fun _ => ret []
 | .raise => un vs fun v σ r => ∃ a fs, v = .ref a ∧ σ[a]? = some (.exc fs) ∧ mayRaise hd a = true ∧ r = .err a σ
noncomputable def fillM (ks : List Str) (vs : List MV) (a : Nat) : MM (List MV) := fun σ r => σ[a]? = some (.dict []) ∧ vs.length = ks.length ∧ ks.length ≤ 100 ∧ ks.Nodup ∧ r = .ok [.ref a] (σ.set a (.dict ((ks.map MV.str).zip vs)))
noncomputable def ev (L : Loc) : PE → MM (List MV)
 | .loc i => fun σ r => ∃ v, L[i]? = some (some v) ∧ r = .ok [v] σ
 | .cst v => ret [v]
 | .nil => ret []
 | .cons a b => bnd (ev L a) fun us => bnd (ev L b) fun vs => ret (us ++ vs)
 | .op o a => bnd (ev L a) (prim C hd o)
 | .meth e n a => bnd (ev L e) fun us => un us fun v σ r => ∃ o pre, Lk n σ v o pre ∧ bnd (ev L a) (fun vs => prim C hd o (pre ++ vs)) σ r
 | .dict ks a => fun σ => bnd (ev L a) (fun vs => fillM ks vs σ.length) (σ ++ [.dict []])
 | .bools c e q => bnd (ev L e) fun us => un us fun v σ r => ∃ b, Tr σ v b ∧ (bif b == c then ev L q σ r else r = .ok [v] σ)
 | .ite t p q => bnd (ev L t) fun us => un us fun v σ r => ∃ b, v = .bool b ∧ (bif b then ev L p σ r else ev L q σ r)
 | .tnot t => bnd (ev L t) fun us => un us fun v σ r => ∃ b, v = .bool b ∧ r = .ok [.bool (!b)] σ
 | .tnil c => ret [.bool c]
 | .tcons c t q => bnd (ev L t) fun us => un us fun v σ r => ∃ b, v = .bool b ∧ (bif b == c then ev L q σ r else r = .ok [.bool b] σ)
 | .val e => bnd (ev L e) fun us => un us fun v σ r => ∃ b, Tr σ v b ∧ r = .ok [.bool b] σ
 | .stuck => stk
noncomputable def Rs.in {α : Type} (q : Rs α) (L : Loc) (f : α → SM) (R : RS) : Prop := match q with
 | .ok a σ => f a σ R
 | .err e σ => R = .err e L σ
noncomputable def inS {α : Type} (m : MM α) (L : Loc) (f : α → SM) : SM := fun σ R => ∃ q, m σ q ∧ q.in L f R
noncomputable def RS.go (Q : RS) (k : Loc → SM) (R : RS) : Prop := match Q with
 | .ok f L σ => match f with
  | .nxt => k L σ R
  | .ret v => R = .ok (.ret v) L σ
 | .err e L σ => R = .err e L σ
noncomputable def seqM (m : SM) (k : Loc → SM) : SM := fun σ R => ∃ Q, m σ Q ∧ Q.go k R
noncomputable abbrev nxt (L : Loc) : SM := fun σ R => R = .ok .nxt L σ
noncomputable def storeR : List Nat → List MV → Loc → Loc
 | i :: is, v :: vs, L => storeR is vs (L.set i (some v))
 | _, _, L => L
noncomputable def storeT : List Tgt → List MV → Loc → SM
 | [], vs, L => fun σ R => vs = [] ∧ nxt L σ R
 | t :: ts, vs, L => fun σ R => ∃ v ws, vs = v :: ws ∧ match t with
  | .loc i => storeT ts ws (L.set i (some v)) σ R
  | .attr e n => inS (bnd (ev C hd L e) fun us => un us fun o σ => PSetA n σ v o) L (fun _ => storeT ts ws L) σ R
noncomputable def whileF (W : Nat) (t : Loc → MM (List MV)) (b : Loc → SM) : Loc → SM := match W with
 | 0 => fun _ _ _ => False
 | W + 1 => fun L => inS (t L) L fun us σ R => ∃ c, us = [.bool c] ∧ (bif c then seqM (b L) (whileF W t b) σ R else nxt L σ R)
noncomputable def forLF (W : Nat) (x l : Nat) (b : Loc → SM) (i : Nat) : Loc → SM := match W with
 | 0 => fun _ _ _ => False
 | W + 1 => fun L σ R => ∃ vs, σ[l]? = some (.list vs) ∧ ((∃ v, vs[i]? = some v ∧ seqM (b (L.set x (some v))) (forLF W x l b (i + 1)) σ R) ∨ (vs[i]? = none ∧ nxt L σ R))
noncomputable def forRF (n : Nat) (x : Nat) (b : Loc → SM) (i : Nat) : Loc → SM := match n with
 | 0 => nxt
 | n + 1 => fun L => seqM (b (L.set x (some (.int i)))) (forRF n x b (i + 1))
end
noncomputable def RS.clear (x : Nat) : RS → RS
 | .ok f L σ => .ok f (L.set x none) σ
 | .err e L σ => .err e (L.set x none) σ
noncomputable def RS.try (Q : RS) (h : Nat → Loc → SM) (R : RS) : Prop := match Q with
 | .ok f L σ => R = .ok f L σ
 | .err e L σ => h e L σ R
noncomputable def RS.fin (Q : RS) (f : Option Nat → Loc → SM) (R : RS) : Prop := match Q with
 | .ok fl L σ => ∃ L' σ', f none L σ (.ok .nxt L' σ') ∧ R = .ok fl L' σ'
 | .err e L σ => ∃ L' σ', f (some e) L σ (.ok .nxt L' σ') ∧ R = .err e L' σ'
noncomputable def ex (C : Caller) : PS → Option Nat → Loc → SM
 | .nil, _, L => nxt L
 | .seq s q, hd, L => seqM (ex C s hd L) (ex C q hd)
 | .asg i e, hd, L => inS (ev C hd L e) L fun us σ R => ∃ v, us = [v] ∧ nxt (L.set i (some v)) σ R
 | .act o a, hd, L => inS (bnd (ev C hd L a) (prim C hd o)) L fun _ => nxt L
 | .unp ts e, hd, L => inS (ev C hd L e) L fun us σ R => ∃ vs, us = [.tup vs] ∧ vs.length = ts.length ∧ storeT C hd ts vs L σ R
 | .unpR is e, hd, L => inS (ev C hd L e) L fun us σ R => ∃ vs, us = [.tup vs] ∧ vs.length = is.length ∧ nxt (storeR is.reverse vs.reverse L) σ R
 | .aug e n o x, hd, L => inS (bnd (ev C hd L e) fun us => un us fun a => bnd (fun σ => PAttr n σ a) fun us => un us fun v => bnd (ev C hd L x) fun us => un us fun w => bnd (fun σ r => ∃ x y, v = .int x ∧ w = .int y ∧ ((o = .add ∧ r = .ok [.int (x + y)] σ) ∨ (o = .sub ∧ r = .ok [.int (x - y)] σ))) fun us => un us fun u σ => PSetA n σ u a) L fun _ => nxt L
 | .ret e, hd, L => inS (ev C hd L e) L fun us σ R => ∃ v, us = [v] ∧ R = .ok (.ret v) L σ
 | .ite t b o, hd, L => inS (ev C hd L t) L fun us σ R => ∃ c, us = [.bool c] ∧ (bif c then ex C b hd L σ R else ex C o hd L σ R)
 | .while t b, hd, L => fun σ R => ∃ W, whileF W (fun L => ev C hd L t) (ex C b hd) L σ R
 | .forL i e b, hd, L => inS (ev C hd L e) L fun us σ R => ∃ l W, us = [.ref l] ∧ forLF W i l (ex C b hd) 0 L σ R
 | .forR i e b, hd, L => inS (ev C hd L e) L fun us σ R => ∃ n, us = [.int n] ∧ hd = none ∧ 0 ≤ n ∧ n < 2 ^ 40 ∧ forRF n.toNat i (ex C b hd) 0 L σ R
 | .forT e, hd, L => inS (ev C hd L e) L fun us σ R => ∃ l, us = [.ref l] ∧ σ[l]? = some (.list []) ∧ nxt L σ R
 | .tryX b x h, hd, L => fun σ R => ∃ Q, ex C b hd L σ Q ∧ Q.try (fun e L σ R => ∃ Q, ex C h (some e) (L.set x (some (.ref e))) σ Q ∧ R = Q.clear x) R
 | .fin b f, hd, L => fun σ R => ∃ Q, ex C b hd L σ Q ∧ Q.fin (fun g => ex C f (g.or hd)) R
 | .stuck, _, _ => fun _ _ => False
noncomputable def RS.out : RS → Rs MV
 | .ok f _ σ => match f with
  | .nxt => .ok .none σ
  | .ret v => .ok v σ
 | .err e _ σ => .err e σ
noncomputable def loc0 (q : FnRec) (args : List MV) : Loc := ((args ++ q.dflts.drop (args.length + q.dflts.length - q.params)).map some) ++ List.replicate (q.locals - q.params) none
noncomputable def callN : Nat → Caller
 | 0 => fun _ _ _ _ _ => False
 | n + 1 => fun f args hd σ r => ∃ q R, fns f = some q ∧ args.length ≤ q.params ∧ q.params ≤ args.length + q.dflts.length ∧ ex (callN n) q.body hd (loc0 q args) σ R ∧ r = R.out
end
section
open PySem PySem.W PyProof.Rows PySem.SeqAt
section
variable {prog : Program} {w : World} {A : Around} {E : Value → Shared → Prop} {s : Shared}
theorem hash_bool {b : Bool} {Q : Int → Shared → Prop} (h : Q (if b then 1 else 0) { s with toks := s.toks + 1 }) : wpAny (model prog w) A (pyHash (.bool b)) Q E s := by
 unfold pyHash
 have hv : [Value.bool b].any Value.onHeap = false := rfl
 have hT : s.TypeIs (.bool b) "bool" := rfl
 refine wpAny_bind ?_
 rw [cRoomFor, if_neg (by rw [hv]; exact Bool.false_ne_true)]; refine wpAny_pure ?_
 refine wpAny_bind (wpAny_specialOf hT F.slot_bool_hash.lookup ?_)
 show wpAny _ _ (if (some (Value.builtin "int.__hash__") == some Value.none) = true then _ else _) Q E s
 rw [if_neg (by rw [beq_builtin_none]; exact Bool.false_ne_true)]
 refine wpAny_bind (wpAny_specialOf hT F.slot_bool_hash.lookup ?_)
 show wpAny _ _ (callSpecialIfBoundUnlessNone? (.bool b) "__hash__" _ >>= _) Q E s
 refine wpAny_bind (wpAny_callSpecialIfBoundUnlessNone?_slot hT F.slot_bool_hash
  (wpAny_call_entry F.slot_bool_hash hT entry_int_hash ?_ (args_int_hash _)))
 cases b with
 | true => exact wpAny_ret_mkInt (wpAny_pure h)
 | false => exact wpAny_ret_mkInt (wpAny_pure h)
theorem eqb_bool {a b : Bool} {Q : Bool → Shared → Prop} (h : Q (decide (a = b)) s) : wpAny (model prog w) A (eqBool (.bool a) (.bool b)) Q E s := by
 unfold eqBool
 show wpAny _ _ (if (Value.bool a == Value.bool b) = true then _ else _) Q E s
 by_cases hab : (Value.bool a == Value.bool b) = true
 · rw [if_pos hab]
   have e : a = b := by have := eq_of_beq hab; injection this
   subst e
   exact wpAny_bind (wpAny_rule (wpAny_pure (by simpa using h)))
 · rw [if_neg hab]
   have ne : a ≠ b := fun e => hab (by subst e; exact beq_self_eq_true _)
   refine wpAny_bind (PyProof.Rows.eq_bool (wpAny_truthy_bool ?_))
   have : (a == b) = decide (a = b) := rfl
   rw [this]; exact h
theorem eqb_bs {a : Bool} {b : Str} {u : Tok} {Q : Bool → Shared → Prop} (h : Q false s) : wpAny (model prog w) A (eqBool (.bool a) (.str b u)) Q E s := by
 unfold eqBool
 refine wpAny_holding ?_
 refine wpAny_ite_split (fun hab => by have := eq_of_beq hab; cases this) (fun _ => ?_)
 exact wpAny_bind (EqMixed.eq_bool_str (wpAny_truthy_bool h))
theorem eqb_sb {a : Bool} {b : Str} {u : Tok} {Q : Bool → Shared → Prop} (h : Q false s) : wpAny (model prog w) A (eqBool (.str b u) (.bool a)) Q E s := by
 unfold eqBool
 refine wpAny_holding ?_
 refine wpAny_ite_split (fun hab => by have := eq_of_beq hab; cases this) (fun _ => ?_)
 exact wpAny_bind (EqMixed.eq_str_bool (wpAny_truthy_bool h))
end
noncomputable def isMix : Str ⊕ Bool → Value → Bool
 | .inl x, v => Value.isStrOf x v
 | .inr b, .bool c => b == c
 | _, _ => false
theorem isMix_shape {k : Str ⊕ Bool} {v : Value} (h : isMix k v = true) : (∃ x t, k = .inl x ∧ v = .str x t) ∨ ∃ b, k = .inr b ∧ v = .bool b := by
 cases k with
 | inl x => obtain ⟨t, rfl⟩ := Value.isStrOf_shape h; exact .inl ⟨x, t, rfl, rfl⟩
 | inr b => cases v <;> simp_all [isMix]
noncomputable def mixKind (prog : Program) (w : World) : PySem.KeyKind prog w (Str ⊕ Bool) where
 is := isMix
 hash := fun k => match k with
  | .inl x => hashStr w x
  | .inr b => if b then 1 else 0
 inj := fun v a b ha hb => by
  rcases isMix_shape ha with ⟨x, t, rfl, rfl⟩ | ⟨c, rfl, rfl⟩ <;> rcases isMix_shape hb with ⟨y, u, rfl, h⟩ | ⟨d, rfl, h⟩ <;> first | cases h; rfl | cases h
 byValue := fun k v h => by rcases isMix_shape h with ⟨x, t, rfl, rfl⟩ | ⟨c, rfl, rfl⟩ <;> rfl
 pyHash := fun hv h => by
  rcases isMix_shape hv with ⟨x, t, rfl, rfl⟩ | ⟨c, rfl, rfl⟩
  · exact wpAny_pyHash_str h
  · exact hash_bool h
 eqBool := fun hu hv h => by
  rcases isMix_shape hu with ⟨x, t, rfl, rfl⟩ | ⟨c, rfl, rfl⟩ <;> rcases isMix_shape hv with ⟨y, u, rfl, rfl⟩ | ⟨d, rfl, rfl⟩
  · exact wpAny_eqBool_str (by simpa using h)
  · exact eqb_sb (by simpa using h)
  · exact eqb_bs (by simpa using h)
  · exact eqb_bool (by simpa using h)
 «strs» := fun k x t v h => by
  rcases isMix_shape h with ⟨y, u, rfl, e⟩ | ⟨c, rfl, e⟩
  · cases e; cases v <;> rfl
  · cases e
noncomputable def nmOf (n : Nat) : Str := nmS.getD n Str.empty
theorem nmS_len : nmS.length = 95 := by decide +kernel
theorem nmS_nodup : nmS.Nodup := by decide +kernel
theorem nmOf_get {a : Nat} (ha : a < 95) : nmS[a]? = some (nmOf a) := by
 have la : a < nmS.length := nmS_len ▸ ha
 show _ = some (nmS[a]?.getD _)
 rw [List.getElem?_eq_getElem la]; rfl
theorem nmOf_inj {a b : Nat} (ha : a < 95) (hb : b < 95) (e : nmOf a = nmOf b) : a = b :=
 (List.getElem?_inj (nmS_len ▸ ha) nmS_nodup).mp ((nmOf_get ha).trans ((congrArg some e).trans (nmOf_get hb).symm))
structure Adr where
 fn : Nat → Addr
 cl : Nat → Addr
structure Cx where
 pr : Program
 w : World
 D : Adr
 h₁ : Heap
 base : Addr → Option Obj
 os : OsState
 frames : List (Env × (Str → Option Value))
 hb : ∀ b o, h₁.get? b = some o → base b = some o
structure Ad where
 a : Addr
 d : Option Addr
 x : Bool
noncomputable def flat1 (p : Ad) : List Addr := p.a :: p.d.toList
noncomputable def flat (ρ : List Ad) : List Addr := ρ.flatMap flat1
noncomputable def All2 {α β : Type} (R : α → β → Prop) : List α → List β → Prop
 | [], l => l = []
 | a :: r, l => ∃ b s, l = b :: s ∧ R a b ∧ All2 R r s
section
variable {α β : Type} {R S : α → β → Prop}
theorem All2.mono (h : ∀ a b, R a b → S a b) : ∀ {l : List α} {m : List β}, All2 R l m → All2 S l m := fun {l} => by
 induction l with
 | nil => exact fun q => q
 | cons a r ih => rintro m ⟨b, s, e, x, y⟩; exact ⟨b, s, e, h a b x, ih y⟩
theorem All2.len : ∀ {l : List α} {m : List β}, All2 R l m → m.length = l.length := fun {l} => by
 induction l with
 | nil => rintro m rfl; rfl
 | cons a r ih => rintro m ⟨b, s, rfl, x, y⟩; exact congrArg (· + 1) (ih y)
theorem All2.get : ∀ {l : List α} {m : List β}, All2 R l m → ∀ {i : Nat} {a : α}, l[i]? = some a → ∃ b, m[i]? = some b ∧ R a b := fun {l} => by
 induction l with
 | nil => intro m _ i a e; cases e
 | cons a r ih =>
  rintro m ⟨b, s, rfl, x, y⟩ i c e
  cases i with
  | zero => cases e; exact ⟨b, rfl, x⟩
  | succ i => exact ih y e
theorem All2.append : ∀ {l l' : List α} {m m' : List β}, All2 R l m → All2 R l' m' → All2 R (l ++ l') (m ++ m') := fun {l} => by
 induction l with
 | nil => rintro l' m m' rfl y; exact y
 | cons a r ih => rintro l' m m' ⟨b, s, rfl, x, y⟩ z; exact ⟨b, s ++ m', rfl, x, ih y z⟩
theorem All2.set {a : α} {b : β} (q : R a b) : ∀ {l : List α} {m : List β}, All2 R l m → ∀ i, All2 R (l.set i a) (m.set i b) := fun {l} => by
 induction l with
 | nil => rintro m rfl i; rfl
 | cons c r ih =>
  rintro m ⟨d, s, rfl, x, y⟩ i
  cases i with
  | zero => exact ⟨b, s, rfl, q, y⟩
  | succ i => exact ⟨d, _, rfl, x, ih y i⟩
theorem All2.take : ∀ {l : List α} {m : List β}, All2 R l m → ∀ i, All2 R (l.take i) (m.take i) := fun {l} => by
 induction l with
 | nil => rintro m rfl i; cases i <;> exact rfl
 | cons c r ih =>
  rintro m ⟨d, s, rfl, x, y⟩ i
  cases i with
  | zero => rfl
  | succ i => exact ⟨d, _, rfl, x, ih y i⟩
theorem All2.drop : ∀ {l : List α} {m : List β}, All2 R l m → ∀ i, All2 R (l.drop i) (m.drop i) := fun {l} => by
 induction l with
 | nil => rintro m rfl i; cases i <;> exact rfl
 | cons c r ih =>
  rintro m ⟨d, s, rfl, x, y⟩ i
  cases i with
  | zero => exact ⟨d, s, rfl, x, y⟩
  | succ i => exact ih y i
theorem All2.split : ∀ {l l' : List α} {m : List β}, All2 R (l ++ l') m → ∃ s t, m = s ++ t ∧ All2 R l s ∧ All2 R l' t := fun {l} => by
 induction l with
 | nil => intro l' m y; exact ⟨[], m, rfl, rfl, y⟩
 | cons c r ih =>
  rintro l' m ⟨d, s, rfl, x, y⟩
  obtain ⟨u, t, rfl, p, q⟩ := ih y
  exact ⟨d :: u, t, rfl, ⟨d, u, rfl, x, p⟩, q⟩
end
section
variable (c : Cx) (ρ : List Ad) (h : Heap)
mutual
noncomputable def VR : MV → Value → Prop
 | .none, y => y = .none
 | .bool b, y => y = .bool b
 | .int i, y => ∃ t, y = .int i t
 | .str s, y => ∃ t, y = .str s t ∧ PyData.strOk s = true
 | .tup vs, y => ∃ a o vals n, y = .ref a ∧ (h.get? a = some o ∧ o.cls = .type "tuple" ∧ o.data = .seq vals.toArray n) ∧ VRs vs vals
 | .scr xs, y => ∃ a o vals n, y = .ref a ∧ c.base a = some o ∧ o.cls = .type "list" ∧ o.data = .seq vals.toArray n ∧ IntsAre vals xs
 | .ref i, y => ∃ p, ρ[i]? = some p ∧ y = .ref p.a
 | .fn f, y => y = .ref (c.D.fn f) ∧ Nat.blt f 91 = true
noncomputable def VRs : List MV → List Value → Prop
 | [], l => l = []
 | v :: vs, l => ∃ x xs, l = x :: xs ∧ VR v x ∧ VRs vs xs
end
end
theorem VRs.all {c : Cx} {ρ : List Ad} {h : Heap} : ∀ {vs : List MV} {xs : List Value}, VRs c ρ h vs xs = All2 (VR c ρ h) vs xs := fun {vs} => by
 induction vs with
 | nil => intro xs; rfl
 | cons v r ih => intro xs; show (∃ _ _, _ ∧ _ ∧ VRs c ρ h r _) = _; simp only [ih]; rfl
noncomputable def Tst (h h' : Heap) : Prop := ∀ b o vals n, h.get? b = some o → o.cls = .type "tuple" → o.data = .seq vals n → h'.get? b = some o
theorem Tst.refl (h : Heap) : Tst h h := fun _ _ _ _ e _ _ => e
theorem Tst.trans {h₁ h₂ h₃ : Heap} (a : Tst h₁ h₂) (b : Tst h₂ h₃) : Tst h₁ h₃ := fun x o v n e q d => b x o v n (a x o v n e q d) q d
noncomputable def Tbs (h h' : Heap) : Prop := ∀ b o ts, h.get? b = some o → o.cls = .type "traceback" → o.data = .fields ts → ∃ o' ts', h'.get? b = some o' ∧ o'.cls = .type "traceback" ∧ o'.data = .fields ts' ∧ ts'.size = ts.size
theorem Tst.of_keeps {h h' : Heap} (k : ∀ b o, h.get? b = some o → h'.get? b = some o) : Tst h h' := fun b o _ _ e _ _ => k b o e
theorem Tbs.of_keeps {h h' : Heap} (k : ∀ b o, h.get? b = some o → h'.get? b = some o) : Tbs h h' := fun b o ts e e1 e2 => ⟨o, ts, k b o e, e1, e2, rfl⟩
noncomputable def Pre (ρ ρ' : List Ad) : Prop := ∀ (i : Nat) (p : Ad), ρ[i]? = some p → ∃ q, ρ'[i]? = some q ∧ q.a = p.a ∧ q.x = p.x
theorem Pre.refl (ρ : List Ad) : Pre ρ ρ := fun _ p e => ⟨p, e, rfl, rfl⟩
theorem Pre.trans {a b c : List Ad} (x : Pre a b) (y : Pre b c) : Pre a c := fun i p e => by
 obtain ⟨q, h1, h2, h3⟩ := x i p e
 exact (y i q h1).imp fun _ => And.imp_right <| And.imp (·.trans h2) (·.trans h3)
noncomputable abbrev Cx.reb (c : Cx) (b : Addr → Option Obj) (hb : ∀ a o, c.h₁.get? a = some o → b a = some o) : Cx := { c with base := b, hb := hb }
noncomputable abbrev BL (c : Cx) (b : Addr → Option Obj) : Prop := ∀ a o, c.base a = some o → o.cls = .type "list" → b a = some o
section
variable {c : Cx} {ρ ρ' : List Ad} {h h' : Heap} {b : Addr → Option Obj} {hb : ∀ a o, c.h₁.get? a = some o → b a = some o}
theorem VR.reb (H : BL c b) (hp : Pre ρ ρ') (ht : Tst h h') {v : MV} {y : Value} : VR c ρ h v y → VR (c.reb b hb) ρ' h' v y :=
 MV.rec (motive_1 := fun v => ∀ y, VR c ρ h v y → VR (c.reb b hb) ρ' h' v y) (motive_2 := fun vs => ∀ xs, VRs c ρ h vs xs → VRs (c.reb b hb) ρ' h' vs xs)
  (fun _ q => q) (fun _ _ q => q) (fun _ _ q => q) (fun _ _ q => q) (fun _ ih _ => Exists.imp fun a => Exists.imp fun o => Exists.imp fun vals => Exists.imp fun n => And.imp_right fun k => ⟨⟨ht a o _ n k.1.1 k.1.2.1 k.1.2.2, k.1.2⟩, ih vals k.2⟩)
  (fun _ _ => Exists.imp fun _ => Exists.imp fun _ => Exists.imp fun _ => Exists.imp fun _ => And.imp_right fun q => ⟨H _ _ q.1 q.2.1, q.2⟩)
  (fun i _ q => by obtain ⟨p, e, rfl⟩ := q; exact (hp i p e).imp fun _ => And.imp_right fun q => congrArg _ q.1.symm) (fun _ _ q => q) (fun _ q => q) (fun _ _ ih1 ih2 _ => Exists.imp fun x => Exists.imp fun xs => And.imp_right (And.imp (ih1 x) (ih2 xs))) v y
theorem VR.mono (hp : Pre ρ ρ') (ht : Tst h h') {v : MV} {y : Value} (q : VR c ρ h v y) : VR c ρ' h' v y := VR.reb (hb := c.hb) (fun _ _ e _ => e) hp ht q
theorem VRs.mono (hp : Pre ρ ρ') (ht : Tst h h') {vs : List MV} {xs : List Value} (q : VRs c ρ h vs xs) : VRs c ρ' h' vs xs := VRs.all ▸ (VRs.all ▸ q).mono fun _ _ => VR.mono hp ht
theorem VRs.len {vs : List MV} {xs : List Value} (q : VRs c ρ h vs xs) : xs.length = vs.length := (VRs.all ▸ q).len
noncomputable abbrev FldRel (c : Cx) (ρ : List Ad) (h : Heap) : List (Nat × MV) → List DictEntry → Prop := All2 fun f e => f.1 < 95 ∧ ∃ t, e.key = .str (nmOf f.1) t ∧ e.hash = PyData.keyHash c.w.params (nmOf f.1) ∧ VR c ρ h f.2 e.val
noncomputable abbrev KvS (c : Cx) (ρ : List Ad) (h : Heap) : List (MV × MV) → List (Str × Value) → Prop := All2 fun f e => f.1 = .str e.1 ∧ VR c ρ h f.2 e.2
noncomputable abbrev k3 (q : Str × Bool × Str) : List (Str ⊕ Bool) := [.inl q.1, .inr q.2.1, .inl q.2.2]
noncomputable abbrev tup3 (q : Str × Bool × Str) : MV := .tup [.str q.1, .bool q.2.1, .str q.2.2]
noncomputable abbrev KvT (c : Cx) (ρ : List Ad) (h : Heap) : List (MV × MV) → List (List (Str ⊕ Bool) × Addr × Value) → Prop := All2 fun f e => ∃ q, f.1 = tup3 q ∧ e.1 = k3 q ∧ VR c ρ h f.2 e.2.2
noncomputable abbrev Cx.sk (c : Cx) := PySem.strKind c.pr c.w
noncomputable abbrev Cx.tk (c : Cx) := tupleKind (mixKind c.pr c.w)
theorem dictOf_keeps {a : Addr} {rk : List (Str × Value)} (x : h.DictOf c.sk a rk) (k : ∀ o, h.get? a = some o → h'.get? a = some o) : h'.DictOf c.sk a rk :=
 x.imp fun o => Exists.imp fun _ => Exists.imp fun _ => And.imp_left (k o)
theorem dictOfH_keeps {a : Addr} {xs : List (List (Str ⊕ Bool) × Addr × Value)} (x : h.DictOfH c.tk a xs) (k : ∀ o, h.get? a = some o → h'.get? a = some o) (ht : Tst h h') : h'.DictOfH c.tk a xs :=
 x.imp fun o => Exists.imp fun _ => Exists.imp fun _ => And.imp (k o) <| And.imp_right <| And.imp_right <| And.imp_right <| And.imp_left fun e4 x hx => (e4 x hx).imp fun o => Exists.imp fun _ => Exists.imp fun _ q => ⟨ht _ _ _ _ q.1 q.2.1 q.2.2.1, q.2⟩
noncomputable def TbOK (c : Cx) (h : Heap) (x : Value) : Prop := x = .none ∨ ∃ T oT ts, x = .ref T ∧ c.base T = none ∧ h.get? T = some oT ∧ oT.cls = .type "traceback" ∧ oT.data = .fields ts ∧ 3 < ts.size
noncomputable def FldAt (c : Cx) (ρ : List Ad) (h : Heap) (cl : Nat) (d : Addr) (fs : List (Nat × MV)) : Prop := ∃ es n, h.get? d = some (dictOf es n) ∧ FldRel c ρ h fs es ∧ fs.length ≤ 500 ∧ ∀ x ∈ fs, meths cl x.1 = none
noncomputable abbrev excObj (c : Cx) (d : Option Addr) (xs : Array Value) : Obj := ⟨.ref (c.D.cl excCl), d, .fields xs, #[]⟩
noncomputable abbrev listObj (vals : List Value) (n : Nat) : Obj := ⟨.type "list", none, .seq vals.toArray n, #[]⟩
noncomputable def CxOK (ρ : List Ad) (i : Nat) (v : Value) : Prop := v = .none ∨ ∃ j q, j < i ∧ ρ[j]? = some q ∧ q.x = true ∧ v = .ref q.a
noncomputable def ExcAt (c : Cx) (ρ : List Ad) (h : Heap) (i : Nat) (p : Ad) (xs : Array Value) : Prop :=
 h.get? p.a = some (excObj c p.d xs) ∧ 4 < xs.size ∧ ∃ tb cx, xs[1]? = some tb ∧ TbOK c h tb ∧ xs[2]? = some cx ∧ CxOK ρ i cx
noncomputable def ObjAt (c : Cx) (ρ : List Ad) (h : Heap) (i : Nat) (p : Ad) : MO → Prop
 | .list vs => p.x = false ∧ p.d = none ∧ ∃ n vals, h.get? p.a = some (listObj vals n) ∧ VRs c ρ h vs vals ∧ vs.length ≤ LIM
 | .dict kvs => p.x = false ∧ p.d = none ∧ kvs.length ≤ LIM ∧ ((∃ rk, h.DictOf c.sk p.a rk ∧ KvS c ρ h kvs rk) ∨ (kvs ≠ [] ∧ ∃ xs, h.DictOfH c.tk p.a xs ∧ KvT c ρ h kvs xs))
 | .inst cl fs => p.x = false ∧ ∃ d, p.d = some d ∧ kind cl = some false ∧ h.get? p.a = some (instObj (c.D.cl cl) d) ∧ FldAt c ρ h cl d fs
 | .exc fs => p.x = true ∧ ∃ xs, ExcAt c ρ h i p xs ∧ (p.d = none ∧ fs = [] ∨ ∃ d, p.d = some d ∧ FldAt c ρ h excCl d fs)
theorem FldAt.reb (H : BL c b) {cl : Nat} {d : Addr} {fs : List (Nat × MV)} (x : FldAt c ρ h cl d fs) (hp : Pre ρ ρ') (ht : Tst h h') (k : ∀ o, h.get? d = some o → h'.get? d = some o) : FldAt (c.reb b hb) ρ' h' cl d fs :=
 x.imp fun _ => Exists.imp fun _ => And.imp (k _) <| And.imp_left <| All2.mono fun _ _ => And.imp_right <| Exists.imp fun _ => And.imp_right <| And.imp_right <| VR.reb H hp ht
theorem FldAt.keeps {cl : Nat} {d : Addr} {fs : List (Nat × MV)} (x : FldAt c ρ h cl d fs) (hp : Pre ρ ρ') (ht : Tst h h') (k : ∀ o, h.get? d = some o → h'.get? d = some o) : FldAt c ρ' h' cl d fs := x.reb (hb := c.hb) (fun _ _ e _ => e) hp ht k
noncomputable abbrev BT (c : Cx) (h : Heap) (b : Addr → Option Obj) : Prop := ∀ T o, c.base T = none → h.get? T = some o → o.cls = .type "traceback" → b T = none
theorem TbOK.reb (HT : BT c h b) {x : Value} (q : TbOK c h x) (kt : Tbs h h') : TbOK (c.reb b hb) h' x := by
 rcases q with q | ⟨T, oT, ts, e1, e2, e3, e4, e5, e6⟩
 · exact .inl q
 · obtain ⟨o', ts', f1, f2, f3, f4⟩ := kt T oT ts e3 e4 e5
   exact .inr ⟨T, o', ts', e1, HT T oT e2 e3 e4, f1, f2, f3, f4.symm ▸ e6⟩
theorem TbOK.keeps {x : Value} (q : TbOK c h x) (kt : Tbs h h') : TbOK c h' x := q.reb (hb := c.hb) (fun _ _ e _ _ => e) kt
theorem flat1_d {p : Ad} {d : Addr} (e : p.d = some d) : d ∈ flat1 p := by
 show d ∈ p.a :: p.d.toList
 rw [e]; exact .tail _ (.head _)
theorem CxOK.pre {i : Nat} {v : Value} (q : CxOK ρ i v) (hp : Pre ρ ρ') : CxOK ρ' i v := q.imp id <| Exists.imp fun j q => by
 obtain ⟨p, h1, h2, h3, h4⟩ := q
 exact (hp j p h2).imp fun _ q => ⟨h1, q.1, q.2.2.trans h3, h4.trans (congrArg _ q.2.1.symm)⟩
theorem ObjAt.reb (H : BL c b) (HT : BT c h b) {i : Nat} {p : Ad} {o : MO} (x : ObjAt c ρ h i p o) (hp : Pre ρ ρ') (ht : Tst h h') (k : ∀ b ∈ flat1 p, ∀ o, h.get? b = some o → h'.get? b = some o) (kt : Tbs h h') : ObjAt (c.reb b hb) ρ' h' i p o := by
 have k1 := k p.a (.head _)
 refine MO.casesOn (motive := fun o => ObjAt c ρ h i p o → ObjAt (c.reb b hb) ρ' h' i p o) o (fun cl fs => And.imp_right <| Exists.imp fun d q => ?_) (fun fs => And.imp_right <| Exists.imp fun xs q => ?_) (fun vs => And.imp_right <| And.imp_right <| Exists.imp fun n => Exists.imp fun vals => And.imp (k1 _) <| And.imp_left fun q => VRs.all ▸ (VRs.all ▸ q).mono fun _ _ => VR.reb H hp ht)
  (fun kvs => And.imp_right <| And.imp_right <| And.imp_right <| Or.imp (Exists.imp fun rk => And.imp (dictOf_keeps · k1) <| All2.mono fun _ _ => And.imp_right <| VR.reb H hp ht) <| And.imp_right <| Exists.imp fun xs => And.imp (dictOfH_keeps · k1 ht) <| All2.mono fun _ _ => Exists.imp fun _ => And.imp_right <| And.imp_right <| VR.reb H hp ht) x
 · exact ⟨q.1, q.2.1, k1 _ q.2.2.1, q.2.2.2.reb H hp ht (k d (flat1_d q.1))⟩
 · exact ⟨⟨k1 _ q.1.1, q.1.2.1, q.1.2.2.imp fun _ => Exists.imp fun _ => And.imp_right <| And.imp (·.reb HT kt) <| And.imp_right (·.pre hp)⟩, q.2.imp id <| Exists.imp fun d q => ⟨q.1, q.2.reb H hp ht (k d (flat1_d q.1))⟩⟩
theorem ObjAt.keeps {i : Nat} {p : Ad} {o : MO} (x : ObjAt c ρ h i p o) (hp : Pre ρ ρ') (ht : Tst h h') (k : ∀ b ∈ flat1 p, ∀ o, h.get? b = some o → h'.get? b = some o) (kt : Tbs h h') : ObjAt c ρ' h' i p o := x.reb (hb := c.hb) (fun _ _ e _ => e) (fun _ _ e _ _ => e) hp ht k kt
noncomputable def Noted (ρ : List Ad) (h : Heap) (i : Nat) : Prop := ∃ p o xs T, ρ[i]? = some p ∧ p.x = true ∧ h.get? p.a = some o ∧ o.data = .fields xs ∧ xs[1]? = some (.ref T)
structure Ext (ρ : List Ad) (h : Heap) (ρ' : List Ad) (h' : Heap) : Prop where
 pre : Pre ρ ρ'
 tst : Tst h h'
 noted : ∀ i, Noted ρ h i → Noted ρ' h' i
end
section
variable {c : Cx} {ρ ρ' ρ'' : List Ad} {h h' h'' : Heap}
theorem Ext.refl : Ext ρ h ρ h := ⟨.refl ρ, .refl h, fun _ e => e⟩
theorem Ext.trans (a : Ext ρ h ρ' h') (b : Ext ρ' h' ρ'' h'') : Ext ρ h ρ'' h'' := ⟨a.pre.trans b.pre, a.tst.trans b.tst, fun i e => b.noted i (a.noted i e)⟩
theorem Ext.vr (x : Ext ρ h ρ' h') {v : MV} {y : Value} (q : VR c ρ h v y) : VR c ρ' h' v y := q.mono x.pre x.tst
theorem Ext.vrs (x : Ext ρ h ρ' h') {v : List MV} {y : List Value} (q : VRs c ρ h v y) : VRs c ρ' h' v y := q.mono x.pre x.tst
end
theorem flat_mem {ρ : List Ad} {i : Nat} {p : Ad} (e : ρ[i]? = some p) {x : Addr} (hx : x ∈ flat1 p) : x ∈ flat ρ := List.mem_flatMap.mpr ⟨p, List.mem_of_getElem? e, hx⟩
theorem flat_ne : ∀ {ρ : List Ad}, (flat ρ).Nodup → ∀ {i j : Nat} {p q : Ad}, ρ[i]? = some p → ρ[j]? = some q → i ≠ j → ∀ {x y : Addr}, x ∈ flat1 p → y ∈ flat1 q → x ≠ y := fun {ρ} => by
 induction ρ with
 | nil => intro _ i j p q e; cases e
 | cons a r ih =>
  intro hn i j p q ei ej ne x y hx hy
  have h2 := List.nodup_append.mp (show (flat1 a ++ flat r).Nodup from hn)
  cases i with
  | zero =>
   cases j with
   | zero => exact absurd rfl ne
   | succ j => cases ei; exact h2.2.2 x hx y (flat_mem (ρ := r) (i := j) ej hy)
  | succ i =>
   cases j with
   | zero => cases ej; exact fun e => h2.2.2 y hy x (flat_mem (ρ := r) (i := i) ei hx) e.symm
   | succ j => exact ih h2.2.1 (i := i) (j := j) ei ej (fun e => ne (congrArg (· + 1) e)) hx hy
noncomputable def ixIn (a : Str) : List Str → Option Nat
 | [] => none
 | x :: r => if x = a then some 0 else (ixIn a r).map (· + 1)
theorem ixIn_get {a : Str} {l : List Str} : ∀ {n : Nat}, ixIn a l = some n → l[n]? = some a := by
 induction l with
 | nil => intro n h; cases h
 | cons x r ih =>
  intro n h
  by_cases hx : x = a
  · rw [ixIn, if_pos hx] at h
    cases h; exact congrArg some hx
  · rw [ixIn, if_neg hx] at h
    obtain ⟨k, h1, rfl⟩ := Option.map_eq_some_iff.mp h
    exact ih h1
noncomputable def opB : Operator → Option BOp
 | .Add => some .add
 | .Sub => some .sub
 | .Mult => some .mul
 | .Mod => some .mod
 | .FloorDiv => some .fdiv
 | .Pow => some .pow
 | _ => none
noncomputable def opC : CmpOp → COp
 | .Eq => .eq
 | .NotEq => .ne
 | .Lt => .lt
 | .Gt => .gt
 | .GtE => .ge
 | .LtE => .le
 | .Is => .is
 | .IsNot => .isNot
 | .In => .inn
 | .NotIn => .notIn
noncomputable def dbg : Str := "__debug__"
noncomputable def gd (b : Bool) (p : PE) : PE := bif b then p else .stuck
noncomputable def gdS (b : Bool) (p : PS) : PS := bif b then p else .stuck
noncomputable def gdo {α : Type} (o : Option α) (p : α → PE) : PE := match o with
 | some a => p a
 | none => .stuck
noncomputable def onE {α : Type} (e : Expr) (d : α) (nN : Str → Pos → α := fun _ _ => d) (nA : Expr → Str → Pos → α := fun _ _ _ => d) (nT : List Expr → α := fun _ => d) (nC : Const → α := fun _ => d) (nS : Expr → Expr → α := fun _ _ => d) (nI : Option Expr → Option Expr → Option Expr → α := fun _ _ _ => d)
 (nF : Expr → List Expr → List Keyword → Pos → α := fun _ _ _ _ => d) (nB : Expr → Operator → Expr → α := fun _ _ _ => d) (nP : Expr → List CmpOp → List Expr → α := fun _ _ _ => d) (nU : UnaryOp → Expr → α := fun _ _ => d) (nO : BoolOp → List Expr → α := fun _ _ => d) (nH : Expr → Expr → Expr → α := fun _ _ _ => d)
 (nL : List Expr → α := fun _ => d) (nD : List (Option Expr) → List Expr → α := fun _ _ => d) : α := match e with
 | .Name x p => nN x p
 | .Constant v _ _ => nC v
 | .Attribute v a p => nA v a p
 | .Subscript v i _ => nS v i
 | .Slice l u s _ => nI l u s
 | .BinOp l o r _ => nB l o r
 | .Compare l os rs _ => nP l os rs
 | .UnaryOp o v _ => nU o v
 | .BoolOp o vs _ => nO o vs
 | .IfExp t b o _ => nH t b o
 | .List es _ => nL es
 | .Tuple es _ _ => nT es
 | .Dict ks vs _ => nD ks vs
 | .Call f as kw p => nF f as kw p
 | _ => d
noncomputable abbrev isK (e : Expr) (k : Nat) : Bool := Nat.beq e.ctorIdx k
noncomputable def noStar (e : Expr) : Bool := !(isK e 22)
noncomputable def isName (e : Expr) : Bool := isK e 23
noncomputable def isAttr (e : Expr) : Bool := isK e 20
noncomputable def notSet (e : Expr) : Bool := !(isK e 7)
noncomputable def noComp (e : Expr) : Bool := !(isK e 8 || (isK e 9 || isK e 10))
noncomputable def plainI (e : Expr) : Bool := !(isK e 26)
noncomputable def plainX (e : Expr) : Bool := isName e || (isAttr e || (isK e 19 || (isK e 21 || (isK e 16 && onE e false (nF := fun f _ _ _ => isAttr f)))))
noncomputable def plainT (e : Expr) : Bool := isName e || (isAttr e || (isK e 16 || (isK e 21 || (isK e 2 || (isK e 19 || isK e 15)))))
noncomputable def nameOf (e : Expr) : Option Str := bif isName e then onE e none (nN := fun x _ => some x) else none
section
variable (sc : Scope) (nms : List Str)
noncomputable def okG (x : Str) : Bool := (sc.names.lookup x == some .globalImplicit) && !(x == dbg)
noncomputable def globOf (x : Str) : Option (Bool × Nat) := bif okG sc x then gTab.lookup x else none
noncomputable def isBu (x : Str) (y : String) : Bool := okG sc x && x == Str.ofString y
noncomputable def cFn : Option (Bool × Nat) → PE
 | some (false, g) => gd (Nat.blt g 91) (.cst (.fn g))
 | _ => .stuck
noncomputable def cN (x : Str) : PE := match ixIn x nms with
 | some i => gd (!(x == dbg)) (.loc i)
 | none => cFn (globOf sc x)
noncomputable def cC : Const → PE
 | .none => .cst .none
 | .bool b => .cst (.bool b)
 | .int i => .cst (.int i)
 | .str s => gd (PyData.strOk s) (.cst (.str s))
 | _ => .stuck
noncomputable def strC : Const → Option Str
 | .str s => some s
 | _ => none
noncomputable def intC : Const → Option Int
 | .int i => some i
 | _ => none
noncomputable def one1 {α : Type} (l : List α) (k : α → PE) : PE := match l with
 | [a] => k a
 | _ => .stuck
noncomputable def cKs : List (Option Expr) → Option (List Str)
 | [] => some []
 | k :: r => k.bind fun e => (bif isK e 19 then onE e none (nC := strC) else none).bind fun x => (cKs r).map (x :: ·)
section
variable (E T : Expr → PE)
noncomputable def cL (es : List Expr) : PE := gd (es.all noStar) (es.foldr (fun e r => .cons (E e) r) .nil)
noncomputable def cSub (v i : Expr) : PE := bif isK i 26 then onE i .stuck (nI := fun l u s => gd s.isNone (match l with
 | none => gdo u fun u => .op .sto (.cons (E v) (.cons (E u) .nil))
 | some l => gd u.isNone (.op .sfr (.cons (E v) (.cons (E l) .nil))))) else .op .sub (.cons (E v) (.cons (E i) .nil))
noncomputable def cUn (o : UnaryOp) (v : Expr) : PE := match o with
 | .Not => .op .not (.cons (E v) .nil)
 | .USub => gd (isK v 19) (gdo (onE v none (nC := intC)) fun i => gd (i == 1) (.cst (.int (-1))))
 | _ => .stuck
noncomputable def isAnd : BoolOp → Bool
 | .And => true
 | .Or => false
noncomputable def cB (c : Bool) : List Expr → PE
 | [] => .stuck
 | v :: r => match r with
  | [] => E v
  | _ :: _ => .bools c (E v) (cB c r)
noncomputable def clsOf (o : Option (Bool × Nat)) : Option Nat := o.bind fun p => bif p.1 then some p.2 else none
noncomputable def cCallN (x : Str) (as : List Expr) : PE := match clsOf (globOf sc x) with
 | some c => gd (kind c).isSome (.op (.new c) (cL E as))
 | none => bif isBu sc x "len" then one1 as fun v => .op .len (cL E [v]) else bif isBu sc x "str" then one1 as fun v => .op .strf (cL E [v]) else
  bif isBu sc x "isinstance" then one1 (as.drop 1) fun y => gdo ((nameOf y).bind fun y => clsOf (globOf sc y)) fun c => one1 (as.take 1) fun v => .op (.isi c) (cL E [v]) else .meth (cN sc nms x) 99 (cL E as)
noncomputable def isIni (a : Str) : Bool := a == Str.ofString "__init__"
noncomputable def cCallM (o : Expr) (a : Str) (as : List Expr) : PE :=
 match (nameOf o).bind fun x => bif (ixIn x nms).isSome then none else some x with
 | some x => gd (isIni a) (bif isBu sc x "Exception" then gd (Nat.beq as.length 2) (.op .exc (cL E as)) else gdo (clsOf (globOf sc x)) fun c => gd (Nat.beq c 11) (.op .base (cL E as)))
 | none => gd (plainX o) (gdo (ixIn a nmS) fun k => .meth (E o) k (cL E as))
noncomputable def cCall (f : Expr) (as : List Expr) (kw : List Keyword) (pos : Pos) : PE := gd (kw.isEmpty && (Nat.ble as.length 20 && as.all noStar)) (bif isName f then onE f .stuck (nN := fun x _ => cCallN sc nms E x as) else
 bif isAttr f then onE f .stuck (nA := fun o a p => gd (p.endLine == pos.line) (cCallM sc nms E o a as)) else .meth (E f) 99 (cL E as))
noncomputable def cE1 (e : Expr) : PE := onE e .stuck (nN := fun x _ => cN sc nms x) (nC := cC) (nA := fun v a _ => gd (plainX v) (gdo (ixIn a nmS) fun k => .op (.attr k) (.cons (E v) .nil))) (nS := cSub E) (nB := fun l o r => gdo (opB o) fun b => .op (.bin b) (.cons (E l) (.cons (E r) .nil)))
 (nP := fun l os rs => one1 os fun o => one1 rs fun r => gd (!(behindInMarks o r)) (.op (.cmp (opC o)) (.cons (E l) (.cons (E r) .nil)))) (nU := cUn E) (nO := fun o vs => cB E (isAnd o) vs) (nH := fun t b o => .ite (T t) (E b) (E o)) (nL := fun es => .op .list (cL E es))
 (nT := fun es => .op .tup (cL E es)) (nD := fun ks vs => gdo (cKs ks) fun ks' => gd (Nat.beq ks.length vs.length && Nat.ble vs.length 15) (.dict ks' (cL E vs))) (nF := cCall sc nms E)
noncomputable def cT1 (e : Expr) : PE := onE e (gd (plainT e) (.val (E e))) (nU := fun o v => match o with
 | .Not => .tnot (T v)
 | _ => .stuck) (nO := fun o vs => vs.foldr (fun v r => .tcons (isAnd o) (T v) r) (.tnil (isAnd o)))
end
noncomputable def cET : Nat → (Expr → PE) × (Expr → PE)
 | 0 => (fun _ => .stuck, fun _ => .stuck)
 | n + 1 => (fun e => cE1 sc nms (cET n).1 (cET n).2 e, fun e => cT1 (cE1 sc nms (cET n).1 (cET n).2) (cET n).2 e)
noncomputable abbrev cE : Expr → PE := (cET sc nms 30).1
noncomputable abbrev cT : Expr → PE := (cET sc nms 30).2
noncomputable def tupOf (e : Expr) : Option (List Expr) := onE e none (nT := some)
noncomputable def line0 (es : List Expr) : Nat := (es.head?.map (·.pos.line)).getD 0
noncomputable def isLocName (l : Nat) (e : Expr) : Bool := onE e false (nN := fun x p => (sc.names.lookup x == some .local) && p.line == l)
noncomputable def swapOK (es vs : List Expr) : Bool :=
 (es.length == 2 || es.length == 3) && vs.length == es.length && vs.all noStar && es.all (isLocName sc (line0 es)) && (es.filterMap nameOf).eraseDups.length == (es.filterMap nameOf).length && !(vs.all (foldedForSure 8)) && !(vs.all (constantsAlone 8))
noncomputable def cTg (t : Expr) : Option Tgt := onE t none (nN := fun x _ => (ixIn x nms).map .loc) (nA := fun o a _ => (ixIn a nmS).map fun k => .attr (cE sc nms o) k)
noncomputable def cTgs : List Expr → Option (List Tgt)
 | [] => some []
 | t :: r => (cTg sc nms t).bind fun t => (cTgs r).map (t :: ·)
noncomputable def cIs : List Expr → Option (List Nat)
 | [] => some []
 | t :: r => (nameOf t).bind fun x => (ixIn x nms).bind fun i => (cIs r).map (i :: ·)
noncomputable def gso {α : Type} (o : Option α) (p : α → PS) : PS := match o with
 | some a => p a
 | none => .stuck
noncomputable def cAsg (t v : Expr) : PS := onE t .stuck (nN := fun x _ => gso (ixIn x nms) fun i => .asg i (cE sc nms v)) (nA := fun o a _ => gso (ixIn a nmS) fun k => .act (.setA k) (.cons (cE sc nms v) (.cons (cE sc nms o) .nil)))
 (nS := fun o i => gdS (plainI i) (.act .setS (.cons (cE sc nms v) (.cons (cE sc nms o) (.cons (cE sc nms i) .nil)))))
 (nT := fun es => match tupOf v with
  | none => gdS (es.all noStar) (gso (cTgs sc nms es) fun ts => .unp ts (cE sc nms v))
  | some vs => bif es.all isAttr && !es.isEmpty then gso (cTgs sc nms es) fun ts => .unp ts (cE sc nms v) else gdS (swapOK sc es vs) (gso (cIs nms es) fun is => .unpR is (cE sc nms v)))
section
variable (S : List Stmt → PS)
noncomputable def cFor (t e : Expr) (b : List Stmt) : PS := onE t .stuck (nN := fun x _ => gso (ixIn x nms) fun i =>
 bif isAttr e || (isName e || isK e 21) then .forL i (cE sc nms e) (S b) else onE e .stuck (nF := fun f as kw _ => gso (nameOf f) fun y => gdS (isBu sc y "range" && kw.isEmpty) (match as with
  | [a] => gdS (noStar a) (.forR i (cE sc nms a) (S b))
  | _ => .stuck)))
 (nT := fun _ => gdS (notSet e) (.forT (cE sc nms e)))
noncomputable def cEx (b : PS) (hs : List ExceptHandler) : PS := match hs with
 | [h] => match h with
  | .ExceptHandler t x hb _ => gso (t.bind nameOf) fun y => gso x fun x => gso (clsOf (globOf sc y)) fun c => gdS (Nat.beq c excCl && !hb.isEmpty) (gso (ixIn x nms) fun i => .tryX b i (S hb))
 | _ => .stuck
noncomputable def cS1 (st : Stmt) : PS := match st with
 | .Assign ts v _ => match ts with
  | [t] => gdS (noComp v) (cAsg sc nms t v)
  | _ => .stuck
 | .AugAssign t o v _ => onE t .stuck (nA := fun ob a _ => gso (ixIn a nmS) fun k => gso (opB o) fun b => .aug (cE sc nms ob) k b (cE sc nms v))
 | .Expr v _ => gdS (noComp v) (.act .drop (.cons (cE sc nms v) .nil))
 | .Return v _ => match v with
  | some v => .ret (cE sc nms v)
  | none => .ret (.cst .none)
 | .If t b o _ => .ite (cT sc nms t) (S b) (S o)
 | .While t b o _ => gdS o.isEmpty (.while (cT sc nms t) (S b))
 | .For t e b o _ => gdS o.isEmpty (cFor sc nms S t e b)
 | .Try b hs o f _ => gdS o.isEmpty (match f with
  | [] => cEx sc nms S (S b) hs
  | _ :: _ => match hs with
   | [] => .fin (S b) (S f)
   | _ :: _ => .fin (.seq (cEx sc nms S (S b) hs) .nil) (S f))
 | .Raise v c _ => gdS c.isNone (gso v fun v => .act .raise (.cons (cE sc nms v) .nil))
 | _ => .stuck
end
noncomputable def cSs : Nat → List Stmt → PS
 | 0, _ => .stuck
 | n + 1, l => l.foldr (fun st r => .seq (cS1 sc nms (cSs n) st) r) .nil
end
noncomputable def seqOf (o : Obj) : Option (Array Value) := match o.data with
 | .seq items _ => some items
 | _ => none
noncomputable def mvsOf (f : Value → Option MV) : List Value → Option (List MV)
 | [] => some []
 | x :: r => (f x).bind fun v => (mvsOf f r).map (v :: ·)
noncomputable def mvOf (K : Frag) : Nat → Value → Option MV
 | 0, _ => none
 | n + 1, x => match x with
  | .none => some .none
  | .bool b => some (.bool b)
  | .int i _ => some (.int i)
  | .str s _ => bif PyData.strOk s then some (.str s) else none
  | .ref a => (K.lookup a).bind fun o => bif o.cls == .type "tuple" then (seqOf o).bind fun l => (mvsOf (mvOf K n) l.toList).map .tup else none
  | _ => none
noncomputable def fdB (K : Frag) (fd : FuncData) (nms : List Str) (r : FnRec) : Bool :=
 Nat.ble r.params nms.length && (codeIn K fd.code fd.qualname && (!fd.scope.isGenerator && (!fd.scope.isCoroutine && ((fd.scope.kind == .function) && (fd.scope.names.all (fun x => !(x.2 == .cell)) && (nms.all (fun x => fd.scope.names.lookup x == some .local) && (decide nms.Nodup
  && (fd.globals == mainGlobals && (fd.closure.isEmpty && fd.builtins == builtinsNs)))))))))
noncomputable def dflOf (K : Frag) (v : Value) : List Value := match v with
 | .ref a => ((K.lookup a).bind seqOf).elim [] Array.toList
 | _ => []
noncomputable def bindAt (K : Frag) (S : Setting) (nms : List Str) (r : FnRec) (g : Nat → Value) (fd : FuncData) (k : Nat) : Prop :=
 peek K S (bindArgs fd ⟨(List.range k).map g, []⟩) = some ((nms.take r.params).zip ((List.range k).map g ++ (dflOf K fd.defaults).drop (k + r.dflts.length - r.params)))
noncomputable def allK (Q : Nat → Prop) (lo : Nat) : Nat → Prop
 | 0 => Q lo
 | n + 1 => Q (lo + (n + 1)) ∧ allK Q lo n
structure FnOK (K : Frag) (fa : Addr) (nms : List Str) (r : FnRec) : Prop where
 mk ::
 at' : ∃ o fd b, K.lookup fa = some o ∧ o.data = .func fd ∧ fd.body = .stmts b ∧ cSs fd.scope nms 20 b = r.body ∧ fdB K fd nms r = true ∧ mvsOf (mvOf K 3) (dflOf K fd.defaults) = some r.dflts ∧ ∀ S g, allK (bindAt K S nms r g fd) (r.params - r.dflts.length) r.dflts.length
structure Pt where
 c : Cx
 K : Frag
 mg : Str → Option Value
 mb : Str → Option Value
 A : Around
 q : Str
 sc : Scope
 L : Addr
 fa : Addr
 cd : Value
 m : Str → Option Value
 names : List Str
 locs : Loc
 hd : Option Nat
 n : Nat
noncomputable abbrev Pt.env (P : Pt) : Env := envOf P.q P.sc P.L P.fa P.cd
noncomputable abbrev Pt.M (P : Pt) : Model := model P.c.pr P.c.w
noncomputable abbrev Pt.at (P : Pt) (L : Loc) (m : Str → Option Value) : Pt := { P with locs := L, m := m }
noncomputable abbrev Pt.envs (P : Pt) : List Env := P.env :: P.c.frames.map (·.1)
noncomputable def LocRel (c : Cx) (ρ : List Ad) (h : Heap) (names : List Str) (locs : Loc) (m : Str → Option Value) : Prop :=
 ∀ (i : Nat) (x : Str) (v : MV), names[i]? = some x → locs[i]? = some (some v) → ∃ y, m x = some y ∧ VR c ρ h v y
section
variable {c : Cx} {ρ ρ' : List Ad} {h h' : Heap} {names : List Str} {locs : Loc} {m : Str → Option Value}
theorem LocRel.mono (l : LocRel c ρ h names locs m) (hp : Pre ρ ρ') (ht : Tst h h') : LocRel c ρ' h' names locs m := fun i x v e1 e2 => (l i x v e1 e2).imp fun _ => And.imp_right (VR.mono hp ht)
theorem LocRel.put (l : LocRel c ρ h names locs m) (hn : names.Nodup) {i : Nat} {x : Str} {o : Option MV} {y : Option Value} (e : names[i]? = some x) (r : ∀ v, o = some v → ∃ z, y = some z ∧ VR c ρ h v z) : LocRel c ρ h names (locs.set i o) (fun z => if z = x then y else m z) := by
 intro j z u e1 e2
 by_cases hij : i = j
 · subst hij
   cases e.symm.trans e1
   rw [List.getElem?_set_self' ] at e2
   obtain ⟨_, _, h2⟩ := Option.map_eq_some_iff.mp e2
   obtain ⟨w, hw, hv⟩ := r u h2
   exact ⟨w, (if_pos rfl).trans hw, hv⟩
 · have hz : z ≠ x := fun q => hij ((List.getElem?_inj (List.getElem?_eq_some_iff.mp e).1 hn).mp (e.trans (q ▸ e1.symm)))
   obtain ⟨y', a, b⟩ := l j z u e1 ((List.getElem?_set_ne hij).symm.trans e2)
   exact ⟨y', (if_neg hz).trans a, b⟩
end
noncomputable def HdOK (ρ : List Ad) : Option Nat → Around → Prop
 | none, A => A.handled = none
 | some i, A => ∃ p, ρ[i]? = some p ∧ p.x = true ∧ A.handled = some (.ref p.a)
structure ClsFld (K : Frag) (C : Addr) : Prop where
 sa : findIn K (.ref C) "__setattr__" = some (some (.builtin "object.__setattr__"))
 ga : findIn K (.ref C) "__getattr__" = some none
 dict : hasDictIn K C = true
 mro : ∃ cd, clsIn K C = some cd ∧ cd.mro.isEmpty = false ∧ cd.mro.contains (.type "object") = true ∧ ∀ self, refuseLoop self "__setattr__" cd.mro = pure ()
noncomputable def bNames : List Str := (["len", "str", "isinstance", "range", "Exception"] : List String).map Str.ofString
structure TopOK (c : Cx) (K : Frag) (mg mb : Str → Option Value) : Prop where
 kin : K.In c.h₁
 g : c.h₁.Ns mainGlobals mg
 b : c.h₁.Ns builtinsNs mb
 nolimit : c.h₁.NoLimit
 builtins : ∀ x : Str, x ≠ "__name__" → mb x = bootBuiltins x
 fld : ∀ cl b, kind cl = some b → ClsFld K (c.D.cl cl)
 gaI : ∀ cl, kind cl = some false → findIn K (.ref (c.D.cl cl)) "__getattribute__" = some (some (.builtin "object.__getattribute__"))
 sysm : ∃ o, c.base sysModules = some o
 isiT : ∀ cl, askCl cl = true → isIn K (.ref (c.D.cl cl)) (c.D.cl cl) = true
 isiF : ∀ cl cl', askCl cl = true → askCl cl' = true → cl ≠ cl' → kin_not K (c.D.cl cl) (c.D.cl cl') = true
 isiS : ∀ cl, askCl cl = true → kitOne K (.type "str") (.ref (c.D.cl cl)) = some false
 clsA : ∀ cl, askCl cl = true → plainGet K (c.D.cl cl) "__class__" = true ∧ findIn K (.ref (c.D.cl cl)) "__class__" = some (some (.builtin "object.__class__")) ∧ mroIn K (c.D.cl cl) (.type "object") = some true
 getset : specialIn K (.builtin "object.__class__") "__get__" = some (some (.builtin "getset_descriptor.__get__"))
 takes : takesIn K (.builtin "object.__class__") = some true
 keepF : ∀ f, Nat.blt f 91 = true → keepIn K (.ref (c.D.fn f)) = true
 keepC : ∀ cl b, kind cl = some b → keepIn K (.ref (c.D.cl cl)) = true
 glob : ∀ x b i, gTab.lookup x = some (b, i) → mg x = some (.ref (if b then c.D.cl i else c.D.fn i))
 noglob : ∀ x ∈ bNames, mg x = none
 exm : exmOne K (.ref (c.D.cl excCl)) (.ref (c.D.cl excCl)) = some true
 gaX : findIn K (.ref (c.D.cl excCl)) "__getattribute__" = some (some (.builtin "BaseException.__getattribute__"))
 subX : mroIn K (c.D.cl excCl) (.type "BaseException") = some true
 fnOK : ∀ f r, fns f = some r → FnOK K (c.D.fn f) (locTab f) r
 makes : ∀ cl, kind cl = some false → makesIn K (c.D.cl cl) = true
 hostG : specialIn K (.ref (c.D.cl 11)) "__getattribute__" = some (some (.builtin "type.__getattribute__"))
 hostR : readsIn K (c.D.cl 11) (.type "type") = true
 hostF : findCls K (.ref (c.D.cl 11)) (.type "type") (nmOf 5) = some (.val (.ref (c.D.fn baseFn)))
 excC : ∃ nm q N bs hdct sn sub ab col dd k0 k1 k2 k3 k5, K.lookup (c.D.cl excCl) = some (excClassObj nm q (c.D.cl excCl) N bs [.type "Exception", .type "BaseException", .type "object"] hdct sn sub ab col dd k0 k1 k2 k3 k5 "Exception.__new__")
 metaX : typeIn K (.ref (c.D.cl excCl)) = some (.type "type")
 nofind : ∀ cl b n, kind cl = some b → n < 95 → meths cl n = none → findIn K (.ref (c.D.cl cl)) (nmOf n) = some none
 meth : ∀ cl b n f, kind cl = some b → n < 95 → meths cl n = some f → findIn K (.ref (c.D.cl cl)) (nmOf n) = some (some (.ref (c.D.fn f))) ∧ typeIn K (.ref (c.D.fn f)) = some (.type "function")
structure PtOK (P : Pt) : Prop where
 top : TopOK P.c P.K P.mg P.mb
 env : ∀ e ∈ P.envs, e.scope.kind = .function ∧ e.frame = some e.locals ∧ P.c.base e.locals = none
 fnod : (P.envs.map (·.locals)).Nodup
 above : P.c.h₁.objs.size ≤ P.L
 nodup : P.names.Nodup
 kinds : ∀ x ∈ P.names, P.sc.names.lookup x = some .local
 stack : P.A.frames = some P.envs
 depth : P.A.depth + 2 * P.n + 4 < recursionLimit
 units : P.A.units + 20 * P.n + 60 < cLine
theorem PtOK.at {P : Pt} (k : PtOK P) (L : Loc) (m : Str → Option Value) : PtOK (P.at L m) := { k with }
noncomputable abbrev FrAt (ρ : List Ad) (h : Heap) (e : Env) (m : Str → Option Value) : Prop := h.Ns e.locals m ∧ e.locals ∉ flat ρ
structure At (P : Pt) (ρ : List Ad) (σ : St) (s : Shared) : Prop where
 ok : PtOK P
 len : ρ.length = σ.length
 obj : ∀ (i : Nat) (p : Ad) (o : MO), ρ[i]? = some p → σ[i]? = some o → ObjAt P.c ρ s.heap i p o
 nod : (flat ρ).Nodup
 base : ∀ b o, P.c.base b = some o → s.heap.get? b = some o
 fresh : ∀ x ∈ flat ρ, P.c.base x = none
 fr : FrAt ρ s.heap P.env P.m
 frs : ∀ p ∈ P.c.frames, FrAt ρ s.heap p.1 p.2
 gens : s.gens = #[]
 os : s.os = P.c.os
 loc : LocRel P.c ρ s.heap P.names P.locs P.m
 hd : HdOK ρ P.hd P.A
noncomputable def Quiet (h : Heap) (x : Addr) : Prop := ∀ o, h.get? x = some o → (∀ vals n, o.cls = .type "tuple" → o.data = .seq vals n → False) ∧ (∀ ts, o.cls = .type "traceback" → o.data = .fields ts → False)
theorem HdOK.pre {ρ ρ' : List Ad} {A : Around} : ∀ {hd : Option Nat}, HdOK ρ hd A → Pre ρ ρ' → HdOK ρ' hd A
 | none, x, _ => x
 | some i, x, hp => by
  obtain ⟨p, h1, h2, h3⟩ := x
  exact (hp i p h1).imp fun _ q => ⟨q.1, q.2.2.trans h2, h3.trans (congrArg _ (congrArg _ q.2.1.symm))⟩
theorem quiet_of {h : Heap} {x : Addr} {o : Obj} (e : h.get? x = some o) (h1 : o.cls ≠ .type "tuple") (h2 : o.cls ≠ .type "traceback") : Quiet h x := fun o' e' => Option.some.inj (e.symm.trans e') ▸ ⟨fun _ _ c _ => h1 c, fun _ c _ => h2 c⟩
theorem quiet_ns {h : Heap} {L : Addr} {m : Str → Option Value} (n : h.Ns L m) : Quiet h L := fun o e => by
 obtain ⟨o', es, ep, ho, hd, _⟩ := n
 cases e.symm.trans ho
 exact ⟨fun _ _ _ h => (nomatch hd.symm.trans h), fun _ _ h => nomatch hd.symm.trans h⟩
theorem g9 (h : Heap) : h.get? h.objs.size = none := Heap.get?_none_of_le (Nat.le_refl _)
section
variable {P : Pt} {ρ : List Ad} {σ : St} {s : Shared}
theorem At.kb (a : At P ρ σ s) : ∀ b o, P.c.h₁.get? b = some o → s.heap.get? b = some o := fun b o e => a.base b o (P.c.hb b o e)
theorem At.Fr (a : At P ρ σ s) : Fr P.c.h₁ P.L s.heap P.m := ⟨a.fr.1, a.kb, a.ok.above⟩
theorem At.K (a : At P ρ σ s) : P.K.In s.heap := a.ok.top.kin.keeps a.kb
theorem At.kf (a : At P ρ σ s) : P.sc.kind = .function := (a.ok.env _ (.head _)).1
theorem At.any (a : At P ρ σ s) {e : Env} (he : e ∈ P.envs) : ∃ m, FrAt ρ s.heap e m := by
 rcases List.mem_cons.mp he with rfl | he
 · exact ⟨_, a.fr⟩
 · obtain ⟨p, hp, rfl⟩ := List.mem_map.mp he
   exact ⟨_, a.frs p hp⟩
theorem At.obj' (a : At P ρ σ s) {i : Nat} {p : Ad} (e : ρ[i]? = some p) : ∃ o, σ[i]? = some o ∧ ObjAt P.c ρ s.heap i p o :=
 have hl : i < σ.length := a.len ▸ (List.getElem?_eq_some_iff.mp e).1
 ⟨_, List.getElem?_eq_getElem hl, a.obj i p _ e (List.getElem?_eq_getElem hl)⟩
theorem At.adr (a : At P ρ σ s) {i : Nat} {o : MO} (e : σ[i]? = some o) : ∃ p, ρ[i]? = some p ∧ ObjAt P.c ρ s.heap i p o :=
 have hl : i < ρ.length := a.len ▸ (List.getElem?_eq_some_iff.mp e).1
 ⟨_, List.getElem?_eq_getElem hl, a.obj i _ o (List.getElem?_eq_getElem hl) e⟩
theorem At.of (a : At P ρ σ s) {i : Nat} {p : Ad} {o : MO} (e : ρ[i]? = some p) (e2 : σ[i]? = some o) : ObjAt P.c ρ s.heap i p o := a.obj i p o e e2
theorem At.exc (a : At P ρ σ s) {i : Nat} {p : Ad} (e : ρ[i]? = some p) (hx : p.x = true) : ∃ fs xs, σ[i]? = some (.exc fs) ∧ ExcAt P.c ρ s.heap i p xs ∧ (p.d = none ∧ fs = [] ∨ ∃ d, p.d = some d ∧ FldAt P.c ρ s.heap excCl d fs) := by
 obtain ⟨o, h1, h2⟩ := a.obj' e
 cases o with
 | exc fs => obtain ⟨_, xs, h3⟩ := h2; exact ⟨fs, xs, h1, h3⟩
 | _ => exact absurd (hx.symm.trans h2.1) (by decide)
theorem ObjAt.quiet {c : Cx} {ρ : List Ad} {h : Heap} {i : Nat} {p : Ad} {o : MO} (x : ObjAt c ρ h i p o) : ∀ b ∈ flat1 p, (∃ ob, h.get? b = some ob) ∧ Quiet h b := by
 have two : ∀ {b : Addr}, b ∈ flat1 p → b = p.a ∨ p.d = some b := fun hb => (List.mem_cons.mp hb).imp id fun q => Option.mem_toList.mp q
 have q1 : ∀ {b : Addr} {ob : Obj}, h.get? b = some ob → ob.cls ≠ .type "tuple" → ob.cls ≠ .type "traceback" → (∃ ob, h.get? b = some ob) ∧ Quiet h b := fun e h1 h2 => ⟨⟨_, e⟩, quiet_of e h1 h2⟩
 have fd : ∀ {cl : Nat} {d : Addr} {fs : List (Nat × MV)}, FldAt c ρ h cl d fs → (∃ ob, h.get? d = some ob) ∧ Quiet h d := fun ⟨es, n, e, _⟩ => q1 e (show Value.type "dict" ≠ _ by decide) (show Value.type "dict" ≠ _ by decide)
 intro b hb
 rcases two hb with rfl | hd
 · cases o with
   | list vs => obtain ⟨_, _, n, vals, e, _⟩ := x; exact q1 e (show Value.type "list" ≠ _ by decide) (show Value.type "list" ≠ _ by decide)
   | dict kvs =>
    obtain ⟨_, _, _, ⟨rk, ⟨o, _, _, e, hc, _⟩, _⟩ | ⟨_, xs, ⟨o, _, _, e, hc, _⟩, _⟩⟩ := x <;> exact q1 e (hc.1 ▸ by decide) (hc.1 ▸ by decide)
   | inst cl fs => obtain ⟨_, d, _, _, e, _⟩ := x; exact q1 e nofun nofun
   | exc fs => obtain ⟨_, xs, ⟨e, _⟩, _⟩ := x; exact q1 e nofun nofun
 · cases o with
   | list vs => exact nomatch x.2.1.symm.trans hd
   | dict kvs => exact nomatch x.2.1.symm.trans hd
   | inst cl fs => obtain ⟨_, d, e, _, _, f⟩ := x; cases e.symm.trans hd; exact fd f
   | exc fs =>
    obtain ⟨_, xs, _, ⟨e, _⟩ | ⟨d, e, f⟩⟩ := x
    · exact nomatch e.symm.trans hd
    · cases e.symm.trans hd; exact fd f
theorem At.own (a : At P ρ σ s) {x : Addr} (hx : x ∈ flat ρ) : (∃ ob, s.heap.get? x = some ob) ∧ Quiet s.heap x := by
 obtain ⟨p, hp, hx⟩ := List.mem_flatMap.mp hx
 obtain ⟨i, e⟩ := List.mem_iff_getElem?.mp hp
 obtain ⟨o, _, y⟩ := a.obj' e
 exact y.quiet x hx
theorem At.none_new (a : At P ρ σ s) {x : Addr} (h : s.heap.get? x = none) : x ∉ flat ρ := fun hx => (a.own hx).1.elim fun _ e => nomatch h.symm.trans e
theorem At.noones (a : At P ρ σ s) {x : Addr} (h : s.heap.get? x = none) : x ∉ flat ρ ∧ P.c.base x = none ∧ ∀ e ∈ P.envs, e.locals ≠ x := by
 refine ⟨a.none_new h, ?_, fun e he q => ?_⟩
 · cases e : P.c.base x with
   | none => rfl
   | some o => exact nomatch h.symm.trans (a.base x o e)
 · obtain ⟨m, ⟨o, _, _, ho, _⟩, _⟩ := a.any he
   exact nomatch (q ▸ h).symm.trans ho
theorem At.move (a : At P ρ σ s) (X : Addr → Prop) {L' : Loc} {m' : Str → Option Value} {σ' : St} {s' : Shared} (hl : σ'.length = σ.length) (K : ∀ b o, ¬ X b → s.heap.get? b = some o → s'.heap.get? b = some o)
 (hX : ∀ b, X b → P.c.base b = none) (T : Tst s.heap s'.heap) (TB : Tbs s.heap s'.heap) (hE : ∀ i, Noted ρ s.heap i → Noted ρ s'.heap i)
 (hO : ∀ (i : Nat) (p : Ad) (o : MO), ρ[i]? = some p → σ'[i]? = some o → (σ[i]? = some o ∧ ∀ x ∈ flat1 p, ¬ X x) ∨ ObjAt P.c ρ s'.heap i p o)
 (hN : s'.heap.Ns P.L m') (hF : ∀ p ∈ P.c.frames, X p.1.locals → s'.heap.Ns p.1.locals p.2) (hloc : LocRel P.c ρ s.heap P.names L' m') (hg : s'.gens = s.gens) (ho : s'.os = s.os) : At (P.at L' m') ρ σ' s' ∧ Ext ρ s.heap ρ s'.heap := by
 classical
 have R := Pre.refl ρ
 refine ⟨⟨a.ok.at L' m', a.len.trans hl.symm, fun i p o e1 e2 => ?_, a.nod, fun b o e => K b o (fun hs => nomatch (hX b hs).symm.trans e) (a.base b o e), a.fresh, ⟨hN, a.fr.2⟩, fun p hp => ⟨?_, (a.frs p hp).2⟩, hg.trans a.gens, ho.trans a.os, hloc.mono R T, a.hd⟩, ⟨R, T, hE⟩⟩
 · rcases hO i p o e1 e2 with ⟨e3, hn⟩ | x
   · exact (a.obj i p o e1 e3).keeps R T (fun b hb o' e => K b o' (hn b hb) e) TB
   · exact x
 · by_cases h : X p.1.locals
   · exact hF p hp h
   · obtain ⟨o, es, ep, ho', r⟩ := (a.frs p hp).1
     exact ⟨o, es, ep, K _ _ h ho', r⟩
theorem At.soft (a : At P ρ σ s) (X : Addr → Prop) {L' : Loc} {m' : Str → Option Value} {σ' : St} {s' : Shared} (hl : σ'.length = σ.length) (K : ∀ b o, ¬ X b → s.heap.get? b = some o → s'.heap.get? b = some o)
 (hX : ∀ b, X b → P.c.base b = none ∧ Quiet s.heap b) (hE : ∀ (i : Nat) (p : Ad), ρ[i]? = some p → p.x = true → ¬ X p.a)
 (hO : Tst s.heap s'.heap → Tbs s.heap s'.heap → ∀ (i : Nat) (p : Ad) (o : MO), ρ[i]? = some p → σ'[i]? = some o → (σ[i]? = some o ∧ ∀ x ∈ flat1 p, ¬ X x) ∨ ObjAt P.c ρ s'.heap i p o)
 (hN : s'.heap.Ns P.L m') (hF : ∀ p ∈ P.c.frames, X p.1.locals → s'.heap.Ns p.1.locals p.2) (hloc : LocRel P.c ρ s.heap P.names L' m') (hg : s'.gens = s.gens := by rfl) (ho : s'.os = s.os := by rfl) : At (P.at L' m') ρ σ' s' ∧ Ext ρ s.heap ρ s'.heap :=
 have T : Tst s.heap s'.heap := fun b o v n e hc hd => K b o (fun hs => ((hX b hs).2 o e).1 v n hc hd) e
 have TB : Tbs s.heap s'.heap := fun b o ts e e1 e2 => ⟨o, ts, K b o (fun hs => ((hX b hs).2 o e).2 ts e1 e2) e, e1, e2, rfl⟩
 a.move X hl K (fun b h => (hX b h).1) T TB (fun i => Exists.imp fun p => Exists.imp fun o => Exists.imp fun xs => Exists.imp fun t q => ⟨q.1, q.2.1, K _ _ (hE i p q.1 q.2.1) q.2.2.1, q.2.2.2⟩) (hO T TB) hN hF hloc hg ho
theorem At.grow {s' : Shared} (a : At P ρ σ s) (k : ∀ b o, s.heap.get? b = some o → s'.heap.get? b = some o) (hg : s'.gens = s.gens := by rfl) (ho : s'.os = s.os := by rfl) : At P ρ σ s' ∧ Ext ρ s.heap ρ s'.heap :=
 a.soft (fun _ => False) rfl (fun b o _ => k b o) (fun _ h => h.elim) (fun _ _ _ _ h => h) (fun _ _ i p o e1 e2 => .inl ⟨e2, fun _ _ h => h⟩) (a.fr.1.keeps k) (fun _ _ h => h.elim) a.loc hg ho
theorem At.tok (a : At P ρ σ s) (t : Nat) : At P ρ σ { s with toks := t } := (a.grow (s' := { s with toks := t }) fun _ _ e => e).1
theorem At.frame (a : At P ρ σ s) {L' : Loc} {m' : Str → Option Value} {s' : Shared} (k : ∀ b o, b ≠ P.L → s.heap.get? b = some o → s'.heap.get? b = some o) (ns : s'.heap.Ns P.L m') (hl : LocRel P.c ρ s.heap P.names L' m') (hg : s'.gens = s.gens := by rfl) (ho : s'.os = s.os := by rfl) :
 At (P.at L' m') ρ σ s' ∧ Ext ρ s.heap ρ s'.heap :=
 a.soft (· = P.L) rfl (fun b o n => k b o n) (fun b h => h ▸ ⟨(a.ok.env _ (.head _)).2.2, quiet_ns a.fr.1⟩)
  (fun i p e _ q => a.fr.2 (show P.L ∈ _ from q ▸ flat_mem e (.head _))) (fun _ _ i p o e1 e2 => .inl ⟨e2, fun y hy q => a.fr.2 (show P.L ∈ _ from q ▸ flat_mem e1 hy)⟩) ns (fun p hp q => absurd (List.mem_map.mpr ⟨_, List.mem_map_of_mem hp, q⟩) (List.nodup_cons.mp a.ok.fnod).1) hl hg ho
theorem At.side (a : At P ρ σ s) {x : Addr} {s' : Shared} (k : ∀ b o, b ≠ x → s.heap.get? b = some o → s'.heap.get? b = some o) (hx : x ∉ flat ρ ∧ P.c.base x = none ∧ ∀ e ∈ P.envs, e.locals ≠ x) (hq : Quiet s.heap x) (hg : s'.gens = s.gens := by rfl) (ho : s'.os = s.os := by rfl) :
 At P ρ σ s' ∧ Ext ρ s.heap ρ s'.heap := by
 obtain ⟨o, es, ep, ho', r⟩ := a.fr.1
 exact a.soft (· = x) rfl (fun b o n => k b o n) (fun b h => h ▸ ⟨hx.2.1, hq⟩) (fun i p e _ q => hx.1 (q ▸ flat_mem e (.head _)))
  (fun _ _ i p o e1 e2 => .inl ⟨e2, fun y hy q => hx.1 (q ▸ flat_mem e1 hy)⟩) ⟨o, es, ep, k _ _ (hx.2.2 _ (.head _)) ho', r⟩ (fun p hp q => absurd q (hx.2.2 _ (.tail _ (List.mem_map_of_mem hp)))) a.loc hg ho
theorem At.put (a : At P ρ σ s) {i : Nat} {p : Ad} {o' : MO} {s' : Shared} (e1 : ρ[i]? = some p) {x : Addr} (hx : x ∈ flat1 p) (k : ∀ b o, b ≠ x → s.heap.get? b = some o → s'.heap.get? b = some o) (hm : p.x = true → x ≠ p.a)
 (new : Tst s.heap s'.heap → Tbs s.heap s'.heap → ObjAt P.c ρ s'.heap i p o') (hg : s'.gens = s.gens := by rfl) (ho : s'.os = s.os := by rfl) : At P ρ (σ.set i o') s' ∧ Ext ρ s.heap ρ s'.heap := by
 obtain ⟨ob, es, ep, hL, r⟩ := a.fr.1
 have hi : i < σ.length := a.len ▸ (List.getElem?_eq_some_iff.mp e1).1
 have hf := flat_mem e1 hx
 refine a.soft (· = x) List.length_set (fun b o n => k b o n) (fun b h => h ▸ ⟨a.fresh _ hf, (a.own hf).2⟩) (fun j q e hq h => ?_) (fun T TB j q oj f1 f2 => ?_) ⟨ob, es, ep, k _ _ (fun e => a.fr.2 (show P.L ∈ _ from e ▸ hf)) hL, r⟩ (fun q hq e => absurd (e ▸ hf) (a.frs q hq).2) a.loc hg ho
 · by_cases hij : i = j
   · subst hij; cases e1.symm.trans e; exact hm hq h.symm
   · exact flat_ne a.nod e1 e hij hx (.head _) h.symm
 · by_cases hij : i = j
   · subst hij
     cases e1.symm.trans f1
     cases (List.getElem?_set_self hi).symm.trans f2
     exact .inr (new T TB)
   · exact .inl ⟨(List.getElem?_set_ne hij).symm.trans f2, fun z hz q => flat_ne a.nod e1 f1 hij hx hz q.symm⟩
theorem flat_append (ρ : List Ad) (p : Ad) : flat (ρ ++ [p]) = flat ρ ++ flat1 p := by simp [flat, List.flatMap_append]
theorem snoc_at (p : Ad) {i : Nat} {q : Ad} (e : ρ[i]? = some q) : (ρ ++ [p])[i]? = some q := List.getElem?_append_left (List.getElem?_eq_some_iff.mp e).1 ▸ e
theorem pre_snoc (p : Ad) : Pre ρ (ρ ++ [p]) := fun _ q e => ⟨q, snoc_at p e, rfl, rfl⟩
theorem snoc_last {α : Type} (l : List α) (b : α) : (l ++ [b])[l.length]? = some b := List.getElem?_concat_length
theorem snoc_cases {α β : Type} {l : List α} {k : List β} {i : Nat} {a b : α} {c d : β} (hl : l.length = k.length) (e : (l ++ [b])[i]? = some a) (e2 : (k ++ [d])[i]? = some c) : (l[i]? = some a ∧ k[i]? = some c) ∨ (i = l.length ∧ a = b ∧ c = d) := by
 by_cases h : i < l.length
 · exact .inl ⟨List.getElem?_append_left h ▸ e, List.getElem?_append_left (hl ▸ h) ▸ e2⟩
 · have hi : i = l.length := Nat.le_antisymm (Nat.le_of_lt_succ (Nat.lt_of_lt_of_eq (List.getElem?_eq_some_iff.mp e).1 List.length_append)) (Nat.le_of_not_lt h)
   subst hi
   exact .inr ⟨rfl, Option.some.inj (e.symm.trans (snoc_last l b)), Option.some.inj (e2.symm.trans (hl ▸ snoc_last k d))⟩
theorem At.adopt (a : At P ρ σ s) {p : Ad} {o : MO} (hn : ∀ x ∈ flat1 p, x ∉ flat ρ ∧ P.c.base x = none ∧ ∀ e ∈ P.envs, e.locals ≠ x) (hd : (flat1 p).Nodup) (ob : ObjAt P.c (ρ ++ [p]) s.heap σ.length p o) : At P (ρ ++ [p]) (σ ++ [o]) s ∧ Ext ρ s.heap (ρ ++ [p]) s.heap := by
 have fr : ∀ {e : Env} {m : Str → Option Value}, e ∈ P.envs → FrAt ρ s.heap e m → FrAt (ρ ++ [p]) s.heap e m := fun he q => ⟨q.1, fun h => (List.mem_append.mp (flat_append ρ p ▸ h)).elim q.2 fun h => (hn _ h).2.2 _ he rfl⟩
 refine ⟨⟨a.ok, by rw [List.length_append, List.length_append, a.len]; rfl, fun i q o' e1 e2 => ?_, ?_, a.base, fun x hx => ?_, fr (.head _) a.fr, fun q hq => fr (.tail _ (List.mem_map_of_mem hq)) (a.frs q hq), a.gens, a.os, a.loc.mono (pre_snoc p) (.refl _), a.hd.pre (pre_snoc p)⟩,
  ⟨pre_snoc p, .refl _, fun i => Exists.imp fun q => Exists.imp fun _ => Exists.imp fun _ => Exists.imp fun _ => And.imp_left (snoc_at p)⟩⟩
 · rcases snoc_cases a.len e1 e2 with ⟨e1, e2⟩ | ⟨rfl, rfl, rfl⟩
   · exact (a.obj i q o' e1 e2).keeps (pre_snoc p) (.refl _) (fun _ _ _ e => e) (Tbs.of_keeps fun _ _ e => e)
   · exact a.len ▸ ob
 · rw [flat_append]
   exact List.nodup_append.mpr ⟨a.nod, hd, fun x hx y hy e => (hn y hy).1 (e ▸ hx)⟩
 · exact (List.mem_append.mp (flat_append ρ p ▸ hx)).elim (a.fresh x) fun h => (hn x h).2.1
theorem flat_grant {p : Ad} {d : Addr} (hd : p.d = none) : ∀ {ρ : List Ad} {i : Nat}, ρ[i]? = some p → (flat (ρ.set i ⟨p.a, some d, p.x⟩)).Perm (d :: flat ρ) := fun {ρ} => by
 induction ρ with
 | nil => nofun
 | cons q r ih =>
  intro i e
  cases i with
  | zero =>
   obtain rfl := Option.some.inj e
   show (q.a :: d :: flat r).Perm (d :: (q.a :: q.d.toList ++ flat r))
   rw [hd]; exact .swap ..
  | succ i => exact ((ih e).append_left (flat1 q)).trans List.perm_middle
theorem At.grant (a : At P ρ σ s) {i : Nat} {p : Ad} (e : ρ[i]? = some p) (hx : p.x = true) (hd : p.d = none) {d : Addr} (hn : s.heap.get? d = none) {fs : List (Nat × MV)} {xs : Array Value} {s' : Shared} (g : s.heap.get? p.a = some (excObj P.c none xs)) (g' : s'.heap.get? p.a = some (excObj P.c (some d) xs)) (k : ∀ b o, b ≠ p.a → s.heap.get? b = some o → s'.heap.get? b = some o)
 (ob : Tbs s.heap s'.heap → Tst s.heap s'.heap → Pre ρ (ρ.set i ⟨p.a, some d, p.x⟩) → ObjAt P.c (ρ.set i ⟨p.a, some d, p.x⟩) s'.heap i ⟨p.a, some d, p.x⟩ (.exc fs)) (hg : s'.gens = s.gens := by rfl) (ho : s'.os = s.os := by rfl) :
 At P (ρ.set i ⟨p.a, some d, p.x⟩) (σ.set i (.exc fs)) s' ∧ Ext ρ s.heap (ρ.set i ⟨p.a, some d, p.x⟩) s'.heap := by
 have hi := (List.getElem?_eq_some_iff.mp e).1
 have hin : p.a ∈ flat ρ := flat_mem e (.head _)
 have K1 : ∀ b o, s.heap.get? b = some o → o.cls ≠ .ref (P.c.D.cl excCl) → s'.heap.get? b = some o := fun b o q n => k b o (fun h => n (Option.some.inj ((h ▸ g).symm.trans q) ▸ rfl)) q
 have TB : Tbs s.heap s'.heap := fun b o ts e q1 q2 => ⟨o, ts, K1 b o e (q1 ▸ nofun), q1, q2, rfl⟩
 have T : Tst s.heap s'.heap := fun b o v n e q1 q2 => K1 b o e (q1 ▸ nofun)
 have hp : ∀ j q, ρ[j]? = some q → (i = j ∧ q = p ∧ (ρ.set i ⟨p.a, some d, p.x⟩)[j]? = some ⟨p.a, some d, p.x⟩) ∨ (i ≠ j ∧ (ρ.set i ⟨p.a, some d, p.x⟩)[j]? = some q) := fun j q h => by
  by_cases hij : i = j
  · subst hij; exact .inl ⟨rfl, Option.some.inj (h.symm.trans e), List.getElem?_set_self hi⟩
  · exact .inr ⟨hij, (List.getElem?_set_ne hij).trans h⟩
 have R : Pre ρ (ρ.set i ⟨p.a, some d, p.x⟩) := fun j q h => by
  rcases hp j q h with ⟨_, rfl, h1⟩ | ⟨_, h1⟩
  · exact ⟨_, h1, rfl, rfl⟩
  · exact ⟨q, h1, rfl, rfl⟩
 have pm := flat_grant (d := d) hd e
 have nw := a.noones hn
 have mem : ∀ {x}, x ∈ flat (ρ.set i ⟨p.a, some d, p.x⟩) → x = d ∨ x ∈ flat ρ := fun h => List.mem_cons.mp (pm.mem_iff.mp h)
 have fr : ∀ {e : Env} {m : Str → Option Value}, e ∈ P.envs → FrAt ρ s.heap e m → FrAt (ρ.set i ⟨p.a, some d, p.x⟩) s'.heap e m := fun he q => by
  obtain ⟨⟨o, es, ep, ho, r⟩, hf⟩ := q
  exact ⟨⟨o, es, ep, k _ _ (fun q => hf (q ▸ hin)) ho, r⟩, fun h => (mem h).elim (nw.2.2 _ he) hf⟩
 refine ⟨⟨a.ok, by rw [List.length_set, List.length_set, a.len], fun j q o e1 e2 => ?_, pm.nodup_iff.mpr (List.nodup_cons.mpr ⟨nw.1, a.nod⟩), fun b o h => k b o (fun q => nomatch (q ▸ a.fresh _ hin).symm.trans h) (a.base b o h), fun x hx => (mem hx).elim (fun h => h ▸ nw.2.1) (a.fresh x), fr (.head _) a.fr, fun q hq => fr (.tail _ (List.mem_map_of_mem hq)) (a.frs q hq), hg.trans a.gens, ho.trans a.os, a.loc.mono R T, a.hd.pre R⟩, ⟨R, T, fun j => ?_⟩⟩
 · by_cases hij : i = j
   · subst hij
     obtain rfl := Option.some.inj ((List.getElem?_set_self hi).symm.trans e1)
     obtain rfl := Option.some.inj ((List.getElem?_set_self (a.len ▸ hi)).symm.trans e2)
     exact ob TB T R
   · have e1 := (List.getElem?_set_ne hij).symm.trans e1
     exact (a.obj j q o e1 ((List.getElem?_set_ne hij).symm.trans e2)).keeps R T (fun b hb o' => k b o' (fun h => flat_ne a.nod e e1 hij (.head _) hb h.symm)) TB
 · rintro ⟨q, o, ys, t, q1, q2, q3, q4, q5⟩
   rcases hp j q q1 with ⟨_, rfl, h1⟩ | ⟨hij, h1⟩
   · obtain rfl := Option.some.inj (g.symm.trans q3)
     exact ⟨_, _, ys, t, h1, q2, g', q4, q5⟩
   · exact ⟨q, o, ys, t, h1, q2, k _ _ (fun h => flat_ne a.nod e q1 hij (.head _) (.head _) h.symm) q3, q4, q5⟩
theorem At.new (a : At P ρ σ s) {s' : Shared} {p : Ad} {o : MO} (k : ∀ b o, s.heap.get? b = some o → s'.heap.get? b = some o) (hn : ∀ x ∈ flat1 p, s.heap.get? x = none) (hd : (flat1 p).Nodup) (ob : Tst s.heap s'.heap → ObjAt P.c (ρ ++ [p]) s'.heap σ.length p o)
 (hg : s'.gens = s.gens := by rfl) (ho : s'.os = s.os := by rfl) : At P (ρ ++ [p]) (σ ++ [o]) s' ∧ Ext ρ s.heap (ρ ++ [p]) s'.heap ∧ VR P.c (ρ ++ [p]) s'.heap (.ref σ.length) (.ref p.a) := by
 obtain ⟨A', X⟩ := a.grow k hg ho
 obtain ⟨A₂, X₂⟩ := A'.adopt (fun x h => a.noones (hn x h)) hd (ob X.tst)
 exact ⟨A₂, X.trans X₂, p, a.len ▸ snoc_last ρ p, rfl⟩
theorem nod1 (a : Addr) : (flat1 ⟨a, none, false⟩).Nodup := List.nodup_cons.mpr ⟨nofun, .nil⟩
theorem At.newList (A : At P ρ σ s) {vs : List MV} {vals : List Value} {n : Nat} (v : VRs P.c ρ s.heap vs vals) (hl : vs.length ≤ LIM) {h' : Heap} (k : ∀ b o, s.heap.get? b = some o → h'.get? b = some o) {D : Addr} (hD : s.heap.get? D = none) (e : h'.get? D = some (listObj vals n)) (t : Nat) :
 At P (ρ ++ [⟨D, none, false⟩]) (σ ++ [.list vs]) { s with heap := h', toks := t } ∧ Ext ρ s.heap (ρ ++ [⟨D, none, false⟩]) h' ∧ VR P.c (ρ ++ [⟨D, none, false⟩]) h' (.ref σ.length) (.ref D) :=
 A.new (s' := { s with heap := h', toks := t }) k (fun x hx => List.mem_singleton.mp hx ▸ hD) (nod1 D) fun ht => ⟨rfl, rfl, n, vals, e, v.mono (pre_snoc _) ht, hl⟩
end
noncomputable def PostR {α β : Type} (P : Pt) (V : List Ad → Heap → β → α → Prop) (ρ : List Ad) (h : Heap) (Q : α → Shared → Prop) (E : Value → Shared → Prop) : Rs β → Prop
 | .ok b σ' => ∀ ρ' s' a, Ext ρ h ρ' s'.heap → At P ρ' σ' s' → V ρ' s'.heap b a → Q a s'
 | .err e σ' => ∀ ρ' s' p, Ext ρ h ρ' s'.heap → At P ρ' σ' s' → ρ'[e]? = some p → p.x = true → E (.ref p.a) s'
noncomputable def Post {α β : Type} (P : Pt) (V : List Ad → Heap → β → α → Prop) (ρ : List Ad) (h : Heap) (m : Rs β → Prop) (Q : α → Shared → Prop) (E : Value → Shared → Prop) : Prop := ∃ r, m r ∧ PostR P V ρ h Q E r
noncomputable def SndAt {α β : Type} (P : Pt) (V : List Ad → Heap → β → α → Prop) (t : Sem α) (m : MM β) (ρ : List Ad) (σ : St) (s : Shared) : Prop :=
 ∀ (Q : α → Shared → Prop) (E : Value → Shared → Prop), Post P V ρ s.heap (m σ) Q E → wpAny P.M P.A t Q E s
noncomputable def Snd {α β : Type} (P : Pt) (V : List Ad → Heap → β → α → Prop) (t : Sem α) (m : MM β) : Prop := ∀ ρ σ s, At P ρ σ s → SndAt P V t m ρ σ s
noncomputable abbrev V1 (P : Pt) : List Ad → Heap → List MV → Value → Prop := fun ρ h vs y => ∃ v, vs = [v] ∧ VR P.c ρ h v y
noncomputable abbrev VVs (P : Pt) : List Ad → Heap → List MV → List Value → Prop := VRs P.c
noncomputable abbrev VB : List Ad → Heap → List MV → Bool → Prop := fun _ _ vs b => vs = [.bool b]
section
variable {P : Pt} {α β γ δ : Type} {V : List Ad → Heap → β → α → Prop} {ρ ρ' : List Ad} {σ σ' : St} {h h' : Heap} {Q : α → Shared → Prop} {E : Value → Shared → Prop}
theorem PostR.ext {r : Rs β} (p : PostR P V ρ h Q E r) (X : Ext ρ h ρ' h') : PostR P V ρ' h' Q E r := by
 cases r with
 | ok b σ' => exact fun ρ' s' a x => p ρ' s' a (X.trans x)
 | err e σ' => exact fun ρ' s' q x => p ρ' s' q (X.trans x)
theorem Post.ext {m : Rs β → Prop} (p : Post P V ρ h m Q E) (X : Ext ρ h ρ' h') : Post P V ρ' h' m Q E := p.imp fun _ => And.imp_right (·.ext X)
theorem Post.map {m m' : Rs β → Prop} (p : Post P V ρ h m Q E) (f : ∀ r, m r → m' r) : Post P V ρ h m' Q E := p.imp fun r => And.imp_left (f r)
theorem step {V₁ : List Ad → Heap → β → α → Prop} {V₂ : List Ad → Heap → γ → δ → Prop} {t : Sem α} {m₁ : MM β} {f : β → MM γ} {s : Shared} {Q : δ → Shared → Prop} {K : α → Shared → Prop}
 (h₁ : SndAt P V₁ t m₁ ρ σ s) (hp : Post P V₂ ρ s.heap (bnd m₁ f σ) Q E)
 (k : ∀ b σ₁ ρ₁ s₁ a, Ext ρ s.heap ρ₁ s₁.heap → At P ρ₁ σ₁ s₁ → V₁ ρ₁ s₁.heap b a → Post P V₂ ρ₁ s₁.heap (f b σ₁) Q E → K a s₁) : wpAny P.M P.A t K E s := by
 obtain ⟨r, ⟨q, h1, h2⟩, hp⟩ := hp
 refine h₁ K E ⟨q, h1, ?_⟩
 cases q with
 | ok b σ₁ => exact fun ρ' s' a x y z => k b σ₁ ρ' s' a x y z ⟨r, h2, hp.ext x⟩
 | err e σ₁ => cases h2; exact hp
theorem Post.done {b : β} {a : α} {s' : Shared} {ρ₁ : List Ad} (p : PostR P V ρ h Q E (.ok b σ)) (X : Ext ρ h ρ₁ s'.heap) (A : At P ρ₁ σ s') (v : V ρ₁ s'.heap b a) : Q a s' := p ρ₁ s' a X A v
theorem Post.one {w : MV} {y : Value} {Q : Value → Shared → Prop} {s' : Shared} {ρ₁ : List Ad} (p : PostR P (V1 P) ρ h Q E (.ok [w] σ)) (X : Ext ρ h ρ₁ s'.heap) (A : At P ρ₁ σ s') (v : VR P.c ρ₁ s'.heap w y) : Q y s' := p ρ₁ s' y X A ⟨w, rfl, v⟩
theorem Post.ret {b : β} {a : α} {s : Shared} (p : Post P V ρ s.heap (Mine.ret b σ) Q E) (A : At P ρ σ s) (v : V ρ s.heap b a) : Q a s := by
 obtain ⟨_, rfl, p⟩ := p
 exact p ρ s a .refl A v
end
mutual
noncomputable def toPy : MV → PyData
 | .none => .none
 | .bool b => .bool b
 | .int i => .int i
 | .str s => .str s
 | .tup vs => .tuple (toPys vs)
 | .scr _ => .none
 | .ref _ => .none
 | .fn _ => .none
noncomputable def toPys : List MV → List PyData
 | [] => []
 | v :: r => toPy v :: toPys r
end
noncomputable def Rd1 (h : Heap) (n : Nat) (y : Value) (d : PyData) : Prop := Reads h y d [] ∧ d.canLay0 = true ∧ d.depth ≤ n
noncomputable def Rds (h : Heap) (n : Nat) (xs : List Value) (ds : List PyData) : Prop := ReadsAll h xs ds [] ∧ PyData.canLayAll0 ds = true ∧ PyData.depthAll ds ≤ n
theorem and_e {a b : Bool} (h : (a && b) = true) : a = true ∧ b = true := Bool.and_eq_true_iff.mp h
theorem str_of {b : MV} {x : Str} (h : b.str? = some x) : b = .str x := by cases b <;> cases h; rfl
theorem int_of {b : MV} {x : Int} (h : b.int? = some x) : b = .int x := by cases b <;> cases h; rfl
theorem bool_of {b : MV} {x : Bool} (h : b.bool? = some x) : b = .bool x := by cases b <;> cases h; rfl
theorem tup_of {b : MV} {x : List MV} (h : b.tup? = some x) : b = .tup x := by cases b <;> cases h; rfl
theorem none_of {b : MV} (h : b.none? = true) : b = .none := by cases b <;> first | rfl | cases h
theorem map_e {α β : Type} {o : Option α} {f : α → β} {r : β} (h : o.map f = some r) : ∃ a, o = some a ∧ f a = r := Option.map_eq_some_iff.mp h
theorem bind_e {α β : Type} {o : Option α} {f : α → Option β} {r : β} (h : o.bind f = some r) : ∃ a, o = some a ∧ f a = some r := Option.bind_eq_some_iff.mp h
section
variable {c : Cx} {ρ : List Ad} {h : Heap}
theorem rd_rec (v : MV) : ∀ n y, shal v n = true → VR c ρ h v y → Rd1 h n y (toPy v) :=
 MV.rec (motive_1 := fun v => ∀ n y, shal v n = true → VR c ρ h v y → Rd1 h n y (toPy v)) (motive_2 := fun vs => ∀ n xs, shals vs n = true → VRs c ρ h vs xs → Rds h n xs (toPys vs))
  (fun n y _ q => q ▸ ⟨.none, rfl, Nat.zero_le _⟩) (fun b n y _ q => q ▸ ⟨.bool b, rfl, Nat.zero_le _⟩) (fun i n y _ q => q.elim fun t q => q ▸ ⟨.int i t, rfl, Nat.zero_le _⟩) (fun x n y _ q => q.elim fun t q => q.1 ▸ ⟨.str x t, q.2, Nat.zero_le _⟩)
  (fun vs ih n y e q => by
   obtain ⟨a, o, vals, k, rfl, hk, q⟩ := q
   obtain ⟨h1, h2⟩ := and_e e
   obtain ⟨i1, i2, i3⟩ := ih (n - 1) vals h2 q
   exact ⟨.tuple hk.1 hk.2.1 hk.2.2 i1, i2, Nat.le_trans (Nat.succ_le_succ i3) (Nat.le_of_eq (Nat.succ_pred_eq_of_pos (Nat.le_of_ble_eq_true h1)))⟩)
  (fun _ _ _ e => (nomatch e)) (fun _ _ _ e => (nomatch e)) (fun _ _ _ e => (nomatch e))
  (fun n xs _ q => q ▸ ⟨.nil, rfl, Nat.zero_le _⟩)
  (fun v r ih1 ih2 n xs e q => by
   obtain ⟨x, ys, rfl, q1, q2⟩ := q
   obtain ⟨h1, h2⟩ := and_e e
   obtain ⟨i1, i2, i3⟩ := ih1 n x h1 q1
   obtain ⟨j1, j2, j3⟩ := ih2 n ys h2 q2
   exact ⟨ReadsAll.cons (as := []) (bs := []) i1 j1, Bool.and_eq_true_iff.mpr ⟨i2, j2⟩, Nat.max_le.mpr ⟨i3, j3⟩⟩) v
theorem rds_rec : ∀ {vs : List MV} {n : Nat} {xs : List Value}, shals vs n = true → VRs c ρ h vs xs → Rds h n xs (toPys vs) := fun {vs} => by
 induction vs with
 | nil => intro n xs _ q; exact q ▸ ⟨.nil, rfl, Nat.zero_le _⟩
 | cons v r ih =>
  rintro n xs e ⟨x, ys, rfl, q1, q2⟩
  obtain ⟨h1, h2⟩ := and_e e
  obtain ⟨i1, i2, i3⟩ := rd_rec v n x h1 q1
  obtain ⟨j1, j2, j3⟩ := ih h2 q2
  exact ⟨ReadsAll.cons (as := []) (bs := []) i1 j1, Bool.and_eq_true_iff.mpr ⟨i2, j2⟩, Nat.max_le.mpr ⟨i3, j3⟩⟩
end
theorem eqvs_step {a b : PyData} {x y : List PyData} {t r : Bool} (h1 : PyData.eqv a b = t) (h2 : (bif t then some (PyData.eqvAll x y) else some false) = some r) : PyData.eqvAll (a :: x) (b :: y) = r := by
 subst h1
 show (PyData.eqv a b && _) = r
 cases e : PyData.eqv a b <;> (rw [e] at h2; cases h2; rfl)
theorem eqvs_rec : ∀ {l : List MV}, (∀ a ∈ l, ∀ b r, eqP a b = some r → PyData.eqv (toPy a) (toPy b) = r) → ∀ {m : List MV} {r : Bool}, eqPs l m = some r → PyData.eqvAll (toPys l) (toPys m) = r := fun {l} => by
 induction l with
 | nil =>
  intro _ m r e
  cases e
  cases m <;> rfl
 | cons a l ih =>
  intro hp m r e
  cases m with
  | nil => cases e; rfl
  | cons b m =>
   obtain ⟨t, e1, e2⟩ := bind_e e
   refine eqvs_step (hp a (.head _) b t e1) ?_
   cases t with
   | false => exact e2
   | true => exact (congrArg some (ih (fun x hx => hp x (.tail _ hx)) e2))
theorem eqv_rec (a : MV) : ∀ b r, eqP a b = some r → PyData.eqv (toPy a) (toPy b) = r :=
 MV.rec (motive_1 := fun a => ∀ b r, eqP a b = some r → PyData.eqv (toPy a) (toPy b) = r) (motive_2 := fun l => ∀ a ∈ l, ∀ b r, eqP a b = some r → PyData.eqv (toPy a) (toPy b) = r)
  (fun b r e => by
   cases hb : b.none? with
   | true => cases none_of hb; cases e; rfl
   | false =>
    rw [eqP, hb] at e
    obtain ⟨x, h1, rfl⟩ := map_e e
    cases str_of h1; rfl)
  (fun a b r e => by obtain ⟨x, h1, rfl⟩ := map_e e; cases bool_of h1; rfl) (fun a b r e => by obtain ⟨x, h1, rfl⟩ := map_e e; cases int_of h1; rfl)
  (fun a b r e => by
   cases hb : b.none? with
   | true => cases none_of hb; cases e; rfl
   | false =>
    rw [eqP, hb] at e
    obtain ⟨x, h1, rfl⟩ := map_e e
    cases str_of h1; rfl)
  (fun l ih b r e => by obtain ⟨x, h1, h2⟩ := bind_e e; cases tup_of h1; exact eqvs_rec ih h2)
  (fun _ _ _ e => (nomatch e)) (fun _ _ _ e => (nomatch e)) (fun _ _ _ e => (nomatch e)) nofun (fun a l ih1 ih2 x hx => (List.mem_cons.mp hx).elim (fun e => e ▸ ih1) (ih2 x)) a
noncomputable def opBM : BOp → Operator
 | .add => .Add
 | .sub => .Sub
 | .mul => .Mult
 | .mod => .Mod
 | .fdiv => .FloorDiv
 | .pow => .Pow
theorem opB_of {o : Operator} {b : BOp} (h : opB o = some b) : o = opBM b := by cases o <;> cases h <;> rfl
noncomputable def opCM : COp → CmpOp
 | .eq => .Eq
 | .ne => .NotEq
 | .lt => .Lt
 | .gt => .Gt
 | .ge => .GtE
 | .le => .LtE
 | .is => .Is
 | .isNot => .IsNot
 | .inn => .In
 | .notIn => .NotIn
theorem opC_of (o : CmpOp) : o = opCM (opC o) := by cases o <;> rfl
theorem strOk_append {x y : Str} (hx : PyData.strOk x = true) (hy : PyData.strOk y = true) : PyData.strOk (x ++ y) = true := by
 unfold PyData.strOk at *
 rw [Str.cps_append, Array.all_append, hx, hy]; rfl
theorem lim_le : LIM ≤ sizeLine := by rw [sizeLine_eq]; decide
theorem le_line {n : Nat} (h : n ≤ LIM) : n ≤ sizeLine := Nat.le_trans h lim_le
section
variable {P : Pt} {ρ : List Ad} {σ : St} {s : Shared} {Q : Value → Shared → Prop} {E : Value → Shared → Prop} {x y : Value}
theorem At.isList (A : At P ρ σ s) {i : Nat} {p : Ad} {vs : List MV} (e : ρ[i]? = some p) (e2 : σ[i]? = some (.list vs)) : ∃ vals, s.heap.IsList p.a vals.toArray ∧ VRs P.c ρ s.heap vs vals ∧ vs.length ≤ LIM ∧ vals.length = vs.length := by
 obtain ⟨_, _, n, vals, a, b, d⟩ := A.of e e2
 exact ⟨vals, ⟨_, a, rfl, _, rfl⟩, b, d, b.len⟩
theorem At.room5 (A : At P ρ σ s) {a b : PyData} (h : a.depth ≤ 6) : P.A.units + min a.depth b.depth < cLine := by
 have := A.ok.units
 have := Nat.min_le_left a.depth b.depth
 lia
theorem EqV.reads {a b : MV} {t : Bool} (h : EqV σ a b t) (A : At P ρ σ s) : VR P.c ρ s.heap a x → VR P.c ρ s.heap b y →
 ∃ da db as bs, Reads s.heap x da as ∧ Reads s.heap y db bs ∧ da.canLay0 = true ∧ db.canLay0 = true ∧ P.A.units + min da.depth db.depth < cLine ∧ PyData.eqv da db = t := by
 cases h with
 | val hs e =>
  intro va vb
  obtain ⟨h1, h2⟩ := and_e hs
  have ra := rd_rec a 5 x h1 va
  have rb := rd_rec b 5 y h2 vb
  exact ⟨_, _, _, _, ra.1, rb.1, ra.2.1, rb.2.1, A.room5 (Nat.le_succ_of_le ra.2.2), eqv_rec a b t e⟩
 | list e1 e2 hs e =>
  rintro ⟨p, p1, rfl⟩ ⟨q, q1, rfl⟩
  obtain ⟨h1, h2⟩ := and_e hs
  obtain ⟨_, _, n, vals, g1, g2, _⟩ := A.of p1 e1
  obtain ⟨_, _, m, wals, k1, k2, _⟩ := A.of q1 e2
  have ra := rds_rec h1 g2
  have rb := rds_rec h2 k2
  exact ⟨.list _, .list _, _, _, .list g1 rfl rfl ra.1, .list k1 rfl rfl rb.1, ra.2.1, rb.2.1, A.room5 (Nat.succ_le_succ ra.2.2), eqvs_rec (fun a _ => eqv_rec a) e⟩
theorem snd_bin (A : At P ρ σ s) {o : BOp} {a b : MV} {r : Rs (List MV)} : PBin σ o a b r → VR P.c ρ s.heap a x → VR P.c ρ s.heap b y → PostR P (V1 P) ρ s.heap Q E r → wpAny P.M P.A (binaryOp (opBM o) x y) Q E s := by
 intro h
 cases h with
 | addI => rintro ⟨t, rfl⟩ ⟨u, rfl⟩ p; exact add_int (Post.one p .refl (A.tok _) ⟨_, rfl⟩)
 | addS hl => rintro ⟨t, rfl, h1⟩ ⟨u, rfl, h2⟩ p; exact SBL.add (fun t' k _ => Post.one p .refl (A.tok _) ⟨_, rfl, strOk_append h1 h2⟩) (le_line hl)
 | sub => rintro ⟨t, rfl⟩ ⟨u, rfl⟩ p; exact sub_int (Post.one p .refl (A.tok _) ⟨_, rfl⟩)
 | mul h1 h2 => rintro ⟨t, rfl⟩ ⟨u, rfl⟩ p; exact mul_int (Post.one p .refl (A.tok _) ⟨_, rfl⟩) (IntMulOk.of_right (intBits_le_64 h1 h2))
 | @mod i j h => rintro ⟨t, rfl⟩ ⟨u, rfl⟩ p; exact mod_int (Int.ne_of_gt h) (Int.fmod_eq_emod_of_nonneg i (Int.le_of_lt h) ▸ Post.one p .refl (A.tok _) ⟨_, rfl⟩)
 | @div i j h h2 =>
  rintro ⟨t, rfl⟩ ⟨u, rfl⟩ p
  refine floordiv_int (Int.ne_of_gt h) (Int.fdiv_eq_ediv_of_nonneg i (Int.le_of_lt h) ▸ Post.one p .refl (A.tok _) ⟨_, rfl⟩) (.inl (PyProof.noPylong_of_log2 ?_))
  exact Nat.lt_of_lt_of_le ((Nat.log2_lt (Int.natAbs_ne_zero.mpr (Int.ne_of_gt h))).mpr (Int.ofNat_lt.mp (Int.natAbs_of_nonneg (Int.le_of_lt h) ▸ h2))) (by decide)
 | pow h0 h1 h2 => rintro ⟨t, rfl⟩ ⟨u, rfl⟩ p; exact pow_int_small h0 (Int.le_trans h1 (by decide)) (Nat.lt_trans h2 (by decide)) (Post.one p .refl (A.tok _) ⟨_, rfl⟩)
 | @rep i vs e2 =>
  rintro ⟨q, e, rfl⟩ ⟨u, rfl⟩ p
  obtain ⟨_, _, n, vals, hl, _⟩ := A.of e e2
  obtain ⟨A', X, v⟩ := A.newList (n := 0) (vs := []) (vals := []) rfl (Nat.zero_le _) (h' := s.heap.push (listObj [] 0)) (fun b o e => Heap.get?_push_of_some _ e) (g9 _) (Heap.get?_push_size _ rfl) s.toks
  refine wpAny_binaryOp_repeat_ref (T := "list") (U := "int") (by decide) ⟨_, hl, rfl⟩ (fun s' => typeIs_int s' 0 u) noFill_list_mul F.fills_int_mul F.slot_int_rmul repeat_list F.slot_int_index.lookup
   (call_meets F.slot_int_rmul (typeIs_int s 0 u) F.entry_int_rmul (F.args_int_rmul_2 _ _) (int___rmul___int_list 0 u q.a vals.toArray n)
    ⟨hl, rfl, ⟨_, hl, rfl⟩, call_meets F.slot_list_mul ⟨_, hl, rfl⟩ F.entry_list_mul (F.args_list_mul_2 _ _) (AutoListH.list___mul___list_int_3 q.a vals.toArray n 0 u (by decide) (Nat.not_lt_zero _) (show ¬ Builtin.List.listTooLong 0 = true by decide)) ⟨hl, ?_⟩⟩)
  rw [show List.foldl (fun x1 x2 => x1 ++ x2) #[] (List.replicate (if vals.toArray.isEmpty = true then 0 else (0 : Int).toNat) vals.toArray) = #[] by split <;> rfl]
  exact Post.one p X A' v
end
theorem lookK_c (k : MV) (p : MV × MV) (r : List (MV × MV)) : lookK k (p :: r) = bif keq p.1 k then some p.2 else lookK k r := rfl
theorem putK_c (k v : MV) (p : MV × MV) (r : List (MV × MV)) : putK k v (p :: r) = bif keq p.1 k then (p.1, v) :: r else p :: putK k v r := rfl
theorem delK_c (k : MV) (p : MV × MV) (r : List (MV × MV)) : delK k (p :: r) = bif keq p.1 k then r else p :: delK k r := rfl
theorem lookN_c {α : Type} (n : Nat) (p : Nat × α) (r : List (Nat × α)) : lookN n (p :: r) = bif Nat.beq p.1 n then some p.2 else lookN n r := rfl
theorem putN_c (n : Nat) (v : MV) (p : Nat × MV) (r : List (Nat × MV)) : putN n v (p :: r) = bif Nat.beq p.1 n then (p.1, v) :: r else p :: putN n v r := rfl
section
variable {κ ω : Type} [DecidableEq κ] {R : MV × MV → κ × ω → Prop} {kv v : MV} {k : κ}
theorem kv_find (hm : ∀ f e, R f e → keq f.1 kv = decide (e.1 = k)) : ∀ {l : List (MV × MV)} {es : List (κ × ω)}, All2 R l es → match lookK kv l with
 | some v => ∃ f e, es.find? (fun e => decide (e.1 = k)) = some e ∧ R f e ∧ f.2 = v
 | none => es.find? (fun e => decide (e.1 = k)) = none := fun {l} => by
 induction l with
 | nil => rintro es rfl; rfl
 | cons f r ih =>
  rintro es ⟨e, s, rfl, h1, h2⟩
  have q := hm f e h1
  rw [lookK_c, List.find?_cons, ← q]
  cases keq f.1 kv with
  | true => exact ⟨f, e, rfl, h1, rfl⟩
  | false => exact ih h2
noncomputable def st (es : List (κ × ω)) (k : κ) (g : κ × ω → κ × ω) (new : κ × ω) : List (κ × ω) := if es.any (fun e => decide (e.1 = k)) = true then es.map (fun e => if e.1 = k then g e else e) else es ++ [new]
theorem st_same {g : κ × ω → κ × ω} : ∀ {es : List (κ × ω)}, k ∉ es.map (·.1) → es.map (fun e => if e.1 = k then g e else e) = es := fun {es} h => by
 conv => rhs; rw [← List.map_id es]
 exact List.map_congr_left fun e he => if_neg fun q => h (List.mem_map.mpr ⟨e, he, q⟩)
theorem kv_put (hm : ∀ f e, R f e → keq f.1 kv = decide (e.1 = k)) {g : κ × ω → κ × ω} {new : κ × ω} (hg : ∀ f e, R f e → e.1 = k → R (f.1, v) (g e)) (hn : R (kv, v) new) : ∀ {l : List (MV × MV)} {es : List (κ × ω)}, All2 R l es → (es.map (·.1)).Nodup → All2 R (putK kv v l) (st es k g new) := fun {l} => by
 induction l with
 | nil => rintro es rfl _; exact ⟨new, [], rfl, hn, rfl⟩
 | cons f r ih =>
  rintro es ⟨e, s, rfl, h1, h2⟩ hd
  have hd := List.nodup_cons.mp hd
  have q := hm f e h1
  have := ih h2 hd.2
  rw [putK_c]
  unfold st at this ⊢
  by_cases he : e.1 = k
  · rw [q, decide_eq_true he, List.any_cons, decide_eq_true he, Bool.true_or, if_pos rfl, List.map_cons, if_pos he, st_same (he ▸ hd.1)]
    exact ⟨_, _, rfl, hg f e h1 he, h2⟩
  · rw [q, decide_eq_false he, List.any_cons, decide_eq_false he, Bool.false_or, List.map_cons, if_neg he]
    split
    · rename_i ha; rw [if_pos ha] at this; exact ⟨_, _, rfl, h1, this⟩
    · rename_i ha; rw [if_neg ha] at this; exact ⟨_, _, rfl, h1, this⟩
theorem kv_del (hm : ∀ f e, R f e → keq f.1 kv = decide (e.1 = k)) : ∀ {l : List (MV × MV)} {es : List (κ × ω)}, All2 R l es → (es.map (·.1)).Nodup → All2 R (delK kv l) (es.filter fun e => decide (e.1 ≠ k)) := fun {l} => by
 induction l with
 | nil => rintro es rfl _; rfl
 | cons f r ih =>
  rintro es ⟨e, s, rfl, h1, h2⟩ hd
  have hd := List.nodup_cons.mp hd
  have q := hm f e h1
  rw [delK_c, List.filter_cons]
  by_cases he : e.1 = k
  · rw [q, decide_eq_true he, if_neg (by simp [he]), List.filter_eq_self (p := fun e => decide (e.1 ≠ k)) |>.mpr fun x hx => decide_eq_true fun (q : x.1 = k) => hd.1 (List.mem_map.mpr ⟨x, hx, q.trans he.symm⟩)]
    exact h2
  · rw [q, decide_eq_false he, if_pos (by simp [he])]
    exact ⟨_, _, rfl, h1, ih h2 hd.2⟩
end
theorem putK_len (k v : MV) : ∀ l : List (MV × MV), (putK k v l).length ≤ l.length + 1 := fun l => by
 induction l with
 | nil => exact Nat.le_refl _
 | cons p r ih => rw [putK_c]; cases keq p.1 k <;> first | exact Nat.succ_le_succ ih | exact Nat.le_succ _
theorem putK_ne (k v : MV) (l : List (MV × MV)) : putK k v l ≠ [] := by
 cases l with
 | nil => nofun
 | cons p r => rw [putK_c]; cases keq p.1 k <;> nofun
theorem delK_len (k : MV) : ∀ l : List (MV × MV), (delK k l).length ≤ l.length := fun l => by
 induction l with
 | nil => exact Nat.le_refl _
 | cons p r ih => rw [delK_c]; cases keq p.1 k <;> first | exact Nat.succ_le_succ ih | exact Nat.le_succ _
section
variable {c : Cx} {ρ : List Ad} {h : Heap} {kvs : List (MV × MV)} {rk : List (Str × Value)} {xs : List (List (Str ⊕ Bool) × Addr × Value)}
theorem keyS (k : Str) (f : MV × MV) (e : Str × Value) (q : f.1 = .str e.1 ∧ VR c ρ h f.2 e.2) : keq f.1 (.str k) = decide (e.1 = k) := q.1 ▸ rfl
theorem k3_inj {q q' : Str × Bool × Str} (e : k3 q = k3 q') : q = q' := by
 obtain ⟨x, b, y⟩ := q
 obtain ⟨x', b', y'⟩ := q'
 cases e; rfl
theorem keyT (q' : Str × Bool × Str) (f : MV × MV) (e : List (Str ⊕ Bool) × Addr × Value) (r : ∃ q, f.1 = tup3 q ∧ e.1 = k3 q ∧ VR c ρ h f.2 e.2.2) : keq f.1 (tup3 q') = decide (e.1 = k3 q') := by
 obtain ⟨q, h1, h2, _⟩ := r
 rw [h1, h2]
 refine Bool.eq_iff_iff.mpr ⟨fun e => decide_eq_true ?_, fun e => ?_⟩
 · obtain ⟨e1, e2⟩ := and_e (show (q.1 == q'.1 && (q.2.1 == q'.2.1 && q.2.2 == q'.2.2)) = true from e)
   obtain ⟨e2, e3⟩ := and_e e2
   unfold k3
   rw [eq_of_beq e1, eq_of_beq e2, eq_of_beq e3]
 · cases k3_inj (of_decide_eq_true e)
   show (q'.1 == q'.1 && (q'.2.1 == q'.2.1 && q'.2.2 == q'.2.2)) = true
   rw [beq_self_eq_true, beq_self_eq_true, beq_self_eq_true]; rfl
theorem kvs_look (f : KvS c ρ h kvs rk) (k : Str) : match lookK (.str k) kvs with
 | some v => ∃ y, valueAt rk k = some y ∧ VR c ρ h v y
 | none => valueAt rk k = none := by
 have := kv_find (keyS k) f
 cases e : lookK (.str k) kvs with
 | none => rw [e] at this; exact congrArg (Option.map _) this
 | some v => rw [e] at this; obtain ⟨g, w, h1, h2, rfl⟩ := this; exact ⟨w.2, congrArg (Option.map _) h1, h2.2⟩
theorem kvs_put (f : KvS c ρ h kvs rk) (hn : (rk.map (·.1)).Nodup) {k : Str} {v : MV} {y : Value} (r : VR c ρ h v y) : KvS c ρ h (putK (.str k) v kvs) (stored rk k y) :=
 kv_put (keyS k) (g := fun e => (e.1, y)) (new := (k, y)) (fun f e q _ => ⟨q.1, r⟩) ⟨rfl, r⟩ f hn
theorem kvs_del (f : KvS c ρ h kvs rk) (hn : (rk.map (·.1)).Nodup) {k : Str} : KvS c ρ h (delK (.str k) kvs) (without rk k) := kv_del (keyS k) f hn
theorem kvt_look (f : KvT c ρ h kvs xs) (q : Str × Bool × Str) : VR c ρ h ((lookK (tup3 q) kvs).getD .none) (((atKey xs (k3 q)).map (·.2)).getD .none) := by
 have := kv_find (keyT q) f
 unfold atKey
 cases e : lookK (tup3 q) kvs with
 | none => rw [e] at this; rw [this]; rfl
 | some v => rw [e] at this; obtain ⟨g, w, h1, ⟨_, _, _, h2⟩, rfl⟩ := this; rw [h1]; exact h2
theorem kvt_put (f : KvT c ρ h kvs xs) (hn : (xs.map (·.1)).Nodup) {q : Str × Bool × Str} {v : MV} {y : Value} (r : VR c ρ h v y) (a : Addr) : KvT c ρ h (putK (tup3 q) v kvs) (storedH xs (k3 q) a y) := by
 have := kv_put (keyT q) (v := v) (g := fun e => (e.1, e.2.1, y)) (new := (k3 q, a, y)) (fun f e p _ => p.imp fun _ p => ⟨p.1, p.2.1, r⟩) ⟨q, rfl, rfl, r⟩ f hn
 unfold st at this
 unfold storedH atKey
 rw [Option.isSome_map, List.isSome_find?]
 exact this
theorem dictOf_nodup {a : Addr} (d : h.DictOf c.sk a rk) : (rk.map (·.1)).Nodup := by obtain ⟨_, _, _, _, _, _, _, _, q⟩ := d; exact q
theorem dictOfH_nodup {a : Addr} (d : h.DictOfH c.tk a xs) : (xs.map (·.1)).Nodup := by obtain ⟨_, _, _, _, _, _, _, _, q⟩ := d; exact q
theorem dictOf_empty {a : Addr} (d : h.DictOf c.sk a []) : h.DictOfH c.tk a [] := by
 obtain ⟨o, es, ep, ho, hx, hd, _, hp, _⟩ := d
 exact ⟨o, es, ep, ho, hx, hd, List.eq_nil_of_length_eq_zero (Pairs.length hp), fun x hx => absurd hx List.not_mem_nil, .nil⟩
theorem is_str {x : Str} {y : Value} (r : VR c ρ h (.str x) y) : y.isStrOf x = true := by
 obtain ⟨t, rfl, _⟩ := r
 exact beq_self_eq_true x
theorem vr_k3 {q : Str × Bool × Str} {v : Value} (r : VR c ρ h (tup3 q) v) : ∃ a, v = .ref a ∧ (tupleKind (mixKind c.pr c.w)).is h (k3 q) a := by
 obtain ⟨a, o, vals, n, e, ⟨h1, h2, h3⟩, r⟩ := r
 refine ⟨a, e, o, _, n, h1, h2, h3, ?_⟩
 obtain ⟨_, _, rfl, r1, _, _, rfl, r2, _, _, rfl, r3, rfl⟩ := r
 exact .cons (is_str r1) (.cons (r2 ▸ beq_self_eq_true _) (.cons (is_str r3) .nil))
theorem fld_ne {n k : Nat} (hn : n < 95) (hk : k < 95) {v : Value} {t : Tok} (h : v = .str (nmOf k) t) (q : Nat.beq k n = false) : ¬ v.isStr (nmOf n) = true := h ▸ fun e => Nat.ne_of_beq_eq_false q (nmOf_inj hk hn (eq_of_beq (show (nmOf k == nmOf n) = true from e)))
theorem fld_get {n : Nat} (hn : n < 95) : ∀ {fs : List (Nat × MV)} {es : List DictEntry}, FldRel c ρ h fs es → match lookN n fs with
 | some v => ∃ y, getL (nmOf n) es = some (some y) ∧ VR c ρ h v y
 | none => getL (nmOf n) es = some none := fun {fs} => by
 induction fs with
 | nil => rintro es rfl; rfl
 | cons f r ih =>
  rintro es ⟨e, s, rfl, ⟨h0, t, h1, h2, h3⟩, h4⟩
  rw [lookN_c]
  cases q : Nat.beq f.1 n with
  | true =>
   refine ⟨e.val, ?_, h3⟩
   unfold getL
   rw [List.find?_cons_of_pos (by rw [h1, Nat.eq_of_beq_eq_true q]; exact beq_self_eq_true (α := Str) _)]
  | false =>
   have hne : ¬ e.key.isStr (nmOf n) = true := fld_ne hn h0 h1 q
   have e1 : getL (nmOf n) (e :: s) = getL (nmOf n) s := by
    unfold getL
    rw [List.find?_cons_of_neg (p := fun (x : DictEntry) => x.key.isStr (nmOf n)) hne, List.any_cons, DictEntry.refKey, h1]; rfl
   rw [e1]; exact ih h4
theorem fld_put {n : Nat} (hn : n < 95) {v : MV} {y : Value} (r : VR c ρ h v y) {t : Tok} : ∀ {fs : List (Nat × MV)} {es : List DictEntry}, FldRel c ρ h fs es → FldRel c ρ h (putN n v fs) (putL (nmOf n) (PyData.keyHash c.w.params (nmOf n)) (.str (nmOf n) t) y es) := fun {fs} => by
 induction fs with
 | nil => rintro es rfl; exact ⟨_, [], rfl, ⟨hn, t, rfl, rfl, r⟩, rfl⟩
 | cons f s ih =>
  rintro es ⟨e, es, rfl, ⟨h0, u, h1, h2, h3⟩, h4⟩
  rw [putN_c]
  cases q : Nat.beq f.1 n with
  | true =>
   have : e.key.isStr (nmOf n) = true := by rw [h1, Nat.eq_of_beq_eq_true q]; exact beq_self_eq_true (α := Str) _
   rw [putL, if_pos this]
   exact ⟨_, es, rfl, ⟨h0, u, h1, h2, r⟩, h4⟩
  | false =>
   rw [putL, if_neg (fld_ne hn h0 h1 q)]
   exact ⟨e, _, rfl, ⟨h0, u, h1, h2, h3⟩, ih h4⟩
end
theorem putN_len (n : Nat) (v : MV) : ∀ fs : List (Nat × MV), (putN n v fs).length ≤ fs.length + 1 := fun fs => by
 induction fs with
 | nil => exact Nat.le_refl _
 | cons p r ih => rw [putN_c]; cases Nat.beq p.1 n <;> first | exact Nat.succ_le_succ ih | exact Nat.le_succ _
theorem putN_keys {Q : Nat → Prop} (n : Nat) (v : MV) (hn : Q n) : ∀ fs : List (Nat × MV), (∀ x ∈ fs, Q x.1) → ∀ x ∈ putN n v fs, Q x.1 := fun fs => by
 induction fs with
 | nil => intro _ x hx; exact List.mem_singleton.mp hx ▸ hn
 | cons p r ih =>
  intro h x hx
  rw [putN_c] at hx
  cases q : Nat.beq p.1 n with
  | true => rw [q] at hx; exact (List.mem_cons.mp hx).elim (fun e => e ▸ h p (.head _)) fun hx => h x (.tail _ hx)
  | false => rw [q] at hx; exact (List.mem_cons.mp hx).elim (fun e => e ▸ h p (.head _)) fun hx => ih (fun y hy => h y (.tail _ hy)) x hx
theorem lookN_mem2 {α : Type} {n : Nat} {v : α} : ∀ {fs : List (Nat × α)}, lookN n fs = some v → ∃ x, x ∈ fs ∧ x.1 = n ∧ x.2 = v := fun {fs} => by
 induction fs with
 | nil => nofun
 | cons p r ih =>
  intro e
  rw [lookN_c] at e
  cases q : Nat.beq p.1 n with
  | true => rw [q] at e; exact ⟨p, .head _, Nat.eq_of_beq_eq_true q, Option.some.inj e⟩
  | false => rw [q] at e; obtain ⟨x, hx, h⟩ := ih e; exact ⟨x, .tail _ hx, h⟩
theorem lookN_mem {α : Type} {n : Nat} {v : α} {fs : List (Nat × α)} (h : lookN n fs = some v) : ∃ x ∈ fs, x.1 = n := (lookN_mem2 h).imp fun _ q => ⟨q.1, q.2.1⟩
theorem vr_handed {c : Cx} {ρ : List Ad} {h : Heap} {v : MV} {y : Value} (x : VR c ρ h v y) : handedIn y = true := by
 cases v with
 | none => cases x; rfl
 | bool => cases x; rfl
 | fn => cases x.1; rfl
 | int => obtain ⟨_, rfl⟩ := x; rfl
 | str => obtain ⟨_, rfl, _⟩ := x; rfl
 | tup => obtain ⟨_, _, _, _, rfl, _⟩ := x; rfl
 | scr => obtain ⟨_, _, _, _, rfl, _⟩ := x; rfl
 | ref => obtain ⟨_, _, rfl⟩ := x; rfl
section
open PySem PySem.W PyProof.Rows PySem.Builtin PySem.Builtin.ObjectAttr
section
variable {prog : Program} {w : World} {A : Around} {E : Value → Shared → Prop} {s : Shared} {K : Frag} {C x dx : Addr} {ox od : Obj} {es : List DictEntry} {n : Nat} {name : Str} {v : Value}
theorem set_fld {Q : Unit → Shared → Prop} (X : K.In s.heap) (I : InstAt s.heap x ox C (some (dictOf es n))) (hd : ox.dict = some dx) (F : ClsFld K C) (ht : takerIn K C name = some none)
 (hl : (getL name es).isSome = true) (hz : (putL name (PyData.keyHash w.params name) (.str name (s.toks + 1)) v es).length ≤ 1000)
 (h : Q () { s with heap := s.heap.update dx (Obj.putName name (PyData.keyHash w.params name) (.str name (s.toks + 1)) v), toks := s.toks + 2 }) : wpAny (model prog w) A (setAttr (.ref x) name v) Q E s := by
 refine set_plain X I F.sa ?_
 obtain ⟨cd, hc, ne, ho, hr⟩ := F.mro
 have SF := PySem.F.store_object
 have sub : Looks (model prog w) s.heap (isInstance (.ref x) (.type "object")) true := I.type.andThen (looks_mroIn X (by unfold mroIn; rw [hc, Option.bind_some, if_neg (by rw [ne]; decide), ho]))
 have X' : K.In ({ s with toks := s.toks + 1 } : Shared).heap := X
 refine codeAny_call_builtin SF.slot.plain SF.entry (@check_slot (model prog w) _ _ { s with toks := s.toks + 1 } "object.__setattr__" "object" "__setattr__" (.ref x) [.str name s.toks, v] [] _ SF.kind SF.split sub (SF.args (.ref x) (.str name s.toks) v) ?_)
 obtain ⟨attr, ha, hr'⟩ := Option.bind_eq_some_iff.mp ht
 have hm : Looks (model prog w) s.heap (mroOf (.ref C)) cd.mro := (looks_clsIn X hc).andThen .now
 have L3 : Looks (model prog w) s.heap (storeTaker? attr) none := by
  cases attr with
  | none => exact .now
  | some a =>
   obtain ⟨b, hb, hb'⟩ := Option.map_eq_some_iff.mp hr'
   refine (looks_takesIn X hb).andThen ?_
   cases b <;> first | exact .now | cases hb'
 obtain ⟨hp, g, d, t, os⟩ := s
 rw [osa_eq, refuse_eq]
 refine wpAny_bind (wpAny_bind (I.type.at (wpAny_bind (hm.at ?_))))
 rw [hr]
 refine wpAny_pure (wpAny_bind (I.type.at (wpAny_bind ((looks_findIn X ha).at (wpAny_bind (L3.at ?_))))))
 obtain ⟨hx, hcl, hn, hdd⟩ := I
 obtain ⟨oc, odi, oda, osl⟩ := ox
 dsimp only at hcl hd hdd
 subst hcl hd
 dsimp only at hdd
 obtain ⟨cd', hc', hd'⟩ := any_some F.dict
 have hz' : (dictOf es n).data = .dict es.toArray n := rfl
 refine wpAny_bind (wpAny_pure (wpAny_bind (wpAny_bind (wpAny_loadPart hx (wpAny_bind ((looks_clsIn X hc').at ?_))))))
 rw [hd']
 refine wpAny_pure (a := some dx) (wpAny_bind (wpAny_pure (wpAny_bind ?_)))
 unfold nsSet
 refine wpAny_bind (wpAny_bind (wpAny_askSetting (wpAny_pure (wpAny_bind (wpAny_mkText (wpAny_bind (wpAny_loadPart hdd ?_)))))))
 have hq := putName_dict name (PyData.keyHash w.params name) (.str name (t + 1)) v es n
 have hb : (!es.toArray.any (·.key.isStr name) && es.toArray.any (·.refKey)) = false := by
  rw [← Array.any_toList, ← Array.any_toList]
  unfold getL at hl
  split at hl
  · rename_i en he
    rw [List.any_eq_true.mpr ⟨en, List.mem_of_find?_eq_some he, List.find?_some he⟩]; rfl
  · split at hl
    · cases hl
    · rename_i z; rw [Bool.not_eq_true] at z; rw [z, Bool.and_false]
 rw [hz']
 dsimp only
 rw [aRefKeyMayBeTheName_at, hb]
 refine wpAny_updatePart hdd ?_
 have hfr : (Obj.putName name (PyData.keyHash w.params name) (.str name (t + 1)) v (dictOf es n)).isFreed = false := by rw [hq]; rfl
 have ge : (hp.update dx (Obj.putName name (PyData.keyHash w.params name) (.str name (t + 1)) v)).get? dx = some (dictOf (putL name (PyData.keyHash w.params name) (.str name (t + 1)) v es) (PySem.W.putN name es n)) := by
  rw [← hq]; exact Heap.get?_update_self _ hdd hfr
 refine wpAny_bind (wpAny_lookBehind ge (pastItsLine_dict (by rw [List.size_toArray, sizeLine_eq]; dsimp only at hz; lia)) ?_)
 exact wpAny_pure h
theorem get_exc {expr : Bool} {Q : Value → Shared → Prop} {v : Value} (X : K.In s.heap) (I : InstAt s.heap x ox C (some od)) (hga : findIn K (.ref C) "__getattribute__" = some (some (.builtin "BaseException.__getattribute__"))) (F : ClsFld K C)
 (hsub : mroIn K C (.type "BaseException") = some true) (hf : findObj K C (some od) name = some (.value v)) (hh : handedIn v = true) (h : Q v { s with toks := s.toks + 1 }) : wpAny (model prog w) A (getAttr (.ref x) name expr) Q E s := by
 obtain ⟨hp, g, d, t, os⟩ := s
 have L0 := I.type (M := model prog w)
 have L1 := looks_findIn (M := model prog w) X hga
 have L2 := looks_find (M := model prog w) X I hf
 have L3 := looks_findIn (M := model prog w) X F.ga
 unfold getAttr getAttrBy
 refine wpAny_bind (wpAny_mkText (wpAny_holding (wpAny_bind (L0.at (wpAny_bind (L1.at ?_))))))
 show wpAny _ _ (getAttrByItsOwn _ _ _ _ _ _) _ _ _
 unfold getAttrByItsOwn
 refine wpAny_bind ?_
 show wpAny _ _ (typeLookup (.ref C) "__getattr__") _ _ _
 refine L3.at (wpAny_bind (wpAny_attempt (wpAny_holding ?_)))
 unfold callGetattribute
 rw [if_neg (by cases expr <;> decide)]
 unfold boundAndCalled
 rw [PySem.F.attr_Exception.ga.bind]
 refine wpAny_bind (wpAny_pure ?_)
 refine wpAny_call (codeAny_call_builtin PySem.F.attr_Exception.ga.plain PySem.F.entry_bexc_ga ?_)
 have hk : builtinKind "BaseException.__getattribute__" = some .slot := by decide +kernel
 have hsplit : splitId "BaseException.__getattribute__" = some ("BaseException", "__getattribute__") := by decide +kernel
 have sub : Looks (model prog w) hp (isInstance (.ref x) (.type "BaseException")) true := L0.andThen (looks_mroIn X hsub)
 refine @check_slot (model prog w) _ _ ⟨hp, g, d, t + 1, os⟩ "BaseException.__getattribute__" "BaseException" "__getattribute__" (.ref x) [.str name t] [] _ hk hsplit sub (PySem.F.args_bexc_ga _ _) ?_
 refine wpAny_bind (wpAny_pure (wpAny_bind (wpAny_pure (wpAny_bind (L0.at (wpAny_bind (L2.at ?_)))))))
 refine wpAny_pure ?_
 show wpAny _ _ (handedOut v) _ _ _
 rw [handedOut_of hh]; exact wpAny_pure h
end
section
variable {prog : Program} {w : World} {A : Around} {E : Value → Shared → Prop} {s : Shared}
theorem set_item_at {l : Addr} {items : Array Value} {n : Nat} {k : Int} {t : Tok} {v : Value} {Q : Unit → Shared → Prop} (ho : s.heap.get? l = some ⟨.type "list", none, .seq items n, #[]⟩)
 (h0 : 0 ≤ k) (hfit : k < 2 ^ 63) (hn : k < items.size)
 (hQ : ∀ h' n', h'.get? l = some ⟨.type "list", none, .seq (items.setIfInBounds k.toNat v) n', #[]⟩ → (∀ b o, b ≠ l → s.heap.get? b = some o → h'.get? b = some o) → Q () { s with heap := h' }) :
 wpAny (model prog w) A (setItem (.ref l) (.int k t) v) Q E s := by
 have hl : s.heap.IsList l items := ⟨_, ho, rfl, _, rfl⟩
 have hc : Obj.cls ⟨.type "list", none, .seq items n, #[]⟩ = .type "list" := rfl
 have hd : Obj.data ⟨.type "list", none, .seq items n, #[]⟩ = .seq items n := rfl
 unfold setItem
 try with_reducible refine wpAny_holding ?_
 first | refine wpAny_bind (wpAny_pure ?_) | skip
 refine wpAny_bind (wpAny_sequenceKey hl.typeIs (by decide) ?_)
 refine wpAny_bind (wpAny_callSpecial?_slot (name := Str.ofString "__setitem__") hl.typeIs slot_list_setitem
  (wpAny_call_entry slot_list_setitem hl.typeIs entry_list_setitem ?_ (args_list_setitem _ _ _)))
 show wpAny _ _ (Builtin.List.listSubscript? (.int k t) >>= _) _ _ s
 refine wpAny_bind (wpAny_listSubscript_int (fitsIndex_of h0 hfit) ?_)
 clear hfit
 obtain ⟨j, rfl⟩ := Int.eq_ofNat_of_zero_le h0
 have hj : j < items.size := by lia
 have hx' : items[j]? = some items[j] := Array.getElem?_eq_getElem hj
 show wpAny _ _ ((seqItemAt l j >>= fun r => pure (r.map (j, ·))) >>= _) _ _ s
 refine wpAny_bind (wpAny_bind (wpAny_seqItemAt ho hd (wpAny_pure ?_)))
 rw [hx']
 show wpAny _ _ (setSeqItemAt l j v >>= _) _ _ s
 have hfin : (s.heap.update l (Obj.mapSeq (·.setIfInBounds j v))).get? l = some ⟨.type "list", none,   .seq (items.setIfInBounds j v) (if (items.setIfInBounds j v).size == items.size then n else n + 1), #[]⟩ :=
  Heap.get?_update_self _ ho rfl
 refine wpAny_bind (wpAny_setSeqItemAt ho hd ?_)
 have key := hQ _ _ hfin fun b o hb e => by rw [Heap.get?_update_ne _ _ _ _ hb]; exact e
 first
  | exact wpAny_bind (wpAny_pure (wpAny_pure ⟨.none, rfl, wpAny_pure key⟩))
  | exact wpAny_pure ⟨.none, rfl, wpAny_pure key⟩
end
section
variable {prog : Program} {w : World} {A : Around} {E : Value → Shared → Prop} {s : Shared} {K : Frag} {C x : Addr} {name : Str} {v : Value}
theorem set_fld0 {xs : Array Value} {Q : Unit → Shared → Prop} (X : K.In s.heap) (hx : s.heap.get? x = some ⟨.ref C, none, .fields xs, #[]⟩) (F : ClsFld K C) (ht : takerIn K C name = some none)
 (h : ∀ h' n, (∀ b o, b ≠ x → s.heap.get? b = some o → h'.get? b = some o) → h'.get? x = some ⟨.ref C, some s.heap.objs.size, .fields xs, #[]⟩ → h'.get? s.heap.objs.size = some (dictOf [⟨PyData.keyHash w.params name, .str name (s.toks + 1), v⟩] n) →
  Q () { s with heap := h', toks := s.toks + 2 }) : wpAny (model prog w) A (setAttr (.ref x) name v) Q E s := by
 have I : InstAt s.heap x ⟨.ref C, none, .fields xs, #[]⟩ C none := ⟨hx, rfl, rfl, trivial⟩
 refine set_plain X I F.sa ?_
 obtain ⟨cd, hc, ne, ho, hr⟩ := F.mro
 have SF := PySem.F.store_object
 have sub : Looks (model prog w) s.heap (isInstance (.ref x) (.type "object")) true := I.type.andThen (looks_mroIn X (by unfold mroIn; rw [hc, Option.bind_some, if_neg (by rw [ne]; decide), ho]))
 have X' : K.In ({ s with toks := s.toks + 1 } : Shared).heap := X
 refine codeAny_call_builtin SF.slot.plain SF.entry (@check_slot (model prog w) _ _ { s with toks := s.toks + 1 } "object.__setattr__" "object" "__setattr__" (.ref x) [.str name s.toks, v] [] _ SF.kind SF.split sub (SF.args (.ref x) (.str name s.toks) v) ?_)
 obtain ⟨attr, ha, hr'⟩ := Option.bind_eq_some_iff.mp ht
 have hm : Looks (model prog w) s.heap (mroOf (.ref C)) cd.mro := (looks_clsIn X hc).andThen .now
 have L3 : Looks (model prog w) s.heap (storeTaker? attr) none := by
  cases attr with
  | none => exact .now
  | some a =>
   obtain ⟨b, hb, hb'⟩ := Option.map_eq_some_iff.mp hr'
   refine (looks_takesIn X hb).andThen ?_
   cases b <;> first | exact .now | cases hb'
 obtain ⟨hp, g, d, t, os⟩ := s
 rw [osa_eq, refuse_eq]
 refine wpAny_bind (wpAny_bind (I.type.at (wpAny_bind (hm.at ?_))))
 rw [hr]
 refine wpAny_pure (wpAny_bind (I.type.at (wpAny_bind ((looks_findIn X ha).at (wpAny_bind (L3.at ?_))))))
 obtain ⟨cd', hc', hd'⟩ := any_some F.dict
 refine wpAny_bind (wpAny_pure (wpAny_bind (wpAny_bind (wpAny_loadPart hx (wpAny_bind ((looks_clsIn X hc').at ?_))))))
 rw [hd']
 have k1 : ∀ b o, hp.get? b = some o → (hp.push emptyDict).get? b = some o := fun b o e => Heap.get?_push_of_some _ e
 have hx1 := k1 _ _ hx
 have hne : hp.objs.size ≠ x := Nat.ne_of_gt (Heap.lt_size hx)
 have hD1 : (hp.push emptyDict).get? hp.objs.size = some (dictOf [] 0) := Heap.get?_push_size _ rfl
 have hx2 : ((hp.push emptyDict).update x fun o => { o with dict := some hp.objs.size }).get? x = some ⟨.ref C, some hp.objs.size, .fields xs, #[]⟩ := Heap.get?_update_self _ hx1 rfl
 have hD2 : ((hp.push emptyDict).update x fun o => { o with dict := some hp.objs.size }).get? hp.objs.size = some (dictOf [] 0) := by rw [Heap.get?_update_other _ _ (Ne.symm hne)]; exact hD1
 refine wpAny_bind (wpAny_bind (wpAny_alloc (wpAny_pure (wpAny_bind (wpAny_update hx1 ?_)))))
 refine wpAny_of_eq (a := some hp.objs.size) (by rfl) ?_
 show wpAny _ _ (storeInDict hp.objs.size (.str name t) name v) _ _ _
 generalize hh2 : ((hp.push emptyDict).update x fun o => { o with dict := some hp.objs.size }) = hp2 at hx2 hD2
 have hgo : hp2 = (hp.push { cls := .type "dict", data := .dict #[] }).update x (fun o => { cls := o.cls, dict := some hp.objs.size, data := o.data, slots := o.slots }) := hh2.symm
 refine wpAny_bind (wpAny_pure (wpAny_bind ?_))
 unfold nsSet
 refine wpAny_bind (wpAny_bind (wpAny_askSetting (wpAny_pure (wpAny_bind (wpAny_mkText (wpAny_bind (wpAny_loadPart hD2 ?_)))))))
 have hq := putName_dict name (PyData.keyHash w.params name) (.str name (t + 1)) v [] 0
 refine wpAny_updatePart hD2 ?_
 have hfr : (Obj.putName name (PyData.keyHash w.params name) (.str name (t + 1)) v (dictOf [] 0)).isFreed = false := by rw [hq]; rfl
 have ge : (hp2.update hp.objs.size (Obj.putName name (PyData.keyHash w.params name) (.str name (t + 1)) v)).get? hp.objs.size = some (dictOf [⟨PyData.keyHash w.params name, .str name (t + 1), v⟩] (PySem.W.putN name [] 0)) := by
  rw [Heap.get?_update_self _ hD2 hfr, hq]; rfl
 refine wpAny_bind (wpAny_lookBehind ge (pastItsLine_dict (by rw [List.size_toArray, sizeLine_eq]; show 1 ≤ _; decide)) ?_)
 refine wpAny_pure (h _ (PySem.W.putN name [] 0) (fun b o hb e => ?_) ?_ ge)
 · rw [Heap.get?_update_ne _ _ _ _ (Nat.ne_of_lt (Heap.lt_size e)), hgo, Heap.get?_update_ne _ _ _ _ hb]
   exact k1 b o e
 · rw [Heap.get?_update_ne _ _ _ _ (Ne.symm hne)]; exact hx2
end
end
theorem instAt_i {h : Heap} {a d C : Addr} {es : List DictEntry} {n : Nat} (h1 : h.get? a = some (instObj C d)) (h2 : h.get? d = some (dictOf es n)) : InstAt h a (instObj C d) C (some (dictOf es n)) := ⟨h1, rfl, rfl, h2⟩
theorem instAt_x {h : Heap} {a d C : Addr} {es : List DictEntry} {n : Nat} {xs : Array Value} (h1 : h.get? a = some ⟨.ref C, some d, .fields xs, #[]⟩) (h2 : h.get? d = some (dictOf es n)) : InstAt h a ⟨.ref C, some d, .fields xs, #[]⟩ C (some (dictOf es n)) := ⟨h1, rfl, rfl, h2⟩
theorem sameBut_keep {d : Addr} {h h' : Heap} (hs : Heap.SameBut d h h') : ∀ b o, b ≠ d → h.get? b = some o → h'.get? b = some o := fun b o hb e => (hs.2 b hb).trans e
noncomputable def plainIdx (e : Expr) : Prop := ∀ o i, subscripted e false o i = operate [o, i] (getItem o i)
theorem seqIdx_pos {i : Int} {n : Nat} (h : 0 ≤ i) (h2 : i.toNat < n) : seqIndex? i n = some i.toNat := by
 have e : (if i < 0 then i + (n : Int) else i) = i := if_neg (Int.not_lt.mpr h)
 unfold seqIndex?
 simp only [e]
 rw [if_pos (by simp; lia)]
theorem seqIdx_neg {i : Int} {n : Nat} (h : i < 0) (h2 : -i ≤ n) : seqIndex? i n = some (i + n).toNat := by
 have e : (if i < 0 then i + (n : Int) else i) = i + n := if_pos h
 unfold seqIndex?
 simp only [e]
 rw [if_pos (by simp; lia)]
theorem idx_seq {vs : List MV} {i : Int} {v : MV} (e : idx vs i = some v) : ∃ j, seqIndex? i vs.length = some j ∧ vs[j]? = some v ∧ -(2 ^ 63) < i ∧ i < 2 ^ 63 ∧ (0 ≤ i ∧ j = i.toNat ∨ i < 0 ∧ -i ≤ vs.length ∧ j = (i + vs.length).toNat) := by
 unfold idx at e
 have hl : (LIM : Int) ≤ 2 ^ 62 := by decide
 split at e
 · rename_i h
   split at e
   · rename_i h2
     exact ⟨_, seqIdx_pos h (List.getElem?_eq_some_iff.mp e).1, e, by lia, by lia, .inl ⟨h, rfl⟩⟩
   · cases e
 · rename_i h
   split at e
   · rename_i h2
     exact ⟨_, seqIdx_neg (Int.not_le.mp h) h2.1, e, by lia, by lia, .inr ⟨Int.not_le.mp h, h2.1, rfl⟩⟩
   · cases e
theorem ints_get {vals : List Value} {xs : List Int} (h : IntsAre vals xs) : ∀ {j : Nat} {v : Int}, xs[j]? = some v → ∃ t, vals[j]? = some (.int v t) := by
 induction h with
 | nil => nofun
 | cons m t _ ih =>
  intro j v q
  cases j with
  | zero => cases q; exact ⟨t, rfl⟩
  | succ j => exact ih q
section
variable {P : Pt} {ρ : List Ad} {σ : St} {s : Shared} {E : Value → Shared → Prop} {x y z : Value} {a b k : MV} {r : Rs (List MV)}
theorem snd_getA (A : At P ρ σ s) {n : Nat} (hn : n < 95) {expr : Bool} {Q : Value → Shared → Prop} : PAttr n σ a r → VR P.c ρ s.heap a x → PostR P (V1 P) ρ s.heap Q E r → wpAny P.M P.A (getAttr x (nmOf n) expr) Q E s := by
 intro h
 cases h with
 | inst e2 hw =>
  rintro ⟨p, e, rfl⟩ q
  obtain ⟨_, d, _, hk, h1, es, m, h2, f, _, hm⟩ := A.of e e2
  have g := fld_get hn f
  rw [hw] at g
  obtain ⟨y, g1, g2⟩ := g
  obtain ⟨z, hz, hzn⟩ := lookN_mem hw
  exact get_value A.K (instAt_i h1 h2) (A.ok.top.gaI _ hk) (findObj_own (A.ok.top.fld _ _ hk).dict (A.ok.top.nofind _ _ n hk hn (hzn ▸ hm z hz)) rfl ((lookIn_dict ..).trans g1)) (vr_handed g2) (Post.one q .refl (A.tok _) g2)
 | exc e2 hw =>
  rintro ⟨p, e, rfl⟩ q
  obtain ⟨_, _, ⟨h1, _⟩, ⟨_, rfl⟩ | ⟨d, hd, es, m, h2, f, _, hm⟩⟩ := A.of e e2
  · cases hw
  have g := fld_get hn f
  rw [hw] at g
  obtain ⟨y, g1, g2⟩ := g
  obtain ⟨z, hz, hzn⟩ := lookN_mem hw
  rw [hd] at h1
  exact get_exc A.K (instAt_x h1 h2) A.ok.top.gaX (A.ok.top.fld excCl true rfl) A.ok.top.subX (findObj_own (A.ok.top.fld excCl true rfl).dict (A.ok.top.nofind excCl true n rfl hn (hzn ▸ hm z hz)) rfl ((lookIn_dict ..).trans g1)) (vr_handed g2) (Post.one q .refl (A.tok _) g2)
theorem set_at (A : At P ρ σ s) {n cl : Nat} (hn : n < 95) {bb : Bool} (hk : kind cl = some bb) (hm : meths cl n = none) {aa dd : Addr} {ox : Obj} {fs : List (Nat × MV)} (I : ∀ es m, s.heap.get? dd = some (dictOf es m) → InstAt s.heap aa ox (P.c.D.cl cl) (some (dictOf es m))) (hd : ox.dict = some dd) (f : FldAt P.c ρ s.heap cl dd fs) (hl : fs.length < 500) (vb : VR P.c ρ s.heap b y) {Q : Unit → Shared → Prop}
 (k : ∀ h', (∀ b o, b ≠ dd → s.heap.get? b = some o → h'.get? b = some o) → (Tst s.heap h' → FldAt P.c ρ h' cl dd (putN n b fs)) → Q () { s with heap := h', toks := s.toks + 2 }) : wpAny P.M P.A (setAttr (.ref aa) (nmOf n) y) Q E s := by
 obtain ⟨es, m, h2, f, _, hm'⟩ := f
 have hno := A.ok.top.nofind cl bb n hk hn hm
 have fp := fld_put (t := s.toks + 1) hn vb f
 have fl := fp.len
 have pl := putN_len n b fs
 have gl : (getL (nmOf n) es).isSome = true := by
  have g := fld_get hn f
  cases q : lookN n fs with
  | none => rw [q] at g; rw [g]; rfl
  | some v => rw [q] at g; obtain ⟨_, g, _⟩ := g; rw [g]; rfl
 refine set_fld A.K (I es m h2) hd (A.ok.top.fld cl bb hk) (by unfold takerIn; rw [hno]; rfl) gl (by lia) (k _ (fun b o hb e => (Heap.get?_update_ne _ _ _ _ hb).trans e) fun ht => ⟨_, PySem.W.putN (nmOf n) es m, ?_, fp.mono fun _ _ => And.imp_right <| Exists.imp fun _ => And.imp_right <| And.imp_right <| VR.mono (.refl _) ht, Nat.le_trans pl hl, putN_keys (Q := fun k => meths cl k = none) n b hm fs hm'⟩)
 rw [← putName_dict]
 exact Heap.get?_update_self _ h2 (by rw [putName_dict]; rfl)
theorem snd_setA (A : At P ρ σ s) {n : Nat} (hn : n < 95) {Q : Unit → Shared → Prop} : PSetA n σ b a r → VR P.c ρ s.heap b y → VR P.c ρ s.heap a x → PostR P (fun _ _ _ _ => True) ρ s.heap Q E r → wpAny P.M P.A (setAttr x (nmOf n) y) Q E s := by
 intro h
 cases h with
 | @inst i c fs _ e2 hl hm =>
  rintro vb ⟨p, e, rfl⟩ q
  obtain ⟨hx, d, hd, hk, h1, f⟩ := A.of e e2
  refine set_at A hn hk hm (fun es m h2 => instAt_i h1 h2) rfl f hl vb fun h' K g => ?_
  have hne : p.a ≠ d := fun q => by obtain ⟨_, _, h2, _⟩ := f; exact nomatch (q ▸ h1).symm.trans h2
  obtain ⟨A', X⟩ := A.put (s' := { s with heap := h', toks := s.toks + 2 }) (o' := .inst c (putN n b fs)) e (flat1_d hd) K (fun q => nomatch hx.symm.trans q) fun ht _ => ⟨hx, d, hd, hk, K _ _ hne h1, g ht⟩
  exact q _ _ _ X A' trivial
 | @exc i fs _ e2 hl hm =>
  rintro vb ⟨p, e, rfl⟩ q
  obtain ⟨hx, xs, ⟨h1, hsz, tb, cx, t1, t2, c1, c2⟩, ⟨hd, rfl⟩ | ⟨d, hd, f⟩⟩ := A.of e e2
  · rw [hd] at h1
    refine set_fld0 A.K h1 (A.ok.top.fld excCl true rfl) (by unfold takerIn; rw [A.ok.top.nofind excCl true n rfl hn hm]; rfl) fun h' m k g1 g2 => ?_
    obtain ⟨A', X⟩ := A.grant (s' := { s with heap := h', toks := s.toks + 2 }) (fs := [(n, b)]) e hx hd (g9 _) h1 g1 k fun TB T R => ⟨hx, xs, ⟨g1, hsz, tb, cx, t1, t2.keeps TB, c1, c2.pre R⟩, .inr ⟨_, rfl, _, m, g2, ⟨_, [], rfl, ⟨hn, _, rfl, rfl, vb.mono R T⟩, rfl⟩, Nat.le_of_ble_eq_true rfl, fun y hy => List.mem_singleton.mp hy ▸ hm⟩⟩
    exact q _ _ _ X A' trivial
  rw [hd] at h1
  refine set_at A hn (bb := true) rfl hm (fun es m h2 => instAt_x h1 h2) rfl f hl vb fun h' K g => ?_
  have hne : p.a ≠ d := fun q => by obtain ⟨_, _, h2, _⟩ := f; exact nomatch (q ▸ h1).symm.trans h2
  obtain ⟨A', X⟩ := A.put (s' := { s with heap := h', toks := s.toks + 2 }) (o' := .exc (putN n b fs)) e (flat1_d hd) K (fun _ => hne.symm) fun ht htb => ⟨hx, xs, ⟨hd ▸ K _ _ hne h1, hsz, tb, cx, t1, t2.keeps htb, c1, c2⟩, .inr ⟨d, hd, g ht⟩⟩
  exact q _ _ _ X A' trivial
theorem At.sysm (A : At P ρ σ s) {i : Nat} {p : Ad} (e : ρ[i]? = some p) : (p.a == sysModules) = false := by
 obtain ⟨o, ho⟩ := A.ok.top.sysm
 exact beq_eq_false_iff_ne.mpr fun q => nomatch (q ▸ A.fresh _ (flat_mem e (.head _))).symm.trans ho
theorem At.dictS (A : At P ρ σ s) {i : Nat} {p : Ad} {kvs : List (MV × MV)} (e : ρ[i]? = some p) (e2 : σ[i]? = some (.dict kvs)) (hk : kvs.all (fun p => isStrK p.1) = true) : ∃ rk, s.heap.DictOf P.c.sk p.a rk ∧ KvS P.c ρ s.heap kvs rk ∧ kvs.length ≤ LIM ∧ p.x = false ∧ p.d = none := by
 obtain ⟨hx, hd, hl, ⟨rk, h1, h2⟩ | ⟨hne, xs, h1, h2⟩⟩ := A.of e e2
 · exact ⟨rk, h1, h2, hl, hx, hd⟩
 · cases kvs with
   | nil => exact absurd rfl hne
   | cons f r =>
    obtain ⟨_, _, _, ⟨q, h3, _⟩, _⟩ := h2
    have := List.all_eq_true.mp hk f (.head _)
    rw [h3] at this; cases this
theorem At.dictT (A : At P ρ σ s) {i : Nat} {p : Ad} {kvs : List (MV × MV)} (e : ρ[i]? = some p) (e2 : σ[i]? = some (.dict kvs)) (hk : kvs.all (fun p => isTupK p.1) = true) : ∃ xs, s.heap.DictOfH P.c.tk p.a xs ∧ KvT P.c ρ s.heap kvs xs ∧ kvs.length ≤ LIM ∧ p.x = false ∧ p.d = none := by
 obtain ⟨hx, hd, hl, ⟨rk, h1, h2⟩ | ⟨hne, xs, h1, h2⟩⟩ := A.of e e2
 · cases kvs with
   | nil => cases h2; exact ⟨[], dictOf_empty h1, rfl, hl, hx, hd⟩
   | cons f r =>
    obtain ⟨_, _, _, ⟨h3, _⟩, _⟩ := h2
    have := List.all_eq_true.mp hk f (.head _)
    unfold isTupK at this
    rw [h3] at this; cases this
 · exact ⟨xs, h1, h2, hl, hx, hd⟩
theorem snd_sub (A : At P ρ σ s) {ve se : Expr} (hs : plainIdx se) {Q : Value → Shared → Prop} : PSub σ a k r → VR P.c ρ s.heap a x → VR P.c ρ s.heap k y → PostR P (V1 P) ρ s.heap Q E r → wpAny P.M P.A (subscriptTail ve se x y) Q E s := by
 intro h
 cases h with
 | tup hi =>
  rintro ⟨b, o, vals, n, rfl, ⟨h1, h2, h3⟩, h4⟩ ⟨t, rfl⟩ p
  obtain ⟨j, j1, j2, j3, j4, _⟩ := idx_seq hi
  obtain ⟨z, g1, g2⟩ := (VRs.all ▸ h4).get j2
  exact item_tupleT ⟨_, h1, h2, _, h3⟩ (Int.le_of_lt j3) j4 (j := j) (h4.len ▸ j1) g1 (Post.one p .refl A g2) (hs _ _)
 | @scr xs i v h0 h1 hi =>
  rintro ⟨b, o, vals, n, rfl, k1, k2, k3, k4⟩ ⟨t, rfl⟩ p
  obtain ⟨u, hu⟩ := ints_get k4 hi
  have hl : s.heap.IsList b vals.toArray := ⟨_, A.base _ _ k1, k2, _, k3⟩
  exact tail_any hl.typeIs slot_list_getitem.lookup (wpAny_getItem_list hl h0 (Int.lt_trans h1 (by decide)) (List.getElem?_toArray.trans hu) (Post.one p .refl A ⟨u, rfl⟩)) (hs _ _)
 | list e2 hi =>
  rintro ⟨q, e, rfl⟩ ⟨t, rfl⟩ p
  obtain ⟨vals, hl, hv, _, hlen⟩ := A.isList e e2
  obtain ⟨j, j1, j2, j3, j4, j5⟩ := idx_seq hi
  obtain ⟨z, g1, g2⟩ := (VRs.all ▸ hv).get j2
  have := Post.one p .refl A g2
  rcases j5 with ⟨h0, rfl⟩ | ⟨h0, hh, rfl⟩
  · exact tail_any hl.typeIs slot_list_getitem.lookup (wpAny_getItem_list hl h0 j4 (List.getElem?_toArray.trans g1) this) (hs _ _)
  · exact tail_any hl.typeIs slot_list_getitem.lookup (wpAny_getItem_list_neg hl h0 (by simp; lia) (Int.le_of_lt j3) (by simpa [hlen] using g1) this) (hs _ _)
 | @dict d kvs kk w e2 hk hl =>
  rintro ⟨q, e, rfl⟩ ⟨t, rfl, _⟩ p
  obtain ⟨rk, h1, h2, _⟩ := A.dictS e e2 hk
  have g := kvs_look h2 kk
  rw [hl] at g
  obtain ⟨z, g1, g2⟩ := g
  exact tail_any h1.typeIs slot_dict_getitem.lookup (wpAny_getItem_of (strKind_is P.c.pr P.c.w kk t) h1.mapOf g1 (Post.one p .refl (A.tok _) g2)) (hs _ _)
theorem At.room (A : At P ρ σ s) : (tupleKind (mixKind P.c.pr P.c.w)).room P.A.in1 := tupleKind_room_in1 (by have := A.ok.units; lia)
theorem At.putD (A : At P ρ σ s) {i : Nat} {p : Ad} {o' : MO} {h' : Heap} {t : Nat} (e : ρ[i]? = some p) (hx : p.x = false) (hs : Heap.SameBut p.a s.heap h') (new : Tst s.heap h' → ObjAt P.c ρ h' i p o') : At P ρ (σ.set i o') { s with heap := h', toks := t } ∧ Ext ρ s.heap ρ h' :=
 A.put (s' := { s with heap := h', toks := t }) e (.head _) (sameBut_keep hs) (fun q => nomatch hx.symm.trans q) fun ht _ => new ht
theorem snd_setS (A : At P ρ σ s) {Q : Unit → Shared → Prop} : PSetS σ b a k r → VR P.c ρ s.heap b z → VR P.c ρ s.heap a x → VR P.c ρ s.heap k y → PostR P (fun _ _ _ _ => True) ρ s.heap Q E r → wpAny P.M P.A (setItem x y z) Q E s := by
 intro h
 cases h with
 | @list i vs j _ e2 h0 hj =>
  rintro vb ⟨p, e, rfl⟩ ⟨t, rfl⟩ q
  obtain ⟨hx, hd, n, vals, h1, h2, h3⟩ := A.of e e2
  have hlen := h2.len
  refine set_item_at h1 h0 (Int.lt_of_lt_of_le hj (Int.le_trans (Int.ofNat_le.mpr h3) (by decide))) (by simp; lia) fun h' n' g1 g2 => ?_
  obtain ⟨A', X⟩ := A.put (s' := { s with heap := h' }) (o' := .list (vs.set j.toNat b)) e (.head _) g2 (fun q => nomatch hx.symm.trans q) fun ht _ => ⟨hx, hd, n', vals.set j.toNat z, by rw [g1, List.setIfInBounds_toArray], VRs.mono (.refl _) ht (VRs.all ▸ (VRs.all ▸ h2).set vb _), Nat.le_trans (Nat.le_of_eq List.length_set) h3⟩
  exact q _ _ _ X A' trivial
 | @dictS i kvs kk _ e2 hk hlt =>
  rintro vb ⟨p, e, rfl⟩ ⟨t, rfl, _⟩ q
  obtain ⟨rk, h1, h2, h3, hx, hd⟩ := A.dictS e e2 hk
  refine wpAny_setItem_pairs (strKind_is P.c.pr P.c.w kk t) h1 (fun h' g1 g2 => ?_) (Nat.le_trans (Nat.le_of_eq h2.len) (le_line h3))
  obtain ⟨A', X⟩ := A.putD (t := s.toks + 1) (o' := .dict (putK (.str kk) b kvs)) e hx g2 fun ht => ⟨hx, hd, Nat.le_trans (putK_len ..) hlt, .inl ⟨_, g1, (kvs_put h2 (dictOf_nodup h1) vb).mono fun _ _ => And.imp_right (VR.mono (.refl _) ht)⟩⟩
  exact q _ _ _ X A' trivial
 | @dictT i kvs k1 k2 kb _ e2 hk hlt =>
  rintro vb ⟨p, e, rfl⟩ vk q
  obtain ⟨xs, h1, h2, h3, hx, hd⟩ := A.dictT e e2 hk
  obtain ⟨ka, rfl, hka⟩ := vr_k3 (q := (k1, kb, k2)) vk
  refine wpAny_setItem_heap A.room hka h1 (fun h' g1 g2 => ?_) (Nat.le_trans (Nat.le_of_eq h2.len) (le_line h3))
  obtain ⟨A', X⟩ := A.putD (t := s.toks + (tupleKind (mixKind P.c.pr P.c.w)).draws (k3 (k1, kb, k2))) (o' := .dict (putK (tup3 (k1, kb, k2)) b kvs)) e hx g2 fun ht => ⟨hx, hd, Nat.le_trans (putK_len ..) hlt, .inr ⟨putK_ne _ _ _, _, g1, (kvt_put h2 (dictOfH_nodup h1) vb ka).mono fun _ _ => Exists.imp fun _ => And.imp_right <| And.imp_right <| VR.mono (.refl _) ht⟩⟩
  exact q _ _ _ X A' trivial
end
theorem fits {n : Nat} (h : n ≤ LIM) : (n : Int) < 2 ^ 63 := Int.lt_of_le_of_lt (Int.ofNat_le.mpr h) (show ((LIM : Nat) : Int) < 2 ^ 63 by decide)
theorem vr_none {c : Cx} {ρ : List Ad} {h : Heap} {v : MV} {y : Value} (x : VR c ρ h v y) : (y == Value.none) = v.none? := by
 cases v with
 | none => cases x; rfl
 | bool => cases x; rfl
 | fn => cases x.1; rfl
 | int => obtain ⟨_, rfl⟩ := x; rfl
 | str => obtain ⟨_, rfl, _⟩ := x; rfl
 | tup => obtain ⟨_, _, _, _, rfl, _⟩ := x; rfl
 | scr => obtain ⟨_, _, _, _, rfl, _⟩ := x; rfl
 | ref => obtain ⟨_, _, rfl⟩ := x; rfl
noncomputable def isI (x : Int) (v : Value) : Bool := match v with | .int i _ => i == x | _ => false
theorem anyInt_eq {c : Cx} {ρ : List Ad} {h : Heap} {x : Int} {t : Tok} : ∀ {vs : List MV} {vals : List Value} {b : Bool}, VRs c ρ h vs vals → anyInt x vs = some b → vals.any (isI x) = b ∧ ∀ A' s', ∀ y ∈ vals, EqAt A' s' y (.int x t) (isI x y) := fun {vs} => by
 induction vs with
 | nil => rintro vals b rfl q; cases q; exact ⟨rfl, fun _ _ y hy => absurd hy List.not_mem_nil⟩
 | cons v r ih =>
  rintro vals b ⟨y, ys, rfl, h1, h2⟩ q
  obtain ⟨i, q1, q2⟩ := bind_e q
  obtain ⟨b', q3, rfl⟩ := map_e q2
  cases int_of q1
  obtain ⟨u, rfl⟩ := h1
  obtain ⟨g1, g2⟩ := ih h2 q3
  exact ⟨congrArg (_ || ·) g1, fun A' s' z hz => (List.mem_cons.mp hz).elim (fun e => e ▸ EqAt.int_int i u x t) (g2 A' s' z)⟩
theorem look_some {c : Cx} {ρ : List Ad} {h : Heap} {kvs : List (MV × MV)} {rk : List (Str × Value)} (f : KvS c ρ h kvs rk) (k : Str) : (valueAt rk k).isSome = (lookK (.str k) kvs).isSome := by
 have g := kvs_look f k
 cases q : lookK (.str k) kvs with
 | none => rw [q] at g; rw [g]; rfl
 | some v => rw [q] at g; obtain ⟨y, g, _⟩ := g; rw [g]; rfl
theorem strOk_of (x : String) : PyData.strOk (Str.ofString x) = true := by
 rw [Str.ofString_eq_toList]
 unfold PyData.strOk
 rw [List.all_toArray, List.all_map, List.all_eq_true]
 intro c _
 have h := c.valid
 simp only [Function.comp, decide_eq_true_eq]
 show c.val.toNat < _
 rcases h with h | h <;> lia
theorem log_small {i : Int} (h : i.natAbs < 10 ^ 10) : i.natAbs.log2 < 1920 := by
 by_cases h0 : i.natAbs = 0
 · rw [h0]; decide
 · exact (Nat.log2_lt h0).mpr (Nat.lt_of_lt_of_le h (Nat.le_trans (by decide : 10 ^ 10 ≤ 2 ^ 40) (Nat.pow_le_pow_right (by decide) (by decide))))
section
variable {P : Pt} {ρ : List Ad} {σ : St} {s : Shared} {E : Value → Shared → Prop} {x y : Value} {a b : MV} {r : Rs (List MV)} {Q : Value → Shared → Prop}
theorem snd_cmp (A : At P ρ σ s) {o : COp} : PCmp σ o a b r → VR P.c ρ s.heap a x → VR P.c ρ s.heap b y → PostR P (V1 P) ρ s.heap Q E r → wpAny P.M P.A (compareOp (opCM o) x y) Q E s := by
 intro h
 cases h with
 | eq h =>
  intro va vb p
  obtain ⟨da, db, as, bs, r1, r2, c1, c2, hu, rfl⟩ := h.reads A va vb
  exact SeqAt.compareEq_reads r1 r2 c1 c2 hu (Post.one p .refl A rfl)
 | ne h =>
  intro va vb p
  obtain ⟨da, db, as, bs, r1, r2, c1, c2, hu, rfl⟩ := h.reads A va vb
  exact SeqAt.compareNe_reads r1 r2 c1 c2 hu (Post.one p .refl A rfl)
 | lt => rintro ⟨t, rfl⟩ ⟨u, rfl⟩ p; exact lt_int (Post.one p .refl A rfl)
 | gt => rintro ⟨t, rfl⟩ ⟨u, rfl⟩ p; exact gt_int (Post.one p .refl A rfl)
 | le => rintro ⟨t, rfl⟩ ⟨u, rfl⟩ p; exact le_int (Post.one p .refl A rfl)
 | ge => rintro ⟨t, rfl⟩ ⟨u, rfl⟩ p; exact ge_int (Post.one p .refl A rfl)
 | is => rintro va rfl p; exact is_none (vr_none va ▸ Post.one p .refl A rfl)
 | isNot => rintro va rfl p; exact isNot_none (vr_none va ▸ Post.one p .refl A rfl)
 | @inD d kvs k e2 hk =>
  rintro ⟨t, rfl, _⟩ ⟨q, e, rfl⟩ p
  obtain ⟨rk, h1, h2, _⟩ := A.dictS e e2 hk
  exact wpAny_in_of (strKind_is P.c.pr P.c.w k t) (A.sysm e) h1.mapOf (look_some h2 k ▸ Post.one p .refl (A.tok _) rfl)
 | @notIn d kvs k e2 hk =>
  rintro ⟨t, rfl, _⟩ ⟨q, e, rfl⟩ p
  obtain ⟨rk, h1, h2, _⟩ := A.dictS e e2 hk
  exact wpAny_notIn_of (strKind_is P.c.pr P.c.w k t) (A.sysm e) h1.mapOf (look_some h2 k ▸ Post.one p .refl (A.tok _) rfl)
 | @inT i vs t hi =>
  rintro ⟨t, rfl⟩ ⟨b, o, vals, n, rfl, ⟨h1, h2, h3⟩, h4⟩ p
  obtain ⟨g1, g2⟩ := anyInt_eq (t := t) h4 hi
  exact in_tupleAt (isI i) ⟨_, h1, h2, _, h3⟩ (fun y hy => g2 _ _ y (List.mem_toArray.mp hy)) ((List.any_toArray.trans g1) ▸ Post.one p .refl A rfl)
theorem snd_len (A : At P ρ σ s) : PLen σ a r → VR P.c ρ s.heap a x → PostR P (V1 P) ρ s.heap Q E r → wpAny P.M P.A (call (.builtin "len") [x]) Q E s := by
 intro h
 cases h with
 | str hl => rintro ⟨t, rfl, _⟩ p; exact _root_.PySem.P.len_str (Int.not_le.mpr (fits hl)) (Post.one p .refl (A.tok _) ⟨_, rfl⟩)
 | scr hl =>
  rintro ⟨b, o, vals, n, rfl, h1, h2, h3, h4⟩ p
  have he := IntsAre.length h4
  exact PyProof.Rows.len_list ⟨_, A.base _ _ h1, h2, _, h3⟩ (fits (n := vals.length) (he ▸ hl)) (Post.one p .refl (A.tok _) ⟨_, by rw [List.size_toArray, he]⟩)
 | list e2 =>
  rintro ⟨q, e, rfl⟩ p
  obtain ⟨vals, h1, h2, h3, he⟩ := A.isList e e2
  exact PyProof.Rows.len_list h1 (fits (n := vals.length) (he ▸ h3)) (Post.one p .refl (A.tok _) ⟨_, by rw [List.size_toArray, he]⟩)
theorem snd_str (A : At P ρ σ s) : PStr σ a r → VR P.c ρ s.heap a x → PostR P (V1 P) ρ s.heap Q E r → wpAny P.M P.A (call (.type "str") [x]) Q E s := by
 intro h
 cases h with
 | mk hl => rintro ⟨t, rfl⟩ p; exact _root_.PySem.P.str_of_int (log_small hl) (Post.one p .refl (A.tok _) ⟨_, rfl, strOk_of _⟩)
theorem snd_truth (A : At P ρ σ s) {t : Bool} {Q : Bool → Shared → Prop} : Tr σ a t → VR P.c ρ s.heap a x → (∀ k, Q t { s with toks := k }) → wpAny P.M P.A (truthy x) Q E s := by
 intro h
 cases h with
 | none => rintro rfl p; exact truthy_none (p s.toks)
 | bool b => rintro rfl p; exact wpAny_truthy_bool (p s.toks)
 | int i => rintro ⟨t, rfl⟩ p; exact _root_.PySem.P.truthy_int (p s.toks)
 | list e2 =>
  rintro ⟨q, e, rfl⟩ p
  obtain ⟨vals, h1, h2, h3, he⟩ := A.isList e e2
  refine wpAny_truthy_list h1 (fits (n := vals.length) (he ▸ h3)) ?_
  rename_i l
  have : vals.toArray.isEmpty = l.isEmpty := by cases vals <;> cases l <;> first | rfl | cases he
  exact this ▸ p _
theorem snd_isi (A : At P ρ σ s) {cl : Nat} : PIsi cl σ a r → VR P.c ρ s.heap a x → PostR P (V1 P) ρ s.heap Q E r → wpAny P.M P.A (call (.builtin "isinstance") [x, .ref (P.c.D.cl cl)]) Q E s := by
 intro h
 cases h with
 | str hc => rintro ⟨t, rfl, _⟩ p; exact kia_one kitx_str A.K trivial (A.ok.top.isiS cl hc) nofun fun tk => Post.one p .refl (A.tok _) rfl
 | @inst i c' fs hc hc' e2 =>
  rintro ⟨q, e, rfl⟩ p
  obtain ⟨_, d, _, hk, h1, es, n, h2, _⟩ := A.of e e2
  have I := instAt_i h1 h2
  cases hcc : Nat.beq c' cl with
  | true =>
   rw [hcc] at p
   cases Nat.eq_of_beq_eq_true hcc
   exact isi_call A.K (fun M => I.type) (A.ok.top.isiT _ hc) nofun (Post.one p .refl A rfl)
  | false =>
   rw [hcc] at p
   obtain ⟨g1, g2, g3⟩ := A.ok.top.clsA _ hc'
   exact kin_callC A.K I (A.ok.top.isiF _ _ hc' hc (Nat.ne_of_beq_eq_false hcc)) g1 (A.ok.top.fld _ _ hk).dict g2 A.ok.top.getset A.ok.top.takes g3 (Post.one p .refl (A.tok _) rfl)
noncomputable def bkId : BK → String
 | .lapp => "list.append"
 | .lpop => "list.pop"
 | .dget => "dict.get"
 | .dpop => "dict.pop"
 | .join => "str.join"
 | .find => "str.find"
end
noncomputable def VL (P : Pt) (ρ : List Ad) (h : Heap) (o : Op) (pre : List MV) (fx : Value × List Value) : Prop :=
 (∃ f r, o = .call ∧ pre = .fn f :: r ∧ fx.1 = .ref (P.c.D.fn f) ∧ Nat.blt f 91 = true ∧ VRs P.c ρ h r fx.2) ∨ ∃ k v x, o = .bm k ∧ pre = [v] ∧ fx = (.builtin (bkId k), [x]) ∧ VR P.c ρ h v x
theorem strs_of {c : Cx} {ρ : List Ad} {h : Heap} : ∀ {vs : List MV} {vals : List Value} {l : List Str}, VRs c ρ h vs vals → strsOf vs = some l → ∃ l' : List (Str × Tok), vals = strValues l' ∧ l'.map (·.1) = l ∧ ∀ x ∈ l, PyData.strOk x = true := fun {vs} => by
 induction vs with
 | nil => rintro vals l rfl q; cases q; exact ⟨[], rfl, rfl, fun x hx => absurd hx List.not_mem_nil⟩
 | cons v r ih =>
  rintro vals l ⟨y, ys, rfl, h1, h2⟩ q
  obtain ⟨x, q1, q2⟩ := bind_e q
  obtain ⟨l₀, q3, rfl⟩ := map_e q2
  cases str_of q1
  obtain ⟨t, rfl, hx⟩ := h1
  obtain ⟨l', e1, e2, e3⟩ := ih h2 q3
  exact ⟨(x, t) :: l', congrArg _ e1, congrArg _ e2, fun y hy => (List.mem_cons.mp hy).elim (fun e => e ▸ hx) (e3 y)⟩
theorem joinAll_eq : ∀ l : List Str, Str.join Str.empty l = j9 l := fun l => by
 induction l with
 | nil => rfl
 | cons x r ih =>
  cases r with
  | nil => exact (Str.append_empty x).symm
  | cons y r =>
   show x ++ Str.empty ++ Str.join Str.empty (y :: r) = x ++ j9 (y :: r)
   rw [Str.append_empty, ih]
theorem joinAll_len : ∀ l : List Str, (j9 l).length = (l.map (·.length)).sum := fun l => by
 induction l with
 | nil => rfl
 | cons x r ih => exact (Str.length_append ..).trans (congrArg _ ih)
theorem joinAll_ok : ∀ l : List Str, (∀ x ∈ l, PyData.strOk x = true) → PyData.strOk (j9 l) = true := fun l => by
 induction l with
 | nil => intro _; decide +kernel
 | cons x r ih => exact fun h => strOk_append (h x (.head _)) (ih fun y hy => h y (.tail _ hy))
section
variable {P : Pt} {ρ : List Ad} {σ : St} {s : Shared} {E : Value → Shared → Prop} {x y : Value} {a b : MV} {r : Rs (List MV)}
theorem At.dict_type (A : At P ρ σ s) {i : Nat} {p : Ad} {kvs : List (MV × MV)} (e : ρ[i]? = some p) (e2 : σ[i]? = some (.dict kvs)) : s.TypeIs (.ref p.a) "dict" ∧ ∀ a, Value.ref p.a = .ref a → ∃ o, s.heap.get? a = some o ∧ o.dict = none := by
 have z : ∃ o, s.heap.get? p.a = some o ∧ o.cls = .type "dict" ∧ o.dict = none := by
  obtain ⟨_, _, _, ⟨rk, ⟨o, _, _, ho, hx, _⟩, _⟩ | ⟨_, xs, ⟨o, _, _, ho, hx, _⟩, _⟩⟩ := A.of e e2 <;> exact ⟨o, ho, hx.1, hx.2.1⟩
 obtain ⟨o, h1, h2, h3⟩ := z
 exact ⟨⟨o, h1, h2⟩, fun a e => Value.ref.inj e ▸ ⟨o, h1, h3⟩⟩
theorem delK_none {k : MV} : ∀ {l : List (MV × MV)}, lookK k l = none → delK k l = l := fun {l} => by
 induction l with
 | nil => intro _; rfl
 | cons p r ih =>
  intro h
  rw [lookK_c] at h
  rw [delK_c]
  cases q : keq p.1 k with
  | true => rw [q] at h; cases h
  | false => rw [q] at h; exact congrArg (List.cons p) (ih h)
theorem meths_lt {c n f : Nat} (h : meths c n = some f) : Nat.blt f 91 = true := by
 have : ∀ x ∈ methL, Nat.blt x.2 91 = true := by decide +kernel
 obtain ⟨x, hx, _, rfl⟩ := lookN_mem2 h
 exact this x hx
theorem snd_look (A : At P ρ σ s) {n : Nat} {o : Op} {pre : List MV} (hn : n < 95) {pl : Sem Bool} {Q : Value × List Value → Shared → Prop} : Lk n σ a o pre → VR P.c ρ s.heap a x → (∀ k fx, VL P ρ s.heap o pre fx → Q fx { s with toks := k }) → wpAny P.M P.A (getMethod x (nmOf n) pl) Q E s := by
 intro h
 cases h with
 | fld _ e2 hw =>
  rintro ⟨p, e, rfl⟩ q
  obtain ⟨_, d, _, hk, h1, es, m, h2, f, _, hm⟩ := A.of e e2
  have g := fld_get hn f
  rw [hw] at g
  obtain ⟨y, g1, rfl, hb⟩ := g
  obtain ⟨z, hz, hzn⟩ := lookN_mem hw
  have hno := A.ok.top.nofind _ _ n hk hn (hzn ▸ hm z hz)
  have I := instAt_i h1 h2
  refine method_usual A.K I (A.ok.top.gaI _ hk) (A.ok.top.fld _ _ hk).ga hno rfl ?_
  exact get_value A.K I (A.ok.top.gaI _ hk) (findObj_own (A.ok.top.fld _ _ hk).dict hno rfl ((lookIn_dict ..).trans g1)) rfl (q _ _ (.inl ⟨_, [], rfl, rfl, rfl, hb, rfl⟩))
 | @meth i c f fs _ e2 hw hf =>
  rintro ⟨p, e, rfl⟩ q
  obtain ⟨_, d, _, hk, h1, es, m, h2, ff, _, hm⟩ := A.of e e2
  have g := fld_get hn ff
  rw [hw] at g
  obtain ⟨m1, m2⟩ := A.ok.top.meth _ _ n f hk hn hf
  refine method_fn A.K (instAt_i h1 h2) (A.ok.top.gaI _ hk) (A.ok.top.fld _ _ hk).ga m1 m2 ?_ (q s.toks _ (.inl ⟨f, _, rfl, rfl, rfl, meths_lt hf, _, _, rfl, ⟨p, e, rfl⟩, rfl⟩))
  show (lookIn (nmOf n) _).map (·.isSome) = some false
  rw [lookIn_dict, g]; rfl
 | @app i vs h e2 =>
  rintro ⟨p, e, rfl⟩ q
  obtain ⟨_, _, m, vals, h1, _⟩ := A.of e e2
  cases h
  exact getMethod_builtin ⟨_, h1, rfl⟩ F.plainAttrs_list F.slot_list_append F.type_list_append (fun a e => by cases e; exact ⟨_, h1, rfl⟩) (q s.toks _ (.inr ⟨_, _, _, rfl, rfl, rfl, p, e, rfl⟩))
 | @pop i vs h e2 =>
  rintro ⟨p, e, rfl⟩ q
  obtain ⟨_, _, m, vals, h1, _⟩ := A.of e e2
  cases h
  exact getMethod_builtin ⟨_, h1, rfl⟩ F.plainAttrs_list F.slot_list_pop F.type_list_pop (fun a e => by cases e; exact ⟨_, h1, rfl⟩) (q s.toks _ (.inr ⟨_, _, _, rfl, rfl, rfl, p, e, rfl⟩))
 | @get i kvs h e2 =>
  rintro ⟨p, e, rfl⟩ q
  obtain ⟨hT, hd⟩ := A.dict_type e e2
  cases h
  exact getMethod_builtin hT F.plainAttrs_dict F.slot_dict_get F.type_dict_get hd (q s.toks _ (.inr ⟨_, _, _, rfl, rfl, rfl, p, e, rfl⟩))
 | @dpop i kvs h e2 =>
  rintro ⟨p, e, rfl⟩ q
  obtain ⟨hT, hd⟩ := A.dict_type e e2
  cases h
  exact getMethod_builtin hT F.plainAttrs_dict F.slot_dict_pop F.type_dict_pop hd (q s.toks _ (.inr ⟨_, _, _, rfl, rfl, rfl, p, e, rfl⟩))
 | call h => exact absurd hn (h ▸ by decide)
 | @join y h =>
  rintro ⟨t, rfl, hy⟩ q
  cases h
  exact getMethod_builtin (typeIs_str s y t) F.plainAttrs_str F.slot_str_join F.type_str_join (fun a e => nomatch e) (q s.toks _ (.inr ⟨_, _, _, rfl, rfl, rfl, t, rfl, hy⟩))
 | @find y h =>
  rintro ⟨t, rfl, hy⟩ q
  cases h
  exact getMethod_builtin (typeIs_str s y t) F.plainAttrs_str F.slot_str_find F.type_str_find (fun a e => nomatch e) (q s.toks _ (.inr ⟨_, _, _, rfl, rfl, rfl, t, rfl, hy⟩))
theorem snd_bm (A : At P ρ σ s) {k : BK} {vs : List MV} {xs : List Value} {Q : Value → Shared → Prop} : PBm σ k a vs r → VR P.c ρ s.heap a x → VRs P.c ρ s.heap vs xs → PostR P (V1 P) ρ s.heap Q E r → wpAny P.M P.A (call (.builtin (bkId k)) (x :: xs)) Q E s := by
 intro h
 cases h with
 | @join i ys l e2 hs hl =>
  rintro ⟨t, rfl, _⟩ ⟨_, _, rfl, ⟨q, e, rfl⟩, rfl⟩ p
  obtain ⟨vals, h1, h2, h3, _⟩ := A.isList e e2
  obtain ⟨l', rfl, e4, e5⟩ := strs_of h2 hs
  have hz : Txt.join Str.empty (l'.map (·.1)) = j9 l := by
   show PySem.Builtin.Str.glued Str.empty (l'.map (·.1)) = _
   rw [StrLaws.glued_eq_join, e4, joinAll_eq]
  refine call_meets F.slot_str_join (typeIs_str s _ t) F.entry_str_join (F.args_str_join_2 _ _) (meets_str_join_list Str.empty t _ l' ?_) ⟨h1, post_join l' ⟨?_, fun t' k' => ?_⟩⟩
  · rw [StrLaws.joinTotal, e4, ← joinAll_len]
    exact decide_eq_false (Nat.not_lt.mpr (le_line hl))
  · rw [hz]; exact le_line hl
  · rw [hz]; exact Post.one p .refl (A.tok _) ⟨_, rfl, joinAll_ok l e5⟩
 | find => rintro ⟨t, rfl, _⟩ ⟨_, _, rfl, ⟨u, rfl, _⟩, rfl⟩ p; exact call_gives F.slot_str_find (typeIs_str s _ t) F.entry_str_find (F.args_str_find_2 _ _) (gives_str_find _ _ t u) (Post.one p .refl (A.tok _) ⟨_, rfl⟩)
 | @lapp i ys v e2 hlt =>
  rintro ⟨q, e, rfl⟩ ⟨y, _, rfl, hv, rfl⟩ p
  obtain ⟨hx, hd, n, vals, h1, h2, h3⟩ := A.of e e2
  refine append_at h1 (fun h' g1 g2 => ?_) (le_line (n := vals.length) (h2.len ▸ h3))
  obtain ⟨A', X⟩ := A.putD (t := s.toks) (o' := .list (ys ++ [v])) e hx g1 fun ht => ⟨hx, hd, n + 1, vals ++ [y], by rw [g2, List.push_toArray], VRs.mono (.refl _) ht (VRs.all ▸ (VRs.all ▸ h2).append ⟨y, [], rfl, hv, rfl⟩), List.length_append ▸ hlt⟩
  exact Post.one p X A' rfl
 | @lpop i ys v e2 =>
  rintro ⟨q, e, rfl⟩ rfl p
  obtain ⟨hx, hd, n, vals, h1, h2, h3⟩ := A.of e e2
  obtain ⟨pr, tl, rfl, h4, y, _, rfl, hy, rfl⟩ := (VRs.all ▸ h2).split
  have hk : (pr ++ [y]).toArray.size - 1 = pr.length := by rw [List.size_toArray, List.length_append]; rfl
  refine call_meets PySem.F.slot_list_pop ⟨_, h1, rfl⟩ PySem.F.entry_list_pop (PySem.F.args_list_pop_1 _) (PySem.MeetsSeq.list_pop_last q.a _ n y (by rw [hk]; simp) (le_line (n := (pr ++ [y]).length) (h2.len ▸ h3))) ⟨h1, ?_⟩
  obtain ⟨A', X⟩ := A.putD (t := s.toks) (h' := s.heap.update q.a (Obj.mapSeq fun xs => xs.eraseIdxIfInBounds ((pr ++ [y]).toArray.size - 1))) (o' := .list ys) e hx (Heap.SameBut.update ..) fun ht => ⟨hx, hd, _, pr, (PySem.IsL.update h1 _).trans (by rw [hk, kl_erase, List.append_nil]), VRs.mono (.refl _) ht (VRs.all ▸ h4), Nat.le_trans (List.length_append ▸ Nat.le_add_right _ _) h3⟩
  exact Post.one p X A' (X.vr hy)
 | @dget i kvs k l b e2 hk =>
  rintro ⟨q, e, rfl⟩ ⟨y, _, rfl, hv, rfl⟩ p
  obtain ⟨xs, h1, h2, h3, hx, hd⟩ := A.dictT e e2 hk
  obtain ⟨ka, rfl, hka⟩ := vr_k3 (q := (k, b, l)) hv
  exact call_meetsIn F.slot_dict_get (A.dict_type e e2).1 F.entry_dict_get (F.args_dict_get_2 _ _) (meetsH_dict_get (tupleKind (mixKind P.c.pr P.c.w)) q.a ka (A.sysm e)) ⟨A.room, k3 (k, b, l), _, hka, h1, Post.one p .refl (A.tok _) (kvt_look h2 (k, b, l))⟩
 | @dpop i kvs k d e2 hk =>
  rintro ⟨q, e, rfl⟩ ⟨_, _, rfl, ⟨t, rfl, _⟩, y, _, rfl, hv, rfl⟩ p
  obtain ⟨rk, h1, h2, h3, hx, hd⟩ := A.dictS e e2 hk
  have g := kvs_look h2 k
  cases hl : lookK (.str k) kvs with
  | some v =>
   rw [hl] at g p
   obtain ⟨z, g1, g2⟩ := g
   refine call_meetsIn F.slot_dict_pop h1.typeIs F.entry_dict_pop (F.args_dict_pop_3 _ _ _) (meets_dict_pop_there (knd := P.c.sk) (d := q.a) (k := k) (key := .str k t) (strKind_is P.c.pr P.c.w k t) [_] (.inr ⟨_, rfl⟩) rfl) ⟨rk, z, h1, le_line (h2.len ▸ h3), g1, fun h' k1 k2 => ?_⟩
   obtain ⟨A', X⟩ := A.putD (t := s.toks + 1) (o' := .dict (delK (.str k) kvs)) e hx k2 fun ht => ⟨hx, hd, Nat.le_trans (delK_len ..) h3, .inl ⟨_, k1, (kvs_del h2 (dictOf_nodup h1)).mono fun _ _ => And.imp_right (VR.mono (.refl _) ht)⟩⟩
   exact Post.one p X A' (X.vr g2)
  | none =>
   rw [hl] at g p
   refine call_meetsIn F.slot_dict_pop h1.typeIs F.entry_dict_pop (F.args_dict_pop_3 _ _ _) (meets_dict_pop_default (knd := P.c.sk) (d := q.a) (k := k) (key := .str k t) (strKind_is P.c.pr P.c.w k t) (A.sysm e) rfl _) ⟨rk, h1, g, ?_⟩
   obtain ⟨hi, he⟩ := List.getElem?_eq_some_iff.mp e2
   rw [delK_none hl, ← he, List.set_getElem_self] at p
   exact Post.one p .refl (A.tok _) hv
end
section
variable {M : Model} {B : Around} {α : Type} {a b : Sem α} {Q : α → Shared → Prop} {E : Value → Shared → Prop} {s : Shared} {c : Prop} [Decidable c]
theorem wif_t (h : c) (k : wpAny M B a Q E s) : wpAny M B (if c then a else b) Q E s := (if_pos h).symm ▸ k
theorem wif_f (h : ¬ c) (k : wpAny M B b Q E s) : wpAny M B (if c then a else b) Q E s := (if_neg h).symm ▸ k
end
section
variable {P : Pt} {ρ : List Ad} {σ : St} {s : Shared} {E : Value → Shared → Prop}
theorem ns_obj {h : Heap} {L : Addr} {m : Str → Option Value} (n : h.Ns L m) : ∃ o, h.get? L = some o ∧ ∀ vs, o.data ≠ .fields vs := by
 obtain ⟨o, es, ep, ho, hd, _⟩ := n
 exact ⟨o, ho, fun vs q => nomatch hd.symm.trans q⟩
theorem At.fun1 (A : At P ρ σ s) {e : Env} (he : e ∈ P.envs) : e.scope.kind = .function ∧ e.frame = some e.locals ∧ e.locals ∉ flat ρ ∧ P.c.base e.locals = none ∧ ∃ o, s.heap.get? e.locals = some o ∧ (∀ vs, o.data ≠ .fields vs) ∧ Quiet s.heap e.locals := by
 obtain ⟨m, n, hf⟩ := A.any he
 obtain ⟨o, h1, h2⟩ := ns_obj n
 obtain ⟨k1, k2, k3⟩ := A.ok.env e he
 exact ⟨k1, k2, hf, k3, o, h1, h2, quiet_ns n⟩
theorem At.funs (A : At P ρ σ s) : s.heap.FunFrames {} P.envs := by
 have : ∀ l : List Env, (∀ e ∈ l, e ∈ P.envs) → s.heap.FunFrames {} l := fun l => by
  induction l with
  | nil => intro _; trivial
  | cons e l ih =>
   intro H
   obtain ⟨a, b, _, _, o, ho, hn, _⟩ := A.fun1 (H e (.head _))
   exact ⟨by rw [a]; decide, ⟨_, o, b, rfl, ho, hn⟩, ih fun e' he' => H e' (.tail _ he')⟩
 exact this _ fun _ h => h
theorem At.slots (A : At P ρ σ s) {h : Heap} (hs : Heap.SlotsOnly (P.envs.filterMap (·.frame)) s.heap h) : At P ρ σ { s with heap := h } ∧ Ext ρ s.heap ρ h := by
 have ns : ∀ {b m}, s.heap.Ns b m → h.Ns b m := fun ⟨o, es, ep, ho, r⟩ => (hs.2.2 _ o ho).elim fun sl q => ⟨_, es, ep, q, r⟩
 have hX : ∀ b, b ∈ P.envs.filterMap (·.frame) → ∃ e ∈ P.envs, e.locals = b := fun b hb => by
  obtain ⟨e, he, q⟩ := List.mem_filterMap.mp hb
  exact ⟨e, he, Option.some.inj ((A.ok.env e he).2.1.symm.trans q)⟩
 have no : ∀ b ∈ flat ρ, b ∉ P.envs.filterMap (·.frame) := fun b hb hm => by
  obtain ⟨e, he, rfl⟩ := hX b hm
  exact (A.fun1 he).2.2.1 hb
 exact A.soft (s' := { s with heap := h }) (· ∈ P.envs.filterMap (·.frame)) rfl (fun b o n e => (hs.2.1 b n).trans e) (fun b hb => by
  obtain ⟨e, he, rfl⟩ := hX b hb
  obtain ⟨_, _, _, h1, _, _, _, h2⟩ := A.fun1 he
  exact ⟨h1, h2⟩) (fun i p e _ => no _ (flat_mem e (.head _))) (fun _ _ i p o e1 e2 => .inl ⟨e2, fun x hx => no _ (flat_mem e1 hx)⟩) (ns A.fr.1) (fun p hp _ => ns (A.frs p hp).1) A.loc
theorem At.head (A : At P ρ σ s) {i : Nat} {p : Ad} {xs : Array Value} (e : ρ[i]? = some p) (hx : p.x = true) (X : ExcAt P.c ρ s.heap i p xs) (f : Array Value → Array Value) (hsz : (f xs).size = xs.size) {tb cx : Value} (h1 : (f xs)[1]? = some tb) (h2 : TbOK P.c s.heap tb) (h3 : ∀ T, xs[1]? = some (.ref T) → ∃ T', tb = .ref T') (h4 : (f xs)[2]? = some cx) (h5 : CxOK ρ i cx) :
 At P ρ σ { s with heap := s.heap.update p.a (Obj.mapFields f) } ∧ Ext ρ s.heap ρ (s.heap.update p.a (Obj.mapFields f)) ∧ ExcAt P.c ρ (s.heap.update p.a (Obj.mapFields f)) i p (f xs) := by
 obtain ⟨g, sz, _⟩ := X
 have g' : (s.heap.update p.a (Obj.mapFields f)).get? p.a = some (excObj P.c p.d (f xs)) := Heap.get?_update_self (Obj.mapFields f) g rfl
 have K : ∀ b o, ¬ b = p.a → s.heap.get? b = some o → (s.heap.update p.a (Obj.mapFields f)).get? b = some o := fun b o n e => (Heap.get?_update_ne _ _ _ _ n).trans e
 have K1 : ∀ b o, s.heap.get? b = some o → o.cls ≠ .ref (P.c.D.cl excCl) → (s.heap.update p.a (Obj.mapFields f)).get? b = some o := fun b o e n => K b o (fun q => by cases (q ▸ g).symm.trans e; exact n rfl) e
 have TB : Tbs s.heap (s.heap.update p.a (Obj.mapFields f)) := fun b o ts e q1 q2 => ⟨o, ts, K1 b o e (q1 ▸ nofun), q1, q2, rfl⟩
 have T : Tst s.heap (s.heap.update p.a (Obj.mapFields f)) := fun b o v n e q1 q2 => K1 b o e (q1 ▸ nofun)
 have X' : ExcAt P.c ρ (s.heap.update p.a (Obj.mapFields f)) i p (f xs) := ⟨g', hsz ▸ sz, tb, cx, h1, h2.keeps TB, h4, h5⟩
 have hin : p.a ∈ flat ρ := flat_mem e (.head _)
 obtain ⟨o, es, ep, ho, r⟩ := A.fr.1
 obtain ⟨A', X⟩ := A.move (s' := { s with heap := s.heap.update p.a (Obj.mapFields f) }) (· = p.a) rfl K (fun b h => h ▸ A.fresh _ hin) T TB (fun j q => by
  obtain ⟨q, o, ys, t, q1, q2, q3, q4, q5⟩ := q
  by_cases hj : q.a = p.a
  · cases (hj ▸ g).symm.trans q3
    cases q4
    obtain ⟨T', rfl⟩ := h3 t q5
    exact ⟨q, _, f xs, T', q1, q2, (congrArg (Heap.get? _) hj).trans g', rfl, h1⟩
  · exact ⟨q, o, ys, t, q1, q2, K _ _ hj q3, q4, q5⟩) (fun j q o q1 q2 => by
  by_cases hij : i = j
  · subst hij
    cases e.symm.trans q1
    obtain ⟨fs, _, k1, _, k3⟩ := A.exc e hx
    obtain rfl := Option.some.inj (q2.symm.trans k1)
    refine .inr ⟨hx, f xs, X', k3.imp id <| Exists.imp fun d => And.imp_right fun k3 => k3.keeps (.refl _) T fun o ho => K _ _ (fun q => ?_) ho⟩
    obtain ⟨_, _, k4, _⟩ := k3
    exact nomatch k4.symm.trans ((congrArg s.heap.get? q).trans g)
  · exact .inl ⟨q2, fun x hx q => flat_ne A.nod e q1 hij (.head _) hx q.symm⟩) ⟨o, es, ep, K _ _ (fun q => A.fr.2 (show P.L ∈ _ from q ▸ hin)) ho, r⟩ (fun q hq h => absurd (h ▸ hin) (A.frs q hq).2) A.loc rfl rfl
 exact ⟨A', X, X'⟩
theorem At.tbrec (A : At P ρ σ s) {T : Addr} {oT : Obj} {ts : Array Value} (hb : P.c.base T = none) (hT : s.heap.get? T = some oT) (hc : oT.cls = .type "traceback") (hd : oT.data = .fields ts) (f : Array Value → Array Value) (hsz : (f ts).size = ts.size) :
 At P ρ σ { s with heap := s.heap.update T (Obj.mapFields f) } ∧ Ext ρ s.heap ρ (s.heap.update T (Obj.mapFields f)) := by
 have hdn := Obj.data_mapFields hd f
 have hT' := Heap.get?_update_self (Obj.mapFields f) hT (Obj.isFreed_of_fields hdn)
 have K : ∀ b o, ¬ b = T → s.heap.get? b = some o → (s.heap.update T (Obj.mapFields f)).get? b = some o := fun b o n e => (Heap.get?_update_ne _ _ _ _ n).trans e
 have hin : T ∉ flat ρ := fun hm => ((A.own hm).2 oT hT).2 ts hc hd
 have hfr : ∀ e ∈ P.envs, ¬ e.locals = T := fun e he q => by
  obtain ⟨_, _, _, _, o, ho, hn, _⟩ := A.fun1 he
  cases (q ▸ hT).symm.trans ho
  exact hn _ hd
 obtain ⟨o, es, ep, ho, r⟩ := A.fr.1
 exact A.move (s' := { s with heap := s.heap.update T (Obj.mapFields f) }) (· = T) rfl K (fun b h => h ▸ hb) (fun b o v n e q1 q2 => K b o (fun q => by cases (q ▸ hT).symm.trans e; exact nomatch hd.symm.trans q2) e)
  (fun b o us e q1 q2 => by
   by_cases q : b = T
   · subst q
     cases hT.symm.trans e
     cases hd.symm.trans q2
     exact ⟨_, _, hT', (Obj.cls_mapFields _ _).trans hc, hdn, hsz⟩
   · exact ⟨o, us, K b o q e, q1, q2, rfl⟩)
  (fun i => Exists.imp fun p => Exists.imp fun o => Exists.imp fun xs => Exists.imp fun t q => ⟨q.1, q.2.1, K _ _ (fun k => hin (k ▸ flat_mem q.1 (.head _))) q.2.2.1, q.2.2.2⟩) (fun i p o e1 e2 => .inl ⟨e2, fun x hx q => hin (q ▸ flat_mem e1 hx)⟩)
  ⟨o, es, ep, K _ _ (hfr _ (.head _)) ho, r⟩ (fun p hp q => absurd q (hfr _ (.tail _ (List.mem_map_of_mem hp)))) A.loc rfl rfl
theorem set1 {xs : Array Value} {k : Nat} {v : Value} (h : k < xs.size) : (xs.setIfInBounds k v)[k]? = some v := (Array.getElem?_setIfInBounds_self_of_lt h)
theorem set_ne {xs : Array Value} {k j : Nat} {v : Value} (h : k ≠ j) : (xs.setIfInBounds k v)[j]? = xs[j]? := Array.getElem?_setIfInBounds_ne h
theorem fresh_push (A : At P ρ σ s) : P.c.base s.heap.objs.size = none := (A.noones (g9 _)).2.1
theorem entry_ok (A : At P ρ σ s) {i : Nat} {p : Ad} (e1 : ρ[i]? = some p) (hx : p.x = true) {head : Value} {hadNext : Bool} {Q : Unit → Shared → Prop} (h : ∀ s', Ext ρ s.heap ρ s'.heap → At P ρ σ s' → Noted ρ s'.heap i → Q () s') :
 wpAny P.M P.A (do let a ← frameOf P.env; let pl ← entryPlaceOf P.L hadNext; let b ← EntryCells.newEntry head a .none (rawInt P.L) .none pl; setField (.ref p.a) 1 b) Q E s := by
 refine wpAny_bind (wpAny_frameOf_fun A.ok.stack A.funs (A.ok.env _ (.head _)).2.1 fun h₁ hs₁ => wpAny_bind (wpAny_entryPlaceOf fun pl hpl => ?_))
 obtain ⟨A₁, X₁⟩ := A.slots hs₁
 unfold EntryCells.newEntry newFields
 refine wpAny_bind (wpAny_newObj_type ?_ (hpl.sizeOk5 _ _ _ _ _))
 obtain ⟨A₂, X₂⟩ := A₁.grow (s' := { s with heap := h₁.push { cls := .type "traceback", dict := none, data := .fields ([head, .ref P.L, .none, rawInt P.L, .none] ++ (if pl.isEmpty then List.replicate 6 Value.none else pl)).toArray } }) (fun b o e => Heap.get?_push_of_some _ e)
 have hb := fresh_push A₁
 have hT := Heap.get?_push_size (o := { cls := .type "traceback", dict := none, data := .fields ([head, .ref P.L, .none, rawInt P.L, .none] ++ (if pl.isEmpty then List.replicate 6 Value.none else pl)).toArray }) h₁ rfl
 obtain ⟨fs, xs, _, Y, _⟩ := A₂.exc e1 hx
 have sz := Y.2.1
 refine wpAny_setField Y.1 rfl (Nat.lt_trans (by decide) sz) ?_
 obtain ⟨tb, cx, t1, t2, t3, t4⟩ := Y.2.2
 obtain ⟨A₃, X₃, Z⟩ := A₂.head e1 hx Y (·.setIfInBounds 1 (.ref h₁.objs.size)) Array.size_setIfInBounds (set1 (Nat.lt_trans (by decide) sz)) (.inr ⟨_, _, _, rfl, hb, hT, rfl, rfl, by simp⟩) (fun _ _ => ⟨_, rfl⟩) ((set_ne (by decide)).trans t3) t4
 exact h _ ((X₁.trans X₂).trans X₃) A₃ ⟨p, _, _, _, e1, hx, Z.1, rfl, set1 (Nat.lt_trans (by decide) sz)⟩
theorem note_ok (A : At P ρ σ s) {i : Nat} {p : Ad} (e1 : ρ[i]? = some p) (hx : p.x = true) {Q : Unit → Shared → Prop} (h : ∀ s', Ext ρ s.heap ρ s'.heap → At P ρ σ s' → Noted ρ s'.heap i → Q () s') : wpAny P.M P.A (noteFrame (.ref p.a) P.env) Q E s := by
 obtain ⟨fs, xs, _, ⟨g, hsz, tb, cx, htb, hok, _⟩, _⟩ := A.exc e1 hx
 have hf : P.env.frame = some P.L := (A.ok.env _ (.head _)).2.1
 unfold noteFrame
 simp only [hf]
 refine wpAny_bind (wpAny_field g rfl htb ?_)
 rcases hok with rfl | ⟨T, oT, ts, rfl, hbT, hT, hcT, hdT, hts⟩
 · exact entry_ok A e1 hx h
 · refine wif_t rfl (wpAny_bind (wpAny_field hT hdT (Array.getElem?_eq_getElem hts) ?_))
   by_cases hq : (ts[3] == rawInt P.L) = true
   · exact wif_t hq (wpAny_pure (h s .refl A ⟨p, _, _, T, e1, hx, g, rfl, htb⟩))
   · refine wif_f hq (wpAny_bind (wpAny_setField hT hdT hts ?_))
     obtain ⟨A', X⟩ := A.tbrec hbT hT hcT hdT (·.setIfInBounds 3 .none) Array.size_setIfInBounds
     exact entry_ok A' e1 hx fun s' X' => h s' (X.trans X')
theorem flight_ok (A : At P ρ σ s) {i : Nat} {p : Ad} (e1 : ρ[i]? = some p) (hx : p.x = true) {fr : Option Addr} {Q : Unit → Shared → Prop} (h : ∀ s', Ext ρ s.heap ρ s'.heap → At P ρ σ s' → Q () s') : wpAny P.M P.A (setFlight (.ref p.a) fr) Q E s := by
 obtain ⟨fs, xs, _, ⟨g, hsz, tb, cx, htb, hok, _⟩, _⟩ := A.exc e1 hx
 unfold setFlight
 refine wpAny_bind (wpAny_field g rfl htb ?_)
 rcases hok with rfl | ⟨T, oT, ts, rfl, hbT, hT, hcT, hdT, hts⟩
 · exact wpAny_pure (h s .refl A)
 · refine wif_t rfl (wpAny_setField hT hdT hts ?_)
   obtain ⟨A', X⟩ := A.tbrec hbT hT hcT hdT (·.setIfInBounds 3 (fr.elim .none fun f => rawInt f)) Array.size_setIfInBounds
   exact h _ X A'
theorem back_ok (A : At P ρ σ s) {i : Nat} {p : Ad} (e1 : ρ[i]? = some p) (N : Noted ρ s.heap i) {fr : Option Addr} {msg : String} {Q : Unit → Shared → Prop} (h : ∀ s', Ext ρ s.heap ρ s'.heap → At P ρ σ s' → Q () s') : wpAny P.M P.A (do
 if (← field (.ref p.a) 1) == .none then unsupported msg
 setFlight (.ref p.a) fr) Q E s := by
 obtain ⟨p', o, xs, T, n1, hx, n2, n3, n4⟩ := N
 cases e1.symm.trans n1
 refine wpAny_bind (wpAny_field n2 n3 n4 ?_)
 exact flight_ok A e1 hx h
theorem entry_unchain : entryFor table "proto.unchain" = some Builtin.«proto.unchain» := entryFor_of_fast (by kernel_rfl)
noncomputable def CStep (ρ : List Ad) (h : Heap) (j i : Nat) : Prop := ∃ q p o xs, ρ[j]? = some q ∧ h.get? q.a = some o ∧ o.data = .fields xs ∧ xs[2]? = some (.ref p.a) ∧ ρ[i]? = some p ∧ p.x = true
noncomputable def CPath (ρ : List Ad) (h : Heap) : Nat → Nat → Nat → Prop
 | 0, j, i => j = i
 | n + 1, j, i => ∃ k, CStep ρ h j k ∧ CPath ρ h n k i
theorem CPath.snoc {h : Heap} : ∀ {n j i i' : Nat}, CPath ρ h n j i → CStep ρ h i i' → CPath ρ h (n + 1) j i' := fun {n} => by
 induction n with
 | zero => rintro j i i' rfl t; exact ⟨i', t, rfl⟩
 | succ n ih => rintro j i i' ⟨k, a, b⟩ t; exact ⟨k, a, ih b t⟩
theorem unchain_ok (A : At P ρ σ s) {B : Around} {e : Addr} {R : Result → Shared → Prop} (hR : R (.ok (.ret .none)) s) : ∀ (i : Nat) (p : Ad) (j n : Nat) (q : Ad) (tog : Bool), ρ[i]? = some p → p.x = true → ρ[j]? = some q → (∀ i' q, i' < i → ρ[i']? = some q → q.a ≠ e) → CPath ρ s.heap (bif tog then n + 1 else n) j i →
 codeAny P.M B (.builtin "proto.unchain" ⟨[.ref e, .ref p.a, .ref q.a, .bool tog], []⟩) R s := by
 intro i
 induction i using Nat.strongRecOn with
 | ind i ih =>
  intro p j n q tog e1 hx e3 hne hp
  obtain ⟨fs, xs, _, ⟨g, hsz, tb, cx, _, _, hc, hcx⟩, _⟩ := A.exc e1 hx
  refine codeAny_builtin entry_unchain ?_
  unfold Builtin.«proto.unchain»
  dsimp only
  refine wpAny_bind (wpAny_field g rfl hc ?_)
  rcases hcx with rfl | ⟨i', p', hi, f1, f2, rfl⟩
  · exact wpAny_pure hR
  · have hn := hne i' p' hi f1
    refine wif_f nofun (wif_f (fun h => hn (Value.ref.inj (eq_of_beq h))) ?_)
    by_cases hs : (Value.ref p'.a == Value.ref q.a) = true
    · exact wif_t hs (wpAny_bind (wpAny_rule (wpAny_pure hR)))
    · refine wif_f hs ?_
      have st : CStep ρ s.heap i i' := ⟨p, p', _, xs, e1, g, rfl, hc, f1, f2⟩
      have up : ∀ k r, k < i' → ρ[k]? = some r → r.a ≠ e := fun k r hk => hne k r (Nat.lt_trans hk hi)
      cases tog with
      | false => exact wpAny_pure ⟨Code.quiet_builtin _ (by decide +kernel), ih i' hi p' j n q true f1 f2 e3 up (CPath.snoc hp st)⟩
      | true =>
       obtain ⟨j', ⟨q2, p2, o2, xs2, g1, g2, g3, g4, g5, g6⟩, pth⟩ := hp
       cases e3.symm.trans g1
       refine wpAny_bind (wpAny_field g2 g3 g4 ?_)
       exact wpAny_pure ⟨Code.quiet_builtin _ (by decide +kernel), ih i' hi p' j' (n + 1) p2 false f1 f2 g5 up (CPath.snoc pth st)⟩
theorem raiseNew_ok (A : At P ρ σ s) {α : Type} {e : Addr} {oe : Obj} {vs : Array Value} {Q : α → Shared → Prop} (he : s.heap.get? e = some oe) (hd : oe.data = .fields vs) (hsz : 2 < vs.size)
 (hne : ∀ i p, P.hd = some i → ρ[i]? = some p → ∀ (i' : Nat) (q : Ad), i' < i → ρ[i']? = some q → q.a ≠ e) (h0 : E (.ref e) s)
 (h1 : ∀ i p, P.hd = some i → ρ[i]? = some p → p.x = true → p.a ≠ e → E (.ref e) { s with heap := s.heap.update e (Obj.mapFields (·.setIfInBounds 2 (.ref p.a))) }) (B : Around) (hB : B.handled = P.A.handled) : wpAny P.M B (raiseNew (α := α) (.ref e)) Q E s := by
 unfold raiseNew
 refine wpAny_bind (wpAny_handled ?_)
 rw [hB]
 have hh := A.hd
 cases q : P.hd with
 | none =>
  rw [q] at hh
  rw [show P.A.handled = none from hh]
  exact wpAny_bind (wpAny_pure (wpAny_throw h0))
 | some i =>
  rw [q] at hh
  obtain ⟨p, e1, hx, e3⟩ := hh
  rw [e3]
  by_cases hpe : p.a = e
  · exact wif_f (fun h => bne_iff_ne.mp h (congrArg Value.ref hpe)) (wpAny_bind (wpAny_pure (wpAny_throw h0)))
  · refine wif_t (bne_iff_ne.mpr fun h => hpe (Value.ref.inj h)) ?_
    refine wpAny_bind (wpAny_holding (wpAny_runValue (unchain_ok A ?_ i p i 0 p false e1 hx e1 (hne i p q e1) rfl)))
    show wpAny _ _ (setField (.ref e) 2 (.ref p.a) >>= _) _ _ _
    exact wpAny_bind (wpAny_setField he hd hsz (wpAny_throw (h1 i p q e1 hx hpe)))
end
theorem find_exinit (K : Frag) : findCls K (.type "Exception") (.type "type") (nmOf 5) = some (.val (.builtin "Exception.__init__")) := by kernel_rfl
section
variable {prog : Program} {w : World} {A : Around} {E : Value → Shared → Prop} {s : Shared} {K : Frag} {C e : Addr}
variable {nm q : Str} {N : Addr} {bs : List Value} {hdct : Bool} {sn : List Str} {sub : List Value} {ab : Bool} {col : Option Bool} {dd : Option Addr} {k0 k1 k2 k3 k5 : Option Value}
theorem bexc_init {d : Option Addr} {xs : Array Value} {y : Value} {Q : Value → Shared → Prop} (hC : s.heap.get? C = some (excClassObj nm q C N bs [.type "Exception", .type "BaseException", .type "object"] hdct sn sub ab col dd k0 k1 k2 k3 k5 "Exception.__new__"))
 (he : s.heap.get? e = some ⟨.ref C, d, .fields xs, #[]⟩) (hsz : 0 < xs.size)
 (h : Q .none { s with heap := (s.heap.push { cls := .type "tuple", data := .seq #[y] }).update e (Obj.mapFields (·.setIfInBounds 0 (.ref s.heap.objs.size))) }) : wpAny (model prog w) A (call (.builtin "Exception.__init__") [.ref e, y]) Q E s := by
 have F := PySem.F.excBase_Exception
 obtain ⟨hp, g, dr, t, os⟩ := s
 refine wpAny_call (codeAny_call_builtin F.init.plain F.initEntry (wpAny_check_init_sub F hC he rfl ?_))
 have hx := Heap.get?_push_of_some (h := hp) { cls := .type "tuple", data := .seq #[y] } he
 obtain ⟨x0, h0⟩ : ∃ x0, xs[0]? = some x0 := ⟨_, Array.getElem?_eq_getElem hsz⟩
 show wpAny _ _ (newTuple [y] >>= fun t => Builtin.BaseException.bexcPut (.ref e) 0 t >>= fun _ => PySem.ret Value.none) _ _ _
 unfold newTuple
 refine wpAny_bind (wpAny_newObj_type ?_ (by size_fits))
 unfold Builtin.BaseException.bexcPut
 refine wpAny_bind (wpAny_bind (wpAny_field hx rfl h0 (wpAny_bind (wpAny_setField hx rfl hsz ?_))))
 cases x0 with
 | ref a => exact wpAny_letGo (wpAny_pure h)
 | _ => exact wpAny_pure (wpAny_pure h)
end
section
variable {P : Pt} {ρ : List Ad} {σ : St} {s : Shared} {E : Value → Shared → Prop}
theorem exM_ok (A : At P ρ σ s) {pl : Sem Bool} {Q : Value × List Value → Shared → Prop} (h : ∀ t, Q (.builtin "Exception.__init__", []) { s with toks := t }) : wpAny P.M P.A (getMethod (.type "Exception") (nmOf 5) pl) Q E s :=
 method_type A.Fr A.ok.top.kin (by kernel_rfl) (by decide +kernel) (find_exinit _) rfl (h _)
theorem host_ok (A : At P ρ σ s) {pl : Sem Bool} {Q : Value × List Value → Shared → Prop} (h : ∀ t, Q (.ref (P.c.D.fn baseFn), []) { s with toks := t }) : wpAny P.M P.A (getMethod (.ref (P.c.D.cl 11)) (nmOf 5) pl) Q E s :=
 method_cls A.K A.ok.top.hostG (cls_value A.K A.ok.top.hostR A.ok.top.hostF rfl (h _))
theorem exI_ok (A : At P ρ σ s) {i : Nat} {p : Ad} (e : ρ[i]? = some p) (hx : p.x = true) {y : Value} {Q : Value → Shared → Prop} (h : ∀ s', Ext ρ s.heap ρ s'.heap → At P ρ σ s' → Q .none s') : wpAny P.M P.A (call (.builtin "Exception.__init__") [.ref p.a, y]) Q E s := by
 obtain ⟨nm, qq, N, bs, hdct, sn, sub, ab, col, dd, k0, k1, k2, k3, k5, hC⟩ := A.ok.top.excC
 obtain ⟨A₁, X₁⟩ := A.grow (s' := { s with heap := s.heap.push { cls := .type "tuple", data := .seq #[y] } }) (fun b o e => Heap.get?_push_of_some _ e)
 obtain ⟨_, _, _, Y₀, _⟩ := A.exc e hx
 obtain ⟨fs, xs, _, Y, _⟩ := A₁.exc e hx
 refine bexc_init (A.K _ _ hC) Y₀.1 (Nat.lt_trans (by decide) Y₀.2.1) ?_
 obtain ⟨tb, cx, t1, t2, t3, t4⟩ := Y.2.2
 obtain ⟨A₂, X₂, _⟩ := A₁.head e hx Y (·.setIfInBounds 0 (.ref s.heap.objs.size)) Array.size_setIfInBounds ((set_ne (by decide)).trans t1) t2 (fun T h => ⟨T, Option.some.inj (t1.symm.trans h)⟩) ((set_ne (by decide)).trans t3) t4
 exact h _ (X₁.trans X₂) A₂
end
structure CallOK (P : Pt) (C : Caller) : Prop where
 fn : ∀ f, Nat.blt f 91 = true → ∀ args vals ρ σ s, At P ρ σ s → VRs P.c ρ s.heap args vals → SndAt P (VR P.c) (call (.ref (P.c.D.fn f)) vals) (C f args P.hd) ρ σ s
 new : ∀ cl b, kind cl = some b → ∀ args vals ρ σ s, At P ρ σ s → VRs P.c ρ s.heap args vals → SndAt P (V1 P) (call (.ref (P.c.D.cl cl)) vals) (newM C P.hd cl args) ρ σ s
noncomputable def KeepOK (P : Pt) (f : Value) : Prop := ∀ h, P.K.In h → ∃ k, (k = Keeper.frame ∨ k = Keeper.machine ∨ k = Keeper.boundFrame) ∧ Looks P.M h (keeperOf f) k
theorem keep_builtin {P : Pt} {id : String} : KeepOK P (.builtin id) := fun _ _ => ⟨.machine, .inr (.inl rfl), Looks.of_pure rfl⟩
theorem keep_type {P : Pt} {id : String} : KeepOK P (.type id) := fun _ _ => ⟨.machine, .inr (.inl rfl), Looks.of_pure rfl⟩
theorem keep_in {P : Pt} {f : Value} (h : keepIn P.K f = true) : KeepOK P f := keeps_K h
section
variable {P : Pt} {α β γ δ : Type} {V : List Ad → Heap → δ → γ → Prop} {C : Caller} {hd : Option Nat} {L : Loc} {ρ : List Ad} {σ : St} {s : Shared} {h : Heap} {Q : γ → Shared → Prop} {E : Value → Shared → Prop}
theorem snd_stk {V : List Ad → Heap → β → α → Prop} {t : Sem α} : Snd P V t (stk : MM β) := fun _ _ _ _ _ _ p => p.elim fun _ q => q.1.elim
theorem Post.cons {a b : PE} {f : List MV → MM δ} (p : Post P V ρ h (bnd (ev C hd L (.cons a b)) f σ) Q E) : Post P V ρ h (bnd (ev C hd L a) (fun us => bnd (ev C hd L b) fun vs => f (us ++ vs)) σ) Q E := by
 refine p.map fun r h => ?_
 obtain ⟨q, ⟨q1, h1, h2⟩, h3⟩ := h
 refine ⟨q1, h1, ?_⟩
 cases q1 with
 | err e σ => cases h2; exact h3
 | ok us σ =>
  obtain ⟨q2, h4, h5⟩ := h2
  refine ⟨q2, h4, ?_⟩
  cases q2 with
  | err e σ => cases h5; exact h3
  | ok vs σ => cases h5; exact h3
theorem Post.op {o : Op} {a : PE} {f : List MV → MM δ} (p : Post P V ρ h (bnd (ev C hd L (.op o a)) f σ) Q E) : Post P V ρ h (bnd (ev C hd L a) (fun us => bnd (prim C hd o us) f) σ) Q E := by
 refine p.map fun r h => ?_
 obtain ⟨q, ⟨q1, h1, h2⟩, h3⟩ := h
 refine ⟨q1, h1, ?_⟩
 cases q1 with
 | err e σ => cases h2; exact h3
 | ok us σ => exact ⟨q, h2, h3⟩
theorem Post.nil {f : List MV → MM δ} (p : Post P V ρ h (bnd (ev C hd L .nil) f σ) Q E) : Post P V ρ h (f [] σ) Q E := p.map fun r h => by
 obtain ⟨q, h1, h2⟩ := h
 cases h1; exact h2
theorem step1 {t : Sem Value} {m : MM (List MV)} {f : List MV → MM δ} {K : Value → Shared → Prop} (h₁ : SndAt P (V1 P) t m ρ σ s) (hp : Post P V ρ s.heap (bnd m f σ) Q E)
 (k : ∀ v σ₁ ρ₁ s₁ a, Ext ρ s.heap ρ₁ s₁.heap → At P ρ₁ σ₁ s₁ → VR P.c ρ₁ s₁.heap v a → Post P V ρ₁ s₁.heap (f [v] σ₁) Q E → K a s₁) : wpAny P.M P.A t K E s :=
 step h₁ hp fun us σ₁ ρ₁ s₁ a X A v p => by
  obtain ⟨v, rfl, hv⟩ := v
  exact k v σ₁ ρ₁ s₁ a X A hv p
end
noncomputable abbrev SE (P : Pt) (C : Caller) (E : Expr → PE) : Prop := ∀ e, Snd P (V1 P) (eval e P.env) (ev C P.hd P.locs (E e))
noncomputable abbrev ST (P : Pt) (C : Caller) (T : Expr → PE) : Prop := ∀ e, Snd P VB (isTrue e P.env (eval e P.env)) (ev C P.hd P.locs (T e))
section
variable {P : Pt} {C : Caller} {α : Type} {V : List Ad → Heap → List MV → α → Prop} {t : Sem α} {hd : Option Nat} {L : Loc}
theorem gd_ok {b : Bool} {p : PE} (h : b = true → Snd P V t (ev C hd L p)) : Snd P V t (ev C hd L (gd b p)) := by
 cases b with
 | true => exact h rfl
 | false => exact snd_stk
theorem gdo_ok {β : Type} {o : Option β} {p : β → PE} (h : ∀ a, o = some a → Snd P V t (ev C hd L (p a))) : Snd P V t (ev C hd L (gdo o p)) := by
 cases o with
 | some a => exact h a rfl
 | none => exact snd_stk
theorem one1_ok {β : Type} {l : List β} {p : β → PE} (h : ∀ a, l = [a] → Snd P V t (ev C hd L (p a))) : Snd P V t (ev C hd L (one1 l p)) := by
 cases l with
 | nil => exact snd_stk
 | cons a r =>
  cases r with
  | nil => exact h a rfl
  | cons _ _ => exact snd_stk
end
noncomputable abbrev sems (env : Env) (es : List Expr) : List (Bool × Sem Value) := es.map fun e => (false, eval e env)
theorem star_cons {e : Expr} {es : List Expr} {env : Env} (h : noStar e = true) : starEach (e :: es) env = (false, eval e env) :: starEach es env := by cases e <;> first | rfl | cases h
theorem sems_eq (env : Env) (pos : Pos) {es : List Expr} (h : es.all noStar = true) : backTo pos (starEach es env) = sems env es := by
 induction es with
 | nil => rfl
 | cons e es ih =>
  obtain ⟨h1, h2⟩ := and_e h
  rw [star_cons h1]
  exact congrArg _ (ih h2)
section
variable {P : Pt} {C : Caller} {E T : Expr → PE} (hE : SE P C E)
include hE
theorem list_ok : ∀ es : List Expr, Snd P (VVs P) (spliced (sems P.env es)) (ev C P.hd P.locs (es.foldr (fun e r => .cons (E e) r) .nil)) := fun es => by
 induction es with
 | nil => exact fun ρ σ s A Q E p => wpAny_pure (p.ret A rfl)
 | cons e es ih =>
  intro ρ σ s A Q E' p
  show wpAny _ _ (do
   let v ← eval e P.env
   let here ← (pure [v] : Sem (List Value))
   return here ++ (← holding here (spliced (sems P.env es)))) Q E' s
  refine wpAny_bind (step1 (hE e _ _ _ A) p fun v σ₁ ρ₁ s₁ a X A₁ va p₁ => wpAny_bind (wpAny_pure (wpAny_bind (wpAny_holding ?_))))
  exact step (ih _ _ _ A₁) p₁ fun bs σ₂ ρ₂ s₂ as X' A₂ vs p₂ => wpAny_pure (p₂.ret A₂ ⟨a, as, rfl, X'.vr va, vs⟩)
end
theorem not_e {b : Bool} (h : (!b) = true) : b = false := by cases b; rfl; cases h
theorem b_names : bootBuiltins (Str.ofString "len") = some (.builtin "len") ∧ bootBuiltins (Str.ofString "str") = some (.type "str") ∧ bootBuiltins (Str.ofString "isinstance") = some (.builtin "isinstance") ∧ bootBuiltins (Str.ofString "range") = some (.type "range") ∧ bootBuiltins (Str.ofString "Exception") = some (.type "Exception") := by decide +kernel
theorem bn_ne : ∀ x ∈ bNames, x ≠ "__name__" := by decide +kernel
theorem bn_in : Str.ofString "len" ∈ bNames ∧ Str.ofString "str" ∈ bNames ∧ Str.ofString "isinstance" ∈ bNames ∧ Str.ofString "range" ∈ bNames ∧ Str.ofString "Exception" ∈ bNames := by decide +kernel
section
variable {P : Pt} {ρ : List Ad} {σ : St} {s : Shared} {E : Value → Shared → Prop} {Q : Value → Shared → Prop}
theorem okG_e {x : Str} (h : okG P.sc x = true) : P.sc.names.lookup x = some .globalImplicit ∧ (x == dbg) = false := by
 obtain ⟨h1, h2⟩ := and_e h
 exact ⟨eq_of_beq h1, not_e h2⟩
theorem glob_at (A : At P ρ σ s) {x : Str} {pos : Pos} {b : Bool} {i : Nat} (hx : globOf P.sc x = some (b, i)) (h : Q (.ref (if b then P.c.D.cl i else P.c.D.fn i)) s) : wpAny P.M P.A (eval (.Name x pos) P.env) Q E s := by
 unfold globOf at hx
 cases q : okG P.sc x with
 | false => rw [q] at hx; cases hx
 | true =>
  rw [q] at hx
  obtain ⟨h1, h2⟩ := okG_e q
  exact ld_global_at A.Fr A.ok.top.g (A.ok.top.glob x b i hx) h A.kf h1 h2
theorem ld_built (A : At P ρ σ s) {x : Str} {y : String} {pos : Pos} {v : Value} (hb : isBu P.sc x y = true) (hx : Str.ofString y ∈ bNames) (hv : bootBuiltins (Str.ofString y) = some v) (h : Q v s) : wpAny P.M P.A (eval (.Name x pos) P.env) Q E s := by
 obtain ⟨h0, h1⟩ := and_e hb
 obtain ⟨h1', h2⟩ := okG_e h0
 cases eq_of_beq h1
 exact ld_builtin_at A.Fr A.ok.top.g (A.ok.top.noglob _ hx) A.ok.top.b ((A.ok.top.builtins _ (bn_ne _ hx)).trans hv) h A.kf h1' h2
theorem ld_loc (A : At P ρ σ s) {i : Nat} {x : Str} {pos : Pos} (e : P.names[i]? = some x) (hd : (x == dbg) = false) {v : MV} (hv : P.locs[i]? = some (some v)) (h : ∀ y, VR P.c ρ s.heap v y → Q y s) : wpAny P.M P.A (eval (.Name x pos) P.env) Q E s := by
 obtain ⟨y, h1, h2⟩ := A.loc i x v e hv
 exact wpAny_Name (wpAny_loadName_local A.kf (A.ok.kinds x (List.mem_of_getElem? e)) A.fr.1 h1 (h y h2)) hd
theorem snd_with (A : At P ρ σ s) {C : Caller} {Es : Expr → PE} (hE : SE P C Es) {α β : Type} {V : List Ad → Heap → β → α → Prop} {f : Value} {first : List Value} {es : List Expr} {pos : Pos} {k : List MV → MM β} {Q' : α → Shared → Prop}
 (hs : es.all noStar = true) (hk : KeepOK P f) (hp : Post P V ρ s.heap (bnd (ev C P.hd P.locs (es.foldr (fun e r => .cons (Es e) r) .nil)) k σ) Q' E)
 (kk : ∀ vs σ₁ ρ₁ s₁ xs, Ext ρ s.heap ρ₁ s₁.heap → At P ρ₁ σ₁ s₁ → VRs P.c ρ₁ s₁.heap vs xs → Post P V ρ₁ s₁.heap (k vs σ₁) Q' E → wpAny P.M P.A (call f (first ++ xs)) Q E s₁) :
 wpAny P.M P.A (callWith pos f first (backTo pos (starEach es P.env)) []) Q E s := by
 rw [sems_eq _ _ hs]
 refine callWith_of (P := fun h => P.K.In h) (by simp [sems]) hk ?_
 have main := step (list_ok hE es _ _ _ A) hp fun vs σ₁ ρ₁ s₁ xs X A₁ va p₁ => (show P.K.In s₁.heap ∧ wpAny P.M P.A (call f (first ++ xs)) Q E s₁ from ⟨A₁.K, kk vs σ₁ ρ₁ s₁ xs X A₁ va p₁⟩)
 cases es with
 | nil => exact evalArgs_nil3 ⟨A.K, kk [] σ ρ s [] .refl A rfl hp.nil⟩
 | cons e es => exact Calls.evalArgs_plain main
theorem attr_e {e : Expr} (h : isAttr e = true) : ∃ v a p, e = .Attribute v a p :=
 Expr.Attribute.elim (motive_1 := fun e => ∃ v a p, e = .Attribute v a p) e (Nat.eq_of_beq_eq_true h) fun v a p => ⟨v, a, p, rfl⟩
theorem attr_base {o : Expr} {name : Str} {env : Env} (ho : plainX o = true) : attributeBase o name env (eval o env) = eval o env := by
 rcases Bool.or_eq_true_iff.mp ho with h | ho
 · exact Expr.Name.elim (motive_1 := fun o => attributeBase o name env (eval o env) = eval o env) o (Nat.eq_of_beq_eq_true h) fun _ _ => rfl
 rcases Bool.or_eq_true_iff.mp ho with h | ho
 · exact Expr.Attribute.elim (motive_1 := fun o => attributeBase o name env (eval o env) = eval o env) o (Nat.eq_of_beq_eq_true h) fun _ _ _ => rfl
 rcases Bool.or_eq_true_iff.mp ho with h | ho
 · exact Expr.Constant.elim (motive_1 := fun o => attributeBase o name env (eval o env) = eval o env) o (Nat.eq_of_beq_eq_true h) fun _ _ _ => rfl
 rcases Bool.or_eq_true_iff.mp ho with h | ho
 · exact Expr.Subscript.elim (motive_1 := fun o => attributeBase o name env (eval o env) = eval o env) o (Nat.eq_of_beq_eq_true h) fun _ _ _ => rfl
 · obtain ⟨h, ho⟩ := and_e ho
   revert ho
   exact Expr.Call.elim (motive_1 := fun o => onE o false (nF := fun f _ _ _ => isAttr f) = true → attributeBase o name env (eval o env) = eval o env) o (Nat.eq_of_beq_eq_true h) fun f as kw p q => by
    obtain ⟨_, _, _, rfl⟩ := attr_e q; rfl
theorem meth_he {o : Expr} {name : Str} {apos pos : Pos} {es : List Expr} {env : Env} (ho : plainX o = true) (hp : (apos.endLine == pos.line) = true) (hs : es.all noStar = true) (hl : es.length ≤ 20) :
 eval (.Call (.Attribute o name apos) es [] pos) env = (do
  let ov ← eval o env
  standAt apos.atName
  let (f, first) ← holding [ov] (getMethod ov name (do return (← importBound o env).getD true))
  callWith pos f first (backTo pos (starEach es env)) []) := by
 have hform : methodCallForm (es.length + ([] : List Keyword).length) (backTo pos (starEach es env)) (backToKw pos (keywordEach [] env)) = true := by
  rw [sems_eq env pos hs]
  refine Bool.and_eq_true_iff.mpr ⟨Bool.and_eq_true_iff.mpr ⟨List.all_eq_true.mpr fun x hx => ?_, rfl⟩, decide_eq_true (Nat.lt_of_le_of_lt hl (by decide))⟩
  obtain ⟨_, _, rfl⟩ := List.mem_map.mp hx
  rfl
 have h1 : eval (.Call (.Attribute o name apos) es [] pos) env = (do
  let ov ← attributeBase o name env (eval o env)
  standAt apos.atName
  methodCall o name apos pos env ov (es.length + ([] : List Keyword).length) (backTo pos (starEach es env)) (backToKw pos (keywordEach [] env))) := rfl
 rw [h1, attr_base ho]
 congr 1
 funext ov
 congr 1
 funext _
 unfold methodCall
 rw [hform]
 have h3 : methodCallPos true o env apos pos = pure pos := by unfold methodCallPos; rw [hp]; rfl
 rw [h3]
 rfl
end
theorem snd_part {P : Pt} {ρ : List Ad} {σ : St} {s : Shared} {E : Value → Shared → Prop} (A : At P ρ σ s) {x y z : Value} {a b : MV} {r : Rs (List MV)} {t : Bool} {v : Expr} {l u : Option Expr} {ps : Pos} {Q : Value → Shared → Prop} (hz : bif t then x = .none ∧ y = z else x = z ∧ y = .none) {w : Value} :
 PPart t σ a b r → VR P.c ρ s.heap a w → VR P.c ρ s.heap b z → PostR P (V1 P) ρ s.heap Q E r → wpAny P.M P.A (subscriptTail v (.Slice l u none ps) w (.ref s.heap.objs.size)) Q E { s with heap := s.heap.push { cls := .type "slice", data := .fields #[x, y, .none] } } := by
 intro h
 cases h with
 | @mk i vs k e2 h0 h1 =>
  rintro ⟨q, e, rfl⟩ ⟨tk, rfl⟩ p
  obtain ⟨vals, hl, hv, hlim, hlen⟩ := A.isList e e2
  obtain ⟨j, rfl⟩ := Int.eq_ofNat_of_zero_le h0
  have hj : j ≤ vals.toArray.size := (show j ≤ vals.length from hlen ▸ Int.ofNat_le.mp h1)
  have k1 : ∀ b o, s.heap.get? b = some o → (s.heap.push { cls := .type "slice", data := .fields #[x, y, .none] }).get? b = some o := fun b o e => Heap.get?_push_of_some _ e
  have hl' := hl.push { cls := .type "slice", data := .fields #[x, y, .none] }
  have hp : ∃ lo hi, IsPart x lo ∧ IsPart y hi ∧ slicePick vals.toArray lo hi none = (bif t then vals.take j else vals.drop j).toArray := by
   cases t with
   | true => obtain ⟨rfl, rfl⟩ := hz; exact ⟨none, some (j : Int), .none, .int _ _, slicePick_upto _ _ hj⟩
   | false => obtain ⟨rfl, rfl⟩ := hz; exact ⟨some (j : Int), none, .int _ _, .none, slicePick_from _ _ hj⟩
  have hr : VRs P.c ρ s.heap (bif t then vs.take j else vs.drop j) (bif t then vals.take j else vals.drop j) := by
   cases t with
   | true => exact VRs.all ▸ (VRs.all ▸ hv).take j
   | false => exact VRs.all ▸ (VRs.all ▸ hv).drop j
  have hus : (bif t then vs.take j else vs.drop j).length ≤ vs.length := by
   cases t with
   | true => exact List.length_take_le' ..
   | false => exact List.length_drop ▸ Nat.sub_le ..
  obtain ⟨lo, hi, pl, pu, hp⟩ := hp
  refine tail_any (ops := [.ref s.heap.objs.size, .ref q.a]) hl'.typeIs slot_list_getitem.lookup (wpAny_getItem_list_slice hl' (Heap.IsSliceOf.new ..) pl pu .none nofun ?_ (le_line (n := vals.length) (hlen ▸ hlim))) rfl
  rw [hp]
  obtain ⟨A', X', vr⟩ := A.newList hr (Nat.le_trans hus hlim) (h' := (s.heap.push { cls := .type "slice", data := .fields #[x, y, .none] }).push (listObj _ 0)) (fun b o e => Heap.get?_push_of_some _ (k1 b o e)) (Heap.get?_none_of_le (Heap.size_push .. ▸ Nat.le_succ _)) (Heap.get?_push_size _ rfl) s.toks
  exact Post.one p X' A' vr
section
variable {P : Pt} {C : Caller}
theorem attr_eval {v : Expr} {a : Str} {pos : Pos} {env : Env} (hv : plainX v = true) : eval (.Attribute v a pos) env = (do
 let o ← eval v env
 standAt pos.atName
 let r ← holding [o] (getAttr o a true)
 letTemporaryGo v o r
 pure r) := (congrArg (· >>= _) (attr_base hv) : (attributeBase v a env (eval v env) >>= _) = _)
theorem n_name (x : Str) (pos : Pos) : Snd P (V1 P) (eval (.Name x pos) P.env) (ev C P.hd P.locs (cN P.sc P.names x)) := by
 unfold cN
 cases q : ixIn x P.names with
 | some i =>
  refine gd_ok fun hd ρ σ s A Q E p => ?_
  obtain ⟨_, ⟨v, hv, rfl⟩, p⟩ := p
  exact ld_loc A (ixIn_get q) (not_e hd) hv fun y hy => Post.one p .refl A hy
 | none =>
  cases g : globOf P.sc x with
  | none => exact snd_stk
  | some b =>
   obtain ⟨b, i⟩ := b
   cases b with
   | true => exact snd_stk
   | false =>
    refine gd_ok fun hb ρ σ s A Q E p => ?_
    obtain ⟨_, rfl, p⟩ := p
    exact glob_at A g (Post.one p .refl A ⟨rfl, hb⟩)
theorem n_const (c : Const) (k : Nat) (pos : Pos) : Snd P (V1 P) (eval (.Constant c k pos) P.env) (ev C P.hd P.locs (cC c)) := by
 cases c with
 | none => rintro ρ σ s A Q E ⟨_, rfl, p⟩; exact wpAny_Constant_none (Post.one p .refl A rfl)
 | bool b => rintro ρ σ s A Q E ⟨_, rfl, p⟩; exact wpAny_Constant_bool (Post.one p .refl A rfl)
 | int i => rintro ρ σ s A Q E ⟨_, rfl, p⟩; exact wpAny_Constant_int (Post.one p .refl (A.tok _) ⟨_, rfl⟩)
 | str x =>
  refine gd_ok fun hx ρ σ s A Q E p => ?_
  obtain ⟨_, rfl, p⟩ := p
  exact wpAny_Constant_str (Post.one p .refl (A.tok _) ⟨_, rfl, hx⟩)
 | _ => exact snd_stk
variable {E T : Expr → PE} (hE : SE P C E) (hT : ST P C T)
theorem cL_ok {α : Type} {V : List Ad → Heap → List MV → α → Prop} {t : Sem α} {es : List Expr} {o : Op} (h : es.all noStar = true → Snd P V t (ev C P.hd P.locs (.op o (es.foldr (fun e r => .cons (E e) r) .nil)))) : Snd P V t (ev C P.hd P.locs (.op o (cL E es))) := by
 unfold cL
 cases q : es.all noStar with
 | true => exact h q
 | false => exact fun ρ σ s A Q E p => p.elim fun _ q => q.1.elim fun _ q => q.1.elim
include hE
theorem n_attr {v : Expr} {a : Str} {pos : Pos} : Snd P (V1 P) (eval (.Attribute v a pos) P.env) (ev C P.hd P.locs (gd (plainX v) (gdo (ixIn a nmS) fun k => .op (.attr k) (.cons (E v) .nil)))) := by
 refine gd_ok fun hv => gdo_ok fun k hk ρ σ s A Q E' p => ?_
 have hk := ixIn_get hk
 have hn : k < 95 := nmS_len ▸ (List.getElem?_eq_some_iff.mp hk).1
 obtain rfl := Option.some.inj (hk.symm.trans (nmOf_get hn))
 refine Attribute_any_ (step1 (hE v _ _ _ A) p.cons fun v σ₁ ρ₁ s₁ a X A₁ va p₁ => ?_) (attr_eval hv)
 obtain ⟨r, h, q⟩ := p₁.nil
 exact snd_getA A₁ hn h va q
omit hE in
theorem plain_idx {i : Expr} (h : isK i 26 = false) : plainIdx i := by
 intro o k
 cases i with
 | Slice => cases h
 | _ => rfl
theorem n_sub {v i : Expr} {pos : Pos} : Snd P (V1 P) (eval (.Subscript v i pos) P.env) (ev C P.hd P.locs (cSub E v i)) := by
 have main : plainIdx i → Snd P (V1 P) (eval (.Subscript v i pos) P.env) (ev C P.hd P.locs (.op .sub (.cons (E v) (.cons (E i) .nil)))) := fun hi ρ σ s A Q E' p =>
  Subscript_ (step1 (hE v _ _ _ A) p.cons fun v σ₁ ρ₁ s₁ a X A₁ va p₁ => step1 (hE i _ _ _ A₁) p₁.cons fun w σ₂ ρ₂ s₂ b X₂ A₂ vb p₂ => by
   obtain ⟨r, h, q⟩ := p₂.nil
   exact snd_sub A₂ hi h (X₂.vr va) vb q)
 unfold cSub
 cases hK : isK i 26 with
 | false => exact main (plain_idx hK)
 | true =>
  revert main
  refine Expr.Slice.elim (motive_1 := fun i => (plainIdx i → Snd P (V1 P) (eval (.Subscript v i pos) P.env) (ev C P.hd P.locs (.op .sub (.cons (E v) (.cons (E i) .nil))))) → Snd P (V1 P) (eval (.Subscript v i pos) P.env) (ev C P.hd P.locs (onE i .stuck (nI := fun l u s => gd s.isNone (match l with
   | none => gdo u fun u => .op .sto (.cons (E v) (.cons (E u) .nil))
   | some l => gd u.isNone (.op .sfr (.cons (E v) (.cons (E l) .nil)))))))) i (Nat.eq_of_beq_eq_true hK) fun l u st ps _ => ?_
  refine gd_ok fun hs => ?_
  cases st with
  | some _ => cases hs
  | none =>
  cases l with
  | none =>
   refine gdo_ok fun u hu ρ σ s A Q E' p => ?_
   cases hu
   refine Subscript_ (step1 (hE v _ _ _ A) p.cons fun v σ₁ ρ₁ s₁ a X A₁ va p₁ => wpAny_Slice ?_)
   rw [evalPart_none, evalPart_some]
   refine wpAny_pure (step1 (hE u _ _ _ A₁) p₁.cons fun w σ₂ ρ₂ s₂ b X₂ A₂ vb p₂ => wpAny_pure ?_)
   obtain ⟨r, h, q⟩ := p₂.nil
   exact snd_part A₂ (t := true) ⟨rfl, rfl⟩ h (X₂.vr va) vb q
  | some l =>
   refine gd_ok fun hu ρ σ s A Q E' p => ?_
   cases u with
   | some _ => cases hu
   | none =>
   refine Subscript_ (step1 (hE v _ _ _ A) p.cons fun v σ₁ ρ₁ s₁ a X A₁ va p₁ => wpAny_Slice ?_)
   rw [evalPart_none, evalPart_some]
   refine step1 (hE l _ _ _ A₁) p₁.cons fun w σ₂ ρ₂ s₂ b X₂ A₂ vb p₂ => wpAny_pure (wpAny_pure ?_)
   obtain ⟨r, h, q⟩ := p₂.nil
   exact snd_part A₂ (t := false) ⟨rfl, rfl⟩ h (X₂.vr va) vb q
theorem n_bin {l r : Expr} {o : Operator} {pos : Pos} : Snd P (V1 P) (eval (.BinOp l o r pos) P.env) (ev C P.hd P.locs (gdo (opB o) fun b => .op (.bin b) (.cons (E l) (.cons (E r) .nil)))) := by
 refine gdo_ok fun b hb ρ σ s A Q E' p => ?_
 cases opB_of hb
 exact wpAny_BinOp (step1 (hE l _ _ _ A) p.cons fun v σ₁ ρ₁ s₁ a X A₁ va p₁ => step1 (hE r _ _ _ A₁) p₁.cons fun w σ₂ ρ₂ s₂ b X₂ A₂ vb p₂ => by
  obtain ⟨r, h, q⟩ := p₂.nil
  exact snd_bin A₂ h (X₂.vr va) vb q)
theorem n_cmp {l : Expr} {os : List CmpOp} {rs : List Expr} {pos : Pos} : Snd P (V1 P) (eval (.Compare l os rs pos) P.env) (ev C P.hd P.locs (one1 os fun o => one1 rs fun r => gd (!(behindInMarks o r)) (.op (.cmp (opC o)) (.cons (E l) (.cons (E r) .nil))))) := by
 refine one1_ok fun o ho => one1_ok fun r hr => gd_ok fun hb ρ σ s A Q E' p => ?_
 subst ho hr
 exact wpAny_Compare1 (step1 (hE l _ _ _ A) p.cons fun v σ₁ ρ₁ s₁ a X A₁ va p₁ => step1 (hE r _ _ _ A₁) p₁.cons fun w σ₂ ρ₂ s₂ b X₂ A₂ vb p₂ => by
  obtain ⟨r, h, q⟩ := p₂.nil
  rw [opC_of o]
  exact snd_cmp A₂ h (X₂.vr va) vb q) (not_e hb)
theorem n_un {o : UnaryOp} {v : Expr} {pos : Pos} : Snd P (V1 P) (eval (.UnaryOp o v pos) P.env) (ev C P.hd P.locs (cUn E o v)) := by
 cases o with
 | Not =>
  intro ρ σ s A Q E' p
  refine UnaryOp_ (step1 (hE v _ _ _ A) p.cons fun w σ₁ ρ₁ s₁ a X A₁ va p₁ => not_value ?_)
  obtain ⟨_, ⟨t, ht, rfl⟩, q⟩ := p₁.nil
  exact snd_truth A₁ ht va fun k => Post.one q .refl (A₁.tok _) rfl
 | USub =>
  refine gd_ok fun hK => Expr.Constant.elim (motive_1 := fun v => Snd P (V1 P) (eval (.UnaryOp .USub v pos) P.env) (ev C P.hd P.locs (gdo (onE v none (nC := intC)) fun i => gd (i == 1) (.cst (.int (-1)))))) v (Nat.eq_of_beq_eq_true hK) fun c k p1 => ?_
  cases c with
  | int i =>
   refine gd_ok fun hi ρ σ s A Q E' p => ?_
   cases eq_of_beq hi
   obtain ⟨_, rfl, q⟩ := p
   exact UnaryOp_ (wpAny_Constant_int (_root_.PySem.P.neg_int (Post.one q .refl (A.tok _) ⟨_, rfl⟩)))
  | _ => exact snd_stk
 | _ => exact snd_stk
theorem n_bool (o : BoolOp) (pos : Pos) : ∀ vs : List Expr, Snd P (V1 P) (eval (.BoolOp o vs pos) P.env) (ev C P.hd P.locs (cB E (isAnd o) vs)) := fun vs => by
 induction vs with
 | nil => exact snd_stk
 | cons v r ih =>
  cases r with
  | nil => exact fun ρ σ s A Q E' p => BoolOp_one (hE v _ _ _ A _ _ p)
  | cons w ws =>
   intro ρ σ s A Q E' p
   cases o with
   | And =>
    refine BoolOp_and (step1 (hE v _ _ _ A) p fun u σ₁ ρ₁ s₁ a X A₁ va p₁ => ?_)
    obtain ⟨r, ⟨t, ht, hr⟩, q⟩ := p₁
    refine snd_truth A₁ ht va fun k => ?_
    cases t with
    | true => exact ih _ _ _ (A₁.tok k) _ _ ⟨r, hr, q⟩
    | false => cases hr; exact Post.one q .refl (A₁.tok k) va
   | Or =>
    refine BoolOp_or (step1 (hE v _ _ _ A) p fun u σ₁ ρ₁ s₁ a X A₁ va p₁ => ?_)
    obtain ⟨r, ⟨t, ht, hr⟩, q⟩ := p₁
    refine snd_truth A₁ ht va fun k => ?_
    cases t with
    | false => exact ih _ _ _ (A₁.tok k) _ _ ⟨r, hr, q⟩
    | true => cases hr; exact Post.one q .refl (A₁.tok k) va
include hT in
theorem n_ite {t b o : Expr} {pos : Pos} : Snd P (V1 P) (eval (.IfExp t b o pos) P.env) (ev C P.hd P.locs (.ite (T t) (E b) (E o))) := by
 intro ρ σ s A Q E' p
 refine IfExp_ (step (hT t _ _ _ A) p fun us σ₁ ρ₁ s₁ c X A₁ e p₁ => ?_)
 cases e
 obtain ⟨r, ⟨c', hc, hr⟩, q⟩ := p₁
 cases hc
 cases c with
 | true => exact hE b _ _ _ A₁ _ _ ⟨r, hr, q⟩
 | false => exact hE o _ _ _ A₁ _ _ ⟨r, hr, q⟩
theorem n_list {es : List Expr} {pos : Pos} : Snd P (V1 P) (eval (.List es pos) P.env) (ev C P.hd P.locs (.op .list (cL E es))) := by
 refine cL_ok fun hs ρ σ s A Q E' p => wpAny_List ?_
 rw [sems_eq _ _ hs]
 refine step (list_ok hE es _ _ _ A) p fun vs σ₁ ρ₁ s₁ xs X A₁ va p₁ => ?_
 obtain ⟨_, ⟨hl, rfl⟩, q⟩ := p₁
 refine ⟨va.len ▸ le_line hl, ?_⟩
 obtain ⟨A', X', v⟩ := A₁.newList va hl (h' := s₁.heap.push (listObj xs 0)) (fun b o e => Heap.get?_push_of_some _ e) (g9 _) (Heap.get?_push_size _ rfl) s₁.toks
 exact Post.one q X' A' v
theorem n_tup {es : List Expr} {k : Nat} {pos : Pos} : Snd P (V1 P) (eval (.Tuple es k pos) P.env) (ev C P.hd P.locs (.op .tup (cL E es))) := by
 refine cL_ok fun hs ρ σ s A Q E' p => wpAny_Tuple ?_
 rw [sems_eq _ _ hs]
 refine step (list_ok hE es _ _ _ A) p fun vs σ₁ ρ₁ s₁ xs X A₁ va p₁ => ?_
 obtain ⟨_, ⟨hl, rfl⟩, q⟩ := p₁
 refine ⟨va.len ▸ le_line (Nat.le_trans (Nat.le_of_ble_eq_true hl) (by decide)), ?_⟩
 obtain ⟨A', X'⟩ := A₁.grow (s' := { s₁ with heap := s₁.heap.push { cls := .type "tuple", data := .seq xs.toArray } }) (fun b o e => Heap.get?_push_of_some _ e)
 exact Post.one q X' A' ⟨_, _, xs, _, rfl, ⟨Heap.get?_push_size _ rfl, rfl, rfl⟩, X'.vrs va⟩
end
noncomputable def KP (c : Cx) (ρ : List Ad) (h : Heap) : List Str → List MV → List (Value × Value) → Prop
 | [], vs, r => vs = [] ∧ r = []
 | k :: ks, vs, r => ∃ v vs' t x r', vs = v :: vs' ∧ r = (.str k t, x) :: r' ∧ VR c ρ h v x ∧ KP c ρ h ks vs' r'
theorem KP.zip {c : Cx} {ρ : List Ad} {h : Heap} : ∀ {ks : List Str} {vs : List MV} {r : List (Value × Value)}, KP c ρ h ks vs r → ∃ kvs : List (Str × Value), Carries c.sk r kvs ∧ kvs.map (·.1) = ks ∧ KvS c ρ h ((ks.map MV.str).zip vs) kvs := fun {ks} => by
 induction ks with
 | nil => rintro vs r ⟨rfl, rfl⟩; exact ⟨[], trivial, rfl, rfl⟩
 | cons k ks ih =>
  rintro vs r ⟨v, vs', t, x, r', rfl, rfl, hv, q⟩
  obtain ⟨kvs, e1, e2, e3⟩ := ih q
  exact ⟨(k, x) :: kvs, ⟨strKind_is _ _ _ _, rfl, e1⟩, congrArg _ e2, (k, x), kvs, rfl, ⟨rfl, hv⟩, e3⟩
theorem merged_nodup : ∀ (more acc : List (Str × Value)), ((acc ++ more).map (·.1)).Nodup → merged acc more = acc ++ more := fun more => by
 induction more with
 | nil => exact fun acc _ => (List.append_nil acc).symm
 | cons kv r ih =>
  intro acc hn
  have hno : ¬ (acc.any (fun p => decide (p.1 = kv.1)) = true) := fun h => by
   obtain ⟨p, hp, he⟩ := List.any_eq_true.mp h
   exact (List.nodup_append.mp (List.map_append ▸ hn)).2.2 p.1 (List.mem_map_of_mem hp) kv.1 (.head _) (of_decide_eq_true he)
  have e2 : stored acc kv.1 kv.2 = acc ++ [kv] := if_neg hno
  have e3 : (acc ++ [kv]) ++ r = acc ++ kv :: r := List.append_assoc ..
  show merged (stored acc kv.1 kv.2) r = _
  rw [e2, ih _ (e3 ▸ hn), e3]
theorem dict_new {P : Pt} {h : Heap} : (h.push { cls := .type "dict", data := .dict #[] }).DictOf P.c.sk h.objs.size [] :=
 ⟨_, #[], 0, Heap.get?_push_size _ rfl, ⟨rfl, rfl, rfl⟩, rfl, fun e he => absurd he (Array.not_mem_empty _), .nil, .nil⟩
theorem set_same {σ : St} {i : Nat} {o : MO} (e : σ[i]? = some o) : σ.set i o = σ := by
 obtain ⟨hi, he⟩ := List.getElem?_eq_some_iff.mp e
 rw [← he, List.set_getElem_self]
theorem bif_e {α : Type} {b : Bool} {o : Option α} {x : α} (h : (bif b then o else none) = some x) : b = true ∧ o = some x := by
 cases b
 · exact nomatch h
 · exact ⟨rfl, h⟩
theorem str_key {e : Expr} {x : Str} (h : (bif isK e 19 then onE e none (nC := strC) else none) = some x) : ∃ k p, e = .Constant (.str x) k p := by
 obtain ⟨h, h'⟩ := bif_e h
 revert h'
 refine Expr.Constant.elim (motive_1 := fun e => onE e none (nC := strC) = some x → ∃ k p, e = .Constant (.str x) k p) e (Nat.eq_of_beq_eq_true h) fun v k p h => ⟨k, p, ?_⟩
 cases v with
 | str y => obtain rfl := Option.some.inj h; rfl
 | _ => exact nomatch h
theorem cKs_e {ko : Option Expr} {keys : List (Option Expr)} {ks : List Str} (h : cKs (ko :: keys) = some ks) : ∃ x k p r, ko = some (.Constant (.str x) k p) ∧ ks = x :: r ∧ cKs keys = some r := by
 obtain ⟨e, rfl, h0⟩ := bind_e h
 obtain ⟨x, h1, h3⟩ := bind_e h0
 obtain ⟨r, h2, rfl⟩ := map_e h3
 obtain ⟨k, p, rfl⟩ := str_key h1
 exact ⟨x, k, p, r, rfl, rfl, h2⟩
theorem cKs_all : ∀ {keys : List (Option Expr)} {ks : List Str}, cKs keys = some ks → keys.all (·.isSome) = true := fun {keys} => by
 induction keys with
 | nil => exact fun _ => rfl
 | cons k r ih =>
  intro ks h
  obtain ⟨x, k, p, r, rfl, _, h⟩ := cKs_e h
  exact ih h
section
variable {P : Pt} {C : Caller} {E : Expr → PE} (hE : SE P C E)
include hE
theorem pairs_ok {pos : Pos} : ∀ (keys : List (Option Expr)) (ks : List Str) (es : List Expr), cKs keys = some ks → keys.length = es.length → Snd P (fun ρ h vs r => KP P.c ρ h ks vs r) (evalPairs (pairTrees keys es P.env pos)) (ev C P.hd P.locs (es.foldr (fun e r => .cons (E e) r) .nil)) := fun keys => by
 induction keys with
 | nil =>
  intro ks es h hl ρ σ s A Q E' p
  cases es with
  | nil => cases h; exact evalPairs_nil (p.ret A ⟨rfl, rfl⟩)
  | cons _ _ => cases hl
 | cons ko keys ih =>
  intro ks es h hl ρ σ s A Q E' p
  cases es with
  | nil => cases hl
  | cons e es =>
   obtain ⟨x, k, ps, r, rfl, rfl, h'⟩ := cKs_e h
   refine evalPairs_cons (PySem.wpAny_Constant_str (wpAny_bind ?_))
   have A' := A.tok (s.toks + 1)
   refine step1 (s := { s with toks := s.toks + 1 }) (hE e _ _ _ A') p fun v σ₁ ρ₁ s₁ a X A₁ va p₁ => wpAny_bind (wpAny_standAt (wpAny_pure ?_))
   exact step (ih r es h' (Nat.succ.inj hl) _ _ _ A₁) p₁ fun vs σ₂ ρ₂ s₂ q X' A₂ kp p₂ => p₂.ret A₂ ⟨v, vs, _, _, q, rfl, rfl, X'.vr va, kp⟩
theorem n_dict {keys : List (Option Expr)} {es : List Expr} {pos : Pos} : Snd P (V1 P) (eval (.Dict keys es pos) P.env) (ev C P.hd P.locs (gdo (cKs keys) fun ks => gd (Nat.beq keys.length es.length && Nat.ble es.length 15) (.dict ks (cL E es)))) := by
 refine gdo_ok fun ks hk => gd_ok fun hb ρ σ s A Q E' p => ?_
 obtain ⟨h3, h4⟩ := and_e hb
 have h3 := Nat.eq_of_beq_eq_true h3
 have h4 := Nat.le_of_ble_eq_true h4
 obtain ⟨A₁, X₁, _⟩ := A.new (s' := { s with heap := s.heap.push { cls := .type "dict", data := .dict #[] } }) (p := ⟨s.heap.objs.size, none, false⟩) (o := .dict []) (fun b o e => Heap.get?_push_of_some _ e) (fun x hx => List.mem_singleton.mp hx ▸ g9 _) (nod1 _) (fun _ => ⟨rfl, rfl, Nat.zero_le _, .inl ⟨[], dict_new, rfl⟩⟩)
 have hat : (ρ ++ [⟨s.heap.objs.size, none, false⟩])[σ.length]? = some ⟨s.heap.objs.size, none, false⟩ := A.len ▸ snoc_last ρ _
 have p : Post P (V1 P) _ _ (bnd (ev C P.hd P.locs (cL E es)) (fun vs => fillM ks vs σ.length) (σ ++ [.dict []])) Q E' := p.ext X₁
 cases q : es.all noStar with
 | false =>
  unfold cL at p; rw [q] at p
  exact p.elim fun _ q => q.1.elim fun _ q => q.1.elim
 | true =>
 unfold cL at p; rw [q] at p
 cases es with
 | nil =>
  obtain rfl := List.length_eq_zero_iff.mp h3
  obtain rfl := Option.some.inj hk
  refine wpAny_Dict_empty ?_
  obtain ⟨_, ⟨e2, _, _, _, rfl⟩, p⟩ := p.nil
  exact Post.one p .refl (s' := { s with heap := s.heap.push { cls := .type "dict", data := .dict #[] } }) ((set_same e2).symm ▸ A₁) ⟨_, hat, rfl⟩
 | cons e es =>
 have hall := cKs_all hk
 have hn := pairTrees_length keys (e :: es) P.env pos hall h3
 refine wpAny_Dict_pairs (knd := P.c.sk) (zip_pairTrees keys (e :: es) P.env pos hall h3) (fun h => by rw [h, h3] at hn; cases hn) ((hn.trans h3).symm ▸ h4) ?_
 refine step (s := { s with heap := s.heap.push { cls := .type "dict", data := .dict #[] } }) (pairs_ok hE keys ks (e :: es) hk h3 _ _ _ A₁) p fun vs σ₂ ρ₂ s₂ r X₂ A₂ kp p₂ => ?_
 obtain ⟨_, ⟨e2, hl, hks, hnd, rfl⟩, p₂⟩ := p₂
 obtain ⟨q, e, e1, _⟩ := X₂.pre _ _ hat
 have e1 : q.a = s.heap.objs.size := e1
 obtain ⟨hx, hd, _, ⟨rk, h1, rfl⟩ | ⟨h, _⟩⟩ := A₂.of e e2
 · obtain ⟨kvs, f1, f2, f3⟩ := kp.zip
   refine ⟨kvs, f1, e1 ▸ h1, fun h' g1 g2 => ?_⟩
   rw [merged_nodup kvs [] (f2 ▸ hnd)] at g1
   have hz : ((ks.map MV.str).zip vs).length ≤ LIM := Nat.le_trans (List.length_zip ▸ Nat.min_le_left ..) (Nat.le_trans (List.length_map (as := ks) .. ▸ hks) (by decide))
   obtain ⟨A', X⟩ := A₂.putD (t := s₂.toks + r.length) (h' := h') (o' := .dict ((ks.map MV.str).zip vs)) e hx (e1 ▸ g2) fun ht => ⟨hx, hd, hz, .inl ⟨kvs, e1 ▸ g1, f3.mono fun _ _ => And.imp_right (VR.mono (.refl _) ht)⟩⟩
   exact Post.one p₂ X A' ⟨q, e, congrArg _ e1.symm⟩
 · exact absurd rfl h
end
theorem un_e {α : Type} {vs : List MV} {k : MV → MM α} {σ : St} {r : Rs α} (h : un vs k σ r) : ∃ v, vs = [v] ∧ k v σ r := by
 cases vs with
 | nil => exact h.elim
 | cons v t =>
  cases t with
  | nil => exact ⟨v, rfl, h⟩
  | cons _ _ => exact h.elim
theorem du_e {α : Type} {vs : List MV} {k : MV → MV → MM α} {σ : St} {r : Rs α} (h : du vs k σ r) : ∃ v w, vs = [v, w] ∧ k v w σ r := by
 cases vs with
 | nil => exact h.elim
 | cons v t =>
  obtain ⟨w, rfl, h⟩ := un_e (k := k v) (vs := t) (σ := σ) (r := r) (by
   cases t with
   | nil => exact h
   | cons w t => cases t <;> exact h)
  exact ⟨v, w, rfl, h⟩
theorem cls_e {o : Option (Bool × Nat)} {c : Nat} (h : clsOf o = some c) : o = some (true, c) := by
 obtain ⟨⟨b, i⟩, rfl, h⟩ := bind_e h
 obtain ⟨h1, h2⟩ := bif_e h
 obtain rfl := Option.some.inj h2
 obtain rfl : b = true := h1
 rfl
theorem name_e {e : Expr} {x : Str} (h : nameOf e = some x) : ∃ p, e = .Name x p := by
 obtain ⟨h, h'⟩ := bif_e h
 revert h'
 exact Expr.Name.elim (motive_1 := fun e => onE e none (nN := fun x _ => some x) = some x → ∃ p, e = .Name x p) e (Nat.eq_of_beq_eq_true h) fun y p h => ⟨p, Option.some.inj h ▸ rfl⟩
theorem cL_e {E : Expr → PE} {es : List Expr} (h : es.all noStar = true) : cL E es = es.foldr (fun e r => .cons (E e) r) .nil := by unfold cL; rw [h]; rfl
theorem call_he {f : Expr} (h : isAttr f = false) (as : List Expr) (pos : Pos) (env : Env) : eval (.Call f as [] pos) env = (do callWith pos (← eval f env) [] (backTo pos (starEach as env)) (backToKw pos (keywordEach [] env))) := by
 cases f with
 | Attribute => cases h
 | _ => rfl
theorem lk_99 {σ : St} {v : MV} {o : Op} {pre : List MV} (h : Lk 99 σ v o pre) : ∃ f, v = .fn f ∧ o = .call ∧ pre = [.fn f] := by
 cases h with
 | @call f => exact ⟨f, rfl, rfl, rfl⟩
 | fld h => cases h
 | meth h => cases h
 | _ h => exact absurd h (by decide)
section
variable {P : Pt} {C : Caller} (hC : CallOK P C)
theorem one_ok {t : Sem Value} {m : MM MV} {ρ : List Ad} {σ : St} {s : Shared} (h : SndAt P (VR P.c) t m ρ σ s) : SndAt P (V1 P) t (one m) ρ σ s := fun Q E p => step h p fun b σ₁ ρ₁ s₁ a X A va p => p.ret A ⟨b, rfl, va⟩
variable {E T : Expr → PE} (hE : SE P C E) {as : List Expr} {pos : Pos} (hs : as.all noStar = true)
include hC hE hs
theorem call_VL {ρ : List Ad} {σ : St} {s : Shared} (A : At P ρ σ s) {o : Op} {pre : List MV} {fx : Value × List Value} {Q : Value → Shared → Prop} {E' : Value → Shared → Prop} (v : VL P ρ s.heap o pre fx)
 (hp : Post P (V1 P) ρ s.heap (bnd (ev C P.hd P.locs (cL E as)) (fun vs => prim C P.hd o (pre ++ vs)) σ) Q E') : wpAny P.M P.A (callWith pos fx.1 fx.2 (backTo pos (starEach as P.env)) []) Q E' s := by
 rw [cL_e hs] at hp
 obtain ⟨f, first⟩ := fx
 rcases v with ⟨g, r, rfl, rfl, h1, hb, h2⟩ | ⟨k, v, x, rfl, rfl, h1, h2⟩
 · obtain rfl : f = .ref (P.c.D.fn g) := h1
   refine snd_with A hE hs (keep_in (A.ok.top.keepF g hb)) hp fun vs σ₁ ρ₁ s₁ xs X A₁ va p => ?_
   obtain ⟨r', ⟨g', args, e, h⟩, q⟩ := p
   obtain ⟨e1, rfl⟩ := List.cons.inj e
   cases e1
   exact one_ok (hC.fn _ hb _ _ _ _ _ A₁ (VRs.all ▸ (VRs.all ▸ X.vrs h2).append (VRs.all ▸ va))) _ _ ⟨r', h, q⟩
 · obtain ⟨rfl, rfl⟩ := Prod.mk.inj h1
   refine snd_with A hE hs keep_builtin hp fun vs σ₁ ρ₁ s₁ xs X A₁ va p => ?_
   obtain ⟨r', ⟨v', args, e, h⟩, q⟩ := p
   obtain ⟨rfl, rfl⟩ := List.cons.inj e
   exact snd_bm A₁ h (X.vr h2) va q
theorem n_callV {f : Expr} {p : PE} (hf : Snd P (V1 P) (eval f P.env) (ev C P.hd P.locs p)) (h : isAttr f = false) : Snd P (V1 P) (eval (.Call f as [] pos) P.env) (ev C P.hd P.locs (.meth p 99 (cL E as))) := fun ρ σ s A Q E' p => by
 refine Call_ (step1 (hf _ _ _ A) p fun v σ₁ ρ₁ s₁ a X A₁ va p₁ => ?_) (call_he h as pos P.env)
 obtain ⟨r, ⟨o, pre, lk, h⟩, q⟩ := p₁
 obtain ⟨g, rfl, rfl, rfl⟩ := lk_99 lk
 obtain ⟨rfl, hb⟩ := va
 exact call_VL hC hE hs A₁ (fx := (_, [])) (.inl ⟨_, [], rfl, rfl, rfl, hb, rfl⟩) ⟨r, h, q⟩
theorem n_callN {x : Str} {npos : Pos} : Snd P (V1 P) (eval (.Call (.Name x npos) as [] pos) P.env) (ev C P.hd P.locs (cCallN P.sc P.names E x as)) := by
 unfold cCallN
 cases hc : clsOf (globOf P.sc x) with
 | some c =>
  refine gd_ok fun hk ρ σ s A Q E' p => Call_ (glob_at A (cls_e hc) ?_)
  obtain ⟨b, hk⟩ := Option.isSome_iff_exists.mp hk
  rw [cL_e hs] at p
  exact snd_with A hE hs (keep_in (A.ok.top.keepC c b hk)) p fun vs σ₁ ρ₁ s₁ xs X A₁ va p => hC.new c b hk _ _ _ _ _ A₁ va _ _ p
 | none =>
 cases h1 : isBu P.sc x "len" with
 | true =>
  refine one1_ok fun v hv ρ σ s A Q E' p => ?_
  subst hv
  rw [cL_e hs] at p
  refine Call_ (ld_built A h1 bn_in.1 b_names.1 ?_)
  exact snd_with A hE hs keep_builtin p fun vs σ₁ ρ₁ s₁ xs X A₁ va p => by
   obtain ⟨r, h, q⟩ := p
   obtain ⟨v, rfl, h⟩ := un_e h
   obtain ⟨y, _, rfl, hy, rfl⟩ := va
   exact snd_len A₁ h hy q
 | false =>
 cases h2 : isBu P.sc x "str" with
 | true =>
  refine one1_ok fun v hv ρ σ s A Q E' p => ?_
  subst hv
  rw [cL_e hs] at p
  refine Call_ (ld_built A h2 bn_in.2.1 b_names.2.1 ?_)
  exact snd_with A hE hs keep_type p fun vs σ₁ ρ₁ s₁ xs X A₁ va p => by
   obtain ⟨r, h, q⟩ := p
   obtain ⟨v, rfl, h⟩ := un_e h
   obtain ⟨y, _, rfl, hy, rfl⟩ := va
   exact snd_str A₁ h hy q
 | false =>
 cases h3 : isBu P.sc x "isinstance" with
 | true =>
  refine one1_ok fun y hy => gdo_ok fun c hc => one1_ok fun v hv ρ σ s A Q E' p => ?_
  obtain ⟨z, hz, hg⟩ := bind_e hc
  obtain ⟨zp, rfl⟩ := name_e hz
  obtain rfl : as = [v, .Name z zp] := (List.take_append_drop 1 as).symm.trans (hv ▸ hy ▸ rfl)
  refine Call_ (ld_built A h3 bn_in.2.2.1 b_names.2.2.1 ?_)
  rw [sems_eq _ _ hs]
  rw [cL_e (es := [v]) ((Bool.and_true _).trans (and_e hs).1)] at p
  refine callWith_of (P := fun h => P.K.In h) rfl keep_builtin (Calls.evalArgs_plain (Calls.spliced_cons ?_))
  refine step1 (hE v _ _ _ A) p.cons fun w σ₁ ρ₁ s₁ a X A₁ va p₁ => Calls.spliced_cons (glob_at A₁ (cls_e hg) (Calls.spliced_nil ⟨A₁.K, ?_⟩))
  obtain ⟨r, h, q⟩ := p₁.nil
  exact snd_isi A₁ h va q
 | false => exact n_callV hC hE hs (n_name x npos) rfl
theorem n_callM {o : Expr} {a : Str} {apos : Pos} (hp : (apos.endLine == pos.line) = true) (hl : as.length ≤ 20) : Snd P (V1 P) (eval (.Call (.Attribute o a apos) as [] pos) P.env) (ev C P.hd P.locs (cCallM P.sc P.names E o a as)) := by
 unfold cCallM
 cases hx : (nameOf o).bind fun x => bif (ixIn x P.names).isSome then none else some x with
 | none =>
  refine gd_ok fun ho => gdo_ok fun k hk ρ σ s A Q E' p => ?_
  have hk := ixIn_get hk
  have hn : k < 95 := nmS_len ▸ (List.getElem?_eq_some_iff.mp hk).1
  obtain rfl := Option.some.inj (hk.symm.trans (nmOf_get hn))
  refine MethodCall_ (step1 (hE o _ _ _ A) p fun v σ₁ ρ₁ s₁ a X A₁ va p₁ => ?_) (meth_he ho hp hs hl)
  obtain ⟨r, ⟨o, pre, lk, h⟩, q⟩ := p₁
  exact snd_look A₁ hn lk va fun k fx hv => call_VL hC hE hs (A₁.tok k) hv ⟨r, h, q⟩
 | some x =>
  refine gd_ok fun ha => ?_
  obtain ⟨x', hx', hx1⟩ := bind_e hx
  obtain ⟨np, rfl⟩ := name_e hx'
  obtain rfl : x' = x := by
   revert hx1
   cases (ixIn x' P.names).isSome with
   | true => exact nofun
   | false => exact Option.some.inj
  obtain rfl : a = nmOf 5 := (eq_of_beq ha).trans (by decide +kernel)
  cases he : isBu P.sc x' "Exception" with
  | true =>
   refine gd_ok fun _ ρ σ s A Q E' p => MethodCall_ (ld_built A he bn_in.2.2.2.2 b_names.2.2.2.2 (exM_ok A fun t => ?_)) (meth_he rfl hp hs hl)
   rw [cL_e hs] at p
   refine snd_with (s := { s with toks := t }) (A.tok t) hE hs keep_builtin p fun vs σ₁ ρ₁ s₁ xs X A₁ va p => ?_
   obtain ⟨r, h, q⟩ := p
   obtain ⟨v, w, rfl, i, fs, rfl, e2, rfl⟩ := du_e h
   obtain ⟨_, _, rfl, ⟨p, e, rfl⟩, y, _, rfl, hy, rfl⟩ := va
   exact exI_ok A₁ e (A₁.of e e2).1 fun s' X' A' => Post.one q X' A' rfl
  | false =>
   refine gdo_ok fun c hc => gd_ok fun h11 ρ σ s A Q E' p => ?_
   obtain rfl := Nat.eq_of_beq_eq_true h11
   refine MethodCall_ (glob_at A (cls_e hc) (host_ok A fun t => ?_)) (meth_he rfl hp hs hl)
   rw [cL_e hs] at p
   exact snd_with (s := { s with toks := t }) (A.tok t) hE hs (keep_in (A.ok.top.keepF baseFn rfl)) p fun vs σ₁ ρ₁ s₁ xs X A₁ va p => one_ok (hC.fn _ rfl _ _ _ _ _ A₁ va) _ _ p
omit hs
theorem n_call {f : Expr} {kw : List Keyword} : Snd P (V1 P) (eval (.Call f as kw pos) P.env) (ev C P.hd P.locs (cCall P.sc P.names E f as kw pos)) := by
 refine gd_ok fun h => ?_
 obtain ⟨h1, h⟩ := and_e h
 obtain ⟨hl, hs⟩ := and_e h
 obtain rfl := List.isEmpty_iff.mp h1
 cases hN : isName f with
 | true => exact Expr.Name.elim (motive_1 := fun f => Snd P (V1 P) (eval (.Call f as [] pos) P.env) (ev C P.hd P.locs (onE f .stuck (nN := fun x _ => cCallN P.sc P.names E x as)))) f (Nat.eq_of_beq_eq_true hN) fun x p => n_callN hC hE hs
 | false =>
  cases hA : isAttr f with
  | true => exact Expr.Attribute.elim (motive_1 := fun f => Snd P (V1 P) (eval (.Call f as [] pos) P.env) (ev C P.hd P.locs (onE f .stuck (nA := fun o a p => gd (p.endLine == pos.line) (cCallM P.sc P.names E o a as))))) f (Nat.eq_of_beq_eq_true hA) fun o a p => gd_ok fun hp => n_callM hC hE hs hp (Nat.le_of_ble_eq_true hl)
  | false => exact n_callV hC hE hs (hE f) hA
end
section
variable {P : Pt} {C : Caller} {E T : Expr → PE}
theorem t_plain {e : Expr} (he : plainT e = true) (hK : isK e 15 = false) (h : Snd P (V1 P) (eval e P.env) (ev C P.hd P.locs (E e))) : Snd P VB (isTrue e P.env (eval e P.env)) (ev C P.hd P.locs (.val (E e))) := fun ρ σ s A Q E' p => by
 refine isTrue_plain (step1 (h _ _ _ A) p fun v σ₁ ρ₁ s₁ a X A₁ va p₁ => ?_) ?_
 · obtain ⟨_, ⟨b, ht, rfl⟩, q⟩ := p₁
   exact snd_truth A₁ ht va fun k => q _ _ _ .refl (A₁.tok k) rfl
 · clear h p
   cases e with
   | Name => rfl
   | Attribute => rfl
   | Call => rfl
   | Subscript => rfl
   | BinOp => rfl
   | Constant => rfl
   | Compare => cases hK
   | _ => cases he
variable (hE : SE P C E) (hT : ST P C T)
theorem snd_vstk {α : Type} {V : List Ad → Heap → List MV → α → Prop} {t : Sem α} : Snd P V t (ev C P.hd P.locs (.val .stuck)) := fun _ _ _ _ _ _ p => p.elim fun _ q => q.1.elim fun _ q => q.1.elim
include hE in
theorem t_cmp {l : Expr} {os : List CmpOp} {rs : List Expr} {pos : Pos} {whole : Sem Value} : Snd P VB (isTrue (.Compare l os rs pos) P.env whole) (ev C P.hd P.locs (.val (one1 os fun o => one1 rs fun r => gd (!(behindInMarks o r)) (.op (.cmp (opC o)) (.cons (E l) (.cons (E r) .nil)))))) := by
 cases os with
 | nil => exact snd_vstk
 | cons o t =>
 cases t with
 | cons => exact snd_vstk
 | nil =>
 cases rs with
 | nil => exact snd_vstk
 | cons r t =>
 cases t with
 | cons => exact snd_vstk
 | nil =>
 show Snd P VB _ (ev C P.hd P.locs (.val (gd (!(behindInMarks o r)) _)))
 cases hb : behindInMarks o r with
 | true => exact snd_vstk
 | false =>
 intro ρ σ s A Q E' p
 have p := Post.op (show Post P VB ρ s.heap (bnd (ev C P.hd P.locs (.op (.cmp (opC o)) (.cons (E l) (.cons (E r) .nil)))) _ σ) Q E' from p)
 refine wpAny_isTrue_Compare1 (step1 (hE l _ _ _ A) p.cons fun v σ₁ ρ₁ s₁ a X A₁ va p₁ => step1 (hE r _ _ _ A₁) p₁.cons fun w σ₂ ρ₂ s₂ b X₂ A₂ vb p₂ => ?_) hb
 refine step1 (m := fun σ => PCmp σ (opC o) v w) (fun Q E z => z.elim fun r z => by rw [opC_of o]; exact snd_cmp A₂ z.1 (X₂.vr va) vb z.2) p₂.nil fun u σ₃ ρ₃ s₃ c X₃ A₃ vc p₃ => ?_
 obtain ⟨_, ⟨b, ht, rfl⟩, q⟩ := p₃
 exact snd_truth A₃ ht vc fun k => q _ _ _ .refl (A₃.tok k) rfl
include hT in
theorem t_all (o : BoolOp) : ∀ vs : List Expr, Snd P VB (allTrue o vs P.env) (ev C P.hd P.locs (vs.foldr (fun v r => .tcons (isAnd o) (T v) r) (.tnil (isAnd o)))) := fun vs => by
 induction vs with
 | nil =>
  intro ρ σ s A Q E' p
  cases o with
  | And => exact wpAny_allTrue_And_nil (p.ret A rfl)
  | Or => exact wpAny_allTrue_Or_nil (p.ret A rfl)
 | cons v vs ih =>
  intro ρ σ s A Q E' p
  have main : ∀ us σ₁ ρ₁ s₁ a, Ext ρ s.heap ρ₁ s₁.heap → At P ρ₁ σ₁ s₁ → us = [.bool a] → Post P VB ρ₁ s₁.heap (un us (fun v σ r => ∃ b, v = .bool b ∧ (bif b == isAnd o then ev C P.hd P.locs (vs.foldr (fun v r => .tcons (isAnd o) (T v) r) (.tnil (isAnd o))) σ r else r = .ok [.bool b] σ)) σ₁) Q E' →
   (a = isAnd o → wpAny P.M P.A (allTrue o vs P.env) Q E' s₁) ∧ (a = !(isAnd o) → Q a s₁) := by
   rintro _ σ₁ ρ₁ s₁ a X A₁ rfl ⟨r, ⟨b, hb, hr⟩, q⟩
   cases hb
   refine ⟨?_, ?_⟩
   · rintro rfl
     rw [beq_self_eq_true] at hr
     exact ih _ _ _ A₁ _ _ ⟨r, hr, q⟩
   · rintro rfl
     rw [show ((!isAnd o) == isAnd o) = false by cases isAnd o <;> rfl] at hr
     obtain rfl := hr
     exact q _ _ _ .refl A₁ rfl
  cases o with
  | And =>
   refine wpAny_allTrue_And_cons (step (hT v _ _ _ A) p fun us σ₁ ρ₁ s₁ a X A₁ e p₁ => ?_)
   cases a with
   | true => exact (main us σ₁ ρ₁ s₁ _ X A₁ e p₁).1 rfl
   | false => exact (main us σ₁ ρ₁ s₁ _ X A₁ e p₁).2 rfl
  | Or =>
   refine wpAny_allTrue_Or_cons (step (hT v _ _ _ A) p fun us σ₁ ρ₁ s₁ a X A₁ e p₁ => ?_)
   cases a with
   | true => exact (main us σ₁ ρ₁ s₁ _ X A₁ e p₁).2 rfl
   | false => exact (main us σ₁ ρ₁ s₁ _ X A₁ e p₁).1 rfl
variable (hC : CallOK P C)
include hC hE hT
theorem cE1_ok : SE P C (cE1 P.sc P.names E T) := fun e => by
 cases e with
 | Name x p => exact n_name x p
 | Constant v k p => exact n_const v k p
 | Attribute => exact n_attr hE
 | Subscript => exact n_sub hE
 | BinOp => exact n_bin hE
 | Compare => exact n_cmp hE
 | UnaryOp => exact n_un hE
 | BoolOp o vs p => exact n_bool hE o p vs
 | IfExp => exact n_ite hE hT
 | List => exact n_list hE
 | Tuple => exact n_tup hE
 | Dict => exact n_dict hE
 | Call => exact n_call hC hE
 | _ => exact snd_stk
theorem cT1_ok : ST P C (cT1 (cE1 P.sc P.names E T) T) := fun e => by
 have hv : plainT e = true → isK e 15 = false → Snd P VB (isTrue e P.env (eval e P.env)) (ev C P.hd P.locs (.val (cE1 P.sc P.names E T e))) := fun h h' => t_plain h h' (cE1_ok hE hT hC e)
 cases e with
 | Name => exact hv rfl rfl
 | Constant => exact hv rfl rfl
 | Attribute => exact hv rfl rfl
 | Subscript => exact hv rfl rfl
 | BinOp => exact hv rfl rfl
 | Call => exact hv rfl rfl
 | Compare => exact t_cmp hE
 | UnaryOp o v p =>
  cases o with
  | Not =>
   intro ρ σ s A Q E' p
   refine isTrue_not (step (hT v _ _ _ A) p fun us σ₁ ρ₁ s₁ a X A₁ e p₁ => ?_)
   obtain rfl := e
   obtain ⟨_, ⟨b, hb, rfl⟩, q⟩ := p₁
   cases hb
   exact q _ _ _ .refl A₁ rfl
  | _ => exact snd_stk
 | BoolOp o vs p => exact fun ρ σ s A Q E' p => wpAny_isTrue_BoolOp (t_all hT o vs _ _ _ A _ _ p)
 | _ => exact snd_stk
omit hE hT
theorem cET_ok : ∀ n, SE P C (cET P.sc P.names n).1 ∧ ST P C (cET P.sc P.names n).2 := fun n => by
 induction n with
 | zero => exact ⟨fun _ => snd_stk, fun _ => snd_stk⟩
 | succ n ih => exact ⟨cE1_ok ih.1 ih.2 hC, cT1_ok ih.1 ih.2 hC⟩
theorem cE_ok : SE P C (cE P.sc P.names) := (cET_ok hC 30).1
theorem cT_ok : ST P C (cT P.sc P.names) := (cET_ok hC 30).2
end
noncomputable def VF (P : Pt) (ρ : List Ad) (h : Heap) : Fl → Flow → Prop
 | .nxt, fl => fl = .next
 | .ret v, fl => ∃ y, fl = .ret y ∧ VR P.c ρ h v y
noncomputable def PostSR (P : Pt) (ρ : List Ad) (h : Heap) (Q : Flow → Shared → Prop) (E : Value → Shared → Prop) : RS → Prop
 | .ok f L σ' => ∀ ρ' s' m fl, Ext ρ h ρ' s'.heap → At (P.at L m) ρ' σ' s' → VF P ρ' s'.heap f fl → Q fl s'
 | .err e L σ' => ∀ ρ' s' m p, Ext ρ h ρ' s'.heap → At (P.at L m) ρ' σ' s' → ρ'[e]? = some p → p.x = true → E (.ref p.a) s'
noncomputable def PostS (P : Pt) (ρ : List Ad) (h : Heap) (m : RS → Prop) (Q : Flow → Shared → Prop) (E : Value → Shared → Prop) : Prop := ∃ R, m R ∧ PostSR P ρ h Q E R
noncomputable def SndS (P : Pt) (t : Sem Flow) (mm : Loc → SM) : Prop := ∀ L m ρ σ s, At (P.at L m) ρ σ s → ∀ Q E, PostS P ρ s.heap (mm L σ) Q E → wpAny P.M P.A t Q E s
section
variable {P : Pt} {ρ ρ' : List Ad} {σ σ' : St} {h h' : Heap} {Q : Flow → Shared → Prop} {E : Value → Shared → Prop} {L : Loc} {m : Str → Option Value} {s : Shared}
theorem PostSR.ext {r : RS} (p : PostSR P ρ h Q E r) (X : Ext ρ h ρ' h') : PostSR P ρ' h' Q E r := by
 cases r with
 | ok f L σ' => exact fun ρ' s' m fl x => p ρ' s' m fl (X.trans x)
 | err e L σ' => exact fun ρ' s' m q x => p ρ' s' m q (X.trans x)
theorem PostS.ext {m : RS → Prop} (p : PostS P ρ h m Q E) (X : Ext ρ h ρ' h') : PostS P ρ' h' m Q E := p.imp fun _ => And.imp_right (·.ext X)
theorem PostS.map {m m' : RS → Prop} (p : PostS P ρ h m Q E) (f : ∀ r, m r → m' r) : PostS P ρ h m' Q E := p.imp fun r => And.imp_left (f r)
theorem PostS.to {α β : Type} {V : List Ad → Heap → β → α → Prop} {m₁ : MM β} {f : β → SM} {K : α → Shared → Prop} (p : PostS P ρ h (inS m₁ L f σ) Q E)
 (k : ∀ b σ₁ ρ₁ s₁ a, Ext ρ h ρ₁ s₁.heap → At (P.at L m) ρ₁ σ₁ s₁ → V ρ₁ s₁.heap b a → PostS P ρ₁ s₁.heap (f b σ₁) Q E → K a s₁) : Post (P.at L m) V ρ h (m₁ σ) K E := by
 obtain ⟨R, ⟨q, h1, h2⟩, p⟩ := p
 refine ⟨q, h1, ?_⟩
 cases q with
 | ok b σ₁ => exact fun ρ' s' a x y z => k b σ₁ ρ' s' a x y z ⟨R, h2, p.ext x⟩
 | err e σ₁ => cases h2; exact fun ρ' s' q => p ρ' s' m q
theorem stepS1 {t : Sem Value} {m₁ : MM (List MV)} {f : List MV → SM} {K : Value → Shared → Prop} (h₁ : SndAt (P.at L m) (V1 (P.at L m)) t m₁ ρ σ s) (hp : PostS P ρ s.heap (inS m₁ L f σ) Q E)
 (k : ∀ v σ₁ ρ₁ s₁ a, Ext ρ s.heap ρ₁ s₁.heap → At (P.at L m) ρ₁ σ₁ s₁ → VR P.c ρ₁ s₁.heap v a → PostS P ρ₁ s₁.heap (f [v] σ₁) Q E → K a s₁) : wpAny P.M P.A t K E s :=
 h₁ K E <| hp.to fun us σ₁ ρ₁ s₁ a X A v p => by
  obtain ⟨v, rfl, hv⟩ := v
  exact k v σ₁ ρ₁ s₁ a X A hv p
theorem PostS.next {m : Str → Option Value} {s' : Shared} (p : PostS P ρ h (nxt L σ) Q E) (X : Ext ρ h ρ' s'.heap) (A : At (P.at L m) ρ' σ s') : Q .next s' := by
 obtain ⟨_, rfl, p⟩ := p
 exact p ρ' s' m _ X A rfl
theorem PostS.act {m₁ : MM (List MV)} (p : PostS P ρ h (inS m₁ L (fun _ => nxt L) σ) Q E) : Post (P.at L m) (fun _ _ _ _ => True) ρ h (m₁ σ) (fun (_ : Unit) s' => Q .next s') E := p.to fun _ _ _ _ _ _ A _ p => p.next .refl A
theorem snd_sstk {t : Sem Flow} : SndS P t (fun _ _ _ => False) := fun _ _ _ _ _ _ _ _ p => p.elim fun _ q => q.1.elim
theorem store_ok (A : At (P.at L m) ρ σ s) {i : Nat} {x : Str} {v : MV} {y : Value} (e : P.names[i]? = some x) (vy : VR P.c ρ s.heap v y) {Q : Unit → Shared → Prop}
 (h : ∀ s' m', Ext ρ s.heap ρ s'.heap → At (P.at (L.set i (some v)) m') ρ σ s' → Q () s') : wpAny P.M P.A (storeName P.env x y) Q E s := by
 refine wpAny_storeName_local (env := P.env) (A.ok.kinds x (List.mem_of_getElem? e)) A.fr.1 (fun h' n hs => ?_) (by rw [show P.env.scope.kind = .function from A.kf]; rfl)
 obtain ⟨A', X⟩ := A.frame (s' := { s with heap := h', toks := s.toks + 1 }) (sameBut_keep hs) n (A.loc.put A.ok.nodup e fun v h => ⟨y, rfl, Option.some.inj h ▸ vy⟩)
 exact h _ _ X A'
end
theorem swaps_no {v : Expr} {t : Option Expr} {l : Nat} {env : Env} (h : noComp v = true) : swapsWith v t l env = pure false := by
 cases v with
 | ListComp => cases h
 | SetComp => cases h
 | DictComp => cases h
 | _ => rfl
theorem assign1 {t v : Expr} {pos : Pos} {Q : Flow → Shared → Prop} {E : Value → Shared → Prop} {s : Shared} {M : Model} {A : Around} {env : Env} (hv : noComp v = true) (ht : (assignEach [t] env).map (·.2) = [assign t env]) (hw : swappedStores [t] v env = pure none)
 (h : wpAny M A (eval v env) (fun v s₁ => wpAny M A (assign t env v) (fun _ => Q .next) E s₁) E s) : wpAny M A (exec (.Assign [t] v pos) env) Q E s :=
 wpAny_Assign_stores (wpAny_mono h (fun y s₁ h₁ => ht ▸ h₁) fun _ _ x => x) (swaps_no hv) hw
noncomputable abbrev SEs (P : Pt) (C : Caller) (E : Expr → PE) : Prop := ∀ L m, SE (P.at L m) C E
noncomputable abbrev STs (P : Pt) (C : Caller) (T : Expr → PE) : Prop := ∀ L m, ST (P.at L m) C T
noncomputable abbrev exs (C : Caller) (P : Pt) (p : PS) : Loc → SM := ex C p P.hd
section
variable {P : Pt} {C : Caller} {E T : Expr → PE} {pos : Pos}
theorem gdS_ok {b : Bool} {t : Sem Flow} {p : PS} (h : b = true → SndS P t (exs C P p)) : SndS P t (exs C P (gdS b p)) := by
 cases b with
 | true => exact h rfl
 | false => exact snd_sstk
theorem gso_ok {β : Type} {o : Option β} {t : Sem Flow} {p : β → PS} (h : ∀ a, o = some a → SndS P t (exs C P (p a))) : SndS P t (exs C P (gso o p)) := by
 cases o with
 | some a => exact h a rfl
 | none => exact snd_sstk
variable (hE : SEs P C E) (hT : STs P C T)
include hE
theorem s_asg {i : Nat} {x : Str} {v : Expr} {p' : Pos} (hx : P.names[i]? = some x) (hv : noComp v = true) : SndS P (exec (.Assign [.Name x p'] v pos) P.env) (exs C P (.asg i (E v))) := fun L m ρ σ s A Q E' p => by
 refine wpAny_Assign_Name (stepS1 (hE L m v _ _ _ A) p fun b σ₁ ρ₁ s₁ a X A₁ va p₁ => ?_) (swaps_no hv)
 obtain ⟨_, ⟨_, e, rfl⟩, q⟩ := p₁
 cases e
 exact store_ok A₁ hx va fun s' m' X' A' => q _ _ _ _ X' A' rfl
theorem s_setA {o v : Expr} {a : Str} {n : Nat} {p' : Pos} (hk : nmS[n]? = some a) (hv : noComp v = true) : SndS P (exec (.Assign [.Attribute o a p'] v pos) P.env) (exs C P (.act (.setA n) (.cons (E v) (.cons (E o) .nil)))) := fun L m ρ σ s A Q E' p => by
 have hn : n < 95 := nmS_len ▸ (List.getElem?_eq_some_iff.mp hk).1
 obtain rfl := Option.some.inj (hk.symm.trans (nmOf_get hn))
 have p := p.act (m := m)
 refine assign1 hv rfl rfl (step1 (P := P.at L m) (hE L m v _ _ _ A) p.cons fun v σ₁ ρ₁ s₁ a X A₁ va p₁ => ?_)
 show wpAny _ _ (do
  let ov ← holding [a] (eval o P.env)
  standAt _
  holding [a, ov] (setAttr ov (nmOf n) a)
  release [a, ov] []) _ _ _
 refine wpAny_bind (wpAny_holding (step1 (P := P.at L m) (hE L m o _ _ _ A₁) p₁.cons fun w σ₂ ρ₂ s₂ b X' A₂ vb p₂ => wpAny_bind (wpAny_standAt (wpAny_bind (wpAny_holding ?_)))))
 obtain ⟨r, h, q⟩ := p₂.nil
 exact wpAny_mono (snd_setA (P := P.at L m) A₂ hn h (X'.vr va) vb q) (fun _ _ h => wpAny_release h) fun _ _ e => e
theorem s_setS {o i v : Expr} {p' : Pos} (hi : plainI i = true) (hv : noComp v = true) : SndS P (exec (.Assign [.Subscript o i p'] v pos) P.env) (exs C P (.act .setS (.cons (E v) (.cons (E o) (.cons (E i) .nil))))) := fun L m ρ σ s A Q E' p => by
 have p := p.act (m := m)
 refine assign1 hv rfl rfl (step1 (P := P.at L m) (hE L m v _ _ _ A) p.cons fun v σ₁ ρ₁ s₁ a X A₁ va p₁ => ?_)
 have he : assign (.Subscript o i p') P.env a = (do
  let ov ← holding [a] (eval o P.env)
  let iv ← holding [a, ov] (eval i P.env)
  standAt p'
  holding [a, ov, iv] (setItem ov iv a)
  release [a, ov, iv] []) := by
  clear p p₁
  cases i with
  | Slice => cases hi
  | _ => rfl
 rw [he]
 refine wpAny_bind (wpAny_holding (step1 (P := P.at L m) (hE L m o _ _ _ A₁) p₁.cons fun w σ₂ ρ₂ s₂ b X₂ A₂ vb p₂ => wpAny_bind (wpAny_holding (step1 (P := P.at L m) (hE L m i _ _ _ A₂) p₂.cons fun u σ₃ ρ₃ s₃ c X₃ A₃ vc p₃ => wpAny_bind (wpAny_standAt (wpAny_bind (wpAny_holding ?_)))))))
 obtain ⟨r, h, q⟩ := p₃.nil
 exact wpAny_mono (snd_setS (P := P.at L m) A₃ h ((X₂.trans X₃).vr va) (X₃.vr vb) vc q) (fun _ _ h => wpAny_release h) fun _ _ e => e
theorem s_expr {v : Expr} (hv : noComp v = true) : SndS P (exec (.Expr v pos) P.env) (exs C P (.act .drop (.cons (E v) .nil))) := fun L m ρ σ s A Q E' p => by
 refine wpAny_Expr_any (step1 (P := P.at L m) (hE L m v _ _ _ A) (p.act (m := m)).cons fun v σ₁ ρ₁ s₁ a X A₁ va p₁ => p₁.nil.ret (V := fun _ _ _ _ => True) (a := ()) A₁ trivial) ?_ (swaps_no hv)
 unfold interactive; rw [show P.env.scope.kind = .function from A.kf]; rfl
theorem s_ret {v : Expr} : SndS P (exec (.Return (some v) pos) P.env) (exs C P (.ret (E v))) := fun L m ρ σ s A Q E' p =>
 wpAny_Return_some (stepS1 (hE L m v _ _ _ A) p fun b σ₁ ρ₁ s₁ a X A₁ va p₁ => by
  obtain ⟨_, ⟨_, e, rfl⟩, q⟩ := p₁
  cases e
  exact q _ _ _ _ .refl A₁ ⟨a, rfl, va⟩)
omit hE in
theorem s_ret0 : SndS P (exec (.Return none pos) P.env) (exs C P (.ret (.cst .none))) := fun L m ρ σ s A Q E' p => by
 obtain ⟨_, ⟨_, rfl, _, e, rfl⟩, q⟩ := p
 cases e
 exact wpAny_Return_none (q _ _ _ _ .refl A ⟨_, rfl, rfl⟩)
theorem s_aug {o v : Expr} {a : Str} {n : Nat} {op : Operator} {b : BOp} {p' : Pos} (hk : nmS[n]? = some a) (hb : opB op = some b) : SndS P (exec (.AugAssign (.Attribute o a p') op v pos) P.env) (exs C P (.aug (E o) n b (E v))) := fun L m ρ σ s A Q E' p => by
 have hn : n < 95 := nmS_len ▸ (List.getElem?_eq_some_iff.mp hk).1
 obtain rfl := Option.some.inj (hk.symm.trans (nmOf_get hn))
 refine wpAny_AugAssign_AttributeAny (step1 (P := P.at L m) (hE L m o _ _ _ A) (p.act (m := m)) fun u σ₁ ρ₁ s₁ x X₁ A₁ v1 p₁ => ?_)
 refine step1 (P := P.at L m) (m := fun σ => PAttr n σ u) (fun Q E z => z.elim fun r z => snd_getA (P := P.at L m) A₁ hn z.1 v1 z.2) p₁ fun u₂ σ₂ ρ₂ s₂ x₂ X₂ A₂ v2 p₂ => ?_
 refine step1 (P := P.at L m) (hE L m v _ _ _ A₂) p₂ fun u₃ σ₃ ρ₃ s₃ x₃ X₃ A₃ v3 p₃ => ?_
 obtain ⟨r, ⟨q, ⟨i, j, rfl, rfl, h⟩, h'⟩, p₄⟩ := p₃
 obtain ⟨t, rfl⟩ := X₃.vr v2
 obtain ⟨t', rfl⟩ := v3
 have fin : ∀ k z, q = .ok [.int k] σ₃ → wpAny P.M P.A (setAttr x (nmOf n) (.int k z)) (fun _ => Q .next) E' { s₃ with toks := s₃.toks + 1 } := fun k z e => by
  subst e
  exact snd_setA (P := P.at L m) (s := { s₃ with toks := s₃.toks + 1 }) (A₃.tok _) hn h' ⟨z, rfl⟩ ((X₂.trans X₃).vr v1) p₄
 rcases h with ⟨rfl, rfl⟩ | ⟨rfl, rfl⟩ <;> cases opB_of hb
 · exact _root_.PySem.P.iadd_int (fin _ _ rfl)
 · exact _root_.PySem.P.isub_int (fin _ _ rfl)
omit hE
include hT in
theorem s_ite {t : Expr} {b o : List Stmt} {pb po : PS} (hb : SndS P (execs b P.env) (exs C P pb)) (ho : SndS P (execs o P.env) (exs C P po)) : SndS P (exec (.If t b o pos) P.env) (exs C P (.ite (T t) pb po)) := fun L m ρ σ s A Q E' p => by
 refine wpAny_If (hT L m t _ _ _ A _ _ (p.to fun us σ₁ ρ₁ s₁ a X A₁ e p₁ => ?_))
 cases e
 obtain ⟨R, ⟨c, hc, hr⟩, q⟩ := p₁
 cases hc
 cases a with
 | true => exact hb L m _ _ _ A₁ _ _ ⟨R, hr, q⟩
 | false => exact ho L m _ _ _ A₁ _ _ ⟨R, hr, q⟩
theorem s_nil : SndS P (execs [] P.env) (exs C P .nil) := fun L m ρ σ s A Q E' p => wpAny_execs_nil (p.next .refl A)
theorem PostS.seq {ρ : List Ad} {σ : St} {h : Heap} {m : SM} {k : Loc → SM} {Q K : Flow → Shared → Prop} {E : Value → Shared → Prop} (p : PostS P ρ h (seqM m k σ) Q E)
 (h1 : ∀ L' σ' ρ' s' m', Ext ρ h ρ' s'.heap → At (P.at L' m') ρ' σ' s' → PostS P ρ' s'.heap (k L' σ') Q E → K .next s') (h2 : ∀ y s', Q (.ret y) s' → K (.ret y) s') : PostS P ρ h (m σ) K E := by
 obtain ⟨R, ⟨R₁, g1, g2⟩, p⟩ := p
 refine ⟨R₁, g1, ?_⟩
 cases R₁ with
 | err e L' σ' => cases g2; exact p
 | ok f L' σ' =>
  intro ρ' s' m' fl X A vf
  cases f with
  | nxt => cases vf; exact h1 L' σ' ρ' s' m' X A ⟨R, g2, p.ext X⟩
  | ret v =>
   cases g2
   obtain ⟨y, rfl, vy⟩ := vf
   exact h2 y s' (p ρ' s' m' _ X A ⟨y, rfl, vy⟩)
theorem s_cons {st : Stmt} {sts : List Stmt} {p q : PS} (h : SndS P (exec st P.env) (exs C P p)) (h' : SndS P (execs sts P.env) (exs C P q)) : SndS P (execs (st :: sts) P.env) (exs C P (.seq p q)) := fun L m ρ σ s A Q E' p =>
 wpAny_execs_cons (h L m _ _ _ A _ _ (p.seq (fun L' σ' ρ' s' m' X A' p' => h' L' m' _ _ _ A' Q E' p') fun _ _ h => h))
end
noncomputable abbrev Pt.reb (P : Pt) (b : Addr → Option Obj) (hb : ∀ a o, P.c.h₁.get? a = some o → b a = some o) : Pt := { P with c := P.c.reb b hb }
theorem At.reb {P : Pt} {b : Addr → Option Obj} {hb : ∀ a o, P.c.h₁.get? a = some o → b a = some o} {ρ : List Ad} {σ : St} {s : Shared} (A : At P ρ σ s) (H : BL P.c b) (HT : BT P.c s.heap b) (HB : ∀ a o, b a = some o → s.heap.get? a = some o) (HF : ∀ a ∈ flat ρ, b a = none) (HL : ∀ e ∈ P.envs, b e.locals = none)
 (hs : ∃ o, b sysModules = some o) : At (P.reb b hb) ρ σ s :=
 have T := A.ok.top
 ⟨{ A.ok with top := { T with sysm := hs }, env := fun e he => ⟨(A.ok.env e he).1, (A.ok.env e he).2.1, HL e he⟩ }, A.len, fun i p o e1 e2 => (A.obj i p o e1 e2).reb H HT (.refl _) (.refl _) (fun _ _ _ e => e) (Tbs.of_keeps fun _ _ e => e), A.nod, HB, HF, A.fr, A.frs, A.gens, A.os,
  fun i x v e1 e2 => (A.loc i x v e1 e2).imp fun _ => And.imp_right (VR.reb H (.refl _) (.refl _)), A.hd⟩
noncomputable def keepB (c : Cx) (it : Addr) (o : Obj) : Addr → Option Obj := fun a => if a = it then some o else c.base a
section
variable {c : Cx} {it : Addr} {o : Obj}
theorem keep_up (hn : c.base it = none) {a : Addr} {o' : Obj} (e : c.base a = some o') : keepB c it o a = some o' := (if_neg fun q => nomatch (q ▸ hn).symm.trans e).trans e
theorem keepB_hb (hn : c.base it = none) : ∀ a o', c.h₁.get? a = some o' → keepB c it o a = some o' := fun a o' e => keep_up hn (c.hb a o' e)
theorem keep_eq {a : Addr} (h : a = it) : keepB c it o a = some o := if_pos h
theorem keep_ne {a : Addr} (h : a ≠ it) : keepB c it o a = c.base a := if_neg h
theorem keep_dn {a : Addr} (h : keepB c it o a = none) : c.base a = none := (keep_ne fun q => nomatch (keep_eq q).symm.trans h).symm.trans h
end
noncomputable abbrev Pt.keep (P : Pt) (it : Addr) (o : Obj) (hn : P.c.base it = none) : Pt := P.reb (keepB P.c it o) (keepB_hb hn)
noncomputable abbrev NoOne (P : Pt) (ρ : List Ad) (x : Addr) : Prop := x ∉ flat ρ ∧ P.c.base x = none ∧ ∀ e ∈ P.envs, e.locals ≠ x
section
variable {P : Pt} {it : Addr} {o : Obj} {ρ : List Ad} {σ : St} {s : Shared} {E : Value → Shared → Prop}
theorem At.keepIn {hn : P.c.base it = none} (A : At P ρ σ s) (ho : s.heap.get? it = some o) (hc : o.cls ≠ .type "traceback") (hf : NoOne P ρ it) : At (P.keep it o hn) ρ σ s := by
 refine A.reb (fun a o' e _ => keep_up hn e) (fun T o' e1 e2 e3 => (keep_ne fun q => ?_).trans e1) (fun a o' e => ?_) (fun a ha => (keep_ne fun q => ?_).trans (A.fresh a ha)) (fun e he => (keep_ne (hf.2.2 e he)).trans (A.ok.env e he).2.2) (A.ok.top.sysm.imp fun _ => keep_up hn)
 · subst q
   exact hc (Option.some.inj (ho.symm.trans e2) ▸ e3)
 · by_cases h : a = it
   · subst h; exact ho.trans ((keep_eq rfl).symm.trans e)
   · exact A.base a o' ((keep_ne h).symm.trans e)
 · subst q; exact hf.1 ha
theorem vr_keepIn {v : MV} {x : Value} {hn : P.c.base it = none} (r : VR P.c ρ s.heap v x) : VR (P.keep it o hn).c ρ s.heap v x := VR.reb (fun a o' e _ => keep_up hn e) (.refl _) (.refl _) r
theorem keep_bl {hn : P.c.base it = none} (hc : o.cls ≠ .type "list") : BL (P.keep it o hn).c P.c.base := fun a o' e h => (keep_ne fun q => hc (Option.some.inj ((keep_eq q).symm.trans e) ▸ h)).symm.trans e
theorem vr_keepOut {v : MV} {x : Value} {hn : P.c.base it = none} (hc : o.cls ≠ .type "list") (r : VR (P.keep it o hn).c ρ s.heap v x) : VR P.c ρ s.heap v x := VR.reb (c := (P.keep it o hn).c) (hb := P.c.hb) (keep_bl (hn := hn) hc) (.refl _) (.refl _) r
theorem At.keepOut {hn : P.c.base it = none} (A : At (P.keep it o hn) ρ σ s) (hc : o.cls ≠ .type "list") (hs : ∃ o, P.c.base sysModules = some o) : At P ρ σ s ∧ s.heap.get? it = some o ∧ NoOne P ρ it := by
 have no : ∀ {a}, (P.keep it o hn).c.base a = none → a ≠ it := fun h q => nomatch (keep_eq q).symm.trans h
 exact ⟨At.reb (P := P.keep it o hn) (hb := P.c.hb) A (keep_bl (hn := hn) hc) (fun T o' e _ _ => keep_dn e) (fun a o' e => A.base a o' (keep_up hn e)) (fun a ha => keep_dn (A.fresh a ha)) (fun e he => keep_dn (A.ok.env e he).2.2) hs,
  A.base it o (keep_eq rfl), fun hm => no (A.fresh it hm) rfl, hn, fun e he => no (A.ok.env e he).2.2⟩
theorem stop_ok (A : At P ρ σ s) (hf : NoOne P ρ it) (hq : Quiet s.heap it) {α : Type} {h' : Heap} {e : Addr} {oe : Obj} {vs : Array Value} {Q : α → Shared → Prop} {R : Value → Shared → Prop} (K : ∀ b o, b ≠ it → s.heap.get? b = some o → h'.get? b = some o) (he : h'.get? e = some oe) (hd : oe.data = .fields vs) (hsz : 2 < vs.size) (hn : s.heap.get? e = none)
 (h : ∀ h'', At P ρ σ { s with heap := h'' } → Ext ρ s.heap ρ h'' → (∃ o, h''.get? e = some o ∧ o.cls = oe.cls) → R (.ref e) { s with heap := h'' }) {B : Around} (hB : B.handled = P.A.handled) : wpAny P.M B (raiseNew (α := α) (.ref e)) Q R { s with heap := h' } := by
 obtain ⟨A', X⟩ := A.side (s' := { s with heap := h' }) K hf hq
 refine raiseNew_ok A' he hd hsz (fun i p _ _ i' q _ e1 hq => A.none_new hn (hq ▸ flat_mem e1 (.head _))) (h _ A' X ⟨_, he, rfl⟩) (fun i p _ e1 hx hne => ?_) B hB
 obtain ⟨A₂, X₂⟩ := A.side (s' := { s with heap := h'.update e (Obj.mapFields (·.setIfInBounds 2 (.ref p.a))) }) (fun b o n g => (Heap.get?_update_ne _ _ _ _ fun q => nomatch (q ▸ hn).symm.trans g).trans (K b o n g)) hf hq
 exact h _ A₂ X₂ ⟨_, Heap.get?_update_self _ he (Obj.isFreed_of_fields (Obj.data_mapFields hd _)), Obj.cls_mapFields _ _⟩
theorem iter_stop (A : At P ρ σ s) {xs : Array Value} {R : Value → Shared → Prop} {α : Type} {Q : α → Shared → Prop} (ho : s.heap.get? it = some o) (hd : o.data = .fields xs) (hsz : 0 < xs.size) (h1 : o.cls ≠ .type "tuple") (h2 : o.cls ≠ .type "traceback") (hf : NoOne P ρ it) {B : Around} (hB : B.handled = P.A.handled)
 (h : ∀ h'' e, At P ρ σ { s with heap := h'' } → Ext ρ s.heap ρ h'' → (∃ o, h''.get? e = some o ∧ o.cls = .type "StopIteration") → R (.ref e) { s with heap := h'' }) : wpAny P.M B (do setField (.ref it) 0 .none; Builtin.SmallTypes.stopIteration) Q R s := by
 refine wpAny_bind (wpAny_setField ho hd hsz ?_)
 unfold Builtin.SmallTypes.stopIteration newExc newTuple
 refine wpAny_bind (wpAny_bind (wpAny_newObj_type ?_ (by size_fits)))
 refine wpAny_bind (m := firstArgMember _ _) (wpAny_of_eq (a := Value.none) rfl ?_)
 refine wpAny_newObj_type ?_ (by size_fits)
 refine stop_ok A hf (quiet_of ho h1 h2) (fun b o' n g => Heap.get?_push_of_some _ (Heap.get?_push_of_some _ ((Heap.get?_update_ne _ _ _ _ n).trans g))) (Heap.get?_push_size _ rfl) rfl (by rw [Array.size_append]; exact Nat.lt_of_lt_of_le (by decide : 2 < 6) (Nat.le_add_right _ _)) ?_ (fun h'' A X i => h h'' _ A X i) hB
 refine Heap.get?_none_of_le ?_
 rw [Heap.size_push, Heap.size_after_update]
 exact Nat.le_succ _
theorem list_end (A : At P ρ σ s) {l : Addr} {i : Nat} {items : Array Value} {Q : Option Value → Shared → Prop} (hit : s.heap.IsListIter it l i) (hf : NoOne P ρ it) (hl : s.heap.IsList l items) (hn : items[i]? = none)
 (hQ : ∀ h', At P ρ σ { s with heap := h' } → Ext ρ s.heap ρ h' → Q none { s with heap := h' }) : wpAny P.M P.A (pyNext (.ref it)) Q E s := by
 obtain ⟨o, ho, hc, hd⟩ := id hit
 obtain ⟨ol, hol, _, nl, hdl⟩ := hl
 unfold pyNext
 refine wpAny_bind (wpAny_attempt (wpAny_callSpecial?_slot (name := Str.ofString "__next__") hit.typeIs slot_listiter_next
  (wpAny_call_entry slot_listiter_next hit.typeIs entry_listiter_next ?_ (args_listiter_next _))))
 show wpAny _ _ (field (.ref it) 0 >>= _) _ _ s
 refine wpAny_bind (wpAny_field ho hd (x := .ref l) rfl (wif_f Bool.false_ne_true ?_))
 show wpAny _ _ (field (.ref it) 1 >>= _) _ _ s
 refine wpAny_bind (wpAny_field ho hd (x := .int i 0) rfl ?_)
 show wpAny _ _ (seqItems? (.ref l) >>= _) _ _ s
 refine wpAny_bind (wpAny_seqItems hol hdl ?_)
 simp only [Int.toNat_natCast, hn]
 refine wpAny_bind (wpAny_rule (iter_stop A ho hd (by decide : 0 < 2) (hc ▸ by decide) (hc ▸ by decide) hf rfl fun h'' e A'' X'' i => ?_))
 exact wpAny_bind (wpAny_isInstance (T := "StopIteration") (b := true) i isSubtype_stop (wpAny_pure (hQ _ A'' X'')))
theorem tuple_end (A : At P ρ σ s) {l : Addr} {i : Nat} {items : Array Value} {Q : Option Value → Shared → Prop} (hit : s.heap.IsTupleIter it l i) (hf : NoOne P ρ it) (hl : s.heap.IsTuple l items) (hn : items[i]? = none)
 (hQ : ∀ h', At P ρ σ { s with heap := h' } → Ext ρ s.heap ρ h' → Q none { s with heap := h' }) : wpAny P.M P.A (pyNext (.ref it)) Q E s := by
 obtain ⟨o, ho, hc, hd⟩ := id hit
 obtain ⟨ol, hol, _, nl, hdl⟩ := hl
 unfold pyNext
 refine wpAny_bind (wpAny_attempt (wpAny_callSpecial?_slot (name := Str.ofString "__next__") hit.typeIs F.slot_tuple_iterator_next
  (wpAny_call_entry F.slot_tuple_iterator_next hit.typeIs F.entry_tuple_iterator_next ?_ (F.args_tuple_iterator_next_1 _))))
 show wpAny _ _ (field (.ref it) 0 >>= _) _ _ s
 refine wpAny_bind (wpAny_field ho hd (x := .ref l) rfl (wif_f Bool.false_ne_true ?_))
 show wpAny _ _ (field (.ref it) 1 >>= _) _ _ s
 refine wpAny_bind (wpAny_field ho hd (x := .int i 0) rfl ?_)
 show wpAny _ _ (seqItems? (.ref l) >>= _) _ _ s
 refine wpAny_bind (wpAny_seqItems hol hdl ?_)
 simp only [Int.toNat_natCast, hn]
 refine wpAny_bind (wpAny_rule (iter_stop A ho hd (by decide : 0 < 2) (hc ▸ by decide) (hc ▸ by decide) hf rfl fun h'' e A'' X'' i => ?_))
 exact wpAny_bind (wpAny_isInstance (T := "StopIteration") (b := true) i isSubtype_stop (wpAny_pure (hQ _ A'' X'')))
theorem unpack_ok (A : At P ρ σ s) {t : Addr} {vals : List Value} {Q : List Value → Shared → Prop} (ht : s.heap.IsTuple t vals.toArray)
 (hQ : ∀ h', At P ρ σ { s with heap := h' } → Ext ρ s.heap ρ h' → Q vals { s with heap := h' }) : wpAny P.M P.A (unpackItems (.ref t) vals.length none) Q E s := by
 have hlt : t ≠ s.heap.objs.size := by obtain ⟨o, ho, _⟩ := ht; exact Nat.ne_of_lt (Heap.lt_size ho)
 unfold unpackItems
 refine wpAny_bind ?_
 unfold notIterableAtAll
 refine wpAny_bind (wpAny_specialOf ht.typeIs F.slot_tuple_iter.lookup (wpAny_pure (wif_f Bool.false_ne_true ?_)))
 refine wpAny_bind (wpAny_holding (wpAny_pyIter_tuple ht ?_))
 refine wpAny_bind (wpAny_holding (wpAny_draw_tuple hlt vals.length 0 _ _ ⟨_, Heap.get?_push_size _ rfl, rfl, rfl⟩ (ht.push _) (Nat.le_of_eq (Nat.zero_add _)) fun h₁ hit₁ hs₁ => ?_))
 have hall : List.take vals.length (List.drop 0 vals.toArray.toList) = vals := List.take_length
 rw [hall]
 have ht₁ : h₁.IsTuple t vals.toArray := (ht.push _).extBut hs₁.extBut hlt
 obtain ⟨A₁, X₁⟩ := A.grow (s' := { s with heap := h₁ }) fun b o e => hs₁.extBut b o (Nat.ne_of_lt (Heap.lt_size e)) (Heap.get?_push_of_some _ e)
 refine wif_f (Nat.lt_irrefl _) (wpAny_bind (wpAny_holding (tuple_end A₁ hit₁ (A.noones (g9 s.heap)) ht₁ ?_ fun h₂ A₂ X₂ => wif_f Bool.false_ne_true (wpAny_pure (hQ h₂ A₂ (X₁.trans X₂))))))
 exact Array.getElem?_eq_none (by rw [Nat.zero_add]; exact Nat.le_refl _)
end
noncomputable abbrev backE (P : Pt) (E : Value → Shared → Prop) : Value → Shared → Prop := notedBy P.M P.A P.env fun e s' => cameBackBy P.M P.A P.env E e s'
section
variable {P : Pt} {ρ : List Ad} {σ : St} {h : Heap} {s : Shared} {Q K : Flow → Shared → Prop} {E : Value → Shared → Prop} {r : RS → Prop} {it : Addr} {o : Obj}
theorem PostS.back (p : PostS P ρ h r Q E) : PostS P ρ h r Q (backE P E) := p.imp fun R => And.imp_right fun p => by
 cases R with
 | ok f L σ' => exact p
 | err e L σ' =>
  intro ρ' s' m q X A e1 hx
  exact note_ok A e1 hx fun s₁ X₁ A₁ N => back_ok A₁ e1 N fun s₂ X₂ A₂ => p ρ' s₂ m q ((X.trans X₁).trans X₂) A₂ e1 hx
theorem PostS.seqK {hn : P.c.base it = none} {m : SM} {k : Loc → SM} (hc : o.cls ≠ .type "list") (hs : ∃ o, P.c.base sysModules = some o) (p : PostS P ρ h (seqM m k σ) Q E)
 (h1 : ∀ L' σ' ρ' s' m', Ext ρ h ρ' s'.heap → At (P.at L' m') ρ' σ' s' → s'.heap.get? it = some o → NoOne P ρ' it → PostS P ρ' s'.heap (k L' σ') Q E → K .next s') (h2 : ∀ y s', Q (.ret y) s' → K (.ret y) s') : PostS (P.keep it o hn) ρ h (m σ) K E := by
 obtain ⟨R, ⟨R₁, g1, g2⟩, p⟩ := p
 refine ⟨R₁, g1, ?_⟩
 cases R₁ with
 | err e L' σ' => cases g2; exact fun ρ' s' m' q X A => p ρ' s' m' q X (At.keepOut (P := P.at L' m') (hn := hn) A hc hs).1
 | ok f L' σ' =>
  intro ρ' s' m' fl X A vf
  obtain ⟨A', k1, k2⟩ := At.keepOut (P := P.at L' m') (hn := hn) A hc hs
  cases f with
  | nxt => cases vf; exact h1 L' σ' ρ' s' m' X A' k1 k2 ⟨R, g2, p.ext X⟩
  | ret v =>
   cases g2
   obtain ⟨y, rfl, vy⟩ := vf
   exact h2 y s' (p ρ' s' m' _ X A' ⟨y, rfl, vr_keepOut (hn := hn) hc vy⟩)
end
theorem isK_ne {e : Expr} {k j : Nat} (h : isK e k = true) (hj : Nat.beq k j = false) : isK e j = false := by obtain rfl := Nat.eq_of_beq_eq_true h; exact hj
theorem notSet_of {e : Expr} {env : Env} {x : Value} (h : isK e 7 = false) : foldedSetIterable e env x = pure x := by
 cases e with
 | Set => cases h
 | _ => rfl
section
variable {P : Pt} {ρ : List Ad} {σ : St} {s : Shared} {Q : Flow → Shared → Prop} {B E : Value → Shared → Prop} {it : Addr} {L : Loc} {m : Str → Option Value}
noncomputable def ForI (P : Pt) (it : Addr) (IT : Nat → Nat → List Ad → Heap → Prop) (G : Nat → Nat → Loc → SM) (Q : Flow → Shared → Prop) (B : Value → Shared → Prop) (n : Nat) (s : Shared) : Prop :=
 ∃ i L m ρ σ, At (P.at L m) ρ σ s ∧ NoOne P ρ it ∧ IT n i ρ s.heap ∧ PostS P ρ s.heap (G n i L σ) Q B
noncomputable def ForB (P : Pt) (it : Addr) (IT : Nat → Nat → List Ad → Heap → Prop) (G : Nat → Nat → Loc → SM) (b : Loc → SM) (Q : Flow → Shared → Prop) (B : Value → Shared → Prop) (n : Nat) (s : Shared) : Prop :=
 ∃ o hn i L m ρ σ, At ((P.keep it o hn).at L m) ρ σ s ∧ (o.cls ≠ .type "list" ∧ ∃ o, P.c.base sysModules = some o) ∧ (∀ ρ' h', Pre ρ ρ' → h'.get? it = some o → IT n i ρ' h') ∧ PostS P ρ s.heap (seqM (b L) (G n i) σ) Q B
variable {IT : Nat → Nat → List Ad → Heap → Prop} {G : Nat → Nat → Loc → SM} {b : Loc → SM} {n : Nat} {x : Str} {i₀ : Nat} {px : Pos}
theorem for_body {sts : List Stmt} {K : Flow → Shared → Prop} (hb : ∀ (it : Addr) (o : Obj) (hn : P.c.base it = none), SndS (P.keep it o hn) (execs sts P.env) b) (f : ForB P it IT G b Q B n s) (h1 : ∀ s, ForI P it IT G Q B n s → K .next s) (h2 : ∀ y s, Q (.ret y) s → K (.ret y) s) : wpAny P.M P.A (execs sts P.env) K B s := by
 obtain ⟨o, hn, i, L, m, ρ, σ, A, hc, hI, p⟩ := f
 exact hb it o hn L m _ _ _ A _ _ (PostS.seqK hc.1 hc.2 p (fun L₂ σ₂ ρ₂ s₂ m₂ X₂ A₂ k1 k2 p₂ => h1 s₂ ⟨i, L₂, m₂, ρ₂, σ₂, A₂, k2, hI _ _ X₂.pre k1, p₂⟩) h2)
noncomputable abbrev ForS (P : Pt) (it : Addr) (IT : Nat → Nat → List Ad → Heap → Prop) (G : Nat → Nat → Loc → SM) (b : Loc → SM) (Q : Flow → Shared → Prop) (B : Value → Shared → Prop) (x : Str) (px : Pos) (n : Nat) (y : Value) (s : Shared) : Prop :=
 ∃ m, m < n ∧ ∀ (K : Unit → Shared → Prop) E, (∀ s, ForB P it IT G b Q B m s → K () s) → wpAny P.M P.A (assign (.Name x px) P.env y) K E s
theorem for_item (A : At (P.at L m) ρ σ s) (hf : NoOne P ρ it) {o o' : Obj} (ho : s.heap.get? it = some o) (h1 : o.cls ≠ .type "tuple") (h2 : o.cls ≠ .type "traceback") {s' : Shared} (K : ∀ b o, b ≠ it → s.heap.get? b = some o → s'.heap.get? b = some o) (ho' : s'.heap.get? it = some o') (h3 : o'.cls = o.cls) (h4 : o.cls ≠ .type "list")
 (hg : s'.gens = s.gens) (hos : s'.os = s.os) (hx : P.names[i₀]? = some x) {v : MV} {y : Value} {i : Nat} (hv : VR P.c ρ s.heap v y) (hI : ∀ ρ' h', Pre ρ ρ' → h'.get? it = some o' → IT n i ρ' h') (p : PostS P ρ s.heap (seqM (b (L.set i₀ (some v))) (G n i) σ) Q B) : ForS P it IT G b Q B x px (n + 1) y s' := by
 obtain ⟨A₃, X₃⟩ := A.side (x := it) K hf (quiet_of ho h1 h2) hg hos
 have A₄ := At.keepIn (P := P.at L m) (hn := hf.2.1) A₃ ho' (h3 ▸ h2) hf
 refine ⟨n, Nat.lt_succ_self n, fun K E k => wpAny_assign_Name (store_ok (P := P.keep it o' hf.2.1) A₄ hx (vr_keepIn (P := P) (X₃.vr hv)) fun s₅ m₅ X₅ A₅ => ?_)⟩
 exact k s₅ ⟨o', hf.2.1, i, _, m₅, ρ, σ, A₅, ⟨h3 ▸ h4, A.ok.top.sysm⟩, hI, p.ext (X₃.trans X₅)⟩
noncomputable abbrev ITL (it l : Nat) (a : Addr) (n i : Nat) (ρ : List Ad) (h : Heap) : Prop := h.IsListIter it a i ∧ ∃ q, ρ[l]? = some q ∧ q.a = a
theorem stepL {l : Nat} {a : Addr} {K : Option Value → Shared → Prop} (hx : P.names[i₀]? = some x) (f : ForI P it (ITL it l a) (fun n => forLF n i₀ l b) Q B n s) (h0 : ∀ s, Q .next s → K none s) (h1 : ∀ y s, ForS P it (ITL it l a) (fun n => forLF n i₀ l b) b Q B x px n y s → K (some y) s) : wpAny P.M P.A (pyNext (.ref it)) K E s := by
 obtain ⟨i, L, m, ρ, σ, A, hf, ⟨hI, q, e, hq⟩, R, hR, p⟩ := f
 cases n with
 | zero => exact hR.elim
 | succ n =>
 obtain ⟨vs, q2, hr⟩ := hR
 obtain ⟨vals, hl, hv, hlim, hlen⟩ := A.isList e q2
 rw [hq] at hl
 rcases hr with ⟨v, q3, hr⟩ | ⟨q3, hr⟩
 · obtain ⟨y, g1, g2⟩ := (VRs.all ▸ hv).get q3
   refine wpAny_pyNext_list_item hI hl (List.getElem?_toArray ▸ g1) fun h' hI' hsb => h1 y _ ?_
   obtain ⟨oi, ho, hc, hd⟩ := hI
   obtain ⟨oj, hoj, hcj, hdj⟩ := hI'
   exact for_item (IT := ITL it l a) (G := fun n => forLF n i₀ l b) (b := b) (n := n) (i := i + 1) (s' := { s with heap := h' }) A hf ho (hc ▸ by decide) (hc ▸ by decide) (sameBut_keep hsb) hoj (hcj.trans hc.symm) (hc ▸ by decide) rfl rfl hx g2 (fun ρ' h' X e' => ⟨⟨oj, e', hcj, hdj⟩, (X _ _ e).imp fun _ z => ⟨z.1, z.2.1.trans hq⟩⟩) ⟨R, hr, p⟩
 · refine list_end A hI hf hl ?_ fun h' A'' X'' => h0 _ (PostS.next ⟨R, hr, p⟩ X'' A'')
   exact Array.getElem?_eq_none (show vals.length ≤ i from hlen ▸ List.getElem?_eq_none_iff.mp q3)
noncomputable abbrev ITR (it : Addr) (n i : Nat) (_ : List Ad) (h : Heap) : Prop := IsRangeIter h it i n 1
theorem stepR {K : Option Value → Shared → Prop} (hd : P.A.handled = none) (hx : P.names[i₀]? = some x) (f : ForI P it (ITR it) (fun n => forRF n i₀ b) Q B n s) (h0 : ∀ s, Q .next s → K none s) (h1 : ∀ y s, ForS P it (ITR it) (fun n => forRF n i₀ b) b Q B x px n y s → K (some y) s) : wpAny P.M P.A (pyNext (.ref it)) K E s := by
 obtain ⟨i, L, m, ρ, σ, A, hf, hI, p⟩ := f
 have hI0 := hI
 have nt : ∀ y, y ≠ "range_iterator" → Value.type "range_iterator" ≠ .type y := fun y h q => h (Value.type.inj q).symm
 cases n with
 | zero =>
  refine wpAny_pyNext_range_end hd hI (Int.le_refl 0) fun h' he => h0 _ ?_
  obtain ⟨A'', X''⟩ := A.side (s' := { s with heap := h' }) (x := it) (fun b o hb e => he b o hb e) hf (quiet_of hI0 (nt _ (by decide)) (nt _ (by decide)))
  exact PostS.next p X'' A''
 | succ n =>
  refine wpAny_pyNext_range_item hI (Int.ofNat_lt.mpr (Nat.succ_pos n)) fun h' hI' hsb => h1 _ { s with heap := h', toks := s.toks + 1 } ?_
  refine for_item (IT := ITR it) (G := fun n => forRF n i₀ b) (b := b) (n := n) (i := i + 1) (s' := { s with heap := h', toks := s.toks + 1 }) A hf hI0 (nt _ (by decide)) (nt _ (by decide)) (sameBut_keep hsb) hI' rfl (nt _ (by decide)) rfl rfl hx (v := .int i) ⟨_, rfl⟩ (fun ρ' h' X e' => ?_) p
  have e2 : ((n : Nat) : Int) = ((n + 1 : Nat) : Int) - 1 := (Int.add_sub_cancel (n : Int) 1).symm
  show IsRangeIter h' it ((i : Int) + 1) n 1
  rw [e2]; exact e'
noncomputable def WhI (P : Pt) (t : Loc → MM (List MV)) (b : Loc → SM) (Q : Flow → Shared → Prop) (B : Value → Shared → Prop) (n : Nat) (s : Shared) : Prop := ∃ L m ρ σ, At (P.at L m) ρ σ s ∧ PostS P ρ s.heap (whileF n t b L σ) Q B
theorem stepW {C : Caller} {T : Expr → PE} {t : Expr} {sts : List Stmt} {K : Bool → Shared → Prop} (hT : STs P C T) (hb : SndS P (execs sts P.env) b) (f : WhI P (fun L => ev C P.hd L (T t)) b Q B n s) (h0 : ∀ s, Q .next s → K false s)
 (h1 : ∀ s, (∀ G : Flow → Shared → Prop, (∀ m s, m < n → WhI P (fun L => ev C P.hd L (T t)) b Q B m s → G .next s) → (∀ y s, Q (.ret y) s → G (.ret y) s) → wpAny P.M P.A (execs sts P.env) G B s) → K true s) : wpAny P.M P.A (PySem.isTrue t P.env (eval t P.env)) K B s := by
 obtain ⟨L, m, ρ, σ, A, p⟩ := f
 cases n with
 | zero => exact p.elim fun _ q => q.1.elim
 | succ n =>
  refine hT L m t _ _ _ A _ _ (PostS.to p fun us σ₁ ρ₁ s₁ a X A₁ e p₁ => ?_)
  cases e
  obtain ⟨R, ⟨c, hc, hr⟩, q⟩ := p₁
  cases hc
  cases a with
  | false => exact h0 _ (PostS.next ⟨R, hr, q⟩ .refl A₁)
  | true => exact h1 _ fun G g1 g2 => hb L m _ _ _ A₁ _ _ (PostS.seq ⟨R, hr, q⟩ (fun L₂ σ₂ ρ₂ s₂ m₂ X₂ A₂ p₂ => g1 n _ (Nat.lt_succ_self n) ⟨L₂, m₂, ρ₂, σ₂, A₂, p₂⟩) g2)
end
theorem range_k (k : Nat) : Builtin.Range.rangeSize 0 k 1 = (k : Int) := by rw [rangeSize_one]; split <;> lia
section
variable {P : Pt} {C : Caller} {E T : Expr → PE} {pos : Pos} (hE : SEs P C E) (hT : STs P C T)
include hT in
theorem s_while {t : Expr} {b : List Stmt} {pb : PS} (hb : SndS P (execs b P.env) (exs C P pb)) : SndS P (exec (.While t b [] pos) P.env) (exs C P (.while (T t) pb)) := fun L m ρ σ s A Q E' p => by
 obtain ⟨R, ⟨W, hR⟩, p⟩ := p
 exact wpAny_While (codeAny_whileLoop (WhI P (fun L => ev C P.hd L (T t)) (ex C pb P.hd) Q (backE P E')) (fun n s f => stepW hT hb f (fun s h => wpAny_execs_nil h) fun s h => h _ (fun m s hm f => ⟨m, hm, f⟩) fun y s h => h) W ⟨L, m, ρ, σ, A, PostS.back ⟨R, hR, p⟩⟩)
include hE
theorem s_forL {x : Str} {i₀ : Nat} {e : Expr} {b : List Stmt} {px : Pos} {pb : PS} (hx : P.names[i₀]? = some x) (hs : isK e 7 = false) (hb : ∀ (it : Addr) (o : Obj) (hn : P.c.base it = none), SndS (P.keep it o hn) (execs b P.env) (exs C P pb)) :
 SndS P (exec (.For (.Name x px) e b [] pos) P.env) (exs C P (.forL i₀ (E e) pb)) := fun L m ρ σ s A Q E' p => by
 refine wpAny_For (stepS1 (hE L m e _ _ _ A) p fun v σ₁ ρ₁ s₁ y X A₁ va p₁ => ?_) (fun x => notSet_of hs)
 obtain ⟨R, ⟨l, W, e0, hR⟩, p₁⟩ := p₁
 cases e0
 obtain ⟨q, e1, rfl⟩ := va
 have hl : ∃ vs, σ₁[l]? = some (.list vs) := by
  cases W with
  | zero => exact hR.elim
  | succ W => exact hR.imp fun _ z => z.1
 obtain ⟨vs₀, e2⟩ := hl
 obtain ⟨vals₀, hl, _⟩ := A₁.isList e1 e2
 obtain ⟨A₂, X₂⟩ := A₁.grow (s' := { s₁ with heap := s₁.heap.push { cls := .type "list_iterator", data := .fields #[.ref q.a, .int 0 0] } }) (fun b o e => Heap.get?_push_of_some _ e)
 exact wpAny_pyIter_list hl (codeAny_forLoop (ForI P s₁.heap.objs.size (ITL s₁.heap.objs.size l q.a) (fun n => forLF n i₀ l (ex C pb P.hd)) Q (backE P E')) (fun n s f => stepL (px := px) hx f (fun s h => wpAny_execs_nil h) fun y s z => z.elim fun m z => z.2 _ _ fun s f => for_body hb f (fun s f => ⟨m, z.1, f⟩) fun y s h => h) W
  ⟨0, L, m, ρ₁, σ₁, A₂, A₁.noones (g9 s₁.heap), ⟨⟨_, Heap.get?_push_size _ rfl, rfl, rfl⟩, q, e1, rfl⟩, PostS.back ⟨R, hR, p₁.ext X₂⟩⟩)
theorem s_forT {t e : Expr} {b : List Stmt} (hs : isK e 7 = false) : SndS P (exec (.For t e b [] pos) P.env) (exs C P (.forT (E e))) := fun L m ρ σ s A Q E' p => by
 refine wpAny_For (stepS1 (hE L m e _ _ _ A) p fun v σ₁ ρ₁ s₁ y X A₁ va p₁ => ?_) (fun x => notSet_of hs)
 obtain ⟨R, ⟨l, e0, e2, hR⟩, p₁⟩ := p₁
 cases e0
 obtain ⟨q, e1, rfl⟩ := va
 obtain ⟨vals, hl, hv, _⟩ := A₁.isList e1 e2
 obtain rfl := hv
 obtain ⟨A₂, X₂⟩ := A₁.grow (s' := { s₁ with heap := s₁.heap.push { cls := .type "list_iterator", data := .fields #[.ref q.a, .int 0 0] } }) (fun b o e => Heap.get?_push_of_some _ e)
 refine wpAny_pyIter_list hl (codeAny_forLoop_any (fun _ s' => s' = { s₁ with heap := s₁.heap.push { cls := .type "list_iterator", data := .fields #[.ref q.a, .int 0 0] } }) ?_ 0 rfl)
 rintro n s' rfl
 exact list_end A₂ ⟨_, Heap.get?_push_size _ rfl, rfl, rfl⟩ (A₁.noones (g9 s₁.heap)) (hl.push _) rfl fun h' A'' X'' => wpAny_execs_nil (PostS.next ⟨R, hR, p₁⟩ (X₂.trans X'') A'')
theorem s_forR {x rx : Str} {i₀ : Nat} {e : Expr} {b : List Stmt} {px rp rpos : Pos} {pb : PS} (hx : P.names[i₀]? = some x) (hr : isBu P.sc rx "range" = true) (hst : noStar e = true) (hb : ∀ (it : Addr) (o : Obj) (hn : P.c.base it = none), SndS (P.keep it o hn) (execs b P.env) (exs C P pb)) :
 SndS P (exec (.For (.Name x px) (.Call (.Name rx rp) [e] [] rpos) b [] pos) P.env) (exs C P (.forR i₀ (E e) pb)) := fun L m ρ σ s A Q E' p => by
 refine wpAny_For (Call_ (ld_built (P := P.at L m) A hr bn_in.2.2.2.1 b_names.2.2.2.1 ?_)) (fun x => rfl)
 rw [sems_eq (es := [e]) _ _ ((Bool.and_true _).trans hst)]
 refine callWith_of (P := fun h => P.K.In h) rfl keep_type (Calls.evalArgs_plain (Calls.spliced_cons ?_))
 refine stepS1 (hE L m e _ _ _ A) p fun v σ₁ ρ₁ s₁ y X A₁ va p₁ => Calls.spliced_nil ⟨A₁.K, ?_⟩
 obtain ⟨R, ⟨N, e0, hd, h0, h40, hR⟩, p₁⟩ := p₁
 cases e0
 obtain ⟨tN, rfl⟩ := va
 obtain ⟨k, rfl⟩ := Int.eq_ofNat_of_zero_le h0
 have hh : HdOK ρ₁ P.hd P.A := A₁.hd
 rw [hd] at hh
 refine call_range_1 (wpAny_pyIter_range (IsRange.new ..) (small_one (by decide) (by decide) (by lia) (by lia)) ?_)
 rw [range_k]
 obtain ⟨A₂, X₂⟩ := A₁.grow (s' := { s₁ with heap := s₁.heap.push { cls := .type "range", data := .fields #[.int 0 s₁.toks, .int k tN, .int 1 (s₁.toks + 1)] }, toks := s₁.toks + 1 + 1 }) (fun b o e => Heap.get?_push_of_some _ e)
 have p₂ := PostS.ext (P := P) ⟨R, hR, p₁⟩ X₂
 revert A₂ p₂
 generalize ({ s₁ with heap := s₁.heap.push { cls := .type "range", data := .fields #[.int 0 s₁.toks, .int k tN, .int 1 (s₁.toks + 1)] }, toks := s₁.toks + 1 + 1 } : Shared) = s₂
 intro A₂ p₂
 obtain ⟨A₃, X₃⟩ := A₂.grow (s' := { s₂ with heap := s₂.heap.push { cls := .type "range_iterator", data := .fields #[rawInt 0, rawInt k, rawInt 1] } }) (fun b o e => Heap.get?_push_of_some _ e)
 exact codeAny_forLoop (ForI P s₂.heap.objs.size (ITR s₂.heap.objs.size) (fun n => forRF n i₀ (ex C pb P.hd)) Q (backE P E')) (fun n s f => stepR (px := px) hh hx f (fun s h => wpAny_execs_nil h) fun y s z => z.elim fun m z => z.2 _ _ fun s f => for_body hb f (fun s f => ⟨m, z.1, f⟩) fun y s h => h) k
  ⟨0, L, m, ρ₁, σ₁, A₃, A₂.noones (g9 s₂.heap), Heap.get?_push_size _ rfl, PostS.back (PostS.ext p₂ X₃)⟩
end
theorem nos {α : Type} {x : α} (h : none = some x) : False := nomatch h
theorem tup_e {v : Expr} {vs : List Expr} (h : tupOf v = some vs) : ∃ k p, v = .Tuple vs k p := by
 cases v with
 | Tuple es k p => obtain rfl := Option.some.inj h; exact ⟨k, p, rfl⟩
 | _ => exact (nos h).elim
theorem swapped_no {ts : List Expr} {v : Expr} {k : Nat} {p : Pos} {env : Env} (h : tupOf v = none) : swappedStores [.Tuple ts k p] v env = pure none := by
 cases v with
 | Tuple => cases h
 | _ => rfl
theorem swapped_attr {ts vs : List Expr} {k k' : Nat} {p p' : Pos} {env : Env} (h : ts.all isAttr = true) (hne : ts.isEmpty = false) : swappedStores [.Tuple ts k p] (.Tuple vs k' p') env = pure none := by
 have hnm : ∀ f : Expr → Option Str, (∀ v a p, f (.Attribute v a p) = none) → ts.filterMap f = [] := fun f hf => List.filterMap_eq_nil_iff.mpr fun e he => by
  obtain ⟨v, a, p, rfl⟩ := attr_e (List.all_eq_true.mp h e he)
  exact hf v a p
 unfold swappedStores
 dsimp only
 split
 · rfl
 · split
   · rfl
   · rw [hnm _ (fun _ _ _ => rfl)]
     exact if_pos (by cases ts with | nil => cases hne | cons _ _ => rfl)
theorem each_eq {env : Env} : ∀ es : List Expr, es.all noStar = true → assignEach es env = es.map fun e => (false, assign e env) := fun es => by
 induction es with
 | nil => exact fun _ => rfl
 | cons e es ih =>
  intro hs
  obtain ⟨h1, h2⟩ := and_e hs
  have : assignEach (e :: es) env = (false, assign e env) :: assignEach es env := by
   clear ih hs h2
   cases e with
   | Starred => cases h1
   | _ => rfl
  rw [this, ih h2]; rfl
theorem cTg_e {sc : Scope} {nms : List Str} {e : Expr} {t : Tgt} (h : cTg sc nms e = some t) : (∃ x p, e = .Name x p ∧ (ixIn x nms).map Tgt.loc = some t) ∨ ∃ o a p, e = .Attribute o a p ∧ ((ixIn a nmS).map fun k => Tgt.attr (cE sc nms o) k) = some t := by
 cases e with
 | Name x p => exact .inl ⟨x, p, rfl, h⟩
 | Attribute o a p => exact .inr ⟨o, a, p, rfl, h⟩
 | _ => exact (nos h).elim
theorem isLoc_e {sc : Scope} {l : Nat} {e : Expr} (h : isLocName sc l e = true) : ∃ x p, e = .Name x p ∧ ((sc.names.lookup x == some .local) && p.line == l) = true := by
 cases e with
 | Name x p => exact ⟨x, p, rfl, h⟩
 | _ => exact absurd h Bool.false_ne_true
section
variable {P : Pt} {C : Caller}
noncomputable def SndT (P : Pt) (t : List Value → Sem Unit) (mm : List MV → Loc → SM) : Prop :=
 ∀ L m ρ σ s vs xs, At (P.at L m) ρ σ s → VRs P.c ρ s.heap vs xs → ∀ (Q : Unit → Shared → Prop) E, PostS P ρ s.heap (mm vs L σ) (fun fl s => fl = .next → Q () s) E → wpAny P.M P.A (t xs) Q E s
variable (hE : SEs P C (cE P.sc P.names))
include hE
theorem stores_ok : ∀ (es : List Expr) (ts : List Tgt), cTgs P.sc P.names es = some ts → SndT P (assignInOrder (es.map fun e => assign e P.env)) (storeT C P.hd ts) := fun es => by
 induction es with
 | nil =>
  intro ts h L m ρ σ s vs xs A v Q E' p
  obtain rfl := Option.some.inj h
  obtain ⟨R, ⟨rfl, hR⟩, p⟩ := p
  obtain rfl := v
  exact assignInOrder_nil (PostS.next ⟨R, hR, p⟩ .refl A rfl)
 | cons e es ih =>
  intro ts h L m ρ σ s vs xs A v Q E' p
  obtain ⟨t, h1, h2⟩ := bind_e h
  obtain ⟨ts, h3, rfl⟩ := map_e h2
  obtain ⟨R, ⟨w, ws, rfl, hR⟩, p⟩ := p
  obtain ⟨y, ys, rfl, vy, vys⟩ := v
  have ih := ih ts h3
  rcases cTg_e h1 with ⟨x, q, rfl, h1⟩ | ⟨o, a, q, rfl, h1⟩
  · obtain ⟨i, hi, rfl⟩ := map_e h1
    exact assignInOrder_cons (wpAny_assign_Name (store_ok A (ixIn_get hi) vy fun s' m' X A' => ih _ _ _ _ _ _ _ A' (X.vrs vys) Q E' (PostS.ext ⟨R, hR, p⟩ X)))
  · obtain ⟨n, hn0, rfl⟩ := map_e h1
    have hk := ixIn_get hn0
    have hn : n < 95 := nmS_len ▸ (List.getElem?_eq_some_iff.mp hk).1
    obtain rfl := Option.some.inj (hk.symm.trans (nmOf_get hn))
    have p := PostS.to (m := m) (K := fun (_ : Unit) s' => ∃ ρ' σ', Ext ρ s.heap ρ' s'.heap ∧ At (P.at L m) ρ' σ' s' ∧ PostS P ρ' s'.heap (storeT C P.hd ts ws L σ') (fun fl s => fl = .next → Q () s) E') (V := fun _ _ _ _ => True) (show PostS P ρ s.heap (inS _ L _ σ) _ _ from ⟨R, hR, p⟩) fun b σ₁ ρ₁ s₁ a X A v p => ⟨ρ₁, σ₁, X, A, p⟩
    refine assignInOrder_cons ?_
    show wpAny _ _ (do
     let ov ← holding [y] (eval o P.env)
     standAt _
     holding [y, ov] (setAttr ov (nmOf n) y)
     release [y, ov] []) _ _ _
    refine wpAny_bind (wpAny_holding (step1 (P := P.at L m) (hE L m o _ _ _ A) p fun b σ₁ ρ₁ s₁ z X A₁ va p₁ => wpAny_bind (wpAny_standAt (wpAny_bind (wpAny_holding ?_)))))
    obtain ⟨r, h, q⟩ := p₁
    refine wpAny_mono (snd_setA (P := P.at L m) A₁ hn h (X.vr vy) va q) (fun _ s₂ z => wpAny_release ?_) fun _ _ e => e
    obtain ⟨ρ₂, σ₂, X₂, A₂, p₂⟩ := z
    exact ih L m _ _ _ _ _ A₂ (X₂.vrs vys) Q E' p₂
omit hE in
theorem cTgs_len : ∀ {es : List Expr} {ts : List Tgt}, cTgs P.sc P.names es = some ts → ts.length = es.length := fun {es} => by
 induction es with
 | nil => intro ts h; obtain rfl := Option.some.inj h; rfl
 | cons e es ih =>
  intro ts h
  obtain ⟨t, _, h2⟩ := bind_e h
  obtain ⟨ts, h3, rfl⟩ := map_e h2
  exact congrArg (· + 1) (ih h3)
theorem s_unp {es : List Expr} {k : Nat} {tp pos : Pos} {v : Expr} {ts : List Tgt} (hv : noComp v = true) (hw : swappedStores [.Tuple es k tp] v P.env = pure none) (hns : es.all noStar = true) (ht : cTgs P.sc P.names es = some ts) :
 SndS P (exec (.Assign [.Tuple es k tp] v pos) P.env) (exs C P (.unp ts (cE P.sc P.names v))) := fun L m ρ σ s A Q E' p => by
 refine Assign_Tuple (stepS1 (hE L m v _ _ _ A) p fun b σ₁ ρ₁ s₁ x X A₁ va p₁ => ?_) (show swapsWith v (some (.Tuple es k tp)) pos.line P.env = pure false from swaps_no hv) hw
 obtain ⟨R, ⟨vs, e0, hl, hR⟩, p₁⟩ := p₁
 cases e0
 obtain ⟨a, o, vals, n, rfl, ⟨h1, h2, h3⟩, h4⟩ := va
 show wpAny _ _ (do standAt tp; unpack (.ref a) (assignEach es P.env)) _ _ _
 rw [each_eq es hns]
 unfold unpack
 refine wpAny_bind (wpAny_standAt ?_)
 have hfi : (es.map fun e => (false, assign e P.env)).findIdx? (·.1) = none := List.findIdx?_eq_none_iff.mpr fun q hq => by obtain ⟨e, _, rfl⟩ := List.mem_map.mp hq; rfl
 have hln : (es.map fun e => (false, assign e P.env)).length = vals.length := (List.length_map ..).trans ((cTgs_len ht).symm.trans (hl.symm.trans h4.len.symm))
 have hmp : (es.map fun e => (false, assign e P.env)).map (·.2) = es.map fun e => assign e P.env := List.map_map
 rw [hfi, hln]
 refine wpAny_bind (wpAny_holding (unpack_ok A₁ ⟨_, h1, h2, _, h3⟩ fun hp A₂ X₂ => ?_))
 rw [hmp]
 refine stores_ok hE es ts ht L m _ _ _ _ _ A₂ (X₂.vrs h4) _ E' (PostS.ext ⟨R, hR, ?_⟩ X₂)
 cases R with
 | ok f L' σ' => exact fun ρ' s' m fl X A vf e => e ▸ p₁ ρ' s' m fl X A vf
 | err e L' σ' => exact p₁
end
theorem names_map {sc : Scope} {l : Nat} {f : Expr → Option Str} (hf : ∀ x p, (sc.names.lookup x == some .local) = true → (p.line == l) = true → f (.Name x p) = some x) : ∀ {es : List Expr}, es.all (isLocName sc l) = true → es.filterMap f = es.filterMap nameOf ∧ (es.filterMap nameOf).length = es.length := fun {es} => by
 induction es with
 | nil => exact fun _ => ⟨rfl, rfl⟩
 | cons e es ih =>
  intro h
  obtain ⟨h1, h2⟩ := and_e h
  obtain ⟨ih1, ih2⟩ := ih h2
  obtain ⟨x, p, rfl, h1⟩ := isLoc_e h1
  obtain ⟨a, b⟩ := and_e h1
  rw [List.filterMap_cons, hf x p a b, ih1]
  exact ⟨rfl, congrArg (· + 1) ih2⟩
theorem swapped_some {es vs : List Expr} {k k' : Nat} {p p' : Pos} {env : Env} (hk : env.scope.kind = .function) (h : swapOK env.scope es vs = true) : swappedStores [.Tuple es k p] (.Tuple vs k' p') env = pure (some (es.filterMap nameOf)) := by
 unfold swapOK at h
 simp only [Bool.and_eq_true, Bool.not_eq_true'] at h
 obtain ⟨⟨⟨⟨⟨⟨h1, h2⟩, h3⟩, h4⟩, h5⟩, h6⟩, h7⟩ := h
 have hb : env.blockKind = .function := by unfold Env.blockKind; rw [hk]; rfl
 unfold swappedStores
 dsimp only
 rw [if_neg (by rw [h1, hb]; simp [eq_of_beq h2])]
 rw [if_neg (by
  intro q
  obtain ⟨e, he, hq⟩ := List.any_eq_true.mp q
  have := List.all_eq_true.mp h3 e he
  cases e <;> first | (exact Bool.noConfusion (show false = true from hq)) | (exact Bool.noConfusion (show false = true from this)))]
 have n2 : (es.filterMap nameOf).length = es.length := (names_map (f := nameOf) (fun x p _ _ => rfl) h4).2
 rw [(names_map (fun x p a b => by
  show (if (env.scope.names.lookup x == some .local && p.line == line0 es) = true then some x else none) = some x
  rw [a, b]; rfl) h4).1]
 rw [if_neg (by rw [eq_of_beq h5, n2]; simp)]
 rw [if_neg (by rw [h6]; decide), if_neg (by rw [h7]; decide)]
section
variable {P : Pt} {C : Caller}
theorem r_store : ∀ (is : List Nat) (xs : List Str) (L : Loc) (m : Str → Option Value) (ρ : List Ad) (σ : St) (s : Shared) (vs : List MV) (ys : List Value), is.map (fun i => P.names[i]?) = xs.map some → vs.length = is.length →
 At (P.at L m) ρ σ s → VRs P.c ρ s.heap vs ys → ∀ (Q : Unit → Shared → Prop) E, PostS P ρ s.heap (nxt (storeR is vs L) σ) (fun fl s => fl = .next → Q () s) E → wpAny P.M P.A (assignInOrder (xs.map fun n => bindName P.env n) ys) Q E s := fun is => by
 induction is with
 | nil =>
  intro xs L m ρ σ s vs ys hx hl A v Q E p
  obtain rfl := List.length_eq_zero_iff.mp hl
  obtain rfl := List.map_eq_nil_iff.mp hx.symm
  obtain rfl := v
  exact assignInOrder_nil (p.next .refl A rfl)
 | cons i is ih =>
  intro xs L m ρ σ s vs ys hx hl A v Q E p
  cases xs with
  | nil => cases hx
  | cons x xs =>
   obtain ⟨h1, h2⟩ := List.cons.inj hx
   cases vs with
   | nil => cases hl
   | cons w ws =>
    obtain ⟨y, ys, rfl, vy, vys⟩ := v
    exact assignInOrder_cons (wpAny_bindName (store_ok A h1 vy fun s' m' X A' => ih xs _ m' ρ σ s' ws ys h2 (Nat.succ.inj hl) A' (X.vrs vys) Q E (p.ext X)))
theorem All2.rev {α β : Type} {R : α → β → Prop} : ∀ {l : List α} {m : List β}, All2 R l m → All2 R l.reverse m.reverse := fun {l} => by
 induction l with
 | nil => rintro m rfl; rfl
 | cons a r ih =>
  rintro m ⟨b, s, rfl, x, y⟩
  rw [List.reverse_cons, List.reverse_cons]
  exact (ih y).append ⟨b, [], rfl, x, rfl⟩
theorem cIs_ok {nms : List Str} : ∀ {es : List Expr} {is : List Nat}, cIs nms es = some is → is.map (fun i => nms[i]?) = (es.filterMap nameOf).map some := fun {es} => by
 induction es with
 | nil => intro is h; obtain rfl := Option.some.inj h; rfl
 | cons e es ih =>
  intro is h
  obtain ⟨x, h1, h2⟩ := bind_e h
  obtain ⟨i, h3, h4⟩ := bind_e h2
  obtain ⟨is, h5, rfl⟩ := map_e h4
  rw [List.filterMap_cons, h1]
  show nms[i]? :: _ = some x :: _
  rw [ixIn_get h3, ih h5]
theorem s_unpR (hE : SEs P C (cE P.sc P.names)) {es vs : List Expr} {is : List Nat} {k k' : Nat} {tp vp pos : Pos} (hs : swapOK P.sc es vs = true) (hi : cIs P.names es = some is) :
 SndS P (exec (.Assign [.Tuple es k tp] (.Tuple vs k' vp) pos) P.env) (exs C P (.unpR is (cE P.sc P.names (.Tuple vs k' vp)))) := fun L m ρ σ s A Q E' p => by
 refine Assign_Tuple_swapped (names := es.filterMap nameOf) (stepS1 (hE L m _ _ _ _ A) p fun b σ₁ ρ₁ s₁ x X A₁ va p₁ => ?_) rfl (swapped_some A.kf hs)
 obtain ⟨R, ⟨ws, e0, hl, hR⟩, p₁⟩ := p₁
 cases e0
 obtain ⟨a, o, vals, n, rfl, ⟨h1, h2, h3⟩, h4⟩ := va
 have hi := cIs_ok hi
 have hn : (es.filterMap nameOf).length = vals.length := by
  have := congrArg List.length hi
  rw [List.length_map, List.length_map] at this
  exact this.symm.trans (hl.symm.trans h4.len.symm)
 rw [hn]
 refine unpack_ok A₁ ⟨_, h1, h2, _, h3⟩ fun hp A₂ X₂ => ?_
 refine r_store (P := P) is.reverse (es.filterMap nameOf).reverse L m ρ₁ σ₁ _ ws.reverse vals.reverse (by rw [List.map_reverse, List.map_reverse, hi]) (by rw [List.length_reverse, List.length_reverse, hl]) A₂ (VRs.all ▸ (VRs.all ▸ X₂.vrs h4).rev) _ E' (PostS.ext ⟨R, hR, ?_⟩ X₂)
 cases R with
 | ok f L' σ' => exact fun ρ' s' m fl X A vf e => e ▸ p₁ ρ' s' m fl X A vf
 | err e L' σ' => exact p₁
end
noncomputable abbrev Pt.mark (P : Pt) (i : Nat) (a : Addr) : Pt := { P with A := P.A.mark (some (.ref a)), hd := some i }
section
variable {P : Pt} {ρ ρ' : List Ad} {σ σ' : St} {h : Heap} {s s' : Shared} {E B : Value → Shared → Prop} {Q K : Flow → Shared → Prop} {L L' : Loc} {m m' : Str → Option Value} {C : Caller} {p : Ad}
theorem At.mark (A : At P ρ σ s) {i : Nat} (e : ρ[i]? = some p) (hx : p.x = true) : At (P.mark i p.a) ρ σ s := { A with ok := { A.ok with }, hd := ⟨p, e, hx, rfl⟩ }
theorem At.unmark {i : Nat} {a : Addr} (A : At (P.mark i a) ρ σ s) (h : HdOK ρ P.hd P.A) : At P ρ σ s := { A with ok := { A.ok with }, hd := h }
theorem VF.mono (X : Ext ρ s.heap ρ' s'.heap) {f : Fl} {fl : Flow} (v : VF P ρ s.heap f fl) : VF P ρ' s'.heap f fl := by
 cases f with
 | nxt => exact v
 | ret w => exact v.imp fun y => And.imp_right X.vr
theorem pass_ok (A : At P ρ σ s) {i : Nat} (e1 : ρ[i]? = some p) (N : Noted ρ s.heap i) {msg : String} {α : Type} {Q : α → Shared → Prop} (h : ∀ s', Ext ρ s.heap ρ s'.heap → At P ρ σ s' → E (.ref p.a) s') : wpAny P.M P.A (PySem.passOn (α := α) msg (.ref p.a) P.env) Q E s := by
 obtain ⟨p', o, xs, T, n1, hx, n2, n3, n4⟩ := N
 cases e1.symm.trans n1
 unfold PySem.passOn
 exact wpAny_bind (wpAny_field n2 n3 n4 (wif_f Bool.false_ne_true (wpAny_bind (flight_ok A e1 hx fun s' X A' => wpAny_throw (h s' X A')))))
theorem PostS.split {M : RS → Prop} {F : RS → RS → Prop} (q : PostS P ρ h (fun R => ∃ Q, M Q ∧ F Q R) Q E)
 (h1 : ∀ fl L' σ' ρ' s' m' g, Ext ρ h ρ' s'.heap → At (P.at L' m') ρ' σ' s' → VF P ρ' s'.heap fl g → PostS P ρ' s'.heap (F (.ok fl L' σ')) Q E → K g s')
 (h2 : ∀ e L' σ' ρ' s' m' p, Ext ρ h ρ' s'.heap → At (P.at L' m') ρ' σ' s' → ρ'[e]? = some p → p.x = true → PostS P ρ' s'.heap (F (.err e L' σ')) Q E → B (.ref p.a) s') : PostS P ρ h M K B := by
 obtain ⟨R, ⟨R₁, g1, g2⟩, q⟩ := q
 refine ⟨R₁, g1, ?_⟩
 cases R₁ with
 | ok fl L' σ' => exact fun ρ' s' m' g X A v => h1 fl L' σ' ρ' s' m' g X A v ⟨R, g2, q.ext X⟩
 | err e L' σ' => exact fun ρ' s' m' p X A e1 hx => h2 e L' σ' ρ' s' m' p X A e1 hx ⟨R, g2, q.ext X⟩
theorem fin_plain {f : List Stmt} {pf : PS} (hf : SndS P (execs f P.env) (exs C P pf)) (A : At (P.at L m) ρ σ s) {fl : Fl} {g : Flow} (vg : VF P ρ s.heap fl g) (q : PostS P ρ s.heap (fun R => ∃ L'' σ'', ex C pf P.hd L σ (.ok .nxt L'' σ'') ∧ R = .ok fl L'' σ'') Q E)
 (hK : ∀ s, Q g s → K .next s) : wpAny P.M P.A (execs f P.env) K B s := by
 obtain ⟨_, ⟨L'', σ'', h1, rfl⟩, q⟩ := q
 refine hf L m _ _ _ A _ _ ⟨_, h1, fun ρ₂ s₂ m₂ fl₂ X₂ A₂ v₂ => ?_⟩
 cases v₂
 exact hK _ (q ρ₂ s₂ m₂ g X₂ A₂ (vg.mono X₂))
theorem fin_raised {f : List Stmt} {pf : PS} (hm : ∀ i a, SndS (P.mark i a) (execs f P.env) (ex C pf (some i))) (A : At (P.at L m) ρ σ s) {e : Nat} (e1 : ρ[e]? = some p) (hx : p.x = true)
 (q : PostS P ρ s.heap (fun R => ∃ L'' σ'', ex C pf (some e) L σ (.ok .nxt L'' σ'') ∧ R = .err e L'' σ'') Q E) : FinallyRaised P.c.pr P.c.w P.A E P.env f Q (.ref p.a) s := by
 obtain ⟨_, ⟨L'', σ'', h1, rfl⟩, q⟩ := q
 refine ⟨nofun, note_ok A e1 hx fun s₂ X₂ A₂ N₂ => flight_ok A₂ e1 hx fun s₃ X₃ A₃ => ?_⟩
 refine hm e p.a L m _ _ _ (At.mark (P := P.at L m) A₃ e1 hx) _ _ ⟨_, h1, fun ρ₄ s₄ m₄ fl₄ X₄ A₄ v₄ => ?_⟩
 cases v₄
 have A₅ : At (P.at L'' m₄) ρ₄ σ'' s₄ := At.unmark (P := P.at L'' m₄) A₄ (A₃.hd.pre X₄.pre)
 obtain ⟨p', e1', ha, hx'⟩ := X₄.pre _ _ e1
 rw [← ha]
 exact pass_ok (P := P.at L'' m₄) A₅ e1' (X₄.noted _ (X₃.noted _ N₂)) fun s₆ X₆ A₆ => q ρ₄ s₆ m₄ p' (((X₂.trans X₃).trans X₄).trans X₆) A₆ e1' (hx'.trans hx)
theorem s_fin {b : List Stmt} {f₀ : Stmt} {fs : List Stmt} {pos : Pos} {pb pf : PS} (hb : SndS P (execs b P.env) (exs C P pb)) (hf : SndS P (execs (f₀ :: fs) P.env) (exs C P pf)) (hm : ∀ i a, SndS (P.mark i a) (execs (f₀ :: fs) P.env) (ex C pf (some i))) :
 SndS P (exec (.Try b [] [] (f₀ :: fs) pos) P.env) (exs C P (.fin pb pf)) := fun L m ρ σ s A Q E' q =>
 wpAny_Try_finally (hb L m _ _ _ A _ _ (q.split (fun fl L' σ' ρ' s' m' g X A' v q => by
  cases fl with
  | nxt => cases v; exact wpAny_execs_nil (fin_plain hf A' (fl := .nxt) rfl q fun s h => h)
  | ret w =>
   obtain ⟨y, rfl, vy⟩ := v
   exact fin_plain hf A' (fl := .ret w) (g := .ret y) ⟨y, rfl, vy⟩ q fun s h => h) fun e L' σ' ρ' s' m' p X A' e1 hx q => note_ok A' e1 hx fun s₁ X₁ A₁ N₁ => fin_raised hm A₁ e1 hx (q.ext X₁)))
theorem goes_ok (A : At (P.at L m) ρ σ s) {i : Nat} {x : Str} {pos : Pos} (e : P.names[i]? = some x) {Q : Unit → Shared → Prop}
 (h : ∀ s' m', Ext ρ s.heap ρ s'.heap → At (P.at (L.set i none) m') ρ σ s' → Q () s') : wpAny P.M P.A (do bindName P.env x .none; unbindBehindTheSuite P.env x pos) Q E s := by
 refine wpAny_nameGoes_keeps (env := P.env) (A.ok.kinds x (List.mem_of_getElem? e)) A.fr.1 (by rw [show P.env.scope.kind = .function from A.kf]; rfl) fun h' v n hs => ?_
 obtain ⟨A', X⟩ := A.frame (s' := { s with heap := h', toks := s.toks + 1 }) (sameBut_keep hs) n (A.loc.put A.ok.nodup e fun v h => (nos h).elim)
 exact h _ _ X A'
variable {cx n : Str} {cp hp pos : Pos} {h₀ : Stmt} {hs : List Stmt} {x : Nat} {ph : PS} (hc : globOf P.sc cx = some (true, excCl)) (hn : P.names[x]? = some n) (hm : ∀ i a, SndS (P.mark i a) (execs (h₀ :: hs) P.env) (ex C ph (some i)))
include hc hn hm
theorem handle_ok (A₂ : At (P.at L m) ρ σ s) {e : Nat} (e1 : ρ[e]? = some p) (hx : p.x = true) {F : RS → RS → Prop} (q : PostS P ρ s.heap (fun R => ∃ Q, ex C ph (some e) (L.set x (some (.ref e))) σ Q ∧ F (Q.clear x) R) Q E)
 (h1 : ∀ fl L' σ' ρ' s' m' g, At (P.at L' m') ρ' σ' s' → VF P ρ' s'.heap fl g → PostS P ρ' s'.heap (F (.ok fl L' σ')) Q E → K g s')
 (h2 : ∀ e L' σ' ρ' s' m' p, At (P.at L' m') ρ' σ' s' → ρ'[e]? = some p → p.x = true → PostS P ρ' s'.heap (F (.err e L' σ')) Q E → B (.ref p.a) s') : wpAny P.M P.A (handleBy (.ref p.a) P.env [.ExceptHandler (some (.Name cx cp)) (some n) (h₀ :: hs) hp]) K B s := by
 have A₃ := At.mark (P := P.at L m) A₂ e1 hx
 refine wpAny_handleBy_cons (codeAny_handlers_test (glob_at (P := (P.at L m).mark e p.a) A₃ hc ?_)) nofun
 obtain ⟨fs, xs, _, Y, _⟩ := A₂.exc e1 hx
 refine (exm_one A₂.K ((Looks.ld Y.1).andThen .now) A₂.ok.top.exm).at (codeAny_handlers_suite_as (flight_ok A₃ e1 hx fun s₄ X₄ A₄ => ?_))
 refine store_ok (P := P.mark e p.a) A₄ hn (v := .ref e) ⟨p, e1, rfl⟩ fun s₅ m₅ X₅ A₅ => ?_
 have hd : HdOK ρ P.hd P.A := A₂.hd
 obtain ⟨R, ⟨R₁, g1, g2⟩, q⟩ := q
 refine hm e p.a _ m₅ _ _ _ A₅ _ _ ⟨R₁, g1, ?_⟩
 cases R₁ with
 | ok f L'' σ'' =>
  intro ρ₆ s₆ m₆ fl X₆ A₆ vf
  have A₇ : At (P.at L'' m₆) ρ₆ σ'' s₆ := At.unmark (P := P.at L'' m₆) A₆ (hd.pre X₆.pre)
  exact goes_ok (pos := hp) A₇ hn fun s₈ m₈ X₈ A₈ => h1 _ _ _ _ s₈ m₈ fl A₈ (VF.mono (P := P) X₈ vf) ⟨R, g2, q.ext (((X₄.trans X₅).trans X₆).trans X₈)⟩
 | err e' L'' σ'' =>
  intro ρ₆ s₆ m₆ r X₆ A₆ f1 f2
  refine note_ok A₆ f1 f2 fun s₇ X₇ A₇ N₇ => goes_ok (P := P.mark e p.a) (pos := hp) A₇ hn fun s₈ m₈ X₈ A₈ => pass_ok A₈ f1 (X₈.noted _ N₇) fun s₉ X₉ A₉ => note_ok A₉ f1 f2 fun s₁₀ X₁₀ A₁₀ N₁₀ => ?_
  have A₁₁ : At (P.at (L''.set x none) m₈) ρ₆ σ'' s₁₀ := At.unmark (P := P.at (L''.set x none) m₈) A₁₀ (hd.pre X₆.pre)
  exact back_ok A₁₁ f1 N₁₀ fun s₁₂ X₁₂ A₁₂ => h2 _ _ _ _ s₁₂ m₈ r A₁₂ f1 f2 ⟨R, g2, q.ext (((((((X₄.trans X₅).trans X₆).trans X₇).trans X₈).trans X₉).trans X₁₀).trans X₁₂)⟩
variable {b : List Stmt} {pb : PS} (hb : SndS P (execs b P.env) (exs C P pb))
include hb
theorem s_try : SndS P (exec (.Try b [.ExceptHandler (some (.Name cx cp)) (some n) (h₀ :: hs) hp] [] [] pos) P.env) (exs C P (.tryX pb x ph)) := fun L m ρ σ s A Q E' q =>
 wpAny_Try_except (hb L m _ _ _ A _ _ (q.split (fun fl L' σ' ρ' s' m' g X A' v q => by
  obtain ⟨_, rfl, q⟩ := q
  have q := q ρ' s' m' g .refl A' v
  cases fl with
  | nxt => cases v; exact wpAny_execs_nil q
  | ret w => obtain ⟨y, rfl, vy⟩ := v; exact q) fun e L' σ' ρ' s' m' p X A' e1 hx q =>
  note_ok A' e1 hx fun s₁ X₁ A₁ N₁ => flight_ok A₁ e1 hx fun s₂ X₂ A₂ => handle_ok (F := fun Q R => R = Q) hc hn hm A₂ e1 hx (q.ext (X₁.trans X₂)) (fun fl L' σ' ρ' s' m' g A v q => by
   obtain ⟨_, rfl, q⟩ := q
   exact q ρ' s' m' g .refl A v) fun e L' σ' ρ' s' m' p A e1 hx q => by
   obtain ⟨_, rfl, q⟩ := q
   exact q ρ' s' m' p .refl A e1 hx))
theorem s_tryfin {f₀ : Stmt} {fs : List Stmt} {pf : PS} (hf : SndS P (execs (f₀ :: fs) P.env) (exs C P pf)) (hg : ∀ i a, SndS (P.mark i a) (execs (f₀ :: fs) P.env) (ex C pf (some i))) :
 SndS P (exec (.Try b [.ExceptHandler (some (.Name cx cp)) (some n) (h₀ :: hs) hp] [] (f₀ :: fs) pos) P.env) (exs C P (.fin (.seq (.tryX pb x ph) .nil) pf)) := fun L m ρ σ s A Q E' q => by
 have q' : PostS P ρ s.heap (fun R => ∃ Q, exs C P pb L σ Q ∧ ∃ Q', Q.try (fun e L σ R => ∃ Q, ex C ph (some e) (L.set x (some (.ref e))) σ Q ∧ R = Q.clear x) Q' ∧ Q'.fin (fun g => ex C pf (g.or P.hd)) R) Q E' := q.map fun R z => by
  obtain ⟨Q', ⟨Q₁, ⟨Q₀, z1, z2⟩, z3⟩, z4⟩ := z
  have : Q' = Q₁ := by
   cases Q₁ with
   | ok f L σ => cases f <;> exact z3
   | err => exact z3
  exact ⟨Q₀, z1, Q', this ▸ z2, z4⟩
 refine wpAny_Try_except_finally (hb L m _ _ _ A _ _ (q'.split (fun fl L' σ' ρ' s' m' g X A' v q => ?_) fun e L' σ' ρ' s' m' p X A' e1 hx q => ?_))
 · obtain ⟨R, ⟨_, rfl, hR⟩, q⟩ := q
   cases fl with
   | nxt => cases v; exact wpAny_execs_nil (fin_plain hf A' (fl := .nxt) rfl ⟨R, hR, q⟩ fun s h => h)
   | ret w =>
    obtain ⟨y, rfl, vy⟩ := v
    exact fin_plain hf A' (fl := .ret w) (g := .ret y) ⟨y, rfl, vy⟩ ⟨R, hR, q⟩ fun s h => h
 · refine note_ok A' e1 hx fun s₁ X₁ A₁ N₁ => flight_ok A₁ e1 hx fun s₂ X₂ A₂ => handle_ok (F := fun Q R => Q.fin (fun g => ex C pf (g.or P.hd)) R) hc hn hm A₂ e1 hx ((q.map fun R z => ?_).ext (X₁.trans X₂)) (fun fl L' σ' ρ' s' m' g A v q => fin_plain hf A v q fun s h => h) fun e L' σ' ρ' s' m' p A e1 hx q => fin_raised hg A e1 hx q
   obtain ⟨_, ⟨Q₂, z1, rfl⟩, z2⟩ := z
   exact ⟨Q₂, z1, z2⟩
end
section
variable {P : Pt} {ρ : List Ad} {σ : St} {s : Shared} {E : Value → Shared → Prop} {p : Ad}
theorem throw_ok (A : At P ρ σ s) {i : Nat} (e1 : ρ[i]? = some p) (hx : p.x = true) (hm : mayRaise P.hd i = true) {α : Type} {Q : α → Shared → Prop} (h : ∀ s', Ext ρ s.heap ρ s'.heap → At P ρ σ s' → E (.ref p.a) s') : wpAny P.M P.A (raiseNew (α := α) (.ref p.a)) Q E s := by
 obtain ⟨fs, xs, _, Y, _⟩ := A.exc e1 hx
 have le : ∀ j, P.hd = some j → j ≤ i := fun j q => Nat.le_of_ble_eq_true (by rw [q] at hm; exact hm)
 refine raiseNew_ok A Y.1 rfl (Nat.lt_trans (by decide) Y.2.1) (fun j p' h1 h2 i' q hi hq => ?_) (h s .refl A) (fun j p' h1 h2 h3 hne => ?_) P.A rfl
 · exact flat_ne A.nod hq e1 (Nat.ne_of_lt (Nat.lt_of_lt_of_le hi (le j h1))) (.head _) (.head _)
 · have hj : j < i := Nat.lt_of_le_of_ne (le j h1) fun q => by subst q; cases e1.symm.trans h2; exact hne rfl
   obtain ⟨tb, cx, t1, t2, t3, t4⟩ := Y.2.2
   obtain ⟨A₂, X₂, _⟩ := A.head e1 hx Y (·.setIfInBounds 2 (.ref p'.a)) Array.size_setIfInBounds ((set_ne (by decide)).trans t1) t2 (fun T h => ⟨T, Option.some.inj (t1.symm.trans h)⟩) (set1 (Nat.lt_trans (by decide) Y.2.1)) (.inr ⟨j, p', hj, h2, h3, rfl⟩)
   exact h _ X₂ A₂
theorem is_type {d : Option Addr} {xs : Array Value} {a : Addr} (hx : s.heap.get? a = some (excObj P.c d xs)) {Q : Bool → Shared → Prop} (h : Q false s) : wpAny P.M P.A (isType (.ref a)) Q E s := by
 simp only [isType, loadHead]
 exact wpAny_bind (wpAny_loadPart hx (wpAny_pure h))
theorem s_raise {C : Caller} {Es : Expr → PE} (hE : SEs P C Es) {v : Expr} {pos : Pos} : SndS P (exec (.Raise (some v) none pos) P.env) (exs C P (.act .raise (.cons (Es v) .nil))) := fun L m ρ σ s A Q E p => by
 show wpAny _ _ (do standAt pos; raiseStmt P.env (some (do let v ← eval v P.env; standAt pos; pure v)) none) Q E s
 refine wpAny_bind (wpAny_standAt ?_)
 unfold raiseStmt
 dsimp only
 refine wpAny_bind (wpAny_bind (step1 (P := P.at L m) (hE L m v _ _ _ A) (p.act (m := m)).cons fun b σ₁ ρ₁ s₁ y X A₁ va p₁ => wpAny_bind (wpAny_standAt (wpAny_pure ?_))))
 obtain ⟨_, ⟨i, fs, rfl, e2, hm, rfl⟩, q⟩ := p₁.nil
 obtain ⟨a, e1, rfl⟩ := va
 have hx := (A₁.of e1 e2).1
 obtain ⟨_, xs, _, Y, _⟩ := A₁.exc e1 hx
 have LT : Looks P.M s₁.heap (typeOf (.ref a.a)) (.ref (P.c.D.cl excCl)) := (Looks.ld Y.1).andThen .now
 have LB : Looks P.M s₁.heap (isInstance (.ref a.a) (.type "BaseException")) true := LT.andThen (looks_mroIn A₁.K A₁.ok.top.subX)
 refine wpAny_bind (wpAny_pure ?_)
 dsimp only
 refine wpAny_bind (wpAny_holding ?_)
 unfold excFromValue isExcClass
 refine wpAny_bind (wpAny_bind (is_type Y.1 (wif_f Bool.false_ne_true (wpAny_pure (wif_f Bool.false_ne_true (wpAny_bind (LB.at (wif_t rfl (wpAny_pure ?_)))))))))
 refine wpAny_bind (is_type Y.1 (wif_f Bool.false_ne_true ?_))
 unfold raisedInstance
 refine wpAny_bind (wpAny_bind (LT.at (wpAny_bind ((looks_typeIn A₁.K A₁.ok.top.metaX).at (wif_t (beq_self_eq_true _) (wpAny_pure ?_))))))
 exact wpAny_bind (flight_ok A₁ e1 hx fun s₂ X₂ A₂ => throw_ok A₂ e1 hx hm fun s₃ X₃ A₃ => q _ _ _ (X₂.trans X₃) A₃ e1 hx)
end
theorem bif_s {b : Bool} {p q r : PS} (h : (bif b then p else q) = r) : (b = true ∧ p = r) ∨ (b = false ∧ q = r) := by cases b; exact .inr ⟨rfl, h⟩; exact .inl ⟨rfl, h⟩
theorem cEx_e {sc : Scope} {nms : List Str} {S : List Stmt → PS} {b : PS} (hs : List ExceptHandler) : cEx sc nms S b hs = .stuck ∨ ∃ cx cp n hp h₀ hs' x, hs = [.ExceptHandler (some (.Name cx cp)) (some n) (h₀ :: hs') hp] ∧ globOf sc cx = some (true, excCl) ∧ ixIn n nms = some x ∧ cEx sc nms S b hs = .tryX b x (S (h₀ :: hs')) := by
 cases hs with
 | nil => exact .inl rfl
 | cons h t =>
 cases t with
 | cons => exact .inl rfl
 | nil =>
 cases h with
 | ExceptHandler t x hb hp =>
 show gso (t.bind nameOf) _ = _ ∨ _
 cases h1 : t.bind nameOf with
 | none => exact .inl rfl
 | some y =>
 cases x with
 | none => exact .inl rfl
 | some n =>
 show gso (clsOf (globOf sc y)) _ = _ ∨ _
 cases h2 : clsOf (globOf sc y) with
 | none => exact .inl rfl
 | some c =>
 show gdS (Nat.beq c excCl && !hb.isEmpty) (gso (ixIn n nms) _) = _ ∨ _
 cases h3 : Nat.beq c excCl with
 | false => exact .inl rfl
 | true =>
 cases hb with
 | nil => exact .inl rfl
 | cons h₀ hs' =>
 show gso (ixIn n nms) _ = _ ∨ _
 cases h4 : ixIn n nms with
 | none => exact .inl rfl
 | some i =>
 obtain ⟨e, rfl, he⟩ := bind_e h1
 obtain ⟨p, rfl⟩ := name_e he
 obtain rfl := Nat.eq_of_beq_eq_true h3
 refine .inr ⟨y, p, n, hp, h₀, hs', i, rfl, cls_e h2, h4, ?_⟩
 have hy : (some (Expr.Name y p)).bind nameOf = some y := rfl
 unfold cEx
 dsimp only
 rw [hy]
 show gso (clsOf (globOf sc y)) _ = _
 rw [h2]
 show gso (ixIn n nms) _ = _
 rw [h4]; rfl
theorem stuck_fin {P : Pt} {C : Caller} {f : PS} {t : Sem Flow} : SndS P t (exs C P (.fin (.seq .stuck .nil) f)) := fun _ _ _ _ _ _ _ _ p => by
 obtain ⟨_, ⟨_, ⟨_, h, _⟩, _⟩, _⟩ := p
 exact h.elim
section
variable {P : Pt} {C : Caller} (hC : ∀ P' : Pt, P'.n = P.n → CallOK P' C) {S : List Stmt → PS}
include hC
theorem asg_ok {t v : Expr} {pos : Pos} (hv : noComp v = true) : SndS P (exec (.Assign [t] v pos) P.env) (exs C P (cAsg P.sc P.names t v)) := by
 have hE : SEs P C (cE P.sc P.names) := fun L m => cE_ok (hC (P.at L m) rfl)
 cases t with
 | Name x p => exact gso_ok fun i hi => s_asg hE (ixIn_get hi) hv
 | Attribute o a p => exact gso_ok fun k hk => s_setA hE (ixIn_get hk) hv
 | Subscript o i p => exact gdS_ok fun hi => s_setS hE hi hv
 | Tuple es k p =>
  show SndS P _ (exs C P (match tupOf v with
   | none => gdS (es.all noStar) (gso (cTgs P.sc P.names es) fun ts => .unp ts (cE P.sc P.names v))
   | some vs => bif es.all isAttr && !es.isEmpty then gso (cTgs P.sc P.names es) fun ts => .unp ts (cE P.sc P.names v) else gdS (swapOK P.sc es vs) (gso (cIs P.names es) fun is => .unpR is (cE P.sc P.names v))))
  cases ht : tupOf v with
  | none => exact gdS_ok fun hs => gso_ok fun ts h => s_unp hE hv (swapped_no ht) hs h
  | some vs =>
   obtain ⟨k', p', rfl⟩ := tup_e ht
   cases ha : es.all isAttr && !es.isEmpty with
   | true =>
    obtain ⟨h1, h2⟩ := and_e ha
    exact gso_ok fun ts h => s_unp hE hv (swapped_attr h1 (not_e h2)) (List.all_eq_true.mpr fun e he => by obtain ⟨_, _, _, rfl⟩ := attr_e (List.all_eq_true.mp h1 e he); rfl) h
   | false => exact gdS_ok fun hs => gso_ok fun is h => s_unpR hE hs h
 | _ => exact snd_sstk
variable (hS : ∀ P' : Pt, (P'.n = P.n ∧ P'.sc = P.sc ∧ P'.names = P.names) → ∀ l, SndS P' (execs l P'.env) (exs C P' (S l)))
include hS
theorem for_ok {t e : Expr} {b : List Stmt} {pos : Pos} : SndS P (exec (.For t e b [] pos) P.env) (exs C P (cFor P.sc P.names S t e b)) := by
 have hE : SEs P C (cE P.sc P.names) := fun L m => cE_ok (hC (P.at L m) rfl)
 cases t with
 | Name x p =>
  refine gso_ok fun i hi => ?_
  cases he : isAttr e || (isName e || isK e 21) with
  | true =>
   refine s_forL hE (ixIn_get hi) ?_ fun it o hk => hS (P.keep it o hk) ⟨rfl, rfl, rfl⟩ b
   rcases Bool.or_eq_true_iff.mp he with h | h
   · exact isK_ne h rfl
   · exact (Bool.or_eq_true_iff.mp h).elim (isK_ne · rfl) (isK_ne · rfl)
  | false =>
   cases e with
   | Call f as kw q =>
    refine gso_ok fun y hy => gdS_ok fun h => ?_
    obtain ⟨h1, h2⟩ := and_e h
    obtain rfl := List.isEmpty_iff.mp h2
    obtain ⟨np, rfl⟩ := name_e hy
    cases as with
    | nil => exact snd_sstk
    | cons a r =>
     cases r with
     | nil => exact gdS_ok fun ha => s_forR hE (ixIn_get hi) h1 ha fun it o hk => hS (P.keep it o hk) ⟨rfl, rfl, rfl⟩ b
     | cons => exact snd_sstk
   | _ => exact snd_sstk
 | Tuple es k p => exact gdS_ok fun hs => s_forT hE (not_e hs)
 | _ => exact snd_sstk
theorem cS1_ok (st : Stmt) : SndS P (exec st P.env) (exs C P (cS1 P.sc P.names S st)) := by
 have hE : SEs P C (cE P.sc P.names) := fun L m => cE_ok (hC (P.at L m) rfl)
 have hT : STs P C (cT P.sc P.names) := fun L m => cT_ok (hC (P.at L m) rfl)
 cases st with
 | Assign ts v pos =>
  cases ts with
  | nil => exact snd_sstk
  | cons t r =>
   cases r with
   | nil => exact gdS_ok fun hv => asg_ok hC hv
   | cons => exact snd_sstk
 | AugAssign t o v pos =>
  cases t with
  | Attribute ob a p => exact gso_ok fun k hk => gso_ok fun b hb => s_aug hE (ixIn_get hk) hb
  | _ => exact snd_sstk
 | Expr v pos => exact gdS_ok fun hv => s_expr hE hv
 | Return v pos =>
  cases v with
  | some v => exact s_ret hE
  | none => exact s_ret0
 | If t b o pos => exact s_ite hT (hS P ⟨rfl, rfl, rfl⟩ b) (hS P ⟨rfl, rfl, rfl⟩ o)
 | While t b o pos =>
  refine gdS_ok fun ho => ?_
  obtain rfl := List.isEmpty_iff.mp ho
  exact s_while hT (hS P ⟨rfl, rfl, rfl⟩ b)
 | For t e b o pos =>
  refine gdS_ok fun ho => ?_
  obtain rfl := List.isEmpty_iff.mp ho
  exact for_ok hC hS
 | Try b hs o f pos =>
  refine gdS_ok fun ho => ?_
  obtain rfl := List.isEmpty_iff.mp ho
  rcases cEx_e (sc := P.sc) (nms := P.names) (S := S) (b := S b) hs with he | ⟨cx, cp, nm, hp, h₀, hs', x, rfl, h1, h2, he⟩
  · cases f with
    | nil => exact he ▸ snd_sstk
    | cons f₀ fs =>
     cases hs with
     | nil => exact s_fin (hS P ⟨rfl, rfl, rfl⟩ b) (hS P ⟨rfl, rfl, rfl⟩ _) fun i a => hS (P.mark i a) ⟨rfl, rfl, rfl⟩ _
     | cons h t =>
      show SndS P _ (exs C P (.fin (.seq (cEx P.sc P.names S (S b) (h :: t)) .nil) (S (f₀ :: fs))))
      rw [he]; exact stuck_fin
  · cases f with
    | nil =>
     show SndS P _ (exs C P (cEx P.sc P.names S (S b) _))
     rw [he]; exact s_try h1 (ixIn_get h2) (fun i a => hS (P.mark i a) ⟨rfl, rfl, rfl⟩ _) (hS P ⟨rfl, rfl, rfl⟩ b)
    | cons f₀ fs =>
     show SndS P _ (exs C P (.fin (.seq (cEx P.sc P.names S (S b) _) .nil) (S (f₀ :: fs))))
     rw [he]; exact s_tryfin h1 (ixIn_get h2) (fun i a => hS (P.mark i a) ⟨rfl, rfl, rfl⟩ _) (hS P ⟨rfl, rfl, rfl⟩ b) (hS P ⟨rfl, rfl, rfl⟩ _) fun i a => hS (P.mark i a) ⟨rfl, rfl, rfl⟩ _
 | Raise v c pos =>
  refine gdS_ok fun hc => gso_ok fun e he => ?_
  subst he
  cases c with
  | none => exact s_raise hE
  | some _ => cases hc
 | _ => exact snd_sstk
end
theorem cSs_ok {C : Caller} : ∀ (k : Nat) (P : Pt), (∀ P' : Pt, P'.n = P.n → CallOK P' C) → ∀ l, SndS P (execs l P.env) (exs C P (cSs P.sc P.names k l)) := fun k => by
 induction k with
 | zero => exact fun _ _ _ => snd_sstk
 | succ k ih =>
  intro P hC l
  have hS : ∀ P' : Pt, (P'.n = P.n ∧ P'.sc = P.sc ∧ P'.names = P.names) → ∀ l, SndS P' (execs l P'.env) (exs C P' (cSs P.sc P.names k l)) := fun P' h l => by
   rw [← h.2.1, ← h.2.2]
   exact ih P' (fun Q hq => hC Q (hq.trans h.1)) l
  show SndS P _ (exs C P (l.foldr (fun st r => .seq (cS1 P.sc P.names (cSs P.sc P.names k) st) r) .nil))
  induction l with
  | nil => exact s_nil
  | cons st l il => exact s_cons (cS1_ok hC hS st) il
noncomputable abbrev Cx.fr (c : Cx) (l : List (Env × (Str → Option Value))) : Cx := { c with frames := l }
theorem vr_fr {c : Cx} {l : List (Env × (Str → Option Value))} {ρ : List Ad} {h : Heap} {v : MV} {x : Value} : VR (c.fr l) ρ h v x = VR c ρ h v x := by kernel_rfl
theorem obj_fr {c : Cx} {l : List (Env × (Str → Option Value))} {ρ : List Ad} {h : Heap} {i : Nat} {p : Ad} {o : MO} : ObjAt (c.fr l) ρ h i p o = ObjAt c ρ h i p o := by kernel_rfl
theorem loc_fr {c : Cx} {l : List (Env × (Str → Option Value))} {ρ : List Ad} {h : Heap} {n : List Str} {L : Loc} {m : Str → Option Value} : LocRel (c.fr l) ρ h n L m = LocRel c ρ h n L m := by kernel_rfl
noncomputable abbrev Pt.enter (P : Pt) (B : Around) (qual : Str) (scope : Scope) (L f : Addr) (cdv : Value) (m : Str → Option Value) (names : List Str) (locs : Loc) : Pt :=
 { c := P.c.fr ((P.env, P.m) :: P.c.frames), K := P.K, mg := P.mg, mb := P.mb, A := B.deeper (envOf qual scope L f cdv), q := qual, sc := scope, L := L, fa := f, cd := cdv, m := m, names := names, locs := locs, hd := P.hd, n := P.n - 1 }
noncomputable def Near (B A : Around) : Prop := B.frames = A.frames ∧ B.handled = A.handled ∧ B.depth ≤ A.depth + 1 ∧ B.units ≤ A.units + 10
section
variable {P : Pt} {B : Around} {ρ ρ' : List Ad} {σ σ' : St} {s s' : Shared} {qual : Str} {scope : Scope} {f L : Addr} {cdv : Value} {m : Str → Option Value} {names : List Str} {locs : Loc}
theorem At.enter (A : At P ρ σ s) (hB : Near B P.A) {h₀ : Heap} (ns : h₀.Ns s.heap.objs.size m) (k : ∀ b o, s.heap.get? b = some o → h₀.get? b = some o) (t : Nat) (hk : scope.kind = .function) (hn : 0 < P.n) (hl : LocRel P.c ρ s.heap names locs m) (hnd : names.Nodup) (hki : ∀ x ∈ names, scope.names.lookup x = some .local) :
 At (P.enter B qual scope s.heap.objs.size f cdv m names locs) ρ σ { s with heap := h₀, toks := t } ∧ Ext ρ s.heap ρ h₀ := by
 obtain ⟨A₁, X⟩ := A.grow (s' := { s with heap := h₀, toks := t }) k
 obtain ⟨n1, n2, n3⟩ := A.noones (g9 s.heap)
 obtain ⟨hf, hh, hd, hu⟩ := hB
 have hL : P.L < s.heap.objs.size := by
  obtain ⟨o, _, _, ho, _⟩ := A.fr.1
  exact Heap.lt_size ho
 have d1 := A.ok.depth
 have d2 := A.ok.units
 refine ⟨⟨⟨{ A.ok.top with }, fun e he => ?_, ?_, Nat.le_of_lt (Nat.lt_of_le_of_lt A.ok.above hL), hnd, hki, Around.frames_deeper (hf.trans A.ok.stack), ?_, ?_⟩, A₁.len, fun i p o e1 e2 => obj_fr ▸ A₁.obj i p o e1 e2, A₁.nod, A₁.base, A₁.fresh, ⟨ns, n1⟩, fun p hp => ?_, A₁.gens, A₁.os, loc_fr ▸ hl.mono (.refl _) X.tst, ?_⟩, X⟩
 · rcases List.mem_cons.mp he with rfl | he
   · exact ⟨hk, rfl, n2⟩
   · exact A.ok.env e he
 · exact List.nodup_cons.mpr ⟨fun hm => (List.mem_map.mp hm).elim fun e q => n3 e q.1 q.2, A.ok.fnod⟩
 · show B.depth + 1 + 2 * (P.n - 1) + 4 < recursionLimit
   lia
 · show B.units + 3 + 20 * (P.n - 1) + 60 < cLine
   lia
 · rcases List.mem_cons.mp hp with rfl | hp
   · exact A₁.fr
   · exact A₁.frs p hp
 · have hh' := A.hd
   show HdOK ρ P.hd (B.deeper _)
   cases q : P.hd with
   | none => rw [q] at hh'; exact hh.trans hh'
   | some i => rw [q] at hh'; exact hh'.imp fun p z => ⟨z.1, z.2.1, hh.trans z.2.2⟩
theorem At.leave (A : At P ρ σ s) (X : Ext ρ s.heap ρ' s'.heap) (A' : At (P.enter B qual scope L f cdv m names locs) ρ' σ' s') : At P ρ' σ' s' :=
 ⟨A.ok, A'.len, fun i p o e1 e2 => obj_fr ▸ A'.obj i p o e1 e2, A'.nod, A'.base, A'.fresh, A'.frs (P.env, P.m) (.head _), fun p hp => A'.frs p (.tail _ hp), A'.gens, A'.os, A.loc.mono X.pre X.tst, A.hd.pre X.pre⟩
end
theorem allK_get {Q : Nat → Prop} {lo : Nat} : ∀ {n : Nat}, allK Q lo n → ∀ k, k ≤ n → Q (lo + k) := fun {n} => by
 induction n with
 | zero => intro h k hk; exact Nat.le_zero.mp hk ▸ h
 | succ n ih =>
  intro h k hk
  rcases Nat.lt_or_eq_of_le hk with q | rfl
  · exact ih h.2 k (Nat.le_of_lt_succ q)
  · exact h.1
theorem range_get (l : List Value) : (List.range l.length).map (fun i => l.getD i .none) = l := by
 refine List.ext_getElem (by rw [List.length_map, List.length_range]) fun i h1 h2 => ?_
 rw [List.getElem_map, List.getElem_range]
 show l[i]?.getD .none = _
 rw [List.getElem?_eq_getElem h2]; rfl
theorem seq_e {o : Obj} {l : Array Value} (h : seqOf o = some l) : ∃ n, o.data = .seq l n := by
 unfold seqOf at h
 cases hd : o.data with
 | seq items n => rw [hd] at h; obtain rfl := Option.some.inj h; exact ⟨n, rfl⟩
 | _ => rw [hd] at h; exact (nos h).elim
theorem mvs_ok {c : Cx} {ρ : List Ad} {h : Heap} {f : Value → Option MV} (H : ∀ x v, f x = some v → VR c ρ h v x) : ∀ (l : List Value) (vs : List MV), mvsOf f l = some vs → VRs c ρ h vs l := fun l => by
 induction l with
 | nil => intro vs e; obtain rfl := Option.some.inj e; rfl
 | cons x r ih =>
  intro vs e
  obtain ⟨v, e1, e2⟩ := bind_e e
  obtain ⟨vs, e3, rfl⟩ := map_e e2
  exact ⟨x, r, rfl, H x v e1, ih vs e3⟩
theorem mv_ok {c : Cx} {ρ : List Ad} {h : Heap} {K : Frag} (X : K.In h) : ∀ (n : Nat) (x : Value) (v : MV), mvOf K n x = some v → VR c ρ h v x := fun n => by
 induction n with
 | zero => exact fun x v e => (nos e).elim
 | succ n ih =>
  intro x v e
  cases x with
  | none => obtain rfl := Option.some.inj e; rfl
  | bool b => obtain rfl := Option.some.inj e; rfl
  | int i t => obtain rfl := Option.some.inj e; exact ⟨t, rfl⟩
  | str s t =>
   obtain ⟨e1, e2⟩ := bif_e e
   obtain rfl := Option.some.inj e2
   exact ⟨t, rfl, e1⟩
  | ref a =>
   obtain ⟨o, e1, e2⟩ := bind_e e
   obtain ⟨e3, e4⟩ := bif_e e2
   obtain ⟨l, e5, e6⟩ := bind_e e4
   obtain ⟨vs, e7, rfl⟩ := map_e e6
   obtain ⟨m, hm⟩ := seq_e e5
   exact ⟨a, o, l.toList, m, rfl, ⟨X _ _ e1, eq_of_beq e3, hm⟩, mvs_ok ih _ _ e7⟩
  | _ => exact (nos e).elim
theorem lookup_mem {x : Str} {y : Value} : ∀ {l : List (Str × Value)}, (l.map (·.1)).Nodup → (x, y) ∈ l → l.lookup x = some y := fun {l} => by
 induction l with
 | nil => exact fun _ h => absurd h List.not_mem_nil
 | cons p l ih =>
  intro hn hm
  obtain ⟨h1, h2⟩ := List.nodup_cons.mp hn
  rw [List.lookup_cons]
  rcases List.mem_cons.mp hm with rfl | hm
  · rw [beq_self_eq_true]
  · rw [show (x == p.1) = false from beq_eq_false_iff_ne.mpr fun q => h1 (show p.1 ∈ _ from q ▸ (List.mem_map_of_mem (f := (·.1)) hm : x ∈ _))]
    exact ih h2 hm
theorem start_loc {c : Cx} {ρ : List Ad} {h : Heap} {N : List Str} {k j : Nat} {full : List MV} {vals : List Value} (hn : N.Nodup) (hk : k ≤ N.length) (hl : full.length = k) (v : VRs c ρ h full vals) : LocRel c ρ h N (full.map some ++ List.replicate j none) (fun x => ((N.take k).zip vals).reverse.lookup x) := by
 intro i x w e1 e2
 have hv := v.len
 by_cases hi : i < full.length
 · rw [List.getElem?_append_left (List.length_map (as := full) some ▸ hi), List.getElem?_map] at e2
   obtain ⟨w', e3, e4⟩ := Option.map_eq_some_iff.mp e2
   obtain rfl := Option.some.inj e4
   obtain ⟨y, e5, vy⟩ := (VRs.all ▸ v).get e3
   have hm : (N.take k).length = k := by rw [List.length_take]; exact Nat.min_eq_left hk
   refine ⟨y, lookup_mem ?_ (List.mem_reverse.mpr (List.mem_of_getElem? (i := i) (List.getElem?_zip_eq_some.mpr ⟨?_, e5⟩))), vy⟩
   · rw [List.map_reverse, List.map_fst_zip (Nat.le_of_eq (hm.trans (hl.symm.trans hv.symm)))]
     exact (List.reverse_perm _).nodup_iff.mpr (List.Sublist.nodup (List.take_sublist _ _) hn)
   · rw [List.getElem?_take_of_lt (hl ▸ hi)]; exact e1
 · rw [List.getElem?_append_right (List.length_map (as := full) some ▸ Nat.le_of_not_lt hi), List.getElem?_replicate] at e2
   split at e2 <;> cases e2
theorem lim_of {P : Pt} {ρ : List Ad} {σ : St} {s : Shared} (A : At P ρ σ s) : s.heap.NoLimit := A.ok.top.nolimit.keeps A.kb
theorem body_end {P : Pt} {B : Around} {qual : Str} {scope : Scope} {L f : Addr} {cdv : Value} {names : List Str} {ρ : List Ad} {σ : St} {s : Shared} (A : At P ρ σ s) {h₁ : Heap} (X₁ : Ext ρ s.heap ρ h₁) {m : Str → Option Value} {locs : Loc} {R : RS} {Q : Value → Shared → Prop} {E : Value → Shared → Prop} (p : PostR P (VR P.c) ρ h₁ Q E R.out) :
 PostSR (P.enter B qual scope L f cdv m names locs) ρ h₁ (fun f s' => Q (match f with | .ret v => v | _ => .none) s')
  (fun e s' => wpAny P.M (B.deeper (envOf qual scope L f cdv)) (leaving (envOf qual scope L f cdv) e) (fun _ s'' => E e s'') (fun e' s'' => E e' s'') s') R := by
 cases R with
 | ok fl L' σ' =>
  intro ρ' s' m' g X A' vf
  have A₂ : At P ρ' σ' s' := A.leave (X₁.trans X) A'
  cases fl with
  | nxt => cases vf; exact p ρ' s' .none X A₂ rfl
  | ret v =>
   obtain ⟨y, rfl, vy⟩ := vf
   exact p ρ' s' y X A₂ (vr_fr ▸ vy)
 | err e L' σ' =>
  intro ρ' s' m' r X A' e1 hx
  unfold leaving
  refine wpAny_bind (note_ok A' e1 hx fun s₁ Y₁ B₁ N => flight_ok B₁ e1 hx fun s₂ Y₂ B₂ => ?_)
  exact p ρ' s₂ r ((X.trans Y₁).trans Y₂) (A.leave (X₁.trans ((X.trans Y₁).trans Y₂)) B₂) e1 hx
section
variable {n : Nat} (hC : ∀ P : Pt, P.n = n → CallOK P (callN n)) {P : Pt} (hn : P.n = n + 1) {ρ : List Ad} {σ : St} {s : Shared}
include hC hn
theorem code_fn {B : Around} (hB : Near B P.A) {f : Nat} {args : List MV} {vals : List Value} (A : At P ρ σ s) (va : VRs P.c ρ s.heap args vals) {W : Result → Shared → Prop} (p : Post P (VR P.c) ρ s.heap (callN (n + 1) f args P.hd σ) (fun v s => W (.ok (.ret v)) s) (fun e s => W (.error e) s)) : codeAny P.M B (.call (.ref (P.c.D.fn f)) ⟨vals, []⟩) W s := by
 obtain ⟨_, ⟨q, R, hf, l1, l2, hR, rfl⟩, p⟩ := p
 obtain ⟨o, fd, b, k1, k2, k3, k4, k5, k6, k7⟩ := (A.ok.top.fnOK f q hf).at'
 obtain ⟨b1, c⟩ := and_e k5
 obtain ⟨b2, c⟩ := and_e c
 obtain ⟨b3, c⟩ := and_e c
 obtain ⟨b4, c⟩ := and_e c
 obtain ⟨b5, c⟩ := and_e c
 obtain ⟨b6, c⟩ := and_e c
 obtain ⟨b7, c⟩ := and_e c
 obtain ⟨b8, c⟩ := and_e c
 obtain ⟨b9, c⟩ := and_e c
 obtain ⟨b10, b11⟩ := and_e c
 have hva := va.len
 have hnd := of_decide_eq_true b8
 have hk : fd.scope.kind = .function := eq_of_beq b5
 have hloc : ∀ x ∈ locTab f, fd.scope.names.lookup x = some .local := fun x hx => eq_of_beq (List.all_eq_true.mp b7 x hx)
 have vx : VRs P.c ρ s.heap q.dflts (dflOf P.K fd.defaults) := mvs_ok (mv_ok A.K 3) _ _ k6
 have vfull : VRs P.c ρ s.heap (args ++ q.dflts.drop (args.length + q.dflts.length - q.params)) (vals ++ (dflOf P.K fd.defaults).drop (vals.length + q.dflts.length - q.params)) := hva ▸ VRs.all ▸ (VRs.all ▸ va).append ((VRs.all ▸ vx).drop _)
 have hfull : (args ++ q.dflts.drop (args.length + q.dflts.length - q.params)).length = q.params := by rw [List.length_append, List.length_drop]; lia
 have hb : ∀ S, peek P.K S (bindArgs fd ⟨vals, []⟩) = some (((locTab f).take q.params).zip (vals ++ (dflOf P.K fd.defaults).drop (vals.length + q.dflts.length - q.params))) := fun S => by
  have h := allK_get (k7 S fun i => vals.getD i .none) (vals.length - (q.params - q.dflts.length)) (by lia)
  rw [show q.params - q.dflts.length + (vals.length - (q.params - q.dflts.length)) = vals.length by lia] at h
  unfold bindAt at h
  rw [range_get] at h
  exact h
 have hd := A.ok.depth
 have hroom : B.depth < recursionLimit := by have := hB.2.2.1; lia
 refine codeAny_call_def hroom (A.K _ _ k1) k2 (lim_of A) (codeRec_of A.K b2) k3 (kp_binds A.K hb) (fun x hx q => by
  have := List.all_eq_true.mp b6 x hx
  rw [q] at this; cases this) (fun x hx => hloc _ (List.mem_of_mem_take (List.of_mem_zip (a := x.1) (b := x.2) hx).1)) (fun h₀ ns kk => ?_) (not_e b4) (not_e b3) hk
 have henv : callEnv fd s.heap.objs.size (P.c.D.fn f) = envOf fd.qualname fd.scope s.heap.objs.size (P.c.D.fn f) fd.code := by
  unfold callEnv envOf
  rw [eq_of_beq b9, List.isEmpty_iff.mp b10, eq_of_beq b11]; rfl
 rw [henv]
 obtain ⟨A₁, X₁⟩ := A.enter (qual := fd.qualname) (scope := fd.scope) (f := P.c.D.fn f) (cdv := fd.code) hB ns kk (s.toks + _) hk (hn ▸ Nat.succ_pos n) (start_loc (j := q.locals - q.params) hnd (Nat.le_of_ble_eq_true b1) hfull vfull) hnd hloc
 have body : ∀ m, SndS (P.enter B fd.qualname fd.scope s.heap.objs.size (P.c.D.fn f) fd.code m (locTab f) (loc0 q args)) (execs b (envOf fd.qualname fd.scope s.heap.objs.size (P.c.D.fn f) fd.code)) (ex (callN n) (cSs fd.scope (locTab f) 20 b) P.hd) :=
  fun m => cSs_ok (C := callN n) 20 (P.enter B fd.qualname fd.scope s.heap.objs.size (P.c.D.fn f) fd.code m (locTab f) (loc0 q args)) (fun P' h => hC P' (h.trans (congrArg (· - 1) hn))) b
 rw [k4] at body
 exact body (fun _ => none) (loc0 q args) _ _ _ _ A₁ _ _ ⟨R, hR, body_end (locs := loc0 q args) (m := fun _ => none) A X₁ (Q := fun v s => W (.ok (.ret v)) s) (E := fun e s => W (.error e) s) (p.ext X₁)⟩
theorem call_ok {f : Nat} {args : List MV} {vals : List Value} (A : At P ρ σ s) (va : VRs P.c ρ s.heap args vals) : SndAt P (VR P.c) (call (.ref (P.c.D.fn f)) vals) (callN (n + 1) f args P.hd) ρ σ s :=
 fun Q E p => wpAny_call (code_fn hC hn (B := P.A) ⟨rfl, rfl, Nat.le_succ _, Nat.le_add_right ..⟩ A va p)
end
section
variable {prog : Program} {w : World} {A : Around} {R : Result → Shared → Prop} {h : Heap} {g : Array GenState} {d : Drawn} {t : Nat} {os : OsState} {C : Addr}
variable {nm q : Str} {N : Addr} {bs : List Value} {hdct : Bool} {sn : List Str} {sub : List Value} {ab : Bool} {col : Option Bool} {dd : Option Addr} {k0 k1 k2 k3 k5 : Option Value}
noncomputable abbrev excNew (C t : Addr) : Obj := { cls := .ref C, data := .fields #[.ref t, .none, .none, .none, .bool false, .none] }
theorem make_exc {rest : List Value} {init : Value} (hC : h.get? C = some (excClassObj nm q C N bs [.type "Exception", .type "BaseException", .type "object"] hdct sn sub ab col dd k0 k1 k2 k3 k5 "Exception.__new__"))
 (hi : Looks (model prog w) h (typeLookup (.ref C) "__init__") (some init)) (hb : ∀ self, Looks (model prog w) h (bindSpecial init self) (init, [self])) (hrest : rest.length ≤ sizeLine)
 (hq : codeAny (model prog w) (A.under (.builtin "type.__call__" ⟨.ref C :: rest, []⟩)) (.call init ⟨.ref (h.objs.size + 1) :: rest, []⟩) (InitBack (h.objs.size + 1) R) ⟨(h.push { cls := .type "tuple", data := .seq rest.toArray }).push (excNew C h.objs.size), g, d, t, os⟩) :
 codeAny (model prog w) A (.call (.ref C) ⟨rest, []⟩) R ⟨h, g, d, t, os⟩ := by
 have F := PySem.F.excBase_Exception
 have f1 := tc_lookup
 have f2 := tc_bind (.ref C)
 have hT : (⟨h, g, d, t, os⟩ : Shared).TypeIs (.ref C) "type" := ⟨_, hC, rfl⟩
 refine codeAny_of_tree ?_
 show wpAny _ _ (callAny (.ref C) _) _ _ _
 repeat (any_goals (first | assumption | with_reducible refine wpAny_loadPart_at hC ?_ | wp_step))
 refine ⟨rfl, ?_⟩
 refine codeAny_call_builtin_at (Code.quiet_builtin _ (by decide +kernel)) entry_typeCall (wpAny_check_type_call_sub hC ?_)
 repeat (first | with_reducible refine wpAny_loadPart_at hC ?_ | with_reducible refine wpAny_madeBy_exc hC ?_ | wp_step)
 refine codeAny_call_builtin_code (Code.quiet_builtin _ F.quiet) (wpAny_check_new_sub F hC ?_)
 refine codeAny_exc_new_sub F hC ?_ hrest
 show wpAny _ _ _ _ _ _
 have hC₁ := Heap.get?_push_of_some { cls := .ref C, data := .fields #[.ref h.objs.size, .none, .none, .none, .bool false, .none] }
  (Heap.get?_push_of_some { cls := .type "tuple", data := .seq rest.toArray } hC)
 have k : ∀ b o, h.get? b = some o → ((h.push { cls := .type "tuple", data := .seq rest.toArray }).push (excNew C h.objs.size)).get? b = some o := fun b o e => Heap.get?_push_of_some _ (Heap.get?_push_of_some _ e)
 have hget : ((h.push { cls := .type "tuple", data := .seq rest.toArray }).push
  { cls := .ref C, data := .fields #[.ref h.objs.size, .none, .none, .none, .bool false, .none] }).get? (h.objs.size + 1) = some
  { cls := .ref C, data := .fields #[.ref h.objs.size, .none, .none, .none, .bool false, .none] } := by heap_get
 have hcC : (Value.ref C :: [.type "Exception", .type "BaseException", .type "object"]).contains (.ref C) = true := by simp
 have i1 := hi.keeps k
 have b1 := (hb (.ref (h.objs.size + 1))).keeps k
 unfold isInstance
 repeat (first | with_reducible refine wpAny_loadPart_at hget ?_ | wp_step)
 refine wpAny_isSubtype_exc (C := C) (base := .ref C) hC₁ ?_
 rw [hcC]
 rw [if_neg (by decide)]
 have t1 : Looks (model prog w) ((h.push { cls := .type "tuple", data := .seq rest.toArray }).push (excNew C h.objs.size)) (typeOf (.ref (h.objs.size + 1))) (.ref C) := (Looks.ld hget).andThen .now
 refine wpAny_bind (wpAny_holding ?_)
 refine wpAny_bind (wpAny_bind (t1.here (i1.here ?_)))
 dsimp only
 refine wpAny_holding (wpAny_bind (b1.here (wpAny_bind (wpAny_call ?_))))
 refine codeAny_mono hq fun r s' z => ?_
 rcases r with e | (v | _ | _ | _) <;> first | exact z | exact z.elim | skip
 obtain ⟨rfl, z⟩ := z
 exact wpAny_pure (wpAny_pure z)
end
theorem tc_units (A : Around) (C : Addr) (vals : List Value) : (A.under (.builtin "type.__call__" ⟨.ref C :: vals, []⟩)).units = A.units + 1 := by
 show A.units + Code.cUnits (.builtin "type.__call__" ⟨.ref C :: vals, []⟩) = A.units + 1
 have : Code.cUnits (.builtin "type.__call__" ⟨.ref C :: vals, []⟩) = 1 := by kernel_rfl
 rw [this]
section
variable {P : Pt} {ρ : List Ad} {σ : St} {s : Shared}
theorem look_init {cl f : Nat} {b : Bool} (A : At P ρ σ s) (hk : kind cl = some b) (hm : meths cl 5 = some f) :
 Looks P.M s.heap (typeLookup (.ref (P.c.D.cl cl)) (Str.ofString "__init__")) (some (.ref (P.c.D.fn f))) ∧ ∀ self, Looks P.M s.heap (bindSpecial (.ref (P.c.D.fn f)) self) (.ref (P.c.D.fn f), [self]) := by
 obtain ⟨h1, h2⟩ := A.ok.top.meth cl b 5 f hk (by decide) hm
 rw [show nmOf 5 = Str.ofString "__init__" by decide +kernel] at h1
 exact ⟨looks_findIn A.K h1, fun self => bind_fn A.K self h2⟩
theorem near_tc {C : Addr} {vals : List Value} : Near (P.A.under (.builtin "type.__call__" ⟨.ref C :: vals, []⟩)) P.A := ⟨rfl, rfl, Nat.le_refl _, tc_units .. ▸ Nat.add_le_add_left (by decide) _⟩
theorem kind_true {cl : Nat} (h : kind cl = some true) : cl = excCl := by
 have : ∀ x ∈ kindL, x.2 = true → x.1 = excCl := by decide +kernel
 obtain ⟨x, hx, rfl, e⟩ := lookN_mem2 h
 exact this x hx e
theorem params_le {f : Nat} {r : FnRec} (h : fns f = some r) : r.params ≤ 100 := by
 have : fnL.all (fun o => (o.map (fun r => Nat.ble r.params 100)).getD true) = true := by decide +kernel
 unfold fns at h
 cases h1 : fnL[f]? with
 | none => rw [h1] at h; cases h
 | some o =>
 rw [h1] at h
 obtain rfl : o = some r := h
 have := List.all_eq_true.mp this _ (List.mem_of_getElem? h1)
 exact Nat.le_of_ble_eq_true this
theorem two_new {h : Heap} {x : Addr} (hx : x ∈ flat1 ⟨h.objs.size + 1, some h.objs.size, false⟩) : h.get? x = none := by
 rcases List.mem_cons.mp hx with rfl | hx
 · exact Heap.get?_none_of_le (Nat.le_succ _)
 · obtain rfl := List.mem_singleton.mp hx; exact g9 _
variable {n : Nat} (hC : ∀ P : Pt, P.n = n → CallOK P (callN n)) (hn : P.n = n + 1)
include hC hn
theorem new_ok {cl : Nat} {b : Bool} (hk : kind cl = some b) {args : List MV} {vals : List Value} (A : At P ρ σ s) (va : VRs P.c ρ s.heap args vals) : SndAt P (V1 P) (call (.ref (P.c.D.cl cl)) vals) (newM (callN (n + 1)) P.hd cl args) ρ σ s := fun Q E p => by
 obtain ⟨r, ⟨f, b', q, hm, hk', hq, hr⟩, p⟩ := p
 obtain rfl : b = b' := Option.some.inj (hk.symm.trans hk')
 obtain ⟨h1, h2⟩ := look_init A hk hm
 have body : ∀ {s₁ : Shared} {ρ₁ : List Ad} {x : Addr} {W : Result → Shared → Prop}, At P ρ₁ (σ ++ [bif b then .exc [] else .inst cl []]) s₁ → Ext ρ s.heap ρ₁ s₁.heap → VR P.c ρ₁ s₁.heap (.ref σ.length) (.ref x) → (∀ v s, Q v s → W (.ok (.ret v)) s) → (∀ e s, E e s → W (.error e) s) →
  codeAny P.M (P.A.under (.builtin "type.__call__" ⟨.ref (P.c.D.cl cl) :: vals, []⟩)) (.call (.ref (P.c.D.fn f)) ⟨.ref x :: vals, []⟩) (InitBack x W) s₁ := by
  intro s₁ ρ₁ x W A₁ X₁ vx w1 w2
  refine code_fn (args := .ref σ.length :: args) (vals := .ref x :: vals) hC hn near_tc A₁ ⟨.ref x, vals, rfl, vx, X₁.vrs va⟩ ⟨q, hq, ?_⟩
  cases q with
  | err e σ' => cases hr; exact fun ρ' s' p' X A e1 hx => w2 _ _ (p ρ' s' p' (X₁.trans X) A e1 hx)
  | ok v σ' =>
   obtain ⟨rfl, rfl⟩ := hr
   exact fun ρ' s' a X A' va => ⟨va, w1 _ _ (p ρ' s' _ (X₁.trans X) A' ⟨_, rfl, X.vr vx⟩)⟩
 have k : ∀ (a c : Obj) b o, s.heap.get? b = some o → ((s.heap.push a).push c).get? b = some o := fun a c b o e => Heap.get?_push_of_some _ (Heap.get?_push_of_some _ e)
 refine wpAny_call ?_
 cases b with
 | false =>
  refine make_core (makes_of A.K (A.ok.top.makes cl hk)) h1 h2 (.inl rfl) ?_
  obtain ⟨A₁, X₁, vx⟩ := A.new (s' := { s with heap := (s.heap.push emptyDict).push (instObj (P.c.D.cl cl) s.heap.objs.size) }) (p := ⟨s.heap.objs.size + 1, some s.heap.objs.size, false⟩) (o := .inst cl []) (k _ _) (fun x hx => two_new hx)
   (List.nodup_cons.mpr ⟨fun h => Nat.succ_ne_self _ (List.mem_singleton.mp h), List.nodup_cons.mpr ⟨List.not_mem_nil, .nil⟩⟩) fun ht => ⟨rfl, s.heap.objs.size, rfl, hk, by heap_get, [], 0, by heap_get, rfl, Nat.zero_le _, fun x hx => absurd hx List.not_mem_nil⟩
  exact body A₁ X₁ vx (fun v s h => h) fun e s h => h
 | true =>
  obtain rfl := kind_true hk
  obtain ⟨nm, qq, N, bs, hdct, sn, sub, ab, col, dd, k0, k1, k2, k3, k5, hCl⟩ := A.ok.top.excC
  refine make_exc (A.K _ _ hCl) h1 h2 ?_ ?_
  · obtain ⟨q', _, hf, hl, _⟩ := hq
    have h1 := Nat.le_trans hl (params_le hf)
    exact va.len ▸ Nat.le_trans (Nat.le_of_succ_le h1) (by decide)
  obtain ⟨A₁, X₁, vx⟩ := A.new (s' := { s with heap := (s.heap.push { cls := .type "tuple", data := .seq vals.toArray }).push (excNew (P.c.D.cl excCl) s.heap.objs.size) }) (p := ⟨s.heap.objs.size + 1, none, true⟩) (o := .exc []) (k _ _) (fun x hx => List.mem_singleton.mp hx ▸ Heap.get?_none_of_le (Nat.le_succ _))
   (List.nodup_cons.mpr ⟨List.not_mem_nil, .nil⟩) fun ht => ⟨rfl, #[.ref s.heap.objs.size, .none, .none, .none, .bool false, .none], ⟨by heap_get, (show 4 < 6 by decide), .none, .none, rfl, .inl rfl, rfl, .inl rfl⟩, .inl ⟨rfl, rfl⟩⟩
  exact body A₁ X₁ vx (fun v s h => h) fun e s h => h
end
theorem callOK : ∀ (n : Nat) (P : Pt), P.n = n → CallOK P (callN n) := fun n => by
 induction n with
 | zero =>
  exact fun P hn => ⟨fun f _ args vals ρ σ s A va Q E p => p.elim fun _ q => q.1.elim, fun cl b hk args vals ρ σ s A va Q E p => p.elim fun _ q => by
   obtain ⟨⟨_, _, _, _, _, h, _⟩, _⟩ := q
   exact h.elim⟩
 | succ n ih => exact fun P hn => ⟨fun f _ args vals ρ σ s A va => call_ok ih hn A va, fun cl b hk args vals ρ σ s A va => new_ok ih hn hk A va⟩
end
section
open PySem (Str)
structure Fz where
 f : Nat → Option MO
 b : Nat
noncomputable abbrev Lg := List (Nat × MO)
structure Hp (φ : Fz) (Λ : Lg) (σ : St) : Prop where
 fz : ∀ h o, φ.f h = some o → σ[h]? = some o
 mem : ∀ p ∈ Λ, σ[p.1]? = some p.2
 nod : (Λ.map (·.1)).Nodup
 sep : ∀ p ∈ Λ, φ.f p.1 = none
 bd : φ.b ≤ σ.length
noncomputable def Fz.fr (φ : Fz) (h : Nat) : Nat := φ.b + h
noncomputable def Fz.le (φ φ' : Fz) : Prop := (∀ h o, φ.f h = some o → φ'.f h = some o) ∧ φ.b ≤ φ'.b
theorem Fz.le.refl (φ : Fz) : φ.le φ := ⟨fun _ _ h => h, Nat.le_refl _⟩
theorem Fz.le.trans {a b c : Fz} (x : a.le b) (y : b.le c) : a.le c := ⟨fun h o e => y.1 h o (x.1 h o e), Nat.le_trans x.2 y.2⟩
noncomputable def Fz.add (φ : Fz) (h : Nat) (o : MO) : Fz := ⟨fun k => if k = h then some o else φ.f k, φ.b⟩
theorem Hp.lt {φ : Fz} {Λ : Lg} {σ : St} (H : Hp φ Λ σ) {p : Nat × MO} (h : p ∈ Λ) : p.1 < σ.length := (List.getElem?_eq_some_iff.mp (H.mem p h)).1
theorem Hp.sub {φ : Fz} {Λ Λ' : Lg} {σ : St} (H : Hp φ Λ σ) (h : ∀ p ∈ Λ', p ∈ Λ) (n : (Λ'.map (·.1)).Nodup) : Hp φ Λ' σ := ⟨H.fz, fun p hp => H.mem p (h p hp), n, fun p hp => H.sep p (h p hp), H.bd⟩
theorem Hp.drop {φ : Fz} {p : Nat × MO} {Λ : Lg} {σ : St} (H : Hp φ (p :: Λ) σ) : Hp φ Λ σ := H.sub (fun q hq => .tail _ hq) (List.nodup_cons.mp H.nod).2
theorem Hp.freeze {φ : Fz} {h : Nat} {o : MO} {Λ : Lg} {σ : St} (H : Hp φ ((h, o) :: Λ) σ) : Hp (φ.add h o) Λ σ ∧ φ.le (φ.add h o) := by
 obtain ⟨h1, h2⟩ := List.nodup_cons.mp H.nod
 refine ⟨⟨fun k x e => ?_, fun q hq => H.mem q (.tail _ hq), h2, fun q hq => (if_neg fun e => h1 (List.mem_map.mpr ⟨q, hq, e⟩)).trans (H.sep q (.tail _ hq)), H.bd⟩, fun k x e => (if_neg fun e' => ?_).trans e, Nat.le_refl _⟩
 · by_cases hk : k = h
   · subst hk
     exact (H.mem _ (.head _)).trans ((if_pos rfl).symm.trans e)
   · exact H.fz k x ((if_neg hk).symm.trans e)
 · subst e'; exact nomatch (H.sep _ (.head _)).symm.trans e
theorem Hp.alloc {φ : Fz} {Λ : Lg} {σ : St} (H : Hp φ Λ σ) (o : MO) : Hp φ ((σ.length, o) :: Λ) (σ ++ [o]) := by
 have lt : ∀ {h : Nat} {x : MO}, σ[h]? = some x → (σ ++ [o])[h]? = some x := fun e => List.getElem?_append_left (List.getElem?_eq_some_iff.mp e).1 ▸ e
 refine ⟨fun h x e => lt (H.fz h x e), fun p hp => ?_, List.nodup_cons.mpr ⟨fun hm => ?_, H.nod⟩, fun p hp => ?_, Nat.le_trans H.bd (List.length_append ▸ Nat.le_add_right _ _)⟩
 · rcases List.mem_cons.mp hp with rfl | hp
   · exact List.getElem?_concat_length
   · exact lt (H.mem p hp)
 · obtain ⟨p, hp, e⟩ := List.mem_map.mp hm
   exact Nat.lt_irrefl _ (e ▸ H.lt hp)
 · rcases List.mem_cons.mp hp with rfl | hp
   · cases q : φ.f σ.length with
     | none => rfl
     | some x => exact absurd (List.getElem?_eq_some_iff.mp (H.fz _ _ q)).1 (Nat.lt_irrefl _)
   · exact H.sep p hp
theorem Hp.frh {φ : Fz} {Λ : Lg} {σ : St} (H : Hp φ Λ σ) : ∃ h, σ.length = φ.fr h := ⟨σ.length - φ.b, (Nat.add_sub_cancel' H.bd).symm⟩
theorem keys_set {k : Nat} {o o' : MO} : ∀ {Λ : Lg} {j : Nat}, Λ[j]? = some (k, o) → (Λ.set j (k, o')).map (·.1) = Λ.map (·.1) := fun {Λ} => by
 induction Λ with
 | nil => exact fun _ => rfl
 | cons p r ih =>
  intro j e
  cases j with
  | zero => obtain rfl := Option.some.inj e; rfl
  | succ j => exact congrArg (p.1 :: ·) (ih e)
theorem mem_set {k : Nat} {o o' : MO} : ∀ {Λ : Lg} {j : Nat}, (Λ.map (·.1)).Nodup → Λ[j]? = some (k, o) → ∀ p ∈ Λ.set j (k, o'), p = (k, o') ∨ (p ∈ Λ ∧ p.1 ≠ k) := fun {Λ} => by
 induction Λ with
 | nil => exact fun _ _ p hp => absurd hp List.not_mem_nil
 | cons q r ih =>
  intro j hn e p hp
  obtain ⟨h1, h2⟩ := List.nodup_cons.mp hn
  cases j with
  | zero =>
   obtain rfl := Option.some.inj e
   exact (List.mem_cons.mp hp).imp id fun hp => ⟨.tail _ hp, fun e => h1 (List.mem_map.mpr ⟨p, hp, e⟩)⟩
  | succ j =>
   rcases List.mem_cons.mp hp with rfl | hp
   · exact .inr ⟨.head _, fun e' => h1 (List.mem_map.mpr ⟨_, List.mem_of_getElem? e, e'.symm⟩)⟩
   · exact (ih h2 e p hp).imp id (And.imp_left (.tail _))
theorem Hp.nth {φ : Fz} {Λ : Lg} {σ : St} (H : Hp φ Λ σ) {j k : Nat} {o : MO} (e : Λ[j]? = some (k, o)) : σ[k]? = some o := H.mem _ (List.mem_of_getElem? e)
theorem Hp.set {φ : Fz} {Λ : Lg} {σ : St} (H : Hp φ Λ σ) {j k : Nat} {o o' : MO} (e : Λ[j]? = some (k, o)) : Hp φ (Λ.set j (k, o')) (σ.set k o') := by
 have hm := List.mem_of_getElem? e
 have hs : φ.f k = none := H.sep _ hm
 refine ⟨fun h x q => ?_, fun p hp => ?_, keys_set e ▸ H.nod, fun p hp => ?_, (List.length_set (as := σ) (i := k) (a := o')).symm ▸ H.bd⟩
 · exact (List.getElem?_set_ne fun z => nomatch (z ▸ hs).symm.trans q).trans (H.fz h x q)
 · rcases mem_set H.nod e p hp with rfl | ⟨h, h'⟩
   · exact List.getElem?_set_self (H.lt hm)
   · exact (List.getElem?_set_ne h'.symm).trans (H.mem p h)
 · rcases mem_set H.nod e p hp with rfl | ⟨h, h'⟩
   · exact hs
   · exact H.sep p h
noncomputable def Out {α : Type} (φ : Fz) (K : α → Fz → Lg → Prop) (X : Nat → Fz → Lg → Prop) : Rs α → Prop
 | .ok v σ => ∃ φ' Λ', Hp φ' Λ' σ ∧ φ.le φ' ∧ K v φ' Λ'
 | .err e σ => ∃ φ' Λ', Hp φ' Λ' σ ∧ φ.le φ' ∧ X e φ' Λ'
noncomputable def OutS (φ : Fz) (K : Fl → Loc → Fz → Lg → Prop) (X : Nat → Loc → Fz → Lg → Prop) : RS → Prop
 | .ok f L σ => ∃ φ' Λ', Hp φ' Λ' σ ∧ φ.le φ' ∧ K f L φ' Λ'
 | .err e L σ => ∃ φ' Λ', Hp φ' Λ' σ ∧ φ.le φ' ∧ X e L φ' Λ'
noncomputable def Wp {α : Type} (φ : Fz) (Λ : Lg) (m : MM α) (K : α → Fz → Lg → Prop) (X : Nat → Fz → Lg → Prop) : Prop := ∀ σ, Hp φ Λ σ → ∃ r, m σ r ∧ Out φ K X r
noncomputable def WpS (φ : Fz) (Λ : Lg) (m : SM) (K : Fl → Loc → Fz → Lg → Prop) (X : Nat → Loc → Fz → Lg → Prop) : Prop := ∀ σ, Hp φ Λ σ → ∃ r, m σ r ∧ OutS φ K X r
section
variable {α β : Type} {φ φ' : Fz} {Λ Λ' : Lg} {K : α → Fz → Lg → Prop} {X : Nat → Fz → Lg → Prop} {KS : Fl → Loc → Fz → Lg → Prop} {XS : Nat → Loc → Fz → Lg → Prop}
theorem Out.le {r : Rs α} (h : Out φ' K X r) (l : φ.le φ') : Out φ K X r := by
 cases r <;> exact Exists.imp (fun _ => Exists.imp fun _ => And.imp_right <| And.imp_left l.trans) h
theorem OutS.le {r : RS} (h : OutS φ' KS XS r) (l : φ.le φ') : OutS φ KS XS r := by
 cases r <;> exact Exists.imp (fun _ => Exists.imp fun _ => And.imp_right <| And.imp_left l.trans) h
theorem Out.mono {K' : α → Fz → Lg → Prop} {X' : Nat → Fz → Lg → Prop} {r : Rs α} (h : Out φ K X r) (k : ∀ v φ' Λ', φ.le φ' → K v φ' Λ' → K' v φ' Λ') (x : ∀ e φ' Λ', φ.le φ' → X e φ' Λ' → X' e φ' Λ') : Out φ K' X' r := by
 cases r with
 | ok v σ => obtain ⟨φ', Λ', a, b, c⟩ := h; exact ⟨φ', Λ', a, b, k _ _ _ b c⟩
 | err e σ => obtain ⟨φ', Λ', a, b, c⟩ := h; exact ⟨φ', Λ', a, b, x _ _ _ b c⟩
theorem Wp.mono {m : MM α} {K' : α → Fz → Lg → Prop} {X' : Nat → Fz → Lg → Prop} (h : Wp φ Λ m K X) (k : ∀ v φ' Λ', φ.le φ' → K v φ' Λ' → K' v φ' Λ') (x : ∀ e φ' Λ', φ.le φ' → X e φ' Λ' → X' e φ' Λ') : Wp φ Λ m K' X' := fun σ H => (h σ H).imp fun _ => And.imp_right (·.mono k x)
theorem Wp.map {m m' : MM α} (h : Wp φ Λ m K X) (f : ∀ σ r, Hp φ Λ σ → m σ r → m' σ r) : Wp φ Λ m' K X := fun σ H => (h σ H).imp fun r => And.imp_left (f σ r H)
theorem Wp.ret {v : α} (h : K v φ Λ) : Wp φ Λ (Mine.ret v) K X := fun σ H => ⟨_, rfl, φ, Λ, H, .refl φ, h⟩
theorem Wp.bnd {m : MM β} {f : β → MM α} (h : Wp φ Λ m (fun v φ₁ Λ₁ => Wp φ₁ Λ₁ (f v) K X) X) : Wp φ Λ (bnd m f) K X := by
 intro σ H
 obtain ⟨r, h1, h2⟩ := h σ H
 cases r with
 | ok v σ' =>
  obtain ⟨φ', Λ', a, b, c⟩ := h2
  obtain ⟨r, h3, h4⟩ := c σ' a
  exact ⟨r, ⟨_, h1, h3⟩, h4.le b⟩
 | err e σ' => exact ⟨.err e σ', ⟨_, h1, rfl⟩, h2⟩
theorem Wp.pure {m : MM α} {v : α} (h : ∀ σ, Hp φ Λ σ → m σ (.ok v σ)) (k : K v φ Λ) : Wp φ Λ m K X := fun σ H => ⟨_, h σ H, φ, Λ, H, .refl φ, k⟩
theorem Wp.upd {m : MM α} {v : α} {j k : Nat} {o₀ o : MO} (e : Λ[j]? = some (k, o₀)) (h : ∀ σ, σ[k]? = some o₀ → m σ (.ok v (σ.set k o))) (q : K v φ (Λ.set j (k, o))) : Wp φ Λ m K X := fun σ H => ⟨_, h σ (H.nth e), φ, _, H.set e, .refl φ, q⟩
theorem Wp.new {m : MM (List MV)} {K : List MV → Fz → Lg → Prop} {o : MO} (h : ∀ σ, Hp φ Λ σ → m σ (.ok [.ref σ.length] (σ ++ [o]))) (q : ∀ h, K [.ref (φ.fr h)] φ ((φ.fr h, o) :: Λ)) : Wp φ Λ m K X := fun σ H => by
 obtain ⟨h', e⟩ := H.frh
 have H1 := H.alloc o
 have h1 := h σ H
 rw [e] at H1 h1
 exact ⟨_, h1, φ, _, H1, .refl φ, q h'⟩
theorem Wp.freeze {m : MM α} {h : Nat} {o : MO} (w : φ.le (φ.add h o) → Wp (φ.add h o) Λ m K X) : Wp φ ((h, o) :: Λ) m K X := fun σ H => by
 obtain ⟨H', hle⟩ := H.freeze
 exact (w hle σ H').imp fun _ => And.imp_right (·.le hle)
theorem Wp.bd {m : MM α} {j h : Nat} {o : MO} (e : Λ[j]? = some (h, o)) (w : φ.le ⟨φ.f, max φ.b (h + 1)⟩ → Wp ⟨φ.f, max φ.b (h + 1)⟩ Λ m K X) : Wp φ Λ m K X := fun σ H => by
 have hle : φ.le ⟨φ.f, max φ.b (h + 1)⟩ := ⟨fun _ _ e => e, Nat.le_max_left _ _⟩
 have lt := H.lt (List.mem_of_getElem? e)
 exact (w hle σ ⟨H.fz, H.mem, H.nod, H.sep, Nat.max_le.mpr ⟨H.bd, lt⟩⟩).imp fun _ => And.imp_right (·.le hle)
theorem Wp.sub {m : MM α} (w : Wp φ Λ' m K X) (h : ∀ p ∈ Λ', p ∈ Λ) (n : (Λ.map (·.1)).Nodup → (Λ'.map (·.1)).Nodup) : Wp φ Λ m K X := fun σ H => w σ (H.sub h (n H.nod))
theorem WpS.map {m m' : SM} (h : WpS φ Λ m KS XS) (f : ∀ σ r, Hp φ Λ σ → m σ r → m' σ r) : WpS φ Λ m' KS XS := fun σ H => (h σ H).imp fun r => And.imp_left (f σ r H)
theorem WpS.inS {m : MM β} {L : Loc} {f : β → SM} (h : Wp φ Λ m (fun v φ₁ Λ₁ => WpS φ₁ Λ₁ (f v) KS XS) (fun e φ₁ Λ₁ => XS e L φ₁ Λ₁)) : WpS φ Λ (inS m L f) KS XS := by
 intro σ H
 obtain ⟨r, h1, h2⟩ := h σ H
 cases r with
 | ok v σ' =>
  obtain ⟨φ', Λ', a, b, c⟩ := h2
  obtain ⟨r, h3, h4⟩ := c σ' a
  exact ⟨r, ⟨_, h1, h3⟩, h4.le b⟩
 | err e σ' => exact ⟨.err e L σ', ⟨_, h1, rfl⟩, h2⟩
theorem WpS.nxt {L : Loc} (k : KS .nxt L φ Λ) : WpS φ Λ (nxt L) KS XS := fun σ H => ⟨_, rfl, φ, Λ, H, .refl φ, k⟩
theorem WpS.then {m m' : SM} (h : WpS φ Λ m (fun f L φ₁ Λ₁ => ∀ σ₁, Hp φ₁ Λ₁ σ₁ → ∃ r, (∀ σ, m σ (.ok f L σ₁) → m' σ r) ∧ OutS φ₁ KS XS r) (fun e L φ₁ Λ₁ => ∀ σ₁, Hp φ₁ Λ₁ σ₁ → ∃ r, (∀ σ, m σ (.err e L σ₁) → m' σ r) ∧ OutS φ₁ KS XS r)) : WpS φ Λ m' KS XS := by
 intro σ H
 obtain ⟨r, h1, h2⟩ := h σ H
 cases r with
 | ok f L σ' =>
  obtain ⟨φ', Λ', a, b, c⟩ := h2
  obtain ⟨r, h3, h4⟩ := c σ' a
  exact ⟨r, h3 _ h1, h4.le b⟩
 | err e L σ' =>
  obtain ⟨φ', Λ', a, b, c⟩ := h2
  obtain ⟨r, h3, h4⟩ := c σ' a
  exact ⟨r, h3 _ h1, h4.le b⟩
end
inductive Ct where
 | E (p : PE) | S (s : PS) | P (o : Op) (vs : List MV) | C (f : Nat) (args : List MV) | V (vs : List MV) | F (f : Fl) | X (e : Nat)
 | W (t : PE) (b : PS) | L (x l : Nat) (b : PS) (i : Nat) | R (k x : Nat) (b : PS) (i : Nat) | T (ts : List Tgt) (vs : List MV)
inductive Frm where
 | consL (b : PE) | consR (us : List MV) | op (o : Op) | meth (k : Nat) (a : PE) | mcl (o : Op) (pre : List MV) | dict (ks : List Str) (d : Nat) | bools (c : Bool) (r : PE) | ite (p q : PE) | tnot | tcons (c : Bool) (r : PE) | val | new (h : Nat)
 | asg (i : Nat) | act | unp (ts : List Tgt) | sT (n : Nat) (v : MV) (ts : List Tgt) (ws : List MV) | unpR (is : List Nat) | aug1 (n : Nat) (o : BOp) (x : PE) | aug2 (a : MV) (n : Nat) (o : BOp) (x : PE) | aug3 (a v : MV) (n : Nat) (o : BOp) | ret | iteS (b o : PS) | whT (t : PE) (b : PS) | forL (x : Nat) (b : PS) | forR (x : Nat) (b : PS) | forT
 | seq (r : PS) | try (x : Nat) (h : PS) | clr (x : Nat) (hd : Option Nat) | fin (f : PS) | fin2 (fl : Fl) | fin3 (e : Nat) (hd : Option Nat) | whB (t : PE) (b : PS) | forB (x l : Nat) (b : PS) (i : Nat) | rngB (k x : Nat) (b : PS) (i : Nat)
 | fn (n : Nat) (hd : Option Nat) (L : Loc)
structure Ac where
 hn : List Nat
 os : List MO
 vs : List MV
 ka : List Nat
 kb : List Nat
 ba : List Bool
 bb : List Bool
 ob : Prop
structure Z where
 c : Ct
 fr : List Frm
 n : Nat
 hd : Option Nat
 L : Loc
 Λ : Lg
 q : Ac
noncomputable abbrev Ac.dg (q : Ac) : Nat := q.hn.headD 63
noncomputable abbrev Ac.pop (q : Ac) : Ac := { q with hn := q.hn.tail }
noncomputable abbrev Ac.key (q : Ac) (k h : Nat) : Ac := { q with ka := k :: q.ka, kb := h :: q.kb }
noncomputable abbrev Ac.cl (q : Ac) (b : Bool) : Ac := { q with ba := b :: q.ba, bb := true :: q.bb }
noncomputable abbrev Ac.need (q : Ac) (p : Prop) : Ac := { q with ob := p ∧ q.ob }
noncomputable abbrev Z.val (z : Z) (q : Ac) (us : List MV) : Option Z := some { z with c := .V us, q := q }
section
variable (φ : Fz) (Λ : Lg) (z : Z) (q : Ac)
noncomputable def Ac.tst (c : Bool) (k : Bool → Ac → Option Z) : Option Z := match q.dg with
 | 0 => k true (q.pop.cl c)
 | 1 => k false (q.pop.cl (!c))
 | 2 => k true (q.pop.need (c = true))
 | 3 => k false (q.pop.need (c = false))
 | _ => none
noncomputable def Ac.ok (c : Bool) (k : Ac → Option Z) : Option Z := q.tst c fun t q => bif t then k q else none
noncomputable def Ac.rd (h : Nat) (k : MO → Ac → Option Z) : Option Z := bif Nat.beq q.dg 4 then (match q.os with
 | o :: r => k o (Ac.need { q.pop with os := r } (φ.f h = some o))
 | [] => none) else bif Nat.blt q.dg 60 then (match Λ[q.dg - 8]? with
 | some p => k p.2 (q.pop.key p.1 h)
 | none => none) else none
noncomputable def Ac.wr (h : Nat) (k : MO → (MO → Lg) → Ac → Option Z) : Option Z := bif Nat.blt q.dg 60 then (match Λ[q.dg - 8]? with
 | some p => k p.2 (fun o => Λ.set (q.dg - 8) (p.1, o)) (q.pop.key p.1 h)
 | none => none) else none
noncomputable def Ac.vl (o : Option MV) (k : MV → Ac → Option Z) : Option Z := bif Nat.beq q.dg 5 then (match q.vs with
 | w :: r => k w (Ac.need { q.pop with vs := r } (o = some w))
 | [] => none) else bif Nat.blt q.dg 60 then o.bind fun w => k w q.pop else none
noncomputable def Ac.bl (o : Option Bool) (k : Bool → Ac → Option Z) : Option Z := match q.dg with
 | 2 => k true (q.pop.need (o = some true))
 | 3 => k false (q.pop.need (o = some false))
 | _ => bif Nat.blt q.dg 60 then o.bind fun t => k t q.pop else none
noncomputable def Ac.ot (o : MO) (k : MO → Ac → Option Z) : Option Z := bif Nat.beq q.dg 5 then (match q.os with
 | w :: r => k w (Ac.need { q.pop with os := r } (o = w))
 | [] => none) else bif Nat.blt q.dg 60 then k o q.pop else none
noncomputable def u1 {α : Type} (vs : List MV) (k : MV → Option α) : Option α := match vs with
 | [v] => k v
 | _ => none
noncomputable def u2 {α : Type} (vs : List MV) (k : MV → MV → Option α) : Option α := match vs with
 | [v, w] => k v w
 | _ => none
noncomputable def u3 {α : Type} (vs : List MV) (k : MV → MV → MV → Option α) : Option α := match vs with
 | [v, w, u] => k v w u
 | _ => none
noncomputable def MV.scr? : MV → Option (List Int)
 | .scr l => some l
 | _ => Option.none
noncomputable def MV.fn? : MV → Option Nat
 | .fn l => some l
 | _ => Option.none
noncomputable def MO.flds : MO → Option (List (Nat × MV))
 | .inst _ fs => some fs
 | .exc fs => some fs
 | _ => none
noncomputable def MO.inst? : MO → Option (Nat × List (Nat × MV))
 | .inst c fs => some (c, fs)
 | _ => none
noncomputable def MO.exc? : MO → Option (List (Nat × MV))
 | .exc fs => some fs
 | _ => none
noncomputable def MO.list? : MO → Option (List MV)
 | .list l => some l
 | _ => none
noncomputable def MO.dict? : MO → Option (List (MV × MV))
 | .dict l => some l
 | _ => none
noncomputable def Ac.tru (v : MV) (k : Bool → Ac → Option Z) : Option Z := match v with
 | .none => q.tst false k
 | .bool b => q.tst b k
 | .int i => q.tst (i != 0) k
 | .ref a => q.rd φ Λ a fun o q => o.list?.bind fun l => q.tst (!l.isEmpty) k
 | _ => none
noncomputable def Ac.all (f : MV → Bool) (kvs : List (MV × MV)) (k : Ac → Option Z) : Option Z := q.ok (kvs.all fun p => f p.1) k
noncomputable def prBin (h : Nat) (o : BOp) (v w : MV) : Option Z := match v with
 | .int x => w.int?.bind fun y => match o with
  | .add => z.val q [.int (x + y)]
  | .sub => z.val q [.int (x - y)]
  | .mul => q.ok (decide (-(2 ^ 64) < y) && decide (y < 2 ^ 64)) fun q => z.val q [.int (x * y)]
  | .mod => q.ok (decide (0 < y)) fun q => z.val q [.int (x % y)]
  | .fdiv => q.ok (decide (0 < y) && decide (y < two1000)) fun q => z.val q [.int (x / y)]
  | .pow => q.ok (decide (0 ≤ y) && (decide (y ≤ 900) && decide (x.natAbs < 1000))) fun q => z.val q [.int (x ^ y.toNat)]
 | .str x => match o with
  | .add => w.str?.bind fun y => q.ok (decide (x.length + y.length ≤ LIM)) fun q => z.val q [.str (x ++ y)]
  | _ => none
 | .ref a => match o with
  | .mul => w.int?.bind fun y => q.ok (y == 0) fun q => q.rd φ z.Λ a fun o q => o.list?.bind fun _ => Z.val { z with Λ := (h, .list []) :: z.Λ } q [.ref h]
  | _ => none
 | _ => none
noncomputable def prEq (v w : MV) (k : Bool → Ac → Option Z) : Option Z := match v with
 | .ref a => w.ref?.bind fun b => q.rd φ z.Λ a fun o q => q.rd φ z.Λ b fun o' q => o.list?.bind fun x => o'.list?.bind fun y => q.ok (shals x 5 && shals y 5) fun q => q.bl (eqPs x y) k
 | v => q.ok (shal v 5 && shal w 5) fun q => q.bl (eqP v w) k
noncomputable def prIn (v w : MV) (k : Bool → Ac → Option Z) : Option Z := match v with
 | .str x => w.ref?.bind fun d => q.rd φ z.Λ d fun o q => o.dict?.bind fun kvs => q.all isStrK kvs fun q => k (lookK (.str x) kvs).isSome q
 | _ => none
noncomputable def prCmp (o : COp) (v w : MV) : Option Z := match o with
 | .eq => prEq φ z q v w fun t q => z.val q [.bool t]
 | .ne => prEq φ z q v w fun t q => z.val q [.bool (!t)]
 | .lt => v.int?.bind fun x => w.int?.bind fun y => z.val q [.bool (decide (x < y))]
 | .gt => v.int?.bind fun x => w.int?.bind fun y => z.val q [.bool (decide (y < x))]
 | .le => v.int?.bind fun x => w.int?.bind fun y => z.val q [.bool (decide (x ≤ y))]
 | .ge => v.int?.bind fun x => w.int?.bind fun y => z.val q [.bool (decide (y ≤ x))]
 | .is => bif w.none? then z.val q [.bool v.none?] else none
 | .isNot => bif w.none? then z.val q [.bool (!v.none?)] else none
 | .inn => match v with
  | .int x => w.tup?.bind fun vs => q.bl (anyInt x vs) fun t q => z.val q [.bool t]
  | v => prIn φ z q v w fun t q => z.val q [.bool t]
 | .notIn => prIn φ z q v w fun t q => z.val q [.bool (!t)]
noncomputable def prSubR (o : MO) (w : MV) : Option Z := match o with
 | .list vs => w.int?.bind fun i => q.vl (idx vs i) fun u q => z.val q [u]
 | .dict kvs => w.str?.bind fun k => q.all isStrK kvs fun q => q.vl (lookK (.str k) kvs) fun u q => z.val q [u]
 | _ => none
noncomputable def prSub (v w : MV) : Option Z := match v with
 | .tup vs => w.int?.bind fun i => q.vl (idx vs i) fun u q => z.val q [u]
 | .scr xs => w.int?.bind fun i => q.ok (decide (0 ≤ i) && decide (i < LIM)) fun q => q.vl (xs[i.toNat]?.map .int) fun u q => z.val q [u]
 | .ref a => q.rd φ z.Λ a fun o q => prSubR z q o w
 | _ => none
noncomputable def prPart (h : Nat) (t : Bool) (v w : MV) : Option Z := v.ref?.bind fun a => w.int?.bind fun k => q.rd φ z.Λ a fun o q => o.list?.bind fun vs => q.ok (decide (0 ≤ k) && decide (k ≤ vs.length)) fun q =>
 q.ot (.list (bif t then vs.take k.toNat else vs.drop k.toNat)) fun o q => Z.val { z with Λ := (h, o) :: z.Λ } q [.ref h]
noncomputable def prLen (v : MV) : Option Z := match v with
 | .scr xs => q.ok (decide (xs.length ≤ LIM)) fun q => z.val q [.int xs.length]
 | .str s => q.ok (decide (s.length ≤ LIM)) fun q => z.val q [.int s.length]
 | .ref a => q.rd φ z.Λ a fun o q => o.list?.bind fun vs => z.val q [.int vs.length]
 | _ => none
noncomputable def lastOf : List MV → Option (List MV × MV)
 | [] => none
 | v :: r => match lastOf r with
  | some p => some (v :: p.1, p.2)
  | none => bif r.isEmpty then some ([], v) else none
noncomputable def prBm (k : BK) (v : MV) (args : List MV) : Option Z := match k with
 | .join => v.str?.bind fun s => u1 args fun w => w.ref?.bind fun a => q.ok (s == Str.empty) fun q => q.rd φ z.Λ a fun o q => o.list?.bind fun vs => q.vl ((strsOf vs).map fun l => .str (j9 l)) fun u q => u.str?.bind fun t => q.ok (decide (t.length ≤ LIM)) fun q => z.val q [.str t]
 | .find => v.str?.bind fun s => u1 args fun w => w.str?.bind fun x => z.val q [.int (findStr s x)]
 | .lapp => v.ref?.bind fun a => u1 args fun x => q.wr z.Λ a fun o f q => o.list?.bind fun vs => q.ok (decide (vs.length < LIM)) fun q => Z.val { z with Λ := f (.list (vs ++ [x])) } q [.none]
 | .lpop => v.ref?.bind fun a => bif args.isEmpty then q.wr z.Λ a fun o f q => o.list?.bind fun vs => bif Nat.beq q.dg 5 then (match q.vs with
  | x :: r => match q.os with
   | .list ys :: r' => Z.val { z with Λ := f (.list ys) } (Ac.need { q.pop with vs := r, os := r' } (vs = ys ++ [x])) [x]
   | _ => none
  | [] => none) else bif Nat.blt q.dg 60 then (lastOf vs).bind fun p => Z.val { z with Λ := f (.list p.1) } q.pop [p.2] else none else none
 | .dget => v.ref?.bind fun a => u1 args fun k => q.rd φ z.Λ a fun o q => o.dict?.bind fun kvs => bif k.key?.isSome then q.all isTupK kvs fun q => q.vl (some ((lookK k kvs).getD .none)) fun u q => z.val q [u] else none
 | .dpop => v.ref?.bind fun a => u2 args fun k d => k.str?.bind fun k => q.wr z.Λ a fun o f q => o.dict?.bind fun kvs => q.all isStrK kvs fun q => q.vl (some ((lookK (.str k) kvs).getD d)) fun u q => q.ot (.dict (delK (.str k) kvs)) fun o q => Z.val { z with Λ := f o } q [u]
noncomputable def prSetA (n : Nat) (x v : MV) : Option Z := v.ref?.bind fun a => q.wr z.Λ a fun o f q => match o with
 | .inst c fs => Z.val { z with Λ := f (.inst c (putN n x fs)) } ((q.cl (Nat.blt fs.length 500)).cl (meths c n).isNone) []
 | .exc fs => Z.val { z with Λ := f (.exc (putN n x fs)) } ((q.cl (Nat.blt fs.length 500)).cl (meths excCl n).isNone) []
 | _ => none
noncomputable def prSetS (x v k : MV) : Option Z := v.ref?.bind fun a => q.wr z.Λ a fun o f q => match o with
 | .list vs => k.int?.bind fun i => q.ok (decide (0 ≤ i) && decide (i < vs.length)) fun q => q.ot (.list (vs.set i.toNat x)) fun o q => Z.val { z with Λ := f o } q []
 | .dict kvs => bif isStrK k || isTupK k then q.all (bif isStrK k then isStrK else isTupK) kvs fun q => q.ok (decide (kvs.length < LIM)) fun q => q.ot (.dict (putK k x kvs)) fun o q => Z.val { z with Λ := f o } q [] else none
 | _ => none
noncomputable def prNew (h c : Nat) (args : List MV) : Option Z := (meths c 5).bind fun f => (kind c).map fun b => { z with c := .C f (.ref h :: args), fr := .new h :: z.fr, q := q, Λ := (h, bif b then .exc [] else .inst c []) :: z.Λ }
noncomputable def prim1 (h : Nat) (o : Op) (vs : List MV) : Option Z := match o with
 | .attr n => u1 vs fun v => v.ref?.bind fun a => q.rd φ z.Λ a fun o q => o.flds.bind fun fs => (lookN n fs).bind fun w => z.val q [w]
 | .sub => u2 vs fun v w => prSub φ z q v w
 | .sto => u2 vs fun v w => prPart φ z q h true v w
 | .sfr => u2 vs fun v w => prPart φ z q h false v w
 | .bin o => u2 vs fun v w => prBin φ z q h o v w
 | .cmp o => u2 vs fun v w => prCmp φ z q o v w
 | .not => u1 vs fun v => q.tru φ z.Λ v fun t q => z.val q [.bool (!t)]
 | .list => Z.val { z with Λ := (h, .list vs) :: z.Λ } (q.cl (Nat.ble vs.length LIM)) [.ref h]
 | .tup => z.val (q.cl (Nat.ble vs.length 100)) [.tup vs]
 | .len => u1 vs fun v => prLen φ z q v
 | .strf => u1 vs fun v => v.int?.bind fun i => q.ok (decide (i.natAbs < 10 ^ 10)) fun q => z.val q [.str (Str.ofString (toString i))]
 | .isi c => u1 vs fun v => bif v.str?.isSome then z.val (q.cl (askCl c)) [.bool false] else v.ref?.bind fun a => q.rd φ z.Λ a fun o q => o.inst?.bind fun p => z.val ((q.cl (askCl c)).cl (askCl p.1)) [.bool (Nat.beq p.1 c)]
 | .exc => u2 vs fun v _ => v.ref?.bind fun a => q.rd φ z.Λ a fun o q => o.exc?.bind fun _ => z.val q [.none]
 | .call => match vs with
  | v :: args => v.fn?.map fun f => { z with c := .C f args, q := q }
  | [] => none
 | .new c => prNew z q h c vs
 | .base => some { z with c := .C baseFn vs, q := q }
 | .bm k => match vs with
  | v :: args => prBm φ z q k v args
  | [] => none
 | .setA n => u2 vs fun v w => prSetA z q n v w
 | .setS => u3 vs fun v w u => prSetS z q v w u
 | .drop => u1 vs fun _ => z.val q []
 | .raise => u1 vs fun v => v.ref?.bind fun a => q.rd φ z.Λ a fun o q => o.exc?.bind fun _ => q.ok (mayRaise z.hd a) fun q => some { z with c := .X a, q := q }
noncomputable def lkR (k a : Nat) (o : MO) (f : Op → List MV → Ac → Option Z) : Option Z := match o with
 | .inst c fs => bif Nat.blt k 95 then (match lookN k fs with
  | some w => w.fn?.bind fun g => f .call [.fn g] q
  | none => (meths c k).bind fun g => f .call [.fn g, .ref a] q) else none
 | .list _ => bif Nat.beq k 0 then f (.bm .lapp) [.ref a] q else bif Nat.beq k 1 then f (.bm .lpop) [.ref a] q else none
 | .dict _ => bif Nat.beq k 4 then f (.bm .dget) [.ref a] q else bif Nat.beq k 1 then f (.bm .dpop) [.ref a] q else none
 | _ => none
noncomputable def lk1 (k : Nat) (v : MV) (f : Op → List MV → Ac → Option Z) : Option Z := match v with
 | .fn g => bif Nat.beq k 99 then f .call [.fn g] q else none
 | .str s => bif Nat.beq k 2 then f (.bm .join) [.str s] q else bif Nat.beq k 3 then f (.bm .find) [.str s] q else none
 | .ref a => q.rd φ z.Λ a fun o q => lkR q k a o f
 | _ => none
end
noncomputable def Fl.out : Fl → MV
 | .nxt => .none
 | .ret v => v
section
variable (φ : Fz) (h : Nat) (z : Z) (q : Ac)
noncomputable abbrev Z.go (q : Ac) (c : Ct) (fr : List Frm) : Option Z := some { z with c := c, fr := fr, q := q }
noncomputable def stE (p : PE) : Option Z := match p with
 | .loc i => z.L[i]?.bind fun o => o.bind fun v => z.val z.q [v]
 | .cst v => z.val z.q [v]
 | .nil => z.val z.q []
 | .cons a b => z.go z.q (.E a) (.consL b :: z.fr)
 | .op o a => z.go z.q (.E a) (.op o :: z.fr)
 | .meth e k a => z.go z.q (.E e) (.meth k a :: z.fr)
 | .dict ks a => Z.go { z with Λ := (h, .dict []) :: z.Λ } z.q (.E a) (.dict ks h :: z.fr)
 | .bools c e r => z.go z.q (.E e) (.bools c r :: z.fr)
 | .ite t a b => z.go z.q (.E t) (.ite a b :: z.fr)
 | .tnot t => z.go z.q (.E t) (.tnot :: z.fr)
 | .tnil c => z.val z.q [.bool c]
 | .tcons c t r => z.go z.q (.E t) (.tcons c r :: z.fr)
 | .val e => z.go z.q (.E e) (.val :: z.fr)
 | .stuck => none
noncomputable def stS (s : PS) : Option Z := match s with
 | .nil => z.go z.q (.F .nxt) z.fr
 | .seq s r => z.go z.q (.S s) (.seq r :: z.fr)
 | .asg i e => z.go z.q (.E e) (.asg i :: z.fr)
 | .act o a => z.go z.q (.E a) (.op o :: .act :: z.fr)
 | .unp ts e => z.go z.q (.E e) (.unp ts :: z.fr)
 | .unpR is e => z.go z.q (.E e) (.unpR is :: z.fr)
 | .aug e n o x => z.go z.q (.E e) (.aug1 n o x :: z.fr)
 | .ret e => z.go z.q (.E e) (.ret :: z.fr)
 | .ite t b o => z.go z.q (.E t) (.iteS b o :: z.fr)
 | .while t b => z.go z.q (.W t b) z.fr
 | .forL i e b => z.go z.q (.E e) (.forL i b :: z.fr)
 | .forR i e b => z.go z.q (.E e) (.forR i b :: z.fr)
 | .forT e => z.go z.q (.E e) (.forT :: z.fr)
 | .tryX b x h => z.go z.q (.S b) (.try x h :: z.fr)
 | .fin b f => z.go z.q (.S b) (.fin f :: z.fr)
 | .stuck => none
noncomputable def stDict (fr : List Frm) (us : List MV) (ks : List Str) (d : Nat) : Option Z := q.wr z.Λ d fun o f q => o.dict?.bind fun kvs => bif kvs.isEmpty then Z.go { z with Λ := f (.dict ((ks.map MV.str).zip us)) } (((q.cl (Nat.beq us.length ks.length)).cl (Nat.ble ks.length 100)).cl (decide ks.Nodup)) (.V [.ref d]) fr else none
noncomputable def stV (f : Frm) (fr : List Frm) (us : List MV) : Option Z := match f with
 | .consL b => z.go q (.E b) (.consR us :: fr)
 | .consR ws => z.go q (.V (ws ++ us)) fr
 | .op o => z.go q (.P o us) fr
 | .meth k a => u1 us fun v => lk1 φ z q k v fun o pre q => z.go q (.E a) (.mcl o pre :: fr)
 | .mcl o pre => z.go q (.P o (pre ++ us)) fr
 | .dict ks d => stDict z q fr us ks d
 | .bools c r => u1 us fun v => q.tru φ z.Λ v fun t q => bif t == c then z.go q (.E r) fr else z.go q (.V [v]) fr
 | .ite a b => u1 us fun v => v.bool?.bind fun c => q.tst c fun t q => bif t then z.go q (.E a) fr else z.go q (.E b) fr
 | .tnot => u1 us fun v => v.bool?.bind fun b => z.go q (.V [.bool (!b)]) fr
 | .tcons c r => u1 us fun v => v.bool?.bind fun b => q.tst b fun t q => bif t == c then z.go q (.E r) fr else z.go q (.V [.bool t]) fr
 | .val => u1 us fun v => q.tru φ z.Λ v fun t q => z.go q (.V [.bool t]) fr
 | .new h => u1 us fun v => bif v.none? then z.go q (.V [.ref h]) fr else none
 | .asg i => u1 us fun v => Z.go { z with L := z.L.set i (some v) } q (.F .nxt) fr
 | .act => z.go q (.F .nxt) fr
 | .unp ts => u1 us fun v => v.tup?.bind fun vs => z.go (q.cl (Nat.beq vs.length ts.length)) (.T ts vs) fr
 | .sT n v ts ws => u1 us fun o => (prSetA z q n v o).bind fun z => z.go z.q (.T ts ws) fr
 | .unpR is => u1 us fun v => v.tup?.bind fun vs => Z.go { z with L := storeR is.reverse vs.reverse z.L } (q.cl (Nat.beq vs.length is.length)) (.F .nxt) fr
 | .aug1 n o x => u1 us fun a => z.go q (.P (.attr n) [a]) (.aug2 a n o x :: fr)
 | .aug2 a n o x => u1 us fun v => z.go q (.E x) (.aug3 a v n o :: fr)
 | .aug3 a v n o => u1 us fun w => v.int?.bind fun x => w.int?.bind fun y => match o with
  | .add => z.go q (.P (.setA n) [.int (x + y), a]) (.act :: fr)
  | .sub => z.go q (.P (.setA n) [.int (x - y), a]) (.act :: fr)
  | _ => none
 | .ret => u1 us fun v => z.go q (.F (.ret v)) fr
 | .iteS b o => u1 us fun v => v.bool?.bind fun c => q.tst c fun t q => bif t then z.go q (.S b) fr else z.go q (.S o) fr
 | .whT t b => u1 us fun v => v.bool?.bind fun c => q.tst c fun w q => bif w then z.go q (.S b) (.whB t b :: fr) else z.go q (.F .nxt) fr
 | .forL x b => u1 us fun v => v.ref?.bind fun l => z.go q (.L x l b 0) fr
 | .forR x b => u1 us fun v => v.int?.bind fun n => Ac.ok (q.cl z.hd.isNone) (decide (0 ≤ n) && decide (n < 2 ^ 40)) fun q => z.go q (.R n.toNat x b 0) fr
 | .forT => u1 us fun v => v.ref?.bind fun l => q.rd φ z.Λ l fun o q => o.list?.bind fun vs => bif vs.isEmpty then z.go q (.F .nxt) fr else none
 | _ => none
noncomputable def stF (f : Frm) (fr : List Frm) (fl : Fl) : Option Z := match f with
 | .seq r => match fl with
  | .nxt => z.go z.q (.S r) fr
  | .ret v => z.go z.q (.F (.ret v)) fr
 | .try _ _ => z.go z.q (.F fl) fr
 | .clr x hd => Z.go { z with hd := hd, L := z.L.set x none } z.q (.F fl) fr
 | .fin f => z.go z.q (.S f) (.fin2 fl :: fr)
 | .fin2 fl' => match fl with
  | .nxt => z.go z.q (.F fl') fr
  | .ret _ => none
 | .fin3 e hd => match fl with
  | .nxt => Z.go { z with hd := hd } z.q (.X e) fr
  | .ret _ => none
 | .whB t b => match fl with
  | .nxt => z.go z.q (.W t b) fr
  | .ret v => z.go z.q (.F (.ret v)) fr
 | .forB x l b i => match fl with
  | .nxt => z.go z.q (.L x l b (i + 1)) fr
  | .ret v => z.go z.q (.F (.ret v)) fr
 | .rngB k x b i => match fl with
  | .nxt => z.go z.q (.R k x b (i + 1)) fr
  | .ret v => z.go z.q (.F (.ret v)) fr
 | .fn n hd L => Z.go { z with n := n, hd := hd, L := L } z.q (.V [fl.out]) fr
 | _ => none
noncomputable def stX (f : Frm) (fr : List Frm) (e : Nat) : Option Z := match f with
 | .try x h => Z.go { z with hd := some e, L := z.L.set x (some (.ref e)) } z.q (.S h) (.clr x z.hd :: fr)
 | .clr x hd => Z.go { z with hd := hd, L := z.L.set x none } z.q (.X e) fr
 | .fin f => Z.go { z with hd := some e } z.q (.S f) (.fin3 e z.hd :: fr)
 | .fn n hd L => Z.go { z with n := n, hd := hd, L := L } z.q (.X e) fr
 | .fin2 _ => none
 | .fin3 _ _ => none
 | _ => z.go z.q (.X e) fr
noncomputable def stT (ts : List Tgt) (vs : List MV) : Option Z := match ts with
 | [] => bif vs.isEmpty then z.go z.q (.F .nxt) z.fr else none
 | t :: ts => match vs with
  | [] => none
  | v :: ws => match t with
   | .loc i => Z.go { z with L := z.L.set i (some v) } z.q (.T ts ws) z.fr
   | .attr e n => z.go z.q (.E e) (.sT n v ts ws :: z.fr)
noncomputable def stC (f : Nat) (args : List MV) : Option Z := bif Nat.beq z.q.dg 6 then match z.n with
 | 0 => none
 | n + 1 => (fns f).bind fun r => Z.go { z with n := n, L := loc0 r args } ((z.q.pop.cl (Nat.ble args.length r.params)).cl (Nat.ble r.params (args.length + r.dflts.length))) (.S r.body) (.fn z.n z.hd z.L :: z.fr) else none
noncomputable def stp1 : Option Z := match z.c with
 | .E p => stE (φ.fr h) z p
 | .S s => stS z s
 | .P o vs => prim1 φ z z.q (φ.fr h) o vs
 | .C f args => stC z f args
 | .V us => match z.fr with
  | f :: fr => stV φ z z.q f fr us
  | [] => none
 | .F fl => match z.fr with
  | f :: fr => stF z f fr fl
  | [] => none
 | .X e => match z.fr with
  | f :: fr => stX z f fr e
  | [] => none
 | .W t b => bif Nat.beq z.q.dg 6 then z.go z.q.pop (.E t) (.whT t b :: z.fr) else none
 | .L x l b i => bif Nat.beq z.q.dg 6 then z.q.pop.rd φ z.Λ l fun o q => o.list?.bind fun vs => q.vl vs[i]? fun v q => Z.go { z with L := z.L.set x (some v) } q (.S b) (.forB x l b i :: z.fr) else
  bif Nat.beq z.q.dg 7 then z.q.pop.rd φ z.Λ l fun o q => o.list?.bind fun vs => q.ok vs[i]?.isNone fun q => z.go q (.F .nxt) z.fr else none
 | .R k x b i => bif Nat.beq z.q.dg 6 then match k with
  | 0 => z.go z.q.pop (.F .nxt) z.fr
  | k + 1 => Z.go { z with L := z.L.set x (some (.int i)) } z.q.pop (.S b) (.rngB k x b i :: z.fr) else none
 | .T ts vs => stT z ts vs
end
noncomputable def run (φ : Fz) : Nat → (Nat → Nat) → Z → Z
 | 0, _, z => z
 | k + 1, ν, z => match stp1 φ (ν 0) z with
  | some z' => run φ k (fun i => ν (i + 1)) z'
  | none => z
noncomputable abbrev Kt := Ct → Nat → Option Nat → Loc → Fz → Lg → Prop
noncomputable def wE (m : MM (List MV)) (g : Kt) (n : Nat) (hd : Option Nat) (L : Loc) (φ : Fz) (Λ : Lg) : Prop := Wp φ Λ m (fun us φ Λ => g (.V us) n hd L φ Λ) fun e φ Λ => g (.X e) n hd L φ Λ
noncomputable def wS (m : SM) (g : Kt) (n : Nat) (hd : Option Nat) (φ : Fz) (Λ : Lg) : Prop := WpS φ Λ m (fun f L φ Λ => g (.F f) n hd L φ Λ) fun e L φ Λ => g (.X e) n hd L φ Λ
section
variable (n : Nat) (hd : Option Nat) (L : Loc)
noncomputable def whR (t : PE) (b : PS) (L : Loc) : SM := fun σ R => ∃ W, whileF W (fun L => ev (callN n) hd L t) (ex (callN n) b hd) L σ R
noncomputable def foR (x l : Nat) (b : PS) (i : Nat) (L : Loc) : SM := fun σ R => ∃ W, forLF W x l (ex (callN n) b hd) i L σ R
noncomputable def rgR (k x : Nat) (b : PS) (i : Nat) (L : Loc) : SM := forRF k x (ex (callN n) b hd) i L
noncomputable def fm (f : Frm) : Option (List MV → MM (List MV)) := match f with
 | .consL b => some fun us => bnd (ev (callN n) hd L b) fun vs => ret (us ++ vs)
 | .consR us => some fun vs => ret (us ++ vs)
 | .op o => some fun vs => prim (callN n) hd o vs
 | .meth k a => some fun us => un us fun v σ r => ∃ o pre, Lk k σ v o pre ∧ bnd (ev (callN n) hd L a) (fun vs => prim (callN n) hd o (pre ++ vs)) σ r
 | .mcl o pre => some fun vs => prim (callN n) hd o (pre ++ vs)
 | .dict ks d => some fun vs => fillM ks vs d
 | .bools c q => some fun us => un us fun v σ r => ∃ b, Tr σ v b ∧ (bif b == c then ev (callN n) hd L q σ r else r = .ok [v] σ)
 | .ite p q => some fun us => un us fun v σ r => ∃ b, v = .bool b ∧ (bif b then ev (callN n) hd L p σ r else ev (callN n) hd L q σ r)
 | .tnot => some fun us => un us fun v σ r => ∃ b, v = .bool b ∧ r = .ok [.bool (!b)] σ
 | .tcons c q => some fun us => un us fun v σ r => ∃ b, v = .bool b ∧ (bif b == c then ev (callN n) hd L q σ r else r = .ok [.bool b] σ)
 | .val => some fun us => un us fun v σ r => ∃ b, Tr σ v b ∧ r = .ok [.bool b] σ
 | .new h => some fun us σ r => us = [.none] ∧ r = .ok [.ref h] σ
 | .aug1 m o x => none
 | _ => none
noncomputable def agR (a v : MV) (m : Nat) (o : BOp) (us : List MV) : MM (List MV) := un us fun w => bnd (fun σ r => ∃ x y, v = .int x ∧ w = .int y ∧ ((o = .add ∧ r = .ok [.int (x + y)] σ) ∨ (o = .sub ∧ r = .ok [.int (x - y)] σ))) fun us => un us fun u σ => PSetA m σ u a
noncomputable def fs (f : Frm) : Option (List MV → SM) := match f with
 | .asg i => some fun us σ R => ∃ v, us = [v] ∧ nxt (L.set i (some v)) σ R
 | .act => some fun _ => nxt L
 | .unp ts => some fun us σ R => ∃ vs, us = [.tup vs] ∧ vs.length = ts.length ∧ storeT (callN n) hd ts vs L σ R
 | .sT m v ts ws => some fun us => inS (un us fun o σ => PSetA m σ v o) L (fun _ => storeT (callN n) hd ts ws L)
 | .unpR is => some fun us σ R => ∃ vs, us = [.tup vs] ∧ vs.length = is.length ∧ nxt (storeR is.reverse vs.reverse L) σ R
 | .aug1 m o x => some fun us => inS (un us fun a => bnd (fun σ => PAttr m σ a) fun us => un us fun v => bnd (ev (callN n) hd L x) (agR a v m o)) L fun _ => nxt L
 | .aug2 a m o x => some fun us => inS (un us fun v => bnd (ev (callN n) hd L x) (agR a v m o)) L fun _ => nxt L
 | .aug3 a v m o => some fun us => inS (agR a v m o us) L fun _ => nxt L
 | .ret => some fun us σ R => ∃ v, us = [v] ∧ R = .ok (.ret v) L σ
 | .iteS b o => some fun us σ R => ∃ c, us = [.bool c] ∧ (bif c then ex (callN n) b hd L σ R else ex (callN n) o hd L σ R)
 | .whT t b => some fun us σ R => ∃ W, ∃ c, us = [.bool c] ∧ (bif c then seqM (ex (callN n) b hd L) (whileF W (fun L => ev (callN n) hd L t) (ex (callN n) b hd)) σ R else nxt L σ R)
 | .forL i b => some fun us σ R => ∃ l W, us = [.ref l] ∧ forLF W i l (ex (callN n) b hd) 0 L σ R
 | .forR i b => some fun us σ R => ∃ m, us = [.int m] ∧ hd = none ∧ 0 ≤ m ∧ m < 2 ^ 40 ∧ forRF m.toNat i (ex (callN n) b hd) 0 L σ R
 | .forT => some fun us σ R => ∃ l, us = [.ref l] ∧ σ[l]? = some (.list []) ∧ nxt L σ R
 | _ => none
end
section
variable (g : Kt) (n : Nat) (hd : Option Nat) (L : Loc) (φ : Fz) (Λ : Lg)
noncomputable def clrK (x : Nat) (hd' : Option Nat) : Kt := fun c n _ L φ Λ => g c n hd' (L.set x none) φ Λ
noncomputable def fin2K (fl : Fl) : Kt := fun c n hd L φ Λ => match c with
 | .F f => match f with
  | .nxt => g (.F fl) n hd L φ Λ
  | .ret _ => False
 | _ => False
noncomputable def fin3K (e : Nat) (hd' : Option Nat) : Kt := fun c n _ L φ Λ => match c with
 | .F f => match f with
  | .nxt => g (.X e) n hd' L φ Λ
  | .ret _ => False
 | _ => False
noncomputable def nxtK (fl : Fl) (k : Prop) : Prop := match fl with
 | .nxt => k
 | .ret v => g (.F (.ret v)) n hd L φ Λ
noncomputable def semF (f : Frm) (fl : Fl) : Prop := match f with
 | .seq r => nxtK g n hd L φ Λ fl (wS (ex (callN n) r hd L) g n hd φ Λ)
 | .try _ _ => g (.F fl) n hd L φ Λ
 | .clr x hd' => clrK g x hd' (.F fl) n hd L φ Λ
 | .fin f => wS (ex (callN n) f hd L) (fin2K g fl) n hd φ Λ
 | .fin2 fl' => fin2K g fl' (.F fl) n hd L φ Λ
 | .fin3 e hd' => fin3K g e hd' (.F fl) n hd L φ Λ
 | .whB t b => nxtK g n hd L φ Λ fl (wS (whR n hd t b L) g n hd φ Λ)
 | .forB x l b i => nxtK g n hd L φ Λ fl (wS (foR n hd x l b (i + 1) L) g n hd φ Λ)
 | .rngB k x b i => nxtK g n hd L φ Λ fl (wS (rgR n hd k x b (i + 1) L) g n hd φ Λ)
 | .fn n' hd' L' => g (.V [fl.out]) n' hd' L' φ Λ
 | _ => False
noncomputable def semX (f : Frm) (e : Nat) : Prop := match f with
 | .try x h => wS (ex (callN n) h (some e) (L.set x (some (.ref e)))) (clrK g x hd) n (some e) φ Λ
 | .clr x hd' => clrK g x hd' (.X e) n hd L φ Λ
 | .fin f => wS (ex (callN n) f (some e) L) (fin3K g e hd) n (some e) φ Λ
 | .fin2 _ => False
 | .fin3 _ _ => False
 | .fn n' hd' L' => g (.X e) n' hd' L' φ Λ
 | _ => g (.X e) n hd L φ Λ
noncomputable def sem (f : Frm) : Kt := fun c n hd L φ Λ => match c with
 | .V us => match fm n hd L f with
  | some m => wE (m us) g n hd L φ Λ
  | none => match fs n hd L f with
   | some m => wS (m us) g n hd φ Λ
   | none => False
 | .F fl => semF g n hd L φ Λ f fl
 | .X e => semX g n hd L φ Λ f e
 | _ => False
end
section
variable (K0 : MV → Fz → Lg → Prop) (X0 : Nat → Fz → Lg → Prop)
noncomputable def GA : List Frm → Kt
 | [] => fun c _ _ _ φ Λ => match c with
  | .F fl => K0 fl.out φ Λ
  | .X e => X0 e φ Λ
  | _ => False
 | f :: fr => sem (GA fr) f
variable (φ : Fz)
noncomputable def Good (z : Z) : Prop := match z.c with
 | .E p => wE (ev (callN z.n) z.hd z.L p) (GA K0 X0 z.fr) z.n z.hd z.L φ z.Λ
 | .S s => wS (ex (callN z.n) s z.hd z.L) (GA K0 X0 z.fr) z.n z.hd φ z.Λ
 | .P o vs => wE (prim (callN z.n) z.hd o vs) (GA K0 X0 z.fr) z.n z.hd z.L φ z.Λ
 | .C f args => wE (one (callN z.n f args z.hd)) (GA K0 X0 z.fr) z.n z.hd z.L φ z.Λ
 | .W t b => wS (whR z.n z.hd t b z.L) (GA K0 X0 z.fr) z.n z.hd φ z.Λ
 | .L x l b i => wS (foR z.n z.hd x l b i z.L) (GA K0 X0 z.fr) z.n z.hd φ z.Λ
 | .R k x b i => wS (rgR z.n z.hd k x b i z.L) (GA K0 X0 z.fr) z.n z.hd φ z.Λ
 | .T ts vs => wS (storeT (callN z.n) z.hd ts vs z.L) (GA K0 X0 z.fr) z.n z.hd φ z.Λ
 | .V us => GA K0 X0 z.fr (.V us) z.n z.hd z.L φ z.Λ
 | .F fl => GA K0 X0 z.fr (.F fl) z.n z.hd z.L φ z.Λ
 | .X e => GA K0 X0 z.fr (.X e) z.n z.hd z.L φ z.Λ
noncomputable def Obl (q : Ac) : Prop := q.ka = q.kb ∧ q.ba = q.bb ∧ q.ob
noncomputable def Inv (z : Z) : Prop := Obl z.q ∧ Good K0 X0 φ z
end
noncomputable def Ok (A : Prop) (I : Z → Prop) (o : Option Z) : Prop := match o with
 | some z => I z
 | none => A
section
variable {A : Prop} {I : Z → Prop} {q : Ac} {φ : Fz} {Λ : Lg}
theorem u1_ok {vs : List MV} {k : MV → Option Z} (H : Ok A I (u1 vs k)) (f : ∀ v, vs = [v] → Ok A I (k v) → A) : A := by
 cases vs with
 | nil => exact H
 | cons v r =>
  cases r with
  | nil => exact f v rfl H
  | cons _ _ => exact H
theorem u2_ok {vs : List MV} {k : MV → MV → Option Z} (H : Ok A I (u2 vs k)) (f : ∀ v w, vs = [v, w] → Ok A I (k v w) → A) : A := by
 cases vs with
 | nil => exact H
 | cons v r =>
  cases r with
  | nil => exact H
  | cons w r =>
   cases r with
   | nil => exact f v w rfl H
   | cons _ _ => exact H
theorem u3_ok {vs : List MV} {k : MV → MV → MV → Option Z} (H : Ok A I (u3 vs k)) (f : ∀ v w u, vs = [v, w, u] → Ok A I (k v w u) → A) : A := by
 cases vs with
 | nil => exact H
 | cons v r => exact u2_ok (k := fun w u => k v w u) (vs := r) (by
  cases r with
  | nil => exact H
  | cons w r =>
   cases r with
   | nil => exact H
   | cons u r => cases r <;> exact H) fun w u e H => f v w u (e ▸ rfl) H
theorem b9 {α : Type} {o : Option α} {k : α → Option Z} (H : Ok A I (o.bind k)) (f : ∀ x, o = some x → Ok A I (k x) → A) : A := by
 cases o with
 | none => exact H
 | some x => exact f x rfl H
theorem bif_ok {b : Bool} {k : Option Z} (H : Ok A I (bif b then k else none)) (f : b = true → Ok A I k → A) : A := by
 cases b with
 | false => exact H
 | true => exact f rfl H
theorem cl_o {b : Bool} (h : Obl (q.cl b)) : Obl q ∧ b = true := by
 obtain ⟨h1, h2, h3⟩ := h
 obtain ⟨e, h2⟩ := List.cons.inj h2
 exact ⟨⟨h1, h2, h3⟩, e⟩
theorem need_o {p : Prop} (h : Obl (q.need p)) : Obl q ∧ p := ⟨⟨h.1, h.2.1, h.2.2.2⟩, h.2.2.1⟩
theorem not_t {b : Bool} (h : (!b) = true) : b = false := by cases b; rfl; cases h
theorem tst_ok {c : Bool} {k : Bool → Ac → Option Z} (H : Ok A I (q.tst c k)) (f : ∀ t q1, (Obl q1 → Obl q ∧ c = t) → Ok A I (k t q1) → A) : A := by
 unfold Ac.tst at H
 split at H
 · refine f _ _ ?_ H
   exact fun h => cl_o h
 · refine f _ _ ?_ H
   exact fun h => (cl_o h).imp id not_t
 · refine f _ _ ?_ H
   exact fun h => need_o h
 · refine f _ _ ?_ H
   exact fun h => need_o h
 · exact H
theorem ok_ok {c : Bool} {k : Ac → Option Z} (H : Ok A I (q.ok c k)) (f : ∀ q1, (Obl q1 → Obl q ∧ c = true) → Ok A I (k q1) → A) : A := tst_ok H fun t q1 r H => by
 cases t with
 | true => exact f q1 r H
 | false => exact H
theorem rd_ok {h : Nat} {k : MO → Ac → Option Z} (H : Ok A I (q.rd φ Λ h k)) (f : ∀ o q1, (Obl q1 → Obl q ∧ ∀ σ, Hp φ Λ σ → σ[h]? = some o) → Ok A I (k o q1) → A) : A := by
 unfold Ac.rd at H
 cases hd : Nat.beq q.dg 4 with
 | true =>
  rw [hd] at H
  cases ho : q.os with
  | nil => rw [ho] at H; exact H
  | cons o r =>
   rw [ho] at H
   refine f o _ ?_ H
   exact fun h => ⟨(need_o h).1, fun σ X => X.fz _ _ (need_o h).2⟩
 | false =>
  rw [hd] at H
  replace H : Ok A I (bif Nat.blt q.dg 60 then (match Λ[q.dg - 8]? with
   | some p => k p.2 (q.pop.key p.1 h)
   | none => none) else none) := H
  refine bif_ok H fun _ H => ?_
  cases hp : Λ[q.dg - 8]? with
  | none => rw [hp] at H; exact H
  | some p =>
   rw [hp] at H
   refine f p.2 _ (fun h => ?_) H
   obtain ⟨h1, h2⟩ := h
   obtain ⟨e, h1⟩ := List.cons.inj h1
   exact ⟨⟨h1, h2⟩, fun σ X => e ▸ X.nth (k := p.1) (o := p.2) hp⟩
theorem wr_ok {h : Nat} {k : MO → (MO → Lg) → Ac → Option Z} (H : Ok A I (q.wr Λ h k)) (f : ∀ o j h' q1, (Obl q1 → Obl q ∧ h' = h ∧ Λ[j]? = some (h', o)) → Ok A I (k o (fun o => Λ.set j (h', o)) q1) → A) : A := by
 unfold Ac.wr at H
 refine bif_ok H fun _ H => ?_
 cases hp : Λ[q.dg - 8]? with
 | none => rw [hp] at H; exact H
 | some p =>
  rw [hp] at H
  refine f p.2 _ p.1 _ (fun h => ?_) H
  obtain ⟨h1, h2⟩ := h
  obtain ⟨e, h1⟩ := List.cons.inj h1
  exact ⟨⟨h1, h2⟩, e, hp⟩
theorem vl_ok {o : Option MV} {k : MV → Ac → Option Z} (H : Ok A I (q.vl o k)) (f : ∀ w q1, (Obl q1 → Obl q ∧ o = some w) → Ok A I (k w q1) → A) : A := by
 unfold Ac.vl at H
 cases hd : Nat.beq q.dg 5 with
 | true =>
  rw [hd] at H
  cases ho : q.vs with
  | nil => rw [ho] at H; exact H
  | cons w r =>
   rw [ho] at H
   refine f w _ ?_ H
   exact fun h => need_o h
 | false =>
  rw [hd] at H
  refine bif_ok H fun _ H => b9 H fun w e H => f w _ ?_ H
  exact fun h => ⟨h, e⟩
theorem bl_ok {o : Option Bool} {k : Bool → Ac → Option Z} (H : Ok A I (q.bl o k)) (f : ∀ w q1, (Obl q1 → Obl q ∧ o = some w) → Ok A I (k w q1) → A) : A := by
 unfold Ac.bl at H
 split at H
 · refine f _ _ ?_ H
   exact fun h => need_o h
 · refine f _ _ ?_ H
   exact fun h => need_o h
 · refine bif_ok H fun _ H => b9 H fun w e H => f w _ ?_ H
   exact fun h => ⟨h, e⟩
theorem ot_ok {o : MO} {k : MO → Ac → Option Z} (H : Ok A I (q.ot o k)) (f : ∀ w q1, (Obl q1 → Obl q ∧ o = w) → Ok A I (k w q1) → A) : A := by
 unfold Ac.ot at H
 cases hd : Nat.beq q.dg 5 with
 | true =>
  rw [hd] at H
  cases ho : q.os with
  | nil => rw [ho] at H; exact H
  | cons w r =>
   rw [ho] at H
   refine f w _ ?_ H
   exact fun h => need_o h
 | false =>
  rw [hd] at H
  refine bif_ok H fun _ H => f o _ ?_ H
  exact fun h => ⟨h, rfl⟩
theorem list_e {o : MO} {l : List MV} (h : o.list? = some l) : o = .list l := by
 cases o with
 | list l' => obtain rfl := Option.some.inj h; rfl
 | _ => exact absurd h nofun
theorem dict_e {o : MO} {l : List (MV × MV)} (h : o.dict? = some l) : o = .dict l := by
 cases o with
 | dict l' => obtain rfl := Option.some.inj h; rfl
 | _ => exact absurd h nofun
theorem exc_e {o : MO} {l : List (Nat × MV)} (h : o.exc? = some l) : o = .exc l := by
 cases o with
 | exc l' => obtain rfl := Option.some.inj h; rfl
 | _ => exact absurd h nofun
theorem inst_e {o : MO} {p : Nat × List (Nat × MV)} (h : o.inst? = some p) : o = .inst p.1 p.2 := by
 cases o with
 | inst c l' => obtain rfl := Option.some.inj h; rfl
 | _ => exact absurd h nofun
theorem tru_ok {v : MV} {k : Bool → Ac → Option Z} (H : Ok A I (q.tru φ Λ v k)) (f : ∀ t q1, (Obl q1 → Obl q ∧ ∀ σ, Hp φ Λ σ → Tr σ v t) → Ok A I (k t q1) → A) : A := by
 cases v with
 | none =>
  refine tst_ok (q := q) (c := false) H fun t q1 r H => f t q1 (fun h => ⟨(r h).1, fun _ _ => ?_⟩) H
  exact (r h).2 ▸ .none
 | bool b =>
  refine tst_ok (q := q) (c := b) H fun t q1 r H => f t q1 (fun h => ⟨(r h).1, fun _ _ => ?_⟩) H
  exact (r h).2 ▸ .bool b
 | int i =>
  refine tst_ok (q := q) (c := i != 0) H fun t q1 r H => f t q1 (fun h => ⟨(r h).1, fun _ _ => ?_⟩) H
  exact (r h).2 ▸ .int i
 | ref a =>
  replace H : Ok A I (q.rd φ Λ a fun o q => o.list?.bind fun l => q.tst (!l.isEmpty) k) := H
  refine rd_ok H fun o q1 r H => b9 H fun l e H => tst_ok H fun t q2 r2 H => f t q2 (fun h => ⟨(r (r2 h).1).1, fun σ X => ?_⟩) H
  obtain rfl := list_e e
  exact (r2 h).2 ▸ .list ((r (r2 h).1).2 σ X)
 | _ => exact H
end
theorem no_some {α : Type} {x : α} (h : none = some x) : False := nomatch h
theorem Ok.mono {A R : Prop} {I : Z → Prop} {o : Option Z} (f : A → R) (H : Ok A I o) : Ok R I o := by
 cases o with
 | none => exact f H
 | some z => exact H
theorem newOk {A : Prop} {R : Nat → Prop} {I : Z → Prop} {f : Nat → Option Z} (H : ∀ h, Ok A I (f h)) (c : ∀ h, Ok (R h) I (f h) → R h) (k : (∀ h, R h) → A) : A := by
 by_cases hA : A
 · exact hA
 · exact k fun h => c h ((H h).mono fun a => absurd a hA)
theorem ref_e {v : MV} {a : Nat} (h : v.ref? = some a) : v = .ref a := by
 cases v with
 | ref b => obtain rfl := Option.some.inj h; rfl
 | _ => exact (no_some h).elim
theorem int_e {v : MV} {a : Int} (h : v.int? = some a) : v = .int a := by
 cases v with
 | int b => obtain rfl := Option.some.inj h; rfl
 | _ => exact (no_some h).elim
theorem str_e {v : MV} {a : Str} (h : v.str? = some a) : v = .str a := by
 cases v with
 | str b => obtain rfl := Option.some.inj h; rfl
 | _ => exact (no_some h).elim
theorem bool_e {v : MV} {a : Bool} (h : v.bool? = some a) : v = .bool a := by
 cases v with
 | bool b => obtain rfl := Option.some.inj h; rfl
 | _ => exact (no_some h).elim
theorem tup_e' {v : MV} {a : List MV} (h : v.tup? = some a) : v = .tup a := by
 cases v with
 | tup b => obtain rfl := Option.some.inj h; rfl
 | _ => exact (no_some h).elim
theorem fn_e {v : MV} {a : Nat} (h : v.fn? = some a) : v = .fn a := by
 cases v with
 | fn b => obtain rfl := Option.some.inj h; rfl
 | _ => exact (no_some h).elim
theorem none_e {v : MV} (h : v.none? = true) : v = .none := by
 cases v with
 | none => rfl
 | _ => cases h
theorem and_b {a b : Bool} (h : (a && b) = true) : a = true ∧ b = true := by
 cases a
 · cases h
 · exact ⟨rfl, h⟩
theorem dec {p : Prop} [Decidable p] (h : decide p = true) : p := of_decide_eq_true h
section
variable {K0 : MV → Fz → Lg → Prop} {X0 : Nat → Fz → Lg → Prop} {φ : Fz} {A : Prop} {z : Z} {q : Ac}
theorem bin_ok {o : BOp} {v w : MV} {G : List MV → Fz → Lg → Prop} {X : Nat → Fz → Lg → Prop} {I : Z → Prop} (hI : ∀ Λ' q' us, I { z with c := .V us, Λ := Λ', q := q' } → Obl q' ∧ G us φ Λ') (H : ∀ h, Ok A I (prBin φ z q (φ.fr h) o v w)) (k : Obl q → Wp φ z.Λ (fun σ => PBin σ o v w) G X → A) : A := by
 cases v with
 | int x =>
  have H := H 0
  refine b9 H fun y ey H1 => ?_
  clear H
  obtain rfl := int_e ey
  cases o with
  | add => have h := hI _ _ _ H1; exact k h.1 (Wp.pure (fun σ X => .addI) h.2)
  | sub => have h := hI _ _ _ H1; exact k h.1 (Wp.pure (fun σ X => .sub) h.2)
  | mul =>
   refine ok_ok (q := q) H1 fun q1 r H => ?_
   have h := hI _ _ _ H
   have c := and_b (r h.1).2
   exact k (r h.1).1 (Wp.pure (fun σ X => .mul (dec c.1) (dec c.2)) h.2)
  | mod =>
   refine ok_ok (q := q) H1 fun q1 r H => ?_
   have h := hI _ _ _ H
   exact k (r h.1).1 (Wp.pure (fun σ X => .mod (dec (r h.1).2)) h.2)
  | fdiv =>
   refine ok_ok (q := q) H1 fun q1 r H => ?_
   have h := hI _ _ _ H
   have c := and_b (r h.1).2
   exact k (r h.1).1 (Wp.pure (fun σ X => .div (dec c.1) (dec c.2)) h.2)
  | pow =>
   refine ok_ok (q := q) H1 fun q1 r H => ?_
   have h := hI _ _ _ H
   have c := and_b (r h.1).2
   have d := and_b c.2
   exact k (r h.1).1 (Wp.pure (fun σ X => .pow (dec c.1) (dec d.1) (dec d.2)) h.2)
 | str x =>
  cases o with
  | add =>
   have H := H 0
   refine b9 H fun y ey H1 => ok_ok H1 fun q1 r H2 => ?_
   clear H
   obtain rfl := str_e ey
   have h := hI _ _ _ H2
   exact k (r h.1).1 (Wp.pure (fun σ X => .addS (dec (r h.1).2)) h.2)
  | _ => exact H 0
 | ref a =>
  cases o with
  | mul =>
   refine newOk (R := fun h => (Obl q ∧ w = .int 0 ∧ ∀ σ, Hp φ z.Λ σ → ∃ vs, σ[a]? = some (.list vs)) ∧ G [.ref (φ.fr h)] φ ((φ.fr h, .list []) :: z.Λ)) H (fun h H => ?_) fun R => ?_
   · refine b9 H fun y ey H1 => ok_ok H1 fun q1 r H2 => rd_ok H2 fun o q2 r2 H3 => b9 H3 fun vs ev H4 => ?_
     have h := hI _ _ _ H4
     have h2 := r2 h.1
     have h1 := r h2.1
     exact ⟨⟨h1.1, eq_of_beq h1.2 ▸ int_e ey, fun σ X => ⟨vs, list_e ev ▸ h2.2 σ X⟩⟩, h.2⟩
   · obtain ⟨⟨h1, rfl, h3⟩, _⟩ := R 0
     exact k h1 (fun σ X => (h3 σ X).elim fun vs e => ⟨_, .rep e, φ, _, X.alloc _, .refl φ, by
      obtain ⟨h', q⟩ := X.frh
      exact q ▸ (R h').2⟩)
  | _ => exact H 0
 | _ => exact H 0
noncomputable def PureAt (φ : Fz) (Λ : Lg) (m : MM (List MV)) (us : List MV) : Prop := ∀ σ, Hp φ Λ σ → m σ (.ok us σ)
variable {I : Z → Prop}
theorem eq_ok {v w : MV} {k : Bool → Ac → Option Z} (H : Ok A I (prEq φ z q v w k)) (f : ∀ t q1, (Obl q1 → Obl q ∧ ∀ σ, Hp φ z.Λ σ → EqV σ v w t) → Ok A I (k t q1) → A) : A := by
 have gen : Ok A I (q.ok (shal v 5 && shal w 5) fun q => q.bl (eqP v w) k) → A := fun H => ok_ok H fun q1 r H1 => bl_ok H1 fun t q2 r2 H2 => f t q2 (fun h => ⟨(r (r2 h).1).1, fun σ X => .val (r (r2 h).1).2 (r2 h).2⟩) H2
 cases v with
 | ref a =>
  clear gen
  refine b9 H fun b eb H1 => rd_ok H1 fun o q1 r H2 => rd_ok H2 fun o' q2 r2 H3 => b9 H3 fun x ex H4 => b9 H4 fun y ey H5 => ok_ok H5 fun q3 r3 H6 => bl_ok H6 fun t q4 r4 H7 => f t q4 (fun h => ?_) H7
  have h4 := r4 h
  have h3 := r3 h4.1
  have h2 := r2 h3.1
  have h1 := r h2.1
  exact ⟨h1.1, fun σ X => ref_e eb ▸ .list (list_e ex ▸ h1.2 σ X) (list_e ey ▸ h2.2 σ X) h3.2 h4.2⟩
 | _ => exact gen H
theorem in_ok {v w : MV} {k : Bool → Ac → Option Z} (H : Ok A I (prIn φ z q v w k)) (f : ∀ x d kvs q1, v = .str x → w = .ref d → (Obl q1 → Obl q ∧ (∀ σ, Hp φ z.Λ σ → σ[d]? = some (.dict kvs)) ∧ kvs.all (fun p => isStrK p.1) = true) → Ok A I (k (lookK (.str x) kvs).isSome q1) → A) : A := by
 cases v with
 | str x =>
  refine b9 H fun d ed H1 => rd_ok H1 fun o q1 r H2 => b9 H2 fun kvs ek H3 => ok_ok H3 fun q2 r2 H4 => f x d kvs q2 rfl (ref_e ed) (fun h => ?_) H4
  have h2 := r2 h
  have h1 := r h2.1
  exact ⟨h1.1, fun σ X => dict_e ek ▸ h1.2 σ X, h2.2⟩
 | _ => exact H
section
variable {G : List MV → Fz → Lg → Prop} {X : Nat → Fz → Lg → Prop} (hI : ∀ Λ' q' us, I { z with c := .V us, Λ := Λ', q := q' } → Obl q' ∧ G us φ Λ')
include hI
theorem cmp_ok {o : COp} {v w : MV} (H : Ok A I (prCmp φ z q o v w)) (k : ∀ us, Obl q → G us φ z.Λ → PureAt φ z.Λ (fun σ => PCmp σ o v w) us → A) : A := by
 cases o with
 | eq =>
  refine eq_ok H fun t q1 r H1 => ?_
  have h := hI _ _ _ H1
  exact k _ (r h.1).1 h.2 fun σ X => .eq ((r h.1).2 σ X)
 | ne =>
  refine eq_ok H fun t q1 r H1 => ?_
  have h := hI _ _ _ H1
  exact k _ (r h.1).1 h.2 fun σ X => .ne ((r h.1).2 σ X)
 | lt =>
  refine b9 H fun x ex H1 => b9 H1 fun y ey H2 => ?_
  have h := hI _ _ _ H2
  exact k _ h.1 h.2 fun σ X => int_e ex ▸ int_e ey ▸ .lt
 | gt =>
  refine b9 H fun x ex H1 => b9 H1 fun y ey H2 => ?_
  have h := hI _ _ _ H2
  exact k _ h.1 h.2 fun σ X => int_e ex ▸ int_e ey ▸ .gt
 | le =>
  refine b9 H fun x ex H1 => b9 H1 fun y ey H2 => ?_
  have h := hI _ _ _ H2
  exact k _ h.1 h.2 fun σ X => int_e ex ▸ int_e ey ▸ .le
 | ge =>
  refine b9 H fun x ex H1 => b9 H1 fun y ey H2 => ?_
  have h := hI _ _ _ H2
  exact k _ h.1 h.2 fun σ X => int_e ex ▸ int_e ey ▸ .ge
 | is =>
  refine bif_ok H fun e H1 => ?_
  have h := hI _ _ _ H1
  exact k _ h.1 h.2 fun σ X => none_e e ▸ .is
 | isNot =>
  refine bif_ok H fun e H1 => ?_
  have h := hI _ _ _ H1
  exact k _ h.1 h.2 fun σ X => none_e e ▸ .isNot
 | inn =>
  have gen : Ok A I (prIn φ z q v w fun t q => z.val q [.bool t]) → A := fun H => in_ok H fun x d kvs q1 e1 e2 r H1 => by
   have h := hI _ _ _ H1
   subst e1 e2
   exact k _ (r h.1).1 h.2 fun σ X => .inD ((r h.1).2.1 σ X) (r h.1).2.2
  cases v with
  | int x =>
   clear gen
   refine b9 H fun vs ev H1 => bl_ok H1 fun t q1 r H2 => ?_
   have h := hI _ _ _ H2
   exact k _ (r h.1).1 h.2 fun σ X => tup_e' ev ▸ .inT (r h.1).2
  | _ => exact gen H
 | notIn =>
  refine in_ok (q := q) (v := v) (w := w) (k := fun t q => z.val q [.bool (!t)]) H fun x d kvs q1 e1 e2 r H1 => ?_
  have h := hI _ _ _ H1
  subst e1 e2
  exact k _ (r h.1).1 h.2 fun σ X => .notIn ((r h.1).2.1 σ X) (r h.1).2.2
theorem sub_ok {v w : MV} (H : Ok A I (prSub φ z q v w)) (k : ∀ us, Obl q → G us φ z.Λ → PureAt φ z.Λ (fun σ => PSub σ v w) us → A) : A := by
 cases v with
 | tup vs =>
  refine b9 H fun i ei H1 => vl_ok H1 fun u q1 r H2 => ?_
  have h := hI _ _ _ H2
  exact k _ (r h.1).1 h.2 fun σ X => int_e ei ▸ .tup (r h.1).2
 | scr xs =>
  refine b9 H fun i ei H1 => ok_ok H1 fun q1 r H2 => vl_ok H2 fun u q2 r2 H3 => ?_
  have h := hI _ _ _ H3
  have h2 := r2 h.1
  have h1 := r h2.1
  have c := and_b h1.2
  obtain ⟨x, e, rfl⟩ := Option.map_eq_some_iff.mp h2.2
  exact k _ h1.1 h.2 fun σ X => int_e ei ▸ .scr (dec c.1) (dec c.2) e
 | ref a =>
  replace H : Ok A I (q.rd φ z.Λ a fun o q => prSubR z q o w) := H
  refine rd_ok H fun o q1 r H1 => ?_
  cases o with
  | list vs =>
   refine b9 H1 fun i ei H2 => vl_ok H2 fun u q2 r2 H3 => ?_
   have h := hI _ _ _ H3
   have h2 := r2 h.1
   exact k _ (r h2.1).1 h.2 fun σ X => int_e ei ▸ .list ((r h2.1).2 σ X) h2.2
  | dict kvs =>
   refine b9 H1 fun s es H2 => ok_ok H2 fun q2 r2 H3 => vl_ok H3 fun u q3 r3 H4 => ?_
   have h := hI _ _ _ H4
   have h3 := r3 h.1
   have h2 := r2 h3.1
   exact k _ (r h2.1).1 h.2 fun σ X => str_e es ▸ .dict ((r h2.1).2 σ X) h2.2 h3.2
  | _ => exact H1
 | _ => exact H
theorem len_ok {v : MV} (H : Ok A I (prLen φ z q v)) (k : ∀ us, Obl q → G us φ z.Λ → PureAt φ z.Λ (fun σ => PLen σ v) us → A) : A := by
 cases v with
 | scr xs =>
  refine ok_ok (q := q) (c := decide (xs.length ≤ LIM)) H fun q1 r H1 => ?_
  have h := hI _ _ _ H1
  exact k _ (r h.1).1 h.2 fun σ X => .scr (dec (r h.1).2)
 | str s =>
  refine ok_ok (q := q) (c := decide (s.length ≤ LIM)) H fun q1 r H1 => ?_
  have h := hI _ _ _ H1
  exact k _ (r h.1).1 h.2 fun σ X => .str (dec (r h.1).2)
 | ref a =>
  replace H : Ok A I (q.rd φ z.Λ a fun o q => o.list?.bind fun vs => z.val q [.int vs.length]) := H
  refine rd_ok H fun o q1 r H1 => b9 H1 fun vs ev H2 => ?_
  have h := hI _ _ _ H2
  exact k _ (r h.1).1 h.2 fun σ X => .list (list_e ev ▸ (r h.1).2 σ X)
 | _ => exact H
end
end
section
variable {φ : Fz} {A : Prop} {z : Z} {q : Ac} {I : Z → Prop} {G : List MV → Fz → Lg → Prop} {X : Nat → Fz → Lg → Prop} (hI : ∀ Λ' q' us, I { z with c := .V us, Λ := Λ', q := q' } → Obl q' ∧ G us φ Λ')
include hI
theorem part_ok {t : Bool} {v w : MV} (H : ∀ h, Ok A I (prPart φ z q (φ.fr h) t v w)) (k : Obl q → Wp φ z.Λ (fun σ => PPart t σ v w) G X → A) : A := by
 refine newOk (R := fun h => Obl q ∧ ∃ a i vs, v = .ref a ∧ w = .int i ∧ (∀ σ, Hp φ z.Λ σ → σ[a]? = some (.list vs)) ∧ 0 ≤ i ∧ i ≤ vs.length ∧ G [.ref (φ.fr h)] φ ((φ.fr h, .list (bif t then vs.take i.toNat else vs.drop i.toNat)) :: z.Λ)) H (fun h H => ?_) fun R => k (R 0).1 fun σ X => ?_
 · refine b9 H fun a ea H1 => b9 H1 fun i ei H2 => rd_ok H2 fun o q1 r H3 => b9 H3 fun vs ev H4 => ok_ok H4 fun q2 r2 H5 => ot_ok H5 fun o' q3 r3 H6 => ?_
   have h := hI _ _ _ H6
   have h3 := r3 h.1
   have h2 := r2 h3.1
   have h1 := r h2.1
   have c := and_b h2.2
   exact ⟨h1.1, a, i, vs, ref_e ea, int_e ei, fun σ X => list_e ev ▸ h1.2 σ X, dec c.1, dec c.2, h3.2 ▸ h.2⟩
 · obtain ⟨h', e⟩ := X.frh
   obtain ⟨_, a, i, vs, rfl, rfl, h1, h2, h3, h4⟩ := R h'
   exact ⟨_, .mk (h1 σ X) h2 h3, φ, _, X.alloc _, .refl φ, e ▸ h4⟩
theorem setA_ok {n : Nat} {v w : MV} (H : Ok A I (prSetA z q n v w)) (k : Obl q → Wp φ z.Λ (fun σ => PSetA n σ v w) G X → A) : A := by
 refine b9 H fun a ea H1 => wr_ok H1 fun o j h' q1 r H2 => ?_
 obtain rfl := ref_e ea
 clear H H1
 cases o with
 | inst c fs =>
  have h := hI _ _ _ H2
  have h2 := cl_o h.1
  have h1 := cl_o h2.1
  obtain ⟨h0, rfl, e⟩ := r h1.1
  exact k h0 (Wp.upd e (fun σ s => .inst s (Nat.le_of_ble_eq_true h1.2) (Option.isNone_iff_eq_none.mp h2.2)) h.2)
 | exc fs =>
  have h := hI _ _ _ H2
  have h2 := cl_o h.1
  have h1 := cl_o h2.1
  obtain ⟨h0, rfl, e⟩ := r h1.1
  exact k h0 (Wp.upd e (fun σ s => .exc s (Nat.le_of_ble_eq_true h1.2) (Option.isNone_iff_eq_none.mp h2.2)) h.2)
 | _ => exact H2
omit hI in
theorem some_e {α : Type} {o : Option α} (h : o.isSome = true) : ∃ x, o = some x := Option.isSome_iff_exists.mp h
omit hI in
theorem key3_e {l : List MV} {x : Str × Bool × Str} (h : key3 l = some x) : ∃ a b c, l = [.str a, .bool b, .str c] := by
 cases l with
 | nil => exact (no_some h).elim
 | cons a l =>
 cases l with
 | nil => exact (no_some h).elim
 | cons b l =>
 cases l with
 | nil => exact (no_some h).elim
 | cons c l =>
 cases l with
 | cons _ _ => exact (no_some h).elim
 | nil =>
  obtain ⟨s, ha, h1⟩ := Option.bind_eq_some_iff.mp h
  obtain ⟨u, hb, h2⟩ := Option.bind_eq_some_iff.mp h1
  obtain ⟨w, hc, _⟩ := Option.map_eq_some_iff.mp h2
  exact ⟨s, u, w, by rw [str_e ha, bool_e hb, str_e hc]⟩
omit hI in
theorem tup3_e {v : MV} (h : isTupK v = true) : ∃ a b c, v = .tup [.str a, .bool b, .str c] := by
 obtain ⟨x, h⟩ := some_e h
 obtain ⟨l, e, h1⟩ := Option.bind_eq_some_iff.mp h
 obtain ⟨a, b, c, rfl⟩ := key3_e h1
 exact ⟨a, b, c, tup_e' e⟩
theorem setS_ok {x v k : MV} (H : Ok A I (prSetS z q x v k)) (kk : Obl q → Wp φ z.Λ (fun σ => PSetS σ x v k) G X → A) : A := by
 refine b9 H fun a ea H1 => wr_ok H1 fun o j h' q1 r H2 => ?_
 obtain rfl := ref_e ea
 clear H H1
 cases o with
 | list vs =>
  refine b9 H2 fun i ei H3 => ok_ok H3 fun q2 r2 H4 => ot_ok H4 fun o' q3 r3 H5 => ?_
  have h := hI _ _ _ H5
  have h3 := r3 h.1
  have h2 := r2 h3.1
  obtain ⟨h0, rfl, e⟩ := r h2.1
  have c := and_b h2.2
  obtain rfl := int_e ei
  exact kk h0 (Wp.upd e (fun σ s => .list s (dec c.1) (dec c.2)) (h3.2 ▸ h.2))
 | dict kvs =>
  refine bif_ok H2 fun hk H3 => ok_ok H3 fun q2 r2 H4 => ok_ok H4 fun q3 r3 H5 => ot_ok H5 fun o' q4 r4 H6 => ?_
  have h := hI _ _ _ H6
  have h4 := r4 h.1
  have h3 := r3 h4.1
  have h2 := r2 h3.1
  obtain ⟨h0, rfl, e⟩ := r h2.1
  refine kk h0 (Wp.upd e (fun σ s => ?_) (h4.2 ▸ h.2))
  have c := h2.2
  cases hs : isStrK k with
  | true =>
   rw [hs] at c
   obtain ⟨y, hy⟩ := some_e hs
   obtain rfl := str_e hy
   exact .dictS s c (dec h3.2)
  | false =>
   rw [hs] at c hk
   obtain ⟨y, b, l, rfl⟩ := tup3_e hk
   exact .dictT s c (dec h3.2)
 | _ => exact H2
omit hI in
theorem last_e : ∀ {vs : List MV} {p : List MV × MV}, lastOf vs = some p → vs = p.1 ++ [p.2] := fun {vs} => by
 induction vs with
 | nil => exact fun h => (no_some h).elim
 | cons v r ih =>
  intro p h
  unfold lastOf at h
  cases hl : lastOf r with
  | some s => rw [hl] at h; obtain rfl := Option.some.inj h; exact congrArg (v :: ·) (ih hl)
  | none =>
   rw [hl] at h
   cases r with
   | nil => obtain rfl := Option.some.inj h; rfl
   | cons _ _ => exact (no_some h).elim
theorem bm_ok {b : BK} {v : MV} {args : List MV} (H : Ok A I (prBm φ z q b v args)) (k : Obl q → Wp φ z.Λ (fun σ => PBm σ b v args) G X → A) : A := by
 cases b with
 | join =>
  refine b9 H fun s es H1 => u1_ok H1 fun w ew H2 => b9 H2 fun a ea H3 => ok_ok H3 fun q1 r1 H4 => rd_ok H4 fun o q2 r2 H5 => b9 H5 fun vs ev H6 => vl_ok H6 fun u q3 r3 H7 => b9 H7 fun t et H8 => ok_ok H8 fun q4 r4 H9 => ?_
  have h := hI _ _ _ H9
  have h4 := r4 h.1
  have h3 := r3 h4.1
  have h2 := r2 h3.1
  have h1 := r1 h2.1
  obtain ⟨l, el, eu⟩ := Option.map_eq_some_iff.mp h3.2
  obtain rfl := str_e es
  obtain rfl := ref_e ea
  obtain rfl := eq_of_beq h1.2
  obtain rfl : j9 l = t := Option.some.inj (congrArg MV.str? (eu.trans (str_e et)))
  subst ew
  exact k h1.1 (Wp.pure (fun σ X => .join (list_e ev ▸ h2.2 σ X) el (dec h4.2)) h.2)
 | find =>
  refine b9 H fun s es H1 => u1_ok H1 fun w ew H2 => b9 H2 fun x ex H3 => ?_
  have h := hI _ _ _ H3
  obtain rfl := str_e es
  obtain rfl := str_e ex
  subst ew
  exact k h.1 (Wp.pure (fun σ X => .find) h.2)
 | lapp =>
  refine b9 H fun a ea H1 => u1_ok H1 fun x ex H2 => wr_ok H2 fun o j h' q1 r H3 => b9 H3 fun vs ev H4 => ok_ok H4 fun q2 r2 H5 => ?_
  have h := hI _ _ _ H5
  have h2 := r2 h.1
  obtain ⟨h0, rfl, e⟩ := r h2.1
  obtain rfl := ref_e ea
  obtain rfl := list_e ev
  subst ex
  exact k h0 (Wp.upd e (fun σ s => .lapp s (dec h2.2)) h.2)
 | lpop =>
  refine b9 H fun a ea H1 => bif_ok H1 fun ha H2 => wr_ok H2 fun o j h' q1 r H3 => b9 H3 fun vs ev H4 => ?_
  obtain rfl := ref_e ea
  obtain rfl := list_e ev
  obtain rfl := List.isEmpty_iff.mp ha
  clear H H1 H2 H3
  cases hd : Nat.beq q1.dg 5 with
  | false =>
   rw [hd] at H4
   refine bif_ok H4 fun _ G4 => b9 G4 fun p ep H5 => ?_
   have h := hI _ _ _ H5
   obtain ⟨h0, rfl, e⟩ := r h.1
   exact k h0 (Wp.upd e (fun σ s => .lpop (last_e ep ▸ s)) h.2)
  | true =>
   rw [hd] at H4
   cases hv : q1.vs with
   | nil => rw [hv] at H4; exact H4
   | cons x rs =>
   rw [hv] at H4
   cases ho : q1.os with
   | nil => rw [ho] at H4; exact H4
   | cons o' rs' =>
   rw [ho] at H4
   cases o' with
   | list ys =>
    have h := hI _ _ _ H4
    have h1 := need_o h.1
    obtain ⟨h0, rfl, e⟩ := r h1.1
    exact k h0 (Wp.upd e (fun σ s => .lpop (h1.2 ▸ s)) h.2)
   | _ => exact H4
 | dget =>
  refine b9 H fun a ea H1 => u1_ok H1 fun x ex H2 => rd_ok H2 fun o q1 r H3 => b9 H3 fun kvs ek H4 => bif_ok H4 fun hk H5 => ok_ok H5 fun q2 r2 H6 => vl_ok H6 fun u q3 r3 H7 => ?_
  have h := hI _ _ _ H7
  have h3 := r3 h.1
  have h2 := r2 h3.1
  have h1 := r h2.1
  obtain rfl := ref_e ea
  obtain ⟨y, c, l, rfl⟩ := tup3_e hk
  subst ex
  obtain rfl := Option.some.inj h3.2
  exact k h1.1 (Wp.pure (fun σ X => .dget (dict_e ek ▸ h1.2 σ X) h2.2) h.2)
 | dpop =>
  refine b9 H fun a ea H1 => u2_ok H1 fun x d ex H2 => b9 H2 fun s es H3 => wr_ok H3 fun o j h' q1 r H4 => b9 H4 fun kvs ek H5 => ok_ok H5 fun q2 r2 H6 => vl_ok H6 fun u q3 r3 H7 => ot_ok H7 fun o' q4 r4 H8 => ?_
  have h := hI _ _ _ H8
  have h4 := r4 h.1
  have h3 := r3 h4.1
  have h2 := r2 h3.1
  obtain ⟨h0, rfl, e⟩ := r h2.1
  obtain rfl := ref_e ea
  obtain rfl := str_e es
  obtain rfl := dict_e ek
  subst ex
  obtain rfl := Option.some.inj h3.2
  exact k h0 (Wp.upd e (fun σ s => .dpop s h2.2) (h4.2 ▸ h.2))
end
theorem u2_all {A : Prop} {I : Z → Prop} {vs : List MV} {k : Nat → MV → MV → Option Z} (H : ∀ h, Ok A I (u2 vs (k h))) (f : ∀ v w, vs = [v, w] → (∀ h, Ok A I (k h v w)) → A) : A := by
 cases vs with
 | nil => exact H 0
 | cons v r =>
  cases r with
  | nil => exact H 0
  | cons w r =>
   cases r with
   | nil => exact f v w rfl H
   | cons _ _ => exact H 0
theorem flds_e {o : MO} {fs : List (Nat × MV)} (h : o.flds = some fs) : (∃ c, o = .inst c fs) ∨ o = .exc fs := by
 cases o with
 | inst c l => obtain rfl := Option.some.inj h; exact .inl ⟨c, rfl⟩
 | exc l => obtain rfl := Option.some.inj h; exact .inr rfl
 | _ => exact (no_some h).elim
section
variable {K0 : MV → Fz → Lg → Prop} {X0 : Nat → Fz → Lg → Prop} {φ : Fz} {fr : List Frm} {n : Nat} {hd : Option Nat} {L : Loc} {Λ : Lg} {q : Ac}
theorem wE.map {m m' : MM (List MV)} {g : Kt} (h : wE m g n hd L φ Λ) (f : ∀ σ r, Hp φ Λ σ → m σ r → m' σ r) : wE m' g n hd L φ Λ := Wp.map h f
theorem prim_ok {o : Op} {vs : List MV} (H : ∀ h, Ok (Inv K0 X0 φ ⟨.P o vs, fr, n, hd, L, Λ, q⟩) (Inv K0 X0 φ) (prim1 φ ⟨.P o vs, fr, n, hd, L, Λ, q⟩ q (φ.fr h) o vs)) : Inv K0 X0 φ ⟨.P o vs, fr, n, hd, L, Λ, q⟩ := by
 have hI : ∀ Λ' q' us, Inv K0 X0 φ ⟨.V us, fr, n, hd, L, Λ', q'⟩ → Obl q' ∧ GA K0 X0 fr (.V us) n hd L φ Λ' := fun _ _ _ h => h
 cases o with
 | attr k =>
  refine u1_ok (H 0) fun v e H1 => b9 H1 fun a ea H2 => rd_ok H2 fun o q1 r H3 => b9 H3 fun fs ef H4 => b9 H4 fun w ew H5 => ⟨(r H5.1).1, ?_⟩
  subst e
  obtain rfl := ref_e ea
  refine Wp.pure (fun σ X => ?_) H5.2
  have s := (r H5.1).2 σ X
  rcases flds_e ef with ⟨c, rfl⟩ | rfl
  · exact .inst s ew
  · exact .exc s ew
 | sub => exact u2_ok (H 0) fun v w e H1 => sub_ok (z := ⟨.P .sub vs, fr, n, hd, L, Λ, q⟩) (G := fun us φ Λ => GA K0 X0 fr (.V us) n hd L φ Λ) hI H1 fun us ob g p => ⟨ob, by subst e; exact Wp.pure p g⟩
 | sto => exact u2_all H fun v w e H1 => part_ok (z := ⟨.P .sto vs, fr, n, hd, L, Λ, q⟩) (G := fun us φ Λ => GA K0 X0 fr (.V us) n hd L φ Λ) (X := fun e φ Λ => GA K0 X0 fr (.X e) n hd L φ Λ) hI H1 fun ob w => ⟨ob, by subst e; exact w⟩
 | sfr => exact u2_all H fun v w e H1 => part_ok (z := ⟨.P .sfr vs, fr, n, hd, L, Λ, q⟩) (G := fun us φ Λ => GA K0 X0 fr (.V us) n hd L φ Λ) (X := fun e φ Λ => GA K0 X0 fr (.X e) n hd L φ Λ) hI H1 fun ob w => ⟨ob, by subst e; exact w⟩
 | bin b => exact u2_all H fun v w e H1 => bin_ok (z := ⟨.P (.bin b) vs, fr, n, hd, L, Λ, q⟩) (G := fun us φ Λ => GA K0 X0 fr (.V us) n hd L φ Λ) (X := fun e φ Λ => GA K0 X0 fr (.X e) n hd L φ Λ) hI H1 fun ob w => ⟨ob, by subst e; exact w⟩
 | cmp b => exact u2_ok (H 0) fun v w e H1 => cmp_ok (z := ⟨.P (.cmp b) vs, fr, n, hd, L, Λ, q⟩) (G := fun us φ Λ => GA K0 X0 fr (.V us) n hd L φ Λ) hI H1 fun us ob g p => ⟨ob, by subst e; exact Wp.pure p g⟩
 | not => exact u1_ok (H 0) fun v e H1 => tru_ok H1 fun t q1 r H2 => ⟨(r H2.1).1, by subst e; exact Wp.pure (fun σ X => ⟨t, (r H2.1).2 σ X, rfl⟩) H2.2⟩
 | list => exact ⟨(cl_o (H 0).1).1, Wp.new (fun σ X => ⟨Nat.le_of_ble_eq_true (cl_o (H 0).1).2, rfl⟩) fun h => (H h).2⟩
 | tup => exact ⟨(cl_o (H 0).1).1, Wp.pure (fun σ X => ⟨(cl_o (H 0).1).2, rfl⟩) (H 0).2⟩
 | len => exact u1_ok (H 0) fun v e H1 => len_ok (z := ⟨.P .len vs, fr, n, hd, L, Λ, q⟩) (G := fun us φ Λ => GA K0 X0 fr (.V us) n hd L φ Λ) hI H1 fun us ob g p => ⟨ob, by subst e; exact Wp.pure p g⟩
 | strf =>
  refine u1_ok (H 0) fun v e H1 => b9 H1 fun i ei H2 => ok_ok H2 fun q1 r H3 => ⟨(r H3.1).1, ?_⟩
  subst e
  obtain rfl := int_e ei
  exact Wp.pure (fun σ X => .mk (dec (r H3.1).2)) H3.2
 | isi c =>
  refine u1_ok (H 0) fun v e H1 => ?_
  subst e
  cases hs : v.str?.isSome with
  | true =>
   rw [hs] at H1
   obtain ⟨s, hs⟩ := some_e hs
   obtain rfl := str_e hs
   exact ⟨(cl_o H1.1).1, Wp.pure (fun σ X => .str (cl_o H1.1).2) H1.2⟩
  | false =>
   rw [hs] at H1
   refine b9 H1 fun a ea H2 => rd_ok H2 fun o q1 r H3 => b9 H3 fun p ep H4 => ?_
   have h1 := cl_o H4.1
   have h2 := cl_o h1.1
   obtain rfl := ref_e ea
   exact ⟨(r h2.1).1, Wp.pure (fun σ X => .inst h2.2 h1.2 (inst_e ep ▸ (r h2.1).2 σ X)) H4.2⟩
 | exc =>
  refine u2_ok (H 0) fun v w e H1 => b9 H1 fun a ea H2 => rd_ok H2 fun o q1 r H3 => b9 H3 fun fs ef H4 => ⟨(r H4.1).1, ?_⟩
  subst e
  obtain rfl := ref_e ea
  exact Wp.pure (fun σ X => ⟨a, fs, rfl, exc_e ef ▸ (r H4.1).2 σ X, rfl⟩) H4.2
 | call =>
  cases vs with
  | nil => exact H 0
  | cons v args =>
   have H1 := H 0
   cases hf : v.fn? with
   | none =>
    replace H1 : Ok _ (Inv K0 X0 φ) (v.fn?.map _) := H1
    rw [hf] at H1; exact H1
   | some f =>
    replace H1 : Ok _ (Inv K0 X0 φ) (v.fn?.map _) := H1
    rw [hf] at H1
    obtain rfl := fn_e hf
    exact ⟨H1.1, wE.map H1.2 fun σ r _ h => ⟨f, args, rfl, h⟩⟩
 | new c =>
  cases hm : meths c 5 with
  | none =>
   have H1 : Ok _ (Inv K0 X0 φ) ((meths c 5).bind _) := H 0
   rw [hm] at H1; exact H1
  | some f =>
  cases hk : kind c with
  | none =>
   have H1 : Ok _ (Inv K0 X0 φ) ((meths c 5).bind fun f => (kind c).map _) := H 0
   rw [hm, hk] at H1; exact H1
  | some b =>
  have H1 : ∀ h, Inv K0 X0 φ ⟨.C f (.ref (φ.fr h) :: vs), .new (φ.fr h) :: fr, n, hd, L, (φ.fr h, bif b then .exc [] else .inst c []) :: Λ, q⟩ := fun h => by
   have H2 : Ok _ (Inv K0 X0 φ) ((meths c 5).bind fun f => (kind c).map fun b => ⟨.C f (.ref (φ.fr h) :: vs), .new (φ.fr h) :: fr, n, hd, L, (φ.fr h, bif b then .exc [] else .inst c []) :: Λ, q⟩) := H h
   rw [hm, hk] at H2; exact H2
  refine ⟨(H1 0).1, fun σ X => ?_⟩
  obtain ⟨h', e'⟩ := X.frh
  have H2 := (H1 h').2
  rw [← e'] at H2
  obtain ⟨r, ⟨q1, h1, h2⟩, h3⟩ := H2 _ (X.alloc _)
  cases q1 with
  | err e σ' => cases h2; exact ⟨.err e σ', ⟨f, b, .err e σ', hm, hk, h1, rfl⟩, h3⟩
  | ok v σ' =>
   cases h2
   obtain ⟨φ', Λ', a, b', c'⟩ := h3
   obtain ⟨_, ⟨e1, rfl⟩, o1⟩ := c' σ' a
   cases e1
   exact ⟨.ok [.ref σ.length] σ', ⟨f, b, .ok .none σ', hm, hk, h1, rfl, rfl⟩, o1.le b'⟩
 | base => exact H 0
 | bm b =>
  cases vs with
  | nil => exact H 0
  | cons v args => exact bm_ok (z := ⟨.P (.bm b) (v :: args), fr, n, hd, L, Λ, q⟩) (G := fun us φ Λ => GA K0 X0 fr (.V us) n hd L φ Λ) (X := fun e φ Λ => GA K0 X0 fr (.X e) n hd L φ Λ) hI (H 0) fun ob w => ⟨ob, wE.map w fun σ r _ h => ⟨v, args, rfl, h⟩⟩
 | setA k => exact u2_ok (H 0) fun v w e H1 => setA_ok (z := ⟨.P (.setA k) vs, fr, n, hd, L, Λ, q⟩) (G := fun us φ Λ => GA K0 X0 fr (.V us) n hd L φ Λ) (X := fun e φ Λ => GA K0 X0 fr (.X e) n hd L φ Λ) hI H1 fun ob w => ⟨ob, by subst e; exact w⟩
 | setS => exact u3_ok (H 0) fun v w u e H1 => setS_ok (z := ⟨.P .setS vs, fr, n, hd, L, Λ, q⟩) (G := fun us φ Λ => GA K0 X0 fr (.V us) n hd L φ Λ) (X := fun e φ Λ => GA K0 X0 fr (.X e) n hd L φ Λ) hI H1 fun ob w => ⟨ob, by subst e; exact w⟩
 | drop => exact u1_ok (H 0) fun v e H1 => ⟨H1.1, by subst e; exact Wp.ret H1.2⟩
 | raise =>
  refine u1_ok (H 0) fun v e H1 => b9 H1 fun a ea H2 => rd_ok H2 fun o q1 r H3 => b9 H3 fun fs ef H4 => ok_ok H4 fun q2 r2 H5 => ?_
  subst e
  obtain rfl := ref_e ea
  have h2 := r2 H5.1
  have h1 := r h2.1
  exact ⟨h1.1, fun σ X => ⟨.err a σ, ⟨a, fs, rfl, exc_e ef ▸ h1.2 σ X, h2.2, rfl⟩, φ, Λ, X, .refl φ, H5.2⟩⟩
end
section
variable {φ : Fz} {Λ : Lg} {KS : Fl → Loc → Fz → Lg → Prop} {XS : Nat → Loc → Fz → Lg → Prop}
theorem WpS.seqM {m : SM} {k : Loc → SM} (h : WpS φ Λ m (fun f L φ Λ => match f with
 | .nxt => WpS φ Λ (k L) KS XS
 | .ret v => KS (.ret v) L φ Λ) XS) : WpS φ Λ (seqM m k) KS XS := by
 intro σ H
 obtain ⟨Q, h1, h2⟩ := h σ H
 cases Q with
 | err e L σ' => exact ⟨.err e L σ', ⟨_, h1, rfl⟩, h2⟩
 | ok f L σ' =>
  cases f with
  | nxt =>
   obtain ⟨φ', Λ', a, b, c⟩ := h2
   obtain ⟨r, h3, h4⟩ := c σ' a
   exact ⟨r, ⟨_, h1, h3⟩, h4.le b⟩
  | ret v => exact ⟨.ok (.ret v) L σ', ⟨_, h1, rfl⟩, h2⟩
theorem WpS.inS_bnd {α β : Type} {m : MM α} {f : α → MM β} {L : Loc} {k : β → SM} (h : Wp φ Λ m (fun v φ₁ Λ₁ => WpS φ₁ Λ₁ (Mine.inS (f v) L k) KS XS) (fun e φ₁ Λ₁ => XS e L φ₁ Λ₁)) : WpS φ Λ (Mine.inS (bnd m f) L k) KS XS := by
 intro σ H
 obtain ⟨r, h1, h2⟩ := h σ H
 cases r with
 | ok v σ' =>
  obtain ⟨φ', Λ', a, b, c⟩ := h2
  obtain ⟨R, ⟨q, h3, h4⟩, h5⟩ := c σ' a
  exact ⟨R, ⟨q, ⟨_, h1, h3⟩, h4⟩, h5.le b⟩
 | err e σ' => exact ⟨.err e L σ', ⟨_, ⟨_, h1, rfl⟩, rfl⟩, h2⟩
end
section
variable {K0 : MV → Fz → Lg → Prop} {X0 : Nat → Fz → Lg → Prop} {φ : Fz} {fr : List Frm} {n : Nat} {hd : Option Nat} {L : Loc} {Λ : Lg} {q : Ac}
theorem stE_ok {p : PE} (H : ∀ h, Ok (Inv K0 X0 φ ⟨.E p, fr, n, hd, L, Λ, q⟩) (Inv K0 X0 φ) (stE (φ.fr h) ⟨.E p, fr, n, hd, L, Λ, q⟩ p)) : Inv K0 X0 φ ⟨.E p, fr, n, hd, L, Λ, q⟩ := by
 cases p with
 | loc i => exact b9 (H 0) fun o eo H1 => b9 H1 fun v ev H2 => ⟨H2.1, Wp.pure (fun σ X => ⟨v, ev ▸ eo, rfl⟩) H2.2⟩
 | cst v => exact ⟨(H 0).1, Wp.ret (H 0).2⟩
 | nil => exact ⟨(H 0).1, Wp.ret (H 0).2⟩
 | cons a b => exact ⟨(H 0).1, Wp.bnd (H 0).2⟩
 | op o a => exact ⟨(H 0).1, Wp.bnd (H 0).2⟩
 | meth e k a => exact ⟨(H 0).1, Wp.bnd (H 0).2⟩
 | dict ks a =>
  refine ⟨(H 0).1, fun σ X => ?_⟩
  obtain ⟨h', e⟩ := X.frh
  have H2 := (H h').2
  rw [← e] at H2
  exact (Wp.bnd H2 : Wp φ _ (bnd (ev (callN n) hd L a) fun vs => fillM ks vs σ.length) _ _) _ (X.alloc _)
 | bools c e r => exact ⟨(H 0).1, Wp.bnd (H 0).2⟩
 | ite t a b => exact ⟨(H 0).1, Wp.bnd (H 0).2⟩
 | tnot t => exact ⟨(H 0).1, Wp.bnd (H 0).2⟩
 | tnil c => exact ⟨(H 0).1, Wp.ret (H 0).2⟩
 | tcons c t r => exact ⟨(H 0).1, Wp.bnd (H 0).2⟩
 | val e => exact ⟨(H 0).1, Wp.bnd (H 0).2⟩
 | stuck => exact H 0
theorem try_ok {b h : PS} {x : Nat} (H : wS (ex (callN n) b hd L) (GA K0 X0 (.try x h :: fr)) n hd φ Λ) : wS (ex (callN n) (.tryX b x h) hd L) (GA K0 X0 fr) n hd φ Λ := fun σ X => by
 obtain ⟨Q, h1, h2⟩ := H σ X
 cases Q with
 | ok f L' σ' => exact ⟨.ok f L' σ', ⟨_, h1, rfl⟩, h2⟩
 | err e L' σ' =>
  obtain ⟨φ', Λ', a, b, c⟩ := h2
  obtain ⟨Q', h3, h4⟩ := c σ' a
  refine ⟨Q'.clear x, ⟨_, h1, Q', h3, rfl⟩, OutS.le ?_ b⟩
  cases Q' with
  | ok f L σ => exact h4
  | err e L σ => exact h4
theorem fin_ok {b f : PS} (H : wS (ex (callN n) b hd L) (GA K0 X0 (.fin f :: fr)) n hd φ Λ) : wS (ex (callN n) (.fin b f) hd L) (GA K0 X0 fr) n hd φ Λ := fun σ X => by
 obtain ⟨Q, h1, h2⟩ := H σ X
 cases Q with
 | ok fl L' σ' =>
  obtain ⟨φ', Λ', a, b, c⟩ := h2
  obtain ⟨Q', h3, h4⟩ := c σ' a
  cases Q' with
  | err e L σ => obtain ⟨_, _, _, _, h⟩ := h4; exact h.elim
  | ok g L σ =>
   cases g with
   | ret v => obtain ⟨_, _, _, _, h⟩ := h4; exact h.elim
   | nxt => exact ⟨.ok fl L σ, ⟨_, h1, L, σ, h3, rfl⟩, OutS.le h4 b⟩
 | err e L' σ' =>
  obtain ⟨φ', Λ', a, b, c⟩ := h2
  obtain ⟨Q', h3, h4⟩ := c σ' a
  cases Q' with
  | err e L σ => obtain ⟨_, _, _, _, h⟩ := h4; exact h.elim
  | ok g L σ =>
   cases g with
   | ret v => obtain ⟨_, _, _, _, h⟩ := h4; exact h.elim
   | nxt => exact ⟨.err e L σ, ⟨_, h1, L, σ, h3, rfl⟩, OutS.le h4 b⟩
theorem stS_ok {s : PS} (H : Ok (Inv K0 X0 φ ⟨.S s, fr, n, hd, L, Λ, q⟩) (Inv K0 X0 φ) (stS ⟨.S s, fr, n, hd, L, Λ, q⟩ s)) : Inv K0 X0 φ ⟨.S s, fr, n, hd, L, Λ, q⟩ := by
 cases s with
 | nil => exact ⟨H.1, WpS.nxt H.2⟩
 | seq s r =>
  refine ⟨H.1, WpS.seqM fun σ X => (H.2 σ X).imp fun r => And.imp_right fun h => ?_⟩
  cases r with
  | err e L σ => exact h
  | ok f L σ => cases f <;> exact h
 | asg i e => exact ⟨H.1, WpS.inS H.2⟩
 | act o a => exact ⟨H.1, WpS.inS (Wp.bnd H.2)⟩
 | unp ts e => exact ⟨H.1, WpS.inS H.2⟩
 | unpR is e => exact ⟨H.1, WpS.inS H.2⟩
 | aug e m o x => exact ⟨H.1, WpS.inS_bnd H.2⟩
 | ret e => exact ⟨H.1, WpS.inS H.2⟩
 | ite t b o => exact ⟨H.1, WpS.inS H.2⟩
 | «while» t b => exact H
 | forL i e b => exact ⟨H.1, WpS.inS H.2⟩
 | forR i e b => exact ⟨H.1, WpS.inS H.2⟩
 | forT e => exact ⟨H.1, WpS.inS H.2⟩
 | tryX b x h => exact ⟨H.1, try_ok H.2⟩
 | fin b f => exact ⟨H.1, fin_ok H.2⟩
 | stuck => exact H
theorem stF_ok {f : Frm} {fl : Fl} (H : Ok (Inv K0 X0 φ ⟨.F fl, f :: fr, n, hd, L, Λ, q⟩) (Inv K0 X0 φ) (stF ⟨.F fl, f :: fr, n, hd, L, Λ, q⟩ f fr fl)) : Inv K0 X0 φ ⟨.F fl, f :: fr, n, hd, L, Λ, q⟩ := by
 cases f with
 | seq r => cases fl <;> exact H
 | fin2 g => cases fl <;> exact H
 | fin3 e g => cases fl <;> exact H
 | whB t b => cases fl <;> exact H
 | forB x l b i => cases fl <;> exact H
 | rngB k x b i => cases fl <;> exact H
 | _ => exact H
theorem stX_ok {f : Frm} {e : Nat} (H : Ok (Inv K0 X0 φ ⟨.X e, f :: fr, n, hd, L, Λ, q⟩) (Inv K0 X0 φ) (stX ⟨.X e, f :: fr, n, hd, L, Λ, q⟩ f fr e)) : Inv K0 X0 φ ⟨.X e, f :: fr, n, hd, L, Λ, q⟩ := by
 cases f <;> exact H
end
section
variable {K0 : MV → Fz → Lg → Prop} {X0 : Nat → Fz → Lg → Prop} {φ : Fz} {fr : List Frm} {n : Nat} {hd : Option Nat} {L : Loc} {Λ : Lg} {q : Ac}
theorem lk_ok {A : Prop} {I : Z → Prop} {z : Z} {k : Nat} {v : MV} {f : Op → List MV → Ac → Option Z} (H : Ok A I (lk1 φ z q k v f)) (g : ∀ o pre q1, (Obl q1 → Obl q ∧ ∀ σ, Hp φ z.Λ σ → Lk k σ v o pre) → Ok A I (f o pre q1) → A) : A := by
 cases v with
 | fn i => exact bif_ok H fun e H1 => g _ _ q (fun h => ⟨h, fun σ X => .call (Nat.eq_of_beq_eq_true e)⟩) H1
 | str s =>
  replace H : Ok A I (bif Nat.beq k 2 then f (.bm .join) [.str s] q else bif Nat.beq k 3 then f (.bm .find) [.str s] q else none) := H
  cases h2 : Nat.beq k 2 with
  | true => rw [h2] at H; exact g _ _ q (fun h => ⟨h, fun σ X => .join (Nat.eq_of_beq_eq_true h2)⟩) H
  | false => rw [h2] at H; exact bif_ok H fun e H1 => g _ _ q (fun h => ⟨h, fun σ X => .find (Nat.eq_of_beq_eq_true e)⟩) H1
 | ref a =>
  replace H : Ok A I (q.rd φ z.Λ a fun o q => lkR q k a o f) := H
  refine rd_ok H fun o q1 r H1 => ?_
  cases o with
  | inst c fs =>
   refine bif_ok H1 fun hk H2 => ?_
   cases hl : lookN k fs with
   | some w =>
    rw [hl] at H2
    exact b9 H2 fun i ei H3 => g _ _ q1 (fun h => ⟨(r h).1, fun σ X => .fld hk ((r h).2 σ X) (fn_e ei ▸ hl)⟩) H3
   | none =>
    rw [hl] at H2
    exact b9 H2 fun i ei H3 => g _ _ q1 (fun h => ⟨(r h).1, fun σ X => .meth hk ((r h).2 σ X) hl ei⟩) H3
  | list vs =>
   replace H1 : Ok A I (bif Nat.beq k 0 then f (.bm .lapp) [.ref a] q1 else bif Nat.beq k 1 then f (.bm .lpop) [.ref a] q1 else none) := H1
   cases h2 : Nat.beq k 0 with
   | true => rw [h2] at H1; exact g _ _ q1 (fun h => ⟨(r h).1, fun σ X => .app (Nat.eq_of_beq_eq_true h2) ((r h).2 σ X)⟩) H1
   | false => rw [h2] at H1; exact bif_ok H1 fun e H2 => g _ _ q1 (fun h => ⟨(r h).1, fun σ X => .pop (Nat.eq_of_beq_eq_true e) ((r h).2 σ X)⟩) H2
  | dict kvs =>
   replace H1 : Ok A I (bif Nat.beq k 4 then f (.bm .dget) [.ref a] q1 else bif Nat.beq k 1 then f (.bm .dpop) [.ref a] q1 else none) := H1
   cases h2 : Nat.beq k 4 with
   | true => rw [h2] at H1; exact g _ _ q1 (fun h => ⟨(r h).1, fun σ X => .get (Nat.eq_of_beq_eq_true h2) ((r h).2 σ X)⟩) H1
   | false => rw [h2] at H1; exact bif_ok H1 fun e H2 => g _ _ q1 (fun h => ⟨(r h).1, fun σ X => .dpop (Nat.eq_of_beq_eq_true e) ((r h).2 σ X)⟩) H2
  | _ => exact H1
 | _ => exact H
theorem bind_I {A : Prop} {I : Z → Prop} {o : Option Z} {g : Z → Option Z} (H : Ok A I (o.bind g)) : Ok A (fun z => Ok A I (g z)) o := by
 cases o <;> exact H
theorem stV_ok {f : Frm} {us : List MV} (H : Ok (Inv K0 X0 φ ⟨.V us, f :: fr, n, hd, L, Λ, q⟩) (Inv K0 X0 φ) (stV φ ⟨.V us, f :: fr, n, hd, L, Λ, q⟩ q f fr us)) : Inv K0 X0 φ ⟨.V us, f :: fr, n, hd, L, Λ, q⟩ := by
 cases f with
 | consL b => exact ⟨H.1, Wp.bnd H.2⟩
 | consR ws => exact ⟨H.1, Wp.ret H.2⟩
 | op o => exact H
 | meth k a => exact u1_ok H fun v e H1 => lk_ok H1 fun o pre q1 r H2 => ⟨(r H2.1).1, by
  subst e
  exact fun σ X => (Wp.bnd H2.2 σ X).imp fun _ => And.imp_left fun h => ⟨o, pre, (r H2.1).2 σ X, h⟩⟩
 | mcl o pre => exact H
 | dict ks d =>
  replace H : Ok (Inv K0 X0 φ ⟨.V us, .dict ks d :: fr, n, hd, L, Λ, q⟩) (Inv K0 X0 φ) (stDict ⟨.V us, .dict ks d :: fr, n, hd, L, Λ, q⟩ q fr us ks d) := H
  unfold stDict at H
  refine wr_ok H fun o j h' q1 r H1 => b9 H1 fun kvs ek H2 => bif_ok H2 fun he H3 => ?_
  have h3 := cl_o H3.1
  have h2 := cl_o h3.1
  have h1 := cl_o h2.1
  obtain ⟨h0, rfl, e⟩ := r h1.1
  obtain rfl := dict_e ek
  obtain rfl := List.isEmpty_iff.mp he
  exact ⟨h0, Wp.upd e (fun σ s => ⟨s, Nat.eq_of_beq_eq_true h1.2, Nat.le_of_ble_eq_true h2.2, dec h3.2, rfl⟩) H3.2⟩
 | bools c r =>
  refine u1_ok H fun v e H1 => tru_ok H1 fun t q1 rr H2 => ?_
  subst e
  cases ht : t == c with
  | true =>
   rw [ht] at H2
   exact ⟨(rr H2.1).1, fun σ X => (H2.2 σ X).imp fun _ => And.imp_left fun h => ⟨t, (rr H2.1).2 σ X, by rw [ht]; exact h⟩⟩
  | false =>
   rw [ht] at H2
   exact ⟨(rr H2.1).1, Wp.pure (fun σ X => ⟨t, (rr H2.1).2 σ X, by rw [ht]; rfl⟩) H2.2⟩
 | ite a b =>
  refine u1_ok H fun v e H1 => b9 H1 fun c ec H2 => tst_ok H2 fun t q1 r H3 => ?_
  subst e
  obtain rfl := bool_e ec
  cases t with
  | true => exact ⟨(r H3.1).1, fun σ X => (H3.2 σ X).imp fun _ => And.imp_left fun h => ⟨c, rfl, (r H3.1).2 ▸ h⟩⟩
  | false => exact ⟨(r H3.1).1, fun σ X => (H3.2 σ X).imp fun _ => And.imp_left fun h => ⟨c, rfl, (r H3.1).2 ▸ h⟩⟩
 | tnot =>
  refine u1_ok H fun v e H1 => b9 H1 fun b eb H2 => ⟨H2.1, ?_⟩
  subst e
  obtain rfl := bool_e eb
  exact Wp.pure (fun σ X => ⟨b, rfl, rfl⟩) H2.2
 | tcons c r =>
  refine u1_ok H fun v e H1 => b9 H1 fun b eb H2 => tst_ok H2 fun t q1 rr H3 => ?_
  subst e
  obtain rfl := bool_e eb
  cases ht : t == c with
  | true =>
   rw [ht] at H3
   refine ⟨(rr H3.1).1, fun σ X => (H3.2 σ X).imp fun _ => And.imp_left fun h => ⟨b, rfl, ?_⟩⟩
   rw [(rr H3.1).2, ht]; exact h
  | false =>
   rw [ht] at H3
   refine ⟨(rr H3.1).1, Wp.pure (fun σ X => ⟨b, rfl, ?_⟩) H3.2⟩
   rw [(rr H3.1).2, ht]; rfl
 | val => exact u1_ok H fun v e H1 => tru_ok H1 fun t q1 r H2 => ⟨(r H2.1).1, by subst e; exact Wp.pure (fun σ X => ⟨t, (r H2.1).2 σ X, rfl⟩) H2.2⟩
 | new h => exact u1_ok H fun v e H1 => bif_ok H1 fun hn H2 => ⟨H2.1, by subst e; obtain rfl := none_e hn; exact Wp.pure (fun σ X => ⟨rfl, rfl⟩) H2.2⟩
 | asg i => exact u1_ok H fun v e H1 => ⟨H1.1, fun σ X => ⟨_, ⟨v, e, rfl⟩, φ, Λ, X, .refl φ, H1.2⟩⟩
 | act => exact ⟨H.1, WpS.nxt H.2⟩
 | unp ts =>
  refine u1_ok H fun v e H1 => b9 H1 fun vs ev H2 => ?_
  subst e
  obtain rfl := tup_e' ev
  have h := cl_o H2.1
  exact ⟨h.1, WpS.map H2.2 fun σ r _ hh => ⟨vs, rfl, Nat.eq_of_beq_eq_true h.2, hh⟩⟩
 | sT m v ts ws =>
  refine u1_ok H fun o e H1 => ?_
  subst e
  exact setA_ok (z := ⟨.V [o], .sT m v ts ws :: fr, n, hd, L, Λ, q⟩) (G := fun _ φ Λ => wS (storeT (callN n) hd ts ws L) (GA K0 X0 fr) n hd φ Λ) (X := fun e φ Λ => GA K0 X0 fr (.X e) n hd L φ Λ) (fun _ _ _ h => h) (bind_I H1) fun ob w => ⟨ob, WpS.inS w⟩
 | unpR is =>
  refine u1_ok H fun v e H1 => b9 H1 fun vs ev H2 => ?_
  subst e
  obtain rfl := tup_e' ev
  have h := cl_o H2.1
  exact ⟨h.1, fun σ X => ⟨_, ⟨vs, rfl, Nat.eq_of_beq_eq_true h.2, rfl⟩, φ, Λ, X, .refl φ, H2.2⟩⟩
 | aug1 m o x => exact u1_ok H fun a e H1 => ⟨H1.1, by subst e; exact WpS.inS_bnd H1.2⟩
 | aug2 a m o x => exact u1_ok H fun v e H1 => ⟨H1.1, by subst e; exact WpS.inS_bnd H1.2⟩
 | aug3 a v m o =>
  refine u1_ok H fun w e H1 => b9 H1 fun x ex H2 => b9 H2 fun y ey H3 => ?_
  subst e
  obtain rfl := int_e ex
  obtain rfl := int_e ey
  cases o with
  | add => exact ⟨H3.1, WpS.inS (Wp.bnd (Wp.pure (fun σ X => ⟨x, y, rfl, rfl, .inl ⟨rfl, rfl⟩⟩) H3.2))⟩
  | sub => exact ⟨H3.1, WpS.inS (Wp.bnd (Wp.pure (fun σ X => ⟨x, y, rfl, rfl, .inr ⟨rfl, rfl⟩⟩) H3.2))⟩
  | _ => exact H3
 | ret => exact u1_ok H fun v e H1 => ⟨H1.1, fun σ X => ⟨_, ⟨v, e, rfl⟩, φ, Λ, X, .refl φ, H1.2⟩⟩
 | iteS a b =>
  refine u1_ok H fun v e H1 => b9 H1 fun c ec H2 => tst_ok H2 fun t q1 r H3 => ?_
  subst e
  obtain rfl := bool_e ec
  cases t with
  | true => exact ⟨(r H3.1).1, WpS.map H3.2 fun σ _ _ h => ⟨c, rfl, (r H3.1).2 ▸ h⟩⟩
  | false => exact ⟨(r H3.1).1, WpS.map H3.2 fun σ _ _ h => ⟨c, rfl, (r H3.1).2 ▸ h⟩⟩
 | whT t b =>
  refine u1_ok H fun v e H1 => b9 H1 fun c ec H2 => tst_ok H2 fun w q1 r H3 => ?_
  subst e
  obtain rfl := bool_e ec
  cases w with
  | true =>
   refine ⟨(r H3.1).1, WpS.map (m := seqM (ex (callN n) b hd L) (whR n hd t b)) (WpS.seqM fun σ X => (H3.2 σ X).imp fun R => And.imp_right fun h => ?_) fun σ R _ h => ?_⟩
   · cases R with
     | err e L σ => exact h
     | ok f L σ => cases f <;> exact h
   · obtain ⟨Q, h1, h2⟩ := h
     obtain rfl := (r H3.1).2
     cases Q with
     | err e L σ => exact ⟨0, true, rfl, _, h1, h2⟩
     | ok f L σ =>
      cases f with
      | ret v => exact ⟨0, true, rfl, _, h1, h2⟩
      | nxt => exact h2.elim fun W h2 => ⟨W, true, rfl, _, h1, h2⟩
  | false =>
   obtain rfl := (r H3.1).2
   exact ⟨(r H3.1).1, fun σ X => ⟨_, ⟨0, false, rfl, rfl⟩, φ, Λ, X, .refl φ, H3.2⟩⟩
 | forL x b =>
  refine u1_ok H fun v e H1 => b9 H1 fun l el H2 => ⟨H2.1, ?_⟩
  subst e
  obtain rfl := ref_e el
  exact WpS.map H2.2 fun σ r _ h => h.elim fun W h => ⟨l, W, rfl, h⟩
 | forR x b =>
  refine u1_ok H fun v e H1 => b9 H1 fun m em H2 => ok_ok H2 fun q1 r H3 => ?_
  subst e
  obtain rfl := int_e em
  have h2 := r H3.1
  have h1 := cl_o h2.1
  have c := and_b h2.2
  exact ⟨h1.1, WpS.map H3.2 fun σ r _ h => ⟨m, rfl, Option.isNone_iff_eq_none.mp h1.2, dec c.1, dec c.2, h⟩⟩
 | forT =>
  refine u1_ok H fun v e H1 => b9 H1 fun l el H2 => rd_ok H2 fun o q1 r H3 => b9 H3 fun vs ev H4 => bif_ok H4 fun he H5 => ⟨(r H5.1).1, ?_⟩
  subst e
  obtain rfl := ref_e el
  obtain rfl := list_e ev
  obtain rfl := List.isEmpty_iff.mp he
  exact fun σ X => ⟨_, ⟨l, rfl, (r H5.1).2 σ X, rfl⟩, φ, Λ, X, .refl φ, H5.2⟩
 | _ => exact H
end
section
variable {K0 : MV → Fz → Lg → Prop} {X0 : Nat → Fz → Lg → Prop} {φ : Fz} {fr : List Frm} {n : Nat} {hd : Option Nat} {L : Loc} {Λ : Lg} {q : Ac}
theorem stT_ok {ts : List Tgt} {vs : List MV} (H : Ok (Inv K0 X0 φ ⟨.T ts vs, fr, n, hd, L, Λ, q⟩) (Inv K0 X0 φ) (stT ⟨.T ts vs, fr, n, hd, L, Λ, q⟩ ts vs)) : Inv K0 X0 φ ⟨.T ts vs, fr, n, hd, L, Λ, q⟩ := by
 cases ts with
 | nil => exact bif_ok H fun he H1 => ⟨H1.1, fun σ X => ⟨_, ⟨List.isEmpty_iff.mp he, rfl⟩, φ, Λ, X, .refl φ, H1.2⟩⟩
 | cons t ts =>
  cases vs with
  | nil => exact H
  | cons v ws =>
   cases t with
   | loc i => exact ⟨H.1, WpS.map H.2 fun σ R _ h => ⟨v, ws, rfl, h⟩⟩
   | attr e k => exact ⟨H.1, WpS.map (WpS.inS_bnd H.2) fun σ R _ h => ⟨v, ws, rfl, h⟩⟩
theorem stC_ok {f : Nat} {args : List MV} (H : Ok (Inv K0 X0 φ ⟨.C f args, fr, n, hd, L, Λ, q⟩) (Inv K0 X0 φ) (stC ⟨.C f args, fr, n, hd, L, Λ, q⟩ f args)) : Inv K0 X0 φ ⟨.C f args, fr, n, hd, L, Λ, q⟩ := by
 refine bif_ok H fun _ H1 => ?_
 cases n with
 | zero => exact H1
 | succ n =>
  refine b9 H1 fun r hf H2 => ?_
  have h2 := cl_o H2.1
  have h1 := cl_o h2.1
  refine ⟨h1.1, fun σ X => ?_⟩
  obtain ⟨R, g1, g2⟩ := H2.2 σ X
  cases R with
  | ok fl L' σ' => cases fl <;> exact ⟨_, ⟨_, ⟨r, _, hf, Nat.le_of_ble_eq_true h1.2, Nat.le_of_ble_eq_true h2.2, g1, rfl⟩, rfl⟩, g2⟩
  | err e L' σ' => exact ⟨.err e σ', ⟨.err e σ', ⟨r, _, hf, Nat.le_of_ble_eq_true h1.2, Nat.le_of_ble_eq_true h2.2, g1, rfl⟩, rfl⟩, g2⟩
theorem seqK_ok {s : PS} {L' : Loc} {k : Loc → SM} {f : Frm} {g : Kt} (hf : ∀ fl L φ Λ, sem g f (.F fl) n hd L φ Λ = nxtK g n hd L φ Λ fl (wS (k L) g n hd φ Λ)) (hx : ∀ e L φ Λ, sem g f (.X e) n hd L φ Λ = g (.X e) n hd L φ Λ) (H : wS (ex (callN n) s hd L') (sem g f) n hd φ Λ) : wS (seqM (ex (callN n) s hd L') k) g n hd φ Λ :=
 WpS.seqM fun σ X => (H σ X).imp fun R => And.imp_right fun h => by
  cases R with
  | err e L σ => obtain ⟨φ', Λ', a, b, c⟩ := h; exact ⟨φ', Λ', a, b, (hx e L φ' Λ').mp c⟩
  | ok f L σ =>
   obtain ⟨φ', Λ', a, b, c⟩ := h
   replace c := (hf f L φ' Λ').mp c
   cases f <;> exact ⟨φ', Λ', a, b, c⟩
theorem stW_ok {t : PE} {b : PS} (H : wE (ev (callN n) hd L t) (GA K0 X0 (.whT t b :: fr)) n hd L φ Λ) : wS (whR n hd t b L) (GA K0 X0 fr) n hd φ Λ :=
 WpS.map (WpS.inS H) fun σ R _ h => by
  obtain ⟨r, h1, h2⟩ := h
  cases r with
  | ok us σ' =>
   obtain ⟨W, h2⟩ := h2
   exact ⟨W + 1, _, h1, h2⟩
  | err e σ' => exact ⟨1, _, h1, h2⟩
theorem stL_ok {x l i : Nat} {b : PS} (H : Ok (Inv K0 X0 φ ⟨.L x l b i, fr, n, hd, L, Λ, q⟩) (Inv K0 X0 φ) (stp1 φ 0 ⟨.L x l b i, fr, n, hd, L, Λ, q⟩)) : Inv K0 X0 φ ⟨.L x l b i, fr, n, hd, L, Λ, q⟩ := by
 replace H : Ok (Inv K0 X0 φ ⟨.L x l b i, fr, n, hd, L, Λ, q⟩) (Inv K0 X0 φ) (bif Nat.beq q.dg 6 then q.pop.rd φ Λ l fun o q => o.list?.bind fun vs => q.vl vs[i]? fun v q => some ⟨.S b, .forB x l b i :: fr, n, hd, L.set x (some v), Λ, q⟩ else
  bif Nat.beq q.dg 7 then q.pop.rd φ Λ l fun o q => o.list?.bind fun vs => q.ok vs[i]?.isNone fun q => some ⟨.F .nxt, fr, n, hd, L, Λ, q⟩ else none) := H
 cases h6 : Nat.beq q.dg 6 with
 | true =>
  rw [h6, cond_true] at H
  refine rd_ok H fun o q1 r H1 => b9 H1 fun vs ev H2 => vl_ok H2 fun v q2 r2 H3 => ?_
  have h2 := r2 H3.1
  have h1 := r h2.1
  obtain rfl := list_e ev
  refine ⟨h1.1, WpS.map (seqK_ok (k := foR n hd x l b (i + 1)) (fun fl L φ Λ => rfl) (fun _ _ _ _ => rfl) H3.2) fun σ R X h => ?_⟩
  obtain ⟨Q, g1, g2⟩ := h
  cases Q with
  | err e L σ => exact ⟨1, vs, h1.2 _ X, .inl ⟨v, h2.2, _, g1, g2⟩⟩
  | ok f L σ =>
   cases f with
   | ret w => exact ⟨1, vs, h1.2 _ X, .inl ⟨v, h2.2, _, g1, g2⟩⟩
   | nxt => exact g2.elim fun W g2 => ⟨W + 1, vs, h1.2 _ X, .inl ⟨v, h2.2, _, g1, g2⟩⟩
 | false =>
  rw [h6, cond_false] at H
  refine bif_ok H fun _ H0 => rd_ok H0 fun o q1 r H1 => b9 H1 fun vs ev H2 => ok_ok H2 fun q2 r2 H3 => ?_
  have h2 := r2 H3.1
  have h1 := r h2.1
  obtain rfl := list_e ev
  exact ⟨h1.1, fun σ X => ⟨_, ⟨1, vs, h1.2 σ X, .inr ⟨Option.isNone_iff_eq_none.mp h2.2, rfl⟩⟩, φ, Λ, X, .refl φ, H3.2⟩⟩
theorem stR_ok {k x i : Nat} {b : PS} (H : Ok (Inv K0 X0 φ ⟨.R k x b i, fr, n, hd, L, Λ, q⟩) (Inv K0 X0 φ) (stp1 φ 0 ⟨.R k x b i, fr, n, hd, L, Λ, q⟩)) : Inv K0 X0 φ ⟨.R k x b i, fr, n, hd, L, Λ, q⟩ := by
 refine bif_ok H fun _ H1 => ?_
 cases k with
 | zero => exact ⟨H1.1, WpS.nxt H1.2⟩
 | succ k => exact ⟨H1.1, seqK_ok (k := rgR n hd k x b (i + 1)) (fun fl L φ Λ => rfl) (fun _ _ _ _ => rfl) H1.2⟩
theorem step_ok {z : Z} (H : ∀ h, Ok (Inv K0 X0 φ z) (Inv K0 X0 φ) (stp1 φ h z)) : Inv K0 X0 φ z := by
 obtain ⟨c, fr, n, hd, L, Λ, q⟩ := z
 cases c with
 | E p => exact stE_ok H
 | S s => exact stS_ok (H 0)
 | P o vs => exact prim_ok H
 | C f args => exact stC_ok (H 0)
 | V us =>
  cases fr with
  | nil => exact H 0
  | cons f fr => exact stV_ok (H 0)
 | F fl =>
  cases fr with
  | nil => exact H 0
  | cons f fr => exact stF_ok (H 0)
 | X e =>
  cases fr with
  | nil => exact H 0
  | cons f fr => exact stX_ok (H 0)
 | W t b => exact bif_ok (H 0) fun _ H1 => ⟨H1.1, stW_ok H1.2⟩
 | L x l b i => exact stL_ok (H 0)
 | R k x b i => exact stR_ok (H 0)
 | T ts vs => exact stT_ok (H 0)
end
theorem run_ok {K0 : MV → Fz → Lg → Prop} {X0 : Nat → Fz → Lg → Prop} {φ : Fz} : ∀ (k : Nat) (z : Z), (∀ ν, Inv K0 X0 φ (run φ k ν z)) → Inv K0 X0 φ z := fun k => by
 induction k with
 | zero => exact fun z H => H id
 | succ k ih =>
  intro z H
  refine step_ok fun h => ?_
  have H1 : ∀ ν : Nat → Nat, Inv K0 X0 φ (match stp1 φ h z with
   | some z' => run φ k ν z'
   | none => z) := fun ν => H fun i => match i with
   | 0 => h
   | i + 1 => ν i
  revert H1
  cases stp1 φ h z with
  | none => exact fun H1 => H1 id
  | some z' => exact fun H1 => ih z' H1
theorem turn {a b : Prop} (h : a = b) (x : b) : a := h ▸ x
section
variable {K0 : MV → Fz → Lg → Prop} {X0 : Nat → Fz → Lg → Prop} {φ : Fz}
noncomputable def digs : Nat → Nat → List Nat
 | 0, _ => []
 | k + 1, n => bif Nat.beq n 1 then [] else n % 64 :: digs k (n / 64)
noncomputable abbrev Z.with (z : Z) (hn : Nat) (os : List MO) (vs : List MV) : Z := { z with q := ⟨digs 1000 hn, os, vs, [], [], [], [], True⟩ }
theorem seg {z : Z} (hn : Nat) (os : List MO) (vs : List MV) (H : ∀ ν, Inv K0 X0 φ (run φ 20000 ν (z.with hn os vs))) : Good K0 X0 φ z := (run_ok 20000 _ H).2
noncomputable def start (f : Nat) (args : List MV) (n : Nat) (hd : Option Nat) (Λ : Lg) : Option Z := (fns f).bind fun r => bif Nat.ble args.length r.params && Nat.ble r.params (args.length + r.dflts.length) then some ⟨.S r.body, [], n, hd, loc0 r args, Λ, ⟨[], [], [], [], [], [], [], True⟩⟩ else none
theorem enter {f : Nat} {args : List MV} {n : Nat} {hd : Option Nat} {Λ : Lg} {z : Z} (hs : start f args n hd Λ = some z) (H : Good K0 X0 φ z) : Wp φ Λ (callN (n + 1) f args hd) K0 X0 := fun σ X => by
 obtain ⟨r, hf, h⟩ := Option.bind_eq_some_iff.mp hs
 cases hb : Nat.ble args.length r.params && Nat.ble r.params (args.length + r.dflts.length) with
 | false => rw [hb] at h; exact (no_some h).elim
 | true =>
  rw [hb] at h
  obtain rfl := Option.some.inj h
  obtain ⟨h1, h2⟩ := and_b hb
  obtain ⟨R, g1, g2⟩ := H σ X
  refine ⟨R.out, ⟨r, R, hf, Nat.le_of_ble_eq_true h1, Nat.le_of_ble_eq_true h2, g1, rfl⟩, ?_⟩
  cases R with
  | ok fl L' σ' => cases fl <;> exact g2
  | err e L' σ' => exact g2
noncomputable abbrev Z.bk (z : Z) (c : Ct) (Λ : Lg) : Z := { z with c := c, Λ := Λ }
theorem at_call {z : Z} {n : Nat} {hd : Option Nat} (f : Nat) (args : List MV) (Λ : Lg) (hc : (z.c, z.n, z.hd, z.Λ) = (.C f args, n, hd, Λ)) (H : ∀ K X, (∀ v φ' Λ', φ.le φ' → Good K0 X0 φ' (z.bk (.V [v]) Λ') → K v φ' Λ') → (∀ e φ' Λ', φ.le φ' → Good K0 X0 φ' (z.bk (.X e) Λ') → X e φ' Λ') → Wp φ Λ (callN n f args hd) K X) : Good K0 X0 φ z := by
 obtain ⟨c, fr, m, g, L, Λ', q⟩ := z
 obtain ⟨h1, h2⟩ := Prod.mk.inj hc
 obtain ⟨h2, h3⟩ := Prod.mk.inj h2
 obtain ⟨h3, h4⟩ := Prod.mk.inj h3
 obtain rfl : c = .C f args := h1
 obtain rfl : m = n := h2
 obtain rfl : g = hd := h3
 obtain rfl : Λ' = Λ := h4
 exact Wp.bnd ((H (fun v φ' Λ' => GA K0 X0 fr (.V [v]) m g L φ' Λ') (fun e φ' Λ' => GA K0 X0 fr (.X e) m g L φ' Λ') (fun _ _ _ _ h => h) (fun _ _ _ _ h => h)).mono (fun v φ' Λ' _ h => Wp.ret h) fun _ _ _ _ h => h)
noncomputable def runF (φ : Fz) (f : Nat) (args : List MV) (n : Nat) (hd : Option Nat) (Λ : Lg) (hn : Nat) (os : List MO) (vs : List MV) (ν : Nat → Nat) : Z := run φ 20000 ν (((start f args n hd Λ).getD ⟨.X 0, [], 0, none, [], [], ⟨[], [], [], [], [], [], [], True⟩⟩).with hn os vs)
noncomputable def drops : List Bool → Lg → Lg
 | [], Λ => Λ
 | b :: r, Λ => match Λ with
  | [] => []
  | p :: Λ => bif b then p :: drops r Λ else drops r Λ
theorem drops_sub : ∀ (bs : List Bool) (Λ : Lg), List.Sublist (drops bs Λ) Λ := fun bs => by
 induction bs with
 | nil => exact List.Sublist.refl
 | cons b r ih =>
  intro Λ
  cases Λ with
  | nil => exact .slnil
  | cons p Λ =>
   cases b with
   | true => exact (ih Λ).cons_cons p
   | false => exact (ih Λ).cons p
theorem Hp.drops {φ : Fz} {Λ : Lg} {σ : St} (bs : List Bool) (H : Hp φ Λ σ) : Hp φ (drops bs Λ) σ := H.sub (fun _ h => (drops_sub bs Λ).subset h) (((drops_sub bs Λ).map _).nodup H.nod)
theorem Wp.drops {Λ : Lg} {m : MM MV} (bs cs : List Bool) (w : Wp φ Λ m (fun v φ Λ => K0 v φ (drops bs Λ)) (fun e φ Λ => X0 e φ (drops cs Λ))) : Wp φ Λ m K0 X0 := fun σ H => (w σ H).imp fun r => And.imp_right fun o => by
 cases r with
 | ok v σ' => obtain ⟨φ', Λ', a, b, c⟩ := o; exact ⟨φ', _, a.drops bs, b, c⟩
 | err e σ' => obtain ⟨φ', Λ', a, b, c⟩ := o; exact ⟨φ', _, a.drops cs, b, c⟩
theorem fresh_ok {h0 : Nat} (h : h0 ≤ φ.b) (i : Nat) : Nat.ble h0 (φ.fr i) = true := Nat.ble_eq_true_of_le (Nat.le_trans h (Nat.le_add_right _ _))
theorem ble_self (h : Nat) : Nat.ble h h = true := Nat.ble_eq_true_of_le (Nat.le_refl h)
noncomputable abbrev EndE (K0 : MV → Fz → Lg → Prop) (X0 : Nat → Fz → Lg → Prop) (φ : Fz) (z : Z) (P Q : Prop) : Prop := (z.q.ka, z.q.ba, z.q.ob, Good K0 X0 φ z) = (z.q.kb, z.q.bb, P, Q)
noncomputable abbrev EndC (z : Z) (P : Prop) (f : Nat) (args : List MV) (n : Nat) (hd : Option Nat) (Λ : Lg) : Prop := (z.q.ka, z.q.ba, z.q.ob, z.c, z.n, z.hd, z.Λ) = (z.q.kb, z.q.bb, P, .C f args, n, hd, Λ)
theorem EndE.inv {z : Z} {P Q : Prop} (h : EndE K0 X0 φ z P Q) (p : P) (q : Q) : Inv K0 X0 φ z := by
 obtain ⟨h1, h2⟩ := Prod.mk.inj h
 obtain ⟨h2, h3⟩ := Prod.mk.inj h2
 obtain ⟨h3, h4⟩ := Prod.mk.inj h3
 exact ⟨⟨h1, h2, h3 ▸ p⟩, h4 ▸ q⟩
structure Gd (K0 : MV → Fz → Lg → Prop) (X0 : Nat → Fz → Lg → Prop) (φ : Fz) (z : Z) : Prop where
 g : Good K0 X0 φ z
noncomputable abbrev Contr (K0 : MV → Fz → Lg → Prop) (X0 : Nat → Fz → Lg → Prop) (φ : Fz) (z : Z) (f : Nat) (args : List MV) (n : Nat) (hd : Option Nat) (Λ : Lg) : Prop :=
 ∀ K X, (∀ v φ' Λ', φ.le φ' → Gd K0 X0 φ' (z.bk (.V [v]) Λ') → K v φ' Λ') → (∀ e φ' Λ', φ.le φ' → Gd K0 X0 φ' (z.bk (.X e) Λ') → X e φ' Λ') → Wp φ Λ (callN n f args hd) K X
theorem EndC.inv {z : Z} {P : Prop} {f : Nat} {args : List MV} {n : Nat} {hd : Option Nat} {Λ : Lg} (h : EndC z P f args n hd Λ) (p : P) (H : Contr K0 X0 φ z f args n hd Λ) : Inv K0 X0 φ z := by
 obtain ⟨h1, h2⟩ := Prod.mk.inj h
 obtain ⟨h2, h3⟩ := Prod.mk.inj h2
 obtain ⟨h3, h4⟩ := Prod.mk.inj h3
 exact ⟨⟨h1, h2, h3 ▸ p⟩, at_call f args Λ h4 fun K X kv kx => H K X (fun v φ' Λ' l g => kv v φ' Λ' l g.g) fun e φ' Λ' l g => kx e φ' Λ' l g.g⟩
section
variable {f : Nat} {args : List MV} {n : Nat} {hd : Option Nat} {Λ : Lg} {P : (Nat → Nat) → Prop}
theorem walk (hn : Nat) (os : List MO) (vs : List MV) (hs : (start f args n hd Λ).isSome = true) (H : ∀ ν, Inv K0 X0 φ (runF φ f args n hd Λ hn os vs ν)) : Wp φ Λ (callN (n + 1) f args hd) K0 X0 := by
 obtain ⟨z, hz⟩ := Option.isSome_iff_exists.mp hs
 refine enter hz (seg hn os vs fun ν => ?_)
 have := H ν
 unfold runF at this
 rw [hz] at this
 exact this
theorem W9 {Q : (Nat → Nat) → Prop} (hn : Nat) (os : List MO) (vs : List MV) (p : ∀ ν, P ν) (hs : (start f args n hd Λ).isSome = true) (q : ∀ ν, Q ν) (h : ∀ ν, EndE K0 X0 φ (runF φ f args n hd Λ hn os vs ν) (P ν) (Q ν)) : Wp φ Λ (callN (n + 1) f args hd) K0 X0 :=
 walk hn os vs hs fun ν => (h ν).inv (p ν) (q ν)
theorem walkC (f' n' : Nat) (hd' : Option Nat) (args' : (Nat → Nat) → List MV) (Λ' : (Nat → Nat) → Lg) (hn : Nat) (os : List MO) (vs : List MV) (p : ∀ ν, P ν) (hs : (start f args n hd Λ).isSome = true) (h : ∀ ν, EndC (runF φ f args n hd Λ hn os vs ν) (P ν) f' (args' ν) n' hd' (Λ' ν)) (H : ∀ ν, Contr K0 X0 φ (runF φ f args n hd Λ hn os vs ν) f' (args' ν) n' hd' (Λ' ν)) : Wp φ Λ (callN (n + 1) f args hd) K0 X0 :=
 walk hn os vs hs fun ν => (h ν).inv (p ν) (H ν)
noncomputable abbrev onZ (φ : Fz) (z : Z) (hn : Nat) (os : List MO) (vs : List MV) (ν : Nat → Nat) : Z := run φ 20000 ν (z.with hn os vs)
theorem o9 {z : Z} {Q : (Nat → Nat) → Prop} (hn : Nat) (os : List MO) (vs : List MV) (p : ∀ ν, P ν) (q : ∀ ν, Q ν) (h : ∀ ν, EndE K0 X0 φ (onZ φ z hn os vs ν) (P ν) (Q ν)) : Gd K0 X0 φ z :=
 ⟨seg hn os vs fun ν => (h ν).inv (p ν) (q ν)⟩
theorem onC {z : Z} (f' n' : Nat) (hd' : Option Nat) (args' : (Nat → Nat) → List MV) (Λ' : (Nat → Nat) → Lg) (hn : Nat) (os : List MO) (vs : List MV) (p : ∀ ν, P ν) (h : ∀ ν, EndC (onZ φ z hn os vs ν) (P ν) f' (args' ν) n' hd' (Λ' ν)) (H : ∀ ν, Contr K0 X0 φ (onZ φ z hn os vs ν) f' (args' ν) n' hd' (Λ' ν)) : Gd K0 X0 φ z :=
 ⟨seg hn os vs fun ν => (h ν).inv (p ν) (H ν)⟩
end
end
structure Kw where
 ho : Nat
 cm : Nat
 fi : Nat
 il : Nat
 tl : Nat
 va : Nat
 bk : Nat
 de : Nat
 an : Nat
 lg : Nat
 ct : Nat
 dl : List MV
 al : List MV
 bd : List (MV × MV)
structure HS where
 dp : Int
 sp : Int
 ep : Int
 fr : Str
 co : MV
 put : Bool
 log : List MV
 c0 : Int
 c1 : Int
noncomputable abbrev hostO (k : Kw) (h : HS) : MO := .inst 12 [(66, .ref k.tl), (67, .ref k.il), (40, .int 40), (68, .none), (52, .int h.dp), (69, .int h.sp), (39, .int h.ep), (54, .str h.fr), (46, h.co), (75, .ref k.va), (76, .ref k.cm), (77, .ref k.fi)]
noncomputable abbrev dataV (k : Kw) : MV := .tup [.ref k.de, .ref k.an, .ref k.lg, .ref k.ct]
noncomputable def cmdsD (k : Kw) (put : Bool) : List (MV × MV) := (.str "r", .tup [.fn 86, dataV k]) :: (.str "o", .tup [.fn 85, .none]) :: (if put then [(.str "i", .tup [.fn 85, .none])] else [])
noncomputable abbrev HL (k : Kw) (h : HS) (R : Lg) : Lg := (k.ho, hostO k h) :: (k.cm, .dict (cmdsD k h.put)) :: (k.fi, .dict []) :: (k.lg, .list h.log) :: (k.ct, .list [.int h.c0, .int h.c1]) :: R
structure Wd (φ : Fz) (k : Kw) : Prop where
 tl : φ.f k.tl = some (.dict [(.str "book", .ref k.bk), (.str "run", .fn 84)])
 il : φ.f k.il = some (.dict [(.str "i", .bool true)])
 de : φ.f k.de = some (.list k.dl)
 an : φ.f k.an = some (.list k.al)
 bk : φ.f k.bk = some (.dict k.bd)
theorem Wd.le {φ φ' : Fz} {k : Kw} (w : Wd φ k) (h : φ.le φ') : Wd φ' k := ⟨h.1 _ _ w.tl, h.1 _ _ w.il, h.1 _ _ w.de, h.1 _ _ w.an, h.1 _ _ w.bk⟩
structure AX where
 code : Int
 value : Str
 ec : MV
 level : Int
 ret : Int
 info : Str
 noted : Bool
noncomputable abbrev excO (x : AX) (t : Nat) : MO := .exc [(7, .int x.code), (8, .str x.value), (9, x.ec), (10, .int x.level), (11, .int x.ret), (12, .str x.info), (13, .bool x.noted), (14, .int 0), (15, .ref t)]
theorem cm_all (k : Kw) (b : Bool) : ((cmdsD k b).all fun p => isStrK p.1) = true := by cases b <;> rfl
theorem cm_del (k : Kw) (b : Bool) : MO.dict (delK (.str "i") (cmdsD k b)) = .dict (cmdsD k false) := by cases b <;> rfl
theorem lim1 {l : List MV} (h : l.length < 500000) : decide (l.length < LIM) = true := decide_eq_true (Nat.lt_trans h (by decide))
theorem lim2 {l : List MV} (v : MV) (h : l.length < 500000) : decide ((l ++ [v]).length < LIM) = true := by
 rw [List.length_append]
 exact decide_eq_true (Nat.lt_of_le_of_lt (Nat.succ_le_of_lt h) (by decide))
theorem q9 {α : Type} [BEq α] [LawfulBEq α] {a b : α} (h : a = b) : (a == b) = true := h ▸ beq_self_eq_true a
theorem n9 {α : Type} [BEq α] [LawfulBEq α] {a b : α} (h : ¬ a = b) : (a == b) = false := beq_eq_false_iff_ne.mpr h
section
variable {n : Nat} {φ : Fz} {k : Kw} {h : HS} {R : Lg} {wl : Nat} {jw lw v : Str} {more : Int} {K : MV → Fz → Lg → Prop} {X : Nat → Fz → Lg → Prop} (w : Wd φ k)
 (hw : φ.f wl = some (.list [.str "r", .str jw, .str lw])) (hl : h.log.length < 500000)
include w hw hl
noncomputable abbrev HS.called (h : HS) (jw lw : Str) : HS := { h with log := h.log ++ [.tup [.str "call", .str jw, .str lw, .str h.fr]] }
theorem deed_text (hd : idx k.dl (findStr "01234567" jw) = some (.tup [.str "text", .str v, .int more]))
 (kk : K (.str v) φ (HL k (h.called jw lw) R)) : Wp φ (HL k h R) (callN (n + 6) 86 [.ref k.ho, .ref wl, dataV k] none) K X := by
 have hl1 := lim1 hl
 exact W9 24325324595941775034706001333114732126393544836382987 [MO.list [MV.str "r", MV.str jw, MV.str lw], MO.list [MV.str "r", MV.str jw, MV.str lw], MO.list [MV.str "r", MV.str jw, MV.str lw], MO.list k.dl] [MV.tup [MV.str "text", MV.str v, MV.int more]] (fun ν => (ai hd (ai w.de (ai hw (ai hl1 (ai hw (ai hw trivial))))))) rfl (fun ν => kk) fun ν => by kernel_rfl
theorem deed_put (hd : idx k.dl (findStr "01234567" jw) = some (.tup [.str "put", .str v, .int more]))
 (kk : K (.str v) φ (HL k { h.called jw lw with put := true, ep := h.ep + 1 } R)) : Wp φ (HL k h R) (callN (n + 6) 86 [.ref k.ho, .ref wl, dataV k] none) K X := by
 have hl1 := lim1 hl
 have c1 := cm_all k h.put
 have c2 := cm_del k h.put
 exact W9 9101184441747094698229134057674320518684466365903388497367121246687439880343112709396143721452187681035 [MO.list [MV.str "r", MV.str jw, MV.str lw], MO.list [MV.str "r", MV.str jw, MV.str lw], MO.list [MV.str "r", MV.str jw, MV.str lw], MO.list k.dl, MO.dict (cmdsD k false), MO.dict [(MV.str "i", MV.bool true)]] [MV.tup [MV.str "put", MV.str v, MV.int more]] (fun ν => (ai w.il (ai c2 (ai c1 (ai hd (ai w.de (ai hw (ai hl1 (ai hw (ai hw trivial)))))))))) rfl (fun ν => kk) fun ν => by kernel_rfl
theorem deed_turn {kd ans : Str} (hd : idx k.dl (findStr "01234567" jw) = some (.tup [.str "turn", .str v, .int more])) (hk : kd = if more % 2 = 0 then ("yield" : Str) else "yieldto")
 (hs : (shals k.al 5 && shals [] 5) = true) (he : eqPs k.al [] = some false) (hlen : decide (0 < (k.al.length : Int)) = true) (ha : idx k.al ((h.c0 + 1 - 1) % (k.al.length : Int)) = some (.str ans))
 (kk : K (.str ans) φ (HL k { h.called jw lw with log := h.log ++ [.tup [.str "call", .str jw, .str lw, .str h.fr]] ++ [.tup [.str "turn", .str kd, .str v]], c0 := h.c0 + 1 } R)) :
 Wp φ (HL k h R) (callN (n + 6) 86 [.ref k.ho, .ref wl, dataV k] none) K X := by
 have hl1 := lim1 hl
 have hl2 := lim2 (.tup [.str "call", .str jw, .str lw, .str h.fr]) hl
 subst hk
 refine Wp.drops [false] [] ?_
 by_cases hm : more % 2 = 0
 · rw [if_pos hm] at kk
   have b := q9 hm
   exact W9 2047219064398645762307575428803898007839502082649766503881731229575144783580496139 [MO.list [MV.str "r", MV.str jw, MV.str lw], MO.list [MV.str "r", MV.str jw, MV.str lw], MO.list [MV.str "r", MV.str jw, MV.str lw], MO.list k.dl, MO.list k.al, MO.list k.al, MO.list k.al] [MV.tup [MV.str "turn", MV.str v, MV.int more], MV.str ans] (fun ν => (ai ha (ai w.an (ai hlen (ai w.an (ai hl2 (ai he (ai hs (ai w.an (ai b (ai hd (ai w.de (ai hw (ai hl1 (ai hw (ai hw trivial)))))))))))))))) rfl (fun ν => kk) fun ν => by kernel_rfl
 · rw [if_neg hm] at kk
   have b := n9 hm
   exact W9 2047219064398645762307575428803898007862151276992024168009853443445803275735007499 [MO.list [MV.str "r", MV.str jw, MV.str lw], MO.list [MV.str "r", MV.str jw, MV.str lw], MO.list [MV.str "r", MV.str jw, MV.str lw], MO.list k.dl, MO.list k.al, MO.list k.al, MO.list k.al] [MV.tup [MV.str "turn", MV.str v, MV.int more], MV.str ans] (fun ν => (ai ha (ai w.an (ai hlen (ai w.an (ai hl2 (ai he (ai hs (ai w.an (ai b (ai hd (ai w.de (ai hw (ai hl1 (ai hw (ai hw trivial)))))))))))))))) rfl (fun ν => kk) fun ν => by kernel_rfl
theorem deed_pause {kd : Str} (hd : idx k.dl (findStr "01234567" jw) = some (.tup [.str "turn", .str v, .int more])) (hk : kd = if more % 2 = 0 then ("yield" : Str) else "yieldto")
 (hal : k.al = [])
 (kk : ∀ p q, K (.ref p) φ ((p, .inst 5 [(20, .str kd), (21, .ref q)]) :: (q, .list [.str v]) :: HL k (h.called jw lw) R)) :
 Wp φ (HL k h R) (callN (n + 6) 86 [.ref k.ho, .ref wl, dataV k] none) K X := by
 have hl1 := lim1 hl
 have hl2 := lim2 (.tup [.str "call", .str jw, .str lw, .str h.fr]) hl
 subst hk
 refine Wp.drops [true, true, false] [] ?_
 have an : φ.f k.an = some (.list []) := hal ▸ w.an
 by_cases hm : more % 2 = 0
 · rw [if_pos hm] at kk
   have b := q9 hm
   exact W9 28975690088833347367693948145537723201471435409896831427019019 [MO.list [MV.str "r", MV.str jw, MV.str lw], MO.list [MV.str "r", MV.str jw, MV.str lw], MO.list [MV.str "r", MV.str jw, MV.str lw], MO.list k.dl, MO.list []] [MV.tup [MV.str "turn", MV.str v, MV.int more]] (fun ν => (ai an (ai b (ai hd (ai w.de (ai hw (ai hl1 (ai hw (ai hw trivial))))))))) rfl (fun ν => kk (φ.fr (ν 226)) (φ.fr (ν 220))) fun ν => by kernel_rfl
 · rw [if_neg hm] at kk
   have b := n9 hm
   exact W9 28975690088833347390343142487795387329593649280555323581530379 [MO.list [MV.str "r", MV.str jw, MV.str lw], MO.list [MV.str "r", MV.str jw, MV.str lw], MO.list [MV.str "r", MV.str jw, MV.str lw], MO.list k.dl, MO.list []] [MV.tup [MV.str "turn", MV.str v, MV.int more]] (fun ν => (ai an (ai b (ai hd (ai w.de (ai hw (ai hl1 (ai hw (ai hw trivial))))))))) rfl (fun ν => kk (φ.fr (ν 226)) (φ.fr (ν 220))) fun ν => by kernel_rfl
theorem deed_flat (hd : idx k.dl (findStr "01234567" jw) = some (.tup [.str "nest", .str v, .int more])) (hn : ¬ (lw ≠ "2" ∧ h.c1 < 4))
 (kk : K (.str v) φ (HL k (h.called jw lw) R)) :
 Wp φ (HL k h R) (callN (n + 6) 86 [.ref k.ho, .ref wl, dataV k] none) K X := by
 have hl1 := lim1 hl
 by_cases h2 : lw = "2"
 · have b := q9 h2
   exact W9 1671636131847117371851798312197096076788754317940562789045109003 [MO.list [MV.str "r", MV.str jw, MV.str lw], MO.list [MV.str "r", MV.str jw, MV.str lw], MO.list [MV.str "r", MV.str jw, MV.str lw], MO.list k.dl, MO.list [MV.str "r", MV.str jw, MV.str lw]] [MV.tup [MV.str "nest", MV.str v, MV.int more]] (fun ν => (ai (congrArg not b) (ai hw (ai hd (ai w.de (ai hw (ai hl1 (ai hw (ai hw trivial))))))))) rfl (fun ν => kk) fun ν => by kernel_rfl
 · have b := n9 h2
   have c : decide (h.c1 < 4) = false := decide_eq_false fun h => hn ⟨h2, h⟩
   exact W9 28045400765923117420655940140920353398829687703713558279666095960883467 [MO.list [MV.str "r", MV.str jw, MV.str lw], MO.list [MV.str "r", MV.str jw, MV.str lw], MO.list [MV.str "r", MV.str jw, MV.str lw], MO.list k.dl, MO.list [MV.str "r", MV.str jw, MV.str lw]] [MV.tup [MV.str "nest", MV.str v, MV.int more]] (fun ν => (ai c (ai (congrArg not b) (ai hw (ai hd (ai w.de (ai hw (ai hl1 (ai hw (ai hw trivial)))))))))) rfl (fun ν => kk) fun ν => by kernel_rfl
theorem deed_nest {back : MV} {fr : Str} (hd : idx k.dl (findStr "01234567" jw) = some (.tup [.str "nest", .str v, .int more])) (h2 : lw ≠ "2") (h3 : h.c1 < 4) (hj : jw.length = 1)
 (hb : back = if more / 2 % 2 = 0 then .str h.fr else .none) (hf : fr = if more / 2 % 2 = 0 then "f" ++ jw else h.fr)
 (kk : ∀ p, K (.ref p) φ ((p, .inst 4 [(16, .str (if lw = "0" then "P1" else "P2")), (17, back), (18, .bool (more % 2 == 1)), (19, .str "p")]) :: HL k { h.called jw lw with c1 := h.c1 + 1, fr := fr } R)) :
 Wp φ (HL k h R) (callN (n + 6) 86 [.ref k.ho, .ref wl, dataV k] none) K X := by
 have hl1 := lim1 hl
 subst hb hf
 have b2 := n9 h2
 have c := decide_eq_true h3
 have d : decide (Str.length "f" + jw.length ≤ LIM) = true := by rw [hj]; rfl
 by_cases hm : more / 2 % 2 = 0
 · rw [if_pos hm] at kk
   rw [if_pos hm] at kk
   have bm := q9 hm
   by_cases h0 : lw = "0"
   · rw [if_pos h0] at kk
     have b0 := q9 h0
     exact W9 47679973284174933459433916247152444025876114147583824896328361428939358925568883213555727139421688410549309091617519034171659 [MO.list [MV.str "r", MV.str jw, MV.str lw], MO.list [MV.str "r", MV.str jw, MV.str lw], MO.list [MV.str "r", MV.str jw, MV.str lw], MO.list k.dl, MO.list [MV.str "r", MV.str jw, MV.str lw], MO.list [MV.str "r", MV.str jw, MV.str lw], MO.list [MV.str "r", MV.str jw, MV.str lw]] [MV.tup [MV.str "nest", MV.str v, MV.int more]] (fun ν => (ai b0 (ai hw (ai d (ai hw (ai bm (ai c (ai (congrArg not b2) (ai hw (ai hd (ai w.de (ai hw (ai hl1 (ai hw (ai hw trivial))))))))))))))) rfl (fun ν => kk (φ.fr (ν 455))) fun ν => by kernel_rfl
   · rw [if_neg h0] at kk
     have b0 := n9 h0
     exact W9 47679973284174935844672476876826816101129845261754243324755950163951727612661276175955518271445888803368604326148233050980619 [MO.list [MV.str "r", MV.str jw, MV.str lw], MO.list [MV.str "r", MV.str jw, MV.str lw], MO.list [MV.str "r", MV.str jw, MV.str lw], MO.list k.dl, MO.list [MV.str "r", MV.str jw, MV.str lw], MO.list [MV.str "r", MV.str jw, MV.str lw], MO.list [MV.str "r", MV.str jw, MV.str lw]] [MV.tup [MV.str "nest", MV.str v, MV.int more]] (fun ν => (ai b0 (ai hw (ai d (ai hw (ai bm (ai c (ai (congrArg not b2) (ai hw (ai hd (ai w.de (ai hw (ai hl1 (ai hw (ai hw trivial))))))))))))))) rfl (fun ν => kk (φ.fr (ν 455))) fun ν => by kernel_rfl
 · rw [if_neg hm] at kk
   rw [if_neg hm] at kk
   have bm := n9 hm
   by_cases h0 : lw = "0"
   · rw [if_pos h0] at kk
     have b0 := q9 h0
     exact W9 44405435476615031677702363588339979744724436681880743922329285054878086882917480337017886280681645577437963688608011 [MO.list [MV.str "r", MV.str jw, MV.str lw], MO.list [MV.str "r", MV.str jw, MV.str lw], MO.list [MV.str "r", MV.str jw, MV.str lw], MO.list k.dl, MO.list [MV.str "r", MV.str jw, MV.str lw], MO.list [MV.str "r", MV.str jw, MV.str lw]] [MV.tup [MV.str "nest", MV.str v, MV.int more]] (fun ν => (ai b0 (ai hw (ai bm (ai c (ai (congrArg not b2) (ai hw (ai hd (ai w.de (ai hw (ai hl1 (ai hw (ai hw trivial))))))))))))) rfl (fun ν => kk (φ.fr (ν 406))) fun ν => by kernel_rfl
   · rw [if_neg h0] at kk
     have b0 := n9 h0
     exact W9 44405435476615033899128880946086465435547011098214943109141988305796967627840752472126401092547817601318534102647051 [MO.list [MV.str "r", MV.str jw, MV.str lw], MO.list [MV.str "r", MV.str jw, MV.str lw], MO.list [MV.str "r", MV.str jw, MV.str lw], MO.list k.dl, MO.list [MV.str "r", MV.str jw, MV.str lw], MO.list [MV.str "r", MV.str jw, MV.str lw]] [MV.tup [MV.str "nest", MV.str v, MV.int more]] (fun ν => (ai b0 (ai hw (ai bm (ai c (ai (congrArg not b2) (ai hw (ai hd (ai w.de (ai hw (ai hl1 (ai hw (ai hw trivial))))))))))))) rfl (fun ν => kk (φ.fr (ν 406))) fun ν => by kernel_rfl
theorem deed_raise {x : AX} (hd : idx k.dl (findStr "01234567" jw) = some (.tup [.str "raise", .str v, .int more]))
 (hx : x = if more % 5 = 3 then ⟨2, v, .tup [.str "NONE"], 1 + more / 5 % 2, (if more / 10 % 4 = 0 then 0 else if more / 10 % 4 = 1 then 1 else if more / 10 % 4 = 2 then 3 else 4), "", false⟩
  else ⟨if more % 5 = 0 then 3 else if more % 5 = 1 then 1 else if more % 5 = 2 then 4 else 5, v, .tup [.str "LAW", .str v], 0, 0, "", false⟩)
 (kk : ∀ e t, X e φ ((e, excO x t) :: HL k (h.called jw lw) R)) :
 Wp φ (HL k h R) (callN (n + 6) 86 [.ref k.ho, .ref wl, dataV k] none) K X := by
 have hl1 := lim1 hl
 by_cases hm : more % 5 = 3
 · rw [if_pos hm] at hx
   have hi : idx [.int 3, .int 1, .int 4, .int 2, .int 5] (more % 5) = some (.int 2) := by rw [hm]; rfl
   have hj : idx [.int 0, .int 1, .int 3, .int 4] (more / 10 % 4) = some (.int x.ret) := by
    have : more / 10 % 4 = 0 ∨ more / 10 % 4 = 1 ∨ more / 10 % 4 = 2 ∨ more / 10 % 4 = 3 := by lia
    rw [hx]
    rcases this with h | h | h | h <;> (rw [h]; rfl)
   subst hx
   refine Wp.drops [] [false, true, false, false] ?_
   exact W9 2041582808294747486315498820815374422143385844636666589706533720897523627429663203946135819 [MO.list [MV.str "r", MV.str jw, MV.str lw], MO.list [MV.str "r", MV.str jw, MV.str lw], MO.list [MV.str "r", MV.str jw, MV.str lw], MO.list k.dl] [MV.tup [MV.str "raise", MV.str v, MV.int more], MV.int 2, MV.int (AX.mk 2 v (MV.tup [MV.str "NONE"]) (1 + more / 5 % 2) (if more / 10 % 4 = 0 then 0 else if more / 10 % 4 = 1 then 1 else if more / 10 % 4 = 2 then 3 else 4) (Str.ofString "") false).ret] (fun ν => (ai hj (ai hi (ai hd (ai w.de (ai hw (ai hl1 (ai hw (ai hw trivial))))))))) rfl (fun ν => kk (φ.fr (ν 358)) (φ.fr (ν 508))) fun ν => by kernel_rfl
 · rw [if_neg hm] at hx
   have hi : idx [.int 3, .int 1, .int 4, .int 2, .int 5] (more % 5) = some (.int (if more % 5 = 0 then 3 else if more % 5 = 1 then 1 else if more % 5 = 2 then 4 else 5)) := by
    have : more % 5 = 0 ∨ more % 5 = 1 ∨ more % 5 = 2 ∨ more % 5 = 4 := by lia
    rcases this with h | h | h | h <;> (rw [h]; rfl)
   have hc : ((if more % 5 = 0 then 3 else if more % 5 = 1 then 1 else if more % 5 = 2 then 4 else 5 : Int) == 2) = false := by
    have : more % 5 = 0 ∨ more % 5 = 1 ∨ more % 5 = 2 ∨ more % 5 = 4 := by lia
    rcases this with h | h | h | h <;> (rw [h]; rfl)
   generalize (if more % 5 = 0 then 3 else if more % 5 = 1 then 1 else if more % 5 = 2 then 4 else 5 : Int) = cd at hx hi hc
   subst hx
   refine Wp.drops [] [false, true, false] ?_
   exact W9 29708939957996299000158591535564004610278094074469553268678239918561340584624395 [MO.list [MV.str "r", MV.str jw, MV.str lw], MO.list [MV.str "r", MV.str jw, MV.str lw], MO.list [MV.str "r", MV.str jw, MV.str lw], MO.list k.dl] [MV.tup [MV.str "raise", MV.str v, MV.int more], MV.int cd] (fun ν => (ai hc (ai hi (ai hd (ai w.de (ai hw (ai hl1 (ai hw (ai hw trivial))))))))) rfl (fun ν => kk (φ.fr (ν 271)) (φ.fr (ν 421))) fun ν => by kernel_rfl
end
inductive Rz (α : Type) where
 | ok (a : α)
 | err (x : AX)
noncomputable abbrev outX (w : Str) : AX := ⟨1, "invoked \"" ++ w ++ "\" outside of a loop", .tup [.str "TCL", .str "RESULT", .str "UNEXPECTED"], 0, 0, "", false⟩
noncomputable abbrev noteX (y : AX) : AX := if y.code = 1 then { y with info := (if y.info = "" then y.value else y.info) ++ "\n    " ++ "(procedure \"p\" line 0)", noted := true } else y
noncomputable def endProc (x : AX) : Rz Str :=
 if x.code = 2 then
  if 1 < x.level then .err { x with level := x.level - 1 }
  else if x.ret = 0 then .ok x.value else .err { x with code := x.ret, level := if x.ret = 2 then 1 else 0, ret := 0, noted := true }
 else .err (noteX (if x.code = 3 then outX "break" else if x.code = 4 then outX "continue" else x))
mutual
inductive It where
 | call (j l : Str)
 | idle
 | blk (loop : Bool) (name : Str) (its : Its) (takes : Bool)
inductive Its where
 | nil
 | cons (i : It) (r : Its)
end
structure SS where
 log : List MV
 c0 : Int
 c1 : Int
inductive DK where
 | text | turn | nest | put | raise
noncomputable def DK.nm : DK → Str
 | .text => "text" | .turn => "turn" | .nest => "nest" | .put => "put" | .raise => "raise"
structure Wl where
 deed : Str → DK × Str × Int
 ans : Int → Str
noncomputable abbrev callE (j l fr : Str) : MV := .tup [.str "call", .str j, .str l, .str fr]
noncomputable abbrev kindT (m : Int) : Str := if m % 2 = 0 then "yield" else "yieldto"
noncomputable abbrev turnE (m : Int) (v : Str) : MV := .tup [.str "turn", .str (kindT m), .str v]
noncomputable def raiseX (v : Str) (more : Int) : AX := if more % 5 = 3 then ⟨2, v, .tup [.str "NONE"], 1 + more / 5 % 2, (if more / 10 % 4 = 0 then 0 else if more / 10 % 4 = 1 then 1 else if more / 10 % 4 = 2 then 3 else 4), "", false⟩
 else ⟨if more % 5 = 0 then 3 else if more % 5 = 1 then 1 else if more % 5 = 2 then 4 else 5, v, .tup [.str "LAW", .str v], 0, 0, "", false⟩
noncomputable def takesX (loop takes : Bool) (x : AX) : Bool := loop && (x.code == 3 || (x.code == 4 && takes))
noncomputable def letX (x : AX) : Str := if x.code = 3 then "B" else "C"
noncomputable def catchR (loop takes : Bool) : Rz Str → Rz Str
 | .ok t => .ok t
 | .err x => if takesX loop takes x then .ok (letX x) else .err x
noncomputable def joinR : Rz (List Str) → Rz Str
 | .ok ts => .ok (j9 ts)
 | .err x => .err x
noncomputable abbrev Cl := Str → Str → SS → Rz Str × SS
mutual
noncomputable def evI (cl : Cl) : It → SS → Rz Str × SS
 | .call j l, s => cl j l s
 | .idle, s => (.ok "idle", s)
 | .blk loop _ its takes, s => (catchR loop takes (joinR (evTs cl its s).1), (evTs cl its s).2)
noncomputable def evTs (cl : Cl) : Its → SS → Rz (List Str) × SS
 | .nil, s => (.ok [], s)
 | .cons i r, s => match evI cl i s with
  | (.ok t, s1) => match evTs cl r s1 with
   | (.ok ts, s2) => (.ok (t :: ts), s2)
   | (.err x, s2) => (.err x, s2)
  | (.err x, s1) => (.err x, s1)
end
noncomputable def evL (cl : Cl) (its : Its) (s : SS) : Rz Str × SS := (joinR (evTs cl its s).1, (evTs cl its s).2)
noncomputable def procR (m : Int) : Rz Str → Rz Str
 | .ok t => .ok t
 | .err x => if m % 2 = 1 then endProc x else .err x
noncomputable def evC (w : Wl) (nx : Str → SS → Rz Str × SS) (fr : Str) : Cl := fun j l s =>
 match w.deed j with
 | (.text, v, _) => (.ok v, { s with log := s.log ++ [callE j l fr] })
 | (.put, v, _) => (.ok v, { s with log := s.log ++ [callE j l fr] })
 | (.turn, v, m) => (.ok (w.ans s.c0), { s with log := s.log ++ [callE j l fr] ++ [turnE m v], c0 := s.c0 + 1 })
 | (.raise, v, m) => (.err (raiseX v m), { s with log := s.log ++ [callE j l fr] })
 | (.nest, v, m) =>
  if l ≠ "2" ∧ s.c1 < 4 then
   (procR m (nx (if m / 2 % 2 = 0 then "f" ++ j else fr) { s with log := s.log ++ [callE j l fr], c1 := s.c1 + 1 }).1,
    (nx (if m / 2 % 2 = 0 then "f" ++ j else fr) { s with log := s.log ++ [callE j l fr], c1 := s.c1 + 1 }).2)
  else (.ok v, { s with log := s.log ++ [callE j l fr] })
mutual
noncomputable def It.wt : It → Nat
 | .call _ _ => 1
 | .idle => 1
 | .blk _ _ its _ => 1 + its.wt
noncomputable def Its.wt : Its → Nat
 | .nil => 0
 | .cons i r => i.wt + r.wt
end
mutual
noncomputable def It.dep : It → Nat
 | .call _ _ => 0
 | .idle => 0
 | .blk _ _ its _ => 1 + its.dep
noncomputable def Its.dep : Its → Nat
 | .nil => 0
 | .cons i r => max i.dep r.dep
end
noncomputable def Its.len : Its → Nat
 | .nil => 0
 | .cons _ r => r.len + 1
noncomputable def okX (B : Nat) (x : AX) : Prop := x.info.length ≤ B ∧ x.value.length ≤ 100
noncomputable def okR (T B : Nat) : Rz Str → Prop
 | .ok t => t.length ≤ T
 | .err x => okX B x
structure OkC (D T B : Nat) (cl : Cl) : Prop where
 gr : ∀ j l s, (cl j l s).2.log.length ≤ s.log.length + D
 rs : ∀ j l s, okR T B (cl j l s).1
theorem joinAll_cons (t : Str) (ts : List Str) : j9 (t :: ts) = t ++ j9 ts := rfl
theorem catch_ok {T B : Nat} (hT : 1 ≤ T) {loop takes : Bool} {r : Rz Str} (h : okR T B r) : okR T B (catchR loop takes r) := by
 cases r with
 | ok t => exact h
 | err x =>
  unfold catchR
  dsimp only
  split
  · show (letX x).length ≤ T
    unfold letX
    split
    · exact hT
    · exact hT
  · exact h
mutual
theorem evI_gr {D T B : Nat} {cl : Cl} (h : OkC D T B cl) : ∀ (i : It) (s : SS), (evI cl i s).2.log.length ≤ s.log.length + D * i.wt
 | .call j l, s => by have := h.gr j l s; rw [evI, It.wt]; lia
 | .idle, s => by rw [evI]; exact Nat.le_add_right _ _
 | .blk a b its c, s => by
  have := evTs_gr h its s
  rw [evI, It.wt, Nat.mul_add]
  dsimp only
  lia
theorem evTs_gr {D T B : Nat} {cl : Cl} (h : OkC D T B cl) : ∀ (i : Its) (s : SS), (evTs cl i s).2.log.length ≤ s.log.length + D * i.wt
 | .nil, s => by rw [evTs]; exact Nat.le_add_right _ _
 | .cons i r, s => by
  have h1 := evI_gr h i s
  rw [evTs, Its.wt, Nat.mul_add]
  cases q : evI cl i s with
  | mk a s1 =>
   rw [q] at h1
   cases a with
   | err x => dsimp only at h1 ⊢; lia
   | ok t =>
    have h2 := evTs_gr h r s1
    dsimp only at h1 ⊢
    cases q2 : evTs cl r s1 with
    | mk a s2 => rw [q2] at h2; cases a <;> (dsimp only at h2 ⊢; lia)
end
noncomputable def okL (T B n : Nat) : Rz (List Str) → Prop
 | .ok ts => (j9 ts).length ≤ T ∧ ts.length = n
 | .err x => okX B x
theorem join_ok {T B n : Nat} {r : Rz (List Str)} (h : okL T B n r) : okR T B (joinR r) := by
 cases r with
 | ok ts => exact h.1
 | err x => exact h
mutual
theorem evI_ok {D T B : Nat} {cl : Cl} (hT : 4 ≤ T) (h : OkC D T B cl) : ∀ (i : It) (s : SS), okR (T * i.wt) B (evI cl i s).1
 | .call j l, s => by have := h.rs j l s; rw [evI, It.wt, Nat.mul_one]; exact this
 | .idle, s => by rw [evI, It.wt, Nat.mul_one]; exact hT
 | .blk a b its c, s => by
  have := join_ok (evTs_ok hT h its s)
  rw [evI, It.wt]
  refine catch_ok (by rw [Nat.mul_add]; lia) ?_
  cases q : joinR (evTs cl its s).1 with
  | ok t => rw [q] at this; unfold okR at this ⊢; rw [Nat.mul_add]; lia
  | err x => rw [q] at this; exact this
theorem evTs_ok {D T B : Nat} {cl : Cl} (hT : 4 ≤ T) (h : OkC D T B cl) : ∀ (i : Its) (s : SS), okL (T * i.wt) B i.len (evTs cl i s).1
 | .nil, s => by rw [evTs]; exact ⟨Nat.zero_le _, rfl⟩
 | .cons i r, s => by
  have h1 := evI_ok hT h i s
  rw [evTs, Its.wt, Nat.mul_add]
  cases q : evI cl i s with
  | mk a s1 =>
   rw [q] at h1
   cases a with
   | err x => exact h1
   | ok t =>
    have h2 := evTs_ok hT h r s1
    dsimp only
    cases q2 : evTs cl r s1 with
    | mk a s2 =>
     rw [q2] at h2
     cases a with
     | err x => exact h2
     | ok ts =>
      refine ⟨?_, by rw [List.length_cons, h2.2]; rfl⟩
      rw [joinAll_cons, PySem.Str.length_append]
      have := h2.1
      have : t.length ≤ T * i.wt := h1
      lia
end
structure OkW (w : Wl) : Prop where
 v : ∀ j, (w.deed j).2.1.length ≤ 100
 a : ∀ c, (w.ans c).length ≤ 100
structure OkN (D T B : Nat) (nx : Str → SS → Rz Str × SS) : Prop where
 gr : ∀ fr s, (nx fr s).2.log.length ≤ s.log.length + D
 rs : ∀ fr s, okR T B (nx fr s).1
theorem raiseX_ok {v : Str} {m : Int} (h : v.length ≤ 100) : okX 0 (raiseX v m) := by
 unfold raiseX
 split
 · exact ⟨Nat.le_refl _, h⟩
 · exact ⟨Nat.le_refl _, h⟩
theorem noteX_ok {B : Nat} {x : AX} (h : okX B x) : okX (B + 200) (noteX x) := by
 unfold noteX
 split
 · refine ⟨?_, h.2⟩
   dsimp only
   rw [PySem.Str.length_append, PySem.Str.length_append]
   have h5 : ("\n    " : Str).length = 5 := by decide
   have h6 : ("(procedure \"p\" line 0)" : Str).length = 22 := by decide
   rw [h5, h6]
   have := h.1; have := h.2
   split <;> lia
 · exact ⟨by have := h.1; lia, h.2⟩
theorem endProc_ok {T B : Nat} {x : AX} (hT : 100 ≤ T) (h : okX B x) : okR T (B + 200) (endProc x) := by
 unfold endProc
 have hb : okX (B + 200) x := ⟨by have := h.1; lia, h.2⟩
 split
 · split
   · exact hb
   · split
     · exact Nat.le_trans h.2 hT
     · exact hb
 · refine noteX_ok (B := B) ?_
   split
   · exact ⟨Nat.zero_le _, by decide⟩
   · split
     · exact ⟨Nat.zero_le _, by decide⟩
     · exact h
theorem procR_ok {T B : Nat} {m : Int} {r : Rz Str} (hT : 100 ≤ T) (h : okR T B r) : okR T (B + 200) (procR m r) := by
 cases r with
 | ok t => exact h
 | err x =>
  unfold procR
  dsimp only
  split
  · exact endProc_ok hT h
  · exact ⟨by have := h.1; lia, h.2⟩
theorem evC_ok {D T B : Nat} {w : Wl} {nx : Str → SS → Rz Str × SS} (hw : OkW w) (h : OkN D T B nx) (hT : 100 ≤ T) (fr : Str) : OkC (D + 2) T (B + 200) (evC w nx fr) := by
 refine ⟨fun j l s => ?_, fun j l s => ?_⟩
 · unfold evC
   split <;> try (dsimp only; simp only [List.length_append, List.length_cons, List.length_nil]; lia)
   split
   · dsimp only
     refine Nat.le_trans (h.gr _ _) ?_
     simp only [List.length_append, List.length_cons, List.length_nil]; lia
   · simp only [List.length_append, List.length_cons, List.length_nil]; lia
 · unfold evC
   have hv := hw.v j
   split <;> (rename_i e; rw [e] at hv; dsimp only at hv)
   · exact Nat.le_trans hv hT
   · exact Nat.le_trans hv hT
   · exact Nat.le_trans (hw.a _) hT
   · have := raiseX_ok (m := ‹Int›) hv
     exact ⟨Nat.le_trans this.1 (by lia), this.2⟩
   · split
     · exact procR_ok hT (h.rs _ _)
     · exact Nat.le_trans hv hT
theorem evL_ok {D T B : Nat} {cl : Cl} (hT : 4 ≤ T) (h : OkC D T B cl) (its : Its) : OkN (D * its.wt) (T * its.wt) B (fun _ s => evL cl its s) :=
 ⟨fun _ s => evTs_gr h its s, fun _ s => join_ok (evTs_ok hT h its s)⟩
theorem cat_ok {a b : Str} {i j : Nat} (ha : a.length ≤ i) (hb : b.length ≤ j) (h : i + j ≤ LIM) : decide (a.length + b.length ≤ LIM) = true := decide_eq_true (Nat.le_trans (Nat.add_le_add ha hb) h)
theorem cat_le {a b : Str} {i j : Nat} (ha : a.length ≤ i) (hb : b.length ≤ j) : (a ++ b).length ≤ i + j := PySem.Str.length_append a b ▸ Nat.add_le_add ha hb
noncomputable abbrev procT : Str := "(procedure \"p\" line 0)"
theorem end_proc_w {n : Nat} {φ : Fz} {R : Lg} {x : AX} {e t ne h0 : Nat} {s b ip : MV} {K : MV → Fz → Lg → Prop} {X : Nat → Fz → Lg → Prop}
 (hn : φ.f ne = some (.inst 4 [(16, s), (17, b), (18, ip), (19, .str "p")])) (h0e : Nat.ble h0 e = true) (hb : h0 ≤ φ.b) (hi : x.info.length ≤ 1000) (hv : x.value.length ≤ 1000)
 (k : match endProc x with
  | .ok v => K (.str v) φ R
  | .err y => ∀ e' t', Nat.ble h0 e' = true → X e' φ ((e', excO y t') :: R)) :
 Wp φ ((e, excO x t) :: R) (callN (n + 5) 10 [.ref ne, .ref e] (some h0)) K X := by
 obtain ⟨code, value, ec, level, rt, info, noted⟩ := x
 dsimp only at hi hv
 unfold endProc at k
 dsimp only at k
 dsimp only [excO]
 by_cases c2 : code = 2
 · rw [if_pos c2] at k
   have b2 := q9 c2
   by_cases hl : 1 < level
   · rw [if_pos hl] at k
     have b3 := decide_eq_true hl
     exact W9 4879310174630095355912 [] [] (fun ν => (ai h0e (ai b3 (ai b2 trivial)))) rfl (fun ν => k e t h0e) fun ν => by kernel_rfl
   · rw [if_neg hl] at k
     have b3 := decide_eq_false hl
     by_cases hr : rt = 0
     · rw [if_pos hr] at k
       have b4 := q9 hr
       refine Wp.drops [false] [] ?_
       exact W9 1392691989074827199283462152 [] [] (fun ν => (ai b4 (ai b3 (ai b2 trivial)))) rfl (fun ν => k) fun ν => by kernel_rfl
     · rw [if_neg hr] at k
       have b4 := n9 hr
       by_cases hr2 : rt = 2
       · rw [if_pos hr2] at k
         have b5 := q9 hr2
         exact W9 94379585510080652203624259886367733437866442760 [] [] (fun ν => (ai h0e (ai b5 (ai b4 (ai b3 (ai b2 trivial)))))) rfl (fun ν => k e t h0e) fun ν => by kernel_rfl
       · rw [if_neg hr2] at k
         have b5 := n9 hr2
         exact W9 94379585511430649386843315069785662483463667720 [] [] (fun ν => (ai h0e (ai b5 (ai b4 (ai b3 (ai b2 trivial)))))) rfl (fun ν => k e t h0e) fun ν => by kernel_rfl
 · rw [if_neg c2] at k
   have b2 := n9 c2
   by_cases c3 : code = 3
   · subst c3
     rw [if_pos rfl] at k
     refine Wp.drops [] [false, true, false] ?_
     exact W9 9941716257685347783212993763586563152976797232161979373390602625412942154426999909298585903589470871761795153928 [MO.inst 4 [(16, s), (17, b), (18, ip), (19, MV.str "p")]] [] (fun ν => (ai (fresh_ok hb (ν 165)) (ai hn trivial))) rfl (fun ν => k (φ.fr (ν 165)) (φ.fr (ν 315)) (fresh_ok hb _)) fun ν => by kernel_rfl
   · rw [if_neg c3] at k
     by_cases c4 : code = 4
     · subst c4
       rw [if_pos rfl] at k
       refine Wp.drops [] [false, true, false] ?_
       exact W9 9941716257685347783212993763586563152976797232161979373390602625412942154426999909298586210543292258288734044168 [MO.inst 4 [(16, s), (17, b), (18, ip), (19, MV.str "p")]] [] (fun ν => (ai (fresh_ok hb (ν 165)) (ai hn trivial))) rfl (fun ν => k (φ.fr (ν 165)) (φ.fr (ν 315)) (fresh_ok hb _)) fun ν => by kernel_rfl
     · rw [if_neg c4] at k
       have f3 : ((3 == code) || ((4 == code) || false)) = false := by rw [n9 fun h => c3 h.symm, n9 fun h => c4 h.symm]; rfl
       by_cases c1 : code = 1
       · subst c1
         unfold noteX at k
         rw [if_pos rfl] at k
         dsimp only at k
         have lv := cat_le hv (show ("\n    " : Str).length ≤ 5 by decide)
         have li := cat_le hi (show ("\n    " : Str).length ≤ 5 by decide)
         have v1 := cat_ok hv (show ("\n    " : Str).length ≤ 5 by decide) (by decide)
         have v2 := cat_ok lv (show procT.length ≤ 22 by decide) (by decide)
         have i1 := cat_ok hi (show ("\n    " : Str).length ≤ 5 by decide) (by decide)
         have i2 := cat_ok li (show procT.length ≤ 22 by decide) (by decide)
         by_cases hi0 : info = ""
         · rw [if_pos hi0] at k
           have b5 := q9 hi0
           exact W9 116836267797381422734973056520243018941206518562629568996250160444914008072 [MO.inst 4 [(16, s), (17, b), (18, ip), (19, MV.str "p")]] [] (fun ν => (ai h0e (ai v2 (ai v1 (ai b5 (ai hn trivial)))))) rfl (fun ν => k e t h0e) fun ν => by kernel_rfl
         · rw [if_neg hi0] at k
           have b5 := n9 hi0
           exact W9 28524479442720063062699571194152169483281001039182568915482774539075592 [MO.inst 4 [(16, s), (17, b), (18, ip), (19, MV.str "p")]] [] (fun ν => (ai h0e (ai i2 (ai i1 (ai b5 (ai hn trivial)))))) rfl (fun ν => k e t h0e) fun ν => by kernel_rfl
       · have b5 := n9 c1
         unfold noteX at k
         rw [if_neg c1] at k
         exact W9 24741030512158368987974775385738272741567976977465352 [MO.inst 4 [(16, s), (17, b), (18, ip), (19, MV.str "p")]] [] (fun ν => (ai h0e (ai (congrArg not b5) (ai hn (ai f3 (ai b2 trivial)))))) rfl (fun ν => k e t h0e) fun ν => by kernel_rfl
noncomputable abbrev HS.ss (h : HS) : SS := ⟨h.log, h.c0, h.c1⟩
noncomputable abbrev HS.aft (h : HS) (s : SS) (p : Bool) (e sp : Int) : HS := { h with log := s.log, c0 := s.c0, c1 := s.c1, put := p, ep := e, sp := sp }
noncomputable def PK (φ : Fz) (k : Kw) (h : HS) (R : Lg) (r : Rz Str × SS) (K : MV → Fz → Lg → Prop) (X : Nat → Fz → Lg → Prop) : Prop := match r with
 | (.ok t, s) => ∀ φ' p e sp, φ.le φ' → K (.str t) φ' (HL k (h.aft s p e sp) R)
 | (.err x, s) => ∀ φ' p e sp ex t, φ.le φ' → X ex φ' ((ex, excO x t) :: HL k (h.aft s p e sp) R)
noncomputable def GoodJ (k : Kw) (w : Wl) (j : Str) : Prop := j.length = 1 ∧ idx k.dl (findStr "01234567" j) = some (.tup [.str (w.deed j).1.nm, .str (w.deed j).2.1, .int (w.deed j).2.2])
structure GoodA (k : Kw) (w : Wl) : Prop where
 hs : (shals k.al 5 && shals [] 5) = true
 he : eqPs k.al [] = some false
 hlen : decide (0 < (k.al.length : Int)) = true
 ha : ∀ c : Int, idx k.al ((c + 1 - 1) % (k.al.length : Int)) = some (.str (w.ans c))
noncomputable def NxW (φ0 : Fz) (k : Kw) (c D : Nat) (dm : Int) (pn : Str) (nx : Str → SS → Rz Str × SS) : Prop :=
 ∀ N, c ≤ N → ∀ φ h R K X, φ0.le φ → h.dp ≤ dm → h.log.length + D ≤ 500000 → PK φ k h R (nx h.fr h.ss) K X → Wp φ (HL k h R) (callN N 33 [.ref k.ho, .str pn] none) K X
noncomputable def CW (φ0 : Fz) (k : Kw) (w : Wl) (c D : Nat) (dm : Int) (fr l : Str) (cl : Cl) : Prop :=
 ∀ j, GoodJ k w j → ∀ N, c ≤ N → ∀ φ h R K X wl, φ0.le φ → h.fr = fr → h.dp ≤ dm → h.log.length + D ≤ 500000 → φ.f wl = some (.list [.str "r", .str j, .str l]) → PK φ k h R (cl j l h.ss) K X → Wp φ (HL k h R) (callN N 35 [.ref k.ho, .ref wl] none) K X
theorem add_at (φ : Fz) (p : Nat) (o : MO) : (φ.add p o).f p = some o := if_pos rfl
theorem bd_le (a e : Nat) : e ≤ max a (e + 1) := Nat.le_trans (Nat.le_succ e) (Nat.le_max_right _ _)
theorem call_w {φ0 : Fz} {k : Kw} {w : Wl} {c D T B : Nat} {dm : Int} {fr l : Str} {nx : Str → SS → Rz Str × SS} (wd : Wd φ0 k) (ga : GoodA k w)
 (hnx : l ≠ "2" → NxW φ0 k c D dm (if l = "0" then "P1" else "P2") nx) (ok : OkN D T B nx) (hB : B ≤ 1000) : CW φ0 k w (c + 12) (D + 2) dm fr l (evC w nx fr) := by
 intro j ⟨hj1, hj⟩ N hN φ h R K X wl hle hfr hdp hlog hwl kk
 obtain ⟨N, rfl⟩ : ∃ m, N = m + 12 := ⟨N - 12, by lia⟩
 have wd' := wd.le hle
 have k1 := cm_all k h.put
 subst hfr
 unfold evC at kk
 refine walkC 86 (N + 9) none (fun ν => [MV.ref k.1, MV.ref wl, MV.tup [MV.ref k.de, MV.ref k.an, MV.ref k.lg, MV.ref k.ct]]) (fun ν => HL k { h with sp := h.sp + 1 } R) 24325781362587430887071379593295252824444096084971524 [MO.list [MV.str "r", MV.str j, MV.str l], MO.list [MV.str "r", MV.str j, MV.str l], MO.list [MV.str "r", MV.str j, MV.str l]] [] (fun ν => (ai k1 (ai hwl (ai k1 (ai hwl (ai hwl trivial)))))) rfl (fun ν => by kernel_rfl) fun ν K' X' kv kx => ?_
 have hl2 : h.log.length < 500000 := by lia
 revert hj kk
 generalize w.deed j = d
 obtain ⟨dk, v, m⟩ := d
 intro hj kk
 dsimp only at hj
 cases dk with
 | text =>
  refine deed_text (h := { h with sp := h.sp + 1 }) wd' hwl hl2 hj (kv _ _ _ (.refl _) ?_)
  exact o9 17043521 [] [] (fun ν => trivial) (fun ν => kk φ h.put h.ep (h.sp + 1) (.refl _)) fun ν => by kernel_rfl
 | put =>
  refine deed_put (h := { h with sp := h.sp + 1 }) wd' hwl hl2 hj (kv _ _ _ (.refl _) ?_)
  exact o9 17043521 [] [] (fun ν => trivial) (fun ν => kk φ true (h.ep + 1) (h.sp + 1) (.refl _)) fun ν => by kernel_rfl
 | turn =>
  refine deed_turn (h := { h with sp := h.sp + 1 }) (kd := kindT m) wd' hwl hl2 hj rfl ga.hs ga.he ga.hlen (ga.ha _) (kv _ _ _ (.refl _) ?_)
  exact o9 17043521 [] [] (fun ν => trivial) (fun ν => kk φ h.put h.ep (h.sp + 1) (.refl _)) fun ν => by kernel_rfl
 | raise =>
  refine deed_raise (h := { h with sp := h.sp + 1 }) (v := v) (more := m) (x := raiseX v m) wd' hwl hl2 hj (by unfold raiseX; rfl) fun e t => kx _ _ _ (.refl _) ?_
  exact o9 1 [] [] (fun ν => trivial) (fun ν => kk φ h.put h.ep (h.sp + 1) e t (.refl _)) fun ν => by kernel_rfl
 | nest =>
  dsimp only at kk
  by_cases hc : l ≠ "2" ∧ h.c1 < 4
  · rw [if_pos hc] at kk
    obtain ⟨back, hback⟩ : ∃ back : MV, back = if m / 2 % 2 = 0 then .str h.fr else .none := ⟨_, rfl⟩
    obtain ⟨fr, hfr⟩ : ∃ fr : Str, fr = if m / 2 % 2 = 0 then "f" ++ j else h.fr := ⟨_, rfl⟩
    refine deed_nest (h := { h with sp := h.sp + 1 }) wd' hwl hl2 hj hc.1 hc.2 hj1 hback hfr fun p => kv _ _ _ (.refl _) ?_
    refine onC 33 (N + 10) none (fun ν => [MV.ref k.1, MV.str (if l = Str.ofString "0" then Str.ofString "P1" else Str.ofString "P2")]) (fun ν => (p, .inst 4 [(16, .str (if l = "0" then "P1" else "P2")), (17, back), (18, .bool (m % 2 == 1)), (19, .str "p")]) :: HL k { h.called j l with sp := h.sp + 1, c1 := h.c1 + 1, fr := fr } R) 4957569024008 [] [] (fun ν => trivial) (fun ν => by kernel_rfl) fun ν K'' X'' kv' kx' => ?_
    refine Wp.freeze fun hle2 => ?_
    rw [← hfr] at kk
    have hp := add_at φ p (.inst 4 [(16, .str (if l = "0" then "P1" else "P2")), (17, back), (18, .bool (m % 2 == 1)), (19, .str "p")])
    have okr := ok.rs fr ⟨h.log ++ [callE j l h.fr], h.c0, h.c1 + 1⟩
    refine hnx hc.1 (N + 10) (by lia) _ { h.called j l with sp := h.sp + 1, c1 := h.c1 + 1, fr := fr } R _ _ (hle.trans hle2) hdp (by rw [List.length_append]; exact Nat.le_trans (by rw [Nat.add_right_comm]; exact Nat.add_le_add_left (Nat.le_succ _) _) hlog) (?_ : PK _ _ _ _ (nx fr ⟨h.log ++ [callE j l h.fr], h.c0, h.c1 + 1⟩) _ _)
    revert kk okr
    generalize nx fr ⟨h.log ++ [callE j l h.fr], h.c0, h.c1 + 1⟩ = r
    obtain ⟨r, s2⟩ := r
    intro kk okr
    cases r with
    | ok t =>
     intro φ' p' e' sp' hle3
     have hp' := hle3.1 _ _ hp
     refine kv' _ _ _ (hle2.trans hle3) ?_
     by_cases hb : m / 2 % 2 = 0
     · rw [if_pos hb] at hback hfr
       subst hback
       exact o9 4952097309064 [MO.inst 4 [(16, MV.str (if l = Str.ofString "0" then Str.ofString "P1" else Str.ofString "P2")), (17, MV.str h.fr), (18, MV.bool (m % 2 == 1)), (19, MV.str "p")], MO.inst 4 [(16, MV.str (if l = Str.ofString "0" then Str.ofString "P1" else Str.ofString "P2")), (17, MV.str h.fr), (18, MV.bool (m % 2 == 1)), (19, MV.str "p")]] [] (fun ν => (ai hp' (ai hp' trivial))) (fun ν => kk φ' p' e' sp' (hle2.trans hle3)) fun ν => by kernel_rfl
     · rw [if_neg hb] at hback hfr
       subst hback hfr
       exact o9 1090797960 [MO.inst 4 [(16, MV.str (if l = Str.ofString "0" then Str.ofString "P1" else Str.ofString "P2")), (17, MV.none), (18, MV.bool (m % 2 == 1)), (19, MV.str "p")]] [] (fun ν => (ai hp' trivial)) (fun ν => kk φ' p' e' sp' (hle2.trans hle3)) fun ν => by kernel_rfl
    | err x =>
     intro φ' p' e' sp' ex t hle3
     have hp' := hle3.1 _ _ hp
     refine kx' _ _ _ (hle2.trans hle3) ?_
     by_cases hm : m % 2 = 1
     · unfold procR at kk
       dsimp only at kk
       rw [if_pos hm] at kk
       have bm := q9 hm
       refine onC 10 (N + 10) (some ex) (fun ν => [MV.ref p, MV.ref ex]) (fun ν => (ex, excO x t) :: HL k (HS.aft { h.called j l with sp := h.sp + 1, c1 := h.c1 + 1, fr := fr } s2 p' e' sp') R) 262276 [MO.inst 4 [(16, MV.str (if l = Str.ofString "0" then Str.ofString "P1" else Str.ofString "P2")), (17, back), (18, MV.bool (m % 2 == 1)), (19, MV.str "p")]] [] (fun ν => (ai bm (ai hp' trivial))) (fun ν => by kernel_rfl) fun ν K''' X''' kv'' kx'' => ?_
       refine Wp.bd (j := 0) rfl fun hle4 => end_proc_w hp' (ble_self ex) (bd_le _ _) (Nat.le_trans okr.1 hB) (Nat.le_trans okr.2 (by lia)) ?_
       revert kk
       generalize endProc x = y
       intro kk
       by_cases hb : m / 2 % 2 = 0
       · rw [if_pos hb] at hback hfr
         subst hback
         cases y with
         | ok v' =>
          refine kv'' _ _ _ hle4 ?_
          exact o9 4952097309064 [MO.inst 4 [(16, MV.str (if l = Str.ofString "0" then Str.ofString "P1" else Str.ofString "P2")), (17, MV.str h.fr), (18, MV.bool (m % 2 == 1)), (19, MV.str "p")], MO.inst 4 [(16, MV.str (if l = Str.ofString "0" then Str.ofString "P1" else Str.ofString "P2")), (17, MV.str h.fr), (18, MV.bool (m % 2 == 1)), (19, MV.str "p")]] [] (fun ν => (ai hp' (ai hp' trivial))) (fun ν => kk ⟨φ'.f, max φ'.b (ex + 1)⟩ p' e' sp' (hle2.trans (hle3.trans hle4))) fun ν => by kernel_rfl
         | err y =>
          intro e2 t2 hle5
          refine kx'' _ _ _ hle4 ?_
          exact o9 5020816785801 [MO.inst 4 [(16, MV.str (if l = Str.ofString "0" then Str.ofString "P1" else Str.ofString "P2")), (17, MV.str h.fr), (18, MV.bool (m % 2 == 1)), (19, MV.str "p")], MO.inst 4 [(16, MV.str (if l = Str.ofString "0" then Str.ofString "P1" else Str.ofString "P2")), (17, MV.str h.fr), (18, MV.bool (m % 2 == 1)), (19, MV.str "p")]] [] (fun ν => (ai hp' (ai hp' trivial))) (fun ν => kk ⟨φ'.f, max φ'.b (ex + 1)⟩ p' e' sp' e2 t2 (hle2.trans (hle3.trans hle4))) fun ν => by kernel_rfl
       · rw [if_neg hb] at hback hfr
         subst hback hfr
         cases y with
         | ok v' =>
          refine kv'' _ _ _ hle4 ?_
          exact o9 1090797960 [MO.inst 4 [(16, MV.str (if l = Str.ofString "0" then Str.ofString "P1" else Str.ofString "P2")), (17, MV.none), (18, MV.bool (m % 2 == 1)), (19, MV.str "p")]] [] (fun ν => (ai hp' trivial)) (fun ν => kk ⟨φ'.f, max φ'.b (ex + 1)⟩ p' e' sp' (hle2.trans (hle3.trans hle4))) fun ν => by kernel_rfl
         | err y =>
          intro e2 t2 hle5
          refine kx'' _ _ _ hle4 ?_
          exact o9 1090797961 [MO.inst 4 [(16, MV.str (if l = Str.ofString "0" then Str.ofString "P1" else Str.ofString "P2")), (17, MV.none), (18, MV.bool (m % 2 == 1)), (19, MV.str "p")]] [] (fun ν => (ai hp' trivial)) (fun ν => kk ⟨φ'.f, max φ'.b (ex + 1)⟩ p' e' sp' e2 t2 (hle2.trans (hle3.trans hle4))) fun ν => by kernel_rfl
     · unfold procR at kk
       dsimp only at kk
       rw [if_neg hm] at kk
       have bm := n9 hm
       by_cases hb : m / 2 % 2 = 0
       · rw [if_pos hb] at hback hfr
         subst hback
         exact o9 5391060973555818696900 [MO.inst 4 [(16, MV.str (if l = Str.ofString "0" then Str.ofString "P1" else Str.ofString "P2")), (17, MV.str h.fr), (18, MV.bool (m % 2 == 1)), (19, MV.str "p")], MO.inst 4 [(16, MV.str (if l = Str.ofString "0" then Str.ofString "P1" else Str.ofString "P2")), (17, MV.str h.fr), (18, MV.bool (m % 2 == 1)), (19, MV.str "p")], MO.inst 4 [(16, MV.str (if l = Str.ofString "0" then Str.ofString "P1" else Str.ofString "P2")), (17, MV.str h.fr), (18, MV.bool (m % 2 == 1)), (19, MV.str "p")]] [] (fun ν => (ai hp' (ai hp' (ai (ble_self ex) (ai bm (ai hp' trivial)))))) (fun ν => kk φ' p' e' sp' ex t (hle2.trans hle3)) fun ν => by kernel_rfl
       · rw [if_neg hb] at hback hfr
         subst hback hfr
         exact o9 1171235392295276740 [MO.inst 4 [(16, MV.str (if l = Str.ofString "0" then Str.ofString "P1" else Str.ofString "P2")), (17, MV.none), (18, MV.bool (m % 2 == 1)), (19, MV.str "p")], MO.inst 4 [(16, MV.str (if l = Str.ofString "0" then Str.ofString "P1" else Str.ofString "P2")), (17, MV.none), (18, MV.bool (m % 2 == 1)), (19, MV.str "p")]] [] (fun ν => (ai hp' (ai (ble_self ex) (ai bm (ai hp' trivial))))) (fun ν => kk φ' p' e' sp' ex t (hle2.trans hle3)) fun ν => by kernel_rfl
  · rw [if_neg hc] at kk
    refine deed_flat (h := { h with sp := h.sp + 1 }) wd' hwl hl2 hj hc (kv _ _ _ (.refl _) ?_)
    exact o9 17043521 [] [] (fun ν => trivial) (fun ν => kk φ h.put h.ep (h.sp + 1) (.refl _)) fun ν => by kernel_rfl
noncomputable def PS.rest : PS → PS
 | .seq _ r => r
 | p => p
noncomputable def PS.fst : PS → PS
 | .seq s _ => s
 | p => p
noncomputable def PS.fb : PS → PS
 | .forL _ _ b => b
 | .forR _ _ b => b
 | .while _ b => b
 | .fin b _ => b
 | .tryX b _ _ => b
 | p => p
noncomputable abbrev q0 : Ac := ⟨[], [], [], [], [], [], [], True⟩
section
variable {K0 : MV → Fz → Lg → Prop} {X0 : Nat → Fz → Lg → Prop} {φ : Fz} {fr : List Frm} {n : Nat} {hd : Option Nat} {L : Loc} {Λ : Lg} {q : Ac}
theorem loop_in {x l i : Nat} {b : PS} {vs : List MV} {v : MV} (hl : φ.f l = some (.list vs)) (hv : vs[i]? = some v) (H : Gd K0 X0 φ ⟨.S b, .forB x l b i :: fr, n, hd, L.set x (some v), Λ, q0⟩) : Gd K0 X0 φ ⟨.L x l b i, fr, n, hd, L, Λ, q0⟩ :=
 ⟨(run_ok (K0 := K0) (X0 := X0) (φ := φ) 1 ((⟨.L x l b i, fr, n, hd, L, Λ, q0⟩ : Z).with (6 + 64 * (4 + 64 * (5 + 64))) [.list vs] [v]) fun ν => EndE.inv (P := vs[i]? = some v ∧ φ.f l = some (.list vs) ∧ True) (by kernel_rfl) ⟨hv, hl, trivial⟩ H.g).2⟩
theorem loop_end {x l i : Nat} {b : PS} {vs : List MV} (hl : φ.f l = some (.list vs)) (hv : vs[i]? = none) (H : Gd K0 X0 φ ⟨.F .nxt, fr, n, hd, L, Λ, q0⟩) : Gd K0 X0 φ ⟨.L x l b i, fr, n, hd, L, Λ, q0⟩ :=
 ⟨(run_ok (K0 := K0) (X0 := X0) (φ := φ) 1 ((⟨.L x l b i, fr, n, hd, L, Λ, q0⟩ : Z).with (7 + 64 * (4 + 64 * (2 + 64))) [.list vs] []) fun ν => EndE.inv (P := vs[i]?.isNone = true ∧ φ.f l = some (.list vs) ∧ True) (by kernel_rfl) ⟨Option.isNone_iff_eq_none.mpr hv, hl, trivial⟩ H.g).2⟩
theorem range_end {x i : Nat} {b : PS} (H : Gd K0 X0 φ ⟨.F .nxt, fr, n, hd, L, Λ, q0⟩) : Gd K0 X0 φ ⟨.R 0 x b i, fr, n, hd, L, Λ, q0⟩ :=
 ⟨(run_ok (K0 := K0) (X0 := X0) (φ := φ) 1 ((⟨.R 0 x b i, fr, n, hd, L, Λ, q0⟩ : Z).with (6 + 64) [] []) fun ν => EndE.inv (P := True) (by kernel_rfl) trivial H.g).2⟩
theorem WpS.pre {m : SM} {K : Fl → Loc → Fz → Lg → Prop} {X : Nat → Loc → Fz → Lg → Prop} (bs : List Bool) (w : WpS φ (Mine.drops bs Λ) m K X) : WpS φ Λ m K X := fun σ H => w σ (H.drops bs)
theorem Wp.pre {α : Type} {m : MM α} {K : α → Fz → Lg → Prop} {X : Nat → Fz → Lg → Prop} (bs : List Bool) (w : Wp φ (Mine.drops bs Λ) m K X) : Wp φ Λ m K X := fun σ H => w σ (H.drops bs)
noncomputable def sink (i : Nat) : Lg → Lg
 | [] => []
 | p :: Λ => Λ.take i ++ p :: Λ.drop i
theorem sink_perm (i : Nat) (Λ : Lg) : (sink i Λ).Perm Λ := by
 cases Λ with
 | nil => exact .refl _
 | cons p Λ => exact List.perm_middle.trans (.cons p (.of_eq (List.take_append_drop i Λ)))
theorem Hp.sink {σ : St} (i : Nat) (H : Hp φ Λ σ) : Hp φ (sink i Λ) σ := H.sub (fun _ h => (sink_perm i Λ).mem_iff.mp h) (((sink_perm i Λ).map _).nodup_iff.mpr H.nod)
theorem Gd.sinkL {x l i : Nat} {b : PS} (j : Nat) (H : Gd K0 X0 φ ⟨.L x l b i, fr, n, hd, L, sink j Λ, q⟩) : Gd K0 X0 φ ⟨.L x l b i, fr, n, hd, L, Λ, q⟩ := ⟨fun σ X => H.g σ (X.sink j)⟩
theorem Gd.preL {x l i : Nat} {b : PS} (bs : List Bool) (H : Gd K0 X0 φ ⟨.L x l b i, fr, n, hd, L, drops bs Λ, q⟩) : Gd K0 X0 φ ⟨.L x l b i, fr, n, hd, L, Λ, q⟩ := ⟨WpS.pre bs H.g⟩
theorem Gd.preW {t : PE} {b : PS} (bs : List Bool) (H : Gd K0 X0 φ ⟨.W t b, fr, n, hd, L, drops bs Λ, q⟩) : Gd K0 X0 φ ⟨.W t b, fr, n, hd, L, Λ, q⟩ := ⟨WpS.pre bs H.g⟩
theorem Gd.preR {k x i : Nat} {b : PS} (bs : List Bool) (H : Gd K0 X0 φ ⟨.R k x b i, fr, n, hd, L, drops bs Λ, q⟩) : Gd K0 X0 φ ⟨.R k x b i, fr, n, hd, L, Λ, q⟩ := ⟨WpS.pre bs H.g⟩
end
mutual
noncomputable def RIt (φ : Fz) : It → MV → Prop
 | .call j l, v => ∃ wl, v = .tup [.str "call", .ref wl] ∧ φ.f wl = some (.list [.str "r", .str j, .str l])
 | .idle, v => ∃ wl, v = .tup [.str "call", .ref wl] ∧ φ.f wl = some (.list [.str "o"])
 | .blk loop name its takes, v => ∃ il vs, v = .tup [.str (if loop then "loop" else "piece"), .str name, .ref il, .bool takes] ∧ φ.f il = some (.list vs) ∧ RIts φ its vs
noncomputable def RIts (φ : Fz) : Its → List MV → Prop
 | .nil, vs => vs = []
 | .cons i r, vs => ∃ v vs', vs = v :: vs' ∧ RIt φ i v ∧ RIts φ r vs'
end
mutual
theorem RIt.le {φ φ' : Fz} (h : φ.le φ') : ∀ (i : It) (v : MV), RIt φ i v → RIt φ' i v
 | .call j l, v, q => by rw [RIt] at *; obtain ⟨wl, a, b⟩ := q; exact ⟨wl, a, h.1 _ _ b⟩
 | .idle, v, q => by rw [RIt] at *; obtain ⟨wl, a, b⟩ := q; exact ⟨wl, a, h.1 _ _ b⟩
 | .blk a b its c, v, q => by rw [RIt] at *; obtain ⟨il, vs, x, y, z⟩ := q; exact ⟨il, vs, x, h.1 _ _ y, RIts.le h its vs z⟩
theorem RIts.le {φ φ' : Fz} (h : φ.le φ') : ∀ (i : Its) (v : List MV), RIts φ i v → RIts φ' i v
 | .nil, v, q => by rw [RIts] at *; exact q
 | .cons i r, v, q => by rw [RIts] at *; obtain ⟨a, b, c, d, e⟩ := q; exact ⟨a, b, c, RIt.le h i a d, RIts.le h r b e⟩
end
mutual
noncomputable def okI (P : Str → Str → Prop) : It → Prop
 | .call j l => P j l
 | .idle => True
 | .blk _ _ its _ => okIs P its
noncomputable def okIs (P : Str → Str → Prop) : Its → Prop
 | .nil => True
 | .cons i r => okI P i ∧ okIs P r
end
mutual
noncomputable def It.nd : It → Nat
 | .call _ _ => 0
 | .idle => 0
 | .blk _ _ its _ => its.nd + 1
noncomputable def Its.nd : Its → Nat
 | .nil => 0
 | .cons i r => i.nd + r.nd + 1
end
noncomputable abbrev itemsB : PS := b_law_items.rest.fst.fb
noncomputable abbrev itemsR : List Frm := [.seq b_law_items.rest.rest]
theorem idle_w {N : Nat} {φ : Fz} {k : Kw} {h : HS} {R : Lg} {K X} {wl : Nat} (hwl : φ.f wl = some (.list [.str "o"]))
 (kk : K (.str "idle") φ (HL k { h with sp := h.sp + 1 } R)) : Wp φ (HL k h R) (callN (N + 8) 35 [.ref k.ho, .ref wl] none) K X := by
 have k1 := cm_all k h.put
 exact W9 26119120076826140008125476270108147760405760432005337086693380 [MO.list [MV.str "o"], MO.list [MV.str "o"], MO.list [MV.str "o"]] [] (fun ν => (ai k1 (ai hwl (ai k1 (ai hwl (ai hwl trivial)))))) rfl (fun ν => kk) fun ν => by kernel_rfl
theorem strsOf_map : ∀ ts : List Str, strsOf (ts.map .str) = some ts
 | [] => rfl
 | t :: ts => by rw [List.map_cons, strsOf, strsOf_map ts]; rfl
section
variable {φ0 : Fz} {k : Kw} {w : Wl} {c D T B : Nat} {dm : Int} {fr l : Str} {cl : Cl}
noncomputable abbrev itemsZ (k : Kw) (N il tl : Nat) (L3 L4 : Option MV) (c : Ct) (Λ : Lg) : Z := ⟨c, itemsR, N, none, [some (.ref k.ho), some (.ref il), some (.ref tl), L3, L4], Λ, q0⟩
noncomputable def IK (K0 : MV → Fz → Lg → Prop) (X0 : Nat → Fz → Lg → Prop) (φ : Fz) (k : Kw) (h : HS) (R : Lg) (N il tl : Nat) (acc : List MV) : Rz (List Str) × SS → Prop
 | (.ok ts, s) => ∀ φ' p e sp L3 L4, φ.le φ' → Gd K0 X0 φ' (itemsZ k N il tl L3 L4 (.F .nxt) (HL k (h.aft s p e sp) ((tl, .list (acc ++ ts.map .str)) :: R)))
 | (.err x, s) => ∀ φ' p e sp ex t acc', φ.le φ' → X0 ex φ' ((ex, excO x t) :: HL k (h.aft s p e sp) ((tl, .list acc') :: R))
noncomputable def LoopP (φ0 : Fz) (k : Kw) (w : Wl) (c D T : Nat) (dm : Int) (fr l : Str) (cl : Cl) (its : Its) : Prop :=
 okIs (fun j l' => GoodJ k w j ∧ l' = l) its → ∀ N, c + 2 * its.dep + 8 ≤ N → ∀ φ h R K0 X0 il tl acc pre vs L3 L4, φ0.le φ → h.fr = fr → h.dp ≤ dm → h.log.length + D * its.wt ≤ 500000 → T * its.wt ≤ 500000 → its.wt ≤ 500 → acc.length + its.len ≤ 1000 →
  φ.f il = some (.list (pre ++ vs)) → RIts φ its vs → IK K0 X0 φ k h R N il tl acc (evTs cl its h.ss) →
  Gd K0 X0 φ (itemsZ k N il tl L3 L4 (.L 3 il itemsB pre.length) (HL k h ((tl, .list acc) :: R)))
noncomputable def ItsP (φ0 : Fz) (k : Kw) (w : Wl) (c D T : Nat) (dm : Int) (fr l : Str) (cl : Cl) (its : Its) : Prop :=
 okIs (fun j l' => GoodJ k w j ∧ l' = l) its → ∀ N, c + 2 * its.dep + 9 ≤ N → ∀ φ h R K X il vs, φ0.le φ → h.fr = fr → h.dp ≤ dm → h.log.length + D * its.wt ≤ 500000 → T * its.wt ≤ 500000 → its.wt ≤ 500 →
  φ.f il = some (.list vs) → RIts φ its vs → PK φ k h R (evL cl its h.ss) K X → Wp φ (HL k h R) (callN N 83 [.ref k.ho, .ref il] none) K X
theorem len_wt : ∀ its : Its, its.len ≤ its.wt
 | .nil => Nat.le_refl _
 | .cons i r => by
  have := len_wt r
  have : 1 ≤ i.wt := by cases i <;> (rw [It.wt]; lia)
  rw [Its.len, Its.wt]; lia
noncomputable abbrev tt (b : Bool) : List Bool := [true, true, true, true, true, b]
theorem itsW_of (hT : 4 ≤ T) (okc : OkC D T B cl) (its : Its) (hl : LoopP φ0 k w c D T dm fr l cl its) : ItsP φ0 k w c D T dm fr l cl its := by
 intro ok N hN φ h R K X il vs hle hfr hdp hlog hT2 hwt hil hr kk
 obtain ⟨N, rfl⟩ : ∃ m, N = m + 1 := ⟨N - 1, by lia⟩
 refine Wp.drops (tt false) (true :: tt false) ?_
 have IH := fun tl => hl ok N (by lia) φ h R (fun v φ Λ => K v φ (drops (tt false) Λ)) (fun e φ Λ => X e φ (drops (true :: tt false) Λ)) il tl [] [] vs none none hle hfr hdp hlog hT2 hwt (by have := len_wt its; rw [List.length_nil]; lia) hil hr
 have fin : ∀ tl, IK (fun v φ Λ => K v φ (drops (tt false) Λ)) (fun e φ Λ => X e φ (drops (true :: tt false) Λ)) φ k h R N il tl [] (evTs cl its h.ss) := fun tl => by
  have bd := evTs_ok hT okc its h.ss
  unfold evL at kk
  revert kk bd
  generalize evTs cl its h.ss = r
  obtain ⟨r, s⟩ := r
  intro kk bd
  cases r with
  | ok ts =>
   intro φ' p e sp L3 L4 hle'
   have hs : (strsOf ([] ++ ts.map .str)).map (fun l => MV.str (j9 l)) = some (.str (j9 ts)) := by rw [List.nil_append, strsOf_map]; rfl
   have hb : decide ((j9 ts).length ≤ LIM) = true := decide_eq_true (Nat.le_trans bd.1 (Nat.le_trans hT2 (by decide)))
   exact o9 17322816 [] [MV.str (j9 ts)] (fun ν => (ai hb (ai hs trivial))) (fun ν => kk φ' p e sp hle') fun ν => by kernel_rfl
  | err x =>
   intro φ' p e sp ex t acc' hle'
   exact kk φ' p e sp ex t hle'
 exact W9 1 [] [] (fun ν => trivial) rfl (fun ν => (Gd.sinkL (Λ := ((φ.fr (ν 5)), .list []) :: HL k h R) 5 (IH (φ.fr (ν 5)) (fin (φ.fr (ν 5))))).g) fun ν => by kernel_rfl
theorem at_mid (pre : List MV) (v : MV) (vs : List MV) : (pre ++ v :: vs)[pre.length]? = some v := by rw [List.getElem?_append_right (Nat.le_refl _), Nat.sub_self]; rfl
theorem at_end (pre : List MV) : (pre ++ [])[pre.length]? = none := by rw [List.append_nil]; exact List.getElem?_eq_none (Nat.le_refl _)
theorem loopW (hT : 4 ≤ T) (okc : OkC D T B cl) (hC : CW φ0 k w c D dm fr l cl) : ∀ m (its : Its), its.nd ≤ m → LoopP φ0 k w c D T dm fr l cl its := fun m => by
 induction m with
 | zero =>
  intro its hm
  cases its with
  | cons i r => exact absurd hm (Nat.not_succ_le_zero _)
  | nil =>
   intro ok N hN φ h R K0 X0 il tl acc pre vs L3 L4 hle hfr hdp hlog hT2 hwt hacc hil hr kk
   rw [RIts] at hr
   subst hr
   have := kk φ h.put h.ep h.sp L3 L4 (.refl _)
   rw [List.map_nil, List.append_nil] at this
   exact loop_end hil (at_end pre) this
 | succ m ih =>
  intro its hm
  cases its with
  | nil => exact ih _ (Nat.zero_le _)
  | cons i r =>
   intro ok N hN φ h R K0 X0 il tl acc pre vs L3 L4 hle hfr hdp hlog hT2 hwt hacc hil hr kk
   rw [Its.nd] at hm
   rw [RIts] at hr
   obtain ⟨v, vs', rfl, hri, hrr⟩ := hr
   rw [okIs] at ok
   rw [Its.wt, Nat.mul_add] at hlog hT2
   rw [Its.wt] at hwt
   rw [Its.dep] at hN
   rw [Its.len] at hacc
   have hv := at_mid pre v vs'
   have ha : decide (acc.length < LIM) = true := decide_eq_true (Nat.lt_of_lt_of_le (Nat.lt_of_lt_of_le (Nat.lt_add_of_pos_right (Nat.succ_pos _)) hacc) (by decide))
   have gr := evI_gr okc i h.ss
   have e0 : h.ss.log.length = h.log.length := rfl
   rw [evTs] at kk
   have nx : ∀ t s, evI cl i h.ss = (.ok t, s) → ∀ φ' p e sp L4', φ.le φ' → Gd K0 X0 φ' (itemsZ k N il tl (some v) L4' (.L 3 il itemsB (pre.length + 1)) (HL k (h.aft s p e sp) ((tl, .list (acc ++ [.str t])) :: R))) := by
    intro t s hs φ' p e sp L4' hle'
    rw [hs] at kk gr
    dsimp only at kk gr
    have := ih r (by lia) ok.2 N (by lia) φ' (h.aft s p e sp) R K0 X0 il tl (acc ++ [.str t]) (pre ++ [v]) vs' (some v) L4' (hle.trans hle') hfr hdp (by dsimp only; lia) (by lia) (by lia) (by rw [List.length_append]; exact Nat.le_trans (by rw [Nat.add_assoc]; exact Nat.le_of_eq (congrArg (acc.length + ·) (Nat.add_comm 1 r.len))) hacc)
     (by rw [List.append_assoc]; exact hle'.1 _ _ hil) (RIts.le hle' _ _ hrr) ?_
    · rw [List.length_append] at this
      exact this
    · revert kk
      rw [show (h.aft s p e sp).ss = s from rfl]
      generalize evTs cl r s = q2
      obtain ⟨q2, s2⟩ := q2
      intro kk
      cases q2 with
      | ok ts =>
       intro φ2 p2 e2 sp2 L32 L42 hle2
       have := kk φ2 p2 e2 sp2 L32 L42 (hle'.trans hle2)
       rw [List.append_assoc]
       exact this
      | err x =>
       intro φ2 p2 e2 sp2 ex2 t2 acc2 hle2
       exact kk φ2 p2 e2 sp2 ex2 t2 acc2 (hle'.trans hle2)
   have nex : ∀ x s, evI cl i h.ss = (.err x, s) → ∀ φ' p e sp ex t acc', φ.le φ' → X0 ex φ' ((ex, excO x t) :: HL k (h.aft s p e sp) ((tl, .list acc') :: R)) := by
    intro x s hs
    rw [hs] at kk
    exact kk
   clear kk gr
   cases i with
   | call j l' =>
    rw [RIt] at hri
    rw [okI] at ok
    obtain ⟨wl, rfl, hwl⟩ := hri
    obtain ⟨⟨hg, rfl⟩, _⟩ := ok
    rw [It.wt] at hlog
    rw [It.dep] at hN
    refine onC 35 N none (fun ν => [MV.ref k.1, MV.ref wl]) (fun ν => HL k h ((tl, .list acc) :: R)) 73934750657611321606 [MO.list (pre ++ MV.tup [MV.str "call", MV.ref wl] :: vs')] [MV.tup [MV.str "call", MV.ref wl]] (fun ν => (ai hv (ai hil trivial))) (fun ν => by kernel_rfl) fun ν K' X' kv kx => ?_
    refine hC j hg N (by lia) φ h _ _ _ wl hle hfr hdp (by lia) hwl ?_
    rw [evI] at nx nex
    revert nx
    revert nex
    generalize cl j l' h.ss = r
    obtain ⟨r, s⟩ := r
    intro nex nx
    cases r with
    | ok t =>
     intro φ' p e sp hle'
     refine kv _ _ _ hle' ?_
     exact o9 4237 [] [] (fun ν => (ai ha trivial)) (fun ν => (nx t s rfl φ' p e sp L4 hle').g) fun ν => by kernel_rfl
    | err x =>
     intro φ' p e sp ex t hle'
     refine kx _ _ _ hle' ?_
     exact o9 1 [] [] (fun ν => trivial) (fun ν => nex x s rfl φ' p e sp ex t acc hle') fun ν => by kernel_rfl
   | idle =>
    rw [RIt] at hri
    obtain ⟨wl, rfl, hwl⟩ := hri
    obtain ⟨N, rfl⟩ : ∃ m, N = m + 8 := ⟨N - 8, by lia⟩
    refine onC 35 (N + 8) none (fun ν => [MV.ref k.1, MV.ref wl]) (fun ν => HL k h ((tl, .list acc) :: R)) 73934750657611321606 [MO.list (pre ++ MV.tup [MV.str "call", MV.ref wl] :: vs')] [MV.tup [MV.str "call", MV.ref wl]] (fun ν => (ai hv (ai hil trivial))) (fun ν => by kernel_rfl) fun ν K' X' kv kx => ?_
    refine idle_w hwl (kv _ _ _ (.refl _) ?_)
    rw [evI] at nx
    exact o9 4237 [] [] (fun ν => (ai ha trivial)) (fun ν => (nx _ _ rfl φ h.put h.ep (h.sp + 1) L4 (.refl _)).g) fun ν => by kernel_rfl
   | blk loop name its takes =>
    rw [It.nd] at hm
    have hI := itsW_of hT okc its (ih its (by lia))
    rw [RIt] at hri
    rw [okI] at ok
    obtain ⟨il2, vs2, rfl, hil2, hrs⟩ := hri
    rw [It.wt, Nat.mul_add] at hlog hT2
    rw [It.wt] at hwt
    rw [It.dep] at hN
    rw [evI] at nx nex
    have hI2 := fun K1 X1 h1 => hI ok.1 N (by lia) φ h ((tl, .list acc) :: R) K1 X1 il2 vs2 hle hfr hdp (by lia) (by lia) (by lia) hil2 hrs h1
    unfold evL at hI2
    revert nx
    revert nex
    revert hI2
    generalize evTs cl its h.ss = r
    obtain ⟨r, s⟩ := r
    intro hI2 nex nx
    cases loop with
    | false =>
     rw [if_neg Bool.false_ne_true] at *
     refine onC 83 N none (fun ν => [MV.ref k.1, MV.ref il2]) (fun ν => HL k h ((tl, .list acc) :: R)) 1241869048199132286482927878 [MO.list (pre ++ MV.tup [MV.str "piece", MV.str name, MV.ref il2, MV.bool takes] :: vs')] [MV.tup [MV.str "piece", MV.str name, MV.ref il2, MV.bool takes]] (fun ν => (ai hv (ai hil trivial))) (fun ν => by kernel_rfl) fun ν K' X' kv kx => ?_
     refine hI2 _ _ ?_
     cases r with
     | ok t =>
      intro φ' p e sp hle'
      refine kv _ _ _ hle' ?_
      exact o9 4237 [] [] (fun ν => (ai ha trivial)) (fun ν => (nx _ _ rfl φ' p e sp L4 hle').g) fun ν => by kernel_rfl
     | err x =>
      intro φ' p e sp ex t hle'
      refine kx _ _ _ hle' ?_
      exact o9 1 [] [] (fun ν => trivial) (fun ν => nex _ _ rfl φ' p e sp ex t acc hle') fun ν => by kernel_rfl
    | true =>
     rw [if_pos rfl] at *
     refine onC 83 N none (fun ν => [MV.ref k.1, MV.ref il2]) (fun ν => HL k h ((tl, .list acc) :: R)) 1241873844352591450966348038 [MO.list (pre ++ MV.tup [MV.str "loop", MV.str name, MV.ref il2, MV.bool takes] :: vs')] [MV.tup [MV.str "loop", MV.str name, MV.ref il2, MV.bool takes]] (fun ν => (ai hv (ai hil trivial))) (fun ν => by kernel_rfl) fun ν K' X' kv kx => ?_
     refine hI2 _ _ ?_
     cases r with
     | ok t =>
      intro φ' p e sp hle'
      refine kv _ _ _ hle' ?_
      exact o9 4237 [] [] (fun ν => (ai ha trivial)) (fun ν => (nx _ _ rfl φ' p e sp L4 hle').g) fun ν => by kernel_rfl
     | err x =>
      intro φ' p e sp ex t hle'
      refine kx _ _ _ hle' ?_
      unfold joinR catchR takesX letX at nx nex
      dsimp only at nx nex
      by_cases c3 : x.code = 3
      · rw [if_pos (by rw [c3]; rfl), if_pos c3] at nx
        have b3 := q9 c3
        exact o9 20013391460280713165406216 [] [] (fun ν => (ai ha (ai b3 (ai (congrArg not b3) trivial)))) (fun ν => (Gd.preL (Λ := (ex, excO x t) :: HL k (h.aft s p e sp) ((tl, .list (acc ++ [.str "B"])) :: R)) [false] (nx _ _ rfl φ' p e sp none hle')).g) fun ν => by kernel_rfl
      · by_cases c4 : x.code = 4
        · cases takes with
          | true =>
           rw [if_pos (by rw [c4]; rfl), if_neg c3] at nx
           have b3 := n9 c3
           have b4 := q9 c4
           exact o9 360530559288943565478958522072254223220744 [] [] (fun ν => (ai ha (ai b3 (ai b4 (ai (congrArg not b3) trivial))))) (fun ν => (Gd.preL (Λ := (ex, excO x t) :: HL k (h.aft s p e sp) ((tl, .list (acc ++ [.str "C"])) :: R)) [false] (nx _ _ rfl φ' p e sp none hle')).g) fun ν => by kernel_rfl
          | false =>
           rw [if_neg (by rw [c4]; decide)] at nex
           have b3 := n9 c3
           have b4 := q9 c4
           exact o9 5238962251051883345496121016328 [] [] (fun ν => (ai (ble_self ex) (ai b4 (ai (congrArg not b3) trivial)))) (fun ν => nex _ _ rfl φ' p e sp ex t acc hle') fun ν => by kernel_rfl
        · have f : (true && (x.code == 3 || x.code == 4 && takes)) = false := by rw [n9 c3, n9 c4]; rfl
          rw [if_neg (by rw [f]; decide)] at nex
          have b3 := n9 c3
          have b4 := n9 c4
          exact o9 19985054974363170574434312 [] [] (fun ν => (ai (ble_self ex) (ai b4 (ai (congrArg not b3) trivial)))) (fun ν => nex _ _ rfl φ' p e sp ex t acc hle') fun ν => by kernel_rfl
end
structure Bk (φ : Fz) (k : Kw) (pn : Str) (its : Its) : Prop where
 ks : (k.bd.all fun p => isStrK p.1) = true
 lk : ∃ il vs, lookK (.str pn) k.bd = some (.ref il) ∧ φ.f il = some (.list vs) ∧ RIts φ its vs
theorem Bk.le {φ φ' : Fz} {k : Kw} {pn : Str} {its : Its} (b : Bk φ k pn its) (h : φ.le φ') : Bk φ' k pn its := by
 obtain ⟨a, il, vs, b, c, d⟩ := b
 exact ⟨a, il, vs, b, h.1 _ _ c, d.le h⟩
theorem HL_dp (k : Kw) (h : HS) (R : Lg) : HL k { h with dp := h.dp + 1 - 1 } R = HL k h R := by rw [Int.add_sub_cancel]
section
variable {φ0 : Fz} {k : Kw} {w : Wl} {c D T B : Nat} {dm : Int} {l pn : Str} {cl : Str → Cl} {its : Its}
theorem run_w (wd : Wd φ0 k) (hT : 4 ≤ T) (okc : ∀ fr, OkC D T B (cl fr)) (hC : ∀ fr, CW φ0 k w c D (dm + 1) fr l (cl fr)) (hdm : dm ≤ 38)
 (b : Bk φ0 k pn its) (ok : okIs (fun j l' => GoodJ k w j ∧ l' = l) its) (hT2 : T * its.wt ≤ 500000) (hwt : its.wt ≤ 500) :
 NxW φ0 k (c + 2 * its.dep + 14) (D * its.wt) dm pn (fun fr s => evL (cl fr) its s) := by
 intro N hN φ h R K X hle hdp hlog kk
 obtain ⟨N, rfl⟩ : ∃ m, N = m + 5 := ⟨N - 5, by lia⟩
 obtain ⟨ks, il, vs, lk, hil, hr⟩ := b.le hle
 have wd' := wd.le hle
 have b1 : decide (40 ≤ h.dp) = false := decide_eq_false (by lia)
 refine walkC 83 (N + 3) none (fun ν => [MV.ref k.1, MV.ref il]) (fun ν => HL k { h with dp := h.dp + 1 } R) 1539470095143253984309869250690460785150538248 [MO.dict [(MV.str "book", MV.ref k.bk), (MV.str "run", MV.fn 84)], MO.dict [(MV.str "book", MV.ref k.bk), (MV.str "run", MV.fn 84)], MO.dict [(MV.str "book", MV.ref k.bk), (MV.str "run", MV.fn 84)], MO.dict k.bd] [MV.ref il] (fun ν => (ai lk (ai ks (ai wd'.bk (ai wd'.tl (ai wd'.tl (ai wd'.tl (ai b1 trivial)))))))) rfl (fun ν => by kernel_rfl) fun ν K' X' kv kx => ?_
 have hI := itsW_of hT (okc h.fr) its (loopW hT (okc h.fr) (hC h.fr) _ its (Nat.le_refl _))
 refine hI ok _ (by lia) φ { h with dp := h.dp + 1 } R _ _ il vs hle rfl (by dsimp only; lia) hlog hT2 hwt hil hr ?_
 dsimp only at kk
 revert kk
 rw [show ({ h with dp := h.dp + 1 } : HS).ss = h.ss from rfl]
 generalize evL (cl h.fr) its h.ss = r
 obtain ⟨r, s⟩ := r
 intro kk
 cases r with
 | ok t =>
  intro φ' p e' sp hle'
  refine kv _ _ _ hle' ?_
  exact o9 4616 [] [] (fun ν => trivial) (fun ν => (congrArg (K (.str t) φ') (HL_dp k (h.aft s p e' sp) R)).mpr (kk φ' p e' sp hle')) fun ν => by kernel_rfl
 | err x =>
  intro φ' p e' sp ex t hle'
  refine kx _ _ _ hle' ?_
  exact o9 4681 [] [] (fun ν => trivial) (fun ν => (congrArg (fun Λ => X ex φ' ((ex, excO x t) :: Λ)) (HL_dp k (h.aft s p e' sp) R)).mpr (kk φ' p e' sp ex t hle')) fun ν => by kernel_rfl
end
noncomputable abbrev pushR (s : Str) : MV := .tup [.str "push", .str s, .none]
noncomputable abbrev invR (n : Nat) : MV := .tup [.str "invoke", .int n, .none]
noncomputable abbrev jumpR (n : Nat) : MV := .tup [.str "jump", .int n, .none]
noncomputable abbrev joinRw (n : Nat) : MV := .tup [.str "join", .int n, .none]
noncomputable abbrev startR (s : Str) (n : Nat) : MV := .tup [.str "start", .str s, .int n]
structure Rg where
 first : Nat
 behind : Nat
 tb : Nat
 tc : Option Nat
 dep : Nat
mutual
noncomputable def It.sz : It → Nat
 | .call _ _ => 4
 | .idle => 2
 | .blk loop _ its _ => 2 + its.sz + (if loop then 4 else 0)
noncomputable def Its.sz : Its → Nat
 | .nil => 0
 | .cons i r => i.sz + r.sz
end
noncomputable def loopE (loop : Bool) (b : Nat) : List MV := if loop then [jumpR (b + 4), pushR "B", jumpR (b + 4), pushR "C"] else []
noncomputable def loopG (loop takes : Bool) (p b d : Nat) : List Rg := if loop then [⟨p, b, b + 1, if takes then some (b + 3) else none, d⟩] else []
mutual
noncomputable def rowsI : It → Nat → List MV
 | .call j l, _ => [pushR "r", pushR j, pushR l, invR 3]
 | .idle, _ => [pushR "o", invR 1]
 | .blk loop nm its _, p => startR nm (p + 2 + its.sz + (if loop then 4 else 0)) :: (rowsT its (p + 1) ++ (joinRw its.len :: loopE loop (p + 2 + its.sz)))
noncomputable def rowsT : Its → Nat → List MV
 | .nil, _ => []
 | .cons i r, p => rowsI i p ++ rowsT r (p + i.sz)
end
mutual
noncomputable def rngI : It → Nat → Nat → List Rg
 | .call _ _, _, _ => []
 | .idle, _, _ => []
 | .blk loop _ its takes, p, d => rngT its (p + 1) d ++ loopG loop takes (p + 1) (p + 2 + its.sz) d
noncomputable def rngT : Its → Nat → Nat → List Rg
 | .nil, _, _ => []
 | .cons i r, p, d => rngI i p d ++ rngT r (p + i.sz) (d + 1)
end
mutual
theorem rowsI_len : ∀ (i : It) (p : Nat), (rowsI i p).length = i.sz
 | .call _ _, _ => rfl
 | .idle, _ => rfl
 | .blk loop nm its _, p => by
  have := rowsT_len its (p + 1)
  rw [rowsI, It.sz]
  unfold loopE
  cases loop <;> (simp [this]; lia)
theorem rowsT_len : ∀ (i : Its) (p : Nat), (rowsT i p).length = i.sz
 | .nil, _ => rfl
 | .cons i r, p => by rw [rowsT, List.length_append, rowsI_len, rowsT_len, Its.sz]
end
mutual
theorem rngI_in : ∀ (i : It) (p d : Nat), ∀ r ∈ rngI i p d, p < r.first ∧ r.behind + 1 ≤ p + i.sz
 | .call _ _, _, _, r, h => by rw [rngI] at h; cases h
 | .idle, _, _, r, h => by rw [rngI] at h; cases h
 | .blk loop nm its takes, p, d, r, h => by
  rw [rngI] at h
  rw [It.sz]
  rcases List.mem_append.mp h with h | h
  · have := rngT_in its (p + 1) d r h
    exact ⟨by lia, by lia⟩
  · unfold loopG at h
    cases loop with
    | false => simp at h
    | true =>
     simp at h
     subst h
     dsimp only
     simp
     lia
theorem rngT_in : ∀ (i : Its) (p d : Nat), ∀ r ∈ rngT i p d, p < r.first ∧ r.behind ≤ p + i.sz
 | .nil, _, _, r, h => by rw [rngT] at h; cases h
 | .cons i r', p, d, r, h => by
  rw [rngT] at h
  rw [Its.sz]
  rcases List.mem_append.mp h with h | h
  · have := rngI_in i p d r h
    exact ⟨this.1, by lia⟩
  · have := rngT_in r' _ _ r h
    exact ⟨by lia, by lia⟩
end
noncomputable def Rg.takes (r : Rg) (q : Nat) (cd : Int) : Bool := decide (r.first ≤ q) && decide (q < r.behind) && (cd == 3 || (cd == 4 && r.tc.isSome))
noncomputable def tk : List Rg → Nat → Int → Option Rg
 | [], _, _ => none
 | r :: rs, q, cd => if r.takes q cd then some r else tk rs q cd
theorem tk_app (A B : List Rg) (q : Nat) (cd : Int) : tk (A ++ B) q cd = (tk A q cd).or (tk B q cd) := by
 induction A with
 | nil => rfl
 | cons r A ih =>
  rw [List.cons_append, tk, tk]
  split
  · rfl
  · exact ih
theorem tk_out {A : List Rg} {q : Nat} {cd : Int} (h : ∀ r ∈ A, q < r.first ∨ r.behind ≤ q) : tk A q cd = none := by
 induction A with
 | nil => rfl
 | cons r A ih =>
  rw [tk, if_neg, ih fun r hr => h r (.tail _ hr)]
  have := h r (.head _)
  unfold Rg.takes
  simp
  lia
theorem tk_rngT_out {its : Its} {p d q : Nat} {cd : Int} (h : q ≤ p ∨ p + its.sz ≤ q) : tk (rngT its p d) q cd = none :=
 tk_out fun r hr => by have := rngT_in its p d r hr; lia
theorem tk_rngI_out {i : It} {p d q : Nat} {cd : Int} (h : q ≤ p ∨ p + i.sz ≤ q + 1) : tk (rngI i p d) q cd = none := by
 cases i with
 | call => rfl
 | idle => rfl
 | blk loop nm its takes =>
  rw [rngI, tk_app, tk_rngT_out (by rw [It.sz] at h; split at h <;> lia)]
  unfold loopG
  cases loop with
  | false => rfl
  | true =>
   rw [It.sz] at h
   simp at h
   exact tk_out fun r hr => by simp at hr; subst hr; dsimp only; lia
structure AC where
 rows : List MV
 rgs : List Rg
 ep : Int
 pc : Nat
 st : List Str
 ip : Bool
 bk : Option Str
noncomputable abbrev codeOf (its : Its) (ep : Int) (ip : Bool) (bk : Option Str) : AC := ⟨rowsT its 0 ++ [joinRw its.len], rngT its 0 0, ep, 0, [], ip, bk⟩
noncomputable abbrev HS.lv (h : HS) (bk : Option Str) : HS := { h with fr := bk.getD h.fr }
noncomputable def oneR : Rz Str × SS → Rz (List Str) × SS
 | (.ok t, s) => (.ok [t], s)
 | (.err x, s) => (.err x, s)
noncomputable abbrev evN (cl : Str → Cl) (its : Its) : Str → SS → Rz Str × SS := fun fr s => evL (cl fr) its s
structure MR (co : Bool) (w : Wl) (k : Kw) (book : Str → Option Its) (PO : Str → Nat → (Str → SS → Rz Str × SS) → Prop)
 (LW : Nat → List AC → HS → Prop) (UW : Nat → List AC → HS → AX → Prop) (LD : Nat → Str → HS → Prop) (UE : Nat → HS → AX → Prop) : Prop where
 mono : ∀ b b' A h, b ≤ b' → LW b A h → LW b' A h
 umono : ∀ b b' A h x, b ≤ b' → UW b A h x → UW b' A h x
 push : ∀ (b : Nat) (a : AC) (r : List AC) (h : HS) (s : Str), a.rows[a.pc]? = some (pushR s) → LW b ({ a with pc := a.pc + 1, st := a.st ++ [s] } :: r) h → LW (b + 1) (a :: r) h
 jump : ∀ (b : Nat) (a : AC) (r : List AC) (h : HS) (to : Nat), a.rows[a.pc]? = some (jumpR to) → a.pc < to → LW b ({ a with pc := to } :: r) h → LW (b + 1) (a :: r) h
 join : ∀ (b : Nat) (a : AC) (r : List AC) (h : HS) (S ts : List Str) (n : Nat), a.rows[a.pc]? = some (joinRw n) → ts.length = n → a.st = S ++ ts → (j9 ts).length ≤ LIM → LW b ({ a with pc := a.pc + 1, st := S ++ [j9 ts] } :: r) h → LW (b + 1) (a :: r) h
 fin : ∀ (b : Nat) (a a2 : AC) (r : List AC) (h : HS) (t : Str), a.rows.length ≤ a.pc → a.st = [t] → LW b ({ a2 with st := a2.st ++ [t] } :: r) (h.lv a.bk) → LW (b + 1) (a :: a2 :: r) h
 last : ∀ (b : Nat) (a : AC) (h : HS) (t : Str), a.rows.length ≤ a.pc → a.st = [t] → LD b t (h.lv a.bk) → LW (b + 1) [a] h
 same : ∀ (b : Nat) (a : AC) (r : List AC) (h : HS) (nm : Str) (to : Nat), a.rows[a.pc]? = some (startR nm to) → a.ep = h.ep → LW b ({ a with pc := a.pc + 1 } :: r) h → LW (b + 1) (a :: r) h
 entr : co = true → ∀ (b : Nat) (a : AC) (r : List AC) (h : HS) (nm : Str) (to : Nat) (its : Its), a.rows[a.pc]? = some (startR nm to) → a.ep ≠ h.ep → book nm = some its → r.length ≤ 30 →
  LW b (codeOf its h.ep false none :: { a with pc := to } :: r) h → LW (b + 1) (a :: r) h
 plain : co = false → ∀ (b : Nat) (a : AC) (r : List AC) (h : HS) (nm : Str) (to D : Nat) (ev : Str → SS → Rz Str × SS), a.rows[a.pc]? = some (startR nm to) → a.ep ≠ h.ep → PO nm D ev →
  (match ev h.fr h.ss with
   | (.ok t, s) => ∀ p e sp, LW b ({ a with pc := to, st := a.st ++ [t] } :: r) (h.aft s p e sp)
   | (.err x, s) => ∀ p e sp, UW b ({ a with pc := a.pc + 1 } :: r) (h.aft s p e sp) x) → LW (b + D + 1) (a :: r) h
 idle : ∀ (b : Nat) (a : AC) (r : List AC) (h : HS) (S : List Str), a.rows[a.pc]? = some (invR 1) → a.st = S ++ [("o" : Str)] → (∀ sp, LW b ({ a with pc := a.pc + 1, st := S ++ [("idle" : Str)] } :: r) { h with sp := sp }) → LW (b + 1) (a :: r) h
 flat : ∀ (b : Nat) (a : AC) (r : List AC) (h : HS) (S : List Str) (j l v : Str) (m : Int), a.rows[a.pc]? = some (invR 3) → a.st = S ++ [("r" : Str), j, l] → GoodJ k w j → (w.deed j = (.text, v, m) ∨ w.deed j = (.put, v, m) ∨ (w.deed j = (.nest, v, m) ∧ ¬ (l ≠ "2" ∧ h.c1 < 4))) →
  (∀ p e sp, LW b ({ a with pc := a.pc + 1, st := S ++ [v] } :: r) (h.aft ⟨h.log ++ [callE j l h.fr], h.c0, h.c1⟩ p e sp)) → LW (b + 1) (a :: r) h
 turn : ∀ (b : Nat) (a : AC) (r : List AC) (h : HS) (S : List Str) (j l v : Str) (m : Int), a.rows[a.pc]? = some (invR 3) → a.st = S ++ [("r" : Str), j, l] → GoodJ k w j → w.deed j = (.turn, v, m) →
  (∀ p e sp, LW b ({ a with pc := a.pc + 1, st := S ++ [w.ans h.c0] } :: r) (h.aft ⟨h.log ++ [callE j l h.fr] ++ [turnE m v], h.c0 + 1, h.c1⟩ p e sp)) → LW (b + 1) (a :: r) h
 rais : ∀ (b : Nat) (a : AC) (r : List AC) (h : HS) (S : List Str) (j l v : Str) (m : Int), a.rows[a.pc]? = some (invR 3) → a.st = S ++ [("r" : Str), j, l] → GoodJ k w j → w.deed j = (.raise, v, m) →
  (∀ p e sp, UW b ({ a with pc := a.pc + 1, st := S } :: r) (h.aft ⟨h.log ++ [callE j l h.fr], h.c0, h.c1⟩ p e sp) (raiseX v m)) → LW (b + 1) (a :: r) h
 nest : ∀ (b : Nat) (a : AC) (r : List AC) (h : HS) (S : List Str) (j l v : Str) (m : Int) (its : Its), a.rows[a.pc]? = some (invR 3) → a.st = S ++ [("r" : Str), j, l] → GoodJ k w j → w.deed j = (.nest, v, m) → l ≠ "2" → h.c1 < 4 → book (if l = "0" then "P1" else "P2") = some its → r.length ≤ 30 →
  (∀ sp, LW b (codeOf its h.ep (m % 2 == 1) (if m / 2 % 2 = 0 then some h.fr else none) :: { a with pc := a.pc + 1, st := S } :: r)
   { h with log := h.log ++ [callE j l h.fr], c1 := h.c1 + 1, fr := if m / 2 % 2 = 0 then "f" ++ j else h.fr, sp := sp }) → LW (b + 1) (a :: r) h
 catc : ∀ (b : Nat) (a : AC) (r : List AC) (h : HS) (x : AX) (rg : Rg), 0 < a.pc → tk a.rgs (a.pc - 1) x.code = some rg → rg.dep ≤ a.st.length → LW b ({ a with pc := if x.code = 4 then rg.tc.getD 0 else rg.tb, st := a.st.take rg.dep } :: r) h → UW b (a :: r) h x
 drop : ∀ (b : Nat) (a : AC) (r : List AC) (h : HS) (x : AX), 0 < a.pc → tk a.rgs (a.pc - 1) x.code = none → a.ip = false → UW b r (h.lv a.bk) x → UW b (a :: r) h x
 proc : ∀ (b : Nat) (a a2 : AC) (r : List AC) (h : HS) (x : AX), 0 < a.pc → tk a.rgs (a.pc - 1) x.code = none → a.ip = true → x.info.length ≤ 1000 → x.value.length ≤ 1000 →
  (match endProc x with
   | .ok t => LW b ({ a2 with st := a2.st ++ [t] } :: r) (h.lv a.bk)
   | .err y => UW b (a2 :: r) (h.lv a.bk) y) → UW (b + 1) (a :: a2 :: r) h x
 out : ∀ b h x, UE b h x → UW b [] h x
noncomputable def AtR (rows : List MV) (pc : Nat) (l : List MV) : Prop := ∃ A B, rows = A ++ l ++ B ∧ A.length = pc
theorem AtR.get {rows l : List MV} {x : MV} {pc : Nat} (h : AtR rows pc (x :: l)) : rows[pc]? = some x := by
 obtain ⟨A, B, rfl, rfl⟩ := h
 simp
theorem AtR.app {rows l l2 : List MV} {pc : Nat} (h : AtR rows pc (l ++ l2)) : AtR rows pc l ∧ AtR rows (pc + l.length) l2 := by
 obtain ⟨A, B, rfl, rfl⟩ := h
 exact ⟨⟨A, l2 ++ B, by simp, rfl⟩, ⟨A ++ l, B, by simp, by simp⟩⟩
theorem AtR.tl {rows l : List MV} {x : MV} {pc : Nat} (h : AtR rows pc (x :: l)) : AtR rows (pc + 1) l := (AtR.app (l := [x]) h).2
section
variable {co : Bool} {w : Wl} {k : Kw} {book : Str → Option Its} {PO : Str → Nat → (Str → SS → Rz Str × SS) → Prop}
 {LW : Nat → List AC → HS → Prop} {UW : Nat → List AC → HS → AX → Prop} {LD : Nat → Str → HS → Prop} {UE : Nat → HS → AX → Prop}
noncomputable def CP (LW : Nat → List AC → HS → Prop) (UW : Nat → List AC → HS → AX → Prop) (b : Nat) (a : AC) (r : List AC) (h : HS) (to : Nat) : Rz Str × SS → Prop
 | (.ok t, s) => ∀ p e sp, LW b ({ a with pc := to, st := a.st ++ [t] } :: r) (h.aft s p e sp)
 | (.err x, s) => ∀ p e sp, UW b ({ a with pc := to } :: r) (h.aft s p e sp) x
noncomputable def IP (LW : Nat → List AC → HS → Prop) (UW : Nat → List AC → HS → AX → Prop) (b : Nat) (a : AC) (r : List AC) (h : HS) (lo hi : Nat) (hnd : Int → Option Rg) : Rz (List Str) × SS → Prop
 | (.ok ts, s) => ∀ p e sp, LW b ({ a with pc := hi, st := a.st ++ ts } :: r) (h.aft s p e sp)
 | (.err x, s) => ∀ p e sp pc' S, lo < pc' → pc' ≤ hi → tk a.rgs (pc' - 1) x.code = hnd x.code → UW b ({ a with pc := pc', st := a.st ++ S } :: r) (h.aft s p e sp) x
noncomputable def CallM (w : Wl) (k : Kw) (LW : Nat → List AC → HS → Prop) (UW : Nat → List AC → HS → AX → Prop) (C rl : Nat) (l : Str) (cl : Str → Cl) : Prop :=
 ∀ j, GoodJ k w j → ∀ b a r h, AtR a.rows a.pc (rowsI (.call j l) a.pc) → r.length ≤ rl → CP LW UW b a r h (a.pc + 4) (cl h.fr j l h.ss) → LW (b + C) (a :: r) h
mutual
noncomputable def cI (C D : Nat) : It → Nat
 | .call _ _ => C
 | .idle => 2
 | .blk _ _ its _ => 14 + D * (1 + its.wt) + cS C D its
noncomputable def cS (C D : Nat) : Its → Nat
 | .nil => 0
 | .cons i r => cI C D i + cS C D r
end
mutual
noncomputable def okB (book : Str → Option Its) (Q : Str → Its → Prop) : It → Prop
 | .call _ _ => True
 | .idle => True
 | .blk loop nm its takes => book nm = some (.cons (.blk loop nm its takes) .nil) ∧ Q nm (.cons (.blk loop nm its takes) .nil) ∧ okBs book Q its
noncomputable def okBs (book : Str → Option Its) (Q : Str → Its → Prop) : Its → Prop
 | .nil => True
 | .cons i r => okB book Q i ∧ okBs book Q r
end
noncomputable abbrev QP (co : Bool) (PO : Str → Nat → (Str → SS → Rz Str × SS) → Prop) (D : Nat) (cl : Str → Cl) : Str → Its → Prop := fun nm its => co = false → PO nm (D * its.wt) (evN cl its)
noncomputable def ItemM (co : Bool) (w : Wl) (k : Kw) (book : Str → Option Its) (PO : Str → Nat → (Str → SS → Rz Str × SS) → Prop) (LW : Nat → List AC → HS → Prop) (UW : Nat → List AC → HS → AX → Prop) (C D rl : Nat) (l : Str) (cl : Str → Cl) (i : It) : Prop :=
 okI (fun j l' => GoodJ k w j ∧ l' = l) i → okB book (QP co PO D cl) i → ∀ b a r h hnd, AtR a.rows a.pc (rowsI i a.pc) → r.length + i.dep ≤ rl →
  (∀ q cd, a.pc ≤ q → q < a.pc + i.sz → tk a.rgs q cd = (tk (rngI i a.pc a.st.length) q cd).or (hnd cd)) →
  IP LW UW b a r h a.pc (a.pc + i.sz) hnd (oneR (evI (cl h.fr) i h.ss)) → LW (b + cI C D i) (a :: r) h
noncomputable def ListM (co : Bool) (w : Wl) (k : Kw) (book : Str → Option Its) (PO : Str → Nat → (Str → SS → Rz Str × SS) → Prop) (LW : Nat → List AC → HS → Prop) (UW : Nat → List AC → HS → AX → Prop) (C D rl : Nat) (l : Str) (cl : Str → Cl) (its : Its) : Prop :=
 okIs (fun j l' => GoodJ k w j ∧ l' = l) its → okBs book (QP co PO D cl) its → ∀ b a r h hnd, AtR a.rows a.pc (rowsT its a.pc) → r.length + its.dep ≤ rl →
  (∀ q cd, a.pc ≤ q → q < a.pc + its.sz → tk a.rgs q cd = (tk (rngT its a.pc a.st.length) q cd).or (hnd cd)) →
  IP LW UW b a r h a.pc (a.pc + its.sz) hnd (evTs (cl h.fr) its h.ss) → LW (b + cS C D its) (a :: r) h
variable {C D T B rl : Nat} {l : Str} {cl : Str → Cl} (R : MR co w k book PO LW UW LD UE)
include R
theorem blk_same (hT : 4 ≤ T) (okc : ∀ fr, OkC D T B (cl fr)) {loop takes : Bool} {nm : Str} {its : Its} (hT2 : T * its.wt ≤ 500000) (hL : ListM co w k book PO LW UW C D rl l cl its)
 (o1 : okIs (fun j l' => GoodJ k w j ∧ l' = l) its) (o2 : okBs book (QP co PO D cl) its) {b : Nat} {a : AC} {r : List AC} {h : HS} {hnd : Int → Option Rg} (at_ : AtR a.rows a.pc (rowsI (.blk loop nm its takes) a.pc)) (hr : r.length + its.dep ≤ rl)
 (he : a.ep = h.ep) (hg : ∀ q cd, a.pc ≤ q → q < a.pc + (It.blk loop nm its takes).sz → tk a.rgs q cd = (tk (rngI (.blk loop nm its takes) a.pc a.st.length) q cd).or (hnd cd))
 (kk : IP LW UW b a r h a.pc (a.pc + (It.blk loop nm its takes).sz) hnd (oneR (evI (cl h.fr) (.blk loop nm its takes) h.ss))) : LW (b + cS C D its + 5) (a :: r) h := by
 rw [rowsI] at at_
 have g0 := at_.get
 obtain ⟨t1, t2⟩ := at_.tl.app
 rw [rowsT_len] at t2
 have g2 := t2.get
 have t3 := t2.tl
 refine R.same _ a r h _ _ g0 he ?_
 refine R.mono (b + 4 + cS C D its) _ _ _ (by lia) ?_
 refine hL o1 o2 (b + 4) { a with pc := a.pc + 1 } r h (fun cd => if loop && (cd == 3 || (cd == 4 && takes)) then some ⟨a.pc + 1, a.pc + 2 + its.sz, a.pc + 3 + its.sz, if takes then some (a.pc + 5 + its.sz) else none, a.st.length⟩ else hnd cd) t1 hr ?_ ?_
 · intro q cd h1 h2
   dsimp only at h1 h2 ⊢
   rw [hg q cd (by lia) (by rw [It.sz]; lia), rngI, tk_app]
   cases tk (rngT its (a.pc + 1) a.st.length) q cd with
   | some x => rfl
   | none =>
    cases loop with
    | false => rfl
    | true =>
     unfold loopG
     rw [if_pos rfl, tk, Option.none_or]
     unfold Rg.takes
     dsimp only
     rw [decide_eq_true (show a.pc + 1 ≤ q by lia), decide_eq_true (show q < a.pc + 2 + its.sz by lia)]
     cases takes with
     | true =>
      simp only [Bool.true_and, Bool.and_true, if_true, Option.isSome_some]
      rw [show a.pc + 2 + its.sz + 1 = a.pc + 3 + its.sz by lia, show a.pc + 2 + its.sz + 3 = a.pc + 5 + its.sz by lia]
      split <;> rfl
     | false =>
      simp only [Bool.true_and, Bool.and_false, Bool.or_false, Bool.false_eq_true, if_false, Option.isSome_none]
      rw [show a.pc + 2 + its.sz + 1 = a.pc + 3 + its.sz by lia]
      split <;> rfl
 · have bd := evTs_ok hT (okc h.fr) its h.ss
   rw [evI] at kk
   rw [It.sz] at kk
   revert kk bd
   generalize evTs (cl h.fr) its h.ss = q
   obtain ⟨q, s⟩ := q
   intro kk bd
   cases q with
   | ok ts =>
    intro p e sp
    dsimp only
    have g2' : a.rows[a.pc + 1 + its.sz]? = some (joinRw its.len) := g2
    refine R.join _ { a with pc := a.pc + 1 + its.sz, st := a.st ++ ts } r _ a.st ts _ g2' bd.2 rfl (Nat.le_trans bd.1 (by unfold LIM; lia)) ?_
    cases loop with
    | false =>
     have := kk p e sp
     refine R.mono b _ _ _ (by lia) ?_
     rw [show a.pc + (2 + its.sz + if false = true then 4 else 0) = a.pc + 1 + its.sz + 1 by simp; lia] at this
     exact this
    | true =>
     have g3 : a.rows[a.pc + 1 + its.sz + 1]? = some (jumpR (a.pc + 2 + its.sz + 4)) := t3.get
     refine R.jump _ { a with pc := a.pc + 1 + its.sz + 1, st := a.st ++ [j9 ts] } r _ _ g3 (by dsimp only; lia) ?_
     have := kk p e sp
     refine R.mono b _ _ _ (by lia) ?_
     rw [show a.pc + (2 + its.sz + if true = true then 4 else 0) = a.pc + 2 + its.sz + 4 by simp; lia] at this
     exact this
   | err x =>
    intro p e sp pc' S h1 h2 h3
    dsimp only at h1 h2 h3 ⊢
    by_cases ht : takesX loop takes x = true
    · have ht2 := ht
      unfold takesX at ht2
      rw [if_pos ht2] at h3
      refine R.catc _ { a with pc := pc', st := a.st ++ S } r _ x _ (by dsimp only; lia) h3 (by simp) ?_
      dsimp only
      rw [List.take_left]
      unfold oneR joinR catchR at kk
      dsimp only at kk
      rw [if_pos ht] at kk
      cases loop with
      | false => cases ht2
      | true =>
       rw [Bool.true_and] at ht2
       have e4 : a.pc + (2 + its.sz + if true = true then 4 else 0) = a.pc + 2 + its.sz + 4 := by simp; lia
       rw [e4] at kk
       have t4 := t3.tl
       have t5 := t4.tl
       have t6 := t5.tl
       by_cases c4 : x.code = 4
       · rw [if_pos c4]
         have tt : takes = true := by rw [c4] at ht2; simpa using ht2
         subst tt
         have g6 : a.rows[a.pc + 5 + its.sz]? = some (pushR "C") := by
          have := t6.get
          rw [show a.pc + 1 + its.sz + 1 + 1 + 1 + 1 = a.pc + 5 + its.sz by lia] at this
          exact this
         dsimp only [if_true, Option.getD]
         refine R.push _ { a with pc := a.pc + 5 + its.sz, st := a.st } r _ _ g6 ?_
         have := kk p e sp
         unfold letX at this
         rw [if_neg (by lia)] at this
         refine R.mono b _ _ _ (by lia) ?_
         rw [show a.pc + 2 + its.sz + 4 = a.pc + 5 + its.sz + 1 by lia] at this
         exact this
       · rw [if_neg c4]
         have c3 : x.code = 3 := by
          simp [c4] at ht2
          exact ht2
         have g4 : a.rows[a.pc + 3 + its.sz]? = some (pushR "B") := by
          have := t4.get
          rw [show a.pc + 1 + its.sz + 1 + 1 = a.pc + 3 + its.sz by lia] at this
          exact this
         have g5 : a.rows[a.pc + 3 + its.sz + 1]? = some (jumpR (a.pc + 2 + its.sz + 4)) := by
          have := t5.get
          rw [show a.pc + 1 + its.sz + 1 + 1 + 1 = a.pc + 3 + its.sz + 1 by lia] at this
          exact this
         refine R.push _ { a with pc := a.pc + 3 + its.sz, st := a.st } r _ _ g4 ?_
         refine R.jump _ { a with pc := a.pc + 3 + its.sz + 1, st := a.st ++ [("B" : Str)] } r _ _ g5 (by dsimp only; lia) ?_
         have := kk p e sp
         unfold letX at this
         rw [if_pos c3] at this
         exact R.mono b _ _ _ (by lia) this
    · have ht2 := ht
      unfold takesX at ht2
      rw [if_neg ht2] at h3
      unfold oneR joinR catchR at kk
      dsimp only at kk
      rw [if_neg ht] at kk
      exact R.umono b _ _ _ _ (by lia) (kk p e sp pc' S (by lia) (by split <;> lia) h3)
end
theorem joinAll_one (t : Str) : j9 [t] = t := PySem.Str.append_empty t
theorem evL_one (cl : Cl) (i : It) (s : SS) : evL cl (.cons i .nil) s = evI cl i s := by
 unfold evL
 rw [evTs]
 generalize evI cl i s = q
 obtain ⟨q, s'⟩ := q
 cases q with
 | ok t => dsimp only; rw [evTs]; unfold joinR; dsimp only; rw [joinAll_one]
 | err x => rfl
noncomputable def procB (ip : Bool) : Rz Str → Rz Str
 | .ok t => .ok t
 | .err x => if ip then endProc x else .err x
theorem procR_B (m : Int) (r : Rz Str) : procR m r = procB (m % 2 == 1) r := by
 cases r with
 | ok t => rfl
 | err x => unfold procR procB; simp
section
variable {co : Bool} {w : Wl} {k : Kw} {book : Str → Option Its} {PO : Str → Nat → (Str → SS → Rz Str × SS) → Prop}
 {LW : Nat → List AC → HS → Prop} {UW : Nat → List AC → HS → AX → Prop} {LD : Nat → Str → HS → Prop} {UE : Nat → HS → AX → Prop}
variable {C D T B rl : Nat} {l : Str} {cl : Str → Cl} (R : MR co w k book PO LW UW LD UE)
include R
mutual
theorem itemM (hT : 4 ≤ T) (hrl : rl ≤ 30) (okc : ∀ fr, OkC D T B (cl fr)) (hC : CallM w k LW UW C rl l cl) : ∀ i : It, T * i.wt ≤ 500000 → ItemM co w k book PO LW UW C D rl l cl i
 | .call j l', _ => by
  intro o1 o2 b a r h hnd at_ hr hg kk
  rw [okI] at o1
  obtain ⟨hj, rfl⟩ := o1
  rw [cI]
  rw [It.dep] at hr
  refine hC j hj b a r h at_ (by lia) ?_
  rw [evI] at kk
  have hq := fun cd => hg (a.pc + 3) cd (by lia) (by rw [It.sz]; lia)
  revert kk
  generalize cl h.fr j l' h.ss = q
  obtain ⟨q, s⟩ := q
  intro kk
  cases q with
  | ok t => exact kk
  | err x =>
   intro p e sp
   have := kk p e sp (a.pc + 4) [] (by lia) (by rw [It.sz]; lia) (hq x.code)
   rw [List.append_nil] at this
   exact this
 | .idle, _ => by
  intro o1 o2 b a r h hnd at_ hr hg kk
  rw [rowsI] at at_
  rw [cI]
  refine R.push (b + 1) a r h _ at_.get ?_
  refine R.idle b { a with pc := a.pc + 1, st := a.st ++ [("o" : Str)] } r h a.st at_.tl.get rfl ?_
  intro sp
  rw [evI] at kk
  exact kk h.put h.ep sp
 | .blk loop nm its takes, hT2 => by
  intro o1 o2 b a r h hnd at_ hr hg kk
  rw [It.wt, Nat.mul_add] at hT2
  have hL := listM hT hrl okc hC its (by lia)
  rw [okI] at o1
  rw [okB] at o2
  rw [It.dep] at hr
  rw [cI]
  by_cases he : a.ep = h.ep
  · exact R.mono (b + cS C D its + 5) _ _ _ (by lia) (blk_same R hT okc (by lia) hL o1 o2.2.2 at_ (by lia) he hg kk)
  · have g0 : a.rows[a.pc]? = some (startR nm (a.pc + 2 + its.sz + (if loop then 4 else 0))) := by
     rw [rowsI] at at_; exact at_.get
    have hsz : a.pc + (It.blk loop nm its takes).sz = a.pc + 2 + its.sz + (if loop then 4 else 0) := by rw [It.sz]; lia
    have h0sz : 2 ≤ (It.blk loop nm its takes).sz := by rw [It.sz]; lia
    cases hco : co with
    | true =>
     refine R.mono ((b + 2) + cS C D its + 5 + 1) _ _ _ (by lia) ?_
     refine R.entr hco _ a r h nm _ _ g0 he o2.1 (by lia) ?_
     refine blk_same R hT okc (by lia) hL o1 o2.2.2 (loop := loop) (nm := nm) (takes := takes) (hnd := fun _ => none) ⟨[], [joinRw 1], by show rowsT _ 0 ++ [joinRw 1] = [] ++ rowsI _ 0 ++ [joinRw 1]; rw [rowsT, rowsT, List.append_nil, List.nil_append], rfl⟩ (by rw [List.length_cons]; lia) rfl ?_ ?_
     · intro q cd _ _
       dsimp only
       rw [rngT, rngT, List.append_nil, Option.or_none]
       rfl
     · have bd := evI_ok hT (okc h.fr) (.blk loop nm its takes) h.ss
       revert kk bd
       generalize evI (cl h.fr) (.blk loop nm its takes) h.ss = q
       obtain ⟨q, s⟩ := q
       intro kk bd
       cases q with
       | ok t =>
        intro p e sp
        dsimp only
        rw [Nat.zero_add]
        refine R.join (b + 1) { codeOf (.cons (.blk loop nm its takes) .nil) h.ep false none with pc := (It.blk loop nm its takes).sz, st := [] ++ [t] } _ _ [] [t] 1 ?_ rfl rfl ?_ ?_
        · dsimp only
          rw [rowsT, rowsT, List.append_nil, List.getElem?_append_right (by rw [rowsI_len]; lia), rowsI_len, Nat.sub_self]
          rfl
        · rw [joinAll_one]
          have : t.length ≤ T * (It.blk loop nm its takes).wt := bd
          rw [It.wt, Nat.mul_add] at this
          unfold LIM
          lia
        · refine R.fin b _ _ r _ t ?_ ?_ ?_
          · dsimp only
            rw [rowsT, rowsT, List.append_nil, List.length_append, rowsI_len]
            exact Nat.le_refl _
          · dsimp only
            rw [joinAll_one]
            rfl
          · have := kk p e sp
            rw [hsz] at this
            exact this
       | err x =>
        intro p e sp pc' S h1 h2 h3
        dsimp only at h1 h2 h3 ⊢
        refine R.drop _ _ _ _ _ (by dsimp only; lia) h3 rfl ?_
        refine R.umono b _ _ _ _ (by lia) ?_
        have := kk p e sp (a.pc + (It.blk loop nm its takes).sz) [] (by lia) (Nat.le_refl _) (by
         rw [hg _ _ (by lia) (by lia), tk_rngI_out (.inr (by lia))]; rfl)
        rw [List.append_nil, hsz] at this
        exact this
    | false =>
     refine R.mono (b + D * (Its.cons (It.blk loop nm its takes) .nil).wt + 1) _ _ _ (by rw [Its.wt, Its.wt, It.wt]; simp; lia) ?_
     refine R.plain hco b a r h nm _ _ _ g0 he (o2.2.1 hco) ?_
     unfold evN
     rw [evL_one]
     revert kk
     generalize evI (cl h.fr) (.blk loop nm its takes) h.ss = q
     obtain ⟨q, s⟩ := q
     intro kk
     cases q with
     | ok t =>
      intro p e sp
      have := kk p e sp
      rw [hsz] at this
      exact this
     | err x =>
      intro p e sp
      have := kk p e sp (a.pc + 1) [] (by lia) (by lia) (by
       rw [hg _ _ (by lia) (by lia), tk_rngI_out (.inl (by lia))]; rfl)
      rw [List.append_nil] at this
      exact this
theorem listM (hT : 4 ≤ T) (hrl : rl ≤ 30) (okc : ∀ fr, OkC D T B (cl fr)) (hC : CallM w k LW UW C rl l cl) : ∀ its : Its, T * its.wt ≤ 500000 → ListM co w k book PO LW UW C D rl l cl its
 | .nil, _ => by
  intro o1 o2 b a r h hnd at_ hr hg kk
  have := kk h.put h.ep h.sp
  rw [List.append_nil] at this
  exact this
 | .cons i its, hT2 => by
  intro o1 o2 b a r h hnd at_ hr hg kk
  rw [okIs] at o1
  rw [okBs] at o2
  rw [Its.wt, Nat.mul_add] at hT2
  rw [Its.dep] at hr
  rw [rowsT] at at_
  obtain ⟨t1, t2⟩ := at_.app
  rw [rowsI_len] at t2
  have hszc : (Its.cons i its).sz = i.sz + its.sz := rfl
  rw [hszc] at hg kk
  rw [cS, Nat.add_comm (cI C D i), ← Nat.add_assoc]
  refine itemM hT hrl okc hC i (by lia) o1.1 o2.1 (b + cS C D its) a r h hnd t1 (by lia) ?_ ?_
  · intro q cd h1 h2
    rw [hg q cd h1 (by lia), rngT, tk_app, tk_rngT_out (.inl (by lia)), Option.or_none]
  · rw [evTs] at kk
    revert kk
    generalize evI (cl h.fr) i h.ss = q
    obtain ⟨q, s⟩ := q
    intro kk
    cases q with
    | err x =>
     intro p e sp pc' S h1 h2 h3
     exact R.umono b _ _ _ _ (by lia) (kk p e sp pc' S h1 (by lia) h3)
    | ok t =>
     intro p e sp
     refine listM hT hrl okc hC its (by lia) o1.2 o2.2 b { a with pc := a.pc + i.sz, st := a.st ++ [t] } r (h.aft s p e sp) hnd t2 (by lia) ?_ ?_
     · intro q cd h1 h2
       dsimp only at h1 h2 ⊢
       rw [hg q cd (by lia) (by lia), rngT, tk_app, tk_rngI_out (.inr (by lia)), Option.none_or, List.length_append]
       rfl
     · dsimp only at kk
       revert kk
       rw [show (h.aft s p e sp).ss = s from rfl, show (h.aft s p e sp).fr = h.fr from rfl]
       generalize evTs (cl h.fr) its s = q2
       obtain ⟨q2, s2⟩ := q2
       intro kk
       cases q2 with
       | ok ts =>
        intro p2 e2 sp2
        have := kk p2 e2 sp2
        dsimp only
        rw [List.append_assoc, Nat.add_assoc]
        exact this
       | err x =>
        intro p2 e2 sp2 pc' S h1 h2 h3
        dsimp only at h1 h2 h3 ⊢
        have := kk p2 e2 sp2 pc' ([t] ++ S) (by lia) (by lia) h3
        rw [List.append_assoc]
        exact this
end
end
section
variable {co : Bool} {w : Wl} {k : Kw} {book : Str → Option Its} {PO : Str → Nat → (Str → SS → Rz Str × SS) → Prop}
 {LW : Nat → List AC → HS → Prop} {UW : Nat → List AC → HS → AX → Prop} {LD : Nat → Str → HS → Prop} {UE : Nat → HS → AX → Prop}
noncomputable def AP (LW : Nat → List AC → HS → Prop) (UW : Nat → List AC → HS → AX → Prop) (b : Nat) (a : AC) (r : List AC) (h : HS) (bk : Option Str) : Rz Str × SS → Prop
 | (.ok t, s) => ∀ p e sp, LW b ({ a with st := a.st ++ [t] } :: r) ((h.aft s p e sp).lv bk)
 | (.err x, s) => ∀ p e sp, UW b (a :: r) ((h.aft s p e sp).lv bk) x
noncomputable def ActM (LW : Nat → List AC → HS → Prop) (UW : Nat → List AC → HS → AX → Prop) (Cn rln : Nat) (its : Its) (nx : Str → SS → Rz Str × SS) : Prop :=
 ∀ ip bk b a r h, r.length ≤ rln → AP LW UW b a r h bk (procB ip (nx h.fr h.ss).1, (nx h.fr h.ss).2) → LW (b + Cn) (codeOf its h.ep ip bk :: a :: r) h
variable {C D T B rl : Nat} {l : Str} {cl : Str → Cl} (R : MR co w k book PO LW UW LD UE)
include R
omit R in
theorem code_at (its : Its) (ep : Int) (ip : Bool) (bk : Option Str) : AtR (codeOf its ep ip bk).rows 0 (rowsT its 0) := ⟨[], [joinRw its.len], rfl, rfl⟩
omit R in
theorem code_join (its : Its) (ep : Int) (ip : Bool) (bk : Option Str) : (codeOf its ep ip bk).rows[its.sz]? = some (joinRw its.len) := by
 dsimp only
 rw [List.getElem?_append_right (by rw [rowsT_len]; exact Nat.le_refl _), rowsT_len, Nat.sub_self]
 rfl
theorem actM (hT : 4 ≤ T) (hB : B ≤ 1000) (okc : ∀ fr, OkC D T B (cl fr)) {its : Its} (hT2 : T * its.wt ≤ 500000) (hL : ListM co w k book PO LW UW C D rl l cl its)
 (o1 : okIs (fun j l' => GoodJ k w j ∧ l' = l) its) (o2 : okBs book (QP co PO D cl) its) : ActM LW UW (cS C D its + 2) (rl - 1 - its.dep) its (evN cl its) ∨ rl < 1 + its.dep := by
 by_cases hrl : rl < 1 + its.dep
 · exact .inr hrl
 refine .inl ?_
 intro ip bk b a r h hr kk
 rw [Nat.add_comm (cS C D its), ← Nat.add_assoc]
 refine hL o1 o2 (b + 2) _ (a :: r) h (fun _ => none) (code_at its _ _ _) (by rw [List.length_cons]; lia) ?_ ?_
 · intro q cd _ _
   rw [Option.or_none]
   rfl
 · have bd := evTs_ok hT (okc h.fr) its h.ss
   unfold evN evL at kk
   revert kk bd
   generalize evTs (cl h.fr) its h.ss = q
   obtain ⟨q, s⟩ := q
   intro kk bd
   cases q with
   | ok ts =>
    intro p e sp
    dsimp only
    rw [Nat.zero_add]
    refine R.join (b + 1) { codeOf its h.ep ip bk with pc := its.sz, st := [] ++ ts } _ _ [] ts its.len (code_join its h.ep ip bk) bd.2 rfl (Nat.le_trans bd.1 (by unfold LIM; lia)) ?_
    refine R.fin b _ _ r _ (j9 ts) ?_ rfl ?_
    · dsimp only
      rw [List.length_append, rowsT_len]
      exact Nat.le_refl _
    · exact kk p e sp
   | err x =>
    intro p e sp pc' S h1 h2 h3
    dsimp only at h1 h2 h3 ⊢
    cases ip with
    | false => exact R.umono b _ _ _ _ (by lia) (R.drop b _ _ _ _ (by dsimp only; lia) h3 rfl (kk p e sp))
    | true =>
     refine R.umono (b + 1) _ _ _ _ (by lia) ?_
     refine R.proc b _ a r _ x (by dsimp only; lia) h3 rfl (Nat.le_trans bd.1 hB) (Nat.le_trans bd.2 (by lia)) ?_
     unfold joinR procB at kk
     dsimp only [if_true] at kk
     revert kk
     generalize endProc x = y
     intro kk
     cases y with
     | ok t => exact kk p e sp
     | err y => exact kk p e sp
theorem topM (hT : 4 ≤ T) (okc : ∀ fr, OkC D T B (cl fr)) {its : Its} (hT2 : T * its.wt ≤ 500000) (hL : ListM co w k book PO LW UW C D rl l cl its)
 (o1 : okIs (fun j l' => GoodJ k w j ∧ l' = l) its) (o2 : okBs book (QP co PO D cl) its) (hrl : its.dep ≤ rl) {b : Nat} {h : HS}
 (kk : match evL (cl h.fr) its h.ss with
  | (.ok t, s) => ∀ p e sp, LD b t (h.aft s p e sp)
  | (.err x, s) => ∀ p e sp, UE b (h.aft s p e sp) x) : LW (b + (cS C D its + 2)) [codeOf its h.ep false none] h := by
 rw [Nat.add_comm (cS C D its), ← Nat.add_assoc]
 refine hL o1 o2 (b + 2) _ [] h (fun _ => none) (code_at its _ _ _) (by simp; lia) ?_ ?_
 · intro q cd _ _
   rw [Option.or_none]
   rfl
 · have bd := evTs_ok hT (okc h.fr) its h.ss
   unfold evL at kk
   revert kk bd
   generalize evTs (cl h.fr) its h.ss = q
   obtain ⟨q, s⟩ := q
   intro kk bd
   cases q with
   | ok ts =>
    intro p e sp
    dsimp only
    rw [Nat.zero_add]
    refine R.join (b + 1) { codeOf its h.ep false none with pc := its.sz, st := [] ++ ts } _ _ [] ts its.len (code_join its h.ep false none) bd.2 rfl (Nat.le_trans bd.1 (by unfold LIM; lia)) ?_
    refine R.last b _ _ (j9 ts) ?_ rfl ?_
    · dsimp only
      rw [List.length_append, rowsT_len]
      exact Nat.le_refl _
    · exact kk p e sp
   | err x =>
    intro p e sp pc' S h1 h2 h3
    dsimp only at h1 h2 h3 ⊢
    refine R.umono b _ _ _ _ (by lia) ?_
    refine R.drop b _ _ _ _ (by dsimp only; lia) h3 rfl ?_
    exact R.out b _ _ (kk p e sp)
theorem callM {Cn : Nat} {nx : Str → SS → Rz Str × SS} (hrl : rl ≤ 30) (hn : l ≠ "2" → ∃ its, book (if l = "0" then "P1" else "P2") = some its ∧ ActM LW UW Cn rl its nx) :
 CallM w k LW UW (Cn + 4) rl l (fun fr => evC w nx fr) := by
 intro j hj b a r h at_ hr kk
 rw [rowsI] at at_
 have g0 := at_.get
 have g1 := at_.tl.get
 have g2 := at_.tl.tl.get
 have g3 := at_.tl.tl.tl.get
 rw [← Nat.add_assoc]
 refine R.push _ a r h _ g0 ?_
 refine R.push _ { a with pc := a.pc + 1, st := a.st ++ [("r" : Str)] } r h _ g1 ?_
 refine R.push _ { a with pc := a.pc + 1 + 1, st := a.st ++ [("r" : Str)] ++ [j] } r h _ g2 ?_
 have hst : a.st ++ [("r" : Str)] ++ [j] ++ [l] = a.st ++ [("r" : Str), j, l] := by simp
 have h3 : ({ a with pc := a.pc + 1 + 1 + 1, st := a.st ++ [("r" : Str)] ++ [j] ++ [l] } : AC) = { a with pc := a.pc + 3, st := a.st ++ [("r" : Str), j, l] } := by rw [hst]
 dsimp only
 rw [h3]
 have g3' : a.rows[a.pc + 3]? = some (invR 3) := g3
 unfold evC at kk
 dsimp only at kk
 cases hd : w.deed j with
 | mk dk vm =>
  obtain ⟨v, m⟩ := vm
  rw [hd] at kk
  cases dk with
  | text => exact R.mono (b + 1) _ _ _ (by lia) (R.flat b { a with pc := a.pc + 3, st := a.st ++ [("r" : Str), j, l] } r h a.st j l v m g3' rfl hj (.inl hd) kk)
  | put => exact R.mono (b + 1) _ _ _ (by lia) (R.flat b { a with pc := a.pc + 3, st := a.st ++ [("r" : Str), j, l] } r h a.st j l v m g3' rfl hj (.inr (.inl hd)) kk)
  | turn => exact R.mono (b + 1) _ _ _ (by lia) (R.turn b { a with pc := a.pc + 3, st := a.st ++ [("r" : Str), j, l] } r h a.st j l v m g3' rfl hj hd kk)
  | raise => exact R.mono (b + 1) _ _ _ (by lia) (R.rais b { a with pc := a.pc + 3, st := a.st ++ [("r" : Str), j, l] } r h a.st j l v m g3' rfl hj hd kk)
  | nest =>
   by_cases hc : l ≠ "2" ∧ h.c1 < 4
   · obtain ⟨its, hb, hA⟩ := hn hc.1
     dsimp only at kk
     rw [if_pos hc] at kk
     refine R.nest (b + Cn) { a with pc := a.pc + 3, st := a.st ++ [("r" : Str), j, l] } r h a.st j l v m its g3' rfl hj hd hc.1 hc.2 hb (by lia) ?_
     intro sp
     refine hA (m % 2 == 1) _ b _ r { h with log := h.log ++ [callE j l h.fr], c1 := h.c1 + 1, fr := if m / 2 % 2 = 0 then "f" ++ j else h.fr, sp := sp } hr ?_
     rw [← procR_B]
     dsimp only
     revert kk
     generalize nx (if m / 2 % 2 = 0 then "f" ++ j else h.fr) ⟨h.log ++ [callE j l h.fr], h.c0, h.c1 + 1⟩ = q
     obtain ⟨q, s⟩ := q
     dsimp only
     generalize procR m q = q2
     intro kk
     by_cases hb : m / 2 % 2 = 0
     · simp only [if_pos hb]
       cases q2 with
       | ok t => exact kk
       | err x => exact kk
     · simp only [if_neg hb]
       cases q2 with
       | ok t => exact kk
       | err x => exact kk
   · dsimp only at kk
     rw [if_neg hc] at kk
     exact R.mono (b + 1) _ _ _ (by lia) (R.flat b { a with pc := a.pc + 3, st := a.st ++ [("r" : Str), j, l] } r h a.st j l v m g3' rfl hj (.inr (.inr ⟨hd, hc⟩)) kk)
end
noncomputable abbrev Rg.mv (r : Rg) : MV := .tup [.str "loop", .int r.first, .int r.behind, .int r.tb, (match r.tc with | some c => .int c | none => .none), .int r.dep]
noncomputable abbrev rowsB : PS := b_law_rows.fst.fb
noncomputable abbrev rowsR : List Frm := [.seq b_law_rows.rest]
noncomputable abbrev rowsZ (N rl gl il d : Nat) (L : Loc) (c : Ct) (Λ : Lg) : Z := ⟨c, rowsR, N, none, some (.ref rl) :: some (.ref gl) :: some (.ref il) :: some (.int d) :: L, Λ, q0⟩
noncomputable def RLoop (its : Its) : Prop := ∀ N, 2 * its.dep + 2 ≤ N → ∀ φ R (rl gl il d : Nat) (RW GW pre : List MV) vs K0 X0 L4 L5 L6 L7 L8 L9, RW.length + its.sz ≤ 5000 → GW.length + its.wt ≤ 900 → φ.f il = some (.list (pre ++ vs)) → pre.length + its.len < 1000 → RIts φ its vs →
 (∀ rs gs L4 L5 L6 L7 L8 L9, rs = RW ++ rowsT its RW.length → gs = GW ++ (rngT its RW.length (d + pre.length)).map Rg.mv → Gd K0 X0 φ (rowsZ N rl gl il d [L4, L5, L6, L7, L8, L9] (.F .nxt) ((rl, .list rs) :: (gl, .list gs) :: R))) →
 Gd K0 X0 φ (rowsZ N rl gl il d [L4, L5, L6, L7, L8, L9] (.R its.len 4 rowsB pre.length) ((rl, .list RW) :: (gl, .list GW) :: R))
noncomputable def RCall (its : Its) : Prop := ∀ N, 2 * its.dep + 3 ≤ N → ∀ φ R (rl gl il d : Nat) (RW GW : List MV) vs K X, RW.length + its.sz < 5000 → GW.length + its.wt ≤ 900 → φ.f il = some (.list vs) → its.len < 1000 → RIts φ its vs →
 (∀ rs gs, rs = RW ++ (rowsT its RW.length ++ [joinRw its.len]) → gs = GW ++ (rngT its RW.length d).map Rg.mv → K .none φ ((rl, .list rs) :: (gl, .list gs) :: R)) →
 Wp φ ((rl, .list RW) :: (gl, .list GW) :: R) (callN N 81 [.ref rl, .ref gl, .ref il, .int d] none) K X
mutual
theorem rngI_len : ∀ (i : It) (p d : Nat), (rngI i p d).length ≤ i.wt
 | .call _ _, _, _ => by rw [rngI]; exact Nat.zero_le _
 | .idle, _, _ => by rw [rngI]; exact Nat.zero_le _
 | .blk loop nm its takes, p, d => by
  have := rngT_len its (p + 1) d
  rw [rngI, It.wt, List.length_append]
  unfold loopG
  cases loop <;> (simp; lia)
theorem rngT_len : ∀ (i : Its) (p d : Nat), (rngT i p d).length ≤ i.wt
 | .nil, _, _ => by rw [rngT]; exact Nat.zero_le _
 | .cons i r, p, d => by
  have := rngI_len i p d
  have := rngT_len r (p + i.sz) (d + 1)
  rw [rngT, Its.wt, List.length_append]
  lia
end
theorem RIts.len {φ : Fz} : ∀ {its : Its} {vs : List MV}, RIts φ its vs → vs.length = its.len
 | .nil, vs, h => by rw [RIts] at h; subst h; rfl
 | .cons i r, vs, h => by
  rw [RIts] at h
  obtain ⟨v, vs', rfl, _, h⟩ := h
  rw [List.length_cons, h.len]; rfl
theorem lim_lt {n : Nat} (h : n < 1000000) : decide (n < LIM) = true := decide_eq_true h
theorem rng_ok {n : Nat} (h : n < 1000) : (decide (0 ≤ (n : Int)) && decide ((n : Int) < 2 ^ 40)) = true := by rw [decide_eq_true (Int.natCast_nonneg n), decide_eq_true (by lia)]; rfl
theorem rcall_of {its : Its} (h : RLoop its) : RCall its := by
 intro N hN φ R rl gl il d RW GW vs K X h1 h2 hil hlen hr kk
 obtain ⟨N, rfl⟩ : ∃ m, N = m + 1 := ⟨N - 1, by lia⟩
 have c1 := rng_ok hlen
 rw [← hr.len] at c1
 have IH := h N (by lia) φ R rl gl il d RW GW [] vs K X none none none none none none (by lia) h2 hil (by rw [List.length_nil]; lia) hr
 have fin : ∀ rs gs L4 L5 L6 L7 L8 L9, rs = RW ++ rowsT its RW.length → gs = GW ++ (rngT its RW.length (d + 0)).map Rg.mv → Gd K X φ (rowsZ N rl gl il d [L4, L5, L6, L7, L8, L9] (.F .nxt) ((rl, .list rs) :: (gl, .list gs) :: R)) := by
  intro rs gs L4 L5 L6 L7 L8 L9 e1 e2
  have l1 : decide (rs.length < LIM) = true := by rw [e1, List.length_append, rowsT_len]; exact lim_lt (by lia)
  exact o9 17334536 [MO.list vs] [] (fun ν => (ai l1 (ai hil trivial))) (fun ν => kk (rs ++ [joinRw vs.length]) gs (by rw [e1, List.append_assoc, hr.len]) (by rw [e2]; rfl)) fun ν => by kernel_rfl
 rw [← hr.len] at IH
 exact W9 4228 [MO.list vs] [] (fun ν => (ai c1 (ai hil trivial))) rfl (fun ν => (IH fin).g) fun ν => by kernel_rfl
theorem idx_mid {pre vs : List MV} {v : MV} (h : pre.length < 1000) : idx (pre ++ v :: vs) (pre.length : Int) = some v := by
 unfold idx
 rw [if_pos (Int.natCast_nonneg _), if_pos (show (pre.length : Int) < ((LIM : Nat) : Int) from Int.ofNat_lt.mpr (Nat.lt_trans h (by decide))), Int.toNat_natCast, at_mid]
theorem rloop : ∀ m (its : Its), its.nd ≤ m → RLoop its := fun m => by
 induction m with
 | zero =>
  intro its hm
  cases its with
  | cons i r => exact absurd hm (Nat.not_succ_le_zero _)
  | nil =>
   intro N hN φ R rl gl il d RW GW pre vs K0 X0 L4 L5 L6 L7 L8 L9 h1 h2 hil hp hr kk
   have kk := kk RW GW L4 L5 L6 L7 L8 L9 (by rw [rowsT, List.append_nil]) (by rw [rngT, List.map_nil, List.append_nil])
   exact range_end kk
 | succ m ih =>
  intro its hm
  cases its with
  | nil => exact ih _ (Nat.zero_le _)
  | cons i r =>
   intro N hN φ R rl gl il d RW GW pre vs K0 X0 L4 L5 L6 L7 L8 L9 h1 h2 hil hp hr kk
   rw [Its.nd] at hm
   rw [RIts] at hr
   obtain ⟨v, vs', rfl, hi, hr⟩ := hr
   rw [Its.sz] at h1
   rw [Its.wt] at h2
   rw [Its.dep] at hN
   rw [Its.len] at hp
   have hv := idx_mid (vs := vs') (v := v) (Nat.lt_of_le_of_lt (Nat.le_add_right _ _) hp)
   have nx : ∀ rs gs L4 L5 L6 L7 L8 L9, rs = RW ++ rowsI i RW.length → gs = GW ++ (rngI i RW.length (d + pre.length)).map Rg.mv →
    Gd K0 X0 φ (rowsZ N rl gl il d [L4, L5, L6, L7, L8, L9] (.R r.len 4 rowsB (pre.length + 1)) ((rl, .list rs) :: (gl, .list gs) :: R)) := by
    intro rs gs L4 L5 L6 L7 L8 L9 e1 e2
    have hrs : rs.length = RW.length + i.sz := by rw [e1, List.length_append, rowsI_len]
    have hgs : gs.length ≤ GW.length + i.wt := by rw [e2, List.length_append, List.length_map]; exact Nat.add_le_add_left (rngI_len i _ _) _
    have := ih r (by lia) N (by lia) φ R rl gl il d rs gs (pre ++ [v]) vs' K0 X0 L4 L5 L6 L7 L8 L9 (by lia) (by lia) (by rw [List.append_assoc]; exact hil) (by rw [List.length_append, List.length_singleton]; lia) hr ?_
    · rw [List.length_append] at this
      exact this
    · intro rs2 gs2 L4 L5 L6 L7 L8 L9 f1 f2
      refine kk rs2 gs2 _ _ _ _ _ _ ?_ ?_
      · rw [f1, hrs, e1, rowsT, List.append_assoc]
      · rw [f2, hrs, e2, rngT, List.map_append, List.append_assoc, List.length_append]
        rfl
   clear kk
   have ll : ∀ l : List MV, l.length ≤ 5 → decide ((RW ++ l).length < LIM) = true := fun l hl => by rw [List.length_append]; exact lim_lt (by lia)
   have l0 := ll [] (Nat.zero_le _)
   rw [List.append_nil] at l0
   cases i with
   | call j l =>
    rw [RIt] at hi
    obtain ⟨wl, rfl, hwl⟩ := hi
    have l1 := ll [pushR "r"] (Nat.le_add_left _ _)
    have l2 : decide ((RW ++ [pushR "r"] ++ [pushR j]).length < LIM) = true := by rw [List.append_assoc]; exact ll _ (Nat.le_add_left _ _)
    have l3 : decide ((RW ++ [pushR "r"] ++ [pushR j] ++ [pushR l]).length < LIM) = true := by rw [List.append_assoc, List.append_assoc]; exact ll _ (Nat.le_add_left _ _)
    have e1 : RW ++ [pushR "r"] ++ [pushR j] ++ [pushR l] ++ [invR 3] = RW ++ rowsI (.call j l) RW.length := by rw [rowsI, List.append_assoc, List.append_assoc, List.append_assoc]; rfl
    have e2 : GW = GW ++ (rngI (.call j l) RW.length (d + pre.length)).map Rg.mv := by rw [rngI, List.map_nil, List.append_nil]
    exact o9 1700165571494455279180148674512397452162825815902895948727079174 [MO.list (pre ++ MV.tup [MV.str "call", MV.ref wl] :: vs'), MO.list [MV.str "r", MV.str j, MV.str l], MO.list [MV.str "r", MV.str j, MV.str l], MO.list [MV.str "r", MV.str j, MV.str l], MO.list [MV.str "r", MV.str j, MV.str l], MO.list [MV.str "r", MV.str j, MV.str l]] [MV.tup [MV.str "call", MV.ref wl]] (fun ν => (ai l3 (ai hwl (ai hwl (ai l2 (ai hwl (ai l1 (ai hwl (ai l0 (ai hwl (ai hv (ai hil trivial)))))))))))) (fun ν => (nx _ _ (some (.int pre.length)) (some (.tup [.str "call", .ref wl])) (some (.str l)) L7 L8 L9 e1 e2).g) fun ν => by kernel_rfl
   | idle =>
    rw [RIt] at hi
    obtain ⟨wl, rfl, hwl⟩ := hi
    have l1 := ll [pushR "o"] (Nat.le_add_left _ _)
    have e1 : RW ++ [pushR "o"] ++ [invR 1] = RW ++ rowsI .idle RW.length := by rw [rowsI, List.append_assoc]; rfl
    have e2 : GW = GW ++ (rngI .idle RW.length (d + pre.length)).map Rg.mv := by rw [rngI, List.map_nil, List.append_nil]
    exact o9 360024063710810082646749337701357109399814 [MO.list (pre ++ MV.tup [MV.str "call", MV.ref wl] :: vs'), MO.list [MV.str "o"], MO.list [MV.str "o"], MO.list [MV.str "o"]] [MV.tup [MV.str "call", MV.ref wl]] (fun ν => (ai l1 (ai hwl (ai hwl (ai l0 (ai hwl (ai hv (ai hil trivial)))))))) (fun ν => (nx _ _ (some (.int pre.length)) (some (.tup [.str "call", .ref wl])) (some (.str "o")) L7 L8 L9 e1 e2).g) fun ν => by kernel_rfl
   | blk loop nm its takes =>
    rw [RIt] at hi
    obtain ⟨il2, vs2, rfl, hil2, hrs⟩ := hi
    rw [It.sz] at h1
    rw [It.wt] at h2
    rw [It.dep] at hN
    rw [It.nd] at hm
    have hC := rcall_of (ih its (by lia))
    have hlw : its.len ≤ its.wt := len_wt its
    have hC := hC N (by lia) φ R rl gl il2 (d + pre.length) (RW ++ [startR nm 0]) GW vs2
    have hs1 : (RW ++ [startR nm 0]).length = RW.length + 1 := by rw [List.length_append]; rfl
    cases loop with
    | false =>
     rw [if_neg Bool.false_ne_true] at *
     refine onC 81 N none (fun ν => [.ref rl, .ref gl, .ref il2, .int ((d + pre.length : Nat) : Int)]) (fun ν => (rl, .list (RW ++ [startR nm 0])) :: (gl, .list GW) :: R) 19352848288981619446927622 [MO.list (pre ++ MV.tup [MV.str "piece", MV.str nm, MV.ref il2, MV.bool takes] :: vs')] [MV.tup [MV.str "piece", MV.str nm, MV.ref il2, MV.bool takes]] (fun ν => (ai l0 (ai hv (ai hil trivial)))) (fun ν => by kernel_rfl) fun ν K' X' kv kx => ?_
     refine hC _ _ (by lia) (by lia) hil2 (by lia) hrs fun rs gs e1 e2 => kv _ _ _ (.refl _) ?_
     rw [hs1] at e1 e2
     have lr : rs.length = RW.length + 2 + its.sz := by rw [e1, List.length_append, hs1, List.length_append, rowsT_len]; exact (by lia : RW.length + 1 + (its.sz + 1) = RW.length + 2 + its.sz)
     have b1 : (decide (0 ≤ (RW.length : Int)) && decide ((RW.length : Int) < rs.length)) = true := by rw [decide_eq_true (Int.natCast_nonneg _), decide_eq_true (by lia)]; rfl
     have hset : MO.list (rs.set (Int.toNat RW.length) (startR nm rs.length)) = .list (RW ++ rowsI (.blk false nm its takes) RW.length) := by
      rw [rowsI, Int.toNat_natCast, lr, e1, List.append_assoc, List.set_append_right _ _ (Nat.le_refl _), Nat.sub_self]; rfl
     have f2 : gs = GW ++ (rngI (.blk false nm its takes) RW.length (d + pre.length)).map Rg.mv := by rw [rngI, e2]; unfold loopG; rw [if_neg Bool.false_ne_true, List.append_nil]
     exact o9 79589899600167698440 [MO.list (RW ++ rowsI (It.blk false nm its takes) RW.length)] [] (fun ν => (ai hset (ai b1 trivial))) (fun ν => (nx _ _ (some (.int pre.length)) (some (.tup [.str "piece", .str nm, .ref il2, .bool takes])) L6 (some (.int RW.length)) (some (.int rs.length)) L9 rfl f2).g) fun ν => by kernel_rfl
    | true =>
     rw [if_pos rfl] at *
     refine onC 81 N none (fun ν => [.ref rl, .ref gl, .ref il2, .int ((d + pre.length : Nat) : Int)]) (fun ν => (rl, .list (RW ++ [startR nm 0])) :: (gl, .list GW) :: R) 19352848288981619446927622 [MO.list (pre ++ MV.tup [MV.str "loop", MV.str nm, MV.ref il2, MV.bool takes] :: vs')] [MV.tup [MV.str "loop", MV.str nm, MV.ref il2, MV.bool takes]] (fun ν => (ai l0 (ai hv (ai hil trivial)))) (fun ν => by kernel_rfl) fun ν K' X' kv kx => ?_
     refine hC _ _ (by lia) (by lia) hil2 (by lia) hrs fun rs gs e1 e2 => kv _ _ _ (.refl _) ?_
     rw [hs1] at e1 e2
     have lr : rs.length = RW.length + 2 + its.sz := by rw [e1, List.length_append, hs1, List.length_append, rowsT_len]; exact (by lia : RW.length + 1 + (its.sz + 1) = RW.length + 2 + its.sz)
     have lg : decide (gs.length < LIM) = true := by
      have := rngT_len its (RW.length + 1) (d + pre.length)
      rw [e2, List.length_append, List.length_map]; exact lim_lt (by lia)
     have lq : ∀ l : List MV, l.length ≤ 5 → decide ((rs ++ l).length < LIM) = true := fun l hl => by rw [List.length_append]; exact lim_lt (by lia)
     have q0' := lq [] (Nat.zero_le _)
     rw [List.append_nil] at q0'
     have q1 := lq [jumpR (rs.length + 4)] (Nat.le_add_left _ _)
     have q2 : decide ((rs ++ [jumpR (rs.length + 4)] ++ [pushR "B"]).length < LIM) = true := by rw [List.append_assoc]; exact lq _ (Nat.le_add_left _ _)
     have q3 : decide ((rs ++ [jumpR (rs.length + 4)] ++ [pushR "B"] ++ [jumpR (rs.length + 4)]).length < LIM) = true := by rw [List.append_assoc, List.append_assoc]; exact lq _ (Nat.le_add_left _ _)
     have lz : (rs ++ [jumpR (rs.length + 4)] ++ [pushR "B"] ++ [jumpR (rs.length + 4)] ++ [pushR "C"]).length = rs.length + 4 := by rw [List.append_assoc, List.append_assoc, List.append_assoc, List.length_append]; rfl
     have b1 : (decide (0 ≤ (RW.length : Int)) && decide ((RW.length : Int) < (rs ++ [jumpR (rs.length + 4)] ++ [pushR "B"] ++ [jumpR (rs.length + 4)] ++ [pushR "C"]).length)) = true := by rw [lz, decide_eq_true (Int.natCast_nonneg _), decide_eq_true (by lia)]; rfl
     have hset : MO.list ((rs ++ [jumpR (rs.length + 4)] ++ [pushR "B"] ++ [jumpR (rs.length + 4)] ++ [pushR "C"]).set (Int.toNat RW.length) (startR nm (rs ++ [jumpR (rs.length + 4)] ++ [pushR "B"] ++ [jumpR (rs.length + 4)] ++ [pushR "C"]).length)) = .list (RW ++ rowsI (.blk true nm its takes) RW.length) := by
      rw [rowsI, if_pos rfl, Int.toNat_natCast, lz, lr, e1]
      simp only [List.append_assoc]
      rw [List.set_append_right _ _ (Nat.le_refl _), Nat.sub_self]; rfl
     cases takes with
     | true =>
      have f2 : gs ++ [Rg.mv ⟨RW.length + 1, rs.length, rs.length + 1, some (rs.length + 3), d + pre.length⟩] = GW ++ (rngI (.blk true nm its true) RW.length (d + pre.length)).map Rg.mv := by rw [rngI, e2, List.map_append, List.append_assoc, lr]; rfl
      exact o9 25828399104453061292003897092866810034763189347942408 [MO.list (RW ++ rowsI (It.blk true nm its true) RW.length)] [] (fun ν => (ai hset (ai b1 (ai q3 (ai q2 (ai q1 (ai q0' (ai lg trivial)))))))) (fun ν => (nx _ _ (some (.int pre.length)) (some (.tup [.str "loop", .str nm, .ref il2, .bool true])) L6 (some (.int RW.length)) (some (.int rs.length)) (some (.int (rs.length + 3))) rfl f2).g) fun ν => by kernel_rfl
     | false =>
      have f2 : gs ++ [Rg.mv ⟨RW.length + 1, rs.length, rs.length + 1, none, d + pre.length⟩] = GW ++ (rngI (.blk true nm its false) RW.length (d + pre.length)).map Rg.mv := by rw [rngI, e2, List.map_append, List.append_assoc, lr]; rfl
      exact o9 25828399104453061292003897092866810035049062371164168 [MO.list (RW ++ rowsI (It.blk true nm its false) RW.length)] [] (fun ν => (ai hset (ai b1 (ai q3 (ai q2 (ai q1 (ai q0' (ai lg trivial)))))))) (fun ν => (nx _ _ (some (.int pre.length)) (some (.tup [.str "loop", .str nm, .ref il2, .bool false])) L6 (some (.int RW.length)) (some (.int rs.length)) (some .none) rfl f2).g) fun ν => by kernel_rfl
noncomputable def Pst (K : Fz → Lg → Prop) (φ : Fz) (Λ : Lg) : Prop := ∀ σ, Hp φ Λ σ → ∃ φ' Λ', Hp φ' Λ' σ ∧ φ.le φ' ∧ K φ' Λ'
theorem Pst.here {K : Fz → Lg → Prop} {φ : Fz} {Λ : Lg} (k : K φ Λ) : Pst K φ Λ := fun σ H => ⟨φ, Λ, H, .refl φ, k⟩
theorem Pst.fz {K : Fz → Lg → Prop} {φ : Fz} {h : Nat} {o : MO} {Λ : Lg} (w : φ.le (φ.add h o) → Pst K (φ.add h o) Λ) : Pst K φ ((h, o) :: Λ) := fun σ H => by
 obtain ⟨H', l⟩ := H.freeze
 obtain ⟨φ2, Λ2, a, b, c⟩ := w l σ H'
 exact ⟨φ2, Λ2, a, l.trans b, c⟩
theorem Pst.drops {K : Fz → Lg → Prop} {φ : Fz} {Λ : Lg} (bs : List Bool) (w : Pst K φ (drops bs Λ)) : Pst K φ Λ := fun σ H => w σ (H.drops bs)
theorem Pst.snk {K : Fz → Lg → Prop} {φ : Fz} {Λ : Lg} (j : Nat) (w : Pst K φ (sink j Λ)) : Pst K φ Λ := fun σ H => w σ (H.sink j)
theorem Wp.post {φ : Fz} {Λ : Lg} {m : MM MV} {K : MV → Fz → Lg → Prop} {X : Nat → Fz → Lg → Prop} (w : Wp φ Λ m (fun v => Pst (K v)) X) : Wp φ Λ m K X := fun σ H => (w σ H).imp fun r => And.imp_right fun o => by
 cases r with
 | ok v σ' =>
  obtain ⟨φ', Λ', a, b, c⟩ := o
  obtain ⟨φ2, Λ2, d, e, f⟩ := c _ a
  exact ⟨φ2, Λ2, d, b.trans e, f⟩
 | err e σ' => exact o
theorem Wp.snk {φ : Fz} {Λ : Lg} {m : MM MV} {K : MV → Fz → Lg → Prop} {X : Nat → Fz → Lg → Prop} (j : Nat) (w : Wp φ (sink j Λ) m K X) : Wp φ Λ m K X := fun σ H => w σ (H.sink j)
noncomputable def opsD : List (MV × MV) := [(.str "push", .fn 61), (.str "pop", .fn 62), (.str "load", .fn 63), (.str "load_name", .fn 64), (.str "load_element", .fn 65), (.str "store", .fn 66), (.str "store_name", .fn 67), (.str "store_element", .fn 68), (.str "join", .fn 69), (.str "invoke", .fn 71), (.str "start", .fn 73), (.str "jump", .fn 74), (.str "fail", .fn 75)]
structure Mw where
 m : Nat
 op : Nat
 al : Nat
 cb : Nat
structure AH where
 a : Nat
 s : Nat
 c : Nat
 ne : Nat
 sl : Nat
 ea : Nat
noncomputable abbrev machO (k : Kw) (q : Mw) (pz : MV) (st : Int) (tx : MV) : MO := .inst 7 [(30, .ref k.ho), (31, .ref q.op), (32, .fn 82), (33, .ref q.al), (34, .ref q.cb), (35, pz), (36, .int st), (37, tx)]
noncomputable abbrev ML (k : Kw) (q : Mw) (pz : MV) (st : Int) (tx : MV) (acts : List MV) (cache : List (MV × MV)) (R : Lg) : Lg := (q.m, machO k q pz st tx) :: (q.al, .list acts) :: (q.cb, .dict cache) :: R
noncomputable abbrev actO (x : AH) (pc : Nat) : MO := .inst 6 [(7, .ref x.c), (22, .ref x.ne), (23, .int pc), (24, .ref x.s), (26, .ref x.sl), (27, .ref x.ea), (28, .tup [.int 0, .str "", .none])]
structure CodeOK (φ : Fz) (c : Nat) (rows : List MV) (rgs : List Rg) (ep : Int) : Prop where
 ex : ∃ rw rg nm so, φ.f c = some (.inst 8 [(50, .ref rw), (48, .ref rg), (25, .ref nm), (29, .ref so), (39, .int ep)]) ∧ φ.f rw = some (.list rows) ∧ φ.f rg = some (.list (rgs.map Rg.mv)) ∧ φ.f nm = some (.list []) ∧ φ.f so = some (.list [])
theorem CodeOK.le {φ φ' : Fz} {c : Nat} {rows : List MV} {rgs : List Rg} {ep : Int} (h : CodeOK φ c rows rgs ep) (l : φ.le φ') : CodeOK φ' c rows rgs ep := by
 obtain ⟨rw, rg, nm, so, a, b, c, d, e⟩ := h
 exact ⟨rw, rg, nm, so, l.1 _ _ a, l.1 _ _ b, l.1 _ _ c, l.1 _ _ d, l.1 _ _ e⟩
noncomputable abbrev keyV (t : Str) (b : Bool) : MV := .tup [.str t, .bool b, .str "::"]
structure CacheOK (φ : Fz) (book : Str → Option Its) (cache : List (MV × MV)) : Prop where
 ks : cache.all (fun p => isTupK p.1) = true
 lk : ∀ t its b v, book t = some its → lookK (keyV t b) cache = some v → ∃ c ep, v = .ref c ∧ CodeOK φ c (rowsT its 0 ++ [joinRw its.len]) (rngT its 0 0) ep
theorem CacheOK.le {φ φ' : Fz} {book : Str → Option Its} {cache : List (MV × MV)} (h : CacheOK φ book cache) (l : φ.le φ') : CacheOK φ' book cache :=
 ⟨h.ks, fun t its b v e e' => by obtain ⟨c, ep, a, b⟩ := h.lk t its b v e e'; exact ⟨c, ep, a, b.le l⟩⟩
theorem key_e {v : MV} {x : Str × Bool × Str} (h : v.key? = some x) : v = .tup [.str x.1, .bool x.2.1, .str x.2.2] := by
 obtain ⟨l, h1, h2⟩ := Option.bind_eq_some_iff.mp h
 obtain ⟨a, b, c, rfl⟩ := key3_e h2
 obtain rfl := Option.some.inj h2
 cases v with
 | tup l' => obtain rfl := Option.some.inj h1; rfl
 | _ => exact (no_some h1).elim
theorem keq_eq {a b : MV} (h : keq a b = true) : a = b := by
 unfold keq at h
 cases ha : a.str? with
 | some x =>
  rw [ha] at h
  cases hb : b.str? with
  | some y => rw [hb] at h; rw [str_e ha, str_e hb, eq_of_beq h]
  | none => rw [hb] at h; cases h
 | none =>
  rw [ha] at h
  cases ka : a.key? with
  | none => rw [ka] at h; cases h
  | some x =>
   cases kb : b.key? with
   | none => rw [ka, kb] at h; cases h
   | some y =>
    rw [ka, kb] at h
    obtain ⟨h1, h2⟩ := and_b h
    obtain ⟨h2, h3⟩ := and_b h2
    rw [key_e ka, key_e kb, eq_of_beq h1, eq_of_beq h2, eq_of_beq h3]
theorem look_put {k k' v u : MV} : ∀ {kvs : List (MV × MV)}, lookK k' (putK k v kvs) = some u → (keq k k' = true ∧ u = v) ∨ lookK k' kvs = some u := fun {kvs} => by
 induction kvs with
 | nil =>
  intro h
  rw [putK, lookK] at h
  cases hq : keq k k' with
  | true => rw [hq] at h; exact .inl ⟨rfl, (Option.some.inj h).symm⟩
  | false => rw [hq] at h; exact (no_some h).elim
 | cons p r ih =>
  intro h
  rw [putK] at h
  cases hk : keq p.1 k with
  | true =>
   rw [hk, cond_true, lookK] at h
   cases hq : keq p.1 k' with
   | true => rw [hq] at h; exact .inl ⟨keq_eq hk ▸ hq, (Option.some.inj h).symm⟩
   | false => rw [hq] at h; exact .inr (by rw [lookK, hq]; exact h)
  | false =>
   rw [hk, cond_false, lookK] at h
   rw [lookK]
   cases hq : keq p.1 k' with
   | true => rw [hq] at h; exact .inr h
   | false => rw [hq] at h; exact ih h
theorem putK_all {k v : MV} (hk : isTupK k = true) : ∀ {kvs : List (MV × MV)}, kvs.all (fun p => isTupK p.1) = true → (putK k v kvs).all (fun p => isTupK p.1) = true := fun {kvs} => by
 induction kvs with
 | nil => exact fun _ => by rw [putK, List.all_cons]; exact Bool.and_eq_true_iff.mpr ⟨hk, rfl⟩
 | cons p r ih =>
  intro h
  rw [List.all_cons] at h
  obtain ⟨h1, h2⟩ := and_b h
  rw [putK]
  cases hk : keq p.1 k with
  | true => rw [cond_true, List.all_cons]; exact Bool.and_eq_true_iff.mpr ⟨h1, h2⟩
  | false => rw [cond_false, List.all_cons]; exact Bool.and_eq_true_iff.mpr ⟨h1, ih h2⟩
theorem putKl {k v : MV} : ∀ {kvs : List (MV × MV)}, (putK k v kvs).length ≤ kvs.length + 1 := fun {kvs} => by
 induction kvs with
 | nil => exact Nat.le_refl _
 | cons p r ih =>
  rw [putK]
  cases keq p.1 k with
  | true => exact Nat.le_succ _
  | false => exact Nat.succ_le_succ ih
structure BookOK (φ : Fz) (k : Kw) (book : Str → Option Its) : Prop where
 bk : ∀ t its, book t = some its → Bk φ k t its ∧ its.dep ≤ 10 ∧ its.sz < 5000 ∧ its.wt ≤ 900 ∧ its.len < 1000
section
variable {book : Str → Option Its}
theorem CacheOK.put {φ : Fz} {cache : List (MV × MV)} {t : Str} {its : Its} {sv : Bool} {c : Nat} {ep : Int} (hc : CacheOK φ book cache) (hb : book t = some its) (co : CodeOK φ c (rowsT its 0 ++ [joinRw its.len]) (rngT its 0 0) ep) :
 CacheOK φ book (putK (keyV t sv) (.ref c) cache) := by
 refine ⟨putK_all rfl hc.ks, fun t' its' b v e e' => ?_⟩
 rcases look_put e' with ⟨h1, rfl⟩ | h
 · have := keq_eq h1
   injection this with this
   injection this with h2 _
   injection h2 with h2
   subst h2
   rw [hb] at e
   cases e
   exact ⟨c, ep, rfl, co⟩
 · exact hc.lk t' its' b v e h
end
theorem code_post {φ : Fz} {c rl gl nm so : Nat} {rows : List MV} {rgs : List Rg} {ep : Int} {Λ : Lg} {K : Fz → Lg → Prop}
 (w : ∀ φ', φ.le φ' → CodeOK φ' c rows rgs ep → K φ' Λ) : Pst K φ ((c, .inst 8 [(50, .ref rl), (48, .ref gl), (25, .ref nm), (29, .ref so), (39, .int ep)]) :: (so, .list []) :: (nm, .list []) :: (rl, .list rows) :: (gl, .list (rgs.map Rg.mv)) :: Λ) := by
 refine Pst.fz fun l1 => Pst.fz fun l2 => Pst.fz fun l3 => Pst.fz fun l4 => Pst.fz fun l5 => Pst.here (w _ (((l1.trans l2).trans l3).trans (l4.trans l5)) ⟨rl, gl, nm, so, ?_, ?_, ?_, ?_, ?_⟩)
 · exact l5.1 _ _ (l4.1 _ _ (l3.1 _ _ (l2.1 _ _ (add_at _ _ _))))
 · exact l5.1 _ _ (add_at _ _ _)
 · exact add_at _ _ _
 · exact l5.1 _ _ (l4.1 _ _ (add_at _ _ _))
 · exact l5.1 _ _ (l4.1 _ _ (l3.1 _ _ (add_at _ _ _)))
section
variable {φ0 : Fz} {k : Kw} {book : Str → Option Its}
theorem maker_w (wd : Wd φ0 k) (bo : BookOK φ0 k book) {t : Str} {its : Its} (hb : book t = some its) {sv : MV} {N : Nat} {φ : Fz} {h : HS} {R : Lg} {K X} (hle : φ0.le φ)
 (kk : ∀ φ' c, φ.le φ' → CodeOK φ' c (rowsT its 0 ++ [joinRw its.len]) (rngT its 0 0) h.ep → K (.ref c) φ' (HL k h R)) :
 Wp φ (HL k h R) (callN (N + 26) 82 [.ref k.ho, .str t, sv] none) K X := by
 have wd' := wd.le hle
 obtain ⟨hbk, hd, hs, hw, hl⟩ := bo.bk t its hb
 obtain ⟨ks, il, vs, lk, hil, hr⟩ := hbk.le hle
 refine Wp.post ?_
 refine walkC 81 (N + 25) none (fun ν => [.ref (φ.fr (ν 7)), .ref (φ.fr (ν 13)), .ref il, .int ((0 : Nat) : Int)]) (fun ν => ((φ.fr (ν 13)), .list []) :: ((φ.fr (ν 7)), .list []) :: HL k h R) 4743858487562 [MO.dict [(MV.str "book", MV.ref k.bk), (MV.str "run", MV.fn 84)], MO.dict k.bd] [MV.ref il] (fun ν => (ai lk (ai ks (ai wd'.bk (ai wd'.tl trivial))))) rfl (fun ν => by kernel_rfl) fun ν K' X' kv kx => ?_
 refine Wp.snk 1 (rcall_of (rloop _ its (Nat.le_refl _)) (N + 25) (by lia) φ (HL k h R) _ _ il 0 [] [] vs _ _ (by rw [List.length_nil]; lia) (by rw [List.length_nil]; lia) hil hl hr fun rs gs e1 e2 => kv _ _ _ (.refl _) ?_)
 subst e1 e2
 exact o9 4956528607628 [] [] (fun ν' => trivial) (fun ν' => code_post (φ := φ) (Λ := HL k h R) (c := (φ.fr (ν' 45))) (so := (φ.fr (ν' 26))) (nm := (φ.fr (ν' 20))) (rl := (φ.fr (ν 7))) (gl := (φ.fr (ν 13))) (ep := h.ep) fun φ' l co => kk φ' (φ.fr (ν' 45)) l co) fun ν' => by kernel_rfl
theorem code_w (wd : Wd φ0 k) (bo : BookOK φ0 k book) {t : Str} {its : Its} (hb : book t = some its) {sv : Bool} {N : Nat} {φ : Fz} {h : HS} {q : Mw} {pz tx : MV} {st : Int} {acts : List MV} {cache : List (MV × MV)} {R : Lg} {K X} (hle : φ0.le φ)
 (hc : CacheOK φ book cache) (hl : cache.length + 1 ≤ 500000)
 (kk : ∀ φ' c cache', φ.le φ' → CodeOK φ' c (rowsT its 0 ++ [joinRw its.len]) (rngT its 0 0) h.ep → CacheOK φ' book cache' → cache'.length ≤ cache.length + 1 → K (.ref c) φ' (HL k h (ML k q pz st tx acts cache' R))) :
 Wp φ (HL k h (ML k q pz st tx acts cache R)) (callN (N + 28) 15 [.ref q.m, .str t, .bool sv] none) K X := by
 have wd' := wd.le hle
 have hk := hc.ks
 have c1 : decide (cache.length < LIM) = true := lim_lt (by lia)
 cases hv : lookK (keyV t sv) cache with
 | none =>
  have hg : some ((lookK (keyV t sv) cache).getD .none) = some .none := by rw [hv]; rfl
  refine walkC 82 (N + 27) none (fun ν => [MV.ref k.1, MV.str t, MV.bool sv]) (fun ν => HL k h (ML k q pz st tx acts cache R)) 364581449894939610866189 [] [MV.none] (fun ν => (ai hg (ai hk trivial))) rfl (fun ν => by kernel_rfl) fun ν K' X' kv kx => ?_
  refine maker_w wd bo hb hle fun φ' c l co => kv _ _ _ l ?_
  exact o9 1074275277 [] [] (fun ν' => (ai c1 (ai hk trivial))) (fun ν' => kk φ' c _ l co ((hc.le l).put (sv := sv) hb co) putKl) fun ν' => by kernel_rfl
 | some v =>
  obtain ⟨c, ep, rfl, rw, rg, nm, so, hco, h2⟩ := hc.lk t its sv v hb hv
  have hg : some ((lookK (keyV t sv) cache).getD .none) = some (.ref c) := by rw [hv]; rfl
  by_cases he : ep = h.ep
  · subst he
    have b1 : (h.ep == h.ep) = true := beq_self_eq_true _
    exact W9 329672098080714557426387079422477 [MO.inst 8 [(50, MV.ref rw), (48, MV.ref rg), (25, MV.ref nm), (29, MV.ref so), (39, MV.int h.ep)]] [MV.ref c] (fun ν => (ai (congrArg not b1) (ai hco (ai hg (ai hk trivial))))) rfl (fun ν => kk φ c cache (.refl _) ⟨rw, rg, nm, so, hco, h2⟩ hc (Nat.le_succ _)) fun ν => by kernel_rfl
  · have b1 : (ep == h.ep) = false := n9 he
    refine walkC 82 (N + 27) none (fun ν => [MV.ref k.1, MV.str t, MV.bool sv]) (fun ν => HL k h (ML k q pz st tx acts cache R)) 1603446176102205278398893273470231053 [MO.inst 8 [(50, MV.ref rw), (48, MV.ref rg), (25, MV.ref nm), (29, MV.ref so), (39, MV.int ep)]] [MV.ref c] (fun ν => (ai (congrArg not b1) (ai hco (ai hg (ai hk trivial))))) rfl (fun ν => by kernel_rfl) fun ν K' X' kv kx => ?_
    refine maker_w wd bo hb hle fun φ' c l co => kv _ _ _ l ?_
    exact o9 1074275277 [] [] (fun ν' => (ai c1 (ai hk trivial))) (fun ν' => kk φ' c _ l co ((hc.le l).put (sv := sv) hb co) putKl) fun ν' => by kernel_rfl
end
noncomputable def bkV : Option Str → MV
 | none => .none
 | some f => .str f
structure NestOK (φ : Fz) (ne : Nat) (ip : Bool) (bk : Option Str) : Prop where
 ex : ∃ sc lb, φ.f ne = some (.inst 4 [(16, .str sc), (17, bkV bk), (18, .bool ip), (19, .str lb)]) ∧ (ip = true → lb = "p")
theorem NestOK.le {φ φ' : Fz} {ne : Nat} {ip : Bool} {bk : Option Str} (h : NestOK φ ne ip bk) (l : φ.le φ') : NestOK φ' ne ip bk := by
 obtain ⟨sc, lb, a, b⟩ := h
 exact ⟨sc, lb, l.1 _ _ a, b⟩
structure ActOK (φ : Fz) (x : AH) (a : AC) : Prop where
 co : CodeOK φ x.c a.rows a.rgs a.ep
 ne : NestOK φ x.ne a.ip a.bk
 rl : a.rows.length ≤ 5001
 gl : a.rgs.length ≤ 900
theorem ActOK.le {φ φ' : Fz} {x : AH} {a : AC} (h : ActOK φ x a) (l : φ.le φ') : ActOK φ' x a := ⟨h.co.le l, h.ne.le l, h.rl, h.gl⟩
noncomputable def AL : List (AH × AC) → Lg → Lg
 | [], R => R
 | p :: r, R => (p.1.a, actO p.1 p.2.pc) :: (p.1.s, .list (p.2.st.map .str)) :: AL r R
noncomputable def refs : List (AH × AC) → List MV
 | [] => []
 | p :: r => refs r ++ [.ref p.1.a]
noncomputable def ActsOK (φ : Fz) (l : List (AH × AC)) : Prop := ∀ p ∈ l, ActOK φ p.1 p.2
section
variable {φ0 : Fz} {k : Kw} {book : Str → Option Its}
theorem enter_w (wd : Wd φ0 k) (bo : BookOK φ0 k book) {t : Str} {its : Its} (hb : book t = some its) {ne : Nat} {bv : MV} {ip : Bool} {lb : Str} {N : Nat} {φ : Fz} {h : HS} {q : Mw} {pz tx : MV} {st : Int} {acts : List MV} {cache : List (MV × MV)} {R : Lg} {K X} (hle : φ0.le φ)
 (hne : φ.f ne = some (.inst 4 [(16, .str t), (17, bv), (18, .bool ip), (19, .str lb)])) (hlen : acts.length < 40)
 (hc : CacheOK φ book cache) (hl : cache.length + 1 ≤ 500000)
 (kk : ∀ φ' a s c sl ea cache', φ.le φ' → CodeOK φ' c (rowsT its 0 ++ [joinRw its.len]) (rngT its 0 0) h.ep → CacheOK φ' book cache' → cache'.length ≤ cache.length + 1 →
  K .none φ' (HL k h (ML k q pz st tx (acts ++ [.ref a]) cache' ((a, actO ⟨a, s, c, ne, sl, ea⟩ 0) :: (s, .list []) :: R)))) :
 Wp φ (HL k h (ML k q pz st tx acts cache R)) (callN (N + 30) 16 [.ref q.m, .ref ne] none) K X := by
 have b1 : decide ((40 : Int) ≤ acts.length) = false := decide_eq_false (by lia)
 have b2 : decide (acts.length < LIM) = true := lim_lt (by lia)
 refine Wp.post ?_
 refine walkC 15 (N + 29) none (fun ν => [MV.ref q.1, MV.str t, MV.bool ip]) (fun ν => HL k h (ML k q pz st tx acts cache R)) 78474441549131338637 [MO.inst 4 [(16, MV.str t), (17, bv), (18, MV.bool ip), (19, MV.str lb)], MO.inst 4 [(16, MV.str t), (17, bv), (18, MV.bool ip), (19, MV.str lb)]] [] (fun ν => (ai hne (ai hne (ai b1 trivial)))) rfl (fun ν => by kernel_rfl) fun ν K' X' kv kx => ?_
 refine code_w wd bo hb hle hc hl fun φ' c cache' l co hc' hl' => kv _ _ _ l ?_
 obtain ⟨rw, rg, nm, so, h1, h2, h3, h4, h5⟩ := co.ex
 have hne' := l.1 _ _ hne
 exact o9 1282425626421510370469380614 [MO.inst 8 [(50, MV.ref rw), (48, MV.ref rg), (25, MV.ref nm), (29, MV.ref so), (39, MV.int h.ep)], MO.list []] [] (fun ν' => (ai b2 (ai h4 (ai h1 trivial)))) (fun ν' => Pst.drops (K := K .none) (Λ := ((φ'.fr (ν' 123)), .dict []) :: ((φ'.fr (ν' 108)), .list []) :: ((φ'.fr (ν' 85)), .list [.none]) :: ((φ'.fr (ν' 61)), .list []) :: ((φ'.fr (ν' 8)), actO ⟨(φ'.fr (ν' 8)), (φ'.fr (ν' 61)), c, ne, (φ'.fr (ν' 108)), (φ'.fr (ν' 123))⟩ 0) :: HL k h (ML k q pz st tx (acts ++ [.ref (φ'.fr (ν' 8))]) cache' R)) [false, false, false] (Pst.snk 9 (Pst.snk 8 (Pst.here (kk φ' (φ'.fr (ν' 8)) (φ'.fr (ν' 61)) c (φ'.fr (ν' 108)) (φ'.fr (ν' 123)) cache' l co hc' hl'))))) fun ν' => by kernel_rfl
end
structure Env where
 n : Nat
 φ0 : Fz
 k : Kw
 q : Mw
 w : Wl
 book : Str → Option Its
 co : MV
 RI : Fz → Lg → Prop
 K0 : Nat → MV → Fz → Lg → Prop
 X0 : Nat → Fz → Lg → Prop
structure EnvOK (E : Env) : Prop where
 wd : Wd E.φ0 E.k
 bo : BookOK E.φ0 E.k E.book
 op : E.φ0.f E.q.op = some (.dict opsD)
 ri : ∀ φ φ' R, φ.le φ' → E.RI φ R → E.RI φ' R
noncomputable def PS.ff : PS → PS
 | .fin _ f => f
 | p => p
noncomputable def PS.wt : PS → PE
 | .while t _ => t
 | _ => .stuck
noncomputable abbrev runT : PE := b_Machine_run.rest.rest.fst.fb.rest.fst.wt
noncomputable abbrev runB : PS := b_Machine_run.rest.rest.fst.fb.rest.fst.fb
noncomputable abbrev runFr : List Frm := [.seq .nil, .fin b_Machine_run.rest.rest.fst.ff, .seq b_Machine_run.rest.rest.rest]
noncomputable abbrev Env.z (E : Env) (c : Ct) (Λ : Lg) : Z := ⟨c, runFr, E.n + 40, none, [some (.ref E.q.m), some (.ref E.k.ho)], Λ, q0⟩
noncomputable def Env.Loop (E : Env) (G : Nat) (φ : Fz) (Λ : Lg) : Prop := Gd (E.K0 G) E.X0 φ (E.z (.W runT runB) Λ)
noncomputable def Env.Exc (E : Env) (G : Nat) (e : Nat) (φ : Fz) (Λ : Lg) : Prop := Gd (E.K0 G) E.X0 φ (E.z (.X e) Λ)
noncomputable abbrev Env.led (E : Env) (h : HS) (st : Int) (tx : MV) (cache : List (MV × MV)) (acts : List (AH × AC)) (R : Lg) : Lg := HL E.k h (ML E.k E.q .none st tx (refs acts) cache (AL acts R))
structure Cnd (E : Env) (b : Nat) (A : List AC) (h : HS) (φ : Fz) (acts : List (AH × AC)) (cache : List (MV × MV)) (R : Lg) (G : Nat) : Prop where
 le : E.φ0.le φ
 ac : acts.map (·.2) = A
 ok : ActsOK φ acts
 ch : CacheOK φ E.book cache
 ri : E.RI φ R
 co : h.co = E.co
 dp : h.dp = 1
 bG : b + 1 ≤ G
 cl : cache.length + b ≤ 500000
 ll : h.log.length + 2 * b ≤ 490000
 sl : ∀ p ∈ acts, p.2.st.length + b ≤ 500000
 al : acts.length + b ≤ 500000
noncomputable def LW (E : Env) (b : Nat) (A : List AC) (h : HS) : Prop := ∀ φ acts cache st tx R G, Cnd E b A h φ acts cache R G → E.Loop G φ (E.led h st tx cache acts R)
theorem Gd.cast {K0 : MV → Fz → Lg → Prop} {X0 : Nat → Fz → Lg → Prop} {φ : Fz} {z z' : Z} (h : Good K0 X0 φ z = Good K0 X0 φ z') (g : Gd K0 X0 φ z') : Gd K0 X0 φ z := ⟨h ▸ g.g⟩
theorem snoc_pos (l : List MV) (v : MV) : decide ((0 : Int) < ((l ++ [v]).length : Int)) = true := by rw [List.length_append]; exact decide_eq_true (by rw [List.length_singleton]; lia)
theorem lw_step {E : Env} (ok : EnvOK E) {b : Nat} {a : AC} {A : List AC} {h : HS}
 (w : ∀ φ x r cache st tx R G, Cnd E (b + 1) (a :: A) h φ ((x, a) :: r) cache R G → Wp φ (HL E.k h (ML E.k E.q .none st tx (refs r ++ [.ref x.a]) cache ((x.a, actO x a.pc) :: (x.s, .list (a.st.map .str)) :: AL r R))) (callN (E.n + 40) 23 [.ref E.q.m] none) (fun _ φ Λ => E.Loop G φ Λ) (fun e φ Λ => E.Exc G e φ Λ)) : LW E (b + 1) (a :: A) h := by
 intro φ acts cache st tx R G c
 cases acts with
 | nil => have := c.ac; cases this
 | cons p r =>
  obtain ⟨x, a'⟩ := p
  have e1 : a' = a := (List.cons.inj c.ac).1
  subst e1
  have hlen := snoc_pos (refs r) (.ref x.a)
  unfold Env.Loop
  refine onC 23 (E.1 + 40) none (fun ν => [MV.ref E.q.1]) (fun ν => HL E.k h (ML E.k E.q .none st tx (refs r ++ [.ref x.a]) cache ((x.a, actO x a'.pc) :: (x.s, .list (a'.st.map .str)) :: AL r R))) 1387108837919556422 [] [] (fun ν => (ai hlen trivial)) (fun ν => by kernel_rfl) fun ν K' X' kv kx => ?_
  refine (w φ x r cache st tx R G c).mono (fun v φ' Λ' l hh => kv v φ' Λ' l ?_) fun e φ' Λ' l hh => kx e φ' Λ' l ?_
  · exact o9 1 [] [] (fun ν' => trivial) (fun ν' => hh.g) fun ν' => by kernel_rfl
  · exact Gd.cast (by kernel_rfl) hh
theorem lw_use {E : Env} {b : Nat} {a : AC} {A : List AC} {h : HS} (hb : LW E b (a :: A) h) {φ : Fz} {x : AH} {r : List (AH × AC)} {cache : List (MV × MV)} {st : Int} {tx : MV} {R : Lg} {G : Nat}
 (c : Cnd E b (a :: A) h φ ((x, a) :: r) cache R G) {S : List MV} (hS : a.st.map .str = S) :
 E.Loop G φ (HL E.k h (ML E.k E.q .none st tx (refs r ++ [.ref x.a]) cache ((x.a, actO x a.pc) :: (x.s, .list S) :: AL r R))) := by
 subst hS
 exact hb φ ((x, a) :: r) cache st tx R G c
theorem Cnd.nx {E : Env} {b : Nat} {a : AC} {A : List AC} {h : HS} {φ : Fz} {x : AH} {r : List (AH × AC)} {cache : List (MV × MV)} {R : Lg} {G : Nat} (c : Cnd E (b + 1) (a :: A) h φ ((x, a) :: r) cache R G)
 {x' : AH} {a' : AC} {h' : HS} (hx : x'.c = x.c ∧ x'.ne = x.ne) (ha : a'.rows = a.rows ∧ a'.rgs = a.rgs ∧ a'.ep = a.ep ∧ a'.ip = a.ip ∧ a'.bk = a.bk) (hs : a'.st.length ≤ a.st.length + 1) (hh : h'.co = h.co ∧ h'.dp = h.dp) (hl : h'.log.length ≤ h.log.length + 2) :
 Cnd E b (a' :: A) h' φ ((x', a') :: r) cache R G := by
 obtain ⟨le, ac, ok, ch, ri, co, dp, bG, cl, ll, sl, al⟩ := c
 refine ⟨le, ?_, ?_, ch, ri, by rw [hh.1, co], by rw [hh.2, dp], by lia, by lia, by lia, ?_, by rw [List.length_cons] at al ⊢; lia⟩
 · rw [List.map_cons] at ac ⊢
   injection ac with _ e
   rw [e]
 · intro p hp
   rcases List.mem_cons.mp hp with rfl | hp
   · have := ok (x, a) (.head _)
     refine ⟨?_, ?_, ?_, ?_⟩
     · show CodeOK φ x'.c a'.rows a'.rgs a'.ep
       rw [hx.1, ha.1, ha.2.1, ha.2.2.1]; exact this.co
     · show NestOK φ x'.ne a'.ip a'.bk
       rw [hx.2, ha.2.2.2.1, ha.2.2.2.2]; exact this.ne
     · show a'.rows.length ≤ _
       rw [ha.1]; exact this.rl
     · show a'.rgs.length ≤ _
       rw [ha.2.1]; exact this.gl
   · exact ok p (.tail _ hp)
 · intro p hp
   rcases List.mem_cons.mp hp with rfl | hp
   · have := sl (x, a) (.head _)
     dsimp only at this ⊢
     lia
   · have := sl p (.tail _ hp)
     lia
theorem idx_row {E : Env} {b : Nat} {a : AC} {A : List AC} {h : HS} {φ : Fz} {x : AH} {r : List (AH × AC)} {cache : List (MV × MV)} {R : Lg} {G : Nat} (c : Cnd E b (a :: A) h φ ((x, a) :: r) cache R G) {v : MV} (hv : a.rows[a.pc]? = some v) :
 idx a.rows a.pc = some v ∧ decide ((a.rows.length : Int) ≤ a.pc) = false := by
 have hlt := (List.getElem?_eq_some_iff.mp hv).1
 have hrl := (c.ok (x, a) (.head _)).rl
 dsimp only at hrl
 refine ⟨?_, decide_eq_false (by lia)⟩
 unfold idx
 rw [if_pos (by lia), if_pos (show (a.pc : Int) < ((LIM : Nat) : Int) from Int.ofNat_lt.mpr (Nat.lt_trans (Nat.lt_of_lt_of_le hlt hrl) (by decide)))]
 rw [Int.toNat_natCast]; exact hv
noncomputable def Unw (k : Kw) (q : Mw) (n : Nat) (K : MV → Fz → Lg → Prop) (X : Nat → Fz → Lg → Prop) (e : Nat) (φ : Fz) (Λ : Lg) : Prop :=
 ∃ x t h pz st tx A cache R, Λ = (e, excO x t) :: HL k h (ML k q pz st tx A cache R) ∧ Wp φ Λ (callN n 22 [.ref q.m, .ref e] (some e)) K X
theorem idx_last (A : List MV) (v : MV) : idx (A ++ [v]) (-1) = some v := by
 unfold idx
 rw [if_neg (by decide), if_pos ⟨by rw [List.length_append, List.length_singleton]; lia, by decide⟩, List.length_append, List.length_singleton, show ((-1 : Int) + ((A.length + 1 : Nat) : Int)).toNat = A.length by lia]
 exact at_mid A _ []
theorem op_w {n : Nat} {k : Kw} {q : Mw} {φ : Fz} {h : HS} {st : Int} {tx : MV} {A : List MV} {cache : List (MV × MV)} {a s c ne sl ea : Nat} {pc : Nat} {S : List MV} {R : Lg} {rows : List MV} {rgs : List Rg} {ep : Int} {o : Str} {va vb : MV} {f : Nat} {K : Fz → Lg → Prop} {X}
 (co : CodeOK φ c rows rgs ep) (hop : φ.f q.op = some (.dict opsD)) (hi : idx rows pc = some (.tup [.str o, va, vb])) (hge : decide ((rows.length : Int) ≤ pc) = false) (hf : lookK (.str o) opsD = some (.fn f))
 (w : Wp φ (HL k h (ML k q .none (st + 1) tx (A ++ [.ref a]) cache ((a, actO ⟨a, s, c, ne, sl, ea⟩ (pc + 1)) :: (s, .list S) :: R)))
  (callN n f [.ref q.m, .ref a, va, vb] none) (fun _ φ Λ => K φ Λ) (Unw k q n (fun _ φ Λ => K φ Λ) X)) :
 Wp φ (HL k h (ML k q .none st tx (A ++ [.ref a]) cache ((a, actO ⟨a, s, c, ne, sl, ea⟩ pc) :: (s, .list S) :: R)))
  (callN (n + 1) 23 [.ref q.m] none) (fun _ φ Λ => K φ Λ) X := by
 obtain ⟨rw_, rg, nm, so, h1, h2, h3, h4, h5⟩ := co.ex
 have hn : (!(lookK (.str o) opsD).isSome) = false := by rw [hf]; rfl
 have hx := idx_last A (.ref a)
 refine walkC f n none (fun ν => [.ref q.m, .ref a, va, vb]) (fun ν => HL k h (ML k q .none (st + 1) tx (A ++ [.ref a]) cache ((a, actO ⟨a, s, c, ne, sl, ea⟩ (pc + 1)) :: (s, .list S) :: R))) 6302819549508998417163351369629849568699666682765 [MO.inst 8 [(50, MV.ref rw_), (48, MV.ref rg), (25, MV.ref nm), (29, MV.ref so), (39, MV.int ep)], MO.list rows, MO.inst 8 [(50, MV.ref rw_), (48, MV.ref rg), (25, MV.ref nm), (29, MV.ref so), (39, MV.int ep)], MO.list rows, MO.dict opsD, MO.dict opsD] [MV.ref a, MV.tup [MV.str o, va, vb], MV.fn f] (fun ν => (ai hf (ai hop (ai hn (ai hop (ai hi (ai h2 (ai h1 (ai hge (ai h2 (ai h1 (ai hx trivial)))))))))))) rfl (fun ν => by kernel_rfl) fun ν K' X' kv kx => ?_
 refine w.mono (fun v φ' Λ' l hh => kv v φ' Λ' l ?_) fun e φ' Λ' l hh => kx e φ' Λ' l ?_
 · exact o9 1 [] [] (fun ν' => trivial) (fun ν' => hh) fun ν' => by kernel_rfl
 · obtain ⟨x, t, h', pz, st', tx', A', cache', R', rfl, hh⟩ := hh
   refine onC 22 n (some e) (fun ν' => [MV.ref q.1, MV.ref e]) (fun ν' => (e, excO x t) :: HL k h' (ML k q pz st' tx' A' cache' R')) 78 [] [] (fun ν' => trivial) (fun ν' => by kernel_rfl) fun ν' K'' X'' kv' kx' => ?_
   refine hh.mono (fun v φ2 Λ2 l2 h2 => kv' v φ2 Λ2 l2 ?_) fun e2 φ2 Λ2 l2 h2 => kx' e2 φ2 Λ2 l2 ?_
   · exact o9 1 [] [] (fun ν'' => trivial) (fun ν'' => h2) fun ν'' => by kernel_rfl
   · exact o9 1 [] [] (fun ν'' => trivial) (fun ν'' => h2) fun ν'' => by kernel_rfl
noncomputable abbrev Env.KL (E : Env) (G : Nat) : MV → Fz → Lg → Prop := fun _ φ Λ => E.Loop G φ Λ
noncomputable abbrev Env.XL (E : Env) (G : Nat) : Nat → Fz → Lg → Prop := Unw E.k E.q (E.n + 39) (E.KL G) fun e φ Λ => E.Exc G e φ Λ
theorem lw_op {E : Env} (ok : EnvOK E) {b : Nat} {a : AC} {A : List AC} {h : HS} {o : Str} {va vb : MV} {f : Nat} (hrow : a.rows[a.pc]? = some (.tup [.str o, va, vb])) (hf : lookK (.str o) opsD = some (.fn f))
 (w : ∀ φ x r cache st tx R G, Cnd E (b + 1) (a :: A) h φ ((x, a) :: r) cache R G → Wp φ (HL E.k h (ML E.k E.q .none st tx (refs r ++ [.ref x.a]) cache ((x.a, actO x (a.pc + 1)) :: (x.s, .list (a.st.map .str)) :: AL r R)))
  (callN (E.n + 39) f [.ref E.q.m, .ref x.a, va, vb] none) (E.KL G) (E.XL G)) : LW E (b + 1) (a :: A) h :=
 lw_step ok fun φ x rr cache st tx R G c => op_w (c.ok (x, a) (.head _)).co (c.le.1 _ _ ok.op) (idx_row c hrow).1 (idx_row c hrow).2 hf (w φ x rr cache (st + 1) tx R G c)
theorem Env.Loop.sd {E : Env} {G : Nat} {φ : Fz} {Λ : Lg} (j : Nat) (bs : List Bool) (h : E.Loop G φ (Mine.sink j (Mine.drops bs Λ))) : E.Loop G φ Λ := Gd.preW bs ⟨fun σ H => h.g σ (H.sink j)⟩
theorem Wp.lsd {E : Env} {G : Nat} {φ : Fz} {Λ : Lg} {m : MM MV} {X : Nat → Fz → Lg → Prop} (j : Nat) (bs : List Bool) (w : Wp φ Λ m (fun _ φ Λ => E.Loop G φ (Mine.sink j (Mine.drops bs Λ))) X) : Wp φ Λ m (E.KL G) X := w.mono (fun _ _ _ _ h => h.sd j bs) fun _ _ _ _ h => h
theorem map_lt {S : List Str} {n : Nat} (h : S.length ≤ n) (hn : n ≤ 500000) : decide ((S.map MV.str).length < LIM) = true := by rw [List.length_map]; exact lim_lt (by lia)
theorem map_snoc (S : List Str) (t : Str) : (S ++ [t]).map MV.str = S.map .str ++ [.str t] := by rw [List.map_append]; rfl
theorem len_snoc {α : Type} (l : List α) (t : α) : (l ++ [t]).length ≤ l.length + 1 := Nat.le_of_eq (List.length_append.trans rfl)
theorem r_push {E : Env} (ok : EnvOK E) (b : Nat) (a : AC) (r : List AC) (h : HS) (s : Str) (hrow : a.rows[a.pc]? = some (pushR s)) (hb : LW E b ({ a with pc := a.pc + 1, st := a.st ++ [s] } :: r) h) : LW E (b + 1) (a :: r) h := by
 refine lw_op ok hrow (f := 61) rfl ?_
 intro φ x rr cache st tx R G c
 have hsl : a.st.length + (b + 1) ≤ 500000 := c.sl (x, a) (.head _)
 have hsl2 := map_lt (Nat.le_refl a.st.length) (Nat.le_trans (Nat.le_add_right _ _) hsl)
 exact W9 17372240 [] [] (fun ν => (ai hsl2 trivial)) rfl (fun ν => lw_use hb (st := st) (tx := tx) (c.nx (x' := x) (a' := { a with pc := a.pc + 1, st := a.st ++ [s] }) (h' := h) ⟨rfl, rfl⟩ ⟨rfl, rfl, rfl, rfl, rfl⟩ (len_snoc _ _) ⟨rfl, rfl⟩ (Nat.le_add_right _ _)) (map_snoc _ _)) fun ν => by kernel_rfl
theorem Cnd.up {E : Env} (ok : EnvOK E) {b : Nat} {A : List AC} {h : HS} {φ φ' : Fz} {acts : List (AH × AC)} {cache : List (MV × MV)} {R : Lg} {G : Nat} (c : Cnd E b A h φ acts cache R G) (l : φ.le φ') : Cnd E b A h φ' acts cache R G := by
 obtain ⟨le, ac, ok', ch, ri, co, dp, bG, cl, ll, sl, al⟩ := c
 exact ⟨le.trans l, ac, fun p hp => (ok' p hp).le l, ch.le l, ok.ri _ _ _ l ri, co, dp, bG, cl, ll, sl, al⟩
theorem r_jump {E : Env} (ok : EnvOK E) (b : Nat) (a : AC) (r : List AC) (h : HS) (to : Nat) (hrow : a.rows[a.pc]? = some (jumpR to)) (hto : a.pc < to) (hb : LW E b ({ a with pc := to } :: r) h) : LW E (b + 1) (a :: r) h := by
 refine lw_op ok hrow (f := 74) rfl ?_
 intro φ x rr cache st tx R G c
 have hlt : decide ((to : Int) < ((a.pc + 1 : Nat) : Int)) = false := decide_eq_false (by lia)
 exact W9 1342452742 [] [] (fun ν => (ai hlt trivial)) rfl (fun ν => lw_use hb (st := st) (tx := tx) (c.nx (x' := x) (a' := { a with pc := to }) (h' := h) ⟨rfl, rfl⟩ ⟨rfl, rfl, rfl, rfl, rfl⟩ (Nat.le_succ _) ⟨rfl, rfl⟩ (Nat.le_add_right _ _)) rfl) fun ν => by kernel_rfl
theorem r_same {E : Env} (ok : EnvOK E) (b : Nat) (a : AC) (r : List AC) (h : HS) (nm : Str) (to : Nat) (hrow : a.rows[a.pc]? = some (startR nm to)) (he : a.ep = h.ep) (hb : LW E b ({ a with pc := a.pc + 1 } :: r) h) : LW E (b + 1) (a :: r) h := by
 refine lw_op ok hrow (f := 73) rfl ?_
 intro φ x rr cache st tx R G c
 obtain ⟨rw_, rg, nm', so, h1, h2, h3, h4, h5⟩ := (c.ok (x, a) (.head _)).co.ex
 have hep : (h.ep == a.ep) = true := q9 he.symm
 exact W9 286079182766605 [MO.inst 8 [(50, MV.ref rw_), (48, MV.ref rg), (25, MV.ref nm'), (29, MV.ref so), (39, MV.int (x, a).snd.ep)]] [] (fun ν => (ai (congrArg not hep) (ai h1 trivial))) rfl (fun ν => lw_use hb (st := st) (tx := tx) (c.nx (x' := x) (a' := { a with pc := a.pc + 1 }) (h' := h) ⟨rfl, rfl⟩ ⟨rfl, rfl, rfl, rfl, rfl⟩ (Nat.le_succ _) ⟨rfl, rfl⟩ (Nat.le_add_right _ _)) rfl) fun ν => by kernel_rfl
theorem cut_ok (A B : List MV) (n : Nat) (hn : B.length = n) : (decide ((0 : Int) ≤ ((A ++ B).length : Int) - n) && decide (((A ++ B).length : Int) - n ≤ (A ++ B).length)) = true ∧ MO.list ((A ++ B).drop (((A ++ B).length : Int) - n).toNat) = .list B ∧ MO.list ((A ++ B).take (((A ++ B).length : Int) - n).toNat) = .list A := by
 have e : ((A ++ B).length : Int) - n = A.length := by rw [List.length_append]; lia
 rw [e, List.length_append, decide_eq_true (Int.natCast_nonneg _), decide_eq_true (by lia), Int.toNat_natCast, List.drop_left, List.take_left]
 exact ⟨rfl, rfl, rfl⟩
theorem r_join {E : Env} (ok : EnvOK E) (b : Nat) (a : AC) (r : List AC) (h : HS) (S ts : List Str) (n : Nat) (hrow : a.rows[a.pc]? = some (joinRw n)) (hn : ts.length = n) (hst : a.st = S ++ ts) (hlim : (j9 ts).length ≤ LIM)
 (hb : LW E b ({ a with pc := a.pc + 1, st := S ++ [j9 ts] } :: r) h) : LW E (b + 1) (a :: r) h := by
 refine lw_op ok hrow (f := 69) rfl ?_
 intro φ x rr cache st tx R G c
 have hsl : a.st.length + (b + 1) ≤ 500000 := c.sl (x, a) (.head _)
 have hsl1 : S.length ≤ a.st.length := by rw [hst, List.length_append]; exact Nat.le_add_right _ _
 have hsl2 := map_lt hsl1 (Nat.le_trans (Nat.le_add_right _ _) hsl)
 rw [hst, List.map_append]
 obtain ⟨c1, c2, c3⟩ := cut_ok (S.map MV.str) (ts.map MV.str) n (by rw [List.length_map]; exact hn)
 have hs : (strsOf (ts.map .str)).map (fun l => MV.str (j9 l)) = some (.str (j9 ts)) := by rw [strsOf_map]; rfl
 have hl := decide_eq_true hlim
 refine Wp.lsd 9 [true, false, true, true, true, true, true, true, true, true, true, false] ?_
 exact W9 1373373067572040846678910896026227718 [MO.list (List.map MV.str ts), MO.list (List.map MV.str S)] [MV.str (j9 ts)] (fun ν => (ai hsl2 (ai hl (ai hs (ai c3 (ai c1 (ai c2 (ai c1 trivial)))))))) rfl (fun ν => lw_use hb (st := st) (tx := tx) (c.nx (x' := { x with s := (φ.fr (ν 91)) }) (a' := { a with pc := a.pc + 1, st := S ++ [j9 ts] }) (h' := h) ⟨rfl, rfl⟩ ⟨rfl, rfl, rfl, rfl, rfl⟩ (Nat.le_trans (len_snoc _ _) (Nat.succ_le_succ hsl1)) ⟨rfl, rfl⟩ (Nat.le_add_right _ _)) (map_snoc _ _)) fun ν => by kernel_rfl
theorem take_s {N : Nat} {k : Kw} {q : Mw} {φ : Fz} {h : HS} {st : Int} {tx : MV} {A : List MV} {cache : List (MV × MV)} {x : AH} {pc : Nat} {S : List MV} {R : Lg} {t : Str} {K X} (hS : decide (S.length < LIM) = true)
 (kk : K .none φ (HL k h (ML k q .none st tx (A ++ [.ref x.a]) cache ((x.a, actO x pc) :: (x.s, .list (S ++ [.str t])) :: R)))) :
 Wp φ (HL k h (ML k q .none st tx (A ++ [.ref x.a]) cache ((x.a, actO x pc) :: (x.s, .list S) :: R))) (callN (N + 2) 20 [.ref q.m, .str t] none) K X := by
 have hlen := snoc_pos A (.ref x.a)
 have hx := idx_last A (.ref x.a)
 exact W9 336027993266902404541777612902465 [] [MV.ref x.a] (fun ν => (ai hS (ai hx (ai hlen trivial)))) rfl (fun ν => kk) fun ν => by kernel_rfl
theorem r_idle {E : Env} (ok : EnvOK E) (b : Nat) (a : AC) (r : List AC) (h : HS) (S : List Str) (hrow : a.rows[a.pc]? = some (invR 1)) (hst : a.st = S ++ [("o" : Str)])
 (hb : ∀ sp, LW E b ({ a with pc := a.pc + 1, st := S ++ [("idle" : Str)] } :: r) { h with sp := sp }) : LW E (b + 1) (a :: r) h := by
 refine lw_op ok hrow (f := 71) rfl ?_
 intro φ x rr cache st tx R G c
 have wd' := ok.wd.le c.le
 have k1 := cm_all E.k h.put
 have hsl : a.st.length + (b + 1) ≤ 500000 := c.sl (x, a) (.head _)
 have hsl1 : S.length + 1 = a.st.length := by rw [hst, List.length_append]; rfl
 have hsl2 := map_lt (S := S) (n := a.st.length) (by lia) (by lia)
 rw [hst, List.map_append, List.map_cons, List.map_nil]
 obtain ⟨c1, c2, c3⟩ := cut_ok (S.map MV.str) [.str "o"] 1 rfl
 have hlen := snoc_pos (refs rr) (.ref x.a)
 have hx := idx_last (refs rr) (.ref x.a)
 refine Wp.lsd 9 [true, false, true, true, true, true, true, true, true, true, true, false] ?_
 exact W9 166754389416924295756315646782185880678110043573540483292454763549170495681691285238923057411462791979257688886383547398 [MO.list [MV.str "o"], MO.list (List.map MV.str S)] [MV.ref x.a] (fun ν => (ai hsl2 (ai hx (ai hlen (ai k1 (ai k1 (ai c3 (ai c1 (ai c2 (ai c1 trivial)))))))))) rfl (fun ν => lw_use (hb (h.sp + 1)) (st := st) (tx := tx) (c.nx (x' := { x with s := (φ.fr (ν 99)) }) (a' := { a with pc := a.pc + 1, st := S ++ [("idle" : Str)] }) (h' := { h with sp := h.sp + 1 }) ⟨rfl, rfl⟩ ⟨rfl, rfl, rfl, rfl, rfl⟩ (Nat.le_trans (len_snoc _ _) (Nat.le_trans (Nat.le_of_eq hsl1) (Nat.le_succ _))) ⟨rfl, rfl⟩ (Nat.le_add_right _ _)) (map_snoc _ _)) fun ν => by kernel_rfl
theorem lw_inv {E : Env} (ok : EnvOK E) {b : Nat} {a : AC} {A : List AC} {h : HS} {S : List Str} {j l : Str} (hrow : a.rows[a.pc]? = some (invR 3)) (hst : a.st = S ++ [("r" : Str), j, l])
 (w : ∀ φ x r cache st tx R G wl sn, Cnd E (b + 1) (a :: A) h φ ((x, a) :: r) cache R G → φ.f wl = some (.list [.str "r", .str j, .str l]) → S.length + 3 = a.st.length → a.st.length + (b + 1) ≤ 500000 → decide ((S.map MV.str).length < LIM) = true →
  Wp φ (HL E.k { h with sp := h.sp + 1 } (ML E.k E.q .none st tx (refs r ++ [.ref x.a]) cache ((x.a, actO { x with s := sn } (a.pc + 1)) :: (sn, .list (S.map .str)) :: AL r R)))
  (callN (E.n + 35) 86 [.ref E.k.ho, .ref wl, dataV E.k] none) (fun v φ Λ => Wp φ Λ (callN (E.n + 37) 20 [.ref E.q.m, v] none) (E.KL G) (E.XL G)) (E.XL G)) : LW E (b + 1) (a :: A) h := by
 refine lw_op ok hrow (f := 71) rfl ?_
 intro φ x rr cache st tx R G c
 have wd' := ok.wd.le c.le
 have k1 := cm_all E.k h.put
 have hsl : a.st.length + (b + 1) ≤ 500000 := c.sl (x, a) (.head _)
 have hsl1 : S.length + 3 = a.st.length := by rw [hst, List.length_append]; rfl
 have hsl2 := map_lt (S := S) (n := a.st.length) (by lia) (by lia)
 rw [hst, List.map_append, List.map_cons, List.map_cons, List.map_cons, List.map_nil]
 obtain ⟨c1, c2, c3⟩ := cut_ok (S.map MV.str) [.str "r", .str j, .str l] 3 rfl
 refine walkC 86 (E.1 + 35) none (fun ν => [MV.ref E.k.1, MV.ref (φ.fr (ν 75)), MV.tup [MV.ref E.k.de, MV.ref E.k.an, MV.ref E.k.lg, MV.ref E.k.ct]]) (fun ν => ((φ.fr (ν 99)), .list (S.map .str)) :: ((φ.fr (ν 75)), .list [.str "r", .str j, .str l]) :: HL E.k { h with sp := h.sp + 1 } (ML E.k E.q .none st tx (refs rr ++ [.ref x.a]) cache ((x.a, actO { x with s := (φ.fr (ν 99)) } (a.pc + 1)) :: (x.s, .list (S.map .str ++ [.str "r", .str j, .str l])) :: AL rr R))) 123346365384754395756374503792409468226232091995147441966160840691023916383407772678 [MO.list [MV.str "r", MV.str j, MV.str l], MO.list (List.map MV.str S)] [] (fun ν => (ai k1 (ai k1 (ai c3 (ai c1 (ai c2 (ai c1 trivial))))))) rfl (fun ν => by kernel_rfl) fun ν K' X' kv kx => ?_
 refine Wp.pre [true, true, true, true, true, true, true, true, true, true, true, false] (Wp.snk 1 (Wp.freeze fun lf => Wp.snk 9 ?_))
 refine (w _ x rr cache st tx R G _ _ (c.up ok lf) (add_at _ _ _) hsl1 hsl hsl2).mono (fun v φ' Λ' l' hh => kv v φ' Λ' (lf.trans l') ?_) fun e φ' Λ' l' hh => kx e φ' Λ' (lf.trans l') ?_
 · refine onC 20 (E.1 + 37) none (fun ν' => [MV.ref E.q.1, v]) (fun ν' => Λ') 1 [] [] (fun ν' => trivial) (fun ν' => by kernel_rfl) fun ν' K'' X'' kv' kx' => ?_
   refine hh.mono (fun v2 φ2 Λ2 l2 h2 => kv' v2 φ2 Λ2 l2 ?_) fun e φ2 Λ2 l2 h2 => kx' e φ2 Λ2 l2 ?_
   · exact o9 1 [] [] (fun ν'' => trivial) (fun ν'' => h2) fun ν'' => by kernel_rfl
   · exact o9 1 [] [] (fun ν'' => trivial) (fun ν'' => h2) fun ν'' => by kernel_rfl
 · exact o9 1 [] [] (fun ν' => trivial) (fun ν' => hh) fun ν' => by kernel_rfl
theorem flat_w {E : Env} (ok : EnvOK E) {b : Nat} {a : AC} {r : List AC} {h h' : HS} {S : List Str} {v : Str} {φ : Fz} {x : AH} {rr : List (AH × AC)} {cache : List (MV × MV)} {st : Int} {tx : MV} {R : Lg} {G sn : Nat} {X : Nat → Fz → Lg → Prop}
 (hb : LW E b ({ a with pc := a.pc + 1, st := S ++ [v] } :: r) h') (c : Cnd E (b + 1) (a :: r) h φ ((x, a) :: rr) cache R G) (hsl1 : S.length + 3 = a.st.length) (hsl2 : decide ((S.map MV.str).length < LIM) = true) (hh : h'.co = h.co ∧ h'.dp = h.dp) (hl : h'.log.length ≤ h.log.length + 2) :
 Wp φ (HL E.k h' (ML E.k E.q .none st tx (refs rr ++ [.ref x.a]) cache ((x.a, actO { x with s := sn } (a.pc + 1)) :: (sn, .list (S.map .str)) :: AL rr R)))
  (callN (E.n + 37) 20 [.ref E.q.m, .str v] none) (E.KL G) X :=
 take_s (x := { x with s := sn }) hsl2 (lw_use hb (c.nx (x' := { x with s := sn }) (a' := { a with pc := a.pc + 1, st := S ++ [v] }) (h' := h') ⟨rfl, rfl⟩ ⟨rfl, rfl, rfl, rfl, rfl⟩ (Nat.le_trans (len_snoc _ _) (by lia)) hh hl) (map_snoc _ _))
theorem Cnd.ll1 {E : Env} {b : Nat} {A : List AC} {h : HS} {φ : Fz} {acts : List (AH × AC)} {cache : List (MV × MV)} {R : Lg} {G : Nat} (c : Cnd E b A h φ acts cache R G) : h.log.length < 500000 := Nat.lt_of_le_of_lt (Nat.le_trans (Nat.le_add_right _ _) c.ll) (by decide)
theorem log1 {l : List MV} {e : MV} : (l ++ [e]).length ≤ l.length + 2 := Nat.le_trans (len_snoc _ _) (Nat.le_succ _)
theorem log2 {l : List MV} {e e' : MV} : (l ++ [e] ++ [e']).length ≤ l.length + 2 := Nat.le_trans (len_snoc _ _) (Nat.succ_le_succ (len_snoc _ _))
theorem r_flat {E : Env} (ok : EnvOK E) (b : Nat) (a : AC) (r : List AC) (h : HS) (S : List Str) (j l v : Str) (m : Int) (hrow : a.rows[a.pc]? = some (invR 3)) (hst : a.st = S ++ [("r" : Str), j, l]) (hj : GoodJ E.k E.w j)
 (hd : E.w.deed j = (.text, v, m) ∨ E.w.deed j = (.put, v, m) ∨ (E.w.deed j = (.nest, v, m) ∧ ¬ (l ≠ "2" ∧ h.c1 < 4)))
 (hb : ∀ p e sp, LW E b ({ a with pc := a.pc + 1, st := S ++ [v] } :: r) (h.aft ⟨h.log ++ [callE j l h.fr], h.c0, h.c1⟩ p e sp)) : LW E (b + 1) (a :: r) h := by
 refine lw_inv ok hrow hst ?_
 intro φ x rr cache st tx R G wl sn c hwl s1 s2 s3
 have wd' := ok.wd.le c.le
 have hj2 := hj.2
 rcases hd with hd | hd | ⟨hd, hn⟩
 · rw [hd] at hj2
   exact deed_text (k := E.k) (h := { h with sp := h.sp + 1 }) (v := v) (more := m) wd' hwl c.ll1 hj2 (flat_w ok (hb h.put h.ep (h.sp + 1)) c s1 s3 ⟨rfl, rfl⟩ log1)
 · rw [hd] at hj2
   exact deed_put (k := E.k) (h := { h with sp := h.sp + 1 }) (v := v) (more := m) wd' hwl c.ll1 hj2 (flat_w ok (hb true (h.ep + 1) (h.sp + 1)) c s1 s3 ⟨rfl, rfl⟩ log1)
 · rw [hd] at hj2
   exact deed_flat (k := E.k) (h := { h with sp := h.sp + 1 }) (v := v) (more := m) wd' hwl c.ll1 hj2 hn (flat_w ok (hb h.put h.ep (h.sp + 1)) c s1 s3 ⟨rfl, rfl⟩ log1)
noncomputable abbrev unT : PE := b_Machine_unwind.fst.wt
noncomputable abbrev unB : PS := b_Machine_unwind.fst.fb
noncomputable abbrev unFr : List Frm := [.seq b_Machine_unwind.rest]
noncomputable abbrev Env.EL (E : Env) (G : Nat) : Nat → Fz → Lg → Prop := fun e φ Λ => E.Exc G e φ Λ
noncomputable abbrev Env.uz (E : Env) (e0 e : Nat) (L2 L3 L4 : Option MV) (c : Ct) (Λ : Lg) : Z := ⟨c, unFr, E.n + 38, some e0, [some (.ref E.q.m), some (.ref e), L2, L3, L4], Λ, q0⟩
noncomputable def UW (E : Env) (b : Nat) (A : List AC) (h : HS) (x : AX) : Prop := ∀ φ acts cache st tx R G e t e0 L2 L3 L4, Cnd E b A h φ acts cache R G → Nat.ble e0 e = true → e0 ≤ φ.b →
 Gd (E.KL G) (E.EL G) φ (E.uz e0 e L2 L3 L4 (.W unT unB) ((e, excO x t) :: E.led h st tx cache acts R))
theorem un_w {E : Env} (ok : EnvOK E) {b : Nat} {A : List AC} {h : HS} {x : AX} (hu : UW E b A h x) {φ : Fz} {acts : List (AH × AC)} {cache : List (MV × MV)} {st : Int} {tx : MV} {R : Lg} {G e t : Nat}
 (c : Cnd E b A h φ acts cache R G) :
 Wp φ ((e, excO x t) :: E.led h st tx cache acts R) (callN (E.n + 39) 22 [.ref E.q.m, .ref e] (some e)) (E.KL G) (E.EL G) := by
 refine Wp.bd (j := 0) rfl fun hle => ?_
 have hu := hu ⟨φ.f, max φ.b (e + 1)⟩ acts cache st tx R G e t e none none none (c.up ok hle) (ble_self e) (bd_le _ _)
 exact W9 1 [] [] (fun ν => trivial) rfl (fun ν => hu.g) fun ν => by kernel_rfl
theorem r_rais {E : Env} (ok : EnvOK E) (b : Nat) (a : AC) (r : List AC) (h : HS) (S : List Str) (j l v : Str) (m : Int) (hrow : a.rows[a.pc]? = some (invR 3)) (hst : a.st = S ++ [("r" : Str), j, l]) (hj : GoodJ E.k E.w j)
 (hd : E.w.deed j = (.raise, v, m))
 (hb : ∀ p e sp, UW E b ({ a with pc := a.pc + 1, st := S } :: r) (h.aft ⟨h.log ++ [callE j l h.fr], h.c0, h.c1⟩ p e sp) (raiseX v m)) : LW E (b + 1) (a :: r) h := by
 refine lw_inv ok hrow hst ?_
 intro φ x rr cache st tx R G wl sn c hwl s1 s2 s3
 have hj2 := hj.2
 rw [hd] at hj2
 refine deed_raise (k := E.k) (h := { h with sp := h.sp + 1 }) (v := v) (more := m) (x := raiseX v m) (ok.wd.le c.le) hwl c.ll1 hj2 (by unfold raiseX; rfl) ?_
 intro e t
 have cn := c.nx (x' := { x with s := sn }) (a' := { a with pc := a.pc + 1, st := S }) (h' := h.aft ⟨h.log ++ [callE j l h.fr], h.c0, h.c1⟩ h.put h.ep (h.sp + 1)) ⟨rfl, rfl⟩ ⟨rfl, rfl, rfl, rfl, rfl⟩ (by dsimp only; lia) ⟨rfl, rfl⟩ log1
 exact ⟨_, _, _, _, _, _, _, _, _, rfl, un_w ok (hb h.put h.ep (h.sp + 1)) cn (st := st) (tx := tx) (t := t)⟩
theorem r_turnB {E : Env} (ok : EnvOK E) (ga : GoodA E.k E.w) (b : Nat) (a : AC) (r : List AC) (h : HS) (S : List Str) (j l v : Str) (m : Int) (hrow : a.rows[a.pc]? = some (invR 3)) (hst : a.st = S ++ [("r" : Str), j, l]) (hj : GoodJ E.k E.w j)
 (hd : E.w.deed j = (.turn, v, m))
 (hb : ∀ p e sp, LW E b ({ a with pc := a.pc + 1, st := S ++ [E.w.ans h.c0] } :: r) (h.aft ⟨h.log ++ [callE j l h.fr] ++ [turnE m v], h.c0 + 1, h.c1⟩ p e sp)) : LW E (b + 1) (a :: r) h := by
 refine lw_inv ok hrow hst ?_
 intro φ x rr cache st tx R G wl sn c hwl s1 s2 s3
 have hj2 := hj.2
 rw [hd] at hj2
 exact deed_turn (k := E.k) (h := { h with sp := h.sp + 1 }) (v := v) (more := m) (kd := kindT m) (ok.wd.le c.le) hwl c.ll1 hj2 rfl ga.hs ga.he ga.hlen (ga.ha _) (flat_w ok (hb h.put h.ep (h.sp + 1)) c s1 s3 ⟨rfl, rfl⟩ log2)
theorem refs_len : ∀ l : List (AH × AC), (refs l).length = l.length
 | [] => rfl
 | p :: r => by rw [refs, List.length_append, refs_len r]; rfl
theorem Cnd.pu {E : Env} (ok : EnvOK E) {b : Nat} {a : AC} {A : List AC} {h : HS} {φ φ' : Fz} {x : AH} {r : List (AH × AC)} {cache cache' : List (MV × MV)} {R : Lg} {G : Nat} {h1 : HS} {x1 : AH} {a1 : AC} (c : Cnd E b (a :: A) h φ ((x, a) :: r) cache R G) (c1 : Cnd E (b + 1) (a1 :: A) h1 φ ((x1, a1) :: r) cache R G)
 (l : φ.le φ') {t : Str} {its : Its} (hb : E.book t = some its) {a2 s2 c2 ne sl ea : Nat} {ep : Int} {ip : Bool} {bk : Option Str} (co : CodeOK φ' c2 (rowsT its 0 ++ [joinRw its.len]) (rngT its 0 0) ep) (no : NestOK φ' ne ip bk)
 (hc : CacheOK φ' E.book cache') (hl : cache'.length ≤ cache.length + 1) : Cnd E b (codeOf its ep ip bk :: a :: A) h φ' ((⟨a2, s2, c2, ne, sl, ea⟩, codeOf its ep ip bk) :: (x, a) :: r) cache' R G := by
 obtain ⟨le, ac, ok', ch, ri, co', dp, bG, cl, ll, sl', al⟩ := c.up ok l
 have cl1 := c1.cl
 have al1 := c1.al
 obtain ⟨_, _, hs, hw, _⟩ := ok.bo.bk t its hb
 refine ⟨le, ?_, ?_, hc, ri, co', dp, bG, by lia, ll, ?_, ?_⟩
 · rw [List.map_cons, ac]
 · intro p hp
   rcases List.mem_cons.mp hp with rfl | hp
   · refine ⟨co, no, ?_, ?_⟩
     · dsimp only
       rw [List.length_append, rowsT_len, List.length_singleton]
       lia
     · dsimp only
       exact Nat.le_trans (rngT_len its 0 0) hw
   · exact ok' p hp
 · intro p hp
   rcases List.mem_cons.mp hp with rfl | hp
   · exact Nat.le_trans (Nat.le_of_eq (Nat.zero_add b)) (by lia)
   · exact sl' p hp
 · simp only [List.length_cons] at al1 ⊢
   lia
theorem Cnd.len {E : Env} {b : Nat} {a : AC} {A : List AC} {h : HS} {φ : Fz} {x : AH} {r : List (AH × AC)} {cache : List (MV × MV)} {R : Lg} {G : Nat} (c : Cnd E b (a :: A) h φ ((x, a) :: r) cache R G) : r.length = A.length := by
 have := congrArg List.length c.ac
 rw [List.length_map] at this
 exact Nat.succ.inj this
theorem r_nest {E : Env} (ok : EnvOK E) (b : Nat) (a : AC) (r : List AC) (h : HS) (S : List Str) (j l v : Str) (m : Int) (its : Its) (hrow : a.rows[a.pc]? = some (invR 3)) (hst : a.st = S ++ [("r" : Str), j, l]) (hj : GoodJ E.k E.w j)
 (hd : E.w.deed j = (.nest, v, m)) (hl0 : l ≠ "2") (hc1 : h.c1 < 4) (hbk : E.book (if l = "0" then "P1" else "P2") = some its) (hr : r.length ≤ 30)
 (hb : ∀ sp, LW E b (codeOf its h.ep (m % 2 == 1) (if m / 2 % 2 = 0 then some h.fr else none) :: { a with pc := a.pc + 1, st := S } :: r)
  { h with log := h.log ++ [callE j l h.fr], c1 := h.c1 + 1, fr := if m / 2 % 2 = 0 then "f" ++ j else h.fr, sp := sp }) : LW E (b + 1) (a :: r) h := by
 refine lw_inv ok hrow hst ?_
 intro φ x rr cache st tx R G wl sn c hwl s1 s2 s3
 have hj1 := hj.1
 have hj2 := hj.2
 rw [hd] at hj2
 have hrr := c.len
 have hl40 : (refs rr ++ [MV.ref x.a]).length < 40 := by rw [List.length_append, refs_len, List.length_singleton]; lia
 obtain ⟨back, hback⟩ : ∃ back : MV, back = if m / 2 % 2 = 0 then .str h.fr else .none := ⟨_, rfl⟩
 have hbb : back = bkV (if m / 2 % 2 = 0 then some h.fr else none) := by rw [hback]; split <;> rfl
 refine deed_nest (k := E.k) (h := { h with sp := h.sp + 1 }) (v := v) (more := m) (ok.wd.le c.le) hwl c.ll1 hj2 hl0 hc1 hj1 hback rfl ?_
 intro p
 refine Wp.freeze (fun lf => ?_)
 have cn0 := (c.nx (x' := { x with s := sn }) (a' := { a with pc := a.pc + 1, st := S }) (h' := { h with log := h.log ++ [callE j l h.fr], c1 := h.c1 + 1, fr := if m / 2 % 2 = 0 then "f" ++ j else h.fr, sp := h.sp + 1 }) ⟨rfl, rfl⟩ ⟨rfl, rfl, rfl, rfl, rfl⟩ (by dsimp only; lia) ⟨rfl, rfl⟩ log1).up ok lf
 have c' := c.up ok lf
 have hcl := c.cl
 have hp := add_at φ p (.inst 4 [(16, .str (if l = "0" then "P1" else "P2")), (17, back), (18, .bool (m % 2 == 1)), (19, .str "p")])
 refine walkC 16 (E.1 + 36) none (fun ν => [MV.ref E.q.1, MV.ref p]) (fun ν => HL E.k { h with log := h.log ++ [callE j l h.fr], c1 := h.c1 + 1, fr := if m / 2 % 2 = 0 then "f" ++ j else h.fr, sp := h.sp + 1 } (ML E.k E.q .none st tx (refs rr ++ [.ref x.a]) cache ((x.a, actO { x with s := sn } (a.pc + 1)) :: (sn, .list (S.map .str)) :: AL rr R))) 20185092 [MO.inst 4 [(16, MV.str (if l = Str.ofString "0" then Str.ofString "P1" else Str.ofString "P2")), (17, back), (18, MV.bool (m % 2 == 1)), (19, MV.str "p")]] [] (fun ν => (ai hp trivial)) rfl (fun ν => by kernel_rfl) fun ν K' X' kv kx => ?_
 refine enter_w ok.wd ok.bo hbk (h := { h with log := h.log ++ [callE j l h.fr], c1 := h.c1 + 1, fr := if m / 2 % 2 = 0 then "f" ++ j else h.fr, sp := h.sp + 1 }) (c.le.trans lf) hp hl40 c'.ch (by lia) fun φ' a2 s2 c2 sl ea cache' l' co hc' hl' => kv _ _ _ l' ?_
 have no : NestOK φ' p (m % 2 == 1) (if m / 2 % 2 = 0 then some h.fr else none) := by
  refine ⟨if l = "0" then "P1" else "P2", "p", l'.1 _ _ ?_, fun _ => rfl⟩
  rw [← hbb]
  exact hp
 have fin := lw_use (hb (h.sp + 1)) (st := st) (tx := tx) (cn0.pu ok c' l' hbk (a2 := a2) (s2 := s2) (sl := sl) (ea := ea) co no hc' hl') (S := []) rfl
 exact o9 1 [] [] (fun ν' => trivial) (fun ν' => fin) fun ν' => by kernel_rfl
theorem r_entr {E : Env} (ok : EnvOK E) {cr : Nat} (hco : E.co = .ref cr) (b : Nat) (a : AC) (r : List AC) (h : HS) (nm : Str) (to : Nat) (its : Its) (hrow : a.rows[a.pc]? = some (startR nm to)) (he : a.ep ≠ h.ep) (hbk : E.book nm = some its) (hr : r.length ≤ 30)
 (hb : LW E b (codeOf its h.ep false none :: { a with pc := to } :: r) h) : LW E (b + 1) (a :: r) h := by
 refine lw_op ok hrow (f := 73) rfl ?_
 intro φ x rr cache st tx R G c
 obtain ⟨rw_, rg, nm', so, h1, h2, h3, h4, h5⟩ := (c.ok (x, a) (.head _)).co.ex
 have hep : (h.ep == a.ep) = false := n9 fun e => he e.symm
 have hcn : (MV.none? h.co) = false := by rw [c.co, hco]; rfl
 have hrr := c.len
 have hl40 : (refs rr ++ [MV.ref x.a]).length < 40 := by rw [List.length_append, refs_len, List.length_singleton]; lia
 refine walkC 16 (E.1 + 38) none (fun ν => [MV.ref E.q.1, MV.ref (φ.fr (ν 105))]) (fun ν => ((φ.fr (ν 105)), .inst 4 [(16, .str nm), (17, .none), (18, .bool false), (19, .str "")]) :: HL E.k h (ML E.k E.q .none st tx (refs rr ++ [.ref x.a]) cache ((x.a, actO x to) :: (x.s, .list (a.st.map .str)) :: AL rr R))) 23406544531495978920971244313575949 [MO.inst 8 [(50, MV.ref rw_), (48, MV.ref rg), (25, MV.ref nm'), (29, MV.ref so), (39, MV.int (x, a).snd.ep)]] [] (fun ν => (ai hcn (ai (congrArg not hep) (ai h1 trivial)))) rfl (fun ν => by kernel_rfl) fun ν K' X' kv kx => ?_
 refine Wp.freeze (fun lf => ?_)
 have cn0 := (c.nx (x' := x) (a' := { a with pc := to }) (h' := h) ⟨rfl, rfl⟩ ⟨rfl, rfl, rfl, rfl, rfl⟩ (Nat.le_succ _) ⟨rfl, rfl⟩ (Nat.le_add_right _ _)).up ok lf
 have c' := c.up ok lf
 have hcl := c.cl
 refine enter_w ok.wd ok.bo hbk (h := h) (q := E.q) (k := E.k) (c.le.trans lf) (add_at _ _ _) hl40 c'.ch (by lia) fun φ' a2 s2 c2 sl ea cache' l' co hc' hl' => kv _ _ _ (lf.trans l') ?_
 have no : NestOK φ' _ false none := ⟨nm, "", l'.1 _ _ (add_at φ _ _), fun h => by cases h⟩
 have fin := lw_use hb (st := st) (tx := tx) (cn0.pu ok c' l' hbk (a2 := a2) (s2 := s2) (sl := sl) (ea := ea) co no hc' hl') (S := []) rfl
 exact o9 1 [] [] (fun ν' => trivial) (fun ν' => fin) fun ν' => by kernel_rfl
noncomputable def POk (E : Env) (nm : Str) (D : Nat) (ev : Str → SS → Rz Str × SS) : Prop := (∃ c, c ≤ E.n + 38 ∧ NxW E.φ0 E.k c D 1 nm ev) ∧ ∀ fr s, (ev fr s).2.log.length ≤ s.log.length + D
theorem Cnd.nd {E : Env} {b D : Nat} {A : List AC} {h : HS} {φ : Fz} {acts : List (AH × AC)} {cache : List (MV × MV)} {R : Lg} {G : Nat} (c : Cnd E (b + D + 1) A h φ acts cache R G)
 {h' : HS} (hh : h'.co = h.co ∧ h'.dp = h.dp) (hl : h'.log.length ≤ h.log.length + D) : Cnd E (b + 1) A h' φ acts cache R G := by
 obtain ⟨le, ac, ok, ch, ri, co, dp, bG, cl, ll, sl, al⟩ := c
 exact ⟨le, ac, ok, ch, ri, by rw [hh.1, co], by rw [hh.2, dp], by lia, by lia, by lia, fun p hp => by have := sl p hp; lia, by lia⟩
theorem r_plain {E : Env} (ok : EnvOK E) (hco : E.co = .none) (b : Nat) (a : AC) (r : List AC) (h : HS) (nm : Str) (to D : Nat) (ev : Str → SS → Rz Str × SS) (hrow : a.rows[a.pc]? = some (startR nm to)) (he : a.ep ≠ h.ep) (hP : POk E nm D ev)
 (hb : match ev h.fr h.ss with
  | (.ok t, s) => ∀ p e sp, LW E b ({ a with pc := to, st := a.st ++ [t] } :: r) (h.aft s p e sp)
  | (.err x, s) => ∀ p e sp, UW E b ({ a with pc := a.pc + 1 } :: r) (h.aft s p e sp) x) : LW E (b + D + 1) (a :: r) h := by
 refine lw_op ok hrow (f := 73) rfl ?_
 intro φ x rr cache st tx R G c
 obtain ⟨rw_, rg, nm', so, h1, h2, h3, h4, h5⟩ := (c.ok (x, a) (.head _)).co.ex
 have hep : (h.ep == a.ep) = false := n9 fun e => he e.symm
 have hcn : (MV.none? h.co) = true := by rw [c.co, hco]; rfl
 have hsl : a.st.length + (b + D + 1) ≤ 500000 := c.sl (x, a) (.head _)
 have hsl2 := map_lt (S := a.st) (Nat.le_refl _) (by lia)
 obtain ⟨⟨cN, hcN, hN⟩, hgr⟩ := hP
 have hll := c.ll
 have hdp := c.dp
 refine walkC 33 (E.1 + 38) none (fun ν => [MV.ref E.k.1, MV.str nm]) (fun ν => HL E.k h (ML E.k E.q .none st tx (refs rr ++ [.ref x.a]) cache ((x.a, actO x (a.pc + 1)) :: (x.s, .list (a.st.map .str)) :: AL rr R))) 89388352894077928258818605581 [MO.inst 8 [(50, MV.ref rw_), (48, MV.ref rg), (25, MV.ref nm'), (29, MV.ref so), (39, MV.int (x, a).snd.ep)]] [] (fun ν => (ai hcn (ai (congrArg not hep) (ai h1 trivial)))) rfl (fun ν => by kernel_rfl) fun ν K' X' kv kx => ?_
 refine hN _ hcN φ h _ _ _ c.le (by lia) (by lia) ?_
 have hgr := hgr h.fr h.ss
 revert hb hgr
 generalize ev h.fr h.ss = q
 obtain ⟨q, s⟩ := q
 intro hb hgr
 have hgr : s.log.length ≤ h.log.length + D := hgr
 cases q with
 | ok t =>
  intro φ' p e sp lf
  refine kv _ _ _ lf ?_
  have cn := ((c.nd (h' := h.aft s p e sp) ⟨rfl, rfl⟩ hgr).nx (x' := x) (a' := { a with pc := to, st := a.st ++ [t] }) (h' := h.aft s p e sp) ⟨rfl, rfl⟩ ⟨rfl, rfl, rfl, rfl, rfl⟩ (len_snoc _ _) ⟨rfl, rfl⟩ (Nat.le_add_right _ _)).up ok lf
  exact o9 327825 [] [] (fun ν' => (ai hsl2 trivial)) (fun ν' => lw_use (hb p e sp) (st := st) (tx := tx) cn (map_snoc _ _)) fun ν' => by kernel_rfl
 | err y =>
  intro φ' p e sp ex t lf
  refine kx _ _ _ lf ?_
  have cn := ((c.nd (h' := h.aft s p e sp) ⟨rfl, rfl⟩ hgr).nx (x' := x) (a' := { a with pc := a.pc + 1 }) (h' := h.aft s p e sp) ⟨rfl, rfl⟩ ⟨rfl, rfl, rfl, rfl, rfl⟩ (Nat.le_succ _) ⟨rfl, rfl⟩ (Nat.le_add_right _ _)).up ok lf
  have fin : E.XL G ex φ' _ := ⟨_, _, _, _, _, _, _, _, _, rfl, un_w ok (hb p e sp) cn (st := st) (tx := tx) (t := t)⟩
  exact o9 1 [] [] (fun ν' => trivial) (fun ν' => fin) fun ν' => by kernel_rfl
noncomputable def LD (E : Env) (b : Nat) (t : Str) (h : HS) : Prop := ∀ φ cache st R G, Cnd E b [] h φ [] cache R G → E.Loop G φ (HL E.k h (ML E.k E.q .none st (.str t) [] cache R))
theorem Cnd.po {E : Env} {b : Nat} {a : AC} {A : List AC} {h : HS} {φ : Fz} {x : AH} {r : List (AH × AC)} {cache : List (MV × MV)} {R : Lg} {G : Nat} (c : Cnd E b (a :: A) h φ ((x, a) :: r) cache R G) (bk : Option Str) : Cnd E b A (h.lv bk) φ r cache R G := by
 obtain ⟨le, ac, ok, ch, ri, co, dp, bG, cl, ll, sl, al⟩ := c
 exact ⟨le, (List.cons.inj ac).2, fun p hp => ok p (.tail _ hp), ch, ri, co, dp, bG, cl, ll, fun p hp => sl p (.tail _ hp), by rw [List.length_cons] at al; lia⟩
theorem Cnd.dn {E : Env} {b : Nat} {A : List AC} {h : HS} {φ : Fz} {acts : List (AH × AC)} {cache : List (MV × MV)} {R : Lg} {G : Nat} (c : Cnd E (b + 1) A h φ acts cache R G) : Cnd E b A h φ acts cache R G := by
 obtain ⟨le, ac, ok, ch, ri, co, dp, bG, cl, ll, sl, al⟩ := c
 exact ⟨le, ac, ok, ch, ri, co, dp, by lia, by lia, by lia, fun p hp => by have := sl p hp; lia, by lia⟩
theorem r_fin {E : Env} (ok : EnvOK E) (b : Nat) (a a2 : AC) (r : List AC) (h : HS) (t : Str) (hpc : a.rows.length ≤ a.pc) (hst : a.st = [t]) (hb : LW E b ({ a2 with st := a2.st ++ [t] } :: r) (h.lv a.bk)) : LW E (b + 1) (a :: a2 :: r) h := by
 refine lw_step ok ?_
 intro φ x rr cache st tx R G c
 cases rr with
 | nil => exact absurd c.len (fun e => nomatch e)
 | cons p2 rr =>
 obtain ⟨x2, a2'⟩ := p2
 have e : a2' = a2 := (List.cons.inj (List.cons.inj c.ac).2).1
 subst e
 obtain ⟨rw_, rg, nm', so, h1, h2, h3, h4, h5⟩ := (c.ok (x, a) (.head _)).co.ex
 obtain ⟨sc, lb, hne, _⟩ := (c.ok (x, a) (.head _)).ne.ex
 have hne : φ.f x.ne = some (.inst 4 [(16, .str sc), (17, bkV a.bk), (18, .bool a.ip), (19, .str lb)]) := hne
 have hge : decide ((a.rows.length : Int) ≤ a.pc) = true := decide_eq_true (by lia)
 have hsl : a2'.st.length + (b + 1) ≤ 500000 := c.sl (x2, a2') (.tail _ (.head _))
 have hsl2 := map_lt (S := a2'.st) (Nat.le_refl _) (by lia)
 have hlen := snoc_pos (refs rr) (.ref x2.a)
 have i1 := idx_last (refs rr ++ [.ref x2.a]) (.ref x.a)
 have i2 := idx_last (refs rr) (.ref x2.a)
 have hpop : refs rr ++ [MV.ref x2.a] ++ [.ref x.a] = (refs rr ++ [.ref x2.a]) ++ [.ref x.a] := rfl
 rw [hst, List.map_cons, List.map_nil]
 show Wp φ (HL E.k h (ML E.k E.q .none st tx (refs rr ++ [.ref x2.a] ++ [.ref x.a]) cache ((x.a, actO x a.pc) :: (x.s, .list [.str t]) :: (x2.a, actO x2 a2'.pc) :: (x2.s, .list (a2'.st.map .str)) :: AL rr R))) _ _ _
 have cn2 : Cnd E b ({ a2' with st := a2'.st ++ [t] } :: r) (h.lv a.bk) φ ((x2, { a2' with st := a2'.st ++ [t] }) :: rr) cache R G := (c.po a.bk).nx (x' := x2) (a' := { a2' with st := a2'.st ++ [t] }) (h' := h.lv a.bk) ⟨rfl, rfl⟩ ⟨rfl, rfl, rfl, rfl, rfl⟩ (len_snoc _ _) ⟨rfl, rfl⟩ (Nat.le_add_right _ _)
 refine Wp.lsd 0 [true, true, true, true, true, true, true, true, false, false] ?_
 revert hb cn2 hne
 generalize a.bk = bk
 intro hb hne cn2
 cases bk with
 | none =>
  exact W9 125783224721655003432305422196904980770525695536580977792508994381106133619938710413 [MO.inst 8 [(50, MV.ref rw_), (48, MV.ref rg), (25, MV.ref nm'), (29, MV.ref so), (39, MV.int (x, a).snd.ep)], MO.list (x, a).snd.rows, MO.list (refs rr ++ [MV.ref x2.a]), MO.inst 4 [(16, MV.str sc), (17, bkV none), (18, MV.bool a.ip), (19, MV.str lb)]] [MV.ref x.a, MV.ref x.a, MV.ref x2.a] (fun ν => (ai hsl2 (ai i2 (ai hlen (ai hne (ai hpop (ai hge (ai h2 (ai h1 (ai i1 trivial)))))))))) rfl (fun ν => lw_use hb (st := st) (tx := tx) cn2 (map_snoc _ _)) fun ν => by kernel_rfl
 | some f =>
  exact W9 515208088459898894058723012149093883105861396820138822536599474575732092811350386955149 [MO.inst 8 [(50, MV.ref rw_), (48, MV.ref rg), (25, MV.ref nm'), (29, MV.ref so), (39, MV.int (x, a).snd.ep)], MO.list (x, a).snd.rows, MO.list (refs rr ++ [MV.ref x2.a]), MO.inst 4 [(16, MV.str sc), (17, bkV (some f)), (18, MV.bool a.ip), (19, MV.str lb)], MO.inst 4 [(16, MV.str sc), (17, bkV (some f)), (18, MV.bool a.ip), (19, MV.str lb)]] [MV.ref x.a, MV.ref x.a, MV.ref x2.a] (fun ν => (ai hsl2 (ai i2 (ai hlen (ai hne (ai hne (ai hpop (ai hge (ai h2 (ai h1 (ai i1 trivial))))))))))) rfl (fun ν => lw_use hb (st := st) (tx := tx) cn2 (map_snoc _ _)) fun ν => by kernel_rfl
theorem r_last {E : Env} (ok : EnvOK E) (b : Nat) (a : AC) (h : HS) (t : Str) (hpc : a.rows.length ≤ a.pc) (hst : a.st = [t]) (hb : LD E b t (h.lv a.bk)) : LW E (b + 1) [a] h := by
 refine lw_step ok ?_
 intro φ x rr cache st tx R G c
 cases rr with
 | cons p2 rr => exact absurd c.len (fun e => nomatch e)
 | nil =>
 obtain ⟨rw_, rg, nm', so, h1, h2, h3, h4, h5⟩ := (c.ok (x, a) (.head _)).co.ex
 obtain ⟨sc, lb, hne, _⟩ := (c.ok (x, a) (.head _)).ne.ex
 have hne : φ.f x.ne = some (.inst 4 [(16, .str sc), (17, bkV a.bk), (18, .bool a.ip), (19, .str lb)]) := hne
 have hge : decide ((a.rows.length : Int) ≤ a.pc) = true := decide_eq_true (by lia)
 rw [hst, List.map_cons, List.map_nil]
 show Wp φ (HL E.k h (ML E.k E.q .none st tx [.ref x.a] cache ((x.a, actO x a.pc) :: (x.s, .list [.str t]) :: R))) _ _ _
 have cn := c.dn.po a.bk
 refine Wp.lsd 0 [true, true, true, true, true, true, true, true, false, false] ?_
 revert hb cn hne
 generalize a.bk = bk
 intro hb hne cn
 cases bk with
 | none =>
  exact W9 2126177470045212671708008503524321708041344666628339540555487308819727245 [MO.inst 8 [(50, MV.ref rw_), (48, MV.ref rg), (25, MV.ref nm'), (29, MV.ref so), (39, MV.int (x, a).snd.ep)], MO.list (x, a).snd.rows, MO.inst 4 [(16, MV.str sc), (17, bkV none), (18, MV.bool a.ip), (19, MV.str lb)]] [] (fun ν => (ai hne (ai hge (ai h2 (ai h1 trivial))))) rfl (fun ν => hb φ cache st R G cn) fun ν => by kernel_rfl
 | some f =>
  exact W9 8708822917305193933887086570489146140330313391770246715455072236958291854221 [MO.inst 8 [(50, MV.ref rw_), (48, MV.ref rg), (25, MV.ref nm'), (29, MV.ref so), (39, MV.int (x, a).snd.ep)], MO.list (x, a).snd.rows, MO.inst 4 [(16, MV.str sc), (17, bkV (some f)), (18, MV.bool a.ip), (19, MV.str lb)], MO.inst 4 [(16, MV.str sc), (17, bkV (some f)), (18, MV.bool a.ip), (19, MV.str lb)]] [] (fun ν => (ai hne (ai hne (ai hge (ai h2 (ai h1 trivial)))))) rfl (fun ν => hb φ cache st R G cn) fun ν => by kernel_rfl
noncomputable abbrev takB : PS := b_taker.fst.fb
noncomputable abbrev takR : List Frm := [.seq b_taker.rest]
theorem takes_eq {first behind tb dep q : Nat} {tc : Option Nat} {cd : Int} {b1 b2 b3 : Bool} (h1 : decide ((first : Int) ≤ q) = b1) (h2 : decide ((q : Int) < behind) = b2) (h3 : (cd == 3 || (cd == 4 && tc.isSome)) = b3) : Rg.takes ⟨first, behind, tb, tc, dep⟩ q cd = (b1 && b2 && b3) := by
 subst h1 h2 h3
 unfold Rg.takes
 rw [decide_eq_decide.mpr (Int.ofNat_le (m := first) (n := q)), decide_eq_decide.mpr (Int.ofNat_lt (n := q) (m := behind))]
theorem tk_go {r : Rg} {rest : List Rg} {q : Nat} {cd : Int} (h : r.takes q cd = false) : tk (r :: rest) q cd = tk rest q cd := by rw [tk, if_neg (by rw [h]; exact Bool.false_ne_true)]
theorem tk_at {r : Rg} {rest : List Rg} {q : Nat} {cd : Int} (h : r.takes q cd = true) : tk (r :: rest) q cd = some r := by rw [tk, if_pos h]
noncomputable def tcV : Option Nat → MV
 | some c => .int c
 | none => .none
noncomputable def tkK (K : MV → Fz → Lg → Prop) (φ : Fz) (Λ : Lg) : Option Rg → Prop
 | some r => K r.mv φ Λ
 | none => K .none φ Λ
theorem tak_loop {N : Nat} {hd : Option Nat} {φ : Fz} {Λ : Lg} {rg q : Nat} {cd : Int} {K0 : MV → Fz → Lg → Prop} {X0 : Nat → Fz → Lg → Prop} : ∀ (rest pre : List Rg) L3 L4 L5 L6 L7 L8 L9, φ.f rg = some (.list ((pre ++ rest).map Rg.mv)) → tkK K0 φ Λ (tk rest q cd) →
 Gd K0 X0 φ ⟨.L 3 rg takB pre.length, takR, N, hd, [some (.ref rg), some (.int q), some (.int cd), L3, L4, L5, L6, L7, L8, L9], Λ, q0⟩ := fun rest => by
 induction rest with
 | nil =>
  intro pre L3 L4 L5 L6 L7 L8 L9 hrg kk
  refine loop_end hrg (by rw [List.append_nil]; exact List.getElem?_eq_none (Nat.le_of_eq (List.length_map Rg.mv))) ?_
  exact o9 1 [] [] (fun ν => trivial) (fun ν => kk) fun ν => by kernel_rfl
 | cons r rest ih =>
  intro pre L3 L4 L5 L6 L7 L8 L9 hrg kk
  have hrec : tk (r :: rest) q cd = tk rest q cd → ∀ L3 L4 L5 L6 L7 L8 L9, Gd K0 X0 φ ⟨.L 3 rg takB (pre.length + 1), takR, N, hd, [some (.ref rg), some (.int q), some (.int cd), L3, L4, L5, L6, L7, L8, L9], Λ, q0⟩ := by
   intro e L3 L4 L5 L6 L7 L8 L9
   have := ih (pre ++ [r]) L3 L4 L5 L6 L7 L8 L9 (by rw [List.append_assoc]; exact hrg) (by rw [← e]; exact kk)
   rw [List.length_append] at this
   exact this
  rw [List.map_append, List.map_cons] at hrg
  have hv : (pre.map Rg.mv ++ r.mv :: rest.map Rg.mv)[pre.length]? = some r.mv := by
   have := at_mid (pre.map Rg.mv) r.mv (rest.map Rg.mv)
   rw [List.length_map] at this
   exact this
  refine loop_in hrg hv ?_
  obtain ⟨first, behind, tb, tc, dep⟩ := r
  cases f1 : decide ((first : Int) ≤ q) with
  | false =>
   have e := tk_go (rest := rest) (takes_eq (tb := tb) (dep := dep) (behind := behind) (tc := tc) (cd := cd) f1 rfl rfl)
   exact o9 266307 [] [] (fun ν => (ai f1 trivial)) (fun ν => (hrec e (some (Rg.mv ⟨first, behind, tb, tc, dep⟩)) (some (.str "loop")) (some (.int first)) (some (.int behind)) (some (.int tb)) (some (tcV tc)) (some (.int dep))).g) fun ν => by kernel_rfl
  | true =>
   cases f2 : decide ((q : Int) < behind) with
   | false =>
    have e := tk_go (rest := rest) (takes_eq (tb := tb) (dep := dep) (tc := tc) (cd := cd) f1 f2 rfl)
    exact o9 1090793474 [] [] (fun ν => (ai f2 (ai f1 trivial))) (fun ν => (hrec e (some (Rg.mv ⟨first, behind, tb, tc, dep⟩)) (some (.str "loop")) (some (.int first)) (some (.int behind)) (some (.int tb)) (some (tcV tc)) (some (.int dep))).g) fun ν => by kernel_rfl
   | true =>
    cases c3 : (cd == 3) with
    | true =>
     rw [tk_at (rest := rest) (takes_eq (tb := tb) (dep := dep) (tc := tc) f1 f2 (by rw [c3]; rfl))] at kk
     exact o9 19342960688072529494941698 [] [] (fun ν => (ai c3 (ai f2 (ai f1 trivial)))) (fun ν => kk) fun ν => by kernel_rfl
    | false =>
     cases c4 : (cd == 4) with
     | true =>
      cases tc with
      | some tc =>
       rw [tk_at (rest := rest) (takes_eq (tb := tb) (dep := dep) f1 f2 (by rw [c3, c4]; rfl))] at kk
       exact o9 85070591732710500888142110034923364354 [] [] (fun ν => (ai c4 (ai c3 (ai f2 (ai f1 trivial))))) (fun ν => kk) fun ν => by kernel_rfl
      | none =>
       have e := tk_go (rest := rest) (takes_eq (tb := tb) (dep := dep) (tc := none) f1 f2 (by rw [c3, c4]; rfl))
       exact o9 86420918505085615411204428223353987074 [] [] (fun ν => (ai c4 (ai c3 (ai f2 (ai f1 trivial))))) (fun ν => (hrec e (some (Rg.mv ⟨first, behind, tb, none, dep⟩)) (some (.str "loop")) (some (.int first)) (some (.int behind)) (some (.int tb)) (some (tcV none)) (some (.int dep))).g) fun ν => by kernel_rfl
     | false =>
      have e := tk_go (rest := rest) (takes_eq (tb := tb) (dep := dep) (tc := tc) f1 f2 (by rw [c3, c4]; rfl))
      exact o9 21098859532186226006687173574664194 [] [] (fun ν => (ai c4 (ai c3 (ai f2 (ai f1 trivial))))) (fun ν => (hrec e (some (Rg.mv ⟨first, behind, tb, tc, dep⟩)) (some (.str "loop")) (some (.int first)) (some (.int behind)) (some (.int tb)) (some (tcV tc)) (some (.int dep))).g) fun ν => by kernel_rfl
theorem tak_w {N : Nat} {hd : Option Nat} {φ : Fz} {Λ : Lg} {rg q : Nat} {cd : Int} {rgs : List Rg} {K : MV → Fz → Lg → Prop} {X : Nat → Fz → Lg → Prop} (hrg : φ.f rg = some (.list (rgs.map Rg.mv)))
 (kk : tkK K φ Λ (tk rgs q cd)) : Wp φ Λ (callN (N + 1) 12 [.ref rg, .int q, .int cd] hd) K X := by
 have h := fun L3 => tak_loop (N := N) (hd := hd) (K0 := K) (X0 := X) rgs [] L3 none none none none none none hrg kk
 exact W9 1 [] [] (fun ν => trivial) rfl (fun ν => (h none).g) fun ν => by kernel_rfl
theorem tk_takes : ∀ {rgs : List Rg} {q : Nat} {cd : Int} {r : Rg}, tk rgs q cd = some r → r.takes q cd = true := fun {rgs} => by
 induction rgs with
 | nil => exact fun h => (no_some h).elim
 | cons r' rs ih =>
  intro q cd r h
  rw [tk] at h
  split at h
  · rename_i e; obtain rfl := Option.some.inj h; exact e
  · exact ih h
theorem Cnd.sm {E : Env} {b : Nat} {a : AC} {A : List AC} {h : HS} {φ : Fz} {x : AH} {r : List (AH × AC)} {cache : List (MV × MV)} {R : Lg} {G : Nat} (c : Cnd E b (a :: A) h φ ((x, a) :: r) cache R G)
 {x' : AH} {a' : AC} (hx : x'.c = x.c ∧ x'.ne = x.ne) (ha : a'.rows = a.rows ∧ a'.rgs = a.rgs ∧ a'.ep = a.ep ∧ a'.ip = a.ip ∧ a'.bk = a.bk) (hs : a'.st.length ≤ a.st.length) :
 Cnd E b (a' :: A) h φ ((x', a') :: r) cache R G := by
 obtain ⟨le, ac, ok, ch, ri, co, dp, bG, cl, ll, sl, al⟩ := c
 refine ⟨le, ?_, ?_, ch, ri, co, dp, bG, cl, ll, ?_, al⟩
 · rw [List.map_cons] at ac ⊢
   injection ac with _ e
   rw [e]
 · intro p hp
   rcases List.mem_cons.mp hp with rfl | hp
   · have := ok (x, a) (.head _)
     refine ⟨?_, ?_, ?_, ?_⟩
     · show CodeOK φ x'.c a'.rows a'.rgs a'.ep
       rw [hx.1, ha.1, ha.2.1, ha.2.2.1]; exact this.co
     · show NestOK φ x'.ne a'.ip a'.bk
       rw [hx.2, ha.2.2.2.1, ha.2.2.2.2]; exact this.ne
     · show a'.rows.length ≤ _
       rw [ha.1]; exact this.rl
     · show a'.rgs.length ≤ _
       rw [ha.2.1]; exact this.gl
   · exact ok p (.tail _ hp)
 · intro p hp
   rcases List.mem_cons.mp hp with rfl | hp
   · have := sl (x, a) (.head _)
     dsimp only at this ⊢
     lia
   · exact sl p (.tail _ hp)
theorem u_catc {E : Env} (ok : EnvOK E) (b : Nat) (a : AC) (r : List AC) (h : HS) (x : AX) (rg : Rg) (hpc : 0 < a.pc) (htk : tk a.rgs (a.pc - 1) x.code = some rg) (hdep : rg.dep ≤ a.st.length)
 (hb : LW E b ({ a with pc := if x.code = 4 then rg.tc.getD 0 else rg.tb, st := a.st.take rg.dep } :: r) h) : UW E b (a :: r) h x := by
 intro φ acts cache st tx R G e t e0 L2 L3 L4 c he hb0
 cases acts with
 | nil => have := c.ac; cases this
 | cons p rr =>
 obtain ⟨y, a'⟩ := p
 have e1 : a' = a := (List.cons.inj c.ac).1
 subst e1
 obtain ⟨rw_, rgl, nm, so, h1, h2, h3, h4, h5⟩ := (c.ok (y, a') (.head _)).co.ex
 have hlen := snoc_pos (refs rr) (.ref y.a)
 have i1 := idx_last (refs rr) (.ref y.a)
 have hq : (a'.pc : Int) - 1 = ((a'.pc - 1 : Nat) : Int) := by lia
 have htt := tk_takes htk
 refine onC 12 (E.1 + 38) (some e0) (fun ν => [.ref rgl, .int ((a'.pc : Int) - 1), .int x.code]) (fun ν => (e, excO x t) :: HL E.k h (ML E.k E.q .none st tx (refs rr ++ [.ref y.a]) cache ((y.a, actO y a'.pc) :: (y.s, .list (a'.st.map .str)) :: AL rr R))) 5725555210086593928746452448134 [MO.inst 8 [(50, MV.ref rw_), (48, MV.ref rgl), (25, MV.ref nm), (29, MV.ref so), (39, MV.int (y, a').snd.ep)], MO.list [], MO.inst 8 [(50, MV.ref rw_), (48, MV.ref rgl), (25, MV.ref nm), (29, MV.ref so), (39, MV.int (y, a').snd.ep)]] [MV.ref y.a] (fun ν => (ai h1 (ai h5 (ai h1 (ai i1 (ai hlen trivial)))))) (fun ν => by kernel_rfl) fun ν K' X' kv kx => ?_
 rw [hq]
 refine tak_w h3 ?_
 dsimp only at htk ⊢
 rw [htk]
 refine kv _ _ _ (.refl _) ?_
 obtain ⟨first, behind, tb, tc, dep⟩ := rg
 dsimp only at hdep hb
 have d1 : (decide ((0 : Int) ≤ dep) && decide ((dep : Int) ≤ (a'.st.map MV.str).length)) = true := by rw [List.length_map, decide_eq_true (Int.natCast_nonneg _), decide_eq_true (Int.ofNat_le.mpr hdep)]; rfl
 have d2 : MO.list ((a'.st.map MV.str).take (dep : Int).toNat) = .list ((a'.st.take dep).map .str) := by rw [Int.toNat_natCast, List.map_take]
 have le2 : (a'.st.take dep).length ≤ a'.st.length := List.length_take_le' _ _
 by_cases c4 : x.code = 4
 · rw [if_pos c4] at hb
   have b4 := q9 c4
   cases tc with
   | none => unfold Rg.takes at htt; rw [c4] at htt; exact absurd ((and_b htt).2) (show ¬ ((4 == 3 || (4 == 4 && false) : Bool) = true) by decide)
   | some tc =>
    dsimp only [Option.getD] at hb
    have fin := fun sn => (lw_use hb (st := st) (tx := tx) (c.sm (x' := { y with s := sn }) (a' := { a' with pc := tc, st := a'.st.take dep }) ⟨rfl, rfl⟩ ⟨rfl, rfl, rfl, rfl, rfl⟩ le2) rfl)
    exact o9 1703083510978617560168455767743586304 [MO.list (List.map MV.str (List.take dep a'.st))] [] (fun ν' => (ai b4 (ai d2 (ai d1 trivial)))) (fun ν' => Env.Loop.sd (E := E) (Λ := ((φ.fr (ν' 74)), .list ((a'.st.take dep).map .str)) :: (e, excO x t) :: HL E.k h (ML E.k E.q .none st tx (refs rr ++ [.ref y.a]) cache ((y.a, actO { y with s := (φ.fr (ν' 74)) } tc) :: (y.s, .list (a'.st.map .str)) :: AL rr R))) 9 [true, false, true, true, true, true, true, true, true, true, true, false] (fin (φ.fr (ν' 74)))) fun ν' => by kernel_rfl
 · rw [if_neg c4] at hb
   have b4 := n9 c4
   have fin := fun sn => (lw_use hb (st := st) (tx := tx) (c.sm (x' := { y with s := sn }) (a' := { a' with pc := tb, st := a'.st.take dep }) ⟨rfl, rfl⟩ ⟨rfl, rfl, rfl, rfl, rfl⟩ le2) rfl)
   exact o9 21108917969392748168964099909672960 [MO.list (List.map MV.str (List.take dep a'.st))] [] (fun ν' => (ai b4 (ai d2 (ai d1 trivial)))) (fun ν' => Env.Loop.sd (E := E) (Λ := ((φ.fr (ν' 74)), .list ((a'.st.take dep).map .str)) :: (e, excO x t) :: HL E.k h (ML E.k E.q .none st tx (refs rr ++ [.ref y.a]) cache ((y.a, actO { y with s := (φ.fr (ν' 74)) } tb) :: (y.s, .list (a'.st.map .str)) :: AL rr R))) 9 [true, false, true, true, true, true, true, true, true, true, true, false] (fin (φ.fr (ν' 74)))) fun ν' => by kernel_rfl
theorem Gd.preWs {K0 : MV → Fz → Lg → Prop} {X0 : Nat → Fz → Lg → Prop} {φ : Fz} {t : PE} {b : PS} {fr : List Frm} {n : Nat} {hd : Option Nat} {L : Loc} {Λ : Lg} {q : Ac} (j : Nat) (bs : List Bool) (H : Gd K0 X0 φ ⟨.W t b, fr, n, hd, L, sink j (drops bs Λ), q⟩) : Gd K0 X0 φ ⟨.W t b, fr, n, hd, L, Λ, q⟩ := Gd.preW bs ⟨fun σ X => H.g σ (X.sink j)⟩
theorem u_drop {E : Env} (ok : EnvOK E) (b : Nat) (a : AC) (r : List AC) (h : HS) (x : AX) (hpc : 0 < a.pc) (htk : tk a.rgs (a.pc - 1) x.code = none) (hip : a.ip = false)
 (hb : UW E b r (h.lv a.bk) x) : UW E b (a :: r) h x := by
 intro φ acts cache st tx R G e t e0 L2 L3 L4 c he hb0
 cases acts with
 | nil => have := c.ac; cases this
 | cons p rr =>
 obtain ⟨y, a'⟩ := p
 have e1 : a' = a := (List.cons.inj c.ac).1
 subst e1
 obtain ⟨rw_, rgl, nm, so, h1, h2, h3, h4, h5⟩ := (c.ok (y, a') (.head _)).co.ex
 obtain ⟨sc, lb, hne, _⟩ := (c.ok (y, a') (.head _)).ne.ex
 have hne : φ.f y.ne = some (.inst 4 [(16, .str sc), (17, bkV a'.bk), (18, .bool a'.ip), (19, .str lb)]) := hne
 rw [hip] at hne
 have hlen := snoc_pos (refs rr) (.ref y.a)
 have i1 := idx_last (refs rr) (.ref y.a)
 have hq : (a'.pc : Int) - 1 = ((a'.pc - 1 : Nat) : Int) := by lia
 have cn := c.po a'.bk
 have hpop : refs rr ++ [MV.ref y.a] = refs rr ++ [.ref y.a] := rfl
 refine onC 12 (E.1 + 38) (some e0) (fun ν => [.ref rgl, .int ((a'.pc : Int) - 1), .int x.code]) (fun ν => (e, excO x t) :: HL E.k h (ML E.k E.q .none st tx (refs rr ++ [.ref y.a]) cache ((y.a, actO y a'.pc) :: (y.s, .list (a'.st.map .str)) :: AL rr R))) 5725555210086593928746452448134 [MO.inst 8 [(50, MV.ref rw_), (48, MV.ref rgl), (25, MV.ref nm), (29, MV.ref so), (39, MV.int (y, a').snd.ep)], MO.list [], MO.inst 8 [(50, MV.ref rw_), (48, MV.ref rgl), (25, MV.ref nm), (29, MV.ref so), (39, MV.int (y, a').snd.ep)]] [MV.ref y.a] (fun ν => (ai h1 (ai h5 (ai h1 (ai i1 (ai hlen trivial)))))) (fun ν => by kernel_rfl) fun ν K' X' kv kx => ?_
 rw [hq]
 refine tak_w h3 ?_
 dsimp only at htk ⊢
 rw [htk]
 refine kv _ _ _ (.refl _) ?_
 revert hb cn hne
 generalize a'.bk = bk
 intro hb hne cn
 have fin := fun L2 L3 L4 => hb φ rr cache st tx R G e t e0 L2 L3 L4 cn he hb0
 cases bk with
 | none =>
  exact o9 21099101260899881746726693159112769 [MO.inst 4 [(16, MV.str sc), (17, bkV none), (18, MV.bool false), (19, MV.str lb)], MO.list (refs rr), MO.inst 4 [(16, MV.str sc), (17, bkV none), (18, MV.bool false), (19, MV.str lb)]] [MV.ref y.a] (fun ν' => (ai hne (ai hpop (ai hne trivial)))) (fun ν' => (Gd.preWs (Λ := (e, excO x t) :: HL E.k h (ML E.k E.q .none st tx (refs rr) cache ((y.a, actO y a'.pc) :: (y.s, .list (a'.st.map .str)) :: AL rr R))) 0 [true, true, true, true, true, true, true, true, true, false, false] (fin (some (.ref y.a)) (some .none) L4)).g) fun ν' => by kernel_rfl
 | some f =>
  exact o9 97116720766706117195622618906741510209 [MO.inst 4 [(16, MV.str sc), (17, bkV (some f)), (18, MV.bool false), (19, MV.str lb)], MO.list (refs rr), MO.inst 4 [(16, MV.str sc), (17, bkV (some f)), (18, MV.bool false), (19, MV.str lb)], MO.inst 4 [(16, MV.str sc), (17, bkV (some f)), (18, MV.bool false), (19, MV.str lb)]] [MV.ref y.a] (fun ν' => (ai hne (ai hne (ai hpop (ai hne trivial))))) (fun ν' => (Gd.preWs (Λ := (e, excO x t) :: HL E.k (h.lv (some f)) (ML E.k E.q .none st tx (refs rr) cache ((y.a, actO y a'.pc) :: (y.s, .list (a'.st.map .str)) :: AL rr R))) 0 [true, true, true, true, true, true, true, true, true, false, false] (fin (some (.ref y.a)) (some .none) L4)).g) fun ν' => by kernel_rfl
noncomputable def UE (E : Env) (b : Nat) (h : HS) (x : AX) : Prop := ∀ φ cache st tx R G e t, Cnd E b [] h φ [] cache R G → E.Exc G e φ ((e, excO x t) :: HL E.k h (ML E.k E.q .none st tx [] cache R))
theorem u_out {E : Env} (ok : EnvOK E) (b : Nat) (h : HS) (x : AX) (hb : UE E b h x) : UW E b [] h x := by
 intro φ acts cache st tx R G e t e0 L2 L3 L4 c he hb0
 cases acts with
 | cons p r => have := c.ac; cases this
 | nil => exact o9 4544092500870 [] [] (fun ν => (ai he trivial)) (fun ν => hb φ cache st tx R G e t c) fun ν => by kernel_rfl
theorem Cnd.psh {E : Env} {b : Nat} {a : AC} {A : List AC} {h : HS} {φ : Fz} {x : AH} {r : List (AH × AC)} {cache : List (MV × MV)} {R : Lg} {G : Nat} (c : Cnd E b (a :: A) h φ ((x, a) :: r) cache R G) (hs : a.st.length + 1 + b ≤ 500000) {st : List Str} (hst : st.length ≤ a.st.length + 1) :
 Cnd E b ({ a with st := st } :: A) h φ ((x, { a with st := st }) :: r) cache R G := by
 obtain ⟨le, ac, ok, ch, ri, co, dp, bG, cl, ll, sl, al⟩ := c
 refine ⟨le, ?_, ?_, ch, ri, co, dp, bG, cl, ll, ?_, al⟩
 · rw [List.map_cons] at ac ⊢
   injection ac with _ e
   rw [e]
 · intro p hp
   rcases List.mem_cons.mp hp with rfl | hp
   · have := ok (x, a) (.head _)
     exact ⟨this.co, this.ne, this.rl, this.gl⟩
   · exact ok p (.tail _ hp)
 · intro p hp
   rcases List.mem_cons.mp hp with rfl | hp
   · dsimp only; lia
   · exact sl p (.tail _ hp)
theorem u_proc {E : Env} (ok : EnvOK E) (b : Nat) (a a2 : AC) (r : List AC) (h : HS) (x : AX) (hpc : 0 < a.pc) (htk : tk a.rgs (a.pc - 1) x.code = none) (hip : a.ip = true) (hi : x.info.length ≤ 1000) (hv : x.value.length ≤ 1000)
 (hb : match endProc x with
  | .ok t => LW E b ({ a2 with st := a2.st ++ [t] } :: r) (h.lv a.bk)
  | .err y => UW E b (a2 :: r) (h.lv a.bk) y) : UW E (b + 1) (a :: a2 :: r) h x := by
 intro φ acts cache st tx R G e t e0 L2 L3 L4 c he hb0
 cases acts with
 | nil => have := c.ac; cases this
 | cons p rr =>
 cases rr with
 | nil => exact absurd (congrArg List.length c.ac) (by simp)
 | cons p2 rr =>
 obtain ⟨y, a'⟩ := p
 obtain ⟨y2, a2'⟩ := p2
 have e1 : a' = a := (List.cons.inj c.ac).1
 have e2 : a2' = a2 := (List.cons.inj (List.cons.inj c.ac).2).1
 subst e1 e2
 obtain ⟨rw_, rgl, nm, so, h1, h2, h3, h4, h5⟩ := (c.ok (y, a') (.head _)).co.ex
 obtain ⟨sc, lb, hne, hlb⟩ := (c.ok (y, a') (.head _)).ne.ex
 have hne : φ.f y.ne = some (.inst 4 [(16, .str sc), (17, bkV a'.bk), (18, .bool a'.ip), (19, .str lb)]) := hne
 rw [hlb hip, hip] at hne
 have hsl : a2'.st.length + (b + 1) ≤ 500000 := c.sl (y2, a2') (.tail _ (.head _))
 have hsl2 := map_lt (S := a2'.st) (Nat.le_refl _) (by lia)
 have hlen2 := snoc_pos (refs rr) (.ref y2.a)
 have hlen := snoc_pos (refs rr ++ [.ref y2.a]) (.ref y.a)
 have i1 := idx_last (refs rr ++ [.ref y2.a]) (.ref y.a)
 have i2 := idx_last (refs rr) (.ref y2.a)
 have hpop : refs rr ++ [MV.ref y2.a] ++ [.ref y.a] = (refs rr ++ [.ref y2.a]) ++ [.ref y.a] := rfl
 have hq : (a'.pc : Int) - 1 = ((a'.pc - 1 : Nat) : Int) := by lia
 have cn : Cnd E b (a2' :: r) (h.lv a'.bk) φ ((y2, a2') :: rr) cache R G := by
  have := c.po a'.bk
  obtain ⟨le, ac, ok, ch, ri, co, dp, bG, cl, ll, sl, al⟩ := this
  exact ⟨le, ac, ok, ch, ri, co, dp, by lia, by lia, by lia, fun p hp => by have := sl p hp; lia, by lia⟩
 have cn2 : ∀ t : Str, Cnd E b ({ a2' with st := a2'.st ++ [t] } :: r) (h.lv a'.bk) φ ((y2, { a2' with st := a2'.st ++ [t] }) :: rr) cache R G := fun t => cn.psh (by lia) (len_snoc _ _)
 refine onC 12 (E.1 + 38) (some e0) (fun ν => [.ref rgl, .int ((a'.pc : Int) - 1), .int x.code]) (fun ν => (e, excO x t) :: HL E.k h (ML E.k E.q .none st tx (refs rr ++ [.ref y2.a] ++ [.ref y.a]) cache ((y.a, actO y a'.pc) :: (y.s, .list (a'.st.map .str)) :: (y2.a, actO y2 a2'.pc) :: (y2.s, .list (a2'.st.map .str)) :: AL rr R))) 5725555210086593928746452448134 [MO.inst 8 [(50, MV.ref rw_), (48, MV.ref rgl), (25, MV.ref nm), (29, MV.ref so), (39, MV.int (y, a').snd.ep)], MO.list [], MO.inst 8 [(50, MV.ref rw_), (48, MV.ref rgl), (25, MV.ref nm), (29, MV.ref so), (39, MV.int (y, a').snd.ep)]] [MV.ref y.a] (fun ν => (ai h1 (ai h5 (ai h1 (ai i1 (ai hlen trivial)))))) (fun ν => by kernel_rfl) fun ν K' X' kv kx => ?_
 rw [hq]
 refine tak_w h3 ?_
 dsimp only at htk ⊢
 rw [htk]
 refine kv _ _ _ (.refl _) ?_
 refine onC 10 (E.1 + 38) (some e0) (fun ν' => [MV.ref y.4, MV.ref e]) (fun ν' => (e, excO x t) :: HL E.k h (ML E.k E.q .none st tx (refs rr ++ [.ref y2.a] ++ [.ref y.a]) cache ((y.a, actO y a'.pc) :: (y.s, .list (a'.st.map .str)) :: (y2.a, actO y2 a2'.pc) :: (y2.s, .list (a2'.st.map .str)) :: AL rr R))) 357203841192001 [MO.inst 4 [(16, MV.str sc), (17, bkV a'.bk), (18, MV.bool true), (19, MV.str "p")]] [] (fun ν' => (ai hne trivial)) (fun ν' => by kernel_rfl) fun ν' K'' X'' kv' kx' => ?_
 refine end_proc_w hne he hb0 hi hv ?_
 revert hb cn cn2 hne
 generalize endProc x = z
 generalize a'.bk = bk
 intro hb hne cn cn2
 cases z with
 | ok t' =>
  dsimp only at hb ⊢
  refine kv' _ _ _ (.refl _) ?_
  have fin := lw_use hb (cn2 t') (S := a2'.st.map .str ++ [.str t']) (map_snoc _ _) (st := st) (tx := tx)
  cases bk with
  | none =>
   exact o9 387599486388838737076674621632038558062879641461574 [MO.list (refs rr ++ [MV.ref y2.a]), MO.inst 4 [(16, MV.str sc), (17, bkV none), (18, MV.bool true), (19, MV.str "p")]] [MV.ref y.a, MV.ref y2.a] (fun ν'' => (ai hsl2 (ai i2 (ai hlen2 (ai hne (ai hpop trivial)))))) (fun ν'' => Env.Loop.sd (E := E) (Λ := HL E.k h (ML E.k E.q .none st tx (refs rr ++ [.ref y2.a]) cache ((y.a, actO y a'.pc) :: (y.s, .list (a'.st.map .str)) :: (y2.a, actO y2 a2'.pc) :: (y2.s, .list (a2'.st.map .str ++ [.str t'])) :: AL rr R))) 0 [true, true, true, true, true, true, true, true, false, false] fin) fun ν'' => by kernel_rfl
  | some f =>
   exact o9 1587607496248683467066059258927200503888913588234249030 [MO.list (refs rr ++ [MV.ref y2.a]), MO.inst 4 [(16, MV.str sc), (17, bkV (some f)), (18, MV.bool true), (19, MV.str "p")], MO.inst 4 [(16, MV.str sc), (17, bkV (some f)), (18, MV.bool true), (19, MV.str "p")]] [MV.ref y.a, MV.ref y2.a] (fun ν'' => (ai hsl2 (ai i2 (ai hlen2 (ai hne (ai hne (ai hpop trivial))))))) (fun ν'' => Env.Loop.sd (E := E) (Λ := HL E.k (h.lv (some f)) (ML E.k E.q .none st tx (refs rr ++ [.ref y2.a]) cache ((y.a, actO y a'.pc) :: (y.s, .list (a'.st.map .str)) :: (y2.a, actO y2 a2'.pc) :: (y2.s, .list (a2'.st.map .str ++ [.str t'])) :: AL rr R))) 0 [true, true, true, true, true, true, true, true, false, false] fin) fun ν'' => by kernel_rfl
 | err z =>
  dsimp only at hb ⊢
  intro e' t' he'
  refine kx' _ _ _ (.refl _) ?_
  have fin := fun L2 L3 L4 => hb φ ((y2, a2') :: rr) cache st tx R G e' t' e0 L2 L3 L4 cn he' hb0
  cases bk with
  | none =>
   exact o9 307032332943343233589646 [MO.list (refs rr ++ [MV.ref y2.a]), MO.inst 4 [(16, MV.str sc), (17, bkV none), (18, MV.bool true), (19, MV.str "p")]] [MV.ref y.a] (fun ν'' => (ai hne (ai hpop trivial))) (fun ν'' => (Gd.preWs (Λ := (e', excO z t') :: HL E.k h (ML E.k E.q .none st tx (refs rr ++ [.ref y2.a]) cache ((y.a, actO y a'.pc) :: (y.s, .list (a'.st.map .str)) :: (y2.a, actO y2 a2'.pc) :: (y2.s, .list (a2'.st.map .str)) :: AL rr R))) 0 [true, true, true, true, true, true, true, true, true, false, false] (fin (some (.ref y.a)) (some .none) none)).g) fun ν'' => by kernel_rfl
  | some f =>
   exact o9 1413234287854082026688012686 [MO.list (refs rr ++ [MV.ref y2.a]), MO.inst 4 [(16, MV.str sc), (17, bkV (some f)), (18, MV.bool true), (19, MV.str "p")], MO.inst 4 [(16, MV.str sc), (17, bkV (some f)), (18, MV.bool true), (19, MV.str "p")]] [MV.ref y.a] (fun ν'' => (ai hne (ai hne (ai hpop trivial)))) (fun ν'' => (Gd.preWs (Λ := (e', excO z t') :: HL E.k (h.lv (some f)) (ML E.k E.q .none st tx (refs rr ++ [.ref y2.a]) cache ((y.a, actO y a'.pc) :: (y.s, .list (a'.st.map .str)) :: (y2.a, actO y2 a2'.pc) :: (y2.s, .list (a2'.st.map .str)) :: AL rr R))) 0 [true, true, true, true, true, true, true, true, true, false, false] (fin (some (.ref y.a)) (some .none) none)).g) fun ν'' => by kernel_rfl
theorem Cnd.mo {E : Env} {b b' : Nat} (hb : b ≤ b') {A : List AC} {h : HS} {φ : Fz} {acts : List (AH × AC)} {cache : List (MV × MV)} {R : Lg} {G : Nat} (c : Cnd E b' A h φ acts cache R G) : Cnd E b A h φ acts cache R G := by
 obtain ⟨le, ac, ok, ch, ri, co, dp, bG, cl, ll, sl, al⟩ := c
 exact ⟨le, ac, ok, ch, ri, co, dp, by lia, by lia, by lia, fun p hp => by have := sl p hp; lia, by lia⟩
theorem mr_of {E : Env} (ok : EnvOK E) {co : Bool} (hco : if co then ∃ cr, E.co = .ref cr else E.co = .none)
 (turn : ∀ (b : Nat) (a : AC) (r : List AC) (h : HS) (S : List Str) (j l v : Str) (m : Int), a.rows[a.pc]? = some (invR 3) → a.st = S ++ [("r" : Str), j, l] → GoodJ E.k E.w j → E.w.deed j = (.turn, v, m) →
  (∀ p e sp, LW E b ({ a with pc := a.pc + 1, st := S ++ [E.w.ans h.c0] } :: r) (h.aft ⟨h.log ++ [callE j l h.fr] ++ [turnE m v], h.c0 + 1, h.c1⟩ p e sp)) → LW E (b + 1) (a :: r) h) :
 MR co E.w E.k E.book (POk E) (LW E) (UW E) (LD E) (UE E) where
 mono := fun b b' A h hb w φ acts cache st tx R G c => w φ acts cache st tx R G (c.mo hb)
 umono := fun b b' A h x hb w φ acts cache st tx R G e t e0 L2 L3 L4 c => w φ acts cache st tx R G e t e0 L2 L3 L4 (c.mo hb)
 push := r_push ok
 jump := r_jump ok
 join := r_join ok
 fin := r_fin ok
 last := r_last ok
 same := r_same ok
 entr := fun hc => by
  rw [hc] at hco
  obtain ⟨cr, hcr⟩ := hco
  exact r_entr ok hcr
 plain := fun hc => by
  rw [hc] at hco
  exact r_plain ok hco
 idle := r_idle ok
 flat := r_flat ok
 turn := turn
 rais := r_rais ok
 nest := r_nest ok
 catc := u_catc ok
 drop := u_drop ok
 proc := u_proc ok
 out := u_out ok
noncomputable def nxD : Str → SS → Rz Str × SS := fun _ s => (.ok "", s)
structure Sc where
 w : Wl
 p0 : Its
 p1 : Its
 p2 : Its
noncomputable def Sc.cl2 (S : Sc) : Str → Cl := fun fr => evC S.w nxD fr
noncomputable def Sc.nx2 (S : Sc) : Str → SS → Rz Str × SS := evN S.cl2 S.p2
noncomputable def Sc.cl1 (S : Sc) : Str → Cl := fun fr => evC S.w S.nx2 fr
noncomputable def Sc.nx1 (S : Sc) : Str → SS → Rz Str × SS := evN S.cl1 S.p1
noncomputable def Sc.cl0 (S : Sc) : Str → Cl := fun fr => evC S.w S.nx1 fr
noncomputable def Sc.nx0 (S : Sc) : Str → SS → Rz Str × SS := evN S.cl0 S.p0
theorem OkN.mo {D D' T T' B B' : Nat} {nx : Str → SS → Rz Str × SS} (h : OkN D T B nx) (hD : D ≤ D') (hT : T ≤ T') (hB : B ≤ B') : OkN D' T' B' nx := by
 refine ⟨fun fr s => Nat.le_trans (h.gr fr s) (by lia), fun fr s => ?_⟩
 have := h.rs fr s
 revert this
 generalize (nx fr s).1 = r
 intro this
 cases r with
 | ok t => exact Nat.le_trans this hT
 | err x => exact ⟨Nat.le_trans this.1 hB, this.2⟩
theorem evN_ok {D T B : Nat} {cl : Str → Cl} (hT : 4 ≤ T) (h : ∀ fr, OkC D T B (cl fr)) (its : Its) : OkN (D * its.wt) (T * its.wt) B (evN cl its) :=
 ⟨fun fr s => evTs_gr (h fr) its s, fun fr s => join_ok (evTs_ok hT (h fr) its s)⟩
structure ScOK (S : Sc) : Prop where
 w : OkW S.w
 w0 : S.p0.wt ≤ 12
 w1 : S.p1.wt ≤ 8
 w2 : S.p2.wt ≤ 8
 d0 : S.p0.dep ≤ 2
 d1 : S.p1.dep ≤ 2
 d2 : S.p2.dep ≤ 2
theorem nxD_ok : OkN 0 100 0 nxD := ⟨fun _ _ => Nat.le_refl _, fun _ _ => Nat.zero_le _⟩
theorem cl2_ok {S : Sc} (o : ScOK S) (fr : Str) : OkC 2 100 200 (S.cl2 fr) := evC_ok o.w nxD_ok (by decide) fr
theorem nx2_ok {S : Sc} (o : ScOK S) : OkN 16 800 200 S.nx2 := (evN_ok (by decide) (cl2_ok o) S.p2).mo (by have := o.w2; lia) (by have := o.w2; lia) (Nat.le_refl _)
theorem cl1_ok {S : Sc} (o : ScOK S) (fr : Str) : OkC 18 800 400 (S.cl1 fr) := evC_ok o.w (nx2_ok o) (by decide) fr
theorem nx1_ok {S : Sc} (o : ScOK S) : OkN 144 6400 400 S.nx1 := (evN_ok (by decide) (cl1_ok o) S.p1).mo (by have := o.w1; lia) (by have := o.w1; lia) (Nat.le_refl _)
theorem cl0_ok {S : Sc} (o : ScOK S) (fr : Str) : OkC 146 6400 600 (S.cl0 fr) := evC_ok o.w (nx1_ok o) (by decide) fr
theorem nx0_ok {S : Sc} (o : ScOK S) : OkN 1752 76800 600 S.nx0 := (evN_ok (by decide) (cl0_ok o) S.p0).mo (by have := o.w0; lia) (by have := o.w0; lia) (Nat.le_refl _)
theorem NxW.mo {φ0 : Fz} {k : Kw} {c c' D D' : Nat} {dm dm' : Int} {pn : Str} {nx : Str → SS → Rz Str × SS} (h : NxW φ0 k c D dm pn nx) (hc : c ≤ c') (hD : D ≤ D') (hd : dm' ≤ dm) : NxW φ0 k c' D' dm' pn nx :=
 fun N hN φ h' R K X a b d e => h N (by lia) φ h' R K X a (by lia) (by lia) e
section
variable {φ0 : Fz} {k : Kw} {S : Sc}
noncomputable abbrev OkJ (k : Kw) (S : Sc) (l : Str) : Str → Str → Prop := fun j l' => GoodJ k S.w j ∧ l' = l
theorem cw2 (wd : Wd φ0 k) (ga : GoodA k S.w) (o : ScOK S) (dm : Int) (fr : Str) : CW φ0 k S.w 12 2 dm fr "2" (S.cl2 fr) :=
 call_w (c := 0) (D := 0) wd ga (fun h => absurd rfl h) nxD_ok (by decide)
theorem nw2 (wd : Wd φ0 k) (ga : GoodA k S.w) (o : ScOK S) (b : Bk φ0 k "P2" S.p2) (h2 : okIs (OkJ k S "2") S.p2) {dm : Int} (hdm : dm ≤ 38) : NxW φ0 k 40 16 dm "P2" S.nx2 :=
 (run_w wd (by decide) (cl2_ok o) (cw2 wd ga o _) hdm b h2 (by have := o.w2; lia) (by have := o.w2; lia)).mo (by have := o.d2; lia) (by have := o.w2; lia) (Int.le_refl _)
theorem cw1 (wd : Wd φ0 k) (ga : GoodA k S.w) (o : ScOK S) (b2 : Bk φ0 k "P2" S.p2) (h2 : okIs (OkJ k S "2") S.p2) {dm : Int} (hdm : dm ≤ 38) (fr : Str) : CW φ0 k S.w 52 18 dm fr "1" (S.cl1 fr) :=
 call_w (c := 40) (D := 16) wd ga (fun _ => nw2 wd ga o b2 h2 hdm) (nx2_ok o) (by decide)
theorem nw1 (wd : Wd φ0 k) (ga : GoodA k S.w) (o : ScOK S) (b2 : Bk φ0 k "P2" S.p2) (h2 : okIs (OkJ k S "2") S.p2) (b1 : Bk φ0 k "P1" S.p1) (h1 : okIs (OkJ k S "1") S.p1) {dm : Int} (hdm : dm ≤ 37) : NxW φ0 k 80 144 dm "P1" S.nx1 :=
 (run_w wd (by decide) (cl1_ok o) (cw1 wd ga o b2 h2 (by lia)) (by lia) b1 h1 (by have := o.w1; lia) (by have := o.w1; lia)).mo (by have := o.d1; lia) (by have := o.w1; lia) (Int.le_refl _)
theorem cw0 (wd : Wd φ0 k) (ga : GoodA k S.w) (o : ScOK S) (b2 : Bk φ0 k "P2" S.p2) (h2 : okIs (OkJ k S "2") S.p2) (b1 : Bk φ0 k "P1" S.p1) (h1 : okIs (OkJ k S "1") S.p1) {dm : Int} (hdm : dm ≤ 37) (fr : Str) : CW φ0 k S.w 92 146 dm fr "0" (S.cl0 fr) :=
 call_w (c := 80) (D := 144) wd ga (fun _ => nw1 wd ga o b2 h2 b1 h1 hdm) (nx1_ok o) (by decide)
theorem nw0 (wd : Wd φ0 k) (ga : GoodA k S.w) (o : ScOK S) (b2 : Bk φ0 k "P2" S.p2) (h2 : okIs (OkJ k S "2") S.p2) (b1 : Bk φ0 k "P1" S.p1) (h1 : okIs (OkJ k S "1") S.p1) (b0 : Bk φ0 k "P0" S.p0) (h0 : okIs (OkJ k S "0") S.p0) {dm : Int} (hdm : dm ≤ 36) : NxW φ0 k 120 1752 dm "P0" S.nx0 :=
 (run_w wd (by decide) (cl0_ok o) (cw0 wd ga o b2 h2 b1 h1 (by lia)) (by lia) b0 h0 (by have := o.w0; lia) (by have := o.w0; lia)).mo (by have := o.d0; lia) (by have := o.w0; lia) (Int.le_refl _)
end
mutual
theorem cI_le (C D M : Nat) : ∀ i : It, i.wt ≤ M → cI C D i ≤ i.wt * (C + 14 + D * M)
 | .call _ _, _ => by rw [cI, It.wt, Nat.one_mul]; lia
 | .idle, _ => by rw [cI, It.wt, Nat.one_mul]; lia
 | .blk a b its c, h => by
  rw [It.wt] at h
  have h1 := cS_le C D M its (by lia)
  have h2 : D * (1 + its.wt) ≤ D * M := Nat.mul_le_mul_left D h
  rw [cI, It.wt, Nat.add_mul, Nat.one_mul]
  lia
theorem cS_le (C D M : Nat) : ∀ i : Its, i.wt ≤ M → cS C D i ≤ i.wt * (C + 14 + D * M)
 | .nil, _ => by rw [cS]; exact Nat.zero_le _
 | .cons i r, h => by
  rw [Its.wt] at h
  have h1 := cI_le C D M i (by lia)
  have h2 := cS_le C D M r (by lia)
  rw [cS, Its.wt, Nat.add_mul]
  lia
end
section
variable {co : Bool} {S : Sc} {k : Kw} {book : Str → Option Its} {PO : Str → Nat → (Str → SS → Rz Str × SS) → Prop}
 {LW : Nat → List AC → HS → Prop} {UW : Nat → List AC → HS → AX → Prop} {LD : Nat → Str → HS → Prop} {UE : Nat → HS → AX → Prop}
theorem ActM.mo {Cn Cn' rln rln' : Nat} {its : Its} {nx : Str → SS → Rz Str × SS} (mono : ∀ b b' A h, b ≤ b' → LW b A h → LW b' A h) (h : ActM LW UW Cn rln its nx) (hC : Cn ≤ Cn') (hr : rln' ≤ rln) : ActM LW UW Cn' rln' its nx :=
 fun ip bk b a r h' hr' kk => mono _ _ _ _ (by lia) (h ip bk b a r h' (by lia) kk)
variable (R : MR co S.w k book PO LW UW LD UE) (o : ScOK S)
include R o
theorem runM (b1 : book "P1" = some S.p1) (b2 : book "P2" = some S.p2)
 (h0 : okIs (OkJ k S "0") S.p0) (h1 : okIs (OkJ k S "1") S.p1) (h2 : okIs (OkJ k S "2") S.p2)
 (q0 : okBs book (QP co PO 146 S.cl0) S.p0) (q1 : okBs book (QP co PO 18 S.cl1) S.p1) (q2 : okBs book (QP co PO 2 S.cl2) S.p2) {b : Nat} {h : HS}
 (kk : match S.nx0 h.fr h.ss with
  | (.ok t, s) => ∀ p e sp, LD b t (h.aft s p e sp)
  | (.err x, s) => ∀ p e sp, UE b (h.aft s p e sp) x) : LW (b + 63122) [codeOf S.p0 h.ep false none] h := by
 have w0 := o.w0; have w1 := o.w1; have w2 := o.w2; have d0 := o.d0; have d1 := o.d1; have d2 := o.d2
 have c2 : CallM S.w k LW UW 4 20 "2" S.cl2 := callM R (Cn := 0) (by decide) (fun h => absurd rfl h)
 have l2 := listM R (by decide) (by decide) (cl2_ok o) c2 S.p2 (by lia)
 have a2 : ActM LW UW 274 17 S.p2 S.nx2 := by
  rcases actM R (by decide) (by decide) (cl2_ok o) (by lia) l2 h2 q2 with h | h
  · refine h.mo R.mono ?_ (by lia)
    have := cS_le 4 2 8 S.p2 w2
    have : S.p2.wt * (4 + 14 + 2 * 8) ≤ 8 * (4 + 14 + 2 * 8) := Nat.mul_le_mul_right _ w2
    lia
  · lia
 have c1 : CallM S.w k LW UW 278 17 "1" S.cl1 := callM R (Cn := 274) (by decide) (fun _ => ⟨S.p2, b2, a2⟩)
 have l1 := listM R (by decide) (by decide) (cl1_ok o) c1 S.p1 (by lia)
 have a1 : ActM LW UW 3490 14 S.p1 S.nx1 := by
  rcases actM R (by decide) (by decide) (cl1_ok o) (by lia) l1 h1 q1 with h | h
  · refine h.mo R.mono ?_ (by lia)
    have := cS_le 278 18 8 S.p1 w1
    have : S.p1.wt * (278 + 14 + 18 * 8) ≤ 8 * (278 + 14 + 18 * 8) := Nat.mul_le_mul_right _ w1
    lia
  · lia
 have c0 : CallM S.w k LW UW 3494 14 "0" S.cl0 := callM R (Cn := 3490) (by decide) (fun _ => ⟨S.p1, b1, a1⟩)
 have l0 := listM R (by decide) (by decide) (cl0_ok o) c0 S.p0 (by lia)
 refine R.mono _ _ _ _ ?_ (topM R (by decide) (cl0_ok o) (by lia) l0 h0 q0 (by lia) (b := b) kk)
 have := cS_le 3494 146 12 S.p0 w0
 have : S.p0.wt * (3494 + 14 + 146 * 12) ≤ 12 * (3494 + 14 + 146 * 12) := Nat.mul_le_mul_right _ w0
 lia
end
noncomputable def front (i : Nat) (Λ : Lg) : Lg := (Λ.drop i).take 1 ++ (Λ.take i ++ (Λ.drop i).drop 1)
theorem front_perm (i : Nat) (Λ : Lg) : (front i Λ).Perm Λ :=
 List.Perm.trans (List.perm_append_comm_assoc _ _ _) (.of_eq (by rw [List.take_append_drop, List.take_append_drop]))
theorem Hp.front {φ : Fz} {Λ : Lg} {σ : St} (i : Nat) (H : Hp φ Λ σ) : Hp φ (front i Λ) σ := H.sub (fun _ h => (front_perm i Λ).mem_iff.mp h) (((front_perm i Λ).map _).nodup_iff.mpr H.nod)
theorem Wp.fr {α : Type} {φ : Fz} {Λ : Lg} {m : MM α} {K : α → Fz → Lg → Prop} {X : Nat → Fz → Lg → Prop} (i j : Nat) (w : Wp φ (Mine.sink j (Mine.front i Λ)) m K X) : Wp φ Λ m K X := fun σ H => w σ ((H.front i).sink j)
theorem Wp.arr {α : Type} {φ : Fz} {Λ Λ' : Lg} {m : MM α} {K : α → Fz → Lg → Prop} {X : Nat → Fz → Lg → Prop} (f : Lg → Lg) (hf : ∀ {φ Λ σ}, Hp φ Λ σ → Hp φ (f Λ) σ) (e : f Λ = Λ') (w : Wp φ Λ' m K X) : Wp φ Λ m K X := fun σ H => w σ (e ▸ hf H)
theorem Wp.via {φ : Fz} {Λ : Lg} {m : MM MV} {K : MV → Fz → Lg → Prop} {X : Nat → Fz → Lg → Prop} (f g : Lg → Lg) (hf : ∀ {φ Λ σ}, Hp φ Λ σ → Hp φ (f Λ) σ) (hg : ∀ {φ Λ σ}, Hp φ Λ σ → Hp φ (g Λ) σ) (w : Wp φ Λ m (fun v φ Λ => K v φ (f Λ)) (fun e φ Λ => X e φ (g Λ))) : Wp φ Λ m K X := fun σ H => (w σ H).imp fun r => And.imp_right fun o => by
 cases r with
 | ok v σ' => obtain ⟨φ', Λ', a, b, c⟩ := o; exact ⟨φ', _, hf a, b, c⟩
 | err e σ' => obtain ⟨φ', Λ', a, b, c⟩ := o; exact ⟨φ', _, hg a, b, c⟩
theorem ld_done {E : Env} {b : Nat} {t : Str} {h : HS} (hK : ∀ φ cache st R G, E.φ0.le φ → E.RI φ R → CacheOK φ E.book cache → E.K0 G (.tup [.str "done", .str t]) φ (HL E.k { h with dp := h.dp - 1 } (ML E.k E.q .none st (.str t) [] cache R))) : LD E b t h := by
 intro φ cache st R G c
 have q := hK φ cache st R G c.le c.ri c.ch
 unfold Env.Loop
 exact o9 1489704532185074684997403462 [] [] (fun ν => trivial) (fun ν => q) fun ν => by kernel_rfl
theorem ue_fail {E : Env} {b : Nat} {x : AX} {h : HS} (hX : ∀ φ cache st tx R e t, E.φ0.le φ → E.RI φ R → CacheOK φ E.book cache → E.X0 e φ ((e, excO x t) :: HL E.k { h with dp := h.dp - 1 } (ML E.k E.q .none st tx [] cache R))) : UE E b h x := by
 intro φ cache st tx R G e t c
 have q := hX φ cache st tx R e t c.le c.ri c.ch
 unfold Env.Exc
 exact o9 4681 [] [] (fun ν => trivial) (fun ν => q) fun ν => by kernel_rfl
theorem run_done {E : Env} {G : Nat} {φ : Fz} {h : HS} {st : Int} {tx : MV} {acts : List (AH × AC)} {cache : List (MV × MV)} {R : Lg} (hdp : h.dp = 0)
 (loop : E.Loop G φ (E.led { h with dp := 1 } st tx cache acts R)) : Wp φ (E.led h st tx cache acts R) (callN (E.n + 41) 24 [.ref E.q.m] none) (E.K0 G) E.X0 := by
 obtain ⟨dp, sp, ep, fr, co, put, log, c0, c1⟩ := h
 dsimp only at hdp
 subst hdp
 exact W9 4467976077837 [] [] (fun ν => trivial) rfl (fun ν => loop.g) fun ν => by kernel_rfl
noncomputable def MK (φ : Fz) (k : Kw) (q : Mw) (h : HS) (R : Lg) (f : Str → MV) (r : Rz Str × SS) (K : MV → Fz → Lg → Prop) (X : Nat → Fz → Lg → Prop) : Prop := match r with
 | (.ok t, s) => ∀ φ2 p e sp st tx cache, φ.le φ2 → K (f t) φ2 (HL k (h.aft s p e sp) (ML k q .none st tx [] cache R))
 | (.err x, s) => ∀ φ2 p e sp ex t st tx cache, φ.le φ2 → X ex φ2 ((ex, excO x t) :: HL k (h.aft s p e sp) (ML k q .none st tx [] cache R))
noncomputable abbrev doneV (t : Str) : MV := .tup [.str "done", .str t]
theorem code_run {n : Nat} {k : Kw} {q : Mw} {φ : Fz} {h : HS} {st : Int} {tx : MV} {cache : List (MV × MV)} {R : Lg} {K X} {c : Nat} {rows : List MV} {rgs : List Rg} {ep : Int} {r : Rz Str × SS} (co : CodeOK φ c rows rgs ep)
 (w : ∀ φ' al a s sl ea ne K' X', φ.le φ' → NestOK φ' ne false none → MK φ' k { q with al := al } h ((q.al, .list []) :: R) doneV r K' X' →
  Wp φ' (HL k h (ML k { q with al := al } .none st tx [.ref a] cache ((a, actO ⟨a, s, c, ne, sl, ea⟩ 0) :: (s, .list []) :: (q.al, .list []) :: R))) (callN (n + 41) 24 [.ref q.m] none) K' X')
 (kk : MK φ k q h R .str r K X) :
 Wp φ (HL k h (ML k q .none st tx [] cache R)) (callN (n + 42) 25 [.ref q.m, .ref c] none) K X := by
 obtain ⟨rw_, rg, nm, so, h1, h2, h3, h4, h5⟩ := co.ex
 refine Wp.via (fun Λ => sink 6 (front 7 (drops [true, true, true, true, true, true, false] Λ))) (fun Λ => sink 7 (front 8 (drops [true, true, true, true, true, true, true, false] Λ))) (fun H => ((H.drops _).front _).sink _) (fun H => ((H.drops _).front _).sink _) ?_
 refine walkC 24 (n + 41) none (fun ν => [MV.ref q.1]) (fun ν => ((φ.fr (ν 284)), .list [.ref (φ.fr (ν 118))]) :: ((φ.fr (ν 233)), .dict []) :: ((φ.fr (ν 218)), .list []) :: ((φ.fr (ν 195)), .list [.none]) :: ((φ.fr (ν 171)), .list []) :: ((φ.fr (ν 118)), actO ⟨(φ.fr (ν 118)), (φ.fr (ν 171)), c, (φ.fr (ν 48)), (φ.fr (ν 218)), (φ.fr (ν 233))⟩ 0) :: ((φ.fr (ν 48)), .inst 4 [(16, .str ""), (17, .none), (18, .bool false), (19, .str "")]) :: HL k h ((q.m, machO k { q with al := (φ.fr (ν 284)) } .none st tx) :: (q.al, .list []) :: (q.cb, .dict cache) :: R)) 459057115595103575475142621524753454256653 [MO.inst 8 [(50, MV.ref rw_), (48, MV.ref rg), (25, MV.ref nm), (29, MV.ref so), (39, MV.int ep)], MO.list []] [] (fun ν => (ai h4 (ai h1 trivial))) rfl (fun ν => by kernel_rfl) fun ν K' X' kv kx => ?_
 refine Wp.arr (Λ' := (φ.fr (ν 48), .inst 4 [(16, .str ""), (17, .none), (18, .bool false), (19, .str "")]) :: HL k h (ML k { q with al := φ.fr (ν 284) } .none st tx [.ref (φ.fr (ν 118))] cache ((φ.fr (ν 118), actO ⟨φ.fr (ν 118), φ.fr (ν 171), c, φ.fr (ν 48), φ.fr (ν 218), φ.fr (ν 233)⟩ 0) :: (φ.fr (ν 171), .list []) :: (q.al, .list []) :: R))) (fun Λ => sink 11 (front 8 (sink 10 (sink 11 (sink 9 (drops [true, false, false, false, true, true, true] Λ)))))) (fun H => (((((H.drops _).sink _).sink _).sink _).front _).sink _) (by kernel_rfl) (Wp.freeze fun lf => ?_)
 refine w _ _ _ _ _ _ _ _ _ lf ⟨"", "", add_at _ _ _, fun h => by cases h⟩ ?_
 obtain ⟨r, s⟩ := r
 cases r with
 | ok t =>
  intro φ2 p e sp st tx cache l2
  refine kv _ _ _ (lf.trans l2) ?_
  have kk := kk φ2 p e sp st tx cache (lf.trans l2)
  exact o9 285941744849741 [] [] (fun ν' => trivial) (fun ν' => kk) fun ν' => by kernel_rfl
 | err x =>
  intro φ2 p e sp ex t st tx cache l2
  refine kx _ _ _ (lf.trans l2) ?_
  have kk := kk φ2 p e sp ex t st tx cache (lf.trans l2)
  exact o9 19194766 [] [] (fun ν' => trivial) (fun ν' => kk) fun ν' => by kernel_rfl
noncomputable abbrev PW (n : Nat) (φ0 : Fz) (k : Kw) (nm : Str) (D : Nat) (ev : Str → SS → Rz Str × SS) : Prop := (∃ c, c ≤ n + 38 ∧ NxW φ0 k c D 1 nm ev) ∧ ∀ fr s, (ev fr s).2.log.length ≤ s.log.length + D
theorem modeB {n : Nat} {k : Kw} {q : Mw} {φ0 φ : Fz} {S : Sc} {book : Str → Option Its} {h : HS} {st : Int} {tx : MV} {cache : List (MV × MV)} {R : Lg} {K X} {c : Nat}
 (o : ScOK S) (wd : Wd φ0 k) (bo : BookOK φ0 k book) (op : φ0.f q.op = some (.dict opsD)) (ga : GoodA k S.w) (le : φ0.le φ)
 (b0 : book "P0" = some S.p0) (b1 : book "P1" = some S.p1) (b2 : book "P2" = some S.p2)
 (h0 : okIs (OkJ k S "0") S.p0) (h1 : okIs (OkJ k S "1") S.p1) (h2 : okIs (OkJ k S "2") S.p2)
 (q0 : okBs book (QP false (PW n φ0 k) 146 S.cl0) S.p0) (q1 : okBs book (QP false (PW n φ0 k) 18 S.cl1) S.p1) (q2 : okBs book (QP false (PW n φ0 k) 2 S.cl2) S.p2)
 (co : CodeOK φ c (rowsT S.p0 0 ++ [joinRw S.p0.len]) (rngT S.p0 0 0) h.ep) (hdp : h.dp = 0) (hco : h.co = .none) (ch : CacheOK φ book cache) (hcl : cache.length ≤ 10) (hll : h.log.length ≤ 10)
 (kk : MK φ k q h R .str (S.nx0 h.fr h.ss) K X) :
 Wp φ (HL k h (ML k q .none st tx [] cache R)) (callN (n + 42) 25 [.ref q.m, .ref c] none) K X := by
 obtain ⟨dp, sp, ep, fr, co', put, log, c0, c1⟩ := h
 dsimp only at hdp hco co hll
 subst hdp hco
 refine code_run co ?_ kk
 intro φ' al a s sl ea ne K' X' lf no kk
 let E : Env := ⟨n, φ0, k, { q with al := al }, S.w, book, .none, fun φ2 R' => φ'.le φ2 ∧ R' = (q.al, .list []) :: R, fun _ => K', X'⟩
 have ok : EnvOK E := ⟨wd, bo, op, fun _ _ _ l h => ⟨h.1.trans l, h.2⟩⟩
 have mr : MR false S.w k book (POk E) (LW E) (UW E) (LD E) (UE E) := mr_of (E := E) (co := false) ok rfl (r_turnB ok ga)
 have run := runM mr o b1 b2 h0 h1 h2 q0 q1 q2 (b := 1) (h := ⟨1, sp, ep, fr, .none, put, log, c0, c1⟩) (by
  revert kk
  show MK _ _ _ _ _ _ (S.nx0 fr ⟨log, c0, c1⟩) _ _ → match S.nx0 fr ⟨log, c0, c1⟩ with
   | (.ok t, s) => ∀ p e sp', LD E 1 t ((⟨1, sp, ep, fr, .none, put, log, c0, c1⟩ : HS).aft s p e sp')
   | (.err x, s) => ∀ p e sp', UE E 1 ((⟨1, sp, ep, fr, .none, put, log, c0, c1⟩ : HS).aft s p e sp') x
  generalize S.nx0 fr ⟨log, c0, c1⟩ = r
  obtain ⟨r, s⟩ := r
  intro kk
  cases r with
  | ok t => exact fun p e sp' => ld_done fun φ2 cache st R G _ hr _ => hr.2 ▸ kk φ2 p e sp' st (.str t) cache hr.1
  | err x => exact fun p e sp' => ue_fail fun φ2 cache st tx R e1 t _ hr _ => hr.2 ▸ kk φ2 p e sp' e1 t st tx cache hr.1)
 obtain ⟨_, _, hs0, hw0, _⟩ := bo.bk _ _ b0
 refine run_done (E := E) (G := 70000) (h := ⟨0, sp, ep, fr, .none, put, log, c0, c1⟩) (acts := [(⟨a, s, c, ne, sl, ea⟩, codeOf S.p0 ep false none)]) (R := (q.al, .list []) :: R) rfl ?_
 refine run φ' [(⟨a, s, c, ne, sl, ea⟩, codeOf S.p0 ep false none)] cache st tx ((q.al, .list []) :: R) 70000 ⟨le.trans lf, rfl, ?_, ch.le lf, ⟨.refl _, rfl⟩, rfl, rfl, by decide, by lia, by dsimp only; lia, ?_, (by decide : 1 + (1 + 63122) ≤ 500000)⟩
 · intro p hp
   rw [List.mem_singleton] at hp
   subst hp
   refine ⟨co.le lf, no, ?_, Nat.le_trans (rngT_len S.p0 0 0) hw0⟩
   dsimp only
   rw [List.length_append, rowsT_len, List.length_singleton]
   lia
 · intro p hp
   rw [List.mem_singleton] at hp
   subst hp
   exact (by decide : 0 + (1 + 63122) ≤ 500000)
noncomputable abbrev qIts : Its := .cons (.blk false "q" (.cons .idle .nil) false) .nil
noncomputable abbrev qRows : List MV := [startR "q" 4, pushR "o", invR 1, joinRw 1, joinRw 1]
theorem qIts_rows : rowsT qIts 0 ++ [joinRw qIts.len] = qRows := rfl
theorem idle_run {n : Nat} {k : Kw} {q : Mw} {φ0 φ : Fz} {h : HS} {st : Int} {tx : MV} {cache : List (MV × MV)} {R : Lg} {K X} {c : Nat}
 (wd : Wd φ0 k) (op : φ0.f q.op = some (.dict opsD)) (le : φ0.le φ) (co : CodeOK φ c qRows (rngT qIts 0 0) h.ep) (hdp : h.dp = 0)
 (kk : ∀ φ2 sp st tx, φ.le φ2 → K (.str "idle") φ2 (HL k { h with sp := sp } (ML k q .none st tx [] cache R))) :
 Wp φ (HL k h (ML k q .none st tx [] cache R)) (callN (n + 42) 25 [.ref q.m, .ref c] none) K X := by
 obtain ⟨dp, sp, ep, fr, hco, put, log, c0, c1⟩ := h
 dsimp only at hdp co
 subst hdp
 obtain ⟨rw_, rg, nm, so, h1, h2, h3, h4, h5⟩ := co.ex
 have wd' := wd.le le
 have hop := le.1 _ _ op
 have k1 := cm_all k put
 have hep : (ep == ep) = true := beq_self_eq_true _
 refine Wp.drops [false, false, false, false, false, false, false, false, false, false, false, false, false] [] ?_
 exact W9 97738777268385872800208684171984906120385777559800860549345830302049999780143818033458861554098092930900749883238767643683333214666344269951566501601879304850106248554525173408903370507856714688318068237042764095952752463631856196168421716293682723197989010295566213775355964205720356142297848029747181886882707658710633252693355446930520758882324221848555575099933545155225983304153754335554827981458687161580976231400418407996230739321794931112052960133569796669072789798277093056520876948544600033242194759614166132698378227210231464531170984082228195704754293894142471368724366970644900684890285057968944948857487375020559563380362619486084494852091947857200587928800898186235769718162016650099778752711094174796744990899517151663710349311369404797453 [MO.inst 8 [(50, MV.ref rw_), (48, MV.ref rg), (25, MV.ref nm), (29, MV.ref so), (39, MV.int ep)], MO.list [], MO.inst 8 [(50, MV.ref rw_), (48, MV.ref rg), (25, MV.ref nm), (29, MV.ref so), (39, MV.int ep)], MO.list qRows, MO.inst 8 [(50, MV.ref rw_), (48, MV.ref rg), (25, MV.ref nm), (29, MV.ref so), (39, MV.int ep)], MO.list qRows, MO.dict opsD, MO.dict opsD, MO.inst 8 [(50, MV.ref rw_), (48, MV.ref rg), (25, MV.ref nm), (29, MV.ref so), (39, MV.int ep)], MO.inst 8 [(50, MV.ref rw_), (48, MV.ref rg), (25, MV.ref nm), (29, MV.ref so), (39, MV.int ep)], MO.list qRows, MO.inst 8 [(50, MV.ref rw_), (48, MV.ref rg), (25, MV.ref nm), (29, MV.ref so), (39, MV.int ep)], MO.list qRows, MO.dict opsD, MO.dict opsD, MO.inst 8 [(50, MV.ref rw_), (48, MV.ref rg), (25, MV.ref nm), (29, MV.ref so), (39, MV.int ep)], MO.list qRows, MO.inst 8 [(50, MV.ref rw_), (48, MV.ref rg), (25, MV.ref nm), (29, MV.ref so), (39, MV.int ep)], MO.list qRows, MO.dict opsD, MO.dict opsD, MO.inst 8 [(50, MV.ref rw_), (48, MV.ref rg), (25, MV.ref nm), (29, MV.ref so), (39, MV.int ep)], MO.list qRows, MO.inst 8 [(50, MV.ref rw_), (48, MV.ref rg), (25, MV.ref nm), (29, MV.ref so), (39, MV.int ep)], MO.list qRows, MO.dict opsD, MO.dict opsD, MO.inst 8 [(50, MV.ref rw_), (48, MV.ref rg), (25, MV.ref nm), (29, MV.ref so), (39, MV.int ep)], MO.list qRows, MO.inst 8 [(50, MV.ref rw_), (48, MV.ref rg), (25, MV.ref nm), (29, MV.ref so), (39, MV.int ep)], MO.list qRows, MO.dict opsD, MO.dict opsD, MO.inst 8 [(50, MV.ref rw_), (48, MV.ref rg), (25, MV.ref nm), (29, MV.ref so), (39, MV.int ep)], MO.list qRows] [] (fun ν => (ai h2 (ai h1 (ai hop (ai hop (ai h2 (ai h1 (ai h2 (ai h1 (ai hop (ai hop (ai h2 (ai h1 (ai h2 (ai h1 (ai k1 (ai k1 (ai hop (ai hop (ai h2 (ai h1 (ai h2 (ai h1 (ai hop (ai hop (ai h2 (ai h1 (ai h2 (ai h1 (ai (congrArg not hep) (ai h1 (ai hop (ai hop (ai h2 (ai h1 (ai h2 (ai h1 (ai h4 (ai h1 trivial))))))))))))))))))))))))))))))))))))))) rfl (fun ν => kk φ (sp + 1) (st + 1 + 1 + 1 + 1 + 1) (.str "idle") (.refl _)) fun ν => by kernel_rfl
theorem idle_run' {M : Nat} (hM : 42 ≤ M) {k : Kw} {q : Mw} {φ0 φ : Fz} {h : HS} {st : Int} {tx : MV} {cache : List (MV × MV)} {R : Lg} {K X} {c : Nat}
 (wd : Wd φ0 k) (op : φ0.f q.op = some (.dict opsD)) (le : φ0.le φ) (co : CodeOK φ c qRows (rngT qIts 0 0) h.ep) (hdp : h.dp = 0)
 (kk : ∀ φ2 sp st tx, φ.le φ2 → K (.str "idle") φ2 (HL k { h with sp := sp } (ML k q .none st tx [] cache R))) :
 Wp φ (HL k h (ML k q .none st tx [] cache R)) (callN M 25 [.ref q.m, .ref c] none) K X := by
 obtain ⟨M, rfl⟩ : ∃ m, M = m + 42 := ⟨M - 42, by lia⟩
 exact idle_run wd op le co hdp kk
structure PA where
 n : Nat
 φ0 : Fz
 k : Kw
 q : Mw
 w : Wl
 book : Str → Option Its
 cr : Nat
 q2 : Mw
 Q : HS → Str → Prop
 Q' : HS → AX → Prop
noncomputable def PA.RI (P : PA) (t : Int) (φ : Fz) (R : Lg) : Prop := 0 ≤ t ∧ ∃ st tx cache, R = ML P.k P.q2 .none st tx [] cache [] ∧ CacheOK φ P.book cache ∧ (cache.length : Int) ≤ t
noncomputable def PA.Done (P : PA) (t : Int) (v : MV) (φ : Fz) (Λ : Lg) : Prop := ∃ h tx st cache R, v = doneV tx ∧ Λ = HL P.k h (ML P.k P.q .none st (.str tx) [] cache R) ∧ P.Q h tx ∧ P.RI t φ R ∧ CacheOK φ P.book cache
noncomputable def PA.X0 (P : PA) : Nat → Fz → Lg → Prop := fun e φ Λ => ∃ t h x t' st tx cache R, Λ = (e, excO x t') :: HL P.k h (ML P.k P.q .none st tx [] cache R) ∧ P.Q' h x ∧ P.RI t φ R ∧ CacheOK φ P.book cache
noncomputable def Paus (P : PA) (t : Int) (again : Fz → Lg → Prop) (v : MV) (φ : Fz) (Λ : Lg) : Prop := ∃ p ql kd u h st tx cache x pc S r R, v = .tup [.str "pause", .ref p] ∧
 Λ = (p, .inst 5 [(20, .str kd), (21, .ref ql)]) :: (ql, .list [.str u]) :: HL P.k h (ML P.k P.q (.ref p) st tx (refs r ++ [.ref x.a]) cache ((x.a, actO x pc) :: (x.s, .list S) :: AL r R)) ∧
 P.φ0.le φ ∧ P.RI t φ R ∧ h.dp = 0 ∧ h.co = .ref P.cr ∧ S.length < 500000 ∧ h.log.length < 490000 ∧ t ≤ 899 ∧
 ∀ φ2 R2 p' e' sp', φ.le φ2 → P.RI (t + 1) φ2 R2 → again φ2 (HL P.k (h.aft ⟨h.log ++ [.tup [.str "turn", .str kd, .str u]], h.c0, h.c1⟩ p' e' sp') (ML P.k P.q .none st tx (refs r ++ [.ref x.a]) cache ((x.a, actO x pc) :: (x.s, .list (S ++ [.str (P.w.ans t)])) :: AL r R2)))
noncomputable def PA.K0 (P : PA) : Nat → Int → MV → Fz → Lg → Prop
 | 0, t => P.Done t
 | G + 1, t => fun v φ Λ => P.Done t v φ Λ ∨ Paus P t (fun φ Λ => Wp φ Λ (callN (P.n + 41) 24 [.ref P.q.m] none) (PA.K0 P G (t + 1)) P.X0) v φ Λ
noncomputable abbrev PA.E (P : PA) (t : Int) : Env := ⟨P.n, P.φ0, P.k, P.q, P.w, P.book, .ref P.cr, P.RI t, fun G => P.K0 G t, P.X0⟩
structure POK (P : PA) : Prop where
 wd : Wd P.φ0 P.k
 bo : BookOK P.φ0 P.k P.book
 op : P.φ0.f P.q.op = some (.dict opsD)
 op2 : P.φ0.f P.q2.op = some (.dict opsD)
 al : P.k.al = []
 cr : P.φ0.f P.cr = some (.inst 9 [(56, .str "c"), (47, .ref P.q.m), (57, .none), (54, .none), (58, .str ""), (59, .bool false), (60, .bool false), (61, .none)])
theorem PA.RI.le {P : PA} {t : Int} {φ φ' : Fz} {R : Lg} (h : P.RI t φ R) (l : φ.le φ') : P.RI t φ' R := by
 obtain ⟨h0, st, tx, cache, a, b, c⟩ := h
 exact ⟨h0, st, tx, cache, a, b.le l, c⟩
theorem POK.ok {P : PA} (o : POK P) (t : Int) : EnvOK (P.E t) := ⟨o.wd, o.bo, o.op, fun _ _ _ l h => PA.RI.le h l⟩
theorem r_turnA {P : PA} (o : POK P) {t : Int} (ht : t ≤ 899) (b : Nat) (a : AC) (r : List AC) (h : HS) (S : List Str) (j l v : Str) (m : Int) (hrow : a.rows[a.pc]? = some (invR 3)) (hst : a.st = S ++ [("r" : Str), j, l]) (hj : GoodJ P.k P.w j)
 (hd : P.w.deed j = (.turn, v, m))
 (hb : ∀ p e sp, LW (P.E (t + 1)) b ({ a with pc := a.pc + 1, st := S ++ [P.w.ans t] } :: r) (h.aft ⟨h.log ++ [callE j l h.fr] ++ [turnE m v], h.c0, h.c1⟩ p e sp)) : LW (P.E t) (b + 1) (a :: r) h := by
 have ok := o.ok t
 refine lw_inv ok hrow hst ?_
 intro φ x rr cache st tx R G wl sn c hwl s1 s2 s3
 have hj2 := hj.2
 rw [hd] at hj2
 have hcr := c.le.1 _ _ o.cr
 have hco : h.co = .ref P.cr := c.co
 have hdp : h.dp = 1 := c.dp
 have cll := c.ll
 have bG := c.bG
 obtain ⟨dp, sp, ep, fr, hco', put, log, c0, c1⟩ := h
 dsimp only at hco hdp cll
 subst hco hdp
 obtain ⟨G, rfl⟩ : ∃ m, G = m + 1 := ⟨G - 1, by lia⟩
 refine deed_pause (k := P.k) (h := ⟨1, sp + 1, ep, fr, .ref P.cr, put, log, c0, c1⟩) (v := v) (more := m) (kd := kindT m) (ok.wd.le c.le) hwl c.ll1 hj2 rfl o.al ?_
 intro p ql
 have cn : ∀ φ2 R2 p' e' sp', φ.le φ2 → P.RI (t + 1) φ2 R2 → Cnd (P.E (t + 1)) b ({ a with pc := a.pc + 1, st := S ++ [P.w.ans t] } :: r) ((⟨1, sp, ep, fr, .ref P.cr, put, log, c0, c1⟩ : HS).aft ⟨log ++ [callE j l fr] ++ [turnE m v], c0, c1⟩ p' e' sp') φ2 (({ x with s := sn }, { a with pc := a.pc + 1, st := S ++ [P.w.ans t] }) :: rr) cache R2 G := by
  intro φ2 R2 p' e' sp' l2 ri
  obtain ⟨le, ac, ok', ch, ri', co, dp, bG', cl, ll, sl, al⟩ := (c.nx (x' := { x with s := sn }) (a' := { a with pc := a.pc + 1, st := S ++ [(P.w.ans t)] }) (h' := (⟨1, sp, ep, fr, .ref P.cr, put, log, c0, c1⟩ : HS).aft ⟨log ++ [callE j l fr] ++ [turnE m v], c0, c1⟩ p' e' sp') ⟨rfl, rfl⟩ ⟨rfl, rfl, rfl, rfl, rfl⟩ (Nat.le_trans (len_snoc _ _) (by lia)) ⟨rfl, rfl⟩ log2).up ok l2
  exact ⟨le, ac, ok', ch, ri, co, dp, by lia, cl, ll, sl, al⟩
 have pq : P.K0 (G + 1) t (.tup [.str "pause", .ref p]) φ ((p, .inst 5 [(20, .str (kindT m)), (21, .ref ql)]) :: (ql, .list [.str v]) :: HL P.k ⟨0, sp + 1, ep, fr, .ref P.cr, put, log ++ [callE j l fr], c0, c1⟩ (ML P.k P.q (.ref p) st tx (refs rr ++ [.ref x.a]) cache ((x.a, actO { x with s := sn } (a.pc + 1)) :: (sn, .list (S.map .str)) :: AL rr R))) := by
  refine .inr ⟨p, ql, kindT m, v, ⟨0, sp + 1, ep, fr, .ref P.cr, put, log ++ [callE j l fr], c0, c1⟩, st, tx, cache, { x with s := sn }, a.pc + 1, S.map .str, rr, R, rfl, rfl, c.le, c.ri, rfl, rfl, by rw [List.length_map]; lia, by dsimp only; rw [List.length_append, List.length_singleton]; lia, ht, ?_⟩
  intro φ2 R2 p' e' sp' l2 ri
  rw [← map_snoc]
  exact run_done (E := P.E (t + 1)) (G := G) (h := (⟨0, sp, ep, fr, .ref P.cr, put, log, c0, c1⟩ : HS).aft ⟨log ++ [callE j l fr] ++ [turnE m v], c0, c1⟩ p' e' sp') (acts := ({ x with s := sn }, { a with pc := a.pc + 1, st := S ++ [P.w.ans t] }) :: rr) (st := st) (tx := tx) (cache := cache) (R := R2) rfl (hb p' e' sp' φ2 _ cache st tx R2 G (cn φ2 R2 p' e' sp' l2 ri))
 have lp : (P.E t).Loop (G + 1) φ ((p, .inst 5 [(20, .str (kindT m)), (21, .ref ql)]) :: (ql, .list [.str v]) :: HL P.k ⟨1, sp + 1, ep, fr, .ref P.cr, put, log ++ [callE j l fr], c0, c1⟩ (ML P.k P.q (.ref p) st tx (refs rr ++ [.ref x.a]) cache ((x.a, actO { x with s := sn } (a.pc + 1)) :: (sn, .list (S.map .str)) :: AL rr R))) := by
  unfold Env.Loop
  exact o9 91080865532587807686 [] [] (fun ν => trivial) (fun ν => pq) fun ν => by kernel_rfl
 exact W9 80485818729937421470938435656 [MO.inst 9 [(56, MV.str "c"), (47, MV.ref P.q.m), (57, MV.none), (54, MV.none), (58, MV.str ""), (59, MV.bool false), (60, MV.bool false), (61, MV.none)]] [] (fun ν => (ai hcr trivial)) rfl (fun ν => lp) fun ν => by kernel_rfl
noncomputable abbrev HS.z (h : HS) : HS := { h with c0 := 0 }
noncomputable def LWA (P : PA) (b : Nat) (A : List AC) (h : HS) : Prop := h.c0 ≤ 900 ∧ LW (P.E h.c0) b A h.z
noncomputable def UWA (P : PA) (b : Nat) (A : List AC) (h : HS) (x : AX) : Prop := h.c0 ≤ 900 ∧ UW (P.E h.c0) b A h.z x
noncomputable def LDA (P : PA) (b : Nat) (t : Str) (h : HS) : Prop := h.c0 ≤ 900 ∧ LD (P.E h.c0) b t h.z
noncomputable def UEA (P : PA) (b : Nat) (h : HS) (x : AX) : Prop := h.c0 ≤ 900 ∧ UE (P.E h.c0) b h.z x
theorem mrA {P : PA} (o : POK P) : MR true P.w P.k P.book (fun _ _ _ => True) (LWA P) (UWA P) (LDA P) (UEA P) where
 mono := fun b b' A h hb w => ⟨w.1, fun φ acts cache st tx R G c => w.2 φ acts cache st tx R G (c.mo hb)⟩
 umono := fun b b' A h x hb w => ⟨w.1, fun φ acts cache st tx R G e t e0 L2 L3 L4 c => w.2 φ acts cache st tx R G e t e0 L2 L3 L4 (c.mo hb)⟩
 push := fun b a r h s e w => ⟨w.1, r_push (o.ok _) b a r h.z s e w.2⟩
 jump := fun b a r h to e l w => ⟨w.1, r_jump (o.ok _) b a r h.z to e l w.2⟩
 join := fun b a r h S ts n e1 e2 e3 e4 w => ⟨w.1, r_join (o.ok _) b a r h.z S ts n e1 e2 e3 e4 w.2⟩
 fin := fun b a a2 r h t e1 e2 w => ⟨w.1, r_fin (o.ok _) b a a2 r h.z t e1 e2 w.2⟩
 last := fun b a h t e1 e2 w => ⟨w.1, r_last (o.ok _) b a h.z t e1 e2 w.2⟩
 same := fun b a r h nm to e1 e2 w => ⟨w.1, r_same (o.ok _) b a r h.z nm to e1 e2 w.2⟩
 entr := fun _ b a r h nm to its e1 e2 e3 e4 w => ⟨w.1, r_entr (o.ok _) rfl b a r h.z nm to its e1 e2 e3 e4 w.2⟩
 plain := fun hc => by cases hc
 idle := fun b a r h S e1 e2 w => ⟨(w 0).1, r_idle (o.ok _) b a r h.z S e1 e2 fun sp => (w sp).2⟩
 flat := fun b a r h S j l v m e1 e2 e3 e4 w => ⟨(w true 0 0).1, r_flat (o.ok _) b a r h.z S j l v m e1 e2 e3 e4 fun p e sp => (w p e sp).2⟩
 turn := fun b a r h S j l v m e1 e2 e3 e4 w => by
  have := (w true 0 0).1
  dsimp only at this
  exact ⟨by lia, r_turnA o (by lia) b a r h.z S j l v m e1 e2 e3 e4 fun p e sp => (w p e sp).2⟩
 rais := fun b a r h S j l v m e1 e2 e3 e4 w => ⟨(w true 0 0).1, r_rais (o.ok _) b a r h.z S j l v m e1 e2 e3 e4 fun p e sp => (w p e sp).2⟩
 nest := fun b a r h S j l v m its e1 e2 e3 e4 e5 e6 e7 e8 w => ⟨(w 0).1, r_nest (o.ok _) b a r h.z S j l v m its e1 e2 e3 e4 e5 e6 e7 e8 fun sp => (w sp).2⟩
 catc := fun b a r h x rg e1 e2 e3 w => ⟨w.1, u_catc (o.ok _) b a r h.z x rg e1 e2 e3 w.2⟩
 drop := fun b a r h x e1 e2 e3 w => ⟨w.1, u_drop (o.ok _) b a r h.z x e1 e2 e3 w.2⟩
 proc := fun b a a2 r h x e1 e2 e3 e4 e5 w => by
  have : h.c0 ≤ 900 ∧ match endProc x with
   | .ok t => LW (P.E h.c0) b ({ a2 with st := a2.st ++ [t] } :: r) (h.z.lv a.bk)
   | .err y => UW (P.E h.c0) b (a2 :: r) (h.z.lv a.bk) y := by
   revert w
   generalize endProc x = y
   intro w
   cases y with
   | ok t => exact w
   | err y => exact w
  exact ⟨this.1, u_proc (o.ok _) b a a2 r h.z x e1 e2 e3 e4 e5 this.2⟩
 out := fun b h x w => ⟨w.1, u_out (o.ok _) b h.z x w.2⟩
noncomputable abbrev trW : PS := b_law_turns.rest.rest.rest.rest.rest.fst
noncomputable abbrev trT : PE := trW.wt
noncomputable abbrev trB : PS := trW.fb
noncomputable abbrev trR : List Frm := [.seq b_law_turns.rest.rest.rest.rest.rest.rest]
noncomputable abbrev PA.tz (P : PA) (an2 : Nat) (mask t : Int) (s g : MV) (L10 L11 L12 : Option MV) (c : Ct) (Λ : Lg) : Z := ⟨c, trR, P.n + 41, none, [some (.ref P.k.ho), some (.ref P.q.m), some (.ref P.q2.m), some (.ref P.k.lg), some (.ref an2), some (.int mask), some (.ref P.cr), some (.int t), some s, some g, L10, L11, L12], Λ, q0⟩
theorem al_app : ∀ (l : List (AH × AC)) (R : Lg), AL l R = AL l [] ++ R := fun l => by
 induction l with
 | nil => exact fun R => rfl
 | cons p r ih => intro R; rw [AL, AL, ih R]; rfl
theorem led_perm {k : Kw} {h : HS} {q q2 : Mw} {pz pz2 : MV} {st st2 : Int} {tx tx2 : MV} {A A2 : List MV} {cache cache2 : List (MV × MV)} {x s : Nat × MO} {r : List (AH × AC)} {R : Lg} :
 (HL k h (ML k q2 pz2 st2 tx2 A2 cache2 (ML k q pz st tx A cache (x :: s :: AL r R)))).Perm (HL k h (ML k q pz st tx A cache (x :: s :: AL r (ML k q2 pz2 st2 tx2 A2 cache2 R)))) := by
 refine .cons _ (.cons _ (.cons _ (.cons _ (.cons _ ?_))))
 rw [al_app r R, al_app r (ML k q2 pz2 st2 tx2 A2 cache2 R)]
 exact List.perm_append_comm_assoc [(q2.m, machO k q2 pz2 st2 tx2), (q2.al, MO.list A2), (q2.cb, MO.dict cache2)] ((q.m, machO k q pz st tx) :: (q.al, .list A) :: (q.cb, .dict cache) :: x :: s :: AL r []) R
theorem Hp.perm {φ : Fz} {Λ Λ' : Lg} {σ : St} (p : Λ'.Perm Λ) (H : Hp φ Λ σ) : Hp φ Λ' σ := H.sub (fun _ h => p.mem_iff.mp h) ((p.map _).nodup_iff.mpr H.nod)
theorem Gd.permW {K0 : MV → Fz → Lg → Prop} {X0 : Nat → Fz → Lg → Prop} {φ : Fz} {t : PE} {b : PS} {fr : List Frm} {n : Nat} {hd : Option Nat} {L : Loc} {Λ Λ' : Lg} {q : Ac} (p : Λ'.Perm Λ) (H : Gd K0 X0 φ ⟨.W t b, fr, n, hd, L, Λ', q⟩) : Gd K0 X0 φ ⟨.W t b, fr, n, hd, L, Λ, q⟩ := ⟨fun σ X => H.g σ (X.perm p)⟩
theorem Wp.perm {φ : Fz} {Λ Λ' : Lg} {m : MM MV} {K : MV → Fz → Lg → Prop} {X : Nat → Fz → Lg → Prop} (p : Λ'.Perm Λ) (w : Wp φ Λ' m K X) : Wp φ Λ m K X := fun σ H => w σ (H.perm p)
theorem pow_ok {t : Int} (h0 : 0 ≤ t) (ht : t ≤ 899) : (decide (0 ≤ t) && (decide (t ≤ 900) && decide ((2 : Int).natAbs < 1000))) = true := by
 rw [decide_eq_true h0, decide_eq_true (Int.le_trans ht (by decide))]; rfl
theorem two_ok {t : Int} (h0 : 0 ≤ t) (ht : t ≤ 899) : (decide ((0 : Int) < 2 ^ t.toNat) && decide ((2 : Int) ^ t.toNat < two1000)) = true := by
 rw [decide_eq_true (Int.pow_pos (by decide)), decide_eq_true (show (2 : Int) ^ t.toNat < two1000 by unfold two1000; exact Int.pow_lt_pow_of_lt (by decide) (by lia))]; rfl
section
variable {P : PA} (o : POK P) {an2 : Nat} {al2 : List MV} (han : P.φ0.f an2 = some (.list al2)) (hl2 : decide (0 < (al2.length : Int)) = true) (ha2 : ∀ c : Int, idx al2 (c % (al2.length : Int)) = some (.str (P.w.ans c))) (hq : P.book "Q" = some qIts)
include o han hl2 ha2 hq
theorem trB_w (hn : 1 ≤ P.n) {mask t : Int} (ht : t ≤ 899) {φ : Fz} {p ql : Nat} {kd v : Str} {h : HS} {st : Int} {tx : MV} {cache : List (MV × MV)} {x : AH} {pc : Nat} {S : List MV} {r : List (AH × AC)} {R : Lg} {L10 L11 L12 : Option MV} {K X}
 (le : P.φ0.le φ) (ri : P.RI t φ R) (hdp : h.dp = 0) (hco : h.co = .ref P.cr) (hS : S.length < 500000) (hll : h.log.length < 490000)
 (again : ∀ φ2 R2 p' e' sp', φ.le φ2 → P.RI (t + 1) φ2 R2 → Wp φ2 (HL P.k (h.aft ⟨h.log ++ [.tup [.str "turn", .str kd, .str v]], h.c0, h.c1⟩ p' e' sp') (ML P.k P.q .none st tx (refs r ++ [.ref x.a]) cache ((x.a, actO x pc) :: (x.s, .list (S ++ [.str (P.w.ans t)])) :: AL r R2)))
  (callN (P.n + 41) 24 [.ref P.q.m] none) (fun v φ Λ => ∃ s g, v = .tup [s, g] ∧ ∀ L10 L11 L12, Gd K X φ (P.tz an2 mask (t + 1) s g L10 L11 L12 (.W trT trB) Λ)) X) :
 Gd K X φ (P.tz an2 mask t (.str "pause") (.ref p) L10 L11 L12 (.W trT trB) ((p, .inst 5 [(20, .str kd), (21, .ref ql)]) :: (ql, .list [.str v]) :: HL P.k h (ML P.k P.q (.ref p) st tx (refs r ++ [.ref x.a]) cache ((x.a, actO x pc) :: (x.s, .list S) :: AL r R)))) := by
 obtain ⟨h0, st2, tx2, cache2, rfl, hc2, hcl⟩ := ri
 obtain ⟨dp, sp, ep, fr, hco', put, log, c0, c1⟩ := h
 dsimp only at hdp hco hll
 subst hdp hco
 have wd' := o.wd.le le
 have b1 := pow_ok h0 ht
 have b2 := two_ok h0 ht
 have l1 := lim1 (l := log) (by lia)
 have d1 := cm_all P.k put
 have d2 := cm_del P.k put
 have hd0 : (((refs r ++ [MV.ref x.a]).length : Int) == 0) = false := n9 (by rw [List.length_append, List.length_singleton]; lia)
 refine Gd.permW ((led_perm.cons _).cons _) ?_
 have spos := snoc_pos (refs r) (.ref x.a)
 have lS := lim1 (l := S) (by lia)
 have hx := idx_last (refs r) (.ref x.a)
 have hdd : (((refs r ++ [MV.ref x.a]).length : Int) == ((refs r ++ [MV.ref x.a]).length : Int)) = true := beq_self_eq_true _
 cases hm : (mask / 2 ^ t.toNat % 2 == 1) with
 | true =>
  refine onC 15 (P.1 + 41) none (fun ν => [MV.ref P.q2.1, MV.str "Q", MV.bool false]) (fun ν => (p, .inst 5 [(20, .str kd), (21, .ref ql)]) :: (ql, .list [.str v]) :: HL P.k ⟨0, sp, ep + 1, "out", .none, true, log ++ [.tup [.str "turn", .str kd, .str v]], c0, c1⟩ (ML P.k P.q2 .none st2 tx2 [] cache2 (ML P.k P.q (.ref p) st tx (refs r ++ [.ref x.a]) cache ((x.a, actO x pc) :: (x.s, .list S) :: AL r [])))) 11058739747939907429783416984556159441754624474535366262867885569504500745242694974653667517264016965638 [MO.dict (cmdsD P.k false), MO.dict [(MV.str "i", MV.bool true)]] [] (fun ν => (ai wd'.il (ai d2 (ai d1 (ai hm (ai b2 (ai b1 (ai l1 trivial)))))))) (fun ν => by kernel_rfl) fun ν K' X' kv kx => ?_
  refine Wp.pre [false, false] (code_w (N := P.n + 13) o.wd o.bo hq le hc2 (by lia) fun φ1 c cache2' l1 co hc2' hl2' => kv _ _ _ l1 ?_)
  refine onC 25 (P.1 + 41) none (fun ν' => [MV.ref P.q2.1, MV.ref c]) (fun ν' => HL P.k ⟨0, sp, ep + 1, "out", .none, true, log ++ [.tup [.str "turn", .str kd, .str v]], c0, c1⟩ (ML P.k P.q2 .none st2 tx2 [] cache2' (ML P.k P.q (.ref p) st tx (refs r ++ [.ref x.a]) cache ((x.a, actO x pc) :: (x.s, .list S) :: AL r [])))) 1 [] [] (fun ν' => trivial) (fun ν' => by kernel_rfl) fun ν' K'' X'' kv' kx' => ?_
  refine idle_run' (M := P.n + 41) (by lia) o.wd o.op2 (le.trans l1) co rfl fun φ2 sp2 st2' tx2' l2 => kv' _ _ _ l2 ?_
  have ha' := ha2 t
  have han2 := (le.trans (l1.trans l2)).1 _ _ han
  refine onC 24 (P.1 + 41) none (fun ν'' => [MV.ref P.q.1]) (fun ν'' => HL P.k ⟨0, sp2, ep + 1, fr, .ref P.cr, true, log ++ [.tup [.str "turn", .str kd, .str v]], c0, c1⟩ (ML P.k P.q2 .none st2' tx2' [] cache2' (ML P.k P.q .none st tx (refs r ++ [.ref x.a]) cache ((x.a, actO x pc) :: (x.s, .list (S ++ [.str (P.w.ans t)])) :: AL r [])))) 37070239995085841877409622349183038996763077349318655333521803250650075359346688 [MO.list al2, MO.list al2] [MV.str (P.w.ans t), MV.ref x.a] (fun ν'' => (ai lS (ai hx (ai spos (ai ha' (ai han2 (ai hl2 (ai han2 (ai hd0 (ai (congrArg not hdd) trivial)))))))))) (fun ν'' => by kernel_rfl) fun ν'' K''' X''' kv'' kx'' => ?_
  refine Wp.perm led_perm.symm ((again φ2 (ML P.k P.q2 .none st2' tx2' [] cache2' []) true (ep + 1) sp2 (l1.trans l2) ⟨by lia, st2', tx2', cache2', rfl, hc2'.le l2, by lia⟩).mono ?_ ?_)
  · rintro v' φ' Λ' hle ⟨s, g, rfl, hk⟩
    refine kv'' _ _ _ hle ?_
    have hk := hk (some (.str fr)) (some (.int ((refs r ++ [MV.ref x.a]).length : Int))) (some (.bool true))
    exact o9 1 [] [] (fun ν''' => trivial) (fun ν''' => hk.g) fun ν''' => by kernel_rfl
  · intro e φ' Λ' hle hx
    refine kx'' _ _ _ hle ?_
    exact o9 1 [] [] (fun ν''' => trivial) (fun ν''' => hx) fun ν''' => by kernel_rfl
 | false =>
  refine onC 15 (P.1 + 41) none (fun ν => [MV.ref P.q2.1, MV.str "Q", MV.bool false]) (fun ν => (p, .inst 5 [(20, .str kd), (21, .ref ql)]) :: (ql, .list [.str v]) :: HL P.k ⟨0, sp, ep, "out", .none, put, log ++ [.tup [.str "turn", .str kd, .str v]], c0, c1⟩ (ML P.k P.q2 .none st2 tx2 [] cache2 (ML P.k P.q (.ref p) st tx (refs r ++ [.ref x.a]) cache ((x.a, actO x pc) :: (x.s, .list S) :: AL r [])))) 29557409336752415301056782851189244461571989720530950 [] [] (fun ν => (ai hm (ai b2 (ai b1 (ai l1 trivial))))) (fun ν => by kernel_rfl) fun ν K' X' kv kx => ?_
  refine Wp.pre [false, false] (code_w (N := P.n + 13) o.wd o.bo hq le hc2 (by lia) fun φ1 c cache2' l1 co hc2' hl2' => kv _ _ _ l1 ?_)
  refine onC 25 (P.1 + 41) none (fun ν' => [MV.ref P.q2.1, MV.ref c]) (fun ν' => HL P.k ⟨0, sp, ep, "out", .none, put, log ++ [.tup [.str "turn", .str kd, .str v]], c0, c1⟩ (ML P.k P.q2 .none st2 tx2 [] cache2' (ML P.k P.q (.ref p) st tx (refs r ++ [.ref x.a]) cache ((x.a, actO x pc) :: (x.s, .list S) :: AL r [])))) 1 [] [] (fun ν' => trivial) (fun ν' => by kernel_rfl) fun ν' K'' X'' kv' kx' => ?_
  refine idle_run' (M := P.n + 41) (by lia) o.wd o.op2 (le.trans l1) co rfl fun φ2 sp2 st2' tx2' l2 => kv' _ _ _ l2 ?_
  have ha' := ha2 t
  have han2 := (le.trans (l1.trans l2)).1 _ _ han
  refine onC 24 (P.1 + 41) none (fun ν'' => [MV.ref P.q.1]) (fun ν'' => HL P.k ⟨0, sp2, ep, fr, .ref P.cr, put, log ++ [.tup [.str "turn", .str kd, .str v]], c0, c1⟩ (ML P.k P.q2 .none st2' tx2' [] cache2' (ML P.k P.q .none st tx (refs r ++ [.ref x.a]) cache ((x.a, actO x pc) :: (x.s, .list (S ++ [.str (P.w.ans t)])) :: AL r [])))) 37070239995085841877409622349183038996763077349318655333521803250650075359346688 [MO.list al2, MO.list al2] [MV.str (P.w.ans t), MV.ref x.a] (fun ν'' => (ai lS (ai hx (ai spos (ai ha' (ai han2 (ai hl2 (ai han2 (ai hd0 (ai (congrArg not hdd) trivial)))))))))) (fun ν'' => by kernel_rfl) fun ν'' K''' X''' kv'' kx'' => ?_
  refine Wp.perm led_perm.symm ((again φ2 (ML P.k P.q2 .none st2' tx2' [] cache2' []) put ep sp2 (l1.trans l2) ⟨by lia, st2', tx2', cache2', rfl, hc2'.le l2, by lia⟩).mono ?_ ?_)
  · rintro v' φ' Λ' hle ⟨s, g, rfl, hk⟩
    refine kv'' _ _ _ hle ?_
    have hk := hk (some (.str fr)) (some (.int ((refs r ++ [MV.ref x.a]).length : Int))) (some (.bool true))
    exact o9 1 [] [] (fun ν''' => trivial) (fun ν''' => hk.g) fun ν''' => by kernel_rfl
  · intro e φ' Λ' hle hx
    refine kx'' _ _ _ hle ?_
    exact o9 1 [] [] (fun ν''' => trivial) (fun ν''' => hx) fun ν''' => by kernel_rfl
end
section
variable {P : PA} (o : POK P) {an2 : Nat} {al2 : List MV} (han : P.φ0.f an2 = some (.list al2)) (hl2 : decide (0 < (al2.length : Int)) = true) (ha2 : ∀ c : Int, idx al2 (c % (al2.length : Int)) = some (.str (P.w.ans c))) (hq : P.book "Q" = some qIts)
include o han hl2 ha2 hq
theorem turns_w (hn : 1 ≤ P.n) {mask : Int} {K X} (done : ∀ t txt φ h st cache R L10 L11 L12, P.φ0.le φ → P.Q h txt → Gd K X φ (P.tz an2 mask t (.str "done") (.str txt) L10 L11 L12 (.W trT trB) (HL P.k h (ML P.k P.q .none st (.str txt) [] cache R))))
 (exc : ∀ e φ Λ, P.φ0.le φ → P.X0 e φ Λ → X e φ Λ) : ∀ (G : Nat) (t : Int) (v : MV) (φ : Fz) (Λ : Lg), P.φ0.le φ → P.K0 G t v φ Λ → ∃ s g, v = .tup [s, g] ∧ ∀ L10 L11 L12, Gd K X φ (P.tz an2 mask t s g L10 L11 L12 (.W trT trB) Λ) := by
 have dn : ∀ (t : Int) (v : MV) (φ : Fz) (Λ : Lg), P.φ0.le φ → P.Done t v φ Λ → ∃ s g, v = .tup [s, g] ∧ ∀ L10 L11 L12, Gd K X φ (P.tz an2 mask t s g L10 L11 L12 (.W trT trB) Λ) := by
  rintro t v φ Λ le ⟨h, tx, st, cache, R, rfl, rfl, hQ, _⟩
  exact ⟨_, _, rfl, fun _ _ _ => done t tx φ h st cache R _ _ _ le hQ⟩
 intro G
 induction G with
 | zero => exact dn
 | succ G ih =>
  intro t v φ Λ le hk
  rcases hk with hk | ⟨p, ql, kd, u, h, st, tx, cache, x, pc, S, r, R, rfl, rfl, le', ri, hdp, hco, hS, hll, ht, ag⟩
  · exact dn t v φ Λ le hk
  · exact ⟨_, _, rfl, fun _ _ _ => trB_w o han hl2 ha2 hq hn ht le ri hdp hco hS hll fun φ2 R2 p' e' sp' l2 ri2 => (ag φ2 R2 p' e' sp' l2 ri2).mono (fun v φ3 Λ3 l3 hk => ih (t + 1) v φ3 Λ3 ((le.trans l2).trans l3) hk) fun e φ3 Λ3 l3 hx => exc e φ3 Λ3 ((le.trans l2).trans l3) hx⟩
end
noncomputable def SS.M (s : SS) : Int := (s.log.length : Int) - 2 * s.c0
noncomputable def OkM (cl : Cl) : Prop := ∀ j l s, s.M ≤ (cl j l s).2.M
mutual
theorem evI_M {cl : Cl} (h : OkM cl) : ∀ (i : It) (s : SS), s.M ≤ (evI cl i s).2.M
 | .call j l, s => h j l s
 | .idle, s => Int.le_refl _
 | .blk a b its c, s => evTs_M h its s
theorem evTs_M {cl : Cl} (h : OkM cl) : ∀ (i : Its) (s : SS), s.M ≤ (evTs cl i s).2.M
 | .nil, s => Int.le_refl _
 | .cons i r, s => by
  have h1 := evI_M h i s
  rw [evTs]
  revert h1
  generalize evI cl i s = q
  obtain ⟨a, s1⟩ := q
  intro h1
  cases a with
  | err x => exact h1
  | ok t =>
   have h2 := evTs_M h r s1
   dsimp only
   revert h2
   generalize evTs cl r s1 = q
   obtain ⟨a, s2⟩ := q
   intro h2
   cases a <;> exact Int.le_trans h1 h2
end
theorem SS.M1 {l : List MV} {c0 c1 d1 : Int} {v : MV} : (⟨l, c0, c1⟩ : SS).M ≤ (⟨l ++ [v], c0, d1⟩ : SS).M := by
 unfold SS.M; rw [List.length_append, List.length_singleton]; dsimp only; lia
theorem SS.M2 {l : List MV} {c0 c1 d1 : Int} {v u : MV} : (⟨l, c0, c1⟩ : SS).M ≤ (⟨l ++ [v] ++ [u], c0 + 1, d1⟩ : SS).M := by
 unfold SS.M; rw [List.length_append, List.length_append, List.length_singleton, List.length_singleton]; dsimp only; lia
theorem evC_M {w : Wl} {nx : Str → SS → Rz Str × SS} (h : ∀ fr s, s.M ≤ (nx fr s).2.M) (fr : Str) : OkM (evC w nx fr) := by
 intro j l s
 unfold evC
 split
 · exact SS.M1
 · exact SS.M1
 · exact SS.M2
 · exact SS.M1
 · split
   · exact Int.le_trans SS.M1 (h _ _)
   · exact SS.M1
theorem nx0_M (S : Sc) (fr : Str) (s : SS) : s.M ≤ (S.nx0 fr s).2.M :=
 evTs_M (evC_M (fun fr s => evTs_M (evC_M (fun fr s => evTs_M (evC_M (fun _ _ => Int.le_refl _) fr) S.p2 s) fr) S.p1 s) fr) S.p0 s
theorem nx0_c0 {S : Sc} (o : ScOK S) {fr : Str} {s : SS} (hl : s.log = []) (hc : s.c0 = 0) : (S.nx0 fr s).2.c0 ≤ 900 := by
 have h1 := nx0_M S fr s
 have h2 := (nx0_ok o).gr fr s
 unfold SS.M at h1
 rw [hl, List.length_nil] at h1 h2
 rw [hc] at h1
 lia
mutual
theorem okB_vac {book : Str → Option Its} {Q : Str → Its → Prop} (h : ∀ n i, Q n i) : ∀ i, okB book (fun _ _ => True) i → okB book Q i
 | .call _ _, _ => trivial
 | .idle, _ => trivial
 | .blk _ _ its _, k => ⟨k.1, h _ _, okBs_vac h its k.2.2⟩
theorem okBs_vac {book : Str → Option Its} {Q : Str → Its → Prop} (h : ∀ n i, Q n i) : ∀ i, okBs book (fun _ _ => True) i → okBs book Q i
 | .nil, _ => trivial
 | .cons i r, k => ⟨okB_vac h i k.1, okBs_vac h r k.2⟩
end
noncomputable abbrev endQ (S : Sc) (h : HS) : HS → Str → Prop := fun h' t => ∃ s p e sp, S.nx0 h.fr h.ss = (.ok t, s) ∧ h' = (h.aft s p e sp).z
noncomputable abbrev endX (S : Sc) (h : HS) : HS → AX → Prop := fun h' x => ∃ s p e sp, S.nx0 h.fr h.ss = (.err x, s) ∧ h' = (h.aft s p e sp).z
structure ScB (k : Kw) (S : Sc) (book : Str → Option Its) : Prop where
 b0 : book "P0" = some S.p0
 b1 : book "P1" = some S.p1
 b2 : book "P2" = some S.p2
 bq : book "Q" = some qIts
 h0 : okIs (OkJ k S "0") S.p0
 h1 : okIs (OkJ k S "1") S.p1
 h2 : okIs (OkJ k S "2") S.p2
 q0 : okBs book (fun _ _ => True) S.p0
 q1 : okBs book (fun _ _ => True) S.p1
 q2 : okBs book (fun _ _ => True) S.p2
theorem runA {P : PA} (o : POK P) {S : Sc} (so : ScOK S) (hw : P.w = S.w) (sb : ScB P.k S P.book) {h h1 : HS} (hh : h1 = { h with dp := 0 }) (hdp : h.dp = 1) (hl : h.log = []) (hc : h.c0 = 0) (hQ : ∀ h' t, endQ S h1 h' t → P.Q h' t) (hX : ∀ h' x, endX S h1 h' x → P.Q' h' x) :
 LWA P 63123 [codeOf S.p0 h.ep false none] h := by
 subst hh
 obtain ⟨dp, sp, ep, fr, co, put, log, c0, c1⟩ := h
 dsimp only at hdp
 subst hdp
 have mr := mrA o
 rw [hw] at mr
 have vac : ∀ D (cl : Str → Cl) n i, QP true (fun _ _ _ => True) D cl n i := fun D cl n i h => nomatch h
 have run := runM mr so sb.b1 sb.b2 sb.h0 sb.h1 sb.h2 (okBs_vac (vac 146 S.cl0) _ sb.q0) (okBs_vac (vac 18 S.cl1) _ sb.q1) (okBs_vac (vac 2 S.cl2) _ sb.q2) (b := 1) (h := ⟨1, sp, ep, fr, co, put, log, c0, c1⟩)
 have bd := nx0_c0 so (fr := fr) (s := ⟨log, c0, c1⟩) hl hc
 refine run ?_
 revert bd hQ hX
 show (∀ h' t, (∃ s p e sp', S.nx0 fr ⟨log, c0, c1⟩ = (.ok t, s) ∧ h' = ((⟨0, sp, ep, fr, co, put, log, c0, c1⟩ : HS).aft s p e sp').z) → P.Q h' t) → (∀ h' x, (∃ s p e sp', S.nx0 fr ⟨log, c0, c1⟩ = (.err x, s) ∧ h' = ((⟨0, sp, ep, fr, co, put, log, c0, c1⟩ : HS).aft s p e sp').z) → P.Q' h' x) → (S.nx0 fr ⟨log, c0, c1⟩).2.c0 ≤ 900 → match S.nx0 fr ⟨log, c0, c1⟩ with
  | (.ok t, s) => ∀ p e sp', LDA P 1 t ((⟨1, sp, ep, fr, co, put, log, c0, c1⟩ : HS).aft s p e sp')
  | (.err x, s) => ∀ p e sp', UEA P 1 ((⟨1, sp, ep, fr, co, put, log, c0, c1⟩ : HS).aft s p e sp') x
 generalize S.nx0 fr ⟨log, c0, c1⟩ = r
 obtain ⟨r, s⟩ := r
 intro hQ hX bd
 cases r with
 | ok t => exact fun p e sp' => ⟨bd, ld_done fun φ cache st R G l hr hc => by
  have q : P.Done s.c0 (doneV t) φ _ := ⟨_, t, st, cache, R, rfl, rfl, hQ _ _ ⟨s, p, e, sp', rfl, rfl⟩, hr, hc⟩
  cases G with
  | zero => exact q
  | succ G => exact .inl q⟩
 | err x => exact fun p e sp' => ⟨bd, ue_fail fun φ cache st tx R e1 t l hr hc => ⟨s.c0, _, x, t, st, tx, cache, R, rfl, hX _ _ ⟨s, p, e, sp', rfl, rfl⟩, hr, hc⟩⟩
theorem BookOK.le {φ φ' : Fz} {k : Kw} {book : Str → Option Its} (b : BookOK φ k book) (l : φ.le φ') : BookOK φ' k book := ⟨fun t its e => by obtain ⟨x, y⟩ := b.bk t its e; exact ⟨x.le l, y⟩⟩
theorem modeA {n : Nat} {k : Kw} {q q2 : Mw} {φ : Fz} {S : Sc} {book : Str → Option Its} {h : HS} {an2 : Nat} {al2 : List MV} {mask : Int} {K X}
 (so : ScOK S) (wd : Wd φ k) (bo : BookOK φ k book) (op : φ.f q.op = some (.dict opsD)) (op2 : φ.f q2.op = some (.dict opsD)) (hal : k.al = []) (sb : ScB k S book)
 (han : φ.f an2 = some (.list al2)) (hl2 : decide (0 < (al2.length : Int)) = true) (ha2 : ∀ c : Int, idx al2 (c % (al2.length : Int)) = some (.str (S.w.ans c)))
 (hdp : h.dp = 0) (hc0 : h.c0 = 0) (hll : h.log = [])
 (kk : match S.nx0 h.fr h.ss with
  | (.ok t, s) => ∀ φ2 co p e sp st tx cache R, φ.le φ2 → K (.str t) φ2 (HL k (({ h with co := co } : HS).aft { s with c0 := 0 } p e sp) (ML k q .none st tx [] cache R))
  | (.err x, s) => ∀ φ2 co p e sp ex t st tx cache R, φ.le φ2 → X ex φ2 ((ex, excO x t) :: HL k (({ h with co := co } : HS).aft { s with c0 := 0 } p e sp) (ML k q .none st tx [] cache R))) :
 Wp φ (HL k h (ML k q .none 0 (.str "") [] [] (ML k q2 .none 0 (.str "") [] [] []))) (callN (n + 43) 88 [.ref k.ho, .ref q.m, .ref q2.m, .ref k.lg, .ref an2, .int mask] none) K X := by
 obtain ⟨dp, sp, ep, fr, co, put, log, c0, c1⟩ := h
 dsimp only at hdp hc0 hll
 subst hdp hc0 hll
 refine walkC 16 (n + 42) none (fun ν => [MV.ref q.1, MV.ref (φ.fr (ν 169))]) (fun ν => ((φ.fr (ν 169)), .inst 4 [(16, .str "P0"), (17, .none), (18, .bool false), (19, .str "")]) :: ((φ.fr (ν 13)), .inst 9 [(56, .str "c"), (47, .ref q.m), (57, .none), (54, .none), (58, .str ""), (59, .bool false), (60, .bool false), (61, .none)]) :: HL k ⟨0, sp, ep, fr, .ref (φ.fr (ν 13)), put, [], 0, c1⟩ (ML k q .none 0 (.str "") [] [] (ML k q2 .none 0 (.str "") [] [] []))) 89288881423056320505388761606 [] [] (fun ν => trivial) rfl (fun ν => by kernel_rfl) fun ν K' X' kv kx => ?_
 refine Wp.freeze fun l1 => Wp.freeze fun l2 => ?_
 refine enter_w (N := n + 12) (φ0 := φ) wd bo sb.b0 (l1.trans l2) (l2.1 _ _ (add_at _ _ _)) (by decide) ⟨rfl, fun t its b v e e' => by cases e'⟩ (by decide) fun φ' a s c sl ea cache' l' co' hc' hlc => kv _ _ _ ((l1.trans l2).trans l') ?_
 have lt := (l1.trans l2).trans l'
 have hcr := l'.1 _ _ (add_at (φ.add (φ.fr (ν 169)) (.inst 4 [(16, .str "P0"), (17, .none), (18, .bool false), (19, .str "")])) (φ.fr (ν 13)) (.inst 9 [(56, .str "c"), (47, .ref q.m), (57, .none), (54, .none), (58, .str ""), (59, .bool false), (60, .bool false), (61, .none)]))
 have hne := (l2.trans l').1 _ _ (add_at φ (φ.fr (ν 169)) (.inst 4 [(16, .str "P0"), (17, .none), (18, .bool false), (19, .str "")]))
 refine onC 24 (n + 42) none (fun ν' => [MV.ref q.1]) (fun ν' => HL k ⟨0, sp, ep, fr, .ref (φ.fr (ν 13)), put, [], 0, c1⟩ (ML k q .none 0 (.str "") [.ref a] cache' ((a, actO ⟨a, s, c, φ.fr (ν 169), sl, ea⟩ 0) :: (s, .list []) :: ML k q2 .none 0 (.str "") [] [] []))) 77 [] [] (fun ν' => trivial) (fun ν' => by kernel_rfl) fun ν' K'' X'' kv' kx' => ?_
 revert hcr hne
 generalize φ.fr (ν 13) = cr
 generalize φ.fr (ν 169) = ne
 intro hcr hne
 let P : PA := ⟨n + 1, φ', k, q, S.w, book, cr, q2, endQ S ⟨0, sp, ep, fr, .ref cr, put, [], 0, c1⟩, endX S ⟨0, sp, ep, fr, .ref cr, put, [], 0, c1⟩⟩
 have po : POK P := ⟨wd.le lt, bo.le lt, lt.1 _ _ op, lt.1 _ _ op2, hal, hcr⟩
 have run := (runA po so rfl sb (h := ⟨1, sp, ep, fr, .ref cr, put, [], 0, c1⟩) rfl rfl rfl rfl (fun _ _ h => h) (fun _ _ h => h)).2
 obtain ⟨_, _, hs0, hw0, _⟩ := bo.bk _ _ sb.b0
 refine (run_done (E := P.E 0) (G := 63200) (h := ⟨0, sp, ep, fr, .ref cr, put, [], 0, c1⟩) (acts := [(⟨a, s, c, ne, sl, ea⟩, codeOf S.p0 ep false none)]) rfl (run φ' [(⟨a, s, c, ne, sl, ea⟩, codeOf S.p0 ep false none)] cache' 0 (.str "") (ML k q2 .none 0 (.str "") [] [] []) 63200 ⟨.refl _, rfl, ?_, hc', ⟨Int.le_refl _, 0, .str "", [], rfl, ⟨rfl, fun t its b v e e' => by cases e'⟩, Int.le_refl _⟩, rfl, rfl, by decide, by rw [List.length_nil] at hlc; lia, (by decide : 0 + 2 * 63123 ≤ 490000), ?_, (by decide : 1 + 63123 ≤ 500000)⟩)).mono ?_ ?_
 · intro p hp
   rw [List.mem_singleton] at hp
   subst hp
   refine ⟨co', ⟨"P0", "", hne, fun h => by cases h⟩, ?_, Nat.le_trans (rngT_len S.p0 0 0) hw0⟩
   dsimp only
   rw [List.length_append, rowsT_len, List.length_singleton]
   lia
 · intro p hp
   rw [List.mem_singleton] at hp
   subst hp
   exact (by decide : 0 + 63123 ≤ 500000)
 · intro v φ2 Λ2 lf hk
   refine kv' _ _ _ lf ?_
   refine (turns_w po (lt.1 _ _ han) hl2 ha2 sb.bq (Nat.le_add_left 1 n) (mask := mask) (K := K) (X := X) ?_ ?_ 63200 0 v φ2 Λ2 lf hk).elim fun s' he => he.elim fun g he => ?_
   · rintro t txt φ3 h st cache R L10 L11 L12 lg ⟨s, p, e, sp', hr, rfl⟩
     replace hr : S.nx0 fr ⟨[], 0, c1⟩ = (.ok txt, s) := hr
     dsimp only at kk
     rw [hr] at kk
     have q := kk φ3 (.ref cr) p e sp' st (.str txt) cache R (lt.trans lg)
     exact o9 1090781190 [] [] (fun ν'' => trivial) (fun ν'' => q) fun ν'' => by kernel_rfl
   · rintro ex φ3 Λ3 lg ⟨t', h', x, t, st, tx, cache, R, rfl, ⟨s, p, e, sp', hr, rfl⟩, _⟩
     replace hr : S.nx0 fr ⟨[], 0, c1⟩ = (.err x, s) := hr
     dsimp only at kk
     rw [hr] at kk
     exact kk φ3 (.ref cr) p e sp' ex t st tx cache R (lt.trans lg)
   · obtain ⟨rfl, hk2⟩ := he
     have hk3 := hk2 none none none
     exact o9 1 [] [] (fun ν'' => trivial) (fun ν'' => hk3.g) fun ν'' => by kernel_rfl
 · rintro ex φ3 Λ3 lg ⟨t', h', x, t, st, tx, cache, R, rfl, ⟨s, p, e, sp', hr, rfl⟩, _⟩
   refine kx' _ _ _ lg ?_
   replace hr : S.nx0 fr ⟨[], 0, c1⟩ = (.err x, s) := hr
   dsimp only at kk
   rw [hr] at kk
   have q := kk φ3 (.ref cr) p e sp' ex t st tx cache R (lt.trans lg)
   exact o9 1 [] [] (fun ν'' => trivial) (fun ν'' => q) fun ν'' => by kernel_rfl
noncomputable def cell (xs : List Int) (i : Nat) : Int := (xs[i]?).getD 0
theorem cell_w {N : Nat} {φ : Fz} {Λ : Lg} {xs : List Int} {j : Nat} {K X} (hx : xs.length ≤ 63) (hj : j < 100) (k : K (.int (cell xs j)) φ Λ) : Wp φ Λ (callN (N + 1) 77 [.scr xs, .int j] none) K X := by
 have l1 : decide (xs.length ≤ LIM) = true := decide_eq_true (by unfold LIM; lia)
 by_cases h : j < xs.length
 · have e : decide ((j : Int) < (xs.length : Int)) = true := decide_eq_true (by lia)
   have e2 : (decide ((0 : Int) ≤ (j : Int)) && decide ((j : Int) < LIM)) = true := by rw [decide_eq_true (Int.natCast_nonneg j), decide_eq_true (show (j : Int) < LIM by unfold LIM; lia)]; rfl
   have hx2 : xs[(j : Int).toNat]?.map MV.int = some (.int (cell xs j)) := by
    unfold cell
    rw [Int.toNat_natCast, List.getElem?_eq_getElem h]
    rfl
   exact W9 1158152322 [] [MV.int (cell xs j)] (fun ν => (ai hx2 (ai e2 (ai e (ai l1 trivial))))) rfl (fun ν => k) fun ν => by kernel_rfl
 · have e : decide ((j : Int) < (xs.length : Int)) = false := decide_eq_false (by lia)
   have hx2 : cell xs j = 0 := by
    unfold cell
    rw [List.getElem?_eq_none (by lia)]
    rfl
   rw [hx2] at k
   exact W9 266434 [] [] (fun ν => (ai e (ai l1 trivial))) rfl (fun ν => k) fun ν => by kernel_rfl
noncomputable abbrev iS (i : Int) : Str := Str.ofString (toString i)
theorem iS_len7 : ∀ c : Fin 7, (iS (c.val : Int)).length ≤ 2 := by decide +kernel
noncomputable def itemOf (xs : List Int) (c : Nat) (l : Str) : It :=
 let number := cell xs c + 5 * c + 2
 let j := (number / 4 + c) % 8
 let first := It.call (iS j) l
 let takes := number / 32 % 2 == 0
 if number % 4 = 0 then first
 else if number % 4 = 1 then .blk false ("s" ++ iS c) (.cons first .nil) false
 else if number % 4 = 2 then .blk true ("s" ++ iS c) (.cons first (.cons (.blk false ("t" ++ iS c) (.cons (.call (iS ((j + 3) % 8)) l) .nil) false) .nil)) takes
 else .blk false ("s" ++ iS c) (.cons (.blk true ("t" ++ iS c) (.cons first .nil) takes) (.cons (.call (iS ((j + 2) % 8)) l) .nil)) false
theorem Pst.fzs {K : Fz → Lg → Prop} : ∀ (F : Lg) {φ : Fz} {Λ : Lg}, (∀ φ2, φ.le φ2 → (∀ p ∈ F, φ2.f p.1 = some p.2) → K φ2 Λ) → Pst K φ (F ++ Λ) := fun F => by
 induction F with
 | nil => exact fun w => .here (w _ (.refl _) fun p hp => nomatch hp)
 | cons p F ih =>
  intro φ Λ w
  refine .fz fun l => ih fun φ2 l2 hF => w _ (l.trans l2) fun p' hp => ?_
  cases hp with
  | head => exact l2.1 _ _ (add_at _ _ _)
  | tail _ hp => exact hF _ hp
theorem sml {i : Int} (h : 0 ≤ i ∧ i < 1000) : decide (i.natAbs < 10 ^ 10) = true := decide_eq_true (by lia)
theorem len1 {c : Nat} (hc : c < 7) {s : Str} (hs : s.length = 1) : decide (s.length + (iS (c : Int)).length ≤ LIM) = true := by
 have := iS_len7 ⟨c, hc⟩
 dsimp only at this
 exact decide_eq_true (by unfold LIM; lia)
theorem item_w {N : Nat} {φ : Fz} {Λ : Lg} {xs : List Int} {c : Nat} {l : Int} {K X} (hx : xs.length ≤ 63) (hc : c < 7) (hl : 0 ≤ l ∧ l < 3)
 (kk : ∀ φ' v, φ.le φ' → RIt φ' (itemOf xs c (iS l)) v → K v φ' Λ) : Wp φ Λ (callN (N + 2) 78 [.scr xs, .int c, .int l] none) K X := by
 unfold itemOf at kk
 dsimp only at kk
 have s1 : (decide (-2 ^ 64 < (c : Int)) && decide ((c : Int) < 2 ^ 64)) = true := by rw [decide_eq_true (by lia), decide_eq_true (by lia)]; rfl
 refine Wp.post ?_
 refine walkC 77 (N + 1) none (fun ν => [MV.scr xs, MV.int (Int.ofNat c)]) (fun ν => Λ) 1 [] [] (fun ν => trivial) rfl (fun ν => by kernel_rfl) fun ν K' X' kv kx => ?_
 refine cell_w hx (by lia) (kv _ _ _ (.refl _) ?_)
 have m1 : decide ((((cell xs c + 5 * c + 2) / 4 + c) % 8).natAbs < 10 ^ 10) = true := sml (by lia)
 have m2 : decide (((((cell xs c + 5 * c + 2) / 4 + c) % 8 + 3) % 8).natAbs < 10 ^ 10) = true := sml (by lia)
 have m3 : decide (((((cell xs c + 5 * c + 2) / 4 + c) % 8 + 2) % 8).natAbs < 10 ^ 10) = true := sml (by lia)
 have m4 : decide ((c : Int).natAbs < 10 ^ 10) = true := sml (by lia)
 have m5 : decide (l.natAbs < 10 ^ 10) = true := sml (by lia)
 have n1 := len1 hc (s := "s") rfl
 have n2 := len1 hc (s := "t") rfl
 have h4 : (cell xs c + 5 * c + 2) % 4 = 0 ∨ (cell xs c + 5 * c + 2) % 4 = 1 ∨ (cell xs c + 5 * c + 2) % 4 = 2 ∨ (cell xs c + 5 * c + 2) % 4 = 3 := by lia
 rcases h4 with h4 | h4 | h4 | h4
 · rw [if_pos h4] at kk
   have t0 : ((cell xs c + 5 * c + 2) % 4 == 0) = true := q9 h4
   have k0 : ∀ p, Pst (K (.tup [.str "call", .ref p])) φ ([(p, .list [.str "r", .str (iS (((cell xs c + 5 * c + 2) / 4 + c) % 8)), .str (iS l)])] ++ Λ) := fun p => Pst.fzs _ fun φ2 le h => kk _ _ le ⟨p, rfl, h _ (.head _)⟩
   exact o9 1153484456741306370 [] [] (fun ν' => (ai t0 (ai m5 (ai m1 (ai s1 trivial))))) (fun ν' => k0 (φ.fr (ν' 127))) fun ν' => by kernel_rfl
 · rw [if_neg (by lia), if_pos h4] at kk
   have t0 : ((cell xs c + 5 * c + 2) % 4 == 0) = false := n9 (by lia)
   have t1 : ((cell xs c + 5 * c + 2) % 4 == 1) = true := q9 h4
   have k0 : ∀ p q, Pst (K (.tup [.str "piece", .str ("s" ++ iS c), .ref q, .bool false])) φ ([(q, .list [.tup [.str "call", .ref p]]), (p, .list [.str "r", .str (iS (((cell xs c + 5 * c + 2) / 4 + c) % 8)), .str (iS l)])] ++ Λ) := fun p q => Pst.fzs _ fun φ2 le h => kk _ _ le ⟨q, _, rfl, h _ (.head _), _, _, rfl, ⟨p, rfl, h _ (.tail _ (.head _))⟩, rfl⟩
   exact o9 81742737663814590841843875842 [] [] (fun ν' => (ai n2 (ai m4 (ai t1 (ai t0 (ai m5 (ai m1 (ai s1 trivial)))))))) (fun ν' => k0 (φ.fr (ν' 127)) (φ.fr (ν' 207))) fun ν' => by kernel_rfl
 · rw [if_neg (by lia), if_neg (by lia), if_pos h4] at kk
   have t0 : ((cell xs c + 5 * c + 2) % 4 == 0) = false := n9 (by lia)
   have t1 : ((cell xs c + 5 * c + 2) % 4 == 1) = false := n9 (by lia)
   have t2 : ((cell xs c + 5 * c + 2) % 4 == 2) = true := q9 h4
   have k0 : ∀ p q r s, Pst (K (.tup [.str "loop", .str ("s" ++ iS c), .ref s, .bool ((cell xs c + 5 * c + 2) / 32 % 2 == 0)])) φ ([(s, .list [.tup [.str "call", .ref p], .tup [.str "piece", .str ("t" ++ iS c), .ref r, .bool false]]), (r, .list [.tup [.str "call", .ref q]]), (q, .list [.str "r", .str (iS ((((cell xs c + 5 * c + 2) / 4 + c) % 8 + 3) % 8)), .str (iS l)]), (p, .list [.str "r", .str (iS (((cell xs c + 5 * c + 2) / 4 + c) % 8)), .str (iS l)])] ++ Λ) := fun p q r s => Pst.fzs _ fun φ2 le h => kk _ _ le ⟨s, _, rfl, h _ (.head _), _, _, rfl, ⟨p, rfl, h _ (.tail _ (.tail _ (.tail _ (.head _))))⟩, _, _, rfl, ⟨r, _, rfl, h _ (.tail _ (.head _)), _, _, rfl, ⟨q, rfl, h _ (.tail _ (.tail _ (.head _)))⟩, rfl⟩, rfl⟩
   exact o9 24705409220349424685751169563564040162914903754014722 [] [] (fun ν' => (ai n2 (ai m4 (ai m5 (ai m2 (ai n2 (ai m4 (ai t2 (ai t1 (ai t0 (ai m5 (ai m1 (ai s1 trivial))))))))))))) (fun ν' => k0 (φ.fr (ν' 127)) (φ.fr (ν' 315)) (φ.fr (ν' 326)) (φ.fr (ν' 379))) fun ν' => by kernel_rfl
 · rw [if_neg (by lia), if_neg (by lia), if_neg (by lia)] at kk
   have t0 : ((cell xs c + 5 * c + 2) % 4 == 0) = false := n9 (by lia)
   have t1 : ((cell xs c + 5 * c + 2) % 4 == 1) = false := n9 (by lia)
   have t2 : ((cell xs c + 5 * c + 2) % 4 == 2) = false := n9 (by lia)
   have k0 : ∀ p q r s, Pst (K (.tup [.str "piece", .str ("s" ++ iS c), .ref s, .bool false])) φ ([(s, .list [.tup [.str "loop", .str ("t" ++ iS c), .ref q, .bool ((cell xs c + 5 * c + 2) / 32 % 2 == 0)], .tup [.str "call", .ref r]]), (r, .list [.str "r", .str (iS ((((cell xs c + 5 * c + 2) / 4 + c) % 8 + 2) % 8)), .str (iS l)]), (q, .list [.tup [.str "call", .ref p]]), (p, .list [.str "r", .str (iS (((cell xs c + 5 * c + 2) / 4 + c) % 8)), .str (iS l)])] ++ Λ) := fun p q r s => Pst.fzs _ fun φ2 le h => kk _ _ le ⟨s, _, rfl, h _ (.head _), _, _, rfl, ⟨q, _, rfl, h _ (.tail _ (.tail _ (.head _))), _, _, rfl, ⟨p, rfl, h _ (.tail _ (.tail _ (.tail _ (.head _))))⟩, rfl⟩, _, _, rfl, ⟨r, rfl, h _ (.tail _ (.head _))⟩, rfl⟩
   exact o9 24705226577246335119767366405563125920293087996805122 [] [] (fun ν' => (ai m5 (ai m3 (ai n2 (ai m4 (ai n2 (ai m4 (ai t2 (ai t1 (ai t0 (ai m5 (ai m1 (ai s1 trivial))))))))))))) (fun ν' => k0 (φ.fr (ν' 127)) (φ.fr (ν' 266)) (φ.fr (ν' 369)) (φ.fr (ν' 381))) fun ν' => by kernel_rfl
section
variable {K0 : MV → Fz → Lg → Prop} {X0 : Nat → Fz → Lg → Prop} {φ : Fz} {k x i : Nat} {b : PS} {fr : List Frm} {n : Nat} {hd : Option Nat} {L : Loc} {Λ Λ' : Lg} {q : Ac}
theorem Gd.fzR : ∀ (F : Lg) {φ : Fz}, (∀ φ2, φ.le φ2 → (∀ p ∈ F, φ2.f p.1 = some p.2) → Gd K0 X0 φ2 ⟨.R k x b i, fr, n, hd, L, Λ, q⟩) → Gd K0 X0 φ ⟨.R k x b i, fr, n, hd, L, F ++ Λ, q⟩ := fun F => by
 induction F with
 | nil => exact fun w => w _ (.refl _) fun p hp => nomatch hp
 | cons p F ih =>
  intro φ w
  refine ⟨fun σ X => ?_⟩
  obtain ⟨H', hle⟩ := X.freeze
  refine ((ih fun φ2 l2 hF => w _ (hle.trans l2) fun p' hp => ?_).g σ H').imp fun _ => And.imp_right (·.le hle)
  cases hp with
  | head => exact l2.1 _ _ (add_at _ _ _)
  | tail _ hp => exact hF _ hp
theorem Gd.permR (p : Λ'.Perm Λ) (H : Gd K0 X0 φ ⟨.R k x b i, fr, n, hd, L, Λ', q⟩) : Gd K0 X0 φ ⟨.R k x b i, fr, n, hd, L, Λ, q⟩ := ⟨fun σ X => H.g σ (X.perm p)⟩
end
noncomputable abbrev isS (kvs : List (MV × MV)) : Bool := kvs.all (fun p => isStrK p.1)
theorem look_putC {n n' : Str} {v : MV} : ∀ kvs : List (MV × MV), lookK (.str n') (putK (.str n) v kvs) = bif n == n' then some v else lookK (.str n') kvs := fun kvs => by
 induction kvs with
 | nil => rfl
 | cons p r ih =>
  obtain ⟨a, w⟩ := p
  rw [putK]
  dsimp only
  cases h : keq a (.str n) with
  | true =>
   have := keq_eq h
   subst this
   show (bif n == n' then some v else lookK (.str n') r) = bif n == n' then some v else bif n == n' then some w else lookK (.str n') r
   cases n == n' <;> rfl
  | false =>
   show (bif keq a (.str n') then some w else lookK (.str n') (putK (.str n) v r)) = bif n == n' then some v else bif keq a (.str n') then some w else lookK (.str n') r
   rw [ih]
   cases h2 : keq a (.str n') with
   | true =>
    have := keq_eq h2
    subst this
    rw [show (n == n') = false from beq_false_of_ne fun e => by subst e; rw [h2] at h; cases h]; rfl
   | false => rfl
theorem look_putS {n : Str} {v : MV} (kvs : List (MV × MV)) : lookK (.str n) (putK (.str n) v kvs) = some v := by rw [look_putC, beq_self_eq_true]; rfl
theorem look_putN {n n' : Str} {v : MV} (h : n ≠ n') (kvs : List (MV × MV)) : lookK (.str n') (putK (.str n) v kvs) = lookK (.str n') kvs := by rw [look_putC, beq_false_of_ne h]; rfl
theorem isS_put {n : Str} {v : MV} : ∀ {kvs : List (MV × MV)}, isS kvs = true → isS (putK (.str n) v kvs) = true := fun {kvs} => by
 induction kvs with
 | nil => exact fun _ => rfl
 | cons p r ih =>
  intro h
  obtain ⟨a, w⟩ := p
  have h2 := Bool.and_eq_true_iff.mp h
  rw [putK]
  dsimp only
  cases keq a (.str n) with
  | true => exact h
  | false => exact Bool.and_eq_true_iff.mpr ⟨h2.1, ih h2.2⟩
noncomputable def Its.ent1 : Its → List (Str × It)
 | .nil => []
 | .cons (.blk loop nm its takes) r => (nm, .blk loop nm its takes) :: r.ent1
 | .cons _ r => r.ent1
noncomputable def It.ent : It → List (Str × It)
 | .blk loop nm its takes => (nm, .blk loop nm its takes) :: its.ent1
 | _ => []
noncomputable def EntOK (φ : Fz) (kvs : List (MV × MV)) (l : List (Str × It)) : Prop := ∀ e ∈ l, ∃ il v, lookK (.str e.1) kvs = some (.ref il) ∧ φ.f il = some (.list [v]) ∧ RIt φ e.2 v
noncomputable def lvN : Nat → Int
 | 0 | 1 | 2 => 0
 | 3 | 4 => 1
 | _ => 2
noncomputable abbrev lvL : List MV := [.int 0, .int 0, .int 0, .int 1, .int 1, .int 2, .int 2]
theorem lv_idx : ∀ c, c < 7 → idx lvL ((c : Nat) : Int) = some (.int (lvN c))
 | 0, _ => rfl | 1, _ => rfl | 2, _ => rfl | 3, _ => rfl | 4, _ => rfl | 5, _ => rfl | 6, _ => rfl
 | n + 7, h => by lia
theorem lv_bd : ∀ c, 0 ≤ lvN c ∧ lvN c < 3
 | 0 | 1 | 2 | 3 | 4 => by decide
 | n + 5 => by show (0 : Int) ≤ 2 ∧ (2 : Int) < 3; decide
noncomputable abbrev sN (c : Nat) : Str := "s" ++ iS c
noncomputable abbrev tN (c : Nat) : Str := "t" ++ iS c
theorem st_ne {a b : Str} (h : ∀ c c' : Fin 7, a ++ iS (c.val : Int) ≠ b ++ iS (c'.val : Int)) {c c' : Nat} (hc : c < 7) (hc' : c' < 7) : a ++ iS (c : Int) ≠ b ++ iS (c' : Int) := h ⟨c, hc⟩ ⟨c', hc'⟩
theorem tN_ne' : ∀ c c' : Fin 7, ("t" : Str) ++ iS (c.val : Int) ≠ "s" ++ iS (c'.val : Int) := by decide +kernel
noncomputable abbrev bkB : PS := b_law_book.rest.fst.fb
noncomputable abbrev bkZ (N : Nat) (L : Loc) (c : Ct) (Λ : Lg) : Z := ⟨c, [.seq b_law_book.rest.rest], N, none, L, Λ, q0⟩
theorem pre_len : ∀ c : Fin 3, ("P" : Str).length + (iS (c.val : Int)).length ≤ 10 := by decide +kernel
theorem ent_1 {φ : Fz} {n : Str} {it : It} {p : Nat} {v : MV} {kvs : List (MV × MV)} (h : φ.f p = some (.list [v])) (r : RIt φ it v) : EntOK φ (putK (.str n) (.ref p) kvs) [(n, it)] := fun e he => by
 rcases List.mem_singleton.mp he with rfl
 exact ⟨p, v, look_putS _, h, r⟩
theorem ent_2 {φ : Fz} {n n' : Str} {it it' : It} {p p' : Nat} {v v' : MV} {kvs : List (MV × MV)} (hn : n' ≠ n) (h : φ.f p = some (.list [v])) (r : RIt φ it v) (h' : φ.f p' = some (.list [v'])) (r' : RIt φ it' v') : EntOK φ (putK (.str n') (.ref p') (putK (.str n) (.ref p) kvs)) [(n, it), (n', it')] := fun e he => by
 rcases List.mem_cons.mp he with rfl | he
 · exact ⟨p, v, (look_putN hn _).trans (look_putS _), h, r⟩
 · exact ent_1 h' r' e he
noncomputable abbrev tupB (b : Bool) (n : Str) (il : Nat) (t : Bool) : MV := .tup [.str (if b then "loop" else "piece"), .str n, .ref il, .bool t]
noncomputable abbrev tupC (w : Nat) : MV := .tup [.str "call", .ref w]
theorem iter_w {N : Nat} {K0 X0} {φ : Fz} {Λ : Lg} {xs : List Int} {c d l m : Nat} {kvs : List (MV × MV)} {vs : List MV} {L2 L3 L4 L5 : Option MV} (hx : xs.length ≤ 63) (hc : c < 7)
 (hS : isS kvs = true) (hk : lookK (.str ("P" ++ iS (lvN c))) kvs = some (.ref l)) (hkl : kvs.length ≤ 100) (hvl : vs.length ≤ 100)
 (kk : ∀ φ' v kvs' L3 L4 L5, φ.le φ' → RIt φ' (itemOf xs c (iS (lvN c))) v → isS kvs' = true → kvs'.length ≤ kvs.length + 2 → (∀ n, n ≠ sN c → n ≠ tN c → lookK (.str n) kvs' = lookK (.str n) kvs) → EntOK φ' kvs' (itemOf xs c (iS (lvN c))).ent →
  Gd K0 X0 φ' (bkZ (N + 2) [some (.scr xs), some (.ref d), some (.int c), L3, L4, L5] (.R m 2 bkB (c + 1)) ((d, .dict kvs') :: (l, .list (vs ++ [v])) :: Λ))) :
 Gd K0 X0 φ (bkZ (N + 2) [some (.scr xs), some (.ref d), L2, L3, L4, L5] (.R (m + 1) 2 bkB c) ((d, .dict kvs) :: (l, .list vs) :: Λ)) := by
 have hix := lv_idx c hc
 have hlv := lv_bd c
 generalize lvN c = lv at *
 have m5 : decide (lv.natAbs < 10 ^ 10) = true := sml (by lia)
 have n1 : decide (("P" : Str).length + (iS lv).length ≤ LIM) = true := by
  obtain ⟨m, rfl⟩ := Int.eq_ofNat_of_zero_le hlv.1
  have := pre_len ⟨m, by lia⟩
  dsimp only at this
  exact decide_eq_true (by unfold LIM; lia)
 have hS1 : (kvs.all fun p => isStrK p.1) = true := hS
 have v1 : decide (vs.length < LIM) = true := lim_lt (by lia)
 have v2 : decide (kvs.length < LIM) = true := lim_lt (by lia)
 have hS2 : ∀ p : Nat, (putK (.str ("s" ++ iS c)) (.ref p) kvs).all (fun p => isStrK p.1) = true := fun p => isS_put hS
 have v3 : ∀ p : Nat, decide ((putK (.str ("s" ++ iS c)) (.ref p) kvs).length < LIM) = true := fun p => lim_lt (Nat.lt_of_le_of_lt putKl (by lia))
 refine onC 78 (N + 2) none (fun ν => [MV.scr xs, MV.int (Int.ofNat c), MV.int lv]) (fun ν => ((φ.fr (ν 36)), .list lvL) :: (d, .dict kvs) :: (l, .list vs) :: Λ) 283142 [] [MV.int lv] (fun ν => (ai hix trivial)) (fun ν => by kernel_rfl) fun ν K'' X'' kv' kx' => ?_
 refine Wp.pre [false] (item_w hx hc hlv fun φ' v le hv => kv' _ _ _ le ?_)
 unfold itemOf at hv kk
 dsimp only at hv kk
 have h4 : (cell xs c + 5 * c + 2) % 4 = 0 ∨ (cell xs c + 5 * c + 2) % 4 = 1 ∨ (cell xs c + 5 * c + 2) % 4 = 2 ∨ (cell xs c + 5 * c + 2) % 4 = 3 := by lia
 rcases h4 with h4 | h4 | h4 | h4
 · rw [if_pos h4] at kk hv
   have hv' := hv
   obtain ⟨wl, rfl, hwl⟩ := hv
   have k0 := kk φ' _ kvs (some (.int lv)) (some (.tup [.str "call", .ref wl])) L5 le hv' hS (Nat.le_add_right _ _) (fun _ _ _ => rfl) (fun e he => by cases he)
   exact o9 307027608372246093529218 [] [MV.ref l] (fun ν' => (ai v1 (ai hk (ai hS1 (ai n1 (ai m5 trivial)))))) (fun ν' => k0.g) fun ν' => by kernel_rfl
 · rw [if_neg (by lia), if_pos h4] at hv kk
   have hv' := hv
   obtain ⟨il, vs', rfl, hil, v1, _, rfl, ⟨w1, rfl, hw1⟩, rfl⟩ := hv
   have k0 : ∀ p, Gd K0 X0 φ' (bkZ (N + 2) [some (.scr xs), some (.ref d), some (.int c), some (.int lv), some (tupB false (sN c) il false), some (tupC w1)] (.R m 2 bkB (c + 1)) ([(p, .list [tupB false (sN c) il false])] ++ ((d, .dict (putK (.str (sN c)) (.ref p) kvs)) :: (l, .list (vs ++ [tupB false (sN c) il false])) :: Λ))) := fun p => Gd.fzR _ fun φ2 l2 h => kk φ2 _ _ _ _ _ (le.trans l2) (RIt.le l2 _ _ hv') (hS2 p) (Nat.le_succ_of_le putKl) (fun n h1 h2 => look_putN (Ne.symm h1) _) (ent_1 (h _ (.head _)) (RIt.le l2 _ _ hv'))
   exact o9 1534033133359460999557216841233704507396512943480275074 [MO.list [MV.tup [MV.str "call", MV.ref w1]], MO.list [MV.tup [MV.str "call", MV.ref w1]]] [MV.ref l] (fun ν' => (ai hil (ai hil (ai v2 (ai hS1 (ai v1 (ai hk (ai hS1 (ai n1 (ai m5 trivial)))))))))) (fun ν' => (k0 (φ'.fr (ν' 89))).g) fun ν' => by kernel_rfl
 · rw [if_neg (by lia), if_neg (by lia), if_pos h4] at hv kk
   have hv' := hv
   obtain ⟨il, vs', rfl, hil, v1, _, rfl, ⟨w1, rfl, hw1⟩, v2, _, rfl, hv2, rfl⟩ := hv
   have hv2' := hv2
   obtain ⟨il2, vs2', rfl, hil2, v3, _, rfl, ⟨w3, rfl, hw3⟩, rfl⟩ := hv2
   have k0 : ∀ s t, Gd K0 X0 φ' (bkZ (N + 2) [some (.scr xs), some (.ref d), some (.int c), some (.int lv), some (tupB true (sN c) il ((cell xs c + 5 * c + 2) / 32 % 2 == 0)), some (tupB false (tN c) il2 false)] (.R m 2 bkB (c + 1)) ([(t, .list [tupB false (tN c) il2 false]), (s, .list [tupB true (sN c) il ((cell xs c + 5 * c + 2) / 32 % 2 == 0)])] ++ ((d, .dict (putK (.str (tN c)) (.ref t) (putK (.str (sN c)) (.ref s) kvs))) :: (l, .list (vs ++ [tupB true (sN c) il ((cell xs c + 5 * c + 2) / 32 % 2 == 0)])) :: Λ))) := fun s t => Gd.fzR _ fun φ2 l2 h => kk φ2 _ _ _ _ _ (le.trans l2) (RIt.le l2 _ _ hv') (isS_put (hS2 s)) (Nat.le_trans putKl (Nat.succ_le_succ putKl)) (fun n h1 h2 => (look_putN (Ne.symm h2) _).trans (look_putN (Ne.symm h1) _)) (ent_2 (st_ne tN_ne' hc hc) (h _ (.tail _ (.head _))) (RIt.le l2 _ _ hv') (h _ (.head _)) (RIt.le l2 _ _ hv2'))
   exact o9 463633038604552886372045714002850676610534855340836032694849060906200486936706 [MO.list [MV.tup [MV.str "call", MV.ref w1], MV.tup [MV.str (if false = true then Str.ofString "loop" else Str.ofString "piece"), MV.str (Str.ofString "t" ++ iS ↑c), MV.ref il2, MV.bool false]], MO.list [MV.tup [MV.str "call", MV.ref w1], MV.tup [MV.str (if false = true then Str.ofString "loop" else Str.ofString "piece"), MV.str (Str.ofString "t" ++ iS ↑c), MV.ref il2, MV.bool false]], MO.list [MV.tup [MV.str "call", MV.ref w1], MV.tup [MV.str (if false = true then Str.ofString "loop" else Str.ofString "piece"), MV.str (Str.ofString "t" ++ iS ↑c), MV.ref il2, MV.bool false]]] [MV.ref l] (fun ν' => (ai hil (ai (v3 (φ'.fr (ν' 89))) (ai (hS2 (φ'.fr (ν' 89))) (ai hil (ai hil (ai v2 (ai hS1 (ai v1 (ai hk (ai hS1 (ai n1 (ai m5 trivial))))))))))))) (fun ν' => (k0 (φ'.fr (ν' 89)) (φ'.fr (ν' 203))).g) fun ν' => by kernel_rfl
 · rw [if_neg (by lia), if_neg (by lia), if_neg (by lia)] at hv kk
   have hv' := hv
   obtain ⟨il, vs', rfl, hil, v1, _, rfl, hv2, v2, _, rfl, ⟨w1, rfl, hw1⟩, rfl⟩ := hv
   have hv2' := hv2
   obtain ⟨il2, vs2', rfl, hil2, v3, _, rfl, ⟨w3, rfl, hw3⟩, rfl⟩ := hv2
   have k0 : ∀ s t, Gd K0 X0 φ' (bkZ (N + 2) [some (.scr xs), some (.ref d), some (.int c), some (.int lv), some (tupB false (sN c) il false), some (tupC w1)] (.R m 2 bkB (c + 1)) ([(t, .list [tupB true (tN c) il2 ((cell xs c + 5 * c + 2) / 32 % 2 == 0)]), (s, .list [tupB false (sN c) il false])] ++ ((d, .dict (putK (.str (tN c)) (.ref t) (putK (.str (sN c)) (.ref s) kvs))) :: (l, .list (vs ++ [tupB false (sN c) il false])) :: Λ))) := fun s t => Gd.fzR _ fun φ2 l2 h => kk φ2 _ _ _ _ _ (le.trans l2) (RIt.le l2 _ _ hv') (isS_put (hS2 s)) (Nat.le_trans putKl (Nat.succ_le_succ putKl)) (fun n h1 h2 => (look_putN (Ne.symm h2) _).trans (look_putN (Ne.symm h1) _)) (ent_2 (st_ne tN_ne' hc hc) (h _ (.tail _ (.head _))) (RIt.le l2 _ _ hv') (h _ (.head _)) (RIt.le l2 _ _ hv2'))
   exact o9 463633065765646032254233505025464645011995748911580266013822405054868807516290 [MO.list [MV.tup [MV.str (if true = true then Str.ofString "loop" else Str.ofString "piece"), MV.str (Str.ofString "t" ++ iS ↑c), MV.ref il2, MV.bool ((cell xs c + 5 * ↑c + 2) / 32 % 2 == 0)], MV.tup [MV.str "call", MV.ref w1]], MO.list [MV.tup [MV.str (if true = true then Str.ofString "loop" else Str.ofString "piece"), MV.str (Str.ofString "t" ++ iS ↑c), MV.ref il2, MV.bool ((cell xs c + 5 * ↑c + 2) / 32 % 2 == 0)], MV.tup [MV.str "call", MV.ref w1]], MO.list [MV.tup [MV.str (if true = true then Str.ofString "loop" else Str.ofString "piece"), MV.str (Str.ofString "t" ++ iS ↑c), MV.ref il2, MV.bool ((cell xs c + 5 * ↑c + 2) / 32 % 2 == 0)], MV.tup [MV.str "call", MV.ref w1]]] [MV.ref l] (fun ν' => (ai hil (ai hil (ai (v3 (φ'.fr (ν' 89))) (ai (hS2 (φ'.fr (ν' 89))) (ai hil (ai v2 (ai hS1 (ai v1 (ai hk (ai hS1 (ai n1 (ai m5 trivial))))))))))))) (fun ν' => (k0 (φ'.fr (ν' 89)) (φ'.fr (ν' 170))).g) fun ν' => by kernel_rfl
noncomputable def Its.of : List It → Its
 | [] => .nil
 | i :: r => .cons i (Its.of r)
theorem RIts_app {φ : Fz} {i : It} {v : MV} (h : RIt φ i v) : ∀ {l : List It} {vs : List MV}, RIts φ (Its.of l) vs → RIts φ (Its.of (l ++ [i])) (vs ++ [v])
 | [], vs, e => by
  have : vs = [] := e
  subst this
  exact ⟨v, [], rfl, h, rfl⟩
 | j :: l, vs, e => by
  obtain ⟨a, b, rfl, h1, h2⟩ := e
  exact ⟨a, b ++ [v], rfl, h1, RIts_app h h2⟩
noncomputable def lvl (xs : List Int) (l : Int) : Nat → List It
 | 0 => []
 | n + 1 => if lvN n = l then lvl xs l n ++ [itemOf xs n (iS l)] else lvl xs l n
noncomputable abbrev itm (xs : List Int) (c : Nat) : It := itemOf xs c (iS (lvN c))
theorem item_ind {xs : List Int} {c : Nat} {l : Str} {P : It → Prop} (h0 : ∀ a : Int, 0 ≤ a ∧ a < 8 → P (.call (iS a) l)) (h1 : ∀ a : Int, 0 ≤ a ∧ a < 8 → P (.blk false (sN c) (.cons (.call (iS a) l) .nil) false))
 (h2 : ∀ (a b : Int) t, 0 ≤ a ∧ a < 8 → 0 ≤ b ∧ b < 8 → P (.blk true (sN c) (.cons (.call (iS a) l) (.cons (.blk false (tN c) (.cons (.call (iS b) l) .nil) false) .nil)) t))
 (h3 : ∀ (a b : Int) t, 0 ≤ a ∧ a < 8 → 0 ≤ b ∧ b < 8 → P (.blk false (sN c) (.cons (.blk true (tN c) (.cons (.call (iS a) l) .nil) t) (.cons (.call (iS b) l) .nil)) false)) : P (itemOf xs c l) := by
 have m : ∀ a : Int, 0 ≤ a % 8 ∧ a % 8 < 8 := fun a => ⟨Int.emod_nonneg _ (by decide), Int.emod_lt_of_pos _ (by decide)⟩
 unfold itemOf
 dsimp only
 split
 · exact h0 _ (m _)
 split
 · exact h1 _ (m _)
 split
 · exact h2 _ _ _ (m _) (m _)
 · exact h3 _ _ _ (m _) (m _)
theorem itm_ent {xs : List Int} {c : Nat} {l : Str} {e : Str × It} : e ∈ (itemOf xs c l).ent → e.1 = sN c ∨ e.1 = tN c := by
 have g : ∀ {i j : It}, e ∈ [(sN c, i), (tN c, j)] → e.1 = sN c ∨ e.1 = tN c := fun h => by
  rcases List.mem_cons.mp h with rfl | h
  · exact .inl rfl
  · rw [List.mem_singleton.mp h]; exact .inr rfl
 exact item_ind (P := fun i => e ∈ i.ent → e.1 = sN c ∨ e.1 = tN c) (fun _ _ h => nomatch h) (fun _ _ h => .inl (List.mem_singleton.mp h ▸ rfl)) (fun _ _ _ _ _ h => g h) (fun _ _ _ _ _ h => g h)
theorem ss_ne : ∀ c c' : Fin 7, c ≠ c' → ("s" : Str) ++ iS (c.val : Int) ≠ "s" ++ iS (c'.val : Int) := by decide +kernel
theorem tt_ne : ∀ c c' : Fin 7, c ≠ c' → ("t" : Str) ++ iS (c.val : Int) ≠ "t" ++ iS (c'.val : Int) := by decide +kernel
theorem ps_ne : ∀ c : Fin 7, ∀ p ∈ [("P0" : Str), "P1", "P2", "Q"], p ≠ "s" ++ iS (c.val : Int) ∧ p ≠ "t" ++ iS (c.val : Int) := by decide +kernel
noncomputable def ents (xs : List Int) : Nat → List (Str × It)
 | 0 => []
 | n + 1 => ents xs n ++ (itm xs n).ent
theorem ents_nm {xs : List Int} {e : Str × It} : ∀ {n : Nat}, e ∈ ents xs n → ∃ c, c < n ∧ (e.1 = sN c ∨ e.1 = tN c)
 | 0, h => by cases h
 | n + 1, h => by
  rcases List.mem_append.mp h with h | h
  · obtain ⟨c, h1, h2⟩ := ents_nm h; exact ⟨c, by lia, h2⟩
  · exact ⟨n, by lia, itm_ent h⟩
structure BI (φ : Fz) (xs : List Int) (l0 l1 l2 lq : Nat) (c : Nat) (kvs : List (MV × MV)) (v0 v1 v2 : List MV) : Prop where
 s : isS kvs = true
 k0 : lookK (.str "P0") kvs = some (.ref l0)
 k1 : lookK (.str "P1") kvs = some (.ref l1)
 k2 : lookK (.str "P2") kvs = some (.ref l2)
 kq : lookK (.str "Q") kvs = some (.ref lq)
 n : kvs.length ≤ 4 + 2 * c
 r0 : RIts φ (Its.of (lvl xs 0 c)) v0
 r1 : RIts φ (Its.of (lvl xs 1 c)) v1
 r2 : RIts φ (Its.of (lvl xs 2 c)) v2
 n0 : v0.length ≤ c ∧ v1.length ≤ c ∧ v2.length ≤ c
 e : EntOK φ kvs (ents xs c)
theorem EntOK.nx {φ φ' : Fz} {xs : List Int} {c : Nat} {kvs kvs' : List (MV × MV)} (hc : c < 7) (h : EntOK φ kvs (ents xs c)) (l : φ.le φ') (hk : ∀ n, n ≠ sN c → n ≠ tN c → lookK (.str n) kvs' = lookK (.str n) kvs) (he : EntOK φ' kvs' (itm xs c).ent) : EntOK φ' kvs' (ents xs (c + 1)) := by
 intro e hm
 rcases List.mem_append.mp hm with hm | hm
 · obtain ⟨il, v, h1, h2, h3⟩ := h e hm
   obtain ⟨c', h4, h5⟩ := ents_nm hm
   refine ⟨il, v, ?_, l.1 _ _ h2, RIt.le l _ _ h3⟩
   rw [hk, h1]
   · rcases h5 with h5 | h5
     · rw [h5]; exact ss_ne ⟨c', by lia⟩ ⟨c, hc⟩ (fun e => by injection e; lia)
     · rw [h5]; exact st_ne tN_ne' (by lia) hc
   · rcases h5 with h5 | h5
     · rw [h5]; exact (st_ne tN_ne' hc (by lia)).symm
     · rw [h5]; exact tt_ne ⟨c', by lia⟩ ⟨c, hc⟩ (fun e => by injection e; lia)
 · exact he e hm
theorem BI.nx {φ φ' : Fz} {xs : List Int} {l0 l1 l2 lq c : Nat} {kvs kvs' : List (MV × MV)} {v0 v1 v2 v0' v1' v2' : List MV} (hc : c < 7) (b : BI φ xs l0 l1 l2 lq c kvs v0 v1 v2) (l : φ.le φ') (hS : isS kvs' = true) (hn : kvs'.length ≤ kvs.length + 2)
 (hk : ∀ n, n ≠ sN c → n ≠ tN c → lookK (.str n) kvs' = lookK (.str n) kvs) (he : EntOK φ' kvs' (itm xs c).ent)
 (h0 : RIts φ' (Its.of (lvl xs 0 (c + 1))) v0') (h1 : RIts φ' (Its.of (lvl xs 1 (c + 1))) v1') (h2 : RIts φ' (Its.of (lvl xs 2 (c + 1))) v2') (hv : v0'.length ≤ c + 1 ∧ v1'.length ≤ c + 1 ∧ v2'.length ≤ c + 1) : BI φ' xs l0 l1 l2 lq (c + 1) kvs' v0' v1' v2' := by
 have ps := ps_ne ⟨c, hc⟩
 refine ⟨hS, ?_, ?_, ?_, ?_, by have := b.n; lia, h0, h1, h2, hv, b.e.nx hc l hk he⟩
 · rw [hk _ (ps _ (.head _)).1 (ps _ (.head _)).2]; exact b.k0
 · rw [hk _ (ps _ (.tail _ (.head _))).1 (ps _ (.tail _ (.head _))).2]; exact b.k1
 · rw [hk _ (ps _ (.tail _ (.tail _ (.head _)))).1 (ps _ (.tail _ (.tail _ (.head _)))).2]; exact b.k2
 · rw [hk _ (ps _ (.tail _ (.tail _ (.tail _ (.head _))))).1 (ps _ (.tail _ (.tail _ (.tail _ (.head _))))).2]; exact b.kq
noncomputable def BkL (Λ : Lg) (d l0 l1 l2 : Nat) (kvs : List (MV × MV)) (v0 v1 v2 : List MV) : Lg := (d, .dict kvs) :: (l0, .list v0) :: (l1, .list v1) :: (l2, .list v2) :: Λ
theorem bk_turn {N m : Nat} {K0 X0} {φ : Fz} {Λ Λ0 : Lg} {xs : List Int} {c d l0 l1 l2 lq : Nat} {kvs : List (MV × MV)} {v0 v1 v2 : List MV} {L2 L3 L4 L5 : Option MV} (hx : xs.length ≤ 63) (hc : c < 7) (b : BI φ xs l0 l1 l2 lq c kvs v0 v1 v2) (hp : (BkL Λ d l0 l1 l2 kvs v0 v1 v2).Perm Λ0)
 (kk : ∀ φ' kvs v0 v1 v2 L3 L4 L5 Λ1, φ.le φ' → BI φ' xs l0 l1 l2 lq (c + 1) kvs v0 v1 v2 → (BkL Λ d l0 l1 l2 kvs v0 v1 v2).Perm Λ1 → Gd K0 X0 φ' (bkZ (N + 2) [some (.scr xs), some (.ref d), some (.int c), L3, L4, L5] (.R m 2 bkB (c + 1)) Λ1)) :
 Gd K0 X0 φ (bkZ (N + 2) [some (.scr xs), some (.ref d), L2, L3, L4, L5] (.R (m + 1) 2 bkB c) Λ0) := by
 have hn := b.n
 have hv := b.n0
 have hl : lvN c = 0 ∨ lvN c = 1 ∨ lvN c = 2 := by have := lv_bd c; lia
 rcases hl with hl | hl | hl
 · refine Gd.permR (Λ' := (d, .dict kvs) :: (l0, .list v0) :: (l1, .list v1) :: (l2, .list v2) :: Λ) hp (iter_w hx hc b.s (by rw [hl]; exact b.k0) (by lia) (by lia) ?_)
   intro φ' v kvs' L3 L4 L5 l hS' hS hn hk he
   have hr := hS'
   refine kk φ' kvs' (v0 ++ [v]) v1 v2 _ _ _ _ l (b.nx hc l hS hn hk he ?_ ?_ ?_ (by rw [List.length_append, List.length_singleton]; lia)) (.refl _)
   · rw [lvl, if_pos hl]; rw [hl] at hr; exact RIts_app hr (RIts.le l _ _ b.r0)
   · rw [lvl, if_neg (by lia)]; exact RIts.le l _ _ b.r1
   · rw [lvl, if_neg (by lia)]; exact RIts.le l _ _ b.r2
 · refine Gd.permR (Λ' := (d, .dict kvs) :: (l1, .list v1) :: (l0, .list v0) :: (l2, .list v2) :: Λ) (.trans (.cons _ (.swap _ _ _)) hp) (iter_w hx hc b.s (by rw [hl]; exact b.k1) (by lia) (by lia) ?_)
   intro φ' v kvs' L3 L4 L5 l hr hS hn hk he
   refine kk φ' kvs' v0 (v1 ++ [v]) v2 _ _ _ _ l (b.nx hc l hS hn hk he ?_ ?_ ?_ (by rw [List.length_append, List.length_singleton]; lia)) (.cons _ (.swap _ _ _))
   · rw [lvl, if_neg (by lia)]; exact RIts.le l _ _ b.r0
   · rw [lvl, if_pos hl]; rw [hl] at hr; exact RIts_app hr (RIts.le l _ _ b.r1)
   · rw [lvl, if_neg (by lia)]; exact RIts.le l _ _ b.r2
 · refine Gd.permR (Λ' := (d, .dict kvs) :: (l2, .list v2) :: (l1, .list v1) :: (l0, .list v0) :: Λ) (.trans (.cons _ (.trans (.cons _ (.swap _ _ _)) (.trans (.swap _ _ _) (.cons _ (.swap _ _ _))))) hp) (iter_w hx hc b.s (by rw [hl]; exact b.k2) (by lia) (by lia) ?_)
   intro φ' v kvs' L3 L4 L5 l hr hS hn hk he
   refine kk φ' kvs' v0 v1 (v2 ++ [v]) _ _ _ _ l (b.nx hc l hS hn hk he ?_ ?_ ?_ (by rw [List.length_append, List.length_singleton]; lia)) (.cons _ (.trans (.cons _ (.swap _ _ _)) (.trans (.swap _ _ _) (.cons _ (.swap _ _ _)))))
   · rw [lvl, if_neg (by lia)]; exact RIts.le l _ _ b.r0
   · rw [lvl, if_neg (by lia)]; exact RIts.le l _ _ b.r1
   · rw [lvl, if_pos hl]; rw [hl] at hr; exact RIts_app hr (RIts.le l _ _ b.r2)
noncomputable def bookOf (xs : List Int) (t : Str) : Option Its :=
 if t = "P0" then some (Its.of (lvl xs 0 7)) else if t = "P1" then some (Its.of (lvl xs 1 7)) else if t = "P2" then some (Its.of (lvl xs 2 7)) else if t = "Q" then some qIts
 else ((ents xs 7).find? (fun e => e.1 == t)).map fun e => .cons e.2 .nil
theorem bk_turns {N : Nat} {K0 X0} {φ1 : Fz} {Λ : Lg} {xs : List Int} {d l0 l1 l2 lq : Nat} (hx : xs.length ≤ 63)
 (fin : ∀ φ' kvs v0 v1 v2 L2 L3 L4 L5, φ1.le φ' → BI φ' xs l0 l1 l2 lq 7 kvs v0 v1 v2 → Gd K0 X0 φ' (bkZ (N + 2) [some (.scr xs), some (.ref d), L2, L3, L4, L5] (.F .nxt) (BkL Λ d l0 l1 l2 kvs v0 v1 v2))) :
 ∀ m c, c + m = 7 → ∀ φ' kvs v0 v1 v2 L2 L3 L4 L5 Λ0, φ1.le φ' → BI φ' xs l0 l1 l2 lq c kvs v0 v1 v2 → (BkL Λ d l0 l1 l2 kvs v0 v1 v2).Perm Λ0 → Gd K0 X0 φ' (bkZ (N + 2) [some (.scr xs), some (.ref d), L2, L3, L4, L5] (.R m 2 bkB c) Λ0) := fun m => by
 induction m with
 | zero =>
  intro c hc φ' kvs v0 v1 v2 L2 L3 L4 L5 Λ0 le b hp
  obtain rfl : c = 7 := hc
  exact Gd.permR hp (range_end (fin φ' kvs v0 v1 v2 L2 L3 L4 L5 le b))
 | succ m ih =>
  intro c hc φ' kvs v0 v1 v2 L2 L3 L4 L5 Λ0 le b hp
  exact bk_turn hx (by lia) b hp fun φ2 kvs v0 v1 v2 L3 L4 L5 Λ1 l2 b hp => ih (c + 1) (by lia) φ2 kvs v0 v1 v2 _ L3 L4 L5 Λ1 (le.trans l2) b hp
theorem book_w {N : Nat} {φ : Fz} {Λ : Lg} {xs : List Int} {K X} (hx : xs.length ≤ 63)
 (kk : ∀ φ' d kvs, φ.le φ' → φ'.f d = some (.dict kvs) → isS kvs = true → (∀ t its, bookOf xs t = some its → ∃ il vs, lookK (.str t) kvs = some (.ref il) ∧ φ'.f il = some (.list vs) ∧ RIts φ' its vs) → K (.ref d) φ' Λ) :
 Wp φ Λ (callN (N + 3) 79 [.scr xs] none) K X := by
 refine Wp.post ?_
 have k0 : ∀ lq li lw l2 l1 l0 d, Gd (fun v => Pst (K v)) X φ (bkZ (N + 2) [some (.scr xs), some (.ref d), none, none, none, none] (.R 7 2 bkB 0) ([(lq, .list [tupB false "q" li false]), (li, .list [tupC lw]), (lw, .list [.str "o"])] ++ ([(l2, .list []), (l1, .list []), (l0, .list []), (d, .dict [(.str "P0", .ref l0), (.str "P1", .ref l1), (.str "P2", .ref l2), (.str "Q", .ref lq)])] ++ Λ))) := by
  intro lq li lw l2 l1 l0 d
  refine Gd.fzR _ fun φ1 le1 hF1 => ?_
  have hq1 := hF1 _ (.head _)
  have hq2 := hF1 _ (.tail _ (.head _))
  have hq3 := hF1 _ (.tail _ (.tail _ (.head _)))
  refine bk_turns (l0 := l0) (l1 := l1) (l2 := l2) (lq := lq) (φ1 := φ1) hx ?_ 7 0 rfl φ1 [(.str "P0", .ref l0), (.str "P1", .ref l1), (.str "P2", .ref l2), (.str "Q", .ref lq)] [] [] [] _ _ _ _ _ (.refl _) ⟨rfl, rfl, rfl, rfl, rfl, Nat.le_refl _, rfl, rfl, rfl, ⟨Nat.le_refl _, Nat.le_refl _, Nat.le_refl _⟩, fun e he => by cases he⟩ ((List.reverse_perm [(l2, _), (l1, _), (l0, _), (d, _)]).append_right Λ)
  intro φ' kvs v0 v1 v2 L2 L3 L4 L5 le' b
  have k1 : Pst (K (.ref d)) φ' ([(d, .dict kvs), (l0, .list v0), (l1, .list v1), (l2, .list v2)] ++ Λ) := Pst.fzs _ fun φ2 le2 hF => by
   refine kk φ2 d kvs ((le1.trans le').trans le2) (hF _ (.head _)) b.s ?_
   intro t its ht
   unfold bookOf at ht
   split at ht
   · rename_i e; subst e; obtain rfl := Option.some.inj ht; exact ⟨_, _, b.k0, hF _ (.tail _ (.head _)), RIts.le le2 _ _ b.r0⟩
   split at ht
   · rename_i e; subst e; obtain rfl := Option.some.inj ht; exact ⟨_, _, b.k1, hF _ (.tail _ (.tail _ (.head _))), RIts.le le2 _ _ b.r1⟩
   split at ht
   · rename_i e; subst e; obtain rfl := Option.some.inj ht; exact ⟨_, _, b.k2, hF _ (.tail _ (.tail _ (.tail _ (.head _)))), RIts.le le2 _ _ b.r2⟩
   split at ht
   · rename_i e; subst e; obtain rfl := Option.some.inj ht
     have l3 := le'.trans le2
     exact ⟨_, _, b.kq, l3.1 _ _ hq1, _, _, rfl, ⟨_, _, rfl, l3.1 _ _ hq2, _, _, rfl, ⟨_, rfl, l3.1 _ _ hq3⟩, rfl⟩, rfl⟩
   obtain ⟨e, hf, rfl⟩ := Option.map_eq_some_iff.mp ht
   have hm := List.mem_of_find?_eq_some hf
   have ht := List.find?_some hf
   obtain ⟨il, v, h1, h2, h3⟩ := b.e e hm
   rw [eq_of_beq ht] at h1
   exact ⟨il, [v], h1, le2.1 _ _ h2, v, [], rfl, RIt.le le2 _ _ h3, rfl⟩
  unfold BkL
  exact o9 1 [] [] (fun ν => trivial) (fun ν => k1) fun ν => by kernel_rfl
 exact W9 4110 [] [] (fun ν => trivial) rfl (fun ν => (k0 (φ.fr (ν 73)) (φ.fr (ν 57)) (φ.fr (ν 46)) (φ.fr (ν 19)) (φ.fr (ν 13)) (φ.fr (ν 7)) (φ.fr (ν 2))).g) fun ν => by kernel_rfl
noncomputable def dkOf (r : Int) : DK := if r = 0 then .text else if r = 1 then .turn else if r = 2 then .nest else if r = 3 then .put else if r = 4 then .raise else if r = 5 then .turn else if r = 6 then .nest else .put
noncomputable def deedAt (xs : List Int) (j : Nat) : DK × Str × Int := (dkOf ((cell xs (7 + j) + j + 1) % 8), "v" ++ iS j, (cell xs (7 + j) + j + 1) / 8)
noncomputable def deedV (xs : List Int) (j : Nat) : MV := .tup [.str (deedAt xs j).1.nm, .str (deedAt xs j).2.1, .int (deedAt xs j).2.2]
noncomputable abbrev dkL : List MV := [.str "text", .str "turn", .str "nest", .str "put", .str "raise", .str "turn", .str "nest", .str "put"]
theorem sort_n : ∀ n : Nat, n < 8 → idx dkL (n : Int) = some (.str (dkOf n).nm)
 | 0, _ => rfl | 1, _ => rfl | 2, _ => rfl | 3, _ => rfl | 4, _ => rfl | 5, _ => rfl | 6, _ => rfl | 7, _ => rfl
 | n + 8, h => absurd h (Nat.not_lt_of_le (Nat.le_add_left 8 n))
theorem sort_idx {r : Int} (h : 0 ≤ r ∧ r < 8) : idx dkL r = some (.str (dkOf r).nm) := by
 obtain ⟨n, rfl⟩ := Int.eq_ofNat_of_zero_le h.1
 exact sort_n n (Int.ofNat_lt.mp h.2)
theorem iS_len8 : ∀ c : Fin 8, ("v" : Str).length + (iS (c.val : Int)).length ≤ 10 := by decide +kernel
noncomputable abbrev deB : PS := b_law_deeds.rest.fst.fb
noncomputable abbrev deZ (N : Nat) (L : Loc) (c : Ct) (Λ : Lg) : Z := ⟨c, [.seq b_law_deeds.rest.rest], N, none, L, Λ, q0⟩
theorem deed_turnW {N : Nat} {K0 X0} {φ : Fz} {Λ : Lg} {xs : List Int} {j d m : Nat} {vs : List MV} {L2 L3 L4 L5 : Option MV} (hx : xs.length ≤ 63) (hj : j < 8) (hvs : vs.length ≤ 8)
 (kk : ∀ φ' L3 L4 L5, φ.le φ' → Gd K0 X0 φ' (deZ (N + 2) [some (.scr xs), some (.ref d), some (.int j), L3, L4, L5] (.R m 2 deB (j + 1)) ((d, .list (vs ++ [deedV xs j])) :: Λ))) :
 Gd K0 X0 φ (deZ (N + 2) [some (.scr xs), some (.ref d), L2, L3, L4, L5] (.R (m + 1) 2 deB j) ((d, .list vs) :: Λ)) := by
 have hl := iS_len8 ⟨j, hj⟩
 have n1 : decide (("v" : Str).length + (iS (j : Int)).length ≤ LIM) = true := decide_eq_true (by unfold LIM; dsimp only at hl; lia)
 have m1 : decide ((j : Int).natAbs < 10 ^ 10) = true := sml (by lia)
 have v1 : decide (vs.length < LIM) = true := lim_lt (by lia)
 have hs := sort_idx (r := (cell xs (7 + j) + j + 1) % 8) (by lia)
 refine onC 77 (N + 2) none (fun ν => [.scr xs, .int ((7 + j : Nat) : Int)]) (fun ν => (d, .list vs) :: Λ) 70 [] [] (fun ν => trivial) (fun ν => by kernel_rfl) fun ν K' X' kv kx => ?_
 refine cell_w hx (by lia) (kv _ _ _ (.refl _) ?_)
 have k0 : ∀ p o, Gd K0 X0 φ (deZ (N + 2) [some (.scr xs), some (.ref d), some (.int j), some (.int (cell xs (7 + j) + j + 1)), some (.int ((cell xs (7 + j) + j + 1) / 8)), some (.str (dkOf ((cell xs (7 + j) + j + 1) % 8)).nm)] (.R m 2 deB (j + 1)) ((p, o) :: (d, .list (vs ++ [deedV xs j])) :: Λ)) := fun p o => Gd.preR [false] (kk φ _ _ _ (.refl _))
 exact o9 18617070620278784 [] [MV.str (dkOf ((cell xs (7 + j) + ↑j + 1) % 8)).nm] (fun ν' => (ai v1 (ai n1 (ai m1 (ai hs trivial))))) (fun ν' => (k0 (φ.fr (ν' 75)) (.list dkL)).g) fun ν' => by kernel_rfl
theorem deeds_w {N : Nat} {φ : Fz} {Λ : Lg} {xs : List Int} {K X} (hx : xs.length ≤ 63)
 (kk : ∀ φ' d, φ.le φ' → φ'.f d = some (.list ((List.range 8).map (deedV xs))) → K (.ref d) φ' Λ) :
 Wp φ Λ (callN (N + 3) 80 [.scr xs] none) K X := by
 refine Wp.post ?_
 have tu : ∀ m c, c + m = 8 → ∀ d φ' L2 L3 L4 L5, φ.le φ' → Gd (fun v => Pst (K v)) X φ' (deZ (N + 2) [some (.scr xs), some (.ref d), L2, L3, L4, L5] (.R m 2 deB c) ((d, .list ((List.range c).map (deedV xs))) :: Λ)) := fun m => by
  induction m with
  | zero =>
   intro c hc d φ' L2 L3 L4 L5 le
   obtain rfl : c = 8 := hc
   have k1 : Pst (K (.ref d)) φ' ((d, .list ((List.range 8).map (deedV xs))) :: Λ) := Pst.fz fun l => Pst.here (kk _ d (le.trans l) (add_at _ _ _))
   refine range_end ?_
   exact o9 1 [] [] (fun ν => trivial) (fun ν => k1) fun ν => by kernel_rfl
  | succ m ih =>
   intro c hc d φ' L2 L3 L4 L5 le
   refine deed_turnW hx (by lia) (by rw [List.length_map, List.length_range]; lia) fun φ2 L3 L4 L5 l2 => ?_
   have := ih (c + 1) (by lia) d φ2 (some (.int c)) L3 L4 L5 (le.trans l2)
   rw [List.range_succ, List.map_append] at this
   exact this
 have k0 := fun d => tu 8 0 rfl d φ none none none none (.refl _)
 exact W9 64 [] [] (fun ν => trivial) rfl (fun ν => (k0 (φ.fr (ν 5))).g) fun ν => by kernel_rfl
theorem iS_len {i : Int} (h0 : 0 ≤ i) (h : i < 10 ^ 9) : (iS i).length ≤ 9 := by
 obtain ⟨n, rfl⟩ := Int.eq_ofNat_of_zero_le h0
 have hn : (Nat.toDigits 10 n).length ≤ 9 := (Nat.length_toDigits_le_iff (by decide) (by decide)).mpr (by lia)
 show (Str.ofString (toString (n : Int))).length ≤ 9
 rw [show toString (n : Int) = n.repr from rfl, PySem.Str.ofString_eq_toList]
 show ((n.repr.toList.map Char.toNat).toArray).size ≤ 9
 have e : n.repr.toList = Nat.toDigits 10 n := by simp [Nat.repr]
 rw [e]; simpa using hn
noncomputable def ansAt (xs : List Int) (r : Int) : Str := if r = 0 then "" else if r = 1 then "a b" else if r = 2 then "1" else if r = 3 then "no" else "z" ++ iS (cell xs 15 % 10 ^ 9)
noncomputable def ansL (xs : List Int) : List MV := [.str "", .str "a b", .str "1", .str "no", .str ("z" ++ iS (cell xs 15 % 10 ^ 9))]
noncomputable def jN (j : Str) : Nat := if (findStr "01234567" j).toNat < 8 then (findStr "01234567" j).toNat else 0
noncomputable def wlOf (xs : List Int) : Wl := ⟨fun j => deedAt xs (jN j), fun c => ansAt xs (c % 5)⟩
theorem ans_idx (xs : List Int) (c : Int) : idx (ansL xs) (c % ((ansL xs).length : Int)) = some (.str ((wlOf xs).ans c)) := by
 have e : ((ansL xs).length : Int) = 5 := rfl
 rw [e]
 show idx (ansL xs) (c % 5) = some (MV.str (ansAt xs (c % 5)))
 have : c % 5 = 0 ∨ c % 5 = 1 ∨ c % 5 = 2 ∨ c % 5 = 3 ∨ c % 5 = 4 := by lia
 unfold ansL ansAt
 rcases this with h | h | h | h | h <;> rw [h]
 · exact rfl
 · exact rfl
 · exact rfl
 · exact rfl
 · exact rfl
theorem idx_nat {vs : List MV} {n : Nat} (h : n < 1000) : idx vs (n : Int) = vs[n]? := by
 unfold idx
 rw [if_pos (Int.natCast_nonneg n), if_pos (show (n : Int) < LIM by unfold LIM; lia), Int.toNat_natCast]
theorem jN_lt (j : Str) : jN j < 8 := by unfold jN; split <;> lia
theorem wl_ok (xs : List Int) : OkW (wlOf xs) := by
 refine ⟨fun j => ?_, fun c => ?_⟩
 · have := iS_len8 ⟨jN j, jN_lt j⟩
   show ("v" ++ iS (jN j)).length ≤ 100
   rw [PySem.Str.length_append]
   dsimp only at this
   lia
 · show (ansAt xs (c % 5)).length ≤ 100
   unfold ansAt
   split
   · decide
   split
   · decide
   split
   · decide
   split
   · decide
   have := iS_len (i := cell xs 15 % 10 ^ 9) (by lia) (by lia)
   rw [PySem.Str.length_append]
   have e : ("z" : Str).length = 1 := rfl
   lia
theorem fS_idx : ∀ n : Fin 8, findStr "01234567" (iS (n.val : Int)) = (n.val : Int) ∧ (iS (n.val : Int)).length = 1 := by decide +kernel
theorem good_of {k : Kw} {xs : List Int} (hd : k.dl = (List.range 8).map (deedV xs)) {n : Int} (h0 : 0 ≤ n ∧ n < 8) : GoodJ k (wlOf xs) (iS n) := by
 obtain ⟨m, rfl⟩ := Int.eq_ofNat_of_zero_le h0.1
 have hm : m < 8 := by lia
 obtain ⟨h1, h2⟩ := fS_idx ⟨m, hm⟩
 dsimp only at h1 h2
 refine ⟨h2, ?_⟩
 rw [h1, hd]
 have e : jN (iS (m : Int)) = m := by unfold jN; rw [h1, Int.toNat_natCast, if_pos hm]
 show _ = some (MV.tup [.str (deedAt xs (jN (iS (m : Int)))).1.nm, .str (deedAt xs (jN (iS (m : Int)))).2.1, .int (deedAt xs (jN (iS (m : Int)))).2.2])
 rw [e, idx_nat (by lia), List.getElem?_map, List.getElem?_range hm]
 rfl
theorem goodA_of {k : Kw} {xs : List Int} (ha : k.al = ansL xs) : GoodA k (wlOf xs) := by
 refine ⟨by rw [ha]; rfl, by rw [ha]; rfl, by rw [ha]; rfl, fun c => ?_⟩
 rw [ha, Int.add_sub_cancel]
 exact ans_idx xs c
theorem itm_bd (xs : List Int) (c : Nat) (l : Str) : (itemOf xs c l).wt ≤ 4 ∧ (itemOf xs c l).dep ≤ 2 ∧ (itemOf xs c l).sz ≤ 20 :=
 item_ind (P := fun i => i.wt ≤ 4 ∧ i.dep ≤ 2 ∧ i.sz ≤ 20) (fun _ _ => (by decide : 1 ≤ 4 ∧ 0 ≤ 2 ∧ 4 ≤ 20)) (fun _ _ => (by decide : 2 ≤ 4 ∧ 1 ≤ 2 ∧ 6 ≤ 20)) (fun _ _ _ _ _ => (by decide : 4 ≤ 4 ∧ 2 ≤ 2 ∧ 16 ≤ 20)) fun _ _ _ _ _ => (by decide : 4 ≤ 4 ∧ 2 ≤ 2 ∧ 16 ≤ 20)
theorem itm_ok {P : Str → Str → Prop} {xs : List Int} {c : Nat} {l : Str} (h : ∀ n : Int, 0 ≤ n ∧ n < 8 → P (iS n) l) : okI P (itemOf xs c l) :=
 item_ind (P := okI P) (fun _ a => h _ a) (fun _ a => ⟨h _ a, trivial⟩) (fun _ _ _ a b => ⟨h _ a, ⟨h _ b, trivial⟩, trivial⟩) fun _ _ _ a b => ⟨⟨h _ a, trivial⟩, h _ b, trivial⟩
theorem ent_bd {P : Str → Str → Prop} {xs : List Int} {c : Nat} {l : Str} (h : okI P (itemOf xs c l)) {e : Str × It} (he : e ∈ (itemOf xs c l).ent) : okI P e.2 ∧ e.2.wt ≤ 4 ∧ e.2.dep ≤ 2 ∧ e.2.sz ≤ 20 := by
 revert h he
 refine item_ind (P := fun i => okI P i → e ∈ i.ent → okI P e.2 ∧ e.2.wt ≤ 4 ∧ e.2.dep ≤ 2 ∧ e.2.sz ≤ 20) (fun _ _ _ h => nomatch h) (fun a _ h he => ?_) (fun a b t _ _ h he => ?_) fun a b t _ _ h he => ?_
 · rw [List.mem_singleton.mp he]; exact ⟨h, (by decide : 2 ≤ 4 ∧ 1 ≤ 2 ∧ 6 ≤ 20)⟩
 · rcases List.mem_cons.mp he with rfl | he
   · exact ⟨h, (by decide : 4 ≤ 4 ∧ 2 ≤ 2 ∧ 16 ≤ 20)⟩
   · rw [List.mem_singleton.mp he]; exact ⟨h.2.1, (by decide : 2 ≤ 4 ∧ 1 ≤ 2 ∧ 6 ≤ 20)⟩
 · rcases List.mem_cons.mp he with rfl | he
   · exact ⟨h, (by decide : 4 ≤ 4 ∧ 2 ≤ 2 ∧ 16 ≤ 20)⟩
   · rw [List.mem_singleton.mp he]; exact ⟨h.1, (by decide : 2 ≤ 4 ∧ 1 ≤ 2 ∧ 10 ≤ 20)⟩
theorem okB_itm {book : Str → Option Its} {Q : Str → Its → Prop} {xs : List Int} {c : Nat} {l : Str} : (∀ e ∈ (itemOf xs c l).ent, book e.1 = some (.cons e.2 .nil) ∧ Q e.1 (.cons e.2 .nil)) → okB book Q (itemOf xs c l) := by
 refine item_ind (P := fun i => (∀ e ∈ i.ent, book e.1 = some (.cons e.2 .nil) ∧ Q e.1 (.cons e.2 .nil)) → okB book Q i) (fun _ _ _ => trivial) (fun _ _ h => ?_) (fun _ _ _ _ _ h => ?_) fun _ _ _ _ _ h => ?_
 · have h1 := h _ (.head _)
   exact ⟨h1.1, h1.2, trivial, trivial⟩
 · have h1 := h _ (.head _)
   have h2 := h _ (.tail _ (.head _))
   exact ⟨h1.1, h1.2, trivial, ⟨h2.1, h2.2, trivial, trivial⟩, trivial⟩
 · have h1 := h _ (.head _)
   have h2 := h _ (.tail _ (.head _))
   exact ⟨h1.1, h1.2, ⟨h2.1, h2.2, trivial, trivial⟩, trivial, trivial⟩
theorem okBs_of {book : Str → Option Its} {Q : Str → Its → Prop} : ∀ {l : List It}, (∀ i ∈ l, okB book Q i) → okBs book Q (Its.of l)
 | [], _ => trivial
 | i :: l, h => ⟨h i (.head _), okBs_of fun j hj => h j (.tail _ hj)⟩
theorem okIs_of {P : Str → Str → Prop} : ∀ {l : List It}, (∀ i ∈ l, okI P i) → okIs P (Its.of l)
 | [], _ => trivial
 | i :: l, h => ⟨h i (.head _), okIs_of fun j hj => h j (.tail _ hj)⟩
theorem lvl_mem {xs : List Int} {l : Int} {i : It} : ∀ {n : Nat}, i ∈ lvl xs l n → ∃ c, c < n ∧ lvN c = l ∧ i = itemOf xs c (iS l)
 | 0, h => by cases h
 | n + 1, h => by
  rw [lvl] at h
  split at h
  · rcases List.mem_append.mp h with h | h
    · obtain ⟨c, h1, h2⟩ := lvl_mem h; exact ⟨c, by lia, h2⟩
    · rw [List.mem_singleton] at h; exact ⟨n, by lia, by assumption, h⟩
  · obtain ⟨c, h1, h2⟩ := lvl_mem h; exact ⟨c, by lia, h2⟩
theorem ents_mem {xs : List Int} {e : Str × It} : ∀ {n : Nat}, e ∈ ents xs n → ∃ c, c < n ∧ e ∈ (itm xs c).ent
 | 0, h => by cases h
 | n + 1, h => by
  rcases List.mem_append.mp h with h | h
  · obtain ⟨c, h1, h2⟩ := ents_mem h; exact ⟨c, by lia, h2⟩
  · exact ⟨n, by lia, h⟩
theorem mem_ents {xs : List Int} {e : Str × It} {c : Nat} (he : e ∈ (itm xs c).ent) : ∀ {n : Nat}, c < n → e ∈ ents xs n
 | 0, h => by lia
 | n + 1, h => by
  rcases Nat.lt_or_ge c n with h1 | h1
  · exact List.mem_append_left _ (mem_ents he h1)
  · have : c = n := by lia
    subst this
    exact List.mem_append_right _ he
theorem uni2 {a b : Str} {i j : It} (h : b ≠ a) {e e' : Str × It} (m : e ∈ [(a, i), (b, j)]) (m' : e' ∈ [(a, i), (b, j)]) (hn : e.1 = e'.1) : e = e' := by
 rcases List.mem_cons.mp m with rfl | m
 · rcases List.mem_cons.mp m' with rfl | m'
   · rfl
   · rw [List.mem_singleton.mp m'] at hn; exact absurd hn.symm h
 · rw [List.mem_singleton.mp m] at hn ⊢
   rcases List.mem_cons.mp m' with rfl | m'
   · exact absurd hn h
   · rw [List.mem_singleton.mp m']
theorem ent_uni {xs : List Int} {c : Nat} {l : Str} (hc : c < 7) {e e' : Str × It} : e ∈ (itemOf xs c l).ent → e' ∈ (itemOf xs c l).ent → e.1 = e'.1 → e = e' :=
 item_ind (P := fun i => e ∈ i.ent → e' ∈ i.ent → e.1 = e'.1 → e = e') (fun _ _ h => nomatch h) (fun _ _ h h' _ => (List.mem_singleton.mp h).trans (List.mem_singleton.mp h').symm) (fun _ _ _ _ _ h h' => uni2 (st_ne tN_ne' hc hc) h h') fun _ _ _ _ _ h h' => uni2 (st_ne tN_ne' hc hc) h h'
theorem ents_uni {xs : List Int} {e e' : Str × It} (h : e ∈ ents xs 7) (h' : e' ∈ ents xs 7) (hn : e.1 = e'.1) : e = e' := by
 obtain ⟨c, hc, h⟩ := ents_mem h
 obtain ⟨c', hc', h'⟩ := ents_mem h'
 by_cases hcc : c = c'
 · subst hcc; exact ent_uni hc h h' hn
 · exfalso
   rcases itm_ent h with h1 | h1 <;> rcases itm_ent h' with h2 | h2 <;> rw [h1, h2] at hn
   · exact ss_ne ⟨c, hc⟩ ⟨c', hc'⟩ (fun e => hcc (by injection e)) hn
   · exact st_ne tN_ne' hc' hc hn.symm
   · exact st_ne tN_ne' hc hc' hn
   · exact tt_ne ⟨c, hc⟩ ⟨c', hc'⟩ (fun e => hcc (by injection e)) hn
theorem book_ent {xs : List Int} {e : Str × It} (h : e ∈ ents xs 7) : bookOf xs e.1 = some (.cons e.2 .nil) := by
 obtain ⟨c, hc, hm⟩ := ents_mem h
 have ps := ps_ne ⟨c, hc⟩
 have ne : ∀ p ∈ [("P0" : Str), "P1", "P2", "Q"], ¬ e.1 = p := fun p hp q => by
  rcases itm_ent hm with h1 | h1
  · exact (ps p hp).1 (q.symm.trans h1)
  · exact (ps p hp).2 (q.symm.trans h1)
 unfold bookOf
 rw [if_neg (ne _ (.head _)), if_neg (ne _ (.tail _ (.head _))), if_neg (ne _ (.tail _ (.tail _ (.head _)))), if_neg (ne _ (.tail _ (.tail _ (.tail _ (.head _)))))]
 cases hf : (ents xs 7).find? (fun e' => e'.1 == e.1) with
 | none => exact absurd (List.find?_eq_none.mp hf e h) (by simp)
 | some e' =>
  have h1 := List.mem_of_find?_eq_some hf
  have h2 := List.find?_some hf
  rw [ents_uni h1 h (eq_of_beq h2)]
  rfl
noncomputable def scOf (xs : List Int) : Sc := ⟨wlOf xs, Its.of (lvl xs 0 7), Its.of (lvl xs 1 7), Its.of (lvl xs 2 7)⟩
theorem lvl0 (xs : List Int) : lvl xs 0 7 = [itemOf xs 0 (iS 0), itemOf xs 1 (iS 0), itemOf xs 2 (iS 0)] := rfl
theorem lvl1 (xs : List Int) : lvl xs 1 7 = [itemOf xs 3 (iS 1), itemOf xs 4 (iS 1)] := rfl
theorem lvl2 (xs : List Int) : lvl xs 2 7 = [itemOf xs 5 (iS 2), itemOf xs 6 (iS 2)] := rfl
noncomputable def Bd (n : Nat) (i : Its) : Prop := i.wt ≤ 4 * n ∧ i.dep ≤ 2 ∧ i.sz ≤ 20 * n ∧ i.len ≤ n
theorem Bd.nil : Bd 0 .nil := ⟨Nat.le_refl _, Nat.zero_le _, Nat.le_refl _, Nat.le_refl _⟩
theorem Bd.cons {n : Nat} {i : It} {r : Its} (h : i.wt ≤ 4 ∧ i.dep ≤ 2 ∧ i.sz ≤ 20) (b : Bd n r) : Bd (n + 1) (.cons i r) :=
 ⟨Nat.le_trans (Nat.add_le_add h.1 b.1) (Nat.le_of_eq (Nat.add_comm _ _)), Nat.max_le.mpr ⟨h.2.1, b.2.1⟩, Nat.le_trans (Nat.add_le_add h.2.2 b.2.2.1) (Nat.le_of_eq (Nat.add_comm _ _)), Nat.succ_le_succ b.2.2.2⟩
theorem Bd.bk {n : Nat} {i : Its} (b : Bd n i) (h : n ≤ 3) : i.dep ≤ 10 ∧ i.sz < 5000 ∧ i.wt ≤ 900 ∧ i.len < 1000 := by
 obtain ⟨a, b, c, d⟩ := b
 exact ⟨by lia, by lia, by lia, by lia⟩
theorem p_bd (xs : List Int) : Bd 3 (scOf xs).p0 ∧ Bd 2 (scOf xs).p1 ∧ Bd 2 (scOf xs).p2 :=
 ⟨.cons (itm_bd xs 0 (iS 0)) (.cons (itm_bd xs 1 (iS 0)) (.cons (itm_bd xs 2 (iS 0)) .nil)), .cons (itm_bd xs 3 (iS 1)) (.cons (itm_bd xs 4 (iS 1)) .nil), .cons (itm_bd xs 5 (iS 2)) (.cons (itm_bd xs 6 (iS 2)) .nil)⟩
theorem sc_ok (xs : List Int) : ScOK (scOf xs) := by
 have b := p_bd xs
 exact ⟨wl_ok xs, b.1.1, b.2.1.1, b.2.2.1, b.1.2.1, b.2.1.2.1, b.2.2.2.1⟩
theorem iS0 : iS 0 = "0" := by decide +kernel
theorem iS1 : iS 1 = "1" := by decide +kernel
theorem iS2 : iS 2 = "2" := by decide +kernel
noncomputable def BkF (φ : Fz) (xs : List Int) (bd : List (MV × MV)) : Prop := isS bd = true ∧ ∀ t its, bookOf xs t = some its → ∃ il vs, lookK (.str t) bd = some (.ref il) ∧ φ.f il = some (.list vs) ∧ RIts φ its vs
structure KOK (φ : Fz) (k : Kw) (xs : List Int) : Prop where
 wd : Wd φ k
 dl : k.dl = (List.range 8).map (deedV xs)
 bd : BkF φ xs k.bd
section
variable {φ : Fz} {k : Kw} {xs : List Int} (o : KOK φ k xs)
include o
theorem KOK.gd {n : Int} (h : 0 ≤ n ∧ n < 8) : GoodJ k (wlOf xs) (iS n) := good_of o.dl h
theorem KOK.okI {c : Nat} {l : Int} {ls : Str} (h : iS l = ls) : okI (OkJ k (scOf xs) ls) (itemOf xs c (iS l)) := itm_ok fun n hn => ⟨o.gd hn, h⟩
theorem KOK.okIs {l : Int} {ls : Str} (h : iS l = ls) : okIs (OkJ k (scOf xs) ls) (Its.of (lvl xs l 7)) := okIs_of fun i hi => by
 obtain ⟨c, _, _, rfl⟩ := lvl_mem hi
 exact o.okI h
theorem KOK.ent {Q : Str → Its → Prop} {l : Int} {ls : Str} (h : iS l = ls) (hq : ∀ e, e ∈ ents xs 7 → Mine.okI (OkJ k (scOf xs) ls) e.2 → e.2.wt ≤ 4 → e.2.dep ≤ 2 → Q e.1 (.cons e.2 .nil)) : okBs (bookOf xs) Q (Its.of (lvl xs l 7)) := okBs_of fun i hi => by
 obtain ⟨c, hc, hl, rfl⟩ := lvl_mem hi
 refine okB_itm fun e he => ?_
 have hm : e ∈ ents xs 7 := mem_ents (c := c) (by show e ∈ (itemOf xs c (iS (lvN c))).ent; rw [hl]; exact he) hc
 have hb := ent_bd (o.okI h) he
 exact ⟨book_ent hm, hq e hm hb.1 hb.2.1 hb.2.2.1⟩
theorem KOK.bk {t : Str} {its : Its} (h : bookOf xs t = some its) : Bk φ k t its := by
 obtain ⟨il, vs, h1, h2, h3⟩ := o.bd.2 t its h
 exact ⟨o.bd.1, il, vs, h1, h2, h3⟩
omit o in
theorem book_bd {t : Str} {its : Its} (h : bookOf xs t = some its) : its.dep ≤ 10 ∧ its.sz < 5000 ∧ its.wt ≤ 900 ∧ its.len < 1000 := by
 have b := p_bd xs
 unfold bookOf at h
 split at h
 · obtain rfl := Option.some.inj h; exact b.1.bk (by decide)
 split at h
 · obtain rfl := Option.some.inj h; exact b.2.1.bk (by decide)
 split at h
 · obtain rfl := Option.some.inj h; exact b.2.2.bk (by decide)
 split at h
 · obtain rfl := Option.some.inj h; decide
 obtain ⟨e, he, rfl⟩ := Option.map_eq_some_iff.mp h
 obtain ⟨c, hc, hm⟩ := ents_mem (List.mem_of_find?_eq_some he)
 have := ent_bd (P := fun _ _ => True) (itm_ok fun _ _ => trivial) hm
 exact (Bd.cons ⟨this.2.1, this.2.2.1, this.2.2.2⟩ .nil).bk (by decide)
theorem KOK.bo : BookOK φ k (bookOf xs) := ⟨fun t its h => ⟨o.bk h, book_bd h⟩⟩
theorem KOK.sb : ScB k (scOf xs) (bookOf xs) where
 b0 := rfl
 b1 := rfl
 b2 := rfl
 bq := rfl
 h0 := o.okIs iS0
 h1 := o.okIs iS1
 h2 := o.okIs iS2
 q0 := o.ent iS0 fun _ _ _ _ _ => trivial
 q1 := o.ent iS1 fun _ _ _ _ _ => trivial
 q2 := o.ent iS2 fun _ _ _ _ _ => trivial
theorem pw_of {n c D T B : Nat} {cl : Str → Cl} {ls : Str} (hn : c + 18 ≤ n + 38) (hT : 4 ≤ T) (hT2 : T * 4 ≤ 500000) (okc : ∀ fr, OkC D T B (cl fr)) (hC : ∀ fr, CW φ k (wlOf xs) c D (1 + 1) fr ls (cl fr))
 {e : Str × It} (he : e ∈ ents xs 7) (hi : Mine.okI (OkJ k (scOf xs) ls) e.2) (hw : e.2.wt ≤ 4) (hd : e.2.dep ≤ 2) : PW n φ k e.1 (D * (Its.cons e.2 .nil).wt) (evN cl (.cons e.2 .nil)) := by
 have hT3 : T * (Its.cons e.2 .nil).wt ≤ T * 4 := Nat.mul_le_mul_left _ (by simpa [Its.wt] using hw)
 refine ⟨⟨_, ?_, run_w o.wd hT okc hC (by decide) (o.bk (book_ent he)) ⟨hi, trivial⟩ (by lia) (by simp [Its.wt]; lia)⟩, (evN_ok hT okc _).gr⟩
 simp only [Its.dep]
 lia
end
noncomputable def Fz.del (φ : Fz) (h : Nat) : Fz := ⟨fun k => if k = h then none else φ.f k, φ.b⟩
theorem nso {o : MO} (h : (none : Option MO) = some o) : False := nomatch h
theorem Hp.back {φ φ' : Fz} {Λ : Lg} {σ σ0 : St} {h : Nat} {o : MO} {Λ0 : Lg} (H0 : Hp φ ((h, o) :: Λ0) σ0) (H : Hp φ' Λ σ) (l : (φ.add h o).le φ') : Hp (φ'.del h) ((h, o) :: Λ) σ ∧ φ.le (φ'.del h) := by
 have hh := l.1 h o (add_at _ _ _)
 have hnone := H0.sep (h, o) (.head _)
 have dl : ∀ {k x}, (φ'.del h).f k = some x → φ'.f k = some x := fun {k x} e => by
  by_cases hk : k = h
  · exact (nso ((if_pos hk).symm.trans e)).elim
  · exact (if_neg hk).symm.trans e
 refine ⟨⟨fun k x e => H.fz k x (dl e), fun p hp => ?_, List.nodup_cons.mpr ⟨fun hm => ?_, H.nod⟩, fun p hp => ?_, H.bd⟩, fun k x e => ?_, l.2⟩
 · rcases List.mem_cons.mp hp with rfl | hp
   · exact H.fz _ _ hh
   · exact H.mem p hp
 · obtain ⟨p, hp, e⟩ := List.mem_map.mp hm
   exact nso ((H.sep p hp).symm.trans ((congrArg φ'.f e).trans hh))
 · rcases List.mem_cons.mp hp with rfl | hp
   · exact if_pos rfl
   · exact (if_neg fun e => nso ((H.sep p hp).symm.trans ((congrArg φ'.f e).trans hh))).trans (H.sep p hp)
 · have hk : k ≠ h := fun q => nso (hnone.symm.trans ((congrArg φ.f q).symm.trans e))
   exact (if_neg hk).trans (l.1 k x ((if_neg hk).trans e))
theorem Wp.frame {φ : Fz} {Λ : Lg} {m : MM MV} {h : Nat} {o : MO} {K : MV → Fz → Lg → Prop} {X : Nat → Fz → Lg → Prop}
 (w : φ.le (φ.add h o) → Wp (φ.add h o) Λ m (fun v φ' Λ' => ∀ φ'', φ.le φ'' → K v φ'' ((h, o) :: Λ')) (fun e φ' Λ' => ∀ φ'', φ.le φ'' → X e φ'' ((h, o) :: Λ'))) : Wp φ ((h, o) :: Λ) m K X := fun σ H => by
 obtain ⟨H', hle⟩ := H.freeze
 refine (w hle σ H').imp fun r => And.imp_right fun q => ?_
 cases r with
 | ok v σ' => obtain ⟨φ', Λ', a, b, c⟩ := q; obtain ⟨H2, l2⟩ := Hp.back H a b; exact ⟨_, _, H2, l2, c _ l2⟩
 | err e σ' => obtain ⟨φ', Λ', a, b, c⟩ := q; obtain ⟨H2, l2⟩ := Hp.back H a b; exact ⟨_, _, H2, l2, c _ l2⟩
theorem Pst.arr {K : Fz → Lg → Prop} {φ : Fz} {Λ : Lg} (f : Lg → Lg) (hf : ∀ {φ Λ σ}, Hp φ Λ σ → Hp φ (f Λ) σ) (w : Pst K φ (f Λ)) : Pst K φ Λ := fun σ H => w σ (hf H)
theorem ops_w {N : Nat} {φ : Fz} {Λ : Lg} {K X} (kk : ∀ φ' op, φ.le φ' → φ'.f op = some (.dict opsD) → K (.ref op) φ' Λ) : Wp φ Λ (callN (N + 1) 76 [] none) K X := by
 refine Wp.post ?_
 have k0 : ∀ op, Pst (K (.ref op)) φ ((op, .dict opsD) :: Λ) := fun op => Pst.fz fun l => Pst.here (kk _ op l (add_at _ _ _))
 exact W9 72 [] [] (fun ν => trivial) rfl (fun ν => k0 (φ.fr (ν 2))) fun ν => by kernel_rfl
noncomputable abbrev hs0 : HS := ⟨0, 0, 0, "top", .none, false, [], 0, 0⟩
theorem host_w {N : Nat} {φ : Fz} {Λ : Lg} {bk de an lg : Nat} {bd : List (MV × MV)} {dl al : List MV} {K X} (hb : φ.f bk = some (.dict bd)) (hd : φ.f de = some (.list dl)) (ha : φ.f an = some (.list al))
 (kk : ∀ φ' k, φ.le φ' → Wd φ' k → k.bk = bk → k.de = de → k.an = an → k.lg = lg → k.dl = dl → k.al = al → k.bd = bd → K (.ref k.ho) φ' (HL k hs0 Λ)) :
 Wp φ ((lg, .list []) :: Λ) (callN (N + 8) 87 [.ref bk, .ref de, .ref an, .ref lg] none) K X := by
 refine Wp.post ?_
 have k0 : ∀ ct fi cm va il tl ho : Nat, Pst (K (.ref ho)) φ ((ct, .list [.int 0, .int 0]) :: (fi, .dict []) :: (cm, .dict (cmdsD ⟨ho, cm, fi, il, tl, va, bk, de, an, lg, ct, dl, al, bd⟩ false)) :: (va, .dict []) :: (il, .dict [(.str "i", .bool true)]) :: (tl, .dict [(.str "book", .ref bk), (.str "run", .fn 84)]) ::
  (ho, hostO ⟨ho, cm, fi, il, tl, va, bk, de, an, lg, ct, dl, al, bd⟩ hs0) :: (lg, .list []) :: Λ) := by
  intro ct fi cm va il tl ho
  generalize hk : (⟨ho, cm, fi, il, tl, va, bk, de, an, lg, ct, dl, al, bd⟩ : Kw) = k
  refine Pst.drops [true, true, true, false] (Pst.arr (front 3) (·.front 3) (Pst.fz fun l1 => Pst.arr (front 3) (·.front 3) (Pst.fz fun l2 => Pst.snk 4 (Pst.snk 2 (Pst.snk 1 (Pst.here ?_))))))
  have h1 := l2.1 _ _ (add_at φ il (.dict [(.str "i", .bool true)]))
  have h2 := add_at (φ.add il (.dict [(.str "i", .bool true)])) tl (.dict [(.str "book", .ref bk), (.str "run", .fn 84)])
  have l := l1.trans l2
  subst hk
  exact kk _ ⟨ho, cm, fi, il, tl, va, bk, de, an, lg, ct, dl, al, bd⟩ l ⟨h2, h1, l.1 _ _ hd, l.1 _ _ ha, l.1 _ _ hb⟩ rfl rfl rfl rfl rfl rfl rfl
 exact W9 13729603682954211007876346360908930701149402507899880945672643134457663320235783118547622595954143723227299018671736628484359949744761009469317514223138668934 [] [] (fun ν => trivial) rfl (fun ν => k0 (φ.fr (ν 359)) (φ.fr (ν 212)) (φ.fr (ν 195)) (φ.fr (ν 178)) (φ.fr (ν 47)) (φ.fr (ν 30)) (φ.fr (ν 5))) fun ν => by kernel_rfl
theorem shals_app {n : Nat} {b : List MV} : ∀ a : List MV, shals (a ++ b) n = (shals a n && shals b n) := fun a => by
 induction a with
 | nil => rfl
 | cons v r ih => rw [List.cons_append, shals, shals, ih, Bool.and_assoc]
noncomputable def okS {α : Type} : Rz α × SS → Prop
 | (.ok _, s) => shals s.log 5 = true
 | (.err x, s) => shals s.log 5 = true ∧ shal x.ec 4 = true
noncomputable def OkS (cl : Cl) : Prop := ∀ j l s, shals s.log 5 = true → okS (cl j l s)
theorem okS.log {α : Type} {r : Rz α × SS} (h : okS r) : shals r.2.log 5 = true := by
 obtain ⟨r, s⟩ := r
 cases r with
 | ok _ => exact h
 | err _ => exact h.1
mutual
theorem evI_S {cl : Cl} (h : OkS cl) : ∀ (i : It) (s : SS), shals s.log 5 = true → okS (evI cl i s)
 | .call j l, s, hs => by rw [evI]; exact h j l s hs
 | .idle, s, hs => by rw [evI]; exact hs
 | .blk loop nm its takes, s, hs => by
  have := evTs_S h its s hs
  rw [evI]
  revert this
  generalize evTs cl its s = q
  obtain ⟨q, s1⟩ := q
  intro this
  cases q with
  | ok ts => exact this
  | err x =>
   show okS (catchR loop takes (.err x), s1)
   unfold catchR
   dsimp only
   split
   · exact this.1
   · exact this
theorem evTs_S {cl : Cl} (h : OkS cl) : ∀ (i : Its) (s : SS), shals s.log 5 = true → okS (evTs cl i s)
 | .nil, s, hs => by rw [evTs]; exact hs
 | .cons i r, s, hs => by
  have h1 := evI_S h i s hs
  rw [evTs]
  revert h1
  generalize evI cl i s = q
  obtain ⟨a, s1⟩ := q
  intro h1
  cases a with
  | err x => exact h1
  | ok t =>
   have h2 := evTs_S h r s1 h1
   dsimp only
   revert h2
   generalize evTs cl r s1 = q
   obtain ⟨a, s2⟩ := q
   intro h2
   cases a with
   | ok ts => exact h2
   | err x => exact h2
end
theorem evL_S {cl : Cl} (h : OkS cl) (its : Its) {s : SS} (hs : shals s.log 5 = true) : okS (evL cl its s) := by
 have := evTs_S h its s hs
 unfold evL
 revert this
 generalize evTs cl its s = q
 obtain ⟨q, s1⟩ := q
 intro this
 cases q with
 | ok ts => exact this
 | err x => exact this
theorem noteX_ec (x : AX) : (noteX x).ec = x.ec := by unfold noteX; split <;> rfl
noncomputable def ecOK : Rz Str → Prop
 | .ok _ => True
 | .err y => shal y.ec 4 = true
theorem endProc_S {x : AX} (h : shal x.ec 4 = true) : ecOK (endProc x) := by
 unfold endProc
 split
 · split
   · exact h
   · split
     · trivial
     · exact h
 · show shal (noteX _).ec 4 = true
   rw [noteX_ec]
   split
   · rfl
   split
   · rfl
   exact h
theorem evC_S {w : Wl} {nx : Str → SS → Rz Str × SS} (h : ∀ fr s, shals s.log 5 = true → okS (nx fr s)) (fr : Str) : OkS (evC w nx fr) := by
 intro j l s hs
 have h1 : ∀ l2 : List MV, shals l2 5 = true → shals (s.log ++ l2) 5 = true := fun l2 e => by rw [shals_app, hs, e]; rfl
 have hc : shals (s.log ++ [callE j l fr]) 5 = true := h1 _ rfl
 unfold evC
 split
 · exact hc
 · exact hc
 · show shals (s.log ++ [callE j l fr] ++ [turnE _ _]) 5 = true
   rw [shals_app, hc]; rfl
 · refine ⟨hc, ?_⟩
   unfold raiseX
   split <;> rfl
 · split
   · rename_i m _ _
     have := h (if m / 2 % 2 = 0 then "f" ++ j else fr) { s with log := s.log ++ [callE j l fr], c1 := s.c1 + 1 } hc
     revert this
     generalize nx (if m / 2 % 2 = 0 then "f" ++ j else fr) { s with log := s.log ++ [callE j l fr], c1 := s.c1 + 1 } = q
     obtain ⟨q, s1⟩ := q
     intro this
     cases q with
     | ok t => exact this
     | err x =>
      show okS (procR m (.err x), s1)
      unfold procR
      dsimp only
      split
      · have h2 := endProc_S this.2
        revert h2
        generalize endProc x = y
        intro h2
        cases y with
        | ok t => exact this.1
        | err y => exact ⟨this.1, h2⟩
      · exact this
   · exact hc
theorem nx0_S (S : Sc) (fr : Str) {s : SS} (hs : shals s.log 5 = true) : okS (S.nx0 fr s) :=
 evL_S (evC_S (fun fr s hs => evL_S (evC_S (fun fr s hs => evL_S (evC_S (fun fr s hs => (show okS (nxD fr s) from hs)) fr) S.p2 hs) fr) S.p1 hs) fr) S.p0 hs
theorem some_beq {α : Type} [BEq α] [LawfulBEq α] (a : α) : some (a == a) = some true := by rw [beq_self_eq_true]
mutual
theorem eqP_self : ∀ (v : MV) (n : Nat), shal v n = true → eqP v v = some true
 | .none, _, _ => rfl
 | .bool b, _, _ => some_beq b
 | .int b, _, _ => some_beq b
 | .str b, _, _ => some_beq b
 | .tup vs, n, h => eqPs_self vs (n - 1) (Bool.and_eq_true_iff.mp h).2
 | .scr _, _, h => nomatch h
 | .ref _, _, h => nomatch h
 | .fn _, _, h => nomatch h
theorem eqPs_self : ∀ (vs : List MV) (n : Nat), shals vs n = true → eqPs vs vs = some true
 | [], _, _ => rfl
 | v :: r, n, h => by
  have h := Bool.and_eq_true_iff.mp h
  rw [eqPs, eqP_self v n h.1]
  exact eqPs_self r n h.2
end
noncomputable def toldV : Rz Str → MV
 | .ok t => .tup [.str "done", .str t]
 | .err x => .tup [.str "raised", .int x.code, .str x.value, x.ec, .int x.level, .int x.ret]
theorem told_sh {r : Rz Str × SS} (h : okS r) : shal (toldV r.1) 5 = true := by
 obtain ⟨r, s⟩ := r
 cases r with
 | ok t => rfl
 | err x =>
  show (true && (true && (true && (shal x.ec 4 && (true && (true && true)))))) = true
  rw [h.2]; rfl
theorem told_eq {r : Rz Str × SS} (h : okS r) : (shal (toldV r.1) 5 && shal (toldV r.1) 5) = true ∧ eqP (toldV r.1) (toldV r.1) = some true := ⟨by rw [told_sh h]; rfl, eqP_self _ 5 (told_sh h)⟩
theorem log_eq {l : List MV} (h : shals l 5 = true) : (shals l 5 && shals l 5) = true ∧ eqPs l l = some true := ⟨by rw [h]; rfl, eqPs_self l 5 h⟩
theorem BkF.le {φ φ' : Fz} {xs : List Int} {bd : List (MV × MV)} (h : BkF φ xs bd) (l : φ.le φ') : BkF φ' xs bd := ⟨h.1, fun t its e => by obtain ⟨il, vs, a, b, c⟩ := h.2 t its e; exact ⟨il, vs, a, l.1 _ _ b, c.le l⟩⟩
theorem KOK.le {φ φ' : Fz} {k : Kw} {xs : List Int} (h : KOK φ k xs) (l : φ.le φ') : KOK φ' k xs := ⟨h.wd.le l, h.dl, h.bd.le l⟩
noncomputable abbrev ss0 : SS := ⟨[], 0, 0⟩
theorem Gd.postC {K0 : MV → Fz → Lg → Prop} {X0 : Nat → Fz → Lg → Prop} {φ : Fz} {f : Nat} {args : List MV} {fr : List Frm} {n : Nat} {hd : Option Nat} {L : Loc} {Λ : Lg} {q : Ac} (w : Pst (fun φ Λ => Gd K0 X0 φ ⟨.C f args, fr, n, hd, L, Λ, q⟩) φ Λ) : Gd K0 X0 φ ⟨.C f args, fr, n, hd, L, Λ, q⟩ := ⟨fun σ H => by
 obtain ⟨φ', Λ', H', l, g⟩ := w σ H
 exact (g.g σ H').imp fun _ => And.imp_right (·.le l)⟩
noncomputable abbrev lawD (p : PS) : PS := p.rest.rest.rest
noncomputable abbrev lawC : PS := (lawD (lawD b_law)).rest.rest.rest.rest.rest.rest
noncomputable abbrev LL (xs : List Int) (bk de an lg ol pl ho m : Nat) (L9 L10 L11 L12 : Option MV) : Loc := [some (.scr xs), some (.ref bk), some (.ref de), some (.ref an), some (.ref lg), some (.ref ol), some (.ref pl), some (.ref ho), some (.ref m), L9, L10, L11, L12]
theorem segC {n : Nat} {xs : List Int} {φ : Fz} {bk de an lg ol pl ho m : Nat} {bd : List (MV × MV)} {K X} (hn : 80 ≤ n) (hb : φ.f bk = some (.dict bd)) (hd : φ.f de = some (.list ((List.range 8).map (deedV xs)))) (han : φ.f an = some (.list (ansL xs))) (hbd : BkF φ xs bd)
 (hlg : φ.f lg = some (.list ((scOf xs).nx0 "top" ss0).2.log)) (hol : φ.f ol = some (.list ((scOf xs).nx0 "top" ss0).2.log)) (kk : ∀ φ Λ, K (.bool true) φ Λ) :
 Gd K X φ ⟨.C 87 [.ref bk, .ref de, .ref an, .ref pl], [.asg 7, .seq lawC], n + 43, none, LL xs bk de an lg ol pl ho m (some (toldV ((scOf xs).nx0 "top" ss0).1)) none (some (toldV ((scOf xs).nx0 "top" ss0).1)) none, [(pl, .list [])], q0⟩ := by
 refine onC 87 (n + 43) none (fun ν => [MV.ref bk, MV.ref de, MV.ref an, MV.ref pl]) (fun ν => [(pl, .list [])]) 1 [] [] (fun ν => trivial) (fun ν => by kernel_rfl) fun ν K' X' kv kx => ?_
 refine host_w (N := n + 35) hb hd han fun φ1 k l1 wd e1 e2 e3 e4 e5 e6 e7 => kv _ _ _ l1 ?_
 subst e1 e2 e3 e4
 have o1 : KOK φ1 k xs := ⟨wd, e5, by rw [e7]; exact hbd.le l1⟩
 have hlg1 := l1.1 _ _ hlg
 have hol1 := l1.1 _ _ hol
 have hS := nx0_S (scOf xs) "top" (s := ss0) rfl
 refine onC 33 (n + 43) none (fun ν' => [MV.ref k.1, MV.str "P0"]) (fun ν' => HL k hs0 []) 72 [] [] (fun ν' => trivial) (fun ν' => by kernel_rfl) fun ν' K'' X'' kv' kx' => ?_
 refine nw0 (S := scOf xs) (dm := 0) o1.wd (goodA_of e6) (sc_ok xs) (o1.bk rfl) o1.sb.h2 (o1.bk rfl) o1.sb.h1 (o1.bk rfl) o1.sb.h0 (by decide) _ (by lia) φ1 hs0 [] _ _ (.refl _) (by decide) (by decide) ?_
 show PK φ1 k hs0 [] ((scOf xs).nx0 "top" ss0) _ _
 revert hlg1 hol1 hS kv' kx'
 generalize (scOf xs).nx0 "top" ss0 = r
 obtain ⟨rz, s⟩ := r
 intro hlg1 hol1 hS kv' kx'
 have tq := told_eq hS
 have lq : (shals s.log 5 && shals s.log 5) = true ∧ eqPs s.log s.log = some true := log_eq hS.log
 cases rz with
 | ok t =>
  intro φ2 p e sp l2
  refine kv' _ _ _ l2 ?_
  have hlg2 : φ2.f lg = some (.list s.log) := l2.1 _ _ hlg1
  have hol2 : φ2.f ol = some (.list s.log) := l2.1 _ _ hol1
  exact o9 20769821298781754982124541366501504 [MO.list s.log, MO.list s.log, MO.list s.log] [] (fun ν'' => (ai lq.right (ai lq.left (ai hlg2 (ai lq.right (ai lq.left (ai hol2 (ai hlg2 (ai tq.right (ai tq.right trivial)))))))))) (fun ν'' => kk φ2 (HL k (hs0.aft s p e sp) [])) fun ν'' => by kernel_rfl
 | err x =>
  intro φ2 p e sp ex t l2
  refine kx' _ _ _ l2 ?_
  have hlg2 : φ2.f lg = some (.list s.log) := l2.1 _ _ hlg1
  have hol2 : φ2.f ol = some (.list s.log) := l2.1 _ _ hol1
  exact o9 1427296696070705370204433357046500761333170694 [MO.list s.log, MO.list s.log, MO.list s.log] [] (fun ν'' => (ai lq.right (ai lq.left (ai hlg2 (ai lq.right (ai lq.left (ai hol2 (ai hlg2 (ai tq.right (ai tq.left (ai tq.right (ai tq.left trivial)))))))))))) (fun ν'' => kk φ2 ((ex, excO x t) :: HL k (hs0.aft s p e sp) [])) fun ν'' => by kernel_rfl
section
variable {n : Nat} {xs : List Int} {φ : Fz} {k : Kw} (o : KOK φ k xs) (hal : k.al = ansL xs) (hn : 80 ≤ n)
include o hal hn
theorem q0B : okBs (bookOf xs) (QP false (PW n φ k) 146 (scOf xs).cl0) (scOf xs).p0 :=
 o.ent iS0 fun e he hi hw hd _ => pw_of o (by lia) (by decide) (by decide) (cl0_ok (sc_ok xs)) (fun fr => cw0 o.wd (goodA_of hal) (sc_ok xs) (o.bk rfl) o.sb.h2 (o.bk rfl) o.sb.h1 (by decide) fr) he hi hw hd
theorem q1B : okBs (bookOf xs) (QP false (PW n φ k) 18 (scOf xs).cl1) (scOf xs).p1 :=
 o.ent iS1 fun e he hi hw hd _ => pw_of o (by lia) (by decide) (by decide) (cl1_ok (sc_ok xs)) (fun fr => cw1 o.wd (goodA_of hal) (sc_ok xs) (o.bk rfl) o.sb.h2 (by decide) fr) he hi hw hd
theorem q2B : okBs (bookOf xs) (QP false (PW n φ k) 2 (scOf xs).cl2) (scOf xs).p2 :=
 o.ent iS2 fun e he hi hw hd _ => pw_of o (by lia) (by decide) (by decide) (cl2_ok (sc_ok xs)) (fun fr => cw2 o.wd (goodA_of hal) (sc_ok xs) _ fr) he hi hw hd
end
noncomputable abbrev lawB : PS := (lawD (lawD b_law)).rest.rest
theorem segB {n : Nat} {xs : List Int} {φ : Fz} {bk de an lg ol pl ho m : Nat} {bd : List (MV × MV)} {K X} (hn : 80 ≤ n) (hb : φ.f bk = some (.dict bd)) (hd : φ.f de = some (.list ((List.range 8).map (deedV xs)))) (han : φ.f an = some (.list (ansL xs))) (hbd : BkF φ xs bd)
 (hlg : φ.f lg = some (.list ((scOf xs).nx0 "top" ss0).2.log)) (kk : ∀ φ Λ, K (.bool true) φ Λ) :
 Gd K X φ ⟨.C 87 [.ref bk, .ref de, .ref an, .ref ol], [.asg 7, .seq lawB], n + 43, none, LL xs bk de an lg ol pl ho m (some (toldV ((scOf xs).nx0 "top" ss0).1)) none none none, [(ol, .list []), (pl, .list [])], q0⟩ := by
 refine onC 87 (n + 43) none (fun ν => [MV.ref bk, MV.ref de, MV.ref an, MV.ref ol]) (fun ν => [(ol, .list []), (pl, .list [])]) 1 [] [] (fun ν => trivial) (fun ν => by kernel_rfl) fun ν K' X' kv kx => ?_
 refine host_w (N := n + 35) hb hd han fun φ1 k l1 wd e1 e2 e3 e4 e5 e6 e7 => kv _ _ _ l1 ?_
 subst e1 e2 e3 e4
 have o1 : KOK φ1 k xs := ⟨wd, e5, by rw [e7]; exact hbd.le l1⟩
 refine onC 76 (n + 43) none (fun ν' => []) (fun ν' => HL k hs0 [(pl, .list [])]) 1 [] [] (fun ν' => trivial) (fun ν' => by kernel_rfl) fun ν' K'' X'' kv' kx' => ?_
 refine ops_w (N := n + 42) fun φ2 op l2 hop => kv' _ _ _ l2 ?_
 have o2 := o1.le l2
 refine onC 15 (n + 43) none (fun ν'' => [MV.ref (φ2.fr (ν'' 9)), MV.str "P0", MV.bool false]) (fun ν'' => ((φ2.fr (ν'' 77)), .dict []) :: ((φ2.fr (ν'' 62)), .list []) :: ((φ2.fr (ν'' 9)), machO k ⟨(φ2.fr (ν'' 9)), op, (φ2.fr (ν'' 62)), (φ2.fr (ν'' 77))⟩ .none 0 (.str "")) :: HL k hs0 [(pl, .list [])]) 85499194752171540998 [] [] (fun ν'' => trivial) (fun ν'' => by kernel_rfl) fun ν'' K''' X''' kv'' kx'' => ?_
 refine Wp.snk 7 (Wp.snk 6 (Wp.snk 5 (code_w (N := n + 15) (q := ⟨φ2.fr (ν'' 9), op, φ2.fr (ν'' 62), φ2.fr (ν'' 77)⟩) o2.wd o2.bo (show bookOf xs "P0" = some (scOf xs).p0 from rfl) (.refl _) ⟨rfl, fun t its b v e e' => by cases e'⟩ (by decide) fun φ3 cc cache' l3 co hc hl => kv'' _ _ _ l3 ?_)))
 have o3 := o2.le l3
 refine onC 25 (n + 43) none (fun ν''' => [MV.ref (φ2.fr (ν'' 9)), MV.ref cc]) (fun ν''' => HL k hs0 (ML k ⟨φ2.fr (ν'' 9), op, φ2.fr (ν'' 62), φ2.fr (ν'' 77)⟩ .none 0 (.str "") [] cache' [(pl, .list [])])) 1 [] [] (fun ν''' => trivial) (fun ν''' => by kernel_rfl) fun ν''' K'''' X'''' kv''' kx''' => ?_
 refine modeB (n := n + 1) (φ0 := φ3) (S := scOf xs) (book := bookOf xs) (q := ⟨φ2.fr (ν'' 9), op, φ2.fr (ν'' 62), φ2.fr (ν'' 77)⟩) (sc_ok xs) o3.wd o3.bo (l3.1 _ _ hop) (goodA_of e6) (.refl _) rfl rfl rfl o3.sb.h0 o3.sb.h1 o3.sb.h2 (q0B o3 e6 (by lia)) (q1B o3 e6 (by lia)) (q2B o3 e6 (by lia)) co rfl rfl hc (Nat.le_trans hl (by decide)) (by decide) ?_
 have hlg3 := ((l1.trans l2).trans l3).1 _ _ hlg
 have hb3 := ((l1.trans l2).trans l3).1 _ _ hb
 have hd3 := ((l1.trans l2).trans l3).1 _ _ hd
 have han3 := ((l1.trans l2).trans l3).1 _ _ han
 have hbd3 := hbd.le ((l1.trans l2).trans l3)
 have rest : ∀ φ4 p e sp st tx cache, φ3.le φ4 → Gd K X φ4 ⟨.C 87 [.ref k.bk, .ref k.de, .ref k.an, .ref pl], [.asg 7, .seq lawC], n + 43, none, LL xs k.bk k.de k.an lg k.lg pl k.ho (φ2.fr (ν'' 9)) (some (toldV ((scOf xs).nx0 "top" ss0).1)) none (some (toldV ((scOf xs).nx0 "top" ss0).1)) none, HL k (hs0.aft ((scOf xs).nx0 "top" ss0).2 p e sp) (ML k ⟨φ2.fr (ν'' 9), op, φ2.fr (ν'' 62), φ2.fr (ν'' 77)⟩ .none st tx [] cache [(pl, .list [])]), q0⟩ :=
  fun φ4 p e sp st tx cache l4 => Gd.postC (Pst.drops [false, false, false, true, false, false, false, false] (Pst.fz fun l5 => Pst.here (segC hn ((l4.trans l5).1 _ _ hb3) ((l4.trans l5).1 _ _ hd3) ((l4.trans l5).1 _ _ han3) (hbd3.le (l4.trans l5)) ((l4.trans l5).1 _ _ hlg3) (add_at _ _ _) kk)))
 show MK φ3 k _ hs0 _ _ ((scOf xs).nx0 "top" ss0) _ _
 revert rest kv''' kx'''
 generalize (scOf xs).nx0 "top" ss0 = r
 obtain ⟨rz, s⟩ := r
 intro kv''' kx''' rest
 cases rz with
 | ok t =>
  intro φ4 p e sp st tx cache l4
  refine kv''' _ _ _ l4 ?_
  have k0 := fun a o => Gd.postC (Λ := (a, o) :: _) (Pst.drops [false] (Pst.here (rest φ4 p e sp st tx cache l4)))
  exact o9 329669622204469432390289740301261 [] [] (fun ν'''' => trivial) (fun ν'''' => (k0 (φ4.fr (ν'''' 30)) (.list [])).g) fun ν'''' => by kernel_rfl
 | err x =>
  intro φ4 p e sp ex t st tx cache l4
  refine kx''' _ _ _ l4 ?_
  have k0 := fun a o => Gd.postC (Λ := (a, o) :: (ex, excO x t) :: _) (Pst.drops [false, false] (Pst.here (rest φ4 p e sp st tx cache l4)))
  exact o9 22654723933970464748328298862623275727487494 [] [] (fun ν'''' => trivial) (fun ν'''' => (k0 (φ4.fr (ν'''' 111)) (.list [])).g) fun ν'''' => by kernel_rfl
theorem Hp.take {φ : Fz} {Λ : Lg} {σ : St} (n : Nat) (H : Hp φ Λ σ) : Hp φ (Λ.take n) σ := H.sub (fun _ h => List.mem_of_mem_take h) (((List.take_sublist n Λ).map _).nodup H.nod)
noncomputable abbrev lawA : PS := (lawD b_law).rest
theorem segA {n : Nat} {xs : List Int} {φ : Fz} {bk de an a0 lg ol pl : Nat} {bd : List (MV × MV)} {K X} (hn : 80 ≤ n) (hx : xs.length ≤ 63) (hb : φ.f bk = some (.dict bd)) (hd : φ.f de = some (.list ((List.range 8).map (deedV xs)))) (hbd : BkF φ xs bd) (kk : ∀ φ Λ, K (.bool true) φ Λ) :
 Gd K X φ ⟨.C 87 [.ref bk, .ref de, .ref a0, .ref lg], [.asg 7, .seq lawA], n + 43, none, [some (.scr xs), some (.ref bk), some (.ref de), some (.ref an), some (.ref lg), some (.ref ol), some (.ref pl), none, none, none, none, none, none], [(a0, .list []), (pl, .list []), (ol, .list []), (lg, .list []), (an, .list (ansL xs))], q0⟩ := by
 refine Gd.postC (Pst.fz fun l1 => Pst.arr (front 3) (·.front 3) (Pst.fz fun l2 => Pst.arr (front 2) (·.front 2) (Pst.here ?_)))
 have han := add_at (φ.add a0 (.list [])) an (.list (ansL xs))
 have ha0 := l2.1 _ _ (add_at φ a0 (.list []))
 have l12 := l1.trans l2
 show Gd K X ((φ.add a0 (.list [])).add an (.list (ansL xs))) ⟨.C 87 [.ref bk, .ref de, .ref a0, .ref lg], [.asg 7, .seq lawA], n + 43, none, [some (.scr xs), some (.ref bk), some (.ref de), some (.ref an), some (.ref lg), some (.ref ol), some (.ref pl), none, none, none, none, none, none], [(lg, .list []), (pl, .list []), (ol, .list [])], q0⟩
 revert han ha0 l12
 generalize (φ.add a0 (.list [])).add an (.list (ansL xs)) = φ1
 intro han ha0 l12
 refine onC 87 (n + 43) none (fun ν => [MV.ref bk, MV.ref de, MV.ref a0, MV.ref lg]) (fun ν => [(lg, .list []), (pl, .list []), (ol, .list [])]) 1 [] [] (fun ν => trivial) (fun ν => by kernel_rfl) fun ν K' X' kv kx => ?_
 refine host_w (N := n + 35) (l12.1 _ _ hb) (l12.1 _ _ hd) ha0 fun φ2 k l3 wd e1 e2 e3 e4 e5 e6 e7 => kv _ _ _ l3 ?_
 subst e1 e2 e4
 have o1 : KOK φ2 k xs := ⟨wd, e5, by rw [e7]; exact hbd.le (l12.trans l3)⟩
 refine onC 76 (n + 43) none (fun ν' => []) (fun ν' => HL k hs0 [(pl, .list []), (ol, .list [])]) 1 [] [] (fun ν' => trivial) (fun ν' => by kernel_rfl) fun ν' K'' X'' kv' kx' => ?_
 refine ops_w (N := n + 42) fun φ3 op l4 hop => kv' _ _ _ l4 ?_
 refine onC 76 (n + 43) none (fun ν'' => []) (fun ν'' => ((φ3.fr (ν'' 77)), .dict []) :: ((φ3.fr (ν'' 62)), .list []) :: ((φ3.fr (ν'' 9)), machO k ⟨(φ3.fr (ν'' 9)), op, (φ3.fr (ν'' 62)), (φ3.fr (ν'' 77))⟩ .none 0 (.str "")) :: HL k hs0 [(pl, .list []), (ol, .list [])]) 1335924915871711750 [] [] (fun ν'' => trivial) (fun ν'' => by kernel_rfl) fun ν'' K''' X''' kv'' kx'' => ?_
 refine ops_w (N := n + 42) fun φ4 op2 l5 hop2 => kv'' _ _ _ l5 ?_
 refine onC 77 (n + 43) none (fun ν''' => [.scr xs, .int ((16 : Nat) : Int)]) (fun ν''' => ((φ4.fr (ν''' 77)), .dict []) :: ((φ4.fr (ν''' 62)), .list []) :: ((φ4.fr (ν''' 9)), machO k ⟨(φ4.fr (ν''' 9)), op2, (φ4.fr (ν''' 62)), (φ4.fr (ν''' 77))⟩ .none 0 (.str "")) :: (φ3.fr (ν'' 77), .dict []) :: (φ3.fr (ν'' 62), .list []) :: (φ3.fr (ν'' 9), machO k ⟨φ3.fr (ν'' 9), op, φ3.fr (ν'' 62), φ3.fr (ν'' 77)⟩ .none 0 (.str "")) :: HL k hs0 [(pl, .list []), (ol, .list [])]) 1335924915871711750 [] [] (fun ν''' => trivial) (fun ν''' => by kernel_rfl) fun ν''' K'''' X'''' kv''' kx''' => ?_
 refine cell_w hx (by decide) (kv''' _ _ _ (.refl _) ?_)
 refine onC 88 (n + 43) none (fun ν'''' => [.ref k.ho, .ref (φ3.fr (ν'' 9)), .ref (φ4.fr (ν''' 9)), .ref k.lg, .ref an, .int ((cell xs 16 + 1) % 2 ^ 40)]) (fun ν'''' => (φ4.fr (ν''' 77), .dict []) :: (φ4.fr (ν''' 62), .list []) :: (φ4.fr (ν''' 9), machO k ⟨φ4.fr (ν''' 9), op2, φ4.fr (ν''' 62), φ4.fr (ν''' 77)⟩ .none 0 (.str "")) :: (φ3.fr (ν'' 77), .dict []) :: (φ3.fr (ν'' 62), .list []) :: (φ3.fr (ν'' 9), machO k ⟨φ3.fr (ν'' 9), op, φ3.fr (ν'' 62), φ3.fr (ν'' 77)⟩ .none 0 (.str "")) :: HL k hs0 [(pl, .list []), (ol, .list [])]) 4096 [] [] (fun ν'''' => trivial) (fun ν'''' => by kernel_rfl) fun ν'''' K''''' X''''' kv'''' kx'''' => ?_
 have lt := (l3.trans l4).trans l5
 have rest : ∀ φ6 h st tx cache R, φ4.le φ6 → h.log = ((scOf xs).nx0 "top" ss0).2.log → Gd K X φ6 ⟨.C 87 [.ref k.bk, .ref k.de, .ref an, .ref ol], [.asg 7, .seq lawB], n + 43, none, LL xs k.bk k.de an k.lg ol pl k.ho (φ3.fr (ν'' 9)) (some (toldV ((scOf xs).nx0 "top" ss0).1)) none none none, (pl, .list []) :: (ol, .list []) :: HL k h (ML k ⟨φ3.fr (ν'' 9), op, φ3.fr (ν'' 62), φ3.fr (ν'' 77)⟩ .none st tx [] cache R), q0⟩ := by
  intro φ6 h st tx cache R l6 hl
  refine Gd.postC (Pst.arr (List.take 7) (·.take 7) (Pst.drops [true, true, false, false, false, true, false] (Pst.arr (front 2) (·.front 2) (Pst.fz fun l7 => Pst.snk 1 (Pst.here ?_)))))
  have l := (l5.trans l6).trans l7
  exact segB hn ((l3.trans (l4.trans l)).1 _ _ (l12.1 _ _ hb)) ((l3.trans (l4.trans l)).1 _ _ (l12.1 _ _ hd)) ((l3.trans (l4.trans l)).1 _ _ han) (hbd.le (l12.trans (l3.trans (l4.trans l)))) (hl ▸ add_at _ _ _) kk
 refine Wp.arr (Λ' := (pl, .list []) :: (ol, .list []) :: HL k hs0 (ML k ⟨φ3.fr (ν'' 9), op, φ3.fr (ν'' 62), φ3.fr (ν'' 77)⟩ .none 0 (.str "") [] [] (ML k ⟨φ4.fr (ν''' 9), op2, φ4.fr (ν''' 62), φ4.fr (ν''' 77)⟩ .none 0 (.str "") [] [] []))) (fun Λ => front 12 (front 12 (sink 5 (sink 6 (sink 7 (sink 8 (sink 9 (sink 10 Λ)))))))) (fun H => (((((((H.sink _).sink _).sink _).sink _).sink _).sink _).front _).front _) (by kernel_rfl) ?_
 refine Wp.frame fun l6 => Wp.frame fun l7 => ?_
 have l67 := l6.trans l7
 have o2 := o1.le ((l4.trans l5).trans l67)
 refine modeA (S := scOf xs) (book := bookOf xs) (al2 := ansL xs) (q := ⟨φ3.fr (ν'' 9), op, φ3.fr (ν'' 62), φ3.fr (ν'' 77)⟩) (q2 := ⟨φ4.fr (ν''' 9), op2, φ4.fr (ν''' 62), φ4.fr (ν''' 77)⟩) (sc_ok xs) o2.wd o2.bo ((l5.trans l67).1 _ _ hop) (l67.1 _ _ hop2) e6 o2.sb ((lt.trans l67).1 _ _ han) rfl (ans_idx xs) rfl rfl rfl ?_
 show match (scOf xs).nx0 "top" ss0 with
  | (.ok t, s) => _
  | (.err x, s) => _
 revert rest
 generalize (scOf xs).nx0 "top" ss0 = r
 obtain ⟨rz, s⟩ := r
 intro rest
 cases rz with
 | ok t =>
  intro φ5 co p e sp st tx cache R _ φ6 _ φ7 l8
  refine kv'''' _ _ _ l8 ?_
  have k0 := fun a o => Gd.postC (Λ := (a, o) :: _) (Pst.drops [false] (Pst.here (rest φ7 (({ hs0 with co := co } : HS).aft { s with c0 := 0 } p e sp) st tx cache R l8 rfl)))
  exact o9 86420913445644314965396787670238135375 [] [] (fun ν''''' => trivial) (fun ν''''' => (k0 (φ7.fr (ν''''' 30)) (.list [])).g) fun ν''''' => by kernel_rfl
 | err x =>
  intro φ5 co p e sp ex t st tx cache R _ φ6 _ φ7 l8
  refine kx'''' _ _ _ l8 ?_
  have k0 := fun a o => Gd.postC (Λ := (a, o) :: (pl, _) :: (ol, _) :: (ex, excO x t) :: _) (Pst.drops [false, true, true, false] (Pst.here (rest φ7 (({ hs0 with co := co } : HS).aft { s with c0 := 0 } p e sp) st tx cache R l8 rfl)))
  exact o9 5938799951116894694604704275925624081068784657030 [] [] (fun ν''''' => trivial) (fun ν''''' => (k0 (φ7.fr (ν''''' 111)) (.list [])).g) fun ν''''' => by kernel_rfl
theorem law_w {n : Nat} {xs : List Int} (hn : 80 ≤ n) (hx : xs.length ≤ 63) : Wp ⟨fun _ => none, 0⟩ [] (callN (n + 44) 90 [.scr xs] none) (fun v _ _ => v = .bool true) (fun _ _ _ => False) := by
 have hz : decide ((cell xs 15 % 10 ^ 9).natAbs < 10 ^ 10) = true := decide_eq_true (by lia)
 have hzs : decide (("z" : Str).length + (iS (cell xs 15 % 10 ^ 9)).length ≤ LIM) = true := by
  have := iS_len (i := cell xs 15 % 10 ^ 9) (by lia) (by lia)
  have e : ("z" : Str).length = 1 := rfl
  exact decide_eq_true (by rw [e]; unfold LIM; lia)
 refine walkC 79 (n + 43) none (fun ν => [MV.scr xs]) (fun ν => []) 1 [] [] (fun ν => trivial) rfl (fun ν => by kernel_rfl) fun ν K' X' kv kx => ?_
 refine book_w hx fun φ1 bk bd l1 hbk hS hbd => kv _ _ _ l1 ?_
 refine onC 80 (n + 43) none (fun ν' => [MV.scr xs]) (fun ν' => []) 1 [] [] (fun ν' => trivial) (fun ν' => by kernel_rfl) fun ν' K'' X'' kv' kx' => ?_
 refine deeds_w hx fun φ2 de l2 hde => kv' _ _ _ l2 ?_
 refine onC 77 (n + 43) none (fun ν'' => [.scr xs, .int ((15 : Nat) : Int)]) (fun ν'' => []) 1 [] [] (fun ν'' => trivial) (fun ν'' => by kernel_rfl) fun ν'' K''' X''' kv'' kx'' => ?_
 refine cell_w hx (by decide) (kv'' _ _ _ (.refl _) ?_)
 have k0 := fun an a0 lg ol pl => segA (an := an) (a0 := a0) (lg := lg) (ol := ol) (pl := pl) (K := fun v _ _ => v = .bool true) (X := fun _ _ _ => False) hn hx (l2.1 _ _ hbk) hde (BkF.le ⟨hS, hbd⟩ l2) fun _ _ => rfl
 exact o9 17309696 [] [] (fun ν''' => (ai hzs (ai hz trivial))) (fun ν''' => (k0 (φ2.fr (ν''' 39)) (φ2.fr (ν''' 86)) (φ2.fr (ν''' 49)) (φ2.fr (ν''' 55)) (φ2.fr (ν''' 61))).g) fun ν''' => by kernel_rfl
theorem law_true (xs : List Int) (hx : xs.length ≤ 63) : ∃ n σ', n ≤ 200 ∧ callN (n + 1) 90 [.scr xs] none [] (.ok (.bool true) σ') := by
 have H : Hp ⟨fun _ => none, 0⟩ [] [] := ⟨fun _ _ h => (nomatch h), fun _ h => (nomatch h), List.nodup_nil, fun _ h => (nomatch h), Nat.le_refl _⟩
 obtain ⟨r, h, o⟩ := law_w (n := 80) (Nat.le_refl _) hx [] H
 cases r with
 | ok v σ' => obtain ⟨_, _, _, _, rfl⟩ := o; exact ⟨80 + 43, σ', by decide, h⟩
 | err e σ' => obtain ⟨_, _, _, _, h⟩ := o; exact h.elim
end
end Mine
namespace MH
open PySem PySem.W PyProof.Rows
noncomputable abbrev rwR : RowW := OpenRow.toRowW (OpenLaw.row PySem.Challenge.rw_pb0568_01)
noncomputable abbrev rwP : Program := rwR.prog
noncomputable def rwB : List Stmt := behindTheImports rwP
noncomputable def nthS : Nat → List Stmt → Stmt
 | _, [] => .Pass ⟨0, 0, 0, 0⟩
 | 0, s :: _ => s
 | n + 1, _ :: r => nthS n r
noncomputable def partS : Stmt → Str × Arguments × List Stmt × Scope
 | .FunctionDef n a b _ _ _ s _ _ _ => (n, a, b, s)
 | .ClassDef n _ _ b _ _ s _ _ _ _ => (n, ⟨[], [], none, [], [], none, []⟩, b, s)
 | _ => (Str.empty, ⟨[], [], none, [], [], none, []⟩, [], ⟨.module, [], false, false, []⟩)
noncomputable def stm (c : Nat) : Stmt := bif Nat.beq (c % 100) 99 then nthS (c / 100) rwB else nthS (c % 100) (partS (nthS (c / 100) rwB)).2.2.1
noncomputable def hS (s : String) (n : Nat) : Value := .str (Str.ofString s) n
noncomputable def hI (i : Int) (n : Nat) : Value := .int i n
noncomputable def hR (a : Nat) : Value := .ref a
noncomputable def hB (s : String) : Value := .builtin s
noncomputable def hY (s : String) : Value := .type s
noncomputable def hE (P : Params) (k : String) (n : Nat) (v : Value) : DictEntry := ⟨PyData.keyHash P (Str.ofString k), .str (Str.ofString k) n, v⟩
noncomputable def hQ (t : String) (n : Nat) (l : List Value) : Obj := ⟨.type t, none, .seq l.toArray n, #[]⟩
noncomputable def hTs : Nat → List String → List Value
 | _, [] => []
 | n, s :: r => hS s n :: hTs (n + 1) r
noncomputable def hT (e n : Nat) (l : List String) : Obj := hQ "tuple" e (hTs n l)
noncomputable def hF (t : String) (l : List Value) : Obj := ⟨.type t, none, .fields l.toArray, #[]⟩
noncomputable def h0s : List (Nat × Nat × Nat) → List Value
 | [] => []
 | p :: r => hI p.1 0 :: hI p.2.1 0 :: hR p.2.2 :: h0s r
noncomputable def h0 (l : List (Nat × Nat × Nat)) : Obj := ⟨.none, none, .fields (h0s l).toArray, #[]⟩
noncomputable def hD (t : String) (n : Nat) (l : List DictEntry) : Obj := ⟨.type t, none, .dict l.toArray n, #[]⟩
noncomputable def hU (t : String) (f : FuncData) : Obj := ⟨.type t, none, .func f, #[]⟩
noncomputable def hK (t : String) (c : ClassData) (l : List (Option Value)) : Obj := ⟨.type t, none, .cls c, l.toArray⟩
noncomputable def hG (t : String) (l : List (Option Value)) : Obj := ⟨.type t, none, .plain, l.toArray⟩
noncomputable def fd (c : Nat) (q : String) (g : Nat) (d m k : Value) : FuncData :=
 ⟨(partS (stm c)).1, Str.ofString q, (partS (stm c)).2.1, .stmts (partS (stm c)).2.2.1, (partS (stm c)).2.2.2, g, [], d, .none, .none, m, none, k, .none, 0⟩
noncomputable def fb (b c : Nat) (q : String) (n line argc : Nat) (d m : Value) (l : List String) (r : List Obj) : List Obj :=
 hQ "tuple" 0 [] :: h0 [] :: hT 0 (n + 3) l :: hQ "tuple" 0 [] :: ⟨.none, none, .func (fd c q 0 .none .none .none), #[]⟩ ::
 hF "code" [.str (partS (stm c)).1 n, hS q (n + 1), hS "/claim/cut.py" (n + 2), hI line 0, hI argc 0, hI 0 0, hI 0 0, hI 3 0, hR b, .bool true, hI 181 0, hR (b + 1), .none, hR (b + 2), hR (b + 3), hR (b + 4), hI (n + 3 + l.length : Nat) 0, hI line 0, hS "/claim/cut.py" (n + 4 + l.length)] ::
 hU "function" (fd c q 3 d m (hR (b + 5))) :: r
noncomputable def alt {α : Type} : List α → List α × List α := fun l => List.rec ([], []) (fun a _ p => (a :: p.2, p.1)) l
noncomputable def bt : Nat → List Obj → BT := fun n => Nat.rec (fun _ => .nil) (fun _ f l => match l with | [] => .nil | a :: r => .node a (f (alt r).1) (f (alt r).2)) n
noncomputable def m3 (P : Params) : List DictEntry := [(hE P "__name__" 165 (hS "law_pb0568_01" 1235)), (hE P "__doc__" 166 .none), (hE P "__package__" 167 .none), (hE P "__loader__" 168 (hB "__main__.__loader__#opaque")), (hE P "__spec__" 169 .none), (hE P "__annotations__" 170 (hR 6)), (hE P "__builtins__" 171 (hR 4)), (hE P "__file__" 173 (hS "/claim/cut.py" 172)), (hE P "__cached__" 174 .none), (hE P "_wall" 193 (hR 21)), (hE P "TclFault" 224 (hR 38)), (hE P "Misused" 240 (hR 51)), (hE P "OutOfFuel" 256 (hR 63)), (hE P "Raised" 300 (hR 84)), (hE P "Nest" 336 (hR 105)), (hE P "Pause" 367 (hR 126)), (hE P "error" 376 (hR 139)), (hE P "cut" 384 (hR 146)), (hE P "note" 392 (hR 153)), (hE P "note_row" 400 (hR 160)), (hE P "end_return" 407 (hR 167)), (hE P "end_proc" 417 (hR 174)), (hE P "Act" 455 (hR 191)), (hE P "taker" 471 (hR 202)), (hE P "note_source" 483 (hR 209)), (hE P "Machine" 619 (hR 296)), (hE P "run_code" 631 (hR 307)), (hE P "Code" 670 (hR 324)), (hE P "Coroutine" 709 (hR 345)), (hE P "Var" 744 (hR 366)), (hE P "Host" 858 (hR 451)), (hE P "no_variable" 867 (hR 462)), (hE P "var_in" 875 (hR 469)), (hE P "put_value" 884 (hR 476)), (hE P "elements_in" 894 (hR 483)), (hE P "act" 904 (hR 490)), (hE P "SmallHost" 1055 (hR 607)), (hE P "set_slot" 1067 (hR 616)), (hE P "taken" 1077 (hR 623)), (hE P "op_push" 1087 (hR 630)), (hE P "op_pop" 1097 (hR 637)), (hE P "op_load" 1107 (hR 644)), (hE P "op_load_name" 1117 (hR 651)), (hE P "op_load_element" 1127 (hR 658)), (hE P "op_store" 1138 (hR 665)), (hE P "op_store_name" 1148 (hR 672)), (hE P "op_store_element" 1160 (hR 679)), (hE P "op_join" 1171 (hR 686)), (hE P "call" 1179 (hR 693)), (hE P "op_invoke" 1189 (hR 700)), (hE P "go" 1198 (hR 707)), (hE P "op_start" 1208 (hR 714)), (hE P "op_jump" 1218 (hR 721)), (hE P "op_fail" 1228 (hR 728)), (hE P "plain_ops" 1234 (hR 735)), (hE P "_law_cell" 1244 (hR 742)), (hE P "_law_item" 1259 (hR 749)), (hE P "_law_book" 1271 (hR 756)), (hE P "_law_deeds" 1283 (hR 763)), (hE P "_law_rows" 1299 (hR 770)), (hE P "_law_maker" 1310 (hR 777)), (hE P "_law_items" 1321 (hR 784)), (hE P "_law_plain" 1329 (hR 791)), (hE P "_law_idle" 1337 (hR 798)), (hE P "_law_deed" 1356 (hR 805)), (hE P "_law_host" 1367 (hR 812)), (hE P "_law_turns" 1386 (hR 819)), (hE P "_law_told" 1393 (hR 826)), (hE P "law" 1412 (hR 833))]
noncomputable def m12 : List (Nat × Nat × Nat) := [(1,0,20), (5,0,27), (10,0,47), (12,0,59), (14,0,71), (27,0,93), (34,0,115), (39,0,138), (41,0,145), (45,0,152), (53,0,159), (60,0,166), (68,0,173), (83,0,180), (93,0,201), (100,0,208), (106,0,215), (214,0,306), (228,0,313), (237,0,334), (249,0,355), (259,0,376), (324,0,461), (327,0,468), (331,0,475), (336,0,482), (342,0,489), (346,0,496), (409,0,615), (413,0,622), (418,0,629), (420,0,636), (422,0,643), (424,0,650), (426,0,657), (428,0,664), (431,0,671), (433,0,678), (436,0,685), (439,0,692), (444,0,699), (446,0,706), (450,0,713), (458,0,720), (460,0,727), (464,0,734), (467,0,741), (469,0,748), (483,0,755), (495,0,762), (503,0,769), (524,0,776), (528,0,783), (543,0,790), (545,0,797), (547,0,804), (573,0,811), (582,0,818), (602,0,825), (604,0,832)]
noncomputable def c0 (P : Params) (r : List Obj) : List Obj := boot_o_0 P :: boot_o_1 P :: (Obj.mk .none none (Data.dict #[(hE P "type.__subclasses__.Exception.0" 221 (hI 38 0)), (hE P "type.__subclasses__.Exception.n" 222 (hI 2 0)), (hE P "type.__subclasses__.Exception.1" 297 (hI 84 0))] 3) #[]) :: (hD "dict" 69 (m3 P)) :: boot_o_4 P :: boot_o_5 P :: boot_o_6 P :: boot_o_7 P :: boot_o_8 P :: boot_o_9 P :: boot_o_10 P :: (hQ "tuple" 0 []) :: (h0 m12) :: (hF "code" [(hS "<module>" 182), (hS "<module>" 183), (hS "/claim/cut.py" 184), (hI 1 0), (hI 0 0), (hI 0 0), (hI 0 0), (hI 0 0), (hR 11), (.bool false), (hI 181 0), (hR 12), .none, .none, .none, .none, (hI 185 0), (hI 1 0), (hS "/claim/cut.py" 186)]) :: (hG "frame" [(some (hR 13)), (some (hR 3)), (some (hR 3)), none, (some (hS "__main__" 164)), none, (some (hR 0))]) :: (fb 15 99 "_wall" 187 1 1 .none (hS "__main__" 164) ["k"] ((hQ "tuple" 0 [(hY "Exception")]) :: (hF "builtin_function_or_method" [(hB "type.__prepare__"), (hY "type")]) :: (hD "dict" 5 [(hE P "__module__" 203 (hS "tclcore.faults" 194)), (hE P "__qualname__" 205 (hS "TclFault" 204)), (hE P "__firstlineno__" 207 (hI 5 206)), (hE P "__init__" 215 (hR 35)), (hE P "__static_attributes__" 217 (hR 36))]) :: (hQ "tuple" 0 []) :: (h0 [(7,4,34)]) :: (hF "code" [(hS "TclFault" 198), (hS "TclFault" 199), (hS "/claim/cut.py" 200), (hI 5 0), (hI 0 0), (hI 0 0), (hI 0 0), (hI 0 0), (hR 25), (.bool false), (hI 181 0), (hR 26), .none, .none, .none, .none, (hI 201 0), (hI 5 0), (hS "/claim/cut.py" 202)]) :: (hG "frame" [(some (hR 27)), (some (hR 3)), (some (hR 24)), none, (some (hS "tclcore.faults" 194)), none, (some (hR 0))]) :: (fb 29 200 "TclFault.__init__" 208 7 2 .none (hS "tclcore.faults" 194) ["self", "why"] ((hT 0 216 ["why"]) :: (hD "dict" 3 [(hE P "__module__" 203 (hS "tclcore.faults" 194)), (hE P "__firstlineno__" 207 (hI 5 206)), (hE P "__init__" 215 (hR 35)), (hE P "__static_attributes__" 217 (hR 36)), (hE P "__weakref__" 219 (hR 39)), (hE P "__doc__" 220 .none)]) :: (hK "type" (ClassData.mk "TclFault" [(hY "Exception")] [(hR 38), (hY "Exception"), (hY "BaseException"), (hY "object")] 37 "TclFault" true [] [(hR 51), (hR 63)] false none false) [(some (hR 22)), none, (some (hS "TclFault" 196)), (some (hS "TclFault" 204)), (some (hB "Exception.__new__")), (some (.bool true))]) :: (hF "getset_descriptor" [(hS "__weakref__" 218), (hR 38), (hB "ExceptionGroup.__weakref__"), .none]) :: (hF "super" [(hR 38), (hR 38), (hR 38)]) :: (hF "builtin_function_or_method" [(hB "object.__init_subclass__"), (hR 38)]) :: (hQ "tuple" 0 [(hR 38)]) :: (hF "builtin_function_or_method" [(hB "type.__prepare__"), (hY "type")]) :: (hD "dict" 4 [(hE P "__module__" 232 (hS "tclcore.faults" 194)), (hE P "__qualname__" 234 (hS "Misused" 233)), (hE P "__firstlineno__" 236 (hI 10 235)), (hE P "__static_attributes__" 237 (hR 49))]) :: (hQ "tuple" 0 []) :: (h0 []) :: (hF "code" [(hS "Misused" 227), (hS "Misused" 228), (hS "/claim/cut.py" 229), (hI 10 0), (hI 0 0), (hI 0 0), (hI 0 0), (hI 0 0), (hR 45), (.bool false), (hI 181 0), (hR 46), .none, .none, .none, .none, (hI 230 0), (hI 10 0), (hS "/claim/cut.py" 231)]) :: (hG "frame" [(some (hR 47)), (some (hR 3)), (some (hR 44)), none, (some (hS "tclcore.faults" 194)), none, (some (hR 0))]) :: (hQ "tuple" 0 []) :: (hD "dict" 2 [(hE P "__module__" 232 (hS "tclcore.faults" 194)), (hE P "__firstlineno__" 236 (hI 10 235)), (hE P "__static_attributes__" 237 (hR 49)), (hE P "__doc__" 238 .none)]) :: (hK "type" (ClassData.mk "Misused" [(hR 38)] [(hR 51), (hR 38), (hY "Exception"), (hY "BaseException"), (hY "object")] 50 "Misused" true [] [] false none false) [(some (hR 42)), none, (some (hS "Misused" 225)), (some (hS "Misused" 233)), (some (hB "Exception.__new__")), (some (.bool true))]) :: (hF "super" [(hR 51), (hR 51), (hR 51)]) :: (hF "builtin_function_or_method" [(hB "object.__init_subclass__"), (hR 51)]) :: (hQ "tuple" 0 [(hR 38)]) :: (hF "builtin_function_or_method" [(hB "type.__prepare__"), (hY "type")]) :: (hD "dict" 4 [(hE P "__module__" 248 (hS "tclcore.faults" 194)), (hE P "__qualname__" 250 (hS "OutOfFuel" 249)), (hE P "__firstlineno__" 252 (hI 12 251)), (hE P "__static_attributes__" 253 (hR 61))]) :: (hQ "tuple" 0 []) :: (h0 []) :: (hF "code" [(hS "OutOfFuel" 243), (hS "OutOfFuel" 244), (hS "/claim/cut.py" 245), (hI 12 0), (hI 0 0), (hI 0 0), (hI 0 0), (hI 0 0), (hR 57), (.bool false), (hI 181 0), (hR 58), .none, .none, .none, .none, (hI 246 0), (hI 12 0), (hS "/claim/cut.py" 247)]) :: (hG "frame" [(some (hR 59)), (some (hR 3)), (some (hR 56)), none, (some (hS "tclcore.faults" 194)), none, (some (hR 0))]) :: (hQ "tuple" 0 []) :: (hD "dict" 2 [(hE P "__module__" 248 (hS "tclcore.faults" 194)), (hE P "__firstlineno__" 252 (hI 12 251)), (hE P "__static_attributes__" 253 (hR 61)), (hE P "__doc__" 254 .none)]) :: (hK "type" (ClassData.mk "OutOfFuel" [(hR 38)] [(hR 63), (hR 38), (hY "Exception"), (hY "BaseException"), (hY "object")] 62 "OutOfFuel" true [] [] false none false) [(some (hR 54)), none, (some (hS "OutOfFuel" 241)), (some (hS "OutOfFuel" 249)), (some (hB "Exception.__new__")), (some (.bool true))]) :: (hF "super" [(hR 63), (hR 63), (hR 63)]) :: (hF "builtin_function_or_method" [(hB "object.__init_subclass__"), (hR 63)]) :: (hQ "tuple" 0 [(hY "Exception")]) :: (hF "builtin_function_or_method" [(hB "type.__prepare__"), (hY "type")]) :: (hD "dict" 5 [(hE P "__module__" 264 (hS "tclcore.faults" 194)), (hE P "__qualname__" 266 (hS "Raised" 265)), (hE P "__firstlineno__" 268 (hI 14 267)), (hE P "__init__" 283 (hR 81)), (hE P "__static_attributes__" 293 (hR 82))]) :: (hQ "tuple" 0 []) :: (h0 [(16,4,80)]) :: (hF "code" [(hS "Raised" 259), (hS "Raised" 260), (hS "/claim/cut.py" 261), (hI 14 0), (hI 0 0), (hI 0 0), (hI 0 0), (hI 0 0), (hR 69), (.bool false), (hI 181 0), (hR 70), .none, .none, .none, .none, (hI 262 0), (hI 14 0), (hS "/claim/cut.py" 263)]) :: r))))
noncomputable def c1 (P : Params) (r : List Obj) : List Obj := (hG "frame" [(some (hR 71)), (some (hR 3)), (some (hR 68)), none, (some (hS "tclcore.faults" 194)), none, (some (hR 0))]) :: (hT 0 269 ["NONE"]) :: (hQ "tuple" 0 [(hR 73), (hI 0 270), (hI 0 271)]) :: (fb 75 500 "Raised.__init__" 272 16 6 (hR 74) (hS "tclcore.faults" 194) ["self", "code", "value", "errorcode", "level", "ret"] ((hT 0 284 ["code", "errorcode", "extra", "info", "is_noted", "level", "line", "ret", "value"]) :: (hD "dict" 3 [(hE P "__module__" 264 (hS "tclcore.faults" 194)), (hE P "__firstlineno__" 268 (hI 14 267)), (hE P "__init__" 283 (hR 81)), (hE P "__static_attributes__" 293 (hR 82)), (hE P "__weakref__" 295 (hR 85)), (hE P "__doc__" 296 .none)]) :: (hK "type" (ClassData.mk "Raised" [(hY "Exception")] [(hR 84), (hY "Exception"), (hY "BaseException"), (hY "object")] 83 "Raised" true [] [] false none false) [(some (hR 66)), none, (some (hS "Raised" 257)), (some (hS "Raised" 265)), (some (hB "Exception.__new__")), (some (.bool true))]) :: (hF "getset_descriptor" [(hS "__weakref__" 294), (hR 84), (hB "ExceptionGroup.__weakref__"), .none]) :: (hF "super" [(hR 84), (hR 84), (hR 84)]) :: (hF "builtin_function_or_method" [(hB "object.__init_subclass__"), (hR 84)]) :: (hQ "tuple" 0 []) :: (hF "builtin_function_or_method" [(hB "type.__prepare__"), (hY "type")]) :: (hD "dict" 5 [(hE P "__module__" 308 (hS "tclcore.faults" 194)), (hE P "__qualname__" 310 (hS "Nest" 309)), (hE P "__firstlineno__" 312 (hI 27 311)), (hE P "__init__" 324 (hR 102)), (hE P "__static_attributes__" 329 (hR 103))]) :: (hQ "tuple" 0 []) :: (h0 [(29,4,101)]) :: (hF "code" [(hS "Nest" 303), (hS "Nest" 304), (hS "/claim/cut.py" 305), (hI 27 0), (hI 0 0), (hI 0 0), (hI 0 0), (hI 0 0), (hR 91), (.bool false), (hI 181 0), (hR 92), .none, .none, .none, .none, (hI 306 0), (hI 27 0), (hS "/claim/cut.py" 307)]) :: (hG "frame" [(some (hR 93)), (some (hR 3)), (some (hR 90)), none, (some (hS "tclcore.faults" 194)), none, (some (hR 0))]) :: (hQ "tuple" 0 [.none, (.bool false), (hS "" 313)]) :: (fb 96 600 "Nest.__init__" 314 29 5 (hR 95) (hS "tclcore.faults" 194) ["self", "script", "back", "is_proc", "label"] ((hT 0 325 ["back", "is_proc", "label", "script"]) :: (hD "dict" 4 [(hE P "__module__" 308 (hS "tclcore.faults" 194)), (hE P "__firstlineno__" 312 (hI 27 311)), (hE P "__init__" 324 (hR 102)), (hE P "__static_attributes__" 329 (hR 103)), (hE P "__dict__" 331 (hR 106)), (hE P "__weakref__" 333 (hR 107)), (hE P "__doc__" 334 .none)]) :: (hK "type" (ClassData.mk "Nest" [(hY "object")] [(hR 105), (hY "object")] 104 "Nest" true [] [] false none false) [none, none, (some (hS "Nest" 301)), (some (hS "Nest" 309)), (some (hB "object.__new__")), (some (.bool true))]) :: (hF "getset_descriptor" [(hS "__dict__" 330), (hR 105), (hB "function.__dict__"), (hB "function.__dict__#set")]) :: (hF "getset_descriptor" [(hS "__weakref__" 332), (hR 105), (hB "ExceptionGroup.__weakref__"), .none]) :: (hF "super" [(hR 105), (hR 105), (hR 105)]) :: (hF "builtin_function_or_method" [(hB "object.__init_subclass__"), (hR 105)]) :: (hQ "tuple" 0 []) :: (hF "builtin_function_or_method" [(hB "type.__prepare__"), (hY "type")]) :: (hD "dict" 5 [(hE P "__module__" 344 (hS "tclcore.faults" 194)), (hE P "__qualname__" 346 (hS "Pause" 345)), (hE P "__firstlineno__" 348 (hI 34 347)), (hE P "__init__" 357 (hR 123)), (hE P "__static_attributes__" 360 (hR 124))]) :: (hQ "tuple" 0 []) :: (h0 [(36,4,122)]) :: (hF "code" [(hS "Pause" 339), (hS "Pause" 340), (hS "/claim/cut.py" 341), (hI 34 0), (hI 0 0), (hI 0 0), (hI 0 0), (hI 0 0), (hR 113), (.bool false), (hI 181 0), (hR 114), .none, .none, .none, .none, (hI 342 0), (hI 34 0), (hS "/claim/cut.py" 343)]) :: (hG "frame" [(some (hR 115)), (some (hR 3)), (some (hR 112)), none, (some (hS "tclcore.faults" 194)), none, (some (hR 0))]) :: (fb 117 700 "Pause.__init__" 349 36 3 .none (hS "tclcore.faults" 194) ["self", "kind", "words"] ((hT 0 358 ["kind", "words"]) :: (hD "dict" 4 [(hE P "__module__" 344 (hS "tclcore.faults" 194)), (hE P "__firstlineno__" 348 (hI 34 347)), (hE P "__init__" 357 (hR 123)), (hE P "__static_attributes__" 360 (hR 124)), (hE P "__dict__" 362 (hR 127)), (hE P "__weakref__" 364 (hR 128)), (hE P "__doc__" 365 .none)]) :: (hK "type" (ClassData.mk "Pause" [(hY "object")] [(hR 126), (hY "object")] 125 "Pause" true [] [] false none false) [none, none, (some (hS "Pause" 337)), (some (hS "Pause" 345)), (some (hB "object.__new__")), (some (.bool true))]) :: (hF "getset_descriptor" [(hS "__dict__" 361), (hR 126), (hB "function.__dict__"), (hB "function.__dict__#set")]) :: (hF "getset_descriptor" [(hS "__weakref__" 363), (hR 126), (hB "ExceptionGroup.__weakref__"), .none]) :: (hF "super" [(hR 126), (hR 126), (hR 126)]) :: (hF "builtin_function_or_method" [(hB "object.__init_subclass__"), (hR 126)]) :: (hT 0 368 ["NONE"]) :: (hQ "tuple" 0 [(hR 131)]) :: (fb 133 899 "error" 369 39 2 (hR 132) (hS "tclcore.faults" 194) ["text", "errorcode"] ((fb 140 999 "cut" 377 41 2 .none (hS "tclcore.faults" 194) ["text", "most"] ((fb 147 1099 "note" 385 45 2 .none (hS "tclcore.faults" 194) ["raised", "source"] ((fb 154 1199 "note_row" 393 53 2 .none (hS "tclcore.faults" 194) ["raised", "text"] ((fb 161 1299 "end_return" 401 60 1 .none (hS "tclcore.faults" 194) ["raised"] ((fb 168 1399 "end_proc" 408 68 2 .none (hS "tclcore.faults" 194) ["nest", "raised", "fault", "word"] ((hQ "tuple" 0 []) :: (hF "builtin_function_or_method" [(hB "type.__prepare__"), (hY "type")]) :: (hD "dict" 5 [(hE P "__module__" 427 (hS "tclcore.machine" 418)), (hE P "__qualname__" 429 (hS "Act" 428)), (hE P "__firstlineno__" 431 (hI 83 430)), (hE P "__init__" 440 (hR 188)), (hE P "__static_attributes__" 448 (hR 189))]) :: (hQ "tuple" 0 []) :: (h0 [(85,4,187)]) :: (hF "code" [(hS "Act" 422), (hS "Act" 423), (hS "/claim/cut.py" 424), (hI 83 0), (hI 0 0), (hI 0 0), (hI 0 0), (hI 0 0), (hR 178), (.bool false), (hI 181 0), (hR 179), .none, .none, .none, .none, (hI 425 0), (hI 83 0), (hS "/claim/cut.py" 426)]) :: (hG "frame" [(some (hR 180)), (some (hR 3)), (some (hR 177)), none, (some (hS "tclcore.machine" 418)), none, (some (hR 0))]) :: (fb 182 1500 "Act.__init__" 432 85 3 .none (hS "tclcore.machine" 418) ["self", "code", "nest"] ((hT 0 441 ["caught", "code", "each", "nest", "pc", "slots", "stack"]) :: (hD "dict" 4 [(hE P "__module__" 427 (hS "tclcore.machine" 418)), (hE P "__firstlineno__" 431 (hI 83 430)), (hE P "__init__" 440 (hR 188)), (hE P "__static_attributes__" 448 (hR 189)), (hE P "__dict__" 450 (hR 192)), (hE P "__weakref__" 452 (hR 193)), (hE P "__doc__" 453 .none)]) :: (hK "type" (ClassData.mk "Act" [(hY "object")] [(hR 191), (hY "object")] 190 "Act" true [] [] false none false) [none, none, (some (hS "Act" 420)), (some (hS "Act" 428)), (some (hB "object.__new__")), (some (.bool true))]) :: r))))))))))))))))))))
noncomputable def c2 (P : Params) (r : List Obj) : List Obj := (hF "getset_descriptor" [(hS "__dict__" 449), (hR 191), (hB "function.__dict__"), (hB "function.__dict__#set")]) :: (hF "getset_descriptor" [(hS "__weakref__" 451), (hR 191), (hB "ExceptionGroup.__weakref__"), .none]) :: (hF "super" [(hR 191), (hR 191), (hR 191)]) :: (hF "builtin_function_or_method" [(hB "object.__init_subclass__"), (hR 191)]) :: (fb 196 1699 "taker" 456 93 3 .none (hS "tclcore.machine" 418) ["ranges", "place", "code", "held", "kind", "first", "behind", "to_break", "to_continue", "depth"] ((fb 203 1799 "note_source" 472 100 2 .none (hS "tclcore.machine" 418) ["act", "raised", "place", "first", "behind", "text"] ((hQ "tuple" 0 []) :: (hF "builtin_function_or_method" [(hB "type.__prepare__"), (hY "type")]) :: (hD "dict" 15 [(hE P "__module__" 491 (hS "tclcore.machine" 418)), (hE P "__qualname__" 493 (hS "Machine" 492)), (hE P "__firstlineno__" 495 (hI 106 494)), (hE P "__init__" 505 (hR 223)), (hE P "code_for" 516 (hR 230)), (hE P "enter" 524 (hR 237)), (hE P "drop" 531 (hR 244)), (hE P "give" 539 (hR 251)), (hE P "leave" 547 (hR 258)), (hE P "take" 556 (hR 265)), (hE P "go_on" 572 (hR 272)), (hE P "unwind" 583 (hR 279)), (hE P "step" 595 (hR 286)), (hE P "run" 603 (hR 293)), (hE P "__static_attributes__" 612 (hR 294))]) :: (hQ "tuple" 0 []) :: (h0 [(108,4,222), (118,4,229), (126,4,236), (132,4,243), (135,4,250), (142,4,257), (146,4,264), (158,4,271), (169,4,278), (186,4,285), (201,4,292)]) :: (hF "code" [(hS "Machine" 486), (hS "Machine" 487), (hS "/claim/cut.py" 488), (hI 106 0), (hI 0 0), (hI 0 0), (hI 0 0), (hI 0 0), (hR 213), (.bool false), (hI 181 0), (hR 214), .none, .none, .none, .none, (hI 489 0), (hI 106 0), (hS "/claim/cut.py" 490)]) :: (hG "frame" [(some (hR 215)), (some (hR 3)), (some (hR 212)), none, (some (hS "tclcore.machine" 418)), none, (some (hR 0))]) :: (fb 217 1800 "Machine.__init__" 496 108 4 .none (hS "tclcore.machine" 418) ["self", "host", "ops", "maker"] ((fb 224 1801 "Machine.code_for" 506 118 3 .none (hS "tclcore.machine" 418) ["self", "text", "is_slots", "key", "code"] ((fb 231 1802 "Machine.enter" 517 126 2 .none (hS "tclcore.machine" 418) ["self", "nest"] ((fb 238 1803 "Machine.drop" 525 132 1 .none (hS "tclcore.machine" 418) ["self"] ((fb 245 1804 "Machine.give" 532 135 2 .none (hS "tclcore.machine" 418) ["self", "text"] ((fb 252 1805 "Machine.leave" 540 142 2 .none (hS "tclcore.machine" 418) ["self", "text"] ((fb 259 1806 "Machine.take" 548 146 2 .none (hS "tclcore.machine" 418) ["self", "result", "coro"] ((fb 266 1807 "Machine.go_on" 557 158 4 .none (hS "tclcore.machine" 418) ["self", "act", "held", "raised", "kind", "first", "behind", "to_break", "to_continue", "depth"] ((fb 273 1808 "Machine.unwind" 573 169 2 .none (hS "tclcore.machine" 418) ["self", "raised", "act", "held", "fault"] ((fb 280 1809 "Machine.step" 584 186 1 .none (hS "tclcore.machine" 418) ["self", "act", "op", "a", "b", "raised"] ((fb 287 1810 "Machine.run" 596 201 1 .none (hS "tclcore.machine" 418) ["self", "host"] ((hT 0 604 ["acts", "book", "host", "maker", "ops", "pause", "steps", "text"]) :: (hD "dict" 4 [(hE P "__module__" 491 (hS "tclcore.machine" 418)), (hE P "__firstlineno__" 495 (hI 106 494)), (hE P "__init__" 505 (hR 223)), (hE P "code_for" 516 (hR 230)), (hE P "enter" 524 (hR 237)), (hE P "drop" 531 (hR 244)), (hE P "give" 539 (hR 251)), (hE P "leave" 547 (hR 258)), (hE P "take" 556 (hR 265)), (hE P "go_on" 572 (hR 272)), (hE P "unwind" 583 (hR 279)), (hE P "step" 595 (hR 286)), (hE P "run" 603 (hR 293)), (hE P "__static_attributes__" 612 (hR 294)), (hE P "__dict__" 614 (hR 297)), (hE P "__weakref__" 616 (hR 298)), (hE P "__doc__" 617 .none)]) :: (hK "type" (ClassData.mk "Machine" [(hY "object")] [(hR 296), (hY "object")] 295 "Machine" true [] [] false none false) [none, none, (some (hS "Machine" 484)), (some (hS "Machine" 492)), (some (hB "object.__new__")), (some (.bool true))]) :: (hF "getset_descriptor" [(hS "__dict__" 613), (hR 296), (hB "function.__dict__"), (hB "function.__dict__#set")]) :: (hF "getset_descriptor" [(hS "__weakref__" 615), (hR 296), (hB "ExceptionGroup.__weakref__"), .none]) :: (hF "super" [(hR 296), (hR 296), (hR 296)]) :: (hF "builtin_function_or_method" [(hB "object.__init_subclass__"), (hR 296)]) :: (fb 301 1999 "run_code" 620 214 2 .none (hS "tclcore.machine" 418) ["machine", "code", "frame", "acts", "sort", "text"] ((hQ "tuple" 0 []) :: (hF "builtin_function_or_method" [(hB "type.__prepare__"), (hY "type")]) :: (hD "dict" 5 [(hE P "__module__" 641 (hS "tclcore.compcore" 632)), (hE P "__qualname__" 643 (hS "Code" 642)), (hE P "__firstlineno__" 645 (hI 228 644)), (hE P "__init__" 657 (hR 321)), (hE P "__static_attributes__" 663 (hR 322))]) :: (hQ "tuple" 0 []) :: (h0 [(230,4,320)]) :: (hF "code" [(hS "Code" 636), (hS "Code" 637), (hS "/claim/cut.py" 638), (hI 228 0), (hI 0 0), (hI 0 0), (hI 0 0), (hI 0 0), (hR 311), (.bool false), (hI 181 0), (hR 312), .none, .none, .none, .none, (hI 639 0), (hI 228 0), (hS "/claim/cut.py" 640)]) :: (hG "frame" [(some (hR 313)), (some (hR 3)), (some (hR 310)), none, (some (hS "tclcore.compcore" 632)), none, (some (hR 0))]) :: (fb 315 2100 "Code.__init__" 646 230 6 .none (hS "tclcore.compcore" 632) ["self", "rows", "ranges", "names", "sources", "epoch"] ((hT 0 658 ["epoch", "names", "ranges", "rows", "sources"]) :: (hD "dict" 4 [(hE P "__module__" 641 (hS "tclcore.compcore" 632)), (hE P "__firstlineno__" 645 (hI 228 644)), (hE P "__init__" 657 (hR 321)), (hE P "__static_attributes__" 663 (hR 322)), (hE P "__dict__" 665 (hR 325)), (hE P "__weakref__" 667 (hR 326)), (hE P "__doc__" 668 .none)]) :: (hK "type" (ClassData.mk "Code" [(hY "object")] [(hR 324), (hY "object")] 323 "Code" true [] [] false none false) [none, none, (some (hS "Code" 634)), (some (hS "Code" 642)), (some (hB "object.__new__")), (some (.bool true))]) :: (hF "getset_descriptor" [(hS "__dict__" 664), (hR 324), (hB "function.__dict__"), (hB "function.__dict__#set")]) :: (hF "getset_descriptor" [(hS "__weakref__" 666), (hR 324), (hB "ExceptionGroup.__weakref__"), .none]) :: (hF "super" [(hR 324), (hR 324), (hR 324)]) :: (hF "builtin_function_or_method" [(hB "object.__init_subclass__"), (hR 324)]) :: (hQ "tuple" 0 []) :: (hF "builtin_function_or_method" [(hB "type.__prepare__"), (hY "type")]) :: (hD "dict" 5 [(hE P "__module__" 680 (hS "tclcore.coroutines" 671)), (hE P "__qualname__" 682 (hS "Coroutine" 681)), (hE P "__firstlineno__" 684 (hI 237 683)), (hE P "__init__" 693 (hR 342)), (hE P "__static_attributes__" 702 (hR 343))]) :: (hQ "tuple" 0 []) :: (h0 [(239,4,341)]) :: (hF "code" [(hS "Coroutine" 675), (hS "Coroutine" 676), (hS "/claim/cut.py" 677), (hI 237 0), (hI 0 0), (hI 0 0), (hI 0 0), (hI 0 0), (hR 332), (.bool false), (hI 181 0), (hR 333), .none, .none, .none, .none, (hI 678 0), (hI 237 0), (hS "/claim/cut.py" 679)]) :: (hG "frame" [(some (hR 334)), (some (hR 3)), (some (hR 331)), none, (some (hS "tclcore.coroutines" 671)), none, (some (hR 0))]) :: (fb 336 2300 "Coroutine.__init__" 685 239 3 .none (hS "tclcore.coroutines" 671) ["self", "name", "machine"] ((hT 0 694 ["command", "frame", "is_done", "is_running", "machine", "name", "outer", "waits"]) :: (hD "dict" 4 [(hE P "__module__" 680 (hS "tclcore.coroutines" 671)), (hE P "__firstlineno__" 684 (hI 237 683)), (hE P "__init__" 693 (hR 342)), (hE P "__static_attributes__" 702 (hR 343)), (hE P "__dict__" 704 (hR 346)), (hE P "__weakref__" 706 (hR 347)), (hE P "__doc__" 707 .none)]) :: (hK "type" (ClassData.mk "Coroutine" [(hY "object")] [(hR 345), (hY "object")] 344 "Coroutine" true [] [] false none false) [none, none, (some (hS "Coroutine" 673)), (some (hS "Coroutine" 681)), (some (hB "object.__new__")), (some (.bool true))]) :: (hF "getset_descriptor" [(hS "__dict__" 703), (hR 345), (hB "function.__dict__"), (hB "function.__dict__#set")]) :: (hF "getset_descriptor" [(hS "__weakref__" 705), (hR 345), (hB "ExceptionGroup.__weakref__"), .none]) :: r))))))))))))))))))))))))))))))))
noncomputable def c3 (P : Params) (r : List Obj) : List Obj := (hF "super" [(hR 345), (hR 345), (hR 345)]) :: (hF "builtin_function_or_method" [(hB "object.__init_subclass__"), (hR 345)]) :: (hQ "tuple" 0 []) :: (hF "builtin_function_or_method" [(hB "type.__prepare__"), (hY "type")]) :: (hD "dict" 5 [(hE P "__module__" 719 (hS "tclcore.spaces" 710)), (hE P "__qualname__" 721 (hS "Var" 720)), (hE P "__firstlineno__" 723 (hI 249 722)), (hE P "__init__" 730 (hR 363)), (hE P "__static_attributes__" 737 (hR 364))]) :: (hQ "tuple" 0 []) :: (h0 [(251,4,362)]) :: (hF "code" [(hS "Var" 714), (hS "Var" 715), (hS "/claim/cut.py" 716), (hI 249 0), (hI 0 0), (hI 0 0), (hI 0 0), (hI 0 0), (hR 353), (.bool false), (hI 181 0), (hR 354), .none, .none, .none, .none, (hI 717 0), (hI 249 0), (hS "/claim/cut.py" 718)]) :: (hG "frame" [(some (hR 355)), (some (hR 3)), (some (hR 352)), none, (some (hS "tclcore.spaces" 710)), none, (some (hR 0))]) :: (fb 357 2500 "Var.__init__" 724 251 1 .none (hS "tclcore.spaces" 710) ["self"] ((hT 0 731 ["is_busy", "is_element", "kind", "traces", "value", "writes"]) :: (hD "dict" 4 [(hE P "__module__" 719 (hS "tclcore.spaces" 710)), (hE P "__firstlineno__" 723 (hI 249 722)), (hE P "__init__" 730 (hR 363)), (hE P "__static_attributes__" 737 (hR 364)), (hE P "__dict__" 739 (hR 367)), (hE P "__weakref__" 741 (hR 368)), (hE P "__doc__" 742 .none)]) :: (hK "type" (ClassData.mk "Var" [(hY "object")] [(hR 366), (hY "object")] 365 "Var" true [] [] false none false) [none, none, (some (hS "Var" 712)), (some (hS "Var" 720)), (some (hB "object.__new__")), (some (.bool true))]) :: (hF "getset_descriptor" [(hS "__dict__" 738), (hR 366), (hB "function.__dict__"), (hB "function.__dict__#set")]) :: (hF "getset_descriptor" [(hS "__weakref__" 740), (hR 366), (hB "ExceptionGroup.__weakref__"), .none]) :: (hF "super" [(hR 366), (hR 366), (hR 366)]) :: (hF "builtin_function_or_method" [(hB "object.__init_subclass__"), (hR 366)]) :: (hQ "tuple" 0 []) :: (hF "builtin_function_or_method" [(hB "type.__prepare__"), (hY "type")]) :: (hD "dict" 14 [(hE P "__module__" 754 (hS "tclcore.host" 745)), (hE P "__qualname__" 756 (hS "Host" 755)), (hE P "__firstlineno__" 758 (hI 259 757)), (hE P "__init__" 768 (hR 385)), (hE P "tool" 776 (hR 392)), (hE P "spend" 783 (hR 399)), (hE P "where" 790 (hR 406)), (hE P "run" 799 (hR 413)), (hE P "run_global" 807 (hR 420)), (hE P "call" 816 (hR 427)), (hE P "finish" 825 (hR 434)), (hE P "leave" 833 (hR 441)), (hE P "outcome" 841 (hR 448)), (hE P "__static_attributes__" 851 (hR 449))]) :: (hQ "tuple" 0 []) :: (h0 [(261,4,384), (272,4,391), (277,4,398), (282,4,405), (285,4,412), (295,4,419), (298,4,426), (308,4,433), (318,4,440), (322,4,447)]) :: (hF "code" [(hS "Host" 749), (hS "Host" 750), (hS "/claim/cut.py" 751), (hI 259 0), (hI 0 0), (hI 0 0), (hI 0 0), (hI 0 0), (hR 374), (.bool false), (hI 181 0), (hR 375), .none, .none, .none, .none, (hI 752 0), (hI 259 0), (hS "/claim/cut.py" 753)]) :: (hG "frame" [(some (hR 376)), (some (hR 3)), (some (hR 373)), none, (some (hS "tclcore.host" 745)), none, (some (hR 0))]) :: (hQ "tuple" 0 [(hI 40 759), .none]) :: (fb 379 2700 "Host.__init__" 760 261 3 (hR 378) (hS "tclcore.host" 745) ["self", "limit", "fuel"] ((fb 386 2701 "Host.tool" 769 272 2 .none (hS "tclcore.host" 745) ["self", "name"] ((fb 393 2702 "Host.spend" 777 277 1 .none (hS "tclcore.host" 745) ["self"] ((fb 400 2703 "Host.where" 784 282 1 .none (hS "tclcore.host" 745) ["self"] ((fb 407 2704 "Host.run" 791 285 2 .none (hS "tclcore.host" 745) ["self", "script", "runner"] ((fb 414 2705 "Host.run_global" 800 295 2 .none (hS "tclcore.host" 745) ["self", "script"] ((fb 421 2706 "Host.call" 808 298 2 .none (hS "tclcore.host" 745) ["self", "words", "got"] ((fb 428 2707 "Host.finish" 817 308 2 .none (hS "tclcore.host" 745) ["self", "nest", "raised"] ((fb 435 2708 "Host.leave" 826 318 2 .none (hS "tclcore.host" 745) ["self", "nest"] ((fb 442 2709 "Host.outcome" 834 322 2 .none (hS "tclcore.host" 745) ["self", "script"] ((hT 0 842 ["coroutine", "depth", "epoch", "frame", "fuel", "inline", "limit", "spent", "tools"]) :: (hD "dict" 4 [(hE P "__module__" 754 (hS "tclcore.host" 745)), (hE P "__firstlineno__" 758 (hI 259 757)), (hE P "__init__" 768 (hR 385)), (hE P "tool" 776 (hR 392)), (hE P "spend" 783 (hR 399)), (hE P "where" 790 (hR 406)), (hE P "run" 799 (hR 413)), (hE P "run_global" 807 (hR 420)), (hE P "call" 816 (hR 427)), (hE P "finish" 825 (hR 434)), (hE P "leave" 833 (hR 441)), (hE P "outcome" 841 (hR 448)), (hE P "__static_attributes__" 851 (hR 449)), (hE P "__dict__" 853 (hR 452)), (hE P "__weakref__" 855 (hR 453)), (hE P "__doc__" 856 .none)]) :: (hK "type" (ClassData.mk "Host" [(hY "object")] [(hR 451), (hY "object")] 450 "Host" true [] [(hR 607)] false none false) [none, none, (some (hS "Host" 747)), (some (hS "Host" 755)), (some (hB "object.__new__")), (some (.bool true))]) :: (hF "getset_descriptor" [(hS "__dict__" 852), (hR 451), (hB "function.__dict__"), (hB "function.__dict__#set")]) :: (hF "getset_descriptor" [(hS "__weakref__" 854), (hR 451), (hB "ExceptionGroup.__weakref__"), .none]) :: (hF "super" [(hR 451), (hR 451), (hR 451)]) :: (hF "builtin_function_or_method" [(hB "object.__init_subclass__"), (hR 451)]) :: (fb 456 2899 "no_variable" 859 324 2 .none (hS "tclcore.host" 745) ["verb", "name", "why"] ((fb 463 2999 "var_in" 868 327 2 .none (hS "tclcore.host" 745) ["book", "name"] ((fb 470 3099 "put_value" 876 331 3 .none (hS "tclcore.host" 745) ["var", "kind", "value"] ((fb 477 3199 "elements_in" 885 336 2 .none (hS "tclcore.host" 745) ["book", "name", "found", "whole"] ((fb 484 3299 "act" 895 342 4 .none (hS "tclcore.host" 745) ["host", "words", "action", "data"] ((hQ "tuple" 0 [(hR 451)]) :: (hF "builtin_function_or_method" [(hB "type.__prepare__"), (hY "type")]) :: (hD "dict" 19 [(hE P "__module__" 912 (hS "tclcore.host" 745)), (hE P "__qualname__" 914 (hS "SmallHost" 913)), (hE P "__firstlineno__" 916 (hI 346 915)), (hE P "__init__" 926 (hR 505)), (hE P "has" 934 (hR 512)), (hE P "place" 942 (hR 519)), (hE P "read_var" 951 (hR 526)), (hE P "write_var" 961 (hR 533)), (hE P "read" 969 (hR 540)), (hE P "write" 978 (hR 547)), (hE P "drop" 986 (hR 554)), (hE P "stamp" 994 (hR 561)), (hE P "array" 1004 (hR 568)), (hE P "put" 1014 (hR 576)), (hE P "remove" 1022 (hR 583)), (hE P "add" 1030 (hR 590)), (hE P "is_first" 1038 (hR 597)), (hE P "begin" 1048 (hR 604)), (hE P "__static_attributes__" 1052 (hR 605))]) :: (hQ "tuple" 0 []) :: (h0 [(348,4,504), (354,4,511), (357,4,518), (360,4,525), (365,4,532), (368,4,539), (371,4,546), (374,4,553), (379,4,560), (382,4,567), (386,4,575), (390,4,582), (396,4,589), (399,4,596), (402,4,603)]) :: (hF "code" [(hS "SmallHost" 907), (hS "SmallHost" 908), (hS "/claim/cut.py" 909), (hI 346 0), (hI 0 0), (hI 0 0), (hI 0 0), (hI 0 0), (hR 494), (.bool false), (hI 181 0), (hR 495), .none, .none, .none, .none, (hI 910 0), (hI 346 0), (hS "/claim/cut.py" 911)]) :: (hG "frame" [(some (hR 496)), (some (hR 3)), (some (hR 493)), none, (some (hS "tclcore.host" 745)), none, (some (hR 0))]) :: (hQ "tuple" 0 [(hI 40 917), .none]) :: (fb 499 3300 "SmallHost.__init__" 918 348 3 (hR 498) (hS "tclcore.host" 745) ["self", "limit", "fuel"] ((fb 506 3301 "SmallHost.has" 927 354 2 .none (hS "tclcore.host" 745) ["self", "name"] ((fb 513 3302 "SmallHost.place" 935 357 2 .none (hS "tclcore.host" 745) ["self", "name"] ((fb 520 3303 "SmallHost.read_var" 943 360 3 .none (hS "tclcore.host" 745) ["self", "var", "name"] ((fb 527 3304 "SmallHost.write_var" 952 365 4 .none (hS "tclcore.host" 745) ["self", "var", "name", "value"] (r))))))))))))))))))))))))))))))))))))))))))
noncomputable def c4 (P : Params) (r : List Obj) : List Obj := (fb 534 3305 "SmallHost.read" 962 368 2 .none (hS "tclcore.host" 745) ["self", "name"] ((fb 541 3306 "SmallHost.write" 970 371 3 .none (hS "tclcore.host" 745) ["self", "name", "value"] ((fb 548 3307 "SmallHost.drop" 979 374 2 .none (hS "tclcore.host" 745) ["self", "name"] ((fb 555 3308 "SmallHost.stamp" 987 379 2 .none (hS "tclcore.host" 745) ["self", "name"] ((fb 562 3309 "SmallHost.array" 995 382 3 .none (hS "tclcore.host" 745) ["self", "name", "is_made", "found"] ((hQ "tuple" 0 [.none]) :: (fb 570 3310 "SmallHost.put" 1005 386 4 (hR 569) (hS "tclcore.host" 745) ["self", "name", "action", "data"] ((fb 577 3311 "SmallHost.remove" 1015 390 2 .none (hS "tclcore.host" 745) ["self", "name"] ((fb 584 3312 "SmallHost.add" 1023 396 2 .none (hS "tclcore.host" 745) ["self", "group"] ((fb 591 3313 "SmallHost.is_first" 1031 399 2 .none (hS "tclcore.host" 745) ["self", "name"] ((fb 598 3314 "SmallHost.begin" 1039 402 2 .none (hS "tclcore.host" 745) ["self", "words", "action", "data"] ((hT 0 1049 ["commands", "firsts", "vars"]) :: (hD "dict" 2 [(hE P "__module__" 912 (hS "tclcore.host" 745)), (hE P "__firstlineno__" 916 (hI 346 915)), (hE P "__init__" 926 (hR 505)), (hE P "has" 934 (hR 512)), (hE P "place" 942 (hR 519)), (hE P "read_var" 951 (hR 526)), (hE P "write_var" 961 (hR 533)), (hE P "read" 969 (hR 540)), (hE P "write" 978 (hR 547)), (hE P "drop" 986 (hR 554)), (hE P "stamp" 994 (hR 561)), (hE P "array" 1004 (hR 568)), (hE P "put" 1014 (hR 576)), (hE P "remove" 1022 (hR 583)), (hE P "add" 1030 (hR 590)), (hE P "is_first" 1038 (hR 597)), (hE P "begin" 1048 (hR 604)), (hE P "__static_attributes__" 1052 (hR 605)), (hE P "__doc__" 1053 .none)]) :: (hK "type" (ClassData.mk "SmallHost" [(hR 451)] [(hR 607), (hR 451), (hY "object")] 606 "SmallHost" true [] [] false none false) [(some (hR 491)), none, (some (hS "SmallHost" 905)), (some (hS "SmallHost" 913)), (some (hB "object.__new__")), (some (.bool true))]) :: (hF "super" [(hR 607), (hR 607), (hR 607)]) :: (hF "builtin_function_or_method" [(hB "object.__init_subclass__"), (hR 607)]) :: (fb 610 3599 "set_slot" 1058 409 4 .none (hS "tclcore.ops" 1056) ["machine", "act", "slot", "name"] ((fb 617 3699 "taken" 1068 413 2 .none (hS "tclcore.ops" 1056) ["act", "count", "at", "texts"] ((fb 624 3799 "op_push" 1078 418 4 .none (hS "tclcore.ops" 1056) ["machine", "act", "a", "b"] ((fb 631 3899 "op_pop" 1088 420 4 .none (hS "tclcore.ops" 1056) ["machine", "act", "a", "b"] ((fb 638 3999 "op_load" 1098 422 4 .none (hS "tclcore.ops" 1056) ["machine", "act", "a", "b"] ((fb 645 4099 "op_load_name" 1108 424 4 .none (hS "tclcore.ops" 1056) ["machine", "act", "a", "b"] ((fb 652 4199 "op_load_element" 1118 426 4 .none (hS "tclcore.ops" 1056) ["machine", "act", "a", "b"] ((fb 659 4299 "op_store" 1128 428 4 .none (hS "tclcore.ops" 1056) ["machine", "act", "a", "b", "var"] ((fb 666 4399 "op_store_name" 1139 431 4 .none (hS "tclcore.ops" 1056) ["machine", "act", "a", "b"] ((fb 673 4499 "op_store_element" 1149 433 4 .none (hS "tclcore.ops" 1056) ["machine", "act", "a", "b", "index", "value"] ((fb 680 4599 "op_join" 1161 436 4 .none (hS "tclcore.ops" 1056) ["machine", "act", "a", "b", "texts"] ((fb 687 4699 "call" 1172 439 2 .none (hS "tclcore.ops" 1056) ["machine", "words"] ((fb 694 4799 "op_invoke" 1180 444 4 .none (hS "tclcore.ops" 1056) ["machine", "act", "a", "b"] ((fb 701 4899 "go" 1190 446 3 .none (hS "tclcore.ops" 1056) ["machine", "act", "to"] ((fb 708 4999 "op_start" 1199 450 4 .none (hS "tclcore.ops" 1056) ["machine", "act", "a", "b"] ((fb 715 5099 "op_jump" 1209 458 4 .none (hS "tclcore.ops" 1056) ["machine", "act", "a", "b"] ((fb 722 5199 "op_fail" 1219 460 4 .none (hS "tclcore.ops" 1056) ["machine", "act", "a", "b"] ((fb 729 5299 "plain_ops" 1229 464 0 .none (hS "tclcore.ops" 1056) [] ((fb 736 5499 "_law_cell" 1237 467 2 .none (hS "law_pb0568_01" 1235) ["script", "place"] ((fb 743 5599 "_law_item" 1245 469 3 .none (hS "law_pb0568_01" 1235) ["script", "c", "level", "number", "kind", "j", "first", "takes", "inner"] ((fb 750 5699 "_law_book" 1260 483 1 .none (hS "law_pb0568_01" 1235) ["script", "book", "c", "level", "item", "inner"] ((fb 757 5799 "_law_deeds" 1272 495 1 .none (hS "law_pb0568_01" 1235) ["script", "deeds", "j", "number", "more", "sort"] ((fb 764 5899 "_law_rows" 1284 503 4 .none (hS "law_pb0568_01" 1235) ["rows", "ranges", "items", "depth", "i", "item", "word", "place", "behind", "again"] ((fb 771 5999 "_law_maker" 1300 524 3 .none (hS "law_pb0568_01" 1235) ["host", "text", "is_slots", "rows", "ranges"] ((fb 778 6099 "_law_items" 1311 528 2 .none (hS "law_pb0568_01" 1235) ["host", "items", "texts", "item", "fault"] ((fb 785 6199 "_law_plain" 1322 543 2 .none (hS "law_pb0568_01" 1235) ["host", "text"] ((fb 792 6299 "_law_idle" 1330 545 2 .none (hS "law_pb0568_01" 1235) ["host", "words"] ((fb 799 6399 "_law_deed" 1338 547 3 .none (hS "law_pb0568_01" 1235) ["host", "words", "data", "deeds", "answers", "log", "count", "sort", "value", "more", "kind", "code", "back"] ((fb 806 6499 "_law_host" 1357 573 4 .none (hS "law_pb0568_01" 1235) ["book", "deeds", "answers", "log", "host"] ((fb 813 6599 "_law_turns" 1368 582 6 .none (hS "law_pb0568_01" 1235) ["host", "machine", "other", "log", "answers", "mask", "coro", "turns", "sort", "got", "frame", "deep", "is_apart"] ((fb 820 6699 "_law_told" 1387 602 1 .none (hS "law_pb0568_01" 1235) ["fault"] ((fb 827 6799 "law" 1394 604 1 .none (hS "law_pb0568_01" 1235) ["script", "book", "deeds", "answers", "log", "once_log", "plain_log", "host", "machine", "told", "fault", "once_told", "plain_told"] (r))))))))))))))))))))))))))))))))))))))))))))))))))))))))))))))))))))))))))))))))))))
noncomputable def hL (P : Params) : List Obj := c0 P (c1 P (c2 P (c3 P (c4 P ([])))))
noncomputable def w0 (P : Params) : Obj := (h0 (m12.take 0))
noncomputable def w1 (P : Params) : Obj := (Obj.mk .none none (Data.dict #[(hE P "type.__subclasses__.Exception.0" 221 (hI 38 0)), (hE P "type.__subclasses__.Exception.n" 222 (hI 1 0))] 2) #[])
noncomputable def w2 (P : Params) : Obj := (hD "dict" 11 ((hE P "__name__" 165 (hS "tclcore.faults" 194)) :: ((m3 P).take 11).tail))
noncomputable def w3 (P : Params) : Obj := (h0 (m12.take 2))
noncomputable def w4 (P : Params) : Obj := (hK "type" (ClassData.mk "TclFault" [(hY "Exception")] [(hR 38), (hY "Exception"), (hY "BaseException"), (hY "object")] 37 "TclFault" true [] [] false none false) [(some (hR 22)), none, (some (hS "TclFault" 196)), (some (hS "TclFault" 204)), (some (hB "Exception.__new__")), (some (.bool true))])
noncomputable def w5 (P : Params) : Obj := (hD "dict" 12 ((hE P "__name__" 165 (hS "tclcore.faults" 194)) :: ((m3 P).take 12).tail))
noncomputable def w6 (P : Params) : Obj := (h0 (m12.take 3))
noncomputable def w7 (P : Params) : Obj := (hK "type" (ClassData.mk "TclFault" [(hY "Exception")] [(hR 38), (hY "Exception"), (hY "BaseException"), (hY "object")] 37 "TclFault" true [] [(hR 51)] false none false) [(some (hR 22)), none, (some (hS "TclFault" 196)), (some (hS "TclFault" 204)), (some (hB "Exception.__new__")), (some (.bool true))])
noncomputable def w8 (P : Params) : Obj := (hD "dict" 13 ((hE P "__name__" 165 (hS "tclcore.faults" 194)) :: ((m3 P).take 13).tail))
noncomputable def w9 (P : Params) : Obj := (h0 (m12.take 4))
noncomputable def w10 (P : Params) : Obj := (hD "dict" 14 ((hE P "__name__" 165 (hS "tclcore.faults" 194)) :: ((m3 P).take 14).tail))
noncomputable def w11 (P : Params) : Obj := (h0 (m12.take 5))
noncomputable def w12 (P : Params) : Obj := (hD "dict" 15 ((hE P "__name__" 165 (hS "tclcore.faults" 194)) :: ((m3 P).take 15).tail))
noncomputable def w13 (P : Params) : Obj := (h0 (m12.take 6))
noncomputable def w14 (P : Params) : Obj := (hD "dict" 21 ((hE P "__name__" 165 (hS "tclcore.faults" 194)) :: ((m3 P).take 21).tail))
noncomputable def w15 (P : Params) : Obj := (h0 (m12.take 12))
noncomputable def w16 (P : Params) : Obj := (hD "dict" 25 ((hE P "__name__" 165 (hS "tclcore.machine" 418)) :: ((m3 P).take 25).tail))
noncomputable def w17 (P : Params) : Obj := (h0 (m12.take 16))
noncomputable def w18 (P : Params) : Obj := (hD "dict" 26 ((hE P "__name__" 165 (hS "tclcore.machine" 418)) :: ((m3 P).take 26).tail))
noncomputable def w19 (P : Params) : Obj := (h0 (m12.take 17))
noncomputable def w20 (P : Params) : Obj := (hD "dict" 28 ((hE P "__name__" 165 (hS "tclcore.coroutines" 671)) :: ((m3 P).take 28).tail))
noncomputable def w21 (P : Params) : Obj := (h0 (m12.take 19))
noncomputable def w22 (P : Params) : Obj := (hD "dict" 29 ((hE P "__name__" 165 (hS "tclcore.spaces" 710)) :: ((m3 P).take 29).tail))
noncomputable def w23 (P : Params) : Obj := (h0 (m12.take 20))
noncomputable def w24 (P : Params) : Obj := (hD "dict" 30 ((hE P "__name__" 165 (hS "tclcore.host" 745)) :: ((m3 P).take 30).tail))
noncomputable def w25 (P : Params) : Obj := (h0 (m12.take 21))
noncomputable def w26 (P : Params) : Obj := (hD "dict" 31 ((hE P "__name__" 165 (hS "tclcore.host" 745)) :: ((m3 P).take 31).tail))
noncomputable def w27 (P : Params) : Obj := (h0 (m12.take 22))
noncomputable def w28 (P : Params) : Obj := (hK "type" (ClassData.mk "Host" [(hY "object")] [(hR 451), (hY "object")] 450 "Host" true [] [] false none false) [none, none, (some (hS "Host" 747)), (some (hS "Host" 755)), (some (hB "object.__new__")), (some (.bool true))])
noncomputable def w29 (P : Params) : Obj := (hD "dict" 36 ((hE P "__name__" 165 (hS "tclcore.host" 745)) :: ((m3 P).take 36).tail))
noncomputable def w30 (P : Params) : Obj := (h0 (m12.take 27))
noncomputable def w31 (P : Params) : Obj := (hD "dict" 37 ((hE P "__name__" 165 (hS "tclcore.host" 745)) :: ((m3 P).take 37).tail))
noncomputable def w32 (P : Params) : Obj := (h0 (m12.take 28))
noncomputable def w33 (P : Params) : Obj := (hD "dict" 49 ((hE P "__name__" 165 (hS "tclcore.ops" 1056)) :: ((m3 P).take 49).tail))
noncomputable def w34 (P : Params) : Obj := (h0 (m12.take 40))
noncomputable def w35 (P : Params) : Obj := (hD "dict" 60 ((hE P "__name__" 165 (hS "law_pb0568_01" 1235)) :: ((m3 P).take 60).tail))
noncomputable def w36 (P : Params) : Obj := (h0 (m12.take 51))
noncomputable def hst (n : Nat) (l : List (Nat × Obj)) (P : Params) : BT := l.foldl (fun t p => t.set p.1 fun _ => p.2) (bt 10 ((hL P).take n))
noncomputable def e0 (P : Params) : BT := hst 15 [(2, boot_o_2 P), (3, boot_o_3 P), (12, w0 P)] P
noncomputable def e1 (P : Params) : BT := hst 42 [(2, w1 P), (3, w2 P), (12, w3 P), (38, w4 P)] P
noncomputable def e2 (P : Params) : BT := hst 54 [(2, w1 P), (3, w5 P), (12, w6 P), (38, w7 P)] P
noncomputable def e3 (P : Params) : BT := hst 66 [(2, w1 P), (3, w8 P), (12, w9 P)] P
noncomputable def e4 (P : Params) : BT := hst 88 [(3, w10 P), (12, w11 P)] P
noncomputable def e5 (P : Params) : BT := hst 110 [(3, w12 P), (12, w13 P)] P
noncomputable def e6 (P : Params) : BT := hst 168 [(3, w14 P), (12, w15 P)] P
noncomputable def e7 (P : Params) : BT := hst 210 [(3, w16 P), (12, w17 P)] P
noncomputable def e8 (P : Params) : BT := hst 301 [(3, w18 P), (12, w19 P)] P
noncomputable def e9 (P : Params) : BT := hst 329 [(3, w20 P), (12, w21 P)] P
noncomputable def e10 (P : Params) : BT := hst 350 [(3, w22 P), (12, w23 P)] P
noncomputable def e11 (P : Params) : BT := hst 371 [(3, w24 P), (12, w25 P)] P
noncomputable def e12 (P : Params) : BT := hst 456 [(3, w26 P), (12, w27 P), (451, w28 P)] P
noncomputable def e13 (P : Params) : BT := hst 491 [(3, w29 P), (12, w30 P), (451, w28 P)] P
noncomputable def e14 (P : Params) : BT := hst 610 [(3, w31 P), (12, w32 P)] P
noncomputable def e15 (P : Params) : BT := hst 694 [(3, w33 P), (12, w34 P)] P
noncomputable def e16 (P : Params) : BT := hst 771 [(3, w35 P), (12, w36 P)] P
noncomputable def e17 (P : Params) : BT := hst 834 [] P
noncomputable def lf : Life := ⟨[], [], [], 0, [], [], false, #[], [], 0, false, false, false, 0, [2000, 10, 10], false, 0, true, [], [], 0, false⟩
noncomputable def ev0 : Env := ⟨rwP.main.scope, mainNs, mainNs, [], Str.empty, none, .ref 13, some 14, 0⟩
noncomputable abbrev ann : Option Value := some (.ref 6)
noncomputable abbrev hcE : Code := .body rwB ev0
noncomputable abbrev ps (a b c d : Nat) : Pos := ⟨a, b, c, d⟩
noncomputable abbrev tf : List Frame := [topFrame (ps 0 0 0 0)]
noncomputable abbrev sT (t : Params → BT) (n k : Nat) (w : World) (os : OsState) : SharedT := ⟨t w.params, n, lf, #[], ⟨0, 0, 0, 0⟩, k, os⟩
noncomputable abbrev sB (a b : Nat) : List Stmt := (rwB.drop a).take b
noncomputable def Pc (N a b : Nat) (t t' : Params → BT) (n n' k k' : Nat) (p p' : Pos) : Prop := ∀ w : World, (fun os => segRunT treeTable rwP w 11 ann 1 N (sT t n k w os) (piecesOf (sB a b) ev0 hcE p tf)) = fun os => some (.next, sT t' n' k' w os, hcE, p')
theorem p0 : Pc 267 0 3 e0 e1 15 42 187 225 (ps 0 0 0 0) (ps 5 0 9 22) := by
 intro w
 first
 | rw [Fast.te10110043849684766642, Fast.te14364793385576792824]; kernel_rfl
 | kernel_rfl
theorem p1 : Pc 214 3 1 e1 e2 42 54 225 241 (ps 5 0 9 22) (ps 10 0 11 8) := by
 intro w
 first
 | rw [Fast.te10110043849684766642, Fast.te14364793385576792824]; kernel_rfl
 | kernel_rfl
theorem p2 : Pc 214 4 1 e2 e3 54 66 241 257 (ps 10 0 11 8) (ps 12 0 13 8) := by
 intro w
 first
 | rw [Fast.te10110043849684766642, Fast.te14364793385576792824]; kernel_rfl
 | kernel_rfl
theorem p3 : Pc 247 5 1 e3 e4 66 88 257 301 (ps 12 0 13 8) (ps 14 0 26 23) := by
 intro w
 first
 | rw [Fast.te10110043849684766642, Fast.te14364793385576792824]; kernel_rfl
 | kernel_rfl
theorem p4 : Pc 231 6 1 e4 e5 88 110 301 337 (ps 14 0 26 23) (ps 27 0 33 26) := by
 intro w
 first
 | rw [Fast.te10110043849684766642, Fast.te14364793385576792824]; kernel_rfl
 | kernel_rfl
theorem p5 : Pc 378 7 6 e5 e6 110 168 337 408 (ps 27 0 33 26) (ps 60 0 67 16) := by
 intro w
 first
 | rw [Fast.te10110043849684766642, Fast.te14364793385576792824]; kernel_rfl
 | kernel_rfl
theorem p6 : Pc 343 13 5 e6 e7 168 210 408 484 (ps 60 0 67 16) (ps 100 0 105 18) := by
 intro w
 first
 | rw [Fast.te10110043849684766642, Fast.te14364793385576792824]; kernel_rfl
 | kernel_rfl
theorem p7 : Pc 570 18 1 e7 e8 210 301 484 620 (ps 100 0 105 18) (ps 106 0 213 34) := by
 intro w
 first
 | rw [Fast.te10110043849684766642, Fast.te14364793385576792824]; kernel_rfl
 | kernel_rfl
theorem p8 : Pc 283 19 4 e8 e9 301 329 620 673 (ps 106 0 213 34) (ps 236 0 236 8) := by
 intro w
 first
 | rw [Fast.te10110043849684766642, Fast.te14364793385576792824]; kernel_rfl
 | kernel_rfl
theorem p9 : Pc 240 23 2 e9 e10 329 350 673 712 (ps 236 0 236 8) (ps 248 0 248 8) := by
 intro w
 first
 | rw [Fast.te10110043849684766642, Fast.te14364793385576792824]; kernel_rfl
 | kernel_rfl
theorem p10 : Pc 236 25 2 e10 e11 350 371 712 747 (ps 248 0 248 8) (ps 258 0 258 8) := by
 intro w
 first
 | rw [Fast.te10110043849684766642, Fast.te14364793385576792824]; kernel_rfl
 | kernel_rfl
theorem p11 : Pc 523 27 1 e11 e12 371 456 747 859 (ps 258 0 258 8) (ps 259 0 323 16) := by
 intro w
 first
 | rw [Fast.te10110043849684766642, Fast.te14364793385576792824]; kernel_rfl
 | kernel_rfl
theorem p12 : Pc 157 28 5 e12 e13 456 491 859 905 (ps 259 0 323 16) (ps 342 0 345 36) := by
 intro w
 first
 | rw [Fast.te10110043849684766642, Fast.te14364793385576792824]; kernel_rfl
 | kernel_rfl
theorem p13 : Pc 710 33 1 e13 e14 491 610 905 1056 (ps 342 0 345 36) (ps 346 0 407 45) := by
 intro w
 first
 | rw [Fast.te10110043849684766642, Fast.te14364793385576792824]; kernel_rfl
 | kernel_rfl
theorem p14 : Pc 396 34 13 e14 e15 610 694 1056 1180 (ps 346 0 407 45) (ps 439 0 443 47) := by
 intro w
 first
 | rw [Fast.te10110043849684766642, Fast.te14364793385576792824]; kernel_rfl
 | kernel_rfl
theorem p15 : Pc 370 47 12 e15 e16 694 771 1180 1300 (ps 439 0 443 47) (ps 503 0 523 43) := by
 intro w
 first
 | rw [Fast.te10110043849684766642, Fast.te14364793385576792824]; kernel_rfl
 | kernel_rfl
theorem p16 : Pc 312 59 9 e16 e17 771 834 1300 1413 (ps 503 0 523 43) (ps 604 0 629 122) := by
 intro w
 first
 | rw [Fast.te10110043849684766642, Fast.te14364793385576792824]; kernel_rfl
 | kernel_rfl
noncomputable def hH (P : Params) : Heap := ⟨(hL P).toArray, lf⟩
noncomputable abbrev s0 (w : World) (os : OsState) : Shared := ⟨boot_heap w.params, #[], boot_drawn, boot_toks, os⟩
noncomputable abbrev s1 (w : World) (os : OsState) : Shared := ⟨hH w.params, #[], ⟨0, 0, 0, 0⟩, 1413, os⟩
theorem pB (w : World) : (fun os => topGo treeTable rwP w 11 ann 12 (s0 w os) (topStub rwP)) = fun os => some ((sT e0 15 187 w os).abs, ⟨denote treeTable hcE, hcE, ps 0 0 0 0, tf⟩) := by kernel_rfl
theorem pC (w : World) : (fun os => segRun treeTable rwP w 11 ann 1 1 (sT e0 15 187 w os).abs (blockOf rwB ev0 hcE (ps 0 0 0 0) tf)) = fun os => some (.next, (sT e0 15 187 w os).abs, hcE, ps 0 0 0 0) := by kernel_rfl
theorem pD (w : World) : (fun os => topRun treeTable rwP w 11 ann 2 (sT e17 834 1413 w os).abs ⟨doneF .next, hcE, ps 604 0 629 122, tf⟩) = fun os => some (s1 w os) := by kernel_rfl
theorem pE (w : World) : ((boot_heap w.params).isNs mainGlobals && (#[] : Array GenState).size == 0, (boot_heap w.params).objs.size, (boot_heap w.params).nsMap mainGlobals "__annotations__") = (true, 11, ann) := by kernel_rfl
noncomputable def VV : Program := { rwP with main := { rwP.main with body := (rwP.main.body.filter fun s => Nat.blt 0 (partS s).1.cps.size).eraseIdx 7 } }
noncomputable abbrev loo : List Str := [Str.ofString "Raised", Str.ofString "error", Str.ofString "SmallHost"]
noncomputable abbrev looN : List Str := looseW VV loo
theorem a0 (w : World) : staticsOk (importedModules rwP.main.body) (boot_heap w.params) (hH w.params) = true := by kernel_rfl
theorem a1 (w : World) : namesBound rwP (hH w.params) = true := by kernel_rfl
theorem a2 (w : World) : (fun os => gensDone (s1 w os)) = fun os => true := by kernel_rfl
theorem a3 (w : World) : laidKept (boot_heap w.params) (hH w.params) = true := by kernel_rfl
theorem lA (w : World) : (fun os => (staticsOk (importedModules rwP.main.body) (boot_heap w.params) (hH w.params) && namesBound rwP (hH w.params) && gensDone (s1 w os) && laidKept (boot_heap w.params) (hH w.params))) = fun os => true := funext fun os => look_both (look_both (look_both (a0 w) (a1 w)) (congrFun (a2 w) os)) (a3 w)
theorem b0 (w : World) : (fun os => seen ((recsOf VV).map (·.name)) (ownsOf VV) [] { s1 w os with gens := #[] }) = fun os => expectedOf VV := by kernel_rfl
theorem b1 (w : World) : (hH w.params).bltView = bltViewBooted := by kernel_rfl
theorem b2 (w : World) : (fun os => (s1 w os).heap.keysOk looN ((recsOf VV).map (·.name)) ((litsOf VV).map (·.1)) ((clssOf VV looN).map (·.name)) && (s1 w os).heap.accountedOkI (importedModules rwP.main.body) && (s1 w os).heap.isNs mainGlobals && (s1 w os).heap.isNs builtinsNs && tablesOk VV (s1 w os).heap && (xlAt VV [] (s1 w os) && recOk rwR.records (s1 w os)) && (if true then (s1 w os).gens.size == 0 else !leftWithCleanup (s1 w os).gens)) = fun os => true := by kernel_rfl
theorem b3 (w : World) : (fun os => tabsOk VV (s1 w os)) = fun os => true := by kernel_rfl
theorem b4 (w : World) : (fun os => pinSeenD VV (drecsOf VV) (s1 w os)) = fun os => pinGoodD (drecsOf VV) := by kernel_rfl
theorem b5 (w : World) : (fun os => plainSeenE VV looN (s1 w os)) = fun os => plainGoodE VV looN := by kernel_rfl
theorem b6 (w : World) : (fun os => plainSeenD VV loo (s1 w os)) = fun os => plainGoodD VV loo := by kernel_rfl
theorem b7 (w : World) : (fun os => wideSeen VV (s1 w os)) = fun os => wideGood VV := by kernel_rfl
theorem b8 (w : World) : (fun os => clsSeenW VV loo (s1 w os)) = fun os => clsGoodW VV loo := by kernel_rfl
theorem lB (w : World) : (fun os => openSeen VV loo (importedModules rwP.main.body) (fun s => xlAt VV [] s && recOk rwR.records s) true (s1 w os)) = fun os => openGood VV loo :=
 funext fun os => looks_pair (congrFun (b0 w) os) (looks_pair (b1 w) (looks_pair (congrFun (b2 w) os) (looks_pair (congrFun (b3 w) os) (looks_pair (congrFun (b4 w) os) (looks_pair (congrFun (b5 w) os) (looks_pair (congrFun (b6 w) os) (looks_pair (congrFun (b7 w) os) (congrFun (b8 w) os))))))))
noncomputable def KK (P : Params) : Frag := (List.range 834).zip (hL P)
theorem nL (P : Params) : (hL P).length = 834 := by kernel_rfl
theorem vL (P : Params) : ((hL P).all fun o => (alive o).isSome) = true := by kernel_rfl
theorem kK (P : Params) : List.range 834 = (KK P).map (·.1) := (List.map_fst_zip (by rw [nL, List.length_range]; exact Nat.le_refl _)).symm
theorem get_L {L : List Obj} {f : Life} {i : Nat} (h : (L.all fun o => (alive o).isSome) = true) (hi : i < L.length) : (⟨L.toArray, f⟩ : Heap).get? i = some L[i] := by
 have a := List.all_eq_true.mp h _ (List.getElem_mem hi)
 have e : L.toArray[i]? = some L[i] := by rw [List.getElem?_toArray, List.getElem?_eq_getElem hi]
 unfold Heap.get?
 dsimp only
 rw [e]
 revert a
 generalize L[i] = o
 intro a
 obtain ⟨c, d, data, sl⟩ := o
 cases data <;> first | rfl | cases a
noncomputable abbrev hk : Hook := kHook KK (List.range 834) kK
theorem lC (w : World) : (fun os => hk.obs (s1 w os)) = fun os => hk.val w := funext fun os => by
 have e : hk.val w = (hL w.params).map some := by
  show (KK w.params).map (fun p => some p.2) = _
  have := congrArg (List.map some) (List.map_snd_zip (l₁ := List.range 834) (l₂ := hL w.params) (by rw [nL, List.length_range]; exact Nat.le_refl _))
  rw [List.map_map] at this
  exact this
 rw [e]
 show (List.range 834).map (hH w.params).get? = _
 rw [← nL w.params]
 refine List.ext_getElem? fun i => ?_
 rw [List.getElem?_map, List.getElem?_map]
 by_cases hi : i < (hL w.params).length
 · rw [List.getElem?_range hi, List.getElem?_eq_getElem hi]
   exact congrArg some (get_L (vL _) hi)
 · rw [List.getElem?_eq_none (by rw [List.length_range]; exact Nat.le_of_not_lt hi), List.getElem?_eq_none (Nat.le_of_not_lt hi)]; rfl
theorem Pc.of {N a b n n' k k' : Nat} {t t' : Params → BT} {p p' : Pos} (h : Pc N a b t t' n n' k k' p p') (w : World) : (fun os => segRun treeTable rwP w 11 ann 1 N (sT t n k w os).abs (piecesOf (sB a b) ev0 hcE p tf)) = fun os => some (.next, (sT t' n' k' w os).abs, hcE, p') := funext fun os => segRun_of (congrFun (h w) os)
noncomputable def hRs (N a : Nat) (t : Params → BT) (n k : Nat) (p : Pos) : Prop := ∀ (w : World) (os : OsState), topRun treeTable rwP w 11 ann N (sT t n k w os).abs (restOf (rwB.drop a) ev0 hcE p tf) = some (s1 w os)
theorem Pc.th {N N' a b n n' k k' : Nat} {t t' : Params → BT} {p p' : Pos} (h : Pc N a b t t' n n' k k' p p') (r : hRs N' (a + b) t' n' k' p') : hRs (N + N') a t n k p := fun w os => by
 have r := r w os
 rw [← List.drop_drop] at r
 have := piece_app (congrFun (h.of w) os) r
 rwa [List.take_append_drop] at this
theorem pF : hRs 2 68 e17 834 1413 (ps 604 0 629 122) := fun w os => congrFun (pD w) os
theorem pA : ∃ N, Nat.ble N 19000 = true ∧ hRs N 0 e0 15 187 (ps 0 0 0 0) := ⟨_, by decide, p0.th (p1.th (p2.th (p3.th (p4.th (p5.th (p6.th (p7.th (p8.th (p9.th (p10.th (p11.th (p12.th (p13.th (p14.th (p15.th (p16.th (pF)))))))))))))))))⟩
theorem hrun : ∃ N, Nat.ble N 20000 = true ∧ ∀ (w : World) (os : OsState), topRun treeTable rwP w 11 ann N (s0 w os) (topStub rwP) = some (s1 w os) := by
 obtain ⟨N, h, r⟩ := pA
 have h := Nat.le_of_ble_eq_true h
 exact ⟨_, Nat.ble_eq_true_of_le (by lia), fun w os => go_top (congrFun (pB w) os) (piece_block (congrFun (pC w) os) (r w os))⟩
theorem fence (s : Shared) : fenceModules? rwP s = some s := rfl
theorem opn : opening rwP = plainProg rwP.main.scope.names := rfl
noncomputable def nN : Nat := 20000
theorem left : LeftO rwP VV loo (fun s => xlAt VV [] s && recOk rwR.records s) hk.obs hk.val nN true := by
 obtain ⟨N, h, r⟩ := hrun
 exact LeftO.of_pieces (boot_open opn (by decide) fence) pE r h fun w => funext fun os => looks_pair (congrFun (lA w) os) (looks_pair (congrFun (lB w) os) (congrFun (lC w) os))
noncomputable def dR : DefRec := ⟨Str.ofString "law", (partS (stm 6799)).2.1, (partS (stm 6799)).2.2.1, (partS (stm 6799)).2.2.2, ps 604 0 629 122⟩
set_option maxHeartbeats 4000000 in
theorem sA : looksOpen PySem.Challenge.rw_pb0568_01.row.prog = true := by
 unfold looksOpen
 repeat' (with_reducible apply look_both)
 all_goals decide +kernel
set_option maxHeartbeats 4000000 in
theorem said : OpenLaw.wellSaid PySem.Challenge.rw_pb0568_01 = true := by
 unfold OpenLaw.wellSaid OpenRow.wellSaid OpenRow.partSaid
 repeat' (with_reducible apply look_both)
 · exact sA
 all_goals kernel_rfl
theorem hA : defOf VV rwR.name = some (dR, []) := by kernel_rfl
theorem hBB : rwP.theDef rwR.name = some (dR.params, dR.body, dR.scope) := by kernel_rfl
theorem hCC : kwWritten? dR.params.kwonlyargs dR.params.kw_defaults = some [] := by kernel_rfl
theorem hEE : (chainsOk VV && opensWell rwP && (frees rwR && rwR.within.isEmpty)) = true := by kernel_rfl
theorem hFF : rwP.tablesWhole = true := by kernel_rfl
theorem hG1 : rwR.claim.pre [.list []] = true := by kernel_rfl
theorem hG2 : (WData.layableAll [.list []] && rwR.returnsAt [.list []]) = true := by kernel_rfl
theorem head (walk : WalkO VV loo (XL VV []) hk.says rwR dR [] fun f vs => PySem.call f vs) : PySem.Challenge.rw_pb0568_01.Holds :=
 holds_law said fun said => holds_open left (Hook.of hk) (Hook.keeps hk) (fun s e => xl_of s (Bool.and_eq_true_iff.mp e).1) XL.keeps hA hBB hCC (fun s e => recFacts_of (Bool.and_eq_true_iff.mp e).2) (by kernel_rfl) said hEE ⟨rfl, rfl, rfl, rfl, rfl, hFF⟩ ⟨[.list []], hG1, hG2⟩ walk
end MH
namespace Mine
open MH
section
open PySem PySem.W PyProof.Rows PySem.SeqAt
noncomputable def fnA (f : Nat) : Addr := ([21, 35, 81, 102, 123, 139, 146, 153, 160, 167, 174, 188, 202, 209, 223, 230, 237, 244, 251, 258, 265, 272, 279, 286, 293, 307, 321, 342, 363, 385, 392, 399, 406, 413, 420, 427, 434, 441, 448, 462, 469, 476, 483, 490, 505, 512, 519, 526, 533, 540, 547, 554, 561, 568, 576, 583, 590, 597, 604, 616, 623, 630, 637, 644, 651, 658, 665, 672, 679, 686, 693, 700, 707, 714, 721, 728, 735, 742, 749, 756, 763, 770, 777, 784, 791, 798, 805, 812, 819, 826, 833] : List Nat).getD f 0
noncomputable def clA (c : Nat) : Addr := ([38, 51, 63, 84, 105, 126, 191, 296, 324, 345, 366, 451, 607] : List Nat).getD c 0
noncomputable def bodyOf (K : Frag) (a : Addr) : Option (FuncData × List Stmt) := match K.lookup a with
 | some o => match o.data with
  | .func fd => match fd.body with
   | .stmts b => some (fd, b)
   | _ => none
  | _ => none
 | none => none
noncomputable def fnT (K : Frag) (f : Nat) : Option (PS × Bool × Option (List MV)) := (fns f).bind fun r => (bodyOf K (fnA f)).map fun p => (cSs p.1.scope (locTab f) 20 p.2, fdB K p.1 (locTab f) r, mvsOf (mvOf K 3) (dflOf K p.1.defaults))
noncomputable def bnT (K : Frag) (S : Setting) (g : Nat → Value) (f : Nat) : Option (List (Option (Option (List (Str × Value))))) := (fns f).map fun r => (List.range (r.dflts.length + 1)).map fun j => (bodyOf K (fnA f)).map fun p => peek K S (bindArgs p.1 ⟨(List.range (r.params - r.dflts.length + j)).map g, []⟩)
noncomputable def bnU (K : Frag) (g : Nat → Value) (f : Nat) : Option (List (Option (Option (List (Str × Value))))) := (fns f).map fun r => (List.range (r.dflts.length + 1)).map fun j => (bodyOf K (fnA f)).map fun p => some (((locTab f).take r.params).zip ((List.range (r.params - r.dflts.length + j)).map g ++ (dflOf K p.1.defaults).drop (r.params - r.dflts.length + j + r.dflts.length - r.params)))
theorem body_e {K : Frag} {a : Addr} {p : FuncData × List Stmt} (h : bodyOf K a = some p) : ∃ o, K.lookup a = some o ∧ o.data = .func p.1 ∧ p.1.body = .stmts p.2 := by
 unfold bodyOf at h
 split at h
 · rename_i o ho
   split at h
   · rename_i fd hfd
     split at h
     · rename_i b hb
       obtain rfl := Option.some.inj h
       exact ⟨o, ho, hfd, hb⟩
     · cases h
   · cases h
 · cases h
theorem allK_of {Q : Nat → Prop} {lo : Nat} : ∀ n, (∀ j, j ≤ n → Q (lo + j)) → allK Q lo n := fun n => by
 induction n with
 | zero => exact fun h => h 0 (Nat.le_refl _)
 | succ n ih => exact fun h => ⟨h _ (Nat.le_refl _), ih fun j hj => h j (Nat.le_succ_of_le hj)⟩
theorem fnOK_of {K : Frag} {f : Nat} {r : FnRec} (hr : fns f = some r) (h1 : fnT K f = (fns f).map fun r => (r.body, true, some r.dflts)) (h2 : ∀ S g, bnT K S g f = bnU K g f) : FnOK K (fnA f) (locTab f) r := by
 unfold fnT at h1
 rw [hr] at h1
 obtain ⟨p, hp, h1⟩ := Option.map_eq_some_iff.mp h1
 obtain ⟨o, a, b, c⟩ := body_e hp
 refine ⟨o, p.1, p.2, a, b, c, congrArg (·.1) h1, congrArg (·.2.1) h1, congrArg (·.2.2) h1, fun S g => allK_of _ fun j hj => ?_⟩
 have h := h2 S g
 unfold bnT bnU at h
 rw [hr, hp] at h
 exact Option.some.inj (List.map_inj_left.mp (Option.some.inj h) j (List.mem_range.mpr (Nat.lt_succ_of_le hj)))
theorem fnT_ok (P : Params) : (List.range 91).map (fnT (KK P)) = (List.range 91).map fun f => (fns f).map fun r => (r.body, true, some r.dflts) := by kernel_rfl
theorem bnT_ok (P : Params) (S : Setting) (g : Nat → Value) : (List.range 91).map (bnT (KK P) S g) = (List.range 91).map (bnU (KK P) g) := by kernel_rfl
theorem fns_lt {f : Nat} {r : FnRec} (h : fns f = some r) : f < 91 := by
 refine Nat.lt_of_not_le fun hf => ?_
 have : fns f = none := by unfold fns; rw [List.getElem?_eq_none (show fnL.length ≤ f from hf)]; rfl
 rw [this] at h
 cases h
theorem all_in {α β : Type} {g h : α → β} {l : List α} (e : l.map g = l.map h) {a : α} (ha : a ∈ l) : g a = h a := List.map_inj_left.mp e a ha
noncomputable def kL : List Nat := [3, 4, 5, 6, 7, 8, 9, 12]
theorem kind_in {cl : Nat} {b : Bool} (h : kind cl = some b) : cl ∈ kL := by
 obtain ⟨x, hx, rfl⟩ := lookN_mem h
 exact List.mem_map_of_mem (f := fun p : Nat × Bool => p.1) hx
theorem kindF_in {cl : Nat} (h : kind cl = some false) : cl ∈ kL.tail := by
 rcases List.mem_cons.mp (kind_in h) with rfl | h'
 · cases h
 · exact h'
theorem ask_in {cl : Nat} (h : askCl cl = true) : cl ∈ [4, 5] := by
 rcases Bool.or_eq_true_iff.mp h with h | h
 · rw [Nat.eq_of_beq_eq_true h]; exact .head _
 · rw [Nat.eq_of_beq_eq_true h]; exact .tail _ (.head _)
noncomputable def glB (K : Frag) : Bool := gTab.all fun p => match nsIn K mainGlobals p.1 with | some (some (.ref a)) => a == (if p.2.1 then clA p.2.2 else fnA p.2.2) | _ => false
section
variable (P : Params)
theorem cls_ok : kL.map (fun cl => (findIn (KK P) (.ref (clA cl)) "__setattr__", findIn (KK P) (.ref (clA cl)) "__getattr__", hasDictIn (KK P) (clA cl), keepIn (KK P) (.ref (clA cl)), (clsIn (KK P) (clA cl)).map fun cd => (cd.mro.isEmpty, cd.mro.contains (.type "object"), fun self => refuseLoop self "__setattr__" cd.mro))) = kL.map fun _ => (some (some (.builtin "object.__setattr__")), some none, true, true, some (false, true, fun _ => pure ())) := by kernel_rfl
theorem cls2_ok : kL.tail.map (fun cl => (findIn (KK P) (.ref (clA cl)) "__getattribute__", makesIn (KK P) (clA cl))) = kL.tail.map fun _ => (some (some (.builtin "object.__getattribute__")), true) := by kernel_rfl
theorem cls3_ok : [4, 5].map (fun cl => (isIn (KK P) (.ref (clA cl)) (clA cl), kitOne (KK P) (.type "str") (.ref (clA cl)), plainGet (KK P) (clA cl) "__class__", findIn (KK P) (.ref (clA cl)) "__class__", mroIn (KK P) (clA cl) (.type "object"), kin_not (KK P) (clA cl) (clA (9 - cl)))) = [4, 5].map fun _ => (true, some false, true, some (some (.builtin "object.__class__")), some true, true) := by kernel_rfl
theorem keepF_ok : (List.range 91).map (fun f => (keepIn (KK P) (.ref (fnA f)), typeIn (KK P) (.ref (fnA f)))) = (List.range 91).map fun _ => (true, some (.type "function")) := by kernel_rfl
theorem find_ok : kL.map (fun cl => (List.range 95).map fun n => findIn (KK P) (.ref (clA cl)) (nmOf n)) = kL.map fun cl => (List.range 95).map fun n => some ((meths cl n).map fun f => .ref (fnA f)) := by kernel_rfl
theorem gl_ok : glB (KK P) = true := by kernel_rfl
end
theorem excC_ok (P : Params) : ∃ nm q N bs hdct sn sub ab col dd k0 k1 k2 k3 k5, (KK P).lookup (clA excCl) = some (excClassObj nm q (clA excCl) N bs [.type "Exception", .type "BaseException", .type "object"] hdct sn sub ab col dd k0 k1 k2 k3 k5 "Exception.__new__") :=
 ⟨_, _, _, _, _, _, _, _, _, _, _, _, _, _, _, by rfl⟩
theorem glob_ok {P : Params} {h : Heap} {mg : Str → Option Value} (X : (KK P).In h) (G : h.Ns mainGlobals mg) : ∀ x b i, gTab.lookup x = some (b, i) → mg x = some (.ref (if b then clA i else fnA i)) := by
 intro x b i e
 have hm : ∀ l : List (Str × Bool × Nat), l.lookup x = some (b, i) → (x, b, i) ∈ l := by
  intro l
  induction l with
  | nil => intro h; cases h
  | cons p l ih =>
   intro h
   obtain ⟨k, v⟩ := p
   rw [List.lookup_cons] at h
   split at h
   · rename_i hk
     rw [eq_of_beq hk, ← Option.some.inj h]; exact .head _
   · exact .tail _ (ih h)
 have := List.all_eq_true.mp (gl_ok P) _ (hm _ e)
 dsimp only at this
 split at this
 · rename_i a q
   rw [← eq_of_beq this]
   exact mg_of X G q
 · cases this
noncomputable def noT : Bool := bNames.all fun x => !(startupNames.contains x || (looN.contains x || (((recsOf VV).map (·.name)).contains x || (((litsOf VV).map (·.1)).contains x || ((clssOf VV looN).map (·.name)).contains x))))
theorem noT_ok : noT = true := by kernel_rfl
theorem ncon {x : Str} {l : List Str} (h : l.contains x = false) : x ∉ l := fun m => by rw [List.contains_iff_mem.mpr m] at h; cases h
theorem noglob_ok {mean : ExcName → Option Value} {mg mb : Str → Option Value} {h : Heap} (T : Top VV looN mean mg mb h) : ∀ x ∈ bNames, mg x = none := by
 intro x hx
 have h := (Bool.not_eq_eq_eq_not.mp (List.all_eq_true.mp noT_ok x hx))
 simp only [Bool.not_true, Bool.or_eq_false_iff] at h
 exact T.free x (ncon h.1) (ncon h.2.1) (ncon h.2.2.1) (ncon h.2.2.2.1) (ncon h.2.2.2.2)
theorem top_ok {c : Cx} {mean : ExcName → Option Value} {mg mb : Str → Option Value} (hD : c.D = ⟨fnA, clA⟩) (X : (KK c.w.params).In c.h₁) (T : Top VV looN mean mg mb c.h₁) : TopOK c (KK c.w.params) mg mb := by
 have hs : ∃ o, c.base sysModules = some o := by
  obtain ⟨_, ⟨mm, ⟨o, _, _, ho, _⟩, _⟩, _, _⟩ := T.seer (by decide +kernel)
  exact ⟨o, c.hb _ _ ho⟩
 obtain ⟨pr, w, D, h₁, base, os, frames, hb⟩ := c
 dsimp only at hD
 subst hD
 exact {
  kin := X, g := T.g, b := T.b, nolimit := T.nolimit, builtins := T.builtins
  fld := fun cl b h => by
   have e := all_in (cls_ok w.params) (kind_in h)
   obtain ⟨cd, h1, h2⟩ := Option.map_eq_some_iff.mp (congrArg (·.2.2.2.2) e)
   exact ⟨congrArg (·.1) e, congrArg (·.2.1) e, congrArg (·.2.2.1) e, cd, h1, congrArg (·.1) h2, congrArg (·.2.1) h2, fun self => congrFun (congrArg (·.2.2) h2) self⟩
  gaI := fun cl h => congrArg (·.1) (all_in (cls2_ok w.params) (kindF_in h))
  sysm := hs
  isiT := fun cl h => congrArg (·.1) (all_in (cls3_ok w.params) (ask_in h))
  isiF := fun cl cl' h h' hn => by
   have e := congrArg (·.2.2.2.2.2) (all_in (cls3_ok w.params) (ask_in h))
   rcases List.mem_cons.mp (ask_in h) with rfl | h2 <;> rcases List.mem_cons.mp (ask_in h') with rfl | h3
   · exact absurd rfl hn
   · rw [List.mem_singleton.mp h3]; exact e
   · rw [List.mem_singleton.mp h2] at e ⊢; exact e
   · rw [List.mem_singleton.mp h2, List.mem_singleton.mp h3] at hn; exact absurd rfl hn
  isiS := fun cl h => congrArg (·.2.1) (all_in (cls3_ok w.params) (ask_in h))
  clsA := fun cl h => by
   have e := all_in (cls3_ok w.params) (ask_in h)
   exact ⟨congrArg (·.2.2.1) e, congrArg (·.2.2.2.1) e, congrArg (·.2.2.2.2.1) e⟩
  getset := by kernel_rfl
  takes := by kernel_rfl
  keepF := fun f h => congrArg (·.1) (all_in (keepF_ok w.params) (List.mem_range.mpr (Nat.blt_eq.mp h)))
  keepC := fun cl b h => congrArg (·.2.2.2.1) (all_in (cls_ok w.params) (kind_in h))
  glob := glob_ok X T.g
  noglob := noglob_ok T
  exm := by kernel_rfl
  gaX := by kernel_rfl
  subX := by kernel_rfl
  fnOK := fun f r h => fnOK_of h (all_in (fnT_ok w.params) (List.mem_range.mpr (fns_lt h))) fun S g => all_in (bnT_ok w.params S g) (List.mem_range.mpr (fns_lt h))
  makes := fun cl h => congrArg (·.2) (all_in (cls2_ok w.params) (kindF_in h))
  hostG := by kernel_rfl
  hostR := by kernel_rfl
  hostF := by kernel_rfl
  excC := excC_ok w.params
  metaX := by kernel_rfl
  nofind := fun cl b n h hn hm => by
   have e := all_in (all_in (find_ok w.params) (kind_in h)) (List.mem_range.mpr hn)
   rw [hm] at e
   exact e
  meth := fun cl b n f h hn hm => by
   have e := all_in (all_in (find_ok w.params) (kind_in h)) (List.mem_range.mpr hn)
   rw [hm] at e
   exact ⟨e, congrArg (·.2) (all_in (keepF_ok w.params) (List.mem_range.mpr (Nat.blt_eq.mp (meths_lt hm))))⟩ }
theorem law_walk {pr : Program} {w : World} {s₁ : Shared} {mg mb : Str → Option Value} {mean : ExcName → Option Value} {fa : Addr} {scope : Scope} {qual : Str} {cdv : Value} {body : List Stmt} {h₁ : Heap} {m : Str → Option Value} {xs : List Int} {a : Addr} {vals : List Value} {t : Nat}
 (X : (KK w.params).In s₁.heap) (T : Top VV looN mean mg mb s₁.heap) (hg : s₁.gens = #[])
 (F : Fr s₁.heap s₁.heap.objs.size h₁ m) (hm : m "script" = some (.ref a)) (hL : s₁.heap.IsList a vals.toArray) (hI : IntsAre vals xs)
 (hb : cSs scope (locTab 90) 20 body = b_law) (hk : scope.kind = .function) (hloc : ((locTab 90).all fun x => scope.names.lookup x == some .local) = true) (hnd : (locTab 90).Nodup)
 (hlaw : ∃ n σ', n ≤ 200 ∧ callN (n + 1) 90 [.scr xs] none [] (.ok (.bool true) σ')) {Q : Flow → Shared → Prop} {E : Value → Shared → Prop}
 (hQ : ∀ s' m', Fr s₁.heap s₁.heap.objs.size s'.heap m' → s'.gens = #[] → s'.os = s₁.os → Q (.ret (.bool true)) s') :
 wpAny (model pr w) (callerA.deeper (envOf qual scope s₁.heap.objs.size fa cdv)) (execs body (envOf qual scope s₁.heap.objs.size fa cdv)) Q E { s₁ with heap := h₁, toks := t } := by
 obtain ⟨n, σ', hn, q, R, hq, _, _, hex, hR⟩ := hlaw
 obtain rfl := Option.some.inj (show some (⟨1, 13, [], b_law⟩ : FnRec) = some q from hq)
 let c : Cx := ⟨pr, w, ⟨fnA, clA⟩, s₁.heap, s₁.heap.get?, s₁.os, [], fun _ _ e => e⟩
 let P : Pt := { c := c, K := KK w.params, mg := mg, mb := mb, A := callerA.deeper (envOf qual scope s₁.heap.objs.size fa cdv), q := qual, sc := scope, L := s₁.heap.objs.size, fa := fa, cd := cdv, m := m, names := locTab 90, locs := some (.scr xs) :: List.replicate 12 none, hd := none, n := n }
 have hLn : s₁.heap.get? s₁.heap.objs.size = none := g9 _
 obtain ⟨o, ho, hc, nn, hdat⟩ := hL
 have A : At P [] [] { s₁ with heap := h₁, toks := t } := by
  refine ⟨⟨top_ok rfl X T, ?_, ?_, Nat.le_refl _, hnd, ?_, rfl, ?_, ?_⟩, rfl, (fun i p o e => nomatch e), List.nodup_nil, F.keep, (fun x hx => nomatch hx), ⟨F.ns, (fun h => nomatch h)⟩, (fun p hp => nomatch hp), hg, rfl, ?_, rfl⟩
  · intro e he
    obtain rfl := List.mem_singleton.mp he
    exact ⟨hk, rfl, hLn⟩
  · exact List.nodup_cons.mpr ⟨(fun h => nomatch h), List.nodup_nil⟩
  · exact fun x hx => eq_of_beq (List.all_eq_true.mp hloc x hx)
  · show 302 + 2 * n + 4 < 1000
    lia
  · show 4 + 3 + 20 * n + 60 < 9900
    lia
  · intro i x v e1 e2
    cases i with
    | zero =>
     obtain rfl := Option.some.inj (Option.some.inj (show some (some (MV.scr xs)) = some (some v) from e2))
     obtain rfl := Option.some.inj ((show (locTab 90)[0]? = some ("script" : Str) by decide +kernel).symm.trans e1)
     exact ⟨_, hm, a, o, vals, nn, rfl, ho, hc, hdat, hI⟩
    | succ i =>
     have h := List.mem_of_getElem? (show (List.replicate 12 (none : Option MV))[i]? = some (some v) from e2)
     exact nomatch List.eq_of_mem_replicate h
 refine cSs_ok 20 P (fun P' h => callOK n P' h) body P.locs P.m _ _ _ A Q E ?_
 refine ⟨R, ?_, ?_⟩
 · show ex (callN n) (cSs scope (locTab 90) 20 body) none P.locs [] R
   rw [hb]
   exact hex
 · cases R with
   | err e L σ => cases hR
   | ok f L σ =>
    cases f with
    | nxt => cases hR
    | ret v =>
     obtain ⟨rfl, rfl⟩ : MV.bool true = v ∧ σ' = σ := by injection hR with h1 h2; exact ⟨h1, h2⟩
     rintro ρ' s' m' fl X' A' ⟨y, rfl, rfl⟩
     exact hQ s' m' A'.Fr A'.gens A'.os
end
end Mine
open PySem PySem.W PyProof.Rows
set_option maxHeartbeats 4000000 in
theorem PySem.Challenge.cw_pb0568_01_holds : PySem.Challenge.rw_pb0568_01.Holds := by
  refine MH.head ?_
  intro w s₀ s₁ mg mb G Y fa o pm cd doc dV kV ho hd hcd hD hmg hg args vals as hpre hlay hrd hwl hlo
  have KX := kIn_of Y
  refine Ground.open G ?_
  intro T B D TE TW
  clear D TE TW B
  obtain ⟨_, _, M⟩ := bmod_of_top T
  have TA := at_of_top T
  try (obtain ⟨_, _, he, B0⟩ := based_of_top T rfl hmg ho hd; have he' : cd = _ := he; subst he'; clear he)
  clear hmg
  wrow_args hpre hlay hrd hwl hlo
  all_goals (
    first | refine callC_kw (enter_call ?_) | refine enter_call ?_ | refine callC_kw (enter_callW ?_) | refine enter_callW ?_ | w_how
    w_top on
    try refine codeAny_mono ?_ (fun _ _ g => GoodW.toG g)
    have K0 := below_caller (Top.heap T)
    w_call any ho hd hcd hD T F
    clear hd TA
    k_drop
    skip)
  rename_i w9 w8 w7 w6 xs hs hlay hL1 hr1 hl2 w4 w3 a vals wl hL ra w1 r0 hI hr2 hc1 hc2 h1 N0
  refine Mine.law_walk KX T hg F (a := a) rfl hL hI (by kernel_rfl) rfl (by kernel_rfl) (by decide +kernel) (Mine.law_true _ (by omega)) (fun s' m' F' hg' ho' => goodW_bool F' hg' (fun cls => rfl) (by kernel_rfl) ho')
