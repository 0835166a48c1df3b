import PyProof.Rows.All
import Wide.All
import OpenK.AllK
import Wide.FinOn
import PySem.Challenge.RW_pf0401_01
open PySem PySem.W PySem.W.X PyProof.Rows
set_option Elab.async false
set_option maxRecDepth 100000
set_option maxHeartbeats 0
namespace Mine
noncomputable def bl (P : Params) : List DictEntry := match (boot_o_0 P).data with | .dict es _ => es.toList | _ => []
noncomputable def ch0 (P : Params) : List DictEntry := by
  refine (?f : (List.take 12 (List.drop 0 (bl P)) = ?g) → List DictEntry) ?u
  case u =>
    dsimp only [bl, boot_o_0, List.drop, List.take]
    exact rfl
  case f => exact fun _ => ?g
noncomputable def ch1 (P : Params) : List DictEntry := by
  refine (?f : (List.take 12 (List.drop 12 (bl P)) = ?g) → List DictEntry) ?u
  case u =>
    dsimp only [bl, boot_o_0, List.drop, List.take]
    exact rfl
  case f => exact fun _ => ?g
noncomputable def ch2 (P : Params) : List DictEntry := by
  refine (?f : (List.take 12 (List.drop 24 (bl P)) = ?g) → List DictEntry) ?u
  case u =>
    dsimp only [bl, boot_o_0, List.drop, List.take]
    exact rfl
  case f => exact fun _ => ?g
noncomputable def ch3 (P : Params) : List DictEntry := by
  refine (?f : (List.take 12 (List.drop 36 (bl P)) = ?g) → List DictEntry) ?u
  case u =>
    dsimp only [bl, boot_o_0, List.drop, List.take]
    exact rfl
  case f => exact fun _ => ?g
noncomputable def ch4 (P : Params) : List DictEntry := by
  refine (?f : (List.take 12 (List.drop 48 (bl P)) = ?g) → List DictEntry) ?u
  case u =>
    dsimp only [bl, boot_o_0, List.drop, List.take]
    exact rfl
  case f => exact fun _ => ?g
noncomputable def ch5 (P : Params) : List DictEntry := by
  refine (?f : (List.take 12 (List.drop 60 (bl P)) = ?g) → List DictEntry) ?u
  case u =>
    dsimp only [bl, boot_o_0, List.drop, List.take]
    exact rfl
  case f => exact fun _ => ?g
noncomputable def ch6 (P : Params) : List DictEntry := by
  refine (?f : (List.take 12 (List.drop 72 (bl P)) = ?g) → List DictEntry) ?u
  case u =>
    dsimp only [bl, boot_o_0, List.drop, List.take]
    exact rfl
  case f => exact fun _ => ?g
noncomputable def ch7 (P : Params) : List DictEntry := by
  refine (?f : (List.take 12 (List.drop 84 (bl P)) = ?g) → List DictEntry) ?u
  case u =>
    dsimp only [bl, boot_o_0, List.drop, List.take]
    exact rfl
  case f => exact fun _ => ?g
noncomputable def ch8 (P : Params) : List DictEntry := by
  refine (?f : (List.take 12 (List.drop 96 (bl P)) = ?g) → List DictEntry) ?u
  case u =>
    dsimp only [bl, boot_o_0, List.drop, List.take]
    exact rfl
  case f => exact fun _ => ?g
noncomputable def ch9 (P : Params) : List DictEntry := by
  refine (?f : (List.take 12 (List.drop 108 (bl P)) = ?g) → List DictEntry) ?u
  case u =>
    dsimp only [bl, boot_o_0, List.drop, List.take]
    exact rfl
  case f => exact fun _ => ?g
noncomputable def ch10 (P : Params) : List DictEntry := by
  refine (?f : (List.take 12 (List.drop 120 (bl P)) = ?g) → List DictEntry) ?u
  case u =>
    dsimp only [bl, boot_o_0, List.drop, List.take]
    exact rfl
  case f => exact fun _ => ?g
noncomputable def ch11 (P : Params) : List DictEntry := by
  refine (?f : (List.take 12 (List.drop 132 (bl P)) = ?g) → List DictEntry) ?u
  case u =>
    dsimp only [bl, boot_o_0, List.drop, List.take]
    exact rfl
  case f => exact fun _ => ?g
noncomputable def ch12 (P : Params) : List DictEntry := by
  refine (?f : (List.take 12 (List.drop 144 (bl P)) = ?g) → List DictEntry) ?u
  case u =>
    dsimp only [bl, boot_o_0, List.drop, List.take]
    exact rfl
  case f => exact fun _ => ?g
noncomputable def ch13 (P : Params) : List DictEntry := by
  refine (?f : (List.take 12 (List.drop 156 (bl P)) = ?g) → List DictEntry) ?u
  case u =>
    dsimp only [bl, boot_o_0, List.drop, List.take]
    exact rfl
  case f => exact fun _ => ?g
noncomputable def o0 (P : Params) : Obj := { cls := .type "dict", data := .dict (ch0 P ++ (ch1 P ++ (ch2 P ++ (ch3 P ++ (ch4 P ++ (ch5 P ++ (ch6 P ++ (ch7 P ++ (ch8 P ++ (ch9 P ++ (ch10 P ++ (ch11 P ++ (ch12 P ++ (ch13 P)))))))))))))).toArray 159 }
theorem o0_is (P : Params) : boot_o_0 P = o0 P := by kernel_rfl
noncomputable def bh (P : Params) : Heap := { objs := #[o0 P, boot_o_1 P, boot_o_2 P, boot_o_3 P, boot_o_4 P, boot_o_5 P, boot_o_6 P, boot_o_7 P, boot_o_8 P, boot_o_9 P, boot_o_10 P] }
theorem bh_is (P : Params) : boot_heap P = bh P := by kernel_rfl
noncomputable def st0 : Stmt := by
  refine (?f : ((PySem.Challenge.pw_pf0401_01.main.body)[0]? = some ?g) → Stmt) ?u
  case u =>
    dsimp only [PySem.Challenge.pw_pf0401_01, List.getElem?_cons_succ, List.getElem?_cons_zero]
    exact rfl
  case f => exact fun _ => ?g
noncomputable def st1 : Stmt := by
  refine (?f : ((PySem.Challenge.pw_pf0401_01.main.body)[1]? = some ?g) → Stmt) ?u
  case u =>
    dsimp only [PySem.Challenge.pw_pf0401_01, List.getElem?_cons_succ, List.getElem?_cons_zero]
    exact rfl
  case f => exact fun _ => ?g
noncomputable def st2 : Stmt := by
  refine (?f : ((PySem.Challenge.pw_pf0401_01.main.body)[2]? = some ?g) → Stmt) ?u
  case u =>
    dsimp only [PySem.Challenge.pw_pf0401_01, List.getElem?_cons_succ, List.getElem?_cons_zero]
    exact rfl
  case f => exact fun _ => ?g
noncomputable def st3 : Stmt := by
  refine (?f : ((PySem.Challenge.pw_pf0401_01.main.body)[3]? = some ?g) → Stmt) ?u
  case u =>
    dsimp only [PySem.Challenge.pw_pf0401_01, List.getElem?_cons_succ, List.getElem?_cons_zero]
    exact rfl
  case f => exact fun _ => ?g
noncomputable def st4 : Stmt := by
  refine (?f : ((PySem.Challenge.pw_pf0401_01.main.body)[4]? = some ?g) → Stmt) ?u
  case u =>
    dsimp only [PySem.Challenge.pw_pf0401_01, List.getElem?_cons_succ, List.getElem?_cons_zero]
    exact rfl
  case f => exact fun _ => ?g
noncomputable def st5 : Stmt := by
  refine (?f : ((PySem.Challenge.pw_pf0401_01.main.body)[5]? = some ?g) → Stmt) ?u
  case u =>
    dsimp only [PySem.Challenge.pw_pf0401_01, List.getElem?_cons_succ, List.getElem?_cons_zero]
    exact rfl
  case f => exact fun _ => ?g
noncomputable def st6 : Stmt := by
  refine (?f : ((PySem.Challenge.pw_pf0401_01.main.body)[6]? = some ?g) → Stmt) ?u
  case u =>
    dsimp only [PySem.Challenge.pw_pf0401_01, List.getElem?_cons_succ, List.getElem?_cons_zero]
    exact rfl
  case f => exact fun _ => ?g
noncomputable def st7 : Stmt := by
  refine (?f : ((PySem.Challenge.pw_pf0401_01.main.body)[7]? = some ?g) → Stmt) ?u
  case u =>
    dsimp only [PySem.Challenge.pw_pf0401_01, List.getElem?_cons_succ, List.getElem?_cons_zero]
    exact rfl
  case f => exact fun _ => ?g
noncomputable def st8 : Stmt := by
  refine (?f : ((PySem.Challenge.pw_pf0401_01.main.body)[8]? = some ?g) → Stmt) ?u
  case u =>
    dsimp only [PySem.Challenge.pw_pf0401_01, List.getElem?_cons_succ, List.getElem?_cons_zero]
    exact rfl
  case f => exact fun _ => ?g
noncomputable def st9 : Stmt := by
  refine (?f : ((PySem.Challenge.pw_pf0401_01.main.body)[9]? = some ?g) → Stmt) ?u
  case u =>
    dsimp only [PySem.Challenge.pw_pf0401_01, List.getElem?_cons_succ, List.getElem?_cons_zero]
    exact rfl
  case f => exact fun _ => ?g
noncomputable def st10 : Stmt := by
  refine (?f : ((PySem.Challenge.pw_pf0401_01.main.body)[10]? = some ?g) → Stmt) ?u
  case u =>
    dsimp only [PySem.Challenge.pw_pf0401_01, List.getElem?_cons_succ, List.getElem?_cons_zero]
    exact rfl
  case f => exact fun _ => ?g
noncomputable def st11 : Stmt := by
  refine (?f : ((PySem.Challenge.pw_pf0401_01.main.body)[11]? = some ?g) → Stmt) ?u
  case u =>
    dsimp only [PySem.Challenge.pw_pf0401_01, List.getElem?_cons_succ, List.getElem?_cons_zero]
    exact rfl
  case f => exact fun _ => ?g
noncomputable def st12 : Stmt := by
  refine (?f : ((PySem.Challenge.pw_pf0401_01.main.body)[12]? = some ?g) → Stmt) ?u
  case u =>
    dsimp only [PySem.Challenge.pw_pf0401_01, List.getElem?_cons_succ, List.getElem?_cons_zero]
    exact rfl
  case f => exact fun _ => ?g
noncomputable def st13 : Stmt := by
  refine (?f : ((PySem.Challenge.pw_pf0401_01.main.body)[13]? = some ?g) → Stmt) ?u
  case u =>
    dsimp only [PySem.Challenge.pw_pf0401_01, List.getElem?_cons_succ, List.getElem?_cons_zero]
    exact rfl
  case f => exact fun _ => ?g
noncomputable def st14 : Stmt := by
  refine (?f : ((PySem.Challenge.pw_pf0401_01.main.body)[14]? = some ?g) → Stmt) ?u
  case u =>
    dsimp only [PySem.Challenge.pw_pf0401_01, List.getElem?_cons_succ, List.getElem?_cons_zero]
    exact rfl
  case f => exact fun _ => ?g
noncomputable def st15 : Stmt := by
  refine (?f : ((PySem.Challenge.pw_pf0401_01.main.body)[15]? = some ?g) → Stmt) ?u
  case u =>
    dsimp only [PySem.Challenge.pw_pf0401_01, List.getElem?_cons_succ, List.getElem?_cons_zero]
    exact rfl
  case f => exact fun _ => ?g
noncomputable def st16 : Stmt := by
  refine (?f : ((PySem.Challenge.pw_pf0401_01.main.body)[16]? = some ?g) → Stmt) ?u
  case u =>
    dsimp only [PySem.Challenge.pw_pf0401_01, List.getElem?_cons_succ, List.getElem?_cons_zero]
    exact rfl
  case f => exact fun _ => ?g
noncomputable def st17 : Stmt := by
  refine (?f : ((PySem.Challenge.pw_pf0401_01.main.body)[17]? = some ?g) → Stmt) ?u
  case u =>
    dsimp only [PySem.Challenge.pw_pf0401_01, List.getElem?_cons_succ, List.getElem?_cons_zero]
    exact rfl
  case f => exact fun _ => ?g
noncomputable def st18 : Stmt := by
  refine (?f : ((PySem.Challenge.pw_pf0401_01.main.body)[18]? = some ?g) → Stmt) ?u
  case u =>
    dsimp only [PySem.Challenge.pw_pf0401_01, List.getElem?_cons_succ, List.getElem?_cons_zero]
    exact rfl
  case f => exact fun _ => ?g
noncomputable def st19 : Stmt := by
  refine (?f : ((PySem.Challenge.pw_pf0401_01.main.body)[19]? = some ?g) → Stmt) ?u
  case u =>
    dsimp only [PySem.Challenge.pw_pf0401_01, List.getElem?_cons_succ, List.getElem?_cons_zero]
    exact rfl
  case f => exact fun _ => ?g
noncomputable def st20 : Stmt := by
  refine (?f : ((PySem.Challenge.pw_pf0401_01.main.body)[20]? = some ?g) → Stmt) ?u
  case u =>
    dsimp only [PySem.Challenge.pw_pf0401_01, List.getElem?_cons_succ, List.getElem?_cons_zero]
    exact rfl
  case f => exact fun _ => ?g
noncomputable def st21 : Stmt := by
  refine (?f : ((PySem.Challenge.pw_pf0401_01.main.body)[21]? = some ?g) → Stmt) ?u
  case u =>
    dsimp only [PySem.Challenge.pw_pf0401_01, List.getElem?_cons_succ, List.getElem?_cons_zero]
    exact rfl
  case f => exact fun _ => ?g
noncomputable def st22 : Stmt := by
  refine (?f : ((PySem.Challenge.pw_pf0401_01.main.body)[22]? = some ?g) → Stmt) ?u
  case u =>
    dsimp only [PySem.Challenge.pw_pf0401_01, List.getElem?_cons_succ, List.getElem?_cons_zero]
    exact rfl
  case f => exact fun _ => ?g
noncomputable def st23 : Stmt := by
  refine (?f : ((PySem.Challenge.pw_pf0401_01.main.body)[23]? = some ?g) → Stmt) ?u
  case u =>
    dsimp only [PySem.Challenge.pw_pf0401_01, List.getElem?_cons_succ, List.getElem?_cons_zero]
    exact rfl
  case f => exact fun _ => ?g
noncomputable def st24 : Stmt := by
  refine (?f : ((PySem.Challenge.pw_pf0401_01.main.body)[24]? = some ?g) → Stmt) ?u
  case u =>
    dsimp only [PySem.Challenge.pw_pf0401_01, List.getElem?_cons_succ, List.getElem?_cons_zero]
    exact rfl
  case f => exact fun _ => ?g
noncomputable def st25 : Stmt := by
  refine (?f : ((PySem.Challenge.pw_pf0401_01.main.body)[25]? = some ?g) → Stmt) ?u
  case u =>
    dsimp only [PySem.Challenge.pw_pf0401_01, List.getElem?_cons_succ, List.getElem?_cons_zero]
    exact rfl
  case f => exact fun _ => ?g
noncomputable def st26 : Stmt := by
  refine (?f : ((PySem.Challenge.pw_pf0401_01.main.body)[26]? = some ?g) → Stmt) ?u
  case u =>
    dsimp only [PySem.Challenge.pw_pf0401_01, List.getElem?_cons_succ, List.getElem?_cons_zero]
    exact rfl
  case f => exact fun _ => ?g
noncomputable def st27 : Stmt := by
  refine (?f : ((PySem.Challenge.pw_pf0401_01.main.body)[27]? = some ?g) → Stmt) ?u
  case u =>
    dsimp only [PySem.Challenge.pw_pf0401_01, List.getElem?_cons_succ, List.getElem?_cons_zero]
    exact rfl
  case f => exact fun _ => ?g
noncomputable def st28 : Stmt := by
  refine (?f : ((PySem.Challenge.pw_pf0401_01.main.body)[28]? = some ?g) → Stmt) ?u
  case u =>
    dsimp only [PySem.Challenge.pw_pf0401_01, List.getElem?_cons_succ, List.getElem?_cons_zero]
    exact rfl
  case f => exact fun _ => ?g
noncomputable def st29 : Stmt := by
  refine (?f : ((PySem.Challenge.pw_pf0401_01.main.body)[29]? = some ?g) → Stmt) ?u
  case u =>
    dsimp only [PySem.Challenge.pw_pf0401_01, List.getElem?_cons_succ, List.getElem?_cons_zero]
    exact rfl
  case f => exact fun _ => ?g
noncomputable def st30 : Stmt := by
  refine (?f : ((PySem.Challenge.pw_pf0401_01.main.body)[30]? = some ?g) → Stmt) ?u
  case u =>
    dsimp only [PySem.Challenge.pw_pf0401_01, List.getElem?_cons_succ, List.getElem?_cons_zero]
    exact rfl
  case f => exact fun _ => ?g
noncomputable def st31 : Stmt := by
  refine (?f : ((PySem.Challenge.pw_pf0401_01.main.body)[31]? = some ?g) → Stmt) ?u
  case u =>
    dsimp only [PySem.Challenge.pw_pf0401_01, List.getElem?_cons_succ, List.getElem?_cons_zero]
    exact rfl
  case f => exact fun _ => ?g
noncomputable def st32 : Stmt := by
  refine (?f : ((PySem.Challenge.pw_pf0401_01.main.body)[32]? = some ?g) → Stmt) ?u
  case u =>
    dsimp only [PySem.Challenge.pw_pf0401_01, List.getElem?_cons_succ, List.getElem?_cons_zero]
    exact rfl
  case f => exact fun _ => ?g
noncomputable def st33 : Stmt := by
  refine (?f : ((PySem.Challenge.pw_pf0401_01.main.body)[33]? = some ?g) → Stmt) ?u
  case u =>
    dsimp only [PySem.Challenge.pw_pf0401_01, List.getElem?_cons_succ, List.getElem?_cons_zero]
    exact rfl
  case f => exact fun _ => ?g
noncomputable def st34 : Stmt := by
  refine (?f : ((PySem.Challenge.pw_pf0401_01.main.body)[34]? = some ?g) → Stmt) ?u
  case u =>
    dsimp only [PySem.Challenge.pw_pf0401_01, List.getElem?_cons_succ, List.getElem?_cons_zero]
    exact rfl
  case f => exact fun _ => ?g
noncomputable def st35 : Stmt := by
  refine (?f : ((PySem.Challenge.pw_pf0401_01.main.body)[35]? = some ?g) → Stmt) ?u
  case u =>
    dsimp only [PySem.Challenge.pw_pf0401_01, List.getElem?_cons_succ, List.getElem?_cons_zero]
    exact rfl
  case f => exact fun _ => ?g
noncomputable def st36 : Stmt := by
  refine (?f : ((PySem.Challenge.pw_pf0401_01.main.body)[36]? = some ?g) → Stmt) ?u
  case u =>
    dsimp only [PySem.Challenge.pw_pf0401_01, List.getElem?_cons_succ, List.getElem?_cons_zero]
    exact rfl
  case f => exact fun _ => ?g
noncomputable def st37 : Stmt := by
  refine (?f : ((PySem.Challenge.pw_pf0401_01.main.body)[37]? = some ?g) → Stmt) ?u
  case u =>
    dsimp only [PySem.Challenge.pw_pf0401_01, List.getElem?_cons_succ, List.getElem?_cons_zero]
    exact rfl
  case f => exact fun _ => ?g
noncomputable def st38 : Stmt := by
  refine (?f : ((PySem.Challenge.pw_pf0401_01.main.body)[38]? = some ?g) → Stmt) ?u
  case u =>
    dsimp only [PySem.Challenge.pw_pf0401_01, List.getElem?_cons_succ, List.getElem?_cons_zero]
    exact rfl
  case f => exact fun _ => ?g
noncomputable def st39 : Stmt := by
  refine (?f : ((PySem.Challenge.pw_pf0401_01.main.body)[39]? = some ?g) → Stmt) ?u
  case u =>
    dsimp only [PySem.Challenge.pw_pf0401_01, List.getElem?_cons_succ, List.getElem?_cons_zero]
    exact rfl
  case f => exact fun _ => ?g
noncomputable def st40 : Stmt := by
  refine (?f : ((PySem.Challenge.pw_pf0401_01.main.body)[40]? = some ?g) → Stmt) ?u
  case u =>
    dsimp only [PySem.Challenge.pw_pf0401_01, List.getElem?_cons_succ, List.getElem?_cons_zero]
    exact rfl
  case f => exact fun _ => ?g
noncomputable def st41 : Stmt := by
  refine (?f : ((PySem.Challenge.pw_pf0401_01.main.body)[41]? = some ?g) → Stmt) ?u
  case u =>
    dsimp only [PySem.Challenge.pw_pf0401_01, List.getElem?_cons_succ, List.getElem?_cons_zero]
    exact rfl
  case f => exact fun _ => ?g
noncomputable def st42 : Stmt := by
  refine (?f : ((PySem.Challenge.pw_pf0401_01.main.body)[42]? = some ?g) → Stmt) ?u
  case u =>
    dsimp only [PySem.Challenge.pw_pf0401_01, List.getElem?_cons_succ, List.getElem?_cons_zero]
    exact rfl
  case f => exact fun _ => ?g
noncomputable def st43 : Stmt := by
  refine (?f : ((PySem.Challenge.pw_pf0401_01.main.body)[43]? = some ?g) → Stmt) ?u
  case u =>
    dsimp only [PySem.Challenge.pw_pf0401_01, List.getElem?_cons_succ, List.getElem?_cons_zero]
    exact rfl
  case f => exact fun _ => ?g
noncomputable def st44 : Stmt := by
  refine (?f : ((PySem.Challenge.pw_pf0401_01.main.body)[44]? = some ?g) → Stmt) ?u
  case u =>
    dsimp only [PySem.Challenge.pw_pf0401_01, List.getElem?_cons_succ, List.getElem?_cons_zero]
    exact rfl
  case f => exact fun _ => ?g
noncomputable def st45 : Stmt := by
  refine (?f : ((PySem.Challenge.pw_pf0401_01.main.body)[45]? = some ?g) → Stmt) ?u
  case u =>
    dsimp only [PySem.Challenge.pw_pf0401_01, List.getElem?_cons_succ, List.getElem?_cons_zero]
    exact rfl
  case f => exact fun _ => ?g
noncomputable def st46 : Stmt := by
  refine (?f : ((PySem.Challenge.pw_pf0401_01.main.body)[46]? = some ?g) → Stmt) ?u
  case u =>
    dsimp only [PySem.Challenge.pw_pf0401_01, List.getElem?_cons_succ, List.getElem?_cons_zero]
    exact rfl
  case f => exact fun _ => ?g
noncomputable def st47 : Stmt := by
  refine (?f : ((PySem.Challenge.pw_pf0401_01.main.body)[47]? = some ?g) → Stmt) ?u
  case u =>
    dsimp only [PySem.Challenge.pw_pf0401_01, List.getElem?_cons_succ, List.getElem?_cons_zero]
    exact rfl
  case f => exact fun _ => ?g
noncomputable def st48 : Stmt := by
  refine (?f : ((PySem.Challenge.pw_pf0401_01.main.body)[48]? = some ?g) → Stmt) ?u
  case u =>
    dsimp only [PySem.Challenge.pw_pf0401_01, List.getElem?_cons_succ, List.getElem?_cons_zero]
    exact rfl
  case f => exact fun _ => ?g
noncomputable def st49 : Stmt := by
  refine (?f : ((PySem.Challenge.pw_pf0401_01.main.body)[49]? = some ?g) → Stmt) ?u
  case u =>
    dsimp only [PySem.Challenge.pw_pf0401_01, List.getElem?_cons_succ, List.getElem?_cons_zero]
    exact rfl
  case f => exact fun _ => ?g
noncomputable def st50 : Stmt := by
  refine (?f : ((PySem.Challenge.pw_pf0401_01.main.body)[50]? = some ?g) → Stmt) ?u
  case u =>
    dsimp only [PySem.Challenge.pw_pf0401_01, List.getElem?_cons_succ, List.getElem?_cons_zero]
    exact rfl
  case f => exact fun _ => ?g
noncomputable def st51 : Stmt := by
  refine (?f : ((PySem.Challenge.pw_pf0401_01.main.body)[51]? = some ?g) → Stmt) ?u
  case u =>
    dsimp only [PySem.Challenge.pw_pf0401_01, List.getElem?_cons_succ, List.getElem?_cons_zero]
    exact rfl
  case f => exact fun _ => ?g
noncomputable def st52 : Stmt := by
  refine (?f : ((PySem.Challenge.pw_pf0401_01.main.body)[52]? = some ?g) → Stmt) ?u
  case u =>
    dsimp only [PySem.Challenge.pw_pf0401_01, List.getElem?_cons_succ, List.getElem?_cons_zero]
    exact rfl
  case f => exact fun _ => ?g
noncomputable def st53 : Stmt := by
  refine (?f : ((PySem.Challenge.pw_pf0401_01.main.body)[53]? = some ?g) → Stmt) ?u
  case u =>
    dsimp only [PySem.Challenge.pw_pf0401_01, List.getElem?_cons_succ, List.getElem?_cons_zero]
    exact rfl
  case f => exact fun _ => ?g
noncomputable def st54 : Stmt := by
  refine (?f : ((PySem.Challenge.pw_pf0401_01.main.body)[54]? = some ?g) → Stmt) ?u
  case u =>
    dsimp only [PySem.Challenge.pw_pf0401_01, List.getElem?_cons_succ, List.getElem?_cons_zero]
    exact rfl
  case f => exact fun _ => ?g
noncomputable def st55 : Stmt := by
  refine (?f : ((PySem.Challenge.pw_pf0401_01.main.body)[55]? = some ?g) → Stmt) ?u
  case u =>
    dsimp only [PySem.Challenge.pw_pf0401_01, List.getElem?_cons_succ, List.getElem?_cons_zero]
    exact rfl
  case f => exact fun _ => ?g
noncomputable def st56 : Stmt := by
  refine (?f : ((PySem.Challenge.pw_pf0401_01.main.body)[56]? = some ?g) → Stmt) ?u
  case u =>
    dsimp only [PySem.Challenge.pw_pf0401_01, List.getElem?_cons_succ, List.getElem?_cons_zero]
    exact rfl
  case f => exact fun _ => ?g
noncomputable def st57 : Stmt := by
  refine (?f : ((PySem.Challenge.pw_pf0401_01.main.body)[57]? = some ?g) → Stmt) ?u
  case u =>
    dsimp only [PySem.Challenge.pw_pf0401_01, List.getElem?_cons_succ, List.getElem?_cons_zero]
    exact rfl
  case f => exact fun _ => ?g
noncomputable def st58 : Stmt := by
  refine (?f : ((PySem.Challenge.pw_pf0401_01.main.body)[58]? = some ?g) → Stmt) ?u
  case u =>
    dsimp only [PySem.Challenge.pw_pf0401_01, List.getElem?_cons_succ, List.getElem?_cons_zero]
    exact rfl
  case f => exact fun _ => ?g
noncomputable def st59 : Stmt := by
  refine (?f : ((PySem.Challenge.pw_pf0401_01.main.body)[59]? = some ?g) → Stmt) ?u
  case u =>
    dsimp only [PySem.Challenge.pw_pf0401_01, List.getElem?_cons_succ, List.getElem?_cons_zero]
    exact rfl
  case f => exact fun _ => ?g
noncomputable def st60 : Stmt := by
  refine (?f : ((PySem.Challenge.pw_pf0401_01.main.body)[60]? = some ?g) → Stmt) ?u
  case u =>
    dsimp only [PySem.Challenge.pw_pf0401_01, List.getElem?_cons_succ, List.getElem?_cons_zero]
    exact rfl
  case f => exact fun _ => ?g
noncomputable def st61 : Stmt := by
  refine (?f : ((PySem.Challenge.pw_pf0401_01.main.body)[61]? = some ?g) → Stmt) ?u
  case u =>
    dsimp only [PySem.Challenge.pw_pf0401_01, List.getElem?_cons_succ, List.getElem?_cons_zero]
    exact rfl
  case f => exact fun _ => ?g
noncomputable def st62 : Stmt := by
  refine (?f : ((PySem.Challenge.pw_pf0401_01.main.body)[62]? = some ?g) → Stmt) ?u
  case u =>
    dsimp only [PySem.Challenge.pw_pf0401_01, List.getElem?_cons_succ, List.getElem?_cons_zero]
    exact rfl
  case f => exact fun _ => ?g
noncomputable def st63 : Stmt := by
  refine (?f : ((PySem.Challenge.pw_pf0401_01.main.body)[63]? = some ?g) → Stmt) ?u
  case u =>
    dsimp only [PySem.Challenge.pw_pf0401_01, List.getElem?_cons_succ, List.getElem?_cons_zero]
    exact rfl
  case f => exact fun _ => ?g
noncomputable def st64 : Stmt := by
  refine (?f : ((PySem.Challenge.pw_pf0401_01.main.body)[64]? = some ?g) → Stmt) ?u
  case u =>
    dsimp only [PySem.Challenge.pw_pf0401_01, List.getElem?_cons_succ, List.getElem?_cons_zero]
    exact rfl
  case f => exact fun _ => ?g
noncomputable def st65 : Stmt := by
  refine (?f : ((PySem.Challenge.pw_pf0401_01.main.body)[65]? = some ?g) → Stmt) ?u
  case u =>
    dsimp only [PySem.Challenge.pw_pf0401_01, List.getElem?_cons_succ, List.getElem?_cons_zero]
    exact rfl
  case f => exact fun _ => ?g
noncomputable def st66 : Stmt := by
  refine (?f : ((PySem.Challenge.pw_pf0401_01.main.body)[66]? = some ?g) → Stmt) ?u
  case u =>
    dsimp only [PySem.Challenge.pw_pf0401_01, List.getElem?_cons_succ, List.getElem?_cons_zero]
    exact rfl
  case f => exact fun _ => ?g
noncomputable def sn0 : List (Str × NameKind) := by
  refine (?f : (List.take 15 (List.drop 0 (PySem.Challenge.pw_pf0401_01.main.scope.names)) = ?g) → List (Str × NameKind)) ?u
  case u =>
    dsimp only [PySem.Challenge.pw_pf0401_01, List.drop, List.take]
    exact rfl
  case f => exact fun _ => ?g
noncomputable def sn1 : List (Str × NameKind) := by
  refine (?f : (List.take 15 (List.drop 15 (PySem.Challenge.pw_pf0401_01.main.scope.names)) = ?g) → List (Str × NameKind)) ?u
  case u =>
    dsimp only [PySem.Challenge.pw_pf0401_01, List.drop, List.take]
    exact rfl
  case f => exact fun _ => ?g
noncomputable def sn2 : List (Str × NameKind) := by
  refine (?f : (List.take 15 (List.drop 30 (PySem.Challenge.pw_pf0401_01.main.scope.names)) = ?g) → List (Str × NameKind)) ?u
  case u =>
    dsimp only [PySem.Challenge.pw_pf0401_01, List.drop, List.take]
    exact rfl
  case f => exact fun _ => ?g
noncomputable def sn3 : List (Str × NameKind) := by
  refine (?f : (List.take 15 (List.drop 45 (PySem.Challenge.pw_pf0401_01.main.scope.names)) = ?g) → List (Str × NameKind)) ?u
  case u =>
    dsimp only [PySem.Challenge.pw_pf0401_01, List.drop, List.take]
    exact rfl
  case f => exact fun _ => ?g
noncomputable def psc : Scope := { kind := .module, names := sn0 ++ (sn1 ++ (sn2 ++ (sn3))), isGenerator := false, isCoroutine := false }
noncomputable def tl5 : List Stmt := st60 :: st61 :: st62 :: st63 :: st64 :: st65 :: st66 :: []
noncomputable def tl4 : List Stmt := st48 :: st49 :: st50 :: st51 :: st52 :: st53 :: st54 :: st55 :: st56 :: st57 :: st58 :: st59 :: tl5
noncomputable def tl3 : List Stmt := st36 :: st37 :: st38 :: st39 :: st40 :: st41 :: st42 :: st43 :: st44 :: st45 :: st46 :: st47 :: tl4
noncomputable def tl2 : List Stmt := st24 :: st25 :: st26 :: st27 :: st28 :: st29 :: st30 :: st31 :: st32 :: st33 :: st34 :: st35 :: tl3
noncomputable def tl1 : List Stmt := st12 :: st13 :: st14 :: st15 :: st16 :: st17 :: st18 :: st19 :: st20 :: st21 :: st22 :: st23 :: tl2
noncomputable def tl0 : List Stmt := st0 :: st1 :: st2 :: st3 :: st4 :: st5 :: st6 :: st7 :: st8 :: st9 :: st10 :: st11 :: tl1
noncomputable def pfile : Str := by
  refine (?f : (PySem.Challenge.pw_pf0401_01.main.file = ?g) → Str) ?u
  case u =>
    dsimp only [PySem.Challenge.pw_pf0401_01]
    exact rfl
  case f => exact fun _ => ?g
noncomputable def pgiven : Given := by
  refine (?f : (PySem.Challenge.pw_pf0401_01.given = ?g) → Given) ?u
  case u =>
    dsimp only [PySem.Challenge.pw_pf0401_01]
    exact rfl
  case f => exact fun _ => ?g
noncomputable def pq : Program := { main := { body := tl0, scope := psc, futureAnnotations := false, file := pfile }, modules := [], parses := [], absent := [], given := pgiven }
theorem pq_is : PySem.Challenge.pw_pf0401_01 = pq := by kernel_rfl
noncomputable def rname : Str := by
  refine (?f : (PySem.Challenge.rw_pf0401_01.name = ?g) → Str) ?u
  case u =>
    dsimp only [PySem.Challenge.rw_pf0401_01]
    exact rfl
  case f => exact fun _ => ?g
noncomputable def rabout : List Str := by
  refine (?f : (PySem.Challenge.rw_pf0401_01.about = ?g) → List Str) ?u
  case u =>
    dsimp only [PySem.Challenge.rw_pf0401_01]
    exact rfl
  case f => exact fun _ => ?g
noncomputable def rq : OpenLaw := { prog := pq, name := rname, about := rabout, foot := 10, most := some 63, bound := none, writes := false }
theorem rq_is : PySem.Challenge.rw_pf0401_01 = rq := by kernel_rfl
example : True := by
  w_top off
  trivial
def topRunT (tb : String → Option Builtin) (p : Program) (w : World) (n₀ : Nat) (ann : Option Value) : Nat → SharedT → Thread → Option SharedT
  | 0, _, _ => none
  | n + 1, s, t => match through t with
    | true => some s
    | false => match stepOk n₀ ann t with
      | false => none
      | true => match stepT (denote tb) p w s t with
        | some (s', t') => topRunT tb p w n₀ ann n s' t'
        | none => none
theorem topRun_of {tb : String → Option Builtin} {p : Program} {w : World} {n₀ : Nat} {ann : Option Value} : ∀ {n : Nat} {s s' : SharedT} {t : Thread}, topRunT tb p w n₀ ann n s t = some s' → topRun tb p w n₀ ann n s.abs t = some s'.abs
  | 0, _, _, _, h => by cases h
  | n + 1, s, s', t, h => by
    unfold topRunT at h
    unfold topRun
    cases he : through t with
    | true => rw [he] at h; cases h; rfl
    | false =>
      rw [he] at h
      cases hk : stepOk n₀ ann t with
      | false => rw [hk] at h; cases h
      | true =>
        rw [hk] at h
        cases hs : stepT (denote tb) p w s t with
        | none => rw [hs] at h; cases h
        | some r => obtain ⟨s₂, t₂⟩ := r; rw [hs] at h; rw [stepT_spec hs]; exact topRun_of h
/-- a list laid as a tree, from place i on -/
def treeOfL : List Obj → Nat → BT → BT
  | [], _, t => t
  | o :: r, i, t => treeOfL r (i + 1) (t.ins i o)
noncomputable def start0 (w : World) (os : OsState) : SharedT := ⟨treeOfL (bh w.params).objs.toList 0 .nil, 11, (bh w.params).life, Array.mk [], boot_drawn, boot_toks, os⟩
/-- the run of the top -/
noncomputable def ran (w : World) (os : OsState) : Option SharedT := topRunT treeTable pq w 11 (some (.ref 6)) 4000 (start0 w os) (topStub pq)
noncomputable def qv : Program := view pq [0, 2, 3, 4, 6, 8, 9, 10, 11, 12, 14, 15, 19, 20, 21, 22, 23, 24, 25, 26, 27, 28, 30, 31, 32, 33, 34, 35, 36, 37, 38, 39, 40, 41, 42, 43, 44, 45, 47, 48, 50, 51, 52, 54, 55, 57, 58, 59, 60, 61, 62, 63, 64, 65, 66]
def lo : List Str := [Str.ofString "ones_sum", Str.ofString "checksum", Str.ofString "IpHeader"]
noncomputable def xt (s : Shared) : Bool := xlAt qv [] s && recOk [] s
noncomputable def looked (w : World) (os : OsState) := (ran w os).map fun s => ((staticsOk (importedModules pq.main.body) (bh w.params) s.abs.heap && namesBound pq s.abs.heap && gensDone s.abs && laidKept (bh w.params) s.abs.heap), openSeen qv lo (importedModules pq.main.body) xt true s.abs)
noncomputable def due := some (true, openGood qv lo)
lay_quick looked due
theorem looks (w : World) (os : OsState) : looked w os = due := by
  rw [PySem.W.Fast.te6007157044813150196, PySem.W.Fast.te12328627700263322127]; kernel_rfl!
example : True := by
  w_top off
  trivial
theorem opened (w : World) : (fencedOpening treeTable pq w (4000 + 4000)).map (fun s => (s.heap, s.gens, s.drawn, s.toks)) = some (bh w.params, Array.mk [], boot_drawn, boot_toks) := by
  rw [← bh_is]
  exact boot_open (by kernel_rfl!) (by kernel_rfl!) (fun s => by kernel_rfl!) w
theorem tree11 (a b c d e f g h i j k : Obj) (l : Life) : absHeap (treeOfL [a, b, c, d, e, f, g, h, i, j, k] 0 .nil) 11 l = ⟨#[a, b, c, d, e, f, g, h, i, j, k], l⟩ := by kernel_rfl!
theorem boot_is (P : Params) : bh P = ⟨#[o0 P, boot_o_1 P, boot_o_2 P, boot_o_3 P, boot_o_4 P, boot_o_5 P, boot_o_6 P, boot_o_7 P, boot_o_8 P, boot_o_9 P, boot_o_10 P], (bh P).life⟩ := rfl
theorem start_abs (w : World) (os : OsState) : (start0 w os).abs = ⟨bh w.params, #[], boot_drawn, boot_toks, os⟩ := by
  unfold start0 SharedT.abs
  dsimp only
  have e : (bh w.params).objs.toList = [o0 w.params, boot_o_1 w.params, boot_o_2 w.params, boot_o_3 w.params, boot_o_4 w.params, boot_o_5 w.params, boot_o_6 w.params, boot_o_7 w.params, boot_o_8 w.params, boot_o_9 w.params, boot_o_10 w.params] := by rw [boot_is]
  rw [e, tree11, ← boot_is]
noncomputable def size1 (w : World) : Bool := (bh w.params).isNs mainGlobals
noncomputable def size2 (w : World) : Nat := (bh w.params).objs.size
noncomputable def size3 (w : World) : Option Value := (bh w.params).nsMap mainGlobals "__annotations__"
lay_quick size1 size2 size3
theorem sized1 (w : World) : size1 w = true := by rw [PySem.W.Fast.te3188355257666553285]; kernel_rfl!
theorem sized2 (w : World) : size2 w = 11 := by rw [PySem.W.Fast.te14748403213400951331]; kernel_rfl!
theorem sized3 (w : World) : size3 w = some (.ref 6) := by rw [PySem.W.Fast.te11327363934507912607]; kernel_rfl!
theorem left_gen {p q : Program} {loose : List Str} {Xt : Shared → Bool} {α : Type} {Yf : Shared → α} {Ya : World → α} {H₀ : Params → Heap} {gs₀ : Array GenState} {d₀ : Drawn} {k₀ : Nat} {m₀ : Nat} {ann : Option Value} {M : Nat} (K : Nat)
    (open_ : ∀ w : World, (fencedOpening treeTable p w (M + K)).map (fun s => (s.heap, s.gens, s.drawn, s.toks)) = some (H₀ w.params, gs₀, d₀, k₀))
    (z1 : ∀ w : World, ((H₀ w.params).isNs mainGlobals && gs₀.size == 0) = true) (z2 : ∀ w : World, (H₀ w.params).objs.size = m₀) (z3 : ∀ w : World, (H₀ w.params).nsMap mainGlobals "__annotations__" = ann)
    (run : ∀ (w : World) (os : OsState), ∃ s : Shared, topRun treeTable p w m₀ ann M ⟨H₀ w.params, gs₀, d₀, k₀, os⟩ (topStub p) = some s ∧
      (staticsOk (importedModules p.main.body) (H₀ w.params) s.heap && namesBound p s.heap && gensDone s && laidKept (H₀ w.params) s.heap) = true ∧
      openSeen q loose (importedModules p.main.body) Xt true s = openGood q loose ∧ Yf s = Ya w) : LeftO p q loose Xt Yf Ya (M + K) := fun w => by
  obtain ⟨⟨h, gs, d, k, os⟩, e, e'⟩ := Option.map_eq_some_iff.mp (open_ w)
  obtain ⟨rfl, rfl, rfl, rfl⟩ : h = H₀ w.params ∧ gs = gs₀ ∧ d = d₀ ∧ k = k₀ := by simpa using e'
  obtain ⟨s, hr, l1, l2, l3⟩ := run w os
  have r := topRun_mono K _ _ _ _ hr
  have t : topFrom treeTable p w (M + K) ⟨H₀ w.params, gs, d, k, os⟩ = some s := by
    unfold topFrom
    dsimp only
    rw [z1 w, z2 w, z3 w, r, Option.bind_some, l1]
  unfold openEnds
  rw [e, Option.bind_some, t]
  exact congrArg some (Prod.ext l2 l3)
theorem run_own {α : Type} {Yf : Shared → α} {Ya : World → α} (hy : ∀ (w : World) (os : OsState), (ran w os).map (fun s => Yf s.abs) = some (Ya w)) (w : World) (os : OsState) :
    ∃ s : Shared, topRun treeTable pq w 11 (some (.ref 6)) 4000 ⟨bh w.params, #[], boot_drawn, boot_toks, os⟩ (topStub pq) = some s ∧
      (staticsOk (importedModules pq.main.body) (bh w.params) s.heap && namesBound pq s.heap && gensDone s && laidKept (bh w.params) s.heap) = true ∧
      openSeen qv lo (importedModules pq.main.body) xt true s = openGood qv lo ∧ Yf s = Ya w := by
  have hl := looks w os
  unfold looked due at hl
  obtain ⟨s, hs, hl⟩ := Option.map_eq_some_iff.mp hl
  have hyy := hy w os
  rw [hs] at hyy
  refine ⟨s.abs, ?_, congrArg Prod.fst hl, congrArg Prod.snd hl, Option.some.inj hyy⟩
  rw [← start_abs]
  exact topRun_of hs
theorem left_own {α : Type} {Yf : Shared → α} {Ya : World → α} (hy : ∀ (w : World) (os : OsState), (ran w os).map (fun s => Yf s.abs) = some (Ya w)) :
    LeftO PySem.Challenge.pw_pf0401_01 qv lo xt Yf Ya (4000 + 4000) := by
  rw [pq_is]
  exact left_gen 4000 opened (fun w => by rw [show (bh w.params).isNs mainGlobals = true from sized1 w]; rfl) sized2 sized3 (run_own hy)
lay_quick ran
noncomputable def said0 : Bool := rq.wellSaid
lay_quick said0
theorem said1 : said0 = true := by rw [PySem.W.Fast.te15021063357348069811]; kernel_rfl!
theorem said_rw : PySem.Challenge.rw_pf0401_01.wellSaid = true := by rw [rq_is]; exact said1
example : True := by
  w_top off
  trivial
local macro_rules | `(tactic| o_law) => `(tactic| refine holds_law said_rw fun said => ?_)
local macro_rules | `(tactic| o_head $H) => `(tactic| (
  refine holds_open (q := qv) (loose := lo) (Xt := xt) (XP := XL qv []) (Yf := Hook.obs $H) (Ya := Hook.val $H) (YP := Hook.says $H) (N := 4000 + 4000) ?hl (Hook.of $H) (Hook.keeps $H) (fun s e => xl_of s (Bool.and_eq_true_iff.mp e).1) XL.keeps (by rfl) (by rfl) (by rfl) (fun s e => recFacts_of (Bool.and_eq_true_iff.mp e).2) (by rfl) (by first | assumption | decide +kernel) (by decide +kernel) ⟨rfl, rfl, rfl, rfl, rfl, by decide +kernel⟩ ?hw ?hc
  (case hl => exact left_own (fun w os => by (rw [PySem.W.Fast.te10165167183330305069]; kernel_rfl!)))))
open_top hd for PySem.Challenge.rw_pf0401_01
example : True := by
  w_top off
  trivial
theorem log2_small {y : Int} (h0 : 0 ≤ y) (h : y < 4294967296) : y.natAbs.log2 < 9000 := by
  by_cases hy : y.natAbs = 0
  · rw [hy]; decide +kernel
  · have : y.natAbs.log2 < 32 := (Nat.log2_lt hy).mpr (by omega)
    omega
theorem div_small {a b : Int} (ha : 0 ≤ a) (hb : 0 < b) : 0 ≤ a.fdiv b := by
  rw [Int.fdiv_eq_ediv_of_nonneg _ (by omega)]; exact Int.ediv_nonneg ha (by omega)
/-- a statement whose post and whose state go by a letter -/
theorem fold_stmt {M : Model} {A : Around} {env : Env} {st : Stmt} {rest : List Stmt} {Q : Flow → Shared → Prop} {E : Value → Shared → Prop} {s : Shared}
    (h : let Qk : Flow → Shared → Prop := (fun f s' => match f with | .next => wpAny M A (execs rest env) Q E s' | f => Q f s'); let sk := s; wpAny M A (exec st env) Qk E sk) : wpAny M A (execs (st :: rest) env) Q E s := wpAny_execs_cons h
/-- an entry whose surroundings, posts and state go by letters -/
theorem fold_entry {M : Model} {A : Around} {env : Env} {b : List Stmt} {Q : Flow → Shared → Prop} {E : Value → Shared → Prop} {s : Shared}
    (h : let Ak := A; let envk := env; let qk := Q; let ek := E; let sk := s; wpAny M Ak (execs b envk) qk ek sk) : wpAny M A (execs b env) Q E s := h
theorem fr_let {g h : Heap} {L : Addr} {m : Str → Option Value} {C : Prop} (F : Fr g L h m) (k : let mk := m; Fr g L h mk → C) : C := k F
theorem name_l {M : Model} {A : Around} {E : Value → Shared → Prop} {s : Shared} {Q : Value → Shared → Prop} {env : Env} {h₀ : Heap} {L : Addr} {m : Str → Option Value} {x : Str} {v : Value} {pos : Pos} {cn : Str} {cs : Scope} {a : Addr} {ccd : Value} {cl : List (Str × Addr)}
    (F : Fr h₀ L s.heap m) (he : env = envX cn cs L a ccd cl) (hv : m x = some v) (hk : cs.kind = .function) (hx : env.kindOf x = some .local) (hd : (x == ("__debug__" : Str)) = false) (h : Q v s) : wpAny M A (eval (.Name x pos) env) Q E s := by
  subst he
  exact nameX_L F hv h hk hx hd
theorem store_l {M : Model} {A : Around} {E : Value → Shared → Prop} {s : Shared} {Q : Unit → Shared → Prop} {env : Env} {h₀ : Heap} {L : Addr} {m : Str → Option Value} {x : Str} {v : Value} {cn : Str} {cs : Scope} {a : Addr} {ccd : Value} {cl : List (Str × Addr)} {news : List (Addr × Obj)}
    (F : Fr h₀ L s.heap m) (N : News h₀ L s.heap news) (he : env = envX cn cs L a ccd cl) (hk : cs.kind = .function) (hx : env.kindOf x = some .local)
    (h : ∀ h', let mk : Str → Option Value := fun y => if y = x then some v else m y; Fr h₀ L h' mk → News h₀ L h' news → Q () { s with heap := h', toks := s.toks + 1 }) : wpAny M A (storeName env x v) Q E s := by
  subst he
  exact storeX_L F N h hk hx
theorem fold_any {α : Type} {M : Model} {A : Around} {c : Sem α} {Q : α → Shared → Prop} {E : Value → Shared → Prop} {s : Shared} (h : let Ak := A; let qk := Q; let ek := E; let sk := s; wpAny M Ak c qk ek sk) : wpAny M A c Q E s := h
theorem q_lt0 {x M N : Nat} (h : x < M) (e : Nat.ble M N = true) : x < N := Nat.lt_of_lt_of_le h (Nat.le_of_ble_eq_true e)
theorem q_lt1 {x k M N : Nat} (h : x < M) (e : Nat.ble (M + k) N = true) : x + k < N := Nat.lt_of_lt_of_le (Nat.add_lt_add_right h k) (Nat.le_of_ble_eq_true e)
theorem q_lt2 {x k j M N : Nat} (h : x < M) (e : Nat.ble (M + k + j) N = true) : x + k + j < N := q_lt1 (Nat.add_lt_add_right h k) e
theorem q_lt3 {x k j i M N : Nat} (h : x < M) (e : Nat.ble (M + k + j + i) N = true) : x + k + j + i < N := q_lt2 (Nat.add_lt_add_right h k) e
theorem q_le0 {x M N : Nat} (h : x < M) (e : Nat.ble M (N + 1) = true) : x ≤ N := Nat.le_of_lt_succ (q_lt0 h e)
theorem q_le1 {x k M N : Nat} (h : x < M) (e : Nat.ble (M + k) (N + 1) = true) : x + k ≤ N := Nat.le_of_lt_succ (q_lt1 h e)
theorem q_le2 {x k j M N : Nat} (h : x < M) (e : Nat.ble (M + k + j) (N + 1) = true) : x + k + j ≤ N := Nat.le_of_lt_succ (q_lt2 h e)
theorem q_le3 {x M N : Nat} (h : x ≤ M) (e : Nat.ble M N = true) : x ≤ N := Nat.le_trans h (Nat.le_of_ble_eq_true e)
theorem q_le4 {x M N : Nat} (h : x ≤ M) (e : Nat.ble (M + 1) N = true) : x < N := Nat.lt_of_le_of_lt h (Nat.le_of_ble_eq_true e)
theorem q_le5 {x y a b M N : Nat} (h : x ≤ y + a + b) (h2 : y < M) (e : Nat.ble (M + a + b) N = true) : x < N := Nat.lt_of_le_of_lt h (q_lt2 h2 e)
theorem q_eq0 {x M N : Nat} (h : x = M) (e : Nat.ble M N = true) : x ≤ N := h ▸ Nat.le_of_ble_eq_true e
theorem q_eq1 {x M N : Nat} (h : x = M) (e : Nat.ble (M + 1) N = true) : x < N := h ▸ Nat.le_of_ble_eq_true e
theorem q_il0 {x M N : Int} (h : x < M) (e : decide (M ≤ N) = true) : x < N := Int.lt_of_lt_of_le h (of_decide_eq_true e)
theorem q_il1 {x M N : Int} (h : x ≤ M) (e : decide (M < N) = true) : x < N := Int.lt_of_le_of_lt h (of_decide_eq_true e)
theorem q_il2 {x M N : Int} (h : x < M) (e : decide (M ≤ N) = true) : x ≤ N := Int.le_of_lt (q_il0 h e)
theorem q_il3 {x M N : Int} (h : M ≤ x) (e : decide (N < M) = true) : N < x := Int.lt_of_lt_of_le (of_decide_eq_true e) h
theorem bindL_one {k : Str → Option NameKind} {n : Str} {v : Value} (h : k n = some .local) : bindL k [(n, v)] (fun _ => none) = fun y => if y = n then some v else none := by
  unfold bindL bindL
  rw [if_pos h]
theorem bindL_cell {k : Str → Option NameKind} {n : Str} {v : Value} (h : k n = some .cell) : bindL k [(n, v)] (fun _ => none) = fun _ => none := by
  unfold bindL bindL
  rw [if_neg (by rw [h]; decide)]
theorem fr_one {g h : Heap} {L : Addr} {k : Str → Option NameKind} {n : Str} {v : Value} {C : Prop} (F : Fr g L h (bindL k [(n, v)] (fun _ => none))) (hk : k n = some .local) (c : Fr g L h (fun y => if y = n then some v else none) → C) : C := c (bindL_one hk ▸ F)
theorem fr_cell {g h : Heap} {L : Addr} {k : Str → Option NameKind} {n : Str} {v : Value} {C : Prop} (F : Fr g L h (bindL k [(n, v)] (fun _ => none))) (hk : k n = some .cell) (c : Fr g L h (fun _ => none) → C) : C := c (bindL_cell hk ▸ F)
theorem news_let {g h : Heap} {L x d : Addr} {o : Obj} {es : List DictEntry} {n : Nat} {news : List (Addr × Obj)} {C : Prop} (N : News g L h ((x, o) :: (d, dictOf es n) :: news)) (k : let esk := es; News g L h ((x, o) :: (d, dictOf esk n) :: news) → C) : C := k N
theorem callw_0 {M : Model} {A : Around} {E : Value → Shared → Prop} {s : Shared} {K : Frag} {env : Env} {pos : Pos} {f : Value} {first : List Value} {Q : Value → Shared → Prop} {h₀ : Heap} {L : Addr} {m : Str → Option Value}
    (F : Fr h₀ L s.heap m) (X : K.In h₀) (hk : keepIn K f = true) (h : wpAny M A (call f (first ++ [])) Q E s) : wpAny M A (callWith pos f first (backTo pos (starEach [] env)) []) Q E s := callWith_K0 (X.keeps F.keep) hk h
theorem callw_m0 {M : Model} {A : Around} {E : Value → Shared → Prop} {s : Shared} {K : Frag} {env : Env} {pos : Pos} {first : List Value} {Q : Value → Shared → Prop} {q g : Addr} {self : Value} {h₀ : Heap} {L : Addr} {m : Str → Option Value} {news : List (Addr × Obj)}
    (F : Fr h₀ L s.heap m) (N : News h₀ L s.heap news) (X : K.In h₀) (hq : (q, methodObj (.ref g) self) ∈ news) (hk : fnIn K g = true) (h : wpAny M A (call (.ref q) (first ++ [])) Q E s) : wpAny M A (callWith pos (.ref q) first (backTo pos (starEach [] env)) []) Q E s :=
  callWith_M0 (methP N hq (X.keeps F.keep)) hk h
/-- a step that is done by hand -/
def StopAt {α : Type} (M : Model) (A : Around) (t : Sem α) (Q : α → Shared → Prop) (E : Value → Shared → Prop) (s : Shared) : Prop := wpAny M A t Q E s
theorem stop_at {α : Type} {M : Model} {A : Around} {t : Sem α} {Q : α → Shared → Prop} {E : Value → Shared → Prop} {s : Shared} (h : StopAt M A t Q E s) : wpAny M A t Q E s := h
def Mark : Prop := True
theorem lt_r {a b : Nat} (k : Nat) (h : a < b) : a < b + k := Nat.lt_of_lt_of_le h (Nat.le_add_right b k)
theorem spa1 {d : Addr} {l : List (Addr × Obj)} {a1 C : Prop} (h : a1 ∧ AllLt d l) (k : a1 → C) : C := k h.1
theorem spa2 {d : Addr} {l : List (Addr × Obj)} {a1 a2 C : Prop} (h : a1 ∧ a2 ∧ AllLt d l) (k : a1 → a2 → C) : C := k h.1 h.2.1
theorem spa3 {d : Addr} {l : List (Addr × Obj)} {a1 a2 a3 C : Prop} (h : a1 ∧ a2 ∧ a3 ∧ AllLt d l) (k : a1 → a2 → a3 → C) : C := k h.1 h.2.1 h.2.2.1
theorem spa4 {d : Addr} {l : List (Addr × Obj)} {a1 a2 a3 a4 C : Prop} (h : a1 ∧ a2 ∧ a3 ∧ a4 ∧ AllLt d l) (k : a1 → a2 → a3 → a4 → C) : C := k h.1 h.2.1 h.2.2.1 h.2.2.2.1
theorem spa5 {d : Addr} {l : List (Addr × Obj)} {a1 a2 a3 a4 a5 C : Prop} (h : a1 ∧ a2 ∧ a3 ∧ a4 ∧ a5 ∧ AllLt d l) (k : a1 → a2 → a3 → a4 → a5 → C) : C := k h.1 h.2.1 h.2.2.1 h.2.2.2.1 h.2.2.2.2.1
theorem spa6 {d : Addr} {l : List (Addr × Obj)} {a1 a2 a3 a4 a5 a6 C : Prop} (h : a1 ∧ a2 ∧ a3 ∧ a4 ∧ a5 ∧ a6 ∧ AllLt d l) (k : a1 → a2 → a3 → a4 → a5 → a6 → C) : C := k h.1 h.2.1 h.2.2.1 h.2.2.2.1 h.2.2.2.2.1 h.2.2.2.2.2.1
theorem spa7 {d : Addr} {l : List (Addr × Obj)} {a1 a2 a3 a4 a5 a6 a7 C : Prop} (h : a1 ∧ a2 ∧ a3 ∧ a4 ∧ a5 ∧ a6 ∧ a7 ∧ AllLt d l) (k : a1 → a2 → a3 → a4 → a5 → a6 → a7 → C) : C := k h.1 h.2.1 h.2.2.1 h.2.2.2.1 h.2.2.2.2.1 h.2.2.2.2.2.1 h.2.2.2.2.2.2.1
theorem spa8 {d : Addr} {l : List (Addr × Obj)} {a1 a2 a3 a4 a5 a6 a7 a8 C : Prop} (h : a1 ∧ a2 ∧ a3 ∧ a4 ∧ a5 ∧ a6 ∧ a7 ∧ a8 ∧ AllLt d l) (k : a1 → a2 → a3 → a4 → a5 → a6 → a7 → a8 → C) : C := k h.1 h.2.1 h.2.2.1 h.2.2.2.1 h.2.2.2.2.1 h.2.2.2.2.2.1 h.2.2.2.2.2.2.1 h.2.2.2.2.2.2.2.1
theorem spa9 {d : Addr} {l : List (Addr × Obj)} {a1 a2 a3 a4 a5 a6 a7 a8 a9 C : Prop} (h : a1 ∧ a2 ∧ a3 ∧ a4 ∧ a5 ∧ a6 ∧ a7 ∧ a8 ∧ a9 ∧ AllLt d l) (k : a1 → a2 → a3 → a4 → a5 → a6 → a7 → a8 → a9 → C) : C := k h.1 h.2.1 h.2.2.1 h.2.2.2.1 h.2.2.2.2.1 h.2.2.2.2.2.1 h.2.2.2.2.2.2.1 h.2.2.2.2.2.2.2.1 h.2.2.2.2.2.2.2.2.1
theorem spa10 {d : Addr} {l : List (Addr × Obj)} {a1 a2 a3 a4 a5 a6 a7 a8 a9 a10 C : Prop} (h : a1 ∧ a2 ∧ a3 ∧ a4 ∧ a5 ∧ a6 ∧ a7 ∧ a8 ∧ a9 ∧ a10 ∧ AllLt d l) (k : a1 → a2 → a3 → a4 → a5 → a6 → a7 → a8 → a9 → a10 → C) : C := k h.1 h.2.1 h.2.2.1 h.2.2.2.1 h.2.2.2.2.1 h.2.2.2.2.2.1 h.2.2.2.2.2.2.1 h.2.2.2.2.2.2.2.1 h.2.2.2.2.2.2.2.2.1 h.2.2.2.2.2.2.2.2.2.1
theorem spa11 {d : Addr} {l : List (Addr × Obj)} {a1 a2 a3 a4 a5 a6 a7 a8 a9 a10 a11 C : Prop} (h : a1 ∧ a2 ∧ a3 ∧ a4 ∧ a5 ∧ a6 ∧ a7 ∧ a8 ∧ a9 ∧ a10 ∧ a11 ∧ AllLt d l) (k : a1 → a2 → a3 → a4 → a5 → a6 → a7 → a8 → a9 → a10 → a11 → C) : C := k h.1 h.2.1 h.2.2.1 h.2.2.2.1 h.2.2.2.2.1 h.2.2.2.2.2.1 h.2.2.2.2.2.2.1 h.2.2.2.2.2.2.2.1 h.2.2.2.2.2.2.2.2.1 h.2.2.2.2.2.2.2.2.2.1 h.2.2.2.2.2.2.2.2.2.2.1
theorem spa12 {d : Addr} {l : List (Addr × Obj)} {a1 a2 a3 a4 a5 a6 a7 a8 a9 a10 a11 a12 C : Prop} (h : a1 ∧ a2 ∧ a3 ∧ a4 ∧ a5 ∧ a6 ∧ a7 ∧ a8 ∧ a9 ∧ a10 ∧ a11 ∧ a12 ∧ AllLt d l) (k : a1 → a2 → a3 → a4 → a5 → a6 → a7 → a8 → a9 → a10 → a11 → a12 → C) : C := k h.1 h.2.1 h.2.2.1 h.2.2.2.1 h.2.2.2.2.1 h.2.2.2.2.2.1 h.2.2.2.2.2.2.1 h.2.2.2.2.2.2.2.1 h.2.2.2.2.2.2.2.2.1 h.2.2.2.2.2.2.2.2.2.1 h.2.2.2.2.2.2.2.2.2.2.1 h.2.2.2.2.2.2.2.2.2.2.2.1
theorem spa13 {d : Addr} {l : List (Addr × Obj)} {a1 a2 a3 a4 a5 a6 a7 a8 a9 a10 a11 a12 a13 C : Prop} (h : a1 ∧ a2 ∧ a3 ∧ a4 ∧ a5 ∧ a6 ∧ a7 ∧ a8 ∧ a9 ∧ a10 ∧ a11 ∧ a12 ∧ a13 ∧ AllLt d l) (k : a1 → a2 → a3 → a4 → a5 → a6 → a7 → a8 → a9 → a10 → a11 → a12 → a13 → C) : C := k h.1 h.2.1 h.2.2.1 h.2.2.2.1 h.2.2.2.2.1 h.2.2.2.2.2.1 h.2.2.2.2.2.2.1 h.2.2.2.2.2.2.2.1 h.2.2.2.2.2.2.2.2.1 h.2.2.2.2.2.2.2.2.2.1 h.2.2.2.2.2.2.2.2.2.2.1 h.2.2.2.2.2.2.2.2.2.2.2.1 h.2.2.2.2.2.2.2.2.2.2.2.2.1
theorem spa14 {d : Addr} {l : List (Addr × Obj)} {a1 a2 a3 a4 a5 a6 a7 a8 a9 a10 a11 a12 a13 a14 C : Prop} (h : a1 ∧ a2 ∧ a3 ∧ a4 ∧ a5 ∧ a6 ∧ a7 ∧ a8 ∧ a9 ∧ a10 ∧ a11 ∧ a12 ∧ a13 ∧ a14 ∧ AllLt d l) (k : a1 → a2 → a3 → a4 → a5 → a6 → a7 → a8 → a9 → a10 → a11 → a12 → a13 → a14 → C) : C := k h.1 h.2.1 h.2.2.1 h.2.2.2.1 h.2.2.2.2.1 h.2.2.2.2.2.1 h.2.2.2.2.2.2.1 h.2.2.2.2.2.2.2.1 h.2.2.2.2.2.2.2.2.1 h.2.2.2.2.2.2.2.2.2.1 h.2.2.2.2.2.2.2.2.2.2.1 h.2.2.2.2.2.2.2.2.2.2.2.1 h.2.2.2.2.2.2.2.2.2.2.2.2.1 h.2.2.2.2.2.2.2.2.2.2.2.2.2.1
theorem spa15 {d : Addr} {l : List (Addr × Obj)} {a1 a2 a3 a4 a5 a6 a7 a8 a9 a10 a11 a12 a13 a14 a15 C : Prop} (h : a1 ∧ a2 ∧ a3 ∧ a4 ∧ a5 ∧ a6 ∧ a7 ∧ a8 ∧ a9 ∧ a10 ∧ a11 ∧ a12 ∧ a13 ∧ a14 ∧ a15 ∧ AllLt d l) (k : a1 → a2 → a3 → a4 → a5 → a6 → a7 → a8 → a9 → a10 → a11 → a12 → a13 → a14 → a15 → C) : C := k h.1 h.2.1 h.2.2.1 h.2.2.2.1 h.2.2.2.2.1 h.2.2.2.2.2.1 h.2.2.2.2.2.2.1 h.2.2.2.2.2.2.2.1 h.2.2.2.2.2.2.2.2.1 h.2.2.2.2.2.2.2.2.2.1 h.2.2.2.2.2.2.2.2.2.2.1 h.2.2.2.2.2.2.2.2.2.2.2.1 h.2.2.2.2.2.2.2.2.2.2.2.2.1 h.2.2.2.2.2.2.2.2.2.2.2.2.2.1 h.2.2.2.2.2.2.2.2.2.2.2.2.2.2.1
theorem spb2 {a1 a2 C : Prop} (h : a1 ∧ a2) (k : a1 → a2 → C) : C := k h.1 h.2
theorem spb3 {a1 a2 a3 C : Prop} (h : a1 ∧ a2 ∧ a3) (k : a1 → a2 → a3 → C) : C := k h.1 h.2.1 h.2.2
theorem spb4 {a1 a2 a3 a4 C : Prop} (h : a1 ∧ a2 ∧ a3 ∧ a4) (k : a1 → a2 → a3 → a4 → C) : C := k h.1 h.2.1 h.2.2.1 h.2.2.2
theorem spb5 {a1 a2 a3 a4 a5 C : Prop} (h : a1 ∧ a2 ∧ a3 ∧ a4 ∧ a5) (k : a1 → a2 → a3 → a4 → a5 → C) : C := k h.1 h.2.1 h.2.2.1 h.2.2.2.1 h.2.2.2.2
theorem spb6 {a1 a2 a3 a4 a5 a6 C : Prop} (h : a1 ∧ a2 ∧ a3 ∧ a4 ∧ a5 ∧ a6) (k : a1 → a2 → a3 → a4 → a5 → a6 → C) : C := k h.1 h.2.1 h.2.2.1 h.2.2.2.1 h.2.2.2.2.1 h.2.2.2.2.2
theorem spb7 {a1 a2 a3 a4 a5 a6 a7 C : Prop} (h : a1 ∧ a2 ∧ a3 ∧ a4 ∧ a5 ∧ a6 ∧ a7) (k : a1 → a2 → a3 → a4 → a5 → a6 → a7 → C) : C := k h.1 h.2.1 h.2.2.1 h.2.2.2.1 h.2.2.2.2.1 h.2.2.2.2.2.1 h.2.2.2.2.2.2
theorem spb8 {a1 a2 a3 a4 a5 a6 a7 a8 C : Prop} (h : a1 ∧ a2 ∧ a3 ∧ a4 ∧ a5 ∧ a6 ∧ a7 ∧ a8) (k : a1 → a2 → a3 → a4 → a5 → a6 → a7 → a8 → C) : C := k h.1 h.2.1 h.2.2.1 h.2.2.2.1 h.2.2.2.2.1 h.2.2.2.2.2.1 h.2.2.2.2.2.2.1 h.2.2.2.2.2.2.2
theorem spb9 {a1 a2 a3 a4 a5 a6 a7 a8 a9 C : Prop} (h : a1 ∧ a2 ∧ a3 ∧ a4 ∧ a5 ∧ a6 ∧ a7 ∧ a8 ∧ a9) (k : a1 → a2 → a3 → a4 → a5 → a6 → a7 → a8 → a9 → C) : C := k h.1 h.2.1 h.2.2.1 h.2.2.2.1 h.2.2.2.2.1 h.2.2.2.2.2.1 h.2.2.2.2.2.2.1 h.2.2.2.2.2.2.2.1 h.2.2.2.2.2.2.2.2
theorem spb10 {a1 a2 a3 a4 a5 a6 a7 a8 a9 a10 C : Prop} (h : a1 ∧ a2 ∧ a3 ∧ a4 ∧ a5 ∧ a6 ∧ a7 ∧ a8 ∧ a9 ∧ a10) (k : a1 → a2 → a3 → a4 → a5 → a6 → a7 → a8 → a9 → a10 → C) : C := k h.1 h.2.1 h.2.2.1 h.2.2.2.1 h.2.2.2.2.1 h.2.2.2.2.2.1 h.2.2.2.2.2.2.1 h.2.2.2.2.2.2.2.1 h.2.2.2.2.2.2.2.2.1 h.2.2.2.2.2.2.2.2.2
theorem spb11 {a1 a2 a3 a4 a5 a6 a7 a8 a9 a10 a11 C : Prop} (h : a1 ∧ a2 ∧ a3 ∧ a4 ∧ a5 ∧ a6 ∧ a7 ∧ a8 ∧ a9 ∧ a10 ∧ a11) (k : a1 → a2 → a3 → a4 → a5 → a6 → a7 → a8 → a9 → a10 → a11 → C) : C := k h.1 h.2.1 h.2.2.1 h.2.2.2.1 h.2.2.2.2.1 h.2.2.2.2.2.1 h.2.2.2.2.2.2.1 h.2.2.2.2.2.2.2.1 h.2.2.2.2.2.2.2.2.1 h.2.2.2.2.2.2.2.2.2.1 h.2.2.2.2.2.2.2.2.2.2
theorem spb12 {a1 a2 a3 a4 a5 a6 a7 a8 a9 a10 a11 a12 C : Prop} (h : a1 ∧ a2 ∧ a3 ∧ a4 ∧ a5 ∧ a6 ∧ a7 ∧ a8 ∧ a9 ∧ a10 ∧ a11 ∧ a12) (k : a1 → a2 → a3 → a4 → a5 → a6 → a7 → a8 → a9 → a10 → a11 → a12 → C) : C := k h.1 h.2.1 h.2.2.1 h.2.2.2.1 h.2.2.2.2.1 h.2.2.2.2.2.1 h.2.2.2.2.2.2.1 h.2.2.2.2.2.2.2.1 h.2.2.2.2.2.2.2.2.1 h.2.2.2.2.2.2.2.2.2.1 h.2.2.2.2.2.2.2.2.2.2.1 h.2.2.2.2.2.2.2.2.2.2.2
example : True := by
  w_top off
  trivial
-- the walk's own lines
local macro_rules | `(tactic| walk_at $s:str) => `(tactic| k_extra $s)
local macro_rules | `(tactic| k_all) => `(tactic| assumption)
local macro_rules | `(tactic| omega) => `(tactic| k_extra "my om")
local macro_rules | `(tactic| k_mem) => `(tactic| k_extra "my mem")
local macro_rules | `(tactic| k_lt $h:ident) => `(tactic| (k_extra "my k_lt"; intro $h:ident))
local macro_rules | `(tactic| k_steps) => `(tactic| k_extra "my steps")
local macro_rules | `(tactic| k_fold) => `(tactic| k_extra "my fold0")
local macro_rules | `(tactic| ktr_units) => `(tactic| k_extra "my units")
local macro_rules | `(tactic| ktr_room) => `(tactic| k_extra "my room")
example : True := by
  (k_with "my mem" => with_reducible (k_extra "my mem1"))
  (k_with "my mem1" => (first | exact List.Mem.head _ | (refine' List.Mem.tail _ ?_; k_extra "my mem1")))
  (k_with "my k_lt" => ((rename (∀ p : Addr × Obj, p ∈ _ → p.1 < _) => l1q); (replace l1q := allLt_of l1q); (simp only [AllLt, and_true] at l1q); (first | ((with_reducible refine spa15 l1q ?_); intro f0q f1q f2q f3q f4q f5q f6q f7q f8q f9q f10q f11q f12q f13q f14q) | ((with_reducible refine spa14 l1q ?_); intro f0q f1q f2q f3q f4q f5q f6q f7q f8q f9q f10q f11q f12q f13q) | ((with_reducible refine spa13 l1q ?_); intro f0q f1q f2q f3q f4q f5q f6q f7q f8q f9q f10q f11q f12q) | ((with_reducible refine spa12 l1q ?_); intro f0q f1q f2q f3q f4q f5q f6q f7q f8q f9q f10q f11q) | ((with_reducible refine spa11 l1q ?_); intro f0q f1q f2q f3q f4q f5q f6q f7q f8q f9q f10q) | ((with_reducible refine spa10 l1q ?_); intro f0q f1q f2q f3q f4q f5q f6q f7q f8q f9q) | ((with_reducible refine spa9 l1q ?_); intro f0q f1q f2q f3q f4q f5q f6q f7q f8q) | ((with_reducible refine spa8 l1q ?_); intro f0q f1q f2q f3q f4q f5q f6q f7q) | ((with_reducible refine spa7 l1q ?_); intro f0q f1q f2q f3q f4q f5q f6q) | ((with_reducible refine spa6 l1q ?_); intro f0q f1q f2q f3q f4q f5q) | ((with_reducible refine spa5 l1q ?_); intro f0q f1q f2q f3q f4q) | ((with_reducible refine spa4 l1q ?_); intro f0q f1q f2q f3q) | ((with_reducible refine spa3 l1q ?_); intro f0q f1q f2q) | ((with_reducible refine spa2 l1q ?_); intro f0q f1q) | ((with_reducible refine spa1 l1q ?_); intro f0q) | ((with_reducible refine spb12 l1q ?_); intro f0q f1q f2q f3q f4q f5q f6q f7q f8q f9q f10q f11q) | ((with_reducible refine spb11 l1q ?_); intro f0q f1q f2q f3q f4q f5q f6q f7q f8q f9q f10q) | ((with_reducible refine spb10 l1q ?_); intro f0q f1q f2q f3q f4q f5q f6q f7q f8q f9q) | ((with_reducible refine spb9 l1q ?_); intro f0q f1q f2q f3q f4q f5q f6q f7q f8q) | ((with_reducible refine spb8 l1q ?_); intro f0q f1q f2q f3q f4q f5q f6q f7q) | ((with_reducible refine spb7 l1q ?_); intro f0q f1q f2q f3q f4q f5q f6q) | ((with_reducible refine spb6 l1q ?_); intro f0q f1q f2q f3q f4q f5q) | ((with_reducible refine spb5 l1q ?_); intro f0q f1q f2q f3q f4q) | ((with_reducible refine spb4 l1q ?_); intro f0q f1q f2q f3q) | ((with_reducible refine spb3 l1q ?_); intro f0q f1q f2q) | ((with_reducible refine spb2 l1q ?_); intro f0q f1q) | skip); revert l1q))
  (k_with "my cj" => (first | with_reducible assumption | exact And.left (by with_reducible assumption) | exact And.left (And.right (by with_reducible assumption)) | exact And.left (And.right (And.right (by with_reducible assumption))) | exact And.left (And.right (And.right (And.right (by with_reducible assumption)))) | exact And.right (by with_reducible assumption) | exact And.right (And.right (by with_reducible assumption)) | exact And.right (And.right (And.right (by with_reducible assumption)))))
  (k_with "my lt" => (first | with_reducible assumption | exact Nat.lt_add_one _ | exact lt_r _ (by first | with_reducible assumption | exact Nat.lt_add_one _) | exact lt_r _ (lt_r _ (by first | with_reducible assumption | exact Nat.lt_add_one _)) | exact lt_r _ (lt_r _ (lt_r _ (by first | with_reducible assumption | exact Nat.lt_add_one _))) | exact lt_r _ (lt_r _ (lt_r _ (lt_r _ (by first | with_reducible assumption | exact Nat.lt_add_one _)))) | exact lt_r _ (lt_r _ (lt_r _ (lt_r _ (lt_r _ (by first | with_reducible assumption | exact Nat.lt_add_one _))))) | exact lt_r _ (lt_r _ (lt_r _ (lt_r _ (lt_r _ (lt_r _ (by first | with_reducible assumption | exact Nat.lt_add_one _))))))))
  (k_with "my ne" => (first | with_reducible assumption | exact Ne.symm (by with_reducible assumption) | (refine neN ?_; (try dsimp only); first | exact Nat.ne_of_gt (by k_extra "my lt") | exact Nat.ne_of_lt (by k_extra "my lt") | k_extra "my cj" | exact Ne.symm (by k_extra "my cj"))))
  (k_with "my om" => k_dflt (first | with_reducible assumption | ((with_reducible show @LT.lt Nat _ _ _); (first | exact q_lt0 (by with_reducible assumption) (by rfl) | exact q_lt1 (by with_reducible assumption) (by rfl) | exact q_lt2 (by with_reducible assumption) (by rfl) | exact q_lt3 (by with_reducible assumption) (by rfl) | exact q_le4 (by with_reducible assumption) (by rfl) | exact q_eq1 (by with_reducible assumption) (by rfl) | k_extra "my lt" | k_extra "my cj" | decide)) | ((with_reducible show @LE.le Nat _ _ _); (first | exact q_le0 (by with_reducible assumption) (by rfl) | exact q_le1 (by with_reducible assumption) (by rfl) | exact q_le2 (by with_reducible assumption) (by rfl) | exact q_le3 (by with_reducible assumption) (by rfl) | exact q_eq0 (by with_reducible assumption) (by rfl) | k_extra "my cj" | decide)) | ((with_reducible show @LT.lt Int _ _ _); (first | exact q_il0 (by with_reducible assumption) (by rfl) | exact q_il1 (by with_reducible assumption) (by rfl) | exact q_il3 (by with_reducible assumption) (by rfl) | k_extra "my cj" | decide)) | ((with_reducible show @LE.le Int _ _ _); (first | exact q_il2 (by with_reducible assumption) (by rfl) | k_extra "my cj" | decide)) | ((with_reducible show @Ne Nat _ _); k_extra "my ne") | decide))
  trivial
example : True := by
  (k_with "my in" => (repeat (first | exact List.Mem.head _ | refine List.Mem.tail _ ?_ | refine List.mem_append_right _ ?_)))
  (k_with "my at" => (repeat (first | assumption | exact List.mem_append_left _ (by assumption) | refine List.Mem.tail _ ?_ | refine List.mem_append_right _ ?_)))
  (k_with "my perm" => ((try simp only [List.cons_append, List.nil_append, List.append_assoc]); (repeat (refine List.forall_mem_cons.mpr ⟨?_, ?_⟩; (focus ((walk_at "my in"); done)))); first | exact List.forall_mem_nil _ | (intro q9 hq9; (try (have hq8 := List.mem_append.mp hq9; clear hq9; rcases hq8 with hq9 | hq9)); (all_goals (try (have hq7 := List.mem_cons.mp hq9; clear hq9; rcases hq7 with hq7 | hq9))); (all_goals (try (have hq7 := List.mem_cons.mp hq9; clear hq9; rcases hq7 with hq7 | hq9))); all_goals first | (subst hq7; walk_at "my in"; done) | (repeat (first | exact hq9 | exact List.mem_append_left _ hq9 | refine List.Mem.tail _ ?_ | refine List.mem_append_right _ ?_)))))
  (k_with "my bnd" => (first | omega | exact Int.lt_of_lt_of_le (by decide) (fmod_lo _ (by decide)) | exact Int.lt_trans (fmod_hi _ (by decide)) (by decide)))
  (k_with "binaryOp Mult int int" => (((with_reducible show wpAny _ _ (binaryOp Operator.Mult (Value.int _ _) (Value.int _ _)) _ _ _); refine mul_int ?_ (IntMulOk.of_left (intBits_le_64 ?mlo ?mhi)); (case mlo => walk_at "my bnd"); (case mhi => walk_at "my bnd"))))
  (k_with "binaryOp FloorDiv int int" => (((with_reducible show wpAny _ _ (binaryOp Operator.FloorDiv (Value.int _ _) (Value.int _ _)) _ _ _); refine floordiv_int ?fne ?_ (Or.inl (PyProof.noPylong_of_log2 (log2_small ?flo ?fhi))); (case fne => omega); (case flo => omega); (case fhi => omega))))
  (k_with "execs cons" => ((k_here; refine fold_stmt ?_; intro qk sk)))
  trivial
example : True := by
  (k_with "eval Name" => ((k_here; k_dflt (first
    | (refine' name_l ?F ?e ?v ?a ?b ?d ?_; (case F => k_asm); (case e => rfl); (case b => rfl); (case v => rfl); (case a => rfl); (case d => decide); k_whole)
    | (refine' nameX_K ?F ?X ?T ?e ?_ ?a ?b; (case F => k_asm); (case b => rfl); (case X => k_asm); (case T => k_asm); (case a => rfl); (case e => k_is); k_whole)
    | (refine' nameX_B ?F ?X ?T ?e ?v ?n ?_ ?a ?b; (case F => k_asm); (case b => rfl); (case X => k_asm); (case T => k_asm); (case a => rfl); (case e => k_is); (case v => boot_fast); (case n => decide); k_whole)))))
  (k_with "storeName" => ((k_here; k_dflt (refine' store_l ?F ?N ?e ?a ?b ?_; (case F => k_asm); (case N => k_asm); (case e => rfl); (case a => rfl); (case b => rfl); k_whole; intro h' mk F' N'; (try k_sweep)))))
  trivial
example : True := by
  (k_with "my steps" => (repeat' (first | ((try k_unmd); k_unfold; (try dsimp only)) | (k_end; wrow_close) | walk1 | (dsimp only; walk1) | (leave1; walk_say "STEP leave1"; try dsimp only) | fail "no step")))
  (k_with "my fold0" => ((refine fold_entry ?_; intro Ak envk qk ek sk; (rename Fr _ _ _ _ => kF); (refine fr_let kF ?_); clear kF; intro mk kF)))
  (k_with "my units" => ((have hcL9 := cLine_is; (simp (config := { zetaDelta := true }) only [units_in1, units_deeper, Around.mark_units, units_caller, ktrTop]); omega)))
  (k_with "my room" => (((simp (config := { zetaDelta := true }) only [depth_under_make, depth_under_kw, depth_in1, depth_deeper, depth_caller, ktrTop, recursionLimit]); omega)))
  (k_with "callWith ref" => (k_here; k_dflt (first
    | (refine' callWith_K ?k1 ?k2 ?_; (case k1 => with_reducible assumption); (case k2 => k_is); k_whole)
    | (refine' callw_0 ?k0 ?k1 ?k2 ?_; (case k0 => with_reducible assumption); (case k1 => with_reducible assumption); (case k2 => k_is); k_whole)
    | (refine' callw_m0 ?k0 ?kN ?k1 ?kq ?k2 ?_; (case k0 => with_reducible assumption); (case kN => with_reducible assumption); (case k1 => with_reducible assumption); (case kq => k_mem); (case k2 => k_is); k_whole; try dsimp only [List.nil_append, List.cons_append])
    | (refine' callWith_M ?k1 ?k2 ?k3 ?k4 ?_; (case k1 => with_reducible assumption); (case k2 => with_reducible assumption); (case k3 => k_mem); (case k4 => k_is); k_whole)
    | (refine' callWith_KW ?k1 ?k2 ?k3 ?_; (case k1 => with_reducible assumption); (case k2 => k_is); (case k3 => exact rfl); k_whole)
    | (refine' callWith_KW0 ?k1 ?k2 ?k3 ?_; (case k1 => with_reducible assumption); (case k2 => k_is); (case k3 => exact rfl); k_whole))))
  (k_with "compareOp IsNot ref ref" => (k_here; first | (with_reducible refine isnot_ref_same ?_) | refine wpAny_isNot_ref_self ?_))
  (k_with "my stop" => ((rename Mark => mk9); clear mk9; refine stop_at ?_))
  (k_with "subscriptTail" => (k_extra "my stop"))
  (k_with "getMethod ref" => (k_extra "my stop"))
  trivial
theorem take_c {w : World} {p : Program} {loose : List Str} {mean : ExcName → Option Value} {mg mb : Str → Option Value} {dp un : Nat} {gd : Option (List Code)} {cn : Str} {cs : Scope} {a : Addr} {ccd : Value} {cl : List (Str × Addr)} {outer : List Env} {A₀ : Around} {base h₀ : Heap} {L : Addr} {m : Str → Option Value} {news : List (Addr × Obj)} {s : Shared} {Q E : Value → Shared → Prop}
    {src : Addr} {x y top : Int} {tx ty tt : Tok} {n : Nat}
    (B : Below A₀ base outer h₀) (F : Fr h₀ L s.heap m) (X : (hd.heap_1 w.params).In h₀) (N : News h₀ L s.heap ((src, listOf #[.int x tx, .int y ty] n) :: news)) (T : Top p loose mean mg mb h₀) (hk : cs.kind = .function)
    (hne : ∀ q ∈ news, q.1 ≠ src) (hd : dp + 5 < recursionLimit) (hu : un + 40 < cLine) (htop : 0 < top) (htop2 : top < 4294967296) (hx : 0 ≤ x)
    (ret : ∀ d x' y' t tx' ty' h' tk', Fr h₀ L h' m → News h₀ L h' ((src, listOf #[.int x' tx', .int y' ty'] n) :: news) → 0 ≤ d → d < top → 0 ≤ x' → Q (.int d t) { s with heap := h', toks := tk' }) :
    wpAny (model PySem.Challenge.rw_pf0401_01.row.prog w) (ktrTop dp un gd cn cs L a ccd cl outer) (call (.ref 500) [.ref src, .int top tt]) Q E s := by
  refine wpAny_call ?_
  k_dflt cell_enter
  k_steps
  all_goals (refine ret _ _ _ _ _ _ _ _ (by k_asm) (by k_asm) ?_ ?_ ?_ <;> first | exact fmod_lo _ htop | exact fmod_hi _ htop | exact div_small hx htop | exact hx)
example : True := by
  w_top off
  trivial
theorem wpAny_depth_le {α : Type} {M : Model} {A : Around} {E : Value → Shared → Prop} {s : Shared} {t : Sem α} {Q : α → Shared → Prop} {u : Nat} (h : wpAny M A t Q E s) (hu : u ≤ A.depth) : wpAny M { A with depth := u } t Q E s :=
  fun Γ p hΓ => h Γ p ⟨hΓ.1, Nat.le_trans hΓ.2.1 hu, hΓ.2.2⟩
theorem mem_keeps {h₀ h : Heap} {news : List (Addr × Obj)} (D : Mem h₀ h [] news) : ∀ b o, h₀.get? b = some o → h.get? b = some o :=
  fun b o e => D.keep b o e (by simp [away])
theorem mem_news {h₀ h g : Heap} {L : Addr} {m : Str → Option Value} {news old : List (Addr × Obj)} (D : Mem h₀ h [] news) (F : Fr g L h₀ m) (N : News g L h₀ old) {p : Addr × Obj} (hp : p ∈ news) : News g L h (p :: old) := by
  intro q hq
  rcases List.mem_cons.mp hq with rfl | hq
  · refine ⟨(D.nw q hp).1, fun z => ?_, ?_⟩
    · obtain ⟨o, _, _, ho, _⟩ := F.ns
      have := (D.nw q hp).2
      rw [z, ho] at this
      cases this
    · cases w : g.get? q.1 with
      | none => rfl
      | some o => have := F.keep _ _ w; rw [(D.nw q hp).2] at this; cases this
  · exact ⟨mem_keeps D _ _ (N q hq).1, (N q hq).2⟩
/-- an own exception's object, as it stands when it is raised -/
def ExcObj (C : Addr) (o : Obj) : Prop := o.cls = .ref C ∧ ∃ t, o.data = .fields #[.ref t, .none, .none, .none, .bool false, .none]
def ExcRet (C : Addr) (h₀ : Heap) (L : Addr) (m : Str → Option Value) (news : List (Addr × Obj)) (s : Shared) (Q : Value → Shared → Prop) : Prop :=
  ∀ e o h' tk', ExcObj C o → Fr h₀ L h' m → News h₀ L h' ((e, o) :: news) → (∀ q ∈ news, q.1 ≠ e) → Q (.ref e) { s with heap := h', toks := tk' }
theorem ExcRet.use {C : Addr} {h₀ : Heap} {L : Addr} {m : Str → Option Value} {news nw : List (Addr × Obj)} {s : Shared} {Q : Value → Shared → Prop} {e : Addr} {o : Obj} {h' : Heap} {tk' : Nat} (R : ExcRet C h₀ L m news s Q) (F : Fr h₀ L s.heap m) (N : News h₀ L s.heap news)
    (D : Mem s.heap h' [] nw) (hm : (e, o) ∈ nw) (hc : o.cls = .ref C) (t : Addr) (hd : o.data = .fields #[.ref t, .none, .none, .none, .bool false, .none]) : Q (.ref e) { s with heap := h', toks := tk' } :=
  R e o h' tk' ⟨hc, t, hd⟩ (F.keeps (mem_keeps D)) (mem_news D F N hm) fun q hq z => by
    have h1 := (N q hq).1
    rw [z] at h1
    have h2 := (D.nw _ hm).2
    rw [h1] at h2
    cases h2
local macro_rules | `(tactic| x_close) => `(tactic| (refine ExcRet.use (by assumption) (by assumption) (by assumption) (by assumption) (by first | exact .head _ | exact .tail _ (.head _) | exact .tail _ (.tail _ (.head _)) | exact .tail _ (.tail _ (.tail _ (.head _)))) rfl _ rfl))
theorem mk_size {prog : Program} {w : World} {gd : Option (List Code)} {fr : List Env} {h₀ : Heap} {L : Addr} {m : Str → Option Value} {news : List (Addr × Obj)} {s : Shared} {Q E : Value → Shared → Prop} {x : Str} {tx : Tok}
    (hF : Fr h₀ L s.heap m) (X : (hd.heap_1 w.params).In s.heap) (hN : News h₀ L s.heap news) (hret : ExcRet 63 h₀ L m news s Q) :
    wpAny (model prog w) { handled := none, depth := 900, frames := some fr, guards := gd, units := 100 } (call (.ref 63) [.str x tx]) Q E s := by
  x_run
theorem mk_form {prog : Program} {w : World} {gd : Option (List Code)} {fr : List Env} {h₀ : Heap} {L : Addr} {m : Str → Option Value} {news : List (Addr × Obj)} {s : Shared} {Q E : Value → Shared → Prop} {x : Str} {tx : Tok}
    (hF : Fr h₀ L s.heap m) (X : (hd.heap_1 w.params).In s.heap) (hN : News h₀ L s.heap news) (hret : ExcRet 51 h₀ L m news s Q) :
    wpAny (model prog w) { handled := none, depth := 900, frames := some fr, guards := gd, units := 100 } (call (.ref 51) [.str x tx]) Q E s := by
  x_run
theorem any_A {α : Type} {M : Model} {A : Around} {E : Value → Shared → Prop} {s : Shared} {t : Sem α} {Q : α → Shared → Prop} {fr : List Env} (hh : A.handled = none) (hf : A.frames = some fr) (hd : A.depth ≤ 900) (hu : A.units ≤ 100)
    (h : wpAny M { handled := none, depth := 900, frames := some fr, guards := A.guards, units := 100 } t Q E s) : wpAny M A t Q E s := by
  obtain ⟨a, b, c, d, e⟩ := A
  dsimp only at hh hf hd hu h
  subst hh hf
  exact wpAny_units_le (A := ⟨none, b, some fr, d, 100⟩) (wpAny_depth_le (A := ⟨none, 900, some fr, d, 100⟩) h hd) hu
def OwnUp (K : Frag) (C : Addr) (E : Value → Shared → Prop) (v : Value) (s₁ : Shared) : Prop := ∃ e o, v = .ref e ∧ ExcObj C o ∧ K.In s₁.heap ∧ s₁.heap.get? e = some o ∧ E (.ref e) s₁
theorem raise_line {M : Model} {K : Frag} {C : Addr} {A : Around} {E : Value → Shared → Prop} {s : Shared} {env : Env} {e : Expr} {pos : Pos} {Q : Flow → Shared → Prop} (hk : ktsIn K C "Exception" = true) (hh : A.handled = none)
    (h : wpAny M A (eval e env) (OwnUp K C E) E s) : wpAny M A (exec (.Raise (some e) none pos) env) Q E s := by
  show wpAny M A (do standAt pos; raiseStmt env (some (do let v ← eval e env; standAt pos; pure v)) none) Q E s
  refine wpAny_bind (wpAny_standAt ?_)
  unfold raiseStmt
  dsimp only
  refine wpAny_bind (wpAny_bind (wpAny_mono h (fun v s₁ h₁ => wpAny_bind (wpAny_standAt (wpAny_pure ?_))) fun _ _ x => x))
  obtain ⟨a, ob, rfl, ⟨hc, t, hd⟩, X, he, hE⟩ := h₁
  obtain ⟨nm, qn, N, bs, bm, hdct, sn, sub, ab, col, dd, k0, k1, k2, k3, k5, newId, hC, hb, _⟩ := kts_cls X hk
  obtain ⟨c0, d0, dt, sl⟩ := ob
  dsimp only at hc hd
  subst hc hd
  obtain ⟨hp, g, d, tk, os⟩ := s₁
  have hcB : (Value.ref C :: bm).contains (.type "BaseException") = true := by rw [List.contains_cons, hb, Bool.or_true]
  repeat (first | with_reducible refine wpAny_loadPart_at he ?_ | with_reducible refine wpAny_loadPart_at hC ?_ | (with_reducible refine wpAny_isSubtype_exc hC ?_; rw [hcB]) | wp_step)
  exact wpAny_raiseNew_none hh hE
theorem kts63 (P : Params) : ktsIn (hd.heap_1 P) 63 "Exception" = true := by kernel_rfl!
theorem kts51 (P : Params) : ktsIn (hd.heap_1 P) 51 "Exception" = true := by kernel_rfl!
section
variable {M : Model} {A : Around} {E : Value → Shared → Prop} {s' : Shared} {base g g₂ : Heap} {outer : List Env} {L e C : Addr} {m : Str → Option Value} {env : Env} {oe : Obj} {Q : Unit → Shared → Prop} {news : List (Addr × Obj)} {cls : Value}
theorem frame_mem {b : Addr} (hf : env.frame = some L) (hm : b ∈ (env :: outer).filterMap (·.frame)) : b = L ∨ b ∈ outer.filterMap (·.frame) := by
  obtain ⟨v, he, hv⟩ := List.mem_filterMap.mp hm
  rcases List.mem_cons.mp he with rfl | he
  · rw [hf] at hv; exact .inl (Option.some.inj hv).symm
  · exact .inr (List.mem_filterMap.mpr ⟨v, he, hv⟩)
theorem push_any {h : Heap} (B : Below A base outer g) (F : Fr g L h m) (hf : env.frame = some L) (hk : env.scope.kind = .function) : Below (A.deeper env) base (env :: outer) h := by
  have hnew : base.get? L = none := by
    cases hq : base.get? L with
    | none => rfl
    | some o => exact absurd (Nat.lt_of_lt_of_le (Heap.lt_size (B.stays L o hq)) F.above) (Nat.lt_irrefl _)
  exact ⟨Around.frames_deeper B.stack, fun b o e => F.keep b o (B.stays b o e), .cons (by rw [hk]; decide) hf F.ns hnew (B.frames.of_keeps fun b o e _ => ⟨o, F.keep b o e, rfl⟩)⟩
theorem leave_led (B : Below A base outer g) (hf : env.frame = some L) (hk : env.scope.kind = .function) (F : Fr g L s'.heap m) (N : News g L s'.heap ((e, oe) :: news)) (hx : ExcObj C oe) (hne : ∀ q ∈ news, q.1 ≠ e)
    (hQ : ∀ h', RaisedSN base g outer e (.ref C) news h' → g.UpToSlots h' → Q () { s' with heap := h' }) : wpAny M (A.deeper env) (leaving env (.ref e)) Q E s' := by
  have B' := push_any B F hf hk
  obtain ⟨hc, t, hd⟩ := hx
  have ge := (N _ (.head _)).2.2
  have ne : ∀ b o, g.get? b = some o → b ≠ e := fun b o q z => by rw [z] at q; rw [q] at ge; cases ge
  have bn : ∀ b, g.get? b = none → base.get? b = none := fun b q => fresh_of_stays B.stays q
  have hin : ∀ v ∈ (env :: outer), ∀ b, v.frame = some b → b ∈ e :: (env :: outer).filterMap (·.frame) := fun v hv b hb => .tail _ (List.mem_filterMap.mpr ⟨v, hv, hb⟩)
  have st : base.StaysIn (hideAll s'.heap (e :: (env :: outer).filterMap (·.frame))) := fun b o q => hideAll_get _ (B'.stays b o q) fun hm => by
    rcases List.mem_cons.mp hm with rfl | hm
    · rw [bn _ ge] at q; cases q
    · rw [(B'.frames.mem hm).1] at q; cases q
  have sg : ∀ b o, g.get? b = some o → b ∉ outer.filterMap (·.frame) → (hideAll s'.heap (e :: (env :: outer).filterMap (·.frame))).get? b = some o := fun b o q nm => hideAll_get _ (F.keep b o q) fun hm => by
    rcases List.mem_cons.mp hm with z | hm
    · exact ne b o q z
    · rcases frame_mem hf hm with z | z
      · rw [z, kts_self F] at q; cases q
      · exact nm z
  have hl : ∀ q ∈ news, (hideAll s'.heap (e :: (env :: outer).filterMap (·.frame))).get? q.1 = some q.2 ∧ g.get? q.1 = none ∧ base.get? q.1 = none := fun q hq => by
    refine ⟨hideAll_get _ (N q (.tail _ hq)).1 fun hm => ?_, (N q (.tail _ hq)).2.2, bn _ (N q (.tail _ hq)).2.2⟩
    rcases List.mem_cons.mp hm with z | hm
    · exact hne q hq z
    · rcases frame_mem hf hm with z | z
      · exact (N q (.tail _ hq)).2.1 z
      · obtain ⟨o, ho, _⟩ := (B.frames.mem z).2
        rw [(N q (.tail _ hq)).2.2] at ho; cases ho
  refine wpAny_leaving_firstW (a0 := .ref t) B'.stack (funFrames_hide B'.frames hin) hf (N _ (.head _)).1 (fun b o hb => of_hideAll _ hb) (hideAll_none _ (.head _)) hd rfl rfl fun h' hL => ?_
  obtain ⟨k1, ⟨_, _, k2⟩, k3, k4⟩ := hL
  exact hQ h' ⟨_, .ref t, st, sg, hl, k1, hideAll_none _ (.head _), k2, by rw [← hc]; exact k3⟩ ((Heap.UpToSlots.of_keeps F.keep).trans k4)
theorem leave_up (B : Below A base outer g) (hf : env.frame = some L) (F : Fr g L g₂ m) (R : RaisedSN base g₂ (env :: outer) e cls news s'.heap) (hsm : g₂.UpToSlots s'.heap)
    (hQ : ∀ h', RaisedSN base g outer e cls news h' → g.UpToSlots h' → Q () { s' with heap := h' }) : wpAny M (A.deeper env) (leaving env (.ref e)) Q E s' := by
  obtain ⟨B₀, a0, hB, hBG, hl, hfl⟩ := R
  exact wpAny_leaves_onW (Around.frames_deeper B.stack) hf hfl fun h' x1 x2 =>
    hQ h' ⟨B₀, a0, hB, fun b o q nm => hBG b o (F.keep b o q) (fun hm => by
      rcases frame_mem hf hm with z | z
      · rw [z, kts_self F] at q
        cases q
      · exact nm z), fun q hq => ⟨(hl q hq).1, kts_none F.keep (hl q hq).2.1, (hl q hq).2.2⟩, x1⟩ ((Heap.UpToSlots.of_keeps F.keep).trans (hsm.trans x2))
end
theorem raise_form {P : Params} {h₀ : Heap} {M : Model} {A : Around} {E : Value → Shared → Prop} {s : Shared} {env : Env} {e : Expr} {pos : Pos} {Q : Flow → Shared → Prop} (_X : (hd.heap_1 P).In h₀) (hh : A.handled = none)
    (h : wpAny M A (eval e env) (OwnUp (hd.heap_1 P) 51 E) E s) : wpAny M A (exec (.Raise (some e) none pos) env) Q E s := raise_line (kts51 P) hh h
theorem raise_size {P : Params} {h₀ : Heap} {M : Model} {A : Around} {E : Value → Shared → Prop} {s : Shared} {env : Env} {e : Expr} {pos : Pos} {Q : Flow → Shared → Prop} (_X : (hd.heap_1 P).In h₀) (hh : A.handled = none)
    (h : wpAny M A (eval e env) (OwnUp (hd.heap_1 P) 63 E) E s) : wpAny M A (exec (.Raise (some e) none pos) env) Q E s := raise_line (kts63 P) hh h
theorem make_form {prog : Program} {w : World} {A : Around} {fr : List Env} {h₀ : Heap} {L : Addr} {m : Str → Option Value} {news : List (Addr × Obj)} {s : Shared} {Q E : Value → Shared → Prop} {x : Str} {tx : Tok}
    (F : Fr h₀ L s.heap m) (X : (hd.heap_1 w.params).In h₀) (N : News h₀ L s.heap news) (hh : A.handled = none) (hf : A.frames = some fr) (hd : A.depth ≤ 900) (hu : A.units ≤ 100)
    (h : ∀ e o h' tk', ExcObj 51 o → Fr h₀ L h' m → News h₀ L h' ((e, o) :: news) → (∀ q ∈ news, q.1 ≠ e) → Q (.ref e) { s with heap := h', toks := tk' }) : wpAny (model prog w) A (call (.ref 51) [.str x tx]) Q E s :=
  any_A hh hf hd hu (mk_form F (X.keeps F.keep) N h)
theorem make_size {prog : Program} {w : World} {A : Around} {fr : List Env} {h₀ : Heap} {L : Addr} {m : Str → Option Value} {news : List (Addr × Obj)} {s : Shared} {Q E : Value → Shared → Prop} {x : Str} {tx : Tok}
    (F : Fr h₀ L s.heap m) (X : (hd.heap_1 w.params).In h₀) (N : News h₀ L s.heap news) (hh : A.handled = none) (hf : A.frames = some fr) (hd : A.depth ≤ 900) (hu : A.units ≤ 100)
    (h : ∀ e o h' tk', ExcObj 63 o → Fr h₀ L h' m → News h₀ L h' ((e, o) :: news) → (∀ q ∈ news, q.1 ≠ e) → Q (.ref e) { s with heap := h', toks := tk' }) : wpAny (model prog w) A (call (.ref 63) [.str x tx]) Q E s :=
  any_A hh hf hd hu (mk_size F (X.keeps F.keep) N h)
example : True := by
  w_top off
  trivial
namespace MB
theorem r_no_bytes : typeLookup (.type "range") "__bytes__" = pure none := by rw [typeLookup_type, builtinLookup_eq_fast]; kernel_rfl
theorem r_no_index : typeLookup (.type "range") "__index__" = pure none := by rw [typeLookup_type, builtinLookup_eq_fast]; kernel_rfl
theorem r_no_buffer : typeLookup (.type "range") "__buffer__" = pure none := by rw [typeLookup_type, builtinLookup_eq_fast]; kernel_rfl
theorem i_no_bytes : typeLookup (.type "int") "__bytes__" = pure none := by rw [typeLookup_type, builtinLookup_eq_fast]; kernel_rfl
theorem b_bytes : typeLookup (.type "bytes") "__bytes__" = pure (some (.builtin "bytes.__bytes__")) := by rw [typeLookup_type, builtinLookup_eq_fast]; kernel_rfl
section
variable {prog : Program} {w : World} {A : Around} {E : Value → Shared → Prop} {s : Shared} {Q : Value → Shared → Prop}
theorem loop {R : Result → Shared → Prop} {a : Int} {I S n : Nat} (hh : A.handled = none) (ha : 0 ≤ a) (hn : a + n ≤ 256) (hIS : I ≠ S) :
    ∀ (k i : Nat) (s : Shared), n - i = k → i ≤ n → IsRangeIter s.heap I (a + i) ((n : Int) - i) 1 → s.heap.get? S = some { cls := .type "bytearray", data := .bytearray (byteArr ((rangeKs a n).take i)) } →
      (∀ h' t k', (∀ b o, b ≠ I → b ≠ S → s.heap.get? b = some o → h'.get? b = some o) → R (.ok (.ret (.bytes (byteArr (rangeKs a n)) t))) { s with heap := h', toks := k' }) →
      codeAny (model prog w) A (.builtin "bytes.__new__.loop" ⟨[.type "bytes", .ref I, .ref S], []⟩) R s := by
  have hlen : (rangeKs a n).length = n := rangeKs_length _ _
  intro k
  induction k with
  | zero =>
    intro i s hk hle hit hS hR
    have hin : i = n := by omega
    subst hin
    refine codeAny_builtin F.bm_entry_loop ?_
    rw [Around.under_plainId F.bm_plain_loop _]
    show wpAny _ A.in1 (pyNext (.ref I) >>= _) _ _ s
    refine wpAny_bind (wpAny_pyNext_range_end hh hit (by omega) fun h' he => ?_)
    have hS' : h'.get? S = some { cls := .type "bytearray", data := .bytearray (byteArr ((rangeKs a i).take i)) } := he S _ (Ne.symm hIS) hS
    refine wpAny_bind ?_
    unfold Builtin.Bytes.payload Builtin.Bytes.payload?
    refine wpAny_bind (wpAny_bind (wpAny_load hS' ?_))
    refine wpAny_pure (wpAny_pure ?_)
    rw [List.take_of_length_le (Nat.le_of_eq hlen)]
    refine wpAny_bind (wpAny_mkBytes ?_ (by rw [byteArr_size, hlen, sizeLine_eq]; omega))
    show wpAny _ _ (if (Value.type "bytes" == Value.type "bytes") = true then _ else _) _ _ _
    refine bm_if_true (by decide) ?_
    first
      | exact wpAny_pure (hR h' _ _ fun b o hb _ e => he b o hb e)
      | exact wpAny_bind (wpAny_pure (wpAny_pure (hR h' _ _ fun b o hb _ e => he b o hb e)))
  | succ k ih =>
    intro i s hk hle hit hS hR
    have hlt : i < n := by omega
    have hn' : (rangeKs a n)[i]? = some (a + (i : Int)) := by simp [rangeKs, hlt]
    refine codeAny_builtin F.bm_entry_loop ?_
    rw [Around.under_plainId F.bm_plain_loop _]
    show wpAny _ A.in1 (pyNext (.ref I) >>= _) _ _ s
    refine wpAny_bind (wpAny_pyNext_range_item hit (by omega) fun h' hit' hs => ?_)
    have hS' : h'.get? S = some { cls := .type "bytearray", data := .bytearray (byteArr ((rangeKs a n).take i)) } := (hs.2 S (Ne.symm hIS)).trans hS
    refine wpAny_bind (wpAny_holding (wpAny_of_eq (rfl : asIndex (.int _ _) = pure _) ?_))
    refine wpAny_bind (wpAny_letGo ?_)
    refine bm_if_false (by simp only [Bool.or_eq_false_iff, decide_eq_false_iff_not]; omega) ?_
    refine wpAny_bind ?_
    show wpAny _ _ (updateBytearray S (·.push (a + (i : Int)).toNat.toUInt8)) _ _ _
    unfold updateBytearray
    refine wpAny_bind (wpAny_load hS' ?_)
    show wpAny _ _ (update S (Obj.mapBytearray (·.push (a + (i : Int)).toNat.toUInt8)) >>= fun _ => lookBehind S) _ _ _
    refine wpAny_bind (wpAny_update hS' ?_)
    have hS₂ : (h'.update S (Obj.mapBytearray (·.push (a + (i : Int)).toNat.toUInt8))).get? S = some { cls := .type "bytearray", data := .bytearray (byteArr ((rangeKs a n).take (i + 1))) } := by
      rw [byteArr_take hn']
      exact Heap.get?_update_self (Obj.mapBytearray (·.push (a + (i : Int)).toNat.toUInt8)) hS' rfl
    refine wpAny_lookBehind hS₂ ?_ ?_
    · show (if (byteArr ((rangeKs a n).take (i + 1))).size > sizeLine then some "bytearray:memory" else none) = none
      rw [if_neg]
      rw [byteArr_size, List.length_take, hlen, sizeLine_eq]
      omega
    · refine wpAny_pure ⟨plainId_quiet F.bm_plain_loop _, ih (i + 1) { s with heap := h'.update S (Obj.mapBytearray (·.push (a + (i : Int)).toNat.toUInt8)), toks := s.toks + 1 } (by omega) hlt ?_ hS₂ fun h3 t' k' hk3 => ?_⟩
      · have e : IsRangeIter (h'.update S (Obj.mapBytearray (·.push (a + (i : Int)).toNat.toUInt8))) I (a + (i : Int) + 1) ((n : Int) - (i : Int) - 1) 1 := (Heap.SameBut.update ..).extBut I _ hIS hit'
        have e1 : a + (i : Int) + 1 = a + ((i + 1 : Nat) : Int) := by omega
        have e2 : (n : Int) - (i : Int) - 1 = (n : Int) - ((i + 1 : Nat) : Int) := by omega
        rw [e1, e2] at e
        exact e
      · exact hR h3 t' k' fun b o hbI hbS e => hk3 b o hbI hbS ((Heap.get?_update_other _ _ (Ne.symm hbS)).trans (hs.extBut b o hbI e))
theorem new {r : Addr} {a b : Int} {t u v : Tok} {n : Nat} (hh : A.handled = none) (hr : IsRange s.heap r a b 1 t u v) (hsmall : Builtin.Range.small a b 1 = true) (hn : Builtin.Range.rangeSize a b 1 = n) (ha : 0 ≤ a) (hz : a + n ≤ 256)
    (hQ : ∀ h' t k, (∀ b o, s.heap.get? b = some o → h'.get? b = some o) → Q (.bytes (byteArr (rangeKs a n)) t) { s with heap := h', toks := k }) :
    codeAny (model prog w) A (.call (.builtin "bytes.__new__") ⟨[.type "bytes", .ref r], []⟩) (wants Q E) s := by
  refine codeAny_of_tree ?_
  show wpAny _ A.in1 (do checkBuiltinCall "bytes.__new__" ⟨[.type "bytes", .ref r], []⟩; again (.builtin "bytes.__new__" ⟨[.type "bytes", .ref r], []⟩)) _ _ s
  refine wpAny_bind (wpAny_of_eq (F.bm_newCall _) (wpAny_pure ⟨plainId_quiet F.bm_plain _, codeAny_builtin F.bm_entry ?_⟩))
  rw [Around.under_plainId F.bm_plain _]
  have hT : s.TypeIs (.ref r) "range" := ⟨_, hr, rfl⟩
  unfold Builtin.«bytes.__new__»
  refine wpAny_bind (wpAny_of_eq (a := true) rfl ?_)
  refine bm_if_false rfl ?_
  refine wpAny_bind (wpAny_of_eq F.bm_sub ?_)
  refine bm_if_false rfl ?_
  refine wpAny_bind (wpAny_of_eq (F.bm_bind _) ?_)
  refine wpAny_bind (wpAny_of_eq (a := ()) rfl ?_)
  refine wpAny_bind (wpAny_of_eq (a := ()) rfl ?_)
  refine bm_if_false rfl ?_
  refine wpAny_bind (wpAny_specialOf hT r_no_bytes ?_)
  refine wpAny_bind (wpAny_bind ?_)
  show wpAny _ _ (load r >>= _) _ _ _
  refine wpAny_bind (wpAny_load hr ?_)
  refine wpAny_pure (wpAny_pure ?_)
  refine bm_if_false rfl ?_
  refine wpAny_bind (wpAny_specialOf hT r_no_index ?_)
  refine bm_if_true rfl ?_
  first
    | show wpAny _ _ (Builtin.Bytes.buffer? "bytes.__new__" (.ref r) true >>= _) _ _ _
    | (refine wpAny_bind ?_; show wpAny _ _ (Builtin.Bytes.buffer? "bytes.__new__" (.ref r) true >>= _) _ _ _)
  refine wpAny_bind ?_
  unfold Builtin.Bytes.buffer?
  refine wpAny_bind (wpAny_specialOf hT r_no_buffer ?_)
  refine wpAny_bind (wpAny_specialOf hT r_no_buffer ?_)
  refine wpAny_pure ?_
  refine wpAny_bind (wpAny_tryCatch (wpAny_pyIter_range hr hsmall ?_))
  refine wpAny_bind (wpAny_holding ?_)
  unfold Builtin.Bytes.lengthHint
  have hr₁ : IsRange (s.heap.push { cls := .type "range_iterator", data := .fields #[rawInt a, rawInt (Builtin.Range.rangeSize a b 1), rawInt 1] }) r a b 1 t u v := Heap.get?_push_of_some _ hr
  refine wpAny_bind (wpAny_specialOf ⟨_, hr₁, rfl⟩ F.slot_range_len.lookup ?_)
  generalize hid : ("range.__len__" : String) = id0
  wp_delta
  rw [show splitId id0 = some ("range", "__len__") from by subst hid; decide +kernel]
  subst hid
  refine wpAny_bind (wpAny_isInstance (T := "range") (b := true) ⟨_, hr₁, rfl⟩ (by rw [isSubtype_type]; kernel_rfl) ?_)
  refine wpAny_ite_split (fun hab => absurd hab (by decide)) (fun _ => ?_)
  refine wpAny_ite_split (fun hab => absurd hab (by decide +kernel)) (fun _ => ?_)
  refine wpAny_ite_split (fun _ => ?_) (fun hab => absurd rfl hab)
  refine wpAny_bind (wpAny_rule ?_)
  refine wpAny_bind (wpAny_attempt (call_len_range hr₁ hn (by omega) ?_))
  refine wpAny_bind (m := asInt? _) (wpAny_pure ?_)
  refine wpAny_ite_split (fun hab => absurd hab (by simp [Builtin.Bytes.tooLong, sizeLine]; omega)) (fun _ => wpAny_pure ?_)
  refine wpAny_bind ?_
  unfold Builtin.Bytes.newBytearray
  refine wpAny_newObj_type ?_ (Nat.zero_le _)
  have hI : IsRangeIter ((s.heap.push { cls := .type "range_iterator", data := .fields #[rawInt a, rawInt (Builtin.Range.rangeSize a b 1), rawInt 1] }).push { cls := .type "bytearray", data := .bytearray #[] }) s.heap.objs.size (a + ((0 : Nat) : Int)) ((n : Int) - ((0 : Nat) : Int)) 1 := by
    have e : IsRangeIter ((s.heap.push { cls := .type "range_iterator", data := .fields #[rawInt a, rawInt (Builtin.Range.rangeSize a b 1), rawInt 1] }).push { cls := .type "bytearray", data := .bytearray #[] }) s.heap.objs.size a (Builtin.Range.rangeSize a b 1) 1 :=
      Heap.get?_push_of_some _ (Heap.get?_push_size _ rfl)
    rw [hn] at e ⊢
    simpa using e
  have hsz : (s.heap.push { cls := .type "range_iterator", data := .fields #[rawInt a, rawInt (Builtin.Range.rangeSize a b 1), rawInt 1] }).objs.size = s.heap.objs.size + 1 := Heap.size_push _ _
  have main := loop (prog := prog) (w := w) (A := A) (R := wants Q E) (a := a) (n := n) (I := s.heap.objs.size) (S := (s.heap.push { cls := .type "range_iterator", data := .fields #[rawInt a, rawInt (Builtin.Range.rangeSize a b 1), rawInt 1] }).objs.size) hh ha hz (by rw [hsz]; exact Nat.ne_of_lt (Nat.lt_succ_self _))
    n 0 { s with heap := (s.heap.push { cls := .type "range_iterator", data := .fields #[rawInt a, rawInt (Builtin.Range.rangeSize a b 1), rawInt 1] }).push { cls := .type "bytearray", data := .bytearray #[] }, toks := s.toks + 1 + 1 } rfl (Nat.zero_le _) hI (Heap.get?_push_size _ rfl)
    fun h' t k hk => hQ h' t k fun b o e => hk b o (Nat.ne_of_lt (Heap.lt_size e)) (by rw [hsz]; exact Nat.ne_of_lt (Nat.lt_succ_of_lt (Heap.lt_size e))) (Heap.get?_push_of_some _ (Heap.get?_push_of_some _ e))
  first
    | exact wpAny_pure ⟨plainId_quiet F.bm_plain_loop _, main⟩
    | exact wpAny_pure (wpAny_pure ⟨plainId_quiet F.bm_plain_loop _, main⟩)
theorem new_int {n : Int} {tn : Tok} (h0 : 0 ≤ n) (h1 : n < 1000) (hQ : ∀ t k, Q (.bytes (Array.replicate n.toNat 0) t) { s with toks := k }) :
    codeAny (model prog w) A (.call (.builtin "bytes.__new__") ⟨[.type "bytes", .int n tn], []⟩) (wants Q E) s := by
  refine codeAny_of_tree ?_
  show wpAny _ A.in1 (do checkBuiltinCall "bytes.__new__" ⟨[.type "bytes", .int n tn], []⟩; again (.builtin "bytes.__new__" ⟨[.type "bytes", .int n tn], []⟩)) _ _ s
  refine wpAny_bind (wpAny_of_eq (F.bm_newCall _) (wpAny_pure ⟨plainId_quiet F.bm_plain _, codeAny_builtin F.bm_entry ?_⟩))
  rw [Around.under_plainId F.bm_plain _]
  unfold Builtin.«bytes.__new__»
  refine wpAny_bind (wpAny_of_eq (a := true) rfl ?_)
  refine bm_if_false rfl ?_
  refine wpAny_bind (wpAny_of_eq F.bm_sub ?_)
  refine bm_if_false rfl ?_
  refine wpAny_bind (wpAny_of_eq (F.bm_bind _) ?_)
  refine wpAny_bind (wpAny_of_eq (a := ()) rfl ?_)
  refine wpAny_bind (wpAny_of_eq (a := ()) rfl ?_)
  refine bm_if_false rfl ?_
  refine wpAny_bind (wpAny_specialOf (typeIs_int _ n tn) i_no_bytes ?_)
  refine wpAny_bind (wpAny_of_eq (a := false) rfl ?_)
  refine bm_if_false rfl ?_
  refine wpAny_bind (wpAny_specialOf (typeIs_int _ n tn) F.slot_int_index.lookup ?_)
  refine bm_if_false rfl ?_
  refine wpAny_bind (wpAny_attempt (wpAny_of_eq (rfl : asIndex (.int n tn) = pure n) ?_))
  refine bm_if_false (by simp only [Builtin.Bytes.fitsIndex, Bool.not_eq_false', Bool.and_eq_true, decide_eq_true_eq]; omega) ?_
  refine wpAny_ite_split (fun hab => absurd hab (by omega)) (fun _ => ?_)
  refine wpAny_ite_split (fun hab => absurd hab (by omega)) (fun _ => ?_)
  refine wpAny_ite_split (fun hab => absurd hab (by simp [Builtin.Bytes.tooLong, sizeLine]; omega)) (fun _ => ?_)
  refine wpAny_bind (wpAny_rule ?_)
  refine wpAny_bind (wpAny_mkBytes ?_ (by rw [Array.size_replicate, sizeLine_eq]; omega))
  show wpAny _ _ (if (Value.type "bytes" == Value.type "bytes") = true then _ else _) _ _ _
  refine bm_if_true (by decide) ?_
  first
    | exact wpAny_pure (hQ _ _)
    | exact wpAny_bind (wpAny_pure (wpAny_pure (hQ _ _)))
theorem new_bytes {b : Array UInt8} {tb : Tok} (hQ : Q (.bytes b tb) s) :
    codeAny (model prog w) A (.call (.builtin "bytes.__new__") ⟨[.type "bytes", .bytes b tb], []⟩) (wants Q E) s := by
  refine codeAny_of_tree ?_
  show wpAny _ A.in1 (do checkBuiltinCall "bytes.__new__" ⟨[.type "bytes", .bytes b tb], []⟩; again (.builtin "bytes.__new__" ⟨[.type "bytes", .bytes b tb], []⟩)) _ _ s
  refine wpAny_bind (wpAny_of_eq (F.bm_newCall _) (wpAny_pure ⟨plainId_quiet F.bm_plain _, codeAny_builtin F.bm_entry ?_⟩))
  rw [Around.under_plainId F.bm_plain _]
  unfold Builtin.«bytes.__new__»
  refine wpAny_bind (wpAny_of_eq (a := true) rfl ?_)
  refine bm_if_false rfl ?_
  refine wpAny_bind (wpAny_of_eq F.bm_sub ?_)
  refine bm_if_false rfl ?_
  refine wpAny_bind (wpAny_of_eq (F.bm_bind _) ?_)
  refine wpAny_bind (wpAny_of_eq (a := ()) rfl ?_)
  refine wpAny_bind (wpAny_of_eq (a := ()) rfl ?_)
  refine bm_if_false rfl ?_
  refine wpAny_bind (wpAny_specialOf (PySem.W.typeIs_bytes _ b tb) b_bytes ?_)
  refine wpAny_bind (wpAny_rule ?_)
  refine wpAny_bind (wpAny_typeOf (PySem.W.typeIs_bytes _ b tb) ?_)
  refine bm_if_true (by decide) ?_
  show wpAny _ _ (if (Value.type "bytes" == Value.type "bytes") = true then _ else _) _ _ _
  refine bm_if_true (by decide) ?_
  first
    | exact wpAny_pure hQ
    | exact wpAny_bind (wpAny_pure (wpAny_pure hQ))
theorem call_r {r : Addr} {a b : Int} {t u v : Tok} {n : Nat} (hh : A.handled = none) (hr : IsRange s.heap r a b 1 t u v) (hsmall : Builtin.Range.small a b 1 = true) (hn : Builtin.Range.rangeSize a b 1 = n) (ha : 0 ≤ a) (hz : a + n ≤ 256)
    (hQ : ∀ h' t k, (∀ b o, s.heap.get? b = some o → h'.get? b = some o) → Q (.bytes (byteArr (rangeKs a n)) t) { s with heap := h', toks := k }) : wpAny (model prog w) A (call (.type "bytes") [.ref r]) Q E s := by
  refine callType_codes (Q₁ := fun obj s₁ => s₁.TypeIs obj "bytes" ∧ Q obj s₁) F.bm_called (F.bm_typeCall _) F.entry_object_init
    (new hh hr hsmall hn ha hz fun h' t k hk => ⟨PySem.W.typeIs_bytes _ _ _, hQ h' t k hk⟩) fun obj s₁ h₁ => ?_
  exact ⟨h₁.1, F.args_object_init_2 obj _, object_init_meets F.bm_called.init.lookup F.bm_called.made (by decide) prog w A.in1 _ s₁ ⟨h₁.1, rfl, h₁.2⟩⟩
theorem call_i {n : Int} {tn : Tok} (h0 : 0 ≤ n) (h1 : n < 1000) (hQ : ∀ t k, Q (.bytes (Array.replicate n.toNat 0) t) { s with toks := k }) : wpAny (model prog w) A (call (.type "bytes") [.int n tn]) Q E s := by
  refine callType_codes (Q₁ := fun obj s₁ => s₁.TypeIs obj "bytes" ∧ Q obj s₁) F.bm_called (F.bm_typeCall _) F.entry_object_init
    (new_int h0 h1 fun t k => ⟨PySem.W.typeIs_bytes _ _ _, hQ t k⟩) fun obj s₁ h₁ => ?_
  exact ⟨h₁.1, F.args_object_init_2 obj _, object_init_meets F.bm_called.init.lookup F.bm_called.made (by decide) prog w A.in1 _ s₁ ⟨h₁.1, rfl, h₁.2⟩⟩
theorem call_b {b : Array UInt8} {tb : Tok} (hQ : Q (.bytes b tb) s) : wpAny (model prog w) A (call (.type "bytes") [.bytes b tb]) Q E s := by
  refine callType_codes (Q₁ := fun obj s₁ => s₁.TypeIs obj "bytes" ∧ Q obj s₁) F.bm_called (F.bm_typeCall _) F.entry_object_init
    (new_bytes ⟨PySem.W.typeIs_bytes _ _ _, hQ⟩) fun obj s₁ h₁ => ?_
  exact ⟨h₁.1, F.args_object_init_2 obj _, object_init_meets F.bm_called.init.lookup F.bm_called.made (by decide) prog w A.in1 _ s₁ ⟨h₁.1, rfl, h₁.2⟩⟩
end
end MB
example : True := by
  w_top off
  trivial
namespace MQ
open PySem.SeqAt
section
variable {A : Around} {s : Shared}
theorem rc_bytes (b : Array UInt8) (t : Tok) (c : Array UInt8) (u : Tok) : RcAt A s (.bytes b t) (.bytes c u) (b.toList == c.toList) := fun _ _ _ _ h =>
  richCompare_gives (PySem.W.typeIs_bytes s b t) (PySem.W.typeIs_bytes s c u) FB.slot_bytes_eq FB.entry_bytes_eq (FB.args_bytes_eq_2 _ _) (gives_bytes_eq b c t u) (fun x => nomatch x) h
theorem at_bytes (b : Array UInt8) (t u : Tok) : EqAt A s (.bytes b t) (.bytes b u) true := fun prog w E Q h => by
  unfold eqBool
  refine wpAny_holding ?_
  refine wpAny_ite_split (fun _ => wpAny_bind (wpAny_rule (wpAny_pure h))) (fun _ => ?_)
  exact wpAny_bind (rc_bytes b t b u prog w E _ (wpAny_truthy_bool (by simpa using h)))
theorem at_int (a : Int) (t u : Tok) : EqAt A s (.int a t) (.int a u) true := by
  have := EqAt.int_int (A := A) (s := s) a t a u
  rwa [beq_self_eq_true] at this
end
section
variable {prog : Program} {w : World} {A : Around} {E : Value → Shared → Prop} {s : Shared} {Q : Value → Shared → Prop} {l b : Addr}
theorem ne_list1 {u v : Value} (hl : s.heap.IsList l #[u]) (hb : s.heap.IsList b #[v]) (hu : A.units < cLine) (he : EqAt A.in1 s u v true) (h : Q (.bool false) s) : wpAny (model prog w) A (compareOp .NotEq (.ref l) (.ref b)) Q E s :=
  cmp_ofNotEq (RcNeAt.lists (e := fun _ => true) hl hb rfl hu (fun j h1 h2 => by
    have : j = 0 := by simp at h1; omega
    subst this
    exact he) prog w E Q (by simpa using h))
theorem ne_tuple2 {u v u' v' : Value} (hl : s.heap.IsTuple l #[u, u']) (hb : s.heap.IsTuple b #[v, v']) (hu : A.units < cLine) (he : EqAt A.in1 s u v true) (he' : EqAt A.in1 s u' v' true) (h : Q (.bool false) s) : wpAny (model prog w) A (compareOp .NotEq (.ref l) (.ref b)) Q E s :=
  cmp_ofNotEq (RcNeAt.tuples (e := fun _ => true) hl hb hu (fun j h1 h2 => by
    have : j = 0 ∨ j = 1 := by simp at h1; omega
    rcases this with rfl | rfl
    · exact he
    · exact he') prog w E Q (by with_unfolding_all exact h))
theorem ne_tuple3 {u v u' v' u'' v'' : Value} (hl : s.heap.IsTuple l #[u, u', u'']) (hb : s.heap.IsTuple b #[v, v', v'']) (hu : A.units < cLine) (he : EqAt A.in1 s u v true) (he' : EqAt A.in1 s u' v' true) (he'' : EqAt A.in1 s u'' v'' true) (h : Q (.bool false) s) : wpAny (model prog w) A (compareOp .NotEq (.ref l) (.ref b)) Q E s :=
  cmp_ofNotEq (RcNeAt.tuples (e := fun _ => true) hl hb hu (fun j h1 h2 => by
    have : j = 0 ∨ j = 1 ∨ j = 2 := by simp at h1; omega
    rcases this with rfl | rfl | rfl
    · exact he
    · exact he'
    · exact he'') prog w E Q (by with_unfolding_all exact h))
end
end MQ
example : True := by
  w_top off
  trivial
abbrev frs (l : List Env) : List Addr := l.filterMap (·.frame)
def LeaveT (fs : List Addr) (A₀ : Around) (base : Heap) (outer : List Env) (h₀ : Heap) (L : Addr) (m : Str → Option Value) (g : Heap) (R : Result → Shared → Prop) (v : Value) (s' : Shared) : Prop :=
  ∃ g' L' m' news', KtsTurn fs g g' ∧ Fr g' L' s'.heap m' ∧ News g' L' s'.heap news' ∧ ∀ h₀', KtsTurn (frs outer) h₀ h₀' → Fr h₀' L s'.heap m → News h₀' L s'.heap news' → Below A₀ base outer h₀' → KtsDicts (frs outer) h₀' → R (.ok (.ret v)) s'
theorem leaveT {fs : List Addr} {A₀ : Around} {base : Heap} {outer : List Env} {h₀ g g' : Heap} {L L' : Addr} {m m' : Str → Option Value} {news' : List (Addr × Obj)} {R : Result → Shared → Prop} {v : Value} {s' : Shared}
    (F' : Fr g' L' s'.heap m') (N' : News g' L' s'.heap news') (T : KtsTurn fs g g')
    (k : ∀ h₀', KtsTurn (frs outer) h₀ h₀' → Fr h₀' L s'.heap m → News h₀' L s'.heap news' → Below A₀ base outer h₀' → KtsDicts (frs outer) h₀' → R (.ok (.ret v)) s') : LeaveT fs A₀ base outer h₀ L m g R v s' := ⟨g', L', m', news', T, F', N', k⟩
theorem groundT {A A₀ : Around} {base h₀ : Heap} {outer : List Env} {L : Addr} {m : Str → Option Value} {env : Env} {news : List (Addr × Obj)} {s : Shared} {R : Result → Shared → Prop}
    (B : Below A₀ base outer h₀) (F : Fr h₀ L s.heap m) (N : News h₀ L s.heap news) (hA : A.frames = some (env :: outer)) (hf : env.frame = some L) (hke : env.scope.kind = .function) (D : KtsDicts (frs outer) h₀) :
    Fr h₀ L (hideAll s.heap (news.map (·.1))) m ∧ Below A base (env :: outer) (hideAll s.heap (news.map (·.1))) ∧ h₀.StaysIn (hideAll s.heap (news.map (·.1))) ∧ KtsDicts (frs (env :: outer)) (hideAll s.heap (news.map (·.1))) ∧
      ∀ v s', LeaveT (frs (env :: outer)) A₀ base outer h₀ L m (hideAll s.heap (news.map (·.1))) R v s' → R (.ok (.ret v)) s' := by
  obtain ⟨FG, BG, st, _⟩ := groundX (R := R) B F N hA hf hke
  obtain ⟨oL, es, ep, hLg, hLd, hLk, hLf⟩ := FG.ns
  have mem : ∀ b, b ∈ frs (env :: outer) → b = L ∨ b ∈ frs outer := fun b hb => frame_mem hf hb
  refine ⟨FG, BG, st, fun b hb => ?_, fun v s' hl => ?_⟩
  · rcases mem b hb with rfl | hb
    · exact ⟨oL, es, ep, hLg, hLd⟩
    · obtain ⟨o, es', n', ho', hd'⟩ := D b hb
      exact ⟨o, es', n', st b o ho', hd'⟩
  obtain ⟨g', L', m', news', T', F', N', k⟩ := hl
  have nL₀ : h₀.get? L = none := kts_self F
  obtain ⟨sl, hs⟩ := T'.up hLg
  obtain ⟨T₁, S₁⟩ := kts_turn_at (h := s'.heap) (fs := frs outer) (g := h₀)
    (fun b hb => by
      obtain ⟨_, o, ho', _⟩ := B.frames.mem hb
      exact ⟨o, ho'⟩)
    (fun b o e nmem => F'.keep b o (T'.other b o (st b o e) (fun q => by
      rcases mem b q with z | z
      · rw [z, nL₀] at e
        cases e
      · exact nmem z)))
    (fun b o e hm => by
      obtain ⟨sl', hs'⟩ := T'.up (st b o e)
      exact ⟨sl', F'.keep _ _ hs'⟩)
  have B₃ : Below A₀ base outer (ktsHeap s'.heap (frs outer) h₀) := ⟨B.stack, fun b o e => T₁.other b o (B.stays b o e) (fun hm => by
    rw [(B.frames.mem hm).1] at e
    cases e), B.frames.of_keeps fun b o e _ => by
    obtain ⟨sl', hs'⟩ := T₁.up e
    exact ⟨_, hs', rfl⟩⟩
  refine k _ T₁ ⟨⟨_, es, ep, F'.keep _ _ hs, hLd, hLk, hLf⟩, S₁, by rw [T₁.size]; exact F.above⟩ (fun p hp => ⟨(N' p hp).1, fun q => ?_, ?_⟩) B₃ (D.turn T₁)
  · have := (N' p hp).2.2; rw [q, hs] at this; cases this
  · refine T₁.none_ _ ?_
    cases q : h₀.get? p.1 with
    | none => rfl
    | some o =>
      obtain ⟨sl', hs'⟩ := T'.up (st _ _ q)
      have := (N' p hp).2.2
      rw [hs'] at this
      cases this
section
variable {prog : Program} {w : World} {A₀ A : Around} {s : Shared} {base h₀ : Heap} {outer : List Env} {L : Addr} {m : Str → Option Value} {env : Env} {news : List (Addr × Obj)} {K : Frag} {p : Program} {loose : List Str} {mean : ExcName → Option Value} {mg mb : Str → Option Value}
  {R : Result → Shared → Prop} {name qual : Str} {params : Arguments} {body : List Stmt} {scope : Scope} {dV kV doc pm cdv ct oc : Value} {an od : Option Addr} {osl : Array (Option Value)} {f : Addr} {args : Args} {binds : List (Str × Value)}
theorem code_T (B : Below A₀ base outer h₀) (F : Fr h₀ L s.heap m) (X₀ : K.In h₀) (N : News h₀ L s.heap news) (T : Top p loose mean mg mb h₀) (D : KtsDicts (frs outer) h₀) (hA : A.frames = some (env :: outer)) (hf : env.frame = some L) (hke : env.scope.kind = .function)
    (ho : K.lookup f = some ⟨oc, od, .func (fnOf name qual params body scope dV kV doc pm an cdv ct), osl⟩) (hcd : codeIn K cdv qual = true) (hroom : A.depth < recursionLimit)
    (hbind : BindsTo s (fnOf name qual params body scope dV kV doc pm an cdv ct) args binds) (hloc : ∀ y ∈ binds, scope.names.lookup y.1 = some .local)
    (h : ∀ g L' h₁, Fr h₀ L g m → Fr g L' h₁ (fun y => binds.reverse.lookup y) → News g L' h₁ news → Below A base (env :: outer) g → K.In g → Top p loose mean mg mb g → KtsDicts (frs (env :: outer)) g → (∀ p ∈ news, p.1 < L') →
      wpAny (model prog w) (A.deeper (envOf qual scope L' f cdv)) (execs body (envOf qual scope L' f cdv))
        (fun fl s' => LeaveT (frs (env :: outer)) A₀ base outer h₀ L m g R (match fl with | .ret v => v | _ => .none) s')
        (fun e s' => wpAny (model prog w) (A.deeper (envOf qual scope L' f cdv)) (leaving (envOf qual scope L' f cdv) e) (fun _ s'' => R (.error e) s'') (fun e' s'' => R (.error e') s'') s')
        { s with heap := h₁, toks := s.toks + binds.length })
    (hco : scope.isCoroutine = false) (hgen : scope.isGenerator = false) (hk : scope.kind = .function)
    (hcell : ∀ x ∈ scope.names, x.2 ≠ .cell) : codeAny (model prog w) A (.call (.ref f) args) R s := by
  obtain ⟨FG, BG, st, DG, lv⟩ := groundT (R := R) B F N hA hf hke D
  refine codeAny_call_def (fd := fnOf name qual params body scope dV kV doc pm an cdv ct) (body := body) (binds := binds) hroom ((X₀.keeps F.keep) _ _ ho) rfl (T.nolimit.keeps F.keep) (codeRec_of (X₀.keeps F.keep) hcd) rfl hbind hcell hloc (fun h₁ hns hk₁ => ?_) hco hgen hk
  exact wpAny_mono (h _ s.heap.objs.size h₁ FG ⟨hns, fun b o e => hk₁ b o (of_hideAll _ e), Nat.le_of_eq (hideAll_size _ _)⟩
    (fun p hp => ⟨hk₁ _ _ (N p hp).1, Nat.ne_of_lt (Heap.lt_size (N p hp).1), hideAll_none _ (List.mem_map_of_mem hp)⟩) BG (X₀.keeps st) (T.keeps st) DG (fun p hp => Heap.lt_size (N p hp).1)) (fun fl s' hl => lv _ _ hl) fun _ _ y => y
end
section
variable {prog : Program} {w : World} {A₀ A : Around} {s : Shared} {base h₀ : Heap} {outer : List Env} {L : Addr} {m : Str → Option Value} {env : Env} {news : List (Addr × Obj)} {K : Frag} {p : Program} {loose : List Str} {mean : ExcName → Option Value} {mg mb : Str → Option Value}
  {R : Result → Shared → Prop} {name qual : Str} {params : Arguments} {body : List Stmt} {scope : Scope} {dV kV doc pm cdv ct oc : Value} {an od : Option Addr} {osl : Array (Option Value)} {f : Addr} {args : Args} {binds : List (Str × Value)}
theorem code_TC (B : Below A₀ base outer h₀) (F : Fr h₀ L s.heap m) (X₀ : K.In h₀) (N : News h₀ L s.heap news) (T : Top p loose mean mg mb h₀) (D : KtsDicts (frs outer) h₀) (hA : A.frames = some (env :: outer)) (hf : env.frame = some L) (hke : env.scope.kind = .function)
    (ho : K.lookup f = some ⟨oc, od, .func (fnOf name qual params body scope dV kV doc pm an cdv ct), osl⟩) (hcd : codeIn K cdv qual = true) (hroom : A.depth < recursionLimit)
    (hbind : BindsTo s (fnOf name qual params body scope dV kV doc pm an cdv ct) args binds) (hkind : (binds.all fun y => scope.names.lookup y.1 == some .local || scope.names.lookup y.1 == some .cell) = true)
    (hnd : ((cellsFrom 0 scope.names []).map (·.1)).Nodup)
    (h : ∀ g L' h₁ tk cells, Fr h₀ L g m → Fr g L' h₁ (bindL (envOfC qual scope L' f cdv).kindOf binds fun _ => none) → News g L' h₁ (cells ++ news) →
      CellsAre (bindC (envOfC qual scope L' f cdv).kindOf binds fun _ => none) (cellsFrom (L' + 1) scope.names []) cells → Below A base (env :: outer) g → K.In g → Top p loose mean mg mb g → KtsDicts (frs (env :: outer)) g → (∀ p ∈ news, p.1 < L') →
      wpAny (model prog w) (A.deeper (envOfC qual scope L' f cdv)) (execs body (envOfC qual scope L' f cdv))
        (fun fl s' => LeaveT (frs (env :: outer)) A₀ base outer h₀ L m g R (match fl with | .ret v => v | _ => .none) s')
        (fun e s' => wpAny (model prog w) (A.deeper (envOfC qual scope L' f cdv)) (leaving (envOfC qual scope L' f cdv) e) (fun _ s'' => R (.error e) s'') (fun e' s'' => R (.error e') s'') s')
        { s with heap := h₁, toks := tk })
    (hco : scope.isCoroutine = false) (hgen : scope.isGenerator = false) (hk : scope.kind = .function) : codeAny (model prog w) A (.call (.ref f) args) R s := by
  obtain ⟨FG, BG, st, DG, lv⟩ := groundT (R := R) B F N hA hf hke D
  refine codeAny_call_function hroom ((X₀.keeps F.keep) _ _ ho) rfl hco hgen rfl (codeRec_of (X₀.keeps F.keep) hcd) (hbind _ _ _ _ ?_)
  refine wpAny_newFunctionEnv_cells hk (kindsX hkind _) fun env' he s' x => ?_
  subst he
  refine ⟨(T.nolimit.keeps F.keep).keeps x.toInCall.keep, codeAny_func ?_⟩
  obtain ⟨h₁, tk, rfl, _⟩ := x.done
  have hk₁ := x.toInCall.keep
  obtain ⟨cells, NC, Y⟩ := Cl.news (h₀ := s.heap) (Nat.le_refl _) fun n c hm => ⟨x.cell n c (lookup_of_mem_nodup (cellsFrom_names scope.names 0 (s.heap.objs.size + 1) [] [] rfl ▸ hnd) hm), x.above n c hm⟩
  refine wpAny_mono (h _ s.heap.objs.size h₁ tk cells FG ⟨x.toInCall.ns, fun b o e => hk₁ b o (of_hideAll _ e), Nat.le_of_eq (hideAll_size _ _)⟩ (fun p hp => ?_) Y BG (X₀.keeps st) (T.keeps st) DG (fun p hp => Heap.lt_size (N p hp).1)) (fun fl s' hl => lv _ _ hl) fun _ _ y => y
  rcases List.mem_append.mp hp with hp | hp
  · refine ⟨(NC p hp).1, (NC p hp).2.1, ?_⟩
    cases q : (hideAll s.heap (news.map (·.1))).get? p.1 with
    | none => rfl
    | some o => have := of_hideAll _ q; rw [(NC p hp).2.2] at this; cases this
  · exact ⟨hk₁ _ _ (N p hp).1, Nat.ne_of_lt (Heap.lt_size (N p hp).1), hideAll_none _ (List.mem_map_of_mem hp)⟩
theorem unturn {h₀' h : Heap} (T : KtsTurn [] h₀ h₀') (F : Fr h₀' L h m) (N : News h₀' L h news) : Fr h₀ L h m ∧ News h₀ L h news :=
  ⟨⟨F.ns, fun b o e => F.keep b o (T.other b o e (fun q => nomatch q)), by rw [← T.size]; exact F.above⟩, fun p hp => ⟨(N p hp).1, (N p hp).2.1, by
    cases q : h₀.get? p.1 with
    | none => rfl
    | some o => have := T.other _ _ q (fun q => nomatch q); rw [(N p hp).2.2] at this; cases this⟩⟩
end
theorem ne_all {k d : Addr} : ∀ {l : List (Addr × Obj)}, AllLt k l → @LE.le Nat _ k d → ∀ q ∈ l, q.1 ≠ d
  | [], _, _, _, hq => nomatch hq
  | _ :: _, h, hk, q, hq => by
    rcases List.mem_cons.mp hq with rfl | hq
    · exact Nat.ne_of_lt (Nat.lt_of_lt_of_le h.1 hk)
    · exact ne_all h.2 hk q hq
example : True := by
  w_top off
  trivial
/-- where a walk stands: on some ground turned from the first one -/
def At (A₀ : Around) (base : Heap) (outer : List Env) (g₀ : Heap) (L : Addr) (m : Str → Option Value) (news : List (Addr × Obj)) (h : Heap) : Prop :=
  ∃ g, KtsTurn (frs outer) g₀ g ∧ Fr g L h m ∧ News g L h news ∧ Below A₀ base outer g ∧ KtsDicts (frs outer) g
theorem turn_none {fs : List Addr} {g₀ g : Heap} (T : KtsTurn fs g₀ g) {b : Addr} (e : g.get? b = none) : g₀.get? b = none := by
  cases q : g₀.get? b with
  | none => rfl
  | some o => obtain ⟨sl, hs⟩ := T.up q; rw [e] at hs; cases hs
def TurnStep (A₀ : Around) (base : Heap) (outer : List Env) (g₀ : Heap) (L : Addr) (own : List (Addr × Obj)) (Jn : (Str → Option Value) → List (Addr × Obj) → Prop) (s : Shared) (Q : Flow → Shared → Prop) (f : Flow) (s₃ : Shared) : Prop :=
  match f with
  | .next | .cont => ∃ m' news' h' tk', s₃ = { s with heap := h', toks := tk' } ∧ Jn m' news' ∧ At A₀ base outer g₀ L m' (own ++ news') h'
  | .brk => Q .next s₃
  | .ret v => Q (.ret v) s₃
theorem TurnStep.go {A₀ : Around} {base : Heap} {outer : List Env} {g₀ g : Heap} {L : Addr} {own : List (Addr × Obj)} {Jn : (Str → Option Value) → List (Addr × Obj) → Prop} {s : Shared} {Q : Flow → Shared → Prop} {m' : Str → Option Value} {news' : List (Addr × Obj)} {h' : Heap} {tk' : Nat}
    (T : KtsTurn (frs outer) g₀ g) (F : Fr g L h' m') (B : Below A₀ base outer g) (D : KtsDicts (frs outer) g) (J : Jn m' news') (N : News g L h' (own ++ news')) : TurnStep A₀ base outer g₀ L own Jn s Q .next { s with heap := h', toks := tk' } :=
  ⟨m', news', h', tk', rfl, J, g, T, F, N, B, D⟩
section
variable {prog : Program} {w : World} {A : Around} {E : Value → Shared → Prop} {s : Shared} {A₀ : Around} {base g₀ : Heap} {outer : List Env} {L : Addr} {m : Str → Option Value} {news : List (Addr × Obj)} {env : Env} {target : Expr} {body : List Stmt} {Q : Flow → Shared → Prop}
theorem go_listiter {I l : Addr} {i : Nat} {Q : Unit → Shared → Prop} (target : Expr) (v : Value) (hit : s.heap.IsListIter I l i) (hQ : Q () s) : wpAny (model prog w) A (letOwnedTupleGo target (.ref I) v) Q E s := by
  obtain ⟨o, ho, hc, hd⟩ := hit
  have key : ∀ a : Addr, wpAny (model prog w) A (do
      let o ← load I
      match o.cls, o.data with
      | .type n, .fields vs =>
        if ["enumerate", "zip", "dict_itemiterator", "dict_reverseitemiterator", "odict_iterator", "itertools.zip_longest", "itertools.pairwise"].contains n && vs[0]? == some (rawInt a) then
          rule "for.unpacks-the-owned-tuple"
          updateField I 0 .none
      | _, _ => pure ()) Q E s := fun a => by
    refine wpAny_bind (wpAny_load ho ?_)
    rw [hc, hd]
    dsimp only
    rw [show (["enumerate", "zip", "dict_itemiterator", "dict_reverseitemiterator", "odict_iterator", "itertools.zip_longest", "itertools.pairwise"].contains "list_iterator") = false from by decide, Bool.false_and]
    exact wpAny_pure hQ
  unfold letOwnedTupleGo
  cases target with
  | Tuple _ _ _ => cases v with
    | ref a => exact key a
    | _ => exact wpAny_pure hQ
  | List _ _ => cases v with
    | ref a => exact key a
    | _ => exact wpAny_pure hQ
  | _ => exact wpAny_pure hQ
theorem for_walk {R : Result → Shared → Prop} {I : Addr} {fp : List Addr} {n : Nat} {P : Nat → Value → Prop} {St : Nat → Heap → Prop} (W : Walks prog w A I fp [I] n P St) (hI : ∀ i h, St i h → ∃ o, h.get? I = some o)
    (J : Nat → (Str → Option Value) → List (Addr × Obj) → Prop) (hfp : ∀ b ∈ fp, b = I ∨ ∃ o, ∀ i m news, J i m news → (b, o) ∈ news) (hJ : ∀ i m news, J i m news → ∀ p ∈ news, p.1 ≠ I)
    (st : St 0 s.heap) (at0 : At A₀ base outer g₀ L m news s.heap) (j0 : J 0 m news) (hg : g₀.get? I = none) (hIL : I ≠ L)
    (step : ∀ i v m news it h tk, i < n → P i v → J i m news → At A₀ base outer g₀ L m ((I, it) :: news) h →
      wpAny (model prog w) A (assign target env v) (fun _ s₂ => wpAny (model prog w) A (execs body env) (TurnStep A₀ base outer g₀ L [(I, it)] (J (i + 1)) s Q) (fun _ _ => False) s₂) (fun _ _ => False) { s with heap := h, toks := tk })
    (done : ∀ m news h tk, J n m news → At A₀ base outer g₀ L m news h → R (.ok .next) { s with heap := h, toks := tk })
    (hQ : ∀ f s', Q f s' → R (.ok f) s') (hgo : ∀ i v (s : Shared) (Q : Unit → Shared → Prop) (E : Value → Shared → Prop), St i s.heap → Q () s → wpAny (model prog w) A (letOwnedTupleGo target (.ref I) v) Q E s) :
    codeAny (model prog w) A (.forLoop target (.ref I) body [] env) R s := by
  refine codeAny_forLoop_any (fun k s' => ∃ h' tk m' news' i, s' = { s with heap := h', toks := tk } ∧ St i h' ∧ At A₀ base outer g₀ L m' news' h' ∧ J i m' news' ∧ i ≤ n ∧ k = n + 1 - i) ?_ (n + 1) ⟨s.heap, s.toks, m, news, 0, rfl, st, at0, j0, Nat.zero_le _, rfl⟩
  rintro k s' ⟨h', tk, m', news', i, rfl, hst', hat, hj, hi, rfl⟩
  have next : ∀ h₁ : Heap, (∀ b o, b ∉ [I] → h'.get? b = some o → h₁.get? b = some o) → At A₀ base outer g₀ L m' news' h₁ := fun h₁ hk => by
    obtain ⟨g, T, F, N, B, D⟩ := hat
    have gI : g.get? I = none := T.none_ _ hg
    have kp : ∀ b o, b ≠ I → h'.get? b = some o → h₁.get? b = some o := fun b o hb e => hk b o (by simpa using hb) e
    exact ⟨g, T, ⟨F.ns.at' fun o e => kp _ o (Ne.symm hIL) e, fun b o e => kp b o (fun z => by rw [z, gI] at e; cases e) (F.keep b o e), F.above⟩, fun p hp => ⟨kp _ _ (hJ i m' news' hj p hp) (N p hp).1, (N p hp).2⟩, B, D⟩
  by_cases hlt : i < n
  · refine W.item i _ _ _ hlt hst' fun v h₁ tk₁ hP hst₁ hk₁ => ?_
    obtain ⟨it, hit⟩ := hI _ _ hst₁
    obtain ⟨g, T, F, N, B, D⟩ := next h₁ hk₁
    have N₁ : News g L h₁ ((I, it) :: news') := fun p hp => by
      rcases List.mem_cons.mp hp with rfl | hp
      · exact ⟨hit, hIL, T.none_ _ hg⟩
      · exact N p hp
    refine hgo _ _ _ _ _ hst₁ ?_
    refine wpAny_mono (step i v m' news' it h₁ tk₁ hlt hP hj ⟨g, T, F, N₁, B, D⟩) (fun _ s₂ h₂ => wpAny_mono h₂ (fun f s₃ h₃ => ?_) fun _ _ e => e.elim) fun _ _ e => e.elim
    have fin : (∃ m' news' h' tk', s₃ = { s with heap := h', toks := tk' } ∧ J (i + 1) m' news' ∧ At A₀ base outer g₀ L m' ([(I, it)] ++ news') h') → ∃ m₀, m₀ < n + 1 - i ∧ ∃ h' tk m' news' i, s₃ = { s with heap := h', toks := tk } ∧ St i h' ∧ At A₀ base outer g₀ L m' news' h' ∧ J i m' news' ∧ i ≤ n ∧ m₀ = n + 1 - i := by
      rintro ⟨m₃, news₃, h₃', tk₃, rfl, hj₃, g₃, T₃, F₃, N₃, B₃, D₃⟩
      refine ⟨n + 1 - (i + 1), by omega, h₃', tk₃, m₃, news₃, i + 1, rfl, ?_, ⟨g₃, T₃, F₃, fun p hp => N₃ p (.tail _ hp), B₃, D₃⟩, hj₃, hlt, rfl⟩
      refine W.frame _ _ _ hst₁ fun b hb o e => ?_
      rcases hfp b hb with rfl | ⟨o', ho'⟩
      · rw [hit] at e; cases e
        exact (N₃ _ (.head _)).1
      · have e1 := (N (b, o') (ho' i m' news' hj)).1
        rw [e] at e1; cases e1
        exact (N₃ _ (.tail _ (ho' _ _ _ hj₃))).1
    cases f with
    | next => exact fin h₃
    | cont => exact fin h₃
    | brk => exact hQ _ _ h₃
    | ret v => exact hQ _ _ h₃
  · have hin : i = n := by omega
    subst hin
    refine W.done _ _ _ hst' fun h₁ tk₁ hk₁ => wpAny_execs_nil (done _ _ h₁ tk₁ hj (next h₁ hk₁))
def ForFrom (M : Model) (A : Around) (target : Expr) (body : List Stmt) (env : Env) (Q : Flow → Shared → Prop) (E : Value → Shared → Prop) (xv : Value) (s₁ : Shared) : Prop :=
  wpAny M A (pyIter xv) (fun it s₂ => codeAny M A (.forLoop target it body [] env) (fun r s' => match r with | .ok f => Q f s' | .error e => cameBackBy M A env E e s') s₂) E s₁
theorem For_from {M : Model} {iter : Expr} {pos : Pos} (h : wpAny M A (eval iter env) (ForFrom M A target body env Q E) E s) (hs : ∀ x, foldedSetIterable iter env x = pure x := by intro _; rfl) : wpAny M A (exec (.For target iter body [] pos) env) Q E s := wpAny_For h hs
theorem sub_news {h₀ h : Heap} {l l' : List (Addr × Obj)} (N : News h₀ L h l) (hs : ∀ p ∈ l', p ∈ l) : News h₀ L h l' := fun p hp => N p (hs p hp)
theorem range_at {g : Heap} {r : Addr} {a b : Int} {t u v : Tok} {n : Nat} (news' : List (Addr × Obj)) (J : Addr → Nat → (Str → Option Value) → List (Addr × Obj) → Prop)
    (hh : A.handled = none) (hr : IsRange s.heap r a b 1 t u v) (hsmall : Builtin.Range.small a b 1 = true) (hn : Builtin.Range.rangeSize a b 1 = (n : Int))
    (T : KtsTurn (frs outer) g₀ g) (F : Fr g L s.heap m) (N : News g L s.heap news) (B : Below A₀ base outer g) (D : KtsDicts (frs outer) g) (sub : ∀ p ∈ news', p ∈ news)
    (hJ : ∀ I, (∀ p ∈ news', p.1 < I) → ∀ i m news, J I i m news → ∀ p ∈ news, p.1 ≠ I) (j0 : ∀ I, (∀ p ∈ news', p.1 < I) → J I 0 m news')
    (step : ∀ I, (∀ p ∈ news', p.1 < I) → ∀ i k t m news it h tk, i < n → k = a + (i : Int) → J I i m news → At A₀ base outer g₀ L m ((I, it) :: news) h →
      wpAny (model prog w) A (assign target env (.int k t)) (fun _ s₂ => wpAny (model prog w) A (execs body env) (TurnStep A₀ base outer g₀ L [(I, it)] (J I (i + 1)) s Q) (fun _ _ => False) s₂) (fun _ _ => False) { s with heap := h, toks := tk })
    (done : ∀ I, (∀ p ∈ news', p.1 < I) → ∀ m news h tk, J I n m news → At A₀ base outer g₀ L m news h → Q .next { s with heap := h, toks := tk })
    (ht : ∀ I v, letOwnedTupleGo target (.ref I) v = pure () := by intro _ _; rfl) : ForFrom (model prog w) A target body env Q E (.ref r) s := by
  have hlt : ∀ p ∈ news', p.1 < s.heap.objs.size := fun p hp => Heap.lt_size (N p (sub p hp)).1
  refine wpAny_pyIter_range hr hsmall ?_
  have W : Walks prog w A s.heap.objs.size [s.heap.objs.size] [s.heap.objs.size] n (fun i v => ∃ t, v = .int (a + i * 1) t)
      (fun i h => IsRangeIter h s.heap.objs.size (a + (i : Nat) * 1) ((n : Int) - (i : Nat)) 1) := Walks.range hh _ a 1 n
  refine for_walk (Q := Q) (news := news') W (fun i h e => ⟨_, e⟩) (J s.heap.objs.size) (fun b hb => .inl (by simpa using hb)) (hJ _ hlt) (by show IsRangeIter _ _ _ _ _; rw [hn]; simpa using Heap.get?_push_size _ rfl)
    ⟨g, T, F.push _, fun p hp => ⟨Heap.get?_push_of_some _ (N p (sub p hp)).1, (N p (sub p hp)).2⟩, B, D⟩ (j0 _ hlt) (turn_none T (next_is_new F)) (Nat.ne_of_gt F.ns.lt) ?_ ?_ (fun _ _ q => q) (fun _ v _ _ _ _ h => wpAny_of_eq (ht _ v) h)
  · rintro i v m news it h tk hi ⟨t, rfl⟩ hj hat
    exact step _ hlt i _ t m news it h tk hi (by omega) hj hat
  · intro m news h tk hj hat
    exact done _ hlt m news h tk hj hat
theorem list_at {g : Heap} {l : Addr} {items : Array Value} {nn : Nat} (news' : List (Addr × Obj)) (J : Addr → Nat → (Str → Option Value) → List (Addr × Obj) → Prop)
    (hh : A.handled = none) (hl : (l, listOf items nn) ∈ news)
    (T : KtsTurn (frs outer) g₀ g) (F : Fr g L s.heap m) (N : News g L s.heap news) (B : Below A₀ base outer g) (D : KtsDicts (frs outer) g) (sub : ∀ p ∈ news', p ∈ news)
    (hJ : ∀ I, (∀ p ∈ news', p.1 < I) → ∀ i m news, J I i m news → ∀ p ∈ news, p.1 ≠ I) (hJl : ∀ I i m news, J I i m news → (l, listOf items nn) ∈ news) (j0 : ∀ I, (∀ p ∈ news', p.1 < I) → J I 0 m news')
    (step : ∀ I, (∀ p ∈ news', p.1 < I) → ∀ i v m news it h tk, items[i]? = some v → J I i m news → At A₀ base outer g₀ L m ((I, it) :: news) h →
      wpAny (model prog w) A (assign target env v) (fun _ s₂ => wpAny (model prog w) A (execs body env) (TurnStep A₀ base outer g₀ L [(I, it)] (J I (i + 1)) s Q) (fun _ _ => False) s₂) (fun _ _ => False) { s with heap := h, toks := tk })
    (done : ∀ I, (∀ p ∈ news', p.1 < I) → ∀ m news h tk, J I items.size m news → At A₀ base outer g₀ L m news h → Q .next { s with heap := h, toks := tk }) : ForFrom (model prog w) A target body env Q E (.ref l) s := by
  have hlt : ∀ p ∈ news', p.1 < s.heap.objs.size := fun p hp => Heap.lt_size (N p (sub p hp)).1
  have hli : s.heap.IsList l items := ⟨_, (N _ hl).1, rfl, _, rfl⟩
  have hne : l ≠ s.heap.objs.size := Nat.ne_of_lt (Heap.lt_size (N _ hl).1)
  refine wpAny_pyIter_list hli ?_
  refine for_walk (Q := Q) (news := news') (Walks.list hh s.heap.objs.size l hne items) (fun i h e => by obtain ⟨⟨o, e, _⟩, _⟩ := e; exact ⟨o, e⟩) (J s.heap.objs.size)
    (fun b hb => by
      rcases List.mem_cons.mp hb with rfl | hb
      · exact .inl rfl
      · obtain rfl : b = l := by simpa using hb
        exact .inr ⟨_, hJl _⟩) (hJ _ hlt) ⟨⟨_, Heap.get?_push_size _ rfl, rfl, rfl⟩, hli.at fun o e => Heap.get?_push_of_some _ e⟩
    ⟨g, T, F.push _, fun p hp => ⟨Heap.get?_push_of_some _ (N p (sub p hp)).1, (N p (sub p hp)).2⟩, B, D⟩ (j0 _ hlt) (turn_none T (next_is_new F)) (Nat.ne_of_gt F.ns.lt) ?_ ?_ (fun _ _ q => q) (fun _ v _ _ _ h q => go_listiter target v h.1 q)
  · rintro i v m news it h tk hi hv hj hat
    exact step _ hlt i v m news it h tk hv hj hat
  · intro m news h tk hj hat
    exact done _ hlt m news h tk hj hat
end
theorem rangeSize_up (a b : Int) : Builtin.Range.rangeSize a b 1 = ((b - a).toNat : Int) := by
  unfold Builtin.Range.rangeSize
  simp only [show (1 : Int) > 0 by decide, if_true]
  split <;> omega
theorem range_small {a b : Int} (ha : -1000000 < a) (ha' : a < 1000000) (hb : -1000000 < b) (hb' : b < 1000000) : Builtin.Range.small a b 1 = true := by
  unfold Builtin.Range.small
  rw [rangeSize_up]
  have e : (2 : Int) ^ 63 = 9223372036854775808 := by decide
  simp only [Builtin.Range.rangeFitsLong, Bool.and_eq_true, decide_eq_true_eq, e]
  refine ⟨⟨⟨⟨?_, ?_⟩, ?_⟩, ?_⟩, ?_⟩
  · omega
  · omega
  · decide
  · omega
  · rw [if_pos (by decide), Bool.or_eq_true, Bool.and_eq_true, decide_eq_true_eq, decide_eq_true_eq]
    exact .inr ⟨by omega, by omega⟩
example : True := by
  w_top off
  trivial
example : True := by
  (k_with "my small" => (first | omega | ((try simp (config := { zetaDelta := true }) only [depth_under_make, depth_under_kw, depth_in1, depth_deeper, depth_caller, units_in1, units_deeper, Around.mark_units, units_caller]); (try simp (config := { zetaDelta := true }) only [ktrTop]); first | omega | decide)))
  (k_with "exec Raise some none" => ((k_here; (with_reducible show wpAny _ _ (exec (Stmt.Raise (some (Expr.Call (Expr.Name ("FormError" : Str) _) _ _ _)) none _) _) _ _ _); k_dflt (refine raise_form (by assumption) (by first | assumption | with_unfolding_all rfl) ?_))))
  (k_with "exec Raise some none" => ((k_here; (with_reducible show wpAny _ _ (exec (Stmt.Raise (some (Expr.Call (Expr.Name ("SizeError" : Str) _) _ _ _)) none _) _) _ _ _); k_dflt (refine raise_size (by assumption) (by first | assumption | with_unfolding_all rfl) ?_))))
  (k_with "call ref" => ((k_here; first
  | ((with_reducible show wpAny _ _ (call (Value.ref 51) [Value.str _ _]) _ _ _); (refine' make_form ?kF ?kX ?kN ?kh ?kf ?kd ?ku ?_); (case kF => assumption); (case kX => assumption); (case kN => assumption); (case kh => with_unfolding_all exact rfl); (case kf => with_unfolding_all exact rfl); (case kd => walk_at "my small"); (case ku => walk_at "my small"); k_whole; intro e' o' h' tk' hx' F' N' ne')
  | ((with_reducible show wpAny _ _ (call (Value.ref 63) [Value.str _ _]) _ _ _); (refine' make_size ?kF ?kX ?kN ?kh ?kf ?kd ?ku ?_); (case kF => assumption); (case kX => assumption); (case kN => assumption); (case kh => with_unfolding_all exact rfl); (case kf => with_unfolding_all exact rfl); (case kd => walk_at "my small"); (case ku => walk_at "my small"); k_whole; intro e' o' h' tk' hx' F' N' ne'))))
  (k_with "OwnUp ref" => ((refine ⟨_, _, rfl, by assumption, Frag.In.keeps (by assumption) (Fr.keep (by assumption)), (News.get (by assumption) (.head _)), ?_⟩)))
  (k_with "leaving ref" => ((k_here; first
  | ((refine' leave_led ?kB ?kf ?kk ?kF ?kN ?kx ?kn ?_); (case kx => assumption); (case kF => assumption); (case kN => assumption); (case kB => assumption); (case kf => with_unfolding_all exact rfl); (case kk => first | assumption | with_unfolding_all exact rfl); (case kn => assumption); k_whole; intro h' R' U'; (try dsimp only at R' U' ⊢))
  | ((refine' leave_up ?kB ?kf ?kF ?kR ?kU ?_); (case kR => assumption); (case kF => assumption); (case kB => assumption); (case kf => with_unfolding_all exact rfl); (case kU => assumption); k_whole; intro h' R' U'; (try dsimp only at R' U' ⊢)))))
  (k_with "turn enter" => ((refine' code_T ?k1 ?k2 ?k3 ?k4 ?k5 ?kD ?kA ?kF ?kK ?k6 ?k7 ?k8 ?k9 ?kB ?_ ?c2 ?c3 ?c4 ?c5; (case kA => exact rfl); (case kF => exact rfl); (case kK => assumption); (case k1 => k_asm); (case k2 => k_asm); (case k3 => k_asm); (case k4 => k_asm); (case k5 => k_asm); (case kD => assumption); (case k6 => k_is); (case k7 => k_is); (case k8 => ktr_room); (case k9 => exact BindsTo.of_eq rfl); (case c5 => decide); (case kB => exact locs rfl); (case c2 => exact rfl); (case c3 => exact rfl); (case c4 => exact rfl); k_whole; intro g' L' h' FG' F' N' B' X' T' D' l1; (try dsimp only); (try k_lift B'); (try k_fold))))
  (k_with "my size" => ((rw [KBw.ints_length]; first | omega | (simp only [Array.size_append]; omega))))
  (k_with "subscriptTail" => ((k_here; (with_reducible show wpAny _ _ (subscriptTail _ (Expr.Slice _ _ none _) (Value.bytes _ _) (Value.ref _)) _ _ _); (with_reducible rename Fr _ _ _ _ => F'); (with_reducible rename News _ _ _ _ => N'); (refine KBc.slice_K (s := ⟨_, _, _, _, _⟩) F' N' rfl (by constructor) (by constructor) (by walk_at "my size") ?_); intro _ _ _ _ _ _)))
  (k_with "turn enter cells" => ((refine' code_TC ?k1 ?k2 ?k3 ?k4 ?k5 ?kG ?kA ?kF ?kK ?k6 ?k7 ?k8 ?k9 ?kB ?kD ?_ ?c2 ?c3 ?c4; (case kA => exact rfl); (case kF => exact rfl); (case kK => assumption); (case k1 => k_asm); (case k2 => k_asm); (case k3 => k_asm); (case k4 => k_asm); (case k5 => k_asm); (case kG => assumption); (case k6 => k_is); (case k7 => k_is); (case k8 => ktr_room); (case k9 => exact BindsTo.of_eq rfl); (case kB => exact rfl); (case kD => decide +kernel); (case c2 => exact rfl); (case c3 => exact rfl); (case c4 => exact rfl); k_whole; intro g' L' h' tk' cells' FG' F' N' Y' B' X' T' D' l1; (try k_lt l1); (have l9 := l1); (repeat (replace l9 := And.right l9)); k_cells Y'; (try simp only [List.cons_append, List.nil_append] at N'); (first | (refine fr_one F' (by rfl) ?_; clear F'; intro F') | (refine fr_cell F' (by rfl) ?_; clear F'; intro F')); (try dsimp only); (try k_lift B'); (try k_fold))))
  (k_with "LeaveT" => ((k_dflt (refine' leaveT ?F ?N ?T ?_; (case F => k_asm); (case N => k_asm); (case T => first | assumption | exact KtsTurn.refl); k_whole); intro kg kT kF kN kB kD; (try dsimp only))))
  trivial
local macro_rules | `(tactic| k_room) => `(tactic| k_extra "my room")
local macro_rules | `(tactic| k_units) => `(tactic| k_extra "my units")
local macro_rules | `(tactic| k_all) => `(tactic| k_extra "my all")
example : True := by
  (k_with "my all" => (first | exact ne_all (by assumption) (Nat.le_refl _) | exact ne_all (by assumption) (Nat.le_of_lt (by assumption)) | exact ne_all (by assumption) (by omega)))
  trivial
local macro_rules | `(tactic| k_all) => `(tactic| assumption)
example : True := by
  (k_with "call type:bytes" => ((k_here; (with_reducible show wpAny _ _ (call (Value.type "bytes") [Value.bytes _ _]) _ _ _); refine MB.call_b ?_)))
  (k_with "call type:bytes" => ((k_here; (with_reducible show wpAny _ _ (call (Value.type "bytes") [Value.int _ _]) _ _ _); (refine MB.call_i ?bi0 ?bi1 ?_); (case bi0 => omega); (case bi1 => omega); intro _ _)))
  (k_with "lam enter" => ((refine' kla_code ?k1 ?k2 ?k3 ?k4 ?k5 ?kA ?kF ?kK ?k6 ?k7 ?k8 ?k9 ?kB ?_ ?c2 ?c3 ?c4 ?c5; (case kA => exact rfl); (case kF => exact rfl); (case kK => assumption); (case k1 => k_asm); (case k2 => k_asm); (case k3 => k_asm); (case k4 => k_asm); (case k5 => k_asm); (case k6 => k_mem); (case k7 => exact codeRec_news (by k_asm) (by k_mem) (by assumption) (by assumption)); (case k8 => ktr_room); (case k9 => exact rfl); (case c5 => decide); (case kB => exact locs rfl); (case c2 => exact rfl); (case c3 => exact rfl); (case c4 => exact rfl); k_whole; intro g' L' h' FG' F' N' B' X' T'; (try dsimp only); (try k_lift B'); (try k_fold))))
  (k_with "my sub" => ((refine sub_news (by assumption) ?_; (repeat (refine List.forall_mem_cons.mpr ⟨?_, ?_⟩; (focus ((k_mem); done)))); first | exact List.forall_mem_nil _ | (intro _ hp9; (repeat (first | exact hp9 | refine List.Mem.tail _ ?_))))))
  (k_with "same item" => (first | exact MQ.at_bytes _ _ _ | exact MQ.at_int _ _ _))
  (k_with "compareOp NotEq ref ref" => ((k_here; k_dflt (refine MQ.ne_list1 (News.isList (by assumption) (by k_mem)) (News.isList (by assumption) (by k_mem)) (by ktr_units) (by walk_at "same item") ?_))))
  trivial
/-- what a call without arguments may do: hand back a value, or raise one of the two exceptions -/
def Calls (w : World) (p : Program) (loose : List Str) (mean : ExcName → Option Value) (mg mb : Str → Option Value) (base : Heap) (f : Addr) (d u : Nat) (news : List (Addr × Obj))
    (Pv : Value → List (Addr × Obj) → Prop) (PS PF : List (Addr × Obj) → Prop) : Prop :=
  ∀ (dp un : Nat) (gd : Option (List Code)) (cn : Str) (cs : Scope) (a : Addr) (ccd : Value) (cl : List (Str × Addr)) (outer : List Env) (A₀ : Around) (g : Heap) (L : Addr) (m : Str → Option Value) (s : Shared) (Q E : Value → Shared → Prop),
    Below A₀ base outer g → Fr g L s.heap m → (hd.heap_1 w.params).In g → News g L s.heap news → Top p loose mean mg mb g → cs.kind = .function → dp ≤ d → un ≤ u → (∀ q ∈ news, q.1 < L) →
    (∀ v nw h' tk', Pv v nw → Fr g L h' m → News g L h' nw → Q v { s with heap := h', toks := tk' }) →
    (∀ e nw h' tk' g₂, PS nw → Fr g L g₂ m → RaisedSN base g₂ (envX cn cs L a ccd cl :: outer) e (.ref 63) nw h' → g₂.UpToSlots h' → E (.ref e) { s with heap := h', toks := tk' }) →
    (∀ e nw h' tk' g₂, PF nw → Fr g L g₂ m → RaisedSN base g₂ (envX cn cs L a ccd cl :: outer) e (.ref 51) nw h' → g₂.UpToSlots h' → E (.ref e) { s with heap := h', toks := tk' }) →
    wpAny (model PySem.Challenge.rw_pf0401_01.row.prog w) (ktrTop dp un gd cn cs L a ccd cl outer) (call (.ref f) []) Q E s
example : True := by
  (k_with "callWith ref" => ((k_here; refine callWith_F0 (FnAt.of (by assumption) (by assumption)) ?_)))
  (k_with "call ref" => ((k_here; (rename Calls _ _ _ _ _ _ _ _ _ _ _ _ _ _ => kc); (with_unfolding_all refine kc _ _ _ _ _ _ _ _ _ _ _ _ _ _ _ _ (by assumption) (by assumption) (by assumption) (by assumption) (by assumption) (by rfl) ?ld ?lu (by assumption) ?_ ?_ ?_; (case ld => walk_at "my small"); (case lu => walk_at "my small"); all_goals intros))))
  trivial
theorem told_c {w : World} {p : Program} {loose : List Str} {mean : ExcName → Option Value} {mg mb : Str → Option Value} {dp un : Nat} {gd : Option (List Code)} {cn : Str} {cs : Scope} {a : Addr} {ccd : Value} {cl : List (Str × Addr)} {outer : List Env} {A₀ : Around} {base h₀ : Heap} {L : Addr} {m : Str → Option Value} {news : List (Addr × Obj)} {s : Shared} {Q E : Value → Shared → Prop}
    {f : Addr} {fo : Value} {fod : Option Addr} {fd : FuncData} {fsl : Array (Option Value)} {Pv : Value → List (Addr × Obj) → Prop} {PS PF : List (Addr × Obj) → Prop}
    (B : Below A₀ base outer h₀) (F : Fr h₀ L s.heap m) (X : (hd.heap_1 w.params).In h₀) (N : News h₀ L s.heap news) (T : Top p loose mean mg mb h₀) (XB : (hd.heap_1 w.params).In base) (TB : Top p loose mean mg mb base) (D : KtsDicts (frs outer) h₀) (hk : cs.kind = .function)
    (hdp : dp < 600) (hun : un < 60) (hfn : (f, (⟨fo, fod, .func fd, fsl⟩ : Obj)) ∈ news) (call : Calls w p loose mean mg mb base f (dp + 2) (un + 20) news Pv PS PF)
    (ret : ∀ v nw r h' tk' h₀', Pv v nw → (∀ q ∈ nw, q.1 < r) → KtsTurn (frs outer) h₀ h₀' → Fr h₀' L h' m → News h₀' L h' ((r, listOf #[v] 0) :: nw) → Below A₀ base outer h₀' → KtsDicts (frs outer) h₀' → Q (.ref r) { s with heap := h', toks := tk' })
    (size : ∀ nw h' tk' h₀' t, PS nw → KtsTurn (frs outer) h₀ h₀' → Fr h₀' L h' m → News h₀' L h' nw → Below A₀ base outer h₀' → KtsDicts (frs outer) h₀' → Q (.str (Str.ofString "size") t) { s with heap := h', toks := tk' })
    (form : ∀ nw h' tk' h₀' t, PF nw → KtsTurn (frs outer) h₀ h₀' → Fr h₀' L h' m → News h₀' L h' nw → Below A₀ base outer h₀' → KtsDicts (frs outer) h₀' → Q (.str (Str.ofString "form") t) { s with heap := h', toks := tk' }) :
    wpAny (model PySem.Challenge.rw_pf0401_01.row.prog w) (ktrTop dp un gd cn cs L a ccd cl outer) (PySem.call (.ref 514) [.ref f]) Q E s := by
  refine wpAny_call ?_
  k_dflt (walk_at "turn enter")
  k_steps
  · exact ret _ _ _ _ _ _ (by assumption) (by assumption) (by assumption) (by assumption) (by assumption) (by assumption) (by assumption)
  · exact size _ _ _ _ _ (by assumption) (by assumption) (by assumption) (by assumption) (by assumption) (by assumption)
  · exact form _ _ _ _ _ (by assumption) (by assumption) (by assumption) (by assumption) (by assumption) (by assumption)
def ToldAt (w : World) (A : Around) (f : Addr) (Q E : Value → Shared → Prop) (s : Shared) : Prop := wpAny (model PySem.Challenge.rw_pf0401_01.row.prog w) A (PySem.call (.ref 514) [.ref f]) Q E s
theorem told_stop {w : World} {A : Around} {f : Addr} {Q E : Value → Shared → Prop} {s : Shared} (h : ToldAt w A f Q E s) : wpAny (model PySem.Challenge.rw_pf0401_01.row.prog w) A (PySem.call (.ref 514) [.ref f]) Q E s := h
theorem told_k {w : World} {p : Program} {loose : List Str} {mean : ExcName → Option Value} {mg mb : Str → Option Value} {dp un : Nat} {gd : Option (List Code)} {cn : Str} {cs : Scope} {a : Addr} {ccd : Value} {cl : List (Str × Addr)} {outer : List Env} {A₀ : Around} {base h₀ : Heap} {L : Addr} {m : Str → Option Value} {news : List (Addr × Obj)} {s : Shared} {Q E : Value → Shared → Prop}
    {f : Addr} {fo : Value} {fod : Option Addr} {fd : FuncData} {fsl : Array (Option Value)} (V : Value → Prop) (S Fm : Prop)
    (B : Below A₀ base outer h₀) (F : Fr h₀ L s.heap m) (N : News h₀ L s.heap news) (XB : (hd.heap_1 w.params).In base) (TB : Top p loose mean mg mb base) (D : KtsDicts (frs outer) h₀) (hk : cs.kind = .function)
    (hfn : (f, (⟨fo, fod, .func fd, fsl⟩ : Obj)) ∈ news) (hdp : dp < 600) (hun : un < 60)
    (call : Calls w p loose mean mg mb base f (dp + 2) (un + 20) news (fun v nw => V v ∧ nw = news) (fun nw => S ∧ nw = news) (fun nw => Fm ∧ nw = news))
    (ret : ∀ v, V v → ∀ r h' tk' h₀', (∀ q ∈ news, q.1 < r) → KtsTurn (frs outer) h₀ h₀' → Fr h₀' L h' m → News h₀' L h' ((r, listOf #[v] 0) :: news) → Below A₀ base outer h₀' → KtsDicts (frs outer) h₀' → (hd.heap_1 w.params).In h₀' → Top p loose mean mg mb h₀' → Q (.ref r) { s with heap := h', toks := tk' })
    (size : S → ∀ h' tk' h₀' t, KtsTurn (frs outer) h₀ h₀' → Fr h₀' L h' m → News h₀' L h' news → Below A₀ base outer h₀' → KtsDicts (frs outer) h₀' → (hd.heap_1 w.params).In h₀' → Top p loose mean mg mb h₀' → Q (.str (Str.ofString "size") t) { s with heap := h', toks := tk' })
    (form : Fm → ∀ h' tk' h₀' t, KtsTurn (frs outer) h₀ h₀' → Fr h₀' L h' m → News h₀' L h' news → Below A₀ base outer h₀' → KtsDicts (frs outer) h₀' → (hd.heap_1 w.params).In h₀' → Top p loose mean mg mb h₀' → Q (.str (Str.ofString "form") t) { s with heap := h', toks := tk' }) :
    ToldAt w (ktrTop dp un gd cn cs L a ccd cl outer) f Q E s := by
  refine told_c B F (XB.keeps B.stays) N (TB.keeps B.stays) XB TB D hk hdp hun hfn call ?_ ?_ ?_
  · rintro v nw r h' tk' h₀' ⟨hv, rfl⟩ l T F N B D
    exact ret v hv r h' tk' h₀' l T F N B D (XB.keeps B.stays) (TB.keeps B.stays)
  · rintro nw h' tk' h₀' t ⟨hv, rfl⟩ T F N B D
    exact size hv h' tk' h₀' t T F N B D (XB.keeps B.stays) (TB.keeps B.stays)
  · rintro nw h' tk' h₀' t ⟨hv, rfl⟩ T F N B D
    exact form hv h' tk' h₀' t T F N B D (XB.keeps B.stays) (TB.keeps B.stays)
theorem dup1 {h₀ h : Heap} {L : Addr} {l : List (Addr × Obj)} {p : Addr × Obj} (N : News h₀ L h l) (hp : p ∈ l) : News h₀ L h (p :: l) := fun q hq => by
  rcases List.mem_cons.mp hq with rfl | hq
  · exact N _ hp
  · exact N _ hq
theorem undup {h₀ h : Heap} {L : Addr} {l : List (Addr × Obj)} {p : Addr × Obj} (N : News h₀ L h (p :: l)) : News h₀ L h l := fun q hq => N q (.tail _ hq)
theorem m_two {m : Str → Option Value} {a b : Str} {u v : Value} (h1 : m a = some u) (h2 : m b = some v) : m = fun y => if y = a then some u else if y = b then some v else m y := by
  funext y
  by_cases e1 : y = a
  · rw [if_pos e1, e1, h1]
  · rw [if_neg e1]
    by_cases e2 : y = b
    · rw [if_pos e2, e2, h2]
    · rw [if_neg e2]
theorem raised_sub {base G : Heap} {l : List Env} {e : Addr} {cls : Value} {news news' : List (Addr × Obj)} {h : Heap} (R : RaisedSN base G l e cls news h) (hs : ∀ p ∈ news', p ∈ news) : RaisedSN base G l e cls news' h := by
  obtain ⟨B, a0, h1, h2, h3, h4⟩ := R
  exact ⟨B, a0, h1, h2, fun q hq => h3 q (hs q hq), h4⟩
theorem dup2 {h₀ h : Heap} {L : Addr} {l : List (Addr × Obj)} {p q : Addr × Obj} (N : News h₀ L h l) (hp : p ∈ l) (hq : q ∈ l) : News h₀ L h (p :: q :: l) := dup1 (dup1 N hq) (.tail _ hp)
example : True := by
  w_top off
  k_with_none
  trivial
example : True := by
  (k_with "my mem" => with_reducible (k_extra "my mem1"))
  (k_with "my mem1" => (first | exact List.Mem.head _ | (refine' List.Mem.tail _ ?_; k_extra "my mem1")))
  (k_with "my k_lt" => ((rename (∀ p : Addr × Obj, p ∈ _ → p.1 < _) => l1q); (replace l1q := allLt_of l1q); (simp only [AllLt, and_true] at l1q); (first | ((with_reducible refine spa15 l1q ?_); intro f0q f1q f2q f3q f4q f5q f6q f7q f8q f9q f10q f11q f12q f13q f14q) | ((with_reducible refine spa14 l1q ?_); intro f0q f1q f2q f3q f4q f5q f6q f7q f8q f9q f10q f11q f12q f13q) | ((with_reducible refine spa13 l1q ?_); intro f0q f1q f2q f3q f4q f5q f6q f7q f8q f9q f10q f11q f12q) | ((with_reducible refine spa12 l1q ?_); intro f0q f1q f2q f3q f4q f5q f6q f7q f8q f9q f10q f11q) | ((with_reducible refine spa11 l1q ?_); intro f0q f1q f2q f3q f4q f5q f6q f7q f8q f9q f10q) | ((with_reducible refine spa10 l1q ?_); intro f0q f1q f2q f3q f4q f5q f6q f7q f8q f9q) | ((with_reducible refine spa9 l1q ?_); intro f0q f1q f2q f3q f4q f5q f6q f7q f8q) | ((with_reducible refine spa8 l1q ?_); intro f0q f1q f2q f3q f4q f5q f6q f7q) | ((with_reducible refine spa7 l1q ?_); intro f0q f1q f2q f3q f4q f5q f6q) | ((with_reducible refine spa6 l1q ?_); intro f0q f1q f2q f3q f4q f5q) | ((with_reducible refine spa5 l1q ?_); intro f0q f1q f2q f3q f4q) | ((with_reducible refine spa4 l1q ?_); intro f0q f1q f2q f3q) | ((with_reducible refine spa3 l1q ?_); intro f0q f1q f2q) | ((with_reducible refine spa2 l1q ?_); intro f0q f1q) | ((with_reducible refine spa1 l1q ?_); intro f0q) | ((with_reducible refine spb12 l1q ?_); intro f0q f1q f2q f3q f4q f5q f6q f7q f8q f9q f10q f11q) | ((with_reducible refine spb11 l1q ?_); intro f0q f1q f2q f3q f4q f5q f6q f7q f8q f9q f10q) | ((with_reducible refine spb10 l1q ?_); intro f0q f1q f2q f3q f4q f5q f6q f7q f8q f9q) | ((with_reducible refine spb9 l1q ?_); intro f0q f1q f2q f3q f4q f5q f6q f7q f8q) | ((with_reducible refine spb8 l1q ?_); intro f0q f1q f2q f3q f4q f5q f6q f7q) | ((with_reducible refine spb7 l1q ?_); intro f0q f1q f2q f3q f4q f5q f6q) | ((with_reducible refine spb6 l1q ?_); intro f0q f1q f2q f3q f4q f5q) | ((with_reducible refine spb5 l1q ?_); intro f0q f1q f2q f3q f4q) | ((with_reducible refine spb4 l1q ?_); intro f0q f1q f2q f3q) | ((with_reducible refine spb3 l1q ?_); intro f0q f1q f2q) | ((with_reducible refine spb2 l1q ?_); intro f0q f1q) | skip); revert l1q))
  (k_with "my cj" => (first | with_reducible assumption | exact And.left (by with_reducible assumption) | exact And.left (And.right (by with_reducible assumption)) | exact And.left (And.right (And.right (by with_reducible assumption))) | exact And.left (And.right (And.right (And.right (by with_reducible assumption)))) | exact And.right (by with_reducible assumption) | exact And.right (And.right (by with_reducible assumption)) | exact And.right (And.right (And.right (by with_reducible assumption)))))
  (k_with "my lt" => (first | with_reducible assumption | exact Nat.lt_add_one _ | exact lt_r _ (by first | with_reducible assumption | exact Nat.lt_add_one _) | exact lt_r _ (lt_r _ (by first | with_reducible assumption | exact Nat.lt_add_one _)) | exact lt_r _ (lt_r _ (lt_r _ (by first | with_reducible assumption | exact Nat.lt_add_one _))) | exact lt_r _ (lt_r _ (lt_r _ (lt_r _ (by first | with_reducible assumption | exact Nat.lt_add_one _)))) | exact lt_r _ (lt_r _ (lt_r _ (lt_r _ (lt_r _ (by first | with_reducible assumption | exact Nat.lt_add_one _))))) | exact lt_r _ (lt_r _ (lt_r _ (lt_r _ (lt_r _ (lt_r _ (by first | with_reducible assumption | exact Nat.lt_add_one _))))))))
  (k_with "my ne" => (first | with_reducible assumption | exact Ne.symm (by with_reducible assumption) | (refine neN ?_; (try dsimp only); first | exact Nat.ne_of_gt (by k_extra "my lt") | exact Nat.ne_of_lt (by k_extra "my lt") | k_extra "my cj" | exact Ne.symm (by k_extra "my cj"))))
  (k_with "my om" => k_dflt (first | with_reducible assumption | ((with_reducible show @LT.lt Nat _ _ _); (first | exact q_lt0 (by with_reducible assumption) (by rfl) | exact q_lt1 (by with_reducible assumption) (by rfl) | exact q_lt2 (by with_reducible assumption) (by rfl) | exact q_lt3 (by with_reducible assumption) (by rfl) | exact q_le4 (by with_reducible assumption) (by rfl) | exact q_eq1 (by with_reducible assumption) (by rfl) | k_extra "my lt" | k_extra "my cj" | decide)) | ((with_reducible show @LE.le Nat _ _ _); (first | exact q_le0 (by with_reducible assumption) (by rfl) | exact q_le1 (by with_reducible assumption) (by rfl) | exact q_le2 (by with_reducible assumption) (by rfl) | exact q_le3 (by with_reducible assumption) (by rfl) | exact q_eq0 (by with_reducible assumption) (by rfl) | k_extra "my cj" | decide)) | ((with_reducible show @LT.lt Int _ _ _); (first | exact q_il0 (by with_reducible assumption) (by rfl) | exact q_il1 (by with_reducible assumption) (by rfl) | exact q_il3 (by with_reducible assumption) (by rfl) | k_extra "my cj" | decide)) | ((with_reducible show @LE.le Int _ _ _); (first | exact q_il2 (by with_reducible assumption) (by rfl) | k_extra "my cj" | decide)) | ((with_reducible show @Ne Nat _ _); k_extra "my ne") | decide))
  trivial
example : True := by
  (k_with "my in" => (repeat (first | exact List.Mem.head _ | refine List.Mem.tail _ ?_ | refine List.mem_append_right _ ?_)))
  (k_with "my at" => (repeat (first | assumption | exact List.mem_append_left _ (by assumption) | refine List.Mem.tail _ ?_ | refine List.mem_append_right _ ?_)))
  (k_with "my perm" => ((try simp only [List.cons_append, List.nil_append, List.append_assoc]); (repeat (refine List.forall_mem_cons.mpr ⟨?_, ?_⟩; (focus ((walk_at "my in"); done)))); first | exact List.forall_mem_nil _ | (intro q9 hq9; (try (have hq8 := List.mem_append.mp hq9; clear hq9; rcases hq8 with hq9 | hq9)); (all_goals (try (have hq7 := List.mem_cons.mp hq9; clear hq9; rcases hq7 with hq7 | hq9))); (all_goals (try (have hq7 := List.mem_cons.mp hq9; clear hq9; rcases hq7 with hq7 | hq9))); all_goals first | (subst hq7; walk_at "my in"; done) | (repeat (first | exact hq9 | exact List.mem_append_left _ hq9 | refine List.Mem.tail _ ?_ | refine List.mem_append_right _ ?_)))))
  (k_with "my bnd" => (first | omega | exact Int.lt_of_lt_of_le (by decide) (fmod_lo _ (by decide)) | exact Int.lt_trans (fmod_hi _ (by decide)) (by decide)))
  (k_with "binaryOp Mult int int" => (((with_reducible show wpAny _ _ (binaryOp Operator.Mult (Value.int _ _) (Value.int _ _)) _ _ _); refine mul_int ?_ (IntMulOk.of_left (intBits_le_64 ?mlo ?mhi)); (case mlo => walk_at "my bnd"); (case mhi => walk_at "my bnd"))))
  (k_with "binaryOp FloorDiv int int" => (((with_reducible show wpAny _ _ (binaryOp Operator.FloorDiv (Value.int _ _) (Value.int _ _)) _ _ _); refine floordiv_int ?fne ?_ (Or.inl (PyProof.noPylong_of_log2 (log2_small ?flo ?fhi))); (case fne => omega); (case flo => omega); (case fhi => omega))))
  (k_with "execs cons" => ((k_here; refine fold_stmt ?_; intro qk sk)))
  trivial
example : True := by
  (k_with "eval Name" => ((k_here; k_dflt (first
    | (refine' name_l ?F ?e ?v ?a ?b ?d ?_; (case F => k_asm); (case e => rfl); (case b => rfl); (case v => rfl); (case a => rfl); (case d => decide); k_whole)
    | (refine' nameX_K ?F ?X ?T ?e ?_ ?a ?b; (case F => k_asm); (case b => rfl); (case X => k_asm); (case T => k_asm); (case a => rfl); (case e => k_is); k_whole)
    | (refine' nameX_B ?F ?X ?T ?e ?v ?n ?_ ?a ?b; (case F => k_asm); (case b => rfl); (case X => k_asm); (case T => k_asm); (case a => rfl); (case e => k_is); (case v => boot_fast); (case n => decide); k_whole)))))
  (k_with "storeName" => ((k_here; k_dflt (refine' store_l ?F ?N ?e ?a ?b ?_; (case F => k_asm); (case N => k_asm); (case e => rfl); (case a => rfl); (case b => rfl); k_whole; intro h' mk F' N'; (try k_sweep)))))
  trivial
example : True := by
  (k_with "my steps" => (repeat' (first | ((try k_unmd); k_unfold; (try dsimp only)) | (k_end; wrow_close) | walk1 | (dsimp only; walk1) | (leave1; walk_say "STEP leave1"; try dsimp only) | fail "no step")))
  (k_with "my fold0" => ((refine fold_entry ?_; intro Ak envk qk ek sk; (rename Fr _ _ _ _ => kF); (refine fr_let kF ?_); clear kF; intro mk kF)))
  (k_with "my units" => ((have hcL9 := cLine_is; (simp (config := { zetaDelta := true }) only [units_in1, units_deeper, Around.mark_units, units_caller, ktrTop]); omega)))
  (k_with "my room" => (((simp (config := { zetaDelta := true }) only [depth_under_make, depth_under_kw, depth_in1, depth_deeper, depth_caller, ktrTop, recursionLimit]); omega)))
  (k_with "callWith ref" => (k_here; k_dflt (first
    | (refine' callWith_K ?k1 ?k2 ?_; (case k1 => with_reducible assumption); (case k2 => k_is); k_whole)
    | (refine' callw_0 ?k0 ?k1 ?k2 ?_; (case k0 => with_reducible assumption); (case k1 => with_reducible assumption); (case k2 => k_is); k_whole)
    | (refine' callw_m0 ?k0 ?kN ?k1 ?kq ?k2 ?_; (case k0 => with_reducible assumption); (case kN => with_reducible assumption); (case k1 => with_reducible assumption); (case kq => k_mem); (case k2 => k_is); k_whole; try dsimp only [List.nil_append, List.cons_append])
    | (refine' callWith_M ?k1 ?k2 ?k3 ?k4 ?_; (case k1 => with_reducible assumption); (case k2 => with_reducible assumption); (case k3 => k_mem); (case k4 => k_is); k_whole)
    | (refine' callWith_KW ?k1 ?k2 ?k3 ?_; (case k1 => with_reducible assumption); (case k2 => k_is); (case k3 => exact rfl); k_whole)
    | (refine' callWith_KW0 ?k1 ?k2 ?k3 ?_; (case k1 => with_reducible assumption); (case k2 => k_is); (case k3 => exact rfl); k_whole))))
  (k_with "compareOp IsNot ref ref" => (k_here; first | (with_reducible refine isnot_ref_same ?_) | refine wpAny_isNot_ref_self ?_))
  (k_with "my stop" => ((rename Mark => mk9); clear mk9; refine stop_at ?_))
  (k_with "subscriptTail" => (k_extra "my stop"))
  (k_with "getMethod ref" => (k_extra "my stop"))
  trivial
example : True := by
  (k_with "my small" => (first | omega | ((try simp (config := { zetaDelta := true }) only [depth_under_make, depth_under_kw, depth_in1, depth_deeper, depth_caller, units_in1, units_deeper, Around.mark_units, units_caller]); (try simp (config := { zetaDelta := true }) only [ktrTop]); first | omega | decide)))
  (k_with "exec Raise some none" => ((k_here; (with_reducible show wpAny _ _ (exec (Stmt.Raise (some (Expr.Call (Expr.Name ("FormError" : Str) _) _ _ _)) none _) _) _ _ _); k_dflt (refine raise_form (by assumption) (by first | assumption | with_unfolding_all rfl) ?_))))
  (k_with "exec Raise some none" => ((k_here; (with_reducible show wpAny _ _ (exec (Stmt.Raise (some (Expr.Call (Expr.Name ("SizeError" : Str) _) _ _ _)) none _) _) _ _ _); k_dflt (refine raise_size (by assumption) (by first | assumption | with_unfolding_all rfl) ?_))))
  (k_with "call ref" => ((k_here; first
  | ((with_reducible show wpAny _ _ (call (Value.ref 51) [Value.str _ _]) _ _ _); (refine' make_form ?kF ?kX ?kN ?kh ?kf ?kd ?ku ?_); (case kF => assumption); (case kX => assumption); (case kN => assumption); (case kh => with_unfolding_all exact rfl); (case kf => with_unfolding_all exact rfl); (case kd => walk_at "my small"); (case ku => walk_at "my small"); k_whole; intro e' o' h' tk' hx' F' N' ne')
  | ((with_reducible show wpAny _ _ (call (Value.ref 63) [Value.str _ _]) _ _ _); (refine' make_size ?kF ?kX ?kN ?kh ?kf ?kd ?ku ?_); (case kF => assumption); (case kX => assumption); (case kN => assumption); (case kh => with_unfolding_all exact rfl); (case kf => with_unfolding_all exact rfl); (case kd => walk_at "my small"); (case ku => walk_at "my small"); k_whole; intro e' o' h' tk' hx' F' N' ne'))))
  (k_with "OwnUp ref" => ((refine ⟨_, _, rfl, by assumption, Frag.In.keeps (by assumption) (Fr.keep (by assumption)), (News.get (by assumption) (.head _)), ?_⟩)))
  (k_with "leaving ref" => ((k_here; first
  | ((refine' leave_led ?kB ?kf ?kk ?kF ?kN ?kx ?kn ?_); (case kx => assumption); (case kF => assumption); (case kN => assumption); (case kB => assumption); (case kf => with_unfolding_all exact rfl); (case kk => first | assumption | with_unfolding_all exact rfl); (case kn => assumption); k_whole; intro h' R' U'; (try dsimp only at R' U' ⊢))
  | ((refine' leave_up ?kB ?kf ?kF ?kR ?kU ?_); (case kR => assumption); (case kF => assumption); (case kB => assumption); (case kf => with_unfolding_all exact rfl); (case kU => assumption); k_whole; intro h' R' U'; (try dsimp only at R' U' ⊢)))))
  (k_with "turn enter" => ((refine' code_T ?k1 ?k2 ?k3 ?k4 ?k5 ?kD ?kA ?kF ?kK ?k6 ?k7 ?k8 ?k9 ?kB ?_ ?c2 ?c3 ?c4 ?c5; (case kA => exact rfl); (case kF => exact rfl); (case kK => assumption); (case k1 => k_asm); (case k2 => k_asm); (case k3 => k_asm); (case k4 => k_asm); (case k5 => k_asm); (case kD => assumption); (case k6 => k_is); (case k7 => k_is); (case k8 => ktr_room); (case k9 => exact BindsTo.of_eq rfl); (case c5 => decide); (case kB => exact locs rfl); (case c2 => exact rfl); (case c3 => exact rfl); (case c4 => exact rfl); k_whole; intro g' L' h' FG' F' N' B' X' T' D' l1; (try dsimp only); (try k_lift B'); (try k_fold))))
  (k_with "my size" => ((rw [KBw.ints_length]; first | omega | (simp only [Array.size_append]; omega))))
  (k_with "subscriptTail" => ((k_here; (with_reducible show wpAny _ _ (subscriptTail _ (Expr.Slice _ _ none _) (Value.bytes _ _) (Value.ref _)) _ _ _); (with_reducible rename Fr _ _ _ _ => F'); (with_reducible rename News _ _ _ _ => N'); (refine KBc.slice_K (s := ⟨_, _, _, _, _⟩) F' N' rfl (by constructor) (by constructor) (by walk_at "my size") ?_); intro _ _ _ _ _ _)))
  (k_with "turn enter cells" => ((refine' code_TC ?k1 ?k2 ?k3 ?k4 ?k5 ?kG ?kA ?kF ?kK ?k6 ?k7 ?k8 ?k9 ?kB ?kD ?_ ?c2 ?c3 ?c4; (case kA => exact rfl); (case kF => exact rfl); (case kK => assumption); (case k1 => k_asm); (case k2 => k_asm); (case k3 => k_asm); (case k4 => k_asm); (case k5 => k_asm); (case kG => assumption); (case k6 => k_is); (case k7 => k_is); (case k8 => ktr_room); (case k9 => exact BindsTo.of_eq rfl); (case kB => exact rfl); (case kD => decide +kernel); (case c2 => exact rfl); (case c3 => exact rfl); (case c4 => exact rfl); k_whole; intro g' L' h' tk' cells' FG' F' N' Y' B' X' T' D' l1; (try k_lt l1); (have l9 := l1); (repeat (replace l9 := And.right l9)); k_cells Y'; (try simp only [List.cons_append, List.nil_append] at N'); (first | (refine fr_one F' (by rfl) ?_; clear F'; intro F') | (refine fr_cell F' (by rfl) ?_; clear F'; intro F')); (try dsimp only); (try k_lift B'); (try k_fold))))
  (k_with "LeaveT" => ((k_dflt (refine' leaveT ?F ?N ?T ?_; (case F => k_asm); (case N => k_asm); (case T => first | assumption | exact KtsTurn.refl); k_whole); intro kg kT kF kN kB kD; (try dsimp only))))
  trivial
example : True := by
  (k_with "my all" => (first | exact ne_all (by assumption) (Nat.le_refl _) | exact ne_all (by assumption) (Nat.le_of_lt (by assumption)) | exact ne_all (by assumption) (by omega)))
  trivial
example : True := by
  (k_with "call type:bytes" => ((k_here; (with_reducible show wpAny _ _ (call (Value.type "bytes") [Value.bytes _ _]) _ _ _); refine MB.call_b ?_)))
  (k_with "call type:bytes" => ((k_here; (with_reducible show wpAny _ _ (call (Value.type "bytes") [Value.int _ _]) _ _ _); (refine MB.call_i ?bi0 ?bi1 ?_); (case bi0 => omega); (case bi1 => omega); intro _ _)))
  (k_with "lam enter" => ((refine' kla_code ?k1 ?k2 ?k3 ?k4 ?k5 ?kA ?kF ?kK ?k6 ?k7 ?k8 ?k9 ?kB ?_ ?c2 ?c3 ?c4 ?c5; (case kA => exact rfl); (case kF => exact rfl); (case kK => assumption); (case k1 => k_asm); (case k2 => k_asm); (case k3 => k_asm); (case k4 => k_asm); (case k5 => k_asm); (case k6 => k_mem); (case k7 => exact codeRec_news (by k_asm) (by k_mem) (by assumption) (by assumption)); (case k8 => ktr_room); (case k9 => exact rfl); (case c5 => decide); (case kB => exact locs rfl); (case c2 => exact rfl); (case c3 => exact rfl); (case c4 => exact rfl); k_whole; intro g' L' h' FG' F' N' B' X' T'; (try dsimp only); (try k_lift B'); (try k_fold))))
  (k_with "my sub" => ((refine sub_news (by assumption) ?_; (repeat (refine List.forall_mem_cons.mpr ⟨?_, ?_⟩; (focus ((k_mem); done)))); first | exact List.forall_mem_nil _ | (intro _ hp9; (repeat (first | exact hp9 | refine List.Mem.tail _ ?_))))))
  (k_with "same item" => (first | exact MQ.at_bytes _ _ _ | exact MQ.at_int _ _ _))
  (k_with "compareOp NotEq ref ref" => ((k_here; k_dflt (refine MQ.ne_list1 (News.isList (by assumption) (by k_mem)) (News.isList (by assumption) (by k_mem)) (by ktr_units) (by walk_at "same item") ?_))))
  trivial
theorem part_c {w : World} {p : Program} {loose : List Str} {mean : ExcName → Option Value} {mg mb : Str → Option Value} {dp un : Nat} {gd : Option (List Code)} {cn : Str} {cs : Scope} {a : Addr} {ccd : Value} {cl : List (Str × Addr)} {outer : List Env} {A₀ : Around} {base h₀ : Heap} {L : Addr} {m : Str → Option Value} {news : List (Addr × Obj)} {s : Shared} {Q E : Value → Shared → Prop}
    {q dq : Addr} {at_ many : Int} {ta tm tr th tr' th' : Tok} {held : Array UInt8} {n : Nat} {hs hs' : Int}
    (B : Below A₀ base outer h₀) (F : Fr h₀ L s.heap m) (X : (hd.heap_1 w.params).In h₀) (N : News h₀ L s.heap ((q, instObj 117 dq) :: (dq, dictOf [⟨hs, .str (Str.ofString "room") tr, .int 20 tr'⟩, ⟨hs', .str (Str.ofString "held") th, .bytes held th'⟩] n) :: news)) (T : Top p loose mean mg mb h₀) (hk : cs.kind = .function)
    (hsz : held.size ≤ 20) (hdp : dp < 700) (hun : un < 50)
    (ret : ∀ t h' tk', 0 ≤ at_ → 0 ≤ many → at_ + many ≤ held.size → Fr h₀ L h' m → News h₀ L h' ((q, instObj 117 dq) :: (dq, dictOf [⟨hs, .str (Str.ofString "room") tr, .int 20 tr'⟩, ⟨hs', .str (Str.ofString "held") th, .bytes held th'⟩] n) :: news) → Q (.bytes (KBy.picked held (some at_) (some (at_ + many))) t) { s with heap := h', toks := tk' })
    (rais : ∀ e h' tk' g₂, ¬ (0 ≤ at_ ∧ 0 ≤ many ∧ at_ + many ≤ held.size) → Fr h₀ L g₂ m → RaisedSN base g₂ (envX cn cs L a ccd cl :: outer) e (.ref 63) ((q, instObj 117 dq) :: (dq, dictOf [⟨hs, .str (Str.ofString "room") tr, .int 20 tr'⟩, ⟨hs', .str (Str.ofString "held") th, .bytes held th'⟩] n) :: news) h' → g₂.UpToSlots h' → E (.ref e) { s with heap := h', toks := tk' }) :
    wpAny (model PySem.Challenge.rw_pf0401_01.row.prog w) (ktrTop dp un gd cn cs L a ccd cl outer) (call (.ref 107) [.ref q, .int at_ ta, .int many tm]) Q E s := by
  refine wpAny_call ?_
  k_dflt cell_enter
  k_steps
  · exact rais _ _ _ _ (by omega) (by assumption) (by assumption) (by assumption)
  · exact rais _ _ _ _ (by omega) (by assumption) (by assumption) (by assumption)
  · exact rais _ _ _ _ (by omega) (by assumption) (by assumption) (by assumption)
  · exact ret _ _ _ (by omega) (by omega) (by omega) (by k_asm) (by k_asm)
theorem drop_c {w : World} {p : Program} {loose : List Str} {mean : ExcName → Option Value} {mg mb : Str → Option Value} {dp un : Nat} {gd : Option (List Code)} {cn : Str} {cs : Scope} {a : Addr} {ccd : Value} {cl : List (Str × Addr)} {outer : List Env} {A₀ : Around} {base h₀ : Heap} {L : Addr} {m : Str → Option Value} {news : List (Addr × Obj)} {s : Shared} {Q E : Value → Shared → Prop}
    {q dq : Addr} {many : Int} {tm tr th tr' th' : Tok} {held : Array UInt8} {n : Nat} {hs hs' : Int}
    (B : Below A₀ base outer h₀) (F : Fr h₀ L s.heap m) (X : (hd.heap_1 w.params).In h₀) (N : News h₀ L s.heap ((q, instObj 117 dq) :: (dq, dictOf [⟨hs, .str (Str.ofString "room") tr, .int 20 tr'⟩, ⟨hs', .str (Str.ofString "held") th, .bytes held th'⟩] n) :: news)) (T : Top p loose mean mg mb h₀) (hk : cs.kind = .function)
    (hsz : held.size ≤ 20) (hout : many < 0 ∨ (held.size : Int) < many) (hdp : dp < 700) (hun : un < 50)
    (rais : ∀ e h' tk' g₂, Fr h₀ L g₂ m → RaisedSN base g₂ (envX cn cs L a ccd cl :: outer) e (.ref 63) ((q, instObj 117 dq) :: (dq, dictOf [⟨hs, .str (Str.ofString "room") tr, .int 20 tr'⟩, ⟨hs', .str (Str.ofString "held") th, .bytes held th'⟩] n) :: news) h' → g₂.UpToSlots h' → E (.ref e) { s with heap := h', toks := tk' }) :
    wpAny (model PySem.Challenge.rw_pf0401_01.row.prog w) (ktrTop dp un gd cn cs L a ccd cl outer) (call (.ref 114) [.ref q, .int many tm]) Q E s := by
  refine wpAny_call ?_
  k_dflt cell_enter
  k_steps
  all_goals first
    | exact rais _ _ _ _ (by assumption) (by assumption) (by assumption)
    | (exfalso; omega)
example : True := by
  w_top off
  trivial
section
variable {prog : Program} {w : World} {A : Around} {E : Value → Shared → Prop} {s : Shared} {L : Addr} {m : Str → Option Value} {news : List (Addr × Obj)} {env : Env} {target : Expr} {body : List Stmt} {Q : Flow → Shared → Prop} {g : Heap}
theorem at_open {h : Heap} (a : At callerA g [] g L m news h) : Fr g L h m ∧ News g L h news := by
  obtain ⟨g', T, F, N, _⟩ := a
  exact unturn T F N
theorem go0 {own : List (Addr × Obj)} {Jn : (Str → Option Value) → List (Addr × Obj) → Prop} {m' : Str → Option Value} {news' : List (Addr × Obj)} {h' : Heap} {tk' : Nat} (F : Fr g L h' m') (J : Jn m' news') (N : News g L h' (own ++ news')) : TurnStep callerA g [] g L own Jn s Q .next { s with heap := h', toks := tk' } :=
  TurnStep.go .refl F (below_caller g) (fun _ h => nomatch h) J N
/-- a loop over a range whose turns leave the ground as it is -/
theorem range0 {r : Addr} {a b : Int} {t u v : Tok} {n : Nat} (news' : List (Addr × Obj)) (J : Addr → Nat → (Str → Option Value) → List (Addr × Obj) → Prop)
    (hh : A.handled = none) (hr : IsRange s.heap r a b 1 t u v) (hsmall : Builtin.Range.small a b 1 = true) (hn : Builtin.Range.rangeSize a b 1 = (n : Int)) (F : Fr g L s.heap m) (N : News g L s.heap news) (sub : ∀ p ∈ news', p ∈ news)
    (hJ : ∀ I, (∀ p ∈ news', p.1 < I) → ∀ i m news, J I i m news → ∀ p ∈ news, p.1 ≠ I) (j0 : ∀ I, (∀ p ∈ news', p.1 < I) → J I 0 m news')
    (step : ∀ I, (∀ p ∈ news', p.1 < I) → ∀ i k t m news it h tk, i < n → k = a + (i : Int) → J I i m news → Fr g L h m → News g L h ((I, it) :: news) →
      wpAny (model prog w) A (assign target env (.int k t)) (fun _ s₂ => wpAny (model prog w) A (execs body env) (TurnStep callerA g [] g L [(I, it)] (J I (i + 1)) s Q) (fun _ _ => False) s₂) (fun _ _ => False) { s with heap := h, toks := tk })
    (done : ∀ I, (∀ p ∈ news', p.1 < I) → ∀ m news h tk, J I n m news → Fr g L h m → News g L h news → Q .next { s with heap := h, toks := tk })
    (ht : ∀ I v, letOwnedTupleGo target (.ref I) v = pure () := by intro _ _; rfl) : ForFrom (model prog w) A target body env Q E (.ref r) s :=
  range_at news' J hh hr hsmall hn .refl F N (below_caller g) (fun _ h => nomatch h) sub hJ j0 (fun I hI i k t m news it h tk hi hk hj hat => step I hI i k t m news it h tk hi hk hj (at_open hat).1 (at_open hat).2)
    (fun I hI m news h tk hj hat => done I hI m news h tk hj (at_open hat).1 (at_open hat).2) ht
/-- the same over a list of the ledger -/
theorem list0 {l : Addr} {items : Array Value} {nn : Nat} (news' : List (Addr × Obj)) (J : Addr → Nat → (Str → Option Value) → List (Addr × Obj) → Prop)
    (hh : A.handled = none) (hl : (l, W.listOf items nn) ∈ news) (F : Fr g L s.heap m) (N : News g L s.heap news) (sub : ∀ p ∈ news', p ∈ news)
    (hJ : ∀ I, (∀ p ∈ news', p.1 < I) → ∀ i m news, J I i m news → ∀ p ∈ news, p.1 ≠ I) (hJl : ∀ I i m news, J I i m news → (l, W.listOf items nn) ∈ news) (j0 : ∀ I, (∀ p ∈ news', p.1 < I) → J I 0 m news')
    (step : ∀ I, (∀ p ∈ news', p.1 < I) → ∀ i v m news it h tk, items[i]? = some v → J I i m news → Fr g L h m → News g L h ((I, it) :: news) →
      wpAny (model prog w) A (assign target env v) (fun _ s₂ => wpAny (model prog w) A (execs body env) (TurnStep callerA g [] g L [(I, it)] (J I (i + 1)) s Q) (fun _ _ => False) s₂) (fun _ _ => False) { s with heap := h, toks := tk })
    (done : ∀ I, (∀ p ∈ news', p.1 < I) → ∀ m news h tk, J I items.size m news → Fr g L h m → News g L h news → Q .next { s with heap := h, toks := tk }) : ForFrom (model prog w) A target body env Q E (.ref l) s :=
  list_at news' J hh hl .refl F N (below_caller g) (fun _ h => nomatch h) sub hJ hJl j0 (fun I hI i v m news it h tk hv hj hat => step I hI i v m news it h tk hv hj (at_open hat).1 (at_open hat).2)
    (fun I hI m news h tk hj hat => done I hI m news h tk hj (at_open hat).1 (at_open hat).2)
end
theorem take_U {w : World} {p : Program} {loose : List Str} {mean : ExcName → Option Value} {mg mb : Str → Option Value} {dp un : Nat} {gd : Option (List Code)} {cn : Str} {cs : Scope} {a : Addr} {ccd : Value} {cl : List (Str × Addr)} {outer : List Env} {A₀ : Around} {base h₀ : Heap} {L : Addr} {m : Str → Option Value} {news : List (Addr × Obj)} {s : Shared} {Q E : Value → Shared → Prop}
    {src : Addr} {x y top : Int} {tx ty tt : Tok} {n : Nat} {gg : Obj → List (Addr × Obj)}
    (B : Below A₀ base outer h₀) (F : Fr h₀ L s.heap m) (X : (hd.heap_1 w.params).In h₀) (N : News h₀ L s.heap news) (U : UpdF src (W.listOf #[.int x tx, .int y ty] n) news gg) (T : Top p loose mean mg mb h₀) (hk : cs.kind = .function)
    (hdp : dp < 800) (hun : un < 9000) (htop : 0 < top) (htop2 : top < 4294967296) (hx : 0 ≤ x)
    (ret : ∀ d x' y' t tx' ty' h' tk', Fr h₀ L h' m → News h₀ L h' (gg (W.listOf #[.int x' tx', .int y' ty'] n)) → 0 ≤ d → d < top → 0 ≤ x' → Q (.int d t) { s with heap := h', toks := tk' }) :
    wpAny (model PySem.Challenge.rw_pf0401_01.row.prog w) (ktrTop dp un gd cn cs L a ccd cl outer) (call (.ref 500) [.ref src, .int top tt]) Q E s := by
  obtain ⟨pre, post, rfl, hg, h1, h2⟩ := U.split
  refine take_c B F X (sub_news (l' := (src, W.listOf #[.int x tx, .int y ty] n) :: (pre ++ post)) N fun p hp => ?_) T hk (fun q hq => ?_) (Nat.lt_of_lt_of_le (Nat.add_lt_add_right hdp 5) (by decide)) (Nat.lt_of_lt_of_le (Nat.add_lt_add_right hun 40) (by decide)) htop htop2 hx fun d x' y' t tx' ty' h' tk' F' N' e1 e2 e3 => ret d x' y' t tx' ty' h' tk' F' (sub_news N' fun p hp => ?_) e1 e2 e3
  · simp only [List.mem_cons, List.mem_append] at hp ⊢
    rcases hp with h | h | h <;> simp [h]
  · rcases List.mem_append.mp hq with h | h
    · exact h1 q h
    · exact h2 q h
  · rw [hg] at hp
    simp only [List.mem_cons, List.mem_append] at hp ⊢
    rcases hp with h | h | h <;> simp [h]
theorem item_at {prog : Program} {w : World} {A : Around} {E : Value → Shared → Prop} {s : Shared} {value slice : PySem.Expr} {h₀ : Heap} {L l : Addr} {news : List (Addr × Obj)} {items : Array Value} {nn : Nat} {k : Int} {u : Tok} {Q : Value → Shared → Prop}
    (N : News h₀ L s.heap news) (hm : (l, W.listOf items nn) ∈ news) (h0 : 0 ≤ k) (h1 : k < items.size) (hz : items.size < 1000) (h : ∀ v, items[k.toNat]? = some v → Q v s)
    (hs : subscripted slice false (.ref l) (.int k u) = operate [.ref l, .int k u] (getItem (.ref l) (.int k u)) := by with_unfolding_all rfl) : wpAny (model prog w) A (subscriptTail value slice (.ref l) (.int k u)) Q E s := by
  have hl : s.heap.IsList l items := ⟨_, (N _ hm).1, rfl, _, rfl⟩
  have hx : items[k.toNat]? = some (items[k.toNat]'(by omega)) := by simp [show k.toNat < items.size by omega]
  exact tail_any hl.typeIs slot_list_getitem.lookup (wpAny_getItem_list hl h0 (by omega) hx (h _ hx)) hs
/-- a written list of ints and a new list of ints, put together -/
theorem menu_K {prog : Program} {w : World} {A : Around} {E : Value → Shared → Prop} {s : Shared} {h₀ : Heap} {L l b : Addr} {m : Str → Option Value} {news : List (Addr × Obj)} {its : Array Value} {ys : List Value} {nn : Nat} {ns ms : List Int} {Q : Value → Shared → Prop}
    (F : Fr h₀ L s.heap m) (N : News h₀ L s.heap news) (hl : (l, W.listOf its nn) ∈ news) (P : NewPlain s.heap news b ys.toArray) (hi : IntsAre its.toList ns) (hc : CarriedAll ys (ms.map PyData.int)) (hz : ns.length + ms.length < 1000)
    (h : ∀ h' d items, Fr h₀ L h' m → News h₀ L h' ((d, W.listOf items 0) :: news) → (∀ p ∈ news, p.1 < d) → IntsAre items.toList (ns ++ ms) → Q (.ref d) { s with heap := h' }) : wpAny (model prog w) A (binaryOp .Add (.ref l) (.ref b)) Q E s := by
  obtain ⟨cb, eb⟩ := P.1
  refine add_arrays_ints F N (its := its) (its2 := ys.toArray) ⟨_, (N _ hl).1, rfl, _, rfl⟩ ⟨_, eb, rfl, _, rfl⟩ hi (IntsAre.ofCarried hc) (fun h' F' N' hI => h h' _ _ F' N' (fun p hp => Heap.lt_size (N p hp).1) hI) ?_
  rw [sizeLine_eq]; omega
theorem ne_cls {h₀ h : Heap} {L : Addr} {news : List (Addr × Obj)} {p : Addr × Obj} {d : Addr} {o : Obj} {a b : String} (N : News h₀ L h news) (hp : p ∈ news) (hq : (d, o) ∈ news) (h1 : p.2.cls = .type a) (h2 : o.cls = .type b) (hn : a ≠ b) : p.1 ≠ d := by
  rintro rfl
  have e := (N _ hp).1
  rw [(N _ hq).1] at e
  obtain rfl := Option.some.inj e
  rw [h1] at h2
  exact hn (by injection h2)
theorem own1 {D d : Addr} {o : Obj} (h : @Ne Nat D d) : ∀ p ∈ [(D, o)], p.1 ≠ d := fun p hp => by
  obtain rfl : p = (D, o) := by simpa using hp
  exact h
theorem own2 {D D' d : Addr} {o o' : Obj} (h : @Ne Nat D d) (h' : @Ne Nat D' d) : ∀ p ∈ [(D, o), (D', o')], p.1 ≠ d := fun p hp => by
  rcases List.mem_cons.mp hp with rfl | hp
  · exact h
  · exact own1 h' p hp
theorem tup_at {h₀ h : Heap} {L l : Addr} {news : List (Addr × Obj)} {items : Array Value} (N : News h₀ L h news) (hm : (l, ({ cls := .type "tuple", data := .seq items } : Obj)) ∈ news) : h.IsTuple l items := ⟨_, (N _ hm).1, rfl, _, rfl⟩
open PySem.SeqAt in
theorem eq_tuple2 {prog : Program} {w : World} {A : Around} {E : Value → Shared → Prop} {s : Shared} {Q : Value → Shared → Prop} {l b : Addr} {u v u' v' : Value} (hl : s.heap.IsTuple l #[u, u']) (hb : s.heap.IsTuple b #[v, v']) (hu : A.units < cLine) (he : EqAt A.in1 s u v true) (he' : EqAt A.in1 s u' v' true) (h : Q (.bool true) s) : wpAny (model prog w) A (compareOp .Eq (.ref l) (.ref b)) Q E s :=
  cmp_ofEq (RcAt.tuples (e := fun _ => true) hl hb hu (fun j h1 h2 => by
    have : j = 0 ∨ j = 1 := by simp at h1; omega
    rcases this with rfl | rfl
    · exact he
    · exact he') prog w E Q (by with_unfolding_all exact h))
theorem lt_all {k : Addr} : ∀ {l : List (Addr × Obj)}, AllLt k l → ∀ q ∈ l, q.1 < k
  | [], _, _, hq => nomatch hq
  | _ :: _, h, q, hq => by
    rcases List.mem_cons.mp hq with rfl | hq
    · exact h.1
    · exact lt_all h.2 q hq
theorem m_one {m : Str → Option Value} {a : Str} {u : Value} (h1 : m a = some u) : m = fun y => if y = a then some u else m y := by
  funext y
  by_cases e1 : y = a
  · rw [if_pos e1, e1, h1]
  · rw [if_neg e1]
theorem m_three {m : Str → Option Value} {a b c : Str} {u v x : Value} (h1 : m a = some u) (h2 : m b = some v) (h3 : m c = some x) : m = fun y => if y = a then some u else if y = b then some v else if y = c then some x else m y := by
  funext y
  by_cases e1 : y = a
  · rw [if_pos e1, e1, h1]
  · rw [if_neg e1]
    by_cases e2 : y = b
    · rw [if_pos e2, e2, h2]
    · rw [if_neg e2]
      by_cases e3 : y = c
      · rw [if_pos e3, e3, h3]
      · rw [if_neg e3]
abbrev tupOf (vs : Array Value) : Obj := { cls := .type "tuple", data := .seq vs }
/-- a loop over a tuple of ints whose turns leave the ledger as it stands -/
theorem tuple_pass {prog : Program} {w : World} {A : Around} {E : Value → Shared → Prop} {s : Shared} {L : Addr} {m : Str → Option Value} {news : List (Addr × Obj)} {env : Env} {target : Expr} {body : List Stmt} {Q : Flow → Shared → Prop} {g : Heap} {t : Addr} {items : Array Value} {ns : List Int} (K : (Str → Option Value) → Prop)
    (hh : A.handled = none) (ht : (t, ({ cls := .type "tuple", data := .seq items } : Obj)) ∈ news) (F : Fr g L s.heap m) (N : News g L s.heap news) (hi : IntsAre items.toList ns) (k0 : K m)
    (step : ∀ k ∈ ns, ∀ u m' I it (s' : Shared) (R : Flow → Shared → Prop), K m' → Fr g L s'.heap m' → News g L s'.heap ((I, it) :: news) → (∀ m'' h' tk', K m'' → Fr g L h' m'' → News g L h' ((I, it) :: news) → R .next { s' with heap := h', toks := tk' }) →
      wpAny (model prog w) A (assign target env (.int k u)) (fun _ s₂ => wpAny (model prog w) A (execs body env) R (fun _ _ => False) s₂) (fun _ _ => False) s')
    (done : ∀ m' h tk, K m' → Fr g L h m' → News g L h news → Q .next { s with heap := h, toks := tk })
    (hgo : ∀ I v, letOwnedTupleGo target (.ref I) v = pure () := by intro _ _; rfl) : ForFrom (model prog w) A target body env Q E (.ref t) s := by
  have hlt : ∀ p ∈ news, p.1 < s.heap.objs.size := fun p hp => Heap.lt_size (N p hp).1
  have htu : s.heap.IsTuple t items := tup_at N ht
  have hne : t ≠ s.heap.objs.size := Nat.ne_of_lt (hlt _ ht)
  refine wpAny_pyIter_tuple htu ?_
  refine for_walk (Q := Q) (news := news) (Walks.tuple hh s.heap.objs.size t hne items) (fun i h e => by obtain ⟨⟨o, e, _⟩, _⟩ := e; exact ⟨o, e⟩) (fun _ m' nw => K m' ∧ nw = news)
    (fun b hb => by
      rcases List.mem_cons.mp hb with rfl | hb
      · exact .inl rfl
      · obtain rfl : b = t := by simpa using hb
        exact .inr ⟨_, fun i m nw h => by rw [h.2]; exact ht⟩) (fun i m nw h p hp => by rw [h.2] at hp; exact Nat.ne_of_lt (hlt p hp)) ⟨⟨_, Heap.get?_push_size _ rfl, rfl, rfl⟩, htu.at fun o e => Heap.get?_push_of_some _ e⟩
    ⟨g, .refl, F.push _, fun p hp => ⟨Heap.get?_push_of_some _ (N p hp).1, (N p hp).2⟩, below_caller g, fun _ h => nomatch h⟩ ⟨k0, rfl⟩ (next_is_new F) (Nat.ne_of_gt F.ns.lt) ?_ ?_ (fun _ _ q => q) (fun _ v _ _ _ _ h => wpAny_of_eq (hgo _ v) h)
  · rintro i v m nw it h tk hlt' hv ⟨hK, rfl⟩ hat
    obtain ⟨k, u, rfl, hk⟩ := IntsAre.at hi i v (by simpa using hv)
    exact step k (List.mem_of_getElem? hk) u m _ it { s with heap := h, toks := tk } (TurnStep callerA g [] g L [(s.heap.objs.size, it)] (fun m' nw' => K m' ∧ nw' = nw) s Q) hK (at_open hat).1 (at_open hat).2 fun m'' h' tk' hK' F' N' => go0 F' ⟨hK', rfl⟩ N'
  · rintro m nw h tk ⟨hK, rfl⟩ hat
    exact done m h tk hK (at_open hat).1 (at_open hat).2
example : True := by
  w_top off
  trivial
example : True := by
  (k_with "call ref" => ((k_here; (with_reducible show wpAny _ _ (call (Value.ref 500) [Value.ref _, Value.int _ _]) _ _ _); (with_unfolding_all refine take_U (by assumption) (by assumption) (by assumption) (by assumption) (by k_updF) (by assumption) (by first | assumption | exact rfl) (by walk_at "my small") (by walk_at "my small") (by walk_at "my bnd") (by walk_at "my bnd") (by first | assumption | omega) ?_); intro d' x' y' td' tx' ty' h' tk' F' N' hd1' hd2' hx'; (try dsimp only at N'); (try k_sweep))))
  (k_with "my item" => ((refine item_at (by assumption) (by k_mem) (by assumption) (by assumption) (by assumption) ?_; intro _ hv')))
  (k_with "exec For Name Call cons nil" => ((k_here; k_dflt (refine For_from ?_))))
  (k_with "exec For Name List cons nil" => ((k_here; k_dflt (refine For_from ?_))))
  (k_with "binaryOp Add" => ((k_here; (with_reducible show wpAny _ _ (binaryOp Operator.Add (Value.ref _) (Value.ref _)) _ _ _); k_dflt (refine' menu_K ?mF ?mN ?ml ?mP ?mi ?mc ?mz ?_; (case mF => assumption); (case mN => assumption); (case ml => k_mem); (case mP => assumption); (case mi => repeat constructor); (case mc => assumption); (case mz => decide)); intro h' d' items' F' N' l1 hI'; (try k_lt l1))))
  (k_with "call builtin:list.append" => ((k_here; (with_reducible show wpAny _ _ (call (Value.builtin _) [Value.ref _, _]) _ _ _); k_dflt (refine' append_K ?k1 ?k2 ?k3 ?_ ?z; (case k1 => k_asm); (case k2 => k_asm); (case k3 => k_upd); (case z => rw [sizeLine_eq]; omega); k_whole); intro h' F' N'; (try k_sweep))))
  trivial
local macro_rules | `(tactic| k_ne) => `(tactic| k_extra "my ne2")
example : True := by
  (k_with "my ne2" => (first | k_extra "my ne" | (k_dflt (refine ne_cls (by assumption) (by k_mem) (by k_mem) rfl rfl (by decide))) | (refine neN ?_; (try dsimp only); omega (config := {}))))
  trivial
example : True := by
  (k_with "newTuple" => ((k_here; k_dflt (refine' kup_newTuple ?F ?N ?_ ?z; (case F => k_asm); (case N => k_asm); (case z => kmk_size)); intro D' h' F' N' l1; (try k_lt l1); (try k_sweep))))
  (k_with "exec For Tuple Name cons nil" => ((k_here; k_dflt (refine For_from ?_))))
  (k_with "my tup" => (exact tup_at (by assumption) (by k_mem)))
  (k_with "compareOp NotEq ref ref" => ((k_here; k_dflt (refine MQ.ne_tuple2 (by walk_at "my tup") (by walk_at "my tup") (by ktr_units) (by walk_at "same item") (by walk_at "same item") ?_))))
  (k_with "compareOp Eq ref ref" => ((k_here; k_dflt (refine eq_tuple2 (by walk_at "my tup") (by walk_at "my tup") (by ktr_units) (by walk_at "same item") (by walk_at "same item") ?_))))
  trivial
theorem binds_of {K : Frag} {f : Addr} {oc : Value} {od : Option Addr} {fd : FuncData} {osl : Array (Option Value)} {args : List Value} {bs : Addr → List (Str × Value)} (h0 : List.lookup f K = some ⟨oc, od, .func fd, osl⟩) (hb : ∀ (s : Shared) (x : Addr), K.In s.heap → BindsTo s fd ⟨.ref x :: args, []⟩ (bs x)) :
    ∀ (s : Shared) (x : Addr) (oc' : Value) (od' : Option Addr) (fd' : FuncData) (osl' : Array (Option Value)), K.In s.heap → List.lookup f K = some ⟨oc', od', .func fd', osl'⟩ → BindsTo s fd' ⟨.ref x :: args, []⟩ (bs x) := by
  intro s x oc' od' fd' osl' X h
  rw [h0] at h
  cases h
  exact hb s x X
theorem ip_made {w : World} {p : Program} {loose : List Str} {mean : ExcName → Option Value} {mg mb : Str → Option Value} {dp un : Nat} {gd : Option (List Code)} {cn : Str} {cs : Scope} {a : Addr} {ccd : Value} {cl : List (Str × Addr)} {outer : List Env} {A₀ : Around} {base h₀ : Heap} {L : Addr} {m : Str → Option Value} {news : List (Addr × Obj)} {s : Shared} {Q E : Value → Shared → Prop} {args : List Value} {v1 v2 v3 v4 v5 v6 v7 v8 v9 v10 : Value}
    (B : Below A₀ base outer h₀) (F : Fr h₀ L s.heap m) (X : (hd.heap_1 w.params).In h₀) (N : News h₀ L s.heap news) (T : Top p loose mean mg mb h₀) (hk : cs.kind = .function) (hdp : dp < 900) (hun : un < 9000)
    (hb : ∀ (s : Shared) (x : Addr) (oc : Value) (od : Option Addr) (fd : FuncData) (osl : Array (Option Value)), (hd.heap_1 w.params).In s.heap → List.lookup 278 (hd.heap_1 w.params) = some ⟨oc, od, .func fd, osl⟩ → BindsTo s fd ⟨.ref x :: args, []⟩ ((fun x : Addr => ([("self", .ref x), ("source", v1), ("target", v2), ("protocol", v3), ("ident", v4), ("ttl", v5), ("tos", v6), ("dont", v7), ("more", v8), ("offset", v9), ("options", v10)] : List (Str × Value))) x))
    (ret : ∀ x d h' tk' e1 e2 e3 e4 e5 e6 e7 e8 e9 e10 t1 t2 t3 t4 t5 t6 t7 t8 t9 t10, Fr h₀ L h' m → News h₀ L h' ((x, instObj 316 d) :: (d, dictOf [⟨e1, .str (Str.ofString "source") t1, v1⟩, ⟨e2, .str (Str.ofString "target") t2, v2⟩, ⟨e3, .str (Str.ofString "protocol") t3, v3⟩, ⟨e4, .str (Str.ofString "ident") t4, v4⟩, ⟨e5, .str (Str.ofString "ttl") t5, v5⟩, ⟨e6, .str (Str.ofString "tos") t6, v6⟩, ⟨e7, .str (Str.ofString "dont") t7, v7⟩, ⟨e8, .str (Str.ofString "more") t8, v8⟩, ⟨e9, .str (Str.ofString "offset") t9, v9⟩, ⟨e10, .str (Str.ofString "options") t10, v10⟩] 10) :: news) → (∀ p ∈ news, p.1 < d) → @LT.lt Nat _ d x → Q (.ref x) { s with heap := h', toks := tk' }) :
    wpAny (model PySem.Challenge.rw_pf0401_01.row.prog w) (ktrTop dp un gd cn cs L a ccd cl outer) (call (.ref 316) args) Q E s := by
  k_dflt (refine' call_cls (fI := 278) ?k1 ?k2 ?k3 ?k4 ?k5 ?k6 ?_; (case k1 => k_asm); (case k2 => k_asm); (case k3 => k_asm); (case k4 => k_is); (case k5 => k_is); (case k6 => k_is))
  intro x9 d9 h9 F9 N9 l9 l8
  have l7 := l9
  (try k_lt l7)
  k_dflt (refine' code_def (binds := ([("self", .ref x9), ("source", v1), ("target", v2), ("protocol", v3), ("ident", v4), ("ttl", v5), ("tos", v6), ("dont", v7), ("more", v8), ("offset", v9), ("options", v10)] : List (Str × Value))) ?k1 ?k2 ?k3 ?k4 ?k5 ?kA ?kF ?kK ?k6 ?k7 ?k8 ?k9 ?kB ?_ ?c2 ?c3 ?c4 ?c5; (case kA => exact rfl); (case kF => exact rfl); (case kK => assumption); (case k1 => k_asm); (case k2 => k_asm); (case k3 => k_asm); (case k4 => k_asm); (case k5 => k_asm); (case k6 => k_is); (case k7 => k_is); (case k8 => ktr_room); (case k9 => exact hb _ _ _ _ _ _ (by k_in) (by k_is)); (case c5 => decide); (case kB => exact locs rfl); (case c2 => exact rfl); (case c3 => exact rfl); (case c4 => exact rfl); k_whole; intro g' L' h' FG' F' N' B' X' T'; (try dsimp only); (try k_lift B'); (try k_fold))
  k_steps
  exact ret _ _ _ _ _ _ _ _ _ _ _ _ _ _ _ _ _ _ _ _ _ _ _ _ (by assumption) (by assumption) l9 l8
theorem im_made {w : World} {p : Program} {loose : List Str} {mean : ExcName → Option Value} {mg mb : Str → Option Value} {dp un : Nat} {gd : Option (List Code)} {cn : Str} {cs : Scope} {a : Addr} {ccd : Value} {cl : List (Str × Addr)} {outer : List Env} {A₀ : Around} {base h₀ : Heap} {L : Addr} {m : Str → Option Value} {news : List (Addr × Obj)} {s : Shared} {Q E : Value → Shared → Prop} {args : List Value} {v1 v2 v3 v4 : Value}
    (B : Below A₀ base outer h₀) (F : Fr h₀ L s.heap m) (X : (hd.heap_1 w.params).In h₀) (N : News h₀ L s.heap news) (T : Top p loose mean mg mb h₀) (hk : cs.kind = .function) (hdp : dp < 900) (hun : un < 9000)
    (hb : ∀ (s : Shared) (x : Addr) (oc : Value) (od : Option Addr) (fd : FuncData) (osl : Array (Option Value)), (hd.heap_1 w.params).In s.heap → List.lookup 193 (hd.heap_1 w.params) = some ⟨oc, od, .func fd, osl⟩ → BindsTo s fd ⟨.ref x :: args, []⟩ ((fun x : Addr => ([("self", .ref x), ("kind", v1), ("code", v2), ("rest", v3), ("payload", v4)] : List (Str × Value))) x))
    (ret : ∀ x d h' tk' e1 e2 e3 e4 t1 t2 t3 t4, Fr h₀ L h' m → News h₀ L h' ((x, instObj 231 d) :: (d, dictOf [⟨e1, .str (Str.ofString "kind") t1, v1⟩, ⟨e2, .str (Str.ofString "code") t2, v2⟩, ⟨e3, .str (Str.ofString "rest") t3, v3⟩, ⟨e4, .str (Str.ofString "payload") t4, v4⟩] 4) :: news) → (∀ p ∈ news, p.1 < d) → @LT.lt Nat _ d x → Q (.ref x) { s with heap := h', toks := tk' }) :
    wpAny (model PySem.Challenge.rw_pf0401_01.row.prog w) (ktrTop dp un gd cn cs L a ccd cl outer) (call (.ref 231) args) Q E s := by
  k_dflt (refine' call_cls (fI := 193) ?k1 ?k2 ?k3 ?k4 ?k5 ?k6 ?_; (case k1 => k_asm); (case k2 => k_asm); (case k3 => k_asm); (case k4 => k_is); (case k5 => k_is); (case k6 => k_is))
  intro x9 d9 h9 F9 N9 l9 l8
  have l7 := l9
  (try k_lt l7)
  k_dflt (refine' code_def (binds := ([("self", .ref x9), ("kind", v1), ("code", v2), ("rest", v3), ("payload", v4)] : List (Str × Value))) ?k1 ?k2 ?k3 ?k4 ?k5 ?kA ?kF ?kK ?k6 ?k7 ?k8 ?k9 ?kB ?_ ?c2 ?c3 ?c4 ?c5; (case kA => exact rfl); (case kF => exact rfl); (case kK => assumption); (case k1 => k_asm); (case k2 => k_asm); (case k3 => k_asm); (case k4 => k_asm); (case k5 => k_asm); (case k6 => k_is); (case k7 => k_is); (case k8 => ktr_room); (case k9 => exact hb _ _ _ _ _ _ (by k_in) (by k_is)); (case c5 => decide); (case kB => exact locs rfl); (case c2 => exact rfl); (case c3 => exact rfl); (case c4 => exact rfl); k_whole; intro g' L' h' FG' F' N' B' X' T'; (try dsimp only); (try k_lift B'); (try k_fold))
  k_steps
  exact ret _ _ _ _ _ _ _ _ _ _ _ _ (by assumption) (by assumption) l9 l8
example : True := by
  w_top off
  trivial
theorem one_c {w : World} {p : Program} {loose : List Str} {mean : ExcName → Option Value} {mg mb : Str → Option Value} {dp un : Nat} {gd : Option (List Code)} {cn : Str} {cs : Scope} {a : Addr} {ccd : Value} {cl : List (Str × Addr)} {outer : List Env} {A₀ : Around} {base h₀ : Heap} {L : Addr} {m : Str → Option Value} {news : List (Addr × Obj)} {s : Shared} {Q E : Value → Shared → Prop}
    {src l : Addr} {x y : Int} {tx ty : Tok} {n nn : Nat} {items : Array Value} {ns : List Int}
    (B : Below A₀ base outer h₀) (F : Fr h₀ L s.heap m) (X : (hd.heap_1 w.params).In h₀) (N : News h₀ L s.heap ((src, W.listOf #[.int x tx, .int y ty] n) :: (l, W.listOf items nn) :: news)) (hne : ∀ q ∈ (l, W.listOf items nn) :: news, q.1 ≠ src) (T : Top p loose mean mg mb h₀) (hk : cs.kind = .function)
    (hdp : dp < 600) (hun : un < 8000) (hi : IntsAre items.toList ns) (hsz : 0 < items.size) (hsz2 : items.size < 1000) (hx : 0 ≤ x)
    (ret : ∀ k t x' y' tx' ty' h' tk', k ∈ ns → Fr h₀ L h' m → News h₀ L h' ((src, W.listOf #[.int x' tx', .int y' ty'] n) :: (l, W.listOf items nn) :: news) → 0 ≤ x' → Q (.int k t) { s with heap := h', toks := tk' }) :
    wpAny (model PySem.Challenge.rw_pf0401_01.row.prog w) (ktrTop dp un gd cn cs L a ccd cl outer) (call (.ref 507) [.ref src, .ref l]) Q E s := by
  refine wpAny_call ?_
  k_dflt cell_enter
  have ms9 : Mark := True.intro
  k_steps
  unfold StopAt
  refine item_at (by assumption) (by k_mem) (by assumption) (by assumption) (by assumption) ?_
  intro v hv
  obtain ⟨k, t, rfl, hk'⟩ := IntsAre.at hi _ v (by simpa using hv)
  k_steps
  exact ret _ _ _ _ _ _ _ _ (List.mem_of_getElem? hk') (by assumption) (by assumption) (by assumption)
theorem one_U {w : World} {p : Program} {loose : List Str} {mean : ExcName → Option Value} {mg mb : Str → Option Value} {dp un : Nat} {gd : Option (List Code)} {cn : Str} {cs : Scope} {a : Addr} {ccd : Value} {cl : List (Str × Addr)} {outer : List Env} {A₀ : Around} {base h₀ : Heap} {L : Addr} {m : Str → Option Value} {news : List (Addr × Obj)} {s : Shared} {Q E : Value → Shared → Prop}
    {src l : Addr} {x y : Int} {tx ty : Tok} {n nn : Nat} {items : Array Value} {ns : List Int} {gg : Obj → List (Addr × Obj)}
    (B : Below A₀ base outer h₀) (F : Fr h₀ L s.heap m) (X : (hd.heap_1 w.params).In h₀) (N : News h₀ L s.heap news) (U : UpdF src (W.listOf #[.int x tx, .int y ty] n) news gg) (hm : (l, W.listOf items nn) ∈ news) (hl : @Ne Nat l src) (T : Top p loose mean mg mb h₀) (hk : cs.kind = .function)
    (hdp : dp < 600) (hun : un < 8000) (hi : IntsAre items.toList ns) (hsz : 0 < ns.length) (hsz2 : ns.length < 1000) (hx : 0 ≤ x)
    (ret : ∀ k t x' y' tx' ty' h' tk', k ∈ ns → Fr h₀ L h' m → News h₀ L h' (gg (W.listOf #[.int x' tx', .int y' ty'] n)) → 0 ≤ x' → Q (.int k t) { s with heap := h', toks := tk' }) :
    wpAny (model PySem.Challenge.rw_pf0401_01.row.prog w) (ktrTop dp un gd cn cs L a ccd cl outer) (call (.ref 507) [.ref src, .ref l]) Q E s := by
  obtain ⟨pre, post, rfl, hg, h1, h2⟩ := U.split
  have hz := hi.length
  rw [Array.length_toList] at hz
  refine one_c B F X (sub_news (l' := (src, W.listOf #[.int x tx, .int y ty] n) :: (l, W.listOf items nn) :: (pre ++ post)) N fun p hp => ?_) (fun q hq => ?_) T hk hdp hun hi (by omega) (by omega) hx fun k t x' y' tx' ty' h' tk' hv F' N' e1 => ret k t x' y' tx' ty' h' tk' hv F' (sub_news N' fun p hp => ?_) e1
  · simp only [List.mem_cons, List.mem_append] at hp hm ⊢
    rcases hp with h | h | h | h
    · simp [h]
    · rw [h]; exact hm
    · simp [h]
    · simp [h]
  · rcases List.mem_cons.mp hq with h | h
    · rw [h]; exact hl
    · rcases List.mem_append.mp h with h | h
      · exact h1 q h
      · exact h2 q h
  · rw [hg] at hp
    simp only [List.mem_cons, List.mem_append] at hp ⊢
    rcases hp with h | h | h <;> simp [h]
example : True := by
  (k_with "call ref" => ((k_here; (with_reducible show wpAny _ _ (call (Value.ref 507) [Value.ref _, Value.ref _]) _ _ _); (with_unfolding_all refine one_U (by assumption) (by assumption) (by assumption) (by assumption) (by k_updF) (by k_mem) (by omega) (by assumption) (by first | assumption | exact rfl) (by walk_at "my small") (by walk_at "my small") (by assumption) (by decide) (by decide) (by first | assumption | omega) ?_); intro k' t' x' y' tx' ty' h' tk' hv' F' N' hx'; (try dsimp only at N'); (try k_sweep))))
  trivial
/-- a list of pairs of a number and bytes, the tuples standing in ex -/
def Rows (items : Array Value) (ex : List (Addr × Obj)) (ks : List (Int × Array UInt8)) : Prop :=
  items.size = ks.length ∧ ∀ (i : Nat) k b, ks[i]? = some (k, b) → ∃ a t u, items[i]? = some (.ref a) ∧ (a, tupOf #[.int k t, .bytes b u]) ∈ ex
def way (p : Int × Array UInt8) : Bool := p.1 == 131 || p.1 == 137
def Due (dv : Value) (ex : List (Addr × Obj)) (ks : List (Int × Array UInt8)) : Prop :=
  match ks.find? way with
  | none => dv = .none
  | some (k, b) => ∃ a t u, dv = .ref a ∧ (a, tupOf #[.int k t, .bytes b u]) ∈ ex
theorem Due.two {dv : Value} {ex : List (Addr × Obj)} {ks : List (Int × Array UInt8)} (h : Due dv ex ks) : (dv = .none ∧ ks.find? way = none) ∨ ∃ k b a t u, dv = .ref a ∧ ks.find? way = some (k, b) ∧ (a, tupOf #[.int k t, .bytes b u]) ∈ ex := by
  unfold Due at h
  split at h
  · exact .inl ⟨h, by assumption⟩
  · obtain ⟨a, t, u, h1, h2⟩ := h
    exact .inr ⟨_, _, a, t, u, h1, by assumption, h2⟩
inductive JW (src R : Addr) (n : Nat) (news : List (Addr × Obj)) (I : Addr) (i : Nat) (m : Str → Option Value) (nw : List (Addr × Obj)) : Prop
  | mk (h1 : m "source" = some (.ref src)) (h2 : m "rows" = some (.ref R)) (x : Int) (y : Int) (tx : Tok) (ty : Tok) (items : Array Value) (cnt : Nat) (ex : List (Addr × Obj)) (ks : List (Int × Array UInt8)) (dv : Value) (h3 : 0 ≤ x) (h4 : m "due" = some dv) (h5 : Rows items ex ks) (h6 : Due dv ex ks) (h7 : ks.length = i) (h8 : (∀ p ∈ ex, p.1 ≠ I)) (h9 : (∀ q ∈ ex ++ news, q.1 ≠ R)) (h10 : (∀ q ∈ ex ++ news, q.1 ≠ src)) (h11 : nw = (R, W.listOf items cnt) :: (src, W.listOf #[.int x tx, .int y ty] n) :: (ex ++ news)) : JW src R n news I i m nw
theorem Rows.push {items : Array Value} {ex ex' : List (Addr × Obj)} {ks : List (Int × Array UInt8)} {a : Addr} {k : Int} {b : Array UInt8} {t u : Tok} (h : Rows items ex ks) (sub : ∀ p ∈ ex, p ∈ ex') (hm : (a, tupOf #[.int k t, .bytes b u]) ∈ ex') : Rows (items.push (.ref a)) ex' (ks ++ [(k, b)]) := by
  refine ⟨by simp [h.1], fun i k' b' hi => ?_⟩
  by_cases hl : i < ks.length
  · rw [List.getElem?_append_left hl] at hi
    obtain ⟨a', t', u', h1, h2⟩ := h.2 i k' b' hi
    refine ⟨a', t', u', ?_, sub _ h2⟩
    rw [Array.getElem?_push_lt (by rw [h.1]; exact hl)]
    rw [← h1]; simp [h.1, hl]
  · rw [List.getElem?_append_right (by omega)] at hi
    have : i = ks.length := by
      by_cases h9 : i - ks.length = 0
      · omega
      · obtain ⟨j, hj⟩ := Nat.exists_eq_succ_of_ne_zero h9
        rw [hj] at hi; simp at hi
    subst this
    simp at hi
    obtain ⟨rfl, rfl⟩ := hi
    exact ⟨a, t, u, by rw [← h.1]; simp, hm⟩
theorem Due.same {dv : Value} {ex ex' : List (Addr × Obj)} {ks : List (Int × Array UInt8)} {k0 : Int} {b0 : Array UInt8} (k : Int × Array UInt8) (h : Due dv ex ks) (hf : ks.find? way = some (k0, b0)) (sub : ∀ p ∈ ex, p ∈ ex') : Due dv ex' (ks ++ [k]) := by
  unfold Due at h ⊢
  rw [hf] at h
  rw [List.find?_append, hf]
  obtain ⟨a, t, u, h1, h2⟩ := h
  exact ⟨a, t, u, h1, sub _ h2⟩
theorem Due.none_on {ex : List (Addr × Obj)} {ks : List (Int × Array UInt8)} {k : Int} {b : Array UInt8} (hf : ks.find? way = none) (hw : ([131, 137].any fun x => x == k) = false) : Due .none ex (ks ++ [(k, b)]) := by
  unfold Due
  have : way (k, b) = false := by
    simp only [List.any_cons, List.any_nil, Bool.or_false, Bool.or_eq_false_iff, beq_eq_false_iff_ne] at hw
    simp only [way, Bool.or_eq_false_iff, beq_eq_false_iff_ne]
    exact ⟨fun q => hw.1 q.symm, fun q => hw.2 q.symm⟩
  rw [List.find?_append, hf]
  simp [this]
theorem Due.first {ex : List (Addr × Obj)} {ks : List (Int × Array UInt8)} {k : Int} {b : Array UInt8} {d : Addr} {t u : Tok} (hf : ks.find? way = none) (hw : ([131, 137].any fun x => x == k) = true) (hm : (d, tupOf #[.int k t, .bytes b u]) ∈ ex) : Due (.ref d) ex (ks ++ [(k, b)]) := by
  unfold Due
  have : way (k, b) = true := by
    simp only [List.any_cons, List.any_nil, Bool.or_false, Bool.or_eq_true, beq_iff_eq] at hw
    simp only [way, Bool.or_eq_true, beq_iff_eq]
    exact hw.imp Eq.symm Eq.symm
  rw [List.find?_append, hf]
  simp only [Option.none_or, List.find?_cons_of_pos, this]
  exact ⟨d, t, u, rfl, hm⟩
theorem ways_end {s : Shared} {Q : Flow → Shared → Prop} {L : Addr} {g h' : Heap} {R src I : Addr} {it : Obj} {x y : Int} {tx ty : Tok} {n cnt i tk' : Nat} {m' : Str → Option Value} {items : Array Value} {ex own : List (Addr × Obj)} {ks : List (Int × Array UInt8)} {news : List (Addr × Obj)} {k : Int} {b : Array UInt8} {a : Addr} {t u : Tok} {dv : Value}
    (F : Fr g L h' m') (N : News g L h' ((I, it) :: (R, W.listOf (items.push (.ref a)) cnt) :: (src, W.listOf #[.int x tx, .int y ty] n) :: ((own ++ ex) ++ news)))
    (h1 : m' "source" = some (.ref src)) (h2 : m' "rows" = some (.ref R)) (h3 : m' "due" = some dv) (hx : 0 ≤ x) (hR : Rows items ex ks) (hl : ks.length = i) (ha : (a, tupOf #[.int k t, .bytes b u]) ∈ own) (hD : Due dv (own ++ ex) (ks ++ [(k, b)])) (hex : ∀ p ∈ ex, p.1 ≠ I) (hA : ∀ q ∈ ex ++ news, q.1 ≠ R) (hS : ∀ q ∈ ex ++ news, q.1 ≠ src)
    (oR : ∀ p ∈ own, p.1 ≠ R) (oS : ∀ p ∈ own, p.1 ≠ src) (oI : ∀ p ∈ own, p.1 ≠ I) : TurnStep callerA g [] g L [(I, it)] (JW src R n news I (i + 1)) s Q .next { s with heap := h', toks := tk' } := by
  refine go0 F ⟨h1, h2, x, y, tx, ty, items.push (.ref a), cnt, own ++ ex, ks ++ [(k, b)], dv, hx, h3, hR.push (fun p hp => List.mem_append_right _ hp) (List.mem_append_left _ ha), hD, by simp [hl], fun p hp => ?_, fun q hq => ?_, fun q hq => ?_, rfl⟩ N
  · rcases List.mem_append.mp hp with hp | hp
    · exact oI p hp
    · exact hex p hp
  · rw [List.append_assoc] at hq
    rcases List.mem_append.mp hq with hp | hp
    · exact oR q hp
    · exact hA q hp
  · rw [List.append_assoc] at hq
    rcases List.mem_append.mp hq with hp | hp
    · exact oS q hp
    · exact hS q hp
theorem sub_w1 {a x2 x3 x4 x5 I R src : Addr × Obj} {ex news : List (Addr × Obj)} : ∀ q ∈ [I] ++ R :: src :: (([a] ++ ex) ++ news), q ∈ a :: x2 :: x3 :: x4 :: x5 :: I :: R :: src :: (ex ++ news) := by walk_at "my perm"
theorem sub_w2 {a0 x1 a x2 x3 x4 x5 I R src : Addr × Obj} {ex news : List (Addr × Obj)} : ∀ q ∈ [I] ++ R :: src :: (([a0, a] ++ ex) ++ news), q ∈ a0 :: x1 :: a :: x2 :: x3 :: x4 :: x5 :: I :: R :: src :: (ex ++ news) := by walk_at "my perm"
theorem ways_one {s : Shared} {Q : Flow → Shared → Prop} {L : Addr} {g h' : Heap} {R src I : Addr} {it : Obj} {x y : Int} {tx ty : Tok} {n cnt i tk' : Nat} {m' : Str → Option Value} {items : Array Value} {ex : List (Addr × Obj)} {ks : List (Int × Array UInt8)} {news : List (Addr × Obj)} {k : Int} {b : Array UInt8} {a : Addr} {t u : Tok} {dv : Value} {X2 X3 X4 X5 : Addr × Obj}
    (F : Fr g L h' m') (N : News g L h' ((a, tupOf #[.int k t, .bytes b u]) :: X2 :: X3 :: X4 :: X5 :: (I, it) :: (R, W.listOf (items.push (.ref a)) cnt) :: (src, W.listOf #[.int x tx, .int y ty] n) :: (ex ++ news)))
    (h1 : m' "source" = some (.ref src)) (h2 : m' "rows" = some (.ref R)) (h3 : m' "due" = some dv) (hx : 0 ≤ x) (hR : Rows items ex ks) (hl : ks.length = i) (hD : Due dv ([(a, tupOf #[.int k t, .bytes b u])] ++ ex) (ks ++ [(k, b)])) (hex : ∀ p ∈ ex, p.1 ≠ I) (hA : ∀ q ∈ ex ++ news, q.1 ≠ R) (hS : ∀ q ∈ ex ++ news, q.1 ≠ src)
    (n1 : @Ne Nat a R) (n2 : @Ne Nat a src) (n3 : @Ne Nat a I) : TurnStep callerA g [] g L [(I, it)] (JW src R n news I (i + 1)) s Q .next { s with heap := h', toks := tk' } :=
  ways_end (own := [(a, tupOf #[.int k t, .bytes b u])]) F (sub_news N sub_w1) h1 h2 h3 hx hR hl (.head _) hD hex hA hS (own1 n1) (own1 n2) (own1 n3)
theorem ways_two {s : Shared} {Q : Flow → Shared → Prop} {L : Addr} {g h' : Heap} {R src I : Addr} {it : Obj} {x y : Int} {tx ty : Tok} {n cnt i tk' : Nat} {m' : Str → Option Value} {items : Array Value} {ex : List (Addr × Obj)} {ks : List (Int × Array UInt8)} {news : List (Addr × Obj)} {k : Int} {b : Array UInt8} {a a0 : Addr} {t u t0 u0 : Tok} {X1 X2 X3 X4 X5 : Addr × Obj}
    (F : Fr g L h' m') (N : News g L h' ((a0, tupOf #[.int k t0, .bytes b u0]) :: X1 :: (a, tupOf #[.int k t, .bytes b u]) :: X2 :: X3 :: X4 :: X5 :: (I, it) :: (R, W.listOf (items.push (.ref a)) cnt) :: (src, W.listOf #[.int x tx, .int y ty] n) :: (ex ++ news)))
    (h1 : m' "source" = some (.ref src)) (h2 : m' "rows" = some (.ref R)) (h3 : m' "due" = some (.ref a0)) (hx : 0 ≤ x) (hR : Rows items ex ks) (hl : ks.length = i) (hfd : ks.find? way = none) (hw : ([131, 137].any fun x => x == k) = true) (hex : ∀ p ∈ ex, p.1 ≠ I) (hA : ∀ q ∈ ex ++ news, q.1 ≠ R) (hS : ∀ q ∈ ex ++ news, q.1 ≠ src)
    (n1 : @Ne Nat a R ∧ @Ne Nat a0 R) (n2 : @Ne Nat a src ∧ @Ne Nat a0 src) (n3 : @Ne Nat a I ∧ @Ne Nat a0 I) : TurnStep callerA g [] g L [(I, it)] (JW src R n news I (i + 1)) s Q .next { s with heap := h', toks := tk' } :=
  ways_end (own := [(a0, tupOf #[.int k t0, .bytes b u0]), (a, tupOf #[.int k t, .bytes b u])]) F (sub_news N sub_w2) h1 h2 h3 hx hR hl (.tail _ (.head _)) (Due.first hfd hw (.head _)) hex hA hS (own2 n1.2 n1.1) (own2 n2.2 n2.1) (own2 n3.2 n3.1)
theorem find_first {ks : List (Int × Array UInt8)} : ∀ {i : Nat} {q : Int × Array UInt8}, (∀ j < i, ∀ p, ks[j]? = some p → way p = false) → ks[i]? = some q → way q = true → ks.find? way = some q := by
  induction ks with
  | nil => intro i q _ h; simp at h
  | cons p r ih =>
    intro i q h1 h2 h3
    cases i with
    | zero => simp at h2; subst h2; simp [h3]
    | succ i =>
      have hp := h1 0 (by omega) p rfl
      rw [List.find?_cons_of_neg (by simp [hp])]
      exact ih (fun j hj q' hq => h1 (j + 1) (Nat.succ_lt_succ hj) q' (by simpa using hq)) (by simpa using h2) h3
theorem find_never {ks : List (Int × Array UInt8)} (h : ∀ j < ks.length, ∀ p, ks[j]? = some p → way p = false) : ks.find? way = none := by
  rw [List.find?_eq_none]
  intro p hp
  obtain ⟨j, hj, e⟩ := List.mem_iff_getElem.mp hp
  rw [h j hj p (by rw [← e]; simp [hj])]
  exact Bool.false_ne_true
theorem tells_c {w : World} {p : Program} {loose : List Str} {mean : ExcName → Option Value} {mg mb : Str → Option Value} {dp un : Nat} {gd : Option (List Code)} {cn : Str} {cs : Scope} {a : Addr} {ccd : Value} {cl : List (Str × Addr)} {outer : List Env} {A₀ : Around} {base h₀ : Heap} {L : Addr} {m : Str → Option Value} {news : List (Addr × Obj)} {s : Shared} {Q E : Value → Shared → Prop}
    {l : Addr} {items : Array Value} {nn : Nat} {ex : List (Addr × Obj)} {ks : List (Int × Array UInt8)}
    (B : Below A₀ base outer h₀) (F : Fr h₀ L s.heap m) (X : (hd.heap_1 w.params).In h₀) (N : News h₀ L s.heap news) (T : Top p loose mean mg mb h₀) (hk : cs.kind = .function) (hdp : dp < 600) (hun : un < 8000)
    (hl : (l, W.listOf items nn) ∈ news) (hR : Rows items ex ks) (sub : ∀ p ∈ ex, p ∈ news)
    (retN : ks.find? way = none → ∀ h' tk', Fr h₀ L h' m → News h₀ L h' news → Q .none { s with heap := h', toks := tk' })
    (retS : ∀ k b d t u h' tk', ks.find? way = some (k, b) → Fr h₀ L h' m → News h₀ L h' ((d, tupOf #[.int k t, .bytes b u]) :: news) → (∀ p ∈ news, p.1 < d) → Q (.ref d) { s with heap := h', toks := tk' }) :
    wpAny (model PySem.Challenge.rw_pf0401_01.row.prog w) (ktrTop dp un gd cn cs L a ccd cl outer) (call (.ref 383) [.ref l]) Q E s := by
  refine wpAny_call ?_
  k_dflt cell_enter
  k_steps
  refine list0 news (fun I i m' nw => (∀ j < i, ∀ p, ks[j]? = some p → way p = false) ∧ nw = news) rfl hl (by assumption) (by assumption) (fun _ h => h) ?_ ?_ ?_ ?_ ?_
  · rintro I hI i m nw ⟨_, rfl⟩ p hp
    exact Nat.ne_of_lt (hI p hp)
  · rintro I i m nw ⟨_, rfl⟩
    exact hl
  · intro I hI
    exact ⟨fun j hj => absurd hj (Nat.not_lt_zero _), rfl⟩
  · rintro I hI i v m1 nw it h tk hv ⟨hj, rfl⟩ F1 N1
    have hi : i < ks.length := by
      rw [← hR.1]
      by_cases q : i < items.size
      · exact q
      · rw [Array.getElem?_eq_none (by omega)] at hv; cases hv
    obtain ⟨⟨k, b⟩, hq⟩ : ∃ p, ks[i]? = some p := ⟨ks[i], by simp [hi]⟩
    obtain ⟨a1, t1, u1, e1, e2⟩ := hR.2 i k b hq
    rw [hv] at e1
    obtain rfl := Option.some.inj e1
    replace N1 := dup1 N1 (.tail _ (sub _ e2))
    k_steps
    · unfold TurnStep
      dsimp only
      k_steps
      refine retS k b _ _ _ _ _ (find_first hj hq (by simp only [way, Bool.or_eq_true, beq_iff_eq]; omega)) (by assumption) (sub_news (by assumption) (List.forall_mem_cons.mpr ⟨.head _, fun p hp => .tail _ (.tail _ (.tail _ hp))⟩)) (lt_all (And.right (And.right (by assumption))))
    · unfold TurnStep
      dsimp only
      k_steps
      refine retS k b _ _ _ _ _ (find_first hj hq (by simp only [way, Bool.or_eq_true, beq_iff_eq]; omega)) (by assumption) (sub_news (by assumption) (List.forall_mem_cons.mpr ⟨.head _, fun p hp => .tail _ (.tail _ (.tail _ hp))⟩)) (lt_all (And.right (And.right (by assumption))))
    · refine go0 (by assumption) ⟨fun j hj' p hp => ?_, rfl⟩ (sub_news (by assumption) (fun p hp => .tail _ hp))
      by_cases q : j < i
      · exact hj j q p hp
      · obtain rfl : j = i := by omega
        rw [hq] at hp
        obtain rfl := Option.some.inj hp
        simp only [way, Bool.or_eq_false_iff, beq_eq_false_iff_ne]
        omega
  · rintro I hI m1 nw h tk ⟨hj, rfl⟩ F1 N1
    k_steps
    exact retN (find_never (by rw [← hR.1]; exact hj)) _ _ (by assumption) (by assumption)
def TellsAt (w : World) (A : Around) (l : Addr) (Q E : Value → Shared → Prop) (s : Shared) : Prop := wpAny (model PySem.Challenge.rw_pf0401_01.row.prog w) A (PySem.call (.ref 383) [.ref l]) Q E s
theorem tells_stop {w : World} {A : Around} {l : Addr} {Q E : Value → Shared → Prop} {s : Shared} (h : TellsAt w A l Q E s) : wpAny (model PySem.Challenge.rw_pf0401_01.row.prog w) A (PySem.call (.ref 383) [.ref l]) Q E s := h
example : True := by
  (k_with "call ref" => ((k_here; refine tells_stop ?_)))
  trivial
theorem rows4 {a b c d : Addr} {k1 k2 k3 k4 : Int} {t1 t2 t3 t4 u1 u2 u3 u4 : Tok} {b1 b2 b3 b4 : Array UInt8} :
    Rows #[.ref a, .ref b, .ref c, .ref d] [(d, tupOf #[.int k4 t4, .bytes b4 u4]), (c, tupOf #[.int k3 t3, .bytes b3 u3]), (b, tupOf #[.int k2 t2, .bytes b2 u2]), (a, tupOf #[.int k1 t1, .bytes b1 u1])] [(k1, b1), (k2, b2), (k3, b3), (k4, b4)] := by
  refine ⟨rfl, fun i k b' h => ?_⟩
  match i, h with
  | 0, h => cases h; exact ⟨a, t1, u1, rfl, by simp⟩
  | 1, h => cases h; exact ⟨b, t2, u2, rfl, by simp⟩
  | 2, h => cases h; exact ⟨c, t3, u3, rfl, by simp⟩
  | 3, h => cases h; exact ⟨d, t4, u4, rfl, by simp⟩
theorem range_ways {prog : Program} {w : World} {A : Around} {E : Value → Shared → Prop} {s : Shared} {m : Str → Option Value} {news : List (Addr × Obj)} {env : Env} {target : Expr} {body : List Stmt} {Q : Flow → Shared → Prop} {L : Addr} {g : Heap} {r R src : Addr} {b x y : Int} {t u v tx ty : Tok} {n cnt : Nat} {extra : List (Addr × Obj)}
    (hh : A.handled = none) (hr : IsRange s.heap r 0 b 1 t u v) (hb0 : 0 ≤ b) (hb : b < 6) (F : Fr g L s.heap m) (N : News g L s.heap (extra ++ (R, W.listOf #[] cnt) :: (src, W.listOf #[.int x tx, .int y ty] n) :: news)) (hx : 0 ≤ x)
    (h1 : m "source" = some (.ref src)) (h2 : m "rows" = some (.ref R)) (h3 : m "due" = some .none) (hR : ∀ q ∈ news, q.1 ≠ R) (hS : ∀ q ∈ news, q.1 ≠ src)
    (step : ∀ I, (∀ p ∈ (R, W.listOf #[] cnt) :: (src, W.listOf #[.int x tx, .int y ty] n) :: news, p.1 < I) → ∀ i k t m news' it h tk, i < 6 → JW src R n news I i m news' → Fr g L h m → News g L h ((I, it) :: news') →
      wpAny (model prog w) A (assign target env (.int k t)) (fun _ s₂ => wpAny (model prog w) A (execs body env) (TurnStep callerA g [] g L [(I, it)] (JW src R n news I (i + 1)) s Q) (fun _ _ => False) s₂) (fun _ _ => False) { s with heap := h, toks := tk })
    (done : ∀ I i m news' h tk, i < 6 → JW src R n news I i m news' → Fr g L h m → News g L h news' → Q .next { s with heap := h, toks := tk })
    (ht : ∀ I v, letOwnedTupleGo target (.ref I) v = pure () := by intro _ _; rfl) : ForFrom (model prog w) A target body env Q E (.ref r) s := by
  refine range0 (n := b.toNat) ((R, W.listOf #[] cnt) :: (src, W.listOf #[.int x tx, .int y ty] n) :: news) (JW src R n news) hh hr (range_small (by omega) (by omega) (by omega) (by omega)) (by rw [rangeSize_up, Int.sub_zero]) F N (fun p hp => List.mem_append_right _ hp) ?_ ?_
    (fun I hI i k t m nw it h tk hi hk hj F N => step I hI i k t m nw it h tk (by omega) hj F N) (fun I _ m nw h tk hj F N => done I _ m nw h tk (by omega) hj F N) ht
  · rintro I hI i m nw ⟨_, _, x', y', tx', ty', items, cnt', ex, ks, dv, _, _, _, _, _, hex, _, _, rfl⟩ p hp
    simp only [List.mem_cons, List.mem_append] at hp
    rcases hp with rfl | rfl | hp | hp
    · exact Nat.ne_of_lt (hI (R, W.listOf #[] cnt) (by simp))
    · exact Nat.ne_of_lt (hI (src, W.listOf #[.int x tx, .int y ty] n) (by simp))
    · exact hex p hp
    · exact Nat.ne_of_lt (hI p (by simp [hp]))
  · intro I hI
    exact ⟨h1, h2, x, y, tx, ty, #[], cnt, [], [], .none, hx, h3, ⟨rfl, fun i k b h => by simp at h⟩, rfl, rfl, (fun p hp => nomatch hp), hR, hS, rfl⟩
theorem ways_c {w : World} {p : Program} {loose : List Str} {mean : ExcName → Option Value} {mg mb : Str → Option Value} {dp un : Nat} {gd : Option (List Code)} {cn : Str} {cs : Scope} {a : Addr} {ccd : Value} {cl : List (Str × Addr)} {outer : List Env} {A₀ : Around} {base h₀ : Heap} {L : Addr} {m : Str → Option Value} {news : List (Addr × Obj)} {s : Shared} {Q E : Value → Shared → Prop}
    {src : Addr} {x y : Int} {tx ty : Tok} {n : Nat}
    (B : Below A₀ base outer h₀) (F : Fr h₀ L s.heap m) (X : (hd.heap_1 w.params).In h₀) (N : News h₀ L s.heap ((src, W.listOf #[.int x tx, .int y ty] n) :: news)) (hne : ∀ q ∈ news, q.1 ≠ src) (T : Top p loose mean mg mb h₀) (hk : cs.kind = .function)
    (hdp : dp < 500) (hun : un < 7000) (hx : 0 ≤ x)
    (ret : ∀ x' y' tx' ty' h' tk', Fr h₀ L h' m → News h₀ L h' ((src, W.listOf #[.int x' tx', .int y' ty'] n) :: news) → 0 ≤ x' → Q (.bool true) { s with heap := h', toks := tk' }) :
    wpAny (model PySem.Challenge.rw_pf0401_01.row.prog w) (ktrTop dp un gd cn cs L a ccd cl outer) (call (.ref 528) [.ref src]) Q E s := by
  refine wpAny_call ?_
  k_dflt cell_enter
  k_steps
  refine range_ways (extra := [_]) rfl (by assumption) (by assumption) (by assumption) (by assumption) (by assumption) (by assumption) (by with_unfolding_all rfl) (by with_unfolding_all rfl) (by with_unfolding_all rfl) ?_ ?_ ?_ ?_
  · exact ne_all (And.right (by assumption)) (Nat.le_refl _)
  · exact hne
  · --{
    intro I hI i k t m nw it h tk hi hJ F1 N1
    obtain ⟨hm1, hm2, x1, y1, tx1, ty1, items, cnt, ex, ks, dv, hx1, hm3, hR, hD, hl, hex, hA, hS, rfl⟩ := hJ
    rw [m_three hm1 hm2 hm3] at F1
    replace hI := allLt_of hI
    simp only [AllLt] at hI
    have hz := hR.1
    k_steps
    rcases hD.two with ⟨rfl, hfd⟩ | ⟨k0, b0, a0, t0, u0, rfl, hfd, hm0⟩
    · k_steps
      · exact ways_two (by assumption) (by assumption) rfl rfl rfl (by assumption) hR hl hfd (by assumption) hex hA hS ⟨by omega, by omega⟩ ⟨by omega, by omega⟩ ⟨by omega, by omega⟩
      · exact ways_one (by assumption) (undup (by assumption)) rfl rfl rfl (by assumption) hR hl (Due.none_on hfd (by assumption)) hex hA hS (by omega) (by omega) (by omega)
    · k_steps
      exact ways_one (by assumption) (by assumption) rfl rfl rfl (by assumption) hR hl (hD.same _ hfd (fun p hp => .tail _ hp)) hex hA hS (by omega) (by omega) (by omega)
    --}
  · intro I i m1 nw h tk hi hJ F1 N1
    obtain ⟨hm1, hm2, x1, y1, tx1, ty1, items, cnt, ex, ks, dv, hx1, hm3, hR, hD, hl, hex, hA, hS, rfl⟩ := hJ
    rw [m_three hm1 hm2 hm3] at F1
    k_steps
    unfold TellsAt
    with_unfolding_all refine tells_c (by assumption) (by assumption) (by assumption) (by assumption) (by assumption) (by first | assumption | exact rfl) (by walk_at "my small") (by walk_at "my small") (by k_mem) rows4 (by (repeat (refine List.forall_mem_cons.mpr ⟨?_, ?_⟩; (focus ((k_mem); done)))); exact List.forall_mem_nil _) ?_ ?_
    · intro hc; exact absurd hc (by decide)
    · intro k9 b9 d9 t9 u9 h9 tk9 hc F9 N9 l9
      obtain ⟨rfl, rfl⟩ : k9 = 137 ∧ b9 = #[97] := by
        have e : ((137 : Int), (#[97] : Array UInt8)) = (k9, b9) := Option.some.inj hc
        exact ⟨(congrArg Prod.fst e).symm, (congrArg Prod.snd e).symm⟩
      replace l9 := allLt_of l9
      simp only [AllLt] at l9
      k_steps
      unfold TellsAt
      with_unfolding_all refine tells_c (by assumption) (by assumption) (by assumption) (by assumption) (by assumption) (by first | assumption | exact rfl) (by walk_at "my small") (by walk_at "my small") (by k_mem) hR (fun p hp => by (repeat (first | exact List.mem_append_left _ hp | refine List.Mem.tail _ ?_))) ?_ ?_
      · intro hc h8 tk8 F8 N8
        rcases hD.two with ⟨rfl, hfd⟩ | ⟨k0, b0, a0, t0, u0, rfl, hfd, hm0⟩
        · k_steps
          exact ret _ _ _ _ _ _ (by assumption) (sub_news (by assumption) (List.forall_mem_cons.mpr ⟨by k_mem, fun p hp => by (repeat (first | exact List.mem_append_right _ hp | refine List.Mem.tail _ ?_))⟩)) (by assumption)
        · rw [hc] at hfd; cases hfd
      · intro k8 b8 d8 t8 u8 h8 tk8 hc F8 N8 l8
        rcases hD.two with ⟨rfl, hfd⟩ | ⟨k0, b0, a0, t0, u0, rfl, hfd, hm0⟩
        · rw [hc] at hfd; cases hfd
        · rw [hc] at hfd
          obtain ⟨rfl, rfl⟩ : k8 = k0 ∧ b8 = b0 := ⟨congrArg Prod.fst (Option.some.inj hfd), congrArg Prod.snd (Option.some.inj hfd)⟩
          replace N8 := dup1 N8 (p := (a0, tupOf #[.int k8 t0, .bytes b8 u0])) (by (repeat (first | exact List.mem_append_left _ hm0 | refine List.Mem.tail _ ?_)))
          k_steps
          exact ret _ _ _ _ _ _ (by assumption) (sub_news (by assumption) (List.forall_mem_cons.mpr ⟨by k_mem, fun p hp => by (repeat (first | exact List.mem_append_right _ hp | refine List.Mem.tail _ ?_))⟩)) (by assumption)
example : True := by
  w_top off
  k_with_none
  trivial
example : True := by
  (k_with "my mem" => with_reducible (k_extra "my mem1"))
  (k_with "my mem1" => (first | exact List.Mem.head _ | (refine' List.Mem.tail _ ?_; k_extra "my mem1")))
  (k_with "my k_lt" => ((rename (∀ p : Addr × Obj, p ∈ _ → p.1 < _) => l1q); (replace l1q := allLt_of l1q); (simp only [AllLt, and_true] at l1q); (first | ((with_reducible refine spa15 l1q ?_); intro f0q f1q f2q f3q f4q f5q f6q f7q f8q f9q f10q f11q f12q f13q f14q) | ((with_reducible refine spa14 l1q ?_); intro f0q f1q f2q f3q f4q f5q f6q f7q f8q f9q f10q f11q f12q f13q) | ((with_reducible refine spa13 l1q ?_); intro f0q f1q f2q f3q f4q f5q f6q f7q f8q f9q f10q f11q f12q) | ((with_reducible refine spa12 l1q ?_); intro f0q f1q f2q f3q f4q f5q f6q f7q f8q f9q f10q f11q) | ((with_reducible refine spa11 l1q ?_); intro f0q f1q f2q f3q f4q f5q f6q f7q f8q f9q f10q) | ((with_reducible refine spa10 l1q ?_); intro f0q f1q f2q f3q f4q f5q f6q f7q f8q f9q) | ((with_reducible refine spa9 l1q ?_); intro f0q f1q f2q f3q f4q f5q f6q f7q f8q) | ((with_reducible refine spa8 l1q ?_); intro f0q f1q f2q f3q f4q f5q f6q f7q) | ((with_reducible refine spa7 l1q ?_); intro f0q f1q f2q f3q f4q f5q f6q) | ((with_reducible refine spa6 l1q ?_); intro f0q f1q f2q f3q f4q f5q) | ((with_reducible refine spa5 l1q ?_); intro f0q f1q f2q f3q f4q) | ((with_reducible refine spa4 l1q ?_); intro f0q f1q f2q f3q) | ((with_reducible refine spa3 l1q ?_); intro f0q f1q f2q) | ((with_reducible refine spa2 l1q ?_); intro f0q f1q) | ((with_reducible refine spa1 l1q ?_); intro f0q) | ((with_reducible refine spb12 l1q ?_); intro f0q f1q f2q f3q f4q f5q f6q f7q f8q f9q f10q f11q) | ((with_reducible refine spb11 l1q ?_); intro f0q f1q f2q f3q f4q f5q f6q f7q f8q f9q f10q) | ((with_reducible refine spb10 l1q ?_); intro f0q f1q f2q f3q f4q f5q f6q f7q f8q f9q) | ((with_reducible refine spb9 l1q ?_); intro f0q f1q f2q f3q f4q f5q f6q f7q f8q) | ((with_reducible refine spb8 l1q ?_); intro f0q f1q f2q f3q f4q f5q f6q f7q) | ((with_reducible refine spb7 l1q ?_); intro f0q f1q f2q f3q f4q f5q f6q) | ((with_reducible refine spb6 l1q ?_); intro f0q f1q f2q f3q f4q f5q) | ((with_reducible refine spb5 l1q ?_); intro f0q f1q f2q f3q f4q) | ((with_reducible refine spb4 l1q ?_); intro f0q f1q f2q f3q) | ((with_reducible refine spb3 l1q ?_); intro f0q f1q f2q) | ((with_reducible refine spb2 l1q ?_); intro f0q f1q) | skip); revert l1q))
  (k_with "my cj" => (first | with_reducible assumption | exact And.left (by with_reducible assumption) | exact And.left (And.right (by with_reducible assumption)) | exact And.left (And.right (And.right (by with_reducible assumption))) | exact And.left (And.right (And.right (And.right (by with_reducible assumption)))) | exact And.right (by with_reducible assumption) | exact And.right (And.right (by with_reducible assumption)) | exact And.right (And.right (And.right (by with_reducible assumption)))))
  (k_with "my lt" => (first | with_reducible assumption | exact Nat.lt_add_one _ | exact lt_r _ (by first | with_reducible assumption | exact Nat.lt_add_one _) | exact lt_r _ (lt_r _ (by first | with_reducible assumption | exact Nat.lt_add_one _)) | exact lt_r _ (lt_r _ (lt_r _ (by first | with_reducible assumption | exact Nat.lt_add_one _))) | exact lt_r _ (lt_r _ (lt_r _ (lt_r _ (by first | with_reducible assumption | exact Nat.lt_add_one _)))) | exact lt_r _ (lt_r _ (lt_r _ (lt_r _ (lt_r _ (by first | with_reducible assumption | exact Nat.lt_add_one _))))) | exact lt_r _ (lt_r _ (lt_r _ (lt_r _ (lt_r _ (lt_r _ (by first | with_reducible assumption | exact Nat.lt_add_one _))))))))
  (k_with "my ne" => (first | with_reducible assumption | exact Ne.symm (by with_reducible assumption) | (refine neN ?_; (try dsimp only); first | exact Nat.ne_of_gt (by k_extra "my lt") | exact Nat.ne_of_lt (by k_extra "my lt") | k_extra "my cj" | exact Ne.symm (by k_extra "my cj"))))
  (k_with "my om" => k_dflt (first | with_reducible assumption | ((with_reducible show @LT.lt Nat _ _ _); (first | exact q_lt0 (by with_reducible assumption) (by rfl) | exact q_lt1 (by with_reducible assumption) (by rfl) | exact q_lt2 (by with_reducible assumption) (by rfl) | exact q_lt3 (by with_reducible assumption) (by rfl) | exact q_le4 (by with_reducible assumption) (by rfl) | exact q_eq1 (by with_reducible assumption) (by rfl) | k_extra "my lt" | k_extra "my cj" | decide)) | ((with_reducible show @LE.le Nat _ _ _); (first | exact q_le0 (by with_reducible assumption) (by rfl) | exact q_le1 (by with_reducible assumption) (by rfl) | exact q_le2 (by with_reducible assumption) (by rfl) | exact q_le3 (by with_reducible assumption) (by rfl) | exact q_eq0 (by with_reducible assumption) (by rfl) | k_extra "my cj" | decide)) | ((with_reducible show @LT.lt Int _ _ _); (first | exact q_il0 (by with_reducible assumption) (by rfl) | exact q_il1 (by with_reducible assumption) (by rfl) | exact q_il3 (by with_reducible assumption) (by rfl) | k_extra "my cj" | decide)) | ((with_reducible show @LE.le Int _ _ _); (first | exact q_il2 (by with_reducible assumption) (by rfl) | k_extra "my cj" | decide)) | ((with_reducible show @Ne Nat _ _); k_extra "my ne") | decide))
  trivial
example : True := by
  (k_with "my in" => (repeat (first | exact List.Mem.head _ | refine List.Mem.tail _ ?_ | refine List.mem_append_right _ ?_)))
  (k_with "my at" => (repeat (first | assumption | exact List.mem_append_left _ (by assumption) | refine List.Mem.tail _ ?_ | refine List.mem_append_right _ ?_)))
  (k_with "my perm" => ((try simp only [List.cons_append, List.nil_append, List.append_assoc]); (repeat (refine List.forall_mem_cons.mpr ⟨?_, ?_⟩; (focus ((walk_at "my in"); done)))); first | exact List.forall_mem_nil _ | (intro q9 hq9; (try (have hq8 := List.mem_append.mp hq9; clear hq9; rcases hq8 with hq9 | hq9)); (all_goals (try (have hq7 := List.mem_cons.mp hq9; clear hq9; rcases hq7 with hq7 | hq9))); (all_goals (try (have hq7 := List.mem_cons.mp hq9; clear hq9; rcases hq7 with hq7 | hq9))); all_goals first | (subst hq7; walk_at "my in"; done) | (repeat (first | exact hq9 | exact List.mem_append_left _ hq9 | refine List.Mem.tail _ ?_ | refine List.mem_append_right _ ?_)))))
  (k_with "my bnd" => (first | omega | exact Int.lt_of_lt_of_le (by decide) (fmod_lo _ (by decide)) | exact Int.lt_trans (fmod_hi _ (by decide)) (by decide)))
  (k_with "binaryOp Mult int int" => (((with_reducible show wpAny _ _ (binaryOp Operator.Mult (Value.int _ _) (Value.int _ _)) _ _ _); refine mul_int ?_ (IntMulOk.of_left (intBits_le_64 ?mlo ?mhi)); (case mlo => walk_at "my bnd"); (case mhi => walk_at "my bnd"))))
  (k_with "binaryOp FloorDiv int int" => (((with_reducible show wpAny _ _ (binaryOp Operator.FloorDiv (Value.int _ _) (Value.int _ _)) _ _ _); refine floordiv_int ?fne ?_ (Or.inl (PyProof.noPylong_of_log2 (log2_small ?flo ?fhi))); (case fne => omega); (case flo => omega); (case fhi => omega))))
  (k_with "execs cons" => ((k_here; refine fold_stmt ?_; intro qk sk)))
  trivial
example : True := by
  (k_with "eval Name" => ((k_here; k_dflt (first
    | (refine' name_l ?F ?e ?v ?a ?b ?d ?_; (case F => k_asm); (case e => rfl); (case b => rfl); (case v => rfl); (case a => rfl); (case d => decide); k_whole)
    | (refine' nameX_K ?F ?X ?T ?e ?_ ?a ?b; (case F => k_asm); (case b => rfl); (case X => k_asm); (case T => k_asm); (case a => rfl); (case e => k_is); k_whole)
    | (refine' nameX_B ?F ?X ?T ?e ?v ?n ?_ ?a ?b; (case F => k_asm); (case b => rfl); (case X => k_asm); (case T => k_asm); (case a => rfl); (case e => k_is); (case v => boot_fast); (case n => decide); k_whole)))))
  (k_with "storeName" => ((k_here; k_dflt (refine' store_l ?F ?N ?e ?a ?b ?_; (case F => k_asm); (case N => k_asm); (case e => rfl); (case a => rfl); (case b => rfl); k_whole; intro h' mk F' N'; (try k_sweep)))))
  trivial
example : True := by
  (k_with "my steps" => (repeat' (first | ((try k_unmd); k_unfold; (try dsimp only)) | (k_end; wrow_close) | walk1 | (dsimp only; walk1) | (leave1; walk_say "STEP leave1"; try dsimp only) | fail "no step")))
  (k_with "my fold0" => ((refine fold_entry ?_; intro Ak envk qk ek sk; (rename Fr _ _ _ _ => kF); (refine fr_let kF ?_); clear kF; intro mk kF)))
  (k_with "my units" => ((have hcL9 := cLine_is; (simp (config := { zetaDelta := true }) only [units_in1, units_deeper, Around.mark_units, units_caller, ktrTop]); omega)))
  (k_with "my room" => (((simp (config := { zetaDelta := true }) only [depth_under_make, depth_under_kw, depth_in1, depth_deeper, depth_caller, ktrTop, recursionLimit]); omega)))
  (k_with "callWith ref" => (k_here; k_dflt (first
    | (refine' callWith_K ?k1 ?k2 ?_; (case k1 => with_reducible assumption); (case k2 => k_is); k_whole)
    | (refine' callw_0 ?k0 ?k1 ?k2 ?_; (case k0 => with_reducible assumption); (case k1 => with_reducible assumption); (case k2 => k_is); k_whole)
    | (refine' callw_m0 ?k0 ?kN ?k1 ?kq ?k2 ?_; (case k0 => with_reducible assumption); (case kN => with_reducible assumption); (case k1 => with_reducible assumption); (case kq => k_mem); (case k2 => k_is); k_whole; try dsimp only [List.nil_append, List.cons_append])
    | (refine' callWith_M ?k1 ?k2 ?k3 ?k4 ?_; (case k1 => with_reducible assumption); (case k2 => with_reducible assumption); (case k3 => k_mem); (case k4 => k_is); k_whole)
    | (refine' callWith_KW ?k1 ?k2 ?k3 ?_; (case k1 => with_reducible assumption); (case k2 => k_is); (case k3 => exact rfl); k_whole)
    | (refine' callWith_KW0 ?k1 ?k2 ?k3 ?_; (case k1 => with_reducible assumption); (case k2 => k_is); (case k3 => exact rfl); k_whole))))
  (k_with "compareOp IsNot ref ref" => (k_here; first | (with_reducible refine isnot_ref_same ?_) | refine wpAny_isNot_ref_self ?_))
  (k_with "my stop" => ((rename Mark => mk9); clear mk9; refine stop_at ?_))
  (k_with "subscriptTail" => (k_extra "my stop"))
  (k_with "getMethod ref" => (k_extra "my stop"))
  trivial
example : True := by
  (k_with "my small" => (first | omega | ((try simp (config := { zetaDelta := true }) only [depth_under_make, depth_under_kw, depth_in1, depth_deeper, depth_caller, units_in1, units_deeper, Around.mark_units, units_caller]); (try simp (config := { zetaDelta := true }) only [ktrTop]); first | omega | decide)))
  (k_with "exec Raise some none" => ((k_here; (with_reducible show wpAny _ _ (exec (Stmt.Raise (some (Expr.Call (Expr.Name ("FormError" : Str) _) _ _ _)) none _) _) _ _ _); k_dflt (refine raise_form (by assumption) (by first | assumption | with_unfolding_all rfl) ?_))))
  (k_with "exec Raise some none" => ((k_here; (with_reducible show wpAny _ _ (exec (Stmt.Raise (some (Expr.Call (Expr.Name ("SizeError" : Str) _) _ _ _)) none _) _) _ _ _); k_dflt (refine raise_size (by assumption) (by first | assumption | with_unfolding_all rfl) ?_))))
  (k_with "call ref" => ((k_here; first
  | ((with_reducible show wpAny _ _ (call (Value.ref 51) [Value.str _ _]) _ _ _); (refine' make_form ?kF ?kX ?kN ?kh ?kf ?kd ?ku ?_); (case kF => assumption); (case kX => assumption); (case kN => assumption); (case kh => with_unfolding_all exact rfl); (case kf => with_unfolding_all exact rfl); (case kd => walk_at "my small"); (case ku => walk_at "my small"); k_whole; intro e' o' h' tk' hx' F' N' ne')
  | ((with_reducible show wpAny _ _ (call (Value.ref 63) [Value.str _ _]) _ _ _); (refine' make_size ?kF ?kX ?kN ?kh ?kf ?kd ?ku ?_); (case kF => assumption); (case kX => assumption); (case kN => assumption); (case kh => with_unfolding_all exact rfl); (case kf => with_unfolding_all exact rfl); (case kd => walk_at "my small"); (case ku => walk_at "my small"); k_whole; intro e' o' h' tk' hx' F' N' ne'))))
  (k_with "OwnUp ref" => ((refine ⟨_, _, rfl, by assumption, Frag.In.keeps (by assumption) (Fr.keep (by assumption)), (News.get (by assumption) (.head _)), ?_⟩)))
  (k_with "leaving ref" => ((k_here; first
  | ((refine' leave_led ?kB ?kf ?kk ?kF ?kN ?kx ?kn ?_); (case kx => assumption); (case kF => assumption); (case kN => assumption); (case kB => assumption); (case kf => with_unfolding_all exact rfl); (case kk => first | assumption | with_unfolding_all exact rfl); (case kn => assumption); k_whole; intro h' R' U'; (try dsimp only at R' U' ⊢))
  | ((refine' leave_up ?kB ?kf ?kF ?kR ?kU ?_); (case kR => assumption); (case kF => assumption); (case kB => assumption); (case kf => with_unfolding_all exact rfl); (case kU => assumption); k_whole; intro h' R' U'; (try dsimp only at R' U' ⊢)))))
  (k_with "turn enter" => ((refine' code_T ?k1 ?k2 ?k3 ?k4 ?k5 ?kD ?kA ?kF ?kK ?k6 ?k7 ?k8 ?k9 ?kB ?_ ?c2 ?c3 ?c4 ?c5; (case kA => exact rfl); (case kF => exact rfl); (case kK => assumption); (case k1 => k_asm); (case k2 => k_asm); (case k3 => k_asm); (case k4 => k_asm); (case k5 => k_asm); (case kD => assumption); (case k6 => k_is); (case k7 => k_is); (case k8 => ktr_room); (case k9 => exact BindsTo.of_eq rfl); (case c5 => decide); (case kB => exact locs rfl); (case c2 => exact rfl); (case c3 => exact rfl); (case c4 => exact rfl); k_whole; intro g' L' h' FG' F' N' B' X' T' D' l1; (try dsimp only); (try k_lift B'); (try k_fold))))
  (k_with "my size" => ((rw [KBw.ints_length]; first | omega | (simp only [Array.size_append]; omega))))
  (k_with "subscriptTail" => ((k_here; (with_reducible show wpAny _ _ (subscriptTail _ (Expr.Slice _ _ none _) (Value.bytes _ _) (Value.ref _)) _ _ _); (with_reducible rename Fr _ _ _ _ => F'); (with_reducible rename News _ _ _ _ => N'); (refine KBc.slice_K (s := ⟨_, _, _, _, _⟩) F' N' rfl (by constructor) (by constructor) (by walk_at "my size") ?_); intro _ _ _ _ _ _)))
  (k_with "turn enter cells" => ((refine' code_TC ?k1 ?k2 ?k3 ?k4 ?k5 ?kG ?kA ?kF ?kK ?k6 ?k7 ?k8 ?k9 ?kB ?kD ?_ ?c2 ?c3 ?c4; (case kA => exact rfl); (case kF => exact rfl); (case kK => assumption); (case k1 => k_asm); (case k2 => k_asm); (case k3 => k_asm); (case k4 => k_asm); (case k5 => k_asm); (case kG => assumption); (case k6 => k_is); (case k7 => k_is); (case k8 => ktr_room); (case k9 => exact BindsTo.of_eq rfl); (case kB => exact rfl); (case kD => decide +kernel); (case c2 => exact rfl); (case c3 => exact rfl); (case c4 => exact rfl); k_whole; intro g' L' h' tk' cells' FG' F' N' Y' B' X' T' D' l1; (try k_lt l1); (have l9 := l1); (repeat (replace l9 := And.right l9)); k_cells Y'; (try simp only [List.cons_append, List.nil_append] at N'); (first | (refine fr_one F' (by rfl) ?_; clear F'; intro F') | (refine fr_cell F' (by rfl) ?_; clear F'; intro F')); (try dsimp only); (try k_lift B'); (try k_fold))))
  (k_with "LeaveT" => ((k_dflt (refine' leaveT ?F ?N ?T ?_; (case F => k_asm); (case N => k_asm); (case T => first | assumption | exact KtsTurn.refl); k_whole); intro kg kT kF kN kB kD; (try dsimp only))))
  trivial
example : True := by
  (k_with "my all" => (first | exact ne_all (by assumption) (Nat.le_refl _) | exact ne_all (by assumption) (Nat.le_of_lt (by assumption)) | exact ne_all (by assumption) (by omega)))
  trivial
example : True := by
  (k_with "call type:bytes" => ((k_here; (with_reducible show wpAny _ _ (call (Value.type "bytes") [Value.bytes _ _]) _ _ _); refine MB.call_b ?_)))
  (k_with "call type:bytes" => ((k_here; (with_reducible show wpAny _ _ (call (Value.type "bytes") [Value.int _ _]) _ _ _); (refine MB.call_i ?bi0 ?bi1 ?_); (case bi0 => omega); (case bi1 => omega); intro _ _)))
  (k_with "lam enter" => ((refine' kla_code ?k1 ?k2 ?k3 ?k4 ?k5 ?kA ?kF ?kK ?k6 ?k7 ?k8 ?k9 ?kB ?_ ?c2 ?c3 ?c4 ?c5; (case kA => exact rfl); (case kF => exact rfl); (case kK => assumption); (case k1 => k_asm); (case k2 => k_asm); (case k3 => k_asm); (case k4 => k_asm); (case k5 => k_asm); (case k6 => k_mem); (case k7 => exact codeRec_news (by k_asm) (by k_mem) (by assumption) (by assumption)); (case k8 => ktr_room); (case k9 => exact rfl); (case c5 => decide); (case kB => exact locs rfl); (case c2 => exact rfl); (case c3 => exact rfl); (case c4 => exact rfl); k_whole; intro g' L' h' FG' F' N' B' X' T'; (try dsimp only); (try k_lift B'); (try k_fold))))
  (k_with "my sub" => ((refine sub_news (by assumption) ?_; (repeat (refine List.forall_mem_cons.mpr ⟨?_, ?_⟩; (focus ((k_mem); done)))); first | exact List.forall_mem_nil _ | (intro _ hp9; (repeat (first | exact hp9 | refine List.Mem.tail _ ?_))))))
  (k_with "same item" => (first | exact MQ.at_bytes _ _ _ | exact MQ.at_int _ _ _))
  (k_with "compareOp NotEq ref ref" => ((k_here; k_dflt (refine MQ.ne_list1 (News.isList (by assumption) (by k_mem)) (News.isList (by assumption) (by k_mem)) (by ktr_units) (by walk_at "same item") ?_))))
  trivial
example : True := by
  (k_with "call ref" => ((k_here; (with_reducible show wpAny _ _ (call (Value.ref 500) [Value.ref _, Value.int _ _]) _ _ _); (with_unfolding_all refine take_U (by assumption) (by assumption) (by assumption) (by assumption) (by k_updF) (by assumption) (by first | assumption | exact rfl) (by walk_at "my small") (by walk_at "my small") (by walk_at "my bnd") (by walk_at "my bnd") (by first | assumption | omega) ?_); intro d' x' y' td' tx' ty' h' tk' F' N' hd1' hd2' hx'; (try dsimp only at N'); (try k_sweep))))
  (k_with "my item" => ((refine item_at (by assumption) (by k_mem) (by assumption) (by assumption) (by assumption) ?_; intro _ hv')))
  (k_with "exec For Name Call cons nil" => ((k_here; k_dflt (refine For_from ?_))))
  (k_with "exec For Name List cons nil" => ((k_here; k_dflt (refine For_from ?_))))
  (k_with "binaryOp Add" => ((k_here; (with_reducible show wpAny _ _ (binaryOp Operator.Add (Value.ref _) (Value.ref _)) _ _ _); k_dflt (refine' menu_K ?mF ?mN ?ml ?mP ?mi ?mc ?mz ?_; (case mF => assumption); (case mN => assumption); (case ml => k_mem); (case mP => assumption); (case mi => repeat constructor); (case mc => assumption); (case mz => decide)); intro h' d' items' F' N' l1 hI'; (try k_lt l1))))
  (k_with "call builtin:list.append" => ((k_here; (with_reducible show wpAny _ _ (call (Value.builtin _) [Value.ref _, _]) _ _ _); k_dflt (refine' append_K ?k1 ?k2 ?k3 ?_ ?z; (case k1 => k_asm); (case k2 => k_asm); (case k3 => k_upd); (case z => rw [sizeLine_eq]; omega); k_whole); intro h' F' N'; (try k_sweep))))
  trivial
example : True := by
  (k_with "my ne2" => (first | k_extra "my ne" | (k_dflt (refine ne_cls (by assumption) (by k_mem) (by k_mem) rfl rfl (by decide))) | (refine neN ?_; (try dsimp only); omega (config := {}))))
  trivial
example : True := by
  (k_with "newTuple" => ((k_here; k_dflt (refine' kup_newTuple ?F ?N ?_ ?z; (case F => k_asm); (case N => k_asm); (case z => kmk_size)); intro D' h' F' N' l1; (try k_lt l1); (try k_sweep))))
  (k_with "exec For Tuple Name cons nil" => ((k_here; k_dflt (refine For_from ?_))))
  (k_with "my tup" => (exact tup_at (by assumption) (by k_mem)))
  (k_with "compareOp NotEq ref ref" => ((k_here; k_dflt (refine MQ.ne_tuple2 (by walk_at "my tup") (by walk_at "my tup") (by ktr_units) (by walk_at "same item") (by walk_at "same item") ?_))))
  (k_with "compareOp Eq ref ref" => ((k_here; k_dflt (refine eq_tuple2 (by walk_at "my tup") (by walk_at "my tup") (by ktr_units) (by walk_at "same item") (by walk_at "same item") ?_))))
  trivial
/-- a table of codes before or after its next def has been made, on top of p0; the code's address is none of av -/
def Lam (qual : Str) (line col : Nat) (p0 : Array Value) (av : Addr → Prop) (ps : Array Value) (ex : List (Addr × Obj)) : Prop :=
  (ps = p0 ∧ ex = []) ∨ ∃ c' oc vs t, ps = p0 ++ #[rawInt line, rawInt col, .ref c'] ∧ ex = [(c', oc)] ∧ oc.data = .fields vs ∧ vs[1]? = some (.str qual t) ∧ ∀ d, av d → c' ≠ d
theorem Lam.more {qual : Str} {line col : Nat} {p0 : Array Value} {av av' : Addr → Prop} {ps : Array Value} {ex : List (Addr × Obj)} (h : Lam qual line col p0 av ps ex) (k : ∀ d, av' d → av d ∨ ∀ p ∈ ex, p.1 ≠ d) : Lam qual line col p0 av' ps ex := by
  rcases h with ⟨h1, h2⟩ | ⟨c', oc, vs, t, h1, h2, h3, h4, h5⟩
  · exact .inl ⟨h1, h2⟩
  · refine .inr ⟨c', oc, vs, t, h1, h2, h3, h4, fun d hd => ?_⟩
    rcases k d hd with q | q
    · exact h5 d q
    · exact q (c', oc) (by rw [h2]; exact .head _)
theorem Lam.apart {qual : Str} {line col : Nat} {p0 : Array Value} {av : Addr → Prop} {ps : Array Value} {ex : List (Addr × Obj)} (h : Lam qual line col p0 av ps ex) {d : Addr} (hd : av d) : ∀ p ∈ ex, p.1 ≠ d := by
  rcases h with ⟨h1, rfl⟩ | ⟨c', oc, vs, t, h1, rfl, h3, h4, h5⟩
  · exact fun p hp => nomatch hp
  · intro p hp
    obtain rfl : p = (c', oc) := by simpa using hp
    exact h5 d hd
section
variable {M : Model} {A : Around} {E : Value → Shared → Prop} {s : Shared} {h₀ : Heap} {L a c P : Addr} {m mg mb : Str → Option Value} {cn : Str} {cs : Scope} {ccd : Value} {cl : List (Str × Addr)} {news : List (Addr × Obj)} {g : Obj → List (Addr × Obj)}
  {p : Program} {loose : List Str} {mean : ExcName → Option Value} {qual : Str} {params : Arguments} {body : Expr} {scope : Scope} {ps p0 : Array Value} {ex : List (Addr × Obj)} {pos : Pos} {clos : List (Str × Addr)} {av : Addr → Prop}
def LamPost (Q : Value → Shared → Prop) (h₀ : Heap) (L : Addr) (m : Str → Option Value) (s : Shared) (qual : Str) (av : Addr → Prop) (news : List (Addr × Obj)) (mk : Addr → Value → Obj) (gg : Addr → List (Addr × Obj)) : Prop :=
  ∀ f c' oc vs t ctv h' tk, Fr h₀ L h' m → News h₀ L h' ((f, mk c' ctv) :: (c', oc) :: gg c') → oc.data = .fields vs → vs[1]? = some (.str qual t) → (∀ d, av d → c' ≠ d) → (∀ q ∈ news, q.1 < f) → c' < f → Q (.ref f) { s with heap := h', toks := tk }
theorem lam_any {Q : Value → Shared → Prop} (F : Fr h₀ L s.heap m) (N : News h₀ L s.heap news) (T : Top p loose mean mg mb h₀) (C : CodeHd h₀ c P) (hcd : ccd = .ref c) (U : UpdF P (tabObj ps) news g) (hL : Lam ((envX cn cs L a ccd cl).qual ++ "<lambda>") pos.line pos.col p0 av ps ex)
    (hex : ∀ q ∈ ex, q ∈ news) (hav : ∀ d, av d → ∃ o, (d, o) ∈ news) (ht : TriplesOk p0.toList) (hnf : codeAmong pos p0.toList = none) (hdef : defaultsOf params (envX cn cs L a ccd cl) = ([], [])) (hcl : closureFor scope (envX cn cs L a ccd cl) = pure clos)
    (h : LamPost Q h₀ L m s ((envX cn cs L a ccd cl).qual ++ "<lambda>") av news (fun c' ctv => kla_obj "<lambda>" ((envX cn cs L a ccd cl).qual ++ "<lambda>") params body scope clos ((mg "__name__").getD .none) c' ctv) (fun c' => g (tabObj (p0 ++ #[rawInt pos.line, rawInt pos.col, .ref c'])))) :
    wpAny M A (eval (.Lambda params body scope pos) (envX cn cs L a ccd cl)) Q E s := by
  refine kla_eval hdef ?_
  rcases hL with ⟨rfl, rfl⟩ | ⟨c', oc, vs, t, rfl, rfl, h3, h4, h5⟩
  · refine kla_nest F N T C hcd U ht hnf hcl fun f c' oc vs t ctv h' tk F' N' e1 e2 l1 l2 => h f c' oc vs t ctv h' tk F' N' e1 e2 (fun d hd => ?_) (fun q hq => Nat.lt_trans (l1 q hq) l2) l2
    obtain ⟨o, ho⟩ := hav d hd
    exact Nat.ne_of_gt (l1 _ ho)
  · obtain ⟨pre, post, rfl, hg, _, _⟩ := U.split
    have hm : (P, tabObj (p0 ++ #[rawInt pos.line, rawInt pos.col, .ref c'])) ∈ pre ++ (P, tabObj (p0 ++ #[rawInt pos.line, rawInt pos.col, .ref c'])) :: post := List.mem_append_right _ (.head _)
    have hc := hex _ (.head _)
    refine kla_hit F N T C hcd hm (by rw [Array.toList_append]; exact TriplesOk_snoc _ _ _ _ ht) (by rw [Array.toList_append]; exact codeAmong_snoc _ ht hnf) hcl fun f ctv h' tk F' N' l => h f c' oc vs t ctv h' tk F' (sub_news N' fun q hq => ?_) h3 h4 h5 l (l _ hc)
    dsimp only at hq
    rw [hg] at hq
    rcases List.mem_cons.mp hq with rfl | hq
    · exact .head _
    · rcases List.mem_cons.mp hq with rfl | hq
      · exact .tail _ hc
      · exact .tail _ hq
/-- an expression that comes out as a truth value, its walk done with the rest of the law out of sight -/
theorem eval_two {env : Env} {e : Expr} {Q : Value → Shared → Prop} (cond : Prop) (h : ∀ Q' : Value → Shared → Prop, (cond → ∀ tk, Q' (.bool true) { s with toks := tk }) → (¬ cond → ∀ tk, Q' (.bool false) { s with toks := tk }) → wpAny M A (eval e env) Q' E s)
    (hT : cond → ∀ tk, Q (.bool true) { s with toks := tk }) (hF : ¬ cond → ∀ tk, Q (.bool false) { s with toks := tk }) : wpAny M A (eval e env) Q E s := h Q hT hF
end
theorem bytes_range {prog : Program} {w : World} {A : Around} {E : Value → Shared → Prop} {s : Shared} {h₀ : Heap} {L r : Addr} {m : Str → Option Value} {news : List (Addr × Obj)} {Q : Value → Shared → Prop} {a b : Int} {t u v : Tok}
    (F : Fr h₀ L s.heap m) (N : News h₀ L s.heap news) (hh : A.handled = none) (hr : IsRange s.heap r a b 1 t u v) (h0 : 0 ≤ a) (h1 : a ≤ b) (h2 : b ≤ 256)
    (h : ∀ (bs : Array UInt8) h' t' tk', (bs.size : Int) = b - a → Fr h₀ L h' m → News h₀ L h' news → Q (.bytes bs t') { s with heap := h', toks := tk' }) : wpAny (model prog w) A (call (.type "bytes") [.ref r]) Q E s := by
  refine MB.call_r (n := (b - a).toNat) hh hr (range_small (by omega) (by omega) (by omega) (by omega)) (rangeSize_up a b) h0 (by omega) fun h' t' tk' hk => ?_
  refine h _ h' t' tk' ?_ (F.keeps hk) (fun p hp => ⟨hk _ _ (N p hp).1, (N p hp).2⟩)
  rw [byteArr_size, rangeKs_length]
  omega
section
variable {M : Model} {A : Around} {E : Value → Shared → Prop} {s : Shared} {env : Env} {Q : Flow → Shared → Prop}
def SetAt (M : Model) (A : Around) (x : Str) (pos' : Pos) (e : Expr) (pos : Pos) (env : Env) (Q : Flow → Shared → Prop) (E : Value → Shared → Prop) (s : Shared) : Prop := wpAny M A (exec (.Assign [.Name x pos'] e pos) env) Q E s
theorem set_stop {x : Str} {pos' pos : Pos} {e : Expr} (h : SetAt M A x pos' e pos env Q E s) : wpAny M A (exec (.Assign [.Name x pos'] e pos) env) Q E s := h
theorem set_two {x : Str} {pos' pos : Pos} {e : Expr} (cond : Prop) (h : ∀ Q' : Value → Shared → Prop, (cond → ∀ tk, Q' (.bool true) { s with toks := tk }) → (¬ cond → ∀ tk, Q' (.bool false) { s with toks := tk }) → wpAny M A (eval e env) Q' E s)
    (hT : cond → ∀ tk, wpAny M A (storeName env x (.bool true)) (fun _ => Q .next) E { s with toks := tk }) (hF : ¬ cond → ∀ tk, wpAny M A (storeName env x (.bool false)) (fun _ => Q .next) E { s with toks := tk })
    (hs : swapsWith e (some (.Name x pos')) pos.line env = pure false := by rfl) : SetAt M A x pos' e pos env Q E s := wpAny_Assign_Name (h _ hT hF) hs
theorem set_one {x : Str} {pos' pos : Pos} {e : Expr} (cond : Prop) (h : ∀ Q' : Value → Shared → Prop, (cond → ∀ tk, Q' (.bool true) { s with toks := tk }) → (¬ cond → ∀ tk, Q' (.bool false) { s with toks := tk }) → wpAny M A (eval e env) Q' E s)
    (k : ∀ b : Bool, (b = true ↔ cond) → ∀ tk, wpAny M A (storeName env x (.bool b)) (fun _ => Q .next) E { s with toks := tk }) (hs : swapsWith e (some (.Name x pos')) pos.line env = pure false := by rfl) : SetAt M A x pos' e pos env Q E s :=
  wpAny_Assign_Name (h _ (fun hc tk => k true ⟨fun _ => hc, fun _ => rfl⟩ tk) (fun hc tk => k false ⟨fun q => Bool.noConfusion q, fun q => absurd q hc⟩ tk)) hs
theorem set_if {x : Str} {pos' pos pos2 : Pos} {test a b : Expr} (cond : Prop) (h : ∀ Q' : Bool → Shared → Prop, (cond → ∀ tk, Q' true { s with toks := tk }) → (¬ cond → ∀ tk, Q' false { s with toks := tk }) → wpAny M A (isTrue test env (eval test env)) Q' E s)
    (hT : cond → ∀ tk, wpAny M A (eval a env) (fun v s₁ => wpAny M A (storeName env x v) (fun _ => Q .next) E s₁) E { s with toks := tk }) (hF : ¬ cond → ∀ tk, wpAny M A (eval b env) (fun v s₁ => wpAny M A (storeName env x v) (fun _ => Q .next) E s₁) E { s with toks := tk })
    (hs : swapsWith (.IfExp test a b pos2) (some (.Name x pos')) pos.line env = pure false := by rfl) : SetAt M A x pos' (.IfExp test a b pos2) pos env Q E s :=
  wpAny_Assign_Name (wpAny_IfExp (h _ (fun hc tk => hT hc tk) (fun hc tk => hF hc tk))) hs
def LamAt (M : Model) (A : Around) (params : Arguments) (body : Expr) (scope : Scope) (pos : Pos) (env : Env) (Q : Value → Shared → Prop) (E : Value → Shared → Prop) (s : Shared) : Prop := wpAny M A (eval (.Lambda params body scope pos) env) Q E s
theorem lam_stop {params : Arguments} {body : Expr} {scope : Scope} {pos : Pos} {Q : Value → Shared → Prop} (h : LamAt M A params body scope pos env Q E s) : wpAny M A (eval (.Lambda params body scope pos) env) Q E s := h
end
theorem two_dec {Q' : Value → Shared → Prop} {cond p : Prop} [Decidable p] {s : Shared} {tk : Nat} (hT : cond → ∀ tk, Q' (.bool true) { s with toks := tk }) (hF : ¬ cond → ∀ tk, Q' (.bool false) { s with toks := tk }) (h1 : p → cond) (h2 : ¬ p → ¬ cond) : Q' (.bool (decide p)) { s with toks := tk } := by
  by_cases h : p
  · rw [decide_eq_true h]; exact hT (h1 h) _
  · rw [decide_eq_false h]; exact hF (h2 h) _
theorem two_decB {Q' : Bool → Shared → Prop} {cond p : Prop} [Decidable p] {s : Shared} {tk : Nat} (hT : cond → ∀ tk, Q' true { s with toks := tk }) (hF : ¬ cond → ∀ tk, Q' false { s with toks := tk }) (h1 : p → cond) (h2 : ¬ p → ¬ cond) : Q' (decide p) { s with toks := tk } := by
  by_cases h : p
  · rw [decide_eq_true h]; exact hT (h1 h) _
  · rw [decide_eq_false h]; exact hF (h2 h) _
section
variable {prog : Program} {w : World} {A : Around} {E : Value → Shared → Prop} {s : Shared} {Q : Value → Shared → Prop} {a k : Int} {t u : Tok}
theorem div_pos9 (hk : 0 < k) (hk2 : k < 4294967296) (h : Q (.int (a / k) s.toks) { s with toks := s.toks + 1 }) : wpAny (model prog w) A (binaryOp .FloorDiv (.int a t) (.int k u)) Q E s := by
  refine floordiv_int (by omega) ?_ (Or.inl (PyProof.noPylong_of_log2 (log2_small (by omega) hk2)))
  rw [Int.fdiv_eq_ediv_of_nonneg _ (by omega)]
  exact h
theorem mod_pos9 (hk : 0 < k) (h : Q (.int (a % k) s.toks) { s with toks := s.toks + 1 }) : wpAny (model prog w) A (binaryOp .Mod (.int a t) (.int k u)) Q E s := by
  refine mod_int' (by omega) ?_
  rw [Int.fmod_eq_emod_of_nonneg _ (by omega)]
  exact h
theorem len_nil9 (h : ∀ u, Q (.int 0 u) { s with toks := s.toks + 1 + 1 }) : wpAny (model prog w) A (call (.builtin "len") [.bytes #[] t]) Q E s := len_bytes (by decide) (h _)
end
def CallAt (w : World) (A : Around) (f : Addr) (args : List Value) (Q E : Value → Shared → Prop) (s : Shared) : Prop := wpAny (model PySem.Challenge.rw_pf0401_01.row.prog w) A (PySem.call (.ref f) args) Q E s
theorem call_stop (f : Addr) {w : World} {A : Around} {args : List Value} {Q E : Value → Shared → Prop} {s : Shared} (h : CallAt w A f args Q E s) : wpAny (model PySem.Challenge.rw_pf0401_01.row.prog w) A (PySem.call (.ref f) args) Q E s := h
example : True := by
  w_top off
  trivial
section
variable {prog : Program} {w : World} {A : Around} {E : Value → Shared → Prop} {s : Shared} {Q : Value → Shared → Prop} {a b : Int} {t u : Tok}
theorem shr8 (h : Q (.int (a / 256) s.toks) { s with toks := s.toks + 1 }) : wpAny (model prog w) A (binaryOp .RShift (.int a t) (.int 8 u)) Q E s := by
  refine rshift_int (by decide) ?_
  rw [show ((2 : Int) ^ (Int.toNat 8)) = 256 from rfl, Int.fdiv_eq_ediv_of_nonneg _ (by decide)]
  exact h
theorem shr16 (h : Q (.int (a / 65536) s.toks) { s with toks := s.toks + 1 }) : wpAny (model prog w) A (binaryOp .RShift (.int a t) (.int 16 u)) Q E s := by
  refine rshift_int (by decide) ?_
  rw [show ((2 : Int) ^ (Int.toNat 16)) = 65536 from rfl, Int.fdiv_eq_ediv_of_nonneg _ (by decide)]
  exact h
theorem and8 (h : Q (.int (a % 256) s.toks) { s with toks := s.toks + 1 }) : wpAny (model prog w) A (binaryOp .BitAnd (.int a t) (.int 255 u)) Q E s := by
  refine and_int ?_
  rw [bitAnd_m8]
  exact h
theorem and16 (h : Q (.int (a % 65536) s.toks) { s with toks := s.toks + 1 }) : wpAny (model prog w) A (binaryOp .BitAnd (.int a t) (.int 65535 u)) Q E s := by
  refine and_int ?_
  rw [bitAnd_m16]
  exact h
theorem and_any (hb : 0 ≤ b) (h : ∀ r, 0 ≤ r → r ≤ b → Q (.int r s.toks) { s with toks := s.toks + 1 }) : wpAny (model prog w) A (binaryOp .BitAnd (.int a t) (.int b u)) Q E s :=
  and_int (h _ (bitAnd_range a hb).1 (bitAnd_range a hb).2)
theorem shl8 (h0 : 0 ≤ a) (h1 : a < 4294967296) (h : Q (.int (a * 256) s.toks) { s with toks := s.toks + 1 }) : wpAny (model prog w) A (binaryOp .LShift (.int a t) (.int 8 u)) Q E s :=
  lshift_int_small (by decide) (by decide) (by omega) h
theorem shl16 (h0 : 0 ≤ a) (h1 : a < 4294967296) (h : Q (.int (a * 65536) s.toks) { s with toks := s.toks + 1 }) : wpAny (model prog w) A (binaryOp .LShift (.int a t) (.int 16 u)) Q E s :=
  lshift_int_small (by decide) (by decide) (by omega) h
theorem land_low (x y k : Nat) (h : y < 2 ^ k) : (2 ^ k * x) &&& y = 0 := by
  refine Nat.eq_of_testBit_eq fun i => ?_
  rw [Nat.testBit_and, Nat.zero_testBit, Nat.testBit_two_pow_mul]
  by_cases hi : k ≤ i
  · rw [Nat.testBit_lt_two_pow (Nat.lt_of_lt_of_le h (Nat.pow_le_pow_right (by decide) hi)), Bool.and_false]
  · simp [hi]
theorem bor (k : Nat) (h0 : 0 ≤ a) (h1 : 0 ≤ b) (h2 : b < ((2 ^ k : Nat) : Int)) : Builtin.bitOr (a * ((2 ^ k : Nat) : Int)) b = a * ((2 ^ k : Nat) : Int) + b := by
  obtain ⟨x, rfl⟩ := Int.eq_ofNat_of_zero_le h0
  obtain ⟨y, rfl⟩ := Int.eq_ofNat_of_zero_le h1
  have hy : y < 2 ^ k := by omega
  have e1 : ((x : Int) * ((2 ^ k : Nat) : Int)) = ((2 ^ k * x : Nat) : Int) := by rw [Int.natCast_mul, Int.mul_comm]
  rw [bitOr_and, e1, bitAnd_pp (Int.natCast_nonneg _) (Int.natCast_nonneg _), Int.toNat_natCast, Int.toNat_natCast, land_low x y k hy]
  simp
theorem or8 (h0 : 0 ≤ a) (h1 : 0 ≤ b) (h2 : b < 256) (h : Q (.int (a * 256 + b) s.toks) { s with toks := s.toks + 1 }) : wpAny (model prog w) A (binaryOp .BitOr (.int (a * 256) t) (.int b u)) Q E s := by
  refine or_int ?_
  rw [show (256 : Int) = ((2 ^ 8 : Nat) : Int) from rfl, bor 8 h0 h1 h2]
  exact h
theorem or16 (h0 : 0 ≤ a) (h1 : 0 ≤ b) (h2 : b < 65536) (h : Q (.int (a * 65536 + b) s.toks) { s with toks := s.toks + 1 }) : wpAny (model prog w) A (binaryOp .BitOr (.int (a * 65536) t) (.int b u)) Q E s := by
  refine or_int ?_
  rw [show (65536 : Int) = ((2 ^ 16 : Nat) : Int) from rfl, bor 16 h0 h1 h2]
  exact h
end
example : True := by
  w_top off
  trivial
example : True := by
  (k_with "binaryOp RShift int int" => (first | refine shr8 ?_ | refine shr16 ?_))
  (k_with "binaryOp BitAnd int int" => (first | refine and8 ?_ | refine and16 ?_ | (refine and_any (by decide) ?_; intro r' hr0' hr1')))
  (k_with "binaryOp LShift int int" => (first | refine shl8 (by walk_at "my bnd") (by walk_at "my bnd") ?_ | refine shl16 (by walk_at "my bnd") (by walk_at "my bnd") ?_))
  (k_with "binaryOp BitOr int int" => (first | refine or8 (by walk_at "my bnd") (by walk_at "my bnd") (by walk_at "my bnd") ?_ | refine or16 (by walk_at "my bnd") (by walk_at "my bnd") (by walk_at "my bnd") ?_))
  (k_with "my idx" => (((try simp only [List.length_append, List.length_cons, List.length_nil, List.length_take, List.length_drop, List.length_map]); omega)))
  (k_with "my enter" => ((refine' code_def ?k1 ?k2 ?k3 ?k4 ?k5 ?kA ?kF ?kK ?k6 ?k7 ?k8 ?k9 ?kB ?_ ?c2 ?c3 ?c4 ?c5; (case kA => exact rfl); (case kF => exact rfl); (case kK => assumption); (case k1 => k_asm); (case k2 => k_asm); (case k3 => k_asm); (case k4 => k_asm); (case k5 => k_asm); (case k6 => k_is); (case k7 => k_is); (case k8 => ktr_room); (case k9 => first | exact BindsTo.of_eq rfl | exact binds_K (by k_in) rfl (by k_is) rfl rfl rfl); (case c5 => decide); (case kB => exact locs rfl); (case c2 => exact rfl); (case c3 => exact rfl); (case c4 => exact rfl); k_whole; intro g' L' h' FG' F' N' B' X' T'; (try dsimp only); (try k_lift B'); (try k_fold))))
  (k_with "call ref" => ((k_here; (with_reducible show wpAny _ _ (call (Value.ref 316) _) _ _ _); k_dflt (refine' ip_made ?B ?F ?X ?N ?T ?k ?d ?u ?b ?_; (case B => k_asm); (case F => k_asm); (case X => k_asm); (case N => k_asm); (case T => k_asm); (case k => first | assumption | exact rfl); (case d => walk_at "my small"); (case u => walk_at "my small"); (case b => (refine' binds_of ?h0 ?hb; (case h0 => k_is); (case hb => (intro s9 x9 X9; first | exact BindsTo.of_eq rfl | exact binds_K (by k_in) rfl (by k_is) rfl rfl rfl)))); k_whole); intro x' d' h' tk' e1' e2' e3' e4' e5' e6' e7' e8' e9' e10' t1' t2' t3' t4' t5' t6' t7' t8' t9' t10' F' N' l1 l2; (try k_lt l1); (try k_sweep))))
  (k_with "call ref" => ((k_here; (with_reducible show wpAny _ _ (call (Value.ref 231) _) _ _ _); k_dflt (refine' im_made ?B ?F ?X ?N ?T ?k ?d ?u ?b ?_; (case B => k_asm); (case F => k_asm); (case X => k_asm); (case N => k_asm); (case T => k_asm); (case k => first | assumption | exact rfl); (case d => walk_at "my small"); (case u => walk_at "my small"); (case b => (refine' binds_of ?h0 ?hb; (case h0 => k_is); (case hb => (intro s9 x9 X9; first | exact BindsTo.of_eq rfl | exact binds_K (by k_in) rfl (by k_is) rfl rfl rfl)))); k_whole); intro x' d' h' tk' e1' e2' e3' e4' t1' t2' t3' t4' F' N' l1 l2; (try k_lt l1); (try k_sweep))))
  trivial
theorem ints2 {x y : UInt8} {a b : Int} (h1 : ((x.toNat : Nat) : Int) = a) (h2 : ((y.toNat : Nat) : Int) = b) : KBw.bInts #[x, y] = [a, b] := by
  subst h1 h2
  rfl
theorem put16_c {w : World} {p : Program} {loose : List Str} {mean : ExcName → Option Value} {mg mb : Str → Option Value} {dp un : Nat} {gd : Option (List Code)} {cn : Str} {cs : Scope} {a : Addr} {ccd : Value} {cl : List (Str × Addr)} {outer : List Env} {A₀ : Around} {base h₀ : Heap} {L : Addr} {m : Str → Option Value} {news : List (Addr × Obj)} {s : Shared} {Q E : Value → Shared → Prop} {n : Int} {tn : Tok}
    (B : Below A₀ base outer h₀) (F : Fr h₀ L s.heap m) (X : (hd.heap_1 w.params).In h₀) (N : News h₀ L s.heap news) (T : Top p loose mean mg mb h₀) (hk : cs.kind = .function) (hdp : dp < 900) (hun : un < 8500) 
    (ret : ∀ b t h' tk', KBw.bInts b = [n / 256 % 256, n % 256] → Fr h₀ L h' m → News h₀ L h' news → Q (.bytes b t) { s with heap := h', toks := tk' }) :
    wpAny (model PySem.Challenge.rw_pf0401_01.row.prog w) (ktrTop dp un gd cn cs L a ccd cl outer) (call (.ref 128) [.int n tn]) Q E s := by
  refine wpAny_call ?_
  k_dflt cell_enter
  k_steps
  rename _ = n / 256 % 256 => e1
  rename _ = n % 256 => e2
  exact ret _ _ _ _ (ints2 e1 e2) (by assumption) (sub_news (by assumption) (fun _ hp => .tail _ hp))
example : True := by
  (k_with "call ref" => ((k_here; (with_reducible show wpAny _ _ (call (Value.ref 128) [Value.int _ _]) _ _ _); (with_unfolding_all refine put16_c (by assumption) (by assumption) (by assumption) (by assumption) (by assumption) (by first | assumption | exact rfl) (by walk_at "my small") (by walk_at "my small")  ?_); intro b' t' h' tk' hb' F' N'; (try k_sweep))))
  trivial
theorem put32_c {w : World} {p : Program} {loose : List Str} {mean : ExcName → Option Value} {mg mb : Str → Option Value} {dp un : Nat} {gd : Option (List Code)} {cn : Str} {cs : Scope} {a : Addr} {ccd : Value} {cl : List (Str × Addr)} {outer : List Env} {A₀ : Around} {base h₀ : Heap} {L : Addr} {m : Str → Option Value} {news : List (Addr × Obj)} {s : Shared} {Q E : Value → Shared → Prop} {n : Int} {tn : Tok}
    (B : Below A₀ base outer h₀) (F : Fr h₀ L s.heap m) (X : (hd.heap_1 w.params).In h₀) (N : News h₀ L s.heap news) (T : Top p loose mean mg mb h₀) (hk : cs.kind = .function) (hdp : dp < 890) (hun : un < 8400) 
    (ret : ∀ b t h' tk', KBw.bInts b = [n / 65536 / 256 % 256, n / 65536 % 256, n / 256 % 256, n % 256] → Fr h₀ L h' m → News h₀ L h' news → Q (.bytes b t) { s with heap := h', toks := tk' }) :
    wpAny (model PySem.Challenge.rw_pf0401_01.row.prog w) (ktrTop dp un gd cn cs L a ccd cl outer) (call (.ref 135) [.int n tn]) Q E s := by
  refine wpAny_call ?_
  k_dflt cell_enter
  k_steps
  exact ret _ _ _ _ (by assumption) (by assumption) (by assumption)
example : True := by
  (k_with "call ref" => ((k_here; (with_reducible show wpAny _ _ (call (Value.ref 135) [Value.int _ _]) _ _ _); (with_unfolding_all refine put32_c (by assumption) (by assumption) (by assumption) (by assumption) (by assumption) (by first | assumption | exact rfl) (by walk_at "my small") (by walk_at "my small")  ?_); intro b' t' h' tk' hb' F' N'; (try k_sweep))))
  trivial
theorem get16_c {w : World} {p : Program} {loose : List Str} {mean : ExcName → Option Value} {mg mb : Str → Option Value} {dp un : Nat} {gd : Option (List Code)} {cn : Str} {cs : Scope} {a : Addr} {ccd : Value} {cl : List (Str × Addr)} {outer : List Env} {A₀ : Around} {base h₀ : Heap} {L : Addr} {m : Str → Option Value} {news : List (Addr × Obj)} {s : Shared} {Q E : Value → Shared → Prop} {b : Array UInt8} {tb ti : Tok} {i : Int} {ks : List Int}
    (B : Below A₀ base outer h₀) (F : Fr h₀ L s.heap m) (X : (hd.heap_1 w.params).In h₀) (N : News h₀ L s.heap news) (T : Top p loose mean mg mb h₀) (hk : cs.kind = .function) (hdp : dp < 900) (hun : un < 8500) (hb : KBw.bInts b = ks) (hi : 0 ≤ i) (hi2 : i + 2 ≤ ks.length) (hz : ks.length ≤ 10000)
    (ret : ∀ (r : Int) t h' tk', r = ks.getD i.toNat 0 * 256 + ks.getD (i + 1).toNat 0 ∧ 0 ≤ r ∧ r < 65536 → Fr h₀ L h' m → News h₀ L h' news → Q (.int r t) { s with heap := h', toks := tk' }) :
    wpAny (model PySem.Challenge.rw_pf0401_01.row.prog w) (ktrTop dp un gd cn cs L a ccd cl outer) (call (.ref 149) [.bytes b tb, .int i ti]) Q E s := by
  refine wpAny_call ?_
  k_dflt cell_enter
  k_steps
  exact ret _ _ _ _ ⟨rfl, by omega, by omega⟩ (by assumption) (by assumption)
example : True := by
  (k_with "call ref" => ((k_here; (with_reducible show wpAny _ _ (call (Value.ref 149) [Value.bytes _ _, Value.int _ _]) _ _ _); (with_unfolding_all refine get16_c (by assumption) (by assumption) (by assumption) (by assumption) (by assumption) (by first | assumption | exact rfl) (by walk_at "my small") (by walk_at "my small") (by assumption) (by walk_at "my bnd") (by walk_at "my idx") (by walk_at "my idx") ?_); intro r' t' h' tk' hr' F' N'; have hr2' := hr'.2; (try k_sweep))))
  trivial
theorem get32_c {w : World} {p : Program} {loose : List Str} {mean : ExcName → Option Value} {mg mb : Str → Option Value} {dp un : Nat} {gd : Option (List Code)} {cn : Str} {cs : Scope} {a : Addr} {ccd : Value} {cl : List (Str × Addr)} {outer : List Env} {A₀ : Around} {base h₀ : Heap} {L : Addr} {m : Str → Option Value} {news : List (Addr × Obj)} {s : Shared} {Q E : Value → Shared → Prop} {b : Array UInt8} {tb ti : Tok} {i : Int} {ks : List Int}
    (B : Below A₀ base outer h₀) (F : Fr h₀ L s.heap m) (X : (hd.heap_1 w.params).In h₀) (N : News h₀ L s.heap news) (T : Top p loose mean mg mb h₀) (hk : cs.kind = .function) (hdp : dp < 890) (hun : un < 8400) (hb : KBw.bInts b = ks) (hi : 0 ≤ i) (hi2 : i + 4 ≤ ks.length) (hz : ks.length ≤ 10000)
    (ret : ∀ (r : Int) t h' tk', r = (ks.getD i.toNat 0 * 256 + ks.getD (i + 1).toNat 0) * 65536 + (ks.getD (i + 2).toNat 0 * 256 + ks.getD (i + 2 + 1).toNat 0) ∧ 0 ≤ r ∧ r < 4294967296 → Fr h₀ L h' m → News h₀ L h' news → Q (.int r t) { s with heap := h', toks := tk' }) :
    wpAny (model PySem.Challenge.rw_pf0401_01.row.prog w) (ktrTop dp un gd cn cs L a ccd cl outer) (call (.ref 156) [.bytes b tb, .int i ti]) Q E s := by
  refine wpAny_call ?_
  k_dflt cell_enter
  k_steps
  exact ret _ _ _ _ ⟨by omega, by omega, by omega⟩ (by assumption) (by assumption)
example : True := by
  (k_with "call ref" => ((k_here; (with_reducible show wpAny _ _ (call (Value.ref 156) [Value.bytes _ _, Value.int _ _]) _ _ _); (with_unfolding_all refine get32_c (by assumption) (by assumption) (by assumption) (by assumption) (by assumption) (by first | assumption | exact rfl) (by walk_at "my small") (by walk_at "my small") (by assumption) (by walk_at "my bnd") (by walk_at "my idx") (by walk_at "my idx") ?_); intro r' t' h' tk' hr' F' N'; have hr2' := hr'.2; (try k_sweep))))
  trivial
def WhStep (g : Heap) (L : Addr) (J : Nat → (Str → Option Value) → List (Addr × Obj) → Prop) (k : Nat) (s : Shared) (Q : Flow → Shared → Prop) (f : Flow) (s₃ : Shared) : Prop :=
  match f with
  | .next | .cont => ∃ j m' nw h tk, j < k ∧ s₃ = { s with heap := h, toks := tk } ∧ J j m' nw ∧ Fr g L h m' ∧ News g L h nw
  | .brk => Q .next s₃
  | .ret v => Q (.ret v) s₃
theorem WhStep.go {g h' : Heap} {L : Addr} {J : Nat → (Str → Option Value) → List (Addr × Obj) → Prop} {k : Nat} {s : Shared} {Q : Flow → Shared → Prop} {m' : Str → Option Value} {nw : List (Addr × Obj)} {tk' : Nat} (j : Nat) (F : Fr g L h' m') (N : News g L h' nw) (hj : j < k) (h : J j m' nw) :
    WhStep g L J k s Q .next { s with heap := h', toks := tk' } := ⟨j, m', nw, h', tk', hj, rfl, h, F, N⟩
section
variable {prog : Program} {w : World} {A : Around} {E : Value → Shared → Prop} {s : Shared} {L : Addr} {m : Str → Option Value} {news : List (Addr × Obj)} {env : Env} {test : PySem.Expr} {body : List Stmt} {Q : Flow → Shared → Prop} {g : Heap}
def WhIf (b : Bool) (T F : Prop) : Prop := if b = true then T else F
theorem while0 {pos : Pos} (J : Nat → (Str → Option Value) → List (Addr × Obj) → Prop) (n : Nat) (F : Fr g L s.heap m) (N : News g L s.heap news) (j0 : J n m news)
    (turn : ∀ k m' nw h tk, J k m' nw → Fr g L h m' → News g L h nw → wpAny (model prog w) A (isTrue test env (eval test env)) (fun b s₂ => if b = true then wpAny (model prog w) A (execs body env) (WhStep g L J k s Q) (fun _ _ => False) s₂ else Q .next s₂) (fun _ _ => False) { s with heap := h, toks := tk }) :
    wpAny (model prog w) A (exec (.While test body [] pos) env) Q E s := by
  refine wpAny_While (codeAny_whileLoop (fun k s' => ∃ m' nw h tk, s' = { s with heap := h, toks := tk } ∧ J k m' nw ∧ Fr g L h m' ∧ News g L h nw) ?_ n ⟨m, news, s.heap, s.toks, rfl, j0, F, N⟩)
  rintro k s' ⟨m', nw, h, tk, rfl, hj, F', N'⟩
  refine wpAny_mono (turn k m' nw h tk hj F' N') (fun b s₂ h₂ => ?_) fun _ _ e => e.elim
  cases b with
  | false =>
    simp only [Bool.false_eq_true, if_false] at h₂ ⊢
    exact wpAny_execs_nil h₂
  | true =>
    simp only [if_true] at h₂ ⊢
    refine wpAny_mono h₂ (fun f s₃ h₃ => ?_) fun _ _ e => e.elim
    have fin : (∃ j m' nw h tk, j < k ∧ s₃ = { s with heap := h, toks := tk } ∧ J j m' nw ∧ Fr g L h m' ∧ News g L h nw) → ∃ j, j < k ∧ ∃ m' nw h tk, s₃ = { s with heap := h, toks := tk } ∧ J j m' nw ∧ Fr g L h m' ∧ News g L h nw := by
      rintro ⟨j, m', nw, h, tk, hj, r⟩
      exact ⟨j, hj, m', nw, h, tk, r⟩
    cases f with
    | next => exact fin h₃
    | cont => exact fin h₃
    | brk => exact h₃
    | ret v => exact h₃
def WhileAt (M : Model) (A : Around) (test : PySem.Expr) (body : List Stmt) (pos : Pos) (env : Env) (Q : Flow → Shared → Prop) (E : Value → Shared → Prop) (s : Shared) : Prop := wpAny M A (exec (.While test body [] pos) env) Q E s
theorem while_stop {M : Model} {pos : Pos} (h : WhileAt M A test body pos env Q E s) : wpAny M A (exec (.While test body [] pos) env) Q E s := h
theorem rangeSize_two (k : Nat) : Builtin.Range.rangeSize 0 ((2 * k : Nat) : Int) 2 = ((k : Nat) : Int) := by
  unfold Builtin.Range.rangeSize
  simp only [show (2 : Int) > 0 by decide, if_true]
  split <;> omega
theorem range_small2' {b n : Int} (h0 : 0 ≤ b) (hb : b < 2000000) (hs : Builtin.Range.rangeSize 0 b 2 = n) (hn0 : 0 ≤ n) (hn : n < 1000000) : Builtin.Range.small 0 b 2 = true := by
  unfold Builtin.Range.small
  rw [hs]
  have e : (2 : Int) ^ 63 = 9223372036854775808 := by decide
  simp only [Builtin.Range.rangeFitsLong, Bool.and_eq_true, decide_eq_true_eq, e]
  refine ⟨⟨⟨⟨?_, ?_⟩, ?_⟩, ?_⟩, ?_⟩
  · omega
  · omega
  · decide
  · omega
  · rw [if_pos (by decide), Bool.or_eq_true, Bool.and_eq_true, decide_eq_true_eq, decide_eq_true_eq]
    exact .inr ⟨by omega, by omega⟩
theorem range_small2 {k : Nat} (h : k < 1000000) : Builtin.Range.small 0 ((2 * k : Nat) : Int) 2 = true := range_small2' (by omega) (by omega) (rangeSize_two k) (by omega) (by omega)
theorem range2_at {r : Addr} {t u v : Tok} {n : Nat} (J : Addr → Nat → (Str → Option Value) → Prop) {target : Expr}
    (hh : A.handled = none) (hr : IsRange s.heap r 0 ((2 * n : Nat) : Int) 2 t u v) (hn : n < 1000000) (F : Fr g L s.heap m) (N : News g L s.heap news) (j0 : ∀ I, J I 0 m)
    (step : ∀ I, (∀ p ∈ news, p.1 < I) → ∀ i k t m it h tk, i < n → k = 2 * (i : Int) → J I i m → Fr g L h m → News g L h ((I, it) :: news) →
      wpAny (model prog w) A (assign target env (.int k t)) (fun _ s₂ => wpAny (model prog w) A (execs body env) (TurnStep callerA g [] g L [(I, it)] (fun m nw => J I (i + 1) m ∧ nw = news) s Q) (fun _ _ => False) s₂) (fun _ _ => False) { s with heap := h, toks := tk })
    (done : ∀ I m h tk, J I n m → Fr g L h m → News g L h news → Q .next { s with heap := h, toks := tk })
    (ht : ∀ I v, letOwnedTupleGo target (.ref I) v = pure () := by intro _ _; rfl) : ForFrom (model prog w) A target body env Q E (.ref r) s := by
  have hlt : ∀ p ∈ news, p.1 < s.heap.objs.size := fun p hp => Heap.lt_size (N p hp).1
  refine wpAny_pyIter_range hr (range_small2 hn) ?_
  have W : Walks prog w A s.heap.objs.size [s.heap.objs.size] [s.heap.objs.size] n (fun i v => ∃ t, v = .int (0 + i * 2) t)
      (fun i h => IsRangeIter h s.heap.objs.size (0 + (i : Nat) * 2) ((n : Int) - (i : Nat)) 2) := Walks.range hh _ 0 2 n
  refine for_walk (Q := Q) (news := news) W (fun i h e => ⟨_, e⟩) (fun i m nw => J s.heap.objs.size i m ∧ nw = news) (fun b hb => .inl (by simpa using hb)) (fun i m nw h p hp => by rw [h.2] at hp; exact Nat.ne_of_lt (hlt p hp)) (by show IsRangeIter _ _ _ _ _; rw [rangeSize_two]; simpa using Heap.get?_push_size _ rfl)
    ⟨g, .refl, F.push _, fun p hp => ⟨Heap.get?_push_of_some _ (N p hp).1, (N p hp).2⟩, below_caller g, fun _ h => nomatch h⟩ ⟨j0 _, rfl⟩ (next_is_new F) (Nat.ne_of_gt F.ns.lt) ?_ ?_ (fun _ _ q => q) (fun _ v _ _ _ _ h => wpAny_of_eq (ht _ v) h)
  · rintro i v m nw it h tk hi ⟨t, rfl⟩ ⟨hj, rfl⟩ hat
    exact step _ hlt i _ t m it h tk hi (by omega) hj (at_open hat).1 (at_open hat).2
  · rintro m nw h tk ⟨hj, rfl⟩ hat
    exact done _ m h tk hj (at_open hat).1 (at_open hat).2
end
def sum16 : List Int → Int
  | a :: b :: r => a * 256 + b + sum16 r
  | [a] => a * 256
  | [] => 0
theorem sum16_app : ∀ (n : Nat) (u v : List Int), u.length = 2 * n → sum16 (u ++ v) = sum16 u + sum16 v
  | 0, [], v, _ => by simp [sum16]
  | n + 1, a :: b :: u, v, h => by
    have := sum16_app n u v (by simp only [List.length_cons] at h; omega)
    simp only [List.cons_append, sum16, this]
    omega
  | 0, _ :: _, _, h => by simp at h
  | n + 1, [], _, h => by simp at h
  | n + 1, [_], _, h => by simp only [List.length_cons, List.length_nil] at h; omega
theorem take_getD : ∀ (ks : List Int) (i : Nat), i < ks.length → ks.take (i + 1) = ks.take i ++ [ks.getD i 0]
  | k :: r, 0, _ => by simp
  | k :: r, i + 1, h => by
    have := take_getD r i (by simpa using h)
    simp only [List.take_succ_cons, List.cons_append, List.getD_cons_succ, this]
  | [], i, h => by simp at h
theorem sum16_next (ks : List Int) (i : Nat) (h : 2 * i + 2 ≤ ks.length) : sum16 (ks.take (2 * (i + 1))) = sum16 (ks.take (2 * i)) + (ks.getD (2 * i) 0 * 256 + ks.getD (2 * i + 1) 0) := by
  rw [show 2 * (i + 1) = 2 * i + 1 + 1 by omega, take_getD ks (2 * i + 1) (by omega), take_getD ks (2 * i) (by omega), List.append_assoc, sum16_app i _ _ (by rw [List.length_take]; omega)]
  simp [sum16]
theorem sum16_last (ks : List Int) (i : Nat) (h : 2 * i + 1 = ks.length) : sum16 ks = sum16 (ks.take (2 * i)) + ks.getD (2 * i) 0 * 256 := by
  have e : ks = ks.take (2 * i) ++ [ks.getD (2 * i) 0] := by
    rw [← take_getD ks (2 * i) (by omega), h, List.take_length]
  have h2 := sum16_app i (ks.take (2 * i)) [ks.getD (2 * i) 0] (by rw [List.length_take]; omega)
  rw [← e] at h2
  rw [h2]
  simp only [sum16]
theorem sum16_nonneg : ∀ {ks : List Int}, (∀ k ∈ ks, 0 ≤ k ∧ k < 256) → 0 ≤ sum16 ks
  | [], _ => by simp [sum16]
  | [a], h => by have := h a (by simp); simp only [sum16]; omega
  | a :: b :: r, h => by
    have h1 := h a (by simp)
    have h2 := h b (by simp)
    have h3 := sum16_nonneg (ks := r) (fun k hk => h k (by simp [hk]))
    simp only [sum16]; omega
example : True := by
  (k_with "exec While Compare cons nil" => ((k_here; k_dflt (refine while_stop ?_))))
  trivial
theorem fold_c {w : World} {p : Program} {loose : List Str} {mean : ExcName → Option Value} {mg mb : Str → Option Value} {dp un : Nat} {gd : Option (List Code)} {cn : Str} {cs : Scope} {a : Addr} {ccd : Value} {cl : List (Str × Addr)} {outer : List Env} {A₀ : Around} {base h₀ : Heap} {L : Addr} {m : Str → Option Value} {news : List (Addr × Obj)} {s : Shared} {Q E : Value → Shared → Prop} {n : Int} {tn : Tok}
    (B : Below A₀ base outer h₀) (F : Fr h₀ L s.heap m) (X : (hd.heap_1 w.params).In h₀) (N : News h₀ L s.heap news) (T : Top p loose mean mg mb h₀) (hk : cs.kind = .function) (hdp : dp < 890) (hun : un < 8400) (hn : 0 ≤ n)
    (ret : ∀ (r : Int) t h' tk', (r % 65535 = n % 65535 ∧ 0 ≤ r ∧ r ≤ 65535 ∧ (0 < n → 0 < r)) → Fr h₀ L h' m → News h₀ L h' news → Q (.int r t) { s with heap := h', toks := tk' }) :
    wpAny (model PySem.Challenge.rw_pf0401_01.row.prog w) (ktrTop dp un gd cn cs L a ccd cl outer) (call (.ref 163) [.int n tn]) Q E s := by
  refine wpAny_call ?_
  k_dflt cell_enter
  k_steps
  unfold WhileAt
  refine while0 (fun k m' nw => ∃ x t, m' "total" = some (.int x t) ∧ 0 ≤ x ∧ x % 65535 = n % 65535 ∧ (0 < n → 0 < x) ∧ x.toNat = k ∧ nw = news) n.toNat (by assumption) (by assumption) ⟨n, _, (by with_unfolding_all rfl), hn, rfl, id, rfl, rfl⟩ ?_
  rintro k m1 nw h tk ⟨x, t, hm, hx0, hx1, hx2, hxk, rfl⟩ F1 N1
  rw [m_one hm] at F1
  k_steps
  · refine WhStep.go (x % 65536 + x / 65536).toNat (by assumption) (by assumption) (by omega) ⟨_, _, rfl, by omega, by omega, by omega, rfl, rfl⟩
  · exact ret _ _ _ _ ⟨hx1, hx0, by omega, hx2⟩ (by assumption) (by assumption)
example : True := by
  (k_with "call ref" => ((k_here; (with_reducible show wpAny _ _ (call (Value.ref 163) [Value.int _ _]) _ _ _); (with_unfolding_all refine fold_c (by assumption) (by assumption) (by assumption) (by assumption) (by assumption) (by first | assumption | exact rfl) (by walk_at "my small") (by walk_at "my small") (by first | assumption | omega) ?_); intro r' t' h' tk' hr' F' N'; (try k_sweep))))
  trivial
theorem ones_c {w : World} {p : Program} {loose : List Str} {mean : ExcName → Option Value} {mg mb : Str → Option Value} {dp un : Nat} {gd : Option (List Code)} {cn : Str} {cs : Scope} {a : Addr} {ccd : Value} {cl : List (Str × Addr)} {outer : List Env} {A₀ : Around} {base h₀ : Heap} {L : Addr} {m : Str → Option Value} {news : List (Addr × Obj)} {s : Shared} {Q E : Value → Shared → Prop} {b : Array UInt8} {tb t0 : Tok} {ks : List Int}
    (B : Below A₀ base outer h₀) (F : Fr h₀ L s.heap m) (X : (hd.heap_1 w.params).In h₀) (N : News h₀ L s.heap news) (T : Top p loose mean mg mb h₀) (hk : cs.kind = .function) (hdp : dp < 880) (hun : un < 8300) (hb : KBw.bInts b = ks) (hz : ks.length ≤ 10000)
    (ret : ∀ (r : Int) t h' tk', (r % 65535 = sum16 ks % 65535 ∧ 0 ≤ r ∧ r ≤ 65535 ∧ (0 < sum16 ks → 0 < r)) → Fr h₀ L h' m → News h₀ L h' news → Q (.int r t) { s with heap := h', toks := tk' }) :
    wpAny (model PySem.Challenge.rw_pf0401_01.row.prog w) (ktrTop dp un gd cn cs L a ccd cl outer) (call (.ref 171) [.bytes b tb, .int 0 t0]) Q E s := by
  refine wpAny_call ?_
  k_dflt (walk_at "my enter")
  have hin : ∀ k ∈ ks, 0 ≤ k ∧ k < 256 := fun k hk => by rw [← hb] at hk; exact KBw.ints_in hk
  have hs := sum16_nonneg hin
  k_steps
  have he : ((ks.length : Nat) : Int) - ((ks.length : Nat) : Int).fmod 2 = ((2 * (ks.length / 2) : Nat) : Int) := by
    rw [Int.fmod_eq_emod_of_nonneg _ (by decide)]; omega
  rename IsRange _ _ _ _ _ _ _ _ => hR
  rw [he] at hR
  refine range2_at (n := ks.length / 2) (fun I i m' => ∃ x t te, m' "total" = some (.int x t) ∧ m' "octets" = some (.bytes b tb) ∧ m' "even" = some (.int (((ks.length : Nat) : Int) - ((ks.length : Nat) : Int).fmod 2) te) ∧ x = sum16 (ks.take (2 * i))) rfl hR (by omega) (by assumption) (by assumption) (fun I => ⟨0, _, _, by with_unfolding_all rfl, by with_unfolding_all rfl, by with_unfolding_all rfl, by simp [sum16]⟩) ?_ ?_
  · rintro I hI i k t m1 it h tk hi rfl ⟨x, t1, te, h1, h2, h3, hx⟩ F1 N1
    rw [m_three h1 h2 h3] at F1
    k_steps
    refine go0 (by assumption) ⟨⟨_, _, _, rfl, rfl, rfl, ?_⟩, rfl⟩ (by assumption)
    rw [sum16_next ks i (by omega), ← hx]
    congr 3
    all_goals omega
  · rintro I m1 h tk ⟨x, t1, te, h1, h2, h3, hx⟩ F1 N1
    rw [m_three h1 h2 h3] at F1
    have hx0 : 0 ≤ x := by rw [hx]; exact sum16_nonneg fun k hk => hin k (List.mem_of_mem_take hk)
    k_steps
    · rename _ ∧ _ ∧ _ ∧ _ => hr9
      have hT := sum16_last ks (ks.length / 2) (by omega)
      rw [← hx] at hT
      rw [show (((ks.length : Nat) : Int) - ((ks.length : Nat) : Int).fmod 2).toNat = 2 * (ks.length / 2) by omega, ← hT] at hr9
      exact ret _ _ _ _ hr9 (by assumption) (by assumption)
    · rename _ ∧ _ ∧ _ ∧ _ => hr9
      have hT : x = sum16 ks := by rw [hx, show 2 * (ks.length / 2) = ks.length by omega, List.take_length]
      rw [hT] at hr9
      exact ret _ _ _ _ hr9 (by assumption) (by assumption)
example : True := by
  (k_with "call ref" => ((k_here; (with_reducible show wpAny _ _ (call (Value.ref 171) [Value.bytes _ _, Value.int 0 _]) _ _ _); (with_unfolding_all refine ones_c (by assumption) (by assumption) (by assumption) (by assumption) (by assumption) (by first | assumption | exact rfl) (by walk_at "my small") (by walk_at "my small") (by assumption) (by walk_at "my idx") ?_); intro r' t' h' tk' hr' F' N'; (try k_sweep))))
  trivial
theorem check_c {w : World} {p : Program} {loose : List Str} {mean : ExcName → Option Value} {mg mb : Str → Option Value} {dp un : Nat} {gd : Option (List Code)} {cn : Str} {cs : Scope} {a : Addr} {ccd : Value} {cl : List (Str × Addr)} {outer : List Env} {A₀ : Around} {base h₀ : Heap} {L : Addr} {m : Str → Option Value} {news : List (Addr × Obj)} {s : Shared} {Q E : Value → Shared → Prop} {b : Array UInt8} {tb : Tok} {ks : List Int}
    (B : Below A₀ base outer h₀) (F : Fr h₀ L s.heap m) (X : (hd.heap_1 w.params).In h₀) (N : News h₀ L s.heap news) (T : Top p loose mean mg mb h₀) (hk : cs.kind = .function) (hdp : dp < 870) (hun : un < 8200) (hb : KBw.bInts b = ks) (hz : ks.length ≤ 10000)
    (ret : ∀ (r : Int) t h' tk', (r + sum16 ks) % 65535 = 0 ∧ 0 ≤ r ∧ r ≤ 65535 ∧ (0 < sum16 ks → r < 65535) → Fr h₀ L h' m → News h₀ L h' news → Q (.int r t) { s with heap := h', toks := tk' }) :
    wpAny (model PySem.Challenge.rw_pf0401_01.row.prog w) (ktrTop dp un gd cn cs L a ccd cl outer) (call (.ref 179) [.bytes b tb]) Q E s := by
  refine wpAny_call ?_
  k_dflt (walk_at "my enter")
  k_steps
  exact ret _ _ _ _ (by omega) (by assumption) (by assumption)
example : True := by
  (k_with "call ref" => ((k_here; (with_reducible show wpAny _ _ (call (Value.ref 179) [Value.bytes _ _]) _ _ _); (with_unfolding_all refine check_c (by assumption) (by assumption) (by assumption) (by assumption) (by assumption) (by first | assumption | exact rfl) (by walk_at "my small") (by walk_at "my small") (by assumption) (by walk_at "my idx") ?_); intro r' t' h' tk' hr' F' N'; (try k_sweep))))
  trivial
example : True := by
  w_top off
  k_with_none
  trivial
example : True := by
  (k_with "my mem" => with_reducible (k_extra "my mem1"))
  (k_with "my mem1" => (first | exact List.Mem.head _ | (refine' List.Mem.tail _ ?_; k_extra "my mem1")))
  (k_with "my k_lt" => ((rename (∀ p : Addr × Obj, p ∈ _ → p.1 < _) => l1q); (replace l1q := allLt_of l1q); (simp only [AllLt, and_true] at l1q); (first | ((with_reducible refine spa15 l1q ?_); intro f0q f1q f2q f3q f4q f5q f6q f7q f8q f9q f10q f11q f12q f13q f14q) | ((with_reducible refine spa14 l1q ?_); intro f0q f1q f2q f3q f4q f5q f6q f7q f8q f9q f10q f11q f12q f13q) | ((with_reducible refine spa13 l1q ?_); intro f0q f1q f2q f3q f4q f5q f6q f7q f8q f9q f10q f11q f12q) | ((with_reducible refine spa12 l1q ?_); intro f0q f1q f2q f3q f4q f5q f6q f7q f8q f9q f10q f11q) | ((with_reducible refine spa11 l1q ?_); intro f0q f1q f2q f3q f4q f5q f6q f7q f8q f9q f10q) | ((with_reducible refine spa10 l1q ?_); intro f0q f1q f2q f3q f4q f5q f6q f7q f8q f9q) | ((with_reducible refine spa9 l1q ?_); intro f0q f1q f2q f3q f4q f5q f6q f7q f8q) | ((with_reducible refine spa8 l1q ?_); intro f0q f1q f2q f3q f4q f5q f6q f7q) | ((with_reducible refine spa7 l1q ?_); intro f0q f1q f2q f3q f4q f5q f6q) | ((with_reducible refine spa6 l1q ?_); intro f0q f1q f2q f3q f4q f5q) | ((with_reducible refine spa5 l1q ?_); intro f0q f1q f2q f3q f4q) | ((with_reducible refine spa4 l1q ?_); intro f0q f1q f2q f3q) | ((with_reducible refine spa3 l1q ?_); intro f0q f1q f2q) | ((with_reducible refine spa2 l1q ?_); intro f0q f1q) | ((with_reducible refine spa1 l1q ?_); intro f0q) | ((with_reducible refine spb12 l1q ?_); intro f0q f1q f2q f3q f4q f5q f6q f7q f8q f9q f10q f11q) | ((with_reducible refine spb11 l1q ?_); intro f0q f1q f2q f3q f4q f5q f6q f7q f8q f9q f10q) | ((with_reducible refine spb10 l1q ?_); intro f0q f1q f2q f3q f4q f5q f6q f7q f8q f9q) | ((with_reducible refine spb9 l1q ?_); intro f0q f1q f2q f3q f4q f5q f6q f7q f8q) | ((with_reducible refine spb8 l1q ?_); intro f0q f1q f2q f3q f4q f5q f6q f7q) | ((with_reducible refine spb7 l1q ?_); intro f0q f1q f2q f3q f4q f5q f6q) | ((with_reducible refine spb6 l1q ?_); intro f0q f1q f2q f3q f4q f5q) | ((with_reducible refine spb5 l1q ?_); intro f0q f1q f2q f3q f4q) | ((with_reducible refine spb4 l1q ?_); intro f0q f1q f2q f3q) | ((with_reducible refine spb3 l1q ?_); intro f0q f1q f2q) | ((with_reducible refine spb2 l1q ?_); intro f0q f1q) | skip); revert l1q))
  (k_with "my cj" => (first | with_reducible assumption | exact And.left (by with_reducible assumption) | exact And.left (And.right (by with_reducible assumption)) | exact And.left (And.right (And.right (by with_reducible assumption))) | exact And.left (And.right (And.right (And.right (by with_reducible assumption)))) | exact And.right (by with_reducible assumption) | exact And.right (And.right (by with_reducible assumption)) | exact And.right (And.right (And.right (by with_reducible assumption)))))
  (k_with "my lt" => (first | with_reducible assumption | exact Nat.lt_add_one _ | exact lt_r _ (by first | with_reducible assumption | exact Nat.lt_add_one _) | exact lt_r _ (lt_r _ (by first | with_reducible assumption | exact Nat.lt_add_one _)) | exact lt_r _ (lt_r _ (lt_r _ (by first | with_reducible assumption | exact Nat.lt_add_one _))) | exact lt_r _ (lt_r _ (lt_r _ (lt_r _ (by first | with_reducible assumption | exact Nat.lt_add_one _)))) | exact lt_r _ (lt_r _ (lt_r _ (lt_r _ (lt_r _ (by first | with_reducible assumption | exact Nat.lt_add_one _))))) | exact lt_r _ (lt_r _ (lt_r _ (lt_r _ (lt_r _ (lt_r _ (by first | with_reducible assumption | exact Nat.lt_add_one _))))))))
  (k_with "my ne" => (first | with_reducible assumption | exact Ne.symm (by with_reducible assumption) | (refine neN ?_; (try dsimp only); first | exact Nat.ne_of_gt (by k_extra "my lt") | exact Nat.ne_of_lt (by k_extra "my lt") | k_extra "my cj" | exact Ne.symm (by k_extra "my cj"))))
  (k_with "my om" => k_dflt (first | with_reducible assumption | ((with_reducible show @LT.lt Nat _ _ _); (first | exact q_lt0 (by with_reducible assumption) (by rfl) | exact q_lt1 (by with_reducible assumption) (by rfl) | exact q_lt2 (by with_reducible assumption) (by rfl) | exact q_lt3 (by with_reducible assumption) (by rfl) | exact q_le4 (by with_reducible assumption) (by rfl) | exact q_eq1 (by with_reducible assumption) (by rfl) | k_extra "my lt" | k_extra "my cj" | decide)) | ((with_reducible show @LE.le Nat _ _ _); (first | exact q_le0 (by with_reducible assumption) (by rfl) | exact q_le1 (by with_reducible assumption) (by rfl) | exact q_le2 (by with_reducible assumption) (by rfl) | exact q_le3 (by with_reducible assumption) (by rfl) | exact q_eq0 (by with_reducible assumption) (by rfl) | k_extra "my cj" | decide)) | ((with_reducible show @LT.lt Int _ _ _); (first | exact q_il0 (by with_reducible assumption) (by rfl) | exact q_il1 (by with_reducible assumption) (by rfl) | exact q_il3 (by with_reducible assumption) (by rfl) | k_extra "my cj" | decide)) | ((with_reducible show @LE.le Int _ _ _); (first | exact q_il2 (by with_reducible assumption) (by rfl) | k_extra "my cj" | decide)) | ((with_reducible show @Ne Nat _ _); k_extra "my ne") | decide))
  trivial
example : True := by
  (k_with "my in" => (repeat (first | exact List.Mem.head _ | refine List.Mem.tail _ ?_ | refine List.mem_append_right _ ?_)))
  (k_with "my at" => (repeat (first | assumption | exact List.mem_append_left _ (by assumption) | refine List.Mem.tail _ ?_ | refine List.mem_append_right _ ?_)))
  (k_with "my perm" => ((try simp only [List.cons_append, List.nil_append, List.append_assoc]); (repeat (refine List.forall_mem_cons.mpr ⟨?_, ?_⟩; (focus ((walk_at "my in"); done)))); first | exact List.forall_mem_nil _ | (intro q9 hq9; (try (have hq8 := List.mem_append.mp hq9; clear hq9; rcases hq8 with hq9 | hq9)); (all_goals (try (have hq7 := List.mem_cons.mp hq9; clear hq9; rcases hq7 with hq7 | hq9))); (all_goals (try (have hq7 := List.mem_cons.mp hq9; clear hq9; rcases hq7 with hq7 | hq9))); all_goals first | (subst hq7; walk_at "my in"; done) | (repeat (first | exact hq9 | exact List.mem_append_left _ hq9 | refine List.Mem.tail _ ?_ | refine List.mem_append_right _ ?_)))))
  (k_with "my bnd" => (first | omega | exact Int.lt_of_lt_of_le (by decide) (fmod_lo _ (by decide)) | exact Int.lt_trans (fmod_hi _ (by decide)) (by decide)))
  (k_with "binaryOp Mult int int" => (((with_reducible show wpAny _ _ (binaryOp Operator.Mult (Value.int _ _) (Value.int _ _)) _ _ _); refine mul_int ?_ (IntMulOk.of_left (intBits_le_64 ?mlo ?mhi)); (case mlo => walk_at "my bnd"); (case mhi => walk_at "my bnd"))))
  (k_with "binaryOp FloorDiv int int" => (((with_reducible show wpAny _ _ (binaryOp Operator.FloorDiv (Value.int _ _) (Value.int _ _)) _ _ _); refine floordiv_int ?fne ?_ (Or.inl (PyProof.noPylong_of_log2 (log2_small ?flo ?fhi))); (case fne => omega); (case flo => omega); (case fhi => omega))))
  (k_with "execs cons" => ((k_here; refine fold_stmt ?_; intro qk sk)))
  trivial
example : True := by
  (k_with "eval Name" => ((k_here; k_dflt (first
    | (refine' name_l ?F ?e ?v ?a ?b ?d ?_; (case F => k_asm); (case e => rfl); (case b => rfl); (case v => rfl); (case a => rfl); (case d => decide); k_whole)
    | (refine' nameX_K ?F ?X ?T ?e ?_ ?a ?b; (case F => k_asm); (case b => rfl); (case X => k_asm); (case T => k_asm); (case a => rfl); (case e => k_is); k_whole)
    | (refine' nameX_B ?F ?X ?T ?e ?v ?n ?_ ?a ?b; (case F => k_asm); (case b => rfl); (case X => k_asm); (case T => k_asm); (case a => rfl); (case e => k_is); (case v => boot_fast); (case n => decide); k_whole)))))
  (k_with "storeName" => ((k_here; k_dflt (refine' store_l ?F ?N ?e ?a ?b ?_; (case F => k_asm); (case N => k_asm); (case e => rfl); (case a => rfl); (case b => rfl); k_whole; intro h' mk F' N'; (try k_sweep)))))
  trivial
example : True := by
  (k_with "my steps" => (repeat' (first | ((try k_unmd); k_unfold; (try dsimp only)) | (k_end; wrow_close) | walk1 | (dsimp only; walk1) | (leave1; walk_say "STEP leave1"; try dsimp only) | fail "no step")))
  (k_with "my fold0" => ((refine fold_entry ?_; intro Ak envk qk ek sk; (rename Fr _ _ _ _ => kF); (refine fr_let kF ?_); clear kF; intro mk kF)))
  (k_with "my units" => ((have hcL9 := cLine_is; (simp (config := { zetaDelta := true }) only [units_in1, units_deeper, Around.mark_units, units_caller, ktrTop]); omega)))
  (k_with "my room" => (((simp (config := { zetaDelta := true }) only [depth_under_make, depth_under_kw, depth_in1, depth_deeper, depth_caller, ktrTop, recursionLimit]); omega)))
  (k_with "callWith ref" => (k_here; k_dflt (first
    | (refine' callWith_K ?k1 ?k2 ?_; (case k1 => with_reducible assumption); (case k2 => k_is); k_whole)
    | (refine' callw_0 ?k0 ?k1 ?k2 ?_; (case k0 => with_reducible assumption); (case k1 => with_reducible assumption); (case k2 => k_is); k_whole)
    | (refine' callw_m0 ?k0 ?kN ?k1 ?kq ?k2 ?_; (case k0 => with_reducible assumption); (case kN => with_reducible assumption); (case k1 => with_reducible assumption); (case kq => k_mem); (case k2 => k_is); k_whole; try dsimp only [List.nil_append, List.cons_append])
    | (refine' callWith_M ?k1 ?k2 ?k3 ?k4 ?_; (case k1 => with_reducible assumption); (case k2 => with_reducible assumption); (case k3 => k_mem); (case k4 => k_is); k_whole)
    | (refine' callWith_KW ?k1 ?k2 ?k3 ?_; (case k1 => with_reducible assumption); (case k2 => k_is); (case k3 => exact rfl); k_whole)
    | (refine' callWith_KW0 ?k1 ?k2 ?k3 ?_; (case k1 => with_reducible assumption); (case k2 => k_is); (case k3 => exact rfl); k_whole))))
  (k_with "compareOp IsNot ref ref" => (k_here; first | (with_reducible refine isnot_ref_same ?_) | refine wpAny_isNot_ref_self ?_))
  (k_with "my stop" => ((rename Mark => mk9); clear mk9; refine stop_at ?_))
  (k_with "subscriptTail" => (k_extra "my stop"))
  (k_with "getMethod ref" => (k_extra "my stop"))
  trivial
example : True := by
  (k_with "my small" => (first | omega | ((try simp (config := { zetaDelta := true }) only [depth_under_make, depth_under_kw, depth_in1, depth_deeper, depth_caller, units_in1, units_deeper, Around.mark_units, units_caller]); (try simp (config := { zetaDelta := true }) only [ktrTop]); first | omega | decide)))
  (k_with "exec Raise some none" => ((k_here; (with_reducible show wpAny _ _ (exec (Stmt.Raise (some (Expr.Call (Expr.Name ("FormError" : Str) _) _ _ _)) none _) _) _ _ _); k_dflt (refine raise_form (by assumption) (by first | assumption | with_unfolding_all rfl) ?_))))
  (k_with "exec Raise some none" => ((k_here; (with_reducible show wpAny _ _ (exec (Stmt.Raise (some (Expr.Call (Expr.Name ("SizeError" : Str) _) _ _ _)) none _) _) _ _ _); k_dflt (refine raise_size (by assumption) (by first | assumption | with_unfolding_all rfl) ?_))))
  (k_with "call ref" => ((k_here; first
  | ((with_reducible show wpAny _ _ (call (Value.ref 51) [Value.str _ _]) _ _ _); (refine' make_form ?kF ?kX ?kN ?kh ?kf ?kd ?ku ?_); (case kF => assumption); (case kX => assumption); (case kN => assumption); (case kh => with_unfolding_all exact rfl); (case kf => with_unfolding_all exact rfl); (case kd => walk_at "my small"); (case ku => walk_at "my small"); k_whole; intro e' o' h' tk' hx' F' N' ne')
  | ((with_reducible show wpAny _ _ (call (Value.ref 63) [Value.str _ _]) _ _ _); (refine' make_size ?kF ?kX ?kN ?kh ?kf ?kd ?ku ?_); (case kF => assumption); (case kX => assumption); (case kN => assumption); (case kh => with_unfolding_all exact rfl); (case kf => with_unfolding_all exact rfl); (case kd => walk_at "my small"); (case ku => walk_at "my small"); k_whole; intro e' o' h' tk' hx' F' N' ne'))))
  (k_with "OwnUp ref" => ((refine ⟨_, _, rfl, by assumption, Frag.In.keeps (by assumption) (Fr.keep (by assumption)), (News.get (by assumption) (.head _)), ?_⟩)))
  (k_with "leaving ref" => ((k_here; first
  | ((refine' leave_led ?kB ?kf ?kk ?kF ?kN ?kx ?kn ?_); (case kx => assumption); (case kF => assumption); (case kN => assumption); (case kB => assumption); (case kf => with_unfolding_all exact rfl); (case kk => first | assumption | with_unfolding_all exact rfl); (case kn => assumption); k_whole; intro h' R' U'; (try dsimp only at R' U' ⊢))
  | ((refine' leave_up ?kB ?kf ?kF ?kR ?kU ?_); (case kR => assumption); (case kF => assumption); (case kB => assumption); (case kf => with_unfolding_all exact rfl); (case kU => assumption); k_whole; intro h' R' U'; (try dsimp only at R' U' ⊢)))))
  (k_with "turn enter" => ((refine' code_T ?k1 ?k2 ?k3 ?k4 ?k5 ?kD ?kA ?kF ?kK ?k6 ?k7 ?k8 ?k9 ?kB ?_ ?c2 ?c3 ?c4 ?c5; (case kA => exact rfl); (case kF => exact rfl); (case kK => assumption); (case k1 => k_asm); (case k2 => k_asm); (case k3 => k_asm); (case k4 => k_asm); (case k5 => k_asm); (case kD => assumption); (case k6 => k_is); (case k7 => k_is); (case k8 => ktr_room); (case k9 => exact BindsTo.of_eq rfl); (case c5 => decide); (case kB => exact locs rfl); (case c2 => exact rfl); (case c3 => exact rfl); (case c4 => exact rfl); k_whole; intro g' L' h' FG' F' N' B' X' T' D' l1; (try dsimp only); (try k_lift B'); (try k_fold))))
  (k_with "my size" => ((rw [KBw.ints_length]; first | omega | (simp only [Array.size_append]; omega))))
  (k_with "subscriptTail" => ((k_here; (with_reducible show wpAny _ _ (subscriptTail _ (Expr.Slice _ _ none _) (Value.bytes _ _) (Value.ref _)) _ _ _); (with_reducible rename Fr _ _ _ _ => F'); (with_reducible rename News _ _ _ _ => N'); (refine KBc.slice_K (s := ⟨_, _, _, _, _⟩) F' N' rfl (by constructor) (by constructor) (by walk_at "my size") ?_); intro _ _ _ _ _ _)))
  (k_with "turn enter cells" => ((refine' code_TC ?k1 ?k2 ?k3 ?k4 ?k5 ?kG ?kA ?kF ?kK ?k6 ?k7 ?k8 ?k9 ?kB ?kD ?_ ?c2 ?c3 ?c4; (case kA => exact rfl); (case kF => exact rfl); (case kK => assumption); (case k1 => k_asm); (case k2 => k_asm); (case k3 => k_asm); (case k4 => k_asm); (case k5 => k_asm); (case kG => assumption); (case k6 => k_is); (case k7 => k_is); (case k8 => ktr_room); (case k9 => exact BindsTo.of_eq rfl); (case kB => exact rfl); (case kD => decide +kernel); (case c2 => exact rfl); (case c3 => exact rfl); (case c4 => exact rfl); k_whole; intro g' L' h' tk' cells' FG' F' N' Y' B' X' T' D' l1; (try k_lt l1); (have l9 := l1); (repeat (replace l9 := And.right l9)); k_cells Y'; (try simp only [List.cons_append, List.nil_append] at N'); (first | (refine fr_one F' (by rfl) ?_; clear F'; intro F') | (refine fr_cell F' (by rfl) ?_; clear F'; intro F')); (try dsimp only); (try k_lift B'); (try k_fold))))
  (k_with "LeaveT" => ((k_dflt (refine' leaveT ?F ?N ?T ?_; (case F => k_asm); (case N => k_asm); (case T => first | assumption | exact KtsTurn.refl); k_whole); intro kg kT kF kN kB kD; (try dsimp only))))
  trivial
example : True := by
  (k_with "my all" => (first | exact ne_all (by assumption) (Nat.le_refl _) | exact ne_all (by assumption) (Nat.le_of_lt (by assumption)) | exact ne_all (by assumption) (by omega)))
  trivial
example : True := by
  (k_with "call type:bytes" => ((k_here; (with_reducible show wpAny _ _ (call (Value.type "bytes") [Value.bytes _ _]) _ _ _); refine MB.call_b ?_)))
  (k_with "call type:bytes" => ((k_here; (with_reducible show wpAny _ _ (call (Value.type "bytes") [Value.int _ _]) _ _ _); (refine MB.call_i ?bi0 ?bi1 ?_); (case bi0 => omega); (case bi1 => omega); intro _ _)))
  (k_with "lam enter" => ((refine' kla_code ?k1 ?k2 ?k3 ?k4 ?k5 ?kA ?kF ?kK ?k6 ?k7 ?k8 ?k9 ?kB ?_ ?c2 ?c3 ?c4 ?c5; (case kA => exact rfl); (case kF => exact rfl); (case kK => assumption); (case k1 => k_asm); (case k2 => k_asm); (case k3 => k_asm); (case k4 => k_asm); (case k5 => k_asm); (case k6 => k_mem); (case k7 => exact codeRec_news (by k_asm) (by k_mem) (by assumption) (by assumption)); (case k8 => ktr_room); (case k9 => exact rfl); (case c5 => decide); (case kB => exact locs rfl); (case c2 => exact rfl); (case c3 => exact rfl); (case c4 => exact rfl); k_whole; intro g' L' h' FG' F' N' B' X' T'; (try dsimp only); (try k_lift B'); (try k_fold))))
  (k_with "my sub" => ((refine sub_news (by assumption) ?_; (repeat (refine List.forall_mem_cons.mpr ⟨?_, ?_⟩; (focus ((k_mem); done)))); first | exact List.forall_mem_nil _ | (intro _ hp9; (repeat (first | exact hp9 | refine List.Mem.tail _ ?_))))))
  (k_with "same item" => (first | exact MQ.at_bytes _ _ _ | exact MQ.at_int _ _ _))
  (k_with "compareOp NotEq ref ref" => ((k_here; k_dflt (refine MQ.ne_list1 (News.isList (by assumption) (by k_mem)) (News.isList (by assumption) (by k_mem)) (by ktr_units) (by walk_at "same item") ?_))))
  trivial
example : True := by
  (k_with "call ref" => ((k_here; (with_reducible show wpAny _ _ (call (Value.ref 500) [Value.ref _, Value.int _ _]) _ _ _); (with_unfolding_all refine take_U (by assumption) (by assumption) (by assumption) (by assumption) (by k_updF) (by assumption) (by first | assumption | exact rfl) (by walk_at "my small") (by walk_at "my small") (by walk_at "my bnd") (by walk_at "my bnd") (by first | assumption | omega) ?_); intro d' x' y' td' tx' ty' h' tk' F' N' hd1' hd2' hx'; (try dsimp only at N'); (try k_sweep))))
  (k_with "my item" => ((refine item_at (by assumption) (by k_mem) (by assumption) (by assumption) (by assumption) ?_; intro _ hv')))
  (k_with "exec For Name Call cons nil" => ((k_here; k_dflt (refine For_from ?_))))
  (k_with "exec For Name List cons nil" => ((k_here; k_dflt (refine For_from ?_))))
  (k_with "binaryOp Add" => ((k_here; (with_reducible show wpAny _ _ (binaryOp Operator.Add (Value.ref _) (Value.ref _)) _ _ _); k_dflt (refine' menu_K ?mF ?mN ?ml ?mP ?mi ?mc ?mz ?_; (case mF => assumption); (case mN => assumption); (case ml => k_mem); (case mP => assumption); (case mi => repeat constructor); (case mc => assumption); (case mz => decide)); intro h' d' items' F' N' l1 hI'; (try k_lt l1))))
  (k_with "call builtin:list.append" => ((k_here; (with_reducible show wpAny _ _ (call (Value.builtin _) [Value.ref _, _]) _ _ _); k_dflt (refine' append_K ?k1 ?k2 ?k3 ?_ ?z; (case k1 => k_asm); (case k2 => k_asm); (case k3 => k_upd); (case z => rw [sizeLine_eq]; omega); k_whole); intro h' F' N'; (try k_sweep))))
  trivial
example : True := by
  (k_with "my ne2" => (first | k_extra "my ne" | (k_dflt (refine ne_cls (by assumption) (by k_mem) (by k_mem) rfl rfl (by decide))) | (refine neN ?_; (try dsimp only); omega (config := {}))))
  trivial
example : True := by
  (k_with "newTuple" => ((k_here; k_dflt (refine' kup_newTuple ?F ?N ?_ ?z; (case F => k_asm); (case N => k_asm); (case z => kmk_size)); intro D' h' F' N' l1; (try k_lt l1); (try k_sweep))))
  (k_with "exec For Tuple Name cons nil" => ((k_here; k_dflt (refine For_from ?_))))
  (k_with "my tup" => (exact tup_at (by assumption) (by k_mem)))
  (k_with "compareOp NotEq ref ref" => ((k_here; k_dflt (refine MQ.ne_tuple2 (by walk_at "my tup") (by walk_at "my tup") (by ktr_units) (by walk_at "same item") (by walk_at "same item") ?_))))
  (k_with "compareOp Eq ref ref" => ((k_here; k_dflt (refine eq_tuple2 (by walk_at "my tup") (by walk_at "my tup") (by ktr_units) (by walk_at "same item") (by walk_at "same item") ?_))))
  trivial
example : True := by
  (k_with "binaryOp RShift int int" => (first | refine shr8 ?_ | refine shr16 ?_))
  (k_with "binaryOp BitAnd int int" => (first | refine and8 ?_ | refine and16 ?_ | (refine and_any (by decide) ?_; intro r' hr0' hr1')))
  (k_with "binaryOp LShift int int" => (first | refine shl8 (by walk_at "my bnd") (by walk_at "my bnd") ?_ | refine shl16 (by walk_at "my bnd") (by walk_at "my bnd") ?_))
  (k_with "binaryOp BitOr int int" => (first | refine or8 (by walk_at "my bnd") (by walk_at "my bnd") (by walk_at "my bnd") ?_ | refine or16 (by walk_at "my bnd") (by walk_at "my bnd") (by walk_at "my bnd") ?_))
  (k_with "my idx" => (((try simp only [List.length_append, List.length_cons, List.length_nil, List.length_take, List.length_drop, List.length_map]); omega)))
  (k_with "my enter" => ((refine' code_def ?k1 ?k2 ?k3 ?k4 ?k5 ?kA ?kF ?kK ?k6 ?k7 ?k8 ?k9 ?kB ?_ ?c2 ?c3 ?c4 ?c5; (case kA => exact rfl); (case kF => exact rfl); (case kK => assumption); (case k1 => k_asm); (case k2 => k_asm); (case k3 => k_asm); (case k4 => k_asm); (case k5 => k_asm); (case k6 => k_is); (case k7 => k_is); (case k8 => ktr_room); (case k9 => first | exact BindsTo.of_eq rfl | exact binds_K (by k_in) rfl (by k_is) rfl rfl rfl); (case c5 => decide); (case kB => exact locs rfl); (case c2 => exact rfl); (case c3 => exact rfl); (case c4 => exact rfl); k_whole; intro g' L' h' FG' F' N' B' X' T'; (try dsimp only); (try k_lift B'); (try k_fold))))
  (k_with "call ref" => ((k_here; (with_reducible show wpAny _ _ (call (Value.ref 316) _) _ _ _); k_dflt (refine' ip_made ?B ?F ?X ?N ?T ?k ?d ?u ?b ?_; (case B => k_asm); (case F => k_asm); (case X => k_asm); (case N => k_asm); (case T => k_asm); (case k => first | assumption | exact rfl); (case d => walk_at "my small"); (case u => walk_at "my small"); (case b => (refine' binds_of ?h0 ?hb; (case h0 => k_is); (case hb => (intro s9 x9 X9; first | exact BindsTo.of_eq rfl | exact binds_K (by k_in) rfl (by k_is) rfl rfl rfl)))); k_whole); intro x' d' h' tk' e1' e2' e3' e4' e5' e6' e7' e8' e9' e10' t1' t2' t3' t4' t5' t6' t7' t8' t9' t10' F' N' l1 l2; (try k_lt l1); (try k_sweep))))
  (k_with "call ref" => ((k_here; (with_reducible show wpAny _ _ (call (Value.ref 231) _) _ _ _); k_dflt (refine' im_made ?B ?F ?X ?N ?T ?k ?d ?u ?b ?_; (case B => k_asm); (case F => k_asm); (case X => k_asm); (case N => k_asm); (case T => k_asm); (case k => first | assumption | exact rfl); (case d => walk_at "my small"); (case u => walk_at "my small"); (case b => (refine' binds_of ?h0 ?hb; (case h0 => k_is); (case hb => (intro s9 x9 X9; first | exact BindsTo.of_eq rfl | exact binds_K (by k_in) rfl (by k_is) rfl rfl rfl)))); k_whole); intro x' d' h' tk' e1' e2' e3' e4' t1' t2' t3' t4' F' N' l1 l2; (try k_lt l1); (try k_sweep))))
  trivial
example : True := by
  (k_with "call ref" => ((k_here; (with_reducible show wpAny _ _ (call (Value.ref 128) [Value.int _ _]) _ _ _); (with_unfolding_all refine put16_c (by assumption) (by assumption) (by assumption) (by assumption) (by assumption) (by first | assumption | exact rfl) (by walk_at "my small") (by walk_at "my small")  ?_); intro b' t' h' tk' hb' F' N'; (try k_sweep))))
  (k_with "call ref" => ((k_here; (with_reducible show wpAny _ _ (call (Value.ref 135) [Value.int _ _]) _ _ _); (with_unfolding_all refine put32_c (by assumption) (by assumption) (by assumption) (by assumption) (by assumption) (by first | assumption | exact rfl) (by walk_at "my small") (by walk_at "my small")  ?_); intro b' t' h' tk' hb' F' N'; (try k_sweep))))
  (k_with "call ref" => ((k_here; (with_reducible show wpAny _ _ (call (Value.ref 149) [Value.bytes _ _, Value.int _ _]) _ _ _); (with_unfolding_all refine get16_c (by assumption) (by assumption) (by assumption) (by assumption) (by assumption) (by first | assumption | exact rfl) (by walk_at "my small") (by walk_at "my small") (by assumption) (by walk_at "my bnd") (by walk_at "my idx") (by walk_at "my idx") ?_); intro r' t' h' tk' hr' F' N'; have hr2' := hr'.2; (try k_sweep))))
  (k_with "call ref" => ((k_here; (with_reducible show wpAny _ _ (call (Value.ref 156) [Value.bytes _ _, Value.int _ _]) _ _ _); (with_unfolding_all refine get32_c (by assumption) (by assumption) (by assumption) (by assumption) (by assumption) (by first | assumption | exact rfl) (by walk_at "my small") (by walk_at "my small") (by assumption) (by walk_at "my bnd") (by walk_at "my idx") (by walk_at "my idx") ?_); intro r' t' h' tk' hr' F' N'; have hr2' := hr'.2; (try k_sweep))))
  (k_with "exec While Compare cons nil" => ((k_here; k_dflt (refine while_stop ?_))))
  (k_with "call ref" => ((k_here; (with_reducible show wpAny _ _ (call (Value.ref 163) [Value.int _ _]) _ _ _); (with_unfolding_all refine fold_c (by assumption) (by assumption) (by assumption) (by assumption) (by assumption) (by first | assumption | exact rfl) (by walk_at "my small") (by walk_at "my small") (by first | assumption | omega) ?_); intro r' t' h' tk' hr' F' N'; (try k_sweep))))
  (k_with "call ref" => ((k_here; (with_reducible show wpAny _ _ (call (Value.ref 171) [Value.bytes _ _, Value.int 0 _]) _ _ _); (with_unfolding_all refine ones_c (by assumption) (by assumption) (by assumption) (by assumption) (by assumption) (by first | assumption | exact rfl) (by walk_at "my small") (by walk_at "my small") (by assumption) (by walk_at "my idx") ?_); intro r' t' h' tk' hr' F' N'; (try k_sweep))))
  (k_with "call ref" => ((k_here; (with_reducible show wpAny _ _ (call (Value.ref 179) [Value.bytes _ _]) _ _ _); (with_unfolding_all refine check_c (by assumption) (by assumption) (by assumption) (by assumption) (by assumption) (by first | assumption | exact rfl) (by walk_at "my small") (by walk_at "my small") (by assumption) (by walk_at "my idx") ?_); intro r' t' h' tk' hr' F' N'; (try k_sweep))))
  trivial
theorem pack_c {w : World} {p : Program} {loose : List Str} {mean : ExcName → Option Value} {mg mb : Str → Option Value} {dp un : Nat} {gd : Option (List Code)} {cn : Str} {cs : Scope} {a : Addr} {ccd : Value} {cl : List (Str × Addr)} {outer : List Env} {A₀ : Around} {base h₀ : Heap} {L : Addr} {m : Str → Option Value} {news : List (Addr × Obj)} {s : Shared} {Q E : Value → Shared → Prop} {x d : Addr} {e1 e2 e3 e4 : Int} {t1 t2 t3 t4 u1 u2 u3 u4 : Tok} {kind code rest : Int} {pay : Array UInt8}
    (B : Below A₀ base outer h₀) (F : Fr h₀ L s.heap m) (X : (hd.heap_1 w.params).In h₀) (N : News h₀ L s.heap ((x, instObj 231 d) :: (d, dictOf [⟨e1, .str (Str.ofString "kind") t1, .int kind u1⟩, ⟨e2, .str (Str.ofString "code") t2, .int code u2⟩, ⟨e3, .str (Str.ofString "rest") t3, .int rest u3⟩, ⟨e4, .str (Str.ofString "payload") t4, .bytes pay u4⟩] 4) :: news)) (T : Top p loose mean mg mb h₀) (hk : cs.kind = .function) (hdp : dp < 700) (hun : un < 50) (hsz : pay.size ≤ 100)
    (ret : ∀ b t h' tk', (0 ≤ kind ∧ kind < 256 ∧ 0 ≤ code ∧ code < 256 ∧ 0 ≤ rest ∧ rest < 4294967296) → b.size = 8 + pay.size → Fr h₀ L h' m → News h₀ L h' ((x, instObj 231 d) :: (d, dictOf [⟨e1, .str (Str.ofString "kind") t1, .int kind u1⟩, ⟨e2, .str (Str.ofString "code") t2, .int code u2⟩, ⟨e3, .str (Str.ofString "rest") t3, .int rest u3⟩, ⟨e4, .str (Str.ofString "payload") t4, .bytes pay u4⟩] 4) :: news) → Q (.bytes b t) { s with heap := h', toks := tk' })
    (rais : ∀ e h' tk' g₂, ¬ (0 ≤ kind ∧ kind < 256 ∧ 0 ≤ code ∧ code < 256 ∧ 0 ≤ rest ∧ rest < 4294967296) → Fr h₀ L g₂ m → RaisedSN base g₂ (envX cn cs L a ccd cl :: outer) e (.ref 51) ((x, instObj 231 d) :: (d, dictOf [⟨e1, .str (Str.ofString "kind") t1, .int kind u1⟩, ⟨e2, .str (Str.ofString "code") t2, .int code u2⟩, ⟨e3, .str (Str.ofString "rest") t3, .int rest u3⟩, ⟨e4, .str (Str.ofString "payload") t4, .bytes pay u4⟩] 4) :: news) h' → g₂.UpToSlots h' → E (.ref e) { s with heap := h', toks := tk' }) :
    wpAny (model PySem.Challenge.rw_pf0401_01.row.prog w) (ktrTop dp un gd cn cs L a ccd cl outer) (call (.ref 256) [.ref x]) Q E s := by
  refine wpAny_call ?_
  k_dflt cell_enter
  have hpay : KBw.bInts pay = KBw.bInts pay := rfl
  have hlen : (KBw.bInts pay).length ≤ 100 := by rw [KBw.ints_length]; exact hsz
  k_steps
  · rename KBw.bInts _ = _ => hb9
    have hl9 := congrArg List.length hb9
    rw [KBw.ints_length] at hl9
    exact ret _ _ _ _ (by omega) (by rw [hl9]; simp only [List.length_append, List.length_cons, List.length_nil, List.length_map, KBw.ints_length]; omega) (by assumption) (sub_news (by assumption) (fun _ hp => .tail _ hp))
  all_goals exact rais _ _ _ _ (by omega) (by assumption) (by assumption) (by assumption)
theorem echo_c {w : World} {p : Program} {loose : List Str} {mean : ExcName → Option Value} {mg mb : Str → Option Value} {dp un : Nat} {gd : Option (List Code)} {cn : Str} {cs : Scope} {a : Addr} {ccd : Value} {cl : List (Str × Addr)} {outer : List Env} {A₀ : Around} {base h₀ : Heap} {L : Addr} {m : Str → Option Value} {news : List (Addr × Obj)} {s : Shared} {Q E : Value → Shared → Prop} {ident number : Int} {ti tn : Tok}
    (B : Below A₀ base outer h₀) (F : Fr h₀ L s.heap m) (X : (hd.heap_1 w.params).In h₀) (N : News h₀ L s.heap news) (T : Top p loose mean mg mb h₀) (hk : cs.kind = .function) (hdp : dp < 700) (hun : un < 50) (hbig : ident < 1000000)
    (ret : ∀ t h' tk', (0 ≤ ident ∧ ident < 65536 ∧ 0 ≤ number ∧ number < 65536) → Fr h₀ L h' m → News h₀ L h' news → Q (.int (ident * 65536 + number) t) { s with heap := h', toks := tk' })
    (rais : ∀ e h' tk' g₂, ¬ (0 ≤ ident ∧ ident < 65536 ∧ 0 ≤ number ∧ number < 65536) → Fr h₀ L g₂ m → RaisedSN base g₂ (envX cn cs L a ccd cl :: outer) e (.ref 51) news h' → g₂.UpToSlots h' → E (.ref e) { s with heap := h', toks := tk' }) :
    wpAny (model PySem.Challenge.rw_pf0401_01.row.prog w) (ktrTop dp un gd cn cs L a ccd cl outer) (call (.ref 263) [.int ident ti, .int number tn]) Q E s := by
  refine wpAny_call ?_
  k_dflt cell_enter
  k_steps
  all_goals first
    | exact rais _ _ _ _ (by omega) (by assumption) (by assumption) (by assumption)
    | exact ret _ _ _ (by omega) (by assumption) (by assumption)
example : True := by
  w_top off
  trivial
example : True := by
  (k_with "call type:bytes" => ((k_here; (with_reducible show wpAny _ _ (call (Value.type "bytes") [Value.ref _]) _ _ _); k_dflt (refine' bytes_range ?bF ?bN ?bh ?bR ?b0 ?b1 ?b2 ?_; (case bF => assumption); (case bN => assumption); (case bh => exact rfl); (case bR => assumption); (case b0 => omega); (case b1 => omega); (case b2 => omega)); intro bs' h' t' tk' hbs' F' N'; (try k_sweep))))
  (k_with "eval Lambda" => ((k_here; k_dflt (refine lam_stop ?_))))
  (k_with "call builtin:len" => ((k_here; (with_reducible show wpAny _ _ (call (Value.builtin "len") [Value.bytes _ _]) _ _ _); (refine len_bytes (by omega) ?_))))
  trivial
local macro_rules | `(tactic| k_fmods) => `(tactic| skip)
example : True := by
  (k_with "exec For Name Tuple cons nil" => ((k_here; k_dflt (refine For_from ?_))))
  (k_with "binaryOp FloorDiv int int" => ((refine div_pos9 ?da ?db ?_; (case da => decide); (case db => decide))))
  (k_with "binaryOp Mod int int" => ((refine mod_pos9 ?da ?_; (case da => decide))))
  (k_with "call builtin:len" => ((k_here; (with_reducible show wpAny _ _ (call (Value.builtin "len") [Value.bytes #[] _]) _ _ _); (refine len_nil9 ?_); intro _)))
  trivial
example : True := by
  (k_with "my fold" => (refine fold_any ?_; intro Ak qk ek sk))
  (k_with "my refold" => ((try k_unmd); (try k_unfold); (try dsimp only); (try k_fold)))
  trivial
def hd20 (c t : Int) : List Int := [69, 0, 0, 28, 0, 0, 0, 0, 64, 17, c / 256 % 256, c % 256, 0, 0, 0, 9, t / 65536 / 256 % 256, t / 65536 % 256, t / 256 % 256, t % 256]
theorem hd20_sum {c t : Int} (h0 : 0 ≤ c) (h1 : c ≤ 65535) : sum16 (hd20 c t) = sum16 (hd20 0 t) + c := by
  have e : c / 256 % 256 * 256 + c % 256 = c := by omega
  simp only [hd20, sum16]
  generalize t / 65536 / 256 % 256 = a1
  generalize t / 65536 % 256 = a2
  generalize t / 256 % 256 = a3
  generalize t % 256 = a4
  generalize c / 256 % 256 = b1 at *
  generalize c % 256 = b2 at *
  omega
theorem hd20_pos {c t : Int} (h0 : 0 ≤ c) (h1 : c ≤ 65535) : 0 < sum16 (hd20 c t) := by
  have e : c / 256 % 256 * 256 + c % 256 = c := by omega
  have p1 : 0 ≤ t / 65536 / 256 % 256 := Int.emod_nonneg _ (by decide)
  have p2 : 0 ≤ t / 65536 % 256 := Int.emod_nonneg _ (by decide)
  have p3 : 0 ≤ t / 256 % 256 := Int.emod_nonneg _ (by decide)
  have p4 : 0 ≤ t % 256 := Int.emod_nonneg _ (by decide)
  simp only [hd20, sum16]
  generalize t / 65536 / 256 % 256 = a1 at *
  generalize t / 65536 % 256 = a2 at *
  generalize t / 256 % 256 = a3 at *
  generalize t % 256 = a4 at *
  generalize c / 256 % 256 = b1 at *
  generalize c % 256 = b2 at *
  omega
theorem pack_ip_c {w : World} {p : Program} {loose : List Str} {mean : ExcName → Option Value} {mg mb : Str → Option Value} {dp un : Nat} {gd : Option (List Code)} {cn : Str} {cs : Scope} {a : Addr} {ccd : Value} {cl : List (Str × Addr)} {outer : List Env} {A₀ : Around} {base h₀ : Heap} {L : Addr} {m : Str → Option Value} {news : List (Addr × Obj)} {s : Shared} {Q E : Value → Shared → Prop} {x d : Addr} {e1 e2 e3 e4 e5 e6 e7 e8 e9 e10 : Int} {t1 t2 t3 t4 t5 t6 t7 t8 t9 t10 u1 u2 u3 u4 u5 u6 u9 u10 : Tok} {tg : Int} {pay : Array UInt8} {up : Tok}
    (B : Below A₀ base outer h₀) (F : Fr h₀ L s.heap m) (X : (hd.heap_1 w.params).In h₀) (N : News h₀ L s.heap ((x, instObj 316 d) :: (d, dictOf [⟨e1, .str (Str.ofString "source") t1, .int 9 u1⟩, ⟨e2, .str (Str.ofString "target") t2, .int tg u2⟩, ⟨e3, .str (Str.ofString "protocol") t3, .int 17 u3⟩, ⟨e4, .str (Str.ofString "ident") t4, .int 0 u4⟩, ⟨e5, .str (Str.ofString "ttl") t5, .int 64 u5⟩, ⟨e6, .str (Str.ofString "tos") t6, .int 0 u6⟩, ⟨e7, .str (Str.ofString "dont") t7, .bool false⟩, ⟨e8, .str (Str.ofString "more") t8, .bool false⟩, ⟨e9, .str (Str.ofString "offset") t9, .int 0 u9⟩, ⟨e10, .str (Str.ofString "options") t10, .bytes #[] u10⟩] 10) :: news)) (T : Top p loose mean mg mb h₀) (hk : cs.kind = .function) (hdp : dp < 700) (hun : un < 50) (hsz : pay.size = 8) (ht0 : 0 ≤ tg) (ht1 : tg < 4294967296)
    (ret : ∀ b t c h' tk', 0 ≤ c → c ≤ 65535 → (c + sum16 (hd20 0 tg)) % 65535 = 0 → KBw.bInts b = hd20 c tg ++ KBw.bInts pay → Fr h₀ L h' m → News h₀ L h' ((x, instObj 316 d) :: (d, dictOf [⟨e1, .str (Str.ofString "source") t1, .int 9 u1⟩, ⟨e2, .str (Str.ofString "target") t2, .int tg u2⟩, ⟨e3, .str (Str.ofString "protocol") t3, .int 17 u3⟩, ⟨e4, .str (Str.ofString "ident") t4, .int 0 u4⟩, ⟨e5, .str (Str.ofString "ttl") t5, .int 64 u5⟩, ⟨e6, .str (Str.ofString "tos") t6, .int 0 u6⟩, ⟨e7, .str (Str.ofString "dont") t7, .bool false⟩, ⟨e8, .str (Str.ofString "more") t8, .bool false⟩, ⟨e9, .str (Str.ofString "offset") t9, .int 0 u9⟩, ⟨e10, .str (Str.ofString "options") t10, .bytes #[] u10⟩] 10) :: news) → Q (.bytes b t) { s with heap := h', toks := tk' }) :
    wpAny (model PySem.Challenge.rw_pf0401_01.row.prog w) (ktrTop dp un gd cn cs L a ccd cl outer) (call (.ref 355) [.ref x, .bytes pay up]) Q E s := by
  refine wpAny_call ?_
  k_dflt cell_enter
  (rename News _ _ _ _ => kN9; refine news_let kN9 ?_; clear kN9; intro esk kN9)
  have hpay : KBw.bInts pay = KBw.bInts pay := rfl
  have hlen : (KBw.bInts pay).length = 8 := by rw [KBw.ints_length]; exact hsz
  have hnil : KBw.bInts #[] = [] := rfl
  have e32 : (2 : Int) ^ Int.toNat 32 = 4294967296 := by decide
  have e8 : (2 : Int) ^ Int.toNat 8 = 256 := by decide
  have e16 : (2 : Int) ^ Int.toNat 16 = 65536 := by decide
  have e13 : (2 : Int) ^ Int.toNat 13 = 8192 := by decide
  k_steps
  refine tuple_pass (fun m' => m' "header" = some (.ref x)) rfl (.head _) (by assumption) (by assumption) (by repeat constructor) (by with_unfolding_all rfl) ?_ ?_
  · intro k hk u m1 I it s1 R hm F1 N1 hR
    have hk' : 0 ≤ k ∧ k < 4294967296 := by
      simp only [List.mem_cons, List.not_mem_nil, or_false] at hk
      omega
    rw [m_one hm] at F1
    k_steps
    exact hR _ _ _ rfl (by assumption) (by assumption)
  · intro m1 h1 tk1 hm F1 N1
    rw [m_one hm] at F1
    k_steps
    refine tuple_pass (fun m' => m' "header" = some (.ref x)) rfl (.head _) (by assumption) (by assumption) (by repeat constructor) (by with_unfolding_all rfl) ?_ ?_
    · intro k hk u m1 I it s1 R hm F1 N1 hR
      have hk' : 0 ≤ k ∧ k < 256 := by
        simp only [List.mem_cons, List.not_mem_nil, or_false] at hk
        omega
      rw [m_one hm] at F1
      k_steps
      exact hR _ _ _ rfl (by assumption) (by assumption)
    · intro m1 h1 tk1 hm F1 N1
      rw [m_one hm] at F1
      k_steps
      rename _ ∧ 0 ≤ _ ∧ _ ≤ 65535 ∧ _ => hr9
      rename KBw.bInts _ = _ => hb9
      obtain ⟨q1, q2, q3, _⟩ := hr9
      rw [hsz] at q1 hb9
      exact ret _ _ _ _ _ q2 q3 (by with_unfolding_all exact q1) (by with_unfolding_all exact hb9) (by assumption) (sub_news (by assumption) (fun _ hp => .tail _ (.tail _ (.tail _ (.tail _ hp)))))
example : True := by
  w_top off
  trivial
/-- the head that unpack_ip hands back, its dict -/
inductive HeadD (tg : Int) (od : Obj) : Prop
  | mk (e1 : Int) (e2 : Int) (e3 : Int) (e4 : Int) (e5 : Int) (e6 : Int) (e7 : Int) (e8 : Int) (e9 : Int) (e10 : Int) (t1 : Tok) (t2 : Tok) (t3 : Tok) (t4 : Tok) (t5 : Tok) (t6 : Tok) (t7 : Tok) (t8 : Tok) (t9 : Tok) (t10 : Tok) (u2 : Tok) (u3 : Tok) (u10 : Tok) (v1 : Value) (v4 : Value) (v5 : Value) (v6 : Value) (v7 : Value) (v8 : Value) (v9 : Value) (h1 : od = dictOf [⟨e1, .str (Str.ofString "source") t1, v1⟩, ⟨e2, .str (Str.ofString "target") t2, .int tg u2⟩, ⟨e3, .str (Str.ofString "protocol") t3, .int 17 u3⟩, ⟨e4, .str (Str.ofString "ident") t4, v4⟩, ⟨e5, .str (Str.ofString "ttl") t5, v5⟩, ⟨e6, .str (Str.ofString "tos") t6, v6⟩, ⟨e7, .str (Str.ofString "dont") t7, v7⟩, ⟨e8, .str (Str.ofString "more") t8, v8⟩, ⟨e9, .str (Str.ofString "offset") t9, v9⟩, ⟨e10, .str (Str.ofString "options") t10, .bytes #[] u10⟩] 10) : HeadD tg od
theorem bInts_inj {a b : Array UInt8} (h : KBw.bInts a = KBw.bInts b) : a = b := by
  have key : ∀ l l' : List UInt8, (l.map fun c => ((c.toNat : Nat) : Int)) = l'.map (fun c => ((c.toNat : Nat) : Int)) → l = l' := by
    intro l
    induction l with
    | nil => intro l' h; cases l' with
      | nil => rfl
      | cons _ _ => cases h
    | cons x r ih => intro l' h; cases l' with
      | nil => cases h
      | cons y r' =>
        simp only [List.map_cons, List.cons.injEq] at h
        have hx : x = y := UInt8.toNat_inj.mp (by omega)
        rw [hx, ih r' h.2]
  have := key _ _ h
  exact Array.toList_inj.mp this
theorem ks_facts {c tg : Int} {P ks : List Int} (h : hd20 c tg ++ P = ks) : ks.getD (Int.toNat 0) 0 = 69 ∧ ks.getD (Int.toNat 2) 0 = 0 ∧ ks.getD (Int.toNat (2 + 1)) 0 = 28 ∧ ks.getD (Int.toNat 9) 0 = 17 ∧
    ks.getD (Int.toNat 16) 0 = tg / 65536 / 256 % 256 ∧ ks.getD (Int.toNat (16 + 1)) 0 = tg / 65536 % 256 ∧ ks.getD (Int.toNat (16 + 2)) 0 = tg / 256 % 256 ∧ ks.getD (Int.toNat (16 + 2 + 1)) 0 = tg % 256 := by
  subst h
  exact ⟨rfl, rfl, rfl, rfl, rfl, rfl, rfl, rfl⟩
theorem head_size_c {w : World} {p : Program} {loose : List Str} {mean : ExcName → Option Value} {mg mb : Str → Option Value} {dp un : Nat} {gd : Option (List Code)} {cn : Str} {cs : Scope} {a : Addr} {ccd : Value} {cl : List (Str × Addr)} {outer : List Env} {A₀ : Around} {base h₀ : Heap} {L : Addr} {m : Str → Option Value} {news : List (Addr × Obj)} {s : Shared} {Q E : Value → Shared → Prop} {b : Array UInt8} {tb : Tok} {ks : List Int}
    (B : Below A₀ base outer h₀) (F : Fr h₀ L s.heap m) (X : (hd.heap_1 w.params).In h₀) (N : News h₀ L s.heap news) (T : Top p loose mean mg mb h₀) (hk : cs.kind = .function) (hdp : dp < 800) (hun : un < 100) (hb : KBw.bInts b = ks) (hl : ks.length = 28) (k0 : ks.getD (Int.toNat 0) 0 = 69)
    (ret : ∀ t h' tk', Fr h₀ L h' m → News h₀ L h' news → Q (.int 20 t) { s with heap := h', toks := tk' }) :
    wpAny (model PySem.Challenge.rw_pf0401_01.row.prog w) (ktrTop dp un gd cn cs L a ccd cl outer) (call (.ref 362) [.bytes b tb]) Q E s := by
  refine wpAny_call ?_
  k_dflt cell_enter
  k_steps
  all_goals first
    | (exfalso; omega)
    | (rw [k0]; exact ret _ _ _ (by assumption) (by assumption))
example : True := by
  (k_with "call ref" => ((k_here; (with_reducible show wpAny _ _ (call (Value.ref 362) [Value.bytes _ _]) _ _ _); (with_unfolding_all refine head_size_c (by assumption) (by assumption) (by assumption) (by assumption) (by assumption) (by first | assumption | exact rfl) (by walk_at "my small") (by walk_at "my small") (by assumption) (by assumption) (by assumption) ?_); intro t' h' tk' F' N'; (try k_sweep))))
  (k_with "call ref" => ((k_here; refine call_stop 179 ?_)))
  trivial
theorem unpack_c {w : World} {p : Program} {loose : List Str} {mean : ExcName → Option Value} {mg mb : Str → Option Value} {dp un : Nat} {gd : Option (List Code)} {cn : Str} {cs : Scope} {a : Addr} {ccd : Value} {cl : List (Str × Addr)} {outer : List Env} {A₀ : Around} {base h₀ : Heap} {L : Addr} {m : Str → Option Value} {news : List (Addr × Obj)} {s : Shared} {Q E : Value → Shared → Prop} {b : Array UInt8} {tb : Tok} {c tg : Int} {P : List Int}
    (B : Below A₀ base outer h₀) (F : Fr h₀ L s.heap m) (X : (hd.heap_1 w.params).In h₀) (N : News h₀ L s.heap news) (T : Top p loose mean mg mb h₀) (hk : cs.kind = .function) (hdp : dp < 700) (hun : un < 50) (hb : KBw.bInts b = hd20 c tg ++ P) (hP : P.length = 8) (ht0 : 0 ≤ tg) (ht1 : tg < 4294967296) (hc0 : 0 ≤ c) (hc1 : c ≤ 65535) (hsum : (c + sum16 (hd20 0 tg)) % 65535 = 0)
    (ret : ∀ T hx d od q tq h' tk', HeadD tg od → KBw.bInts q = P → Fr h₀ L h' m → News h₀ L h' ((T, ({ cls := .type "tuple", data := .seq #[.ref hx, .bytes q tq] } : Obj)) :: (hx, instObj 316 d) :: (d, od) :: news) → Q (.ref T) { s with heap := h', toks := tk' }) :
    wpAny (model PySem.Challenge.rw_pf0401_01.row.prog w) (ktrTop dp un gd cn cs L a ccd cl outer) (call (.ref 369) [.bytes b tb]) Q E s := by
  refine wpAny_call ?_
  k_dflt cell_enter
  have hl : (hd20 c tg ++ P).length = 28 := by rw [List.length_append, hP]; rfl
  have hh1 : (hd20 c tg ++ P).take 20 = hd20 c tg := List.take_left' rfl
  have hh2 : (hd20 c tg ++ P).drop 20 = P := List.drop_left' rfl
  have hfull := hd20_sum (t := tg) hc0 hc1
  have hpos := hd20_pos (t := tg) hc0 hc1
  generalize hks : hd20 c tg ++ P = ks at *
  obtain ⟨k0, k2, k3, k9, k16, k17, k18, k19⟩ := ks_facts hks
  k_steps
  unfold CallAt
  rename KBw.bInts (KBy.picked b none _) = _ => hq
  have hq2 : KBw.bInts (KBy.picked b none (some 20)) = hd20 c tg := by
    rw [hq, hl]
    exact hh1
  with_unfolding_all refine check_c (by assumption) (by assumption) (by assumption) (by assumption) (by assumption) (by first | assumption | exact rfl) (by walk_at "my small") (by walk_at "my small") hq2 (by show (20 : Nat) ≤ 10000; decide) ?_
  intro r t9 h9 tk9 hr9 F9 N9
  obtain rfl : r = 0 := by omega
  clear hr9 hq hq2
  k_steps
  rename _ = (ks.getD (Int.toNat 16) 0 * 256 + _) * 65536 + _ ∧ _ => hrt
  rename _ = ks.getD (Int.toNat 2) 0 * 256 + _ ∧ _ => hrl
  obtain ⟨hrt, _⟩ := hrt
  obtain ⟨hrl, _⟩ := hrl
  have ert := hrt.trans (show _ = tg by omega)
  have erl := hrl.trans (show _ = 28 by omega)
  have hop : KBy.picked b (some 20) (some 20) = #[] := bInts_inj (by
    rw [KBc.ints_picked hb, hl]
    exact List.take_zero)
  have hpl : KBw.bInts (KBy.picked b (some 20) (some 28)) = P := by
    rw [KBc.ints_picked hb, hl]
    exact (List.take_of_length_le (by show (List.drop 20 ks).length ≤ 8; rw [hh2, hP]; exact Nat.le_refl _)).trans hh2
  rename News h₀ _ _ _ => N9
  rw [ert, erl, hop, k9] at N9
  refine ret _ _ _ _ _ _ _ _ ?_ hpl (by assumption) N9
  exact ⟨_, _, _, _, _, _, _, _, _, _, _, _, _, _, _, _, _, _, _, _, _, _, _, _, _, _, _, _, _, _, rfl⟩
example : True := by
  w_top off
  k_with_none
  trivial
example : True := by
  (k_with "my mem" => with_reducible (k_extra "my mem1"))
  (k_with "my mem1" => (first | exact List.Mem.head _ | (refine' List.Mem.tail _ ?_; k_extra "my mem1")))
  (k_with "my k_lt" => ((rename (∀ p : Addr × Obj, p ∈ _ → p.1 < _) => l1q); (replace l1q := allLt_of l1q); (simp only [AllLt, and_true] at l1q); (first | ((with_reducible refine spa15 l1q ?_); intro f0q f1q f2q f3q f4q f5q f6q f7q f8q f9q f10q f11q f12q f13q f14q) | ((with_reducible refine spa14 l1q ?_); intro f0q f1q f2q f3q f4q f5q f6q f7q f8q f9q f10q f11q f12q f13q) | ((with_reducible refine spa13 l1q ?_); intro f0q f1q f2q f3q f4q f5q f6q f7q f8q f9q f10q f11q f12q) | ((with_reducible refine spa12 l1q ?_); intro f0q f1q f2q f3q f4q f5q f6q f7q f8q f9q f10q f11q) | ((with_reducible refine spa11 l1q ?_); intro f0q f1q f2q f3q f4q f5q f6q f7q f8q f9q f10q) | ((with_reducible refine spa10 l1q ?_); intro f0q f1q f2q f3q f4q f5q f6q f7q f8q f9q) | ((with_reducible refine spa9 l1q ?_); intro f0q f1q f2q f3q f4q f5q f6q f7q f8q) | ((with_reducible refine spa8 l1q ?_); intro f0q f1q f2q f3q f4q f5q f6q f7q) | ((with_reducible refine spa7 l1q ?_); intro f0q f1q f2q f3q f4q f5q f6q) | ((with_reducible refine spa6 l1q ?_); intro f0q f1q f2q f3q f4q f5q) | ((with_reducible refine spa5 l1q ?_); intro f0q f1q f2q f3q f4q) | ((with_reducible refine spa4 l1q ?_); intro f0q f1q f2q f3q) | ((with_reducible refine spa3 l1q ?_); intro f0q f1q f2q) | ((with_reducible refine spa2 l1q ?_); intro f0q f1q) | ((with_reducible refine spa1 l1q ?_); intro f0q) | ((with_reducible refine spb12 l1q ?_); intro f0q f1q f2q f3q f4q f5q f6q f7q f8q f9q f10q f11q) | ((with_reducible refine spb11 l1q ?_); intro f0q f1q f2q f3q f4q f5q f6q f7q f8q f9q f10q) | ((with_reducible refine spb10 l1q ?_); intro f0q f1q f2q f3q f4q f5q f6q f7q f8q f9q) | ((with_reducible refine spb9 l1q ?_); intro f0q f1q f2q f3q f4q f5q f6q f7q f8q) | ((with_reducible refine spb8 l1q ?_); intro f0q f1q f2q f3q f4q f5q f6q f7q) | ((with_reducible refine spb7 l1q ?_); intro f0q f1q f2q f3q f4q f5q f6q) | ((with_reducible refine spb6 l1q ?_); intro f0q f1q f2q f3q f4q f5q) | ((with_reducible refine spb5 l1q ?_); intro f0q f1q f2q f3q f4q) | ((with_reducible refine spb4 l1q ?_); intro f0q f1q f2q f3q) | ((with_reducible refine spb3 l1q ?_); intro f0q f1q f2q) | ((with_reducible refine spb2 l1q ?_); intro f0q f1q) | skip); revert l1q))
  (k_with "my cj" => (first | with_reducible assumption | exact And.left (by with_reducible assumption) | exact And.left (And.right (by with_reducible assumption)) | exact And.left (And.right (And.right (by with_reducible assumption))) | exact And.left (And.right (And.right (And.right (by with_reducible assumption)))) | exact And.right (by with_reducible assumption) | exact And.right (And.right (by with_reducible assumption)) | exact And.right (And.right (And.right (by with_reducible assumption)))))
  (k_with "my lt" => (first | with_reducible assumption | exact Nat.lt_add_one _ | exact lt_r _ (by first | with_reducible assumption | exact Nat.lt_add_one _) | exact lt_r _ (lt_r _ (by first | with_reducible assumption | exact Nat.lt_add_one _)) | exact lt_r _ (lt_r _ (lt_r _ (by first | with_reducible assumption | exact Nat.lt_add_one _))) | exact lt_r _ (lt_r _ (lt_r _ (lt_r _ (by first | with_reducible assumption | exact Nat.lt_add_one _)))) | exact lt_r _ (lt_r _ (lt_r _ (lt_r _ (lt_r _ (by first | with_reducible assumption | exact Nat.lt_add_one _))))) | exact lt_r _ (lt_r _ (lt_r _ (lt_r _ (lt_r _ (lt_r _ (by first | with_reducible assumption | exact Nat.lt_add_one _))))))))
  (k_with "my ne" => (first | with_reducible assumption | exact Ne.symm (by with_reducible assumption) | (refine neN ?_; (try dsimp only); first | exact Nat.ne_of_gt (by k_extra "my lt") | exact Nat.ne_of_lt (by k_extra "my lt") | k_extra "my cj" | exact Ne.symm (by k_extra "my cj"))))
  (k_with "my om" => k_dflt (first | with_reducible assumption | ((with_reducible show @LT.lt Nat _ _ _); (first | exact q_lt0 (by with_reducible assumption) (by rfl) | exact q_lt1 (by with_reducible assumption) (by rfl) | exact q_lt2 (by with_reducible assumption) (by rfl) | exact q_lt3 (by with_reducible assumption) (by rfl) | exact q_le4 (by with_reducible assumption) (by rfl) | exact q_eq1 (by with_reducible assumption) (by rfl) | k_extra "my lt" | k_extra "my cj" | decide)) | ((with_reducible show @LE.le Nat _ _ _); (first | exact q_le0 (by with_reducible assumption) (by rfl) | exact q_le1 (by with_reducible assumption) (by rfl) | exact q_le2 (by with_reducible assumption) (by rfl) | exact q_le3 (by with_reducible assumption) (by rfl) | exact q_eq0 (by with_reducible assumption) (by rfl) | k_extra "my cj" | decide)) | ((with_reducible show @LT.lt Int _ _ _); (first | exact q_il0 (by with_reducible assumption) (by rfl) | exact q_il1 (by with_reducible assumption) (by rfl) | exact q_il3 (by with_reducible assumption) (by rfl) | k_extra "my cj" | decide)) | ((with_reducible show @LE.le Int _ _ _); (first | exact q_il2 (by with_reducible assumption) (by rfl) | k_extra "my cj" | decide)) | ((with_reducible show @Ne Nat _ _); k_extra "my ne") | decide))
  trivial
example : True := by
  (k_with "my in" => (repeat (first | exact List.Mem.head _ | refine List.Mem.tail _ ?_ | refine List.mem_append_right _ ?_)))
  (k_with "my at" => (repeat (first | assumption | exact List.mem_append_left _ (by assumption) | refine List.Mem.tail _ ?_ | refine List.mem_append_right _ ?_)))
  (k_with "my perm" => ((try simp only [List.cons_append, List.nil_append, List.append_assoc]); (repeat (refine List.forall_mem_cons.mpr ⟨?_, ?_⟩; (focus ((walk_at "my in"); done)))); first | exact List.forall_mem_nil _ | (intro q9 hq9; (try (have hq8 := List.mem_append.mp hq9; clear hq9; rcases hq8 with hq9 | hq9)); (all_goals (try (have hq7 := List.mem_cons.mp hq9; clear hq9; rcases hq7 with hq7 | hq9))); (all_goals (try (have hq7 := List.mem_cons.mp hq9; clear hq9; rcases hq7 with hq7 | hq9))); all_goals first | (subst hq7; walk_at "my in"; done) | (repeat (first | exact hq9 | exact List.mem_append_left _ hq9 | refine List.Mem.tail _ ?_ | refine List.mem_append_right _ ?_)))))
  (k_with "my bnd" => (first | omega | exact Int.lt_of_lt_of_le (by decide) (fmod_lo _ (by decide)) | exact Int.lt_trans (fmod_hi _ (by decide)) (by decide)))
  (k_with "binaryOp Mult int int" => (((with_reducible show wpAny _ _ (binaryOp Operator.Mult (Value.int _ _) (Value.int _ _)) _ _ _); refine mul_int ?_ (IntMulOk.of_left (intBits_le_64 ?mlo ?mhi)); (case mlo => walk_at "my bnd"); (case mhi => walk_at "my bnd"))))
  (k_with "binaryOp FloorDiv int int" => (((with_reducible show wpAny _ _ (binaryOp Operator.FloorDiv (Value.int _ _) (Value.int _ _)) _ _ _); refine floordiv_int ?fne ?_ (Or.inl (PyProof.noPylong_of_log2 (log2_small ?flo ?fhi))); (case fne => omega); (case flo => omega); (case fhi => omega))))
  (k_with "execs cons" => ((k_here; refine fold_stmt ?_; intro qk sk)))
  trivial
example : True := by
  (k_with "eval Name" => ((k_here; k_dflt (first
    | (refine' name_l ?F ?e ?v ?a ?b ?d ?_; (case F => k_asm); (case e => rfl); (case b => rfl); (case v => rfl); (case a => rfl); (case d => decide); k_whole)
    | (refine' nameX_K ?F ?X ?T ?e ?_ ?a ?b; (case F => k_asm); (case b => rfl); (case X => k_asm); (case T => k_asm); (case a => rfl); (case e => k_is); k_whole)
    | (refine' nameX_B ?F ?X ?T ?e ?v ?n ?_ ?a ?b; (case F => k_asm); (case b => rfl); (case X => k_asm); (case T => k_asm); (case a => rfl); (case e => k_is); (case v => boot_fast); (case n => decide); k_whole)))))
  (k_with "storeName" => ((k_here; k_dflt (refine' store_l ?F ?N ?e ?a ?b ?_; (case F => k_asm); (case N => k_asm); (case e => rfl); (case a => rfl); (case b => rfl); k_whole; intro h' mk F' N'; (try k_sweep)))))
  trivial
example : True := by
  (k_with "my steps" => (repeat' (first | ((try k_unmd); k_unfold; (try dsimp only)) | (k_end; wrow_close) | walk1 | (dsimp only; walk1) | (leave1; walk_say "STEP leave1"; try dsimp only) | fail "no step")))
  (k_with "my fold0" => ((refine fold_entry ?_; intro Ak envk qk ek sk; (rename Fr _ _ _ _ => kF); (refine fr_let kF ?_); clear kF; intro mk kF)))
  (k_with "my units" => ((have hcL9 := cLine_is; (simp (config := { zetaDelta := true }) only [units_in1, units_deeper, Around.mark_units, units_caller, ktrTop]); omega)))
  (k_with "my room" => (((simp (config := { zetaDelta := true }) only [depth_under_make, depth_under_kw, depth_in1, depth_deeper, depth_caller, ktrTop, recursionLimit]); omega)))
  (k_with "callWith ref" => (k_here; k_dflt (first
    | (refine' callWith_K ?k1 ?k2 ?_; (case k1 => with_reducible assumption); (case k2 => k_is); k_whole)
    | (refine' callw_0 ?k0 ?k1 ?k2 ?_; (case k0 => with_reducible assumption); (case k1 => with_reducible assumption); (case k2 => k_is); k_whole)
    | (refine' callw_m0 ?k0 ?kN ?k1 ?kq ?k2 ?_; (case k0 => with_reducible assumption); (case kN => with_reducible assumption); (case k1 => with_reducible assumption); (case kq => k_mem); (case k2 => k_is); k_whole; try dsimp only [List.nil_append, List.cons_append])
    | (refine' callWith_M ?k1 ?k2 ?k3 ?k4 ?_; (case k1 => with_reducible assumption); (case k2 => with_reducible assumption); (case k3 => k_mem); (case k4 => k_is); k_whole)
    | (refine' callWith_KW ?k1 ?k2 ?k3 ?_; (case k1 => with_reducible assumption); (case k2 => k_is); (case k3 => exact rfl); k_whole)
    | (refine' callWith_KW0 ?k1 ?k2 ?k3 ?_; (case k1 => with_reducible assumption); (case k2 => k_is); (case k3 => exact rfl); k_whole))))
  (k_with "compareOp IsNot ref ref" => (k_here; first | (with_reducible refine isnot_ref_same ?_) | refine wpAny_isNot_ref_self ?_))
  (k_with "my stop" => ((rename Mark => mk9); clear mk9; refine stop_at ?_))
  (k_with "subscriptTail" => (k_extra "my stop"))
  (k_with "getMethod ref" => (k_extra "my stop"))
  trivial
example : True := by
  (k_with "my small" => (first | omega | ((try simp (config := { zetaDelta := true }) only [depth_under_make, depth_under_kw, depth_in1, depth_deeper, depth_caller, units_in1, units_deeper, Around.mark_units, units_caller]); (try simp (config := { zetaDelta := true }) only [ktrTop]); first | omega | decide)))
  (k_with "exec Raise some none" => ((k_here; (with_reducible show wpAny _ _ (exec (Stmt.Raise (some (Expr.Call (Expr.Name ("FormError" : Str) _) _ _ _)) none _) _) _ _ _); k_dflt (refine raise_form (by assumption) (by first | assumption | with_unfolding_all rfl) ?_))))
  (k_with "exec Raise some none" => ((k_here; (with_reducible show wpAny _ _ (exec (Stmt.Raise (some (Expr.Call (Expr.Name ("SizeError" : Str) _) _ _ _)) none _) _) _ _ _); k_dflt (refine raise_size (by assumption) (by first | assumption | with_unfolding_all rfl) ?_))))
  (k_with "call ref" => ((k_here; first
  | ((with_reducible show wpAny _ _ (call (Value.ref 51) [Value.str _ _]) _ _ _); (refine' make_form ?kF ?kX ?kN ?kh ?kf ?kd ?ku ?_); (case kF => assumption); (case kX => assumption); (case kN => assumption); (case kh => with_unfolding_all exact rfl); (case kf => with_unfolding_all exact rfl); (case kd => walk_at "my small"); (case ku => walk_at "my small"); k_whole; intro e' o' h' tk' hx' F' N' ne')
  | ((with_reducible show wpAny _ _ (call (Value.ref 63) [Value.str _ _]) _ _ _); (refine' make_size ?kF ?kX ?kN ?kh ?kf ?kd ?ku ?_); (case kF => assumption); (case kX => assumption); (case kN => assumption); (case kh => with_unfolding_all exact rfl); (case kf => with_unfolding_all exact rfl); (case kd => walk_at "my small"); (case ku => walk_at "my small"); k_whole; intro e' o' h' tk' hx' F' N' ne'))))
  (k_with "OwnUp ref" => ((refine ⟨_, _, rfl, by assumption, Frag.In.keeps (by assumption) (Fr.keep (by assumption)), (News.get (by assumption) (.head _)), ?_⟩)))
  (k_with "leaving ref" => ((k_here; first
  | ((refine' leave_led ?kB ?kf ?kk ?kF ?kN ?kx ?kn ?_); (case kx => assumption); (case kF => assumption); (case kN => assumption); (case kB => assumption); (case kf => with_unfolding_all exact rfl); (case kk => first | assumption | with_unfolding_all exact rfl); (case kn => assumption); k_whole; intro h' R' U'; (try dsimp only at R' U' ⊢))
  | ((refine' leave_up ?kB ?kf ?kF ?kR ?kU ?_); (case kR => assumption); (case kF => assumption); (case kB => assumption); (case kf => with_unfolding_all exact rfl); (case kU => assumption); k_whole; intro h' R' U'; (try dsimp only at R' U' ⊢)))))
  (k_with "turn enter" => ((refine' code_T ?k1 ?k2 ?k3 ?k4 ?k5 ?kD ?kA ?kF ?kK ?k6 ?k7 ?k8 ?k9 ?kB ?_ ?c2 ?c3 ?c4 ?c5; (case kA => exact rfl); (case kF => exact rfl); (case kK => assumption); (case k1 => k_asm); (case k2 => k_asm); (case k3 => k_asm); (case k4 => k_asm); (case k5 => k_asm); (case kD => assumption); (case k6 => k_is); (case k7 => k_is); (case k8 => ktr_room); (case k9 => exact BindsTo.of_eq rfl); (case c5 => decide); (case kB => exact locs rfl); (case c2 => exact rfl); (case c3 => exact rfl); (case c4 => exact rfl); k_whole; intro g' L' h' FG' F' N' B' X' T' D' l1; (try dsimp only); (try k_lift B'); (try k_fold))))
  (k_with "my size" => ((rw [KBw.ints_length]; first | omega | (simp only [Array.size_append]; omega))))
  (k_with "subscriptTail" => ((k_here; (with_reducible show wpAny _ _ (subscriptTail _ (Expr.Slice _ _ none _) (Value.bytes _ _) (Value.ref _)) _ _ _); (with_reducible rename Fr _ _ _ _ => F'); (with_reducible rename News _ _ _ _ => N'); (refine KBc.slice_K (s := ⟨_, _, _, _, _⟩) F' N' rfl (by constructor) (by constructor) (by walk_at "my size") ?_); intro _ _ _ _ _ _)))
  (k_with "turn enter cells" => ((refine' code_TC ?k1 ?k2 ?k3 ?k4 ?k5 ?kG ?kA ?kF ?kK ?k6 ?k7 ?k8 ?k9 ?kB ?kD ?_ ?c2 ?c3 ?c4; (case kA => exact rfl); (case kF => exact rfl); (case kK => assumption); (case k1 => k_asm); (case k2 => k_asm); (case k3 => k_asm); (case k4 => k_asm); (case k5 => k_asm); (case kG => assumption); (case k6 => k_is); (case k7 => k_is); (case k8 => ktr_room); (case k9 => exact BindsTo.of_eq rfl); (case kB => exact rfl); (case kD => decide +kernel); (case c2 => exact rfl); (case c3 => exact rfl); (case c4 => exact rfl); k_whole; intro g' L' h' tk' cells' FG' F' N' Y' B' X' T' D' l1; (try k_lt l1); (have l9 := l1); (repeat (replace l9 := And.right l9)); k_cells Y'; (try simp only [List.cons_append, List.nil_append] at N'); (first | (refine fr_one F' (by rfl) ?_; clear F'; intro F') | (refine fr_cell F' (by rfl) ?_; clear F'; intro F')); (try dsimp only); (try k_lift B'); (try k_fold))))
  (k_with "LeaveT" => ((k_dflt (refine' leaveT ?F ?N ?T ?_; (case F => k_asm); (case N => k_asm); (case T => first | assumption | exact KtsTurn.refl); k_whole); intro kg kT kF kN kB kD; (try dsimp only))))
  trivial
example : True := by
  (k_with "my all" => (first | exact ne_all (by assumption) (Nat.le_refl _) | exact ne_all (by assumption) (Nat.le_of_lt (by assumption)) | exact ne_all (by assumption) (by omega)))
  trivial
example : True := by
  (k_with "call type:bytes" => ((k_here; (with_reducible show wpAny _ _ (call (Value.type "bytes") [Value.bytes _ _]) _ _ _); refine MB.call_b ?_)))
  (k_with "call type:bytes" => ((k_here; (with_reducible show wpAny _ _ (call (Value.type "bytes") [Value.int _ _]) _ _ _); (refine MB.call_i ?bi0 ?bi1 ?_); (case bi0 => omega); (case bi1 => omega); intro _ _)))
  (k_with "lam enter" => ((refine' kla_code ?k1 ?k2 ?k3 ?k4 ?k5 ?kA ?kF ?kK ?k6 ?k7 ?k8 ?k9 ?kB ?_ ?c2 ?c3 ?c4 ?c5; (case kA => exact rfl); (case kF => exact rfl); (case kK => assumption); (case k1 => k_asm); (case k2 => k_asm); (case k3 => k_asm); (case k4 => k_asm); (case k5 => k_asm); (case k6 => k_mem); (case k7 => exact codeRec_news (by k_asm) (by k_mem) (by assumption) (by assumption)); (case k8 => ktr_room); (case k9 => exact rfl); (case c5 => decide); (case kB => exact locs rfl); (case c2 => exact rfl); (case c3 => exact rfl); (case c4 => exact rfl); k_whole; intro g' L' h' FG' F' N' B' X' T'; (try dsimp only); (try k_lift B'); (try k_fold))))
  (k_with "my sub" => ((refine sub_news (by assumption) ?_; (repeat (refine List.forall_mem_cons.mpr ⟨?_, ?_⟩; (focus ((k_mem); done)))); first | exact List.forall_mem_nil _ | (intro _ hp9; (repeat (first | exact hp9 | refine List.Mem.tail _ ?_))))))
  (k_with "same item" => (first | exact MQ.at_bytes _ _ _ | exact MQ.at_int _ _ _))
  (k_with "compareOp NotEq ref ref" => ((k_here; k_dflt (refine MQ.ne_list1 (News.isList (by assumption) (by k_mem)) (News.isList (by assumption) (by k_mem)) (by ktr_units) (by walk_at "same item") ?_))))
  trivial
example : True := by
  (k_with "call ref" => ((k_here; (with_reducible show wpAny _ _ (call (Value.ref 500) [Value.ref _, Value.int _ _]) _ _ _); (with_unfolding_all refine take_U (by assumption) (by assumption) (by assumption) (by assumption) (by k_updF) (by assumption) (by first | assumption | exact rfl) (by walk_at "my small") (by walk_at "my small") (by walk_at "my bnd") (by walk_at "my bnd") (by first | assumption | omega) ?_); intro d' x' y' td' tx' ty' h' tk' F' N' hd1' hd2' hx'; (try dsimp only at N'); (try k_sweep))))
  (k_with "my item" => ((refine item_at (by assumption) (by k_mem) (by assumption) (by assumption) (by assumption) ?_; intro _ hv')))
  (k_with "exec For Name Call cons nil" => ((k_here; k_dflt (refine For_from ?_))))
  (k_with "exec For Name List cons nil" => ((k_here; k_dflt (refine For_from ?_))))
  (k_with "binaryOp Add" => ((k_here; (with_reducible show wpAny _ _ (binaryOp Operator.Add (Value.ref _) (Value.ref _)) _ _ _); k_dflt (refine' menu_K ?mF ?mN ?ml ?mP ?mi ?mc ?mz ?_; (case mF => assumption); (case mN => assumption); (case ml => k_mem); (case mP => assumption); (case mi => repeat constructor); (case mc => assumption); (case mz => decide)); intro h' d' items' F' N' l1 hI'; (try k_lt l1))))
  (k_with "call builtin:list.append" => ((k_here; (with_reducible show wpAny _ _ (call (Value.builtin _) [Value.ref _, _]) _ _ _); k_dflt (refine' append_K ?k1 ?k2 ?k3 ?_ ?z; (case k1 => k_asm); (case k2 => k_asm); (case k3 => k_upd); (case z => rw [sizeLine_eq]; omega); k_whole); intro h' F' N'; (try k_sweep))))
  trivial
example : True := by
  (k_with "my ne2" => (first | k_extra "my ne" | (k_dflt (refine ne_cls (by assumption) (by k_mem) (by k_mem) rfl rfl (by decide))) | (refine neN ?_; (try dsimp only); omega (config := {}))))
  trivial
example : True := by
  (k_with "newTuple" => ((k_here; k_dflt (refine' kup_newTuple ?F ?N ?_ ?z; (case F => k_asm); (case N => k_asm); (case z => kmk_size)); intro D' h' F' N' l1; (try k_lt l1); (try k_sweep))))
  (k_with "exec For Tuple Name cons nil" => ((k_here; k_dflt (refine For_from ?_))))
  (k_with "my tup" => (exact tup_at (by assumption) (by k_mem)))
  (k_with "compareOp NotEq ref ref" => ((k_here; k_dflt (refine MQ.ne_tuple2 (by walk_at "my tup") (by walk_at "my tup") (by ktr_units) (by walk_at "same item") (by walk_at "same item") ?_))))
  (k_with "compareOp Eq ref ref" => ((k_here; k_dflt (refine eq_tuple2 (by walk_at "my tup") (by walk_at "my tup") (by ktr_units) (by walk_at "same item") (by walk_at "same item") ?_))))
  trivial
example : True := by
  (k_with "binaryOp RShift int int" => (first | refine shr8 ?_ | refine shr16 ?_))
  (k_with "binaryOp BitAnd int int" => (first | refine and8 ?_ | refine and16 ?_ | (refine and_any (by decide) ?_; intro r' hr0' hr1')))
  (k_with "binaryOp LShift int int" => (first | refine shl8 (by walk_at "my bnd") (by walk_at "my bnd") ?_ | refine shl16 (by walk_at "my bnd") (by walk_at "my bnd") ?_))
  (k_with "binaryOp BitOr int int" => (first | refine or8 (by walk_at "my bnd") (by walk_at "my bnd") (by walk_at "my bnd") ?_ | refine or16 (by walk_at "my bnd") (by walk_at "my bnd") (by walk_at "my bnd") ?_))
  (k_with "my idx" => (((try simp only [List.length_append, List.length_cons, List.length_nil, List.length_take, List.length_drop, List.length_map]); omega)))
  (k_with "my enter" => ((refine' code_def ?k1 ?k2 ?k3 ?k4 ?k5 ?kA ?kF ?kK ?k6 ?k7 ?k8 ?k9 ?kB ?_ ?c2 ?c3 ?c4 ?c5; (case kA => exact rfl); (case kF => exact rfl); (case kK => assumption); (case k1 => k_asm); (case k2 => k_asm); (case k3 => k_asm); (case k4 => k_asm); (case k5 => k_asm); (case k6 => k_is); (case k7 => k_is); (case k8 => ktr_room); (case k9 => first | exact BindsTo.of_eq rfl | exact binds_K (by k_in) rfl (by k_is) rfl rfl rfl); (case c5 => decide); (case kB => exact locs rfl); (case c2 => exact rfl); (case c3 => exact rfl); (case c4 => exact rfl); k_whole; intro g' L' h' FG' F' N' B' X' T'; (try dsimp only); (try k_lift B'); (try k_fold))))
  (k_with "call ref" => ((k_here; (with_reducible show wpAny _ _ (call (Value.ref 316) _) _ _ _); k_dflt (refine' ip_made ?B ?F ?X ?N ?T ?k ?d ?u ?b ?_; (case B => k_asm); (case F => k_asm); (case X => k_asm); (case N => k_asm); (case T => k_asm); (case k => first | assumption | exact rfl); (case d => walk_at "my small"); (case u => walk_at "my small"); (case b => (refine' binds_of ?h0 ?hb; (case h0 => k_is); (case hb => (intro s9 x9 X9; first | exact BindsTo.of_eq rfl | exact binds_K (by k_in) rfl (by k_is) rfl rfl rfl)))); k_whole); intro x' d' h' tk' e1' e2' e3' e4' e5' e6' e7' e8' e9' e10' t1' t2' t3' t4' t5' t6' t7' t8' t9' t10' F' N' l1 l2; (try k_lt l1); (try k_sweep))))
  (k_with "call ref" => ((k_here; (with_reducible show wpAny _ _ (call (Value.ref 231) _) _ _ _); k_dflt (refine' im_made ?B ?F ?X ?N ?T ?k ?d ?u ?b ?_; (case B => k_asm); (case F => k_asm); (case X => k_asm); (case N => k_asm); (case T => k_asm); (case k => first | assumption | exact rfl); (case d => walk_at "my small"); (case u => walk_at "my small"); (case b => (refine' binds_of ?h0 ?hb; (case h0 => k_is); (case hb => (intro s9 x9 X9; first | exact BindsTo.of_eq rfl | exact binds_K (by k_in) rfl (by k_is) rfl rfl rfl)))); k_whole); intro x' d' h' tk' e1' e2' e3' e4' t1' t2' t3' t4' F' N' l1 l2; (try k_lt l1); (try k_sweep))))
  trivial
example : True := by
  (k_with "call ref" => ((k_here; (with_reducible show wpAny _ _ (call (Value.ref 128) [Value.int _ _]) _ _ _); (with_unfolding_all refine put16_c (by assumption) (by assumption) (by assumption) (by assumption) (by assumption) (by first | assumption | exact rfl) (by walk_at "my small") (by walk_at "my small")  ?_); intro b' t' h' tk' hb' F' N'; (try k_sweep))))
  (k_with "call ref" => ((k_here; (with_reducible show wpAny _ _ (call (Value.ref 135) [Value.int _ _]) _ _ _); (with_unfolding_all refine put32_c (by assumption) (by assumption) (by assumption) (by assumption) (by assumption) (by first | assumption | exact rfl) (by walk_at "my small") (by walk_at "my small")  ?_); intro b' t' h' tk' hb' F' N'; (try k_sweep))))
  (k_with "call ref" => ((k_here; (with_reducible show wpAny _ _ (call (Value.ref 149) [Value.bytes _ _, Value.int _ _]) _ _ _); (with_unfolding_all refine get16_c (by assumption) (by assumption) (by assumption) (by assumption) (by assumption) (by first | assumption | exact rfl) (by walk_at "my small") (by walk_at "my small") (by assumption) (by walk_at "my bnd") (by walk_at "my idx") (by walk_at "my idx") ?_); intro r' t' h' tk' hr' F' N'; have hr2' := hr'.2; (try k_sweep))))
  (k_with "call ref" => ((k_here; (with_reducible show wpAny _ _ (call (Value.ref 156) [Value.bytes _ _, Value.int _ _]) _ _ _); (with_unfolding_all refine get32_c (by assumption) (by assumption) (by assumption) (by assumption) (by assumption) (by first | assumption | exact rfl) (by walk_at "my small") (by walk_at "my small") (by assumption) (by walk_at "my bnd") (by walk_at "my idx") (by walk_at "my idx") ?_); intro r' t' h' tk' hr' F' N'; have hr2' := hr'.2; (try k_sweep))))
  (k_with "exec While Compare cons nil" => ((k_here; k_dflt (refine while_stop ?_))))
  (k_with "call ref" => ((k_here; (with_reducible show wpAny _ _ (call (Value.ref 163) [Value.int _ _]) _ _ _); (with_unfolding_all refine fold_c (by assumption) (by assumption) (by assumption) (by assumption) (by assumption) (by first | assumption | exact rfl) (by walk_at "my small") (by walk_at "my small") (by first | assumption | omega) ?_); intro r' t' h' tk' hr' F' N'; (try k_sweep))))
  (k_with "call ref" => ((k_here; (with_reducible show wpAny _ _ (call (Value.ref 171) [Value.bytes _ _, Value.int 0 _]) _ _ _); (with_unfolding_all refine ones_c (by assumption) (by assumption) (by assumption) (by assumption) (by assumption) (by first | assumption | exact rfl) (by walk_at "my small") (by walk_at "my small") (by assumption) (by walk_at "my idx") ?_); intro r' t' h' tk' hr' F' N'; (try k_sweep))))
  (k_with "call ref" => ((k_here; (with_reducible show wpAny _ _ (call (Value.ref 179) [Value.bytes _ _]) _ _ _); (with_unfolding_all refine check_c (by assumption) (by assumption) (by assumption) (by assumption) (by assumption) (by first | assumption | exact rfl) (by walk_at "my small") (by walk_at "my small") (by assumption) (by walk_at "my idx") ?_); intro r' t' h' tk' hr' F' N'; (try k_sweep))))
  trivial
example : True := by
  (k_with "call type:bytes" => ((k_here; (with_reducible show wpAny _ _ (call (Value.type "bytes") [Value.ref _]) _ _ _); k_dflt (refine' bytes_range ?bF ?bN ?bh ?bR ?b0 ?b1 ?b2 ?_; (case bF => assumption); (case bN => assumption); (case bh => exact rfl); (case bR => assumption); (case b0 => omega); (case b1 => omega); (case b2 => omega)); intro bs' h' t' tk' hbs' F' N'; (try k_sweep))))
  (k_with "eval Lambda" => ((k_here; k_dflt (refine lam_stop ?_))))
  (k_with "call builtin:len" => ((k_here; (with_reducible show wpAny _ _ (call (Value.builtin "len") [Value.bytes _ _]) _ _ _); (refine len_bytes (by omega) ?_))))
  trivial
example : True := by
  (k_with "exec For Name Tuple cons nil" => ((k_here; k_dflt (refine For_from ?_))))
  (k_with "binaryOp FloorDiv int int" => ((refine div_pos9 ?da ?db ?_; (case da => decide); (case db => decide))))
  (k_with "binaryOp Mod int int" => ((refine mod_pos9 ?da ?_; (case da => decide))))
  (k_with "call builtin:len" => ((k_here; (with_reducible show wpAny _ _ (call (Value.builtin "len") [Value.bytes #[] _]) _ _ _); (refine len_nil9 ?_); intro _)))
  trivial
example : True := by
  (k_with "my fold" => (refine fold_any ?_; intro Ak qk ek sk))
  (k_with "my refold" => ((try k_unmd); (try k_unfold); (try dsimp only); (try k_fold)))
  trivial
theorem app_eq {A P ks R : List Int} (h : A ++ P = ks) : ks ++ R = A ++ (P ++ R) := by subst h; exact List.append_assoc ..
theorem ints_zeros (n : Nat) : KBw.bInts (Array.replicate n (0 : UInt8)) = List.replicate n (0 : Int) := by
  simp [KBw.bInts]
example : True := by
  (k_with "call ref" => ((k_here; refine call_stop 369 ?_)))
  trivial
theorem about_c {w : World} {p : Program} {loose : List Str} {mean : ExcName → Option Value} {mg mb : Str → Option Value} {dp un : Nat} {gd : Option (List Code)} {cn : Str} {cs : Scope} {a : Addr} {ccd : Value} {cl : List (Str × Addr)} {outer : List Env} {A₀ : Around} {base h₀ : Heap} {L : Addr} {m : Str → Option Value} {news : List (Addr × Obj)} {s : Shared} {Q E : Value → Shared → Prop} {x d : Addr} {e1 e2 e3 e4 : Int} {t1 t2 t3 t4 u1 u2 u3 u4 : Tok} {code rest : Int} {inn : Array UInt8} {c tg : Int} {P : List Int}
    (B : Below A₀ base outer h₀) (F : Fr h₀ L s.heap m) (X : (hd.heap_1 w.params).In h₀) (N : News h₀ L s.heap ((x, instObj 231 d) :: (d, dictOf [⟨e1, .str (Str.ofString "kind") t1, .int 3 u1⟩, ⟨e2, .str (Str.ofString "code") t2, .int code u2⟩, ⟨e3, .str (Str.ofString "rest") t3, .int rest u3⟩, ⟨e4, .str (Str.ofString "payload") t4, .bytes inn u4⟩] 4) :: news)) (T : Top p loose mean mg mb h₀) (hk : cs.kind = .function) (hdp : dp < 650) (hun : un < 40) (hb : KBw.bInts inn = hd20 c tg ++ P) (hP : P.length ≤ 8) (ht0 : 0 ≤ tg) (ht1 : tg < 4294967296) (hc0 : 0 ≤ c) (hc1 : c ≤ 65535) (hsum : (c + sum16 (hd20 0 tg)) % 65535 = 0)
    (ret : ∀ T hx d' od q tq h' tk', HeadD tg od → KBw.bInts q = P → Fr h₀ L h' m → News h₀ L h' ((T, ({ cls := .type "tuple", data := .seq #[.ref hx, .bytes q tq] } : Obj)) :: (hx, instObj 316 d') :: (d', od) :: (x, instObj 231 d) :: (d, dictOf [⟨e1, .str (Str.ofString "kind") t1, .int 3 u1⟩, ⟨e2, .str (Str.ofString "code") t2, .int code u2⟩, ⟨e3, .str (Str.ofString "rest") t3, .int rest u3⟩, ⟨e4, .str (Str.ofString "payload") t4, .bytes inn u4⟩] 4) :: news) → Q (.ref T) { s with heap := h', toks := tk' }) :
    wpAny (model PySem.Challenge.rw_pf0401_01.row.prog w) (ktrTop dp un gd cn cs L a ccd cl outer) (call (.ref 376) [.ref x]) Q E s := by
  refine wpAny_call ?_
  k_dflt cell_enter
  have hl : (hd20 c tg ++ P).length = 20 + P.length := by rw [List.length_append]; rfl
  generalize hks : hd20 c tg ++ P = ks at *
  obtain ⟨k0, k2, k3, k9, k16, k17, k18, k19⟩ := ks_facts hks
  k_steps
  rename _ = ks.getD (Int.toNat 2) 0 * 256 + _ ∧ _ => hrl
  obtain ⟨hrl, _⟩ := hrl
  have erl := hrl.trans (show _ = 28 by omega)
  have en : (if 28 - ((ks.length : Nat) : Int) > 0 then 28 - ((ks.length : Nat) : Int) else 0).toNat = 8 - P.length := by split <;> omega
  have hr8 : (List.replicate (8 - P.length) (0 : Int)).length = 8 - P.length := List.length_replicate
  rw [erl, en]
  refine KBa.add_K hb (ints_zeros _) (by omega) ?_
  intro t5 k5 hb5
  have hb6 := hb5.trans (app_eq hks)
  clear hb5
  k_steps
  unfold CallAt
  with_unfolding_all refine unpack_c (by assumption) (by assumption) (by assumption) (by assumption) (by assumption) (by first | assumption | exact rfl) (by walk_at "my small") (by walk_at "my small") hb6 (by rw [List.length_append]; omega) ht0 ht1 hc0 hc1 hsum ?_
  rintro T1 hx1 d1 _ q1 tq1 h1 tk1 ⟨_, _, _, _, _, _, _, _, _, _, _, _, _, _, _, _, _, _, _, _, _, _, _, _, _, _, _, _, _, _, rfl⟩ hq1 F1 N1
  k_steps
  have e9 : (if ((ks.length : Nat) : Int) - (20 + 0) > 0 then ((ks.length : Nat) : Int) - (20 + 0) else 0) = ((P.length : Nat) : Int) := by split <;> omega
  have hqP : KBw.bInts (KBy.picked q1 none (some ((P.length : Nat) : Int))) = P := by
    rw [KBc.ints_picked hq1]
    simp only [Option.elim_none, Option.elim_some, List.drop_zero, Nat.sub_zero, clipAt_nat, List.length_append, hr8]
    rw [show min P.length (P.length + (8 - P.length)) = P.length by omega]
    exact List.take_left' rfl
  rename News h₀ _ _ _ => N9
  rw [e9] at N9
  exact ret _ hx1 d1 _ _ _ _ _ ⟨_, _, _, _, _, _, _, _, _, _, _, _, _, _, _, _, _, _, _, _, _, _, _, _, _, _, _, _, _, _, rfl⟩ hqP (by assumption) (sub_news N9 (List.forall_mem_cons.mpr ⟨by k_mem, List.forall_mem_cons.mpr ⟨by k_mem, List.forall_mem_cons.mpr ⟨by k_mem, fun p hp => .tail _ (.tail _ (.tail _ (.tail _ (.tail _ hp))))⟩⟩⟩))
theorem about_form {w : World} {p : Program} {loose : List Str} {mean : ExcName → Option Value} {mg mb : Str → Option Value} {dp un : Nat} {gd : Option (List Code)} {cn : Str} {cs : Scope} {a : Addr} {ccd : Value} {cl : List (Str × Addr)} {outer : List Env} {A₀ : Around} {base h₀ : Heap} {L : Addr} {m : Str → Option Value} {news : List (Addr × Obj)} {s : Shared} {Q E : Value → Shared → Prop} {x d : Addr} {e1 e2 e3 e4 : Int} {t1 t2 t3 t4 u1 u2 u3 u4 : Tok} {kind code rest : Int} {inn : Array UInt8}
    (B : Below A₀ base outer h₀) (F : Fr h₀ L s.heap m) (X : (hd.heap_1 w.params).In h₀) (N : News h₀ L s.heap ((x, instObj 231 d) :: (d, dictOf [⟨e1, .str (Str.ofString "kind") t1, .int kind u1⟩, ⟨e2, .str (Str.ofString "code") t2, .int code u2⟩, ⟨e3, .str (Str.ofString "rest") t3, .int rest u3⟩, ⟨e4, .str (Str.ofString "payload") t4, .bytes inn u4⟩] 4) :: news)) (T : Top p loose mean mg mb h₀) (hk : cs.kind = .function) (hdp : dp < 650) (hun : un < 40) (hz : inn.size ≤ 100) (hbad : kind = 8 ∨ kind = 3 ∧ inn.size < 20)
    (rais : ∀ e h' tk' g₂, Fr h₀ L g₂ m → RaisedSN base g₂ (envX cn cs L a ccd cl :: outer) e (.ref 51) ((x, instObj 231 d) :: (d, dictOf [⟨e1, .str (Str.ofString "kind") t1, .int kind u1⟩, ⟨e2, .str (Str.ofString "code") t2, .int code u2⟩, ⟨e3, .str (Str.ofString "rest") t3, .int rest u3⟩, ⟨e4, .str (Str.ofString "payload") t4, .bytes inn u4⟩] 4) :: news) h' → g₂.UpToSlots h' → E (.ref e) { s with heap := h', toks := tk' }) :
    wpAny (model PySem.Challenge.rw_pf0401_01.row.prog w) (ktrTop dp un gd cn cs L a ccd cl outer) (call (.ref 376) [.ref x]) Q E s := by
  refine wpAny_call ?_
  k_dflt cell_enter
  rcases hbad with rfl | ⟨rfl, hsz⟩
  · k_steps
    refine rais _ _ _ _ ?fa (raised_sub (by assumption) (fun _ hp => .tail _ hp)) (by assumption)
    assumption
  · k_steps
    refine rais _ _ _ _ ?fb (raised_sub (by assumption) (fun _ hp => .tail _ hp)) (by assumption)
    assumption
example : True := by
  w_top off
  k_with_none
  trivial
example : True := by
  (k_with "my mem" => with_reducible (k_extra "my mem1"))
  (k_with "my mem1" => (first | exact List.Mem.head _ | (refine' List.Mem.tail _ ?_; k_extra "my mem1")))
  (k_with "my k_lt" => ((rename (∀ p : Addr × Obj, p ∈ _ → p.1 < _) => l1q); (replace l1q := allLt_of l1q); (simp only [AllLt, and_true] at l1q); (first | ((with_reducible refine spa15 l1q ?_); intro f0q f1q f2q f3q f4q f5q f6q f7q f8q f9q f10q f11q f12q f13q f14q) | ((with_reducible refine spa14 l1q ?_); intro f0q f1q f2q f3q f4q f5q f6q f7q f8q f9q f10q f11q f12q f13q) | ((with_reducible refine spa13 l1q ?_); intro f0q f1q f2q f3q f4q f5q f6q f7q f8q f9q f10q f11q f12q) | ((with_reducible refine spa12 l1q ?_); intro f0q f1q f2q f3q f4q f5q f6q f7q f8q f9q f10q f11q) | ((with_reducible refine spa11 l1q ?_); intro f0q f1q f2q f3q f4q f5q f6q f7q f8q f9q f10q) | ((with_reducible refine spa10 l1q ?_); intro f0q f1q f2q f3q f4q f5q f6q f7q f8q f9q) | ((with_reducible refine spa9 l1q ?_); intro f0q f1q f2q f3q f4q f5q f6q f7q f8q) | ((with_reducible refine spa8 l1q ?_); intro f0q f1q f2q f3q f4q f5q f6q f7q) | ((with_reducible refine spa7 l1q ?_); intro f0q f1q f2q f3q f4q f5q f6q) | ((with_reducible refine spa6 l1q ?_); intro f0q f1q f2q f3q f4q f5q) | ((with_reducible refine spa5 l1q ?_); intro f0q f1q f2q f3q f4q) | ((with_reducible refine spa4 l1q ?_); intro f0q f1q f2q f3q) | ((with_reducible refine spa3 l1q ?_); intro f0q f1q f2q) | ((with_reducible refine spa2 l1q ?_); intro f0q f1q) | ((with_reducible refine spa1 l1q ?_); intro f0q) | ((with_reducible refine spb12 l1q ?_); intro f0q f1q f2q f3q f4q f5q f6q f7q f8q f9q f10q f11q) | ((with_reducible refine spb11 l1q ?_); intro f0q f1q f2q f3q f4q f5q f6q f7q f8q f9q f10q) | ((with_reducible refine spb10 l1q ?_); intro f0q f1q f2q f3q f4q f5q f6q f7q f8q f9q) | ((with_reducible refine spb9 l1q ?_); intro f0q f1q f2q f3q f4q f5q f6q f7q f8q) | ((with_reducible refine spb8 l1q ?_); intro f0q f1q f2q f3q f4q f5q f6q f7q) | ((with_reducible refine spb7 l1q ?_); intro f0q f1q f2q f3q f4q f5q f6q) | ((with_reducible refine spb6 l1q ?_); intro f0q f1q f2q f3q f4q f5q) | ((with_reducible refine spb5 l1q ?_); intro f0q f1q f2q f3q f4q) | ((with_reducible refine spb4 l1q ?_); intro f0q f1q f2q f3q) | ((with_reducible refine spb3 l1q ?_); intro f0q f1q f2q) | ((with_reducible refine spb2 l1q ?_); intro f0q f1q) | skip); revert l1q))
  (k_with "my cj" => (first | with_reducible assumption | exact And.left (by with_reducible assumption) | exact And.left (And.right (by with_reducible assumption)) | exact And.left (And.right (And.right (by with_reducible assumption))) | exact And.left (And.right (And.right (And.right (by with_reducible assumption)))) | exact And.right (by with_reducible assumption) | exact And.right (And.right (by with_reducible assumption)) | exact And.right (And.right (And.right (by with_reducible assumption)))))
  (k_with "my lt" => (first | with_reducible assumption | exact Nat.lt_add_one _ | exact lt_r _ (by first | with_reducible assumption | exact Nat.lt_add_one _) | exact lt_r _ (lt_r _ (by first | with_reducible assumption | exact Nat.lt_add_one _)) | exact lt_r _ (lt_r _ (lt_r _ (by first | with_reducible assumption | exact Nat.lt_add_one _))) | exact lt_r _ (lt_r _ (lt_r _ (lt_r _ (by first | with_reducible assumption | exact Nat.lt_add_one _)))) | exact lt_r _ (lt_r _ (lt_r _ (lt_r _ (lt_r _ (by first | with_reducible assumption | exact Nat.lt_add_one _))))) | exact lt_r _ (lt_r _ (lt_r _ (lt_r _ (lt_r _ (lt_r _ (by first | with_reducible assumption | exact Nat.lt_add_one _))))))))
  (k_with "my ne" => (first | with_reducible assumption | exact Ne.symm (by with_reducible assumption) | (refine neN ?_; (try dsimp only); first | exact Nat.ne_of_gt (by k_extra "my lt") | exact Nat.ne_of_lt (by k_extra "my lt") | k_extra "my cj" | exact Ne.symm (by k_extra "my cj"))))
  (k_with "my om" => k_dflt (first | with_reducible assumption | ((with_reducible show @LT.lt Nat _ _ _); (first | exact q_lt0 (by with_reducible assumption) (by rfl) | exact q_lt1 (by with_reducible assumption) (by rfl) | exact q_lt2 (by with_reducible assumption) (by rfl) | exact q_lt3 (by with_reducible assumption) (by rfl) | exact q_le4 (by with_reducible assumption) (by rfl) | exact q_eq1 (by with_reducible assumption) (by rfl) | k_extra "my lt" | k_extra "my cj" | decide)) | ((with_reducible show @LE.le Nat _ _ _); (first | exact q_le0 (by with_reducible assumption) (by rfl) | exact q_le1 (by with_reducible assumption) (by rfl) | exact q_le2 (by with_reducible assumption) (by rfl) | exact q_le3 (by with_reducible assumption) (by rfl) | exact q_eq0 (by with_reducible assumption) (by rfl) | k_extra "my cj" | decide)) | ((with_reducible show @LT.lt Int _ _ _); (first | exact q_il0 (by with_reducible assumption) (by rfl) | exact q_il1 (by with_reducible assumption) (by rfl) | exact q_il3 (by with_reducible assumption) (by rfl) | k_extra "my cj" | decide)) | ((with_reducible show @LE.le Int _ _ _); (first | exact q_il2 (by with_reducible assumption) (by rfl) | k_extra "my cj" | decide)) | ((with_reducible show @Ne Nat _ _); k_extra "my ne") | decide))
  trivial
example : True := by
  (k_with "my in" => (repeat (first | exact List.Mem.head _ | refine List.Mem.tail _ ?_ | refine List.mem_append_right _ ?_)))
  (k_with "my at" => (repeat (first | assumption | exact List.mem_append_left _ (by assumption) | refine List.Mem.tail _ ?_ | refine List.mem_append_right _ ?_)))
  (k_with "my perm" => ((try simp only [List.cons_append, List.nil_append, List.append_assoc]); (repeat (refine List.forall_mem_cons.mpr ⟨?_, ?_⟩; (focus ((walk_at "my in"); done)))); first | exact List.forall_mem_nil _ | (intro q9 hq9; (try (have hq8 := List.mem_append.mp hq9; clear hq9; rcases hq8 with hq9 | hq9)); (all_goals (try (have hq7 := List.mem_cons.mp hq9; clear hq9; rcases hq7 with hq7 | hq9))); (all_goals (try (have hq7 := List.mem_cons.mp hq9; clear hq9; rcases hq7 with hq7 | hq9))); all_goals first | (subst hq7; walk_at "my in"; done) | (repeat (first | exact hq9 | exact List.mem_append_left _ hq9 | refine List.Mem.tail _ ?_ | refine List.mem_append_right _ ?_)))))
  (k_with "my bnd" => (first | omega | exact Int.lt_of_lt_of_le (by decide) (fmod_lo _ (by decide)) | exact Int.lt_trans (fmod_hi _ (by decide)) (by decide)))
  (k_with "binaryOp Mult int int" => (((with_reducible show wpAny _ _ (binaryOp Operator.Mult (Value.int _ _) (Value.int _ _)) _ _ _); refine mul_int ?_ (IntMulOk.of_left (intBits_le_64 ?mlo ?mhi)); (case mlo => walk_at "my bnd"); (case mhi => walk_at "my bnd"))))
  (k_with "binaryOp FloorDiv int int" => (((with_reducible show wpAny _ _ (binaryOp Operator.FloorDiv (Value.int _ _) (Value.int _ _)) _ _ _); refine floordiv_int ?fne ?_ (Or.inl (PyProof.noPylong_of_log2 (log2_small ?flo ?fhi))); (case fne => omega); (case flo => omega); (case fhi => omega))))
  (k_with "execs cons" => ((k_here; refine fold_stmt ?_; intro qk sk)))
  trivial
example : True := by
  (k_with "eval Name" => ((k_here; k_dflt (first
    | (refine' name_l ?F ?e ?v ?a ?b ?d ?_; (case F => k_asm); (case e => rfl); (case b => rfl); (case v => rfl); (case a => rfl); (case d => decide); k_whole)
    | (refine' nameX_K ?F ?X ?T ?e ?_ ?a ?b; (case F => k_asm); (case b => rfl); (case X => k_asm); (case T => k_asm); (case a => rfl); (case e => k_is); k_whole)
    | (refine' nameX_B ?F ?X ?T ?e ?v ?n ?_ ?a ?b; (case F => k_asm); (case b => rfl); (case X => k_asm); (case T => k_asm); (case a => rfl); (case e => k_is); (case v => boot_fast); (case n => decide); k_whole)))))
  (k_with "storeName" => ((k_here; k_dflt (refine' store_l ?F ?N ?e ?a ?b ?_; (case F => k_asm); (case N => k_asm); (case e => rfl); (case a => rfl); (case b => rfl); k_whole; intro h' mk F' N'; (try k_sweep)))))
  trivial
example : True := by
  (k_with "my steps" => (repeat' (first | ((try k_unmd); k_unfold; (try dsimp only)) | (k_end; wrow_close) | walk1 | (dsimp only; walk1) | (leave1; walk_say "STEP leave1"; try dsimp only) | fail "no step")))
  (k_with "my fold0" => ((refine fold_entry ?_; intro Ak envk qk ek sk; (rename Fr _ _ _ _ => kF); (refine fr_let kF ?_); clear kF; intro mk kF)))
  (k_with "my units" => ((have hcL9 := cLine_is; (simp (config := { zetaDelta := true }) only [units_in1, units_deeper, Around.mark_units, units_caller, ktrTop]); omega)))
  (k_with "my room" => (((simp (config := { zetaDelta := true }) only [depth_under_make, depth_under_kw, depth_in1, depth_deeper, depth_caller, ktrTop, recursionLimit]); omega)))
  (k_with "callWith ref" => (k_here; k_dflt (first
    | (refine' callWith_K ?k1 ?k2 ?_; (case k1 => with_reducible assumption); (case k2 => k_is); k_whole)
    | (refine' callw_0 ?k0 ?k1 ?k2 ?_; (case k0 => with_reducible assumption); (case k1 => with_reducible assumption); (case k2 => k_is); k_whole)
    | (refine' callw_m0 ?k0 ?kN ?k1 ?kq ?k2 ?_; (case k0 => with_reducible assumption); (case kN => with_reducible assumption); (case k1 => with_reducible assumption); (case kq => k_mem); (case k2 => k_is); k_whole; try dsimp only [List.nil_append, List.cons_append])
    | (refine' callWith_M ?k1 ?k2 ?k3 ?k4 ?_; (case k1 => with_reducible assumption); (case k2 => with_reducible assumption); (case k3 => k_mem); (case k4 => k_is); k_whole)
    | (refine' callWith_KW ?k1 ?k2 ?k3 ?_; (case k1 => with_reducible assumption); (case k2 => k_is); (case k3 => exact rfl); k_whole)
    | (refine' callWith_KW0 ?k1 ?k2 ?k3 ?_; (case k1 => with_reducible assumption); (case k2 => k_is); (case k3 => exact rfl); k_whole))))
  (k_with "compareOp IsNot ref ref" => (k_here; first | (with_reducible refine isnot_ref_same ?_) | refine wpAny_isNot_ref_self ?_))
  (k_with "my stop" => ((rename Mark => mk9); clear mk9; refine stop_at ?_))
  (k_with "subscriptTail" => (k_extra "my stop"))
  (k_with "getMethod ref" => (k_extra "my stop"))
  trivial
example : True := by
  (k_with "my small" => (first | omega | ((try simp (config := { zetaDelta := true }) only [depth_under_make, depth_under_kw, depth_in1, depth_deeper, depth_caller, units_in1, units_deeper, Around.mark_units, units_caller]); (try simp (config := { zetaDelta := true }) only [ktrTop]); first | omega | decide)))
  (k_with "exec Raise some none" => ((k_here; (with_reducible show wpAny _ _ (exec (Stmt.Raise (some (Expr.Call (Expr.Name ("FormError" : Str) _) _ _ _)) none _) _) _ _ _); k_dflt (refine raise_form (by assumption) (by first | assumption | with_unfolding_all rfl) ?_))))
  (k_with "exec Raise some none" => ((k_here; (with_reducible show wpAny _ _ (exec (Stmt.Raise (some (Expr.Call (Expr.Name ("SizeError" : Str) _) _ _ _)) none _) _) _ _ _); k_dflt (refine raise_size (by assumption) (by first | assumption | with_unfolding_all rfl) ?_))))
  (k_with "call ref" => ((k_here; first
  | ((with_reducible show wpAny _ _ (call (Value.ref 51) [Value.str _ _]) _ _ _); (refine' make_form ?kF ?kX ?kN ?kh ?kf ?kd ?ku ?_); (case kF => assumption); (case kX => assumption); (case kN => assumption); (case kh => with_unfolding_all exact rfl); (case kf => with_unfolding_all exact rfl); (case kd => walk_at "my small"); (case ku => walk_at "my small"); k_whole; intro e' o' h' tk' hx' F' N' ne')
  | ((with_reducible show wpAny _ _ (call (Value.ref 63) [Value.str _ _]) _ _ _); (refine' make_size ?kF ?kX ?kN ?kh ?kf ?kd ?ku ?_); (case kF => assumption); (case kX => assumption); (case kN => assumption); (case kh => with_unfolding_all exact rfl); (case kf => with_unfolding_all exact rfl); (case kd => walk_at "my small"); (case ku => walk_at "my small"); k_whole; intro e' o' h' tk' hx' F' N' ne'))))
  (k_with "OwnUp ref" => ((refine ⟨_, _, rfl, by assumption, Frag.In.keeps (by assumption) (Fr.keep (by assumption)), (News.get (by assumption) (.head _)), ?_⟩)))
  (k_with "leaving ref" => ((k_here; first
  | ((refine' leave_led ?kB ?kf ?kk ?kF ?kN ?kx ?kn ?_); (case kx => assumption); (case kF => assumption); (case kN => assumption); (case kB => assumption); (case kf => with_unfolding_all exact rfl); (case kk => first | assumption | with_unfolding_all exact rfl); (case kn => assumption); k_whole; intro h' R' U'; (try dsimp only at R' U' ⊢))
  | ((refine' leave_up ?kB ?kf ?kF ?kR ?kU ?_); (case kR => assumption); (case kF => assumption); (case kB => assumption); (case kf => with_unfolding_all exact rfl); (case kU => assumption); k_whole; intro h' R' U'; (try dsimp only at R' U' ⊢)))))
  (k_with "turn enter" => ((refine' code_T ?k1 ?k2 ?k3 ?k4 ?k5 ?kD ?kA ?kF ?kK ?k6 ?k7 ?k8 ?k9 ?kB ?_ ?c2 ?c3 ?c4 ?c5; (case kA => exact rfl); (case kF => exact rfl); (case kK => assumption); (case k1 => k_asm); (case k2 => k_asm); (case k3 => k_asm); (case k4 => k_asm); (case k5 => k_asm); (case kD => assumption); (case k6 => k_is); (case k7 => k_is); (case k8 => ktr_room); (case k9 => exact BindsTo.of_eq rfl); (case c5 => decide); (case kB => exact locs rfl); (case c2 => exact rfl); (case c3 => exact rfl); (case c4 => exact rfl); k_whole; intro g' L' h' FG' F' N' B' X' T' D' l1; (try dsimp only); (try k_lift B'); (try k_fold))))
  (k_with "my size" => ((rw [KBw.ints_length]; first | omega | (simp only [Array.size_append]; omega))))
  (k_with "subscriptTail" => ((k_here; (with_reducible show wpAny _ _ (subscriptTail _ (Expr.Slice _ _ none _) (Value.bytes _ _) (Value.ref _)) _ _ _); (with_reducible rename Fr _ _ _ _ => F'); (with_reducible rename News _ _ _ _ => N'); (refine KBc.slice_K (s := ⟨_, _, _, _, _⟩) F' N' rfl (by constructor) (by constructor) (by walk_at "my size") ?_); intro _ _ _ _ _ _)))
  (k_with "turn enter cells" => ((refine' code_TC ?k1 ?k2 ?k3 ?k4 ?k5 ?kG ?kA ?kF ?kK ?k6 ?k7 ?k8 ?k9 ?kB ?kD ?_ ?c2 ?c3 ?c4; (case kA => exact rfl); (case kF => exact rfl); (case kK => assumption); (case k1 => k_asm); (case k2 => k_asm); (case k3 => k_asm); (case k4 => k_asm); (case k5 => k_asm); (case kG => assumption); (case k6 => k_is); (case k7 => k_is); (case k8 => ktr_room); (case k9 => exact BindsTo.of_eq rfl); (case kB => exact rfl); (case kD => decide +kernel); (case c2 => exact rfl); (case c3 => exact rfl); (case c4 => exact rfl); k_whole; intro g' L' h' tk' cells' FG' F' N' Y' B' X' T' D' l1; (try k_lt l1); (have l9 := l1); (repeat (replace l9 := And.right l9)); k_cells Y'; (try simp only [List.cons_append, List.nil_append] at N'); (first | (refine fr_one F' (by rfl) ?_; clear F'; intro F') | (refine fr_cell F' (by rfl) ?_; clear F'; intro F')); (try dsimp only); (try k_lift B'); (try k_fold))))
  (k_with "LeaveT" => ((k_dflt (refine' leaveT ?F ?N ?T ?_; (case F => k_asm); (case N => k_asm); (case T => first | assumption | exact KtsTurn.refl); k_whole); intro kg kT kF kN kB kD; (try dsimp only))))
  trivial
example : True := by
  (k_with "my all" => (first | exact ne_all (by assumption) (Nat.le_refl _) | exact ne_all (by assumption) (Nat.le_of_lt (by assumption)) | exact ne_all (by assumption) (by omega)))
  trivial
example : True := by
  (k_with "call type:bytes" => ((k_here; (with_reducible show wpAny _ _ (call (Value.type "bytes") [Value.bytes _ _]) _ _ _); refine MB.call_b ?_)))
  (k_with "call type:bytes" => ((k_here; (with_reducible show wpAny _ _ (call (Value.type "bytes") [Value.int _ _]) _ _ _); (refine MB.call_i ?bi0 ?bi1 ?_); (case bi0 => omega); (case bi1 => omega); intro _ _)))
  (k_with "lam enter" => ((refine' kla_code ?k1 ?k2 ?k3 ?k4 ?k5 ?kA ?kF ?kK ?k6 ?k7 ?k8 ?k9 ?kB ?_ ?c2 ?c3 ?c4 ?c5; (case kA => exact rfl); (case kF => exact rfl); (case kK => assumption); (case k1 => k_asm); (case k2 => k_asm); (case k3 => k_asm); (case k4 => k_asm); (case k5 => k_asm); (case k6 => k_mem); (case k7 => exact codeRec_news (by k_asm) (by k_mem) (by assumption) (by assumption)); (case k8 => ktr_room); (case k9 => exact rfl); (case c5 => decide); (case kB => exact locs rfl); (case c2 => exact rfl); (case c3 => exact rfl); (case c4 => exact rfl); k_whole; intro g' L' h' FG' F' N' B' X' T'; (try dsimp only); (try k_lift B'); (try k_fold))))
  (k_with "my sub" => ((refine sub_news (by assumption) ?_; (repeat (refine List.forall_mem_cons.mpr ⟨?_, ?_⟩; (focus ((k_mem); done)))); first | exact List.forall_mem_nil _ | (intro _ hp9; (repeat (first | exact hp9 | refine List.Mem.tail _ ?_))))))
  (k_with "same item" => (first | exact MQ.at_bytes _ _ _ | exact MQ.at_int _ _ _))
  (k_with "compareOp NotEq ref ref" => ((k_here; k_dflt (refine MQ.ne_list1 (News.isList (by assumption) (by k_mem)) (News.isList (by assumption) (by k_mem)) (by ktr_units) (by walk_at "same item") ?_))))
  trivial
example : True := by
  (k_with "call ref" => ((k_here; (with_reducible show wpAny _ _ (call (Value.ref 500) [Value.ref _, Value.int _ _]) _ _ _); (with_unfolding_all refine take_U (by assumption) (by assumption) (by assumption) (by assumption) (by k_updF) (by assumption) (by first | assumption | exact rfl) (by walk_at "my small") (by walk_at "my small") (by walk_at "my bnd") (by walk_at "my bnd") (by first | assumption | omega) ?_); intro d' x' y' td' tx' ty' h' tk' F' N' hd1' hd2' hx'; (try dsimp only at N'); (try k_sweep))))
  (k_with "my item" => ((refine item_at (by assumption) (by k_mem) (by assumption) (by assumption) (by assumption) ?_; intro _ hv')))
  (k_with "exec For Name Call cons nil" => ((k_here; k_dflt (refine For_from ?_))))
  (k_with "exec For Name List cons nil" => ((k_here; k_dflt (refine For_from ?_))))
  (k_with "binaryOp Add" => ((k_here; (with_reducible show wpAny _ _ (binaryOp Operator.Add (Value.ref _) (Value.ref _)) _ _ _); k_dflt (refine' menu_K ?mF ?mN ?ml ?mP ?mi ?mc ?mz ?_; (case mF => assumption); (case mN => assumption); (case ml => k_mem); (case mP => assumption); (case mi => repeat constructor); (case mc => assumption); (case mz => decide)); intro h' d' items' F' N' l1 hI'; (try k_lt l1))))
  (k_with "call builtin:list.append" => ((k_here; (with_reducible show wpAny _ _ (call (Value.builtin _) [Value.ref _, _]) _ _ _); k_dflt (refine' append_K ?k1 ?k2 ?k3 ?_ ?z; (case k1 => k_asm); (case k2 => k_asm); (case k3 => k_upd); (case z => rw [sizeLine_eq]; omega); k_whole); intro h' F' N'; (try k_sweep))))
  trivial
example : True := by
  (k_with "my ne2" => (first | k_extra "my ne" | (k_dflt (refine ne_cls (by assumption) (by k_mem) (by k_mem) rfl rfl (by decide))) | (refine neN ?_; (try dsimp only); omega (config := {}))))
  trivial
example : True := by
  (k_with "newTuple" => ((k_here; k_dflt (refine' kup_newTuple ?F ?N ?_ ?z; (case F => k_asm); (case N => k_asm); (case z => kmk_size)); intro D' h' F' N' l1; (try k_lt l1); (try k_sweep))))
  (k_with "exec For Tuple Name cons nil" => ((k_here; k_dflt (refine For_from ?_))))
  (k_with "my tup" => (exact tup_at (by assumption) (by k_mem)))
  (k_with "compareOp NotEq ref ref" => ((k_here; k_dflt (refine MQ.ne_tuple2 (by walk_at "my tup") (by walk_at "my tup") (by ktr_units) (by walk_at "same item") (by walk_at "same item") ?_))))
  (k_with "compareOp Eq ref ref" => ((k_here; k_dflt (refine eq_tuple2 (by walk_at "my tup") (by walk_at "my tup") (by ktr_units) (by walk_at "same item") (by walk_at "same item") ?_))))
  trivial
example : True := by
  (k_with "binaryOp RShift int int" => (first | refine shr8 ?_ | refine shr16 ?_))
  (k_with "binaryOp BitAnd int int" => (first | refine and8 ?_ | refine and16 ?_ | (refine and_any (by decide) ?_; intro r' hr0' hr1')))
  (k_with "binaryOp LShift int int" => (first | refine shl8 (by walk_at "my bnd") (by walk_at "my bnd") ?_ | refine shl16 (by walk_at "my bnd") (by walk_at "my bnd") ?_))
  (k_with "binaryOp BitOr int int" => (first | refine or8 (by walk_at "my bnd") (by walk_at "my bnd") (by walk_at "my bnd") ?_ | refine or16 (by walk_at "my bnd") (by walk_at "my bnd") (by walk_at "my bnd") ?_))
  (k_with "my idx" => (((try simp only [List.length_append, List.length_cons, List.length_nil, List.length_take, List.length_drop, List.length_map]); omega)))
  (k_with "my enter" => ((refine' code_def ?k1 ?k2 ?k3 ?k4 ?k5 ?kA ?kF ?kK ?k6 ?k7 ?k8 ?k9 ?kB ?_ ?c2 ?c3 ?c4 ?c5; (case kA => exact rfl); (case kF => exact rfl); (case kK => assumption); (case k1 => k_asm); (case k2 => k_asm); (case k3 => k_asm); (case k4 => k_asm); (case k5 => k_asm); (case k6 => k_is); (case k7 => k_is); (case k8 => ktr_room); (case k9 => first | exact BindsTo.of_eq rfl | exact binds_K (by k_in) rfl (by k_is) rfl rfl rfl); (case c5 => decide); (case kB => exact locs rfl); (case c2 => exact rfl); (case c3 => exact rfl); (case c4 => exact rfl); k_whole; intro g' L' h' FG' F' N' B' X' T'; (try dsimp only); (try k_lift B'); (try k_fold))))
  (k_with "call ref" => ((k_here; (with_reducible show wpAny _ _ (call (Value.ref 316) _) _ _ _); k_dflt (refine' ip_made ?B ?F ?X ?N ?T ?k ?d ?u ?b ?_; (case B => k_asm); (case F => k_asm); (case X => k_asm); (case N => k_asm); (case T => k_asm); (case k => first | assumption | exact rfl); (case d => walk_at "my small"); (case u => walk_at "my small"); (case b => (refine' binds_of ?h0 ?hb; (case h0 => k_is); (case hb => (intro s9 x9 X9; first | exact BindsTo.of_eq rfl | exact binds_K (by k_in) rfl (by k_is) rfl rfl rfl)))); k_whole); intro x' d' h' tk' e1' e2' e3' e4' e5' e6' e7' e8' e9' e10' t1' t2' t3' t4' t5' t6' t7' t8' t9' t10' F' N' l1 l2; (try k_lt l1); (try k_sweep))))
  (k_with "call ref" => ((k_here; (with_reducible show wpAny _ _ (call (Value.ref 231) _) _ _ _); k_dflt (refine' im_made ?B ?F ?X ?N ?T ?k ?d ?u ?b ?_; (case B => k_asm); (case F => k_asm); (case X => k_asm); (case N => k_asm); (case T => k_asm); (case k => first | assumption | exact rfl); (case d => walk_at "my small"); (case u => walk_at "my small"); (case b => (refine' binds_of ?h0 ?hb; (case h0 => k_is); (case hb => (intro s9 x9 X9; first | exact BindsTo.of_eq rfl | exact binds_K (by k_in) rfl (by k_is) rfl rfl rfl)))); k_whole); intro x' d' h' tk' e1' e2' e3' e4' t1' t2' t3' t4' F' N' l1 l2; (try k_lt l1); (try k_sweep))))
  trivial
example : True := by
  (k_with "call ref" => ((k_here; (with_reducible show wpAny _ _ (call (Value.ref 128) [Value.int _ _]) _ _ _); (with_unfolding_all refine put16_c (by assumption) (by assumption) (by assumption) (by assumption) (by assumption) (by first | assumption | exact rfl) (by walk_at "my small") (by walk_at "my small")  ?_); intro b' t' h' tk' hb' F' N'; (try k_sweep))))
  (k_with "call ref" => ((k_here; (with_reducible show wpAny _ _ (call (Value.ref 135) [Value.int _ _]) _ _ _); (with_unfolding_all refine put32_c (by assumption) (by assumption) (by assumption) (by assumption) (by assumption) (by first | assumption | exact rfl) (by walk_at "my small") (by walk_at "my small")  ?_); intro b' t' h' tk' hb' F' N'; (try k_sweep))))
  (k_with "call ref" => ((k_here; (with_reducible show wpAny _ _ (call (Value.ref 149) [Value.bytes _ _, Value.int _ _]) _ _ _); (with_unfolding_all refine get16_c (by assumption) (by assumption) (by assumption) (by assumption) (by assumption) (by first | assumption | exact rfl) (by walk_at "my small") (by walk_at "my small") (by assumption) (by walk_at "my bnd") (by walk_at "my idx") (by walk_at "my idx") ?_); intro r' t' h' tk' hr' F' N'; have hr2' := hr'.2; (try k_sweep))))
  (k_with "call ref" => ((k_here; (with_reducible show wpAny _ _ (call (Value.ref 156) [Value.bytes _ _, Value.int _ _]) _ _ _); (with_unfolding_all refine get32_c (by assumption) (by assumption) (by assumption) (by assumption) (by assumption) (by first | assumption | exact rfl) (by walk_at "my small") (by walk_at "my small") (by assumption) (by walk_at "my bnd") (by walk_at "my idx") (by walk_at "my idx") ?_); intro r' t' h' tk' hr' F' N'; have hr2' := hr'.2; (try k_sweep))))
  (k_with "exec While Compare cons nil" => ((k_here; k_dflt (refine while_stop ?_))))
  (k_with "call ref" => ((k_here; (with_reducible show wpAny _ _ (call (Value.ref 163) [Value.int _ _]) _ _ _); (with_unfolding_all refine fold_c (by assumption) (by assumption) (by assumption) (by assumption) (by assumption) (by first | assumption | exact rfl) (by walk_at "my small") (by walk_at "my small") (by first | assumption | omega) ?_); intro r' t' h' tk' hr' F' N'; (try k_sweep))))
  (k_with "call ref" => ((k_here; (with_reducible show wpAny _ _ (call (Value.ref 171) [Value.bytes _ _, Value.int 0 _]) _ _ _); (with_unfolding_all refine ones_c (by assumption) (by assumption) (by assumption) (by assumption) (by assumption) (by first | assumption | exact rfl) (by walk_at "my small") (by walk_at "my small") (by assumption) (by walk_at "my idx") ?_); intro r' t' h' tk' hr' F' N'; (try k_sweep))))
  (k_with "call ref" => ((k_here; (with_reducible show wpAny _ _ (call (Value.ref 179) [Value.bytes _ _]) _ _ _); (with_unfolding_all refine check_c (by assumption) (by assumption) (by assumption) (by assumption) (by assumption) (by first | assumption | exact rfl) (by walk_at "my small") (by walk_at "my small") (by assumption) (by walk_at "my idx") ?_); intro r' t' h' tk' hr' F' N'; (try k_sweep))))
  trivial
example : True := by
  (k_with "call type:bytes" => ((k_here; (with_reducible show wpAny _ _ (call (Value.type "bytes") [Value.ref _]) _ _ _); k_dflt (refine' bytes_range ?bF ?bN ?bh ?bR ?b0 ?b1 ?b2 ?_; (case bF => assumption); (case bN => assumption); (case bh => exact rfl); (case bR => assumption); (case b0 => omega); (case b1 => omega); (case b2 => omega)); intro bs' h' t' tk' hbs' F' N'; (try k_sweep))))
  (k_with "eval Lambda" => ((k_here; k_dflt (refine lam_stop ?_))))
  (k_with "call builtin:len" => ((k_here; (with_reducible show wpAny _ _ (call (Value.builtin "len") [Value.bytes _ _]) _ _ _); (refine len_bytes (by omega) ?_))))
  trivial
example : True := by
  (k_with "exec For Name Tuple cons nil" => ((k_here; k_dflt (refine For_from ?_))))
  (k_with "binaryOp FloorDiv int int" => ((refine div_pos9 ?da ?db ?_; (case da => decide); (case db => decide))))
  (k_with "binaryOp Mod int int" => ((refine mod_pos9 ?da ?_; (case da => decide))))
  (k_with "call builtin:len" => ((k_here; (with_reducible show wpAny _ _ (call (Value.builtin "len") [Value.bytes #[] _]) _ _ _); (refine len_nil9 ?_); intro _)))
  trivial
example : True := by
  (k_with "my fold" => (refine fold_any ?_; intro Ak qk ek sk))
  (k_with "my refold" => ((try k_unmd); (try k_unfold); (try dsimp only); (try k_fold)))
  trivial
section
theorem picked_whole (b : Array UInt8) (k : Int) (hk : (b.size : Int) ≤ k) : KBy.picked b none (some k) = b := by
  rw [KBc.picked_eq]
  have e : clipAt b.size k = b.size := by
    have := clipAt_nat b.size k.toNat
    rw [Int.toNat_of_nonneg (by omega)] at this
    rw [this]
    omega
  simp only [Option.elim_none, Option.elim_some, List.drop_zero, Nat.sub_zero, e]
  rw [List.take_of_length_le (by simp), Array.toArray_toList]
theorem add_put {prog : Program} {w : World} {A : Around} {E : Value → Shared → Prop} {s : Shared} {Q : Value → Shared → Prop} {octs : Array UInt8} {t u : Tok} (h : octs.size ≤ 20) (hQ : ∀ t' k, Q (.bytes octs t') { s with toks := k }) :
    wpAny (model prog w) A (binaryOp .Add (.bytes #[] t) (.bytes (KBy.picked octs none (some (if (20 : Int) - ((#[] : Array UInt8).size : Nat) < ((octs.size : Nat) : Int) then (20 : Int) - ((#[] : Array UInt8).size : Nat) else ((octs.size : Nat) : Int)))) u)) Q E s := by
  have e : KBy.picked octs none (some (if (20 : Int) - ((#[] : Array UInt8).size : Nat) < ((octs.size : Nat) : Int) then (20 : Int) - ((#[] : Array UInt8).size : Nat) else ((octs.size : Nat) : Int))) = octs := by
    refine picked_whole _ _ ?_
    simp only [List.size_toArray, List.length_nil, Int.ofNat_zero, Int.sub_zero]
    split <;> omega
  rw [e]
  refine KBy.add_bytes (by simp only [List.size_toArray, List.length_nil]; omega) fun t' k => ?_
  rw [Array.empty_append]
  exact hQ t' k
theorem picked_all (b : Array UInt8) (k : Int) (hk : (b.size : Int) ≤ k) : KBy.picked b (some 0) (some k) = b := by
  refine Eq.trans ?_ (picked_whole b k hk)
  rw [KBc.picked_eq, KBc.picked_eq]
  have e : clipAt b.size 0 = 0 := by
    have := clipAt_nat b.size 0
    simpa using this
  simp only [Option.elim_none, Option.elim_some, e]
example : True := by
  (k_with "binaryOp Add bytes bytes" => ((k_here; (refine add_put ?hz ?_); (case hz => omega); intro _ _)))
  trivial
inductive QO (octs : Array UInt8) (od : Obj) : Prop
  | mk (hs : Int) (hs' : Int) (tr : Tok) (th : Tok) (tr' : Tok) (th' : Tok) (n : Nat) (h1 : od = dictOf [⟨hs, .str (Str.ofString "room") tr, .int 20 tr'⟩, ⟨hs', .str (Str.ofString "held") th, .bytes octs th'⟩] n) : QO octs od
def PV (octs : Array UInt8) (to tm : Tok) (m : Str → Option Value) : Prop := m "many" = some (.int (octs.size : Nat) tm) ∧ m "octets" = some (.bytes octs to)
def AnyP (o : Obj) : Prop := ∃ v, o.data = .cell v
def IsP (v : Value) (o : Obj) : Prop := o.data = .cell (some v)
def Nd (cs ca : Addr) (l : List (Addr × Obj)) : Prop := (∀ q ∈ l, q.1 ≠ cs) ∧ (∀ q ∈ l, q.1 ≠ ca) ∧ ∀ q ∈ l, q.1 ≠ 516
def Offp (cs ca : Addr) (rest : List (Addr × Obj)) (d : Addr) : Prop := (d = cs ∨ d = ca ∨ d = 516) ∨ ∃ q ∈ rest, q.1 = d
inductive JPt (octs : Array UInt8) (to tm : Tok) (Ps Pa : Obj → Prop) (x d cs cq ca : Addr) (oq : Obj) (line col : Nat) (p0 : Array Value) (rest : List (Addr × Obj)) (I : Addr) (m : Str → Option Value) (nw : List (Addr × Obj)) : Prop
  | mk (h1 : PV octs to tm m) (od : Obj) (os : Obj) (oa : Obj) (ps : Array Value) (ex : List (Addr × Obj)) (h2 : QO octs od) (h3 : Ps os) (h4 : Pa oa) (h5 : Lam "_law_parts_right.<locals>.<lambda>" line col p0 (fun d => Offp cs ca rest d ∨ d = I) ps ex) (h6 : Nd cs ca (ex ++ rest)) (h7 : nw = (x, instObj 117 d) :: (d, od) :: (cs, os) :: (cq, oq) :: (ca, oa) :: (516, tabObj ps) :: (ex ++ rest)) : JPt octs to tm Ps Pa x d cs cq ca oq line col p0 rest I m nw
def PtR (A₀ : Around) (base : Heap) (outer : List Env) (g₀ : Heap) (L : Addr) (octs : Array UInt8) (to tm : Tok) (Ps Pa : Obj → Prop) (x d cs cq ca : Addr) (oq : Obj) (line col : Nat) (p0 : Array Value) (rest : List (Addr × Obj)) (I : Addr) (it : Obj) (s' : Shared) (R : Flow → Shared → Prop) : Prop :=
  ∀ m' nw' h' tk', JPt octs to tm Ps Pa x d cs cq ca oq line col p0 rest I m' nw' → At A₀ base outer g₀ L m' ((I, it) :: nw') h' → R .next { s' with heap := h', toks := tk' }
section
variable {prog : Program} {w : World} {A : Around} {E : Value → Shared → Prop} {s : Shared} {A₀ : Around} {base g₀ : Heap} {outer : List Env} {m : Str → Option Value} {env : Env} {target : Expr} {body : List Stmt} {Q : Flow → Shared → Prop}
theorem range_pt {L : Addr} {g : Heap} {r x d cs cq ca : Addr} {od oq oa os : Obj} {a b : Int} {t u v to tm : Tok} {octs : Array UInt8} {line col : Nat} {p0 ps : Array Value} {ex all : List (Addr × Obj)} (Ps Pa : Obj → Prop) (rest : List (Addr × Obj))
    (hh : A.handled = none) (hr : IsRange s.heap r a b 1 t u v) (ha : -1000000 < a) (ha2 : a < 1000000) (hb : -1000000 < b) (hb2 : b < 1000000) (T : KtsTurn (frs outer) g₀ g) (F : Fr g L s.heap m) (N : News g L s.heap all) (B : Below A₀ base outer g) (D : KtsDicts (frs outer) g)
    (sub : ∀ q ∈ (x, instObj 117 d) :: (d, od) :: (cs, os) :: (cq, oq) :: (ca, oa) :: (516, tabObj ps) :: (ex ++ rest), q ∈ all)
    (hV : PV octs to tm m) (hQ : QO octs od) (hs : Ps os) (hpa : Pa oa) (hL : Lam "_law_parts_right.<locals>.<lambda>" line col p0 (Offp cs ca rest) ps ex) (hn : Nd cs ca (ex ++ rest))
    (step : ∀ (rest : List (Addr × Obj)) (I : Addr) (k : Int) (t : Tok) (m : Str → Option Value) (nw : List (Addr × Obj)) (it : Obj) (s' : Shared) (R : Flow → Shared → Prop), @LT.lt Nat _ cs I → @LT.lt Nat _ ca I → @LT.lt Nat _ 516 I → JPt octs to tm Ps Pa x d cs cq ca oq line col p0 rest I m nw → At A₀ base outer g₀ L m ((I, it) :: nw) s'.heap → PtR A₀ base outer g₀ L octs to tm Ps Pa x d cs cq ca oq line col p0 rest I it s' R →
      wpAny (model prog w) A (assign target env (.int k t)) (fun _ s₂ => wpAny (model prog w) A (execs body env) R (fun _ _ => False) s₂) (fun _ _ => False) s')
    (done : ∀ I m nw h tk, JPt octs to tm Ps Pa x d cs cq ca oq line col p0 rest I m nw → At A₀ base outer g₀ L m nw h → Q .next { s with heap := h, toks := tk })
    (ht : ∀ I v, letOwnedTupleGo target (.ref I) v = pure () := by intro _ _; rfl) : ForFrom (model prog w) A target body env Q E (.ref r) s := by
  refine range_at (n := (b - a).toNat) ((x, instObj 117 d) :: (d, od) :: (cs, os) :: (cq, oq) :: (ca, oa) :: (516, tabObj ps) :: (ex ++ rest)) (fun I _ m nw => JPt octs to tm Ps Pa x d cs cq ca oq line col p0 rest I m nw) hh hr (range_small ha ha2 hb hb2) (rangeSize_up a b) T F N B D sub ?_ ?_ ?_ (fun I _ m nw h tk hj hat => done I m nw h tk hj hat) ht
  · rintro I hI i m nw ⟨_, od', os', oa', ps', ex', _, _, _, hL', _, rfl⟩ q hq
    simp only [List.mem_cons, List.mem_append] at hq
    rcases hq with rfl | rfl | rfl | rfl | rfl | rfl | hq | hq
    · exact Nat.ne_of_lt (hI (x, instObj 117 d) (by walk_at "my in"))
    · exact Nat.ne_of_lt (hI (d, od) (by walk_at "my in"))
    · exact Nat.ne_of_lt (hI (cs, os) (by walk_at "my in"))
    · exact Nat.ne_of_lt (hI (cq, oq) (by walk_at "my in"))
    · exact Nat.ne_of_lt (hI (ca, oa) (by walk_at "my in"))
    · exact Nat.ne_of_lt (hI (516, tabObj ps) (by walk_at "my in"))
    · exact hL'.apart (.inr rfl) q hq
    · exact Nat.ne_of_lt (hI q (by walk_at "my at"))
  · intro I hI
    refine ⟨hV, od, os, oa, ps, ex, hQ, hs, hpa, hL.more fun d hd => ?_, hn, rfl⟩
    rcases hd with hd | rfl
    · exact .inl hd
    · exact .inr fun q hq => Nat.ne_of_lt (hI q (by walk_at "my at"))
  · intro I hI i k t m nw it h tk hi hk hj hat
    exact step rest I k t m nw it { s with heap := h, toks := tk } (TurnStep A₀ base outer g₀ L [(I, it)] (fun m nw => JPt octs to tm Ps Pa x d cs cq ca oq line col p0 rest I m nw) s Q) (hI (cs, os) (by walk_at "my in")) (hI (ca, oa) (by walk_at "my in")) (hI (516, tabObj ps) (by walk_at "my in")) hj hat fun m' nw' h' tk' hj' hat' => ⟨m', nw', h', tk', rfl, hj', hat'⟩
theorem list_pt {L : Addr} {g : Heap} {l x d cs cq ca : Addr} {od oq oa os : Obj} {to tm : Tok} {octs : Array UInt8} {line col nn : Nat} {p0 ps items : Array Value} {ns : List Int} {ex all : List (Addr × Obj)} (Ps Pa : Obj → Prop) (rest : List (Addr × Obj))
    (hh : A.handled = none) (T : KtsTurn (frs outer) g₀ g) (F : Fr g L s.heap m) (N : News g L s.heap all) (B : Below A₀ base outer g) (D : KtsDicts (frs outer) g) (hl : (l, W.listOf items nn) ∈ rest) (hi : IntsAre items.toList ns)
    (sub : ∀ q ∈ (x, instObj 117 d) :: (d, od) :: (cs, os) :: (cq, oq) :: (ca, oa) :: (516, tabObj ps) :: (ex ++ rest), q ∈ all)
    (hV : PV octs to tm m) (hQ : QO octs od) (hs : Ps os) (hpa : Pa oa) (hL : Lam "_law_parts_right.<locals>.<lambda>" line col p0 (Offp cs ca rest) ps ex) (hn : Nd cs ca (ex ++ rest))
    (step : ∀ (rest : List (Addr × Obj)) (I : Addr) (k : Int) (t : Tok) (m : Str → Option Value) (nw : List (Addr × Obj)) (it : Obj) (s' : Shared) (R : Flow → Shared → Prop), k ∈ ns → @LT.lt Nat _ cs I → @LT.lt Nat _ ca I → @LT.lt Nat _ 516 I → JPt octs to tm Ps Pa x d cs cq ca oq line col p0 rest I m nw → At A₀ base outer g₀ L m ((I, it) :: nw) s'.heap → PtR A₀ base outer g₀ L octs to tm Ps Pa x d cs cq ca oq line col p0 rest I it s' R →
      wpAny (model prog w) A (assign target env (.int k t)) (fun _ s₂ => wpAny (model prog w) A (execs body env) R (fun _ _ => False) s₂) (fun _ _ => False) s')
    (done : ∀ I m nw h tk, JPt octs to tm Ps Pa x d cs cq ca oq line col p0 rest I m nw → At A₀ base outer g₀ L m nw h → Q .next { s with heap := h, toks := tk }) : ForFrom (model prog w) A target body env Q E (.ref l) s := by
  refine list_at ((x, instObj 117 d) :: (d, od) :: (cs, os) :: (cq, oq) :: (ca, oa) :: (516, tabObj ps) :: (ex ++ rest)) (fun I _ m nw => JPt octs to tm Ps Pa x d cs cq ca oq line col p0 rest I m nw) hh (sub (l, W.listOf items nn) (by walk_at "my at")) T F N B D sub ?_ ?_ ?_ ?_ (fun I _ m nw h tk hj hat => done I m nw h tk hj hat)
  · rintro I hI i m nw ⟨_, od', os', oa', ps', ex', _, _, _, hL', _, rfl⟩ q hq
    simp only [List.mem_cons, List.mem_append] at hq
    rcases hq with rfl | rfl | rfl | rfl | rfl | rfl | hq | hq
    · exact Nat.ne_of_lt (hI (x, instObj 117 d) (by walk_at "my in"))
    · exact Nat.ne_of_lt (hI (d, od) (by walk_at "my in"))
    · exact Nat.ne_of_lt (hI (cs, os) (by walk_at "my in"))
    · exact Nat.ne_of_lt (hI (cq, oq) (by walk_at "my in"))
    · exact Nat.ne_of_lt (hI (ca, oa) (by walk_at "my in"))
    · exact Nat.ne_of_lt (hI (516, tabObj ps) (by walk_at "my in"))
    · exact hL'.apart (.inr rfl) q hq
    · exact Nat.ne_of_lt (hI q (by walk_at "my at"))
  · rintro I i m nw ⟨_, od', os', oa', ps', ex', _, _, _, _, _, rfl⟩
    simp [hl]
  · intro I hI
    refine ⟨hV, od, os, oa, ps, ex, hQ, hs, hpa, hL.more fun d hd => ?_, hn, rfl⟩
    rcases hd with hd | rfl
    · exact .inl hd
    · exact .inr fun q hq => Nat.ne_of_lt (hI q (by walk_at "my at"))
  · intro I hI i v m nw it h tk hv hj hat
    obtain ⟨k, t, rfl, hk⟩ := IntsAre.at hi i v (by simpa using hv)
    exact step rest I k t m nw it { s with heap := h, toks := tk } (TurnStep A₀ base outer g₀ L [(I, it)] (fun m nw => JPt octs to tm Ps Pa x d cs cq ca oq line col p0 rest I m nw) s Q) (List.mem_of_getElem? hk) (hI (cs, os) (by walk_at "my in")) (hI (ca, oa) (by walk_at "my in")) (hI (516, tabObj ps) (by walk_at "my in")) hj hat fun m' nw' h' tk' hj' hat' => ⟨m', nw', h', tk', rfl, hj', hat'⟩
end
theorem pt_end {s' : Shared} {R : Flow → Shared → Prop} {A₀ : Around} {base g₀ : Heap} {outer : List Env} {L I : Addr} {it : Obj} {g2 g h' : Heap} {tk' : Nat} {m' : Str → Option Value} {octs : Array UInt8} {to tm : Tok} {Ps Pa : Obj → Prop} {x d cs cq ca c9 : Addr} {od os oq oa oc9 : Obj} {vs9 : Array Value} {tq9 : Tok} {line col : Nat} {p0 : Array Value} {ex rest : List (Addr × Obj)}
    (hR : PtR A₀ base outer g₀ L octs to tm Ps Pa x d cs cq ca oq line col p0 rest I it s' R)
    (T : KtsTurn (frs outer) g₀ g2) (T' : KtsTurn (frs outer) g2 g) (F : Fr g L h' m') (B : Below A₀ base outer g) (D : KtsDicts (frs outer) g) (hV : PV octs to tm m') (hQ : QO octs od) (hs : Ps os) (hpa : Pa oa)
    (hd : oc9.data = .fields vs9) (hv : vs9[1]? = some (.str "_law_parts_right.<locals>.<lambda>" tq9)) (ha : ∀ d, Offp cs ca rest d ∨ d = I → c9 ≠ d) (hn : Nd cs ca (ex ++ rest))
    (N : News g L h' ((I, it) :: (x, instObj 117 d) :: (d, od) :: (cs, os) :: (cq, oq) :: (ca, oa) :: (516, tabObj (p0 ++ #[rawInt line, rawInt col, .ref c9])) :: ([(c9, oc9)] ++ rest))) : R .next { s' with heap := h', toks := tk' } :=
  hR m' _ h' tk' ⟨hV, od, os, oa, _, [(c9, oc9)], hQ, hs, hpa, .inr ⟨c9, oc9, vs9, tq9, rfl, rfl, hd, hv, ha⟩,
    ⟨List.forall_mem_cons.mpr ⟨ha _ (.inl (.inl (.inl rfl))), fun q hq => hn.1 q (List.mem_append_right _ hq)⟩, List.forall_mem_cons.mpr ⟨ha _ (.inl (.inl (.inr (.inl rfl)))), fun q hq => hn.2.1 q (List.mem_append_right _ hq)⟩, List.forall_mem_cons.mpr ⟨ha _ (.inl (.inl (.inr (.inr rfl)))), fun q hq => hn.2.2 q (List.mem_append_right _ hq)⟩⟩, rfl⟩ ⟨g, T.trans T', F, N, B, D⟩
theorem pt_up {s' : Shared} {R : Flow → Shared → Prop} {A₀ : Around} {base g₀ : Heap} {outer : List Env} {L I I2 : Addr} {it : Obj} {h' : Heap} {tk' : Nat} {m' : Str → Option Value} {nw2 : List (Addr × Obj)} {octs : Array UInt8} {to tm : Tok} {Ps Pa Pa' : Obj → Prop} {x d cs cq ca : Addr} {oq : Obj} {line col : Nat} {p0 : Array Value} {rest : List (Addr × Obj)}
    (hR : PtR A₀ base outer g₀ L octs to tm Ps Pa x d cs cq ca oq line col p0 rest I it s' R) (hJ : JPt octs to tm Ps Pa' x d cs cq ca oq line col p0 ((I, it) :: rest) I2 m' nw2) (hat : At A₀ base outer g₀ L m' nw2 h') (e : ∀ o, Pa' o → Pa o) : R .next { s' with heap := h', toks := tk' } := by
  obtain ⟨hV, od, os, oa, ps, ex, hQ, hs, hpa, hL, hn, rfl⟩ := hJ
  obtain ⟨g, T, F, N, B, D⟩ := hat
  have hs' : ∀ q ∈ ex ++ rest, q ∈ ex ++ (I, it) :: rest := fun q hq => by
    rcases List.mem_append.mp hq with hq | hq
    · exact List.mem_append_left _ hq
    · exact List.mem_append_right _ (.tail _ hq)
  refine hR m' _ h' tk' ⟨hV, od, os, oa, ps, ex, hQ, hs, e _ hpa, hL.more fun d hd => .inl (.inl ?_), ⟨fun q hq => hn.1 q (hs' q hq), fun q hq => hn.2.1 q (hs' q hq), fun q hq => hn.2.2 q (hs' q hq)⟩, rfl⟩ ⟨g, T, F, sub_news N (by walk_at "my perm"), B, D⟩
  · rcases hd with (hd | ⟨q, hq, rfl⟩) | rfl
    · exact .inl hd
    · exact .inr ⟨q, .tail _ hq, rfl⟩
    · exact .inr ⟨_, .head _, rfl⟩
theorem lam_in {cs ca I : Addr} {it : Obj} {line col : Nat} {p0 ps : Array Value} {ex rest : List (Addr × Obj)} (hL : Lam "_law_parts_right.<locals>.<lambda>" line col p0 (fun d => Offp cs ca rest d ∨ d = I) ps ex) : Lam "_law_parts_right.<locals>.<lambda>" line col p0 (Offp cs ca ((I, it) :: rest)) ps ex :=
  hL.more fun d hd => .inl (by
    rcases hd with hd | ⟨q, hq, rfl⟩
    · exact .inl (.inl hd)
    · rcases List.mem_cons.mp hq with rfl | hq
      · exact .inr rfl
      · exact .inl (.inr ⟨q, hq, rfl⟩))
theorem Nd.one {cs ca I : Addr} {it : Obj} {ex rest : List (Addr × Obj)} (h : Nd cs ca (ex ++ rest)) (h1 : @LT.lt Nat _ cs I) (h2 : @LT.lt Nat _ ca I) (h3 : @LT.lt Nat _ 516 I) : Nd cs ca (ex ++ (I, it) :: rest) := by
  have k : ∀ d, (∀ q ∈ ex ++ rest, q.1 ≠ d) → @LT.lt Nat _ d I → ∀ q ∈ ex ++ (I, it) :: rest, q.1 ≠ d := fun d h hd q hq => by
    rcases List.mem_append.mp hq with hq | hq
    · exact h q (List.mem_append_left _ hq)
    · rcases List.mem_cons.mp hq with rfl | hq
      · exact Nat.ne_of_gt hd
      · exact h q (List.mem_append_right _ hq)
  exact ⟨k _ h.1 h1, k _ h.2.1 h2, k _ h.2.2 h3⟩
theorem Nd.off {cs ca : Addr} {ex rest : List (Addr × Obj)} (h : Nd cs ca (ex ++ rest)) : Nd cs ca ([] ++ rest) :=
  ⟨fun q hq => h.1 q (List.mem_append_right _ hq), fun q hq => h.2.1 q (List.mem_append_right _ hq), fun q hq => h.2.2 q (List.mem_append_right _ hq)⟩
theorem sub_pt0 {T x d cs cq ca tb : Addr × Obj} {l : List (Addr × Obj)} : ∀ q ∈ x :: d :: cs :: cq :: ca :: tb :: (([] : List (Addr × Obj)) ++ l), q ∈ T :: x :: d :: cs :: cq :: ca :: tb :: l := fun _ h => .tail _ h
theorem sub_pt1 {I x d cs cq ca tb : Addr × Obj} {ex l : List (Addr × Obj)} : ∀ q ∈ x :: d :: cs :: cq :: ca :: tb :: (ex ++ I :: l), q ∈ I :: x :: d :: cs :: cq :: ca :: tb :: (ex ++ l) := by walk_at "my perm"
theorem sub_pt2 {I x d cs cq ca tb : Addr × Obj} {ex l : List (Addr × Obj)} : ∀ q ∈ x :: d :: cs :: cq :: ca :: tb :: (([] : List (Addr × Obj)) ++ I :: l), q ∈ I :: x :: d :: cs :: cq :: ca :: tb :: (ex ++ l) := by walk_at "my perm"
example : True := by
  (k_with "exec Assign" => ((k_here; (with_reducible show wpAny _ _ (exec (Stmt.Assign [Expr.Name ("is_there" : Str) _] _ _) _) _ _ _); k_dflt (refine set_stop ?_))))
  (k_with "call ref" => ((k_here; (with_reducible show wpAny _ _ (call (Value.ref 107) _) _ _ _); (with_unfolding_all refine part_c (by assumption) (by assumption) (by assumption) (dup2 (by assumption) (by k_mem) (by k_mem)) (by assumption) (by first | assumption | rfl) (by assumption) (by walk_at "my small") (by walk_at "my small") ?_ ?_); (all_goals intros))))
  (k_with "call ref" => ((k_here; refine told_stop ?_)))
  (k_with "call ref" => ((k_here; (with_reducible show wpAny _ _ (call (Value.ref 114) _) _ _ _); (with_unfolding_all refine drop_c (by assumption) (by assumption) (by assumption) (dup2 (by assumption) (by k_mem) (by k_mem)) (by assumption) (by first | assumption | rfl) (by assumption) (by assumption) (by walk_at "my small") (by walk_at "my small") ?_); (all_goals intros))))
  (k_with "my rest" => ((refine sub_news (by assumption) (fun p hp => ?_); (repeat (first | exact hp | refine List.Mem.tail _ ?_)))))
  (k_with "my rest2" => ((refine sub_news (by assumption) ?_; (simp only [List.cons_append, List.nil_append]); (repeat (refine List.forall_mem_cons.mpr ⟨?_, ?_⟩; (focus ((k_mem); done)))); (intro _ hp9; (repeat (first | exact List.mem_append_right _ hp9 | refine List.Mem.tail _ ?_))))))
  (k_with "my ex" => ((intro q hq; (repeat (first | exact List.mem_append_left _ hq | refine List.Mem.tail _ ?_)))))
  trivial
theorem parts_c {w : World} {p : Program} {loose : List Str} {mean : ExcName → Option Value} {mg mb : Str → Option Value} {dp un : Nat} {gd : Option (List Code)} {cn : Str} {cs : Scope} {a : Addr} {ccd : Value} {cl : List (Str × Addr)} {A₀ : Around} {base h₀ : Heap} {L : Addr} {m : Str → Option Value} {news : List (Addr × Obj)} {s : Shared} {Q E : Value → Shared → Prop}
    {octs : Array UInt8} {to : Tok}
    (B : Below A₀ base [] h₀) (F : Fr h₀ L s.heap m) (X : (hd.heap_1 w.params).In h₀) (N : News h₀ L s.heap ((516, tabObj #[]) :: news)) (T : Top p loose mean mg mb h₀) (XB : (hd.heap_1 w.params).In base) (TB : Top p loose mean mg mb base) (CB : CodeHd base 520 516) (hk : cs.kind = .function)
    (hsz : octs.size ≤ 20) (hne : ∀ x ∈ news, x.1 ≠ 516) (hdp : dp < 400) (hun : un < 20)
    (ret : ∀ ps h' tk', Fr h₀ L h' m → News h₀ L h' ((516, tabObj ps) :: news) → Q (.bool true) { s with heap := h', toks := tk' }) :
    wpAny (model PySem.Challenge.rw_pf0401_01.row.prog w) (ktrTop dp un gd cn cs L a ccd cl []) (call (.ref 521) [.bytes octs to]) Q E s := by
  have D : KtsDicts (frs []) h₀ := fun _ h => nomatch h
  have C : CodeHd h₀ 520 516 := CB.keeps B.stays
  refine wpAny_call ?_
  k_dflt (walk_at "turn enter cells")
  rename Obj.data _ = Data.cell _ => z3; revert z3
  rename Obj.data _ = Data.cell _ => z2; revert z2
  rename Obj.data _ = Data.cell _ => z1; revert z1
  intro (z1 : Obj.data _ = Data.cell none) (z2 : Obj.data _ = Data.cell none) (z3 : Obj.data _ = Data.cell none)
  k_steps
  rename Fr _ _ _ _ => F0
  rename News _ _ _ _ => N0
  refine range_pt (line := 335) (col := 25) (p0 := #[]) (to := to) AnyP AnyP _ rfl (by assumption) (by omega) (by omega) (by omega) (by omega) .refl F0 N0 (by assumption) (by assumption) sub_pt0 ⟨by with_unfolding_all rfl, by with_unfolding_all rfl⟩ ⟨_, _, _, _, _, _, _, rfl⟩ ⟨_, by assumption⟩ ⟨_, by assumption⟩ (.inl ⟨rfl, rfl⟩) ⟨ne_all (by assumption) (by omega), ne_all (by assumption) (by omega), hne⟩ ?_ ?_
  · intro r1 I1 k1 t1 m1 nw1 it1 s1 R1 hs1 ha1 ht1 hJ1 hat1 hR1
    clear F0 N0 ret hne
    obtain ⟨hV1, od1, os1, oa1, ps1, ex1, hQ1, ⟨vs1, ds1⟩, ⟨va1, da1⟩, hL1, hn1, rfl⟩ := hJ1
    obtain ⟨n1, n2, n3⟩ := id hn1
    obtain ⟨g1, T1, F1, N1, B1, D1⟩ := hat1
    have X1 := XB.keeps B1.stays
    have P1 := TB.keeps B1.stays
    have C1 := CB.keeps B1.stays
    rw [m_two hV1.1 hV1.2] at F1
    k_steps
    rename Fr _ _ _ _ => F02
    rename News _ _ _ _ => N02
    rename Obj.data _ = Data.cell (some (Value.int k1 t1)) => da
    refine range_pt (line := 335) (col := 25) (p0 := #[]) AnyP (IsP (.int k1 t1)) _ rfl (by assumption) (by omega) (by omega) (by omega) (by omega) T1 F02 N02 B1 D1 sub_pt1 ⟨by with_unfolding_all rfl, by with_unfolding_all rfl⟩ hQ1 ⟨_, ds1⟩ da (lam_in hL1) (hn1.one hs1 ha1 ht1) ?_ ?_
    · intro r2 I2 k2 t2 m2 nw2 it2 s2 R2 hs2 ha2 ht2 hJ2 hat2 hR2
      clear F02 N02 hR1 hn1 hL1 n1 n2 n3 hV1 ds1 da da1 hQ1
      obtain ⟨hV2, od2, os2, oa2, ps2, ex2, hQ2, ⟨vs2, ds2⟩, da2, hL2, hn2, rfl⟩ := hJ2
      obtain ⟨n1, n2, n3⟩ := id hn2
      obtain ⟨g2, T2, F2, N2, B2, D2⟩ := hat2
      have X2 := XB.keeps B2.stays
      have P2 := TB.keeps B2.stays
      have C2 := CB.keeps B2.stays
      rw [m_two hV2.1 hV2.2] at F2
      k_steps
      rename Obj.data _ = Data.cell (some (Value.int k2 t2)) => d9
      refine set_one (0 ≤ k1 ∧ 0 ≤ k2 ∧ k1 + k2 ≤ octs.size) ?_ ?_
      · intro Q' hT hF
        clear hL2 hn2 n1 n2 n3 hR2
        k_steps
        all_goals exact two_dec hT hF (by omega) (by omega)
      · intro bl hbl tk9
        k_steps
        unfold LamAt
        with_unfolding_all refine lam_any (by assumption) (by assumption) P2 C2 rfl (by k_updF) hL2 (by walk_at "my ex") (by
          rintro d ((hd | ⟨q, hq, rfl⟩) | rfl)
          · rcases hd with rfl | rfl | rfl <;> exact ⟨_, by k_mem⟩
          · refine ⟨q.2, ?_⟩
            repeat (first | exact List.mem_append_right _ hq | refine List.Mem.tail _ ?_)
          · exact ⟨_, by k_mem⟩) True.intro rfl rfl rfl ?_
        intro f9 c9 oc9 vs9 tq9 ct9 h9 tk8 F9 N9 d19 d29 av9 l19 l29
        dsimp only at N9
        k_steps
        with_unfolding_all refine told_k (fun v => (0 ≤ k1 ∧ 0 ≤ k2 ∧ k1 + k2 ≤ octs.size) ∧ ∃ t, v = .bytes (KBy.picked octs (some k1) (some (k1 + k2))) t) (¬ (0 ≤ k1 ∧ 0 ≤ k2 ∧ k1 + k2 ≤ octs.size)) False B2 F9 N9 XB TB D2 rfl (by k_mem) (by walk_at "my small") (by walk_at "my small") ?_ ?_ ?_ (fun h => h.elim)
        · clear hL2 hn2 n1 n2 n3 hR2 av9 F9 N9
          obtain ⟨_, _, _, _, _, _, _, rfl⟩ := id hQ2
          intro dp1 un1 gd1 cn1 cs1 a1 ccd1 cl1 outer1 A1 g1' L1 m1' s1 Q1 E1 B1' F1' X1' N1' T1' hkf hd1 hu1 hl1 kv ks kf
          dsimp only [ktrTop, Around.deeper] at hd1 hu1
          replace hd1 : dp1 < 403 := q_le5 hd1 hdp rfl
          replace hu1 : un1 < 43 := q_le5 hu1 hun rfl
          refine wpAny_call ?_
          k_dflt (walk_at "lam enter")
          k_steps
          · exact kv _ _ _ _ ⟨⟨⟨by assumption, by assumption, by assumption⟩, _, rfl⟩, rfl⟩ (by assumption) (by walk_at "my rest")
          · refine ks _ _ _ _ _ ⟨by assumption, rfl⟩ ?fa (raised_sub (by assumption) (fun p hp => ?_)) (by assumption)
            · assumption
            · (repeat (first | exact hp | refine List.Mem.tail _ ?_))
        · rintro v ⟨hc, t, rfl⟩ r h' tk' h₀' l T F N B D X P
          obtain rfl : bl = true := hbl.mpr hc
          (try walk_at "my fold")
          k_steps
          exact pt_end hR2 T2 T (by assumption) B D ⟨rfl, rfl⟩ hQ2 ⟨_, d9⟩ da2 d19 d29 av9 hn2 (by walk_at "my rest2")
        · intro hc h' tk' h₀' t T F N B D X P
          obtain rfl : bl = false := by
            cases bl with
            | false => rfl
            | true => exact absurd (hbl.mp rfl) hc
          (try walk_at "my fold")
          k_steps
          exact pt_end hR2 T2 T (by assumption) B D ⟨rfl, rfl⟩ hQ2 ⟨_, d9⟩ da2 d19 d29 av9 hn2 (by walk_at "my rest2")
    · intro I3 m3 nw3 h3 tk3 hJ3 hat3
      k_steps
      exact pt_up hR1 hJ3 hat3 (fun o h => ⟨_, h⟩)
  · intro I4 m4 nw4 h4 tk4 hJ4 hat4
    clear F0 N0
    obtain ⟨hV4, od4, os4, oa4, ps4, ex4, hQ4, ⟨vs4, ds4⟩, ⟨va4, da4⟩, hL4, hn4, rfl⟩ := hJ4
    obtain ⟨n1, n2, n3⟩ := id hn4
    obtain ⟨g4, T4, F4, N4, B4, D4⟩ := hat4
    have X4 := XB.keeps B4.stays
    have P4 := TB.keeps B4.stays
    have C4 := CB.keeps B4.stays
    have hp : TriplesOk ps4.toList ∧ ∀ pos : Pos, pos.line = 338 → codeAmong pos ps4.toList = none := by
      rcases hL4 with ⟨rfl, _⟩ | ⟨c', oc, vs, t, rfl, _⟩
      · exact ⟨True.intro, fun _ _ => rfl⟩
      · exact ⟨True.intro, fun pos h => by simp [codeAmong, rawInt, h]⟩
    rw [m_two hV4.1 hV4.2] at F4
    k_steps
    rename Fr _ _ _ _ => F04
    rename News _ _ _ _ => N04
    refine list_pt (line := 338) (col := 21) (p0 := ps4) (ex := []) AnyP AnyP _ rfl T4 F04 N04 B4 D4 (.head _) (by repeat constructor) sub_pt2 ⟨by with_unfolding_all rfl, by with_unfolding_all rfl⟩ hQ4 ⟨_, ds4⟩ ⟨_, da4⟩ (.inl ⟨rfl, rfl⟩) (hn4.off.one (ltN (by omega)) (ltN (by omega)) (ltN (by omega))) ?_ ?_
    · intro r5 I5 k5 t5 m5 nw5 it5 s5 R5 hk5 hs5 ha5 ht5 hJ5 hat5 hR5
      clear F04 N04 ret hne hn4 hL4 n1 n2 n3 hV4 ds4 da4 hQ4
      obtain ⟨hV5, od5, os5, oa5, ps5, ex5, hQ5, ⟨vs5, ds5⟩, ⟨va5, da5⟩, hL5, hn5, rfl⟩ := hJ5
      obtain ⟨n1, n2, n3⟩ := id hn5
      obtain ⟨g5, T5, F5, N5, B5, D5⟩ := hat5
      have X5 := XB.keeps B5.stays
      have P5 := TB.keeps B5.stays
      have C5 := CB.keeps B5.stays
      have hk5' : k5 < 0 ∨ (octs.size : Int) < k5 := by
        simp only [List.mem_cons, List.not_mem_nil, or_false] at hk5
        omega
      rw [m_two hV5.1 hV5.2] at F5
      k_steps
      rename Obj.data _ = Data.cell (some (Value.int k5 t5)) => d9
      unfold LamAt
      with_unfolding_all refine lam_any (by assumption) (by assumption) P5 C5 rfl (by k_updF) hL5 (by walk_at "my ex") (by
          rintro d ((hd | ⟨q, hq, rfl⟩) | rfl)
          · rcases hd with rfl | rfl | rfl <;> exact ⟨_, by k_mem⟩
          · refine ⟨q.2, ?_⟩
            repeat (first | exact List.mem_append_right _ hq | refine List.Mem.tail _ ?_)
          · exact ⟨_, by k_mem⟩) hp.1 (hp.2 _ rfl) rfl rfl ?_
      intro f9 c9 oc9 vs9 tq9 ct9 h9 tk8 F9 N9 d19 d29 av9 l19 l29
      dsimp only at N9
      k_steps
      with_unfolding_all refine told_k (fun _ => False) True False B5 F9 N9 XB TB D5 rfl (by k_mem) (by walk_at "my small") (by walk_at "my small") ?_ (fun _ h => h.elim) ?_ (fun h => h.elim)
      · clear hL5 hn5 n1 n2 n3 hR5 av9 F9 N9
        obtain ⟨_, _, _, _, _, _, _, rfl⟩ := id hQ5
        intro dp1 un1 gd1 cn1 cs1 a1 ccd1 cl1 outer1 A1 g1' L1 m1' s1 Q1 E1 B1' F1' X1' N1' T1' hkf hd1 hu1 hl1 kv ks kf
        dsimp only [ktrTop, Around.deeper] at hd1 hu1
        replace hd1 : dp1 < 403 := q_le5 hd1 hdp rfl
        replace hu1 : un1 < 43 := q_le5 hu1 hun rfl
        refine wpAny_call ?_
        k_dflt (walk_at "lam enter")
        k_steps
        refine ks _ _ _ _ _ ⟨trivial, rfl⟩ ?fb (raised_sub (by assumption) (fun p hp => ?_)) (by assumption)
        · assumption
        · (repeat (first | exact hp | refine List.Mem.tail _ ?_))
      · intro _ h' tk' h₀' t T F N B D X P
        k_steps
        exact pt_end hR5 T5 T (by assumption) B D ⟨rfl, rfl⟩ hQ5 ⟨_, d9⟩ ⟨_, da5⟩ d19 d29 av9 hn5 (by walk_at "my rest2")
    · intro I6 m6 nw6 h6 tk6 hJ6 hat6
      clear F04 N04 hn4 hL4 n1 n2 n3 hV4 ds4 da4 hQ4
      obtain ⟨hV6, od6, os6, oa6, ps6, ex6, hQ6, ⟨vs6, ds6⟩, ⟨va6, da6⟩, hL6, hn6, rfl⟩ := hJ6
      obtain ⟨g6, T6, F6, N6, B6, D6⟩ := hat6
      have X6 := XB.keeps B6.stays
      have P6 := TB.keeps B6.stays
      have C6 := CB.keeps B6.stays
      rw [m_two hV6.1 hV6.2] at F6
      obtain ⟨_, _, _, _, _, _, _, rfl⟩ := id hQ6
      k_steps
      all_goals first
        | (exfalso; omega)
        | ((try rw [picked_all octs _ (by omega)]); rw [beq_self_eq_true]; (rename KtsTurn _ _ _ => kT); (rename Below _ _ _ _ => kB); (rename News _ L _ _ => kN); (rename Fr _ L _ _ => kF); obtain ⟨kF1, kN1⟩ := unturn kT kF kN; exact ret _ _ _ kF1 (sub_news kN1 (List.forall_mem_cons.mpr ⟨by k_mem, fun p hp => by simp [hp]⟩)))
end
example : True := by
  w_top off
  k_with_none
  trivial
example : True := by
  (k_with "my mem" => with_reducible (k_extra "my mem1"))
  (k_with "my mem1" => (first | exact List.Mem.head _ | (refine' List.Mem.tail _ ?_; k_extra "my mem1")))
  (k_with "my k_lt" => ((rename (∀ p : Addr × Obj, p ∈ _ → p.1 < _) => l1q); (replace l1q := allLt_of l1q); (simp only [AllLt, and_true] at l1q); (first | ((with_reducible refine spa15 l1q ?_); intro f0q f1q f2q f3q f4q f5q f6q f7q f8q f9q f10q f11q f12q f13q f14q) | ((with_reducible refine spa14 l1q ?_); intro f0q f1q f2q f3q f4q f5q f6q f7q f8q f9q f10q f11q f12q f13q) | ((with_reducible refine spa13 l1q ?_); intro f0q f1q f2q f3q f4q f5q f6q f7q f8q f9q f10q f11q f12q) | ((with_reducible refine spa12 l1q ?_); intro f0q f1q f2q f3q f4q f5q f6q f7q f8q f9q f10q f11q) | ((with_reducible refine spa11 l1q ?_); intro f0q f1q f2q f3q f4q f5q f6q f7q f8q f9q f10q) | ((with_reducible refine spa10 l1q ?_); intro f0q f1q f2q f3q f4q f5q f6q f7q f8q f9q) | ((with_reducible refine spa9 l1q ?_); intro f0q f1q f2q f3q f4q f5q f6q f7q f8q) | ((with_reducible refine spa8 l1q ?_); intro f0q f1q f2q f3q f4q f5q f6q f7q) | ((with_reducible refine spa7 l1q ?_); intro f0q f1q f2q f3q f4q f5q f6q) | ((with_reducible refine spa6 l1q ?_); intro f0q f1q f2q f3q f4q f5q) | ((with_reducible refine spa5 l1q ?_); intro f0q f1q f2q f3q f4q) | ((with_reducible refine spa4 l1q ?_); intro f0q f1q f2q f3q) | ((with_reducible refine spa3 l1q ?_); intro f0q f1q f2q) | ((with_reducible refine spa2 l1q ?_); intro f0q f1q) | ((with_reducible refine spa1 l1q ?_); intro f0q) | ((with_reducible refine spb12 l1q ?_); intro f0q f1q f2q f3q f4q f5q f6q f7q f8q f9q f10q f11q) | ((with_reducible refine spb11 l1q ?_); intro f0q f1q f2q f3q f4q f5q f6q f7q f8q f9q f10q) | ((with_reducible refine spb10 l1q ?_); intro f0q f1q f2q f3q f4q f5q f6q f7q f8q f9q) | ((with_reducible refine spb9 l1q ?_); intro f0q f1q f2q f3q f4q f5q f6q f7q f8q) | ((with_reducible refine spb8 l1q ?_); intro f0q f1q f2q f3q f4q f5q f6q f7q) | ((with_reducible refine spb7 l1q ?_); intro f0q f1q f2q f3q f4q f5q f6q) | ((with_reducible refine spb6 l1q ?_); intro f0q f1q f2q f3q f4q f5q) | ((with_reducible refine spb5 l1q ?_); intro f0q f1q f2q f3q f4q) | ((with_reducible refine spb4 l1q ?_); intro f0q f1q f2q f3q) | ((with_reducible refine spb3 l1q ?_); intro f0q f1q f2q) | ((with_reducible refine spb2 l1q ?_); intro f0q f1q) | skip); revert l1q))
  (k_with "my cj" => (first | with_reducible assumption | exact And.left (by with_reducible assumption) | exact And.left (And.right (by with_reducible assumption)) | exact And.left (And.right (And.right (by with_reducible assumption))) | exact And.left (And.right (And.right (And.right (by with_reducible assumption)))) | exact And.right (by with_reducible assumption) | exact And.right (And.right (by with_reducible assumption)) | exact And.right (And.right (And.right (by with_reducible assumption)))))
  (k_with "my lt" => (first | with_reducible assumption | exact Nat.lt_add_one _ | exact lt_r _ (by first | with_reducible assumption | exact Nat.lt_add_one _) | exact lt_r _ (lt_r _ (by first | with_reducible assumption | exact Nat.lt_add_one _)) | exact lt_r _ (lt_r _ (lt_r _ (by first | with_reducible assumption | exact Nat.lt_add_one _))) | exact lt_r _ (lt_r _ (lt_r _ (lt_r _ (by first | with_reducible assumption | exact Nat.lt_add_one _)))) | exact lt_r _ (lt_r _ (lt_r _ (lt_r _ (lt_r _ (by first | with_reducible assumption | exact Nat.lt_add_one _))))) | exact lt_r _ (lt_r _ (lt_r _ (lt_r _ (lt_r _ (lt_r _ (by first | with_reducible assumption | exact Nat.lt_add_one _))))))))
  (k_with "my ne" => (first | with_reducible assumption | exact Ne.symm (by with_reducible assumption) | (refine neN ?_; (try dsimp only); first | exact Nat.ne_of_gt (by k_extra "my lt") | exact Nat.ne_of_lt (by k_extra "my lt") | k_extra "my cj" | exact Ne.symm (by k_extra "my cj"))))
  (k_with "my om" => k_dflt (first | with_reducible assumption | ((with_reducible show @LT.lt Nat _ _ _); (first | exact q_lt0 (by with_reducible assumption) (by rfl) | exact q_lt1 (by with_reducible assumption) (by rfl) | exact q_lt2 (by with_reducible assumption) (by rfl) | exact q_lt3 (by with_reducible assumption) (by rfl) | exact q_le4 (by with_reducible assumption) (by rfl) | exact q_eq1 (by with_reducible assumption) (by rfl) | k_extra "my lt" | k_extra "my cj" | decide)) | ((with_reducible show @LE.le Nat _ _ _); (first | exact q_le0 (by with_reducible assumption) (by rfl) | exact q_le1 (by with_reducible assumption) (by rfl) | exact q_le2 (by with_reducible assumption) (by rfl) | exact q_le3 (by with_reducible assumption) (by rfl) | exact q_eq0 (by with_reducible assumption) (by rfl) | k_extra "my cj" | decide)) | ((with_reducible show @LT.lt Int _ _ _); (first | exact q_il0 (by with_reducible assumption) (by rfl) | exact q_il1 (by with_reducible assumption) (by rfl) | exact q_il3 (by with_reducible assumption) (by rfl) | k_extra "my cj" | decide)) | ((with_reducible show @LE.le Int _ _ _); (first | exact q_il2 (by with_reducible assumption) (by rfl) | k_extra "my cj" | decide)) | ((with_reducible show @Ne Nat _ _); k_extra "my ne") | decide))
  trivial
example : True := by
  (k_with "my in" => (repeat (first | exact List.Mem.head _ | refine List.Mem.tail _ ?_ | refine List.mem_append_right _ ?_)))
  (k_with "my at" => (repeat (first | assumption | exact List.mem_append_left _ (by assumption) | refine List.Mem.tail _ ?_ | refine List.mem_append_right _ ?_)))
  (k_with "my perm" => ((try simp only [List.cons_append, List.nil_append, List.append_assoc]); (repeat (refine List.forall_mem_cons.mpr ⟨?_, ?_⟩; (focus ((walk_at "my in"); done)))); first | exact List.forall_mem_nil _ | (intro q9 hq9; (try (have hq8 := List.mem_append.mp hq9; clear hq9; rcases hq8 with hq9 | hq9)); (all_goals (try (have hq7 := List.mem_cons.mp hq9; clear hq9; rcases hq7 with hq7 | hq9))); (all_goals (try (have hq7 := List.mem_cons.mp hq9; clear hq9; rcases hq7 with hq7 | hq9))); all_goals first | (subst hq7; walk_at "my in"; done) | (repeat (first | exact hq9 | exact List.mem_append_left _ hq9 | refine List.Mem.tail _ ?_ | refine List.mem_append_right _ ?_)))))
  (k_with "my bnd" => (first | omega | exact Int.lt_of_lt_of_le (by decide) (fmod_lo _ (by decide)) | exact Int.lt_trans (fmod_hi _ (by decide)) (by decide)))
  (k_with "binaryOp Mult int int" => (((with_reducible show wpAny _ _ (binaryOp Operator.Mult (Value.int _ _) (Value.int _ _)) _ _ _); refine mul_int ?_ (IntMulOk.of_left (intBits_le_64 ?mlo ?mhi)); (case mlo => walk_at "my bnd"); (case mhi => walk_at "my bnd"))))
  (k_with "binaryOp FloorDiv int int" => (((with_reducible show wpAny _ _ (binaryOp Operator.FloorDiv (Value.int _ _) (Value.int _ _)) _ _ _); refine floordiv_int ?fne ?_ (Or.inl (PyProof.noPylong_of_log2 (log2_small ?flo ?fhi))); (case fne => omega); (case flo => omega); (case fhi => omega))))
  (k_with "execs cons" => ((k_here; refine fold_stmt ?_; intro qk sk)))
  trivial
example : True := by
  (k_with "eval Name" => ((k_here; k_dflt (first
    | (refine' name_l ?F ?e ?v ?a ?b ?d ?_; (case F => k_asm); (case e => rfl); (case b => rfl); (case v => rfl); (case a => rfl); (case d => decide); k_whole)
    | (refine' nameX_K ?F ?X ?T ?e ?_ ?a ?b; (case F => k_asm); (case b => rfl); (case X => k_asm); (case T => k_asm); (case a => rfl); (case e => k_is); k_whole)
    | (refine' nameX_B ?F ?X ?T ?e ?v ?n ?_ ?a ?b; (case F => k_asm); (case b => rfl); (case X => k_asm); (case T => k_asm); (case a => rfl); (case e => k_is); (case v => boot_fast); (case n => decide); k_whole)))))
  (k_with "storeName" => ((k_here; k_dflt (refine' store_l ?F ?N ?e ?a ?b ?_; (case F => k_asm); (case N => k_asm); (case e => rfl); (case a => rfl); (case b => rfl); k_whole; intro h' mk F' N'; (try k_sweep)))))
  trivial
example : True := by
  (k_with "my steps" => (repeat' (first | ((try k_unmd); k_unfold; (try dsimp only)) | (k_end; wrow_close) | walk1 | (dsimp only; walk1) | (leave1; walk_say "STEP leave1"; try dsimp only) | fail "no step")))
  (k_with "my fold0" => ((refine fold_entry ?_; intro Ak envk qk ek sk; (rename Fr _ _ _ _ => kF); (refine fr_let kF ?_); clear kF; intro mk kF)))
  (k_with "my units" => ((have hcL9 := cLine_is; (simp (config := { zetaDelta := true }) only [units_in1, units_deeper, Around.mark_units, units_caller, ktrTop]); omega)))
  (k_with "my room" => (((simp (config := { zetaDelta := true }) only [depth_under_make, depth_under_kw, depth_in1, depth_deeper, depth_caller, ktrTop, recursionLimit]); omega)))
  (k_with "callWith ref" => (k_here; k_dflt (first
    | (refine' callWith_K ?k1 ?k2 ?_; (case k1 => with_reducible assumption); (case k2 => k_is); k_whole)
    | (refine' callw_0 ?k0 ?k1 ?k2 ?_; (case k0 => with_reducible assumption); (case k1 => with_reducible assumption); (case k2 => k_is); k_whole)
    | (refine' callw_m0 ?k0 ?kN ?k1 ?kq ?k2 ?_; (case k0 => with_reducible assumption); (case kN => with_reducible assumption); (case k1 => with_reducible assumption); (case kq => k_mem); (case k2 => k_is); k_whole; try dsimp only [List.nil_append, List.cons_append])
    | (refine' callWith_M ?k1 ?k2 ?k3 ?k4 ?_; (case k1 => with_reducible assumption); (case k2 => with_reducible assumption); (case k3 => k_mem); (case k4 => k_is); k_whole)
    | (refine' callWith_KW ?k1 ?k2 ?k3 ?_; (case k1 => with_reducible assumption); (case k2 => k_is); (case k3 => exact rfl); k_whole)
    | (refine' callWith_KW0 ?k1 ?k2 ?k3 ?_; (case k1 => with_reducible assumption); (case k2 => k_is); (case k3 => exact rfl); k_whole))))
  (k_with "compareOp IsNot ref ref" => (k_here; first | (with_reducible refine isnot_ref_same ?_) | refine wpAny_isNot_ref_self ?_))
  (k_with "my stop" => ((rename Mark => mk9); clear mk9; refine stop_at ?_))
  (k_with "subscriptTail" => (k_extra "my stop"))
  (k_with "getMethod ref" => (k_extra "my stop"))
  trivial
example : True := by
  (k_with "my small" => (first | omega | ((try simp (config := { zetaDelta := true }) only [depth_under_make, depth_under_kw, depth_in1, depth_deeper, depth_caller, units_in1, units_deeper, Around.mark_units, units_caller]); (try simp (config := { zetaDelta := true }) only [ktrTop]); first | omega | decide)))
  (k_with "exec Raise some none" => ((k_here; (with_reducible show wpAny _ _ (exec (Stmt.Raise (some (Expr.Call (Expr.Name ("FormError" : Str) _) _ _ _)) none _) _) _ _ _); k_dflt (refine raise_form (by assumption) (by first | assumption | with_unfolding_all rfl) ?_))))
  (k_with "exec Raise some none" => ((k_here; (with_reducible show wpAny _ _ (exec (Stmt.Raise (some (Expr.Call (Expr.Name ("SizeError" : Str) _) _ _ _)) none _) _) _ _ _); k_dflt (refine raise_size (by assumption) (by first | assumption | with_unfolding_all rfl) ?_))))
  (k_with "call ref" => ((k_here; first
  | ((with_reducible show wpAny _ _ (call (Value.ref 51) [Value.str _ _]) _ _ _); (refine' make_form ?kF ?kX ?kN ?kh ?kf ?kd ?ku ?_); (case kF => assumption); (case kX => assumption); (case kN => assumption); (case kh => with_unfolding_all exact rfl); (case kf => with_unfolding_all exact rfl); (case kd => walk_at "my small"); (case ku => walk_at "my small"); k_whole; intro e' o' h' tk' hx' F' N' ne')
  | ((with_reducible show wpAny _ _ (call (Value.ref 63) [Value.str _ _]) _ _ _); (refine' make_size ?kF ?kX ?kN ?kh ?kf ?kd ?ku ?_); (case kF => assumption); (case kX => assumption); (case kN => assumption); (case kh => with_unfolding_all exact rfl); (case kf => with_unfolding_all exact rfl); (case kd => walk_at "my small"); (case ku => walk_at "my small"); k_whole; intro e' o' h' tk' hx' F' N' ne'))))
  (k_with "OwnUp ref" => ((refine ⟨_, _, rfl, by assumption, Frag.In.keeps (by assumption) (Fr.keep (by assumption)), (News.get (by assumption) (.head _)), ?_⟩)))
  (k_with "leaving ref" => ((k_here; first
  | ((refine' leave_led ?kB ?kf ?kk ?kF ?kN ?kx ?kn ?_); (case kx => assumption); (case kF => assumption); (case kN => assumption); (case kB => assumption); (case kf => with_unfolding_all exact rfl); (case kk => first | assumption | with_unfolding_all exact rfl); (case kn => assumption); k_whole; intro h' R' U'; (try dsimp only at R' U' ⊢))
  | ((refine' leave_up ?kB ?kf ?kF ?kR ?kU ?_); (case kR => assumption); (case kF => assumption); (case kB => assumption); (case kf => with_unfolding_all exact rfl); (case kU => assumption); k_whole; intro h' R' U'; (try dsimp only at R' U' ⊢)))))
  (k_with "turn enter" => ((refine' code_T ?k1 ?k2 ?k3 ?k4 ?k5 ?kD ?kA ?kF ?kK ?k6 ?k7 ?k8 ?k9 ?kB ?_ ?c2 ?c3 ?c4 ?c5; (case kA => exact rfl); (case kF => exact rfl); (case kK => assumption); (case k1 => k_asm); (case k2 => k_asm); (case k3 => k_asm); (case k4 => k_asm); (case k5 => k_asm); (case kD => assumption); (case k6 => k_is); (case k7 => k_is); (case k8 => ktr_room); (case k9 => exact BindsTo.of_eq rfl); (case c5 => decide); (case kB => exact locs rfl); (case c2 => exact rfl); (case c3 => exact rfl); (case c4 => exact rfl); k_whole; intro g' L' h' FG' F' N' B' X' T' D' l1; (try dsimp only); (try k_lift B'); (try k_fold))))
  (k_with "my size" => ((rw [KBw.ints_length]; first | omega | (simp only [Array.size_append]; omega))))
  (k_with "subscriptTail" => ((k_here; (with_reducible show wpAny _ _ (subscriptTail _ (Expr.Slice _ _ none _) (Value.bytes _ _) (Value.ref _)) _ _ _); (with_reducible rename Fr _ _ _ _ => F'); (with_reducible rename News _ _ _ _ => N'); (refine KBc.slice_K (s := ⟨_, _, _, _, _⟩) F' N' rfl (by constructor) (by constructor) (by walk_at "my size") ?_); intro _ _ _ _ _ _)))
  (k_with "turn enter cells" => ((refine' code_TC ?k1 ?k2 ?k3 ?k4 ?k5 ?kG ?kA ?kF ?kK ?k6 ?k7 ?k8 ?k9 ?kB ?kD ?_ ?c2 ?c3 ?c4; (case kA => exact rfl); (case kF => exact rfl); (case kK => assumption); (case k1 => k_asm); (case k2 => k_asm); (case k3 => k_asm); (case k4 => k_asm); (case k5 => k_asm); (case kG => assumption); (case k6 => k_is); (case k7 => k_is); (case k8 => ktr_room); (case k9 => exact BindsTo.of_eq rfl); (case kB => exact rfl); (case kD => decide +kernel); (case c2 => exact rfl); (case c3 => exact rfl); (case c4 => exact rfl); k_whole; intro g' L' h' tk' cells' FG' F' N' Y' B' X' T' D' l1; (try k_lt l1); (have l9 := l1); (repeat (replace l9 := And.right l9)); k_cells Y'; (try simp only [List.cons_append, List.nil_append] at N'); (first | (refine fr_one F' (by rfl) ?_; clear F'; intro F') | (refine fr_cell F' (by rfl) ?_; clear F'; intro F')); (try dsimp only); (try k_lift B'); (try k_fold))))
  (k_with "LeaveT" => ((k_dflt (refine' leaveT ?F ?N ?T ?_; (case F => k_asm); (case N => k_asm); (case T => first | assumption | exact KtsTurn.refl); k_whole); intro kg kT kF kN kB kD; (try dsimp only))))
  trivial
example : True := by
  (k_with "my all" => (first | exact ne_all (by assumption) (Nat.le_refl _) | exact ne_all (by assumption) (Nat.le_of_lt (by assumption)) | exact ne_all (by assumption) (by omega)))
  trivial
example : True := by
  (k_with "call type:bytes" => ((k_here; (with_reducible show wpAny _ _ (call (Value.type "bytes") [Value.bytes _ _]) _ _ _); refine MB.call_b ?_)))
  (k_with "call type:bytes" => ((k_here; (with_reducible show wpAny _ _ (call (Value.type "bytes") [Value.int _ _]) _ _ _); (refine MB.call_i ?bi0 ?bi1 ?_); (case bi0 => omega); (case bi1 => omega); intro _ _)))
  (k_with "lam enter" => ((refine' kla_code ?k1 ?k2 ?k3 ?k4 ?k5 ?kA ?kF ?kK ?k6 ?k7 ?k8 ?k9 ?kB ?_ ?c2 ?c3 ?c4 ?c5; (case kA => exact rfl); (case kF => exact rfl); (case kK => assumption); (case k1 => k_asm); (case k2 => k_asm); (case k3 => k_asm); (case k4 => k_asm); (case k5 => k_asm); (case k6 => k_mem); (case k7 => exact codeRec_news (by k_asm) (by k_mem) (by assumption) (by assumption)); (case k8 => ktr_room); (case k9 => exact rfl); (case c5 => decide); (case kB => exact locs rfl); (case c2 => exact rfl); (case c3 => exact rfl); (case c4 => exact rfl); k_whole; intro g' L' h' FG' F' N' B' X' T'; (try dsimp only); (try k_lift B'); (try k_fold))))
  (k_with "my sub" => ((refine sub_news (by assumption) ?_; (repeat (refine List.forall_mem_cons.mpr ⟨?_, ?_⟩; (focus ((k_mem); done)))); first | exact List.forall_mem_nil _ | (intro _ hp9; (repeat (first | exact hp9 | refine List.Mem.tail _ ?_))))))
  (k_with "same item" => (first | exact MQ.at_bytes _ _ _ | exact MQ.at_int _ _ _))
  (k_with "compareOp NotEq ref ref" => ((k_here; k_dflt (refine MQ.ne_list1 (News.isList (by assumption) (by k_mem)) (News.isList (by assumption) (by k_mem)) (by ktr_units) (by walk_at "same item") ?_))))
  trivial
example : True := by
  (k_with "call ref" => ((k_here; (with_reducible show wpAny _ _ (call (Value.ref 500) [Value.ref _, Value.int _ _]) _ _ _); (with_unfolding_all refine take_U (by assumption) (by assumption) (by assumption) (by assumption) (by k_updF) (by assumption) (by first | assumption | exact rfl) (by walk_at "my small") (by walk_at "my small") (by walk_at "my bnd") (by walk_at "my bnd") (by first | assumption | omega) ?_); intro d' x' y' td' tx' ty' h' tk' F' N' hd1' hd2' hx'; (try dsimp only at N'); (try k_sweep))))
  (k_with "my item" => ((refine item_at (by assumption) (by k_mem) (by assumption) (by assumption) (by assumption) ?_; intro _ hv')))
  (k_with "exec For Name Call cons nil" => ((k_here; k_dflt (refine For_from ?_))))
  (k_with "exec For Name List cons nil" => ((k_here; k_dflt (refine For_from ?_))))
  (k_with "binaryOp Add" => ((k_here; (with_reducible show wpAny _ _ (binaryOp Operator.Add (Value.ref _) (Value.ref _)) _ _ _); k_dflt (refine' menu_K ?mF ?mN ?ml ?mP ?mi ?mc ?mz ?_; (case mF => assumption); (case mN => assumption); (case ml => k_mem); (case mP => assumption); (case mi => repeat constructor); (case mc => assumption); (case mz => decide)); intro h' d' items' F' N' l1 hI'; (try k_lt l1))))
  (k_with "call builtin:list.append" => ((k_here; (with_reducible show wpAny _ _ (call (Value.builtin _) [Value.ref _, _]) _ _ _); k_dflt (refine' append_K ?k1 ?k2 ?k3 ?_ ?z; (case k1 => k_asm); (case k2 => k_asm); (case k3 => k_upd); (case z => rw [sizeLine_eq]; omega); k_whole); intro h' F' N'; (try k_sweep))))
  trivial
example : True := by
  (k_with "my ne2" => (first | k_extra "my ne" | (k_dflt (refine ne_cls (by assumption) (by k_mem) (by k_mem) rfl rfl (by decide))) | (refine neN ?_; (try dsimp only); omega (config := {}))))
  trivial
example : True := by
  (k_with "newTuple" => ((k_here; k_dflt (refine' kup_newTuple ?F ?N ?_ ?z; (case F => k_asm); (case N => k_asm); (case z => kmk_size)); intro D' h' F' N' l1; (try k_lt l1); (try k_sweep))))
  (k_with "exec For Tuple Name cons nil" => ((k_here; k_dflt (refine For_from ?_))))
  (k_with "my tup" => (exact tup_at (by assumption) (by k_mem)))
  (k_with "compareOp NotEq ref ref" => ((k_here; k_dflt (refine MQ.ne_tuple2 (by walk_at "my tup") (by walk_at "my tup") (by ktr_units) (by walk_at "same item") (by walk_at "same item") ?_))))
  (k_with "compareOp Eq ref ref" => ((k_here; k_dflt (refine eq_tuple2 (by walk_at "my tup") (by walk_at "my tup") (by ktr_units) (by walk_at "same item") (by walk_at "same item") ?_))))
  trivial
example : True := by
  (k_with "binaryOp RShift int int" => (first | refine shr8 ?_ | refine shr16 ?_))
  (k_with "binaryOp BitAnd int int" => (first | refine and8 ?_ | refine and16 ?_ | (refine and_any (by decide) ?_; intro r' hr0' hr1')))
  (k_with "binaryOp LShift int int" => (first | refine shl8 (by walk_at "my bnd") (by walk_at "my bnd") ?_ | refine shl16 (by walk_at "my bnd") (by walk_at "my bnd") ?_))
  (k_with "binaryOp BitOr int int" => (first | refine or8 (by walk_at "my bnd") (by walk_at "my bnd") (by walk_at "my bnd") ?_ | refine or16 (by walk_at "my bnd") (by walk_at "my bnd") (by walk_at "my bnd") ?_))
  (k_with "my idx" => (((try simp only [List.length_append, List.length_cons, List.length_nil, List.length_take, List.length_drop, List.length_map]); omega)))
  (k_with "my enter" => ((refine' code_def ?k1 ?k2 ?k3 ?k4 ?k5 ?kA ?kF ?kK ?k6 ?k7 ?k8 ?k9 ?kB ?_ ?c2 ?c3 ?c4 ?c5; (case kA => exact rfl); (case kF => exact rfl); (case kK => assumption); (case k1 => k_asm); (case k2 => k_asm); (case k3 => k_asm); (case k4 => k_asm); (case k5 => k_asm); (case k6 => k_is); (case k7 => k_is); (case k8 => ktr_room); (case k9 => first | exact BindsTo.of_eq rfl | exact binds_K (by k_in) rfl (by k_is) rfl rfl rfl); (case c5 => decide); (case kB => exact locs rfl); (case c2 => exact rfl); (case c3 => exact rfl); (case c4 => exact rfl); k_whole; intro g' L' h' FG' F' N' B' X' T'; (try dsimp only); (try k_lift B'); (try k_fold))))
  (k_with "call ref" => ((k_here; (with_reducible show wpAny _ _ (call (Value.ref 316) _) _ _ _); k_dflt (refine' ip_made ?B ?F ?X ?N ?T ?k ?d ?u ?b ?_; (case B => k_asm); (case F => k_asm); (case X => k_asm); (case N => k_asm); (case T => k_asm); (case k => first | assumption | exact rfl); (case d => walk_at "my small"); (case u => walk_at "my small"); (case b => (refine' binds_of ?h0 ?hb; (case h0 => k_is); (case hb => (intro s9 x9 X9; first | exact BindsTo.of_eq rfl | exact binds_K (by k_in) rfl (by k_is) rfl rfl rfl)))); k_whole); intro x' d' h' tk' e1' e2' e3' e4' e5' e6' e7' e8' e9' e10' t1' t2' t3' t4' t5' t6' t7' t8' t9' t10' F' N' l1 l2; (try k_lt l1); (try k_sweep))))
  (k_with "call ref" => ((k_here; (with_reducible show wpAny _ _ (call (Value.ref 231) _) _ _ _); k_dflt (refine' im_made ?B ?F ?X ?N ?T ?k ?d ?u ?b ?_; (case B => k_asm); (case F => k_asm); (case X => k_asm); (case N => k_asm); (case T => k_asm); (case k => first | assumption | exact rfl); (case d => walk_at "my small"); (case u => walk_at "my small"); (case b => (refine' binds_of ?h0 ?hb; (case h0 => k_is); (case hb => (intro s9 x9 X9; first | exact BindsTo.of_eq rfl | exact binds_K (by k_in) rfl (by k_is) rfl rfl rfl)))); k_whole); intro x' d' h' tk' e1' e2' e3' e4' t1' t2' t3' t4' F' N' l1 l2; (try k_lt l1); (try k_sweep))))
  trivial
example : True := by
  (k_with "call ref" => ((k_here; (with_reducible show wpAny _ _ (call (Value.ref 128) [Value.int _ _]) _ _ _); (with_unfolding_all refine put16_c (by assumption) (by assumption) (by assumption) (by assumption) (by assumption) (by first | assumption | exact rfl) (by walk_at "my small") (by walk_at "my small")  ?_); intro b' t' h' tk' hb' F' N'; (try k_sweep))))
  (k_with "call ref" => ((k_here; (with_reducible show wpAny _ _ (call (Value.ref 135) [Value.int _ _]) _ _ _); (with_unfolding_all refine put32_c (by assumption) (by assumption) (by assumption) (by assumption) (by assumption) (by first | assumption | exact rfl) (by walk_at "my small") (by walk_at "my small")  ?_); intro b' t' h' tk' hb' F' N'; (try k_sweep))))
  (k_with "call ref" => ((k_here; (with_reducible show wpAny _ _ (call (Value.ref 149) [Value.bytes _ _, Value.int _ _]) _ _ _); (with_unfolding_all refine get16_c (by assumption) (by assumption) (by assumption) (by assumption) (by assumption) (by first | assumption | exact rfl) (by walk_at "my small") (by walk_at "my small") (by assumption) (by walk_at "my bnd") (by walk_at "my idx") (by walk_at "my idx") ?_); intro r' t' h' tk' hr' F' N'; have hr2' := hr'.2; (try k_sweep))))
  (k_with "call ref" => ((k_here; (with_reducible show wpAny _ _ (call (Value.ref 156) [Value.bytes _ _, Value.int _ _]) _ _ _); (with_unfolding_all refine get32_c (by assumption) (by assumption) (by assumption) (by assumption) (by assumption) (by first | assumption | exact rfl) (by walk_at "my small") (by walk_at "my small") (by assumption) (by walk_at "my bnd") (by walk_at "my idx") (by walk_at "my idx") ?_); intro r' t' h' tk' hr' F' N'; have hr2' := hr'.2; (try k_sweep))))
  (k_with "exec While Compare cons nil" => ((k_here; k_dflt (refine while_stop ?_))))
  (k_with "call ref" => ((k_here; (with_reducible show wpAny _ _ (call (Value.ref 163) [Value.int _ _]) _ _ _); (with_unfolding_all refine fold_c (by assumption) (by assumption) (by assumption) (by assumption) (by assumption) (by first | assumption | exact rfl) (by walk_at "my small") (by walk_at "my small") (by first | assumption | omega) ?_); intro r' t' h' tk' hr' F' N'; (try k_sweep))))
  (k_with "call ref" => ((k_here; (with_reducible show wpAny _ _ (call (Value.ref 171) [Value.bytes _ _, Value.int 0 _]) _ _ _); (with_unfolding_all refine ones_c (by assumption) (by assumption) (by assumption) (by assumption) (by assumption) (by first | assumption | exact rfl) (by walk_at "my small") (by walk_at "my small") (by assumption) (by walk_at "my idx") ?_); intro r' t' h' tk' hr' F' N'; (try k_sweep))))
  (k_with "call ref" => ((k_here; (with_reducible show wpAny _ _ (call (Value.ref 179) [Value.bytes _ _]) _ _ _); (with_unfolding_all refine check_c (by assumption) (by assumption) (by assumption) (by assumption) (by assumption) (by first | assumption | exact rfl) (by walk_at "my small") (by walk_at "my small") (by assumption) (by walk_at "my idx") ?_); intro r' t' h' tk' hr' F' N'; (try k_sweep))))
  trivial
example : True := by
  (k_with "call type:bytes" => ((k_here; (with_reducible show wpAny _ _ (call (Value.type "bytes") [Value.ref _]) _ _ _); k_dflt (refine' bytes_range ?bF ?bN ?bh ?bR ?b0 ?b1 ?b2 ?_; (case bF => assumption); (case bN => assumption); (case bh => exact rfl); (case bR => assumption); (case b0 => omega); (case b1 => omega); (case b2 => omega)); intro bs' h' t' tk' hbs' F' N'; (try k_sweep))))
  (k_with "eval Lambda" => ((k_here; k_dflt (refine lam_stop ?_))))
  (k_with "call builtin:len" => ((k_here; (with_reducible show wpAny _ _ (call (Value.builtin "len") [Value.bytes _ _]) _ _ _); (refine len_bytes (by omega) ?_))))
  trivial
example : True := by
  (k_with "exec For Name Tuple cons nil" => ((k_here; k_dflt (refine For_from ?_))))
  (k_with "binaryOp FloorDiv int int" => ((refine div_pos9 ?da ?db ?_; (case da => decide); (case db => decide))))
  (k_with "binaryOp Mod int int" => ((refine mod_pos9 ?da ?_; (case da => decide))))
  (k_with "call builtin:len" => ((k_here; (with_reducible show wpAny _ _ (call (Value.builtin "len") [Value.bytes #[] _]) _ _ _); (refine len_nil9 ?_); intro _)))
  trivial
example : True := by
  (k_with "my fold" => (refine fold_any ?_; intro Ak qk ek sk))
  (k_with "my refold" => ((try k_unmd); (try k_unfold); (try dsimp only); (try k_fold)))
  trivial
section
def AnyC (o : Obj) : Prop := ∃ v, o.data = .cell v
def IsC (v : Value) (o : Obj) : Prop := o.data = .cell (some v)
def Five (c1 c2 c3 c4 c6 : Addr) (d : Addr) : Prop := d = c1 ∨ d = c2 ∨ d = c3 ∨ d = c4 ∨ d = c6 ∨ d = 530
def Ne5 (c1 c2 c3 c4 c6 : Addr) (l : List (Addr × Obj)) : Prop := (∀ q ∈ l, q.1 ≠ c1) ∧ (∀ q ∈ l, q.1 ≠ c2) ∧ (∀ q ∈ l, q.1 ≠ c3) ∧ (∀ q ∈ l, q.1 ≠ c4) ∧ (∀ q ∈ l, q.1 ≠ c6) ∧ ∀ q ∈ l, q.1 ≠ 530
theorem Ne5.each {c1 c2 c3 c4 c6 : Addr} {l : List (Addr × Obj)} (h : Ne5 c1 c2 c3 c4 c6 l) {d : Addr} (hd : Five c1 c2 c3 c4 c6 d) : ∀ q ∈ l, q.1 ≠ d := by
  rcases hd with rfl | rfl | rfl | rfl | rfl | rfl
  · exact h.1
  · exact h.2.1
  · exact h.2.2.1
  · exact h.2.2.2.1
  · exact h.2.2.2.2.1
  · exact h.2.2.2.2.2
theorem Ne5.of {c1 c2 c3 c4 c6 : Addr} {l : List (Addr × Obj)} (h : ∀ d, Five c1 c2 c3 c4 c6 d → ∀ q ∈ l, q.1 ≠ d) : Ne5 c1 c2 c3 c4 c6 l :=
  ⟨h _ (.inl rfl), h _ (.inr (.inl rfl)), h _ (.inr (.inr (.inl rfl))), h _ (.inr (.inr (.inr (.inl rfl)))), h _ (.inr (.inr (.inr (.inr (.inl rfl))))), h _ (.inr (.inr (.inr (.inr (.inr rfl)))))⟩
theorem Ne5.next {c1 c2 c3 c4 c6 c : Addr} {o : Obj} {ex rest : List (Addr × Obj)} (h : Ne5 c1 c2 c3 c4 c6 (ex ++ rest)) (hc : ∀ d, Five c1 c2 c3 c4 c6 d → c ≠ d) : Ne5 c1 c2 c3 c4 c6 ([(c, o)] ++ rest) := .of fun d hd q hq => by
  rcases List.mem_append.mp hq with hq | hq
  · obtain rfl : q = (c, o) := by simpa using hq
    exact hc d hd
  · exact h.each hd q (List.mem_append_right _ hq)
theorem Ne5.in2 {c1 c2 c3 c4 c6 l I : Addr} {ol it : Obj} {ex rest : List (Addr × Obj)} (h : Ne5 c1 c2 c3 c4 c6 (ex ++ rest)) (hl : ∀ d, Five c1 c2 c3 c4 c6 d → @LT.lt Nat _ d l) (hI : ∀ d, Five c1 c2 c3 c4 c6 d → @LT.lt Nat _ d I) : Ne5 c1 c2 c3 c4 c6 (ex ++ (l, ol) :: (I, it) :: rest) := .of fun d hd q hq => by
  rcases List.mem_append.mp hq with hq | hq
  · exact h.each hd q (List.mem_append_left _ hq)
  · rcases List.mem_cons.mp hq with rfl | hq
    · exact Nat.ne_of_gt (hl d hd)
    · rcases List.mem_cons.mp hq with rfl | hq
      · exact Nat.ne_of_gt (hI d hd)
      · exact h.each hd q (List.mem_append_right _ hq)
/-- what the code's address is not: a cell that turns, a thing laid by -/
def Off (c1 c2 c3 c4 c6 : Addr) (rest : List (Addr × Obj)) (d : Addr) : Prop := Five c1 c2 c3 c4 c6 d ∨ ∃ q ∈ rest, q.1 = d
inductive JNum (P6 P4 P3 P2 P1 : Obj → Prop) (c1 c2 c3 c4 c5 c6 : Addr) (o5 : Obj) (line col : Nat) (p0 : Array Value) (rest : List (Addr × Obj)) (I : Addr) (nw : List (Addr × Obj)) : Prop
  | mk (o6 : Obj) (o4 : Obj) (o3 : Obj) (o2 : Obj) (o1 : Obj) (ps : Array Value) (ex : List (Addr × Obj)) (h1 : P6 o6) (h2 : P4 o4) (h3 : P3 o3) (h4 : P2 o2) (h5 : P1 o1) (h6 : Lam "_law_numbers_right.<locals>.<lambda>" line col p0 (fun d => Off c1 c2 c3 c4 c6 rest d ∨ d = I) ps ex) (h7 : Ne5 c1 c2 c3 c4 c6 (ex ++ rest)) (h8 : nw = (c6, o6) :: (c5, o5) :: (c4, o4) :: (c3, o3) :: (c2, o2) :: (c1, o1) :: (530, tabObj ps) :: (ex ++ rest)) : JNum P6 P4 P3 P2 P1 c1 c2 c3 c4 c5 c6 o5 line col p0 rest I nw
theorem list_num {prog : Program} {w : World} {A : Around} {E : Value → Shared → Prop} {s : Shared} {A₀ : Around} {base g₀ : Heap} {outer : List Env} {m : Str → Option Value} {env : Env} {target : Expr} {body : List Stmt} {Q : Flow → Shared → Prop}
    {L : Addr} {g : Heap} {l c1 c2 c3 c4 c5 c6 : Addr} {o6 o5 o4 o3 o2 o1 : Obj} {items : Array Value} {ns : List Int} {nn line col : Nat} {ps p0 : Array Value} {ex all : List (Addr × Obj)} (P6 P4 P3 P2 P1 : Obj → Prop) (rest : List (Addr × Obj))
    (hh : A.handled = none) (T : KtsTurn (frs outer) g₀ g) (F : Fr g L s.heap m) (N : News g L s.heap all) (B : Below A₀ base outer g) (D : KtsDicts (frs outer) g) (hl : (l, W.listOf items nn) ∈ rest) (hi : IntsAre items.toList ns)
    (sub : ∀ q ∈ (c6, o6) :: (c5, o5) :: (c4, o4) :: (c3, o3) :: (c2, o2) :: (c1, o1) :: (530, tabObj ps) :: (ex ++ rest), q ∈ all)
    (h6 : P6 o6) (h4 : P4 o4) (h3 : P3 o3) (h2 : P2 o2) (h1 : P1 o1) (hL : Lam "_law_numbers_right.<locals>.<lambda>" line col p0 (Off c1 c2 c3 c4 c6 rest) ps ex) (hne : Ne5 c1 c2 c3 c4 c6 (ex ++ rest))
    (step : ∀ (rest : List (Addr × Obj)) (I : Addr) (k : Int) (t : Tok) (m : Str → Option Value) (nw : List (Addr × Obj)) (it : Obj) (s' : Shared) (R : Flow → Shared → Prop), @LT.lt Nat _ c6 I → k ∈ ns → JNum P6 P4 P3 P2 P1 c1 c2 c3 c4 c5 c6 o5 line col p0 rest I nw → At A₀ base outer g₀ L m ((I, it) :: nw) s'.heap →
      (∀ m' nw' h' tk', JNum P6 P4 P3 P2 P1 c1 c2 c3 c4 c5 c6 o5 line col p0 rest I nw' → At A₀ base outer g₀ L m' ((I, it) :: nw') h' → R .next { s' with heap := h', toks := tk' }) →
      wpAny (model prog w) A (assign target env (.int k t)) (fun _ s₂ => wpAny (model prog w) A (execs body env) R (fun _ _ => False) s₂) (fun _ _ => False) s')
    (done : ∀ I m nw h tk, JNum P6 P4 P3 P2 P1 c1 c2 c3 c4 c5 c6 o5 line col p0 rest I nw → At A₀ base outer g₀ L m nw h → Q .next { s with heap := h, toks := tk }) : ForFrom (model prog w) A target body env Q E (.ref l) s := by
  refine list_at ((c6, o6) :: (c5, o5) :: (c4, o4) :: (c3, o3) :: (c2, o2) :: (c1, o1) :: (530, tabObj ps) :: (ex ++ rest)) (fun I _ _ nw => JNum P6 P4 P3 P2 P1 c1 c2 c3 c4 c5 c6 o5 line col p0 rest I nw) hh (sub (l, W.listOf items nn) (by walk_at "my at")) T F N B D sub ?_ ?_ ?_ ?_ (fun I _ m nw h tk hj hat => done I m nw h tk hj hat)
  · rintro I hI i m nw ⟨o6', o4', o3', o2', o1', ps', ex', _, _, _, _, _, hL', _, rfl⟩ q hq
    have lt : ∀ d o, (d, o) ∈ (c6, o6) :: (c5, o5) :: (c4, o4) :: (c3, o3) :: (c2, o2) :: (c1, o1) :: (530, tabObj ps) :: (ex ++ rest) → d ≠ I := fun d o h => Nat.ne_of_lt (hI _ h)
    simp only [List.mem_append, List.mem_cons] at hq
    rcases hq with rfl | rfl | rfl | rfl | rfl | rfl | rfl | hq | hq
    · exact lt c6 o6 (by walk_at "my in")
    · exact lt c5 o5 (by walk_at "my in")
    · exact lt c4 o4 (by walk_at "my in")
    · exact lt c3 o3 (by walk_at "my in")
    · exact lt c2 o2 (by walk_at "my in")
    · exact lt c1 o1 (by walk_at "my in")
    · exact lt 530 (tabObj ps) (by walk_at "my in")
    · exact hL'.apart (.inr rfl) q hq
    · exact lt q.1 q.2 (by walk_at "my at")
  · rintro I i m nw ⟨o6', o4', o3', o2', o1', ps', ex', _, _, _, _, _, hL', _, rfl⟩
    simp [hl]
  · intro I hI
    refine ⟨o6, o4, o3, o2, o1, ps, ex, h6, h4, h3, h2, h1, hL.more fun d hd => ?_, hne, rfl⟩
    rcases hd with hd | rfl
    · exact .inl hd
    · exact .inr fun q hq => Nat.ne_of_lt (hI q (by walk_at "my at"))
  · intro I hI i v m nw it h tk hv hj hat
    obtain ⟨k, t, rfl, hk⟩ := IntsAre.at hi i v (by simpa using hv)
    exact step rest I k t m nw it { s with heap := h, toks := tk } (TurnStep A₀ base outer g₀ L [(I, it)] (fun _ nw => JNum P6 P4 P3 P2 P1 c1 c2 c3 c4 c5 c6 o5 line col p0 rest I nw) s Q) (hI (c6, o6) (by walk_at "my in")) (List.mem_of_getElem? hk) hj hat
      fun m' nw' h' tk' hj' hat' => ⟨m', nw', h', tk', rfl, hj', hat'⟩
theorem int8 {b : Array UInt8} {n : Nat} {t : Tok} (h : b.size = 8 + n) : Value.int ((b.size : Nat) : Int) t = Value.int (8 + ((n : Nat) : Int)) t := by rw [h]; rfl
/-- the end of an innermost turn -/
theorem num_end {s' : Shared} {R : Flow → Shared → Prop} {A₀ : Around} {base g₀ : Heap} {outer : List Env} {L I : Addr} {it : Obj} {g2 g h' : Heap} {tk' : Nat} {m' : Str → Option Value} {c1 c2 c3 c4 c5 c6 c9 : Addr} {o6 o5 o4 o3 o2 o1 oc9 : Obj} {vs9 : Array Value} {tq9 : Tok} {line col : Nat} {p0 : Array Value} {ex rest : List (Addr × Obj)} {P6 P4 P3 P2 P1 : Obj → Prop}
    (hR : ∀ m' nw' h' tk', JNum P6 P4 P3 P2 P1 c1 c2 c3 c4 c5 c6 o5 line col p0 rest I nw' → At A₀ base outer g₀ L m' ((I, it) :: nw') h' → R .next { s' with heap := h', toks := tk' })
    (T : KtsTurn (frs outer) g₀ g2) (T' : KtsTurn (frs outer) g2 g) (F : Fr g L h' m') (B : Below A₀ base outer g) (D : KtsDicts (frs outer) g) (h6 : P6 o6) (h4 : P4 o4) (h3 : P3 o3) (h2 : P2 o2) (h1 : P1 o1)
    (hd : oc9.data = .fields vs9) (hv : vs9[1]? = some (.str "_law_numbers_right.<locals>.<lambda>" tq9)) (ha : ∀ d, Off c1 c2 c3 c4 c6 rest d ∨ d = I → c9 ≠ d) (hn : Ne5 c1 c2 c3 c4 c6 (ex ++ rest))
    (N : News g L h' ((I, it) :: (c6, o6) :: (c5, o5) :: (c4, o4) :: (c3, o3) :: (c2, o2) :: (c1, o1) :: (530, tabObj (p0 ++ #[rawInt line, rawInt col, .ref c9])) :: ([(c9, oc9)] ++ rest))) : R .next { s' with heap := h', toks := tk' } :=
  hR m' _ h' tk' ⟨o6, o4, o3, o2, o1, _, [(c9, oc9)], h6, h4, h3, h2, h1, .inr ⟨c9, oc9, vs9, tq9, rfl, rfl, hd, hv, ha⟩, hn.next (fun d hd => ha d (.inl (.inl hd))), rfl⟩ ⟨g, T.trans T', F, N, B, D⟩
/-- the end of an outer turn: what the inner loop left -/
theorem num_up {s' : Shared} {R : Flow → Shared → Prop} {A₀ : Around} {base g₀ : Heap} {outer : List Env} {L I I2 l : Addr} {it ol : Obj} {h' : Heap} {tk' : Nat} {m' : Str → Option Value} {nw2 : List (Addr × Obj)} {c1 c2 c3 c4 c5 c6 : Addr} {o5 : Obj} {line col : Nat} {p0 : Array Value} {rest : List (Addr × Obj)} {P6 P4 P3 P2 P1 P6' P4' P3' P2' P1' : Obj → Prop}
    (hR : ∀ m' nw' h' tk', JNum P6 P4 P3 P2 P1 c1 c2 c3 c4 c5 c6 o5 line col p0 rest I nw' → At A₀ base outer g₀ L m' ((I, it) :: nw') h' → R .next { s' with heap := h', toks := tk' })
    (hJ : JNum P6' P4' P3' P2' P1' c1 c2 c3 c4 c5 c6 o5 line col p0 ((l, ol) :: (I, it) :: rest) I2 nw2) (hat : At A₀ base outer g₀ L m' nw2 h')
    (e6 : ∀ o, P6' o → P6 o) (e4 : ∀ o, P4' o → P4 o) (e3 : ∀ o, P3' o → P3 o) (e2 : ∀ o, P2' o → P2 o) (e1 : ∀ o, P1' o → P1 o) : R .next { s' with heap := h', toks := tk' } := by
  obtain ⟨o6, o4, o3, o2, o1, ps, ex, h6, h4, h3, h2, h1, hL, hn, rfl⟩ := hJ
  obtain ⟨g, T, F, N, B, D⟩ := hat
  refine hR m' _ h' tk' ⟨o6, o4, o3, o2, o1, ps, ex, e6 _ h6, e4 _ h4, e3 _ h3, e2 _ h2, e1 _ h1, hL.more fun d hd => .inl (.inl ?_), .of fun d hd q hq => hn.each hd q ?_, rfl⟩ ⟨g, T, F, sub_news N (by walk_at "my perm"), B, D⟩
  · rcases hd with (hd | ⟨q, hq, rfl⟩) | rfl
    · exact .inl hd
    · exact .inr ⟨q, .tail _ (.tail _ hq), rfl⟩
    · exact .inr ⟨_, .tail _ (.head _), rfl⟩
  · rcases List.mem_append.mp hq with hq | hq
    · exact List.mem_append_left _ hq
    · exact List.mem_append_right _ (.tail _ (.tail _ hq))
theorem off_in {c1 c2 c3 c4 c6 l I : Addr} {ol it : Obj} {line col : Nat} {p0 ps : Array Value} {ex rest : List (Addr × Obj)} (hL : Lam "_law_numbers_right.<locals>.<lambda>" line col p0 (fun d => Off c1 c2 c3 c4 c6 rest d ∨ d = I) ps ex) (hl : ∀ q ∈ ex ++ rest, q.1 < l) : Lam "_law_numbers_right.<locals>.<lambda>" line col p0 (Off c1 c2 c3 c4 c6 ((l, ol) :: (I, it) :: rest)) ps ex :=
  hL.more fun d hd => by
    rcases hd with hd | ⟨q, hq, rfl⟩
    · exact .inl (.inl (.inl hd))
    · rcases List.mem_cons.mp hq with rfl | hq
      · exact .inr fun p hp => Nat.ne_of_lt (hl p (List.mem_append_left _ hp))
      · rcases List.mem_cons.mp hq with rfl | hq
        · exact .inl (.inr rfl)
        · exact .inl (.inl (.inr ⟨q, hq, rfl⟩))
theorem sub_first {l c1 c2 c3 c4 c5 c6 : Addr} {ol o1 o2 o3 o4 o5 o6 tb : Obj} {so : Addr × Obj} {P : Addr} {news : List (Addr × Obj)} :
    ∀ q ∈ (c6, o6) :: (c5, o5) :: (c4, o4) :: (c3, o3) :: (c2, o2) :: (c1, o1) :: (P, tb) :: (([] : List (Addr × Obj)) ++ (l, ol) :: so :: news), q ∈ (l, ol) :: (c6, o6) :: (c5, o5) :: (c4, o4) :: (c3, o3) :: (c2, o2) :: (c1, o1) :: so :: (P, tb) :: news := by walk_at "my perm"
theorem sub_next {l I c1 c2 c3 c4 c5 c6 : Addr} {ol it o1 o2 o3 o4 o5 o6 tb : Obj} {P : Addr} {ex rest : List (Addr × Obj)} :
    ∀ q ∈ (c6, o6) :: (c5, o5) :: (c4, o4) :: (c3, o3) :: (c2, o2) :: (c1, o1) :: (P, tb) :: (ex ++ (l, ol) :: (I, it) :: rest), q ∈ (l, ol) :: (I, it) :: (c6, o6) :: (c5, o5) :: (c4, o4) :: (c3, o3) :: (c2, o2) :: (c1, o1) :: (P, tb) :: (ex ++ rest) := by walk_at "my perm"
theorem sub_second {l c1 c2 c3 c4 c5 c6 : Addr} {ol o1 o2 o3 o4 o5 o6 tb : Obj} {P : Addr} {rest : List (Addr × Obj)} :
    ∀ q ∈ (c6, o6) :: (c5, o5) :: (c4, o4) :: (c3, o3) :: (c2, o2) :: (c1, o1) :: (P, tb) :: (([] : List (Addr × Obj)) ++ (l, ol) :: rest), q ∈ (l, ol) :: (c6, o6) :: (c5, o5) :: (c4, o4) :: (c3, o3) :: (c2, o2) :: (c1, o1) :: (P, tb) :: rest := by walk_at "my perm"
theorem Ne5.in1 {c1 c2 c3 c4 c6 l : Addr} {ol : Obj} {rest : List (Addr × Obj)} (h : Ne5 c1 c2 c3 c4 c6 rest) (hl : ∀ d, Five c1 c2 c3 c4 c6 d → @LT.lt Nat _ d l) : Ne5 c1 c2 c3 c4 c6 ([] ++ (l, ol) :: rest) := .of fun d hd q hq => by
  rcases List.mem_cons.mp hq with rfl | hq
  · exact Nat.ne_of_gt (hl d hd)
  · exact h.each hd q hq
theorem int_turned {a b : Int} {t : Tok} : Value.int (a * 65536 + b) t = Value.int (65536 * a + b) t := by rw [Int.mul_comm]
example : True := by
  (k_with "exec Assign" => ((k_here; (with_reducible show wpAny _ _ (exec (Stmt.Assign [Expr.Name ("is_let" : Str) _] _ _) _) _ _ _); k_dflt (refine set_stop ?_))))
  (k_with "exec Assign" => ((k_here; (with_reducible show wpAny _ _ (exec (Stmt.Assign [Expr.Name ("due" : Str) _] _ _) _) _ _ _); k_dflt (refine set_stop ?_))))
  (k_with "call ref" => ((k_here; (with_reducible show wpAny _ _ (call (Value.ref 263) _) _ _ _); (with_unfolding_all refine echo_c (by assumption) (by assumption) (by assumption) (by assumption) (by assumption) (by first | assumption | rfl) (by walk_at "my small") (by walk_at "my small") (by assumption) ?_ ?_); (all_goals intros))))
  (k_with "call ref" => ((k_here; refine told_stop ?_)))
  (k_with "call ref" => ((k_here; (with_reducible show wpAny _ _ (call (Value.ref 256) _) _ _ _); (with_unfolding_all refine pack_c (by assumption) (by assumption) (by assumption) (dup2 (by assumption) (by k_mem) (by k_mem)) (by assumption) (by first | assumption | rfl) (by walk_at "my small") (by walk_at "my small") (by assumption) ?_ ?_); (all_goals intros))))
  (k_with "my rest" => ((refine sub_news (by assumption) (fun p hp => ?_); (repeat (first | exact hp | refine List.Mem.tail _ ?_)))))
  (k_with "my rest2" => ((refine sub_news (by assumption) ?_; (simp only [List.cons_append, List.nil_append]); (repeat (refine List.forall_mem_cons.mpr ⟨?_, ?_⟩; (focus ((k_mem); done)))); (intro _ hp9; (repeat (first | exact List.mem_append_right _ hp9 | refine List.Mem.tail _ ?_))))))
  (k_with "my ex" => ((intro q hq; (repeat (first | exact List.mem_append_left _ hq | refine List.Mem.tail _ ?_)))))
  trivial
theorem numbers_c {w : World} {p : Program} {loose : List Str} {mean : ExcName → Option Value} {mg mb : Str → Option Value} {dp un : Nat} {gd : Option (List Code)} {cn : Str} {cs : Scope} {a : Addr} {ccd : Value} {cl : List (Str × Addr)} {A₀ : Around} {base h₀ : Heap} {L : Addr} {m : Str → Option Value} {news : List (Addr × Obj)} {s : Shared} {Q E : Value → Shared → Prop}
    {src : Addr} {x y : Int} {tx ty : Tok} {n : Nat}
    (B : Below A₀ base [] h₀) (F : Fr h₀ L s.heap m) (X : (hd.heap_1 w.params).In h₀) (N : News h₀ L s.heap ((src, W.listOf #[.int x tx, .int y ty] n) :: (530, tabObj #[]) :: news)) (T : Top p loose mean mg mb h₀) (XB : (hd.heap_1 w.params).In base) (TB : Top p loose mean mg mb base) (CB : CodeHd base 534 530) (hk : cs.kind = .function)
    (hne : ∀ q ∈ (530, tabObj #[]) :: news, q.1 ≠ src) (hne2 : ∀ q ∈ news, q.1 ≠ 530) (hx : 0 ≤ x) (hdp : dp < 400) (hun : un < 20)
    (ret : ∀ ps x' y' tx' ty' h' tk', Fr h₀ L h' m → News h₀ L h' ((src, W.listOf #[.int x' tx', .int y' ty'] n) :: (530, tabObj ps) :: news) → 0 ≤ x' → Q (.bool true) { s with heap := h', toks := tk' }) :
    wpAny (model PySem.Challenge.rw_pf0401_01.row.prog w) (ktrTop dp un gd cn cs L a ccd cl []) (call (.ref 535) [.ref src]) Q E s := by
  have D : KtsDicts (frs []) h₀ := fun _ h => nomatch h
  have C : CodeHd h₀ 534 530 := CB.keeps B.stays
  have hs5 : @Ne Nat 530 src := hne _ (.head _)
  have e32 : (2 : Int) ^ Int.toNat 32 = 4294967296 := by decide
  refine wpAny_call ?_
  k_dflt (walk_at "turn enter cells")
  rename Obj.data _ = Data.cell _ => z6; revert z6
  rename Obj.data _ = Data.cell _ => z5; revert z5
  rename Obj.data _ = Data.cell _ => z4; revert z4
  rename Obj.data _ = Data.cell _ => z3; revert z3
  rename Obj.data _ = Data.cell _ => z2; revert z2
  rename Obj.data _ = Data.cell _ => z1; revert z1
  intro (z1 : Obj.data _ = Data.cell none) (z2 : Obj.data _ = Data.cell none) (z3 : Obj.data _ = Data.cell none) (z4 : Obj.data _ = Data.cell none) (z5 : Obj.data _ = Data.cell none) (z6 : Obj.data _ = Data.cell none)
  k_steps
  rename Array UInt8 => pay
  have hpz : pay.size ≤ 100 := by omega
  rename_i l19
  rename Fr _ _ _ _ => F0
  rename News _ _ _ _ => N0
  rename Obj.data _ = Data.cell (some (Value.bytes pay _)) => d5
  refine list_num (line := 357) (col := 33) (p0 := #[]) (ex := []) AnyC AnyC AnyC AnyC AnyC _ rfl .refl F0 N0 (by assumption) (by assumption) (.head _) (by repeat constructor) sub_first ⟨_, z1⟩ ⟨_, z3⟩ ⟨_, z4⟩ ⟨_, z5⟩ ⟨_, z6⟩ (.inl ⟨rfl, rfl⟩) ?_ ?_ ?_
  · refine .of fun d hd => List.forall_mem_cons.mpr ⟨?_, List.forall_mem_cons.mpr ⟨?_, ?_⟩⟩
    · rcases hd with rfl | rfl | rfl | rfl | rfl | rfl <;> (refine neN ?_; dsimp only; omega)
    · rcases hd with rfl | rfl | rfl | rfl | rfl | rfl <;> (refine neN ?_; dsimp only; omega)
    · rcases hd with rfl | rfl | rfl | rfl | rfl | rfl
      · exact ne_all (by assumption) (by omega)
      · exact ne_all (by assumption) (by omega)
      · exact ne_all (by assumption) (by omega)
      · exact ne_all (by assumption) (by omega)
      · exact ne_all (by assumption) (by omega)
      · exact hne2
  · intro r1 I1 k1 t1 m1 nw1 it1 s1 R1 hI1 hk1 hJ1 hat1 hR1
    clear F0 N0 z1 z2 z3 z4 z5 z6 l19 ret hne hne2
    obtain ⟨o6, o4, o3, o2, o1, ps, ex, ⟨v6, d6⟩, ⟨v4, d4⟩, ⟨v3, d3⟩, ⟨v2, d2⟩, ⟨v1, d1⟩, hL, hn, rfl⟩ := hJ1
    obtain ⟨n1, n2, n3, n4, n6, n7⟩ := id hn
    obtain ⟨g1, T1, F1, N1, B1, D1⟩ := hat1
    have X1 := XB.keeps B1.stays
    have P1 := TB.keeps B1.stays
    have C1 := CB.keeps B1.stays
    k_steps
    rename_i l19
    rename Fr _ _ _ _ => F02
    rename News _ _ _ _ => N02
    rename Obj.data _ = Data.cell (some (Value.int k1 t1)) => d3'
    refine list_num (line := 357) (col := 33) (p0 := #[]) AnyC AnyC (IsC (.int k1 t1)) AnyC AnyC _ rfl T1 F02 N02 B1 D1 (.head _) (by repeat constructor) sub_next ⟨_, d6⟩ ⟨_, d4⟩ d3' ⟨_, d2⟩ ⟨_, d1⟩ (off_in hL (lt_all l19.2.2.2.2.2.2.2.2)) (hn.in2 (fun d hd => by rcases hd with rfl | rfl | rfl | rfl | rfl | rfl <;> (refine ltN ?_; omega)) (fun d hd => by rcases hd with rfl | rfl | rfl | rfl | rfl | rfl <;> (refine ltN ?_; omega))) ?_ ?_
    · intro r2 I2 k2 t2 m2 nw2 it2 s2 R2 hI2 hk2 hJ2 hat2 hR2
      clear F02 N02 l19 hR1 hn hL n1 n2 n3 n4 n6 n7 d1 d2 d3 d4 d6 d3'
      obtain ⟨o6, o4, o3, o2, o1, ps, ex, ⟨v6, d6⟩, ⟨v4, d4⟩, d3, ⟨v2, d2⟩, ⟨v1, d1⟩, hL, hn, rfl⟩ := hJ2
      obtain ⟨n1, n2, n3, n4, n6, n7⟩ := id hn
      obtain ⟨g2, T2, F2, N2, B2, D2⟩ := hat2
      have X2 := XB.keeps B2.stays
      have P2 := TB.keeps B2.stays
      have C2 := CB.keeps B2.stays
      k_steps
      rename_i l19
      rename Fr _ _ _ _ => F03
      rename News _ _ _ _ => N03
      rename Obj.data _ = Data.cell (some (Value.int k2 t2)) => d1'
      refine list_num (line := 357) (col := 33) (p0 := #[]) AnyC AnyC (IsC (.int k1 t1)) AnyC (IsC (.int k2 t2)) _ rfl T2 F03 N03 B2 D2 (.head _) (by repeat constructor) sub_next ⟨_, d6⟩ ⟨_, d4⟩ d3 ⟨_, d2⟩ d1' (off_in hL (lt_all l19.2.2.2.2.2.2.2.2)) (hn.in2 (fun d hd => by rcases hd with rfl | rfl | rfl | rfl | rfl | rfl <;> (refine ltN ?_; omega)) (fun d hd => by rcases hd with rfl | rfl | rfl | rfl | rfl | rfl <;> (refine ltN ?_; omega))) ?_ ?_
      · intro r3 I3 k3 t3 m3 nw3 it3 s3 R3 hI3 hk3 hJ3 hat3 hR3
        clear F03 N03 l19 hR2 hn hL n1 n2 n3 n4 n6 n7 d1 d2 d3 d4 d6 d1'
        obtain ⟨o6, o4, o3, o2, o1, ps, ex, ⟨v6, d6⟩, ⟨v4, d4⟩, d3, ⟨v2, d2⟩, d1, hL, hn, rfl⟩ := hJ3
        obtain ⟨n1, n2, n3, n4, n6, n7⟩ := id hn
        obtain ⟨g3, T3, F3, N3, B3, D3⟩ := hat3
        have X3 := XB.keeps B3.stays
        have P3 := TB.keeps B3.stays
        have C3 := CB.keeps B3.stays
        k_steps
        rename Obj.data _ = Data.cell (some (Value.int k3 t3)) => d9
        refine set_one (0 ≤ k1 ∧ k1 < 256 ∧ 0 ≤ k2 ∧ k2 < 256 ∧ 0 ≤ k3 ∧ k3 < 4294967296) ?_ ?_
        · intro Q' hT hF
          clear hL hn n1 n2 n3 n4 n6 n7 hR3
          k_steps
          all_goals exact two_dec hT hF (by omega) (by omega)
        · intro bl hbl tk9
          k_steps
          unfold LamAt
          with_unfolding_all refine lam_any (by assumption) (by assumption) P3 C3 rfl (by k_updF) hL (by walk_at "my ex") (by
            rintro d ((hd | ⟨q, hq, rfl⟩) | rfl)
            · rcases hd with rfl | rfl | rfl | rfl | rfl | rfl <;> exact ⟨_, by k_mem⟩
            · refine ⟨q.2, ?_⟩
              repeat (first | exact List.mem_append_right _ hq | refine List.Mem.tail _ ?_)
            · exact ⟨_, by k_mem⟩) True.intro rfl rfl rfl ?_
          intro f9 c9 oc9 vs9 tq9 ct9 h9 tk8 F9 N9 d19 d29 av9 l19 l29
          dsimp only at N9
          k_steps
          with_unfolding_all refine told_k (fun v => (0 ≤ k1 ∧ k1 < 256 ∧ 0 ≤ k2 ∧ k2 < 256 ∧ 0 ≤ k3 ∧ k3 < 4294967296) ∧ ∃ t, v = .int (8 + ((pay.size : Nat) : Int)) t) False (¬ (0 ≤ k1 ∧ k1 < 256 ∧ 0 ≤ k2 ∧ k2 < 256 ∧ 0 ≤ k3 ∧ k3 < 4294967296)) B3 F9 N9 XB TB D3 rfl (by k_mem) (by walk_at "my small") (by walk_at "my small") ?_ ?_ (fun h => h.elim) ?_
          · clear hL hn n1 n2 n3 n4 n6 n7 hR3 av9 F9 N9
            intro dp1 un1 gd1 cn1 cs1 a1 ccd1 cl1 outer1 A1 g1' L1 m1' s1 Q1 E1 B1' F1' X1' N1' T1' hk1 hd1 hu1 hl1 kv ks kf
            dsimp only [ktrTop, Around.deeper] at hd1 hu1
            replace hd1 : dp1 < 403 := q_le5 hd1 hdp rfl
            replace hu1 : un1 < 43 := q_le5 hu1 hun rfl
            refine wpAny_call ?_
            k_dflt (walk_at "lam enter")
            k_steps
            · rename _ = 8 + pay.size => e8
              exact kv _ _ _ _ ⟨⟨by assumption, _, int8 e8⟩, rfl⟩ (by assumption) (by walk_at "my rest")
            · refine kf _ _ _ _ _ ⟨by assumption, rfl⟩ ?fa (raised_sub (by assumption) (fun p hp => ?_)) (by assumption)
              · assumption
              · (repeat (first | exact hp | refine List.Mem.tail _ ?_))
          · rintro v ⟨hc, t, rfl⟩ r h' tk' h₀' l T F N B D X P
            obtain rfl : bl = true := hbl.mpr hc
            (try walk_at "my fold")
            k_steps
            exact num_end hR3 T3 T (by assumption) B D ⟨_, d9⟩ ⟨_, d4⟩ d3 ⟨_, d2⟩ d1 d19 d29 av9 hn (by walk_at "my rest2")
          · intro hc h' tk' h₀' t T F N B D X P
            obtain rfl : bl = false := by
              cases bl with
              | false => rfl
              | true => exact absurd (hbl.mp rfl) hc
            (try walk_at "my fold")
            k_steps
            exact num_end hR3 T3 T (by assumption) B D ⟨_, d9⟩ ⟨_, d4⟩ d3 ⟨_, d2⟩ d1 d19 d29 av9 hn (by walk_at "my rest2")
      · intro I3 m3 nw3 h3 tk3 hJ3 hat3
        k_steps
        exact num_up hR2 hJ3 hat3 (fun o h => h) (fun o h => h) (fun o h => h) (fun o h => h) (fun o h => ⟨_, h⟩)
    · intro I3 m3 nw3 h3 tk3 hJ3 hat3
      k_steps
      exact num_up hR1 hJ3 hat3 (fun o h => h) (fun o h => h) (fun o h => ⟨_, h⟩) (fun o h => h) (fun o h => h)
  · intro I4 m4 nw4 h4 tk4 hJ4 hat4
    clear F0 N0 z1 z2 z3 z4 z5 z6 l19
    obtain ⟨o6, o4, o3, o2, o1, ps0, ex, ⟨v6, d6⟩, ⟨v4, d4⟩, ⟨v3, d3⟩, ⟨v2, d2⟩, ⟨v1, d1⟩, hL, hn, rfl⟩ := hJ4
    obtain ⟨g4, T4, F4, N4, B4, D4⟩ := hat4
    have X4 := XB.keeps B4.stays
    have P4 := TB.keeps B4.stays
    have C4 := CB.keeps B4.stays
    have hp : TriplesOk ps0.toList ∧ ∀ pos : Pos, pos.line = 363 → codeAmong pos ps0.toList = none := by
      rcases hL with ⟨rfl, _⟩ | ⟨c', oc, vs, t, rfl, _⟩
      · exact ⟨True.intro, fun _ _ => rfl⟩
      · exact ⟨True.intro, fun pos h => by simp [codeAmong, rawInt, h]⟩
    k_steps
    rename_i l19
    rename Fr _ _ _ _ => F04
    rename News _ _ _ _ => N04
    refine list_num (line := 363) (col := 25) (p0 := ps0) (ex := []) AnyC AnyC AnyC AnyC AnyC _ rfl T4 F04 N04 B4 D4 (.head _) (by repeat constructor) sub_second ⟨_, d6⟩ ⟨_, d4⟩ ⟨_, d3⟩ ⟨_, d2⟩ ⟨_, d1⟩ (.inl ⟨rfl, rfl⟩) (hn.in1 (fun d hd => by rcases hd with rfl | rfl | rfl | rfl | rfl | rfl <;> (refine ltN ?_; omega))) ?_ ?_
    · intro r5 I5 k4 t4 m5 nw5 it5 s5 R5 hI5 hk4 hJ5 hat5 hR5
      clear F04 N04 l19 ret hne hne2 hn hL d1 d2 d3 d4 d6
      obtain ⟨o6, o4, o3, o2, o1, ps, ex, ⟨v6, d6⟩, ⟨v4, d4⟩, ⟨v3, d3⟩, ⟨v2, d2⟩, ⟨v1, d1⟩, hL, hn, rfl⟩ := hJ5
      obtain ⟨n1, n2, n3, n4, n6, n7⟩ := id hn
      obtain ⟨g5, T5, F5, N5, B5, D5⟩ := hat5
      have X5 := XB.keeps B5.stays
      have P5 := TB.keeps B5.stays
      have C5 := CB.keeps B5.stays
      have hk4' : k4 < 1000000 := by
        simp only [List.mem_cons, List.not_mem_nil, or_false] at hk4
        omega
      k_steps
      rename_i l19
      rename Fr _ _ _ _ => F05
      rename News _ _ _ _ => N05
      rename Obj.data _ = Data.cell (some (Value.int k4 t4)) => d2'
      refine list_num (line := 363) (col := 25) (p0 := ps0) AnyC AnyC AnyC (IsC (.int k4 t4)) AnyC _ rfl T5 F05 N05 B5 D5 (.head _) (by repeat constructor) sub_next ⟨_, d6⟩ ⟨_, d4⟩ ⟨_, d3⟩ d2' ⟨_, d1⟩ (off_in hL (lt_all l19.2.2.2.2.2.2.2.2)) (hn.in2 (fun d hd => by rcases hd with rfl | rfl | rfl | rfl | rfl | rfl <;> (refine ltN ?_; omega)) (fun d hd => by rcases hd with rfl | rfl | rfl | rfl | rfl | rfl <;> (refine ltN ?_; omega))) ?_ ?_
      · intro r6 I6 k5 t5 m6 nw6 it6 s6 R6 hI6 hk5 hJ6 hat6 hR6
        clear F05 N05 l19 hR5 hn hL n1 n2 n3 n4 n6 n7 d1 d2 d3 d4 d6 d2'
        obtain ⟨o6, o4, o3, o2, o1, ps, ex, ⟨v6, d6⟩, ⟨v4, d4⟩, ⟨v3, d3⟩, d2, ⟨v1, d1⟩, hL, hn, rfl⟩ := hJ6
        obtain ⟨n1, n2, n3, n4, n6, n7⟩ := id hn
        obtain ⟨g6, T6, F6, N6, B6, D6⟩ := hat6
        have X6 := XB.keeps B6.stays
        have P6 := TB.keeps B6.stays
        have C6 := CB.keeps B6.stays
        k_steps
        rename Obj.data _ = Data.cell (some (Value.int k5 t5)) => d9
        refine set_if (0 ≤ k4 ∧ k4 < 65536 ∧ 0 ≤ k5 ∧ k5 < 65536) ?_ ?_ ?_
        · intro Q' hT hF
          clear hL hn n1 n2 n3 n4 n6 n7 hR6
          k_steps
          all_goals first | exact hT (by omega) _ | exact hF (by omega) _ | exact two_decB hT hF (by omega) (by omega)
        · intro hc tk9
          k_steps
          unfold LamAt
          with_unfolding_all refine lam_any (by assumption) (by assumption) P6 C6 rfl (by k_updF) hL (by walk_at "my ex") (by
            rintro d ((hd | ⟨q, hq, rfl⟩) | rfl)
            · rcases hd with rfl | rfl | rfl | rfl | rfl | rfl <;> exact ⟨_, by k_mem⟩
            · refine ⟨q.2, ?_⟩
              repeat (first | exact List.mem_append_right _ hq | refine List.Mem.tail _ ?_)
            · exact ⟨_, by k_mem⟩) hp.1 (hp.2 _ rfl) rfl rfl ?_
          intro f9 c9 oc9 vs9 tq9 ct9 h9 tk8 F9 N9 d19 d29 av9 l19 l29
          dsimp only at N9
          k_steps
          with_unfolding_all refine told_k (fun v => (0 ≤ k4 ∧ k4 < 65536 ∧ 0 ≤ k5 ∧ k5 < 65536) ∧ ∃ t, v = .int (65536 * k4 + k5) t) False (¬ (0 ≤ k4 ∧ k4 < 65536 ∧ 0 ≤ k5 ∧ k5 < 65536)) B6 F9 N9 XB TB D6 rfl (by k_mem) (by walk_at "my small") (by walk_at "my small") ?_ ?_ (fun h => h.elim) ?_
          · clear hL hn n1 n2 n3 n4 n6 n7 hR6 av9 F9 N9
            intro dp1 un1 gd1 cn1 cs1 a1 ccd1 cl1 outer1 A1 g1' L1 m1' s1 Q1 E1 B1' F1' X1' N1' T1' hk1 hd1 hu1 hl1 kv ks kf
            dsimp only [ktrTop, Around.deeper] at hd1 hu1
            replace hd1 : dp1 < 403 := q_le5 hd1 hdp rfl
            replace hu1 : un1 < 43 := q_le5 hu1 hun rfl
            refine wpAny_call ?_
            k_dflt (walk_at "lam enter")
            k_steps
            · exact kv _ _ _ _ ⟨⟨by assumption, _, int_turned⟩, rfl⟩ (by assumption) (by walk_at "my rest")
            · refine kf _ _ _ _ _ ⟨by assumption, rfl⟩ ?fb (raised_sub (by assumption) (fun p hp => ?_)) (by assumption)
              · assumption
              · (repeat (first | exact hp | refine List.Mem.tail _ ?_))
          · rintro v ⟨_, t, rfl⟩ r h' tk' h₀' l T F N B D X P
            k_steps
            exact num_end hR6 T6 T (by assumption) B D ⟨_, d6⟩ ⟨_, d9⟩ ⟨_, d3⟩ d2 ⟨_, d1⟩ d19 d29 av9 hn (by walk_at "my rest2")
          · intro hc'
            exact absurd hc hc'
        · intro hc tk9
          k_steps
          unfold LamAt
          with_unfolding_all refine lam_any (by assumption) (by assumption) P6 C6 rfl (by k_updF) hL (by walk_at "my ex") (by
            rintro d ((hd | ⟨q, hq, rfl⟩) | rfl)
            · rcases hd with rfl | rfl | rfl | rfl | rfl | rfl <;> exact ⟨_, by k_mem⟩
            · refine ⟨q.2, ?_⟩
              repeat (first | exact List.mem_append_right _ hq | refine List.Mem.tail _ ?_)
            · exact ⟨_, by k_mem⟩) hp.1 (hp.2 _ rfl) rfl rfl ?_
          intro f9 c9 oc9 vs9 tq9 ct9 h9 tk8 F9 N9 d19 d29 av9 l19 l29
          dsimp only at N9
          k_steps
          with_unfolding_all refine told_k (fun v => (0 ≤ k4 ∧ k4 < 65536 ∧ 0 ≤ k5 ∧ k5 < 65536) ∧ ∃ t, v = .int (65536 * k4 + k5) t) False (¬ (0 ≤ k4 ∧ k4 < 65536 ∧ 0 ≤ k5 ∧ k5 < 65536)) B6 F9 N9 XB TB D6 rfl (by k_mem) (by walk_at "my small") (by walk_at "my small") ?_ ?_ (fun h => h.elim) ?_
          · clear hL hn n1 n2 n3 n4 n6 n7 hR6 av9 F9 N9
            intro dp1 un1 gd1 cn1 cs1 a1 ccd1 cl1 outer1 A1 g1' L1 m1' s1 Q1 E1 B1' F1' X1' N1' T1' hk1 hd1 hu1 hl1 kv ks kf
            dsimp only [ktrTop, Around.deeper] at hd1 hu1
            replace hd1 : dp1 < 403 := q_le5 hd1 hdp rfl
            replace hu1 : un1 < 43 := q_le5 hu1 hun rfl
            refine wpAny_call ?_
            k_dflt (walk_at "lam enter")
            k_steps
            · exact kv _ _ _ _ ⟨⟨by assumption, _, int_turned⟩, rfl⟩ (by assumption) (by walk_at "my rest")
            · refine kf _ _ _ _ _ ⟨by assumption, rfl⟩ ?fc (raised_sub (by assumption) (fun p hp => ?_)) (by assumption)
              · assumption
              · (repeat (first | exact hp | refine List.Mem.tail _ ?_))
          · rintro v ⟨hc', t, rfl⟩
            exact absurd hc' hc
          · intro _ h' tk' h₀' t T F N B D X P
            k_steps
            exact num_end hR6 T6 T (by assumption) B D ⟨_, d6⟩ ⟨_, d9⟩ ⟨_, d3⟩ d2 ⟨_, d1⟩ d19 d29 av9 hn (by walk_at "my rest2")
      · intro I7 m7 nw7 h7 tk7 hJ7 hat7
        k_steps
        exact num_up hR5 hJ7 hat7 (fun o h => h) (fun o h => h) (fun o h => h) (fun o h => ⟨_, h⟩) (fun o h => h)
    · intro I8 m8 nw8 h8 tk8 hJ8 hat8
      obtain ⟨o6, o4, o3, o2, o1, ps, ex, _, _, _, _, _, hL8, hn8, rfl⟩ := hJ8
      obtain ⟨g8, T8, F8, N8, B8, D8⟩ := hat8
      k_steps
      (rename KtsTurn _ _ _ => kT); (rename Below _ _ _ _ => kB); (rename News _ L _ _ => kN); (rename Fr _ L _ _ => kF)
      obtain ⟨kF1, kN1⟩ := unturn kT kF kN
      exact ret _ _ _ _ _ _ _ kF1 (sub_news kN1 (List.forall_mem_cons.mpr ⟨(by (repeat (first | exact List.Mem.head _ | refine List.Mem.tail _ ?_ | refine List.mem_append_right _ ?_))), List.forall_mem_cons.mpr ⟨(by (repeat (first | exact List.Mem.head _ | refine List.Mem.tail _ ?_ | refine List.mem_append_right _ ?_))), fun p hp => by simp [hp]⟩⟩)) (by assumption)
end
example : True := by
  w_top off
  k_with_none
  trivial
example : True := by
  (k_with "my mem" => with_reducible (k_extra "my mem1"))
  (k_with "my mem1" => (first | exact List.Mem.head _ | (refine' List.Mem.tail _ ?_; k_extra "my mem1")))
  (k_with "my k_lt" => ((rename (∀ p : Addr × Obj, p ∈ _ → p.1 < _) => l1q); (replace l1q := allLt_of l1q); (simp only [AllLt, and_true] at l1q); (first | ((with_reducible refine spa15 l1q ?_); intro f0q f1q f2q f3q f4q f5q f6q f7q f8q f9q f10q f11q f12q f13q f14q) | ((with_reducible refine spa14 l1q ?_); intro f0q f1q f2q f3q f4q f5q f6q f7q f8q f9q f10q f11q f12q f13q) | ((with_reducible refine spa13 l1q ?_); intro f0q f1q f2q f3q f4q f5q f6q f7q f8q f9q f10q f11q f12q) | ((with_reducible refine spa12 l1q ?_); intro f0q f1q f2q f3q f4q f5q f6q f7q f8q f9q f10q f11q) | ((with_reducible refine spa11 l1q ?_); intro f0q f1q f2q f3q f4q f5q f6q f7q f8q f9q f10q) | ((with_reducible refine spa10 l1q ?_); intro f0q f1q f2q f3q f4q f5q f6q f7q f8q f9q) | ((with_reducible refine spa9 l1q ?_); intro f0q f1q f2q f3q f4q f5q f6q f7q f8q) | ((with_reducible refine spa8 l1q ?_); intro f0q f1q f2q f3q f4q f5q f6q f7q) | ((with_reducible refine spa7 l1q ?_); intro f0q f1q f2q f3q f4q f5q f6q) | ((with_reducible refine spa6 l1q ?_); intro f0q f1q f2q f3q f4q f5q) | ((with_reducible refine spa5 l1q ?_); intro f0q f1q f2q f3q f4q) | ((with_reducible refine spa4 l1q ?_); intro f0q f1q f2q f3q) | ((with_reducible refine spa3 l1q ?_); intro f0q f1q f2q) | ((with_reducible refine spa2 l1q ?_); intro f0q f1q) | ((with_reducible refine spa1 l1q ?_); intro f0q) | ((with_reducible refine spb12 l1q ?_); intro f0q f1q f2q f3q f4q f5q f6q f7q f8q f9q f10q f11q) | ((with_reducible refine spb11 l1q ?_); intro f0q f1q f2q f3q f4q f5q f6q f7q f8q f9q f10q) | ((with_reducible refine spb10 l1q ?_); intro f0q f1q f2q f3q f4q f5q f6q f7q f8q f9q) | ((with_reducible refine spb9 l1q ?_); intro f0q f1q f2q f3q f4q f5q f6q f7q f8q) | ((with_reducible refine spb8 l1q ?_); intro f0q f1q f2q f3q f4q f5q f6q f7q) | ((with_reducible refine spb7 l1q ?_); intro f0q f1q f2q f3q f4q f5q f6q) | ((with_reducible refine spb6 l1q ?_); intro f0q f1q f2q f3q f4q f5q) | ((with_reducible refine spb5 l1q ?_); intro f0q f1q f2q f3q f4q) | ((with_reducible refine spb4 l1q ?_); intro f0q f1q f2q f3q) | ((with_reducible refine spb3 l1q ?_); intro f0q f1q f2q) | ((with_reducible refine spb2 l1q ?_); intro f0q f1q) | skip); revert l1q))
  (k_with "my cj" => (first | with_reducible assumption | exact And.left (by with_reducible assumption) | exact And.left (And.right (by with_reducible assumption)) | exact And.left (And.right (And.right (by with_reducible assumption))) | exact And.left (And.right (And.right (And.right (by with_reducible assumption)))) | exact And.right (by with_reducible assumption) | exact And.right (And.right (by with_reducible assumption)) | exact And.right (And.right (And.right (by with_reducible assumption)))))
  (k_with "my lt" => (first | with_reducible assumption | exact Nat.lt_add_one _ | exact lt_r _ (by first | with_reducible assumption | exact Nat.lt_add_one _) | exact lt_r _ (lt_r _ (by first | with_reducible assumption | exact Nat.lt_add_one _)) | exact lt_r _ (lt_r _ (lt_r _ (by first | with_reducible assumption | exact Nat.lt_add_one _))) | exact lt_r _ (lt_r _ (lt_r _ (lt_r _ (by first | with_reducible assumption | exact Nat.lt_add_one _)))) | exact lt_r _ (lt_r _ (lt_r _ (lt_r _ (lt_r _ (by first | with_reducible assumption | exact Nat.lt_add_one _))))) | exact lt_r _ (lt_r _ (lt_r _ (lt_r _ (lt_r _ (lt_r _ (by first | with_reducible assumption | exact Nat.lt_add_one _))))))))
  (k_with "my ne" => (first | with_reducible assumption | exact Ne.symm (by with_reducible assumption) | (refine neN ?_; (try dsimp only); first | exact Nat.ne_of_gt (by k_extra "my lt") | exact Nat.ne_of_lt (by k_extra "my lt") | k_extra "my cj" | exact Ne.symm (by k_extra "my cj"))))
  (k_with "my om" => k_dflt (first | with_reducible assumption | ((with_reducible show @LT.lt Nat _ _ _); (first | exact q_lt0 (by with_reducible assumption) (by rfl) | exact q_lt1 (by with_reducible assumption) (by rfl) | exact q_lt2 (by with_reducible assumption) (by rfl) | exact q_lt3 (by with_reducible assumption) (by rfl) | exact q_le4 (by with_reducible assumption) (by rfl) | exact q_eq1 (by with_reducible assumption) (by rfl) | k_extra "my lt" | k_extra "my cj" | decide)) | ((with_reducible show @LE.le Nat _ _ _); (first | exact q_le0 (by with_reducible assumption) (by rfl) | exact q_le1 (by with_reducible assumption) (by rfl) | exact q_le2 (by with_reducible assumption) (by rfl) | exact q_le3 (by with_reducible assumption) (by rfl) | exact q_eq0 (by with_reducible assumption) (by rfl) | k_extra "my cj" | decide)) | ((with_reducible show @LT.lt Int _ _ _); (first | exact q_il0 (by with_reducible assumption) (by rfl) | exact q_il1 (by with_reducible assumption) (by rfl) | exact q_il3 (by with_reducible assumption) (by rfl) | k_extra "my cj" | decide)) | ((with_reducible show @LE.le Int _ _ _); (first | exact q_il2 (by with_reducible assumption) (by rfl) | k_extra "my cj" | decide)) | ((with_reducible show @Ne Nat _ _); k_extra "my ne") | decide))
  trivial
example : True := by
  (k_with "my in" => (repeat (first | exact List.Mem.head _ | refine List.Mem.tail _ ?_ | refine List.mem_append_right _ ?_)))
  (k_with "my at" => (repeat (first | assumption | exact List.mem_append_left _ (by assumption) | refine List.Mem.tail _ ?_ | refine List.mem_append_right _ ?_)))
  (k_with "my perm" => ((try simp only [List.cons_append, List.nil_append, List.append_assoc]); (repeat (refine List.forall_mem_cons.mpr ⟨?_, ?_⟩; (focus ((walk_at "my in"); done)))); first | exact List.forall_mem_nil _ | (intro q9 hq9; (try (have hq8 := List.mem_append.mp hq9; clear hq9; rcases hq8 with hq9 | hq9)); (all_goals (try (have hq7 := List.mem_cons.mp hq9; clear hq9; rcases hq7 with hq7 | hq9))); (all_goals (try (have hq7 := List.mem_cons.mp hq9; clear hq9; rcases hq7 with hq7 | hq9))); all_goals first | (subst hq7; walk_at "my in"; done) | (repeat (first | exact hq9 | exact List.mem_append_left _ hq9 | refine List.Mem.tail _ ?_ | refine List.mem_append_right _ ?_)))))
  (k_with "my bnd" => (first | omega | exact Int.lt_of_lt_of_le (by decide) (fmod_lo _ (by decide)) | exact Int.lt_trans (fmod_hi _ (by decide)) (by decide)))
  (k_with "binaryOp Mult int int" => (((with_reducible show wpAny _ _ (binaryOp Operator.Mult (Value.int _ _) (Value.int _ _)) _ _ _); refine mul_int ?_ (IntMulOk.of_left (intBits_le_64 ?mlo ?mhi)); (case mlo => walk_at "my bnd"); (case mhi => walk_at "my bnd"))))
  (k_with "binaryOp FloorDiv int int" => (((with_reducible show wpAny _ _ (binaryOp Operator.FloorDiv (Value.int _ _) (Value.int _ _)) _ _ _); refine floordiv_int ?fne ?_ (Or.inl (PyProof.noPylong_of_log2 (log2_small ?flo ?fhi))); (case fne => omega); (case flo => omega); (case fhi => omega))))
  (k_with "execs cons" => ((k_here; refine fold_stmt ?_; intro qk sk)))
  trivial
example : True := by
  (k_with "eval Name" => ((k_here; k_dflt (first
    | (refine' name_l ?F ?e ?v ?a ?b ?d ?_; (case F => k_asm); (case e => rfl); (case b => rfl); (case v => rfl); (case a => rfl); (case d => decide); k_whole)
    | (refine' nameX_K ?F ?X ?T ?e ?_ ?a ?b; (case F => k_asm); (case b => rfl); (case X => k_asm); (case T => k_asm); (case a => rfl); (case e => k_is); k_whole)
    | (refine' nameX_B ?F ?X ?T ?e ?v ?n ?_ ?a ?b; (case F => k_asm); (case b => rfl); (case X => k_asm); (case T => k_asm); (case a => rfl); (case e => k_is); (case v => boot_fast); (case n => decide); k_whole)))))
  (k_with "storeName" => ((k_here; k_dflt (refine' store_l ?F ?N ?e ?a ?b ?_; (case F => k_asm); (case N => k_asm); (case e => rfl); (case a => rfl); (case b => rfl); k_whole; intro h' mk F' N'; (try k_sweep)))))
  trivial
example : True := by
  (k_with "my steps" => (repeat' (first | ((try k_unmd); k_unfold; (try dsimp only)) | (k_end; wrow_close) | walk1 | (dsimp only; walk1) | (leave1; walk_say "STEP leave1"; try dsimp only) | fail "no step")))
  (k_with "my fold0" => ((refine fold_entry ?_; intro Ak envk qk ek sk; (rename Fr _ _ _ _ => kF); (refine fr_let kF ?_); clear kF; intro mk kF)))
  (k_with "my units" => ((have hcL9 := cLine_is; (simp (config := { zetaDelta := true }) only [units_in1, units_deeper, Around.mark_units, units_caller, ktrTop]); omega)))
  (k_with "my room" => (((simp (config := { zetaDelta := true }) only [depth_under_make, depth_under_kw, depth_in1, depth_deeper, depth_caller, ktrTop, recursionLimit]); omega)))
  (k_with "callWith ref" => (k_here; k_dflt (first
    | (refine' callWith_K ?k1 ?k2 ?_; (case k1 => with_reducible assumption); (case k2 => k_is); k_whole)
    | (refine' callw_0 ?k0 ?k1 ?k2 ?_; (case k0 => with_reducible assumption); (case k1 => with_reducible assumption); (case k2 => k_is); k_whole)
    | (refine' callw_m0 ?k0 ?kN ?k1 ?kq ?k2 ?_; (case k0 => with_reducible assumption); (case kN => with_reducible assumption); (case k1 => with_reducible assumption); (case kq => k_mem); (case k2 => k_is); k_whole; try dsimp only [List.nil_append, List.cons_append])
    | (refine' callWith_M ?k1 ?k2 ?k3 ?k4 ?_; (case k1 => with_reducible assumption); (case k2 => with_reducible assumption); (case k3 => k_mem); (case k4 => k_is); k_whole)
    | (refine' callWith_KW ?k1 ?k2 ?k3 ?_; (case k1 => with_reducible assumption); (case k2 => k_is); (case k3 => exact rfl); k_whole)
    | (refine' callWith_KW0 ?k1 ?k2 ?k3 ?_; (case k1 => with_reducible assumption); (case k2 => k_is); (case k3 => exact rfl); k_whole))))
  (k_with "compareOp IsNot ref ref" => (k_here; first | (with_reducible refine isnot_ref_same ?_) | refine wpAny_isNot_ref_self ?_))
  (k_with "my stop" => ((rename Mark => mk9); clear mk9; refine stop_at ?_))
  (k_with "subscriptTail" => (k_extra "my stop"))
  (k_with "getMethod ref" => (k_extra "my stop"))
  trivial
example : True := by
  (k_with "my small" => (first | omega | ((try simp (config := { zetaDelta := true }) only [depth_under_make, depth_under_kw, depth_in1, depth_deeper, depth_caller, units_in1, units_deeper, Around.mark_units, units_caller]); (try simp (config := { zetaDelta := true }) only [ktrTop]); first | omega | decide)))
  (k_with "exec Raise some none" => ((k_here; (with_reducible show wpAny _ _ (exec (Stmt.Raise (some (Expr.Call (Expr.Name ("FormError" : Str) _) _ _ _)) none _) _) _ _ _); k_dflt (refine raise_form (by assumption) (by first | assumption | with_unfolding_all rfl) ?_))))
  (k_with "exec Raise some none" => ((k_here; (with_reducible show wpAny _ _ (exec (Stmt.Raise (some (Expr.Call (Expr.Name ("SizeError" : Str) _) _ _ _)) none _) _) _ _ _); k_dflt (refine raise_size (by assumption) (by first | assumption | with_unfolding_all rfl) ?_))))
  (k_with "call ref" => ((k_here; first
  | ((with_reducible show wpAny _ _ (call (Value.ref 51) [Value.str _ _]) _ _ _); (refine' make_form ?kF ?kX ?kN ?kh ?kf ?kd ?ku ?_); (case kF => assumption); (case kX => assumption); (case kN => assumption); (case kh => with_unfolding_all exact rfl); (case kf => with_unfolding_all exact rfl); (case kd => walk_at "my small"); (case ku => walk_at "my small"); k_whole; intro e' o' h' tk' hx' F' N' ne')
  | ((with_reducible show wpAny _ _ (call (Value.ref 63) [Value.str _ _]) _ _ _); (refine' make_size ?kF ?kX ?kN ?kh ?kf ?kd ?ku ?_); (case kF => assumption); (case kX => assumption); (case kN => assumption); (case kh => with_unfolding_all exact rfl); (case kf => with_unfolding_all exact rfl); (case kd => walk_at "my small"); (case ku => walk_at "my small"); k_whole; intro e' o' h' tk' hx' F' N' ne'))))
  (k_with "OwnUp ref" => ((refine ⟨_, _, rfl, by assumption, Frag.In.keeps (by assumption) (Fr.keep (by assumption)), (News.get (by assumption) (.head _)), ?_⟩)))
  (k_with "leaving ref" => ((k_here; first
  | ((refine' leave_led ?kB ?kf ?kk ?kF ?kN ?kx ?kn ?_); (case kx => assumption); (case kF => assumption); (case kN => assumption); (case kB => assumption); (case kf => with_unfolding_all exact rfl); (case kk => first | assumption | with_unfolding_all exact rfl); (case kn => assumption); k_whole; intro h' R' U'; (try dsimp only at R' U' ⊢))
  | ((refine' leave_up ?kB ?kf ?kF ?kR ?kU ?_); (case kR => assumption); (case kF => assumption); (case kB => assumption); (case kf => with_unfolding_all exact rfl); (case kU => assumption); k_whole; intro h' R' U'; (try dsimp only at R' U' ⊢)))))
  (k_with "turn enter" => ((refine' code_T ?k1 ?k2 ?k3 ?k4 ?k5 ?kD ?kA ?kF ?kK ?k6 ?k7 ?k8 ?k9 ?kB ?_ ?c2 ?c3 ?c4 ?c5; (case kA => exact rfl); (case kF => exact rfl); (case kK => assumption); (case k1 => k_asm); (case k2 => k_asm); (case k3 => k_asm); (case k4 => k_asm); (case k5 => k_asm); (case kD => assumption); (case k6 => k_is); (case k7 => k_is); (case k8 => ktr_room); (case k9 => exact BindsTo.of_eq rfl); (case c5 => decide); (case kB => exact locs rfl); (case c2 => exact rfl); (case c3 => exact rfl); (case c4 => exact rfl); k_whole; intro g' L' h' FG' F' N' B' X' T' D' l1; (try dsimp only); (try k_lift B'); (try k_fold))))
  (k_with "my size" => ((rw [KBw.ints_length]; first | omega | (simp only [Array.size_append]; omega))))
  (k_with "subscriptTail" => ((k_here; (with_reducible show wpAny _ _ (subscriptTail _ (Expr.Slice _ _ none _) (Value.bytes _ _) (Value.ref _)) _ _ _); (with_reducible rename Fr _ _ _ _ => F'); (with_reducible rename News _ _ _ _ => N'); (refine KBc.slice_K (s := ⟨_, _, _, _, _⟩) F' N' rfl (by constructor) (by constructor) (by walk_at "my size") ?_); intro _ _ _ _ _ _)))
  (k_with "turn enter cells" => ((refine' code_TC ?k1 ?k2 ?k3 ?k4 ?k5 ?kG ?kA ?kF ?kK ?k6 ?k7 ?k8 ?k9 ?kB ?kD ?_ ?c2 ?c3 ?c4; (case kA => exact rfl); (case kF => exact rfl); (case kK => assumption); (case k1 => k_asm); (case k2 => k_asm); (case k3 => k_asm); (case k4 => k_asm); (case k5 => k_asm); (case kG => assumption); (case k6 => k_is); (case k7 => k_is); (case k8 => ktr_room); (case k9 => exact BindsTo.of_eq rfl); (case kB => exact rfl); (case kD => decide +kernel); (case c2 => exact rfl); (case c3 => exact rfl); (case c4 => exact rfl); k_whole; intro g' L' h' tk' cells' FG' F' N' Y' B' X' T' D' l1; (try k_lt l1); (have l9 := l1); (repeat (replace l9 := And.right l9)); k_cells Y'; (try simp only [List.cons_append, List.nil_append] at N'); (first | (refine fr_one F' (by rfl) ?_; clear F'; intro F') | (refine fr_cell F' (by rfl) ?_; clear F'; intro F')); (try dsimp only); (try k_lift B'); (try k_fold))))
  (k_with "LeaveT" => ((k_dflt (refine' leaveT ?F ?N ?T ?_; (case F => k_asm); (case N => k_asm); (case T => first | assumption | exact KtsTurn.refl); k_whole); intro kg kT kF kN kB kD; (try dsimp only))))
  trivial
example : True := by
  (k_with "my all" => (first | exact ne_all (by assumption) (Nat.le_refl _) | exact ne_all (by assumption) (Nat.le_of_lt (by assumption)) | exact ne_all (by assumption) (by omega)))
  trivial
example : True := by
  (k_with "call type:bytes" => ((k_here; (with_reducible show wpAny _ _ (call (Value.type "bytes") [Value.bytes _ _]) _ _ _); refine MB.call_b ?_)))
  (k_with "call type:bytes" => ((k_here; (with_reducible show wpAny _ _ (call (Value.type "bytes") [Value.int _ _]) _ _ _); (refine MB.call_i ?bi0 ?bi1 ?_); (case bi0 => omega); (case bi1 => omega); intro _ _)))
  (k_with "lam enter" => ((refine' kla_code ?k1 ?k2 ?k3 ?k4 ?k5 ?kA ?kF ?kK ?k6 ?k7 ?k8 ?k9 ?kB ?_ ?c2 ?c3 ?c4 ?c5; (case kA => exact rfl); (case kF => exact rfl); (case kK => assumption); (case k1 => k_asm); (case k2 => k_asm); (case k3 => k_asm); (case k4 => k_asm); (case k5 => k_asm); (case k6 => k_mem); (case k7 => exact codeRec_news (by k_asm) (by k_mem) (by assumption) (by assumption)); (case k8 => ktr_room); (case k9 => exact rfl); (case c5 => decide); (case kB => exact locs rfl); (case c2 => exact rfl); (case c3 => exact rfl); (case c4 => exact rfl); k_whole; intro g' L' h' FG' F' N' B' X' T'; (try dsimp only); (try k_lift B'); (try k_fold))))
  (k_with "my sub" => ((refine sub_news (by assumption) ?_; (repeat (refine List.forall_mem_cons.mpr ⟨?_, ?_⟩; (focus ((k_mem); done)))); first | exact List.forall_mem_nil _ | (intro _ hp9; (repeat (first | exact hp9 | refine List.Mem.tail _ ?_))))))
  (k_with "same item" => (first | exact MQ.at_bytes _ _ _ | exact MQ.at_int _ _ _))
  (k_with "compareOp NotEq ref ref" => ((k_here; k_dflt (refine MQ.ne_list1 (News.isList (by assumption) (by k_mem)) (News.isList (by assumption) (by k_mem)) (by ktr_units) (by walk_at "same item") ?_))))
  trivial
example : True := by
  (k_with "call ref" => ((k_here; (with_reducible show wpAny _ _ (call (Value.ref 500) [Value.ref _, Value.int _ _]) _ _ _); (with_unfolding_all refine take_U (by assumption) (by assumption) (by assumption) (by assumption) (by k_updF) (by assumption) (by first | assumption | exact rfl) (by walk_at "my small") (by walk_at "my small") (by walk_at "my bnd") (by walk_at "my bnd") (by first | assumption | omega) ?_); intro d' x' y' td' tx' ty' h' tk' F' N' hd1' hd2' hx'; (try dsimp only at N'); (try k_sweep))))
  (k_with "my item" => ((refine item_at (by assumption) (by k_mem) (by assumption) (by assumption) (by assumption) ?_; intro _ hv')))
  (k_with "exec For Name Call cons nil" => ((k_here; k_dflt (refine For_from ?_))))
  (k_with "exec For Name List cons nil" => ((k_here; k_dflt (refine For_from ?_))))
  (k_with "binaryOp Add" => ((k_here; (with_reducible show wpAny _ _ (binaryOp Operator.Add (Value.ref _) (Value.ref _)) _ _ _); k_dflt (refine' menu_K ?mF ?mN ?ml ?mP ?mi ?mc ?mz ?_; (case mF => assumption); (case mN => assumption); (case ml => k_mem); (case mP => assumption); (case mi => repeat constructor); (case mc => assumption); (case mz => decide)); intro h' d' items' F' N' l1 hI'; (try k_lt l1))))
  (k_with "call builtin:list.append" => ((k_here; (with_reducible show wpAny _ _ (call (Value.builtin _) [Value.ref _, _]) _ _ _); k_dflt (refine' append_K ?k1 ?k2 ?k3 ?_ ?z; (case k1 => k_asm); (case k2 => k_asm); (case k3 => k_upd); (case z => rw [sizeLine_eq]; omega); k_whole); intro h' F' N'; (try k_sweep))))
  trivial
example : True := by
  (k_with "my ne2" => (first | k_extra "my ne" | (k_dflt (refine ne_cls (by assumption) (by k_mem) (by k_mem) rfl rfl (by decide))) | (refine neN ?_; (try dsimp only); omega (config := {}))))
  trivial
example : True := by
  (k_with "newTuple" => ((k_here; k_dflt (refine' kup_newTuple ?F ?N ?_ ?z; (case F => k_asm); (case N => k_asm); (case z => kmk_size)); intro D' h' F' N' l1; (try k_lt l1); (try k_sweep))))
  (k_with "exec For Tuple Name cons nil" => ((k_here; k_dflt (refine For_from ?_))))
  (k_with "my tup" => (exact tup_at (by assumption) (by k_mem)))
  (k_with "compareOp NotEq ref ref" => ((k_here; k_dflt (refine MQ.ne_tuple2 (by walk_at "my tup") (by walk_at "my tup") (by ktr_units) (by walk_at "same item") (by walk_at "same item") ?_))))
  (k_with "compareOp Eq ref ref" => ((k_here; k_dflt (refine eq_tuple2 (by walk_at "my tup") (by walk_at "my tup") (by ktr_units) (by walk_at "same item") (by walk_at "same item") ?_))))
  trivial
example : True := by
  (k_with "binaryOp RShift int int" => (first | refine shr8 ?_ | refine shr16 ?_))
  (k_with "binaryOp BitAnd int int" => (first | refine and8 ?_ | refine and16 ?_ | (refine and_any (by decide) ?_; intro r' hr0' hr1')))
  (k_with "binaryOp LShift int int" => (first | refine shl8 (by walk_at "my bnd") (by walk_at "my bnd") ?_ | refine shl16 (by walk_at "my bnd") (by walk_at "my bnd") ?_))
  (k_with "binaryOp BitOr int int" => (first | refine or8 (by walk_at "my bnd") (by walk_at "my bnd") (by walk_at "my bnd") ?_ | refine or16 (by walk_at "my bnd") (by walk_at "my bnd") (by walk_at "my bnd") ?_))
  (k_with "my idx" => (((try simp only [List.length_append, List.length_cons, List.length_nil, List.length_take, List.length_drop, List.length_map]); omega)))
  (k_with "my enter" => ((refine' code_def ?k1 ?k2 ?k3 ?k4 ?k5 ?kA ?kF ?kK ?k6 ?k7 ?k8 ?k9 ?kB ?_ ?c2 ?c3 ?c4 ?c5; (case kA => exact rfl); (case kF => exact rfl); (case kK => assumption); (case k1 => k_asm); (case k2 => k_asm); (case k3 => k_asm); (case k4 => k_asm); (case k5 => k_asm); (case k6 => k_is); (case k7 => k_is); (case k8 => ktr_room); (case k9 => first | exact BindsTo.of_eq rfl | exact binds_K (by k_in) rfl (by k_is) rfl rfl rfl); (case c5 => decide); (case kB => exact locs rfl); (case c2 => exact rfl); (case c3 => exact rfl); (case c4 => exact rfl); k_whole; intro g' L' h' FG' F' N' B' X' T'; (try dsimp only); (try k_lift B'); (try k_fold))))
  (k_with "call ref" => ((k_here; (with_reducible show wpAny _ _ (call (Value.ref 316) _) _ _ _); k_dflt (refine' ip_made ?B ?F ?X ?N ?T ?k ?d ?u ?b ?_; (case B => k_asm); (case F => k_asm); (case X => k_asm); (case N => k_asm); (case T => k_asm); (case k => first | assumption | exact rfl); (case d => walk_at "my small"); (case u => walk_at "my small"); (case b => (refine' binds_of ?h0 ?hb; (case h0 => k_is); (case hb => (intro s9 x9 X9; first | exact BindsTo.of_eq rfl | exact binds_K (by k_in) rfl (by k_is) rfl rfl rfl)))); k_whole); intro x' d' h' tk' e1' e2' e3' e4' e5' e6' e7' e8' e9' e10' t1' t2' t3' t4' t5' t6' t7' t8' t9' t10' F' N' l1 l2; (try k_lt l1); (try k_sweep))))
  (k_with "call ref" => ((k_here; (with_reducible show wpAny _ _ (call (Value.ref 231) _) _ _ _); k_dflt (refine' im_made ?B ?F ?X ?N ?T ?k ?d ?u ?b ?_; (case B => k_asm); (case F => k_asm); (case X => k_asm); (case N => k_asm); (case T => k_asm); (case k => first | assumption | exact rfl); (case d => walk_at "my small"); (case u => walk_at "my small"); (case b => (refine' binds_of ?h0 ?hb; (case h0 => k_is); (case hb => (intro s9 x9 X9; first | exact BindsTo.of_eq rfl | exact binds_K (by k_in) rfl (by k_is) rfl rfl rfl)))); k_whole); intro x' d' h' tk' e1' e2' e3' e4' t1' t2' t3' t4' F' N' l1 l2; (try k_lt l1); (try k_sweep))))
  trivial
example : True := by
  (k_with "call ref" => ((k_here; (with_reducible show wpAny _ _ (call (Value.ref 128) [Value.int _ _]) _ _ _); (with_unfolding_all refine put16_c (by assumption) (by assumption) (by assumption) (by assumption) (by assumption) (by first | assumption | exact rfl) (by walk_at "my small") (by walk_at "my small")  ?_); intro b' t' h' tk' hb' F' N'; (try k_sweep))))
  (k_with "call ref" => ((k_here; (with_reducible show wpAny _ _ (call (Value.ref 135) [Value.int _ _]) _ _ _); (with_unfolding_all refine put32_c (by assumption) (by assumption) (by assumption) (by assumption) (by assumption) (by first | assumption | exact rfl) (by walk_at "my small") (by walk_at "my small")  ?_); intro b' t' h' tk' hb' F' N'; (try k_sweep))))
  (k_with "call ref" => ((k_here; (with_reducible show wpAny _ _ (call (Value.ref 149) [Value.bytes _ _, Value.int _ _]) _ _ _); (with_unfolding_all refine get16_c (by assumption) (by assumption) (by assumption) (by assumption) (by assumption) (by first | assumption | exact rfl) (by walk_at "my small") (by walk_at "my small") (by assumption) (by walk_at "my bnd") (by walk_at "my idx") (by walk_at "my idx") ?_); intro r' t' h' tk' hr' F' N'; have hr2' := hr'.2; (try k_sweep))))
  (k_with "call ref" => ((k_here; (with_reducible show wpAny _ _ (call (Value.ref 156) [Value.bytes _ _, Value.int _ _]) _ _ _); (with_unfolding_all refine get32_c (by assumption) (by assumption) (by assumption) (by assumption) (by assumption) (by first | assumption | exact rfl) (by walk_at "my small") (by walk_at "my small") (by assumption) (by walk_at "my bnd") (by walk_at "my idx") (by walk_at "my idx") ?_); intro r' t' h' tk' hr' F' N'; have hr2' := hr'.2; (try k_sweep))))
  (k_with "exec While Compare cons nil" => ((k_here; k_dflt (refine while_stop ?_))))
  (k_with "call ref" => ((k_here; (with_reducible show wpAny _ _ (call (Value.ref 163) [Value.int _ _]) _ _ _); (with_unfolding_all refine fold_c (by assumption) (by assumption) (by assumption) (by assumption) (by assumption) (by first | assumption | exact rfl) (by walk_at "my small") (by walk_at "my small") (by first | assumption | omega) ?_); intro r' t' h' tk' hr' F' N'; (try k_sweep))))
  (k_with "call ref" => ((k_here; (with_reducible show wpAny _ _ (call (Value.ref 171) [Value.bytes _ _, Value.int 0 _]) _ _ _); (with_unfolding_all refine ones_c (by assumption) (by assumption) (by assumption) (by assumption) (by assumption) (by first | assumption | exact rfl) (by walk_at "my small") (by walk_at "my small") (by assumption) (by walk_at "my idx") ?_); intro r' t' h' tk' hr' F' N'; (try k_sweep))))
  (k_with "call ref" => ((k_here; (with_reducible show wpAny _ _ (call (Value.ref 179) [Value.bytes _ _]) _ _ _); (with_unfolding_all refine check_c (by assumption) (by assumption) (by assumption) (by assumption) (by assumption) (by first | assumption | exact rfl) (by walk_at "my small") (by walk_at "my small") (by assumption) (by walk_at "my idx") ?_); intro r' t' h' tk' hr' F' N'; (try k_sweep))))
  trivial
example : True := by
  (k_with "call type:bytes" => ((k_here; (with_reducible show wpAny _ _ (call (Value.type "bytes") [Value.ref _]) _ _ _); k_dflt (refine' bytes_range ?bF ?bN ?bh ?bR ?b0 ?b1 ?b2 ?_; (case bF => assumption); (case bN => assumption); (case bh => exact rfl); (case bR => assumption); (case b0 => omega); (case b1 => omega); (case b2 => omega)); intro bs' h' t' tk' hbs' F' N'; (try k_sweep))))
  (k_with "eval Lambda" => ((k_here; k_dflt (refine lam_stop ?_))))
  (k_with "call builtin:len" => ((k_here; (with_reducible show wpAny _ _ (call (Value.builtin "len") [Value.bytes _ _]) _ _ _); (refine len_bytes (by omega) ?_))))
  trivial
example : True := by
  (k_with "exec For Name Tuple cons nil" => ((k_here; k_dflt (refine For_from ?_))))
  (k_with "binaryOp FloorDiv int int" => ((refine div_pos9 ?da ?db ?_; (case da => decide); (case db => decide))))
  (k_with "binaryOp Mod int int" => ((refine mod_pos9 ?da ?_; (case da => decide))))
  (k_with "call builtin:len" => ((k_here; (with_reducible show wpAny _ _ (call (Value.builtin "len") [Value.bytes #[] _]) _ _ _); (refine len_nil9 ?_); intro _)))
  trivial
example : True := by
  (k_with "my fold" => (refine fold_any ?_; intro Ak qk ek sk))
  (k_with "my refold" => ((try k_unmd); (try k_unfold); (try dsimp only); (try k_fold)))
  trivial
section
theorem comp_ind {prog : Program} {w : World} {A : Around} {h₀ : Heap} {L : Addr} {m : Str → Option Value} {env : Env} {elt : Expr} {x : Str} {scope : Scope} {cl : List (Str × Addr)} {s : Shared} {S : List (Addr × Obj) → Prop} {P : Nat → Value → Prop} {Fin : List Value → List (Addr × Obj) → Prop} (n : Nat) (Inv : Nat → List Value → List (Addr × Obj) → Prop)
    (fin : ∀ ys nw, Inv n ys nw → Fin ys nw)
    (step : ∀ i ys nw, i < n → Inv i ys nw → ∀ v I oI C oC D m₂ h tk (E' : Value → Shared → Prop), P i v → LCg.NsObj oC m₂ → m₂ x = some v → Fr h₀ L h m → News h₀ L h ((I, oI) :: (C, oC) :: (D, LCg.lst ys) :: nw) → LCg.Off3 I C D nw → ((@Ne Nat I C) ∧ (@Ne Nat I D) ∧ (@Ne Nat C D)) →
      wpAny (model prog w) A (eval elt (compEnvC scope cl C env)) (LCg.CompEnd h₀ L m { s with heap := h, toks := tk } I oI C oC D (LCg.lst ys) S (fun y news' => Inv (i + 1) (ys ++ [y]) news')) E' { s with heap := h, toks := tk }) :
    ∀ k i ys nw, i + k = n → Inv i ys nw → LCg.CompRest prog w A h₀ L m env elt x scope cl s S P Fin k i ys nw := by
  intro k
  induction k with
  | zero =>
    intro i ys nw h hi
    obtain rfl : i = n := h
    exact LCg.CompRest.zero (fin _ _ hi)
  | succ k ih =>
    intro i ys nw h hi
    refine LCg.CompRest.succ fun v I oI C oC D m₂ hh tk E' hP hC hx F N off ne => wpAny_mono (step i ys nw (by omega) hi v I oI C oC D m₂ hh tk E' hP hC hx F N off ne) (fun y s₂ h₂ => ?_) fun _ _ e => e
    obtain ⟨h', tk', news', e, F', N', off', hS, r⟩ := h₂
    exact ⟨h', tk', news', e, F', N', off', hS, ih (i + 1) _ _ (by omega) r⟩
inductive Drawn (c3 c2 c1 : Addr) (o3 o2 o1 : Obj) (src : Addr) (n : Nat) (post : List (Addr × Obj)) (i : Nat) (ys : List Value) (nw : List (Addr × Obj)) : Prop
  | mk (x : Int) (y : Int) (tx : Tok) (ty : Tok) (ns : List Int) (h1 : 0 ≤ x) (h2 : IntsAre ys ns) (h3 : ns.length = i) (h4 : (∀ v ∈ ns, 0 ≤ v ∧ v < 256)) (h5 : nw = (c3, o3) :: (c2, o2) :: (c1, o1) :: (src, W.listOf #[.int x tx, .int y ty] n) :: post) : Drawn c3 c2 c1 o3 o2 o1 src n post i ys nw
def Any1 (o : Obj) : Prop := ∃ v, o.data = .cell v
def Ne3 (c3 c2 : Addr) (l : List (Addr × Obj)) : Prop := (∀ q ∈ l, q.1 ≠ c3) ∧ (∀ q ∈ l, q.1 ≠ c2) ∧ ∀ q ∈ l, q.1 ≠ 537
def Off2 (c3 c2 : Addr) (rest : List (Addr × Obj)) (d : Addr) : Prop := (d = c3 ∨ d = c2 ∨ d = 537) ∨ ∃ q ∈ rest, q.1 = d
inductive JAbt (c3 c2 : Addr) (o3 : Obj) (line col : Nat) (p0 : Array Value) (rest : List (Addr × Obj)) (I : Addr) (nw : List (Addr × Obj)) : Prop
  | mk (o2 : Obj) (ps : Array Value) (ex : List (Addr × Obj)) (h1 : Any1 o2) (h2 : Lam "_law_about_right.<locals>.<lambda>" line col p0 (fun d => Off2 c3 c2 rest d ∨ d = I) ps ex) (h3 : Ne3 c3 c2 (ex ++ rest)) (h4 : nw = (c3, o3) :: (c2, o2) :: (537, tabObj ps) :: (ex ++ rest)) : JAbt c3 c2 o3 line col p0 rest I nw
theorem list_abt {prog : Program} {w : World} {A : Around} {E : Value → Shared → Prop} {s : Shared} {A₀ : Around} {base g₀ : Heap} {outer : List Env} {m : Str → Option Value} {env : Env} {target : Expr} {body : List Stmt} {Q : Flow → Shared → Prop}
    {L : Addr} {g : Heap} {l c2 c3 : Addr} {o3 o2 : Obj} {items : Array Value} {ns : List Int} {nn line col : Nat} {all : List (Addr × Obj)} (V : (Str → Option Value) → Prop) (rest : List (Addr × Obj))
    (hh : A.handled = none) (T : KtsTurn (frs outer) g₀ g) (F : Fr g L s.heap m) (N : News g L s.heap all) (B : Below A₀ base outer g) (D : KtsDicts (frs outer) g) (hl : (l, W.listOf items nn) ∈ rest) (hi : IntsAre items.toList ns)
    (sub : ∀ q ∈ (c3, o3) :: (c2, o2) :: (537, tabObj #[]) :: rest, q ∈ all) (hV : V m) (h2 : Any1 o2) (hne : Ne3 c3 c2 rest)
    (step : ∀ (I : Addr) (k : Int) (t : Tok) (m : Str → Option Value) (nw : List (Addr × Obj)) (it : Obj) (s' : Shared) (R : Flow → Shared → Prop), @LT.lt Nat _ c3 I → k ∈ ns → V m → JAbt c3 c2 o3 line col #[] rest I nw → At A₀ base outer g₀ L m ((I, it) :: nw) s'.heap →
      (∀ m' nw' h' tk', V m' → JAbt c3 c2 o3 line col #[] rest I nw' → At A₀ base outer g₀ L m' ((I, it) :: nw') h' → R .next { s' with heap := h', toks := tk' }) →
      wpAny (model prog w) A (assign target env (.int k t)) (fun _ s₂ => wpAny (model prog w) A (execs body env) R (fun _ _ => False) s₂) (fun _ _ => False) s')
    (done : ∀ I m nw h tk, V m → JAbt c3 c2 o3 line col #[] rest I nw → At A₀ base outer g₀ L m nw h → Q .next { s with heap := h, toks := tk }) : ForFrom (model prog w) A target body env Q E (.ref l) s := by
  refine list_at ((c3, o3) :: (c2, o2) :: (537, tabObj #[]) :: rest) (fun I _ m nw => V m ∧ JAbt c3 c2 o3 line col #[] rest I nw) hh (sub (l, W.listOf items nn) (.tail _ (.tail _ (.tail _ hl)))) T F N B D sub ?_ ?_ ?_ ?_ (fun I _ m nw h tk hj hat => done I m nw h tk hj.1 hj.2 hat)
  · rintro I hI i m nw ⟨_, o2', ps', ex', _, hL', _, rfl⟩ q hq
    rcases List.mem_cons.mp hq with rfl | hq
    · exact Nat.ne_of_lt (hI (c3, o3) (.head _))
    · rcases List.mem_cons.mp hq with rfl | hq
      · exact Nat.ne_of_lt (hI (c2, o2) (.tail _ (.head _)))
      · rcases List.mem_cons.mp hq with rfl | hq
        · exact Nat.ne_of_lt (hI (537, tabObj #[]) (.tail _ (.tail _ (.head _))))
        · rcases List.mem_append.mp hq with hq | hq
          · exact hL'.apart (.inr rfl) q hq
          · exact Nat.ne_of_lt (hI q (.tail _ (.tail _ (.tail _ hq))))
  · rintro I i m nw ⟨_, o2', ps', ex', _, hL', _, rfl⟩
    exact .tail _ (.tail _ (.tail _ (List.mem_append_right _ hl)))
  · intro I hI
    exact ⟨hV, o2, #[], [], h2, .inl ⟨rfl, rfl⟩, hne, rfl⟩
  · intro I hI i v m nw it h tk hv hj hat
    obtain ⟨k, t, rfl, hk⟩ := IntsAre.at hi i v (by simpa using hv)
    exact step I k t m nw it { s with heap := h, toks := tk } (TurnStep A₀ base outer g₀ L [(I, it)] (fun m nw => V m ∧ JAbt c3 c2 o3 line col #[] rest I nw) s Q) (hI (c3, o3) (.head _)) (List.mem_of_getElem? hk) hj.1 hj.2 hat
      fun m' nw' h' tk' hv' hj' hat' => ⟨m', nw', h', tk', rfl, ⟨hv', hj'⟩, hat'⟩
theorem abt_end {s' : Shared} {R : Flow → Shared → Prop} {A₀ : Around} {base g₀ : Heap} {outer : List Env} {L I : Addr} {it : Obj} {g2 g h' : Heap} {tk' : Nat} {m' : Str → Option Value} {c2 c3 c9 : Addr} {o3 o2 oc9 : Obj} {vs9 : Array Value} {tq9 : Tok} {line col : Nat} {p0 : Array Value} {ex rest : List (Addr × Obj)} {V : (Str → Option Value) → Prop}
    (hR : ∀ m' nw' h' tk', V m' → JAbt c3 c2 o3 line col p0 rest I nw' → At A₀ base outer g₀ L m' ((I, it) :: nw') h' → R .next { s' with heap := h', toks := tk' }) (hV : V m')
    (T : KtsTurn (frs outer) g₀ g2) (T' : KtsTurn (frs outer) g2 g) (F : Fr g L h' m') (B : Below A₀ base outer g) (D : KtsDicts (frs outer) g) (h2 : Any1 o2)
    (hd : oc9.data = .fields vs9) (hv : vs9[1]? = some (.str "_law_about_right.<locals>.<lambda>" tq9)) (ha : ∀ d, Off2 c3 c2 rest d ∨ d = I → c9 ≠ d) (hn : Ne3 c3 c2 (ex ++ rest))
    (N : News g L h' ((I, it) :: (c3, o3) :: (c2, o2) :: (537, tabObj (p0 ++ #[rawInt line, rawInt col, .ref c9])) :: ([(c9, oc9)] ++ rest))) : R .next { s' with heap := h', toks := tk' } :=
  hR m' _ h' tk' hV ⟨o2, _, [(c9, oc9)], h2, .inr ⟨c9, oc9, vs9, tq9, rfl, rfl, hd, hv, ha⟩,
    ⟨List.forall_mem_cons.mpr ⟨ha _ (.inl (.inl (.inl rfl))), fun q hq => hn.1 q (List.mem_append_right _ hq)⟩, List.forall_mem_cons.mpr ⟨ha _ (.inl (.inl (.inr (.inl rfl)))), fun q hq => hn.2.1 q (List.mem_append_right _ hq)⟩, List.forall_mem_cons.mpr ⟨ha _ (.inl (.inl (.inr (.inr rfl)))), fun q hq => hn.2.2 q (List.mem_append_right _ hq)⟩⟩, rfl⟩ ⟨g, T.trans T', F, N, B, D⟩
theorem sub_abt {l c2 c3 : Addr} {ol o2 o3 tb : Obj} {a b c d e so : Addr × Obj} {P : Addr} {news : List (Addr × Obj)} :
    ∀ q ∈ (c3, o3) :: (c2, o2) :: (P, tb) :: (l, ol) :: so :: news, q ∈ (l, ol) :: a :: b :: c :: d :: (c3, o3) :: (c2, o2) :: e :: so :: (P, tb) :: news := by walk_at "my perm"
theorem ints_take {b : Array UInt8} {ks : List Int} {k : Int} (h : KBw.bInts b = ks) (hk : 0 ≤ k) : KBw.bInts (KBy.picked b none (some k)) = ks.take k.toNat := by
  obtain ⟨n, rfl⟩ := Int.eq_ofNat_of_zero_le hk
  rw [KBc.ints_picked h]
  simp only [Option.elim_none, Option.elim_some, List.drop_zero, Nat.sub_zero, clipAt_nat, Int.toNat_natCast]
  by_cases q : n ≤ ks.length
  · rw [Nat.min_eq_left q]
  · rw [Nat.min_eq_right (by omega), List.take_length, List.take_of_length_le (by omega)]
theorem told_k3 {w : World} {p : Program} {loose : List Str} {mean : ExcName → Option Value} {mg mb : Str → Option Value} {dp un : Nat} {gd : Option (List Code)} {cn : Str} {cs : Scope} {a : Addr} {ccd : Value} {cl : List (Str × Addr)} {outer : List Env} {A₀ : Around} {base h₀ : Heap} {L : Addr} {m : Str → Option Value} {news : List (Addr × Obj)} {s : Shared} {Q E : Value → Shared → Prop}
    {f : Addr} {fo : Value} {fod : Option Addr} {fd : FuncData} {fsl : Array (Option Value)} (V : Value → List (Addr × Obj) → Prop) (Fm : Prop)
    (B : Below A₀ base outer h₀) (F : Fr h₀ L s.heap m) (N : News h₀ L s.heap news) (XB : (hd.heap_1 w.params).In base) (TB : Top p loose mean mg mb base) (D : KtsDicts (frs outer) h₀) (hk : cs.kind = .function)
    (hfn : (f, (⟨fo, fod, .func fd, fsl⟩ : Obj)) ∈ news) (hdp : dp < 600) (hun : un < 60)
    (call : Calls w p loose mean mg mb base f (dp + 2) (un + 20) news (fun v nw => ∃ own, V v own ∧ nw = own ++ news) (fun _ => False) (fun nw => Fm ∧ nw = news))
    (ret : ∀ v own, V v own → ∀ r h' tk' h₀', (∀ q ∈ own ++ news, q.1 < r) → KtsTurn (frs outer) h₀ h₀' → Fr h₀' L h' m → News h₀' L h' ((r, listOf #[v] 0) :: (own ++ news)) → Below A₀ base outer h₀' → KtsDicts (frs outer) h₀' → (hd.heap_1 w.params).In h₀' → Top p loose mean mg mb h₀' → Q (.ref r) { s with heap := h', toks := tk' })
    (form : Fm → ∀ h' tk' h₀' t, KtsTurn (frs outer) h₀ h₀' → Fr h₀' L h' m → News h₀' L h' news → Below A₀ base outer h₀' → KtsDicts (frs outer) h₀' → (hd.heap_1 w.params).In h₀' → Top p loose mean mg mb h₀' → Q (.str (Str.ofString "form") t) { s with heap := h', toks := tk' }) :
    ToldAt w (ktrTop dp un gd cn cs L a ccd cl outer) f Q E s := by
  refine told_c B F (XB.keeps B.stays) N (TB.keeps B.stays) XB TB D hk hdp hun hfn call ?_ ?_ ?_
  · rintro v nw r h' tk' h₀' ⟨own, hv, rfl⟩ l T F N B D
    exact ret v own hv r h' tk' h₀' l T F N B D (XB.keeps B.stays) (TB.keeps B.stays)
  · rintro nw h' tk' h₀' t hv
    exact hv.elim
  · rintro nw h' tk' h₀' t ⟨hv, rfl⟩ T F N B D
    exact form hv h' tk' h₀' t T F N B D (XB.keeps B.stays) (TB.keeps B.stays)
theorem inn_eq {b : Array UInt8} {c tg k : Int} {P : List Int} (h : KBw.bInts b = (hd20 c tg ++ P).take k.toNat) (hk : 20 ≤ k) : KBw.bInts b = hd20 c tg ++ P.take (k - 20).toNat := by
  have hl : (hd20 c tg).length = 20 := rfl
  rw [h, List.take_append, List.take_of_length_le (by omega), hl, show (k - 20).toNat = k.toNat - 20 by omega]
def Abt (tg k : Int) (pay : Array UInt8) (v : Value) (own : List (Addr × Obj)) : Prop :=
  20 ≤ k ∧ ∃ T hx d' od tq, v = .ref T ∧ HeadD tg od ∧ own = [(T, ({ cls := .type "tuple", data := .seq #[.ref hx, .bytes (KBy.picked pay none (some (k - 20))) tq] } : Obj)), (hx, instObj 316 d'), (d', od)]
theorem name_it {d n : Int} (_ : d < n) : ∃ e, e = d := ⟨_, rfl⟩
def SrcStop (prog : Program) (w : World) (A : Around) (h₀ : Heap) (L : Addr) (m : Str → Option Value) (env : Env) (elt : Expr) (x : Str) (scope : Scope) (cl : List (Str × Addr)) (Fin : Shared → List Value → List (Addr × Obj) → Prop) (xv : Value) (s₁ : Shared) : Prop := LCg.CompSrc prog w A h₀ L m env elt x scope cl Fin xv s₁
theorem src_stop {prog : Program} {w : World} {A : Around} {h₀ : Heap} {L : Addr} {m : Str → Option Value} {env : Env} {elt : Expr} {x : Str} {scope : Scope} {cl : List (Str × Addr)} {Fin : Shared → List Value → List (Addr × Obj) → Prop} {xv : Value} {s₁ : Shared} (h : SrcStop prog w A h₀ L m env elt x scope cl Fin xv s₁) : LCg.CompSrc prog w A h₀ L m env elt x scope cl Fin xv s₁ := h
example : True := by
  (k_with "eval ListComp" => ((k_here; k_dflt (refine LCg.ListComp_U (F₀ := by k_asm) (by with_unfolding_all rfl) (by decide) (by rfl) (by decide) (by rfl) ?_))))
  (k_with "CompSrc" => ((k_here; k_dflt (refine src_stop ?_))))
  (k_with "call ref" => ((k_here; refine told_stop ?_)))
  (k_with "call ref" => ((k_here; refine call_stop 355 ?_)))
  (k_with "call ref" => ((k_here; refine call_stop 376 ?_)))
  (k_with "compareOp NotEq ref ref" => ((k_here; k_dflt (refine MQ.ne_tuple3 (by walk_at "my tup") (by walk_at "my tup") (by ktr_units) (by walk_at "same item") (by walk_at "same item") (by walk_at "same item") ?_))))
  (k_with "my rest" => ((refine sub_news (by assumption) (fun p hp => ?_); (repeat (first | exact hp | refine List.Mem.tail _ ?_)))))
  (k_with "my rest2" => ((refine sub_news (by assumption) ?_; (simp only [List.cons_append, List.nil_append]); (repeat (refine List.forall_mem_cons.mpr ⟨?_, ?_⟩; (focus ((k_mem); done)))); (intro _ hp9; (repeat (first | exact List.mem_append_right _ hp9 | refine List.Mem.tail _ ?_))))))
  (k_with "my ex" => ((intro q hq; (repeat (first | exact List.mem_append_left _ hq | refine List.Mem.tail _ ?_)))))
  trivial
theorem about_right_c {w : World} {p : Program} {loose : List Str} {mean : ExcName → Option Value} {mg mb : Str → Option Value} {dp un : Nat} {gd : Option (List Code)} {cn : Str} {cs : Scope} {a : Addr} {ccd : Value} {cl : List (Str × Addr)} {A₀ : Around} {base h₀ : Heap} {L : Addr} {m : Str → Option Value} {news : List (Addr × Obj)} {s : Shared} {Q E : Value → Shared → Prop}
    {src : Addr} {x y : Int} {tx ty : Tok} {n : Nat}
    (B : Below A₀ base [] h₀) (F : Fr h₀ L s.heap m) (X : (hd.heap_1 w.params).In h₀) (N : News h₀ L s.heap ((src, W.listOf #[.int x tx, .int y ty] n) :: (537, tabObj #[]) :: news)) (T : Top p loose mean mg mb h₀) (XB : (hd.heap_1 w.params).In base) (TB : Top p loose mean mg mb base) (CB : CodeHd base 539 537) (hk : cs.kind = .function)
    (hne : ∀ q ∈ (537, tabObj #[]) :: news, q.1 ≠ src) (hne2 : ∀ q ∈ news, q.1 ≠ 537) (hx : 0 ≤ x) (hdp : dp < 400) (hun : un < 8)
    (ret : ∀ ps x' y' tx' ty' h' tk', Fr h₀ L h' m → News h₀ L h' ((src, W.listOf #[.int x' tx', .int y' ty'] n) :: (537, tabObj ps) :: news) → 0 ≤ x' → Q (.bool true) { s with heap := h', toks := tk' }) :
    wpAny (model PySem.Challenge.rw_pf0401_01.row.prog w) (ktrTop dp un gd cn cs L a ccd cl []) (call (.ref 540) [.ref src]) Q E s := by
  have D : KtsDicts (frs []) h₀ := fun _ h => nomatch h
  have C : CodeHd h₀ 539 537 := CB.keeps B.stays
  have hs5 : @Ne Nat 537 src := hne _ (.head _)
  have e31 : (2 : Int) ^ Int.toNat 31 = 2147483648 := by decide
  refine wpAny_call ?_
  k_dflt (walk_at "turn enter cells")
  rename Obj.data _ = Data.cell _ => z3; revert z3
  rename Obj.data _ = Data.cell _ => z2; revert z2
  rename Obj.data _ = Data.cell _ => z1; revert z1
  intro z1 z2 z3
  replace z1 : Obj.data _ = Data.cell none := z1
  replace z2 : Obj.data _ = Data.cell none := z2
  replace z3 : Obj.data _ = Data.cell (some (Value.ref src)) := z3
  k_steps
  rename @LT.lt Int _ _ _ => hd2
  obtain ⟨d0, hd0⟩ := name_it hd2
  subst hd0
  unfold SrcStop
  refine LCg.CompSrc.range (by rfl) (by k_asm) (by k_asm) (by assumption) (by decide) (by rfl) (by decide) ?_
  intro g'
  refine comp_ind 8 (Drawn _ _ _ _ _ _ src n ((537, tabObj #[]) :: news)) ?_ ?_ 8 0 [] _ rfl ⟨_, _, _, _, [], by assumption, .nil, rfl, (fun v h => nomatch h), rfl⟩
  · rintro ys nw ⟨x1, y1, tx1, ty1, ns, hx1, hI, hl, hr, rfl⟩
    k_steps
    unfold CallAt
    have hz : (byteArr ns).size = 8 := by rw [byteArr_size]; exact hl
    have hbn : KBw.bInts (byteArr ns) = ns := KBa.ints_make hr
    with_unfolding_all refine pack_ip_c (by assumption) (by assumption) (by assumption) (dup2 (by assumption) (by k_mem) (by k_mem)) (by assumption) (by first | assumption | exact rfl) (by walk_at "my small") (by walk_at "my small") hz (by omega) (by omega) ?_
    intro wh twh c h9 tk9 hc0 hc1 hsum hwh F9 N9
    replace N9 := undup (undup N9)
    k_steps
    rename Obj.data _ = Data.cell (some (Value.bytes wh _)) => dw
    rename_i l19
    rename Fr _ _ _ _ => F0
    rename News _ _ _ _ => N0
    refine list_abt (line := 370) (col := 25) (fun m => ∃ tt tp, m "target" = some (.int _ tt) ∧ m "payload" = some (.bytes (byteArr ns) tp)) (_ :: _ :: news) rfl .refl F0 N0 (by assumption) (by assumption) (.head _) (by repeat constructor) sub_abt ⟨_, _, by with_unfolding_all rfl, by with_unfolding_all rfl⟩ ⟨_, z2⟩ ?_ ?_ ?_
    · exact ⟨List.forall_mem_cons.mpr ⟨by (refine neN ?_; dsimp only; omega), List.forall_mem_cons.mpr ⟨by (refine neN ?_; dsimp only; omega), ne_all (by assumption) (by omega)⟩⟩, List.forall_mem_cons.mpr ⟨by (refine neN ?_; dsimp only; omega), List.forall_mem_cons.mpr ⟨by (refine neN ?_; dsimp only; omega), ne_all (by assumption) (by omega)⟩⟩, List.forall_mem_cons.mpr ⟨by (refine neN ?_; dsimp only; omega), List.forall_mem_cons.mpr ⟨by (refine neN ?_; dsimp only; omega), hne2⟩⟩⟩
    · intro I1 k1 t1 m1 nw1 it1 s1 R1 hI1 hk1 hV1 hJ1 hat1 hR1
      clear F0 N0 z1 z2 z3 l19 ret hne hne2
      obtain ⟨tt1, tp1, hv1, hv2⟩ := hV1
      obtain ⟨o2, ps, ex, ⟨v2, d2⟩, hL, hn, rfl⟩ := hJ1
      obtain ⟨n1, n2, n3⟩ := id hn
      obtain ⟨g1, T1, F1, N1, B1, D1⟩ := hat1
      have X1 := XB.keeps B1.stays
      have P1 := TB.keeps B1.stays
      have C1 := CB.keeps B1.stays
      rw [m_two hv1 hv2] at F1
      have hk1' : 0 ≤ k1 ∧ k1 ≤ 27 := by
        simp only [List.mem_cons, List.not_mem_nil, or_false] at hk1
        omega
      have hwi := ints_take hwh hk1'.1
      have h28 : (hd20 c (1 + d0) ++ KBw.bInts (byteArr ns)).length = 28 := by rw [List.length_append, KBw.ints_length, hz]; rfl
      have hszw : wh.size = 28 := by rw [← KBw.ints_length, hwh, h28]
      have hsz : (KBy.picked wh none (some k1)).size = min k1.toNat 28 := by rw [← KBw.ints_length, hwi, List.length_take, h28]
      k_steps
      rename Obj.data _ = Data.cell (some (Value.int k1 t1)) => d9
      unfold LamAt
      with_unfolding_all refine lam_any (by assumption) (by assumption) P1 C1 rfl (by k_updF) hL (by walk_at "my ex") (by
        rintro d ((hd | ⟨q, hq, rfl⟩) | rfl)
        · rcases hd with rfl | rfl | rfl <;> exact ⟨_, by k_mem⟩
        · refine ⟨q.2, ?_⟩
          repeat (first | exact List.mem_append_right _ hq | refine List.Mem.tail _ ?_)
        · exact ⟨_, by k_mem⟩) True.intro rfl rfl rfl ?_
      intro f9 c9 oc9 vs9 tq9 ct9 h9 tk8 F9 N9 d19 d29 av9 l19 l29
      dsimp only at N9
      k_steps
      with_unfolding_all refine told_k3 (Abt (1 + d0) k1 (byteArr ns)) (k1 < 20) B1 F9 N9 XB TB D1 rfl (by k_mem) (by walk_at "my small") (by walk_at "my small") ?_ ?_ ?_
      · clear hL hn n1 n2 n3 hR1 av9 F9 N9
        intro dp1 un1 gd1 cn1 cs1 a1 ccd1 cl1 outer1 A1 g1' L1 m1' s1 Q1 E1 B1' F1' X1' N1' T1' hkf hd1 hu1 hl1 kv ks kf
        dsimp only [ktrTop, Around.deeper] at hd1 hu1
        replace hd1 : dp1 < 403 := q_le5 hd1 hdp rfl
        replace hu1 : un1 < 31 := q_le5 hu1 hun rfl
        refine wpAny_call ?_
        k_dflt (walk_at "lam enter")
        k_steps
        unfold CallAt
        by_cases hlt : k1 < 20
        · with_unfolding_all refine about_form (by assumption) (by assumption) (by assumption) (dup2 (by assumption) (by k_mem) (by k_mem)) (by assumption) (by first | assumption | exact rfl) (by walk_at "my small") (by walk_at "my small") (by omega) (.inr ⟨rfl, by omega⟩) ?_
          intro e8 h8 tk8 g8 hF8 hR8 hU8
          k_steps
          refine kf _ _ _ _ _ ⟨hlt, rfl⟩ ?fa (raised_sub (by assumption) (fun p hp => ?_)) (by assumption)
          · assumption
          · (repeat (first | exact hp | refine List.Mem.tail _ ?_))
        · with_unfolding_all refine about_c (P := (KBw.bInts (byteArr ns)).take (k1 - 20).toNat) (by assumption) (by assumption) (by assumption) (dup2 (by assumption) (by k_mem) (by k_mem)) (by assumption) (by first | assumption | exact rfl) (by walk_at "my small") (by walk_at "my small") (inn_eq hwi (by omega)) (by rw [List.length_take, KBw.ints_length, hz]; omega) (by omega) (by omega) hc0 hc1 hsum ?_
          intro T8 hx8 d8 od8 q8 tq8 h8 tk8 hH8 hq8 F8 N8
          obtain rfl : q8 = KBy.picked (byteArr ns) none (some (k1 - 20)) := bInts_inj (hq8.trans (ints_take rfl (by omega)).symm)
          k_steps
          refine kv _ _ _ _ ⟨_, ⟨by omega, T8, hx8, d8, od8, tq8, rfl, hH8, rfl⟩, rfl⟩ (by assumption) (by (simp only [List.cons_append, List.nil_append]); walk_at "my sub")
      · rintro v own ⟨hk20, T8, hx8, d8, _, tq8, rfl, ⟨_, _, _, _, _, _, _, _, _, _, _, _, _, _, _, _, _, _, _, _, _, _, _, _, _, _, _, _, _, _, rfl⟩, rfl⟩ r h' tk' h₀' l T F N B D X P
        simp only [List.cons_append, List.nil_append] at l N
        k_steps
        exact abt_end hR1 ⟨_, _, rfl, rfl⟩ T1 T (by assumption) B D ⟨_, d9⟩ d19 d29 av9 hn (by walk_at "my rest2")
      · intro hlt h' tk' h₀' t T F N B D X P
        k_steps
        exact abt_end hR1 ⟨_, _, rfl, rfl⟩ T1 T (by assumption) B D ⟨_, d9⟩ d19 d29 av9 hn (by walk_at "my rest2")
    · intro I4 m4 nw4 h4 tk4 hV4 hJ4 hat4
      clear F0 N0 z1 z2 z3 l19
      obtain ⟨tt1, tp1, hv1, hv2⟩ := hV4
      obtain ⟨o2, ps0, ex, ⟨v2, d2⟩, hL, hn, rfl⟩ := hJ4
      obtain ⟨n1, n2, n3⟩ := id hn
      obtain ⟨g4, T4, F4, N4, B4, D4⟩ := hat4
      have X4 := XB.keeps B4.stays
      have P4 := TB.keeps B4.stays
      have C4 := CB.keeps B4.stays
      have hp : TriplesOk ps0.toList ∧ ∀ pos : Pos, pos.line = 376 → codeAmong pos ps0.toList = none := by
        rcases hL with ⟨rfl, _⟩ | ⟨c', oc, vs, t, rfl, _⟩
        · exact ⟨True.intro, fun _ _ => rfl⟩
        · exact ⟨True.intro, fun pos h => by simp [codeAmong, rawInt, h]⟩
      have hsz : wh.size ≤ 100 := by
        rw [← KBw.ints_length, hwh, List.length_append, KBw.ints_length, hz]
        have h20 : (hd20 c (1 + d0)).length = 20 := rfl
        omega
      k_steps
      unfold LamAt
      with_unfolding_all refine lam_any (av := fun _ => False) (by assumption) (by assumption) P4 C4 rfl (by k_updF) (.inl ⟨rfl, rfl⟩) (fun q hq => nomatch hq) (fun d hd => hd.elim) hp.1 (hp.2 _ rfl) rfl rfl ?_
      intro f9 c9 oc9 vs9 tq9 ct9 h9 tk8 F9 N9 d19 d29 av9 l19 l29
      dsimp only at N9
      k_steps
      with_unfolding_all refine told_k3 (fun _ _ => False) True B4 F9 N9 XB TB D4 rfl (by k_mem) (by walk_at "my small") (by walk_at "my small") ?_ ?_ ?_
      · clear hL hn av9 F9 N9
        intro dp1 un1 gd1 cn1 cs1 a1 ccd1 cl1 outer1 A1 g1' L1 m1' s1 Q1 E1 B1' F1' X1' N1' T1' hkf hd1 hu1 hl1 kv ks kf
        dsimp only [ktrTop, Around.deeper] at hd1 hu1
        replace hd1 : dp1 < 403 := q_le5 hd1 hdp rfl
        replace hu1 : un1 < 31 := q_le5 hu1 hun rfl
        refine wpAny_call ?_
        k_dflt (walk_at "lam enter")
        k_steps
        unfold CallAt
        with_unfolding_all refine about_form (by assumption) (by assumption) (by assumption) (dup2 (by assumption) (by k_mem) (by k_mem)) (by assumption) (by first | assumption | exact rfl) (by walk_at "my small") (by walk_at "my small") (by omega) (.inl rfl) ?_
        intro e8 h8 tk8 g8 hF8 hR8 hU8
        k_steps
        refine kf _ _ _ _ _ ⟨True.intro, rfl⟩ ?fb (raised_sub (by assumption) (fun p hp => ?_)) (by assumption)
        · assumption
        · (repeat (first | exact hp | refine List.Mem.tail _ ?_))
      · rintro v own hv
        exact hv.elim
      · intro _ h' tk' h₀' t T F N B D X P
        replace T := T4.trans T
        k_steps
        (rename KtsTurn _ _ _ => kT); (rename Below _ _ _ _ => kB); (rename News _ L _ _ => kN); (rename Fr _ L _ _ => kF)
        obtain ⟨kF1, kN1⟩ := unturn kT kF kN
        refine ret _ _ _ _ _ _ _ kF1 (sub_news kN1 (List.forall_mem_cons.mpr ⟨(by (repeat (first | exact List.Mem.head _ | refine List.Mem.tail _ ?_ | refine List.mem_append_right _ ?_))), List.forall_mem_cons.mpr ⟨(by (repeat (first | exact List.Mem.head _ | refine List.Mem.tail _ ?_ | refine List.mem_append_right _ ?_))), fun p hp => by simp [hp]⟩⟩)) (by assumption)
  · rintro i ys nw hi ⟨x1, y1, tx1, ty1, ns, hx1, hI, hl, hr, rfl⟩ v I oI C oC D m2 h tk E' ⟨t9, rfl⟩ hC hx F N off ne
    have off0 := off
    simp only [LCg.Off3, and_true] at off
    obtain ⟨⟨oa1, oa2, oa3⟩, ⟨ob1, ob2, ob3⟩, ⟨oc1, oc2, oc3⟩, od1, od2, od3⟩ := off
    obtain ⟨oe1, oe2, oe3⟩ := id ne
    k_steps
    refine LCg.CompEnd.intro (by assumption) (by assumption) _ (fun p hp => hp) ?_ trivial ?_
    · exact off0
    · refine ⟨_, _, _, _, ns ++ [_], by assumption, hI.append (.cons _ _ .nil), by simp [hl], fun v hv => ?_, rfl⟩
      rcases List.mem_append.mp hv with hv | hv
      · exact hr v hv
      · obtain rfl := List.mem_singleton.mp hv
        exact ⟨by assumption, by assumption⟩
end
example : True := by
  w_top off
  k_with_none
  trivial
example : True := by
  (k_with "my mem" => with_reducible (k_extra "my mem1"))
  (k_with "my mem1" => (first | exact List.Mem.head _ | (refine' List.Mem.tail _ ?_; k_extra "my mem1")))
  (k_with "my k_lt" => ((rename (∀ p : Addr × Obj, p ∈ _ → p.1 < _) => l1q); (replace l1q := allLt_of l1q); (simp only [AllLt, and_true] at l1q); (first | ((with_reducible refine spa15 l1q ?_); intro f0q f1q f2q f3q f4q f5q f6q f7q f8q f9q f10q f11q f12q f13q f14q) | ((with_reducible refine spa14 l1q ?_); intro f0q f1q f2q f3q f4q f5q f6q f7q f8q f9q f10q f11q f12q f13q) | ((with_reducible refine spa13 l1q ?_); intro f0q f1q f2q f3q f4q f5q f6q f7q f8q f9q f10q f11q f12q) | ((with_reducible refine spa12 l1q ?_); intro f0q f1q f2q f3q f4q f5q f6q f7q f8q f9q f10q f11q) | ((with_reducible refine spa11 l1q ?_); intro f0q f1q f2q f3q f4q f5q f6q f7q f8q f9q f10q) | ((with_reducible refine spa10 l1q ?_); intro f0q f1q f2q f3q f4q f5q f6q f7q f8q f9q) | ((with_reducible refine spa9 l1q ?_); intro f0q f1q f2q f3q f4q f5q f6q f7q f8q) | ((with_reducible refine spa8 l1q ?_); intro f0q f1q f2q f3q f4q f5q f6q f7q) | ((with_reducible refine spa7 l1q ?_); intro f0q f1q f2q f3q f4q f5q f6q) | ((with_reducible refine spa6 l1q ?_); intro f0q f1q f2q f3q f4q f5q) | ((with_reducible refine spa5 l1q ?_); intro f0q f1q f2q f3q f4q) | ((with_reducible refine spa4 l1q ?_); intro f0q f1q f2q f3q) | ((with_reducible refine spa3 l1q ?_); intro f0q f1q f2q) | ((with_reducible refine spa2 l1q ?_); intro f0q f1q) | ((with_reducible refine spa1 l1q ?_); intro f0q) | ((with_reducible refine spb12 l1q ?_); intro f0q f1q f2q f3q f4q f5q f6q f7q f8q f9q f10q f11q) | ((with_reducible refine spb11 l1q ?_); intro f0q f1q f2q f3q f4q f5q f6q f7q f8q f9q f10q) | ((with_reducible refine spb10 l1q ?_); intro f0q f1q f2q f3q f4q f5q f6q f7q f8q f9q) | ((with_reducible refine spb9 l1q ?_); intro f0q f1q f2q f3q f4q f5q f6q f7q f8q) | ((with_reducible refine spb8 l1q ?_); intro f0q f1q f2q f3q f4q f5q f6q f7q) | ((with_reducible refine spb7 l1q ?_); intro f0q f1q f2q f3q f4q f5q f6q) | ((with_reducible refine spb6 l1q ?_); intro f0q f1q f2q f3q f4q f5q) | ((with_reducible refine spb5 l1q ?_); intro f0q f1q f2q f3q f4q) | ((with_reducible refine spb4 l1q ?_); intro f0q f1q f2q f3q) | ((with_reducible refine spb3 l1q ?_); intro f0q f1q f2q) | ((with_reducible refine spb2 l1q ?_); intro f0q f1q) | skip); revert l1q))
  (k_with "my cj" => (first | with_reducible assumption | exact And.left (by with_reducible assumption) | exact And.left (And.right (by with_reducible assumption)) | exact And.left (And.right (And.right (by with_reducible assumption))) | exact And.left (And.right (And.right (And.right (by with_reducible assumption)))) | exact And.right (by with_reducible assumption) | exact And.right (And.right (by with_reducible assumption)) | exact And.right (And.right (And.right (by with_reducible assumption)))))
  (k_with "my lt" => (first | with_reducible assumption | exact Nat.lt_add_one _ | exact lt_r _ (by first | with_reducible assumption | exact Nat.lt_add_one _) | exact lt_r _ (lt_r _ (by first | with_reducible assumption | exact Nat.lt_add_one _)) | exact lt_r _ (lt_r _ (lt_r _ (by first | with_reducible assumption | exact Nat.lt_add_one _))) | exact lt_r _ (lt_r _ (lt_r _ (lt_r _ (by first | with_reducible assumption | exact Nat.lt_add_one _)))) | exact lt_r _ (lt_r _ (lt_r _ (lt_r _ (lt_r _ (by first | with_reducible assumption | exact Nat.lt_add_one _))))) | exact lt_r _ (lt_r _ (lt_r _ (lt_r _ (lt_r _ (lt_r _ (by first | with_reducible assumption | exact Nat.lt_add_one _))))))))
  (k_with "my ne" => (first | with_reducible assumption | exact Ne.symm (by with_reducible assumption) | (refine neN ?_; (try dsimp only); first | exact Nat.ne_of_gt (by k_extra "my lt") | exact Nat.ne_of_lt (by k_extra "my lt") | k_extra "my cj" | exact Ne.symm (by k_extra "my cj"))))
  (k_with "my om" => k_dflt (first | with_reducible assumption | ((with_reducible show @LT.lt Nat _ _ _); (first | exact q_lt0 (by with_reducible assumption) (by rfl) | exact q_lt1 (by with_reducible assumption) (by rfl) | exact q_lt2 (by with_reducible assumption) (by rfl) | exact q_lt3 (by with_reducible assumption) (by rfl) | exact q_le4 (by with_reducible assumption) (by rfl) | exact q_eq1 (by with_reducible assumption) (by rfl) | k_extra "my lt" | k_extra "my cj" | decide)) | ((with_reducible show @LE.le Nat _ _ _); (first | exact q_le0 (by with_reducible assumption) (by rfl) | exact q_le1 (by with_reducible assumption) (by rfl) | exact q_le2 (by with_reducible assumption) (by rfl) | exact q_le3 (by with_reducible assumption) (by rfl) | exact q_eq0 (by with_reducible assumption) (by rfl) | k_extra "my cj" | decide)) | ((with_reducible show @LT.lt Int _ _ _); (first | exact q_il0 (by with_reducible assumption) (by rfl) | exact q_il1 (by with_reducible assumption) (by rfl) | exact q_il3 (by with_reducible assumption) (by rfl) | k_extra "my cj" | decide)) | ((with_reducible show @LE.le Int _ _ _); (first | exact q_il2 (by with_reducible assumption) (by rfl) | k_extra "my cj" | decide)) | ((with_reducible show @Ne Nat _ _); k_extra "my ne") | decide))
  trivial
example : True := by
  (k_with "my in" => (repeat (first | exact List.Mem.head _ | refine List.Mem.tail _ ?_ | refine List.mem_append_right _ ?_)))
  (k_with "my at" => (repeat (first | assumption | exact List.mem_append_left _ (by assumption) | refine List.Mem.tail _ ?_ | refine List.mem_append_right _ ?_)))
  (k_with "my perm" => ((try simp only [List.cons_append, List.nil_append, List.append_assoc]); (repeat (refine List.forall_mem_cons.mpr ⟨?_, ?_⟩; (focus ((walk_at "my in"); done)))); first | exact List.forall_mem_nil _ | (intro q9 hq9; (try (have hq8 := List.mem_append.mp hq9; clear hq9; rcases hq8 with hq9 | hq9)); (all_goals (try (have hq7 := List.mem_cons.mp hq9; clear hq9; rcases hq7 with hq7 | hq9))); (all_goals (try (have hq7 := List.mem_cons.mp hq9; clear hq9; rcases hq7 with hq7 | hq9))); all_goals first | (subst hq7; walk_at "my in"; done) | (repeat (first | exact hq9 | exact List.mem_append_left _ hq9 | refine List.Mem.tail _ ?_ | refine List.mem_append_right _ ?_)))))
  (k_with "my bnd" => (first | omega | exact Int.lt_of_lt_of_le (by decide) (fmod_lo _ (by decide)) | exact Int.lt_trans (fmod_hi _ (by decide)) (by decide)))
  (k_with "binaryOp Mult int int" => (((with_reducible show wpAny _ _ (binaryOp Operator.Mult (Value.int _ _) (Value.int _ _)) _ _ _); refine mul_int ?_ (IntMulOk.of_left (intBits_le_64 ?mlo ?mhi)); (case mlo => walk_at "my bnd"); (case mhi => walk_at "my bnd"))))
  (k_with "binaryOp FloorDiv int int" => (((with_reducible show wpAny _ _ (binaryOp Operator.FloorDiv (Value.int _ _) (Value.int _ _)) _ _ _); refine floordiv_int ?fne ?_ (Or.inl (PyProof.noPylong_of_log2 (log2_small ?flo ?fhi))); (case fne => omega); (case flo => omega); (case fhi => omega))))
  (k_with "execs cons" => ((k_here; refine fold_stmt ?_; intro qk sk)))
  trivial
example : True := by
  (k_with "eval Name" => ((k_here; k_dflt (first
    | (refine' name_l ?F ?e ?v ?a ?b ?d ?_; (case F => k_asm); (case e => rfl); (case b => rfl); (case v => rfl); (case a => rfl); (case d => decide); k_whole)
    | (refine' nameX_K ?F ?X ?T ?e ?_ ?a ?b; (case F => k_asm); (case b => rfl); (case X => k_asm); (case T => k_asm); (case a => rfl); (case e => k_is); k_whole)
    | (refine' nameX_B ?F ?X ?T ?e ?v ?n ?_ ?a ?b; (case F => k_asm); (case b => rfl); (case X => k_asm); (case T => k_asm); (case a => rfl); (case e => k_is); (case v => boot_fast); (case n => decide); k_whole)))))
  (k_with "storeName" => ((k_here; k_dflt (refine' store_l ?F ?N ?e ?a ?b ?_; (case F => k_asm); (case N => k_asm); (case e => rfl); (case a => rfl); (case b => rfl); k_whole; intro h' mk F' N'; (try k_sweep)))))
  trivial
example : True := by
  (k_with "my steps" => (repeat' (first | ((try k_unmd); k_unfold; (try dsimp only)) | (k_end; wrow_close) | walk1 | (dsimp only; walk1) | (leave1; walk_say "STEP leave1"; try dsimp only) | fail "no step")))
  (k_with "my fold0" => ((refine fold_entry ?_; intro Ak envk qk ek sk; (rename Fr _ _ _ _ => kF); (refine fr_let kF ?_); clear kF; intro mk kF)))
  (k_with "my units" => ((have hcL9 := cLine_is; (simp (config := { zetaDelta := true }) only [units_in1, units_deeper, Around.mark_units, units_caller, ktrTop]); omega)))
  (k_with "my room" => (((simp (config := { zetaDelta := true }) only [depth_under_make, depth_under_kw, depth_in1, depth_deeper, depth_caller, ktrTop, recursionLimit]); omega)))
  (k_with "callWith ref" => (k_here; k_dflt (first
    | (refine' callWith_K ?k1 ?k2 ?_; (case k1 => with_reducible assumption); (case k2 => k_is); k_whole)
    | (refine' callw_0 ?k0 ?k1 ?k2 ?_; (case k0 => with_reducible assumption); (case k1 => with_reducible assumption); (case k2 => k_is); k_whole)
    | (refine' callw_m0 ?k0 ?kN ?k1 ?kq ?k2 ?_; (case k0 => with_reducible assumption); (case kN => with_reducible assumption); (case k1 => with_reducible assumption); (case kq => k_mem); (case k2 => k_is); k_whole; try dsimp only [List.nil_append, List.cons_append])
    | (refine' callWith_M ?k1 ?k2 ?k3 ?k4 ?_; (case k1 => with_reducible assumption); (case k2 => with_reducible assumption); (case k3 => k_mem); (case k4 => k_is); k_whole)
    | (refine' callWith_KW ?k1 ?k2 ?k3 ?_; (case k1 => with_reducible assumption); (case k2 => k_is); (case k3 => exact rfl); k_whole)
    | (refine' callWith_KW0 ?k1 ?k2 ?k3 ?_; (case k1 => with_reducible assumption); (case k2 => k_is); (case k3 => exact rfl); k_whole))))
  (k_with "compareOp IsNot ref ref" => (k_here; first | (with_reducible refine isnot_ref_same ?_) | refine wpAny_isNot_ref_self ?_))
  (k_with "my stop" => ((rename Mark => mk9); clear mk9; refine stop_at ?_))
  (k_with "subscriptTail" => (k_extra "my stop"))
  (k_with "getMethod ref" => (k_extra "my stop"))
  trivial
example : True := by
  (k_with "my small" => (first | omega | ((try simp (config := { zetaDelta := true }) only [depth_under_make, depth_under_kw, depth_in1, depth_deeper, depth_caller, units_in1, units_deeper, Around.mark_units, units_caller]); (try simp (config := { zetaDelta := true }) only [ktrTop]); first | omega | decide)))
  (k_with "exec Raise some none" => ((k_here; (with_reducible show wpAny _ _ (exec (Stmt.Raise (some (Expr.Call (Expr.Name ("FormError" : Str) _) _ _ _)) none _) _) _ _ _); k_dflt (refine raise_form (by assumption) (by first | assumption | with_unfolding_all rfl) ?_))))
  (k_with "exec Raise some none" => ((k_here; (with_reducible show wpAny _ _ (exec (Stmt.Raise (some (Expr.Call (Expr.Name ("SizeError" : Str) _) _ _ _)) none _) _) _ _ _); k_dflt (refine raise_size (by assumption) (by first | assumption | with_unfolding_all rfl) ?_))))
  (k_with "call ref" => ((k_here; first
  | ((with_reducible show wpAny _ _ (call (Value.ref 51) [Value.str _ _]) _ _ _); (refine' make_form ?kF ?kX ?kN ?kh ?kf ?kd ?ku ?_); (case kF => assumption); (case kX => assumption); (case kN => assumption); (case kh => with_unfolding_all exact rfl); (case kf => with_unfolding_all exact rfl); (case kd => walk_at "my small"); (case ku => walk_at "my small"); k_whole; intro e' o' h' tk' hx' F' N' ne')
  | ((with_reducible show wpAny _ _ (call (Value.ref 63) [Value.str _ _]) _ _ _); (refine' make_size ?kF ?kX ?kN ?kh ?kf ?kd ?ku ?_); (case kF => assumption); (case kX => assumption); (case kN => assumption); (case kh => with_unfolding_all exact rfl); (case kf => with_unfolding_all exact rfl); (case kd => walk_at "my small"); (case ku => walk_at "my small"); k_whole; intro e' o' h' tk' hx' F' N' ne'))))
  (k_with "OwnUp ref" => ((refine ⟨_, _, rfl, by assumption, Frag.In.keeps (by assumption) (Fr.keep (by assumption)), (News.get (by assumption) (.head _)), ?_⟩)))
  (k_with "leaving ref" => ((k_here; first
  | ((refine' leave_led ?kB ?kf ?kk ?kF ?kN ?kx ?kn ?_); (case kx => assumption); (case kF => assumption); (case kN => assumption); (case kB => assumption); (case kf => with_unfolding_all exact rfl); (case kk => first | assumption | with_unfolding_all exact rfl); (case kn => assumption); k_whole; intro h' R' U'; (try dsimp only at R' U' ⊢))
  | ((refine' leave_up ?kB ?kf ?kF ?kR ?kU ?_); (case kR => assumption); (case kF => assumption); (case kB => assumption); (case kf => with_unfolding_all exact rfl); (case kU => assumption); k_whole; intro h' R' U'; (try dsimp only at R' U' ⊢)))))
  (k_with "turn enter" => ((refine' code_T ?k1 ?k2 ?k3 ?k4 ?k5 ?kD ?kA ?kF ?kK ?k6 ?k7 ?k8 ?k9 ?kB ?_ ?c2 ?c3 ?c4 ?c5; (case kA => exact rfl); (case kF => exact rfl); (case kK => assumption); (case k1 => k_asm); (case k2 => k_asm); (case k3 => k_asm); (case k4 => k_asm); (case k5 => k_asm); (case kD => assumption); (case k6 => k_is); (case k7 => k_is); (case k8 => ktr_room); (case k9 => exact BindsTo.of_eq rfl); (case c5 => decide); (case kB => exact locs rfl); (case c2 => exact rfl); (case c3 => exact rfl); (case c4 => exact rfl); k_whole; intro g' L' h' FG' F' N' B' X' T' D' l1; (try dsimp only); (try k_lift B'); (try k_fold))))
  (k_with "my size" => ((rw [KBw.ints_length]; first | omega | (simp only [Array.size_append]; omega))))
  (k_with "subscriptTail" => ((k_here; (with_reducible show wpAny _ _ (subscriptTail _ (Expr.Slice _ _ none _) (Value.bytes _ _) (Value.ref _)) _ _ _); (with_reducible rename Fr _ _ _ _ => F'); (with_reducible rename News _ _ _ _ => N'); (refine KBc.slice_K (s := ⟨_, _, _, _, _⟩) F' N' rfl (by constructor) (by constructor) (by walk_at "my size") ?_); intro _ _ _ _ _ _)))
  (k_with "turn enter cells" => ((refine' code_TC ?k1 ?k2 ?k3 ?k4 ?k5 ?kG ?kA ?kF ?kK ?k6 ?k7 ?k8 ?k9 ?kB ?kD ?_ ?c2 ?c3 ?c4; (case kA => exact rfl); (case kF => exact rfl); (case kK => assumption); (case k1 => k_asm); (case k2 => k_asm); (case k3 => k_asm); (case k4 => k_asm); (case k5 => k_asm); (case kG => assumption); (case k6 => k_is); (case k7 => k_is); (case k8 => ktr_room); (case k9 => exact BindsTo.of_eq rfl); (case kB => exact rfl); (case kD => decide +kernel); (case c2 => exact rfl); (case c3 => exact rfl); (case c4 => exact rfl); k_whole; intro g' L' h' tk' cells' FG' F' N' Y' B' X' T' D' l1; (try k_lt l1); (have l9 := l1); (repeat (replace l9 := And.right l9)); k_cells Y'; (try simp only [List.cons_append, List.nil_append] at N'); (first | (refine fr_one F' (by rfl) ?_; clear F'; intro F') | (refine fr_cell F' (by rfl) ?_; clear F'; intro F')); (try dsimp only); (try k_lift B'); (try k_fold))))
  (k_with "LeaveT" => ((k_dflt (refine' leaveT ?F ?N ?T ?_; (case F => k_asm); (case N => k_asm); (case T => first | assumption | exact KtsTurn.refl); k_whole); intro kg kT kF kN kB kD; (try dsimp only))))
  trivial
example : True := by
  (k_with "my all" => (first | exact ne_all (by assumption) (Nat.le_refl _) | exact ne_all (by assumption) (Nat.le_of_lt (by assumption)) | exact ne_all (by assumption) (by omega)))
  trivial
example : True := by
  (k_with "call type:bytes" => ((k_here; (with_reducible show wpAny _ _ (call (Value.type "bytes") [Value.bytes _ _]) _ _ _); refine MB.call_b ?_)))
  (k_with "call type:bytes" => ((k_here; (with_reducible show wpAny _ _ (call (Value.type "bytes") [Value.int _ _]) _ _ _); (refine MB.call_i ?bi0 ?bi1 ?_); (case bi0 => omega); (case bi1 => omega); intro _ _)))
  (k_with "lam enter" => ((refine' kla_code ?k1 ?k2 ?k3 ?k4 ?k5 ?kA ?kF ?kK ?k6 ?k7 ?k8 ?k9 ?kB ?_ ?c2 ?c3 ?c4 ?c5; (case kA => exact rfl); (case kF => exact rfl); (case kK => assumption); (case k1 => k_asm); (case k2 => k_asm); (case k3 => k_asm); (case k4 => k_asm); (case k5 => k_asm); (case k6 => k_mem); (case k7 => exact codeRec_news (by k_asm) (by k_mem) (by assumption) (by assumption)); (case k8 => ktr_room); (case k9 => exact rfl); (case c5 => decide); (case kB => exact locs rfl); (case c2 => exact rfl); (case c3 => exact rfl); (case c4 => exact rfl); k_whole; intro g' L' h' FG' F' N' B' X' T'; (try dsimp only); (try k_lift B'); (try k_fold))))
  (k_with "my sub" => ((refine sub_news (by assumption) ?_; (repeat (refine List.forall_mem_cons.mpr ⟨?_, ?_⟩; (focus ((k_mem); done)))); first | exact List.forall_mem_nil _ | (intro _ hp9; (repeat (first | exact hp9 | refine List.Mem.tail _ ?_))))))
  (k_with "same item" => (first | exact MQ.at_bytes _ _ _ | exact MQ.at_int _ _ _))
  (k_with "compareOp NotEq ref ref" => ((k_here; k_dflt (refine MQ.ne_list1 (News.isList (by assumption) (by k_mem)) (News.isList (by assumption) (by k_mem)) (by ktr_units) (by walk_at "same item") ?_))))
  trivial
example : True := by
  (k_with "call ref" => ((k_here; (with_reducible show wpAny _ _ (call (Value.ref 500) [Value.ref _, Value.int _ _]) _ _ _); (with_unfolding_all refine take_U (by assumption) (by assumption) (by assumption) (by assumption) (by k_updF) (by assumption) (by first | assumption | exact rfl) (by walk_at "my small") (by walk_at "my small") (by walk_at "my bnd") (by walk_at "my bnd") (by first | assumption | omega) ?_); intro d' x' y' td' tx' ty' h' tk' F' N' hd1' hd2' hx'; (try dsimp only at N'); (try k_sweep))))
  (k_with "my item" => ((refine item_at (by assumption) (by k_mem) (by assumption) (by assumption) (by assumption) ?_; intro _ hv')))
  (k_with "exec For Name Call cons nil" => ((k_here; k_dflt (refine For_from ?_))))
  (k_with "exec For Name List cons nil" => ((k_here; k_dflt (refine For_from ?_))))
  (k_with "binaryOp Add" => ((k_here; (with_reducible show wpAny _ _ (binaryOp Operator.Add (Value.ref _) (Value.ref _)) _ _ _); k_dflt (refine' menu_K ?mF ?mN ?ml ?mP ?mi ?mc ?mz ?_; (case mF => assumption); (case mN => assumption); (case ml => k_mem); (case mP => assumption); (case mi => repeat constructor); (case mc => assumption); (case mz => decide)); intro h' d' items' F' N' l1 hI'; (try k_lt l1))))
  (k_with "call builtin:list.append" => ((k_here; (with_reducible show wpAny _ _ (call (Value.builtin _) [Value.ref _, _]) _ _ _); k_dflt (refine' append_K ?k1 ?k2 ?k3 ?_ ?z; (case k1 => k_asm); (case k2 => k_asm); (case k3 => k_upd); (case z => rw [sizeLine_eq]; omega); k_whole); intro h' F' N'; (try k_sweep))))
  trivial
example : True := by
  (k_with "my ne2" => (first | k_extra "my ne" | (k_dflt (refine ne_cls (by assumption) (by k_mem) (by k_mem) rfl rfl (by decide))) | (refine neN ?_; (try dsimp only); omega (config := {}))))
  trivial
example : True := by
  (k_with "newTuple" => ((k_here; k_dflt (refine' kup_newTuple ?F ?N ?_ ?z; (case F => k_asm); (case N => k_asm); (case z => kmk_size)); intro D' h' F' N' l1; (try k_lt l1); (try k_sweep))))
  (k_with "exec For Tuple Name cons nil" => ((k_here; k_dflt (refine For_from ?_))))
  (k_with "my tup" => (exact tup_at (by assumption) (by k_mem)))
  (k_with "compareOp NotEq ref ref" => ((k_here; k_dflt (refine MQ.ne_tuple2 (by walk_at "my tup") (by walk_at "my tup") (by ktr_units) (by walk_at "same item") (by walk_at "same item") ?_))))
  (k_with "compareOp Eq ref ref" => ((k_here; k_dflt (refine eq_tuple2 (by walk_at "my tup") (by walk_at "my tup") (by ktr_units) (by walk_at "same item") (by walk_at "same item") ?_))))
  trivial
example : True := by
  (k_with "binaryOp RShift int int" => (first | refine shr8 ?_ | refine shr16 ?_))
  (k_with "binaryOp BitAnd int int" => (first | refine and8 ?_ | refine and16 ?_ | (refine and_any (by decide) ?_; intro r' hr0' hr1')))
  (k_with "binaryOp LShift int int" => (first | refine shl8 (by walk_at "my bnd") (by walk_at "my bnd") ?_ | refine shl16 (by walk_at "my bnd") (by walk_at "my bnd") ?_))
  (k_with "binaryOp BitOr int int" => (first | refine or8 (by walk_at "my bnd") (by walk_at "my bnd") (by walk_at "my bnd") ?_ | refine or16 (by walk_at "my bnd") (by walk_at "my bnd") (by walk_at "my bnd") ?_))
  (k_with "my idx" => (((try simp only [List.length_append, List.length_cons, List.length_nil, List.length_take, List.length_drop, List.length_map]); omega)))
  (k_with "my enter" => ((refine' code_def ?k1 ?k2 ?k3 ?k4 ?k5 ?kA ?kF ?kK ?k6 ?k7 ?k8 ?k9 ?kB ?_ ?c2 ?c3 ?c4 ?c5; (case kA => exact rfl); (case kF => exact rfl); (case kK => assumption); (case k1 => k_asm); (case k2 => k_asm); (case k3 => k_asm); (case k4 => k_asm); (case k5 => k_asm); (case k6 => k_is); (case k7 => k_is); (case k8 => ktr_room); (case k9 => first | exact BindsTo.of_eq rfl | exact binds_K (by k_in) rfl (by k_is) rfl rfl rfl); (case c5 => decide); (case kB => exact locs rfl); (case c2 => exact rfl); (case c3 => exact rfl); (case c4 => exact rfl); k_whole; intro g' L' h' FG' F' N' B' X' T'; (try dsimp only); (try k_lift B'); (try k_fold))))
  (k_with "call ref" => ((k_here; (with_reducible show wpAny _ _ (call (Value.ref 316) _) _ _ _); k_dflt (refine' ip_made ?B ?F ?X ?N ?T ?k ?d ?u ?b ?_; (case B => k_asm); (case F => k_asm); (case X => k_asm); (case N => k_asm); (case T => k_asm); (case k => first | assumption | exact rfl); (case d => walk_at "my small"); (case u => walk_at "my small"); (case b => (refine' binds_of ?h0 ?hb; (case h0 => k_is); (case hb => (intro s9 x9 X9; first | exact BindsTo.of_eq rfl | exact binds_K (by k_in) rfl (by k_is) rfl rfl rfl)))); k_whole); intro x' d' h' tk' e1' e2' e3' e4' e5' e6' e7' e8' e9' e10' t1' t2' t3' t4' t5' t6' t7' t8' t9' t10' F' N' l1 l2; (try k_lt l1); (try k_sweep))))
  (k_with "call ref" => ((k_here; (with_reducible show wpAny _ _ (call (Value.ref 231) _) _ _ _); k_dflt (refine' im_made ?B ?F ?X ?N ?T ?k ?d ?u ?b ?_; (case B => k_asm); (case F => k_asm); (case X => k_asm); (case N => k_asm); (case T => k_asm); (case k => first | assumption | exact rfl); (case d => walk_at "my small"); (case u => walk_at "my small"); (case b => (refine' binds_of ?h0 ?hb; (case h0 => k_is); (case hb => (intro s9 x9 X9; first | exact BindsTo.of_eq rfl | exact binds_K (by k_in) rfl (by k_is) rfl rfl rfl)))); k_whole); intro x' d' h' tk' e1' e2' e3' e4' t1' t2' t3' t4' F' N' l1 l2; (try k_lt l1); (try k_sweep))))
  trivial
example : True := by
  (k_with "call ref" => ((k_here; (with_reducible show wpAny _ _ (call (Value.ref 128) [Value.int _ _]) _ _ _); (with_unfolding_all refine put16_c (by assumption) (by assumption) (by assumption) (by assumption) (by assumption) (by first | assumption | exact rfl) (by walk_at "my small") (by walk_at "my small")  ?_); intro b' t' h' tk' hb' F' N'; (try k_sweep))))
  (k_with "call ref" => ((k_here; (with_reducible show wpAny _ _ (call (Value.ref 135) [Value.int _ _]) _ _ _); (with_unfolding_all refine put32_c (by assumption) (by assumption) (by assumption) (by assumption) (by assumption) (by first | assumption | exact rfl) (by walk_at "my small") (by walk_at "my small")  ?_); intro b' t' h' tk' hb' F' N'; (try k_sweep))))
  (k_with "call ref" => ((k_here; (with_reducible show wpAny _ _ (call (Value.ref 149) [Value.bytes _ _, Value.int _ _]) _ _ _); (with_unfolding_all refine get16_c (by assumption) (by assumption) (by assumption) (by assumption) (by assumption) (by first | assumption | exact rfl) (by walk_at "my small") (by walk_at "my small") (by assumption) (by walk_at "my bnd") (by walk_at "my idx") (by walk_at "my idx") ?_); intro r' t' h' tk' hr' F' N'; have hr2' := hr'.2; (try k_sweep))))
  (k_with "call ref" => ((k_here; (with_reducible show wpAny _ _ (call (Value.ref 156) [Value.bytes _ _, Value.int _ _]) _ _ _); (with_unfolding_all refine get32_c (by assumption) (by assumption) (by assumption) (by assumption) (by assumption) (by first | assumption | exact rfl) (by walk_at "my small") (by walk_at "my small") (by assumption) (by walk_at "my bnd") (by walk_at "my idx") (by walk_at "my idx") ?_); intro r' t' h' tk' hr' F' N'; have hr2' := hr'.2; (try k_sweep))))
  (k_with "exec While Compare cons nil" => ((k_here; k_dflt (refine while_stop ?_))))
  (k_with "call ref" => ((k_here; (with_reducible show wpAny _ _ (call (Value.ref 163) [Value.int _ _]) _ _ _); (with_unfolding_all refine fold_c (by assumption) (by assumption) (by assumption) (by assumption) (by assumption) (by first | assumption | exact rfl) (by walk_at "my small") (by walk_at "my small") (by first | assumption | omega) ?_); intro r' t' h' tk' hr' F' N'; (try k_sweep))))
  (k_with "call ref" => ((k_here; (with_reducible show wpAny _ _ (call (Value.ref 171) [Value.bytes _ _, Value.int 0 _]) _ _ _); (with_unfolding_all refine ones_c (by assumption) (by assumption) (by assumption) (by assumption) (by assumption) (by first | assumption | exact rfl) (by walk_at "my small") (by walk_at "my small") (by assumption) (by walk_at "my idx") ?_); intro r' t' h' tk' hr' F' N'; (try k_sweep))))
  (k_with "call ref" => ((k_here; (with_reducible show wpAny _ _ (call (Value.ref 179) [Value.bytes _ _]) _ _ _); (with_unfolding_all refine check_c (by assumption) (by assumption) (by assumption) (by assumption) (by assumption) (by first | assumption | exact rfl) (by walk_at "my small") (by walk_at "my small") (by assumption) (by walk_at "my idx") ?_); intro r' t' h' tk' hr' F' N'; (try k_sweep))))
  trivial
example : True := by
  (k_with "call type:bytes" => ((k_here; (with_reducible show wpAny _ _ (call (Value.type "bytes") [Value.ref _]) _ _ _); k_dflt (refine' bytes_range ?bF ?bN ?bh ?bR ?b0 ?b1 ?b2 ?_; (case bF => assumption); (case bN => assumption); (case bh => exact rfl); (case bR => assumption); (case b0 => omega); (case b1 => omega); (case b2 => omega)); intro bs' h' t' tk' hbs' F' N'; (try k_sweep))))
  (k_with "eval Lambda" => ((k_here; k_dflt (refine lam_stop ?_))))
  (k_with "call builtin:len" => ((k_here; (with_reducible show wpAny _ _ (call (Value.builtin "len") [Value.bytes _ _]) _ _ _); (refine len_bytes (by omega) ?_))))
  trivial
example : True := by
  (k_with "exec For Name Tuple cons nil" => ((k_here; k_dflt (refine For_from ?_))))
  (k_with "binaryOp FloorDiv int int" => ((refine div_pos9 ?da ?db ?_; (case da => decide); (case db => decide))))
  (k_with "binaryOp Mod int int" => ((refine mod_pos9 ?da ?_; (case da => decide))))
  (k_with "call builtin:len" => ((k_here; (with_reducible show wpAny _ _ (call (Value.builtin "len") [Value.bytes #[] _]) _ _ _); (refine len_nil9 ?_); intro _)))
  trivial
example : True := by
  (k_with "my fold" => (refine fold_any ?_; intro Ak qk ek sk))
  (k_with "my refold" => ((try k_unmd); (try k_unfold); (try dsimp only); (try k_fold)))
  trivial
example : True := by
  (k_with "exec For Tuple Attribute cons nil" => ((k_here; k_dflt (refine For_from ?_))))
  (k_with "exec For Tuple Call cons nil" => ((k_here; k_dflt (refine For_from ?_))))
  trivial
section
/-- a list of pairs of numbers, the tuples standing in ex -/
def Rws (items : Array Value) (ex : List (Addr × Obj)) (rs : List (Int × Int)) : Prop :=
  items.size = rs.length ∧ ∀ (i : Nat) a b, rs[i]? = some (a, b) → ∃ d t u, items[i]? = some (.ref d) ∧ (d, tupOf #[.int a t, .int b u]) ∈ ex
theorem Rws.nil {ex : List (Addr × Obj)} : Rws #[] ex [] := ⟨rfl, fun i a b h => by simp at h⟩
theorem Rws.push {items : Array Value} {ex : List (Addr × Obj)} {rs : List (Int × Int)} {d : Addr} {a b : Int} {t u : Tok} (h : Rws items ex rs) (hm : (d, tupOf #[.int a t, .int b u]) ∈ ex) : Rws (items.push (.ref d)) ex (rs ++ [(a, b)]) := by
  refine ⟨by simp [h.1], fun i a' b' hi => ?_⟩
  by_cases hl : i < rs.length
  · rw [List.getElem?_append_left hl] at hi
    obtain ⟨d', t', u', h1, h2⟩ := h.2 i a' b' hi
    refine ⟨d', t', u', ?_, h2⟩
    rw [Array.getElem?_push_lt (by rw [h.1]; exact hl)]
    rw [← h1]; simp [h.1, hl]
  · rw [List.getElem?_append_right (by omega)] at hi
    have : i = rs.length := by
      by_cases h9 : i - rs.length = 0
      · omega
      · obtain ⟨j, hj⟩ := Nat.exists_eq_succ_of_ne_zero h9
        rw [hj] at hi; simp at hi
    subst this
    simp at hi
    obtain ⟨rfl, rfl⟩ := hi
    exact ⟨d, t, u, by rw [← h.1]; simp, hm⟩
theorem Rws.more {items : Array Value} {ex ex' : List (Addr × Obj)} {rs : List (Int × Int)} (h : Rws items ex rs) (sub : ∀ p ∈ ex, p ∈ ex') : Rws items ex' rs :=
  ⟨h.1, fun i a b hi => by obtain ⟨d, t, u, h1, h2⟩ := h.2 i a b hi; exact ⟨d, t, u, h1, sub _ h2⟩⟩
theorem Rws.at {items : Array Value} {ex : List (Addr × Obj)} {rs : List (Int × Int)} (h : Rws items ex rs) {i : Nat} {v : Value} (hv : items[i]? = some v) : ∃ d a b t u, v = .ref d ∧ rs[i]? = some (a, b) ∧ (d, tupOf #[.int a t, .int b u]) ∈ ex := by
  have hi : i < rs.length := by
    rw [← h.1]
    by_cases q : i < items.size
    · exact q
    · rw [Array.getElem?_eq_none (by omega)] at hv; cases hv
  obtain ⟨⟨a, b⟩, hq⟩ : ∃ p, rs[i]? = some p := ⟨rs[i], by simp [hi]⟩
  obtain ⟨d, t, u, e1, e2⟩ := h.2 i a b hq
  rw [hv] at e1
  exact ⟨d, a, b, t, u, Option.some.inj e1, hq, e2⟩
def mx (a b : Int) : Int := if b > a then b else a
def mn (a b : Int) : Int := if b < a then b else a
def keep1 (b e : Int) (r : Int × Int) : List (Int × Int) :=
  if mn r.2 e ≤ mx r.1 b then [r] else (if r.1 < mx r.1 b then [(r.1, mx r.1 b)] else []) ++ (if mn r.2 e < r.2 then [(mn r.2 e, r.2)] else [])
def hit1 (b e : Int) (r : Int × Int) : List (Int × Int) := if mn r.2 e ≤ mx r.1 b then [] else [(mx r.1 b, mn r.2 e)]
inductive JF (f r : Addr) (b e : Int) (self : Addr) (tb te : Tok) (rs : List (Int × Int)) (news : List (Addr × Obj)) (I : Addr) (i : Nat) (m : Str → Option Value) (nw : List (Addr × Obj)) : Prop
  | mk (h1 : (m "self" = some (.ref self) ∧ m "begin" = some (.int b tb) ∧ m "end" = some (.int e te) ∧ m "found" = some (.ref f) ∧ m "rows" = some (.ref r))) (fit : Array Value) (rit : Array Value) (cf : Nat) (cr : Nat) (ex : List (Addr × Obj)) (h2 : Rws fit ex ((rs.take i).flatMap (hit1 b e))) (h3 : Rws rit ex ((rs.take i).flatMap (keep1 b e))) (h4 : fit.size ≤ i) (h5 : rit.size ≤ 2 * i) (h6 : (∀ q ∈ ex, @LT.lt Nat _ I q.1)) (h7 : nw = (r, W.listOf rit cr) :: (f, W.listOf fit cf) :: (ex ++ news)) : JF f r b e self tb te rs news I i m nw
theorem m_five {m : Str → Option Value} {a b c d e : Str} {u v x y z : Value} (h : m a = some u ∧ m b = some v ∧ m c = some x ∧ m d = some y ∧ m e = some z) : m = fun n => if n = a then some u else if n = b then some v else if n = c then some x else if n = d then some y else if n = e then some z else m n := by
  obtain ⟨h1, h2, h3, h4, h5⟩ := h
  funext n
  by_cases e1 : n = a
  · rw [if_pos e1, e1, h1]
  · rw [if_neg e1]
    by_cases e2 : n = b
    · rw [if_pos e2, e2, h2]
    · rw [if_neg e2]
      by_cases e3 : n = c
      · rw [if_pos e3, e3, h3]
      · rw [if_neg e3]
        by_cases e4 : n = d
        · rw [if_pos e4, e4, h4]
        · rw [if_neg e4]
          by_cases e5 : n = e
          · rw [if_pos e5, e5, h5]
          · rw [if_neg e5]
theorem take_one {α : Type} {l : List α} {i : Nat} {x : α} (h : l[i]? = some x) : l.take (i + 1) = l.take i ++ [x] := by
  rw [List.take_add_one, h]; rfl
def FillR (b e lo hi : Int) (tb te : Tok) (self f r I L : Addr) (it : Obj) (g : Heap) (fit rit : Array Value) (ex nx : List (Addr × Obj)) (s' : Shared) (R' : Flow → Shared → Prop) : Prop :=
  ∀ m' h' tk' fl own fs ks fit' rit' cf' cr', (fl = .next ∨ fl = .cont) → (m' "self" = some (.ref self) ∧ m' "begin" = some (.int b tb) ∧ m' "end" = some (.int e te) ∧ m' "found" = some (.ref f) ∧ m' "rows" = some (.ref r)) → Fr g L h' m' →
        News g L h' ((I, it) :: (r, W.listOf rit' cr') :: (f, W.listOf fit' cf') :: (own ++ (ex ++ nx))) → fs = hit1 b e (lo, hi) → ks = keep1 b e (lo, hi) → fs.length ≤ 1 → ks.length ≤ 2 → (∀ q ∈ own, @LT.lt Nat _ I q.1) →
        (∀ l, Rws fit ex l → Rws fit' (own ++ ex) (l ++ fs)) → (∀ l, Rws rit ex l → Rws rit' (own ++ ex) (l ++ ks)) → R' fl { s' with heap := h', toks := tk' }
theorem list_fill {prog : Program} {w : World} {A : Around} {E : Value → Shared → Prop} {s : Shared} {m : Str → Option Value} {news : List (Addr × Obj)} {env : Env} {target : Expr} {body : List Stmt} {Q : Flow → Shared → Prop} {L : Addr} {g : Heap}
    {R f r self : Addr} {b e : Int} {tb te : Tok} {items : Array Value} {nn c1 c2 : Nat} {rs : List (Int × Int)}
    (hh : A.handled = none) (hl : (R, W.listOf items nn) ∈ news) (hr : Rws items news rs) (hz : rs.length < 1000000) (F : Fr g L s.heap m) (N : News g L s.heap ((r, W.listOf #[] c1) :: (f, W.listOf #[] c2) :: news))
    (hm : m "self" = some (.ref self) ∧ m "begin" = some (.int b tb) ∧ m "end" = some (.int e te) ∧ m "found" = some (.ref f) ∧ m "rows" = some (.ref r))
    (step : ∀ (I : Addr) (d : Addr) (lo hi : Int) (t u : Tok) (m : Str → Option Value) (ex : List (Addr × Obj)) (fit rit : Array Value) (cf cr : Nat) (it : Obj) (s' : Shared) (R' : Flow → Shared → Prop), @LT.lt Nat _ f I → @LT.lt Nat _ r I → fit.size < 2000000 → rit.size < 2000000 → (∀ q ∈ ex ++ news, q.1 ≠ f) → (∀ q ∈ ex ++ news, q.1 ≠ r) → (d, tupOf #[.int lo t, .int hi u]) ∈ news →
      (m "self" = some (.ref self) ∧ m "begin" = some (.int b tb) ∧ m "end" = some (.int e te) ∧ m "found" = some (.ref f) ∧ m "rows" = some (.ref r)) → Fr g L s'.heap m → News g L s'.heap ((I, it) :: (r, W.listOf rit cr) :: (f, W.listOf fit cf) :: (ex ++ news)) →
      FillR b e lo hi tb te self f r I L it g fit rit ex news s' R' →
      wpAny (model prog w) A (assign target env (.ref d)) (fun _ s₂ => wpAny (model prog w) A (execs body env) R' (fun _ _ => False) s₂) (fun _ _ => False) s')
    (hnf : ∀ q ∈ news, q.1 ≠ f) (hnr : ∀ q ∈ news, q.1 ≠ r)
    (done : ∀ I m ex fit rit cf cr h tk, (m "self" = some (.ref self) ∧ m "begin" = some (.int b tb) ∧ m "end" = some (.int e te) ∧ m "found" = some (.ref f) ∧ m "rows" = some (.ref r)) → Rws fit ex (rs.flatMap (hit1 b e)) → Rws rit ex (rs.flatMap (keep1 b e)) → (∀ q ∈ ex, ∀ p ∈ (r, W.listOf #[] c1) :: (f, W.listOf #[] c2) :: news, @LT.lt Nat _ p.1 q.1) →
      (∀ p ∈ (r, W.listOf #[] c1) :: (f, W.listOf #[] c2) :: news, @LT.lt Nat _ p.1 I) → fit.size ≤ rs.length → rit.size ≤ 2 * rs.length → Fr g L h m → News g L h ((r, W.listOf rit cr) :: (f, W.listOf fit cf) :: (ex ++ news)) → Q .next { s with heap := h, toks := tk }) : ForFrom (model prog w) A target body env Q E (.ref R) s := by
  refine list0 ((r, W.listOf #[] c1) :: (f, W.listOf #[] c2) :: news) (JF f r b e self tb te rs news) hh (.tail _ (.tail _ hl)) F N (fun p hp => hp) ?_ ?_ ?_ ?_ ?_
  · rintro I hI i m nw ⟨_, fit, rit, cf, cr, ex, _, _, _, _, hex, rfl⟩ p hp
    rcases List.mem_cons.mp hp with rfl | hp
    · exact Nat.ne_of_lt (hI (r, W.listOf #[] c1) (.head _))
    · rcases List.mem_cons.mp hp with rfl | hp
      · exact Nat.ne_of_lt (hI (f, W.listOf #[] c2) (.tail _ (.head _)))
      · rcases List.mem_append.mp hp with hp | hp
        · exact Nat.ne_of_gt (hex p hp)
        · exact Nat.ne_of_lt (hI p (.tail _ (.tail _ hp)))
  · rintro I i m nw ⟨_, fit, rit, cf, cr, ex, _, _, _, _, hex, rfl⟩
    exact .tail _ (.tail _ (List.mem_append_right _ hl))
  · intro I hI
    exact ⟨hm, #[], #[], c2, c1, [], .nil, .nil, Nat.le_refl _, Nat.le_refl _, (fun q hq => nomatch hq), rfl⟩
  · rintro I hI i v m1 nw it h tk hv ⟨hm1, fit, rit, cf, cr, ex, hf, hk, zf, zk, hex, rfl⟩ F1 N1
    obtain ⟨d, lo, hi, t, u, rfl, hq, hmem⟩ := hr.at hv
    have hil : i < rs.length := by
      by_cases q : i < rs.length
      · exact q
      · rw [List.getElem?_eq_none (by omega)] at hq; cases hq
    have hfI : @LT.lt Nat _ f I := hI (f, W.listOf #[] c2) (.tail _ (.head _))
    have hrI : @LT.lt Nat _ r I := hI (r, W.listOf #[] c1) (.head _)
    refine step I d lo hi t u m1 ex fit rit cf cr it { s with heap := h, toks := tk } (TurnStep callerA g [] g L [(I, it)] (JF f r b e self tb te rs news I (i + 1)) s Q) hfI hrI (by omega) (by omega) ?_ ?_ hmem hm1 F1 N1 ?_
    · intro q hq
      rcases List.mem_append.mp hq with hq | hq
      · exact Nat.ne_of_gt (Nat.lt_trans hfI (hex q hq))
      · exact hnf q hq
    · intro q hq
      rcases List.mem_append.mp hq with hq | hq
      · exact Nat.ne_of_gt (Nat.lt_trans hrI (hex q hq))
      · exact hnr q hq
    · intro m' h' tk' fl own fs ks fit' rit' cf' cr' hfl hm' F' N' e1 e2 z1 z2 ho hf' hk'
      have a1 := hf' _ hf
      have a2 := hk' _ hk
      have J : JF f r b e self tb te rs news I (i + 1) m' ((r, W.listOf rit' cr') :: (f, W.listOf fit' cf') :: ((own ++ ex) ++ news)) := by
        refine ⟨hm', fit', rit', cf', cr', own ++ ex, ?_, ?_, ?_, ?_, fun q hq => ?_, rfl⟩
        · rw [take_one hq, List.flatMap_append, List.flatMap_singleton, ← e1]; exact a1
        · rw [take_one hq, List.flatMap_append, List.flatMap_singleton, ← e2]; exact a2
        · have q1 := a1.1
          have q0 := hf.1
          rw [List.length_append] at q1
          omega
        · have q1 := a2.1
          have q0 := hk.1
          rw [List.length_append] at q1
          omega
        · rcases List.mem_append.mp hq with hq | hq
          · exact ho q hq
          · exact hex q hq
      rw [← List.append_assoc] at N'
      have Z := go0 (s := s) (Q := Q) (own := [(I, it)]) (tk' := tk') F' J N'
      rcases hfl with rfl | rfl
      · exact Z
      · exact Z
  · rintro I hI m1 nw h tk ⟨hm1, fit, rit, cf, cr, ex, hf, hk, zf, zk, hex, rfl⟩ F1 N1
    rw [hr.1] at zf zk hf hk
    rw [List.take_length] at hf hk
    exact done I m1 ex fit rit cf cr h tk hm1 hf hk (fun q hq p hp => Nat.lt_trans (hI p hp) (hex q hq)) hI zf zk F1 N1
theorem rws_hit {fit : Array Value} {ex : List (Addr × Obj)} {l : List (Int × Int)} (h : Rws fit ex l) (own : List (Addr × Obj)) : Rws fit (own ++ ex) (l ++ []) := by
  rw [List.append_nil]; exact h.more fun p hp => List.mem_append_right _ hp
theorem rws_one {fit : Array Value} {ex own : List (Addr × Obj)} {l : List (Int × Int)} {d : Addr} {a b : Int} {t u : Tok} (h : Rws fit ex l) (hm : (d, tupOf #[.int a t, .int b u]) ∈ own) : Rws (fit.push (.ref d)) (own ++ ex) (l ++ [(a, b)]) :=
  (h.more fun p hp => List.mem_append_right _ hp).push (List.mem_append_left _ hm)
theorem rws_two {fit : Array Value} {ex own : List (Addr × Obj)} {l : List (Int × Int)} {d d' : Addr} {a b a' b' : Int} {t u t' u' : Tok} (h : Rws fit ex l) (hm : (d, tupOf #[.int a t, .int b u]) ∈ own) (hm' : (d', tupOf #[.int a' t', .int b' u']) ∈ own) : Rws ((fit.push (.ref d)).push (.ref d')) (own ++ ex) (l ++ [(a, b), (a', b')]) := by
  have := (rws_one h hm).push (List.mem_append_left ex hm')
  rwa [List.append_assoc] at this
theorem keep_out {b e lo hi : Int} (h : (if e < hi then e else hi) ≤ if b > lo then b else lo) : ([] : List (Int × Int)) = hit1 b e (lo, hi) ∧ [(lo, hi)] = keep1 b e (lo, hi) := by
  constructor
  · unfold hit1 mx mn; rw [if_pos h]
  · unfold keep1 mx mn; rw [if_pos h]
theorem hit_in {b e lo hi : Int} (h : ¬ (if e < hi then e else hi) ≤ if b > lo then b else lo) : [((if b > lo then b else lo), (if e < hi then e else hi))] = hit1 b e (lo, hi) := by
  unfold hit1 mx mn; rw [if_neg h]
theorem keep_both {b e lo hi : Int} (h : ¬ (if e < hi then e else hi) ≤ if b > lo then b else lo) (h1 : lo < if b > lo then b else lo) (h2 : (if e < hi then e else hi) < hi) : [(lo, (if b > lo then b else lo)), ((if e < hi then e else hi), hi)] = keep1 b e (lo, hi) := by
  unfold keep1 mx mn; dsimp only; rw [if_neg h, if_pos h1, if_pos h2]; rfl
theorem keep_low {b e lo hi : Int} (h : ¬ (if e < hi then e else hi) ≤ if b > lo then b else lo) (h1 : lo < if b > lo then b else lo) (h2 : ¬ (if e < hi then e else hi) < hi) : [(lo, (if b > lo then b else lo))] = keep1 b e (lo, hi) := by
  unfold keep1 mx mn; dsimp only; rw [if_neg h, if_pos h1, if_neg h2]; rfl
theorem keep_high {b e lo hi : Int} (h : ¬ (if e < hi then e else hi) ≤ if b > lo then b else lo) (h1 : ¬ lo < if b > lo then b else lo) (h2 : (if e < hi then e else hi) < hi) : [((if e < hi then e else hi), hi)] = keep1 b e (lo, hi) := by
  unfold keep1 mx mn; dsimp only; rw [if_neg h, if_neg h1, if_pos h2]; rfl
theorem keep_none {b e lo hi : Int} (h : ¬ (if e < hi then e else hi) ≤ if b > lo then b else lo) (h1 : ¬ lo < if b > lo then b else lo) (h2 : ¬ (if e < hi then e else hi) < hi) : ([] : List (Int × Int)) = keep1 b e (lo, hi) := by
  unfold keep1 mx mn; dsimp only; rw [if_neg h, if_neg h1, if_neg h2]; rfl
example : True := by
  (k_with "my own" => ((refine sub_news (by assumption) ?_; (try simp only [List.cons_append, List.nil_append]); (repeat (refine List.forall_mem_cons.mpr ⟨?_, ?_⟩; (focus ((k_mem); done)))); (intro _ hp9; (repeat (first | exact hp9 | refine List.Mem.tail _ ?_))))))
  (k_with "my gt" => (((repeat (refine List.forall_mem_cons.mpr ⟨?_, ?_⟩; (focus (((dsimp only; omega)); done)))); exact List.forall_mem_nil _)))
  trivial
theorem fill_out {b e lo hi : Int} {tb te : Tok} {self f r I L : Addr} {it : Obj} {g h' : Heap} {fit rit : Array Value} {ex nx : List (Addr × Obj)} {s' : Shared} {R' : Flow → Shared → Prop} {m' : Str → Option Value} {tk' cr cf : Nat} {X : Addr × Obj} {D1 : Addr} {t1 u1 : Tok} (hR : FillR b e lo hi tb te self f r I L it g fit rit ex nx s' R') (V : (m' "self" = some (.ref self) ∧ m' "begin" = some (.int b tb) ∧ m' "end" = some (.int e te) ∧ m' "found" = some (.ref f) ∧ m' "rows" = some (.ref r))) (F : Fr g L h' m')
    (N : News g L h' ((D1, tupOf #[.int lo t1, .int hi u1]) :: X :: (I, it) :: (r, W.listOf (rit.push (.ref D1)) cr) :: (f, W.listOf fit cf) :: (ex ++ nx))) (h : (if e < hi then e else hi) ≤ (if b > lo then b else lo)) (l1 : @LT.lt Nat _ I D1) : R' .cont { s' with heap := h', toks := tk' } :=
  hR m' h' tk' .cont [(D1, tupOf #[.int lo t1, .int hi u1])] _ _ fit (rit.push (.ref D1)) cf cr (.inr rfl) V F (sub_news N (by walk_at "my perm")) (keep_out h).1 (keep_out h).2 (Nat.zero_le _) (Nat.le_succ 1) (List.forall_mem_cons.mpr ⟨l1, List.forall_mem_nil _⟩) (fun l h => rws_hit h _) (fun l h => rws_one h (.head _))
theorem fill_both {b e lo hi : Int} {tb te : Tok} {self f r I L : Addr} {it : Obj} {g h' : Heap} {fit rit : Array Value} {ex nx : List (Addr × Obj)} {s' : Shared} {R' : Flow → Shared → Prop} {m' : Str → Option Value} {tk' cr cf : Nat} {X : Addr × Obj} {D1 : Addr} {t1 u1 : Tok} {D2 : Addr} {t2 u2 : Tok} {D3 : Addr} {t3 u3 : Tok} (hR : FillR b e lo hi tb te self f r I L it g fit rit ex nx s' R') (V : (m' "self" = some (.ref self) ∧ m' "begin" = some (.int b tb) ∧ m' "end" = some (.int e te) ∧ m' "found" = some (.ref f) ∧ m' "rows" = some (.ref r))) (F : Fr g L h' m')
    (N : News g L h' ((D3, tupOf #[.int (if e < hi then e else hi) t3, .int hi u3]) :: (D2, tupOf #[.int lo t2, .int (if b > lo then b else lo) u2]) :: (D1, tupOf #[.int (if b > lo then b else lo) t1, .int (if e < hi then e else hi) u1]) :: X :: (I, it) :: (r, W.listOf ((rit.push (.ref D2)).push (.ref D3)) cr) :: (f, W.listOf (fit.push (.ref D1)) cf) :: (ex ++ nx))) (h : ¬ (if e < hi then e else hi) ≤ (if b > lo then b else lo)) (h1 : lo < (if b > lo then b else lo)) (h2 : (if e < hi then e else hi) < hi) (l1 : @LT.lt Nat _ I D1) (l2 : @LT.lt Nat _ I D2) (l3 : @LT.lt Nat _ I D3) : R' .next { s' with heap := h', toks := tk' } :=
  hR m' h' tk' .next [(D3, tupOf #[.int (if e < hi then e else hi) t3, .int hi u3]), (D2, tupOf #[.int lo t2, .int (if b > lo then b else lo) u2]), (D1, tupOf #[.int (if b > lo then b else lo) t1, .int (if e < hi then e else hi) u1])] _ _ (fit.push (.ref D1)) ((rit.push (.ref D2)).push (.ref D3)) cf cr (.inl rfl) V F (sub_news N (by walk_at "my perm")) (hit_in h) (keep_both h h1 h2) (Nat.le_refl 1) (Nat.le_refl 2) (List.forall_mem_cons.mpr ⟨l3, List.forall_mem_cons.mpr ⟨l2, List.forall_mem_cons.mpr ⟨l1, List.forall_mem_nil _⟩⟩⟩) (fun l h => rws_one h (.tail _ (.tail _ (.head _)))) (fun l h => rws_two h (.tail _ (.head _)) (.head _))
theorem fill_low {b e lo hi : Int} {tb te : Tok} {self f r I L : Addr} {it : Obj} {g h' : Heap} {fit rit : Array Value} {ex nx : List (Addr × Obj)} {s' : Shared} {R' : Flow → Shared → Prop} {m' : Str → Option Value} {tk' cr cf : Nat} {X : Addr × Obj} {D1 : Addr} {t1 u1 : Tok} {D2 : Addr} {t2 u2 : Tok} (hR : FillR b e lo hi tb te self f r I L it g fit rit ex nx s' R') (V : (m' "self" = some (.ref self) ∧ m' "begin" = some (.int b tb) ∧ m' "end" = some (.int e te) ∧ m' "found" = some (.ref f) ∧ m' "rows" = some (.ref r))) (F : Fr g L h' m')
    (N : News g L h' ((D2, tupOf #[.int lo t2, .int (if b > lo then b else lo) u2]) :: (D1, tupOf #[.int (if b > lo then b else lo) t1, .int (if e < hi then e else hi) u1]) :: X :: (I, it) :: (r, W.listOf (rit.push (.ref D2)) cr) :: (f, W.listOf (fit.push (.ref D1)) cf) :: (ex ++ nx))) (h : ¬ (if e < hi then e else hi) ≤ (if b > lo then b else lo)) (h1 : lo < (if b > lo then b else lo)) (h2 : ¬ (if e < hi then e else hi) < hi) (l1 : @LT.lt Nat _ I D1) (l2 : @LT.lt Nat _ I D2) : R' .next { s' with heap := h', toks := tk' } :=
  hR m' h' tk' .next [(D2, tupOf #[.int lo t2, .int (if b > lo then b else lo) u2]), (D1, tupOf #[.int (if b > lo then b else lo) t1, .int (if e < hi then e else hi) u1])] _ _ (fit.push (.ref D1)) (rit.push (.ref D2)) cf cr (.inl rfl) V F (sub_news N (by walk_at "my perm")) (hit_in h) (keep_low h h1 h2) (Nat.le_refl 1) (Nat.le_succ 1) (List.forall_mem_cons.mpr ⟨l2, List.forall_mem_cons.mpr ⟨l1, List.forall_mem_nil _⟩⟩) (fun l h => rws_one h (.tail _ (.head _))) (fun l h => rws_one h (.head _))
theorem fill_high {b e lo hi : Int} {tb te : Tok} {self f r I L : Addr} {it : Obj} {g h' : Heap} {fit rit : Array Value} {ex nx : List (Addr × Obj)} {s' : Shared} {R' : Flow → Shared → Prop} {m' : Str → Option Value} {tk' cr cf : Nat} {X : Addr × Obj} {D1 : Addr} {t1 u1 : Tok} {D2 : Addr} {t2 u2 : Tok} (hR : FillR b e lo hi tb te self f r I L it g fit rit ex nx s' R') (V : (m' "self" = some (.ref self) ∧ m' "begin" = some (.int b tb) ∧ m' "end" = some (.int e te) ∧ m' "found" = some (.ref f) ∧ m' "rows" = some (.ref r))) (F : Fr g L h' m')
    (N : News g L h' ((D2, tupOf #[.int (if e < hi then e else hi) t2, .int hi u2]) :: (D1, tupOf #[.int (if b > lo then b else lo) t1, .int (if e < hi then e else hi) u1]) :: X :: (I, it) :: (r, W.listOf (rit.push (.ref D2)) cr) :: (f, W.listOf (fit.push (.ref D1)) cf) :: (ex ++ nx))) (h : ¬ (if e < hi then e else hi) ≤ (if b > lo then b else lo)) (h1 : ¬ lo < (if b > lo then b else lo)) (h2 : (if e < hi then e else hi) < hi) (l1 : @LT.lt Nat _ I D1) (l2 : @LT.lt Nat _ I D2) : R' .next { s' with heap := h', toks := tk' } :=
  hR m' h' tk' .next [(D2, tupOf #[.int (if e < hi then e else hi) t2, .int hi u2]), (D1, tupOf #[.int (if b > lo then b else lo) t1, .int (if e < hi then e else hi) u1])] _ _ (fit.push (.ref D1)) (rit.push (.ref D2)) cf cr (.inl rfl) V F (sub_news N (by walk_at "my perm")) (hit_in h) (keep_high h h1 h2) (Nat.le_refl 1) (Nat.le_succ 1) (List.forall_mem_cons.mpr ⟨l2, List.forall_mem_cons.mpr ⟨l1, List.forall_mem_nil _⟩⟩) (fun l h => rws_one h (.tail _ (.head _))) (fun l h => rws_one h (.head _))
theorem fill_none {b e lo hi : Int} {tb te : Tok} {self f r I L : Addr} {it : Obj} {g h' : Heap} {fit rit : Array Value} {ex nx : List (Addr × Obj)} {s' : Shared} {R' : Flow → Shared → Prop} {m' : Str → Option Value} {tk' cr cf : Nat} {X : Addr × Obj} {D1 : Addr} {t1 u1 : Tok} (hR : FillR b e lo hi tb te self f r I L it g fit rit ex nx s' R') (V : (m' "self" = some (.ref self) ∧ m' "begin" = some (.int b tb) ∧ m' "end" = some (.int e te) ∧ m' "found" = some (.ref f) ∧ m' "rows" = some (.ref r))) (F : Fr g L h' m')
    (N : News g L h' ((D1, tupOf #[.int (if b > lo then b else lo) t1, .int (if e < hi then e else hi) u1]) :: X :: (I, it) :: (r, W.listOf rit cr) :: (f, W.listOf (fit.push (.ref D1)) cf) :: (ex ++ nx))) (h : ¬ (if e < hi then e else hi) ≤ (if b > lo then b else lo)) (h1 : ¬ lo < (if b > lo then b else lo)) (h2 : ¬ (if e < hi then e else hi) < hi) (l1 : @LT.lt Nat _ I D1) : R' .next { s' with heap := h', toks := tk' } :=
  hR m' h' tk' .next [(D1, tupOf #[.int (if b > lo then b else lo) t1, .int (if e < hi then e else hi) u1])] _ _ (fit.push (.ref D1)) rit cf cr (.inl rfl) V F (sub_news N (by walk_at "my perm")) (hit_in h) (keep_none h h1 h2) (Nat.le_refl 1) (Nat.zero_le _) (List.forall_mem_cons.mpr ⟨l1, List.forall_mem_nil _⟩) (fun l h => rws_one h (.head _)) (fun l h => rws_hit h _)
theorem sub_swap {a b c d : Addr × Obj} {ex news : List (Addr × Obj)} : ∀ q ∈ a :: b :: c :: d :: (ex ++ news), q ∈ a :: b :: (ex ++ c :: d :: news) := by walk_at "my perm"
theorem fill_c {w : World} {p : Program} {loose : List Str} {mean : ExcName → Option Value} {mg mb : Str → Option Value} {dp un : Nat} {gd : Option (List Code)} {cn : Str} {cs : Scope} {a : Addr} {ccd : Value} {cl : List (Str × Addr)} {outer : List Env} {A₀ : Around} {base h₀ : Heap} {L : Addr} {m : Str → Option Value} {news : List (Addr × Obj)} {s : Shared} {Q E : Value → Shared → Prop}
    {H dH R : Addr} {b e hs hs' : Int} {tb te tr th tr' : Tok} {items : Array Value} {nn : Nat} {rs : List (Int × Int)}
    (B : Below A₀ base outer h₀) (F : Fr h₀ L s.heap m) (X : (hd.heap_1 w.params).In h₀) (N : News h₀ L s.heap ((dH, dictOf [⟨hs, .str (Str.ofString "most") tr, .int 64 tr'⟩, ⟨hs', .str (Str.ofString "rows") th, .ref R⟩] 2) :: (H, instObj 428 dH) :: news)) (T : Top p loose mean mg mb h₀) (hk : cs.kind = .function)
    (hl : (R, W.listOf items nn) ∈ news) (hr : Rws items news rs) (hz : rs.length < 1000000) (hne : ∀ q ∈ news, q.1 ≠ dH) (hHd : @Ne Nat H dH) (hdp : dp < 600) (hun : un < 2000)
    (ret : ∀ f r fit rit cf cr ex h' tk', Rws fit ex (rs.flatMap (hit1 b e)) → Rws rit ex (rs.flatMap (keep1 b e)) → fit.size ≤ rs.length → rit.size ≤ 2 * rs.length →
      (∀ q ∈ (r, W.listOf rit cr) :: (f, W.listOf fit cf) :: ex, ∀ p ∈ (dH, dictOf [⟨hs, .str (Str.ofString "most") tr, .int 64 tr'⟩, ⟨hs', .str (Str.ofString "rows") th, .ref R⟩] 2) :: (H, instObj 428 dH) :: news, @LT.lt Nat _ p.1 q.1) → @LT.lt Nat _ f r → (∀ q ∈ ex, @LT.lt Nat _ r q.1) → Fr h₀ L h' m →
      News h₀ L h' ((r, W.listOf rit cr) :: (f, W.listOf fit cf) :: (dH, dictOf [⟨hs, .str (Str.ofString "most") tr, .int 64 tr'⟩, ⟨hs', .str (Str.ofString "rows") th, .ref r⟩] 2) :: (H, instObj 428 dH) :: (ex ++ news)) → Q (.ref f) { s with heap := h', toks := tk' }) :
    wpAny (model PySem.Challenge.rw_pf0401_01.row.prog w) (ktrTop dp un gd cn cs L a ccd cl outer) (call (.ref 404) [.ref H, .int b tb, .int e te]) Q E s := by
  refine wpAny_call ?_
  k_dflt cell_enter
  k_steps
  refine list_fill (b := b) (e := e) (tb := tb) (te := te) (self := H) rfl (.tail _ (.tail _ hl)) (hr.more fun p hp => .tail _ (.tail _ hp)) hz (by assumption) (by assumption) ⟨by with_unfolding_all rfl, by with_unfolding_all rfl, by with_unfolding_all rfl, by with_unfolding_all rfl, by with_unfolding_all rfl⟩ ?_ ?_ ?_ ?_
  · generalize ((dH, dictOf _ _) :: (H, instObj 428 dH) :: news : List (Addr × Obj)) = nx
    clear ret N F hr hl hne B
    intro I d lo hi t u m1 ex fit rit cf cr it s1 R1 hfI hrI zf zr hnf hnr hd hm1 F1 N1 hR1
    rw [m_five hm1] at F1
    replace N1 := dup1 N1 (.tail _ (.tail _ (.tail _ (List.mem_append_right _ hd))))
    clear hm1
    k_steps
    · exact fill_out hR1 ⟨rfl, rfl, rfl, rfl, rfl⟩ (by assumption) (by assumption) (by assumption) (by omega)
    · exact fill_both hR1 ⟨rfl, rfl, rfl, rfl, rfl⟩ (by assumption) (by assumption) (by assumption) (by assumption) (by assumption) (by omega) (by omega) (by omega)
    · exact fill_low hR1 ⟨rfl, rfl, rfl, rfl, rfl⟩ (by assumption) (by assumption) (by assumption) (by assumption) (by assumption) (by omega) (by omega)
    · exact fill_high hR1 ⟨rfl, rfl, rfl, rfl, rfl⟩ (by assumption) (by assumption) (by assumption) (by assumption) (by assumption) (by omega) (by omega)
    · exact fill_none hR1 ⟨rfl, rfl, rfl, rfl, rfl⟩ (by assumption) (by assumption) (by assumption) (by assumption) (by assumption) (by omega)
  · exact ne_all (by assumption) (Nat.le_refl _)
  · exact ne_all (And.right (by assumption)) (Nat.le_refl _)
  · intro I m1 ex fit rit cf cr h tk hm1 hf hk hlt hI zf zr F1 N1
    rw [m_five hm1] at F1
    have hdx : ∀ q ∈ ex ++ news, q.1 ≠ dH := fun q hq => by
      rcases List.mem_append.mp hq with hq | hq
      · exact Nat.ne_of_gt (hlt q hq _ (.tail _ (.tail _ (.head _))))
      · exact hne q hq
    replace N1 := sub_news N1 sub_swap
    clear hm1 N F hI
    k_steps
    refine ret _ _ _ _ _ _ _ _ _ hf hk zf zr (List.forall_mem_cons.mpr ⟨fun p hp => ?_, List.forall_mem_cons.mpr ⟨fun p hp => ?_, fun q hq p hp => hlt q hq p (.tail _ (.tail _ hp))⟩⟩) (by omega) (fun q hq => hlt q hq _ (.head _)) (by assumption) (by assumption)
    · rename @LT.lt Nat _ _ _ ∧ @LT.lt Nat _ _ _ ∧ @LT.lt Nat _ _ _ ∧ AllLt _ news => l9
      exact lt_all (l := (_, _) :: (_, _) :: news) l9.2 p hp
    · rename @LT.lt Nat _ _ _ ∧ @LT.lt Nat _ _ _ ∧ AllLt _ news => l9
      exact lt_all (l := (_, _) :: (_, _) :: news) l9 p hp
/-- the last of the rows -/
def EndsAt (rs : List (Int × Int)) (z : Int) : Prop := ∃ pre, rs = pre ++ [(z, 64)]
theorem last_at {prog : Program} {w : World} {A : Around} {E : Value → Shared → Prop} {s : Shared} {value slice : PySem.Expr} {h₀ : Heap} {L l : Addr} {news ex : List (Addr × Obj)} {items : Array Value} {nn : Nat} {rs : List (Int × Int)} {z : Int} {u : Tok} {Q : Value → Shared → Prop}
    (N : News h₀ L s.heap news) (hm : (l, W.listOf items nn) ∈ news) (hr : Rws items ex rs) (he : EndsAt rs z) (hz : rs.length < 1000000) (sub : ∀ p ∈ ex, p ∈ news) (h : ∀ d t u, News h₀ L s.heap ((d, tupOf #[.int z t, .int 64 u]) :: news) → Q (.ref d) s)
    (hs : subscripted slice false (.ref l) (.int (-1) u) = operate [.ref l, .int (-1) u] (getItem (.ref l) (.int (-1) u)) := by with_unfolding_all rfl) : wpAny (model prog w) A (subscriptTail value slice (.ref l) (.int (-1) u)) Q E s := by
  have hl : s.heap.IsList l items := ⟨_, (N _ hm).1, rfl, _, rfl⟩
  obtain ⟨pre, rfl⟩ := he
  have h1 := hr.1
  rw [List.length_append, List.length_singleton] at h1
  obtain ⟨d, t, v, e1, e2⟩ := hr.2 pre.length z 64 (by simp)
  refine tail_any hl.typeIs slot_list_getitem.lookup (wpAny_getItem_list_neg hl (by decide) (by omega) (by decide) (x := .ref d) ?_ (h d t v (dup1 N (sub _ e2)))) hs
  rw [show ((-1 : Int) + items.size).toNat = pre.length by omega]
  exact e1
open PySem.SeqAt in
theorem ne_empty {prog : Program} {w : World} {A : Around} {E : Value → Shared → Prop} {s : Shared} {Q : Value → Shared → Prop} {l b : Addr} {h₀ : Heap} {L : Addr} {news ex : List (Addr × Obj)} {items : Array Value} {nn mm : Nat} {rs : List (Int × Int)} {z : Int}
    (N : News h₀ L s.heap news) (hl : (l, W.listOf items nn) ∈ news) (hb : (b, W.listOf #[] mm) ∈ news) (hr : Rws items ex rs) (he : EndsAt rs z) (hu : A.units < cLine) (h : Q (.bool true) s) : wpAny (model prog w) A (compareOp .NotEq (.ref l) (.ref b)) Q E s := by
  obtain ⟨pre, rfl⟩ := he
  have h1 := hr.1
  rw [List.length_append, List.length_singleton] at h1
  exact cmp_ofNotEq (RcNeAt.lists_lengths ⟨_, (N _ hl).1, rfl, _, rfl⟩ ⟨_, (N _ hb).1, rfl, _, rfl⟩ (by simp only [List.size_toArray, List.length_nil, bne_iff_ne]; omega) hu prog w E Q h)
example : True := by
  (k_with "compareOp NotEq ref ref" => ((k_here; k_dflt (refine ne_empty (by assumption) (by k_mem) (by k_mem) (by assumption) (by assumption) (by ktr_units) ?_))))
  (k_with "subscriptTail" => ((k_here; (with_reducible show wpAny _ _ (subscriptTail _ _ (Value.ref _) (Value.int (-1) _)) _ _ _); refine last_at (by assumption) (by k_mem) (by assumption) (by assumption) (by assumption) (fun p hp => by (repeat (first | exact hp | refine List.Mem.tail _ ?_))) ?_; intro d' t' u' N'; (try dsimp only at N'))))
  trivial
theorem reach_c {w : World} {p : Program} {loose : List Str} {mean : ExcName → Option Value} {mg mb : Str → Option Value} {dp un : Nat} {gd : Option (List Code)} {cn : Str} {cs : Scope} {a : Addr} {ccd : Value} {cl : List (Str × Addr)} {outer : List Env} {A₀ : Around} {base h₀ : Heap} {L : Addr} {m : Str → Option Value} {news : List (Addr × Obj)} {s : Shared} {Q E : Value → Shared → Prop}
    {H dH R : Addr} {hs hs' z : Int} {tr th tr' : Tok} {items : Array Value} {nn n : Nat} {rs : List (Int × Int)}
    (B : Below A₀ base outer h₀) (F : Fr h₀ L s.heap m) (X : (hd.heap_1 w.params).In h₀) (N : News h₀ L s.heap ((dH, dictOf [⟨hs, .str (Str.ofString "most") tr, .int 64 tr'⟩, ⟨hs', .str (Str.ofString "rows") th, .ref R⟩] n) :: (H, instObj 428 dH) :: news)) (T : Top p loose mean mg mb h₀) (hk : cs.kind = .function)
    (hl : (R, W.listOf items nn) ∈ news) (hr : Rws items news rs) (hz : rs.length < 1000000) (he : EndsAt rs z) (hdp : dp < 600) (hun : un < 2000)
    (ret : ∀ t h' tk', Fr h₀ L h' m → News h₀ L h' ((dH, dictOf [⟨hs, .str (Str.ofString "most") tr, .int 64 tr'⟩, ⟨hs', .str (Str.ofString "rows") th, .ref R⟩] n) :: (H, instObj 428 dH) :: news) → Q (.int z t) { s with heap := h', toks := tk' }) :
    wpAny (model PySem.Challenge.rw_pf0401_01.row.prog w) (ktrTop dp un gd cn cs L a ccd cl outer) (call (.ref 418) [.ref H]) Q E s := by
  replace N := dup1 N (.tail _ (.tail _ hl))
  refine wpAny_call ?_
  k_dflt cell_enter
  k_steps
  exact ret _ _ _ (by assumption) (by walk_at "my sub")
example : True := by
  (k_with "call ref" => ((k_here; refine call_stop 418 ?_)))
  trivial
inductive DgObj (b m H P : Value) (en : Value) (ah : Int) (fv : Value) (sz : Int) (od : Obj) : Prop
  | mk (e1 e2 e3 e4 e5 e6 e7 e8 : Int) (t1 t2 t3 t4 t5 t6 t7 t8 u6 u8 : Tok) (h1 : od = dictOf [⟨e1, .str (Str.ofString "began") t1, b⟩, ⟨e2, .str (Str.ofString "most") t2, m⟩, ⟨e3, .str (Str.ofString "holes") t3, H⟩, ⟨e4, .str (Str.ofString "parts") t4, P⟩, ⟨e5, .str (Str.ofString "end") t5, en⟩, ⟨e6, .str (Str.ofString "ahead") t6, .int ah u6⟩, ⟨e7, .str (Str.ofString "first") t7, fv⟩, ⟨e8, .str (Str.ofString "size") t8, .int sz u8⟩] 8) : DgObj b m H P en ah fv sz od
theorem against_c {w : World} {p : Program} {loose : List Str} {mean : ExcName → Option Value} {mg mb : Str → Option Value} {dp un : Nat} {gd : Option (List Code)} {cn : Str} {cs : Scope} {a : Addr} {ccd : Value} {cl : List (Str × Addr)} {outer : List Env} {A₀ : Around} {base h₀ : Heap} {L : Addr} {m : Str → Option Value} {news : List (Addr × Obj)} {s : Shared} {Q E : Value → Shared → Prop}
    {D dD H dH R P : Addr} {hs hs' b e ah sz : Int} {tr th tr' tb te tm : Tok} {bg en fv : Value} {od : Obj} {more : Bool} {items : Array Value} {nn n : Nat} {rs : List (Int × Int)}
    (B : Below A₀ base outer h₀) (F : Fr h₀ L s.heap m) (X : (hd.heap_1 w.params).In h₀) (N : News h₀ L s.heap ((D, instObj 482 dD) :: (dD, od) :: (dH, dictOf [⟨hs, .str (Str.ofString "most") tr, .int 64 tr'⟩, ⟨hs', .str (Str.ofString "rows") th, .ref R⟩] n) :: (H, instObj 428 dH) :: news)) (T : Top p loose mean mg mb h₀) (hk : cs.kind = .function) (hO : DgObj bg (.int 64 tm) (.ref H) (.ref P) en ah fv sz od)
    (hl : (R, W.listOf items nn) ∈ news) (hr : Rws items news rs) (hz : rs.length < 1000000) (hst : (∃ t, en = .int 24 t) ∨ en = .none ∧ ah ≤ 16 ∧ ∃ z, z ≤ 16 ∧ EndsAt rs z) (hm : (more = true ∧ e ≤ 16) ∨ (more = false ∧ e = 24)) (hdp : dp < 550) (hun : un < 1500)
    (ret : ∀ h' tk', Fr h₀ L h' m → News h₀ L h' ((D, instObj 482 dD) :: (dD, od) :: (dH, dictOf [⟨hs, .str (Str.ofString "most") tr, .int 64 tr'⟩, ⟨hs', .str (Str.ofString "rows") th, .ref R⟩] n) :: (H, instObj 428 dH) :: news) → Q (.bool false) { s with heap := h', toks := tk' }) :
    wpAny (model PySem.Challenge.rw_pf0401_01.row.prog w) (ktrTop dp un gd cn cs L a ccd cl outer) (call (.ref 453) [.ref D, .int b tb, .int e te, .bool more]) Q E s := by
  obtain ⟨e1, e2, e3, e4, e5, e6, e7, e8, t1, t2, t3, t4, t5, t6, t7, t8, u6, u8, rfl⟩ := hO
  refine wpAny_call ?_
  k_dflt cell_enter
  rcases hst with ⟨t, rfl⟩ | ⟨rfl, hah, z, hz1, he⟩ <;> rcases hm with ⟨rfl, hm⟩ | ⟨rfl, rfl⟩
  · k_steps
    rw [decide_eq_false (by omega)]
    exact ret _ _ (by assumption) (by assumption)
  · k_steps
    exact ret _ _ (by assumption) (by assumption)
  · k_steps
    exact ret _ _ (by assumption) (by assumption)
  · k_steps
    unfold CallAt
    with_unfolding_all refine reach_c (by assumption) (by assumption) (by assumption) (dup2 (by assumption) (by k_mem) (by k_mem)) (by assumption) (by first | assumption | exact rfl) (by (repeat (first | assumption | refine List.Mem.tail _ ?_))) (Rws.more (by assumption) (fun p hp => by (repeat (first | exact hp | refine List.Mem.tail _ ?_)))) (by assumption) (by assumption) (by walk_at "my small") (by walk_at "my small") ?_
    intro t' h' tk' F' N'
    k_steps
    rw [decide_eq_false (by omega)]
    exact ret _ _ (by assumption) (sub_news (by assumption) (fun p hp => .tail _ (.tail _ hp)))
example : True := by
  (k_with "call ref" => ((k_here; refine call_stop 404 ?_)))
  (k_with "call ref" => ((k_here; refine call_stop 453 ?_)))
  (k_with "call ref" => ((k_here; refine call_stop 411 ?_)))
  trivial
theorem endat_c {w : World} {p : Program} {loose : List Str} {mean : ExcName → Option Value} {mg mb : Str → Option Value} {dp un : Nat} {gd : Option (List Code)} {cn : Str} {cs : Scope} {a : Addr} {ccd : Value} {cl : List (Str × Addr)} {outer : List Env} {A₀ : Around} {base h₀ : Heap} {L : Addr} {m : Str → Option Value} {news : List (Addr × Obj)} {s : Shared} {Q E : Value → Shared → Prop}
    {H dH R : Addr} {e hs hs' : Int} {te tr th tr' : Tok} {items : Array Value} {nn : Nat} {rs : List (Int × Int)}
    (B : Below A₀ base outer h₀) (F : Fr h₀ L s.heap m) (X : (hd.heap_1 w.params).In h₀) (N : News h₀ L s.heap ((dH, dictOf [⟨hs, .str (Str.ofString "most") tr, .int 64 tr'⟩, ⟨hs', .str (Str.ofString "rows") th, .ref R⟩] 2) :: (H, instObj 428 dH) :: news)) (T : Top p loose mean mg mb h₀) (hk : cs.kind = .function)
    (hl : (R, W.listOf items nn) ∈ news) (hr : Rws items news rs) (hz : rs.length < 1000000) (hne : ∀ q ∈ news, q.1 ≠ dH) (hHd : @Ne Nat H dH) (hdp : dp < 550) (hun : un < 1500)
    (ret : ∀ r rit cr ex rs' h' tk', Rws rit ex rs' → rs'.length ≤ 2 * rs.length →
      (∀ q ∈ (r, W.listOf rit cr) :: ex, ∀ p ∈ (dH, dictOf [⟨hs, .str (Str.ofString "most") tr, .int 64 tr'⟩, ⟨hs', .str (Str.ofString "rows") th, .ref R⟩] 2) :: (H, instObj 428 dH) :: news, @LT.lt Nat _ p.1 q.1) → (∀ q ∈ ex, @LT.lt Nat _ r q.1) → Fr h₀ L h' m →
      News h₀ L h' ((r, W.listOf rit cr) :: (dH, dictOf [⟨hs, .str (Str.ofString "most") tr, .int 64 tr'⟩, ⟨hs', .str (Str.ofString "rows") th, .ref r⟩] 2) :: (H, instObj 428 dH) :: (ex ++ news)) → Q .none { s with heap := h', toks := tk' }) :
    wpAny (model PySem.Challenge.rw_pf0401_01.row.prog w) (ktrTop dp un gd cn cs L a ccd cl outer) (call (.ref 411) [.ref H, .int e te]) Q E s := by
  refine wpAny_call ?_
  k_dflt cell_enter
  k_steps
  unfold CallAt
  with_unfolding_all refine fill_c (by assumption) (by assumption) (by assumption) (by assumption) (by assumption) (by first | assumption | exact rfl) hl hr hz hne hHd (by walk_at "my small") (by walk_at "my small") ?_
  intro f9 r9 fit9 rit9 cf9 cr9 ex9 h9 tk9 hf9 hk9 zf9 zr9 hlt9 hfr9 hrx9 F9 N9
  k_steps
  exact ret r9 rit9 cr9 ex9 _ _ _ hk9 (by rw [← hk9.1]; exact zr9) (fun q hq => hlt9 q (by rcases List.mem_cons.mp hq with rfl | hq; exact .head _; exact .tail _ (.tail _ hq))) hrx9 (by assumption) (by walk_at "my own")
inductive JPut (D P dD : Addr) (bg mo Hv Pv en : Value) (ah : Int) (fv : Value) (k0 : Nat) (V : (Str → Option Value) → Prop) (rest : List (Addr × Obj)) (I0 : Addr) (i : Nat) (m : Str → Option Value) (nw : List (Addr × Obj)) : Prop
  | mk (h1 : V m) (pit : Array Value) (np : Nat) (sz : Int) (od : Obj) (h2 : pit.size ≤ k0 + i) (h3 : DgObj bg mo Hv Pv en ah fv sz od) (h4 : nw = (D, instObj 482 dD) :: (P, W.listOf pit np) :: (dD, od) :: rest) : JPut D P dD bg mo Hv Pv en ah fv k0 V rest I0 i m nw
def PutR (D P dD I L : Addr) (it : Obj) (g : Heap) (bg mo Hv Pv en : Value) (ah : Int) (fv : Value) (V : (Str → Option Value) → Prop) (pit : Array Value) (rest : List (Addr × Obj)) (s' : Shared) (R' : Flow → Shared → Prop) : Prop :=
  ∀ m' h' tk' v np' od' sz', V m' → DgObj bg mo Hv Pv en ah fv sz' od' → Fr g L h' m' → News g L h' ((I, it) :: (D, instObj 482 dD) :: (P, W.listOf (pit.push v) np') :: (dD, od') :: rest) → R' .next { s' with heap := h', toks := tk' }
theorem list_put {prog : Program} {w : World} {A : Around} {E : Value → Shared → Prop} {s : Shared} {m : Str → Option Value} {env : Env} {target : Expr} {body : List Stmt} {Q : Flow → Shared → Prop} {L : Addr} {g : Heap} {D P dD f : Addr} {bg mo Hv Pv en : Value} {ah : Int} {fv : Value} {pit fit : Array Value} {np nf : Nat} {sz : Int} {od : Obj} {rest all : List (Addr × Obj)} {fs : List (Int × Int)} (V : (Str → Option Value) → Prop)
    (hh : A.handled = none) (hl : (f, W.listOf fit nf) ∈ rest) (hr : Rws fit rest fs) (hz : pit.size + fs.length < 1000000) (F : Fr g L s.heap m) (N : News g L s.heap all) (sub : ∀ q ∈ (D, instObj 482 dD) :: (P, W.listOf pit np) :: (dD, od) :: rest, q ∈ all) (hO : DgObj bg mo Hv Pv en ah fv sz od) (hV : V m) (nP : ∀ q ∈ rest, q.1 ≠ P) (nD : ∀ q ∈ rest, q.1 ≠ dD)
    (step : ∀ (rest : List (Addr × Obj)), (∀ q ∈ rest, q.1 ≠ P) → (∀ q ∈ rest, q.1 ≠ dD) → ∀ (I d : Addr) (lo hi : Int) (t u : Tok) (m : Str → Option Value) (pit : Array Value) (np : Nat) (od : Obj) (sz : Int) (it : Obj) (s' : Shared) (R' : Flow → Shared → Prop), (d, tupOf #[.int lo t, .int hi u]) ∈ rest → pit.size < 1000000 → @LT.lt Nat _ D I → @LT.lt Nat _ P I → @LT.lt Nat _ dD I → V m → DgObj bg mo Hv Pv en ah fv sz od → Fr g L s'.heap m → News g L s'.heap ((I, it) :: (D, instObj 482 dD) :: (P, W.listOf pit np) :: (dD, od) :: rest) → PutR D P dD I L it g bg mo Hv Pv en ah fv V pit rest s' R' →
      wpAny (model prog w) A (assign target env (.ref d)) (fun _ s₂ => wpAny (model prog w) A (execs body env) R' (fun _ _ => False) s₂) (fun _ _ => False) s')
    (done : ∀ I m pit' np' od' sz' h tk, (∀ q ∈ rest, @LT.lt Nat _ q.1 I) → V m → pit'.size ≤ pit.size + fs.length → DgObj bg mo Hv Pv en ah fv sz' od' → Fr g L h m → News g L h ((D, instObj 482 dD) :: (P, W.listOf pit' np') :: (dD, od') :: rest) → Q .next { s with heap := h, toks := tk }) : ForFrom (model prog w) A target body env Q E (.ref f) s := by
  refine list0 ((D, instObj 482 dD) :: (P, W.listOf pit np) :: (dD, od) :: rest) (JPut D P dD bg mo Hv Pv en ah fv pit.size V rest) hh (sub _ (.tail _ (.tail _ (.tail _ hl)))) F N sub ?_ ?_ ?_ ?_ ?_
  · rintro I hI i m nw ⟨_, pit1, np1, sz1, od1, _, _, rfl⟩ p hp
    rcases List.mem_cons.mp hp with rfl | hp
    · exact Nat.ne_of_lt (hI (D, instObj 482 dD) (.head _))
    · rcases List.mem_cons.mp hp with rfl | hp
      · exact Nat.ne_of_lt (hI (P, W.listOf pit np) (.tail _ (.head _)))
      · rcases List.mem_cons.mp hp with rfl | hp
        · exact Nat.ne_of_lt (hI (dD, od) (.tail _ (.tail _ (.head _))))
        · exact Nat.ne_of_lt (hI p (.tail _ (.tail _ (.tail _ hp))))
  · rintro I i m nw ⟨_, pit1, np1, sz1, od1, _, _, rfl⟩
    exact .tail _ (.tail _ (.tail _ hl))
  · intro I hI
    exact ⟨hV, pit, np, sz, od, Nat.le_refl _, hO, rfl⟩
  · rintro I hI i v m1 nw it h tk hv ⟨hV1, pit1, np1, sz1, od1, hz1, hO1, rfl⟩ F1 N1
    obtain ⟨d, lo, hi, t, u, rfl, hq, hmem⟩ := hr.at hv
    have hil : i < fs.length := by
      by_cases q : i < fs.length
      · exact q
      · rw [List.getElem?_eq_none (by omega)] at hq; cases hq
    refine step rest nP nD I d lo hi t u m1 pit1 np1 od1 sz1 it { s with heap := h, toks := tk } (TurnStep callerA g [] g L [(I, it)] (JPut D P dD bg mo Hv Pv en ah fv pit.size V rest I (i + 1)) s Q) hmem (by omega) (hI _ (.head _)) (hI _ (.tail _ (.head _))) (hI _ (.tail _ (.tail _ (.head _)))) hV1 hO1 F1 N1 ?_
    intro m' h' tk' v' np' od' sz' hV' hO' F' N'
    exact go0 (s := s) (Q := Q) (own := [(I, it)]) (tk' := tk') F' ⟨hV', pit1.push v', np', sz', od', by rw [Array.size_push]; omega, hO', rfl⟩ N'
  · rintro I hI m1 nw h tk ⟨hV1, pit1, np1, sz1, od1, hz1, hO1, rfl⟩ F1 N1
    rw [hr.1] at hz1
    exact done I m1 pit1 np1 od1 sz1 h tk (fun q hq => hI q (.tail _ (.tail _ (.tail _ hq)))) hV1 hz1 hO1 F1 N1
theorem ends_keep {rs : List (Int × Int)} {z b : Int} (h : EndsAt rs z) (hz : z ≤ 16) (hb : b = 0 ∨ b = 8) : ∃ z', z' ≤ 16 ∧ EndsAt (rs.flatMap (keep1 b (b + 8))) z' := by
  obtain ⟨pre, rfl⟩ := h
  rw [List.flatMap_append, List.flatMap_singleton]
  have hm : mn 64 (b + 8) = b + 8 := by unfold mn; rw [if_pos (by omega)]
  unfold keep1
  dsimp only
  rw [hm]
  by_cases q : b + 8 ≤ mx z b
  · rw [if_pos q]
    exact ⟨z, hz, _, rfl⟩
  · rw [if_neg q, if_pos (by omega : b + 8 < 64), ← List.append_assoc]
    exact ⟨b + 8, by omega, _, rfl⟩
inductive HdObj (off : Int) (to : Tok) (more : Bool) (od : Obj) : Prop
  | mk (e1 e2 e3 e4 e5 e6 e7 e8 e9 e10 : Int) (t1 t2 t3 t4 t5 t6 t7 t8 t9 t10 : Tok) (v1 v2 v3 v4 v5 v6 v7 v10 : Value) (h1 : od = dictOf [⟨e1, .str (Str.ofString "source") t1, v1⟩, ⟨e2, .str (Str.ofString "target") t2, v2⟩, ⟨e3, .str (Str.ofString "protocol") t3, v3⟩, ⟨e4, .str (Str.ofString "ident") t4, v4⟩, ⟨e5, .str (Str.ofString "ttl") t5, v5⟩, ⟨e6, .str (Str.ofString "tos") t6, v6⟩, ⟨e7, .str (Str.ofString "dont") t7, v7⟩, ⟨e8, .str (Str.ofString "more") t8, .bool more⟩, ⟨e9, .str (Str.ofString "offset") t9, .int off to⟩, ⟨e10, .str (Str.ofString "options") t10, v10⟩] 10) : HdObj off to more od
def Apart7 (D dD H dH P hd dh : Addr) : Prop :=
  (@Ne Nat D dD ∧ @Ne Nat H dD ∧ @Ne Nat dH dD ∧ @Ne Nat P dD ∧ @Ne Nat hd dD ∧ @Ne Nat dh dD) ∧ (@Ne Nat D dH ∧ @Ne Nat H dH ∧ @Ne Nat P dH ∧ @Ne Nat hd dH ∧ @Ne Nat dh dH) ∧ (@Ne Nat D P ∧ @Ne Nat H P ∧ @Ne Nat hd P ∧ @Ne Nat dh P)
def StOk (en : Value) (ah : Int) (rs : List (Int × Int)) : Prop := (∃ t, en = .int 24 t) ∨ en = .none ∧ ah ≤ 16 ∧ ∃ z, z ≤ 16 ∧ EndsAt rs z
def FvOk (fv : Value) : Prop := fv = .none ∨ ∃ a, fv = .ref a
theorem sub_fill {a b c d e x y : Addr × Obj} {l : List (Addr × Obj)} : ∀ q ∈ x :: y :: a :: b :: c :: d :: e :: l, q ∈ a :: b :: c :: d :: e :: x :: y :: l := by walk_at "my perm"
theorem sub_put {D P dD r f x y a b : Addr × Obj} {ex l : List (Addr × Obj)} : ∀ q ∈ D :: P :: dD :: r :: f :: x :: y :: a :: b :: (ex ++ l), q ∈ r :: f :: x :: y :: (ex ++ a :: b :: D :: dD :: P :: l) := by walk_at "my perm"
theorem put_end {D P dD I L : Addr} {it : Obj} {g h' : Heap} {bg mo Hv Pv en v : Value} {ah sz' : Int} {fv : Value} {V : (Str → Option Value) → Prop} {pit : Array Value} {rest : List (Addr × Obj)} {s' : Shared} {R' : Flow → Shared → Prop} {m' : Str → Option Value} {tk' np' : Nat} {X Y : Addr × Obj} {i1 i2 i3 i4 i5 i6 i7 i8 : Int} {j1 j2 j3 j4 j5 j6 j7 j8 x6 x8 : Tok}
    (hR : PutR D P dD I L it g bg mo Hv Pv en ah fv V pit rest s' R') (hV : V m') (F : Fr g L h' m')
    (N : News g L h' (X :: Y :: (I, it) :: (D, instObj 482 dD) :: (P, W.listOf (pit.push v) np') :: (dD, dictOf [⟨i1, .str (Str.ofString "began") j1, bg⟩, ⟨i2, .str (Str.ofString "most") j2, mo⟩, ⟨i3, .str (Str.ofString "holes") j3, Hv⟩, ⟨i4, .str (Str.ofString "parts") j4, Pv⟩, ⟨i5, .str (Str.ofString "end") j5, en⟩, ⟨i6, .str (Str.ofString "ahead") j6, .int ah x6⟩, ⟨i7, .str (Str.ofString "first") j7, fv⟩, ⟨i8, .str (Str.ofString "size") j8, .int sz' x8⟩] 8) :: rest)) : R' .next { s' with heap := h', toks := tk' } :=
  hR m' h' tk' v np' _ sz' hV ⟨i1, i2, i3, i4, i5, i6, i7, i8, j1, j2, j3, j4, j5, j6, j7, j8, x6, x8, rfl⟩ F (undup (undup N))
theorem ne_six {a b c d e f : Addr × Obj} {l : List (Addr × Obj)} {x : Addr} (h1 : @Ne Nat a.1 x) (h2 : @Ne Nat b.1 x) (h3 : @Ne Nat c.1 x) (h4 : @Ne Nat d.1 x) (h5 : @Ne Nat e.1 x) (h6 : @Ne Nat f.1 x) (h : ∀ q ∈ l, q.1 ≠ x) : ∀ q ∈ a :: b :: c :: d :: e :: f :: l, q.1 ≠ x :=
  List.forall_mem_cons.mpr ⟨h1, List.forall_mem_cons.mpr ⟨h2, List.forall_mem_cons.mpr ⟨h3, List.forall_mem_cons.mpr ⟨h4, List.forall_mem_cons.mpr ⟨h5, List.forall_mem_cons.mpr ⟨h6, h⟩⟩⟩⟩⟩⟩
theorem lt_seven {r f : Addr × Obj} {ex news : List (Addr × Obj)} {dH H hd dh D dD P : Addr × Obj} (h : ∀ q ∈ r :: f :: ex, ∀ p ∈ dH :: H :: hd :: dh :: D :: dD :: P :: news, @LT.lt Nat _ p.1 q.1) : ∀ q ∈ r :: ex, (∀ x ∈ [hd.1, dh.1, D.1, dD.1, P.1, dH.1, H.1], @LT.lt Nat _ x q.1) ∧ ∀ p ∈ news, @LT.lt Nat _ p.1 q.1 := by
  intro q hq
  have h' := h q (by rcases List.mem_cons.mp hq with rfl | hq; exact .head _; exact .tail _ (.tail _ hq))
  refine ⟨fun x hx => ?_, fun p hp => h' p (.tail _ (.tail _ (.tail _ (.tail _ (.tail _ (.tail _ (.tail _ hp)))))))⟩
  simp only [List.mem_cons, List.not_mem_nil, or_false] at hx
  rcases hx with rfl | rfl | rfl | rfl | rfl | rfl | rfl <;> exact h' _ (by simp)
theorem lt_seven2 {r f r9 : Addr × Obj} {ex ex9 news : List (Addr × Obj)} {dH H hd dh D dD P : Addr × Obj} (h : ∀ q ∈ r :: ex, ∀ p ∈ dH :: H :: D :: P :: dD :: r9 :: f :: hd :: dh :: (ex9 ++ news), @LT.lt Nat _ p.1 q.1) : ∀ q ∈ r :: ex, (∀ x ∈ [hd.1, dh.1, D.1, dD.1, P.1, dH.1, H.1], @LT.lt Nat _ x q.1) ∧ ∀ p ∈ news, @LT.lt Nat _ p.1 q.1 := by
  intro q hq
  have h' := h q hq
  refine ⟨fun x hx => ?_, fun p hp => h' p (by simp [hp])⟩
  simp only [List.mem_cons, List.not_mem_nil, or_false] at hx
  rcases hx with rfl | rfl | rfl | rfl | rfl | rfl | rfl <;> exact h' _ (by simp)
theorem sub_end {D P dD r f x y a b : Addr × Obj} {l : List (Addr × Obj)} : ∀ q ∈ x :: y :: D :: P :: dD :: r :: f :: a :: b :: l, q ∈ D :: P :: dD :: r :: f :: x :: y :: a :: b :: l := by walk_at "my perm"
theorem sub_ret1 {D P dD r f x y a b : Addr × Obj} {l : List (Addr × Obj)} : ∀ q ∈ D :: dD :: P :: x :: y :: r :: l, q ∈ D :: P :: dD :: r :: f :: x :: y :: a :: b :: l := by walk_at "my perm"
theorem sub_ret2 {D P dD r2 r f x y a b : Addr × Obj} {ex2 ex l : List (Addr × Obj)} : ∀ q ∈ D :: dD :: P :: x :: y :: r2 :: (ex2 ++ l), q ∈ r2 :: x :: y :: (ex2 ++ D :: P :: dD :: r :: f :: a :: b :: (ex ++ l)) := by walk_at "my perm"
theorem st_more {en : Value} {ah off n : Int} {rs : List (Int × Int)} (hst : StOk en ah rs) (hoff : off = 0 ∨ off = 8) (hn : n = 8) : StOk en (if off + n > ah then off + n else ah) (rs.flatMap (keep1 off (off + n))) := by
  subst hn
  rcases hst with h | ⟨h, hah, z, hz, he⟩
  · exact .inl h
  · exact .inr ⟨h, by split <;> omega, ends_keep he hz hoff⟩
theorem put_c {w : World} {p : Program} {loose : List Str} {mean : ExcName → Option Value} {mg mb : Str → Option Value} {dp un : Nat} {gd : Option (List Code)} {cn : Str} {cs : Scope} {a : Addr} {ccd : Value} {cl : List (Str × Addr)} {outer : List Env} {A₀ : Around} {base h₀ : Heap} {L : Addr} {m : Str → Option Value} {news : List (Addr × Obj)} {s : Shared} {Q E : Value → Shared → Prop}
    {hd dh D dD P dH H R : Addr} {off hs hs' ah sz : Int} {to tr th tr' tm tp : Tok} {bg en fv : Value} {hod od : Obj} {more : Bool} {pit items : Array Value} {np nn : Nat} {rs : List (Int × Int)} {pay : Array UInt8}
    (B : Below A₀ base outer h₀) (F : Fr h₀ L s.heap m) (X : (Mine.hd.heap_1 w.params).In h₀) (N : News h₀ L s.heap ((hd, instObj 316 dh) :: (dh, hod) :: (D, instObj 482 dD) :: (dD, od) :: (P, W.listOf pit np) :: (dH, dictOf [⟨hs, .str (Str.ofString "most") tr, .int 64 tr'⟩, ⟨hs', .str (Str.ofString "rows") th, .ref R⟩] 2) :: (H, instObj 428 dH) :: news)) (T : Top p loose mean mg mb h₀) (hk : cs.kind = .function)
    (hA : Apart7 D dD H dH P hd dh) (nD : ∀ q ∈ news, q.1 ≠ dD) (nH : ∀ q ∈ news, q.1 ≠ dH) (nP : ∀ q ∈ news, q.1 ≠ P) (hO : DgObj bg (.int 64 tm) (.ref H) (.ref P) en ah fv sz od) (hHd : HdObj off to more hod)
    (hl : (R, W.listOf items nn) ∈ news) (hr : Rws items news rs) (hz : rs.length < 100000) (hpz : pit.size < 100000) (hps : pay.size = 8) (hst : StOk en ah rs) (hfv : FvOk fv) (hm : (more = true ∧ (off = 0 ∨ off = 8)) ∨ (more = false ∧ off = 16)) (hdp : dp < 500) (hun : un < 1000)
    (ret : ∀ od' en' ah' fv' sz' pit' np' r rit cr ex rs' h' tk', DgObj bg (.int 64 tm) (.ref H) (.ref P) en' ah' fv' sz' od' → StOk en' ah' rs' → (off = 0 ∧ fv = .none ∧ fv' = .ref hd ∨ ¬ (off = 0 ∧ fv = .none) ∧ fv' = fv) → Rws rit ex rs' → rs'.length ≤ 4 * rs.length → pit'.size ≤ pit.size + rs.length →
      (∀ q ∈ (r, W.listOf rit cr) :: ex, (∀ x ∈ [hd, dh, D, dD, P, dH, H], @LT.lt Nat _ x q.1) ∧ ∀ p ∈ news, @LT.lt Nat _ p.1 q.1) → Fr h₀ L h' m →
      News h₀ L h' ((D, instObj 482 dD) :: (dD, od') :: (P, W.listOf pit' np') :: (dH, dictOf [⟨hs, .str (Str.ofString "most") tr, .int 64 tr'⟩, ⟨hs', .str (Str.ofString "rows") th, .ref r⟩] 2) :: (H, instObj 428 dH) :: (r, W.listOf rit cr) :: (ex ++ news)) → Q (.bool true) { s with heap := h', toks := tk' }) :
    wpAny (model PySem.Challenge.rw_pf0401_01.row.prog w) (ktrTop dp un gd cn cs L a ccd cl outer) (call (.ref 460) [.ref D, .ref hd, .bytes pay tp]) Q E s := by
  have hHd' := hHd
  obtain ⟨e1, e2, e3, e4, e5, e6, e7, e8, e9, e10, t1, t2, t3, t4, t5, t6, t7, t8, t9, t10, v1, v2, v3, v4, v5, v6, v7, v10, hhe⟩ := hHd'
  have hA' := hA
  obtain ⟨⟨a1, a2, a3, a4, a5, a6⟩, ⟨b1, b2, b3, b4, b5⟩, c1, c2, c3, c4⟩ := hA'
  obtain ⟨i1, i2, i3, i4, i5, i6, i7, i8, j1, j2, j3, j4, j5, j6, j7, j8, x6, x8, ho⟩ := id hO
  refine wpAny_call ?_
  k_dflt cell_enter
  rename News _ _ _ _ => N9
  rw [hhe, ho] at N9
  rw [ho] at hO
  refine news_let N9 ?_
  clear N9
  intro esk N9
  k_steps
  unfold CallAt
  with_unfolding_all refine against_c (by assumption) (by assumption) (by assumption) (dup2 (dup2 (by assumption) (by k_mem) (by k_mem)) (by k_mem) (by k_mem)) (by assumption) (by first | assumption | exact rfl) hO (by (repeat (first | assumption | refine List.Mem.tail _ ?_))) (hr.more (fun p hp => by (repeat (first | exact hp | refine List.Mem.tail _ ?_)))) (by omega) hst (by rcases hm with ⟨h1, h2⟩ | ⟨h1, h2⟩; exact .inl ⟨h1, by omega⟩; exact .inr ⟨h1, by omega⟩) (by walk_at "my small") (by walk_at "my small") ?_
  intro h8 tk8 F8 N8
  replace N8 := undup (undup (undup (undup N8)))
  k_steps
  unfold CallAt
  rename News _ L _ _ => N7
  rename News _ _ _ _ => N7
  replace N7 := sub_news N7 sub_fill
  with_unfolding_all refine fill_c (by assumption) (by assumption) (by assumption) N7 (by assumption) (by first | assumption | exact rfl) (by (repeat (first | assumption | refine List.Mem.tail _ ?_))) (hr.more (fun p hp => by (repeat (first | exact hp | refine List.Mem.tail _ ?_)))) (by omega) (by (repeat (refine List.forall_mem_cons.mpr ⟨?_, ?_⟩; (focus ((first | assumption | exact Ne.symm (by assumption)); done)))); assumption) b2 (by walk_at "my small") (by walk_at "my small") ?_
  intro f9 r9 fit9 rit9 cf9 cr9 ex9 h9 tk9 hf9 hk9 zf9 zr9 hlt9 hfr9 hrx9 F9 N9
  k_steps
  have hlP : ∀ q ∈ (r9, W.listOf rit9 cr9) :: (f9, W.listOf fit9 cf9) :: ex9, q.1 ≠ P := fun q hq => Nat.ne_of_gt (hlt9 q hq (P, W.listOf pit np) (by k_mem))
  have hlD : ∀ q ∈ (r9, W.listOf rit9 cr9) :: (f9, W.listOf fit9 cf9) :: ex9, q.1 ≠ dD := fun q hq => Nat.ne_of_gt (hlt9 q hq (dD, _) (.tail _ (.tail _ (.tail _ (.tail _ (.tail _ (.head _)))))))
  have nxP : ∀ q ∈ ex9 ++ news, q.1 ≠ P := fun q hq => by
    rcases List.mem_append.mp hq with hq | hq
    · exact hlP q (.tail _ (.tail _ hq))
    · exact nP q hq
  have nxD : ∀ q ∈ ex9 ++ news, q.1 ≠ dD := fun q hq => by
    rcases List.mem_append.mp hq with hq | hq
    · exact hlD q (.tail _ (.tail _ hq))
    · exact nD q hq
  have h9P := hlP _ (.head _)
  have h9P' := hlP _ (.tail _ (.head _))
  have h9D := hlD _ (.head _)
  have h9D' := hlD _ (.tail _ (.head _))
  refine list_put (rest := (r9, _) :: (f9, _) :: (dH, _) :: (H, _) :: (hd, _) :: (dh, _) :: (ex9 ++ news)) (fs := rs.flatMap (hit1 off (off + (pay.size : Int)))) (fun m => m "self" = some (.ref D) ∧ m "header" = some (.ref hd) ∧ m "payload" = some (.bytes pay tp) ∧ m "begin" = some (.int off to) ∧ ∃ te, m "end" = some (.int (off + (pay.size : Int)) te)) rfl (.tail _ (.head _)) (hf9.more (fun p hp => .tail _ (.tail _ (.tail _ (.tail _ (.tail _ (.tail _ (List.mem_append_left _ hp)))))))) (by rw [← hf9.1]; omega) (by assumption) N9 sub_put hO ⟨by with_unfolding_all rfl, by with_unfolding_all rfl, by with_unfolding_all rfl, by with_unfolding_all rfl, _, by with_unfolding_all rfl⟩ (ne_six h9P h9P' (Ne.symm b3) c2 c3 c4 nxP) (ne_six h9D h9D' a3 a2 a5 a6 nxD) ?_ ?_
  · clear ret hlt9 hlP hlD nxP nxD
    intro rest nrP nrD I d lo hi t u m1 pit1 np1 od1 sz1 it s1 R1 hd1 zp hDI hPI hdI hV1 hO1 F1 N1 hR1
    obtain ⟨q1, q2, q3, q4, te, q5⟩ := hV1
    rw [m_five ⟨q1, q2, q3, q4, q5⟩] at F1
    obtain ⟨i1', i2', i3', i4', i5', i6', i7', i8', j1', j2', j3', j4', j5', j6', j7', j8', x6', x8', rfl⟩ := hO1
    replace N1 := dup1 N1 (.tail _ (.tail _ (.tail _ (.tail _ hd1))))
    k_steps
    exact put_end hR1 ⟨rfl, rfl, rfl, rfl, _, rfl⟩ (by assumption) (by assumption)
  · intro I m1 pit1 np1 od1 sz1 h tk hI hV1 zp hO1 F1 N1
    obtain ⟨q1, q2, q3, q4, te, q5⟩ := hV1
    rw [m_five ⟨q1, q2, q3, q4, q5⟩] at F1
    obtain ⟨i1', i2', i3', i4', i5', i6', i7', i8', j1', j2', j3', j4', j5', j6', j7', j8', x6', x8', rfl⟩ := hO1
    have nxH : ∀ q ∈ ex9 ++ news, q.1 ≠ dH := fun q hq => by
      rcases List.mem_append.mp hq with hq | hq
      · exact Nat.ne_of_gt (hlt9 q (.tail _ (.tail _ hq)) _ (.head _))
      · exact nH q hq
    have h9H : @Ne Nat r9 dH := Nat.ne_of_gt (hlt9 _ (.head _) _ (.head _))
    have h9H' : @Ne Nat f9 dH := Nat.ne_of_gt (hlt9 _ (.tail _ (.head _)) _ (.head _))
    have e8 : ((pay.size : Nat) : Int) = 8 := by omega
    have zz := hk9.1
    have zf := hf9.1
    have hlt := lt_seven hlt9
    clear hlP hlD N9 F9 hlt9
    rcases hm with ⟨rfl, hoff⟩ | ⟨rfl, rfl⟩
    · walk_at "my refold"
      k_steps
      · rcases hfv with rfl | ⟨av, rfl⟩
        · walk_at "my fold"
          k_steps
          exact ret _ _ _ _ _ pit1 np1 r9 rit9 cr9 ex9 _ _ _ ⟨_, _, _, _, _, _, _, _, _, _, _, _, _, _, _, _, _, _, rfl⟩ (st_more hst hoff e8) (.inl ⟨by assumption, rfl, rfl⟩) hk9 (by omega) (by omega) hlt (by assumption) (sub_news (by assumption) sub_ret1)
        · walk_at "my fold"
          k_steps
          exact ret _ _ _ _ _ pit1 np1 r9 rit9 cr9 ex9 _ _ _ ⟨_, _, _, _, _, _, _, _, _, _, _, _, _, _, _, _, _, _, rfl⟩ (st_more hst hoff e8) (.inr ⟨fun h => (nomatch h.2), rfl⟩) hk9 (by omega) (by omega) hlt (by assumption) (sub_news (by assumption) sub_ret1)
      · exact ret _ _ _ _ _ pit1 np1 r9 rit9 cr9 ex9 _ _ _ ⟨_, _, _, _, _, _, _, _, _, _, _, _, _, _, _, _, _, _, rfl⟩ (st_more hst hoff e8) (.inr ⟨fun h => absurd h.1 (by assumption), rfl⟩) hk9 (by omega) (by omega) hlt (by assumption) (sub_news (by assumption) sub_ret1)
    · rcases hst with ⟨t, rfl⟩ | ⟨rfl, hah, z, hz1, he⟩
      · walk_at "my refold"
        k_steps
        exact ret _ _ _ _ _ pit1 np1 r9 rit9 cr9 ex9 _ _ _ ⟨_, _, _, _, _, _, _, _, _, _, _, _, _, _, _, _, _, _, rfl⟩ (.inl ⟨_, rfl⟩) (.inr ⟨fun h => absurd h.1 (by decide), rfl⟩) hk9 (by omega) (by omega) hlt (by assumption) (sub_news (by assumption) sub_ret1)
      · walk_at "my refold"
        k_steps
        unfold CallAt
        rename News _ _ _ ((D, _) :: (P, _) :: _) => N6
        replace N6 := sub_news N6 sub_end
        with_unfolding_all refine endat_c (by assumption) (by assumption) (by assumption) N6 (by assumption) (by first | assumption | exact rfl) (.tail _ (.tail _ (.tail _ (.head _)))) (hk9.more (fun p hp => .tail _ (.tail _ (.tail _ (.tail _ (.tail _ (.tail _ (.tail _ (List.mem_append_left _ hp))))))))) (by omega) (by (repeat (refine List.forall_mem_cons.mpr ⟨?_, ?_⟩; (focus ((first | assumption | exact Ne.symm (by assumption)); done)))); assumption) b2 (by walk_at "my small") (by walk_at "my small") ?_
        intro r5 rit5 cr5 ex5 rs5 h5 tk5 hk5 zl5 hlt5 hrx5 F5 N5
        k_steps
        exact ret _ (.int (16 + ((pay.size : Nat) : Int)) te) _ _ _ pit1 np1 r5 rit5 cr5 ex5 rs5 _ _ ⟨_, _, _, _, _, _, _, _, _, _, _, _, _, _, _, _, _, _, rfl⟩ (.inl ⟨te, by rw [e8]; rfl⟩) (.inr ⟨fun h => absurd h.1 (by decide), rfl⟩) hk5 (by omega) (by omega) (lt_seven2 hlt5) (by assumption) (sub_news (by assumption) sub_ret2)
end
example : True := by
  w_top off
  k_with_none
  trivial
example : True := by
  (k_with "my mem" => with_reducible (k_extra "my mem1"))
  (k_with "my mem1" => (first | exact List.Mem.head _ | (refine' List.Mem.tail _ ?_; k_extra "my mem1")))
  (k_with "my k_lt" => ((rename (∀ p : Addr × Obj, p ∈ _ → p.1 < _) => l1q); (replace l1q := allLt_of l1q); (simp only [AllLt, and_true] at l1q); (first | ((with_reducible refine spa15 l1q ?_); intro f0q f1q f2q f3q f4q f5q f6q f7q f8q f9q f10q f11q f12q f13q f14q) | ((with_reducible refine spa14 l1q ?_); intro f0q f1q f2q f3q f4q f5q f6q f7q f8q f9q f10q f11q f12q f13q) | ((with_reducible refine spa13 l1q ?_); intro f0q f1q f2q f3q f4q f5q f6q f7q f8q f9q f10q f11q f12q) | ((with_reducible refine spa12 l1q ?_); intro f0q f1q f2q f3q f4q f5q f6q f7q f8q f9q f10q f11q) | ((with_reducible refine spa11 l1q ?_); intro f0q f1q f2q f3q f4q f5q f6q f7q f8q f9q f10q) | ((with_reducible refine spa10 l1q ?_); intro f0q f1q f2q f3q f4q f5q f6q f7q f8q f9q) | ((with_reducible refine spa9 l1q ?_); intro f0q f1q f2q f3q f4q f5q f6q f7q f8q) | ((with_reducible refine spa8 l1q ?_); intro f0q f1q f2q f3q f4q f5q f6q f7q) | ((with_reducible refine spa7 l1q ?_); intro f0q f1q f2q f3q f4q f5q f6q) | ((with_reducible refine spa6 l1q ?_); intro f0q f1q f2q f3q f4q f5q) | ((with_reducible refine spa5 l1q ?_); intro f0q f1q f2q f3q f4q) | ((with_reducible refine spa4 l1q ?_); intro f0q f1q f2q f3q) | ((with_reducible refine spa3 l1q ?_); intro f0q f1q f2q) | ((with_reducible refine spa2 l1q ?_); intro f0q f1q) | ((with_reducible refine spa1 l1q ?_); intro f0q) | ((with_reducible refine spb12 l1q ?_); intro f0q f1q f2q f3q f4q f5q f6q f7q f8q f9q f10q f11q) | ((with_reducible refine spb11 l1q ?_); intro f0q f1q f2q f3q f4q f5q f6q f7q f8q f9q f10q) | ((with_reducible refine spb10 l1q ?_); intro f0q f1q f2q f3q f4q f5q f6q f7q f8q f9q) | ((with_reducible refine spb9 l1q ?_); intro f0q f1q f2q f3q f4q f5q f6q f7q f8q) | ((with_reducible refine spb8 l1q ?_); intro f0q f1q f2q f3q f4q f5q f6q f7q) | ((with_reducible refine spb7 l1q ?_); intro f0q f1q f2q f3q f4q f5q f6q) | ((with_reducible refine spb6 l1q ?_); intro f0q f1q f2q f3q f4q f5q) | ((with_reducible refine spb5 l1q ?_); intro f0q f1q f2q f3q f4q) | ((with_reducible refine spb4 l1q ?_); intro f0q f1q f2q f3q) | ((with_reducible refine spb3 l1q ?_); intro f0q f1q f2q) | ((with_reducible refine spb2 l1q ?_); intro f0q f1q) | skip); revert l1q))
  (k_with "my cj" => (first | with_reducible assumption | exact And.left (by with_reducible assumption) | exact And.left (And.right (by with_reducible assumption)) | exact And.left (And.right (And.right (by with_reducible assumption))) | exact And.left (And.right (And.right (And.right (by with_reducible assumption)))) | exact And.right (by with_reducible assumption) | exact And.right (And.right (by with_reducible assumption)) | exact And.right (And.right (And.right (by with_reducible assumption)))))
  (k_with "my lt" => (first | with_reducible assumption | exact Nat.lt_add_one _ | exact lt_r _ (by first | with_reducible assumption | exact Nat.lt_add_one _) | exact lt_r _ (lt_r _ (by first | with_reducible assumption | exact Nat.lt_add_one _)) | exact lt_r _ (lt_r _ (lt_r _ (by first | with_reducible assumption | exact Nat.lt_add_one _))) | exact lt_r _ (lt_r _ (lt_r _ (lt_r _ (by first | with_reducible assumption | exact Nat.lt_add_one _)))) | exact lt_r _ (lt_r _ (lt_r _ (lt_r _ (lt_r _ (by first | with_reducible assumption | exact Nat.lt_add_one _))))) | exact lt_r _ (lt_r _ (lt_r _ (lt_r _ (lt_r _ (lt_r _ (by first | with_reducible assumption | exact Nat.lt_add_one _))))))))
  (k_with "my ne" => (first | with_reducible assumption | exact Ne.symm (by with_reducible assumption) | (refine neN ?_; (try dsimp only); first | exact Nat.ne_of_gt (by k_extra "my lt") | exact Nat.ne_of_lt (by k_extra "my lt") | k_extra "my cj" | exact Ne.symm (by k_extra "my cj"))))
  (k_with "my om" => k_dflt (first | with_reducible assumption | ((with_reducible show @LT.lt Nat _ _ _); (first | exact q_lt0 (by with_reducible assumption) (by rfl) | exact q_lt1 (by with_reducible assumption) (by rfl) | exact q_lt2 (by with_reducible assumption) (by rfl) | exact q_lt3 (by with_reducible assumption) (by rfl) | exact q_le4 (by with_reducible assumption) (by rfl) | exact q_eq1 (by with_reducible assumption) (by rfl) | k_extra "my lt" | k_extra "my cj" | decide)) | ((with_reducible show @LE.le Nat _ _ _); (first | exact q_le0 (by with_reducible assumption) (by rfl) | exact q_le1 (by with_reducible assumption) (by rfl) | exact q_le2 (by with_reducible assumption) (by rfl) | exact q_le3 (by with_reducible assumption) (by rfl) | exact q_eq0 (by with_reducible assumption) (by rfl) | k_extra "my cj" | decide)) | ((with_reducible show @LT.lt Int _ _ _); (first | exact q_il0 (by with_reducible assumption) (by rfl) | exact q_il1 (by with_reducible assumption) (by rfl) | exact q_il3 (by with_reducible assumption) (by rfl) | k_extra "my cj" | decide)) | ((with_reducible show @LE.le Int _ _ _); (first | exact q_il2 (by with_reducible assumption) (by rfl) | k_extra "my cj" | decide)) | ((with_reducible show @Ne Nat _ _); k_extra "my ne") | decide))
  trivial
example : True := by
  (k_with "my in" => (repeat (first | exact List.Mem.head _ | refine List.Mem.tail _ ?_ | refine List.mem_append_right _ ?_)))
  (k_with "my at" => (repeat (first | assumption | exact List.mem_append_left _ (by assumption) | refine List.Mem.tail _ ?_ | refine List.mem_append_right _ ?_)))
  (k_with "my perm" => ((try simp only [List.cons_append, List.nil_append, List.append_assoc]); (repeat (refine List.forall_mem_cons.mpr ⟨?_, ?_⟩; (focus ((walk_at "my in"); done)))); first | exact List.forall_mem_nil _ | (intro q9 hq9; (try (have hq8 := List.mem_append.mp hq9; clear hq9; rcases hq8 with hq9 | hq9)); (all_goals (try (have hq7 := List.mem_cons.mp hq9; clear hq9; rcases hq7 with hq7 | hq9))); (all_goals (try (have hq7 := List.mem_cons.mp hq9; clear hq9; rcases hq7 with hq7 | hq9))); all_goals first | (subst hq7; walk_at "my in"; done) | (repeat (first | exact hq9 | exact List.mem_append_left _ hq9 | refine List.Mem.tail _ ?_ | refine List.mem_append_right _ ?_)))))
  (k_with "my bnd" => (first | omega | exact Int.lt_of_lt_of_le (by decide) (fmod_lo _ (by decide)) | exact Int.lt_trans (fmod_hi _ (by decide)) (by decide)))
  (k_with "binaryOp Mult int int" => (((with_reducible show wpAny _ _ (binaryOp Operator.Mult (Value.int _ _) (Value.int _ _)) _ _ _); refine mul_int ?_ (IntMulOk.of_left (intBits_le_64 ?mlo ?mhi)); (case mlo => walk_at "my bnd"); (case mhi => walk_at "my bnd"))))
  (k_with "binaryOp FloorDiv int int" => (((with_reducible show wpAny _ _ (binaryOp Operator.FloorDiv (Value.int _ _) (Value.int _ _)) _ _ _); refine floordiv_int ?fne ?_ (Or.inl (PyProof.noPylong_of_log2 (log2_small ?flo ?fhi))); (case fne => omega); (case flo => omega); (case fhi => omega))))
  (k_with "execs cons" => ((k_here; refine fold_stmt ?_; intro qk sk)))
  trivial
example : True := by
  (k_with "eval Name" => ((k_here; k_dflt (first
    | (refine' name_l ?F ?e ?v ?a ?b ?d ?_; (case F => k_asm); (case e => rfl); (case b => rfl); (case v => rfl); (case a => rfl); (case d => decide); k_whole)
    | (refine' nameX_K ?F ?X ?T ?e ?_ ?a ?b; (case F => k_asm); (case b => rfl); (case X => k_asm); (case T => k_asm); (case a => rfl); (case e => k_is); k_whole)
    | (refine' nameX_B ?F ?X ?T ?e ?v ?n ?_ ?a ?b; (case F => k_asm); (case b => rfl); (case X => k_asm); (case T => k_asm); (case a => rfl); (case e => k_is); (case v => boot_fast); (case n => decide); k_whole)))))
  (k_with "storeName" => ((k_here; k_dflt (refine' store_l ?F ?N ?e ?a ?b ?_; (case F => k_asm); (case N => k_asm); (case e => rfl); (case a => rfl); (case b => rfl); k_whole; intro h' mk F' N'; (try k_sweep)))))
  trivial
example : True := by
  (k_with "my steps" => (repeat' (first | ((try k_unmd); k_unfold; (try dsimp only)) | (k_end; wrow_close) | walk1 | (dsimp only; walk1) | (leave1; walk_say "STEP leave1"; try dsimp only) | fail "no step")))
  (k_with "my fold0" => ((refine fold_entry ?_; intro Ak envk qk ek sk; (rename Fr _ _ _ _ => kF); (refine fr_let kF ?_); clear kF; intro mk kF)))
  (k_with "my units" => ((have hcL9 := cLine_is; (simp (config := { zetaDelta := true }) only [units_in1, units_deeper, Around.mark_units, units_caller, ktrTop]); omega)))
  (k_with "my room" => (((simp (config := { zetaDelta := true }) only [depth_under_make, depth_under_kw, depth_in1, depth_deeper, depth_caller, ktrTop, recursionLimit]); omega)))
  (k_with "callWith ref" => (k_here; k_dflt (first
    | (refine' callWith_K ?k1 ?k2 ?_; (case k1 => with_reducible assumption); (case k2 => k_is); k_whole)
    | (refine' callw_0 ?k0 ?k1 ?k2 ?_; (case k0 => with_reducible assumption); (case k1 => with_reducible assumption); (case k2 => k_is); k_whole)
    | (refine' callw_m0 ?k0 ?kN ?k1 ?kq ?k2 ?_; (case k0 => with_reducible assumption); (case kN => with_reducible assumption); (case k1 => with_reducible assumption); (case kq => k_mem); (case k2 => k_is); k_whole; try dsimp only [List.nil_append, List.cons_append])
    | (refine' callWith_M ?k1 ?k2 ?k3 ?k4 ?_; (case k1 => with_reducible assumption); (case k2 => with_reducible assumption); (case k3 => k_mem); (case k4 => k_is); k_whole)
    | (refine' callWith_KW ?k1 ?k2 ?k3 ?_; (case k1 => with_reducible assumption); (case k2 => k_is); (case k3 => exact rfl); k_whole)
    | (refine' callWith_KW0 ?k1 ?k2 ?k3 ?_; (case k1 => with_reducible assumption); (case k2 => k_is); (case k3 => exact rfl); k_whole))))
  (k_with "compareOp IsNot ref ref" => (k_here; first | (with_reducible refine isnot_ref_same ?_) | refine wpAny_isNot_ref_self ?_))
  (k_with "my stop" => ((rename Mark => mk9); clear mk9; refine stop_at ?_))
  (k_with "subscriptTail" => (k_extra "my stop"))
  (k_with "getMethod ref" => (k_extra "my stop"))
  trivial
example : True := by
  (k_with "my small" => (first | omega | ((try simp (config := { zetaDelta := true }) only [depth_under_make, depth_under_kw, depth_in1, depth_deeper, depth_caller, units_in1, units_deeper, Around.mark_units, units_caller]); (try simp (config := { zetaDelta := true }) only [ktrTop]); first | omega | decide)))
  (k_with "exec Raise some none" => ((k_here; (with_reducible show wpAny _ _ (exec (Stmt.Raise (some (Expr.Call (Expr.Name ("FormError" : Str) _) _ _ _)) none _) _) _ _ _); k_dflt (refine raise_form (by assumption) (by first | assumption | with_unfolding_all rfl) ?_))))
  (k_with "exec Raise some none" => ((k_here; (with_reducible show wpAny _ _ (exec (Stmt.Raise (some (Expr.Call (Expr.Name ("SizeError" : Str) _) _ _ _)) none _) _) _ _ _); k_dflt (refine raise_size (by assumption) (by first | assumption | with_unfolding_all rfl) ?_))))
  (k_with "call ref" => ((k_here; first
  | ((with_reducible show wpAny _ _ (call (Value.ref 51) [Value.str _ _]) _ _ _); (refine' make_form ?kF ?kX ?kN ?kh ?kf ?kd ?ku ?_); (case kF => assumption); (case kX => assumption); (case kN => assumption); (case kh => with_unfolding_all exact rfl); (case kf => with_unfolding_all exact rfl); (case kd => walk_at "my small"); (case ku => walk_at "my small"); k_whole; intro e' o' h' tk' hx' F' N' ne')
  | ((with_reducible show wpAny _ _ (call (Value.ref 63) [Value.str _ _]) _ _ _); (refine' make_size ?kF ?kX ?kN ?kh ?kf ?kd ?ku ?_); (case kF => assumption); (case kX => assumption); (case kN => assumption); (case kh => with_unfolding_all exact rfl); (case kf => with_unfolding_all exact rfl); (case kd => walk_at "my small"); (case ku => walk_at "my small"); k_whole; intro e' o' h' tk' hx' F' N' ne'))))
  (k_with "OwnUp ref" => ((refine ⟨_, _, rfl, by assumption, Frag.In.keeps (by assumption) (Fr.keep (by assumption)), (News.get (by assumption) (.head _)), ?_⟩)))
  (k_with "leaving ref" => ((k_here; first
  | ((refine' leave_led ?kB ?kf ?kk ?kF ?kN ?kx ?kn ?_); (case kx => assumption); (case kF => assumption); (case kN => assumption); (case kB => assumption); (case kf => with_unfolding_all exact rfl); (case kk => first | assumption | with_unfolding_all exact rfl); (case kn => assumption); k_whole; intro h' R' U'; (try dsimp only at R' U' ⊢))
  | ((refine' leave_up ?kB ?kf ?kF ?kR ?kU ?_); (case kR => assumption); (case kF => assumption); (case kB => assumption); (case kf => with_unfolding_all exact rfl); (case kU => assumption); k_whole; intro h' R' U'; (try dsimp only at R' U' ⊢)))))
  (k_with "turn enter" => ((refine' code_T ?k1 ?k2 ?k3 ?k4 ?k5 ?kD ?kA ?kF ?kK ?k6 ?k7 ?k8 ?k9 ?kB ?_ ?c2 ?c3 ?c4 ?c5; (case kA => exact rfl); (case kF => exact rfl); (case kK => assumption); (case k1 => k_asm); (case k2 => k_asm); (case k3 => k_asm); (case k4 => k_asm); (case k5 => k_asm); (case kD => assumption); (case k6 => k_is); (case k7 => k_is); (case k8 => ktr_room); (case k9 => exact BindsTo.of_eq rfl); (case c5 => decide); (case kB => exact locs rfl); (case c2 => exact rfl); (case c3 => exact rfl); (case c4 => exact rfl); k_whole; intro g' L' h' FG' F' N' B' X' T' D' l1; (try dsimp only); (try k_lift B'); (try k_fold))))
  (k_with "my size" => ((rw [KBw.ints_length]; first | omega | (simp only [Array.size_append]; omega))))
  (k_with "subscriptTail" => ((k_here; (with_reducible show wpAny _ _ (subscriptTail _ (Expr.Slice _ _ none _) (Value.bytes _ _) (Value.ref _)) _ _ _); (with_reducible rename Fr _ _ _ _ => F'); (with_reducible rename News _ _ _ _ => N'); (refine KBc.slice_K (s := ⟨_, _, _, _, _⟩) F' N' rfl (by constructor) (by constructor) (by walk_at "my size") ?_); intro _ _ _ _ _ _)))
  (k_with "turn enter cells" => ((refine' code_TC ?k1 ?k2 ?k3 ?k4 ?k5 ?kG ?kA ?kF ?kK ?k6 ?k7 ?k8 ?k9 ?kB ?kD ?_ ?c2 ?c3 ?c4; (case kA => exact rfl); (case kF => exact rfl); (case kK => assumption); (case k1 => k_asm); (case k2 => k_asm); (case k3 => k_asm); (case k4 => k_asm); (case k5 => k_asm); (case kG => assumption); (case k6 => k_is); (case k7 => k_is); (case k8 => ktr_room); (case k9 => exact BindsTo.of_eq rfl); (case kB => exact rfl); (case kD => decide +kernel); (case c2 => exact rfl); (case c3 => exact rfl); (case c4 => exact rfl); k_whole; intro g' L' h' tk' cells' FG' F' N' Y' B' X' T' D' l1; (try k_lt l1); (have l9 := l1); (repeat (replace l9 := And.right l9)); k_cells Y'; (try simp only [List.cons_append, List.nil_append] at N'); (first | (refine fr_one F' (by rfl) ?_; clear F'; intro F') | (refine fr_cell F' (by rfl) ?_; clear F'; intro F')); (try dsimp only); (try k_lift B'); (try k_fold))))
  (k_with "LeaveT" => ((k_dflt (refine' leaveT ?F ?N ?T ?_; (case F => k_asm); (case N => k_asm); (case T => first | assumption | exact KtsTurn.refl); k_whole); intro kg kT kF kN kB kD; (try dsimp only))))
  trivial
example : True := by
  (k_with "my all" => (first | exact ne_all (by assumption) (Nat.le_refl _) | exact ne_all (by assumption) (Nat.le_of_lt (by assumption)) | exact ne_all (by assumption) (by omega)))
  trivial
example : True := by
  (k_with "call type:bytes" => ((k_here; (with_reducible show wpAny _ _ (call (Value.type "bytes") [Value.bytes _ _]) _ _ _); refine MB.call_b ?_)))
  (k_with "call type:bytes" => ((k_here; (with_reducible show wpAny _ _ (call (Value.type "bytes") [Value.int _ _]) _ _ _); (refine MB.call_i ?bi0 ?bi1 ?_); (case bi0 => omega); (case bi1 => omega); intro _ _)))
  (k_with "lam enter" => ((refine' kla_code ?k1 ?k2 ?k3 ?k4 ?k5 ?kA ?kF ?kK ?k6 ?k7 ?k8 ?k9 ?kB ?_ ?c2 ?c3 ?c4 ?c5; (case kA => exact rfl); (case kF => exact rfl); (case kK => assumption); (case k1 => k_asm); (case k2 => k_asm); (case k3 => k_asm); (case k4 => k_asm); (case k5 => k_asm); (case k6 => k_mem); (case k7 => exact codeRec_news (by k_asm) (by k_mem) (by assumption) (by assumption)); (case k8 => ktr_room); (case k9 => exact rfl); (case c5 => decide); (case kB => exact locs rfl); (case c2 => exact rfl); (case c3 => exact rfl); (case c4 => exact rfl); k_whole; intro g' L' h' FG' F' N' B' X' T'; (try dsimp only); (try k_lift B'); (try k_fold))))
  (k_with "my sub" => ((refine sub_news (by assumption) ?_; (repeat (refine List.forall_mem_cons.mpr ⟨?_, ?_⟩; (focus ((k_mem); done)))); first | exact List.forall_mem_nil _ | (intro _ hp9; (repeat (first | exact hp9 | refine List.Mem.tail _ ?_))))))
  (k_with "same item" => (first | exact MQ.at_bytes _ _ _ | exact MQ.at_int _ _ _))
  (k_with "compareOp NotEq ref ref" => ((k_here; k_dflt (refine MQ.ne_list1 (News.isList (by assumption) (by k_mem)) (News.isList (by assumption) (by k_mem)) (by ktr_units) (by walk_at "same item") ?_))))
  trivial
example : True := by
  (k_with "call ref" => ((k_here; (with_reducible show wpAny _ _ (call (Value.ref 500) [Value.ref _, Value.int _ _]) _ _ _); (with_unfolding_all refine take_U (by assumption) (by assumption) (by assumption) (by assumption) (by k_updF) (by assumption) (by first | assumption | exact rfl) (by walk_at "my small") (by walk_at "my small") (by walk_at "my bnd") (by walk_at "my bnd") (by first | assumption | omega) ?_); intro d' x' y' td' tx' ty' h' tk' F' N' hd1' hd2' hx'; (try dsimp only at N'); (try k_sweep))))
  (k_with "my item" => ((refine item_at (by assumption) (by k_mem) (by assumption) (by assumption) (by assumption) ?_; intro _ hv')))
  (k_with "exec For Name Call cons nil" => ((k_here; k_dflt (refine For_from ?_))))
  (k_with "exec For Name List cons nil" => ((k_here; k_dflt (refine For_from ?_))))
  (k_with "binaryOp Add" => ((k_here; (with_reducible show wpAny _ _ (binaryOp Operator.Add (Value.ref _) (Value.ref _)) _ _ _); k_dflt (refine' menu_K ?mF ?mN ?ml ?mP ?mi ?mc ?mz ?_; (case mF => assumption); (case mN => assumption); (case ml => k_mem); (case mP => assumption); (case mi => repeat constructor); (case mc => assumption); (case mz => decide)); intro h' d' items' F' N' l1 hI'; (try k_lt l1))))
  (k_with "call builtin:list.append" => ((k_here; (with_reducible show wpAny _ _ (call (Value.builtin _) [Value.ref _, _]) _ _ _); k_dflt (refine' append_K ?k1 ?k2 ?k3 ?_ ?z; (case k1 => k_asm); (case k2 => k_asm); (case k3 => k_upd); (case z => rw [sizeLine_eq]; omega); k_whole); intro h' F' N'; (try k_sweep))))
  trivial
example : True := by
  (k_with "my ne2" => (first | k_extra "my ne" | (k_dflt (refine ne_cls (by assumption) (by k_mem) (by k_mem) rfl rfl (by decide))) | (refine neN ?_; (try dsimp only); omega (config := {}))))
  trivial
example : True := by
  (k_with "newTuple" => ((k_here; k_dflt (refine' kup_newTuple ?F ?N ?_ ?z; (case F => k_asm); (case N => k_asm); (case z => kmk_size)); intro D' h' F' N' l1; (try k_lt l1); (try k_sweep))))
  (k_with "exec For Tuple Name cons nil" => ((k_here; k_dflt (refine For_from ?_))))
  (k_with "my tup" => (exact tup_at (by assumption) (by k_mem)))
  (k_with "compareOp NotEq ref ref" => ((k_here; k_dflt (refine MQ.ne_tuple2 (by walk_at "my tup") (by walk_at "my tup") (by ktr_units) (by walk_at "same item") (by walk_at "same item") ?_))))
  (k_with "compareOp Eq ref ref" => ((k_here; k_dflt (refine eq_tuple2 (by walk_at "my tup") (by walk_at "my tup") (by ktr_units) (by walk_at "same item") (by walk_at "same item") ?_))))
  trivial
example : True := by
  (k_with "binaryOp RShift int int" => (first | refine shr8 ?_ | refine shr16 ?_))
  (k_with "binaryOp BitAnd int int" => (first | refine and8 ?_ | refine and16 ?_ | (refine and_any (by decide) ?_; intro r' hr0' hr1')))
  (k_with "binaryOp LShift int int" => (first | refine shl8 (by walk_at "my bnd") (by walk_at "my bnd") ?_ | refine shl16 (by walk_at "my bnd") (by walk_at "my bnd") ?_))
  (k_with "binaryOp BitOr int int" => (first | refine or8 (by walk_at "my bnd") (by walk_at "my bnd") (by walk_at "my bnd") ?_ | refine or16 (by walk_at "my bnd") (by walk_at "my bnd") (by walk_at "my bnd") ?_))
  (k_with "my idx" => (((try simp only [List.length_append, List.length_cons, List.length_nil, List.length_take, List.length_drop, List.length_map]); omega)))
  (k_with "my enter" => ((refine' code_def ?k1 ?k2 ?k3 ?k4 ?k5 ?kA ?kF ?kK ?k6 ?k7 ?k8 ?k9 ?kB ?_ ?c2 ?c3 ?c4 ?c5; (case kA => exact rfl); (case kF => exact rfl); (case kK => assumption); (case k1 => k_asm); (case k2 => k_asm); (case k3 => k_asm); (case k4 => k_asm); (case k5 => k_asm); (case k6 => k_is); (case k7 => k_is); (case k8 => ktr_room); (case k9 => first | exact BindsTo.of_eq rfl | exact binds_K (by k_in) rfl (by k_is) rfl rfl rfl); (case c5 => decide); (case kB => exact locs rfl); (case c2 => exact rfl); (case c3 => exact rfl); (case c4 => exact rfl); k_whole; intro g' L' h' FG' F' N' B' X' T'; (try dsimp only); (try k_lift B'); (try k_fold))))
  (k_with "call ref" => ((k_here; (with_reducible show wpAny _ _ (call (Value.ref 316) _) _ _ _); k_dflt (refine' ip_made ?B ?F ?X ?N ?T ?k ?d ?u ?b ?_; (case B => k_asm); (case F => k_asm); (case X => k_asm); (case N => k_asm); (case T => k_asm); (case k => first | assumption | exact rfl); (case d => walk_at "my small"); (case u => walk_at "my small"); (case b => (refine' binds_of ?h0 ?hb; (case h0 => k_is); (case hb => (intro s9 x9 X9; first | exact BindsTo.of_eq rfl | exact binds_K (by k_in) rfl (by k_is) rfl rfl rfl)))); k_whole); intro x' d' h' tk' e1' e2' e3' e4' e5' e6' e7' e8' e9' e10' t1' t2' t3' t4' t5' t6' t7' t8' t9' t10' F' N' l1 l2; (try k_lt l1); (try k_sweep))))
  (k_with "call ref" => ((k_here; (with_reducible show wpAny _ _ (call (Value.ref 231) _) _ _ _); k_dflt (refine' im_made ?B ?F ?X ?N ?T ?k ?d ?u ?b ?_; (case B => k_asm); (case F => k_asm); (case X => k_asm); (case N => k_asm); (case T => k_asm); (case k => first | assumption | exact rfl); (case d => walk_at "my small"); (case u => walk_at "my small"); (case b => (refine' binds_of ?h0 ?hb; (case h0 => k_is); (case hb => (intro s9 x9 X9; first | exact BindsTo.of_eq rfl | exact binds_K (by k_in) rfl (by k_is) rfl rfl rfl)))); k_whole); intro x' d' h' tk' e1' e2' e3' e4' t1' t2' t3' t4' F' N' l1 l2; (try k_lt l1); (try k_sweep))))
  trivial
example : True := by
  (k_with "call ref" => ((k_here; (with_reducible show wpAny _ _ (call (Value.ref 128) [Value.int _ _]) _ _ _); (with_unfolding_all refine put16_c (by assumption) (by assumption) (by assumption) (by assumption) (by assumption) (by first | assumption | exact rfl) (by walk_at "my small") (by walk_at "my small")  ?_); intro b' t' h' tk' hb' F' N'; (try k_sweep))))
  (k_with "call ref" => ((k_here; (with_reducible show wpAny _ _ (call (Value.ref 135) [Value.int _ _]) _ _ _); (with_unfolding_all refine put32_c (by assumption) (by assumption) (by assumption) (by assumption) (by assumption) (by first | assumption | exact rfl) (by walk_at "my small") (by walk_at "my small")  ?_); intro b' t' h' tk' hb' F' N'; (try k_sweep))))
  (k_with "call ref" => ((k_here; (with_reducible show wpAny _ _ (call (Value.ref 149) [Value.bytes _ _, Value.int _ _]) _ _ _); (with_unfolding_all refine get16_c (by assumption) (by assumption) (by assumption) (by assumption) (by assumption) (by first | assumption | exact rfl) (by walk_at "my small") (by walk_at "my small") (by assumption) (by walk_at "my bnd") (by walk_at "my idx") (by walk_at "my idx") ?_); intro r' t' h' tk' hr' F' N'; have hr2' := hr'.2; (try k_sweep))))
  (k_with "call ref" => ((k_here; (with_reducible show wpAny _ _ (call (Value.ref 156) [Value.bytes _ _, Value.int _ _]) _ _ _); (with_unfolding_all refine get32_c (by assumption) (by assumption) (by assumption) (by assumption) (by assumption) (by first | assumption | exact rfl) (by walk_at "my small") (by walk_at "my small") (by assumption) (by walk_at "my bnd") (by walk_at "my idx") (by walk_at "my idx") ?_); intro r' t' h' tk' hr' F' N'; have hr2' := hr'.2; (try k_sweep))))
  (k_with "exec While Compare cons nil" => ((k_here; k_dflt (refine while_stop ?_))))
  (k_with "call ref" => ((k_here; (with_reducible show wpAny _ _ (call (Value.ref 163) [Value.int _ _]) _ _ _); (with_unfolding_all refine fold_c (by assumption) (by assumption) (by assumption) (by assumption) (by assumption) (by first | assumption | exact rfl) (by walk_at "my small") (by walk_at "my small") (by first | assumption | omega) ?_); intro r' t' h' tk' hr' F' N'; (try k_sweep))))
  (k_with "call ref" => ((k_here; (with_reducible show wpAny _ _ (call (Value.ref 171) [Value.bytes _ _, Value.int 0 _]) _ _ _); (with_unfolding_all refine ones_c (by assumption) (by assumption) (by assumption) (by assumption) (by assumption) (by first | assumption | exact rfl) (by walk_at "my small") (by walk_at "my small") (by assumption) (by walk_at "my idx") ?_); intro r' t' h' tk' hr' F' N'; (try k_sweep))))
  (k_with "call ref" => ((k_here; (with_reducible show wpAny _ _ (call (Value.ref 179) [Value.bytes _ _]) _ _ _); (with_unfolding_all refine check_c (by assumption) (by assumption) (by assumption) (by assumption) (by assumption) (by first | assumption | exact rfl) (by walk_at "my small") (by walk_at "my small") (by assumption) (by walk_at "my idx") ?_); intro r' t' h' tk' hr' F' N'; (try k_sweep))))
  trivial
example : True := by
  (k_with "call type:bytes" => ((k_here; (with_reducible show wpAny _ _ (call (Value.type "bytes") [Value.ref _]) _ _ _); k_dflt (refine' bytes_range ?bF ?bN ?bh ?bR ?b0 ?b1 ?b2 ?_; (case bF => assumption); (case bN => assumption); (case bh => exact rfl); (case bR => assumption); (case b0 => omega); (case b1 => omega); (case b2 => omega)); intro bs' h' t' tk' hbs' F' N'; (try k_sweep))))
  (k_with "eval Lambda" => ((k_here; k_dflt (refine lam_stop ?_))))
  (k_with "call builtin:len" => ((k_here; (with_reducible show wpAny _ _ (call (Value.builtin "len") [Value.bytes _ _]) _ _ _); (refine len_bytes (by omega) ?_))))
  trivial
example : True := by
  (k_with "exec For Name Tuple cons nil" => ((k_here; k_dflt (refine For_from ?_))))
  (k_with "binaryOp FloorDiv int int" => ((refine div_pos9 ?da ?db ?_; (case da => decide); (case db => decide))))
  (k_with "binaryOp Mod int int" => ((refine mod_pos9 ?da ?_; (case da => decide))))
  (k_with "call builtin:len" => ((k_here; (with_reducible show wpAny _ _ (call (Value.builtin "len") [Value.bytes #[] _]) _ _ _); (refine len_nil9 ?_); intro _)))
  trivial
example : True := by
  (k_with "my fold" => (refine fold_any ?_; intro Ak qk ek sk))
  (k_with "my refold" => ((try k_unmd); (try k_unfold); (try dsimp only); (try k_fold)))
  trivial
example : True := by
  (k_with "exec For Tuple Attribute cons nil" => ((k_here; k_dflt (refine For_from ?_))))
  (k_with "exec For Tuple Call cons nil" => ((k_here; k_dflt (refine For_from ?_))))
  trivial
section
example : True := by
  (k_with "call ref" => ((k_here; refine call_stop 460 ?_)))
  trivial
abbrev HolesD (hs hs' : Int) (tr th tr' : Tok) (R : Addr) : Obj := dictOf [⟨hs, .str (Str.ofString "most") tr, .int 64 tr'⟩, ⟨hs', .str (Str.ofString "rows") th, .ref R⟩] 2
def HdM (src D : Addr) (fv : Value) (m : Str → Option Value) : Prop := m "source" = some (.ref src) ∧ m "datagram" = some (.ref D) ∧ m "first" = some fv
inductive JH (src D dD P dH H : Addr) (n : Nat) (bg : Value) (tm tr th tr' : Tok) (hs hs' : Int) (news : List (Addr × Obj)) (I : Addr) (i : Nat) (m : Str → Option Value) (nw : List (Addr × Obj)) : Prop
  | mk (fv : Value) (x : Int) (y : Int) (tx : Tok) (ty : Tok) (od : Obj) (en : Value) (ah : Int) (sz : Int) (pit : Array Value) (np : Nat) (R : Addr) (rit : Array Value) (cr : Nat) (ex : List (Addr × Obj)) (rs : List (Int × Int)) (h1 : HdM src D fv m) (h2 : FvOk fv) (h3 : 0 ≤ x) (h4 : DgObj bg (.int 64 tm) (.ref H) (.ref P) en ah fv sz od) (h5 : StOk en ah rs) (h6 : Rws rit ex rs) (h7 : rs.length ≤ 4 ^ i) (h8 : pit.size ≤ 4 ^ i) (h9 : (∀ q ∈ (R, W.listOf rit cr) :: ex, @LT.lt Nat _ H q.1 ∧ @Ne Nat q.1 P ∧ @Ne Nat q.1 I)) (h10 : nw = (src, W.listOf #[.int x tx, .int y ty] n) :: (D, instObj 482 dD) :: (dD, od) :: (P, W.listOf pit np) :: (dH, HolesD hs hs' tr th tr' R) :: (H, instObj 428 dH) :: (R, W.listOf rit cr) :: (ex ++ news)) : JH src D dD P dH H n bg tm tr th tr' hs hs' news I i m nw
def HeadsR (src D dD P dH H I L : Addr) (it : Obj) (n : Nat) (bg : Value) (tm tr th tr' : Tok) (hs hs' : Int) (g : Heap) (news : List (Addr × Obj)) (a b : Nat) (s' : Shared) (R' : Flow → Shared → Prop) : Prop :=
  ∀ m' h' tk' fv x y tx ty od en ah sz pit np R rit cr ex rs, HdM src D fv m' → FvOk fv → 0 ≤ x → DgObj bg (.int 64 tm) (.ref H) (.ref P) en ah fv sz od → StOk en ah rs → Rws rit ex rs → rs.length ≤ 4 * a → pit.size ≤ b + a → (∀ q ∈ (R, W.listOf rit cr) :: ex, @LT.lt Nat _ H q.1 ∧ @Ne Nat q.1 P ∧ @Ne Nat q.1 I) → Fr g L h' m' →
    News g L h' ((I, it) :: (src, W.listOf #[.int x tx, .int y ty] n) :: (D, instObj 482 dD) :: (dD, od) :: (P, W.listOf pit np) :: (dH, HolesD hs hs' tr th tr' R) :: (H, instObj 428 dH) :: (R, W.listOf rit cr) :: (ex ++ news)) → R' .next { s' with heap := h', toks := tk' }
theorem range_heads {prog : Program} {w : World} {A : Around} {E : Value → Shared → Prop} {s : Shared} {m : Str → Option Value} {all : List (Addr × Obj)} {env : Env} {target : Expr} {body : List Stmt} {Q : Flow → Shared → Prop} {L : Addr} {g : Heap} {r src D dD P dH H R : Addr} {b x y ah sz hs hs' : Int} {t u v tx ty tm tr th tr' : Tok} {n np cr : Nat} {bg en fv : Value} {od : Obj} {pit rit : Array Value} {ex news : List (Addr × Obj)} {rs : List (Int × Int)}
    (hh : A.handled = none) (hr : IsRange s.heap r 0 b 1 t u v) (hb0 : 0 ≤ b) (hb : b < 7) (F : Fr g L s.heap m) (N : News g L s.heap all)
    (sub : ∀ q ∈ (src, W.listOf #[.int x tx, .int y ty] n) :: (D, instObj 482 dD) :: (dD, od) :: (P, W.listOf pit np) :: (dH, HolesD hs hs' tr th tr' R) :: (H, instObj 428 dH) :: (R, W.listOf rit cr) :: (ex ++ news), q ∈ all)
    (hm : HdM src D fv m) (hfv : FvOk fv) (hx : 0 ≤ x) (hO : DgObj bg (.int 64 tm) (.ref H) (.ref P) en ah fv sz od) (hst : StOk en ah rs) (hR : Rws rit ex rs) (z1 : rs.length ≤ 1) (z2 : pit.size ≤ 1) (hq : ∀ q ∈ (R, W.listOf rit cr) :: ex, @LT.lt Nat _ H q.1 ∧ @Ne Nat q.1 P) (ord : @LT.lt Nat _ src dD ∧ @LT.lt Nat _ dD D ∧ @LT.lt Nat _ D dH ∧ @LT.lt Nat _ dH H ∧ @LT.lt Nat _ H P) (nlt : AllLt dD news)
    (step : (@LT.lt Nat _ src dD ∧ @LT.lt Nat _ dD D ∧ @LT.lt Nat _ D dH ∧ @LT.lt Nat _ dH H ∧ @LT.lt Nat _ H P) → (∀ q ∈ news, @LT.lt Nat _ q.1 dD) → ∀ (I : Addr) (k : Int) (t : Tok) (m : Str → Option Value) (it : Obj) (s' : Shared) (R' : Flow → Shared → Prop) fv x y tx ty od en ah sz pit np R rit cr ex rs, (∀ c ∈ [src, D, dD, P, dH, H], @LT.lt Nat _ c I) → (∀ q ∈ news, @LT.lt Nat _ q.1 I) → HdM src D fv m → FvOk fv → 0 ≤ x → DgObj bg (.int 64 tm) (.ref H) (.ref P) en ah fv sz od → StOk en ah rs → Rws rit ex rs → rs.length < 100000 → pit.size < 100000 → (∀ q ∈ (R, W.listOf rit cr) :: ex, @LT.lt Nat _ H q.1 ∧ @Ne Nat q.1 P ∧ @Ne Nat q.1 I) → Fr g L s'.heap m →
      News g L s'.heap ((I, it) :: (src, W.listOf #[.int x tx, .int y ty] n) :: (D, instObj 482 dD) :: (dD, od) :: (P, W.listOf pit np) :: (dH, HolesD hs hs' tr th tr' R) :: (H, instObj 428 dH) :: (R, W.listOf rit cr) :: (ex ++ news)) → HeadsR src D dD P dH H I L it n bg tm tr th tr' hs hs' g news rs.length pit.size s' R' →
      wpAny (model prog w) A (assign target env (.int k t)) (fun _ s₂ => wpAny (model prog w) A (execs body env) R' (fun _ _ => False) s₂) (fun _ _ => False) s')
    (done : ∀ m h tk fv x y tx ty rest, HdM src D fv m → 0 ≤ x → Fr g L h m → News g L h ((src, W.listOf #[.int x tx, .int y ty] n) :: (rest ++ news)) → Q .next { s with heap := h, toks := tk })
    (ht : ∀ I v, letOwnedTupleGo target (.ref I) v = pure () := by intro _ _; rfl) : ForFrom (model prog w) A target body env Q E (.ref r) s := by
  refine range0 (n := b.toNat) ((src, W.listOf #[.int x tx, .int y ty] n) :: (D, instObj 482 dD) :: (dD, od) :: (P, W.listOf pit np) :: (dH, HolesD hs hs' tr th tr' R) :: (H, instObj 428 dH) :: (R, W.listOf rit cr) :: (ex ++ news)) (JH src D dD P dH H n bg tm tr th tr' hs hs' news) hh hr (range_small (by omega) (by omega) (by omega) (by omega)) (by rw [rangeSize_up, Int.sub_zero]) F N sub ?_ ?_ ?_ ?_ ht
  · rintro I hI i m nw ⟨fv1, x1, y1, tx1, ty1, od1, en1, ah1, sz1, pit1, np1, R1, rit1, cr1, ex1, rs1, _, _, _, _, _, _, _, _, hq1, rfl⟩ p hp
    simp only [List.mem_cons, List.mem_append] at hp
    rcases hp with rfl | rfl | rfl | rfl | rfl | rfl | rfl | hp | hp
    · exact Nat.ne_of_lt (hI (src, W.listOf #[.int x tx, .int y ty] n) (by walk_at "my in"))
    · exact Nat.ne_of_lt (hI (D, instObj 482 dD) (by walk_at "my in"))
    · exact Nat.ne_of_lt (hI (dD, od) (by walk_at "my in"))
    · exact Nat.ne_of_lt (hI (P, W.listOf pit np) (by walk_at "my in"))
    · exact Nat.ne_of_lt (hI (dH, HolesD hs hs' tr th tr' R) (by walk_at "my in"))
    · exact Nat.ne_of_lt (hI (H, instObj 428 dH) (by walk_at "my in"))
    · exact (hq1 _ (.head _)).2.2
    · exact (hq1 _ (.tail _ hp)).2.2
    · exact Nat.ne_of_lt (hI p (by walk_at "my at"))
  · intro I hI
    refine ⟨fv, x, y, tx, ty, od, en, ah, sz, pit, np, R, rit, cr, ex, rs, hm, hfv, hx, hO, hst, hR, z1, z2, fun q hq' => ⟨(hq q hq').1, (hq q hq').2, ?_⟩, rfl⟩
    refine Nat.ne_of_lt (hI q ?_)
    rcases List.mem_cons.mp hq' with rfl | h
    · simp
    · simp [h]
  · rintro I hI i k t m nw it h tk hi hk ⟨fv1, x1, y1, tx1, ty1, od1, en1, ah1, sz1, pit1, np1, R1, rit1, cr1, ex1, rs1, hm1, hfv1, hx1, hO1, hst1, hR1, y1', y2', hq1, rfl⟩ F1 N1
    have hp : 4 ^ i ≤ 4 ^ 7 := Nat.pow_le_pow_right (by decide) (by omega)
    have h47 : 4 ^ 7 = 16384 := by decide
    have hsu : 4 ^ (i + 1) = 4 ^ i * 4 := Nat.pow_succ ..
    refine step ord (lt_all nlt) I k t m it { s with heap := h, toks := tk } (TurnStep callerA g [] g L [(I, it)] (JH src D dD P dH H n bg tm tr th tr' hs hs' news I (i + 1)) s Q) fv1 x1 y1 tx1 ty1 od1 en1 ah1 sz1 pit1 np1 R1 rit1 cr1 ex1 rs1 (fun c hc => ?_) (fun q hq' => hI q (by walk_at "my at")) hm1 hfv1 hx1 hO1 hst1 hR1 (by omega) (by omega) hq1 F1 N1 ?_
    · simp only [List.mem_cons, List.not_mem_nil, or_false] at hc
      rcases hc with rfl | rfl | rfl | rfl | rfl | rfl
      · exact hI (c, W.listOf #[.int x tx, .int y ty] n) (by walk_at "my in")
      · exact hI (c, instObj 482 dD) (by walk_at "my in")
      · exact hI (c, od) (by walk_at "my in")
      · exact hI (c, W.listOf pit np) (by walk_at "my in")
      · exact hI (c, HolesD hs hs' tr th tr' R) (by walk_at "my in")
      · exact hI (c, instObj 428 dH) (by walk_at "my in")
    · intro m' h' tk' fv' x' y' tx' ty' od' en' ah' sz' pit' np' R' rit' cr' ex' rs' hm' hfv' hx' hO' hst' hR' w1 w2 hq' F' N'
      exact go0 (s := s) (Q := Q) (own := [(I, it)]) (tk' := tk') F' ⟨fv', x', y', tx', ty', od', en', ah', sz', pit', np', R', rit', cr', ex', rs', hm', hfv', hx', hO', hst', hR', by omega, by omega, hq', rfl⟩ N'
  · rintro I hI m nw h tk ⟨fv1, x1, y1, tx1, ty1, od1, en1, ah1, sz1, pit1, np1, R1, rit1, cr1, ex1, rs1, hm1, hfv1, hx1, hO1, hst1, hR1, y1', y2', hq1, rfl⟩ F1 N1
    exact done m h tk fv1 x1 y1 tx1 ty1 ((D, instObj 482 dD) :: (dD, od1) :: (P, W.listOf pit1 np1) :: (dH, HolesD hs hs' tr th tr' R1) :: (H, instObj 428 dH) :: (R1, W.listOf rit1 cr1) :: ex1) hm1 hx1 F1 N1
theorem rows_one {d : Addr} {a b : Int} {t u : Tok} : Rws #[.ref d] [(d, tupOf #[.int a t, .int b u])] [(a, b)] := Rws.nil.push (.head _)
theorem sub_h0 {T9 P R tp H dH D dD src : Addr × Obj} {news : List (Addr × Obj)} : ∀ q ∈ src :: D :: dD :: P :: dH :: H :: R :: ([tp] ++ news), q ∈ T9 :: P :: R :: tp :: H :: dH :: D :: dD :: src :: news := by walk_at "my perm"
theorem apart_of {D dD H dH P hd dh : Addr} (o1 : @LT.lt Nat _ dD D) (o2 : @LT.lt Nat _ D dH) (o3 : @LT.lt Nat _ dH H) (o4 : @LT.lt Nat _ H P) (o5 : @LT.lt Nat _ P dh) (o6 : @LT.lt Nat _ dh hd) : Apart7 D dD H dH P hd dh :=
  have p1 := Nat.lt_trans o1 o2
  have p2 := Nat.lt_trans p1 o3
  have p3 := Nat.lt_trans p2 o4
  have p4 := Nat.lt_trans p3 o5
  have p5 := Nat.lt_trans p4 o6
  have q2 := Nat.lt_trans o3 o4
  have q3 := Nat.lt_trans q2 o5
  have q4 := Nat.lt_trans q3 o6
  have s1 := Nat.lt_trans o2 q2
  have s2 := Nat.lt_trans o5 o6
  ⟨⟨Nat.ne_of_gt o1, Nat.ne_of_gt p2, Nat.ne_of_gt p1, Nat.ne_of_gt p3, Nat.ne_of_gt p5, Nat.ne_of_gt p4⟩, ⟨Nat.ne_of_lt o2, Nat.ne_of_gt o3, Nat.ne_of_gt q2, Nat.ne_of_gt q4, Nat.ne_of_gt q3⟩, Nat.ne_of_lt s1, Nat.ne_of_lt o4, Nat.ne_of_gt s2, Nat.ne_of_gt o5⟩
theorem sub_p {hd dh I src D dD P dH H R : Addr × Obj} {l : List (Addr × Obj)} : ∀ q ∈ hd :: dh :: D :: dD :: P :: dH :: H :: I :: src :: R :: l, q ∈ hd :: dh :: I :: src :: D :: dD :: P :: dH :: H :: R :: l := by walk_at "my perm"
theorem sub_q {I src D dD P dH H R r : Addr × Obj} {ex ex' l : List (Addr × Obj)} : ∀ q ∈ I :: src :: D :: dD :: P :: dH :: H :: r :: (ex' ++ l), q ∈ D :: dD :: P :: dH :: H :: r :: (ex' ++ I :: src :: R :: (ex ++ l)) := by walk_at "my perm"
theorem ne_heads {I src R : Addr × Obj} {ex news : List (Addr × Obj)} {d : Addr} (h1 : @Ne Nat I.1 d) (h2 : @Ne Nat src.1 d) (h3 : @Ne Nat R.1 d) (h4 : ∀ q ∈ ex, @Ne Nat q.1 d) (h5 : ∀ q ∈ news, @LT.lt Nat _ q.1 d) : ∀ q ∈ I :: src :: R :: (ex ++ news), q.1 ≠ d :=
  List.forall_mem_cons.mpr ⟨h1, List.forall_mem_cons.mpr ⟨h2, List.forall_mem_cons.mpr ⟨h3, fun q hq => by
    rcases List.mem_append.mp hq with hq | hq
    · exact h4 q hq
    · exact Nat.ne_of_lt (h5 q hq)⟩⟩⟩
theorem more_of {d : Int} (h0 : 0 ≤ d) (h1 : d < 3) : (decide (8 * d < 16) = true ∧ (8 * d = 0 ∨ 8 * d = 8)) ∨ (decide (8 * d < 16) = false ∧ 8 * d = 16) := by
  by_cases h : 8 * d < 16
  · exact .inl ⟨decide_eq_true h, by omega⟩
  · exact .inr ⟨decide_eq_false h, by omega⟩
theorem heads_lt {I src R r : Addr × Obj} {hd dh D dD P dH H : Addr} {ex l : List (Addr × Obj)} (h : ∀ q ∈ r :: ex, (∀ x ∈ [hd, dh, D, dD, P, dH, H], @LT.lt Nat _ x q.1) ∧ ∀ p ∈ I :: src :: R :: l, @LT.lt Nat _ p.1 q.1) : ∀ q ∈ r :: ex, @LT.lt Nat _ H q.1 ∧ @Ne Nat q.1 P ∧ @Ne Nat q.1 I.1 := fun q hq =>
  ⟨(h q hq).1 _ (by simp), Nat.ne_of_gt ((h q hq).1 _ (by simp)), Nat.ne_of_gt ((h q hq).2 _ (.head _))⟩
theorem heads_c {w : World} {p : Program} {loose : List Str} {mean : ExcName → Option Value} {mg mb : Str → Option Value} {dp un : Nat} {gd : Option (List Code)} {cn : Str} {cs : Scope} {a : Addr} {ccd : Value} {cl : List (Str × Addr)} {outer : List Env} {A₀ : Around} {base h₀ : Heap} {L : Addr} {m : Str → Option Value} {news : List (Addr × Obj)} {s : Shared} {Q E : Value → Shared → Prop}
    {src : Addr} {x y : Int} {tx ty : Tok} {n : Nat}
    (B : Below A₀ base outer h₀) (F : Fr h₀ L s.heap m) (X : (hd.heap_1 w.params).In h₀) (N : News h₀ L s.heap ((src, W.listOf #[.int x tx, .int y ty] n) :: news)) (hne : ∀ q ∈ news, q.1 ≠ src) (T : Top p loose mean mg mb h₀) (hk : cs.kind = .function)
    (hdp : dp < 450) (hun : un < 500) (hx : 0 ≤ x)
    (ret : ∀ x' y' tx' ty' h' tk', Fr h₀ L h' m → News h₀ L h' ((src, W.listOf #[.int x' tx', .int y' ty'] n) :: news) → 0 ≤ x' → Q (.bool true) { s with heap := h', toks := tk' }) :
    wpAny (model PySem.Challenge.rw_pf0401_01.row.prog w) (ktrTop dp un gd cn cs L a ccd cl outer) (call (.ref 547) [.ref src]) Q E s := by
  refine wpAny_call ?_
  k_dflt cell_enter
  k_steps
  rename News _ _ _ _ => N8
  refine range_heads (fv := .none) (rs := [(0, 64)]) (ah := 0) (sz := 0) (en := .none) rfl (by assumption) (by omega) (by omega) (by assumption) N8 sub_h0 ⟨by with_unfolding_all rfl, by with_unfolding_all rfl, by with_unfolding_all rfl⟩ (.inl rfl) (by assumption) ⟨_, _, _, _, _, _, _, _, _, _, _, _, _, _, _, _, _, _, rfl⟩ (.inr ⟨rfl, by decide, 0, by decide, [], rfl⟩) rows_one (Nat.le_refl _) (Nat.zero_le _) (List.forall_mem_cons.mpr ⟨⟨by dsimp only; omega, by dsimp only; omega⟩, List.forall_mem_cons.mpr ⟨⟨by dsimp only; omega, by dsimp only; omega⟩, List.forall_mem_nil _⟩⟩) ⟨by omega, by omega, by omega, by omega, by omega⟩ (And.right (by assumption)) ?_ ?_
  · intro ord nlt I k t m1 it s1 R1 fv1 x1 y1 tx1 ty1 od1 en1 ah1 sz1 pit1 np1 R9 rit1 cr1 ex1 rs1 hc hn hm1 hfv1 hx1 hO1 hst1 hR1 z1 z2 hq1 F1 N1 hE
    clear N8 ret
    obtain ⟨o1, o2, o3, o4, o5⟩ := ord
    have c1 := hc _ (.head _)
    have c6 := hc _ (.tail _ (.tail _ (.tail _ (.tail _ (.tail _ (.head _))))))
    have c4 := hc _ (.tail _ (.tail _ (.tail _ (.head _))))
    obtain ⟨r1, r2, r3⟩ := hq1 _ (.head _)
    have nS : ∀ q ∈ ex1 ++ news, q.1 ≠ src := fun q hq => by
      rcases List.mem_append.mp hq with hq | hq
      · have := (hq1 _ (.tail _ hq)).1
        exact Nat.ne_of_gt (by omega)
      · exact hne q hq
    rw [m_three hm1.1 hm1.2.1 hm1.2.2] at F1
    have ms9 : Mark := True.intro
    k_steps
    unfold StopAt
    obtain ⟨i1, i2, i3, i4, i5, i6, i7, i8, j1, j2, j3, j4, j5, j6, j7, j8, x6, x8, rfl⟩ := id hO1
    k_steps
    unfold CallAt
    rename News _ _ _ _ => N7
    replace N7 := sub_news N7 sub_p
    with_unfolding_all refine put_c (by assumption) (by assumption) (by assumption) N7 (by assumption) (by first | assumption | exact rfl) (apart_of o2 o3 o4 o5 (by omega) (by omega)) (ne_heads (by (refine Nat.ne_of_gt ?_); dsimp only; omega) (Nat.ne_of_lt o1) (by (refine Nat.ne_of_gt ?_); dsimp only; omega) (fun q hq => Nat.ne_of_gt (by have := (hq1 q (.tail _ hq)).1; omega)) nlt) (ne_heads (by (refine Nat.ne_of_gt ?_); dsimp only; omega) (by (refine Nat.ne_of_lt ?_); dsimp only; omega) (by (refine Nat.ne_of_gt ?_); dsimp only; omega) (fun q hq => Nat.ne_of_gt (by have := (hq1 q (.tail _ hq)).1; omega)) (fun q hq => by have := nlt q hq; omega)) (ne_heads (Nat.ne_of_gt c4) (by (refine Nat.ne_of_lt ?_); dsimp only; omega) r2 (fun q hq => (hq1 q (.tail _ hq)).2.1) (fun q hq => by have := nlt q hq; omega)) hO1 ⟨_, _, _, _, _, _, _, _, _, _, _, _, _, _, _, _, _, _, _, _, _, _, _, _, _, _, _, _, rfl⟩ (.tail _ (.tail _ (.head _))) (hR1.more (fun p hp => .tail _ (.tail _ (.tail _ (List.mem_append_left _ hp))))) z1 z2 rfl hst1 hfv1 (more_of (by assumption) (by assumption)) (by walk_at "my small") (by walk_at "my small") ?_
    intro od2 en2 ah2 fv2 sz2 pit2 np2 r9 rit9 cr9 ex9 rs9 h9 tk9 hO2 hS2 hrel hR2 w1 w2 hlt F9 N9
    obtain ⟨i1', i2', i3', i4', i5', i6', i7', i8', j1', j2', j3', j4', j5', j6', j7', j8', x6', x8', rfl⟩ := id hO2
    rcases hrel with ⟨h0, rfl, rfl⟩ | ⟨h0, rfl⟩
    · walk_at "my fold"
      k_steps
      all_goals first
        | exact hE _ _ _ _ _ _ _ _ _ _ _ _ _ _ _ _ _ _ rs9 ⟨rfl, rfl, rfl⟩ (.inr ⟨_, rfl⟩) (by assumption) hO2 hS2 hR2 w1 w2 (heads_lt hlt) (by assumption) (sub_news (by assumption) sub_q)
        | (exfalso; omega)
        | trace_state
    · rcases hfv1 with rfl | ⟨av, rfl⟩
      · walk_at "my fold"
        k_steps
        all_goals first
          | exact hE _ _ _ _ _ _ _ _ _ _ _ _ _ _ _ _ _ _ rs9 ⟨rfl, rfl, rfl⟩ (.inl rfl) (by assumption) hO2 hS2 hR2 w1 w2 (heads_lt hlt) (by assumption) (sub_news (by assumption) sub_q)
          | exact absurd ⟨by assumption, rfl⟩ h0
          | trace_state
      · walk_at "my fold"
        k_steps
        all_goals first
          | exact hE _ _ _ _ _ _ _ _ _ _ _ _ _ _ _ _ _ _ rs9 ⟨rfl, rfl, rfl⟩ (.inr ⟨_, rfl⟩) (by assumption) hO2 hS2 hR2 w1 w2 (heads_lt hlt) (by assumption) (sub_news (by assumption) sub_q)
          | trace_state
  · intro m1 h tk fv1 x1 y1 tx1 ty1 rest hm1 hx1 F1 N1
    rw [m_three hm1.1 hm1.2.1 hm1.2.2] at F1
    k_steps
    exact ret _ _ _ _ _ _ (by assumption) (sub_news (by assumption) (fun q hq => by rcases List.mem_cons.mp hq with rfl | hq; exact .head _; exact .tail _ (List.mem_append_right _ hq))) (by assumption)
end
example : True := by
  w_top off
  k_with_none
  trivial
example : True := by
  (k_with "my mem" => with_reducible (k_extra "my mem1"))
  (k_with "my mem1" => (first | exact List.Mem.head _ | (refine' List.Mem.tail _ ?_; k_extra "my mem1")))
  (k_with "my k_lt" => ((rename (∀ p : Addr × Obj, p ∈ _ → p.1 < _) => l1q); (replace l1q := allLt_of l1q); (simp only [AllLt, and_true] at l1q); (first | ((with_reducible refine spa15 l1q ?_); intro f0q f1q f2q f3q f4q f5q f6q f7q f8q f9q f10q f11q f12q f13q f14q) | ((with_reducible refine spa14 l1q ?_); intro f0q f1q f2q f3q f4q f5q f6q f7q f8q f9q f10q f11q f12q f13q) | ((with_reducible refine spa13 l1q ?_); intro f0q f1q f2q f3q f4q f5q f6q f7q f8q f9q f10q f11q f12q) | ((with_reducible refine spa12 l1q ?_); intro f0q f1q f2q f3q f4q f5q f6q f7q f8q f9q f10q f11q) | ((with_reducible refine spa11 l1q ?_); intro f0q f1q f2q f3q f4q f5q f6q f7q f8q f9q f10q) | ((with_reducible refine spa10 l1q ?_); intro f0q f1q f2q f3q f4q f5q f6q f7q f8q f9q) | ((with_reducible refine spa9 l1q ?_); intro f0q f1q f2q f3q f4q f5q f6q f7q f8q) | ((with_reducible refine spa8 l1q ?_); intro f0q f1q f2q f3q f4q f5q f6q f7q) | ((with_reducible refine spa7 l1q ?_); intro f0q f1q f2q f3q f4q f5q f6q) | ((with_reducible refine spa6 l1q ?_); intro f0q f1q f2q f3q f4q f5q) | ((with_reducible refine spa5 l1q ?_); intro f0q f1q f2q f3q f4q) | ((with_reducible refine spa4 l1q ?_); intro f0q f1q f2q f3q) | ((with_reducible refine spa3 l1q ?_); intro f0q f1q f2q) | ((with_reducible refine spa2 l1q ?_); intro f0q f1q) | ((with_reducible refine spa1 l1q ?_); intro f0q) | ((with_reducible refine spb12 l1q ?_); intro f0q f1q f2q f3q f4q f5q f6q f7q f8q f9q f10q f11q) | ((with_reducible refine spb11 l1q ?_); intro f0q f1q f2q f3q f4q f5q f6q f7q f8q f9q f10q) | ((with_reducible refine spb10 l1q ?_); intro f0q f1q f2q f3q f4q f5q f6q f7q f8q f9q) | ((with_reducible refine spb9 l1q ?_); intro f0q f1q f2q f3q f4q f5q f6q f7q f8q) | ((with_reducible refine spb8 l1q ?_); intro f0q f1q f2q f3q f4q f5q f6q f7q) | ((with_reducible refine spb7 l1q ?_); intro f0q f1q f2q f3q f4q f5q f6q) | ((with_reducible refine spb6 l1q ?_); intro f0q f1q f2q f3q f4q f5q) | ((with_reducible refine spb5 l1q ?_); intro f0q f1q f2q f3q f4q) | ((with_reducible refine spb4 l1q ?_); intro f0q f1q f2q f3q) | ((with_reducible refine spb3 l1q ?_); intro f0q f1q f2q) | ((with_reducible refine spb2 l1q ?_); intro f0q f1q) | skip); revert l1q))
  (k_with "my cj" => (first | with_reducible assumption | exact And.left (by with_reducible assumption) | exact And.left (And.right (by with_reducible assumption)) | exact And.left (And.right (And.right (by with_reducible assumption))) | exact And.left (And.right (And.right (And.right (by with_reducible assumption)))) | exact And.right (by with_reducible assumption) | exact And.right (And.right (by with_reducible assumption)) | exact And.right (And.right (And.right (by with_reducible assumption)))))
  (k_with "my lt" => (first | with_reducible assumption | exact Nat.lt_add_one _ | exact lt_r _ (by first | with_reducible assumption | exact Nat.lt_add_one _) | exact lt_r _ (lt_r _ (by first | with_reducible assumption | exact Nat.lt_add_one _)) | exact lt_r _ (lt_r _ (lt_r _ (by first | with_reducible assumption | exact Nat.lt_add_one _))) | exact lt_r _ (lt_r _ (lt_r _ (lt_r _ (by first | with_reducible assumption | exact Nat.lt_add_one _)))) | exact lt_r _ (lt_r _ (lt_r _ (lt_r _ (lt_r _ (by first | with_reducible assumption | exact Nat.lt_add_one _))))) | exact lt_r _ (lt_r _ (lt_r _ (lt_r _ (lt_r _ (lt_r _ (by first | with_reducible assumption | exact Nat.lt_add_one _))))))))
  (k_with "my ne" => (first | with_reducible assumption | exact Ne.symm (by with_reducible assumption) | (refine neN ?_; (try dsimp only); first | exact Nat.ne_of_gt (by k_extra "my lt") | exact Nat.ne_of_lt (by k_extra "my lt") | k_extra "my cj" | exact Ne.symm (by k_extra "my cj"))))
  (k_with "my om" => k_dflt (first | with_reducible assumption | ((with_reducible show @LT.lt Nat _ _ _); (first | exact q_lt0 (by with_reducible assumption) (by rfl) | exact q_lt1 (by with_reducible assumption) (by rfl) | exact q_lt2 (by with_reducible assumption) (by rfl) | exact q_lt3 (by with_reducible assumption) (by rfl) | exact q_le4 (by with_reducible assumption) (by rfl) | exact q_eq1 (by with_reducible assumption) (by rfl) | k_extra "my lt" | k_extra "my cj" | decide)) | ((with_reducible show @LE.le Nat _ _ _); (first | exact q_le0 (by with_reducible assumption) (by rfl) | exact q_le1 (by with_reducible assumption) (by rfl) | exact q_le2 (by with_reducible assumption) (by rfl) | exact q_le3 (by with_reducible assumption) (by rfl) | exact q_eq0 (by with_reducible assumption) (by rfl) | k_extra "my cj" | decide)) | ((with_reducible show @LT.lt Int _ _ _); (first | exact q_il0 (by with_reducible assumption) (by rfl) | exact q_il1 (by with_reducible assumption) (by rfl) | exact q_il3 (by with_reducible assumption) (by rfl) | k_extra "my cj" | decide)) | ((with_reducible show @LE.le Int _ _ _); (first | exact q_il2 (by with_reducible assumption) (by rfl) | k_extra "my cj" | decide)) | ((with_reducible show @Ne Nat _ _); k_extra "my ne") | decide))
  trivial
example : True := by
  (k_with "my in" => (repeat (first | exact List.Mem.head _ | refine List.Mem.tail _ ?_ | refine List.mem_append_right _ ?_)))
  (k_with "my at" => (repeat (first | assumption | exact List.mem_append_left _ (by assumption) | refine List.Mem.tail _ ?_ | refine List.mem_append_right _ ?_)))
  (k_with "my perm" => ((try simp only [List.cons_append, List.nil_append, List.append_assoc]); (repeat (refine List.forall_mem_cons.mpr ⟨?_, ?_⟩; (focus ((walk_at "my in"); done)))); first | exact List.forall_mem_nil _ | (intro q9 hq9; (try (have hq8 := List.mem_append.mp hq9; clear hq9; rcases hq8 with hq9 | hq9)); (all_goals (try (have hq7 := List.mem_cons.mp hq9; clear hq9; rcases hq7 with hq7 | hq9))); (all_goals (try (have hq7 := List.mem_cons.mp hq9; clear hq9; rcases hq7 with hq7 | hq9))); all_goals first | (subst hq7; walk_at "my in"; done) | (repeat (first | exact hq9 | exact List.mem_append_left _ hq9 | refine List.Mem.tail _ ?_ | refine List.mem_append_right _ ?_)))))
  (k_with "my bnd" => (first | omega | exact Int.lt_of_lt_of_le (by decide) (fmod_lo _ (by decide)) | exact Int.lt_trans (fmod_hi _ (by decide)) (by decide)))
  (k_with "binaryOp Mult int int" => (((with_reducible show wpAny _ _ (binaryOp Operator.Mult (Value.int _ _) (Value.int _ _)) _ _ _); refine mul_int ?_ (IntMulOk.of_left (intBits_le_64 ?mlo ?mhi)); (case mlo => walk_at "my bnd"); (case mhi => walk_at "my bnd"))))
  (k_with "binaryOp FloorDiv int int" => (((with_reducible show wpAny _ _ (binaryOp Operator.FloorDiv (Value.int _ _) (Value.int _ _)) _ _ _); refine floordiv_int ?fne ?_ (Or.inl (PyProof.noPylong_of_log2 (log2_small ?flo ?fhi))); (case fne => omega); (case flo => omega); (case fhi => omega))))
  (k_with "execs cons" => ((k_here; refine fold_stmt ?_; intro qk sk)))
  trivial
example : True := by
  (k_with "eval Name" => ((k_here; k_dflt (first
    | (refine' name_l ?F ?e ?v ?a ?b ?d ?_; (case F => k_asm); (case e => rfl); (case b => rfl); (case v => rfl); (case a => rfl); (case d => decide); k_whole)
    | (refine' nameX_K ?F ?X ?T ?e ?_ ?a ?b; (case F => k_asm); (case b => rfl); (case X => k_asm); (case T => k_asm); (case a => rfl); (case e => k_is); k_whole)
    | (refine' nameX_B ?F ?X ?T ?e ?v ?n ?_ ?a ?b; (case F => k_asm); (case b => rfl); (case X => k_asm); (case T => k_asm); (case a => rfl); (case e => k_is); (case v => boot_fast); (case n => decide); k_whole)))))
  (k_with "storeName" => ((k_here; k_dflt (refine' store_l ?F ?N ?e ?a ?b ?_; (case F => k_asm); (case N => k_asm); (case e => rfl); (case a => rfl); (case b => rfl); k_whole; intro h' mk F' N'; (try k_sweep)))))
  trivial
example : True := by
  (k_with "my steps" => (repeat' (first | ((try k_unmd); k_unfold; (try dsimp only)) | (k_end; wrow_close) | walk1 | (dsimp only; walk1) | (leave1; walk_say "STEP leave1"; try dsimp only) | fail "no step")))
  (k_with "my fold0" => ((refine fold_entry ?_; intro Ak envk qk ek sk; (rename Fr _ _ _ _ => kF); (refine fr_let kF ?_); clear kF; intro mk kF)))
  (k_with "my units" => ((have hcL9 := cLine_is; (simp (config := { zetaDelta := true }) only [units_in1, units_deeper, Around.mark_units, units_caller, ktrTop]); omega)))
  (k_with "my room" => (((simp (config := { zetaDelta := true }) only [depth_under_make, depth_under_kw, depth_in1, depth_deeper, depth_caller, ktrTop, recursionLimit]); omega)))
  (k_with "callWith ref" => (k_here; k_dflt (first
    | (refine' callWith_K ?k1 ?k2 ?_; (case k1 => with_reducible assumption); (case k2 => k_is); k_whole)
    | (refine' callw_0 ?k0 ?k1 ?k2 ?_; (case k0 => with_reducible assumption); (case k1 => with_reducible assumption); (case k2 => k_is); k_whole)
    | (refine' callw_m0 ?k0 ?kN ?k1 ?kq ?k2 ?_; (case k0 => with_reducible assumption); (case kN => with_reducible assumption); (case k1 => with_reducible assumption); (case kq => k_mem); (case k2 => k_is); k_whole; try dsimp only [List.nil_append, List.cons_append])
    | (refine' callWith_M ?k1 ?k2 ?k3 ?k4 ?_; (case k1 => with_reducible assumption); (case k2 => with_reducible assumption); (case k3 => k_mem); (case k4 => k_is); k_whole)
    | (refine' callWith_KW ?k1 ?k2 ?k3 ?_; (case k1 => with_reducible assumption); (case k2 => k_is); (case k3 => exact rfl); k_whole)
    | (refine' callWith_KW0 ?k1 ?k2 ?k3 ?_; (case k1 => with_reducible assumption); (case k2 => k_is); (case k3 => exact rfl); k_whole))))
  (k_with "compareOp IsNot ref ref" => (k_here; first | (with_reducible refine isnot_ref_same ?_) | refine wpAny_isNot_ref_self ?_))
  (k_with "my stop" => ((rename Mark => mk9); clear mk9; refine stop_at ?_))
  (k_with "subscriptTail" => (k_extra "my stop"))
  (k_with "getMethod ref" => (k_extra "my stop"))
  trivial
example : True := by
  (k_with "my small" => (first | omega | ((try simp (config := { zetaDelta := true }) only [depth_under_make, depth_under_kw, depth_in1, depth_deeper, depth_caller, units_in1, units_deeper, Around.mark_units, units_caller]); (try simp (config := { zetaDelta := true }) only [ktrTop]); first | omega | decide)))
  (k_with "exec Raise some none" => ((k_here; (with_reducible show wpAny _ _ (exec (Stmt.Raise (some (Expr.Call (Expr.Name ("FormError" : Str) _) _ _ _)) none _) _) _ _ _); k_dflt (refine raise_form (by assumption) (by first | assumption | with_unfolding_all rfl) ?_))))
  (k_with "exec Raise some none" => ((k_here; (with_reducible show wpAny _ _ (exec (Stmt.Raise (some (Expr.Call (Expr.Name ("SizeError" : Str) _) _ _ _)) none _) _) _ _ _); k_dflt (refine raise_size (by assumption) (by first | assumption | with_unfolding_all rfl) ?_))))
  (k_with "call ref" => ((k_here; first
  | ((with_reducible show wpAny _ _ (call (Value.ref 51) [Value.str _ _]) _ _ _); (refine' make_form ?kF ?kX ?kN ?kh ?kf ?kd ?ku ?_); (case kF => assumption); (case kX => assumption); (case kN => assumption); (case kh => with_unfolding_all exact rfl); (case kf => with_unfolding_all exact rfl); (case kd => walk_at "my small"); (case ku => walk_at "my small"); k_whole; intro e' o' h' tk' hx' F' N' ne')
  | ((with_reducible show wpAny _ _ (call (Value.ref 63) [Value.str _ _]) _ _ _); (refine' make_size ?kF ?kX ?kN ?kh ?kf ?kd ?ku ?_); (case kF => assumption); (case kX => assumption); (case kN => assumption); (case kh => with_unfolding_all exact rfl); (case kf => with_unfolding_all exact rfl); (case kd => walk_at "my small"); (case ku => walk_at "my small"); k_whole; intro e' o' h' tk' hx' F' N' ne'))))
  (k_with "OwnUp ref" => ((refine ⟨_, _, rfl, by assumption, Frag.In.keeps (by assumption) (Fr.keep (by assumption)), (News.get (by assumption) (.head _)), ?_⟩)))
  (k_with "leaving ref" => ((k_here; first
  | ((refine' leave_led ?kB ?kf ?kk ?kF ?kN ?kx ?kn ?_); (case kx => assumption); (case kF => assumption); (case kN => assumption); (case kB => assumption); (case kf => with_unfolding_all exact rfl); (case kk => first | assumption | with_unfolding_all exact rfl); (case kn => assumption); k_whole; intro h' R' U'; (try dsimp only at R' U' ⊢))
  | ((refine' leave_up ?kB ?kf ?kF ?kR ?kU ?_); (case kR => assumption); (case kF => assumption); (case kB => assumption); (case kf => with_unfolding_all exact rfl); (case kU => assumption); k_whole; intro h' R' U'; (try dsimp only at R' U' ⊢)))))
  (k_with "turn enter" => ((refine' code_T ?k1 ?k2 ?k3 ?k4 ?k5 ?kD ?kA ?kF ?kK ?k6 ?k7 ?k8 ?k9 ?kB ?_ ?c2 ?c3 ?c4 ?c5; (case kA => exact rfl); (case kF => exact rfl); (case kK => assumption); (case k1 => k_asm); (case k2 => k_asm); (case k3 => k_asm); (case k4 => k_asm); (case k5 => k_asm); (case kD => assumption); (case k6 => k_is); (case k7 => k_is); (case k8 => ktr_room); (case k9 => exact BindsTo.of_eq rfl); (case c5 => decide); (case kB => exact locs rfl); (case c2 => exact rfl); (case c3 => exact rfl); (case c4 => exact rfl); k_whole; intro g' L' h' FG' F' N' B' X' T' D' l1; (try dsimp only); (try k_lift B'); (try k_fold))))
  (k_with "my size" => ((rw [KBw.ints_length]; first | omega | (simp only [Array.size_append]; omega))))
  (k_with "subscriptTail" => ((k_here; (with_reducible show wpAny _ _ (subscriptTail _ (Expr.Slice _ _ none _) (Value.bytes _ _) (Value.ref _)) _ _ _); (with_reducible rename Fr _ _ _ _ => F'); (with_reducible rename News _ _ _ _ => N'); (refine KBc.slice_K (s := ⟨_, _, _, _, _⟩) F' N' rfl (by constructor) (by constructor) (by walk_at "my size") ?_); intro _ _ _ _ _ _)))
  (k_with "turn enter cells" => ((refine' code_TC ?k1 ?k2 ?k3 ?k4 ?k5 ?kG ?kA ?kF ?kK ?k6 ?k7 ?k8 ?k9 ?kB ?kD ?_ ?c2 ?c3 ?c4; (case kA => exact rfl); (case kF => exact rfl); (case kK => assumption); (case k1 => k_asm); (case k2 => k_asm); (case k3 => k_asm); (case k4 => k_asm); (case k5 => k_asm); (case kG => assumption); (case k6 => k_is); (case k7 => k_is); (case k8 => ktr_room); (case k9 => exact BindsTo.of_eq rfl); (case kB => exact rfl); (case kD => decide +kernel); (case c2 => exact rfl); (case c3 => exact rfl); (case c4 => exact rfl); k_whole; intro g' L' h' tk' cells' FG' F' N' Y' B' X' T' D' l1; (try k_lt l1); (have l9 := l1); (repeat (replace l9 := And.right l9)); k_cells Y'; (try simp only [List.cons_append, List.nil_append] at N'); (first | (refine fr_one F' (by rfl) ?_; clear F'; intro F') | (refine fr_cell F' (by rfl) ?_; clear F'; intro F')); (try dsimp only); (try k_lift B'); (try k_fold))))
  (k_with "LeaveT" => ((k_dflt (refine' leaveT ?F ?N ?T ?_; (case F => k_asm); (case N => k_asm); (case T => first | assumption | exact KtsTurn.refl); k_whole); intro kg kT kF kN kB kD; (try dsimp only))))
  trivial
example : True := by
  (k_with "my all" => (first | exact ne_all (by assumption) (Nat.le_refl _) | exact ne_all (by assumption) (Nat.le_of_lt (by assumption)) | exact ne_all (by assumption) (by omega)))
  trivial
example : True := by
  (k_with "call type:bytes" => ((k_here; (with_reducible show wpAny _ _ (call (Value.type "bytes") [Value.bytes _ _]) _ _ _); refine MB.call_b ?_)))
  (k_with "call type:bytes" => ((k_here; (with_reducible show wpAny _ _ (call (Value.type "bytes") [Value.int _ _]) _ _ _); (refine MB.call_i ?bi0 ?bi1 ?_); (case bi0 => omega); (case bi1 => omega); intro _ _)))
  (k_with "lam enter" => ((refine' kla_code ?k1 ?k2 ?k3 ?k4 ?k5 ?kA ?kF ?kK ?k6 ?k7 ?k8 ?k9 ?kB ?_ ?c2 ?c3 ?c4 ?c5; (case kA => exact rfl); (case kF => exact rfl); (case kK => assumption); (case k1 => k_asm); (case k2 => k_asm); (case k3 => k_asm); (case k4 => k_asm); (case k5 => k_asm); (case k6 => k_mem); (case k7 => exact codeRec_news (by k_asm) (by k_mem) (by assumption) (by assumption)); (case k8 => ktr_room); (case k9 => exact rfl); (case c5 => decide); (case kB => exact locs rfl); (case c2 => exact rfl); (case c3 => exact rfl); (case c4 => exact rfl); k_whole; intro g' L' h' FG' F' N' B' X' T'; (try dsimp only); (try k_lift B'); (try k_fold))))
  (k_with "my sub" => ((refine sub_news (by assumption) ?_; (repeat (refine List.forall_mem_cons.mpr ⟨?_, ?_⟩; (focus ((k_mem); done)))); first | exact List.forall_mem_nil _ | (intro _ hp9; (repeat (first | exact hp9 | refine List.Mem.tail _ ?_))))))
  (k_with "same item" => (first | exact MQ.at_bytes _ _ _ | exact MQ.at_int _ _ _))
  (k_with "compareOp NotEq ref ref" => ((k_here; k_dflt (refine MQ.ne_list1 (News.isList (by assumption) (by k_mem)) (News.isList (by assumption) (by k_mem)) (by ktr_units) (by walk_at "same item") ?_))))
  trivial
example : True := by
  (k_with "call ref" => ((k_here; (with_reducible show wpAny _ _ (call (Value.ref 500) [Value.ref _, Value.int _ _]) _ _ _); (with_unfolding_all refine take_U (by assumption) (by assumption) (by assumption) (by assumption) (by k_updF) (by assumption) (by first | assumption | exact rfl) (by walk_at "my small") (by walk_at "my small") (by walk_at "my bnd") (by walk_at "my bnd") (by first | assumption | omega) ?_); intro d' x' y' td' tx' ty' h' tk' F' N' hd1' hd2' hx'; (try dsimp only at N'); (try k_sweep))))
  (k_with "my item" => ((refine item_at (by assumption) (by k_mem) (by assumption) (by assumption) (by assumption) ?_; intro _ hv')))
  (k_with "exec For Name Call cons nil" => ((k_here; k_dflt (refine For_from ?_))))
  (k_with "exec For Name List cons nil" => ((k_here; k_dflt (refine For_from ?_))))
  (k_with "binaryOp Add" => ((k_here; (with_reducible show wpAny _ _ (binaryOp Operator.Add (Value.ref _) (Value.ref _)) _ _ _); k_dflt (refine' menu_K ?mF ?mN ?ml ?mP ?mi ?mc ?mz ?_; (case mF => assumption); (case mN => assumption); (case ml => k_mem); (case mP => assumption); (case mi => repeat constructor); (case mc => assumption); (case mz => decide)); intro h' d' items' F' N' l1 hI'; (try k_lt l1))))
  (k_with "call builtin:list.append" => ((k_here; (with_reducible show wpAny _ _ (call (Value.builtin _) [Value.ref _, _]) _ _ _); k_dflt (refine' append_K ?k1 ?k2 ?k3 ?_ ?z; (case k1 => k_asm); (case k2 => k_asm); (case k3 => k_upd); (case z => rw [sizeLine_eq]; omega); k_whole); intro h' F' N'; (try k_sweep))))
  trivial
example : True := by
  (k_with "my ne2" => (first | k_extra "my ne" | (k_dflt (refine ne_cls (by assumption) (by k_mem) (by k_mem) rfl rfl (by decide))) | (refine neN ?_; (try dsimp only); omega (config := {}))))
  trivial
example : True := by
  (k_with "newTuple" => ((k_here; k_dflt (refine' kup_newTuple ?F ?N ?_ ?z; (case F => k_asm); (case N => k_asm); (case z => kmk_size)); intro D' h' F' N' l1; (try k_lt l1); (try k_sweep))))
  (k_with "exec For Tuple Name cons nil" => ((k_here; k_dflt (refine For_from ?_))))
  (k_with "my tup" => (exact tup_at (by assumption) (by k_mem)))
  (k_with "compareOp NotEq ref ref" => ((k_here; k_dflt (refine MQ.ne_tuple2 (by walk_at "my tup") (by walk_at "my tup") (by ktr_units) (by walk_at "same item") (by walk_at "same item") ?_))))
  (k_with "compareOp Eq ref ref" => ((k_here; k_dflt (refine eq_tuple2 (by walk_at "my tup") (by walk_at "my tup") (by ktr_units) (by walk_at "same item") (by walk_at "same item") ?_))))
  trivial
example : True := by
  (k_with "binaryOp RShift int int" => (first | refine shr8 ?_ | refine shr16 ?_))
  (k_with "binaryOp BitAnd int int" => (first | refine and8 ?_ | refine and16 ?_ | (refine and_any (by decide) ?_; intro r' hr0' hr1')))
  (k_with "binaryOp LShift int int" => (first | refine shl8 (by walk_at "my bnd") (by walk_at "my bnd") ?_ | refine shl16 (by walk_at "my bnd") (by walk_at "my bnd") ?_))
  (k_with "binaryOp BitOr int int" => (first | refine or8 (by walk_at "my bnd") (by walk_at "my bnd") (by walk_at "my bnd") ?_ | refine or16 (by walk_at "my bnd") (by walk_at "my bnd") (by walk_at "my bnd") ?_))
  (k_with "my idx" => (((try simp only [List.length_append, List.length_cons, List.length_nil, List.length_take, List.length_drop, List.length_map]); omega)))
  (k_with "my enter" => ((refine' code_def ?k1 ?k2 ?k3 ?k4 ?k5 ?kA ?kF ?kK ?k6 ?k7 ?k8 ?k9 ?kB ?_ ?c2 ?c3 ?c4 ?c5; (case kA => exact rfl); (case kF => exact rfl); (case kK => assumption); (case k1 => k_asm); (case k2 => k_asm); (case k3 => k_asm); (case k4 => k_asm); (case k5 => k_asm); (case k6 => k_is); (case k7 => k_is); (case k8 => ktr_room); (case k9 => first | exact BindsTo.of_eq rfl | exact binds_K (by k_in) rfl (by k_is) rfl rfl rfl); (case c5 => decide); (case kB => exact locs rfl); (case c2 => exact rfl); (case c3 => exact rfl); (case c4 => exact rfl); k_whole; intro g' L' h' FG' F' N' B' X' T'; (try dsimp only); (try k_lift B'); (try k_fold))))
  (k_with "call ref" => ((k_here; (with_reducible show wpAny _ _ (call (Value.ref 316) _) _ _ _); k_dflt (refine' ip_made ?B ?F ?X ?N ?T ?k ?d ?u ?b ?_; (case B => k_asm); (case F => k_asm); (case X => k_asm); (case N => k_asm); (case T => k_asm); (case k => first | assumption | exact rfl); (case d => walk_at "my small"); (case u => walk_at "my small"); (case b => (refine' binds_of ?h0 ?hb; (case h0 => k_is); (case hb => (intro s9 x9 X9; first | exact BindsTo.of_eq rfl | exact binds_K (by k_in) rfl (by k_is) rfl rfl rfl)))); k_whole); intro x' d' h' tk' e1' e2' e3' e4' e5' e6' e7' e8' e9' e10' t1' t2' t3' t4' t5' t6' t7' t8' t9' t10' F' N' l1 l2; (try k_lt l1); (try k_sweep))))
  (k_with "call ref" => ((k_here; (with_reducible show wpAny _ _ (call (Value.ref 231) _) _ _ _); k_dflt (refine' im_made ?B ?F ?X ?N ?T ?k ?d ?u ?b ?_; (case B => k_asm); (case F => k_asm); (case X => k_asm); (case N => k_asm); (case T => k_asm); (case k => first | assumption | exact rfl); (case d => walk_at "my small"); (case u => walk_at "my small"); (case b => (refine' binds_of ?h0 ?hb; (case h0 => k_is); (case hb => (intro s9 x9 X9; first | exact BindsTo.of_eq rfl | exact binds_K (by k_in) rfl (by k_is) rfl rfl rfl)))); k_whole); intro x' d' h' tk' e1' e2' e3' e4' t1' t2' t3' t4' F' N' l1 l2; (try k_lt l1); (try k_sweep))))
  trivial
example : True := by
  (k_with "call ref" => ((k_here; (with_reducible show wpAny _ _ (call (Value.ref 128) [Value.int _ _]) _ _ _); (with_unfolding_all refine put16_c (by assumption) (by assumption) (by assumption) (by assumption) (by assumption) (by first | assumption | exact rfl) (by walk_at "my small") (by walk_at "my small")  ?_); intro b' t' h' tk' hb' F' N'; (try k_sweep))))
  (k_with "call ref" => ((k_here; (with_reducible show wpAny _ _ (call (Value.ref 135) [Value.int _ _]) _ _ _); (with_unfolding_all refine put32_c (by assumption) (by assumption) (by assumption) (by assumption) (by assumption) (by first | assumption | exact rfl) (by walk_at "my small") (by walk_at "my small")  ?_); intro b' t' h' tk' hb' F' N'; (try k_sweep))))
  (k_with "call ref" => ((k_here; (with_reducible show wpAny _ _ (call (Value.ref 149) [Value.bytes _ _, Value.int _ _]) _ _ _); (with_unfolding_all refine get16_c (by assumption) (by assumption) (by assumption) (by assumption) (by assumption) (by first | assumption | exact rfl) (by walk_at "my small") (by walk_at "my small") (by assumption) (by walk_at "my bnd") (by walk_at "my idx") (by walk_at "my idx") ?_); intro r' t' h' tk' hr' F' N'; have hr2' := hr'.2; (try k_sweep))))
  (k_with "call ref" => ((k_here; (with_reducible show wpAny _ _ (call (Value.ref 156) [Value.bytes _ _, Value.int _ _]) _ _ _); (with_unfolding_all refine get32_c (by assumption) (by assumption) (by assumption) (by assumption) (by assumption) (by first | assumption | exact rfl) (by walk_at "my small") (by walk_at "my small") (by assumption) (by walk_at "my bnd") (by walk_at "my idx") (by walk_at "my idx") ?_); intro r' t' h' tk' hr' F' N'; have hr2' := hr'.2; (try k_sweep))))
  (k_with "exec While Compare cons nil" => ((k_here; k_dflt (refine while_stop ?_))))
  (k_with "call ref" => ((k_here; (with_reducible show wpAny _ _ (call (Value.ref 163) [Value.int _ _]) _ _ _); (with_unfolding_all refine fold_c (by assumption) (by assumption) (by assumption) (by assumption) (by assumption) (by first | assumption | exact rfl) (by walk_at "my small") (by walk_at "my small") (by first | assumption | omega) ?_); intro r' t' h' tk' hr' F' N'; (try k_sweep))))
  (k_with "call ref" => ((k_here; (with_reducible show wpAny _ _ (call (Value.ref 171) [Value.bytes _ _, Value.int 0 _]) _ _ _); (with_unfolding_all refine ones_c (by assumption) (by assumption) (by assumption) (by assumption) (by assumption) (by first | assumption | exact rfl) (by walk_at "my small") (by walk_at "my small") (by assumption) (by walk_at "my idx") ?_); intro r' t' h' tk' hr' F' N'; (try k_sweep))))
  (k_with "call ref" => ((k_here; (with_reducible show wpAny _ _ (call (Value.ref 179) [Value.bytes _ _]) _ _ _); (with_unfolding_all refine check_c (by assumption) (by assumption) (by assumption) (by assumption) (by assumption) (by first | assumption | exact rfl) (by walk_at "my small") (by walk_at "my small") (by assumption) (by walk_at "my idx") ?_); intro r' t' h' tk' hr' F' N'; (try k_sweep))))
  trivial
example : True := by
  (k_with "call type:bytes" => ((k_here; (with_reducible show wpAny _ _ (call (Value.type "bytes") [Value.ref _]) _ _ _); k_dflt (refine' bytes_range ?bF ?bN ?bh ?bR ?b0 ?b1 ?b2 ?_; (case bF => assumption); (case bN => assumption); (case bh => exact rfl); (case bR => assumption); (case b0 => omega); (case b1 => omega); (case b2 => omega)); intro bs' h' t' tk' hbs' F' N'; (try k_sweep))))
  (k_with "eval Lambda" => ((k_here; k_dflt (refine lam_stop ?_))))
  (k_with "call builtin:len" => ((k_here; (with_reducible show wpAny _ _ (call (Value.builtin "len") [Value.bytes _ _]) _ _ _); (refine len_bytes (by omega) ?_))))
  trivial
example : True := by
  (k_with "exec For Name Tuple cons nil" => ((k_here; k_dflt (refine For_from ?_))))
  (k_with "binaryOp FloorDiv int int" => ((refine div_pos9 ?da ?db ?_; (case da => decide); (case db => decide))))
  (k_with "binaryOp Mod int int" => ((refine mod_pos9 ?da ?_; (case da => decide))))
  (k_with "call builtin:len" => ((k_here; (with_reducible show wpAny _ _ (call (Value.builtin "len") [Value.bytes #[] _]) _ _ _); (refine len_nil9 ?_); intro _)))
  trivial
example : True := by
  (k_with "my fold" => (refine fold_any ?_; intro Ak qk ek sk))
  (k_with "my refold" => ((try k_unmd); (try k_unfold); (try dsimp only); (try k_fold)))
  trivial
example : True := by
  (k_with "exec For Tuple Attribute cons nil" => ((k_here; k_dflt (refine For_from ?_))))
  (k_with "exec For Tuple Call cons nil" => ((k_here; k_dflt (refine For_from ?_))))
  trivial
theorem pool_pos (k : Int) {c : Prop} [Decidable c] : 0 ≤ (if -1 - k > k then -1 - k else k) * (if decide c = true then 1 else 0) := by
  have h : 0 ≤ (if -1 - k > k then -1 - k else k) := by split <;> omega
  exact Int.mul_nonneg h (by split <;> decide)
theorem pool_c {w : World} {p : Program} {loose : List Str} {mean : ExcName → Option Value} {mg mb : Str → Option Value} {dp un : Nat} {gd : Option (List Code)} {cn : Str} {cs : Scope} {a : Addr} {ccd : Value} {cl : List (Str × Addr)} {outer : List Env} {A₀ : Around} {base h₀ : Heap} {L : Addr} {m : Str → Option Value} {news : List (Addr × Obj)} {s : Shared} {Q E : Value → Shared → Prop}
    {l : Addr} {vs : List Value} {ns : List Int} {t0 : Tok}
    (B : Below A₀ base outer h₀) (F : Fr h₀ L s.heap m) (X : (hd.heap_1 w.params).In h₀) (N : News h₀ L s.heap news) (T : Top p loose mean mg mb h₀) (hk : cs.kind = .function) (hl : base.IsList l vs.toArray) (hI : IntsAre vs ns) (hz : ns.length ≤ 63) (hdp : dp < 600) (hun : un < 2000)
    (ret : ∀ r x y tx ty h' tk', 0 ≤ x → (∀ q ∈ news, q.1 < r) → Fr h₀ L h' m → News h₀ L h' ((r, W.listOf #[.int x tx, .int y ty] 0) :: news) → Q (.ref r) { s with heap := h', toks := tk' }) :
    wpAny (model PySem.Challenge.rw_pf0401_01.row.prog w) (ktrTop dp un gd cn cs L a ccd cl outer) (call (.ref 493) [.ref l, .int 0 t0]) Q E s := by
  refine wpAny_call ?_
  k_dflt cell_enter
  k_steps
  · exact ret _ _ _ _ _ _ _ (pool_pos _) (by assumption) (by assumption) (by assumption)
  · exact ret _ _ _ _ _ _ _ (pool_pos _) (by assumption) (by assumption) (by assumption)
example : True := by
  w_top off
  trivial
theorem sub_l1 {a b c d : Addr × Obj} : ∀ q ∈ [d, a, b, c], q ∈ [a, b, c, d] := by walk_at "my perm"
theorem sub_l2 {a b c d : Addr × Obj} : ∀ q ∈ [a, c, d, b], q ∈ [d, a, b, c] := by walk_at "my perm"
theorem sub_l3 {a b c d : Addr × Obj} : ∀ q ∈ [a, d, b, c], q ∈ [a, b, c, d] := by walk_at "my perm"
theorem ne_three {a b c : Addr × Obj} {d : Addr} (h1 : @Ne Nat a.1 d) (h2 : @Ne Nat b.1 d) (h3 : @Ne Nat c.1 d) : ∀ q ∈ [a, b, c], q.1 ≠ d :=
  List.forall_mem_cons.mpr ⟨h1, List.forall_mem_cons.mpr ⟨h2, List.forall_mem_cons.mpr ⟨h3, List.forall_mem_nil _⟩⟩⟩
theorem ne_two {a b : Addr × Obj} {d : Addr} (h1 : @Ne Nat a.1 d) (h2 : @Ne Nat b.1 d) : ∀ q ∈ [a, b], q.1 ≠ d :=
  List.forall_mem_cons.mpr ⟨h1, List.forall_mem_cons.mpr ⟨h2, List.forall_mem_nil _⟩⟩
example : True := by
  (k_with "call ref" => ((k_here; refine call_stop 493 ?_)))
  (k_with "call ref" => ((k_here; refine call_stop 521 ?_)))
  (k_with "call ref" => ((k_here; refine call_stop 528 ?_)))
  (k_with "call ref" => ((k_here; refine call_stop 535 ?_)))
  (k_with "call ref" => ((k_here; refine call_stop 540 ?_)))
  (k_with "call ref" => ((k_here; refine call_stop 547 ?_)))
  trivial
theorem law_all : PySem.Challenge.rw_pf0401_01.Holds := by
  refine hd ?_
  k_go0
  all_goals
    k_steps
    unfold CallAt
    rename IntsAre _ _ => hI0
    with_unfolding_all refine pool_c (by assumption) (by assumption) (by assumption) (by assumption) (by assumption) (by first | assumption | exact rfl) (by assumption) hI0 (by omega) (by decide) (by decide) ?_
    intro src x y tx ty h1 tk1 hx l1 F1 N1
    replace l1 := allLt_of l1
    simp only [AllLt] at l1
    k_steps
    unfold CallAt
    rename News _ _ _ _ => N5
    with_unfolding_all refine parts_c (by assumption) (by assumption) (by assumption) (sub_news N5 sub_l1) (by assumption) (by assumption) (by assumption) (by assumption) (by first | assumption | exact rfl) (by omega) (ne_three (Nat.ne_of_gt l1.2.2.1) (by decide) (by decide)) (by decide) (by decide) ?_
    intro ps2 h2 tk2 F2 N2
    k_steps
    unfold CallAt
    rename News _ _ _ _ => N6
    with_unfolding_all refine ways_c (by assumption) (by assumption) (by assumption) (sub_news N6 sub_l2) (ne_three (Nat.ne_of_lt l1.2.1) (Nat.ne_of_lt l1.2.2.1) (Nat.ne_of_lt l1.1)) (by assumption) (by first | assumption | exact rfl) (by decide) (by decide) (by assumption) ?_
    intro x3 y3 tx3 ty3 h3 tk3 F3 N3 hx3
    k_steps
    unfold CallAt
    with_unfolding_all refine numbers_c (by assumption) (by assumption) (by assumption) N3 (by assumption) (by assumption) (by assumption) (by assumption) (by first | assumption | exact rfl) (ne_three (Nat.ne_of_lt l1.2.1) (Nat.ne_of_lt l1.2.2.1) (Nat.ne_of_lt l1.1)) (ne_two (show (516 : Nat) ≠ 530 by decide) (show (537 : Nat) ≠ 530 by decide)) hx3 (by decide) (by decide) ?_
    intro ps4 x4 y4 tx4 ty4 h4 tk4 F4 N4 hx4
    k_steps
    unfold CallAt
    with_unfolding_all refine about_right_c (by assumption) (by assumption) (by assumption) (sub_news N4 sub_l3) (by assumption) (by assumption) (by assumption) (by assumption) (by first | assumption | exact rfl) (ne_three (Nat.ne_of_lt l1.1) (Nat.ne_of_lt l1.2.1) (Nat.ne_of_lt l1.2.2.1)) (ne_two (show (530 : Nat) ≠ 537 by decide) (show (516 : Nat) ≠ 537 by decide)) hx4 (by decide) (by decide) ?_
    intro ps5 x5 y5 tx5 ty5 h5 tk5 F5 N5 hx5
    k_steps
    unfold CallAt
    with_unfolding_all refine heads_c (by assumption) (by assumption) (by assumption) N5 (ne_three (Nat.ne_of_lt l1.1) (Nat.ne_of_lt l1.2.1) (Nat.ne_of_lt l1.2.2.1)) (by assumption) (by first | assumption | exact rfl) (by decide) (by decide) hx5 ?_
    intro x6 y6 tx6 ty6 h6 tk6 F6 N6 hx6
    k_steps
example : True := by
  w_top off
  trivial
end Mine
theorem PySem.Challenge.cw_pf0401_01_holds : PySem.Challenge.rw_pf0401_01.Holds :=
  Mine.law_all
