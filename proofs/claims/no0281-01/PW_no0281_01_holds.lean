import PyProof.Rows.All
import Wide.All
import OpenK.AllK
import Wide.FinOn
import PySem.Challenge.RW_no0281_01
set_option Elab.async false
set_option maxRecDepth 100000
set_option maxHeartbeats 8000000
set_option linter.unusedVariables false
set_option linter.unusedSectionVars false
set_option linter.unusedSimpArgs false
set_option genSizeOf false
set_option bootstrap.genMatcherCode false
set_option compiler.extract_closed false
set_option tactic.hygienic false
open Option.some renaming inj->aJn,injEq->aLh
open Nat renaming sub_add_cancel->aJo,le_antisymm->aJq,le_refl->aJr,le_trans->aJw,lt_succ_self->aKa,zero_le->aKk,lt_of_le_of_lt->aKl,lt_of_lt_of_le->aKx,le_of_lt->aKz,lt_trans->aLd,lt_irrefl->aLe,min_eq_left->aLj,not_lt_of_le->aLl,succ_le_succ->aLm,eq_of_beq_eq_true->aLr,lt_of_not_le->aLx,le_of_not_lt->aLy,le_add_right->aMa,add_le_add_right->aMh,min_eq_right->aMm,sub_lt_sub_left->aMo,ne_of_lt->aMu,le_of_ble_eq_true->aMx,mul_le_mul_right->aNd,not_lt_zero->aNe,add_le_add_left->aNf,le_total->aNl,lt_succ_of_lt->aNr,not_le_of_lt->aOb,le_of_eq->aOe,beq->aOg,ne_of_gt->aOh,add_le_of_le_sub'->aOq,lt_or_ge->aPc,cast->aPe,succ_mul->aPg
open List renaming length_cons->aJs,length_append->aJt,length_singleton->aJu,size_toArray->aJv,drop_eq_nil_of_le->aJz,takeWhile_cons->aKb,drop_zero->aKe,mem_cons->aKf,length_drop->aKi,dropWhile_cons->aKj,mem_singleton->aKm,getElem?_eq_getElem->aKo,all_eq_true->aKp,drop_eq_getElem_cons->aKq,take_of_length_le->aKr,map_append->aKt,length_eq_zero_iff->aKu,length_map->aKw,contains_cons->aKy,tail_cons->aLa,sum_append->aLb,map_cons->aLf,mem_append->aLi,cons_append->aLo,drop_sublist->aLu,mem_of_getElem?->aLv,countP_cons->aMb,getElem?_cons_succ->aMc,nil_append->aMd,getElem?_eq_none->aMe,drop_drop->aMi,mem_map->aMl,drop_length->aMn,drop_succ_cons->aMp,getElem?_map->aMv,take_append_drop->aMy,length_tail->aMz,suffix_refl->aNa,sum_cons->aNb,mem_map_of_mem->aNg,getElem?_append_right->aNm,getElem?_eq_some_iff->aNn,getElem?_append_left->aNp,take_sublist->aNq,drop_one->aNt,map_fst_zip->aNu,length_take->aNw,suffix_cons->aNz,tail_suffix->aOa,map_map->aOf,length_take_of_le->aOi,sublist_cons_self->aOk,nodup_cons->aOm,of_mem_zip->aOn,eq_nil_or_concat->aOo,concat_eq_append->aOp,dropWhile_suffix->aOr,mem_append_left->aOt,getLast?_concat->aOu,map_take->aOw,map_drop->aOx,range->aOy,zip->aPb,getD->aPh
open Bool renaming false_ne_true->aJx,false_eq_true->aKg,or_eq_true_iff->aKn,and_eq_true_iff->aKv,and_eq_true->aLc,toNat_true->aLs,or_eq_false_iff->aLt,eq_iff_iff->aMr,or_true->aNk,toNat_le->aNs,toNat_false->aNy,and_false->aOv
open Int renaming toNat_of_nonneg->aJy,not_lt->aKd,le_antisymm->aKs,le_of_lt_add_one->aLg,add_zero->aLk,not_le->aLp,natCast_nonneg->aLq,ofNat_lt->aMk,zero_add->aMt,ofNat_le->aNh,le_of_eq->aNi,eq_ofNat_of_zero_le->aNx,mul_zero->aOc,zero_mul->aOd,le_trans->aOj,neg_one_mul->aOl,mul_add->aOs,lt_toNat->aPa,ne_of_lt->aPd,ne_of_gt->aPf
open Option renaming map_eq_some_iff->aKc,bind_some->aKh,getD_some->aLn,map_map->aMj,bind_eq_some_iff->aMs,map_eq_none_iff->aMw,getD_none->aNv
open Array renaming length_toList->aLw,getElem?_toList->aMf,getElem?_eq_some_iff->aMg,toList_append->aMq,mem_toList_iff->aNc,getElem?_eq_getElem->aNo,getD->aOz
open Prod renaming fst->aLz
open Nat.succ renaming inj->aNj
section
set_option genInjectivity false
namespace Mine
set_option genCtorIdx false in
inductive LX where
 | v (i : Nat) | n (k : Nat) | a (x y : LX) | m (k : Nat) (x : LX) | r (x : LX) (k : Nat) | s (x : LX)
set_option genCtorIdx false in
inductive IX where
 | v (i : Nat) | n (k : Nat) | a (x y : IX) | b (x y : IX) | m (k : Nat) (x : IX) | g (x : IX) | c (x : LX)
set_option genCtorIdx false in
inductive CL where
 | o | c (x : Nat) (t : CL)
set_option genCtorIdx false in
inductive DL where
 | o | c (x : Int) (t : DL)
@[reducible] noncomputable def CL.at : CL -> Nat -> Nat
 | .o,_ => 0
 | .c x _,0 => x
 | .c _ t,i + 1 => t.at i
@[reducible] noncomputable def DL.at : DL -> Nat -> Int
 | .o,_ => 0
 | .c x _,0 => x
 | .c _ t,i + 1 => t.at i
@[reducible] noncomputable def LX.den (c : CL) : LX -> Nat
 | .v i => c.at i
 | .n k => k
 | .a x y => x.den c + y.den c
 | .m k x => k * x.den c
 | .r x k => x.den c * k
 | .s x => Nat.succ (x.den c)
@[reducible] noncomputable def IX.den (c : CL) (d : DL) : IX -> Int
 | .v i => d.at i
 | .n k => (k : Int)
 | .a x y => x.den c d + y.den c d
 | .b x y => x.den c d - y.den c d
 | .m k x => (k : Int) * x.den c d
 | .g x => - x.den c d
 | .c x => (x.den c : Int)
structure LF where
 k : Int
 p : List Int
 q : List Int
noncomputable def Mv : List Int -> List Int -> List Int
 | [],y => y
 | a :: x,[] => a :: x
 | a :: x,b :: y => (a + b) :: Mv x y
noncomputable def Pn (k : Int) : List Int -> List Int
 | [] => []
 | a :: x => (k * a) :: Pn k x
noncomputable def Aj : Nat -> List Int
 | 0 => [1]
 | i + 1 => 0 :: Aj i
noncomputable def LF.add (x y : LF) : LF := ⟨x.k + y.k,Mv x.p y.p,Mv x.q y.q⟩
noncomputable def LF.mul (k : Int) (x : LF) : LF := ⟨k * x.k,Pn k x.p,Pn k x.q⟩
noncomputable def LX.norm : LX -> LF
 | .v i => ⟨0,Aj i,[]⟩
 | .n k => ⟨k,[],[]⟩
 | .a x y => x.norm.add y.norm
 | .m k x => x.norm.mul k
 | .r x k => x.norm.mul k
 | .s x => x.norm.add ⟨1,[],[]⟩
noncomputable def IX.norm : IX -> LF
 | .v i => ⟨0,[],Aj i⟩
 | .n k => ⟨k,[],[]⟩
 | .a x y => x.norm.add y.norm
 | .b x y => x.norm.add (y.norm.mul (-1))
 | .m k x => x.norm.mul k
 | .g x => x.norm.mul (-1)
 | .c x => x.norm
noncomputable def qX : List Int -> CL -> Int
 | a :: x,.c b t => a * (b : Int) + qX x t
 | _,_ => 0
noncomputable def qI : List Int -> DL -> Int
 | a :: x,.c b t => a * b + qI x t
 | _,_ => 0
noncomputable def LF.val (c : CL) (d : DL) (x : LF) : Int := x.k + qX x.p c + qI x.q d
theorem a4 (a b c d : Int) : a + b + (c + d) = a + c + (b + d) := by omega
theorem Qd : ∀ (x y : List Int) (c : CL),qX (Mv x y) c = qX x c + qX y c
 | [],y,c => (aMt _).symm
 | a :: x,[],c => (aLk _).symm
 | a :: x,b :: y,.o => rfl
 | a :: x,b :: y,.c u t => by
  show (a + b) * (u : Int) + qX (Mv x y) t = a * (u : Int) + qX x t + (b * (u : Int) + qX y t);rw [Qd x y t,Int.add_mul]; exact a4 _ _ _ _
theorem Qe : ∀ (x y : List Int) (c : DL),qI (Mv x y) c = qI x c + qI y c
 | [],y,c => (aMt _).symm
 | a :: x,[],c => (aLk _).symm
 | a :: x,b :: y,.o => rfl
 | a :: x,b :: y,.c u t => by
  show (a + b) * u + qI (Mv x y) t = a * u + qI x t + (b * u + qI y t);rw [Qe x y t,Int.add_mul]; exact a4 _ _ _ _
theorem Qf (k : Int) : ∀ (x : List Int) (c : CL),qX (Pn k x) c = k * qX x c
 | [],c => (aOc k).symm
 | a :: x,.o => (aOc k).symm
 | a :: x,.c u t => by
  show k * a * (u : Int) + qX (Pn k x) t = k * (a * (u : Int) + qX x t);rw [Qf k x t,aOs,Int.mul_assoc]
theorem Qg (k : Int) : ∀ (x : List Int) (c : DL),qI (Pn k x) c = k * qI x c
 | [],c => (aOc k).symm
 | a :: x,.o => (aOc k).symm
 | a :: x,.c u t => by
  show k * a * u + qI (Pn k x) t = k * (a * u + qI x t);rw [Qg k x t,aOs,Int.mul_assoc]
theorem Kr : ∀ (i : Nat) (c : CL),qX (Aj i) c = (c.at i : Int)
 | 0,.o => rfl
 | 0,.c u t => (aLk _).trans (Int.one_mul _)
 | _ + 1,.o => rfl
 | i + 1,.c u t => by
  show 0 * (u : Int) + qX (Aj i) t = (t.at i : Int);rw [Kr i t,aOd,aMt]
theorem Ks : ∀ (i : Nat) (c : DL),qI (Aj i) c = c.at i
 | 0,.o => rfl
 | 0,.c u t => (aLk _).trans (Int.one_mul _)
 | _ + 1,.o => rfl
 | i + 1,.c u t => by
  show 0 * u + qI (Aj i) t = t.at i;rw [Ks i t,aOd,aMt]
section
variable {c : CL} {d : DL}
theorem LF.val_add (x y : LF) : (x.add y).val c d = x.val c d + y.val c d := by
 show x.k + y.k + qX (Mv x.p y.p) c + qI (Mv x.q y.q) d = x.k + qX x.p c + qI x.q d + (y.k + qX y.p c + qI y.q d);rw [Qd,Qe,a4 x.k,a4]
theorem LF.val_mul (k : Int) (x : LF) : (x.mul k).val c d = k * x.val c d := by
 show k * x.k + qX (Pn k x.p) c + qI (Pn k x.q) d = k * (x.k + qX x.p c + qI x.q d);rw [Qf,Qg,aOs,aOs]
theorem Ku (k : Int) : LF.val c d ⟨k,[],[]⟩ = k := (aLk _).trans (aLk _)
theorem LX.bG : ∀ e : LX,(e.den c : Int) = e.norm.val c d
 | .v i => by
  show (c.at i : Int) = 0 + qX (Aj i) c + 0;rw [Kr,aMt,aLk]
 | .n k => (Ku k).symm
 | .a x y => (Int.natCast_add _ _).trans ((congr (congrArg HAdd.hAdd x.bG) y.bG).trans (LF.val_add _ _).symm)
 | .m k x => (Int.natCast_mul _ _).trans ((congrArg (HMul.hMul (k : Int)) x.bG).trans (LF.val_mul _ _).symm)
 | .r x k => (Int.natCast_mul _ _).trans ((Int.mul_comm _ _).trans ((congrArg (HMul.hMul (k : Int)) x.bG).trans (LF.val_mul _ _).symm))
 | .s x => (Int.natCast_add (x.den c) 1).trans ((congr (congrArg HAdd.hAdd x.bG) (Ku 1).symm).trans (LF.val_add _ _).symm)
theorem IX.bG : ∀ e : IX,e.den c d = e.norm.val c d
 | .v i => by
  show d.at i = 0 + 0 + qI (Aj i) d;rw [Ks,aLk,aMt]
 | .n k => (Ku k).symm
 | .a x y => (congr (congrArg HAdd.hAdd x.bG) y.bG).trans (LF.val_add _ _).symm
 | .b x y => by
  show x.den c d - y.den c d = (x.norm.add (y.norm.mul (-1))).val c d;rw [LF.val_add,LF.val_mul,x.bG,y.bG,aOl]; exact Int.sub_eq_add_neg
 | .m k x => (congrArg (HMul.hMul (k : Int)) x.bG).trans (LF.val_mul _ _).symm
 | .g x => by
  show - x.den c d = (x.norm.mul (-1)).val c d;rw [LF.val_mul,x.bG]; exact (aOl _).symm
 | .c x => x.bG
end
set_option genCtorIdx false in
inductive Ro where
 | le (l r : LX) | lt (l r : LX) | eq (l r : LX) | qe (l r : LX) | ile (l r : IX) | ilt (l r : IX) | ieq (l r : IX) | iqe (l r : IX) | f
@[reducible] noncomputable def Ro.den (c : CL) (d : DL) : Ro -> Prop
 | .le l r => l.den c <= r.den c
 | .lt l r => l.den c < r.den c
 | .eq l r | .qe l r => l.den c = r.den c
 | .ile l r => l.den c d <= r.den c d
 | .ilt l r => l.den c d < r.den c d
 | .ieq l r | .iqe l r => l.den c d = r.den c d
 | .f => False
noncomputable def sb (x y : LF) (k : Int) : LF := (x.add (y.mul (-1))).add ⟨k,[],[]⟩
noncomputable def Ro.lf : Ro -> LF
 | .le l r => sb r.norm l.norm 0
 | .lt l r => sb r.norm l.norm (-1)
 | .eq l r => sb r.norm l.norm 0
 | .qe l r => sb l.norm r.norm 0
 | .ile l r => sb r.norm l.norm 0
 | .ilt l r => sb r.norm l.norm (-1)
 | .ieq l r => sb r.norm l.norm 0
 | .iqe l r => sb l.norm r.norm 0
 | .f => ⟨-1,[],[]⟩
noncomputable def Ro.ng : Ro -> LF
 | .le l r => sb l.norm r.norm (-1)
 | .lt l r => sb l.norm r.norm 0
 | .ile l r => sb l.norm r.norm (-1)
 | .ilt l r => sb l.norm r.norm 0
 | _ => ⟨0,[],[]⟩
theorem pC {c : CL} {d : DL} (x y : LF) (k : Int) : (sb x y k).val c d = x.val c d - y.val c d + k := by
 show ((x.add (y.mul (-1))).add ⟨k,[],[]⟩).val c d = _;rw [LF.val_add,LF.val_add,LF.val_mul,Ku,aOl,Int.sub_eq_add_neg]
theorem W8 {a b : Int} (h : a <= b) : 0 <= b - a + 0 := by omega
theorem zlt {a b : Int} (h : a < b) : 0 <= b - a + -1 := by omega
theorem Ro.aAl {c : CL} {d : DL} : ∀ r : Ro,r.den c d -> 0 <= r.lf.val c d
 | .le l r,h => by
  refine (?_ : 0 <= (sb _ _ _).val c d); rw [pC, <- l.bG, <- r.bG]; exact W8 (aNh.mpr h)
 | .lt l r,h => by
  refine (?_ : 0 <= (sb _ _ _).val c d); rw [pC, <- l.bG, <- r.bG]; exact zlt (aMk.mpr h)
 | .eq l r,h => by
  refine (?_ : 0 <= (sb _ _ _).val c d); rw [pC, <- l.bG, <- r.bG]; exact W8 (aNh.mpr (aOe h))
 | .qe l r,h => by
  refine (?_ : 0 <= (sb _ _ _).val c d); rw [pC, <- l.bG, <- r.bG]; exact W8 (aNh.mpr (aOe (Eq.symm h)))
 | .ile l r,h => by
  refine (?_ : 0 <= (sb _ _ _).val c d); rw [pC, <- l.bG, <- r.bG]; exact W8 h
 | .ilt l r,h => by
  refine (?_ : 0 <= (sb _ _ _).val c d); rw [pC, <- l.bG, <- r.bG]; exact zlt h
 | .ieq l r,h => by
  refine (?_ : 0 <= (sb _ _ _).val c d); rw [pC, <- l.bG, <- r.bG]; exact W8 (aNi h)
 | .iqe l r,h => by
  refine (?_ : 0 <= (sb _ _ _).val c d); rw [pC, <- l.bG, <- r.bG]; exact W8 (aNi (Eq.symm h))
 | .f,h => h.elim
theorem Ro.aAm {c : CL} {d : DL} : ∀ r : Ro, ¬ r.den c d -> 0 <= r.ng.val c d
 | .le l r,h => by
  refine (?_ : 0 <= (sb _ _ _).val c d); rw [pC, <- l.bG, <- r.bG]; exact zlt (aMk.mpr (aLx h))
 | .lt l r,h => by
  refine (?_ : 0 <= (sb _ _ _).val c d); rw [pC, <- l.bG, <- r.bG]; exact W8 (aNh.mpr (aLy h))
 | .ile l r,h => by
  refine (?_ : 0 <= (sb _ _ _).val c d); rw [pC, <- l.bG, <- r.bG]; exact zlt (aLp.mp h)
 | .ilt l r,h => by
  refine (?_ : 0 <= (sb _ _ _).val c d); rw [pC, <- l.bG, <- r.bG]; exact W8 (aKd.mp h)
 | .eq ..,_ | .qe ..,_ | .ieq ..,_ | .iqe ..,_ | .f,_ => aNi (Ku 0).symm
set_option genCtorIdx false in
inductive HL where
 | h (k : Nat) (r : Ro) (t : HL) | g (k : Nat) (r : Ro)
@[reducible] noncomputable def HL.den (c : CL) (d : DL) : HL -> Prop
 | .h _ r t => r.den c d -> t.den c d
 | .g _ r => r.den c d
noncomputable def gk : List Int -> Bool
 | [] => true
 | a :: x => decide (a <= 0) && gk x
noncomputable def eq0 : List Int -> Bool
 | [] => true
 | a :: x => decide (a = 0) && eq0 x
noncomputable def LF.bad (x : LF) : Bool := decide (x.k < 0) && gk x.p && eq0 x.q
noncomputable def HL.JB : HL -> LF -> Bool
 | .h k r t,x => t.JB (x.add (r.lf.mul k))
 | .g k r,x => (x.add (r.ng.mul k)).bad
theorem Wz : ∀ (x : List Int) (c : CL),gk x = true -> qX x c <= 0
 | [],_,_ => Int.le_refl 0
 | _ :: _,.o,_ => Int.le_refl 0
 | a :: x,.c u t,h => by
  obtain ⟨h1,h2⟩ := aKv.mp h;have q := Int.mul_le_mul_of_nonneg_right (of_decide_eq_true h1) (aLq u);rw [aOd] at q;exact Int.add_le_add q (Wz x t h2)
theorem JH : ∀ (x : List Int) (c : DL),eq0 x = true -> qI x c = 0
 | [],_,_ => rfl
 | _ :: _,.o,_ => rfl
 | a :: x,.c u t,h => by
  obtain ⟨h1,h2⟩ := aKv.mp h;show a * u + qI x t = 0;rw [JH x t h2,of_decide_eq_true h1,aOd]; rfl
theorem JK {c : CL} {d : DL} : ∀ (hs : HL) (x : LF),0 <= x.val c d -> hs.JB x = true -> hs.den c d
 | .h k r t,x,hx,e => fun q => JK t _ (by
   rw [LF.val_add,LF.val_mul];exact Int.add_nonneg hx (Int.mul_nonneg (aLq k) (r.aAl q))) e
 | .g k r,x,hx,e => Classical.byContradiction fun n => by
   have h1 : 0 <= (x.add (r.ng.mul k)).val c d := by
    rw [LF.val_add,LF.val_mul];exact Int.add_nonneg hx (Int.mul_nonneg (aLq k) (r.aAm n))
   obtain ⟨e,e3⟩ := aKv.mp (show (_ && _) = true from e);obtain ⟨e1,e2⟩ := aKv.mp e;have h2 := Wz _ c e2;have h3 := JH _ d e3;have h4 := of_decide_eq_true e1;have h1 : 0 <= (x.add (r.ng.mul k)).k + qX (x.add (r.ng.mul k)).p c + qI (x.add (r.ng.mul k)).q d := h1;rw [h3,aLk] at h1;exact aLp.mpr (Int.add_lt_add_of_lt_of_le h4 h2) h1
theorem aO {c : CL} {d : DL} (hs : HL) (e : hs.JB ⟨0,[],[]⟩ = true) : hs.den c d := JK hs _ (aNi (Ku 0).symm) e
noncomputable abbrev m8 (a : Nat) : CL := .c a .o
noncomputable abbrev Yx (a b : Nat) : CL := .c a (m8 b)
noncomputable abbrev Uc3 (a b c : Nat) : CL := .c a (Yx b c)
noncomputable abbrev Uc4 (a b c d : Nat) : CL := .c a (Uc3 b c d)
noncomputable abbrev Uc5 (a b c d e : Nat) : CL := .c a (Uc4 b c d e)
noncomputable abbrev Uc6 (a b c d e f : Nat) : CL := .c a (Uc5 b c d e f)
noncomputable abbrev Uc7 (a b c d e f g : Nat) : CL := .c a (Uc6 b c d e f g)
noncomputable abbrev Uc8 (a b c d e f g h : Nat) : CL := .c a (Uc7 b c d e f g h)
noncomputable abbrev Uc9 (a b c d e f g h i : Nat) : CL := .c a (Uc8 b c d e f g h i)
noncomputable abbrev qY (a : Int) : DL := .c a .o
noncomputable abbrev j7 (a b : Int) : DL := .c a (qY b)
noncomputable abbrev Ud3 (a b c : Int) : DL := .c a (j7 b c)
noncomputable abbrev U0 : LX := .v 0
noncomputable abbrev U1 : LX := .v 1
noncomputable abbrev U2 : LX := .v 2
noncomputable abbrev U3 : LX := .v 3
noncomputable abbrev U4 : LX := .v 4
noncomputable abbrev U5 : LX := .v 5
noncomputable abbrev U6 : LX := .v 6
noncomputable abbrev U7 : LX := .v 7
noncomputable abbrev U8 : LX := .v 8
noncomputable abbrev Un (k : Nat) : LX := .n k
noncomputable abbrev Uv (k : Nat) : LX := .v k
noncomputable abbrev Up (i k : Nat) : LX := .a (.v i) (.n k)
noncomputable abbrev UH (r : Ro) (t : HL) : HL := .h 1 r t
noncomputable abbrev UG (r : Ro) : HL := .g 1 r
noncomputable abbrev Ul := Ro.le
noncomputable abbrev Ut := Ro.lt
noncomputable abbrev Ue := Ro.eq
noncomputable abbrev Uq := Ro.qe
noncomputable abbrev UL := Ro.ile
noncomputable abbrev UT := Ro.ilt
noncomputable abbrev UE := Ro.ieq
noncomputable abbrev UQ := Ro.iqe
noncomputable abbrev UD := HL.den
noncomputable abbrev mG (a : Nat) : HL -> Prop := HL.den (m8 a) .o
noncomputable abbrev iC (a b : Nat) : HL -> Prop := HL.den (Yx a b) .o
noncomputable abbrev lV (a b c : Nat) : HL -> Prop := HL.den (Uc3 a b c) .o
noncomputable abbrev wA (a b c d : Nat) : HL -> Prop := HL.den (Uc4 a b c d) .o
noncomputable abbrev Yy (a b c d e : Nat) : HL -> Prop := HL.den (Uc5 a b c d e) .o
noncomputable abbrev UN6 (a b c d e f : Nat) : HL -> Prop := HL.den (Uc6 a b c d e f) .o
noncomputable abbrev UN7 (a b c d e f g : Nat) : HL -> Prop := HL.den (Uc7 a b c d e f g) .o
noncomputable abbrev UN8 (a b c d e f g h : Nat) : HL -> Prop := HL.den (Uc8 a b c d e f g h) .o
noncomputable abbrev UN9 (a b c d e f g h i : Nat) : HL -> Prop := HL.den (Uc9 a b c d e f g h i) .o
theorem eU {a : Nat} (X : HL) (Y : X.JB ⟨0,[],[]⟩ = true) : mG a X := aO X Y
theorem iR {a b : Nat} (X : HL) (Y : X.JB ⟨0,[],[]⟩ = true) : iC a b X := aO X Y
theorem gP {a b c : Nat} (X : HL) (Y : X.JB ⟨0,[],[]⟩ = true) : lV a b c X := aO X Y
theorem jX {a b c d : Nat} (X : HL) (Y : X.JB ⟨0,[],[]⟩ = true) : wA a b c d X := aO X Y
theorem tC {a b c d e : Nat} (X : HL) (Y : X.JB ⟨0,[],[]⟩ = true) : Yy a b c d e X := aO X Y
theorem Jt {a b c d e f : Nat} (X : HL) (Y : X.JB ⟨0,[],[]⟩ = true) : UN6 a b c d e f X := aO X Y
theorem UM7 {a b c d e f g : Nat} (X : HL) (Y : X.JB ⟨0,[],[]⟩ = true) : UN7 a b c d e f g X := aO X Y
theorem UM8 {a b c d e f g h : Nat} (X : HL) (Y : X.JB ⟨0,[],[]⟩ = true) : UN8 a b c d e f g h X := aO X Y
theorem UM9 {a b c d e f g h i : Nat} (X : HL) (Y : X.JB ⟨0,[],[]⟩ = true) : UN9 a b c d e f g h i X := aO X Y
theorem gY {a b : Nat} : a <= a - b + b := Nat.sub_le_iff_le_add.mp (aJr _)
theorem W9 {a b : Nat} : a - b <= a := Nat.sub_le _ _
theorem X3 {a : Int} : a <= (a.toNat : Int) := Int.self_le_toNat a
theorem Jx : (20000000 : Nat) <= 2 ^ 62 := by decide
theorem xR : (20000000 : Int) <= 2 ^ 62 := by decide
theorem q63 : (20000000 : Int) <= 2 ^ 63 := by decide
theorem q6 : (2 ^ 62 : Int) + 20000000 <= 2 ^ 63 := by decide
theorem yX {d n : Int} {P : Prop} (h : n <= d) (k : n + 1 <= d -> P) : d = n \/ P := (Int.le_iff_eq_or_lt.mp h).elim (fun e => .inl e.symm) fun l => .inr (k l)
theorem aAn {d : Int} (h : 0 <= d) (e : d < 3) : d = 0 \/ d = 1 \/ d = 2 := yX h fun h => yX h fun h => aKs (aLg e) h
theorem gq {d : Int} (h : 0 <= d) (e : d < 4) : d = 0 \/ d = 1 \/ d = 2 \/ d = 3 := yX h fun h => yX h fun h => yX h fun h => aKs (aLg e) h
theorem aHp {d : Int} (h : 0 <= d) (e : d < 5) : d = 0 \/ d = 1 \/ d = 2 \/ d = 3 \/ d = 4 := yX h fun h => yX h fun h => yX h fun h => yX h fun h => aKs (aLg e) h
theorem aAo {d : Int} (h : 0 <= d) (e : d < 6) : d = 0 \/ d = 1 \/ d = 2 \/ d = 3 \/ d = 4 \/ d = 5 := yX h fun h => yX h fun h => yX h fun h => yX h fun h => yX h fun h => aKs (aLg e) h
theorem aHq {d : Int} (h : 0 <= d) (e : d < 8) : d = 0 \/ d = 1 \/ d = 2 \/ d = 3 \/ d = 4 \/ d = 5 \/ d = 6 \/ d = 7 := yX h fun h => yX h fun h => yX h fun h => yX h fun h => yX h fun h => yX h fun h => yX h fun h => aKs (aLg e) h
theorem JL {d : Int} (h : 0 <= d) (e : d < 12) : d = 0 \/ d = 1 \/ d = 2 \/ d = 3 \/ d = 4 \/ d = 5 \/ d = 6 \/ d = 7 \/ d = 8 \/ d = 9 \/ d = 10 \/ d = 11 := yX h fun h => yX h fun h => yX h fun h => yX h fun h => yX h fun h => yX h fun h => yX h fun h => yX h fun h => yX h fun h => yX h fun h => yX h fun h => aKs (aLg e) h
theorem aK {α : Type} {x : α} {P : Prop} (h : none = some x) : P := nomatch h
theorem tD {α : Type} {x : α} {P : Prop} (h : some x = none) : P := nomatch h
theorem aZ {α β : Type} {a c : α} {b d : β} (h : some (a,b) = some (c,d)) : a = c /\ b = d := ⟨congrArg aLz (aJn h),congrArg Prod.snd (aJn h)⟩
structure Py (a b c : Prop) : Prop where (h1 : a) (h2 : b) (h3 : c)
structure An4 (a b c d : Prop) : Prop where (h1 : a) (h2 : b) (h3 : c) (h4 : d)
inductive Ex2 {α β : Type} (p : α -> β -> Prop) : Prop | mk (a : α) (b : β) (h : p a b)
inductive Ex3 {α β γ : Type} (p : α -> β -> γ -> Prop) : Prop | mk (a : α) (b : β) (c : γ) (h : p a b c)
theorem dk {p : Prop} [Decidable p] {g : p -> Bool} (h : (if h : p then g h else false) = true) : ∃ i,g i = true := by
 by_cases i : p
 ·exact ⟨i,(dif_pos i).symm.trans h⟩
 ·exact absurd ((dif_neg i).symm.trans h) aJx
theorem ak {a b : Bool} {P : Prop} (h : (a && b) = true) (k : a = true -> b = true -> P) : P := k (aKv.mp h).1 (aKv.mp h).2
@[elab_as_elim] theorem ek {α : Type} [DecidableEq α] {a : α} (b : α) {P : α -> Prop} (h : decide (a = b) = true) (k : P a) : P b := of_decide_eq_true h ▸ k
noncomputable def bn {α : Type} : List α -> Bool
 | [] => true
 | _ :: _ => false
@[elab_as_elim] theorem Fe {α : Type} {P : List α -> Prop} : ∀ l : List α,bn l = true -> P [] -> P l
 | [],_,k => k
 | _ :: _,h,_ => absurd h aJx
noncomputable def bc {α : Type} (l : List α) (f : α -> List α -> Bool) : Bool :=
 match l with
 | [] => false
 | x :: r => f x r
@[elab_as_elim] theorem mQ {α : Type} {P : List α -> Prop} : ∀ (l : List α) {f : α -> List α -> Bool},bc l f = true -> (∀ x r,f x r = true -> P (x :: r)) -> P l
 | [],_,h,_ => absurd h aJx
 | x :: r,_,h,k => k x r h
noncomputable def b1 {α : Type} (l : List α) (f : α -> Bool) : Bool := bc l fun x r => bn r && f x
@[elab_as_elim] theorem tE {α : Type} {P : List α -> Prop} (l : List α) {f : α -> Bool} (h : b1 l f = true) (k : ∀ x,f x = true -> P [x]) : P l := mQ l h fun x r h => ak h fun a b => Fe r a (k x b)
noncomputable def bs {α : Type} (l : Option α) (f : α -> Bool) : Bool :=
 match l with
 | none => false
 | some x => f x
@[elab_as_elim] theorem m9 {α : Type} {P : Option α -> Prop} : ∀ (l : Option α) {f : α -> Bool},bs l f = true -> (∀ x,f x = true -> P (some x)) -> P l
 | none,_,h,_ => absurd h aJx
 | some x,_,h,k => k x h
noncomputable def bz {α : Type} : Option α -> Bool
 | none => true
 | some _ => false
@[elab_as_elim] theorem o7 {α : Type} {P : Option α -> Prop} : ∀ l : Option α,bz l = true -> P none -> P l
 | none,_,k => k
 | some _,h,_ => absurd h aJx
end Mine
end
section
namespace Mine
section
variable {a b c d e f g h i j k : Nat} {az bz cz dz ez : Int}
theorem Z3:iC a b (UH (Uq U0 U1)<|UG (Ul U1 U0)):=aO _ rfl
theorem Z4:iC a b (UH (Ue (Up 0 1) U1)<|UG (Ul (Up 0 1) U1)):=aO _ rfl
theorem Z5:iC a b (UH (Ul U0 (Up 1 1))<|UG (Ul U0 (Up 1 1))):=aO _ rfl
theorem Z9:mG a (UG (Ul (Un 0) U0)):=aO _ rfl
theorem Z10:lV a b c (UH (Ul U0 U1)<|UH (Uq U0 U2)<|UG (Ul U2 U1)):=aO _ rfl
theorem Z11:wA a b c d (UH (Ul U0 U1)<|UH (Uq U0 U2)<|UH (Uq U2 U3)<|UG (Ul U3 U1)):=aO _ rfl
theorem Z12:wA a b c d (UH (Ue U0 U1)<|UH (Ue U1 U2)<|UH (Uq U3 U2)<|UG (Ul U0 U3)):=aO _ rfl
theorem Z13:wA a b c d (UH (Ue U0 U1)<|UH (Uq U2 U1)<|UH (Uq U3 U2)<|UG (Ul U0 U3)):=aO _ rfl
theorem Z14:lV a b c (UH (Ue U0 U1)<|UH (Ut U2 U0)<|UG (Ut U2 U1)):=aO _ rfl
theorem Z15:wA a b c d (UH (Ue U0 U1)<|UH (Ue U1 U2)<|UH (Ut U3 U0)<|UG (Ut U3 U2)):=aO _ rfl
theorem Z16:lV a b c (UH (Ue U0 U1)<|UH (Uq U0 U2)<|UG (Ul U2 U1)):=aO _ rfl
theorem Z17:lV a b c (UH (Ut U0 U1)<|UH (Uq U2 U1)<|UG (Ut U0 U2)):=aO _ rfl
theorem j8:iC a b (UH (Ut U0 U1)<|UG (Ul U0 U1)):=aO _ rfl
theorem vZ:iC a b (UH (Ut U0 U1)<|UG (Ul (Up 0 1) U1)):=aO _ rfl
theorem Z25:wA a b c d (UH (Ue (.a U0 (Up 1 1)) U2)<|UH (Ul U2 (.a U3 U1))<|UG (Ut U0 U3)):=aO _ rfl
theorem Z26:iC a b (UH (Ue U0 U1)<|UG (Ul U0 U1)):=aO _ rfl
theorem Z35:iC a b (UH (Ut (Up 0 1) U1)<|UG (Ut U0 U1)):=aO _ rfl
theorem Z36:iC a b (UH (Ut U0 U1)<|UG (Ut U0 (Up 1 1))):=aO _ rfl
theorem Z42:lV a b c (UH (Uq U0 (.a U1 U2))<|UG (Ul U1 U0)):=aO _ rfl
theorem Z43:wA a b c d (UH (Ue U0 U1)<|UH (Uq U2 (.a U1 U3))<|UG (Ul U0 U2)):=aO _ rfl
theorem Z44:wA a b c d (UH (Ue (.a U0 U1) U2)<|UH (Ue U2 (.a U1 U3))<|UG (Ul U0 U3)):=aO _ rfl
theorem Z45:wA a b c d (UH (Uq U0 (.a U1 U2))<|UH (Ul U0 (.a U3 U1))<|UG (Ul U2 U3)):=aO _ rfl
theorem Z46:wA a b c d (UH (Ue U0 U1)<|UH (Uq U2 (.a U1 U3))<|UG (Ul (.a U0 U3) U2)):=aO _ rfl
theorem Z47:wA a b c d (UH (Ue U0 (.a U1 U2))<|UH (Uq U3 U1)<|UG (Ul U0 (.a U3 U2))):=aO _ rfl
theorem Uo:mG a (UG (UL (.n 0) (.c U0))):=aO _ rfl
theorem JC:mG a (UH (Ul (Un 3) U0)<|UG (Ul (Un 1) U0)):=aO _ rfl
theorem Ga:iC a b (UH (Ul (Un 3) U0)<|UH (Uq (Up 1 1) U0)<|UG (Ul (Un 1) U1)):=aO _ rfl
theorem Xa:iC a b (UH (Ul (Un 3) U0)<|UH (Uq (Up 1 1) U0)<|UG (Ul (Un 2) U1)):=aO _ rfl
theorem Z60:iC a b (UH (UT (.c U0) (.c U1))<|UH (Ul U1 U0)<|HL.g 0 .f):=aO _ rfl
theorem gw:iC a b (UH (UL (.c U0) (.c U1))<|UG (Ul U0 U1)):=aO _ rfl
theorem j9:mG a (UH (Ul (Un 2) U0)<|UG (Ul (Un 1) U0)):=aO _ rfl
theorem Gk:iC a b (UH (Ul (Un 2) U0)<|UH (Uq (Up 1 1) U0)<|UG (Ul (Un 1) U1)):=aO _ rfl
theorem Z65:lV a b c (UH (Ul U0 (Un 0))<|UH (Ut U1 U0)<|HL.g 0 (Ut U2 U0)):=aO _ rfl
theorem Z69:iC a b (UH (Ul U0 U1)<|UG (Ul U0 U1)):=aO _ rfl
theorem Z70:iC a b (UH (Ul U0 U1)<|UG (Ut U0 (Up 1 1))):=aO _ rfl
theorem m6:mG a (UG (Ut U0 (Up 0 1))):=aO _ rfl
theorem Z72:lV a b c (UH (Ul U0 (.a U1 U2))<|UG (Ul U0 (.a U2 U1))):=aO _ rfl
theorem Z73:lV a b c (UH (Ue (.a U0 U1) U2)<|UG (Ul (.a U1 U0) U2)):=aO _ rfl
theorem Z74:wA a b c d (UH (Ul U0 U1)<|HL.h 10 (Ul U2 U3)<|UG (Ul (.a (.m 10 U2) U0) (.a (.m 10 U3) U1))):=aO _ rfl
theorem Kv:mG a (UG (Ul U0 (Up 0 1))):=aO _ rfl
theorem Z80:mG a (UG (Ul U0 U0)):=aO _ rfl
theorem Z84:mG a (UG (Ut (Un 0) (Up 0 1))):=aO _ rfl
theorem Z85:mG a (UH (UE (.b (.c U0) (.n 1)) (.n 0))<|UG (Ul U0 (Un 1))):=aO _ rfl
theorem Z86:mG a (UH (UQ (.b (.c U0) (.n 1)) (.n 0))<|UG (Ul (Un 1) U0)):=aO _ rfl
theorem Z87:iC a b (UH (Ul U0 (Up 1 1))<|UG (UL (.b (.c U0) (.n 1)) (.c U1))):=aO _ rfl
theorem Z88:mG a (UH (Ut (Un 0) U0)<|UG (Ul (Un 1) U0)):=aO _ rfl
theorem Z89:iC a b (UH (Ue (Up 0 1) U1)<|UG (UL (.c U0) (.b (.c U1) (.n 1)))):=aO _ rfl
theorem Z90:iC a b (UH (Ul (Up 0 1) U1)<|UG (Ul U0 U1)):=aO _ rfl
theorem Z91:lV a b c (UH (Ut U0 (.a (Up 1 1) U2))<|UG (Ut U0 (.a U1 (Up 2 1)))):=aO _ rfl
theorem Z92:iC a b (UG (Ut U0 (.a U0 (Up 1 1)))):=aO _ rfl
theorem Z93:mG a (UH (Ul (Un 4) U0)<|UG (Ul (Un 1) U0)):=aO _ rfl
theorem ig:iC a b (UH (Ul (Un 4) U0)<|UH (Uq (Up 1 1) U0)<|UG (Ul (Un 3) U1)):=aO _ rfl
theorem o8:iC a b (UH (Ul (Un 4) U0)<|UH (Uq (Up 1 1) U0)<|UG (Ul (Un 1) U1)):=aO _ rfl
theorem Z96:mG a (UG (Ul (Un 1) (Up 0 1))):=aO _ rfl
theorem Z97:mG a (UH (UE (.c U0) (.n 0))<|UG (Ul U0 (Un 0))):=aO _ rfl
theorem Z98:mG a (UH (Ul (Up 0 1) U0)<|HL.g 0 .f):=aO _ rfl
theorem Z99:iC a b (UH (Ul (Up 0 6) U1)<|UG (Ul (Un 1) U1)):=aO _ rfl
theorem JM:lV a b c (UH (Ul (Up 0 6) U1)<|UH (Uq (Up 2 1) U1)<|UG (Ul (Un 3) U2)):=aO _ rfl
theorem JN:lV a b c (UH (Ul (Up 0 6) U1)<|UH (Uq (Up 2 1) U1)<|UG (Ul (Un 1) U2)):=aO _ rfl
theorem aAp:Yy a b c d e (UH (Ue (.a U0 (Up 1 1)) U2)<|UH (Ul U3 U4)<|UH (Ul U2 (.a U3 U1))<|UG (Ut U0 U4)):=aO _ rfl
theorem Yz:iC a b (UH (Ut (Up 0 1) U1)<|UG (Ul (Up 0 1) U1)):=aO _ rfl
theorem iw:iC a b (UH (Ul (Up 0 7) U1)<|UG (Ul (Un 1) U1)):=aO _ rfl
theorem Za:lV a b c (UH (Ul (Up 0 7) U1)<|UH (Uq (Up 2 1) U1)<|UG (Ul (Un 3) U2)):=aO _ rfl
theorem aAq:iC a b (UH (Ut (Up 0 1) U1)<|UG (Ut U0 (Up 1 1))):=aO _ rfl
theorem iy:mG a (UG (Ut U0 (Up 0 2))):=aO _ rfl
theorem o9:iC a b (UH (Ut U0 U1)<|UG (Ul (Up 0 1) (Up 1 1))):=aO _ rfl
theorem aAr:lV a b c (UH (Ul (Up 0 7) U1)<|UH (Uq (Up 2 1) U1)<|UG (Ul (Un 1) U2)):=aO _ rfl
theorem s6:iC a b (UH (Ut (Up 0 1) U1)<|UG (Ul U0 U1)):=aO _ rfl
theorem aAs:Yy a b c d e (UH (Ue (.a U0 (Up 1 1)) U2)<|UH (Ul U3 U4)<|UH (Ul U2 (.a U3 U1))<|UG (Ul U0 U4)):=aO _ rfl
theorem aAt:wA a b c d (UH (Ul (Up 0 7) U1)<|UH (Ul U2 U0)<|UH (Uq (Up 3 1) U1)<|UG (Ul (Up 2 6) U3)):=aO _ rfl
theorem JQ:mG a (UG (Ul (Up 0 1) (Up 0 1))):=aO _ rfl
theorem iz:iC a b (UH (Ul (Up 0 8) U1)<|UG (Ul (Un 1) U1)):=aO _ rfl
theorem jc:lV a b c (UH (Ul (Up 0 8) U1)<|UH (Uq (Up 2 1) U1)<|UG (Ul (Un 1) U2)):=aO _ rfl
theorem jd:lV a b c (UH (Ul (Up 0 8) U1)<|UH (Uq (Up 2 1) U1)<|UG (Ul (Un 2) U2)):=aO _ rfl
theorem s7:lV a b c (UH (Ul (Up 0 8) U1)<|UH (Uq (Up 2 1) U1)<|UG (Ul (Up 0 7) U2)):=aO _ rfl
theorem s8:wA a b c d (UH (Ul (.a U0 U1) U2)<|UH (Ul (Un 9) U1)<|UH (Uq (Up 3 1) U2)<|UG (Ul (Un 1) U3)):=aO _ rfl
theorem aAu:UD .o (qY az) (UH (UL (.n 1) (.v 0))<|UH (UL (.v 0) (.n 0))<|HL.g 0 .f):=aO _ rfl
theorem aAv:wA a b c d (UH (Ul (.a U0 U1) U2)<|UH (Ul (Un 5) U1)<|UH (Uq (Up 3 1) U2)<|UG (Ul (Un 2) U3)):=aO _ rfl
theorem aAw:Yy a b c d e (UH (Ul (.a U0 U1) U2)<|UH (Ul U3 U0)<|UH (Uq (Up 4 1) U2)<|UG (Ul (.a U3 U1) (Up 4 1))):=aO _ rfl
theorem Jy:iC a b (UH (Ul U0 U1)<|UG (Ul U0 (Up 1 1))):=aO _ rfl
theorem u0:Yy a b c d e (UH (Ue (.a U0 U1) (Up 2 1))<|UH (Ut (Up 3 1) U1)<|UH (Ul (Up 2 1) (.a U4 U3))<|UG (Ut U0 U4)):=aO _ rfl
theorem aAx:lV a b c (UH (Ut (Up 0 1) U1)<|UH (Ut U2 U0)<|UG (Ut U2 U1)):=aO _ rfl
theorem aAy:UD .o .o (UG (Ul (.a (Un 9) (Un 1)) (Un 10))):=aO _ rfl
theorem aAz:UD .o .o (UG (Ul (Un 5) (Un 10))):=aO _ rfl
theorem je:UD .o .o (UG (Ul (Un 9) (Un 9))):=aO _ rfl
theorem Mw:UN6 a b c d e f (UH (Ue (.a U0 (Up 1 1)) U2)<|UH (Ul U3 U4)<|UH (Ut U5 U1)<|UH (Ul U2 (.a U3 U5))<|UG (Ul U0 U4)):=aO _ rfl
theorem aBa:lV a b c (UH (Ul (.a U0 (.a (Un 12) (Un 1))) (Up 1 1))<|UH (Ul U2 U0)<|UG (Ul (Up 2 10) U1)):=aO _ rfl
theorem aBb:lV a b c (UH (Ul (Up 0 14) (Up 1 1))<|UH (Ul U2 U0)<|UG (Ul (Up 2 10) U1)):=aO _ rfl
theorem Fg:mG a (UH (Ut U0 (Un 0))<|HL.g 0 .f):=aO _ rfl
theorem aBc:iC a b (UH (Ul (Up 0 15) U1)<|UG (Ul (Un 1) U1)):=aO _ rfl
theorem jf:iC a b (UH (Ut U0 (Up 1 1))<|UG (Ul U0 U1)):=aO _ rfl
theorem aBd:lV a b c (UH (Ul (Up 0 15) U1)<|UH (Uq (Up 2 1) U1)<|UG (Ul (Up 0 14) U2)):=aO _ rfl
theorem aBe:iC a b (UH (Ul (Up 0 16) U1)<|UG (Ul (Un 1) U1)):=aO _ rfl
theorem jg:lV a b c (UH (Ul (Up 0 16) U1)<|UH (Uq (Up 2 1) U1)<|UG (Ul (Un 1) U2)):=aO _ rfl
theorem aBf:iC a b (UH (Ut U0 U1)<|UG (Ul U0 (Up 1 1))):=aO _ rfl
theorem aBg:wA a b c d (UH (Ul (Up 0 16) U1)<|UH (Ul U2 U0)<|UH (Uq (Up 3 1) U1)<|UG (Ul (Up 2 15) U3)):=aO _ rfl
theorem aBh:iC a b (UH (Ul (Up 0 17) U1)<|UG (Ul (Un 1) U1)):=aO _ rfl
theorem u5:lV a b c (UH (Ul (Up 0 17) U1)<|UH (Uq (Up 2 1) U1)<|UG (Ul (Un 1) U2)):=aO _ rfl
theorem jh:lV a b c (UH (Ul (Up 0 17) U1)<|UH (Uq (Up 2 1) U1)<|UG (Ul (Un 2) U2)):=aO _ rfl
theorem aBi:mG a (UH (UT (.n 7) (.c U0))<|UG (Ut (Un 7) U0)):=aO _ rfl
theorem aBj:mG a (UH (UL (.c U0) (.n 7))<|UG (Ul U0 (Un 7))):=aO _ rfl
theorem JR:lV a b c (UH (Ul (Up 0 17) U1)<|UH (Uq (Up 2 1) U1)<|UG (Ul (Un 3) U2)):=aO _ rfl
theorem aBk:iC a b (UH (Ul (Up 0 9) U1)<|UG (Ul (Un 1) U1)):=aO _ rfl
theorem aBl:lV a b c (UH (Ul (Up 0 9) U1)<|UH (Uq (Up 2 1) U1)<|UG (Ul (Up 0 8) U2)):=aO _ rfl
theorem aBm:lV a b c (UH (Ul (Up 0 9) U1)<|UH (Uq (Up 2 1) U1)<|UG (Ul (Un 2) U2)):=aO _ rfl
theorem aBn:iC a b (UH (Ul (Up 0 10) U1)<|UG (Ul (Un 1) U1)):=aO _ rfl
theorem aBo:lV a b c (UH (Ul (Up 0 10) U1)<|UH (Uq (Up 2 1) U1)<|UG (Ul (Un 3) U2)):=aO _ rfl
theorem aBp:wA a b c d (UH (Ul (Up 0 10) U1)<|UH (Ul U2 U0)<|UH (Uq (Up 3 1) U1)<|UG (Ul (Up 2 9) U3)):=aO _ rfl
theorem ji:lV a b c (UH (Ul U0 U1)<|UH (Ut (Up 1 1) U2)<|UG (Ul (Up 0 1) U2)):=aO _ rfl
theorem aBq:mG a (UH (UT (.c U0) (.n 2))<|UG (Ut U0 (Un 2))):=aO _ rfl
theorem aBr:mG a (UH (UL (.n 2) (.c U0))<|UG (Ul (Un 2) U0)):=aO _ rfl
theorem Qh:iC a b (UH (Ul (Up 0 18) U1)<|UG (Ul (Un 1) U1)):=aO _ rfl
theorem aBs:lV a b c (UH (Ul (Up 0 18) U1)<|UH (Uq (Up 2 1) U1)<|UG (Ul (Un 3) U2)):=aO _ rfl
theorem jj:wA a b c d (UH (Ul (Up 0 18) U1)<|UH (Ul U2 U0)<|UH (Uq (Up 3 1) U1)<|UG (Ul (Up 2 17) U3)):=aO _ rfl
theorem jk:lV a b c (UH (Ul (Up 0 18) U1)<|UH (Uq (Up 2 1) U1)<|UG (Ul (Un 1) U2)):=aO _ rfl
theorem Uw:lV a b c (UH (Ul (Up 0 18) U1)<|UH (Uq (Up 2 1) U1)<|UG (Ul (Un 2) U2)):=aO _ rfl
theorem Ux:iC a b (UH (UT (.c U0) (.c U1))<|UG (Ut U0 U1)):=aO _ rfl
theorem jl:wA a b c d (UH (Ue (.a U0 U1) (.a U2 (Up 3 1)))<|UG (Ul (.a U0 U1) (.a (Up 2 1) U3))):=aO _ rfl
theorem jm:wA a b c d (UH (Uq (.a U0 U1) (.a U2 (Up 3 1)))<|UG (Ul (.a (Up 2 1) U3) (.a U0 U1))):=aO _ rfl
theorem jo:iC a b (UG (Ul U0 (.a U0 U1))):=aO _ rfl
theorem jq:lV a b c (UH (Ue (.a U0 U1) (.a U1 U2))<|UG (Ul U0 U2)):=aO _ rfl
theorem jr:lV a b c (UH (Ul (.a U0 U1) (.a U2 U0))<|UG (Ul U1 U2)):=aO _ rfl
theorem aBt:UD .o .o (UG (Ul (.a (Un 26) (Un 10)) (Un 16777216))):=aO _ rfl
theorem aBu:iC a b (UH (UT (.n 6) (.b (.c (.a U0 U1)) (.c U0)))<|UG (Ut (Un 6) U1)):=aO _ rfl
theorem aBv:iC a b (UH (UL (.b (.c (.a U0 U1)) (.c U0)) (.n 6))<|UG (Ul U1 (Un 6))):=aO _ rfl
theorem Cr:mG a (UH (Ul U0 (Un 600))<|UG (Ul U0 (Un 16777216))):=aO _ rfl
theorem jt:wA a b c d (UH (Ue (.a U0 U1) U2)<|UH (Ul U3 U0)<|UG (Ul (.a U1 U3) U2)):=aO _ rfl
theorem aBw:mG a (UH (Ul (Un 5) U0)<|UG (Ul (Un 1) U0)):=aO _ rfl
theorem u6:iC a b (UH (Ue (.a U0 U1) (Up 1 1))<|UG (Ul U0 (Un 1))):=aO _ rfl
theorem u9:iC a b (UH (Ul (Up 0 1) (.a U1 U0))<|UG (Ul (Un 1) U1)):=aO _ rfl
theorem aBx:mG a (UG (Ul U0 (Up 0 2))):=aO _ rfl
theorem aBy:iC a b (UH (Ue (.a U0 U1) (Up 1 2))<|UG (Ul U0 (Un 2))):=aO _ rfl
theorem aBz:iC a b (UH (Ul (Up 0 2) (.a U1 U0))<|UG (Ul (Un 2) U1)):=aO _ rfl
theorem aCa:lV a b c (UH (Ue U0 U1)<|UH (Ut (Up 2 1) U0)<|UG (Ul (Up 2 2) U1)):=aO _ rfl
theorem v7:iC a b (UH (Ul (Un 5) U0)<|UH (Uq (Up 1 1) U0)<|UG (Ul (Un 4) U1)):=aO _ rfl
theorem aCb:wA a b c d (UH (Ul U0 (Un 600))<|UH (Ul U1 U0)<|UH (Ul U2 U3)<|UH (Ut U3 U1)<|UG (Ut U2 (Un 16777216))):=aO _ rfl
theorem aCc:lV a b c (UH (Ul U0 U1)<|UH (Ut U1 U2)<|UG (Ul (Up 0 1) U2)):=aO _ rfl
theorem Zb:mG a (UH (Ul (Un 7) U0)<|UG (Ul (Un 1) U0)):=aO _ rfl
theorem Zc:iC a b (UH (Ul (Un 7) U0)<|UH (Uq (Up 1 1) U0)<|UG (Ul (Un 6) U1)):=aO _ rfl
theorem Zd:iC a b (UH (Ul U0 (Un 600))<|UH (Ul U1 U0)<|UG (Ut U1 (Un 1000))):=aO _ rfl
theorem v8:wA a b c d (UH (Ul (Up 0 20) U1)<|UH (Ul U2 U0)<|UH (Uq (Up 3 1) U1)<|UG (Ul (Up 2 18) U3)):=aO _ rfl
theorem v9:iC a b (UH (Ul (Un 7) U0)<|UH (Uq (Up 1 1) U0)<|UG (Ul (Un 1) U1)):=aO _ rfl
theorem Fi:iC a b (UH (Ul (Un 7) U0)<|UH (Uq (Up 1 1) U0)<|UG (Ul (Un 3) U1)):=aO _ rfl
theorem Jz:mG a (UH (Ul U0 (Un 700))<|UG (Ul U0 (Un 16777216))):=aO _ rfl
theorem aCd:wA a b c d (UH (Ul (Up 0 20) U1)<|UH (Ul U2 U0)<|UH (Uq (Up 3 1) U1)<|UG (Ul (Up 2 10) U3)):=aO _ rfl
theorem aCe:iC a b (UH (Ul (Un 7) U0)<|UH (Uq (Up 1 1) U0)<|UG (Ul (Un 4) U1)):=aO _ rfl
theorem ju:iC a b (UH (Ul (Un 7) U0)<|UH (Uq (Up 1 1) U0)<|UG (Ul (Un 2) U1)):=aO _ rfl
theorem JT:iC a b (UH (Ul U0 U1)<|UH (Ut U1 (Un 600))<|UG (Ut U0 (Un 16777216))):=aO _ rfl
theorem JV:iC a b (UH (Ul U0 U1)<|UG (Ul (Up 0 1) (Up 1 1))):=aO _ rfl
theorem aCf:mG a (UH (Ue U0 (Un 40))<|UH (Uq U0 (Un 41))<|HL.g 0 .f):=aO _ rfl
theorem aCg:mG a (UG (Ul (.a (Un 2) U0) (.a (Up 0 1) (Un 1)))):=aO _ rfl
theorem aCh:mG a (UG (Ul (.a (Up 0 1) (Un 1)) (.a (Un 2) U0))):=aO _ rfl
theorem aCi:mG a (UG (UL (.n 0) (.a (.c (Un 2)) (.c U0)))):=aO _ rfl
theorem JW:iC a b (UG (Ul (.a (Up 0 1) U1) (.a U0 (Up 1 1)))):=aO _ rfl
theorem JX:iC a b (UG (Ul (.a U0 (Up 1 1)) (.a (Up 0 1) U1))):=aO _ rfl
theorem w5:lV a b c (UH (Ul U0 U1)<|UH (Uq (Up 0 1) U2)<|UG (Ul U2 (Up 1 1))):=aO _ rfl
theorem Uy:iC a b (UH (Ul (Up 0 1) (Up 1 1))<|UG (Ul U0 U1)):=aO _ rfl
theorem JZ:mG a (UH (Ul (Un 8) U0)<|UG (Ul (Un 1) U0)):=aO _ rfl
theorem KC:iC a b (UH (Ul (Un 8) U0)<|UH (Uq (Up 1 1) U0)<|UG (Ul (Un 7) U1)):=aO _ rfl
theorem KD:lV a b c (UH (Ul (Up 0 21) U1)<|UH (Uq (Up 2 1) U1)<|UG (Ul (Up 0 20) U2)):=aO _ rfl
theorem jw:iC a b (UH (Ul (Un 9) U0)<|UH (Uq (Up 1 1) U0)<|UG (Ul (Un 7) U1)):=aO _ rfl
theorem jz:lV a b c (UH (Ul (Up 0 22) U1)<|UH (Uq (Up 2 1) U1)<|UG (Ul (Up 0 20) U2)):=aO _ rfl
theorem w6:mG a (UH (Ut U0 (Un 1000))<|UG (Ul U0 (Un 16777216))):=aO _ rfl
theorem aCj:mG a (UH (Ul (Un 65) U0)<|UG (Ut (Un 57) U0)):=aO _ rfl
theorem aCk:mG a (UH (UE (.c U0) (.n 1))<|UG (Ul U0 (Un 1))):=aO _ rfl
theorem aCl:mG a (UH (UQ (.c U0) (.n 1))<|UG (Ul (Un 1) U0)):=aO _ rfl
theorem aCm:mG a (UH (UE (.c U0) (.n 0))<|UH (Ut (Un 0) U0)<|HL.g 0 .f):=aO _ rfl
theorem w7:wA a b c d (UH (Ul U0 U1)<|UH (Ul U1 U2)<|UH (Uq U0 (Up 3 1))<|UG (Ul U3 U2)):=aO _ rfl
theorem Ze:lV a b c (UH (Ul U0 U1)<|UH (Uq U2 (Up 1 1))<|UG (Ut U0 U2)):=aO _ rfl
theorem kh:lV a b c (UH (Ul U0 U1)<|UH (Uq U0 (Up 2 1))<|UG (Ut U2 U1)):=aO _ rfl
theorem kj:lV a b c (UH (Ul (Up 0 5) U1)<|UH (Uq (Up 2 1) U1)<|UG (Ul (Un 2) U2)):=aO _ rfl
theorem aCn:lV a b c (UH (Ul (Up 0 5) U1)<|UH (Uq (Up 2 1) U1)<|UG (Ul (Un 1) U2)):=aO _ rfl
theorem aCo:lV a b c (UH (Ul (Up 0 6) U1)<|UH (Uq (Up 2 1) U1)<|UG (Ul (Un 2) U2)):=aO _ rfl
theorem aCp:iC a b (UH (Ul (Up 0 11) U1)<|UG (Ul (Un 1) U1)):=aO _ rfl
theorem z6:lV a b c (UH (Ul (Up 0 11) U1)<|UH (Uq (Up 2 1) U1)<|UG (Ul (Un 1) U2)):=aO _ rfl
theorem aCq:lV a b c (UH (Ul (Up 0 12) U1)<|UH (Uq (Up 2 1) U1)<|UG (Ul (Un 1) U2)):=aO _ rfl
theorem aCr:lV a b c (UH (Ul (Up 0 12) U1)<|UH (Uq (Up 2 1) U1)<|UG (Ul (Un 2) U2)):=aO _ rfl
theorem lg:mG a (UH (Ut U0 (Un 1000))<|UG (Ul U0 (Un 1000))):=aO _ rfl
theorem aCs:lV a b c (UH (Ul (Up 0 11) U1)<|UH (Uq (Up 2 1) U1)<|UG (Ul (Un 2) U2)):=aO _ rfl
theorem aCt:Yy a b c d e (UH (Ul (.a U0 U1) (Un 1000))<|UH (Ul U2 U3)<|UH (Ul U3 U4)<|UH (Uq U1 (Up 4 1))<|UG (Ul (.a (Up 0 1) U2) (Un 1000))):=aO _ rfl
theorem aCu:iC a b (UH (Ul (.a U0 U1) (Un 1001))<|UG (Ut U0 (Un 16777216))):=aO _ rfl
theorem aCv:wA a b c d (UH (Ul (.a U0 U1) (Un 1001))<|UH (Ul U2 U3)<|UH (Uq U1 (Up 3 1))<|UG (Ul (.a (Up 0 1) U2) (Un 1001))):=aO _ rfl
theorem aCw:iC a b (UH (Uq U0 (Up 1 1))<|UG (Ul (Up 1 1) U0)):=aO _ rfl
theorem aCx:lV a b c (UH (Ul (Up 0 16) U1)<|UH (Uq (Up 2 1) U1)<|UG (Ul (Un 2) U2)):=aO _ rfl
theorem aCy:lV a b c (UH (Ul (Up 0 18) U1)<|UH (Uq (Up 2 1) U1)<|UG (Ul (Up 0 15) U2)):=aO _ rfl
theorem KH:lV a b c (UH (Ul (Up 0 1) (Up 1 1))<|UH (Ul U2 U0)<|UG (Ul U2 U1)):=aO _ rfl
theorem lq:iC a b (UH (Ue U0 (Up 1 1))<|UG (Ul (Up 0 1) (.a (Up 1 1) (Un 1)))):=aO _ rfl
theorem lu:iC a b (UH (Uq U0 (Up 1 1))<|UG (Ul (.a (Up 1 1) (Un 1)) (Up 0 1))):=aO _ rfl
theorem aCz:UD .o .o (UG (UL (.n 0) (.n 0))):=aO _ rfl
theorem aDa:mG a (UH (Ul U0 (Un 12))<|UG (Ul U0 (Un 16777216))):=aO _ rfl
theorem Uz:UD .o (qY az) (UH (UT (.v 0) (.n 3))<|UG (UT (.v 0) (.n 1000))):=aO _ rfl
theorem Zf:mG a (UH (Ul U0 (Un 1000))<|UG (Ul (Up 0 1) (Un 16777216))):=aO _ rfl
theorem mj:UD .o .o (UG (Ul (Un 0) (Un 2))):=aO _ rfl
theorem aDb:mG a (HL.h 16 (Ul U0 (Un 2))<|UG (Ul (.m 16 U0) (Un 1000))):=aO _ rfl
theorem z7:UD .o .o (UG (Ul (Un 0) (Un 3))):=aO _ rfl
theorem mq:mG a (UG (Ul (Un 0) (.m 0 U0))):=aO _ rfl
theorem aDc:mG a (UG (Ul (.a (.a (Up 0 0) (Un 0)) (Un 54)) (Up 0 54))):=aO _ rfl
theorem mz:iC a b (UH (Ul (Un 5) U0)<|UH (Uq (Up 1 1) U0)<|UG (Ul (Un 1) U1)):=aO _ rfl
theorem ni:mG a (UG (Ul (.a (.a (.a (.m 162 U0) (Un 0)) (Un 0)) (.m 3 (Un 54))) (.m 162 (Up 0 1)))):=aO _ rfl
theorem aDd:mG a (HL.h 109 (Ul U0 (Un 3))<|UG (Ul (.a (.m 109 U0) (Un 0)) (Un 1000))):=aO _ rfl
theorem aDe:mG a (HL.h 109 (Ul U0 (Un 3))<|UG (Ul (.a (.a (.m 109 U0) (Un 0)) (Un 3)) (Un 1000))):=aO _ rfl
theorem aDf:mG a (HL.h 109 (Ul U0 (Un 3))<|UG (Ul (.a (.a (.a (.m 109 U0) (Un 0)) (Un 3)) (.m 3 (Un 35))) (Un 1000))):=aO _ rfl
theorem aDg:mG a (UG (Ul (.a (.a (.a (.m 109 U0) (Un 0)) (Un 3)) (.m 3 (Un 35))) (.m 109 (Up 0 1)))):=aO _ rfl
theorem aDh:mG a (UG (Ul (.a (.a (.a (.m 125 U0) (Un 0)) (Un 4)) (.m 3 (Un 40))) (.m 125 (Up 0 1)))):=aO _ rfl
theorem aDi:mG a (HL.h 10 (Ul U0 (Un 3))<|UG (Ul (.a (.a (Un 1) (.m 10 U0)) (Un 1)) (Un 1000))):=aO _ rfl
theorem aDj:mG a (UG (Ul (.a (.a (.a (.a (Un 10) (.m 11 U0)) (Un 0)) (.a (Un 0) (Un 0))) (Un 11)) (.a (Un 10) (.m 11 (Up 0 1))))):=aO _ rfl
theorem aDk:mG a (UH (UL (.c U0) (.n 0))<|UG (Ul (Up 0 1) (Un 3))):=aO _ rfl
theorem aDl:mG a (UG (Ul (.a (.a (.m 73 U0) (Un 0)) (Un 10)) (.a (.m 73 U0) (Un 10)))):=aO _ rfl
theorem aDm:UD .o (qY az) (UH (UT (.v 0) (.n 4))<|UG (UT (.v 0) (.n 1000))):=aO _ rfl
theorem aDn:iC a b (UG (Ul (.a (.a (.a (.a (.a (.m 73 U0) (Un 10)) (.m 21 U1)) (Un 0)) (Un 0)) (Un 21)) (.a (.a (.m 73 U0) (Un 10)) (.m 21 (Up 1 1))))):=aO _ rfl
theorem nj:Yy a b c d e (UH (Ul (.a U0 U1) U2)<|UH (Ul U3 U4)<|UG (Ul (.a (.a U0 U3) U1) (.a U2 U4))):=aO _ rfl
theorem aDo:iC a b (UG (Ul (.a (.a U0 U1) (Un 0)) (.a U0 (Up 1 1)))):=aO _ rfl
theorem z8:iC a b (UG (Ul (.a (.a U0 U1) (Un 1)) (.a U0 (Up 1 1)))):=aO _ rfl
theorem aDp:iC a b (UG (Ul (.a (.a U0 (.m 10 U1)) (Un 10)) (.a U0 (.m 10 (Up 1 1))))):=aO _ rfl
theorem aDq:iC a b (UH (Ul U0 (Un 2))<|UG (Ul (.a U1 U0) (Up 1 2))):=aO _ rfl
theorem aDr:iC a b (UH (Ul (Up 0 1) U1)<|UG (Ul (Un 1) U1)):=aO _ rfl
theorem aDs:lV a b c (UH (Ut (.a U0 (Up 1 1)) U2)<|UG (Ut U0 U2)):=aO _ rfl
theorem aDt:lV a b c (UH (Ut (.a U0 (Up 1 1)) U2)<|UG (Ut (.a (Up 0 1) U1) U2)):=aO _ rfl
theorem nq:wA a b c d (UH (Ue (Up 0 1) U1)<|UH (Ut U1 U2)<|UH (Ut U2 (Up 3 1))<|UG (Ut U0 U3)):=aO _ rfl
theorem aDu:lV a b c (UH (Ul (.a (.m 2 U0) U1) (.a U2 (.m 2 U0)))<|UG (Ul U1 U2)):=aO _ rfl
theorem nu:wA a b c d (UH (Ue (Up 0 1) U1)<|UH (Ut U1 (Up 2 1))<|UH (Ut U3 U0)<|UG (Ut U3 U2)):=aO _ rfl
theorem aDv:wA a b c d (UH (Ul (.a (.m 2 U0) (Un 0)) (.a U1 (.m 2 U2)))<|HL.h 2 (Ul U3 U0)<|UG (Ul (.a (.m 2 U3) (Un 0)) (.a U1 (.m 2 U2)))):=aO _ rfl
theorem aDw:Yy a b c d e (UH (Ul (.m 2 U0) (.a U1 (.m 2 U2)))<|HL.h 2 (Ue (Up 3 1) U4)<|HL.h 2 (Ut U2 U3)<|UG (Ul (.a (.m 2 U0) (Un 0)) (.a U1 (.m 2 U4)))):=aO _ rfl
theorem aDx:Yy a b c d e (UH (Ul (.m 2 U0) (.a U1 (.m 2 U2)))<|HL.h 2 (Ue (Up 3 1) U4)<|HL.h 2 (Ut U4 U0)<|UG (Ul (.m 2 U3) (.a U1 (.m 2 U2)))):=aO _ rfl
theorem aDy:mG a (UG (Ul (.a (Un 0) (Un 1)) (Up 0 1))):=aO _ rfl
theorem aDz:Yy a b c d e (UH (Ul (.m 2 U0) (.a U1 (.m 2 U2)))<|HL.h 2 (Ut U2 U3)<|UH (Ul U1 (Up 4 2))<|UG (Ul (.m 2 U0) (.a (Up 4 4) (.m 2 U3)))):=aO _ rfl
theorem oh:iC a b (UH (Ul (.a (.m 2 (Up 0 1)) (Un 0)) (.a U1 (.m 2 U0)))<|UG (Ul (Un 1) U1)):=aO _ rfl
theorem aEa:lV a b c (UH (Ul (.a (.m 2 U0) (Un 1)) (.a U1 (.m 2 U2)))<|HL.h 2 (Ut U2 U0)<|UG (Ul (Un 1) U1)):=aO _ rfl
theorem KJ:iC a b (UH (Ue (Up 0 1) U1)<|UG (Ul (Un 1) U1)):=aO _ rfl
theorem aEb:iC a b (UG (Ul (.m 2 U0) (.a (.a (.m 2 U0) (Un 1)) (.m 2 U1)))):=aO _ rfl
theorem ou:iC a b (UH (Ue U0 (Un 7))<|UH (Ul U1 (Un 600))<|UG (Ul (.a U0 U1) (Un 16777216))):=aO _ rfl
theorem KN:wA a b c d (UH (Ul (Up 0 30) U1)<|UH (Uq (Up 2 1) U1)<|UH (Uq U3 U2)<|UG (Ul (Un 8) U3)):=aO _ rfl
theorem KQ:Yy a b c d e (UH (Ul (Up 0 30) U1)<|UH (Ul U2 U0)<|UH (Uq (Up 3 1) U1)<|UH (Uq U4 U3)<|UG (Ul (Up 2 21) U4)):=aO _ rfl
theorem pq:iC a b (UH (Ue U0 (Un 9))<|UH (Ul U1 (Un 600))<|UG (Ul (.a U0 U1) (Un 16777216))):=aO _ rfl
theorem z9:wA a b c d (UH (Ul (Up 0 30) U1)<|UH (Uq (Up 2 1) U1)<|UH (Uq U3 U2)<|UG (Ul (Un 7) U3)):=aO _ rfl
theorem G3:Yy a b c d e (UH (Ul (Up 0 30) U1)<|UH (Ul U2 U0)<|UH (Uq (Up 3 1) U1)<|UH (Uq U4 U3)<|UG (Ul (Up 2 20) U4)):=aO _ rfl
theorem qb:mG a (UH (Ul (Un 560) U0)<|UG (Ul (Un 1) U0)):=aO _ rfl
theorem qd:mG a (UH (Ul (Un 560) U0)<|UG (Ul (Un 3) U0)):=aO _ rfl
theorem aEc:mG a (UH (Ul (Un 560) U0)<|UG (Ul (Un 2) U0)):=aO _ rfl
theorem aEd:mG a (UH (Ul (Un 560) U0)<|UG (Ul (Un 150) U0)):=aO _ rfl
theorem G4:UD .o (j7 az bz) (UH (UL (.n 0) (.v 0))<|UH (UL (.n 20000000) (.v 1))<|UG (UL (.g (.v 1)) (.v 0))):=aO _ rfl
theorem G5:UD .o (Ud3 az bz cz) (UH (UL (.a (.v 0) (.n 20000000)) (.v 1))<|UH (UT (.v 2) (.v 0))<|UG (UT (.v 2) (.v 1))):=aO _ rfl
theorem G6:mG a (UG (UL (.n 0) (.c U0))):=aO _ rfl
theorem aEe:UD (Yx a b) (qY az) (UH (UL (.n 20000000) (.v 0))<|UH (Ut U0 (Un 10000))<|UH (Ut U1 U0)<|UG (UT (.c U1) (.v 0))):=aO _ rfl
theorem G7:iC a b (UH (Ul (Un 20000000) U0)<|UH (Ut U1 (Un 10000))<|UG (Ut U1 U0)):=aO _ rfl
theorem aEf:iC a b (UH (Ul U0 U1)<|UG (UL (.c U0) (.c U1))):=aO _ rfl
theorem Qi:lV a b c (UH (Ul U0 (Up 1 1))<|UH (Ut U2 U0)<|UG (Ul U2 U1)):=aO _ rfl
theorem Zg:lV a b c (UH (Ut U0 U1)<|UH (Ut U1 U2)<|UG (Ut U0 U2)):=aO _ rfl
theorem G8:lV a b c (UH (Ul U0 U1)<|UH (Ut U1 U2)<|UG (Ut U0 U2)):=aO _ rfl
theorem qg:lV a b c (UH (Ul U0 U1)<|UH (Ut U2 U0)<|UG (Ut U2 U1)):=aO _ rfl
theorem aEg:lV a b c (UH (Ul U0 U1)<|UH (Ul U1 U2)<|UG (Ul U0 U2)):=aO _ rfl
theorem G9:lV a b c (UH (Ul U0 U1)<|UH (Ut U2 U0)<|UG (Ul U2 U1)):=aO _ rfl
theorem aEh:lV a b c (UH (Ul U0 U1)<|UH (Ut U2 U0)<|UG (Ut U2 (Up 1 1))):=aO _ rfl
theorem H6:UD (m8 a) (qY az) (UH (UL (.n 20000000) (.v 0))<|UG (UL (.g (.v 0)) (.c U0))):=aO _ rfl
theorem aEi:wA a b c d (UH (Ul U0 U1)<|UH (Ul U1 U2)<|UH (Ut U2 U3)<|UG (Ut U0 U3)):=aO _ rfl
theorem aEj:wA a b c d (UH (Ul (Un 20000000) U0)<|UH (Ul U1 U2)<|UH (Ul U2 U3)<|UH (Ut U3 (Un 10000))<|UG (Ut U1 U0)):=aO _ rfl
theorem Mx:iC a b (UH (Ul (Un 20000000) U0)<|UH (Ul U1 (Un 600))<|UG (Ut U1 U0)):=aO _ rfl
theorem aEk:Yy a b c d e (UH (Ue (.a U0 U1) U2)<|UH (Ut U3 U1)<|UH (Ul U2 (.a U4 U3))<|UG (Ut U0 U4)):=aO _ rfl
theorem aEm:iC a b (UH (Uq U0 (Up 1 2))<|UG (UL (.n 0) (.b (.c U0) (.c (Un 2))))):=aO _ rfl
theorem aEn:UD (Uc3 a b c) (qY az) (UH (UL (.n 20000000) (.v 0))<|UH (Ul U0 (Un 600))<|UH (Ut U1 U2)<|UH (Uq U0 (Up 2 2))<|UG (UT (.a (.c (Un 2)) (.c U1)) (.v 0))):=aO _ rfl
theorem aEo:mG a (UG (UL (.n 0) (.a (.c (Un 2)) (.c U0)))):=aO _ rfl
theorem aEp:iC a b (UH (UE (.c U0) (.a (.c (Un 2)) (.c U1)))<|UG (Ul U0 (.a (Un 2) U1))):=aO _ rfl
theorem aEq:iC a b (UH (UL (.a (.c (Un 2)) (.c U0)) (.c U1))<|UG (Ul (.a (Un 2) U0) U1)):=aO _ rfl
theorem aEr:iC a b (UH (Ul (Un 20000000) U0)<|UH (Ut U1 (Un 1000))<|UG (Ut U1 U0)):=aO _ rfl
theorem aEs:UD (Uc3 a b c) (qY az) (UH (UL (.n 20000000) (.v 0))<|UH (Ut U0 (Un 1000))<|UH (Ut U1 U2)<|UH (Uq U0 U2)<|UG (UT (.c U1) (.v 0))):=aO _ rfl
theorem aEt:iC a b (UH (Ul (Un 20000000) U0)<|UH (Ul U1 (Un 1000))<|UG (Ut U1 U0)):=aO _ rfl
theorem aEu:wA a b c d (UH (Ul U0 U1)<|UH (Ut U1 U2)<|UH (Ut U2 (Up 3 1))<|UG (Ut U0 U3)):=aO _ rfl
theorem qj:wA a b c d (UH (Ul U0 U1)<|UH (Ul U2 U3)<|UG (Ul (.a U0 U2) (.a U1 U3))):=aO _ rfl
theorem aEv:UD .o (j7 az bz) (UH (UL (.n 20000000) (.v 0))<|UH (UT (.v 1) (.n 3))<|UG (UT (.v 1) (.v 0))):=aO _ rfl
theorem H7:UD (Yx a b) (qY az) (UH (UE (.c U0) (.v 0))<|UH (UT (.v 0) (.n 3))<|UH (Ut U1 U0)<|UG (Ul (Up 1 1) (Un 2))):=aO _ rfl
theorem H8:UD .o (j7 az bz) (UH (UL (.n 0) (.v 0))<|UH (UL (.n 20000000) (.v 1))<|UG (UL (.g (.v 1)) (.a (.n 1) (.v 0)))):=aO _ rfl
theorem ql:UD .o (j7 az bz) (UH (UL (.n 20000000) (.v 0))<|UH (UT (.v 1) (.n 3))<|UG (UT (.a (.n 1) (.v 1)) (.v 0))):=aO _ rfl
theorem Qj:UD .o (qY az) (UH (UL (.n 0) (.v 0))<|UG (UL (.n 0) (.a (.n 1) (.v 0)))):=aO _ rfl
theorem Zh:UD (Yx a b) (qY az) (UH (UE (.c U0) (.a (.n 1) (.v 0)))<|UH (UT (.v 0) (.n 3))<|UH (Ut U1 U0)<|UG (Ul (Up 1 1) (Un 3))):=aO _ rfl
end
theorem qm {n : Nat} (h : n < 2 ^ 62) : (n : Int) < 2 ^ 63 := Int.lt_of_lt_of_le (aMk.mpr h) (by decide)
theorem H9 {m k : Nat} (h : m <= 600) (z : k < m) : (k : Int) < 2 ^ 62 := Int.lt_of_lt_of_le (aMk.mpr (aKx z h)) (by decide)
theorem aIx {n k e : Nat} (h : k <= e /\ e < k + (n - k)) : e < n := by omega
theorem X4 {n k e : Nat} (q : n < 10000) (h : k <= e /\ e < k + (n - k)) : (e : Int) < 2 ^ 62 := Int.lt_trans (aMk.mpr (aLd (aIx h) q)) (by decide)
theorem aEw {n k e : Nat} (q : n < 10000) (h : k <= e /\ e < k + (n - k)) : (k : Int) < 2 ^ 62 := Int.lt_of_le_of_lt (aNh.mpr h.1) (X4 q h)
theorem Ak {D : Nat} (h : 0 < D) (q : ¬ D = 1) : 0 < D - 1 := Nat.sub_pos_of_lt (Nat.lt_of_le_of_ne h (Ne.symm q))
theorem ne1 {D : Nat} (h : ¬ (D : Int) - 1 = 0) : ¬ D = 1 := fun e => h (by rw [e]; rfl)
theorem aEx {d : Nat} (h : ¬ d = 0) : ∃ d',d = d' + 1 := ⟨d - 1,(Nat.succ_pred h).symm⟩
theorem exs {d : Nat} (h : ¬ d + 1 = 1) : ∃ d',d = d' + 1 := aEx fun z => h (by rw [z])
theorem lb1 {a l : Nat} {e : Bool} (h : a + l <= 1000 + e.toNat) : a < 16777216 := aKl (aJw (aMa _ _) (aJw h (aNf (aNs _) _))) (by decide)
theorem lb2 {x y : Nat} {e : Bool} (h : x + (!e).toNat <= y) : 2 * x + false.toNat < 2 * y + e.toNat := by cases e <;> simp at * <;> omega
theorem lb3 {a l x y : Nat} {e : Bool} (h : a + l <= 1000 + (!e).toNat) (h1 : y + (!e).toNat <= l) (h2 : x <= y) : a + 1 + x <= 1000 + (!false).toNat := by cases e <;> simp at * <;> omega
end Mine
end
open PySem PySem.W PyProof.Rows
open Str renaming ofString->aJp
namespace Mine
inductive V where
 | none | bool (b : Bool) | int (i : Int) | str (s : Str)
 | tup (xs : List V) | lst (xs : List V) | mut (a : Addr) | val (v : Value)
noncomputable abbrev aW := Addr -> Option (List V)
noncomputable abbrev KV := V -> aW -> Prop
noncomputable abbrev eE := List (Str × Option V)
theorem Xb {h : Heap} {a : Addr} {i j : Array Value} {n m : Nat} (x : IsL h a i n) (y : IsT h a j m) : False := by
 have := x.symm.trans y;simp at this
mutual
inductive Rep (h : Heap) (σ : aW) : Value -> V -> Prop
 | none : Rep h σ .none .none
 | bool (b : Bool) : Rep h σ (.bool b) (.bool b)
 | int (i : Int) (t : Tok) : Rep h σ (.int i t) (.int i)
 | str (x : Str) (t : Tok) : Rep h σ (.str x t) (.str x)
 | val (v : Value) : Rep h σ v (.val v)
 | mut (a : Addr) : Rep h σ (.ref a) (.mut a)
 | tup {a : Addr} {vs : List Value} {xs : List V} {n : Nat} : IsT h a vs.toArray n -> cM h σ vs xs -> Rep h σ (.ref a) (.tup xs)
 | lst {a : Addr} {vs : List Value} {xs : List V} {n : Nat} : σ a = .none -> IsL h a vs.toArray n -> cM h σ vs xs -> Rep h σ (.ref a) (.lst xs)
inductive cM (h : Heap) (σ : aW) : List Value -> List V -> Prop
 | nil : cM h σ [] []
 | cons {v : Value} {x : V} {vs : List Value} {xs : List V} : Rep h σ v x -> cM h σ vs xs -> cM h σ (v :: vs) (x :: xs)
end
noncomputable def aHr (h : Heap) (σ : aW) (v : Value) : V -> Prop
 | .none => v = .none
 | .bool b => v = .bool b
 | .int n => ∃ t,v = .int n t
 | .str x => ∃ t,v = .str x t
 | .val w => v = w
 | .mut a => v = .ref a
 | .tup xs => Ex3 fun a vs n => Py (v = .ref a) (IsT h a vs.toArray n) (cM h σ vs xs)
 | .lst xs => Ex3 fun a vs n => An4 (v = .ref a) (σ a = .none) (IsL h a vs.toArray n) (cM h σ vs xs)
section
variable {h : Heap} {σ : aW} {v : Value}
theorem Rep.f {x : V} : Rep h σ v x -> aHr h σ v x
 | .none => rfl
 | .bool _ => rfl
 | .int _ _ => ⟨_,rfl⟩
 | .str _ _ => ⟨_,rfl⟩
 | .val _ => rfl
 | .mut _ => rfl
 | .tup i r => ⟨_,_,_,rfl,i,r⟩
 | .lst e i r => ⟨_,_,_,rfl,e,i,r⟩
theorem Rep.int_inv {n : Int} (r : Rep h σ v (.int n)) : ∃ t,v = .int n t := r.f
theorem Rep.str_inv {x : Str} (r : Rep h σ v (.str x)) : ∃ t,v = .str x t := r.f
theorem Rep.bool_inv {b : Bool} (r : Rep h σ v (.bool b)) : v = .bool b := r.f
theorem Rep.none_inv (r : Rep h σ v .none) : v = .none := r.f
theorem Rep.val_inv {w : Value} (r : Rep h σ v (.val w)) : v = w := r.f
theorem Rep.mR {a : Addr} (r : Rep h σ v (.mut a)) : v = .ref a := r.f
theorem Rep.uN {xs : List V} (r : Rep h σ v (.tup xs)) : Ex3 fun a vs n => Py (v = .ref a) (IsT h a vs.toArray n) (cM h σ vs xs) := r.f
theorem Rep.lst_inv {xs : List V} (r : Rep h σ v (.lst xs)) : Ex3 fun a vs n => An4 (v = .ref a) (σ a = .none) (IsL h a vs.toArray n) (cM h σ vs xs) := r.f
end
theorem cM.nil_inv {h : Heap} {σ : aW} {vs : List Value} (r : cM h σ vs []) : vs = [] := by cases r; rfl
theorem cM.cons_inv {h : Heap} {σ : aW} {vs : List Value} {x : V} {xs : List V} (r : cM h σ vs (x :: xs)) : Ex2 fun v ws => Py (vs = v :: ws) (Rep h σ v x) (cM h σ ws xs) := by cases r with | cons r rs => exact ⟨_,_,rfl,r,rs⟩
structure Frz2 (h : Heap) (σ : aW) (h' : Heap) (σ' : aW) : Prop where
 tup : ∀ {a items n},IsT h a items n -> IsT h' a items n
 lst : ∀ {a items n},IsL h a items n -> σ a = .none -> IsL h' a items n /\ σ' a = .none
theorem Rep.Ec {h h' : Heap} {σ σ' : aW} (f : Frz2 h σ h' σ') {v : Value} {x : V} (r : Rep h σ v x) : Rep h' σ' v x :=
 Rep.rec (motive_1 := fun v x _ => Rep h' σ' v x) (motive_2 := fun vs xs _ => cM h' σ' vs xs) .none .bool .int .str .val .mut (fun i _ r => .tup (f.tup i) r) (fun e i _ r => .lst (f.lst i e).2 (f.lst i e).1 r) .nil (fun _ _ r rs => .cons r rs) r
theorem cM.ind {h : Heap} {σ : aW} {P : List Value -> List V -> Prop} {vs : List Value} {xs : List V} (r : cM h σ vs xs) (n : P [] []) (k : ∀ {v x vs xs},Rep h σ v x -> cM h σ vs xs -> P vs xs -> P (v :: vs) (x :: xs)) : P vs xs :=
 cM.rec (motive_1 := fun _ _ _ => True) (motive_2 := fun vs xs _ => P vs xs) trivial (fun _ => trivial) (fun _ _ => trivial) (fun _ _ => trivial) (fun _ => trivial) (fun _ => trivial) (fun _ _ _ => trivial) (fun _ _ _ _ => trivial) n (fun r rs _ q => k r rs q) r
theorem cM.Ec {h h' : Heap} {σ σ' : aW} (f : Frz2 h σ h' σ') {vs : List Value} {xs : List V} (r : cM h σ vs xs) : cM h' σ' vs xs := r.ind .nil fun r _ rs => .cons (r.Ec f) rs
structure pD (h : Heap) (σ : aW) (h' : Heap) (σ' : aW) : Prop extends Frz2 h σ h' σ' where
 fld : ∀ a o fs,h.get? a = some o -> o.data = .fields fs -> h'.get? a = some o
theorem pD.refl (h : Heap) (σ : aW) : pD h σ h σ := { tup := fun x => x,lst := fun x y => ⟨x,y⟩,fld := fun _ _ _ e _ => e }
theorem pD.trans {jH Ci Af : Heap} {aG bN bK : aW} (x : pD jH aG Ci bN) (y : pD Ci bN Af bK) : pD jH aG Af bK :=
 { tup := fun e => y.tup (x.tup e),lst := fun e n => let ⟨e',n'⟩ := x.lst e n; y.lst e' n',fld := fun a o fs e d => y.fld a o fs (x.fld a o fs e d) d }
theorem Rep.mono {h h' : Heap} {σ σ' : aW} {v : Value} {x : V} (r : Rep h σ v x) (f : pD h σ h' σ') : Rep h' σ' v x := r.Ec f.toFrz2
theorem cM.mono {h h' : Heap} {σ σ' : aW} {vs : List Value} {xs : List V} (r : cM h σ vs xs) (f : pD h σ h' σ') : cM h' σ' vs xs := r.Ec f.toFrz2
section
variable {h : Heap} {σ : aW} {vs : List Value} {xs : List V}
theorem cM.length (r : cM h σ vs xs) : vs.length = xs.length := r.ind (P := fun vs xs => vs.length = xs.length) rfl fun _ _ q => congrArg (· + 1) q
theorem cM.get {i : Nat} {x : V} (r : cM h σ vs xs) (e : xs[i]? = some x) : ∃ v,vs[i]? = some v /\ Rep h σ v x := by
 refine r.ind (P := fun vs xs => ∀ i x,xs[i]? = some x -> ∃ v,vs[i]? = some v /\ Rep h σ v x) (fun i x e => by cases e) (fun r _ q i x e => ?_) i x e;cases i with
 | zero => cases e; exact ⟨_,rfl,r⟩
 | succ i => exact q i x e
theorem cM.append {ws : List Value} {ys : List V} (r : cM h σ vs xs) (s : cM h σ ws ys) : cM h σ (vs ++ ws) (xs ++ ys) := r.ind (P := fun vs xs => cM h σ (vs ++ ws) (xs ++ ys)) s fun r _ q => .cons r q
theorem cM.drop (k : Nat) (r : cM h σ vs xs) : cM h σ (vs.drop k) (xs.drop k) := by
 refine r.ind (P := fun vs xs => ∀ k,cM h σ (vs.drop k) (xs.drop k)) (fun k => by rw [List.drop_nil,List.drop_nil]; exact .nil) (fun r rs q k => ?_) k;cases k
 ·exact .cons r rs
 ·exact q _
theorem cM.take (k : Nat) (r : cM h σ vs xs) : cM h σ (vs.take k) (xs.take k) := by
 refine r.ind (P := fun vs xs => ∀ k,cM h σ (vs.take k) (xs.take k)) (fun k => by rw [List.take_nil,List.take_nil]; exact .nil) (fun r rs q k => ?_) k;cases k
 ·exact .nil
 ·exact .cons r (q _)
theorem cM.of_get {v : Value} {i : Nat} (r : cM h σ vs xs) (e : vs[i]? = some v) : ∃ x,xs[i]? = some x /\ Rep h σ v x := by
 refine r.ind (P := fun vs xs => ∀ i v,vs[i]? = some v -> ∃ x,xs[i]? = some x /\ Rep h σ v x) (fun i x e => by cases e) (fun r _ q i x e => ?_) i v e;cases i with
 | zero => cases e; exact ⟨_,rfl,r⟩
 | succ i => exact q i x e
theorem cM.set {v : Value} {x : V} (rx : Rep h σ v x) (i : Nat) (r : cM h σ vs xs) : cM h σ (vs.set i v) (xs.set i x) := by
 refine r.ind (P := fun vs xs => ∀ i,cM h σ (vs.set i v) (xs.set i x)) (fun _ => .nil) (fun r rs q i => ?_) i;cases i
 ·exact .cons rx rs
 ·exact .cons r (q _)
end
noncomputable def aEy (h : Heap) (σ : aW) : Prop := ∀ a xs,σ a = some xs -> Ex2 fun vs n => IsL h a vs.toArray n /\ cM h σ vs xs
noncomputable def aHe (W Fm : Addr -> Prop) (h h' : Heap) : Prop :=
 ∀ a o,h.get? a = some o -> (∃ o',h'.get? a = some o') /\ (¬ W a -> (¬ Fm a -> h'.get? a = some o) /\ ∃ sl,h'.get? a = some { o with slots := sl })
set_option genInjectivity false in
structure eX where
 prog : Program
 w : World
 h₀ : Heap
 mg : Str -> Option Value
 mb : Str -> Option Value
 excs : List Value
 g : h₀.Ns mainGlobals mg
 b : h₀.Ns builtinsNs mb
 lim : h₀.NoLimit
noncomputable def eX.at (G : eX) (x : Str) (v : Value) : Prop := G.mg x = some v \/ (G.mg x = .none /\ G.mb x = some v)
set_option genInjectivity false in
structure Cfg (G : eX) where
 B : Heap
 he : Heap
 W : Addr -> Prop
 A : Around
 env : Env
 outer : List Env
 r0 : Shared
 n : Nat
 k : Nat
 names : List Str
 gn : List Str
noncomputable def rH (l : List Env) (a : Addr) : Prop := ∃ env ∈ l,env.frame = some a
inductive aHs (B h : Heap) (env : Env) : Prop
 | mk (k : env.scope.kind ≠ .module) (L : Addr) (o : Obj) (es : Array DictEntry) (ep : Nat) (h1 : env.frame = some L) (h2 : B.get? L = .none) (h3 : h.get? L = some o) (h4 : o.data = .dict es ep)
noncomputable def Qk (B h : Heap) (l : List Env) : Prop := ∀ env ∈ l,aHs B h env
theorem Qk.fun {B h : Heap} : ∀ {l : List Env},Qk B h l -> h.FunFrames B l
 | [],_ => trivial
 | env :: l,f => by
  obtain ⟨hk,L,o,es,ep,h1,h2,h3,h4⟩ := f env (.head _);exact ⟨hk,⟨L,o,h1,h2,h3,fun vs q => by rw [h4] at q; cases q⟩,Qk.fun fun e he => f e (.tail _ he)⟩
theorem Qk.slots {B h h' : Heap} {l : List Env} (f : Qk B h l) (k : h.UpToSlots h') : Qk B h' l := fun env he => by
 obtain ⟨hk,L,o,es,ep,h1,h2,h3,h4⟩ := f env he;obtain ⟨sl,e⟩ := k L o h3 fun vs q => by rw [h4] at q; cases q
 exact ⟨hk,L,_,es,ep,h1,h2,e,h4⟩
structure Ql {G : eX} (c : Cfg G) : Prop where
 hB : G.h₀.StaysIn c.B
 stack : c.A.frames = some (c.env :: c.outer)
 hand : c.A.handled = .none
 frame : c.env.frame = some c.env.locals
 kind : c.env.scope.kind = .function
 globals : c.env.globals = mainGlobals
 builtins : c.env.builtins = builtinsNs
 heL : c.he.get? c.env.locals = .none
 BL : c.B.get? c.env.locals = .none
 room : c.A.depth + c.n < recursionLimit
 units : c.A.units + 12 * c.n + c.k < 9800
 nodup : c.names.Nodup
 WL : ∀ a,c.W a -> ∃ items n,IsL c.he a items n
 locals : ∀ x ∈ c.names,c.env.kindOf x = some .local /\ (x == ("__debug__" : Str)) = false
 gn : ∀ x ∈ c.gn,c.env.kindOf x = some .globalImplicit /\ (x == ("__debug__" : Str)) = false
structure gG {G : eX} (c : Cfg G) (ρ : eE) (σ : aW) (s : Shared) : Prop where
 ok : Ql c
 base : c.B.StaysIn s.heap
 frames : Qk c.B s.heap (c.env :: c.outer)
 locs : ∃ m,s.heap.Ns c.env.locals m /\ ∀ x v,(x,some v) ∈ ρ -> ∃ u,m x = some u /\ Rep s.heap σ u v
 names : ρ.map (·.1) = c.names
 keep : aHe c.W (rH c.outer) c.he s.heap
 mem : aEy s.heap σ
 dom : ∀ a,σ a ≠ .none -> c.B.get? a = .none /\ (c.W a \/ c.he.get? a = .none)
 fixed : s.gens = c.r0.gens /\ s.drawn = c.r0.drawn /\ s.os = c.r0.os
theorem gG.move {G : eX} {c : Cfg G} {ρ : eE} {σ σ' : aW} {s s' : Shared} (S : gG c ρ σ s)
  (fx : s'.gens = s.gens /\ s'.drawn = s.drawn /\ s'.os = s.os)
  (hB : ∀ a o,c.B.get? a = some o -> s.heap.get? a = some o -> s'.heap.get? a = some o)
  (hD : ∀ a o es ep,s.heap.get? a = some o -> o.data = .dict es ep -> a = c.env.locals \/ rH c.outer a -> ∃ sl,s'.heap.get? a = some { o with slots := sl })
  (hL : ∀ a aIy o,c.he.get? a = some aIy -> s.heap.get? a = some o -> ∃ o',s'.heap.get? a = some o')
  (hK : ∀ a o,c.he.get? a = some o -> ¬ c.W a -> ¬ rH c.outer a -> s.heap.get? a = some o -> s'.heap.get? a = some o)
  (hK' : ∀ a o,c.he.get? a = some o -> ¬ c.W a -> ∀ sl,s.heap.get? a = some { o with slots := sl } -> ∃ sl',s'.heap.get? a = some { o with slots := sl' })
  (hF : Frz2 s.heap σ s'.heap σ')
  (hM : ∀ a xs,σ' a = some xs -> Ex2 fun vs n => IsL s'.heap a vs.toArray n /\ cM s'.heap σ' vs xs)
  (aHt : ∀ a,σ' a ≠ .none -> σ a ≠ .none \/ s.heap.get? a = .none) : gG c ρ σ' s' := by
 refine ⟨S.ok,fun b o e => hB b o e (S.base b o e),?_,?_,S.names,?_,hM,?_,⟨fx.1.trans S.fixed.1,fx.2.1.trans S.fixed.2.1,fx.2.2.trans S.fixed.2.2⟩⟩
 ·intro env he;obtain ⟨hk,L,o,es,ep,h1,h2,h3,h4⟩ := S.frames env he;obtain ⟨sl,e⟩ := hD L o es ep h3 h4 (by
   rcases aKf.mp he with rfl | he
   ·exact .inl (aJn (h1.symm.trans S.ok.frame))
   ·exact .inr ⟨env,he,h1⟩)
  exact ⟨hk,L,_,es,ep,h1,h2,e,h4⟩
 ·obtain ⟨m,⟨o,es,ep,h1,h2,h3⟩,hm⟩ := S.locs;obtain ⟨sl,e⟩ := hD _ o es ep h1 h2 (.inl rfl);exact ⟨m,⟨_,es,ep,e,h2,h3⟩,fun x v hx => let ⟨u,h4,h5⟩ := hm x v hx; ⟨u,h4,h5.Ec hF⟩⟩
 ·intro a o e;obtain ⟨⟨o',ho'⟩,k⟩ := S.keep a o e;refine ⟨hL a o o' e ho',fun nW => ?_⟩;obtain ⟨k1,sl,k2⟩ := k nW;exact ⟨fun nF => hK a o e nW nF (k1 nF),hK' a o e nW sl k2⟩
 ·intro a ha;rcases aHt a ha with h | h
  ·exact S.dom a h
  ·refine ⟨?_,.inr ?_⟩
   ·cases q : c.B.get? a with
    | none => rfl
    | some o => rw [S.base a o q] at h; exact tD h
   ·cases q : c.he.get? a with
    | none => rfl
    | some o =>
     obtain ⟨⟨o',ho'⟩,_⟩ := S.keep a o q;rw [ho'] at h; exact tD h
theorem pD.of_keeps {h h' : Heap} {σ : aW} (k : ∀ b o,h.get? b = some o -> h'.get? b = some o) : pD h σ h' σ := { tup := fun x => k _ _ x,lst := fun x y => ⟨k _ _ x,y⟩,fld := fun a o _ e _ => k a o e }
theorem gG.ext {G : eX} {c : Cfg G} {ρ : eE} {σ : aW} {s s' : Shared} (S : gG c ρ σ s) (fx : s'.gens = s.gens /\ s'.drawn = s.drawn /\ s'.os = s.os)
  (k : ∀ b o,s.heap.get? b = some o -> s'.heap.get? b = some o) : gG c ρ σ s' :=
 S.move fx (fun a o _ e => k a o e) (fun a o _ _ e _ _ => ⟨o.slots,k a _ e⟩) (fun a _ o _ e => ⟨o,k a o e⟩) (fun a o _ _ _ e => k a o e) (fun a o _ _ sl e => ⟨sl,k a _ e⟩) (pD.of_keeps k).toFrz2
  (fun a xs e => let ⟨vs,n,h1,h2⟩ := S.mem a xs e; ⟨vs,n,k _ _ h1,h2.mono (.of_keeps k)⟩) (fun a e => .inl e)
noncomputable def aH (σ : aW) (a : Addr) (xs : List V) : aW := fun b => if b = a then some xs else σ b
noncomputable def uO (σ : aW) (a : Addr) : aW := fun b => if b = a then .none else σ b
theorem aC (σ : aW) (a : Addr) (xs : List V) : aH σ a xs a = some xs := if_pos rfl
theorem iD (σ : aW) {a b : Addr} (xs : List V) (h : b ≠ a) : aH σ a xs b = σ b := if_neg h
theorem bI (σ : aW) (a : Addr) (xs ys : List V) : aH (aH σ a xs) a ys = aH σ a ys := by
 funext b; unfold aH; split <;> rfl
theorem dI (σ : aW) {a b : Addr} (xs ys : List V) (h : a ≠ b) : aH (aH σ a xs) b ys = aH (aH σ b ys) a xs := by
 funext d; unfold aH
 by_cases h1 : d = b
 ·subst h1; simp [Ne.symm h]
 ·simp [h1]
theorem bU {σ : aW} {a : Addr} {xs : List V} (h : σ a = .none) : uO (aH σ a xs) a = σ := by
 funext b; unfold uO aH; split
 ·rename_i e; rw [e,h]
 ·rfl
theorem gG.Mz {G : eX} {c : Cfg G} {ρ : eE} {σ : aW} {s : Shared} (S : gG c ρ σ s) : (∀ {a xs},σ a = some xs -> a ≠ c.env.locals) /\ (∀ {a xs},σ a = some xs -> ¬ rH c.outer a) := by
 refine ⟨fun {a xs} e q => ?_,fun {a xs} e ⟨env,he,hf⟩ => ?_⟩
 ·obtain ⟨vs,n,h1,_⟩ := S.mem a xs e;obtain ⟨m,⟨o,es,ep,h2,h3,_⟩,_⟩ := S.locs;subst q;have := h1.symm.trans h2; obtain rfl := aJn this; cases h3
 ·obtain ⟨vs,n,h1,_⟩ := S.mem a xs e;obtain ⟨_,L,o,es,ep,e1,_,h2,h3⟩ := S.frames env (.tail _ he);obtain rfl : L = a := aJn (e1.symm.trans hf);have := h1.symm.trans h2; obtain rfl := aJn this; cases h3
theorem pD.Zi {h : Heap} {σ : aW} {o : Obj} {xs : List V} : pD h σ (h.push o) (aH σ h.objs.size xs) :=
 { tup := fun x => x.push _,lst := fun {a items n} x y => ⟨x.push _,(iD _ _ (aMu (Heap.lt_size x))).trans y⟩,fld := fun a o _ e _ => Heap.get?_push_of_some _ e }
theorem gG.Zi {G : eX} {c : Cfg G} {ρ : eE} {σ : aW} {s : Shared} {vs : List Value} {xs : List V} {tk : Nat} (S : gG c ρ σ s) (R : cM s.heap σ vs xs) :
  gG c ρ (aH σ s.heap.objs.size xs) { s with heap := s.heap.push { cls := .type "list",data := .seq vs.toArray },toks := tk } := by
 have k : ∀ b o,s.heap.get? b = some o -> (s.heap.push { cls := .type "list",data := .seq vs.toArray }).get? b = some o := fun b o e => Heap.get?_push_of_some _ e;refine S.move ⟨rfl,rfl,rfl⟩ (fun a o _ e => k a o e) (fun a o _ _ e _ _ => ⟨o.slots,k a _ e⟩) (fun a _ o _ e => ⟨o,k a o e⟩) (fun a o _ _ _ e => k a o e) (fun a o _ _ sl e => ⟨sl,k a _ e⟩) pD.Zi.toFrz2 ?_ ?_
 ·intro a ys e;by_cases q : a = s.heap.objs.size
  ·subst q;rw [aC] at e; obtain rfl := aJn e;exact ⟨vs,0,IsL.new _ _,R.mono .Zi⟩
  ·rw [iD _ _ q] at e;obtain ⟨ws,n,h1,h2⟩ := S.mem a ys e;exact ⟨ws,n,h1.push _,h2.mono .Zi⟩
 ·intro a e;by_cases q : a = s.heap.objs.size
  ·right
   cases hq : s.heap.get? a with
   | none => rfl
   | some o => subst q; exact absurd (Heap.lt_size hq) (aLe _)
  ·rw [iD _ _ q] at e; exact .inl e
theorem pD.setAt {h : Heap} {σ : aW} {a : Addr} {xs ys : List V} {f : Array Value -> Array Value} (e : σ a = some xs) {items : Array Value} {m : Nat} (hl : IsL h a items m) : pD h σ (h.update a (Obj.mapSeq f)) (aH σ a ys) := by
 refine { tup := fun {b items n} x => ?_,lst := fun {b items n} x y => ?_,fld := fun b o fs x d => ?_ }
 ·refine x.update_other (fun q => ?_) _;subst q; exact Xb hl x
 ·have q : a ≠ b := fun q => by subst q; rw [e] at y; exact tD y
  exact ⟨x.update_other q _,(iD _ _ (Ne.symm q)).trans y⟩
 ·refine (Heap.get?_update_other _ _ (fun q => ?_)).trans x;subst q; have := hl.symm.trans x; obtain rfl := aJn this; cases d
theorem gG.setAt {G : eX} {c : Cfg G} {ρ : eE} {σ : aW} {s : Shared} {a : Addr} {xs ys : List V} {us vs : List Value} {n : Nat} {tk : Nat} {f : Array Value -> Array Value} (S : gG c ρ σ s) (e : σ a = some xs)
  (hl : IsL s.heap a us.toArray n) (hf : f us.toArray = vs.toArray) (R : cM s.heap σ vs ys) :
  gG c ρ (aH σ a ys) { s with heap := s.heap.update a (Obj.mapSeq f),toks := tk } := by
 have hne : ∀ b,b ≠ a -> (s.heap.update a (Obj.mapSeq f)).get? b = s.heap.get? b := fun b hb => Heap.get?_update_other _ _ (Ne.symm hb);have hB := (S.dom a (by rw [e]; exact fun q => by exact tD q));have hu := hl.update f;rw [hf] at hu;refine S.move ⟨rfl,rfl,rfl⟩ (fun b o hb e' => ?_) (fun b o es ep e' hd hL => ?_) (fun b _ o _ e' => ?_) (fun b o hb hw _ e' => ?_) (fun b o hb hw sl e' => ?_) (pD.setAt e hl).toFrz2 ?_ ?_
 ·rw [hne b (fun q => by subst q; rw [hB.1] at hb; exact aK hb)]; exact e'
 ·refine ⟨o.slots,?_⟩;rw [hne b (fun q => ?_)]
  ·exact e'
  ·rcases hL with h | h
   ·exact S.Mz.1 e (q ▸ h)
   ·exact S.Mz.2 e (q ▸ h)
 ·by_cases q : b = a
  ·subst q; exact ⟨_,hu⟩
  ·exact ⟨o,(hne b q).trans e'⟩
 ·rw [hne b (fun q => ?_)]
  ·exact e'
  ·subst q;rcases hB.2 with h | h
   ·exact hw h
   ·rw [h] at hb; exact aK hb
 ·refine ⟨sl,?_⟩;rw [hne b (fun q => ?_)]
  ·exact e'
  ·subst q;rcases hB.2 with h | h
   ·exact hw h
   ·rw [h] at hb; exact aK hb
 ·intro b zs e';by_cases q : b = a
  ·subst q;rw [aC] at e'; obtain rfl := aJn e';exact ⟨vs,_,hu,R.mono (.setAt e hl)⟩
  ·rw [iD _ _ q] at e';obtain ⟨ws,n,h1,h2⟩ := S.mem b zs e';exact ⟨ws,n,(hne b q).trans h1,h2.mono (.setAt e hl)⟩
 ·intro b e';by_cases q : b = a
  ·subst q; left; rw [e]; exact fun q => by exact tD q
  ·rw [iD _ _ q] at e'; exact .inl e'
theorem gG.aEz {G : eX} {c : Cfg G} {ρ : eE} {σ : aW} {s s' : Shared} {a : Addr} {o : Obj} (S : gG c ρ σ s) (fx : s'.gens = s.gens /\ s'.drawn = s.drawn /\ s'.os = s.os)
  (hs : Heap.SameBut a s.heap s'.heap) (ho : s.heap.get? a = some o) (hx : ∃ o',s'.heap.get? a = some o') (hd : ∃ fs,o.data = .fields fs) (he : c.he.get? a = .none) (hB : c.B.get? a = .none) : gG c ρ σ s' := by
 obtain ⟨fs,hd⟩ := hd;have fz : Frz2 s.heap σ s'.heap σ := ⟨fun {b items n} x => (hs.2 b (fun q => by subst q; have := ho.symm.trans x; obtain rfl := aJn this; cases hd)).trans x,fun {b items n} x y => ⟨(hs.2 b (fun q => by subst q; have := ho.symm.trans x; obtain rfl := aJn this; cases hd)).trans x,y⟩⟩;refine S.move fx (fun b x hb e => ?_) (fun b x es ep e hx _ => ?_) (fun b _ x _ e => ?_) (fun b x hb _ _ e => ?_) (fun b x hb _ sl e => ?_) fz ?_ (fun b e => .inl e)
 ·exact (hs.2 b (fun q => by subst q; rw [hB] at hb; exact aK hb)).trans e
 ·refine ⟨x.slots,(hs.2 b (fun q => ?_)).trans e⟩;subst q; have := ho.symm.trans e; obtain rfl := aJn this; rw [hd] at hx; cases hx
 ·by_cases q : b = a
  ·subst q; exact hx
  ·exact ⟨x,(hs.2 b q).trans e⟩
 ·exact (hs.2 b (fun q => by subst q; rw [he] at hb; exact aK hb)).trans e
 ·exact ⟨sl,(hs.2 b (fun q => by subst q; rw [he] at hb; exact aK hb)).trans e⟩
 ·intro b xs e;obtain ⟨vs,n,h1,h2⟩ := S.mem b xs e;exact ⟨vs,n,(hs.2 b (fun q => by subst q; have := ho.symm.trans h1; obtain rfl := aJn this; cases hd)).trans h1,h2.Ec fz⟩
theorem gG.aFa {G : eX} {c : Cfg G} {ρ : eE} {σ : aW} {s s' : Shared} {a : Addr} {o : Obj} (S : gG c ρ σ s) (fx : s'.gens = s.gens /\ s'.drawn = s.drawn /\ s'.os = s.os)
  (hs : Heap.ExtBut a s.heap s'.heap) (ho : s.heap.get? a = some o) (hd : ∃ fs,o.data = .fields fs) (he : c.he.get? a = .none) (hB : c.B.get? a = .none) : gG c ρ σ s' := by
 obtain ⟨fs,hd⟩ := hd;have fz : Frz2 s.heap σ s'.heap σ := ⟨fun {b items n} x => hs b _ (fun q => by subst q; have := ho.symm.trans x; obtain rfl := aJn this; cases hd) x,fun {b items n} x y => ⟨hs b _ (fun q => by subst q; have := ho.symm.trans x; obtain rfl := aJn this; cases hd) x,y⟩⟩;refine S.move fx (fun b x hb e => ?_) (fun b x es ep e hx _ => ?_) (fun b _ x hb e => ?_) (fun b x hb _ _ e => ?_) (fun b x hb _ sl e => ?_) fz ?_ (fun b e => .inl e)
 ·exact hs b _ (fun q => by subst q; rw [hB] at hb; exact aK hb) e
 ·refine ⟨x.slots,hs b _ (fun q => ?_) e⟩;subst q; have := ho.symm.trans e; obtain rfl := aJn this; rw [hd] at hx; cases hx
 ·exact ⟨x,hs b _ (fun q => by subst q; rw [he] at hb; exact aK hb) e⟩
 ·exact hs b _ (fun q => by subst q; rw [he] at hb; exact aK hb) e
 ·exact ⟨sl,hs b _ (fun q => by subst q; rw [he] at hb; exact aK hb) e⟩
 ·intro b xs e;obtain ⟨vs,n,h1,h2⟩ := S.mem b xs e;exact ⟨vs,n,hs b _ (fun q => by subst q; have := ho.symm.trans h1; obtain rfl := aJn this; cases hd) h1,h2.Ec fz⟩
theorem pD.after {h jH Ci : Heap} {σ aG : aW} (F : pD h σ jH aG) (k : ∀ b o,h.get? b = some o -> jH.get? b = some o -> Ci.get? b = some o) : pD h σ Ci aG :=
 { tup := fun x => k _ _ x (F.tup x),lst := fun x y => ⟨k _ _ x (F.lst x y).1,(F.lst x y).2⟩,fld := fun a o fs e d => k _ _ e (F.fld a o fs e d) }
inductive Has : eE -> Str -> V -> Prop
 | here {x : Str} {v : V} {r : eE} : Has ((x,some v) :: r) x v
 | there {p : Str × Option V} {x : Str} {v : V} {r : eE} : Has r x v -> Has (p :: r) x v
inductive Put : eE -> Str -> V -> eE -> Prop
 | here {x : Str} {u : Option V} {v : V} {r : eE} : Put ((x,u) :: r) x v ((x,some v) :: r)
 | there {p : Str × Option V} {x : Str} {v : V} {r r' : eE} : Put r x v r' -> Put (p :: r) x v (p :: r')
theorem Has.mem {ρ : eE} {x : Str} {v : V} (h : Has ρ x v) : (x,some v) ∈ ρ := by
 induction h with
 | here => exact .head _
 | there _ ih => exact .tail _ ih
theorem Put.names {ρ ρ' : eE} {x : Str} {v : V} (h : Put ρ x v ρ') : ρ'.map (·.1) = ρ.map (·.1) := by
 induction h with
 | here => rfl
 | there _ ih => simp only [aLf,ih]
theorem Put.mem {ρ ρ' : eE} {x : Str} {v : V} (h : Put ρ x v ρ') : (x,some v) ∈ ρ' := by
 induction h with
 | here => exact .head _
 | there _ ih => exact .tail _ ih
theorem Put.old {ρ ρ' : eE} {x : Str} {v : V} (h : Put ρ x v ρ') (nd : (ρ.map (·.1)).Nodup) : ∀ y u,(y,u) ∈ ρ' -> (y = x /\ u = some v) \/ (y ≠ x /\ (y,u) ∈ ρ) := by
 induction h with
 | here =>
  intro y u m;rcases aKf.mp m with q | q
  ·cases q; exact .inl ⟨rfl,rfl⟩
  ·refine .inr ⟨fun z => ?_,.tail _ q⟩;subst z;exact (aOm.mp nd).1 (aMl.mpr ⟨_,q,rfl⟩)
 | @there p x v r r' h ih =>
  intro y u m;rw [aLf,aOm] at nd;rcases aKf.mp m with q | q
  ·subst q;refine .inr ⟨fun z => ?_,.head _⟩;have z : y = x := z;subst z;have := aNg (f := aLz) h.mem;have hn : r'.map aLz = r.map aLz := h.names;rw [hn] at this;exact nd.1 this
  ·rcases ih nd.2 y u q with z | z
   ·exact .inl z
   ·exact .inr ⟨z.1,.tail _ z.2⟩
theorem gG.Cu {G : eX} {c : Cfg G} {ρ : eE} {σ : aW} {s : Shared} (S : gG c ρ σ s) {x : Str} {v : Option V} (h : (x,v) ∈ ρ) : c.env.kindOf x = some .local /\ (x == ("__debug__" : Str)) = false :=
 S.ok.locals x (S.names ▸ aMl.mpr ⟨_,h,rfl⟩)
theorem gG.store {G : eX} {c : Cfg G} {ρ ρ' : eE} {σ : aW} {s : Shared} {h' : Heap} {m : Str -> Option Value} {x : Str} {u : Value} {v : V} {tk : Nat} (S : gG c ρ σ s) (P : Put ρ x v ρ') (R : Rep s.heap σ u v)
  (hm : s.heap.Ns c.env.locals m) (hq : ∀ x v,(x,some v) ∈ ρ -> ∃ u,m x = some u /\ Rep s.heap σ u v) (hn : h'.Ns c.env.locals (fun y => if y = x then some u else m y)) (hs : Heap.SameBut c.env.locals s.heap h') :
  gG c ρ' σ { s with heap := h',toks := tk } /\ pD s.heap σ h' σ := by
 obtain ⟨oL,es,ep,hL,hLd,_⟩ := hm;have fz : pD s.heap σ h' σ := { tup := fun {b items n} x => (hs.2 b (fun q => by subst q; have := hL.symm.trans x; obtain rfl := aJn this; cases hLd)).trans x,lst := fun {b items n} x y => ⟨(hs.2 b (fun q => by subst q; have := hL.symm.trans x; obtain rfl := aJn this; cases hLd)).trans x,y⟩,fld := fun b o fs x d => (hs.2 b (fun q => by subst q; have := hL.symm.trans x; obtain rfl := aJn this; rw [hLd] at d; cases d)).trans x };refine ⟨⟨S.ok,fun b o e => (hs.2 b fun q => by subst q; rw [S.ok.BL] at e; exact aK e).trans (S.base b o e),?_,⟨_,hn,?_⟩,P.names.trans S.names,?_,?_,S.dom,S.fixed⟩,fz⟩
 ·intro env he;obtain ⟨hk,L,o,es',ep',h1,h2,h3,h4⟩ := S.frames env he;by_cases q : L = c.env.locals
  ·subst q;obtain ⟨o',es',ep',e1,e2,_⟩ := hn;exact ⟨hk,_,o',es',ep',h1,h2,e1,e2⟩
  ·exact ⟨hk,L,o,es',ep',h1,h2,(hs.2 L q).trans h3,h4⟩
 ·intro y w hy;rcases P.old (S.names ▸ S.ok.nodup) y _ hy with ⟨rfl,q⟩ | ⟨q,hy⟩
  ·obtain rfl := aJn q; exact ⟨u,if_pos rfl,R.mono fz⟩
  ·obtain ⟨u',h1,h2⟩ := hq y w hy;exact ⟨u',(if_neg q).trans h1,h2.mono fz⟩
 ·intro a o e;obtain ⟨⟨o',ho'⟩,k⟩ := S.keep a o e;have q : a ≠ c.env.locals := fun q => by subst q; rw [S.ok.heL] at e; exact aK e
  refine ⟨⟨o',(hs.2 a q).trans ho'⟩,fun nW => ?_⟩;obtain ⟨k1,sl,k2⟩ := k nW;exact ⟨fun nF => (hs.2 a q).trans (k1 nF),sl,(hs.2 a q).trans k2⟩
 ·intro a xs e;obtain ⟨vs,n,h1,h2⟩ := S.mem a xs e;exact ⟨vs,n,(hs.2 a (S.Mz.1 e)).trans h1,h2.mono fz⟩
theorem gG.freeze {G : eX} {c : Cfg G} {ρ : eE} {σ : aW} {s : Shared} {a : Addr} (S : gG c ρ σ s) : gG c ρ (uO σ a) s /\ pD s.heap σ s.heap (uO σ a) := by
 have fz : pD s.heap σ s.heap (uO σ a) := { tup := fun x => x,lst := fun {b items n} x y => ⟨x,by unfold uO; split <;> first | rfl | exact y⟩,fld := fun _ _ _ e _ => e };refine ⟨S.move ⟨rfl,rfl,rfl⟩ (fun _ _ _ e => e) (fun _ o _ _ e _ _ => ⟨o.slots,e⟩) (fun _ _ o _ e => ⟨o,e⟩) (fun _ _ _ _ _ e => e) (fun _ _ _ _ sl e => ⟨sl,e⟩) fz.toFrz2 ?_ ?_,fz⟩
 ·intro b xs e;unfold uO at e; split at e
  ·exact aK e
  ·obtain ⟨vs,n,h1,h2⟩ := S.mem b xs e; exact ⟨vs,n,h1,h2.mono fz⟩
 ·intro b e;unfold uO at e; split at e
  ·exact absurd rfl e
  ·exact .inl e
end Mine
namespace Mine
variable {G : eX}
inductive Air (c : Cfg G) (a : Addr) (cls : Value) (h : Heap) : Prop
 | fresh (oe : Obj) (vs : Array Value) (a0 : Value) : h.get? a = some oe -> oe.cls = cls -> oe.data = .fields vs -> vs[0]? = some a0 -> vs[1]? = some .none -> c.B.get? a = .none -> Air c a cls h
 | flying (a0 : Value) : Heap.FlyingW c.B (c.env :: c.outer) a cls a0 h -> Air c a cls h
 | held (a0 : Value) : Heap.HeldW c.B (c.env :: c.outer) a cls a0 c.env.locals h -> Air c a cls h
structure jE (c : Cfg G) (e : Value) (s : Shared) : Prop where
 ok : Ql c
 ex : Ex2 fun a cls => Py (e = .ref a) (cls ∈ G.excs) (Air c a cls s.heap)
 base : c.B.StaysIn s.heap
 frames : Qk c.B s.heap (c.env :: c.outer)
 ns : ∃ m,s.heap.Ns c.env.locals m
 up : ∀ a o es ep,c.he.get? a = some o -> o.data = .dict es ep -> rH c.outer a -> ∃ sl,s.heap.get? a = some { o with slots := sl }
 fixed : s.gens = c.r0.gens /\ s.drawn = c.r0.drawn /\ s.os = c.r0.os
theorem jE.to {c : Cfg G} {e : Value} {s s' : Shared} (F : jE c e s) (fx : s'.gens = s.gens /\ s'.drawn = s.drawn /\ s'.os = s.os) (hb : c.B.StaysIn s'.heap) (u : s.heap.UpToSlots s'.heap)
  (hx : Ex2 fun a cls => Py (e = .ref a) (cls ∈ G.excs) (Air c a cls s'.heap)) : jE c e s' :=
 ⟨F.ok,hx,hb,F.frames.slots u,let ⟨m,h⟩ := F.ns; ⟨m,u.ns h⟩,fun a o es ep h1 h2 h3 => by
  obtain ⟨sl,h4⟩ := F.up a o es ep h1 h2 h3;obtain ⟨sl',h5⟩ := u a _ h4 fun vs q => by rw [h2] at q; cases q
  exact ⟨sl',h5⟩,⟨fx.1.trans F.fixed.1,fx.2.1.trans F.fixed.2.1,fx.2.2.trans F.fixed.2.2⟩⟩
theorem Gl {M : Model} {A : Around} {E : Value -> Shared -> Prop} {s : Shared} {base : Heap} {l : List Env} {e L : Addr} {cls a0 : Value} {Q : Unit -> Shared -> Prop} (hh : Heap.HeldW base l e cls a0 L s.heap)
  (h : ∀ h',Heap.HeldW base l e cls a0 L h' -> s.heap.UpToSlots h' -> Q () { s with heap := h' }) : wpAny M A (setFlight (.ref e) (some L)) Q E s := by
 obtain ⟨hkb,hen,hl,⟨oe,vs,T,oT,ts,he,hcls,hd,h1,hnT,hTe,hT,hdT,h3⟩⟩ := hh;have hsz3 : 3 < ts.size := (aMg.mp h3).1;have other : ∀ b,b ≠ T -> (s.heap.update T (Obj.mapFields (·.setIfInBounds 3 ((some L : Option Addr).elim Value.none fun f => rawInt f)))).get? b = s.heap.get? b :=
  fun b hb => Heap.get?_update_other _ _ (Ne.symm hb)
 have noRecord : ∀ b o,s.heap.get? b = some o -> (∀ vs,o.data ≠ .fields vs) -> b ≠ T := fun b o hb hnf q => by
  rw [q,hT] at hb; injection hb with hb; subst hb; exact hnf ts hdT
 unfold setFlight;refine wpAny_bind (wpAny_field he hd h1 ?_);rw [if_pos (show (Value.ref T != Value.none) = true from by simp)];refine wpAny_setField hT hdT hsz3 (h _ ⟨fun b o hbo => (other b fun q => by rw [q,hnT] at hbo; exact aK hbo).trans (hkb b o hbo),hen,
  hl.of_keeps fun b o hb hnf => ⟨o,(other b (noRecord b o hb hnf)).trans hb,rfl⟩,?_⟩ fun b o hb hnf => ⟨o.slots,(other b (noRecord b o hb hnf)).trans hb⟩)
 exact ⟨oe,vs,T,_,_,(other e (Ne.symm hTe)).trans he,hcls,hd,h1,hnT,hTe,Heap.get?_update_self _ hT (Obj.isFreed_of_fields (Obj.data_mapFields hdT _)),Obj.data_mapFields hdT _,by simp [hsz3]⟩
theorem jE.note {c : Cfg G} {e : Value} {s : Shared} {A : Around} {M : Model} {E : Value -> Shared -> Prop} {Q : Unit -> Shared -> Prop} (F : jE c e s) (hA : A.frames = some (c.env :: c.outer))
  (h : ∀ a cls a0 s',e = .ref a -> cls ∈ G.excs -> Heap.HeldW c.B (c.env :: c.outer) a cls a0 c.env.locals s'.heap -> jE c e s' -> Q () s') : wpAny M A (noteFrame e c.env) Q E s := by
 obtain ⟨a,cls,rfl,hc,qp⟩ := F.ex;have go : ∀ a0 h',Heap.HeldW c.B (c.env :: c.outer) a cls a0 c.env.locals h' -> s.heap.UpToSlots h' -> Q () { s with heap := h' } := fun a0 h' hh hu =>
  h a cls a0 _ rfl hc hh (F.to ⟨rfl,rfl,rfl⟩ hh.1 hu ⟨a,cls,rfl,hc,.held a0 hh⟩)
 cases qp with
 | fresh oe vs a0 h1 h2 h3 h4 h5 h6 =>
  unfold noteFrame;simp only [F.ok.frame];refine wpAny_bind (wpAny_field h1 h3 h5 ?_);rw [if_neg (by decide)];exact wpAny_entryW hA F.frames.fun F.ok.frame h1 F.base h6 h3 (aMg.mp h5).1 h4 fun h' hN => by
   obtain ⟨k1,k2,k3,k4⟩ := hN;subst h2;exact go a0 h' ⟨k1,h6,k2,k3⟩ k4
 | flying a0 h1 => exact wpAny_looks_onW hA F.ok.frame h1 fun h' k1 k2 => go a0 h' k1 k2
 | held a0 h1 => exact wpAny_noteFrame_againW F.ok.frame h1.2.2.2 (go a0 s.heap h1 (.refl _))
theorem jE.passes {c : Cfg G} {e : Value} {s : Shared} {A' A : Around} {M : Model} {E : Value -> Shared -> Prop} (F : jE c e s) (hA : A'.frames = some (c.env :: c.outer))
  (h : ∀ s',jE c e s' -> E e s') : notedBy M A' c.env (cameBackBy M A c.env E) e s := by
 unfold notedBy;refine F.note hA fun a cls a0 s' he hc hh F' => ?_;subst he;unfold cameBackBy;obtain ⟨oe,vs,T,oT,ts,he,hcls,hd,h1,r⟩ := id hh.2.2.2;refine wpAny_bind (wpAny_field he hd h1 ?_);rw [if_neg (by simp)];rw [F.ok.frame];exact Gl hh fun h' k1 k2 => h _ (F'.to ⟨rfl,rfl,rfl⟩ k1.1 k2 ⟨a,cls,rfl,hc,.held a0 k1⟩)
theorem jE.leave {c d : Cfg G} {e : Value} {s s₀ : Shared} {A : Around} {M : Model} {E : Value -> Shared -> Prop} {Q : Unit -> Shared -> Prop} {ρ : eE} {σ : aW} (F : jE d e s) (S : gG c ρ σ s₀)
  (hA : A.frames = some (d.env :: d.outer)) (ho : d.outer = c.env :: c.outer) (hB : d.B = c.B) (hhe : d.he = s₀.heap) (hr : d.r0.gens = c.r0.gens /\ d.r0.drawn = c.r0.drawn /\ d.r0.os = c.r0.os)
  (h : ∀ s',jE c e s' -> Q () s') : wpAny M A (leaving d.env e) Q E s := by
 obtain ⟨a,cls,rfl,hc,qp⟩ := F.ex;have go : ∀ a0 h',Heap.FlyingW c.B (c.env :: c.outer) a cls a0 h' -> s.heap.UpToSlots h' -> Q () { s with heap := h' } := fun a0 h' hh hu => by
  refine h _ ⟨S.ok,⟨a,cls,rfl,hc,.flying a0 hh⟩,hh.1,?_,?_,?_,⟨F.fixed.1.trans hr.1,F.fixed.2.1.trans hr.2.1,F.fixed.2.2.trans hr.2.2⟩⟩
  ·intro env he;have := F.frames.slots hu env (.tail _ (ho ▸ he));rw [hB] at this; exact this
  ·obtain ⟨m,⟨o,es,ep,h1,h2,h3⟩,_⟩ := S.locs;obtain ⟨sl,h4⟩ := F.up c.env.locals o es ep (hhe ▸ h1) h2 ⟨c.env,ho ▸ .head _,S.ok.frame⟩;exact ⟨m,hu.ns ⟨_,es,ep,h4,h2,h3⟩⟩
  ·intro b o es ep h1 h2 h3;obtain ⟨⟨o',ho'⟩,k⟩ := S.keep b o h1;have nW : ∃ sl,s₀.heap.get? b = some { o with slots := sl } := by
    by_cases w : c.W b
    ·obtain ⟨items,n,q⟩ := S.ok.WL b w;have := q.symm.trans h1; obtain rfl := aJn this; cases h2
    ·exact (k w).2
   obtain ⟨sl,h4⟩ := nW;obtain ⟨sl',h5⟩ := F.up b { o with slots := sl } es ep (by rw [hhe]; exact h4) h2 (let ⟨env,he,hf⟩ := h3; ⟨env,ho ▸ .tail _ he,hf⟩);obtain ⟨aHu,h6⟩ := hu b _ h5 fun vs q => by rw [h2] at q; cases q
   exact ⟨aHu,h6⟩
 cases qp with
 | fresh oe vs a0 h1 h2 h3 h4 h5 h6 =>
  refine wpAny_leaving_firstW hA F.frames.fun F.ok.frame h1 F.base h6 h3 h5 h4 fun h' hL => ?_;obtain ⟨k1,k2,k3,k4⟩ := hL;subst h2;rw [hB] at k1 k2 k3 h6;rw [ho] at k2;exact go a0 h' ⟨k1,h6,k2.2.2,k3⟩ k4
 | flying a0 h1 =>
  refine wpAny_leaves_onW hA F.ok.frame h1 fun h' k1 k2 => go a0 h' ?_ k2;rw [hB,ho] at k1; exact k1
 | held a0 h1 =>
  unfold leaving;refine wpAny_bind (wpAny_noteFrame_againW F.ok.frame h1.2.2.2 ?_);refine wpAny_landsW h1 fun h' hfl hup => go a0 h' ?_ hup;obtain ⟨k1,k2,⟨_,_,k3⟩,k4⟩ := hfl;rw [hB] at k1 k2 k3 k4;rw [ho] at k3;exact ⟨k1,k2,k3,k4⟩
end Mine
namespace Mine
variable {G : eX}
noncomputable def AtS {α β : Type} (c : Cfg G) (t : Sem α) (rep : Heap -> aW -> α -> β -> Prop) (s : Shared) (σ : aW) (Q : β -> eE -> aW -> Prop) (X : Prop) : Prop :=
 ∀ (Q' : α -> Shared -> Prop) (E' : Value -> Shared -> Prop),
  (∀ a b s' ρ' σ',gG c ρ' σ' s' -> pD s.heap σ s'.heap σ' -> rep s'.heap σ' a b -> Q b ρ' σ' -> Q' a s') ->
  (∀ e s',X -> jE c e s' -> E' e s') -> wpAny (model G.prog G.w) c.A t Q' E' s
noncomputable def KR {α β : Type} (c : Cfg G) (t : Sem α) (rep : Heap -> aW -> α -> β -> Prop) (s : Shared) (ρ : eE) (σ : aW) (Q : β -> aW -> Prop) (X : Prop) : Prop :=
 ∀ (Q' : α -> Shared -> Prop) (E' : Value -> Shared -> Prop),
  (∀ a b s' σ',gG c ρ σ' s' -> pD s.heap σ s'.heap σ' -> rep s'.heap σ' a b -> Q b σ' -> Q' a s') ->
  (∀ e s',X -> jE c e s' -> E' e s') -> wpAny (model G.prog G.w) c.A t Q' E' s
noncomputable def WE (c : Cfg G) (e : Expr) (ρ : eE) (σ : aW) (Q : KV) (X : Prop) : Prop :=
 ∀ s,gG c ρ σ s -> KR c (eval e c.env) Rep s ρ σ Q X
noncomputable def WB (c : Cfg G) (e : Expr) (ρ : eE) (σ : aW) (Q : Bool -> aW -> Prop) (X : Prop) : Prop :=
 ∀ s,gG c ρ σ s -> KR c (isTrue e c.env (eval e c.env)) (fun _ _ a b => a = b) s ρ σ Q X
noncomputable def JD (c : Cfg G) (es : List Expr) (ρ : eE) (σ : aW) (Q : List V -> aW -> Prop) (X : Prop) : Prop :=
 ∀ pos s,gG c ρ σ s -> KR c (spliced (backTo pos (starEach es c.env))) cM s ρ σ Q X
noncomputable def WO {α β : Type} (c : Cfg G) (rep : Heap -> aW -> α -> β -> Prop) (t : List Value -> Sem α) (xs : List V) (ρ : eE) (σ : aW) (Q : β -> aW -> Prop) (X : Prop) : Prop :=
 ∀ s,gG c ρ σ s -> ∀ vs,cM s.heap σ vs xs -> KR c (t vs) rep s ρ σ Q X
inductive Fl where
 | next | brk | cont
 | ret (x : V)
inductive Qm (h : Heap) (σ : aW) : Flow -> Fl -> Prop
 | next : Qm h σ .next .next
 | brk : Qm h σ .brk .brk
 | cont : Qm h σ .cont .cont
 | ret {v : Value} {x : V} : Rep h σ v x -> Qm h σ (.ret v) (.ret x)
noncomputable def WS (c : Cfg G) (ss : List Stmt) (ρ : eE) (σ : aW) (Q : Fl -> eE -> aW -> Prop) (X : Prop) : Prop :=
 ∀ s,gG c ρ σ s -> AtS c (execs ss c.env) Qm s σ Q X
noncomputable def WT (c : Cfg G) (st : Stmt) (ρ : eE) (σ : aW) (Q : Fl -> eE -> aW -> Prop) (X : Prop) : Prop :=
 ∀ s,gG c ρ σ s -> AtS c (exec st c.env) Qm s σ Q X
variable {c : Cfg G} {ρ : eE} {σ : aW} {X : Prop}
theorem AtS.mono {α β : Type} {t : Sem α} {rep : Heap -> aW -> α -> β -> Prop} {s : Shared} {Q bT : β -> eE -> aW -> Prop} {lU : Prop} (h : AtS c t rep s σ Q X) (hQ : ∀ b ρ' σ',Q b ρ' σ' -> bT b ρ' σ') (hX : X -> lU) : AtS c t rep s σ bT lU :=
 fun Q' E' h1 h2 => h Q' E' (fun a b s' ρ' σ' S F r q => h1 a b s' ρ' σ' S F r (hQ _ _ _ q)) (fun e s' x f => h2 e s' (hX x) f)
theorem KR.mono {α β : Type} {t : Sem α} {rep : Heap -> aW -> α -> β -> Prop} {s : Shared} {Q bT : β -> aW -> Prop} {lU : Prop} (h : KR c t rep s ρ σ Q X) (hQ : ∀ b σ',Q b σ' -> bT b σ') (hX : X -> lU) : KR c t rep s ρ σ bT lU :=
 fun Q' E' h1 h2 => h Q' E' (fun a b s' σ' S F r q => h1 a b s' σ' S F r (hQ _ _ q)) (fun e s' x f => h2 e s' (hX x) f)
theorem WE.mono {e : Expr} {Q bT : KV} {lU : Prop} (h : WE c e ρ σ Q X) (hQ : ∀ b σ',Q b σ' -> bT b σ') (hX : X -> lU) : WE c e ρ σ bT lU :=
 fun s S => (h s S).mono hQ hX
theorem WB.mono {e : Expr} {Q bT : Bool -> aW -> Prop} {lU : Prop} (h : WB c e ρ σ Q X) (hQ : ∀ b σ',Q b σ' -> bT b σ') (hX : X -> lU) : WB c e ρ σ bT lU :=
 fun s S => (h s S).mono hQ hX
theorem WS.mono {ss : List Stmt} {Q bT : Fl -> eE -> aW -> Prop} {lU : Prop} (h : WS c ss ρ σ Q X) (hQ : ∀ b ρ' σ',Q b ρ' σ' -> bT b ρ' σ') (hX : X -> lU) : WS c ss ρ σ bT lU :=
 fun s S => (h s S).mono hQ hX
theorem gG.tok {s : Shared} (S : gG c ρ σ s) (tk : Nat) : gG c ρ σ { s with toks := tk } := S.ext ⟨rfl,rfl,rfl⟩ fun _ _ e => e
theorem KY {x : Str} {pos : Pos} {v : V} {Q : KV} (h : Has ρ x v) (q : Q v σ) : WE c (.Name x pos) ρ σ Q X := fun s S Q' E' hQ hE => by
 obtain ⟨m,hn,hm⟩ := S.locs;obtain ⟨u,hu,r⟩ := hm x v h.mem;obtain ⟨k1,k2⟩ := S.Cu h.mem;exact wpAny_Name (wpAny_loadName_local S.ok.kind k1 hn hu (hQ u v s σ S (.refl _ _) r q)) k2
noncomputable def GV (G : eX) (x : Str) (v : V) : Prop := ∃ u,G.at x u /\ ∀ h σ,(∀ b o,G.h₀.get? b = some o -> h.get? b = some o) -> (∀ a,σ a ≠ .none -> G.h₀.get? a = .none) -> Rep h σ u v
theorem gG.h0 {s : Shared} (S : gG c ρ σ s) : G.h₀.StaysIn s.heap := fun b o e => S.base b o (S.ok.hB b o e)
theorem gG.aHv {s : Shared} (S : gG c ρ σ s) : ∀ a,σ a ≠ .none -> G.h₀.get? a = .none := fun a h => by
 cases q : G.h₀.get? a with
 | none => rfl
 | some o => have := S.ok.hB a o q; rw [(S.dom a h).1] at this; exact aK this
theorem jJ {x : Str} {pos : Pos} {v : V} {Q : KV} (hk : x ∈ c.gn) (h : GV G x v) (q : Q v σ) : WE c (.Name x pos) ρ σ Q X := fun s S Q' E' hQ hE => by
 obtain ⟨u,hu,r⟩ := h;obtain ⟨k1,k2⟩ := S.ok.gn x hk;have hq := hQ u v s σ S (.refl _ _) (r s.heap σ S.h0 S.aHv) q;have g1 : s.heap.Ns c.env.globals G.mg := by rw [S.ok.globals]; exact G.g.keeps S.h0
 have g2 : s.heap.Ns c.env.builtins G.mb := by rw [S.ok.builtins]; exact G.b.keeps S.h0
 refine Calls.Name_function_global S.ok.kind k1 ?_ k2;rcases hu with hu | ⟨h1,h2⟩
 ·exact Calls.loadGlobal_global g1 hu hq
 ·exact Calls.loadGlobal_builtin g1 h1 g2 h2 hq
theorem qt {i : Int} {k : Nat} {pos : Pos} {Q : KV} (q : Q (.int i) σ) : WE c (.Constant (.int i) k pos) ρ σ Q X := fun s S Q' E' hQ hE =>
 wpAny_Constant_int (hQ _ _ _ σ (S.tok _) (.refl _ _) (.int i _) q)
theorem qu {i : Str} {k : Nat} {pos : Pos} {Q : KV} (q : Q (.str i) σ) : WE c (.Constant (.str i) k pos) ρ σ Q X := fun s S Q' E' hQ hE =>
 Calls.Constant_str (hQ _ _ _ σ (S.tok _) (.refl _ _) (.str i _) q)
theorem I3 {i : Bool} {k : Nat} {pos : Pos} {Q : KV} (q : Q (.bool i) σ) : WE c (.Constant (.bool i) k pos) ρ σ Q X := fun s S Q' E' hQ hE =>
 Constant_bool (hQ _ _ _ σ S (.refl _ _) (.bool i) q)
theorem I4 {k : Nat} {pos : Pos} {Q : KV} (q : Q .none σ) : WE c (.Constant .none k pos) ρ σ Q X := fun s S Q' E' hQ hE =>
 Constant_none (hQ _ _ _ σ S (.refl _ _) .none q)
theorem KZ {l r : Expr} {op : Operator} {pos : Pos} {Q : KV}
  (h : WE c l ρ σ (fun x aG => WE c r ρ aG (fun y bN => WO c Rep (fun vs => binaryOp op (vs.getD 0 .none) (vs.getD 1 .none)) [x,y] ρ bN Q X) X) X) : WE c (.BinOp l op r pos) ρ σ Q X := fun s S Q' E' hQ hE => by
 refine wpAny_BinOp (h s S _ _ (fun a x aQ aG bC bO bQ bF => ?_) hE);refine bF aQ bC _ _ (fun b y cV bN dY dO gB dK => ?_) hE;exact dK cV dY [a,b] (.cons (bQ.mono dO) (.cons gB .nil)) Q' E' (fun d z cN bK dF dB => hQ d z cN bK dF ((bO.trans dO).trans dB)) hE
theorem Va {l r : Expr} {op : CmpOp} {pos : Pos} {Q : KV}
  (h : WE c l ρ σ (fun x aG => WE c r ρ aG (fun y bN => WO c Rep (fun vs => compareOp op (vs.getD 0 .none) (vs.getD 1 .none)) [x,y] ρ bN Q X) X) X) (hm : behindInMarks op r = false := by with_unfolding_all rfl) : WE c (.Compare l [op] [r] pos) ρ σ Q X := fun s S Q' E' hQ hE => by
 refine wpAny_Compare1 (h s S _ _ (fun a x aQ aG bC bO bQ bF => ?_) hE) hm;refine bF aQ bC _ _ (fun b y cV bN dY dO gB dK => ?_) hE;exact dK cV dY [a,b] (.cons (bQ.mono dO) (.cons gB .nil)) Q' E' (fun d z cN bK dF dB => hQ d z cN bK dF ((bO.trans dO).trans dB)) hE
theorem Gm {l : Expr} {op : UnaryOp} {pos : Pos} {Q : KV}
  (h : WE c l ρ σ (fun x aG => WO c Rep (fun vs => unaryOp op (vs.getD 0 .none)) [x] ρ aG Q X) X) : WE c (.UnaryOp op l pos) ρ σ Q X := fun s S Q' E' hQ hE => by
 refine UnaryOp_ (h s S _ _ (fun a x aQ aG bC bO bQ bF => ?_) hE);exact bF aQ bC [a] (.cons bQ .nil) Q' E' (fun d z cN bK dF dB => hQ d z cN bK dF (bO.trans dB)) hE
@[reducible] noncomputable def LC : V -> Option Bool
 | .none => some false
 | .bool b => some b
 | .int i => some (i != 0)
 | _ => .none
theorem LK {Q : Fl -> eE -> aW -> Prop} (q : Q .next ρ σ) : WS c [] ρ σ Q X := fun s S Q' E' hQ hE =>
 wpAny_execs_nil (hQ _ _ _ ρ σ S (.refl _ _) .next q)
noncomputable def LQ (c : Cfg G) (rest : List Stmt) (Q : Fl -> eE -> aW -> Prop) (X : Prop) : Fl -> eE -> aW -> Prop
 | .next,ρ,σ => WS c rest ρ σ Q X
 | f,ρ,σ => Q f ρ σ
theorem iG {st : Stmt} {rest : List Stmt} {Q : Fl -> eE -> aW -> Prop} (h : WT c st ρ σ (LQ c rest Q X) X) : WS c (st :: rest) ρ σ Q X := fun s S Q' E' hQ hE => by
 refine wpAny_execs_cons (h s S _ _ (fun f φ aQ Al aG bC bO bQ bF => ?_) hE);cases bQ with
 | next => exact bF aQ bC Q' E' (fun d z cN vQ bK dF dB => hQ d z cN vQ bK dF (bO.trans dB)) hE
 | brk => exact hQ _ _ _ _ _ bC bO .brk bF
 | cont => exact hQ _ _ _ _ _ bC bO .cont bF
 | ret r => exact hQ _ _ _ _ _ bC bO (.ret r) bF
theorem gG.storeName {s : Shared} {x : Str} {v : V} {u : Value} {ρ' : eE} {Q' : Unit -> Shared -> Prop} {E : Value -> Shared -> Prop} (S : gG c ρ σ s) (P : Put ρ x v ρ') (R : Rep s.heap σ u v)
  (h : ∀ s',gG c ρ' σ s' -> pD s.heap σ s'.heap σ -> Q' () s') : wpAny (model G.prog G.w) c.A (PySem.storeName c.env x u) Q' E s := by
 obtain ⟨m,hn,hm⟩ := S.locs;obtain ⟨w,hw⟩ : ∃ w,(x,w) ∈ ρ := by
  have := aNg (f := aLz) P.mem;have hn : ρ'.map aLz = ρ.map aLz := P.names;rw [hn] at this;obtain ⟨⟨y,w⟩,h1,h2⟩ := aMl.mp this;have h2 : y = x := h2;exact ⟨w,h2 ▸ h1⟩
 obtain ⟨k1,_⟩ := S.Cu hw;refine wpAny_storeName_local k1 hn (fun h' hn' hs => ?_) (by rw [S.ok.kind]; rfl);obtain ⟨a,b⟩ := S.store (tk := s.toks + 1) P R hn hm hn' hs;exact h _ a b
theorem Zj {x : Str} {pos pos' : Pos} {e : Expr} {Q : Fl -> eE -> aW -> Prop} (h : WE c e ρ σ (fun v aG => ∃ ρ',Put ρ x v ρ' /\ Q .next ρ' aG) X)
  (hs : swapsWith e (some (.Name x pos')) pos.line c.env = pure false := by rfl) : WT c (.Assign [.Name x pos'] e pos) ρ σ Q X := fun s S Q' E' hQ hE => by
 refine wpAny_Assign_Name (h s S _ _ (fun a v aQ aG bC bO bQ ⟨ρ',P,bF⟩ => ?_) hE) hs;exact bC.storeName P bQ fun s' S' F' => hQ _ _ _ _ _ S' (bO.trans F') .next bF
theorem Zk {e : Expr} {pos : Pos} {Q : Fl -> eE -> aW -> Prop} (h : WE c e ρ σ (fun v aG => Q (.ret v) ρ aG) X) : WT c (.Return (some e) pos) ρ σ Q X := fun s S Q' E' hQ hE => by
 refine wpAny_Return_some (h s S _ _ (fun a v aQ aG bC bO bQ bF => ?_) hE);exact hQ _ _ _ _ _ bC bO (.ret bQ) bF
theorem aFb {test : Expr} {body orelse : List Stmt} {pos : Pos} {Q : Fl -> eE -> aW -> Prop} (h : WB c test ρ σ (fun b aG => if b then WS c body ρ aG Q X else WS c orelse ρ aG Q X) X) : WT c (.If test body orelse pos) ρ σ Q X := fun s S Q' E' hQ hE => by
 refine wpAny_If (h s S _ _ (fun a b aQ aG bC bO bQ bF => ?_) hE);subst bQ;cases a
 ·exact bF aQ bC Q' E' (fun d z cN vQ bK dF dB => hQ d z cN vQ bK dF (bO.trans dB)) hE
 ·exact bF aQ bC Q' E' (fun d z cN vQ bK dF dB => hQ d z cN vQ bK dF (bO.trans dB)) hE
noncomputable def Am (J : eE -> aW -> Prop) (Q : Fl -> eE -> aW -> Prop) : Fl -> eE -> aW -> Prop
 | .next,ρ,σ => J ρ σ
 | .cont,ρ,σ => J ρ σ
 | .brk,ρ,σ => Q .next ρ σ
 | .ret v,ρ,σ => Q (.ret v) ρ σ
theorem LR {ι : Type} (I : ι -> eE -> aW -> Prop) (μ : ι -> Nat) {test : Expr} {body : List Stmt} {pos : Pos} {Q : Fl -> eE -> aW -> Prop} (xP : ι) (h₀ : I xP ρ σ)
  (turn : ∀ i ρ σ,I i ρ σ -> WB c test ρ σ (fun b aG => if b then WS c body ρ aG (Am (fun ρ' σ' => ∃ j,μ j < μ i /\ I j ρ' σ') Q) X else Q .next ρ aG) X) : WT c (.While test body [] pos) ρ σ Q X := fun s S Q' E' hQ hE => by
 refine wpAny_While ?_;refine codeAny_whileLoop (fun n s' => ∃ i ρ' σ',μ i = n /\ gG c ρ' σ' s' /\ pD s.heap σ s'.heap σ' /\ I i ρ' σ') ?_ (μ xP) ⟨xP,ρ,σ,rfl,S,.refl _ _,h₀⟩;rintro n s' ⟨i,ρ',σ',rfl,S',F',hI⟩;have pass : ∀ e s'',X -> jE c e s'' -> notedBy (model G.prog G.w) c.A c.env (fun e s' => cameBackBy (model G.prog G.w) c.A c.env E' e s') e s'' := fun e s'' x f => f.passes f.ok.stack fun s' f' => hE _ _ x f';refine turn i ρ' σ' hI s' S' _ _ (fun a b aQ aG bC bO bQ bF => ?_) pass;subst bQ;cases a
 ·exact wpAny_execs_nil (hQ _ _ _ _ _ bC (F'.trans bO) .next bF)
 ·refine bF aQ bC _ _ (fun f φ cV Gn bN dY dO gB dK => ?_) pass;cases gB with
  | next => obtain ⟨j,h1,h2⟩ := dK; exact ⟨_,h1,j,Gn,bN,rfl,dY,(F'.trans bO).trans dO,h2⟩
  | cont => obtain ⟨j,h1,h2⟩ := dK; exact ⟨_,h1,j,Gn,bN,rfl,dY,(F'.trans bO).trans dO,h2⟩
  | brk => exact hQ _ _ _ _ _ dY ((F'.trans bO).trans dO) .next dK
  | ret r => exact hQ _ _ _ _ _ dY ((F'.trans bO).trans dO) (.ret r) dK
end Mine
namespace Mine
variable {G : eX} {c : Cfg G} {ρ : eE} {σ : aW} {X : Prop}
theorem I5 {Q : List V -> aW -> Prop} (q : Q [] σ) : JD c [] ρ σ Q X := fun pos s S Q' E' hQ hE => by
 show wpAny _ _ (spliced []) _ _ _;exact Calls.spliced_nil (hQ _ _ _ σ S (.refl _ _) .nil q)
theorem MF {e : Expr} {es : List Expr} {Q : List V -> aW -> Prop} (h : WE c e ρ σ (fun x aG => JD c es ρ aG (fun xs bN => Q (x :: xs) bN) X) X)
  (he : starEach (e :: es) c.env = (false,eval e c.env) :: starEach es c.env := by rfl) : JD c (e :: es) ρ σ Q X := fun pos s S Q' E' hQ hE => by
 rw [he];show wpAny _ _ (spliced ((false,eval e c.env) :: backTo pos (starEach es c.env))) _ _ _;refine Calls.spliced_cons (h s S _ _ (fun a x aQ aG bC bO bQ bF => ?_) hE);refine bF pos aQ bC _ _ (fun b y cV bN dY dO gB dK => ?_) hE;exact hQ _ _ _ _ dY (bO.trans dO) (.cons (bQ.mono dO) gB) dK
noncomputable def aR (c : Cfg G) (fv : Value) (xs : List V) (σ : aW) (Q : KV) (X : Prop) : Prop := ∀ ρ,WO c Rep (fun vs => call fv vs) xs ρ σ Q X
theorem aR.mono {fv : Value} {xs : List V} {Q bT : KV} {lU : Prop} (h : aR c fv xs σ Q X) (hQ : ∀ b σ',Q b σ' -> bT b σ') (hX : X -> lU) : aR c fv xs σ bT lU :=
 fun ρ s S vs R => (h ρ s S vs R).mono hQ hX
noncomputable def Xc (G : eX) (fa : Addr) : Prop := ∃ o fd,G.h₀.get? fa = some o /\ o.data = .func fd
theorem I6 {f : Str} {np pos : Pos} {e : Expr} {es : List Expr} {fa : Addr} {Q : KV} (hk : f ∈ c.gn) (hf : GV G f (.val (.ref fa))) (hfn : Xc G fa)
  (h : JD c (e :: es) ρ σ (fun xs aG => aR c (.ref fa) xs aG Q X) X)
  (he : starEach (e :: es) c.env = (false,eval e c.env) :: starEach es c.env := by rfl) : WE c (.Call (.Name f np) (e :: es) [] pos) ρ σ Q X := fun s S Q' E' hQ hE => by
 obtain ⟨o,fd,ho,hd⟩ := hfn;refine wpAny_Call_NameR (jJ (X := X) (Q := fun v σ' => v = .val (.ref fa) /\ σ' = σ) hk hf ⟨rfl,rfl⟩ s S _ _ (fun a x aQ aG bC bO bQ bF => ?_) hE);obtain ⟨rfl,rfl⟩ := bF;obtain rfl := bQ.val_inv;refine Calls.callWith_function (o := o) (fd := fd) ?_;have h' := h pos aQ bC;rw [he] at h' ⊢;refine Calls.evalArgs_plain (h' _ _ (fun vs xs cV bN dY dO gB dK => ?_) hE);exact ⟨⟨dY.h0 _ _ ho,hd⟩,dK _ cV dY vs gB Q' E' (fun d z cN bK dF dB => hQ d z cN bK dF ((bO.trans dO).trans dB)) hE⟩
noncomputable def Gb : Stmt -> Option (Str × Arguments × List Stmt × Scope)
 | .FunctionDef name args body _ _ _ scope _ _ _ => some (name,args,body,scope)
 | _ => .none
inductive aHw (G : eX) (fa : Addr) (st : Stmt) : Prop
 | mk (name : Str) (args : Arguments) (body : List Stmt) (scope : Scope) (e : Gb st = some (name,args,body,scope)) (oc : Value) (od : Option Addr) (osl : Array (Option Value)) (doc pm : Value) (an : Option Addr) (cdv ct : Value)
  (h1 : G.h₀.get? fa = some ⟨oc,od,.func (fnOf name name args body scope .none .none doc pm an cdv ct),osl⟩) (h2 : G.h₀.CodeRec cdv name)
noncomputable def Vb (ps : List Str) (xs : List V) (rest : List Str) : eE := (ps.zip xs).map (fun p => (p.1,some p.2)) ++ rest.map (fun x => (x,none))
theorem Gp {α : Type} : ∀ {l : List (Str × α)} {x : Str} {v : α},(l.map (·.1)).Nodup -> (x,v) ∈ l -> l.reverse.lookup x = some v := by
 intro l x v nd hm;have key : ∀ {l : List (Str × α)},(l.map (·.1)).Nodup -> (x,v) ∈ l -> l.lookup x = some v := by
  intro l;induction l with
  | nil => intro _ h; cases h
  | cons p r ih =>
   obtain ⟨y,u⟩ := p;intro nd hm;rw [aLf,aOm] at nd;rw [List.lookup_cons];rcases aKf.mp hm with q | q
   ·cases q; simp
   ·have : (x == y) = false := by
     rw [beq_eq_false_iff_ne];intro z; subst z;have := aNg (f := aLz) q;exact nd.1 this
    rw [this];exact ih nd.2 q
 refine key ?_ (List.mem_reverse.mpr hm);rw [List.map_reverse];exact (List.reverse_perm _).nodup_iff.mpr nd
theorem cM.zip {h : Heap} {vs : List Value} {xs : List V} {ps : List Str} {x : Str} {v : V} (r : cM h σ vs xs) (m : (x,v) ∈ ps.zip xs) : ∃ u,(x,u) ∈ ps.zip vs /\ Rep h σ u v := by
 refine r.ind (P := fun vs xs => ∀ ps : List Str,(x,v) ∈ ps.zip xs -> ∃ u,(x,u) ∈ ps.zip vs /\ Rep h σ u v) (fun ps m => by rw [List.zip_nil_right] at m; cases m) (fun r _ q ps m => ?_) ps m;cases ps with
 | nil => cases m
 | cons p ps =>
  rcases aKf.mp m with m | m
  ·cases m; exact ⟨_,.head _,r⟩
  ·obtain ⟨u,h1,h2⟩ := q ps m; exact ⟨u,.tail _ h1,h2⟩
noncomputable def Sub (σ' σ : aW) : Prop := ∀ a xs,σ' a = some xs -> σ a = some xs
theorem Sub.refl (σ : aW) : Sub σ σ := fun _ _ e => e
noncomputable def Xd : Fl -> V
 | .ret x => x
 | _ => .none
theorem aR.intro {fa : Addr} {st : Stmt} {name : Str} {args : Arguments} {body : List Stmt} {scope : Scope} {ps ls gs : List Str} {xs : List V} {Q : KV}
    (hfn : aHw G fa st) (hst : Gb st = some (name,args,body,scope)) (hlen : xs.length = ps.length) (hn : 1 <= c.n)
    (hbind : ∀ vs : List Value,vs.length = ps.length -> ∀ doc pm an cdv ct,bindArgs (fnOf name name args body scope .none .none doc pm an cdv ct) ⟨vs,[]⟩ = pure (ps.zip vs))
    (hnames : (ps ++ ls).Nodup) (hloc : ∀ x ∈ ps ++ ls,scope.names.lookup x = some .local /\ (x == ("__debug__" : Str)) = false)
    (hgn : ∀ x ∈ gs,scope.names.lookup x = some .globalImplicit /\ (x == ("__debug__" : Str)) = false)
    (hcell : ∀ x ∈ scope.names,x.2 ≠ .cell) (hco : scope.isCoroutine = false) (hgen : scope.isGenerator = false) (hk : scope.kind = .function)
    (h : ∀ d : Cfg G,d.n + 1 = c.n -> d.k = 6 -> d.gn = gs -> d.names = ps ++ ls -> d.env.scope = scope -> (∀ a,d.W a -> σ a ≠ .none) -> WS d body (Vb ps xs ls) σ (fun φ _ σ' => ∃ Ka,Sub Ka σ' /\ Q (Xd φ) Ka) X) : aR c (.ref fa) xs σ Q X := by
  intro ρ s S vs R Q' E' hQ hE
  obtain ⟨name',args',body',aHx,hst',oc,od,osl,doc,pm,an,cdv,ct,ho,hcd⟩ := hfn
  rw [hst] at hst'
  cases hst'
  have hvl : vs.length = ps.length := (R.length).trans hlen
  have C := S.ok
  have hroom : c.A.depth < recursionLimit := by have := C.room; exact gP (UH (Ut (.a U0 U1) U2)<|UG (Ut U0 U2)) rfl this
  refine wpAny_call (codeAny_call_def (fd := fnOf name name args body scope .none .none doc pm an cdv ct) (body := body) (binds := ps.zip vs) hroom (S.h0 _ _ ho) rfl (G.lim.keeps S.h0) ?_ rfl (.of_eq (hbind vs hvl _ _ _ _ _)) hcell ?_ (fun jH hns sS => ?_) hco hgen hk)
  · exact hcd.keeps S.h0
  · intro p hp
    have : p.1 ∈ ps := (aOn hp).1
    exact (hloc _ (aOt _ this)).1
  let env : Env := callEnv (fnOf name name args body scope .none .none doc pm an cdv ct) s.heap.objs.size fa
  let d : Cfg G := { B := c.B,he := s.heap,W := fun a => σ a ≠ .none,A := c.A.deeper env,env := env,outer := c.env :: c.outer,r0 := s,n := c.n - 1,k := 6,names := ps ++ ls,gn := gs }
  have heL : s.heap.get? s.heap.objs.size = .none := by
    cases q : s.heap.get? s.heap.objs.size with
    | none => rfl
    | some o => exact absurd (Heap.lt_size q) (aLe _)
  have BL : c.B.get? s.heap.objs.size = .none := by
    cases q : c.B.get? s.heap.objs.size with
    | none => rfl
    | some o => have := S.base _ o q; rw [heL] at this; exact aK this
  have hu := C.units
  have dOk : Ql d := {
    hB := C.hB
    stack := Around.frames_deeper C.stack
    hand := C.hand
    frame := rfl
    kind := hk
    globals := rfl
    builtins := rfl
    heL := heL
    BL := BL
    room := by show c.A.depth + 1 + (c.n - 1) < recursionLimit; have := C.room; exact jX (UH (Ue (Up 0 1) U1)<|UH (Ut (.a U2 U1) U3)<|UG (Ut (.a (Up 2 1) U0) U3)) rfl (aJo (hn)) this
    units := by show c.A.units + 3 + 12 * (c.n - 1) + 6 < 9800; exact jX (UH (Ut (.a (.a U0 (.m 12 U1)) U2) (Un 9800))<|HL.h 12 (Ue (Up 3 1) U1)<|UG (Ut (.a (.a (Up 0 3) (.m 12 U3)) (Un 6)) (Un 9800))) rfl hu (aJo (hn))
    nodup := hnames
    WL := fun a ha => by
      cases q : σ a with
      | none => exact absurd q ha
      | some ys => obtain ⟨ws,n,h1,_⟩ := S.mem a ys q; exact ⟨_,n,h1⟩
    locals := fun x hx => hloc x hx
    gn := fun x hx => hgn x hx }
  have fz : pD s.heap σ jH σ := .of_keeps sS
  have Sd : gG d (Vb ps xs ls) σ { s with heap := jH,toks := s.toks + (ps.zip vs).length } := {
    ok := dOk
    base := fun b o e => sS b o (S.base b o e)
    frames := by
      intro e he
      rcases aKf.mp he with rfl | he
      · obtain ⟨o,es,ep,h2,h3,_⟩ := id hns
        exact ⟨by show scope.kind ≠ _; rw [hk]; decide,s.heap.objs.size,o,es,ep,rfl,BL,h2,h3⟩
      · obtain ⟨k1,L',o,es,ep,e1,e2,e3,e4⟩ := S.frames e he
        exact ⟨k1,L',o,es,ep,e1,e2,sS _ _ e3,e4⟩
    locs := by
      refine ⟨_,hns,fun x v hx => ?_⟩
      unfold Vb at hx
      rcases aLi.mp hx with q | q
      · obtain ⟨⟨y,w⟩,h1,h2⟩ := aMl.mp q
        cases h2
        obtain ⟨u,h3,h4⟩ := R.zip h1
        refine ⟨u,Gp ?_ h3,h4.mono fz⟩
        have : (ps.zip vs).map aLz = ps := aNu (Z3 hvl)
        show ((ps.zip vs).map aLz).Nodup
        rw [this]
        exact (List.nodup_append.mp hnames).1
      · obtain ⟨y,_,h2⟩ := aMl.mp q
        cases h2
    names := by
      show List.map aLz (Vb ps xs ls) = ps ++ ls
      unfold Vb
      rw [aKt,aOf,aOf]
      have : (ps.zip xs).map aLz = ps := aNu (Z3 hlen)
      have h2 : (ls.map (aLz ∘ fun x => (x,(none : Option V)))) = ls := by simp [Function.comp_def]
      rw [h2]
      exact congrArg (· ++ ls) this
    keep := fun a o e => ⟨⟨o,sS a o e⟩,fun _ => ⟨fun _ => sS a o e,o.slots,sS a o e⟩⟩
    mem := fun a ys e => let ⟨ws,n,h1,h2⟩ := S.mem a ys e; ⟨ws,n,sS _ _ h1,h2.mono fz⟩
    dom := fun a e => ⟨(S.dom a e).1,.inl e⟩
    fixed := ⟨rfl,rfl,rfl⟩ }
  refine wpAny_mono (h d (by show c.n - 1 + 1 = c.n; exact aJq (Z4 (aJo (hn))) (Z5 gY)) rfl rfl rfl rfl (fun _ z => z) _ Sd (fun f s' => ∀ v,v = (match f with | .ret v => v | _ => Value.none) -> Q' v s') (fun e s' => jE d e s' /\ X)
    (fun f φ s' ρ' σ' S' F' R' q => ?_) (fun e s' x f => ⟨f,x⟩)) (fun f s' hq => hq _ rfl) (fun e s' hq => ?_)
  · obtain ⟨Ka,hsub,q⟩ := q
    rintro v rfl
    have hW : ∀ {a},σ a = .none -> s.heap.get? a ≠ .none -> Ka a = .none := fun {a} e1 e2 => by
      cases q2 : Ka a with
      | none => rfl
      | some ys =>
        have := (S'.dom a (by rw [hsub a ys q2]; exact fun z => by exact tD z)).2
        rcases this with z | z
        · exact absurd e1 z
        · exact absurd z e2
    have fzs : pD s'.heap σ' s'.heap Ka := by
      refine { tup := fun x => x,lst := fun {a i n} x y => ⟨x,?_⟩,fld := fun _ _ _ e _ => e }
      cases q2 : Ka a with
      | none => rfl
      | some ys => rw [hsub a ys q2] at y; exact tD y
    have qw : ∀ {a o},s.heap.get? a = some o -> (∀ es ep,o.data ≠ .dict es ep) -> ¬ rH d.outer a := fun {a o} e hd ⟨env',he,hf⟩ => by
      obtain ⟨_,L',o',es,ep,e1,_,e3,e4⟩ := S.frames env' he
      obtain rfl : L' = a := aJn (e1.symm.trans hf)
      rw [e] at e3; obtain rfl := aJn e3; exact hd _ _ e4
    have fzt : pD s.heap σ s'.heap Ka := by
      refine { tup := fun {a i n} x => ?_,lst := fun {a i n} x y => ?_,fld := fun a o fs x d' => ?_ }
      · have nW : ¬ d.W a := fun (z : σ a ≠ .none) => by
          cases q2 : σ a with
          | none => exact z q2
          | some ys => obtain ⟨ws,m,h1,_⟩ := S.mem a ys q2; exact Xb h1 x
        exact ((S'.keep a _ x).2 nW).1 (qw x (fun _ _ z => by cases z))
      · have nW : ¬ d.W a := fun (z : σ a ≠ .none) => z y
        exact ⟨((S'.keep a _ x).2 nW).1 (qw x (fun _ _ z => by cases z)),hW y (by rw [x]; exact fun z => by exact tD z)⟩
      · have nW : ¬ d.W a := fun (z : σ a ≠ .none) => by
          cases q2 : σ a with
          | none => exact z q2
          | some ys => obtain ⟨ws,m,h1,_⟩ := S.mem a ys q2; have := h1.symm.trans x; obtain rfl := aJn this; cases d'
        exact ((S'.keep a _ x).2 nW).1 (qw x (fun _ _ z => by rw [d'] at z; cases z))
    refine hQ _ (Xd φ) s' Ka ⟨C,S'.base,fun e he => S'.frames e (.tail _ he),?_,S.names,?_,?_,?_,S'.fixed.1.trans S.fixed.1,S'.fixed.2.1.trans S.fixed.2.1,S'.fixed.2.2.trans S.fixed.2.2⟩ fzt ?_ q
    · obtain ⟨m,⟨o,es,ep,h1,h2,h3⟩,hm⟩ := S.locs
      have nW : ¬ d.W c.env.locals := fun (z : σ _ ≠ .none) => by
        cases q2 : σ c.env.locals with
        | none => exact z q2
        | some ys => exact S.Mz.1 q2 rfl
      obtain ⟨sl,h4⟩ := ((S'.keep _ _ h1).2 nW).2
      exact ⟨m,⟨_,es,ep,h4,h2,h3⟩,fun x v hx => let ⟨u,h5,h6⟩ := hm x v hx; ⟨u,h5,h6.mono fzt⟩⟩
    · intro a o e
      obtain ⟨⟨o',ho'⟩,k⟩ := S.keep a o e
      refine ⟨(S'.keep a o' ho').1,fun nW => ?_⟩
      obtain ⟨k1,sl,k2⟩ := k nW
      have nW' : ¬ d.W a := fun (z : σ a ≠ .none) => by
        rcases (S.dom a z).2 with y | y
        · exact nW y
        · rw [e] at y; exact tD y
      obtain ⟨k3,sl',k4⟩ := (S'.keep a _ k2).2 nW'
      refine ⟨fun nF => ?_,sl',k4⟩
      refine ((S'.keep a o (k1 nF)).2 nW').1 fun ⟨env',he,hf⟩ => ?_
      rcases aKf.mp he with rfl | he
      · have := aJn (hf.symm.trans C.frame)
        subst this
        rw [C.heL] at e; exact aK e
      · exact nF ⟨env',he,hf⟩
    · exact fun a ys e => by
        obtain ⟨ws,n,h1,h2⟩ := S'.mem a ys (hsub a ys e)
        exact ⟨ws,n,h1,h2.mono fzs⟩
    · intro a e
      have := S'.dom a (by
        cases q2 : Ka a with
        | none => exact absurd q2 e
        | some ys => rw [hsub a ys q2]; exact fun z => by exact tD z)
      refine ⟨this.1,?_⟩
      rcases this.2 with z | z
      · exact (S.dom a z).2
      · right
        cases q2 : c.he.get? a with
        | none => rfl
        | some o => obtain ⟨⟨o',ho'⟩,_⟩ := S.keep a o q2; exact absurd (z.symm.trans ho') (fun z => by exact aK z)
    · cases R' with
      | next => exact .none
      | brk => exact .none
      | cont => exact .none
      | ret r => exact r.mono fzs
  · obtain ⟨f,x⟩ := hq
    exact f.leave S dOk.stack rfl rfl rfl ⟨S.fixed.1,S.fixed.2.1,S.fixed.2.2⟩ fun s'' f' => hE e s'' x f'
end Mine
namespace Mine
variable {G : eX} {c : Cfg G} {ρ : eE} {σ : aW} {X : Prop}
theorem Cj {α β : Type} {rep : Heap -> aW -> α -> β -> Prop} {f : Value -> Value -> Sem α} {x y : V} {Q : β -> aW -> Prop}
  (h : ∀ s v w,gG c ρ σ s -> Rep s.heap σ v x -> Rep s.heap σ w y -> KR c (f v w) rep s ρ σ Q X) : WO c rep (fun vs => f (vs.getD 0 .none) (vs.getD 1 .none)) [x,y] ρ σ Q X :=
 fun s S vs R => by
  obtain ⟨_,_,rfl,r,rs⟩ := R.cons_inv;obtain ⟨_,_,rfl,r',rs2⟩ := rs.cons_inv;obtain rfl := rs2.nil_inv; exact h s _ _ S r r'
theorem X5 {α β : Type} {rep : Heap -> aW -> α -> β -> Prop} {f : Value -> Sem α} {x : V} {Q : β -> aW -> Prop}
  (h : ∀ s v,gG c ρ σ s -> Rep s.heap σ v x -> KR c (f v) rep s ρ σ Q X) : WO c rep (fun vs => f (vs.getD 0 .none)) [x] ρ σ Q X :=
 fun s S vs R => by
  obtain ⟨_,_,rfl,r,rs⟩ := R.cons_inv;obtain rfl := rs.nil_inv; exact h s _ S r
theorem gG.cl {s : Shared} (S : gG c ρ σ s) : c.A.units < cLine := by
 have := S.ok.units;show c.A.units < 9900;exact gP (UH (Ut (.a (.a U0 (.m 12 U1)) U2) (Un 9800))<|UG (Ut U0 (Un 9900))) rfl this
noncomputable def Vc : CmpOp -> Int -> Int -> Option Bool
 | .Eq,a,b => some (a == b)
 | .NotEq,a,b => some (a != b)
 | .Lt,a,b => some (decide (a < b))
 | .LtE,a,b => some (decide (a <= b))
 | .Gt,a,b => some (decide (a > b))
 | .GtE,a,b => some (decide (a ≥ b))
 | _,_,_ => .none
theorem qx {op : CmpOp} {a b : Int} {k : Bool} {Q : KV} (e : Vc op a b = some k) (q : Q (.bool k) σ) : WO c Rep (fun vs => compareOp op (vs.getD 0 .none) (vs.getD 1 .none)) [.int a,.int b] ρ σ Q X :=
 Cj fun s v w S r r' Q' E' hQ hE => by
  obtain ⟨_,rfl⟩ := r.int_inv; obtain ⟨_,rfl⟩ := r'.int_inv;have h := hQ _ _ s σ S (.refl _ _) (.bool k) q;cases op <;> simp only [Vc,aLh,reduceCtorEq] at e <;> subst e
  ·exact P.eq_int h
  ·exact P.ne_int h
  ·exact P.lt_int h
  ·exact P.le_int h
  ·exact P.gt_int h
  ·exact P.ge_int h
theorem qy {a b : Int} {Q : KV} (q : Q (.int (a + b)) σ) : WO c Rep (fun vs => binaryOp .Add (vs.getD 0 .none) (vs.getD 1 .none)) [.int a,.int b] ρ σ Q X :=
 Cj fun s v w S r r' Q' E' hQ hE => by
  obtain ⟨_,rfl⟩ := r.int_inv; obtain ⟨_,rfl⟩ := r'.int_inv;exact P.add_int (hQ _ _ _ σ (S.tok _) (.refl _ _) (.int _ _) q)
theorem I7 {a b : Int} {Q : KV} (q : Q (.int (a + b)) σ) : WO c Rep (fun vs => inplaceOp .Add (vs.getD 0 .none) (vs.getD 1 .none)) [.int a,.int b] ρ σ Q X :=
 Cj fun s v w S r r' Q' E' hQ hE => by
  obtain ⟨_,rfl⟩ := r.int_inv; obtain ⟨_,rfl⟩ := r'.int_inv;exact P.iadd_int (hQ _ _ _ σ (S.tok _) (.refl _ _) (.int _ _) q)
theorem qz {a b : Int} {Q : KV} (q : Q (.int (a - b)) σ) : WO c Rep (fun vs => binaryOp .Sub (vs.getD 0 .none) (vs.getD 1 .none)) [.int a,.int b] ρ σ Q X :=
 Cj fun s v w S r r' Q' E' hQ hE => by
  obtain ⟨_,rfl⟩ := r.int_inv; obtain ⟨_,rfl⟩ := r'.int_inv;exact P.sub_int (hQ _ _ _ σ (S.tok _) (.refl _ _) (.int _ _) q)
theorem I8 {a b : Int} {Q : KV} (q : Q (.int (a - b)) σ) : WO c Rep (fun vs => inplaceOp .Sub (vs.getD 0 .none) (vs.getD 1 .none)) [.int a,.int b] ρ σ Q X :=
 Cj fun s v w S r r' Q' E' hQ hE => by
  obtain ⟨_,rfl⟩ := r.int_inv; obtain ⟨_,rfl⟩ := r'.int_inv;exact P.isub_int (hQ _ _ _ σ (S.tok _) (.refl _ _) (.int _ _) q)
theorem rm {a b : Int} {Q : KV} (hm : IntMulOk a b) (q : Q (.int (a * b)) σ) : WO c Rep (fun vs => binaryOp .Mult (vs.getD 0 .none) (vs.getD 1 .none)) [.int a,.int b] ρ σ Q X :=
 Cj fun s v w S r r' Q' E' hQ hE => by
  obtain ⟨_,rfl⟩ := r.int_inv; obtain ⟨_,rfl⟩ := r'.int_inv;exact P.mul_int (hQ _ _ _ σ (S.tok _) (.refl _ _) (.int _ _) q) hm
theorem rz {a : Int} {Q : KV} (q : Q (.int (-a)) σ) : WO c Rep (fun vs => unaryOp .USub (vs.getD 0 .none)) [.int a] ρ σ Q X :=
 X5 fun s v S r Q' E' hQ hE => by
  obtain ⟨_,rfl⟩ := r.int_inv;exact P.neg_int (hQ _ _ _ σ (S.tok _) (.refl _ _) (.int _ _) q)
theorem yZ (x y : Str) : (x.cps.toList == y.cps.toList) = decide (x = y) := by
 rw [aMr];simp only [beq_iff_eq,decide_eq_true_eq];constructor
 ·intro h; cases x; cases y; simp only [Str.mk.injEq]; exact Array.toList_inj.mp h
 ·rintro rfl; rfl
theorem aFc {a b : Str} {Q : KV} (q : Q (.bool (decide (a = b))) σ) : WO c Rep (fun vs => compareOp .Eq (vs.getD 0 .none) (vs.getD 1 .none)) [.str a,.str b] ρ σ Q X :=
 Cj fun s v w S r r' Q' E' hQ hE => by
  obtain ⟨_,rfl⟩ := r.str_inv; obtain ⟨_,rfl⟩ := r'.str_inv;exact P.eq_str (by rw [yZ]; exact hQ _ _ _ σ S (.refl _ _) (.bool _) q)
theorem aFd {a b : Str} {Q : KV} (q : Q (.bool (!decide (a = b))) σ) : WO c Rep (fun vs => compareOp .NotEq (vs.getD 0 .none) (vs.getD 1 .none)) [.str a,.str b] ρ σ Q X :=
 Cj fun s v w S r r' Q' E' hQ hE => by
  obtain ⟨_,rfl⟩ := r.str_inv; obtain ⟨_,rfl⟩ := r'.str_inv;exact P.ne_str (by rw [bne,yZ]; exact hQ _ _ _ σ S (.refl _ _) (.bool _) q)
noncomputable def lR : V -> Option Bool
 | .none => some true
 | .val _ => .none
 | _ => some false
theorem MJ {x : V} {k : Bool} {Q : KV} (e : lR x = some k) (q : Q (.bool k) σ) : WO c Rep (fun vs => compareOp .Is (vs.getD 0 .none) (vs.getD 1 .none)) [x,.none] ρ σ Q X :=
 Cj fun s v w S r r' Q' E' hQ hE => by
  obtain rfl := r'.none_inv;have h := hQ _ _ _ σ S (.refl _ _) (.bool k) q;refine is_none_gen ?_;cases r <;> simp only [lR,aLh,reduceCtorEq] at e <;> subst e <;> exact h
theorem Qn {x : V} {k : Bool} {Q : KV} (e : lR x = some k) (q : Q (.bool (!k)) σ) : WO c Rep (fun vs => compareOp .IsNot (vs.getD 0 .none) (vs.getD 1 .none)) [x,.none] ρ σ Q X :=
 Cj fun s v w S r r' Q' E' hQ hE => by
  obtain rfl := r'.none_inv;have h := hQ _ _ _ σ S (.refl _ _) (.bool (!k)) q;refine isnot_none_gen ?_;cases r <;> simp only [lR,aLh,reduceCtorEq] at e <;> subst e <;> exact h
theorem qJ {s : Shared} {v : Value} {x : V} {k : Bool} {A : Around} {prog : Program} {w : World} {Q' : Bool -> Shared -> Prop} {E : Value -> Shared -> Prop} (r : Rep s.heap σ v x) (e : LC x = some k) (h : Q' k s) : wpAny (model prog w) A (truthy v) Q' E s := by
 cases r <;> simp only [LC,aLh,reduceCtorEq] at e <;> subst e
 ·exact truthy_none h
 ·exact wpAny_truthy_bool h
 ·exact P.truthy_int h
theorem Qo {e : Expr} {Q : Bool -> aW -> Prop} (h : WE c e ρ σ (fun x aG => ∃ k,LC x = some k /\ Q k aG) X)
  (he : isTrue e c.env (eval e c.env) = (do let v <- eval e c.env; standAt e.pos; holding [v] (truthy v)) := by rfl) : WB c e ρ σ Q X := fun s S Q' E' hQ hE => by
 refine isTrue_plain (h s S _ _ (fun a x aQ aG bC bO bQ ⟨k,hk,bF⟩ => ?_) hE) he;exact qJ bQ hk (hQ _ _ _ _ bC bO rfl bF)
theorem Vd {l r : Expr} {op : CmpOp} {pos : Pos} {Q : Bool -> aW -> Prop}
  (h : WE c l ρ σ (fun x aG => WE c r ρ aG (fun y bN => WO c Rep (fun vs => compareOp op (vs.getD 0 .none) (vs.getD 1 .none)) [x,y] ρ bN (fun z bK => ∃ k,LC z = some k /\ Q k bK) X) X) X)
  (hm : behindInMarks op r = false := by with_unfolding_all rfl) : WB c (.Compare l [op] [r] pos) ρ σ Q X := fun s S Q' E' hQ hE => by
 refine wpAny_isTrue_Compare1 (h s S _ _ (fun a x aQ aG bC bO bQ bF => ?_) hE) hm;refine bF aQ bC _ _ (fun b y cV bN dY dO gB dK => ?_) hE;refine dK cV dY [a,b] (.cons (bQ.mono dO) (.cons gB .nil)) _ _ (fun d z cN bK dF dB yU ⟨k,hk,kZ⟩ => ?_) hE;exact qJ yU hk (hQ _ _ _ _ dF ((bO.trans dO).trans dB) rfl kZ)
theorem su {e : Expr} {pos : Pos} {Q : Bool -> aW -> Prop} (h : WB c e ρ σ (fun b aG => Q (!b) aG) X) : WB c (.UnaryOp .Not e pos) ρ σ Q X := fun s S Q' E' hQ hE => by
 refine isTrue_not (h s S _ _ (fun a b aQ aG bC bO bQ bF => ?_) hE);subst bQ;exact hQ _ _ _ _ bC bO rfl bF
noncomputable def X6 (c : Cfg G) (op : BoolOp) (es : List Expr) (ρ : eE) (σ : aW) (Q : Bool -> aW -> Prop) (X : Prop) : Prop :=
 ∀ pos cP s,gG c ρ σ s -> KR c (isTrue (.BoolOp op es pos) c.env cP) (fun _ _ a b => a = b) s ρ σ Q X
theorem xT {op : BoolOp} {es : List Expr} {pos : Pos} {Q : Bool -> aW -> Prop} (h : X6 c op es ρ σ Q X) : WB c (.BoolOp op es pos) ρ σ Q X := fun s S => h pos _ s S
theorem Qp {Q : Bool -> aW -> Prop} (q : Q true σ) : X6 c .And [] ρ σ Q X := fun pos cP s S Q' E' hQ hE => isTrue_and_nil (hQ _ _ _ _ S (.refl _ _) rfl q)
theorem Ve {Q : Bool -> aW -> Prop} (q : Q false σ) : X6 c .Or [] ρ σ Q X := fun pos cP s S Q' E' hQ hE => isTrue_or_nil (hQ _ _ _ _ S (.refl _ _) rfl q)
theorem Nb {e : Expr} {es : List Expr} {Q : Bool -> aW -> Prop} (h : WB c e ρ σ (fun b aG => if b then X6 c .And es ρ aG Q X else Q false aG) X) : X6 c .And (e :: es) ρ σ Q X := fun pos cP s S Q' E' hQ hE => by
 refine isTrue_and (h s S _ _ (fun a b aQ aG bC bO bQ bF => ?_) hE);subst bQ;cases a
 ·exact hQ _ _ _ _ bC bO rfl bF
 ·exact bF pos cP aQ bC Q' E' (fun d z cN bK dF dB => hQ d z cN bK dF (bO.trans dB)) hE
theorem Vf {e : Expr} {es : List Expr} {Q : Bool -> aW -> Prop} (h : WB c e ρ σ (fun b aG => if b then Q true aG else X6 c .Or es ρ aG Q X) X) : X6 c .Or (e :: es) ρ σ Q X := fun pos cP s S Q' E' hQ hE => by
 refine isTrue_or (h s S _ _ (fun a b aQ aG bC bO bQ bF => ?_) hE);subst bQ;cases a
 ·exact bF pos cP aQ bC Q' E' (fun d z cN bK dF dB => hQ d z cN bK dF (bO.trans dB)) hE
 ·exact hQ _ _ _ _ bC bO rfl bF
theorem MK {op : BoolOp} {e : Expr} {pos : Pos} {Q : KV} (h : WE c e ρ σ Q X) : WE c (.BoolOp op [e] pos) ρ σ Q X := h
theorem MN {e e' : Expr} {es : List Expr} {pos : Pos} {Q : KV} (h : WE c e ρ σ (fun x aG => ∃ k,LC x = some k /\ if k then WE c (.BoolOp .And (e' :: es) pos) ρ aG Q X else Q x aG) X) : WE c (.BoolOp .And (e :: e' :: es) pos) ρ σ Q X := fun s S Q' E' hQ hE => by
 refine BoolOp_and (h s S _ _ (fun a x aQ aG bC bO bQ ⟨k,hk,bF⟩ => ?_) hE);refine qJ bQ hk ?_;cases k
 ·exact hQ _ _ _ _ bC bO bQ bF
 ·exact bF aQ bC Q' E' (fun d z cN bK dF dB => hQ d z cN bK dF (bO.trans dB)) hE
theorem X7 {e e' : Expr} {es : List Expr} {pos : Pos} {Q : KV} (h : WE c e ρ σ (fun x aG => ∃ k,LC x = some k /\ if k then Q x aG else WE c (.BoolOp .Or (e' :: es) pos) ρ aG Q X) X) : WE c (.BoolOp .Or (e :: e' :: es) pos) ρ σ Q X := fun s S Q' E' hQ hE => by
 refine BoolOp_or (h s S _ _ (fun a x aQ aG bC bO bQ ⟨k,hk,bF⟩ => ?_) hE);refine qJ bQ hk ?_;cases k
 ·exact bF aQ bC Q' E' (fun d z cN bK dF dB => hQ d z cN bK dF (bO.trans dB)) hE
 ·exact hQ _ _ _ _ bC bO bQ bF
theorem aFe {t a b : Expr} {pos : Pos} {Q : KV} (h : WB c t ρ σ (fun k aG => if k then WE c a ρ aG Q X else WE c b ρ aG Q X) X) : WE c (.IfExp t a b pos) ρ σ Q X := fun s S Q' E' hQ hE => by
 refine IfExp_ (h s S _ _ (fun k k' aQ aG bC bO bQ bF => ?_) hE);subst bQ;cases k
 ·exact bF aQ bC Q' E' (fun d z cN bK dF dB => hQ d z cN bK dF (bO.trans dB)) hE
 ·exact bF aQ bC Q' E' (fun d z cN bK dF dB => hQ d z cN bK dF (bO.trans dB)) hE
theorem sy {e : Expr} {pos : Pos} {Q : KV} (h : WE c e ρ σ (fun x aG => ∃ k,LC x = some k /\ Q (.bool (!k)) aG) X) : WE c (.UnaryOp .Not e pos) ρ σ Q X :=
 Gm (h.mono (fun x aG ⟨k,hk,q⟩ => X5 fun s v S r Q' E' hQ hE => not_of (qJ r hk (hQ _ _ _ _ S (.refl _ _) (.bool _) q))) id)
theorem gG.wB {s : Shared} {o : Obj} {tk : Nat} (S : gG c ρ σ s) : gG c ρ σ { s with heap := s.heap.push o,toks := tk } /\ pD s.heap σ (s.heap.push o) σ :=
 ⟨S.ext ⟨rfl,rfl,rfl⟩ fun _ _ e => Heap.get?_push_of_some _ e,.of_keeps fun _ _ e => Heap.get?_push_of_some _ e⟩
theorem Qq {s : Shared} {vs : List Value} {xs : List V} {Q' : Value -> Shared -> Prop} {E : Value -> Shared -> Prop} (S : gG c ρ σ s) (R : cM s.heap σ vs xs) (hl : xs.length <= sizeLine)
  (h : ∀ v s',gG c ρ σ s' -> pD s.heap σ s'.heap σ -> Rep s'.heap σ v (.tup xs) -> Q' v s') : wpAny (model G.prog G.w) c.A (newTuple vs) Q' E s := by
 refine wpAny_newObj_type ?_ (by show vs.toArray.size <= sizeLine; rw [aJv,R.length]; exact hl);have k := S.wB (o := { cls := .type "tuple",data := .seq vs.toArray }) (tk := s.toks);exact h _ _ k.1 k.2 (.tup (IsT.new _ _) (R.mono k.2))
theorem Vg {s : Shared} {vs : List Value} {xs : List V} {Q' : Value -> Shared -> Prop} {E : Value -> Shared -> Prop} (S : gG c ρ σ s) (R : cM s.heap σ vs xs) (hl : xs.length <= sizeLine)
  (h : ∀ v s',gG c ρ σ s' -> pD s.heap σ s'.heap σ -> Rep s'.heap σ v (.lst xs) -> Q' v s') : wpAny (model G.prog G.w) c.A (newList vs) Q' E s := by
 refine wpAny_newObj_type ?_ (by show vs.toArray.size <= sizeLine; rw [aJv,R.length]; exact hl);have k := S.wB (o := { cls := .type "list",data := .seq vs.toArray }) (tk := s.toks);refine h _ _ k.1 k.2 (.lst ?_ (IsL.new _ _) (R.mono k.2));cases q : σ s.heap.objs.size with
 | none => rfl
 | some ys => obtain ⟨ws,n,h1,_⟩ := S.mem _ _ q; exact absurd (Heap.lt_size h1) (aLe _)
theorem Qs {s : Shared} {vs : List Value} {xs : List V} {Q' : Value -> Shared -> Prop} {E : Value -> Shared -> Prop} (S : gG c ρ σ s) (R : cM s.heap σ vs xs) (hl : xs.length <= sizeLine)
  (h : ∀ a s',σ a = .none -> gG c ρ (aH σ a xs) s' -> pD s.heap σ s'.heap (aH σ a xs) -> Q' (.ref a) s') : wpAny (model G.prog G.w) c.A (newList vs) Q' E s := by
 refine wpAny_newObj_type ?_ (by show vs.toArray.size <= sizeLine; rw [aJv,R.length]; exact hl);refine h _ _ ?_ (S.Zi (tk := s.toks) R) .Zi;cases q : σ s.heap.objs.size with
 | none => rfl
 | some ys => obtain ⟨ws,n,h1,_⟩ := S.mem _ _ q; exact absurd (Heap.lt_size h1) (aLe _)
theorem MP {es : List Expr} {k : Nat} {pos : Pos} {Q : KV} (h : JD c es ρ σ (fun xs aG => xs.length <= sizeLine /\ Q (.tup xs) aG) X) : WE c (.Tuple es k pos) ρ σ Q X := fun s S Q' E' hQ hE => by
 refine Tuple_ (h pos s S _ _ (fun vs xs aQ aG bC bO bQ ⟨hl,bF⟩ => ?_) hE);exact Qq bC bQ hl fun v s' S' F' R' => hQ _ _ _ _ S' (bO.trans F') R' bF
theorem I9 {es : List Expr} {pos : Pos} {Q : KV} (h : JD c es ρ σ (fun xs aG => xs.length <= sizeLine /\ Q (.lst xs) aG) X) : WE c (.List es pos) ρ σ Q X := fun s S Q' E' hQ hE => by
 refine List_ (h pos s S _ _ (fun vs xs aQ aG bC bO bQ ⟨hl,bF⟩ => ?_) hE);exact Vg bC bQ hl fun v s' S' F' R' => hQ _ _ _ _ S' (bO.trans F') R' bF
theorem NK {es : List Expr} {pos : Pos} {Q : KV} (h : JD c es ρ σ (fun xs aG => xs.length <= sizeLine /\ ∀ a,aG a = .none -> Q (.mut a) (aH aG a xs)) X) : WE c (.List es pos) ρ σ Q X := fun s S Q' E' hQ hE => by
 refine List_ (h pos s S _ _ (fun vs xs aQ aG bC bO bQ ⟨hl,bF⟩ => ?_) hE);exact Qs bC bQ hl fun a s' h1 S' F' => hQ _ _ _ _ S' (bO.trans F') (.mut a) (bF a h1)
end Mine
section
set_option tactic.hygienic true
namespace Mine
variable {G : eX} {c : Cfg G} {ρ : eE} {σ : aW} {X : Prop}
theorem NP {value slice : Expr} {pos : Pos} {Q : KV}
  (h : WE c value ρ σ (fun x aG => WE c slice ρ aG (fun y bN => WO c Rep (fun vs => subscriptTail value slice (vs.getD 0 .none) (vs.getD 1 .none)) [x,y] ρ bN Q X) X) X) : WE c (.Subscript value slice pos) ρ σ Q X := fun s S Q' E' hQ hE => by
 refine Subscript_ (h s S _ _ (fun a x aQ aG bC bO bQ bF => ?_) hE);refine bF aQ bC _ _ (fun b y cV bN dY dO gB dK => ?_) hE;exact dK cV dY [a,b] (.cons (bQ.mono dO) (.cons gB .nil)) Q' E' (fun d z cN bK dF dB => hQ d z cN bK dF ((bO.trans dO).trans dB)) hE
theorem Ao {i : Int} {n : Nat} (h0 : 0 <= i) (h1 : i.toNat < n) : seqIndex? i n = some i.toNat := by
 unfold seqIndex?;have : ¬ i < 0 := by exact aKd.mpr (h0)
 simp only [this,if_false];rw [if_pos (by simp only [aLc,decide_eq_true_eq]; exact ⟨h0,aO (c := (Yx _ _)) (d := (qY _)) (UH (UL (.v 0) (.c U0))<|UH (Ut U0 U1)<|UG (UT (.v 0) (.c U1))) rfl X3 h1⟩)]
noncomputable def zH (slice : Expr) : Prop := ∀ o i,subscripted slice false o i = operate [o,i] (getItem o i)
theorem J0 {value slice : Expr} {xs : List V} {i : Int} {y : V} {Q : KV} (h0 : 0 <= i) (h1 : i < 2 ^ 62) (hy : xs[i.toNat]? = some y) (q : Q y σ) (hs : zH slice := by intro _ _; with_unfolding_all rfl) :
  WO c Rep (fun vs => subscriptTail value slice (vs.getD 0 .none) (vs.getD 1 .none)) [.tup xs,.int i] ρ σ Q X :=
 Cj fun s v w S r r' Q' E' hQ hE => by
  obtain ⟨t,rfl⟩ := r'.int_inv;obtain ⟨a,vs,n,rfl,it,rs⟩ := r.uN;obtain ⟨u,hu,ru⟩ := rs.get hy;have hl : i.toNat < vs.length := (aNn.mp hu).1;exact tail_any ⟨_,it,rfl⟩ F.slot_tuple_getitem.lookup (P.getItem_tuple it (G4 h0 q63) (G5 q6 h1) (Ao h0 (by simpa using hl)) (by simpa using hu) (hQ _ _ _ σ S (.refl _ _) ru q)) (hs _ _)
theorem J1 {value slice : Expr} {xs : List V} {i : Int} {y : V} {Q : KV} (h0 : 0 <= i) (h1 : i < 2 ^ 62) (hy : xs[i.toNat]? = some y) (q : Q y σ) (hs : zH slice := by intro _ _; with_unfolding_all rfl) :
  WO c Rep (fun vs => subscriptTail value slice (vs.getD 0 .none) (vs.getD 1 .none)) [.lst xs,.int i] ρ σ Q X :=
 Cj fun s v w S r r' Q' E' hQ hE => by
  obtain ⟨t,rfl⟩ := r'.int_inv;obtain ⟨a,vs,n,rfl,_,it,rs⟩ := r.lst_inv;obtain ⟨u,hu,ru⟩ := rs.get hy;exact tail_any ⟨_,it,rfl⟩ slot_list_getitem.lookup (wpAny_getItem_list it.isList h0 (G5 q6 h1) (by simpa using hu) (hQ _ _ _ σ S (.refl _ _) ru q)) (hs _ _)
theorem J3 {value slice : Expr} {a : Addr} {xs : List V} {i : Int} {y : V} {Q : KV} (ha : σ a = some xs) (h0 : 0 <= i) (h1 : i < 2 ^ 62) (hy : xs[i.toNat]? = some y) (q : Q y σ) (hs : zH slice := by intro _ _; with_unfolding_all rfl) :
  WO c Rep (fun vs => subscriptTail value slice (vs.getD 0 .none) (vs.getD 1 .none)) [.mut a,.int i] ρ σ Q X :=
 Cj fun s v w S r r' Q' E' hQ hE => by
  obtain ⟨t,rfl⟩ := r'.int_inv;first | obtain rfl := r.val_inv | obtain rfl := r.mR | obtain rfl := r.nil_inv | cases r
  obtain ⟨vs,n,it,rs⟩ := S.mem a xs ha;obtain ⟨u,hu,ru⟩ := rs.get hy;exact tail_any ⟨_,it,rfl⟩ slot_list_getitem.lookup (wpAny_getItem_list it.isList h0 (G5 q6 h1) (by simpa using hu) (hQ _ _ _ σ S (.refl _ _) ru q)) (hs _ _)
theorem J4 {value slice : Expr} {a : Addr} {xs : List V} {y : V} {Q : KV} (ha : σ a = some (xs ++ [y])) (hl : xs.length < 2 ^ 61) (q : Q y σ) (hs : zH slice := by intro _ _; with_unfolding_all rfl) :
  WO c Rep (fun vs => subscriptTail value slice (vs.getD 0 .none) (vs.getD 1 .none)) [.mut a,.int (-1)] ρ σ Q X :=
 Cj fun s v w S r r' Q' E' hQ hE => by
  obtain ⟨t,rfl⟩ := r'.int_inv;first | obtain rfl := r.val_inv | obtain rfl := r.mR | obtain rfl := r.nil_inv | cases r
  obtain ⟨vs,n,it,rs⟩ := S.mem a _ ha;have hy : (xs ++ [y])[xs.length]? = some y := by simp
  obtain ⟨u,hu,ru⟩ := rs.get hy;have hlen : vs.length = xs.length + 1 := by rw [rs.length]; simp
  have hsz : vs.toArray.size = xs.length + 1 := by simpa using hlen
  refine tail_any ⟨_,it,rfl⟩ slot_list_getitem.lookup (wpAny_getItem_list_neg it.isList (aO (c := .o) (d := .o) (UG (UT (.g (.n 1)) (.n 0))) rfl) (iR (UH (Uq U0 (Up 1 1))<|UG (UL (.g (.c U0)) (.g (.n 1)))) rfl hsz) (aO (c := .o) (d := (qY _)) (UH (UL (.n 20000000) (.v 0))<|UG (UL (.g (.v 0)) (.g (.n 1)))) rfl q63) (x := u) ?_ (hQ _ _ _ σ S (.refl _ _) ru q)) (hs _ _);rw [hsz];have : ((-1 : Int) + ((xs.length + 1 : Nat) : Int)).toNat = xs.length := by exact aJq (iR (UH (UE (.c U0) (.a (.g (.n 1)) (.c (Up 1 1))))<|UG (Ul U0 U1)) rfl (aJy (eU (UG (UL (.n 0) (.a (.g (.n 1)) (.c (Up 0 1))))) rfl))) (iR (UH (UL (.a (.g (.n 1)) (.c (Up 0 1))) (.c U1))<|UG (Ul U0 U1)) rfl X3)
  rw [this];simpa using hu
theorem J5 {value slice : Expr} {x : Str} {i : Int} {k : Nat} {Q : KV} (h0 : 0 <= i) (h1 : i < 2 ^ 62) (hy : x.cps[i.toNat]? = some k) (q : Q (.str ⟨#[k]⟩) σ) (hs : zH slice := by intro _ _; with_unfolding_all rfl) :
  WO c Rep (fun vs => subscriptTail value slice (vs.getD 0 .none) (vs.getD 1 .none)) [.str x,.int i] ρ σ Q X :=
 Cj fun s v w S r r' Q' E' hQ hE => by
  obtain ⟨t,rfl⟩ := r'.int_inv;obtain ⟨u,rfl⟩ := r.str_inv;have hl : i.toNat < x.cps.size := (aMg.mp hy).1;refine tail_any (typeIs_str s x u) F.slot_str_getitem.lookup (P.getItem_str (c := k) ?_ ?_ (hQ _ _ _ σ (S.tok _) (.refl _ _) (.str _ _) q)) (hs _ _)
  ·rw [aLt]; exact ⟨decide_eq_false (aKd.mpr (G4 h0 q63)),decide_eq_false (aLp.mpr (G5 q6 h1))⟩
  ·rw [show seqIndex? i x.length = some i.toNat from Ao h0 hl]; exact hy
noncomputable def NQ (c : Cfg G) (e : Option Expr) (ρ : eE) (σ : aW) (Q : Option Int -> aW -> Prop) (X : Prop) : Prop :=
 match e with
 | none => Q none σ
 | some e => WE c e ρ σ (fun v aG => ∃ i,v = .int i /\ Q (some i) aG) X
theorem NQ.at {e : Option Expr} {Q : Option Int -> aW -> Prop} (h : NQ c e ρ σ Q X) : ∀ s,gG c ρ σ s -> KR c (evalPart e c.env) (fun _ _ v i => ∃ i' : Option (Int × Tok),v = partValue i' /\ i = i'.map (·.1)) s ρ σ Q X := by
 intro s S Q' E' hQ hE;cases e with
 | none => rw [evalPart_none]; exact wpAny_pure (hQ _ none s σ S (.refl _ _) ⟨none,rfl,rfl⟩ h)
 | some e =>
  rw [evalPart_some];refine h s S _ _ (fun a x aQ aG bC bO bQ bF => ?_) hE;obtain ⟨i,rfl,bF⟩ := bF;obtain ⟨t,rfl⟩ := bQ.int_inv;exact hQ _ (some i) aQ aG bC bO ⟨some (i,t),rfl,rfl⟩ bF
noncomputable def eG {α : Type} (xs : List α) (lo hi : Option Int) : List α := (xs.drop (lo.elim 0 (clipAt xs.length))).take (hi.elim xs.length (clipAt xs.length) - lo.elim 0 (clipAt xs.length))
theorem xU {v : Value} {i : Option (Int × Tok)} (h : v = partValue i) : IsPart v (i.map (·.1)) := by
 subst h;cases i with
 | none => exact .none
 | some p => exact .int _ _
theorem Ed {α : Type} (xs : List α) (lo hi : Option Int) : (eG xs lo hi).length <= xs.length := ((aNq _ _).trans (aLu _ _)).length_le
theorem cM.cut {h : Heap} {vs : List Value} {xs : List V} (r : cM h σ vs xs) (lo hi : Option Int) : cM h σ (eG vs lo hi) (eG xs lo hi) := by
 unfold eG;rw [r.length];exact (r.drop _).take _
theorem gG.aFf {s : Shared} {o : Obj} {vs : List Value} {xs : List V} {tk : Nat} (S : gG c ρ σ s) (R : cM s.heap σ vs xs) :
  gG c ρ σ { s with heap := (s.heap.push o).push { cls := .type "list",data := .seq vs.toArray },toks := tk } /\ pD s.heap σ ((s.heap.push o).push { cls := .type "list",data := .seq vs.toArray }) σ /\ Rep ((s.heap.push o).push { cls := .type "list",data := .seq vs.toArray }) σ (.ref (s.heap.objs.size + 1)) (.lst xs) := by
 have k : ∀ b x,s.heap.get? b = some x -> ((s.heap.push o).push { cls := .type "list",data := .seq vs.toArray }).get? b = some x := fun b x e => Heap.get?_push_of_some _ (Heap.get?_push_of_some _ e);refine ⟨S.ext ⟨rfl,rfl,rfl⟩ k,.of_keeps k,.lst ?_ (n := 0) ?_ (R.mono (.of_keeps k))⟩
 ·cases q : σ (s.heap.objs.size + 1) with
  | none => rfl
  | some ys => obtain ⟨ws,n,h1,_⟩ := S.mem _ _ q; exact absurd (Heap.lt_size h1) (Nat.not_lt.mpr (Nat.le_succ _))
 ·have := Heap.get?_push_size (s.heap.push o) (o := { cls := .type "list",data := .seq vs.toArray }) rfl;rw [Heap.size_push] at this;exact this
noncomputable def bR (σ : aW) : V -> Option (List V)
 | .lst xs => some xs
 | .mut a => σ a
 | _ => none
theorem gG.list {s : Shared} (S : gG c ρ σ s) {v : Value} {x : V} {xs : List V} (r : Rep s.heap σ v x) (e : bR σ x = some xs) : Ex3 fun a vs n => Py (v = .ref a) (IsL s.heap a vs.toArray n) (cM s.heap σ vs xs) := by
 cases r <;> simp only [bR,aLh,reduceCtorEq] at e
 ·obtain ⟨vs,n,h1,h2⟩ := S.mem _ _ e; exact ⟨_,vs,n,rfl,h1,h2⟩
 ·subst e; rename_i h1 h2; exact ⟨_,_,_,rfl,h1,h2⟩
theorem J6 {value : Expr} {lower upper : Option Expr} {p pos : Pos} {Q : KV}
  (h : WE c value ρ σ (fun x aG => NQ c lower ρ aG (fun lo bN => NQ c upper ρ bN (fun hi bK => ∃ xs,Py (bR bK x = some xs) (xs.length <= sizeLine) (Q (.lst (eG xs lo hi)) bK)) X) X) X)
  (ht : ∀ o r,letTemporaryGo value o r = pure () := by intro _ _; rfl) : WE c (.Subscript value (.Slice lower upper none p) pos) ρ σ Q X := fun s S Q' E' hQ hE => by
 refine wpAny_Subscript_list_slice (h s S _ _ (fun a x aQ aG bC bO bQ bF => ?_) hE) ht;refine bF.at aQ bC _ _ (fun vl lo cV bN dY dO gB dK => ?_) hE;obtain ⟨il,hvl,rfl⟩ := gB;refine dK.at cV dY _ _ (fun vu hi cN bK dF dB yU kZ => ?_) hE;obtain ⟨xs,hx,hsz,kZ⟩ := kZ;obtain ⟨iu,hvu,rfl⟩ := yU;obtain ⟨l,vs,n,rfl,h1,h2⟩ := dF.list ((bQ.mono dO).mono dB) hx;refine ⟨l,vs.toArray,_,_,rfl,h1.isList,by rw [aJv,h2.length]; exact hsz,xU hvl,xU hvu,?_⟩;have e : slicePick vs.toArray (il.map (·.1)) (iu.map (·.1)) none = (eG vs (il.map (·.1)) (iu.map (·.1))).toArray := by
  rw [slicePick_plain]; simp [eG]
 rw [e];obtain ⟨k1,k2,k3⟩ := dF.aFf (o := { cls := .type "slice",data := .fields #[vl,vu,.none] }) (tk := cN.toks) (h2.cut (il.map (·.1)) (iu.map (·.1)));exact hQ _ _ _ _ k1 (((bO.trans dO).trans dB).trans k2) k3 kZ
theorem Zm (x : Str) (l u : Option (Int × Tok)) : ((slicePicked x l u none).filterMap (x.cps[·]?)) = eG x.cps.toList (l.map (·.1)) (u.map (·.1)) := by
 have e : slicePicked x l u none = sliceRange (sliceBounds (l.map (·.1)) (u.map (·.1)) none x.cps.size).1 (sliceBounds (l.map (·.1)) (u.map (·.1)) none x.cps.size).2.1 1 := by
  unfold slicePicked Builtin.Str.strSliceIndices sliceBounds;cases l <;> cases u <;> rfl
 rw [e,sliceBounds_plain,sliceRange_one,pick_run];unfold eG;rw [aLw]
theorem NT {α : Type} {xs : List α} {lo hi : Option Int} (h : (eG xs lo hi).length = xs.length) : eG xs lo hi = xs := ((aNq _ _).trans (aLu _ _)).eq_of_length h
theorem J7 {value : Expr} {lower upper : Option Expr} {p pos : Pos} {Q : KV}
  (h : WE c value ρ σ (fun x aG => NQ c lower ρ aG (fun lo bN => NQ c upper ρ bN (fun hi bK => ∃ t,x = .str t /\ t.length <= sizeLine /\ Q (.str ⟨(eG t.cps.toList lo hi).toArray⟩) bK) X) X) X)
  (ht : ∀ o r,letTemporaryGo value o r = pure () := by intro _ _; rfl) : WE c (.Subscript value (.Slice lower upper none p) pos) ρ σ Q X := fun s S Q' E' hQ hE => by
 refine wpAny_Subscript_str_slice (h s S _ _ (fun a x aQ aG bC bO bQ bF => ?_) hE) ht;refine bF.at aQ bC _ _ (fun vl lo cV bN dY dO gB dK => ?_) hE;obtain ⟨il,hvl,rfl⟩ := gB;refine dK.at cV dY _ _ (fun vu hi cN bK dF dB yU kZ => ?_) hE;obtain ⟨t,rfl,hsz,kZ⟩ := kZ;obtain ⟨iu,hvu,rfl⟩ := yU;obtain ⟨tk,rfl⟩ := bQ.str_inv;refine ⟨t,tk,il,iu,rfl,hvl,hvu,?_⟩;have k := dF.wB (o := { cls := .type "slice",data := .fields #[vl,vu,.none] }) (tk := cN.toks);have e := Zm t il iu;have hl : (eG t.cps.toList (il.map (·.1)) (iu.map (·.1))).length <= t.cps.size := by
  have := Ed t.cps.toList (il.map (·.1)) (iu.map (·.1)); rwa [aLw] at this
 unfold sliceMade;split
 ·rename_i hw;simp only [Option.map_none,aNv,beq_self_eq_true,Bool.true_and,beq_iff_eq] at hw;have aFg : eG t.cps.toList (il.map (·.1)) (iu.map (·.1)) = t.cps.toList := by
   refine NT ?_;have e' : slicePicked t il iu none = sliceRange (sliceBounds (il.map (·.1)) (iu.map (·.1)) none t.cps.size).1 (sliceBounds (il.map (·.1)) (iu.map (·.1)) none t.cps.size).2.1 1 := by
    unfold slicePicked Builtin.Str.strSliceIndices sliceBounds;cases il <;> cases iu <;> rfl
   rw [e',sliceBounds_plain,sliceRange_one,aKw,List.length_range] at hw;unfold eG;rw [aNw,aKi,aLw];have hsz' : t.length = t.cps.size := rfl;have h1 : (Option.map (fun x => x.1) iu).elim t.cps.size (clipAt t.cps.size) <= t.cps.size := by
    cases iu with
    | none => exact aJr _
    | some p => exact Int.toNat_le.mpr (Int.max_le.mpr ⟨aLq _,Int.min_le_right _ _⟩)
   exact (aLj (Nat.sub_le_sub_right h1 _)).trans (hw.trans hsz')
  have hQ' := hQ (.str t tk) _ _ _ k.1 (((bO.trans dO).trans dB).trans k.2) (.str t tk);rw [aFg] at kZ;exact hQ' kZ
 ·rw [e];refine ⟨?_,?_⟩
  ·show (List.toArray _).size <= sizeLine;rw [aJv];exact aJw hl hsz
  ·exact hQ _ _ _ _ (k.1.tok _) (((bO.trans dO).trans dB).trans k.2) (.str _ _) kZ
end Mine
end
namespace Mine
variable {G : eX} {c : Cfg G} {ρ : eE} {σ : aW} {X : Prop}
theorem tu {a b : Int} {Q : KV} (hb : b ≠ 0) (q : Q (.int (a.fmod b)) σ) : WO c Rep (fun vs => binaryOp .Mod (vs.getD 0 .none) (vs.getD 1 .none)) [.int a,.int b] ρ σ Q X :=
 Cj fun s v w S r r' Q' E' hQ hE => by
  obtain ⟨_,rfl⟩ := r.int_inv; obtain ⟨_,rfl⟩ := r'.int_inv;exact mod_int' hb (hQ _ _ _ σ (S.tok _) (.refl _ _) (.int _ _) q)
theorem uc {a b : Int} {Q : KV} (hb : b ≠ 0) (hs : b.natAbs < 1073741824) (q : Q (.int (a.fdiv b)) σ) : WO c Rep (fun vs => binaryOp .FloorDiv (vs.getD 0 .none) (vs.getD 1 .none)) [.int a,.int b] ρ σ Q X :=
 Cj fun s v w S r r' Q' E' hQ hE => by
  obtain ⟨_,rfl⟩ := r.int_inv; obtain ⟨_,rfl⟩ := r'.int_inv;exact floordiv_int hb (hQ _ _ _ σ (S.tok _) (.refl _ _) (.int _ _) q) (.inl (PyProof.noPylong_small hs))
theorem ud {a b : Str} {Q : KV} (hl : a.length + b.length <= sizeLine) (q : Q (.str (a ++ b)) σ) : WO c Rep (fun vs => binaryOp .Add (vs.getD 0 .none) (vs.getD 1 .none)) [.str a,.str b] ρ σ Q X :=
 Cj fun s v w S r r' Q' E' hQ hE => by
  obtain ⟨_,rfl⟩ := r.str_inv; obtain ⟨_,rfl⟩ := r'.str_inv;exact SB.add (fun t' k => hQ _ _ _ σ (S.tok k) (.refl _ _) (.str _ _) q) hl
theorem uf {x y : V} {xs ys : List V} {Q : KV} (hx : bR σ x = some xs) (hy : bR σ y = some ys) (hl : xs.length + ys.length <= sizeLine) (q : Q (.lst (xs ++ ys)) σ) :
  WO c Rep (fun vs => binaryOp .Add (vs.getD 0 .none) (vs.getD 1 .none)) [x,y] ρ σ Q X :=
 Cj fun s v w S r r' Q' E' hQ hE => by
  obtain ⟨a,vs,n,rfl,h1,h2⟩ := S.list r hx;obtain ⟨b,ws,m,rfl,h3,h4⟩ := S.list r' hy;refine P.add_list h1 h3 ?_ (by rw [aJv,aJv,h2.length,h4.length]; exact hl);have e : vs.toArray ++ ws.toArray = (vs ++ ws).toArray := by simp
  rw [e];have k := S.wB (o := { cls := .type "list",data := .seq (vs ++ ws).toArray }) (tk := s.toks);refine hQ _ _ _ _ k.1 k.2 (.lst ?_ (IsL.new _ _) ((h2.append h4).mono k.2)) q;cases q : σ s.heap.objs.size with
  | none => rfl
  | some ys => obtain ⟨ws,n,h1,_⟩ := S.mem _ _ q; exact absurd (Heap.lt_size h1) (aLe _)
theorem ug {xs ys : List V} {Q : KV} (hx : xs ≠ []) (hy : ys ≠ []) (hl : xs.length + ys.length <= sizeLine) (q : Q (.tup (xs ++ ys)) σ) :
  WO c Rep (fun vs => binaryOp .Add (vs.getD 0 .none) (vs.getD 1 .none)) [.tup xs,.tup ys] ρ σ Q X :=
 Cj fun s v w S r r' Q' E' hQ hE => by
  obtain ⟨a,vs,n,rfl,h1,h2⟩ := r.uN;obtain ⟨b,ws,m,rfl,h3,h4⟩ := r'.uN;have l1 : vs.length = xs.length := h2.length;have l2 : ws.length = ys.length := h4.length;have p1 : vs ≠ [] := fun e => hx (aKu.mp (by rw [<- l1,e]; rfl));have p2 : ws ≠ [] := fun e => hy (aKu.mp (by rw [<- l2,e]; rfl));refine P.add_tuple h1 h3 (by simpa using p1) (by simpa using p2) ?_ (by rw [aJv,aJv,l1,l2]; exact hl);have e : vs.toArray ++ ws.toArray = (vs ++ ws).toArray := by simp
  rw [e];have k := S.wB (o := { cls := .type "tuple",data := .seq (vs ++ ws).toArray }) (tk := s.toks);exact hQ _ _ _ _ k.1 k.2 (.tup (IsT.new _ _) ((h2.append h4).mono k.2)) q
theorem aFh {x y : Str} {Q : KV} (q : Q (.bool (Txt.contains x y)) σ) : WO c Rep (fun vs => compareOp .In (vs.getD 0 .none) (vs.getD 1 .none)) [.str y,.str x] ρ σ Q X :=
 Cj fun s v w S r r' Q' E' hQ hE => by
  obtain ⟨_,rfl⟩ := r.str_inv; obtain ⟨_,rfl⟩ := r'.str_inv;exact SB.contains (hQ _ _ _ σ S (.refl _ _) (.bool _) q)
theorem NZ {x y : Str} {Q : KV} (q : Q (.bool (!Txt.contains x y)) σ) : WO c Rep (fun vs => compareOp .NotIn (vs.getD 0 .none) (vs.getD 1 .none)) [.str y,.str x] ρ σ Q X :=
 Cj fun s v w S r r' Q' E' hQ hE => by
  obtain ⟨_,rfl⟩ := r.str_inv; obtain ⟨_,rfl⟩ := r'.str_inv;exact SB.notContains (hQ _ _ _ σ S (.refl _ _) (.bool _) q)
noncomputable def sL (xs : List Str) : List V := xs.map V.str
theorem lW {h : Heap} {vs : List Value} {xs : List Str} (r : cM h σ vs (sL xs)) (j : Nat) (hj : j < vs.length) (hk : j < xs.length) : ∃ t,vs[j] = .str xs[j] t := by
 obtain ⟨v,e,r⟩ := r.get (i := j) (x := .str xs[j]) (by unfold sL; rw [aMv,aKo hk]; rfl);rw [aKo hj] at e;rw [aJn e];exact r.str_inv
theorem Kw {A : Around} {s : Shared} {a b : Addr} {vs ws : List Value} {xs ys : List Str} {n m : Nat} (h1 : IsL s.heap a vs.toArray n) (h2 : cM s.heap σ vs (sL xs)) (h3 : IsL s.heap b ws.toArray m) (h4 : cM s.heap σ ws (sL ys))
  (hu : A.units < cLine) : SeqAt.RcAt A s (.ref a) (.ref b) (decide (xs = ys)) := by
 have l1 : vs.length = xs.length := by simpa [sL] using h2.length
 have l2 : ws.length = ys.length := by simpa [sL] using h4.length
 by_cases hl : xs.length = ys.length
 ·have e : decide (xs = ys) = (aOy vs.toArray.size).all fun j => decide (xs[j]? = ys[j]?) := by
   rw [aMr];simp only [decide_eq_true_eq,aKp,List.mem_range,aJv];constructor
   ·rintro rfl j _; rfl
   ·intro h;refine List.ext_getElem? fun j => ?_;by_cases hj : j < vs.length
    ·exact h j hj
    ·rw [aMe (Z10 (aLy hj) l1),aMe (Z11 (aLy hj) l1 hl)]
  rw [e];refine SeqAt.RcAt.lists h1.isList h3.isList (by simp; exact aJq (Z12 l1 hl l2) (Z13 l2 hl l1)) hu fun j j1 j2 => ?_;have hj1 : j < vs.length := by simpa using j1
  have hj2 : j < ws.length := by simpa using j2
  obtain ⟨t,e1⟩ := lW h2 j hj1 (Z14 l1 hj1);obtain ⟨u,e2⟩ := lW h4 j hj2 (Z15 l1 hl hj1);have jx := Z14 l1 hj1;have jy := Z15 l1 hl hj1;have e3 : vs.toArray[j] = .str xs[j] t := by simpa using e1
  have e4 : ws.toArray[j] = .str ys[j] u := by simpa using e2
  rw [e3,e4];have := SeqAt.EqAt.str_str (A := A.in1) (s := s) xs[j] t ys[j] u;have e5 : (xs[j] == ys[j]) = decide (xs[j]? = ys[j]?) := by
   rw [aMr]; simp [jx,jy]
  rw [e5] at this;exact this
 ·have e : decide (xs = ys) = false := decide_eq_false fun q => hl (by rw [q]);rw [e];exact SeqAt.RcAt.lists_lengths h1.isList h3.isList (by rw [aJv,aJv,l1,l2]; exact bne_iff_ne.mpr hl) hu
theorem aFi {x y : V} {xs ys : List Str} {Q : KV} (hx : bR σ x = some (sL xs)) (hy : bR σ y = some (sL ys)) (q : Q (.bool (decide (xs = ys))) σ) :
  WO c Rep (fun vs => compareOp .Eq (vs.getD 0 .none) (vs.getD 1 .none)) [x,y] ρ σ Q X :=
 Cj fun s v w S r r' Q' E' hQ hE => by
  obtain ⟨a,vs,n,rfl,h1,h2⟩ := S.list r hx;obtain ⟨b,ws,m,rfl,h3,h4⟩ := S.list r' hy;exact Kw h1 h2 h3 h4 S.cl G.prog G.w E' _ (hQ _ _ _ _ S (.refl _ _) (.bool _) q)
theorem OD {A : Around} {s : Shared} {a b : Addr} {vs : List Value} {xs : List V} {n m : Nat} (h1 : IsL s.heap a vs.toArray n) (h2 : cM s.heap σ vs xs) (h3 : IsL s.heap b #[] m)
  (hu : A.units < cLine) : SeqAt.RcAt A s (.ref a) (.ref b) xs.isEmpty := by
 cases h2 with
 | nil =>
  have := SeqAt.RcAt.lists (A := A) (e := fun _ => true) h1.isList h3.isList rfl hu (fun j j1 => absurd j1 (aNe _));exact this
 | cons r rs => exact SeqAt.RcAt.lists_lengths h1.isList h3.isList (by simp) hu
theorem J8 {x y : V} {xs : List V} {Q : KV} (hx : bR σ x = some xs) (hy : bR σ y = some []) (q : Q (.bool xs.isEmpty) σ) :
  WO c Rep (fun vs => compareOp .Eq (vs.getD 0 .none) (vs.getD 1 .none)) [x,y] ρ σ Q X :=
 Cj fun s v w S r r' Q' E' hQ hE => by
  obtain ⟨a,vs,n,rfl,h1,h2⟩ := S.list r hx;obtain ⟨b,ws,m,rfl,h3,h4⟩ := S.list r' hy;obtain rfl := h4.nil_inv;exact OD h1 h2 h3 S.cl G.prog G.w E' _ (hQ _ _ _ _ S (.refl _ _) (.bool _) q)
theorem Ky {A : Around} {s : Shared} {a b : Addr} {vs ws : List Value} {xs ys : List Str} {n m : Nat} (h1 : IsL s.heap a vs.toArray n) (h2 : cM s.heap σ vs (sL xs)) (h3 : IsL s.heap b ws.toArray m) (h4 : cM s.heap σ ws (sL ys))
  (hu : A.units < cLine) : SeqAt.EqAt A s (.ref a) (.ref b) (decide (xs = ys)) := by
 by_cases hab : a = b
 ·subst hab;have e : vs = ws := by
   have := h1.symm.trans h3;simp only [aLh,Obj.mk.injEq,Data.seq.injEq] at this;have := this.2.2.1.1;simpa using this
  subst e;have : xs = ys := by
   have l1 : vs.length = xs.length := by simpa [sL] using h2.length
   have l2 : vs.length = ys.length := by simpa [sL] using h4.length
   refine List.ext_getElem (aJq (Z16 l2 l1) (Z16 l1 l2)) fun j j1 j2 => ?_;obtain ⟨t,e1⟩ := lW h2 j (Z17 j1 l1) j1;obtain ⟨u,e2⟩ := lW h4 j (Z17 j1 l1) j2;rw [e1] at e2; exact (Value.str.inj e2).1
  rw [decide_eq_true this];exact SeqAt.EqAt.same _
 ·exact SeqAt.EqAt.of_refs hab (Kw h1 h2 h3 h4 hu)
theorem Zn {A : Around} {s : Shared} {a b : Addr} {vs ws : List Value} {xs ys : List Str} {n m : Nat} (h1 : IsL s.heap a vs.toArray n) (h2 : cM s.heap σ vs (sL xs)) (h3 : IsL s.heap b ws.toArray m) (h4 : cM s.heap σ ws (sL ys))
  (hu : A.units < cLine) : SeqAt.RcNeAt A s (.ref a) (.ref b) (!decide (xs = ys)) := by
 have l1 : vs.length = xs.length := by simpa [sL] using h2.length
 have l2 : ws.length = ys.length := by simpa [sL] using h4.length
 by_cases hl : xs.length = ys.length
 ·have e : decide (xs = ys) = (aOy vs.toArray.size).all fun j => decide (xs[j]? = ys[j]?) := by
   rw [aMr];simp only [decide_eq_true_eq,aKp,List.mem_range,aJv];constructor
   ·rintro rfl j _; rfl
   ·intro h;refine List.ext_getElem? fun j => ?_;by_cases hj : j < vs.length
    ·exact h j hj
    ·rw [aMe (Z10 (aLy hj) l1),aMe (Z11 (aLy hj) l1 hl)]
  rw [e];refine SeqAt.RcNeAt.lists h1.isList h3.isList (by simp; exact aJq (Z12 l1 hl l2) (Z13 l2 hl l1)) hu fun j j1 j2 => ?_;have hj1 : j < vs.length := by simpa using j1
  have hj2 : j < ws.length := by simpa using j2
  obtain ⟨t,e1⟩ := lW h2 j hj1 (Z14 l1 hj1);obtain ⟨u,e2⟩ := lW h4 j hj2 (Z15 l1 hl hj1);have jx := Z14 l1 hj1;have jy := Z15 l1 hl hj1;have e3 : vs.toArray[j] = .str xs[j] t := by simpa using e1
  have e4 : ws.toArray[j] = .str ys[j] u := by simpa using e2
  rw [e3,e4];have := SeqAt.EqAt.str_str (A := A.in1) (s := s) xs[j] t ys[j] u;have e5 : (xs[j] == ys[j]) = decide (xs[j]? = ys[j]?) := by
   rw [aMr]; simp [jx,jy]
  rw [e5] at this;exact this
 ·have e : decide (xs = ys) = false := decide_eq_false fun q => hl (by rw [q]);rw [e];exact SeqAt.RcNeAt.lists_lengths h1.isList h3.isList (by rw [aJv,aJv,l1,l2]; exact bne_iff_ne.mpr hl) hu
theorem aFj {x y : V} {xs ys : List Str} {Q : KV} (hx : bR σ x = some (sL xs)) (hy : bR σ y = some (sL ys)) (q : Q (.bool (!decide (xs = ys))) σ) :
  WO c Rep (fun vs => compareOp .NotEq (vs.getD 0 .none) (vs.getD 1 .none)) [x,y] ρ σ Q X :=
 Cj fun s v w S r r' Q' E' hQ hE => by
  obtain ⟨a,vs,n,rfl,h1,h2⟩ := S.list r hx;obtain ⟨b,ws,m,rfl,h3,h4⟩ := S.list r' hy;exact Zn h1 h2 h3 h4 S.cl G.prog G.w E' _ (hQ _ _ _ _ S (.refl _ _) (.bool _) q)
theorem J9 {x y : V} {xs : List V} {Q : KV} (hx : bR σ x = some xs) (hy : bR σ y = some []) (q : Q (.bool (!xs.isEmpty)) σ) :
  WO c Rep (fun vs => compareOp .NotEq (vs.getD 0 .none) (vs.getD 1 .none)) [x,y] ρ σ Q X :=
 Cj fun s v w S r r' Q' E' hQ hE => by
  obtain ⟨a,vs,n,rfl,h1,h2⟩ := S.list r hx;obtain ⟨b,ws,m,rfl,h3,h4⟩ := S.list r' hy;obtain rfl := h4.nil_inv;have key : SeqAt.RcNeAt c.A s (.ref a) (.ref b) (!xs.isEmpty) := by
   cases h2 with
   | nil => exact SeqAt.RcNeAt.lists (A := c.A) (e := fun _ => true) h1.isList h3.isList rfl S.cl (fun j j1 => absurd j1 (aNe _))
   | cons r rs => exact SeqAt.RcNeAt.lists_lengths h1.isList h3.isList (by simp) S.cl
  exact key G.prog G.w E' _ (hQ _ _ _ _ S (.refl _ _) (.bool _) q)
theorem uh {x : V} {xs ys zs : List Str} {Q : KV} (hx : bR σ x = some (sL xs)) (q : Q (.bool (decide (xs = ys) || decide (xs = zs))) σ) :
  WO c Rep (fun vs => compareOp .In (vs.getD 0 .none) (vs.getD 1 .none)) [x,.tup [.lst (sL ys),.lst (sL zs)]] ρ σ Q X :=
 Cj fun s v w S r r' Q' E' hQ hE => by
  obtain ⟨a,vs,n,rfl,h1,h2⟩ := S.list r hx;obtain ⟨t,us,m,rfl,it,rs⟩ := r'.uN;obtain ⟨u1,us1,rfl,r1,rs1⟩ := rs.cons_inv;obtain ⟨u2,us2,rfl,r2,rs2⟩ := rs1.cons_inv;obtain rfl := rs2.nil_inv;obtain ⟨b1,ws1,m1,rfl,g1,g2⟩ := S.list r1 (xs := sL ys) rfl;obtain ⟨b2,ws2,m2,rfl,g3,g4⟩ := S.list r2 (xs := sL zs) rfl;have hu : c.A.in1.units < cLine := by
   have := S.ok.units;show c.A.units + 1 < 9900;exact gP (UH (Ut (.a (.a U0 (.m 12 U1)) U2) (Un 9800))<|UG (Ut (Up 0 1) (Un 9900))) rfl this
  have k1 := Ky (A := c.A.in1) g1 g2 h1 h2 hu;have k2 := Ky (A := c.A.in1) g3 g4 h1 h2 hu;have d1 : decide (ys = xs) = decide (xs = ys) := by simp [eq_comm]
  have d2 : decide (zs = xs) = decide (xs = zs) := by simp [eq_comm]
  rw [d1] at k1; rw [d2] at k2;let e : Value -> Bool := fun y => if y = .ref b1 then decide (xs = ys) else decide (xs = zs)
  have e1 : e (.ref b1) = decide (xs = ys) := if_pos rfl;have e2 : SeqAt.EqAt c.A.in1 s (.ref b2) (.ref a) (e (.ref b2)) /\ e (.ref b2) = decide (xs = zs) := by
   by_cases hb : b2 = b1
   ·subst hb;have e' : ws1 = ws2 := by
     have := g1.symm.trans g3;simp only [aLh,Obj.mk.injEq,Data.seq.injEq] at this;have := this.2.2.1.1;simpa using this
    have e'' : ys = zs := by
     subst e';have l1 : ws1.length = ys.length := by simpa [sL] using g2.length
     have l2 : ws1.length = zs.length := by simpa [sL] using g4.length
     refine List.ext_getElem (aJq (Z16 l2 l1) (Z16 l1 l2)) fun j j1 j2 => ?_;obtain ⟨t,e1⟩ := lW g2 j (Z17 j1 l1) j1;obtain ⟨u,e2⟩ := lW g4 j (Z17 j1 l1) j2;rw [e1] at e2; exact (Value.str.inj e2).1
    subst e'';exact ⟨by rw [e1]; exact k2,e1⟩
   ·have : e (.ref b2) = decide (xs = zs) := if_neg (by simpa using hb);exact ⟨by rw [this]; exact k2,this⟩
  refine SeqAt.in_tupleAt e ⟨_,it,rfl,_,rfl⟩ (fun y hy => ?_) ?_
  ·simp only [List.mem_toArray,aKf,List.not_mem_nil,or_false] at hy;rcases hy with rfl | rfl
   ·rw [e1]; exact k1
   ·exact e2.1
  ·have : (#[Value.ref b1,Value.ref b2].any e) = (decide (xs = ys) || decide (xs = zs)) := by
    simp [e1,e2.2]
   have aFk : ([Value.ref b1,Value.ref b2].toArray.any e) = (decide (xs = ys) || decide (xs = zs)) := this;rw [aFk];exact hQ _ _ _ _ S (.refl _ _) (.bool _) q
end Mine
namespace Mine
variable {G : eX} {c : Cfg G} {ρ : eE} {σ : aW} {X : Prop}
theorem Qt {f : Str} {np pos : Pos} {e : Expr} {id : String} {Q : KV} (hk : f ∈ c.gn) (hf : GV G f (.val (.builtin id)))
  (h : WE c e ρ σ (fun x aG => WO c Rep (fun vs => call (.builtin id) [vs.getD 0 .none]) [x] ρ aG Q X) X)
  (he : starEach [e] c.env = [(false,eval e c.env)] := by rfl) : WE c (.Call (.Name f np) [e] [] pos) ρ σ Q X := fun s S Q' E' hQ hE => by
 refine Call_name1 he (jJ (X := X) (Q := fun v σ' => v = .val (.builtin id) /\ σ' = σ) hk hf ⟨rfl,rfl⟩ s S _ _ (fun a x aQ aG bC bO bQ bF => ?_) hE);obtain ⟨rfl,rfl⟩ := bF;obtain rfl := bQ.val_inv;refine callWith_builtin1 (h aQ bC _ _ (fun b y cV bN dY dO gB dK => ?_) hE);exact dK cV dY [b] (.cons gB .nil) Q' E' (fun d z cN bK dF dB => hQ d z cN bK dF ((bO.trans dO).trans dB)) hE
theorem Gq {f : Str} {np pos : Pos} {e : Expr} {T : String} {Q : KV} (hk : f ∈ c.gn) (hf : GV G f (.val (.type T)))
  (h : WE c e ρ σ (fun x aG => WO c Rep (fun vs => call (.type T) [vs.getD 0 .none]) [x] ρ aG Q X) X)
  (he : starEach [e] c.env = [(false,eval e c.env)] := by rfl) : WE c (.Call (.Name f np) [e] [] pos) ρ σ Q X := fun s S Q' E' hQ hE => by
 refine Call_name1 he (jJ (X := X) (Q := fun v σ' => v = .val (.type T) /\ σ' = σ) hk hf ⟨rfl,rfl⟩ s S _ _ (fun a x aQ aG bC bO bQ bF => ?_) hE);obtain ⟨rfl,rfl⟩ := bF;obtain rfl := bQ.val_inv;refine callWith_type1 (h aQ bC _ _ (fun b y cV bN dY dO gB dK => ?_) hE);exact dK cV dY [b] (.cons gB .nil) Q' E' (fun d z cN bK dF dB => hQ d z cN bK dF ((bO.trans dO).trans dB)) hE
theorem um {x : V} {xs : List V} {Q : KV} (hx : bR σ x = some xs) (hl : xs.length < 2 ^ 62) (q : Q (.int xs.length) σ) : WO c Rep (fun vs => call (.builtin "len") [vs.getD 0 .none]) [x] ρ σ Q X :=
 X5 (f := fun v => call (.builtin "len") [v]) fun s v S r Q' E' hQ hE => by
  obtain ⟨a,vs,n,rfl,h1,h2⟩ := S.list r hx;have e : vs.toArray.size = xs.length := by rw [aJv,h2.length]
  refine Calls.call_len_list h1.isList (by rw [e]; exact qm hl) ?_;rw [e];exact hQ _ _ _ _ (S.tok _) (.refl _ _) (.int _ _) q
theorem uo {x : Str} {Q : KV} (hl : x.length < 2 ^ 62) (q : Q (.int x.length) σ) : WO c Rep (fun vs => call (.builtin "len") [vs.getD 0 .none]) [.str x] ρ σ Q X :=
 X5 (f := fun v => call (.builtin "len") [v]) fun s v S r Q' E' hQ hE => by
  obtain ⟨_,rfl⟩ := r.str_inv;exact P.len_str (aLp.mpr (qm hl)) (hQ _ _ _ _ (S.tok _) (.refl _ _) (.int _ _) q)
theorem aFl {x : Str} {n : Int} {Q : KV} (hn : PySem.intText? x = some n) (hl : x.length <= 640) (q : Q (.int n) σ) : WO c Rep (fun vs => call (.type "int") [vs.getD 0 .none]) [.str x] ρ σ Q X :=
 X5 (f := fun v => call (.type "int") [v]) fun s v S r Q' E' hQ hE => by
  obtain ⟨_,rfl⟩ := r.str_inv;exact KIN.call_text hn hl (hQ _ _ _ _ (S.tok _) (.refl _ _) (.int _ _) q)
theorem aFm {a : Int} {Q : KV} (ha : a.natAbs.log2 < 1920) (q : Q (.str (aJp (toString a))) σ) : WO c Rep (fun vs => call (.type "str") [vs.getD 0 .none]) [.int a] ρ σ Q X :=
 X5 (f := fun v => call (.type "str") [v]) fun s v S r Q' E' hQ hE => by
  obtain ⟨_,rfl⟩ := r.int_inv;exact P.str_of_int ha (hQ _ _ _ _ (S.tok _) (.refl _ _) (.str _ _) q)
theorem K1 {x : V} {xs : List V} {Q : KV} (hx : bR σ x = some xs) (hl : xs.length <= sizeLine) (q : ∀ a,σ a = .none -> Q (.mut a) (aH σ a xs)) : WO c Rep (fun vs => call (.type "list") [vs.getD 0 .none]) [x] ρ σ Q X :=
 X5 (f := fun v => call (.type "list") [v]) fun s v S r Q' E' hQ hE => by
  obtain ⟨a,vs,n,rfl,h1,h2⟩ := S.list r hx;refine call_list_seq a (.inl rfl) h1 rfl rfl (fun h' c' k hn => ?_) (by rw [aJv,h2.length]; exact hl);have hnone : σ s.heap.objs.size = .none := by
   cases q : σ s.heap.objs.size with
   | none => rfl
   | some ys => obtain ⟨ws,n,h1,_⟩ := S.mem _ _ q; exact absurd (Heap.lt_size h1) (aLe _)
  have hfree : s.heap.get? s.heap.objs.size = .none := by
   cases q : s.heap.get? s.heap.objs.size with
   | none => rfl
   | some o => exact absurd (Heap.lt_size q) (aLe _)
  have fz : pD s.heap σ h' (aH σ s.heap.objs.size xs) := { fld := fun a o _ e _ => k a o e,tup := fun x => k _ _ x,lst := fun {b _ _} x y => ⟨k _ _ x,(iD _ _ (fun e => by subst e; exact absurd (Eq.trans (Eq.symm hfree) x) (fun z => by exact aK z))).trans y⟩ };refine hQ (.ref s.heap.objs.size) (.mut s.heap.objs.size) _ (aH σ s.heap.objs.size xs) ?_ fz (.mut _) (q _ hnone);refine S.move ⟨rfl,rfl,rfl⟩ (fun a o _ e => k a o e) (fun a o _ _ e _ _ => ⟨o.slots,k a _ e⟩) (fun a _ o _ e => ⟨o,k a o e⟩) (fun a o _ _ _ e => k a o e) (fun a o _ _ sl e => ⟨sl,k a _ e⟩) fz.toFrz2 ?_ ?_
  ·intro b ys e;by_cases z : b = s.heap.objs.size
   ·subst z;rw [aC] at e; obtain rfl := aJn e;exact ⟨vs,c',hn,h2.mono fz⟩
   ·rw [iD _ _ z] at e;obtain ⟨ws,n,h1,h2⟩ := S.mem b ys e;exact ⟨ws,n,k _ _ h1,h2.mono fz⟩
  ·intro b e;by_cases z : b = s.heap.objs.size
   ·right; rw [z]; exact hfree
   ·rw [iD _ _ z] at e; exact .inl e
theorem Zo {o e : Expr} {apos pos : Pos} {Q : KV}
  (h : WE c o ρ σ (fun x aG => ∃ a,Py (x = .mut a) (∃ ys,aG a = some ys) (WE c e ρ aG (fun v bN => ∃ xs,Py (bN a = some xs) (xs.length < sizeLine) (Q .none (aH bN a (xs ++ [v])))) X)) X)
  (hbase : attributeBase o "append" c.env (eval o c.env) = eval o c.env := by rfl)
  (he : starEach [e] c.env = [(false,eval e c.env)] := by rfl)
  (hline : (apos.endLine == pos.line) = true := by rfl) : WE c (.Call (.Attribute o (aJp "append") apos) [e] [] pos) ρ σ Q X := fun s S Q' E' hQ hE => by
 refine wpAny_Call_method hbase (by rw [he]; rfl) hline F.plainAttrs_list F.slot_list_append F.type_list_append (h s S _ _ (fun v x aQ aG bC bO bQ bF => ?_) hE);obtain ⟨a,rfl,⟨ys,ha⟩,bF⟩ := bF;first | obtain rfl := bQ.val_inv | obtain rfl := bQ.mR | obtain rfl := bQ.nil_inv | cases bQ
 obtain ⟨us,n,h1,_⟩ := bC.mem a ys ha;refine ⟨⟨_,h1,rfl⟩,fun b eb => by cases eb; exact ⟨_,h1,rfl⟩,?_⟩;rw [he];refine P.append_list (bF aQ bC _ _ (fun b y cV bN dY dO gB dK => ?_) hE);obtain ⟨xs,hxs,hl,dK⟩ := dK;obtain ⟨vs,m,h3,h4⟩ := dY.mem a xs hxs;refine ⟨vs.toArray,m,by rw [aJv,h4.length]; exact j8 hl,h3,?_⟩;have k := dY.setAt (tk := cV.toks) (f := fun xs => xs.push b) hxs h3 (vs := vs ++ [b]) (by simp) (h4.append (.cons gB .nil));exact hQ _ _ _ _ k ((bO.trans dO).trans (.setAt hxs h3)) .none dK
theorem K3 {o e : Expr} {apos pos : Pos} {Q : KV}
  (h : WE c o ρ σ (fun x aG => ∃ a,Py (x = .mut a) (∃ ys,aG a = some ys) (WE c e ρ aG (fun v bN => v = .int 0 /\ Ex2 fun y xs => Py (bN a = some (y :: xs)) (xs.length < sizeLine) (Q y (aH bN a xs))) X)) X)
  (hbase : attributeBase o "pop" c.env (eval o c.env) = eval o c.env := by rfl)
  (he : starEach [e] c.env = [(false,eval e c.env)] := by rfl)
  (hline : (apos.endLine == pos.line) = true := by rfl) : WE c (.Call (.Attribute o (aJp "pop") apos) [e] [] pos) ρ σ Q X := fun s S Q' E' hQ hE => by
 refine wpAny_Call_method hbase (by rw [he]; rfl) hline F.plainAttrs_list F.slot_list_pop F.type_list_pop (h s S _ _ (fun v x aQ aG bC bO bQ bF => ?_) hE);obtain ⟨a,rfl,⟨ys,ha⟩,bF⟩ := bF;first | obtain rfl := bQ.val_inv | obtain rfl := bQ.mR | obtain rfl := bQ.nil_inv | cases bQ
 obtain ⟨us,n,h1,_⟩ := bC.mem a ys ha;refine ⟨⟨_,h1,rfl⟩,fun b eb => by cases eb; exact ⟨_,h1,rfl⟩,?_⟩;rw [he];refine P.pop_at_list (bF aQ bC _ _ (fun b z cV bN dY dO gB dK => ?_) hE);obtain ⟨rfl,y,xs,hxs,hl,dK⟩ := dK;obtain ⟨vs,m,h3,h4⟩ := dY.mem a _ hxs;obtain ⟨u,us',rfl,r,rs⟩ := h4.cons_inv;obtain ⟨t,rfl⟩ := gB.int_inv;refine ⟨(u :: us').toArray,m,0,t,0,u,?_,rfl,h3,by decide,by simp [seqIndex?],rfl,?_⟩
 ·rw [aJv,aJs,rs.length]; exact vZ hl
 have k := dY.setAt (tk := cV.toks) (f := fun xs => xs.eraseIdxIfInBounds 0) hxs h3 (vs := us') (by simp) rs;exact hQ _ _ _ _ k ((bO.trans dO).trans (.setAt hxs h3)) (r.mono (.setAt hxs h3)) dK
theorem Nf {h : Heap} {vs : List Value} {ys : List Str} (r : cM h σ vs (sL ys)) : StrsAre vs ys := by
 induction ys generalizing vs with
 | nil => obtain rfl := r.nil_inv; exact .nil
 | cons y ys ih =>
  obtain ⟨v,ws,rfl,r1,rs⟩ := r.cons_inv;obtain ⟨t,rfl⟩ := r1.str_inv;exact .cons _ _ (ih rs)
theorem K4 {o e : Expr} {apos pos : Pos} {Q : KV}
  (h : WE c o ρ σ (fun x aG => ∃ sep,x = .str sep /\ WE c e ρ aG (fun v bN => ∃ ys,bR bN v = some (sL ys) /\ (ys.map (·.length)).sum + ys.length * sep.length <= 16777216 /\ Q (.str (Txt.join sep ys)) bN) X) X)
  (hbase : attributeBase o "join" c.env (eval o c.env) = eval o c.env := by rfl)
  (he : starEach [e] c.env = [(false,eval e c.env)] := by rfl)
  (hline : (apos.endLine == pos.line) = true := by rfl) : WE c (.Call (.Attribute o (aJp "join") apos) [e] [] pos) ρ σ Q X := fun s S Q' E' hQ hE => by
 refine wpAny_Call_method hbase (by rw [he]; rfl) hline F.plainAttrs_str F.slot_str_join F.type_str_join (h s S _ _ (fun v x aQ aG bC bO bQ bF => ?_) hE);obtain ⟨sep,rfl,bF⟩ := bF;obtain ⟨t,rfl⟩ := bQ.str_inv;refine ⟨typeIs_str _ _ _,(fun b eb => by cases eb),?_⟩;rw [he];refine method1_meets F.slot_str_join F.entry_str_join (bF aQ bC _ _ (fun b z cV bN dY dO gB dK => ?_) hE);obtain ⟨ys,hy,hl,dK⟩ := dK;obtain ⟨a,vs,n,rfl,h1,h2⟩ := dY.list gB hy;obtain ⟨l,hv,ht⟩ := strsAre_values (Nf h2);have hok := joinOk_of hl;rw [<- ht] at hok;unfold JoinOk at hok;rw [Bool.not_eq_true'] at hok;refine ⟨typeIs_str _ _ _,F.args_str_join_2 _ _,_,meets_str_join_list sep t a l hok,?_,post_join l ⟨joinFit_length hok,fun t' k => ?_⟩⟩
 ·have := h1.isList;rw [hv] at this; exact this
 ·rw [ht];exact hQ _ _ _ _ (dY.tok k) (bO.trans dO) (.str _ _) dK
noncomputable def Xe (G : eX) (d : Addr) (tab : Str -> Option Int) : Prop :=
 (d == sysModules) = false /\ ∃ f : Str -> Option Value,G.h₀.MapOf (strKind G.prog G.w) d f /\ ∀ k,match tab k with
  | some i => ∃ t,f k = some (.int i t)
  | none => f k = none
theorem uq {o e e' : Expr} {apos pos : Pos} {d : Addr} {tab : Str -> Option Int} {Q : KV} (ht : Xe G d tab)
  (h : WE c o ρ σ (fun x aG => x = .val (.ref d) /\ WE c e ρ aG (fun v bN => ∃ k,v = .str k /\ WE c e' ρ bN (fun y bK => ∃ i,y = .int i /\ Q (.int ((tab k).getD i)) bK) X) X) X)
  (hbase : attributeBase o "get" c.env (eval o c.env) = eval o c.env := by rfl)
  (he : starEach [e,e'] c.env = [(false,eval e c.env),(false,eval e' c.env)] := by rfl)
  (hline : (apos.endLine == pos.line) = true := by rfl) : WE c (.Call (.Attribute o (aJp "get") apos) [e,e'] [] pos) ρ σ Q X := fun s S Q' E' hQ hE => by
 obtain ⟨hd,f,hm,hf⟩ := ht;have hmk : ∀ {s' : Shared},G.h₀.StaysIn s'.heap -> s'.heap.MapOf (strKind G.prog G.w) d f := fun {s'} k => by
  obtain ⟨o,es,ep,h1,r⟩ := hm;exact ⟨o,es,ep,k _ _ h1,r⟩
 refine wpAny_Call_method hbase (by rw [he]; rfl) hline F.plainAttrs_dict F.slot_dict_get F.type_dict_get (h s S _ _ (fun v x aQ aG bC bO bQ bF => ?_) hE);obtain ⟨rfl,bF⟩ := bF;first | obtain rfl := bQ.val_inv | obtain rfl := bQ.mR | obtain rfl := bQ.nil_inv | cases bQ
 refine ⟨(hmk bC.h0).typeIs,(hmk bC.h0).noDict,?_⟩;rw [he];refine wpAny_dict_get2 (knd := strKind G.prog G.w) hd (bF aQ bC _ _ (fun b z cV bN dY dO gB dK => ?_) hE);obtain ⟨k,rfl,dK⟩ := dK;refine dK cV dY _ _ (fun b' z' cN bK dF dB yU kZ => ?_) hE;obtain ⟨i,rfl,kZ⟩ := kZ;obtain ⟨t,rfl⟩ := gB.str_inv;obtain ⟨u,rfl⟩ := yU.int_inv;refine ⟨k,f,strKind_is _ _ k t,hmk dF.h0,?_⟩;have hk := hf k;cases hq : tab k with
 | none =>
  rw [hq] at hk kZ;have hk : f k = none := hk;rw [hk];exact hQ _ _ _ _ (dF.tok _) ((bO.trans dO).trans dB) (.int _ _) kZ
 | some j =>
  rw [hq] at hk kZ;obtain ⟨u',hk⟩ := hk;rw [hk];exact hQ _ _ _ _ (dF.tok _) ((bO.trans dO).trans dB) (.int _ _) kZ
end Mine
section
set_option tactic.hygienic true
namespace Mine
variable {G : eX} {c : Cfg G} {ρ : eE} {σ : aW} {X : Prop}
theorem K5 {e : Expr} {pos : Pos} {Q : Fl -> eE -> aW -> Prop} (h : WE c e ρ σ (fun _ aG => Q .next ρ aG) X)
  (hs : swapsWith e none pos.line c.env = pure false := by rfl) : WT c (.Expr e pos) ρ σ Q X := fun s S Q' E' hQ hE => by
 have hi : interactive c.env = false := by unfold interactive; rw [S.ok.kind]; rfl
 refine wpAny_Expr_any (h s S _ _ (fun a v aQ aG bC bO bQ bF => ?_) hE) hi hs;exact hQ _ _ _ _ _ bC bO .next bF
theorem ur {x : Str} {npos pos : Pos} {op : Operator} {e : Expr} {aAi : V} {Q : Fl -> eE -> aW -> Prop} (hx : Has ρ x aAi)
  (h : WE c e ρ σ (fun y aG => WO c Rep (fun vs => inplaceOp op (vs.getD 0 .none) (vs.getD 1 .none)) [aAi,y] ρ aG (fun z bN => ∃ ρ',Put ρ x z ρ' /\ Q .next ρ' bN) X) X) : WT c (.AugAssign (.Name x npos) op e pos) ρ σ Q X := fun s S Q' E' hQ hE => by
 obtain ⟨m,hn,hm⟩ := S.locs;obtain ⟨u,hu,r⟩ := hm x aAi hx.mem;obtain ⟨k1,k2⟩ := S.Cu hx.mem;refine wpAny_AugAssign_Name (wpAny_loadName_local S.ok.kind k1 hn hu (h s S _ _ (fun a y aQ aG bC bO bQ bF => ?_) hE));refine bF aQ bC [u,a] (.cons (r.mono bO) (.cons bQ .nil)) _ _ (fun b z cV bN dY dO gB dK => ?_) hE;obtain ⟨ρ',P,dK⟩ := dK;exact dY.storeName P gB fun s' S' F' => hQ _ _ _ _ _ S' ((bO.trans dO).trans F') .next dK
inductive Puts : eE -> List Expr -> List V -> eE -> Prop
 | nil {ρ : eE} : Puts ρ [] [] ρ
 | cons {ρ Al Gn : eE} {x : Str} {p : Pos} {es : List Expr} {v : V} {vs : List V} : Put ρ x v Al -> Puts Al es vs Gn -> Puts ρ (.Name x p :: es) (v :: vs) Gn
theorem gG.extBut {s s' : Shared} (S : gG c ρ σ s) (fx : s'.gens = s.gens /\ s'.drawn = s.drawn /\ s'.os = s.os) {a : Addr} (h : Heap.ExtBut a s.heap s'.heap) (ha : s.heap.get? a = .none) : gG c ρ σ s' /\ pD s.heap σ s'.heap σ := by
 have k : ∀ b o,s.heap.get? b = some o -> s'.heap.get? b = some o := fun b o e => h b o (fun q => by subst q; rw [ha] at e; exact aK e) e;exact ⟨S.ext fx k,.of_keeps k⟩
theorem Puts.run {es : List Expr} {vs : List V} {ρ ρ' : eE} (P : Puts ρ es vs ρ') : ∀ {s : Shared} {us : List Value} {Q' : Unit -> Shared -> Prop} {E : Value -> Shared -> Prop},gG c ρ σ s -> cM s.heap σ us vs ->
  (∀ s',gG c ρ' σ s' -> pD s.heap σ s'.heap σ -> Q' () s') -> wpAny (model G.prog G.w) c.A (assignInOrder ((assignEach es c.env).map (·.2)) us) Q' E s := by
 induction P with
 | nil =>
  intro s us Q' E S R h;first | obtain rfl := R.val_inv | obtain rfl := R.mR | obtain rfl := R.nil_inv | cases R
  exact wpAny_pure (h s S (.refl _ _))
 | @cons ρ Al Gn x p es v vs hp _ ih =>
  intro s us Q' E S R h;obtain ⟨u,us,rfl,r,rs⟩ := R.cons_inv;show wpAny _ _ (do holding us (assign (.Name x p) c.env u); assignInOrder ((assignEach es c.env).map (·.2)) us) _ _ _;refine wpAny_bind (wpAny_holding (wpAny_assign_Name (S.storeName hp r fun s' S' F' => ?_)));exact ih S' (rs.mono F') fun s'' S'' F'' => h s'' S'' (F'.trans F'')
theorem Puts.each {es : List Expr} {vs : List V} {ρ ρ' : eE} (P : Puts ρ es vs ρ') (env : Env) : (assignEach es env).length = vs.length /\ (assignEach es env).findIdx? (·.1) = none := by
 induction P with
 | nil => exact ⟨rfl,rfl⟩
 | @cons ρ Al Gn x p es v vs hp _ ih =>
  have e : assignEach (.Name x p :: es) env = (false,assign (.Name x p) env) :: assignEach es env := rfl;rw [e];refine ⟨by simp [ih.1],?_⟩;rw [List.findIdx?_cons];simp [ih.2]
theorem Vh {es : List Expr} {k : Nat} {tpos pos : Pos} {e : Expr} {Q : Fl -> eE -> aW -> Prop}
  (h : WE c e ρ σ (fun x aG => ∃ vs,x = .tup vs /\ ∃ ρ',Puts ρ es vs ρ' /\ Q .next ρ' aG) X)
  (hs : swapsWithSole [.Tuple es k tpos] e pos.line c.env = pure false := by rfl)
  (hw : swappedStores [.Tuple es k tpos] e c.env = pure none := by rfl) : WT c (.Assign [.Tuple es k tpos] e pos) ρ σ Q X := fun s S Q' E' hQ hE => by
 refine Assign_Tuple (h s S _ _ (fun a x aQ aG bC bO bQ bF => ?_) hE) hs hw;obtain ⟨vs,rfl,ρ',P,bF⟩ := bF;obtain ⟨t,us,n,rfl,it,rs⟩ := bQ.uN;have hfree : aQ.heap.get? aQ.heap.objs.size = .none := by
  cases q : aQ.heap.get? aQ.heap.objs.size with
  | none => rfl
  | some o => exact absurd (Heap.lt_size q) (aLe _)
 refine wpAny_assign_Tuple bC.ok.hand ⟨_,it,rfl,n,rfl⟩ (by rw [(P.each _).1,aJv,rs.length]) (P.each _).2 fun h' hx => ?_;obtain ⟨dY,dO⟩ := gG.extBut (s' := { aQ with heap := h' }) bC ⟨rfl,rfl,rfl⟩ hx hfree;exact P.run dY (by simpa using rs.mono dO) fun s' S' F' => hQ _ _ _ _ _ S' ((bO.trans dO).trans F') .next bF
theorem Vi {s : Shared} {a : Addr} {xs : List V} {i : Int} {t : Tok} {u : Value} {v : V} {Q' : Unit -> Shared -> Prop} {E : Value -> Shared -> Prop} (S : gG c ρ σ s) (ha : σ a = some xs) (h0 : 0 <= i) (hi : i < xs.length) (hl : xs.length <= sizeLine)
  (r : Rep s.heap σ u v) (h : ∀ s',gG c ρ (aH σ a (xs.set i.toNat v)) s' -> pD s.heap σ s'.heap (aH σ a (xs.set i.toNat v)) -> Q' () s') : wpAny (model G.prog G.w) c.A (setItem (.ref a) (.int i t) u) Q' E s := by
 obtain ⟨vs,n,h1,h2⟩ := S.mem a xs ha;have hz : sizeLine = 16777216 := rfl;have hln := h2.length;unfold setItem
 try with_reducible refine wpAny_holding ?_
 refine wpAny_bind (wpAny_sequenceKey h1.isList.typeIs (by decide) ?_);refine wpAny_bind (wpAny_callSpecial?_slot (name := aJp "__setitem__") h1.isList.typeIs slot_list_setitem
  (wpAny_call_entry slot_list_setitem h1.isList.typeIs entry_list_setitem ?_ (args_list_setitem _ _ _)))
 show wpAny _ _ (Builtin.List.listSubscript? (.int i t) >>= _) _ _ s;refine wpAny_bind (wpAny_listSubscript_int (fitsIndex_of h0 (aO (c := (Yx _ _)) (d := (j7 _ _)) (UH (Ue U0 (Un 16777216))<|UH (UL (.n 20000000) (.v 0))<|UH (UT (.v 1) (.c U1))<|UH (Ul U1 U0)<|UG (UT (.v 1) (.v 0))) rfl hz q63 hi hl)) ?_);obtain ⟨j,rfl⟩ := aNx h0;have hj : j < vs.toArray.size := by rw [aJv]; exact gP (UH (UT (.c U0) (.c U1))<|UH (Uq U2 U1)<|UG (Ut U0 U2)) rfl hi hln
 have hx' : vs.toArray[j]? = some vs.toArray[j] := aNo hj;show wpAny _ _ ((seqItemAt a j >>= fun r => pure (r.map (j, ·))) >>= _) _ _ s;refine wpAny_bind (wpAny_bind (wpAny_seqItemAt h1 rfl (wpAny_pure ?_)));rw [hx'];show wpAny _ _ (setSeqItemAt a j u >>= _) _ _ s;refine wpAny_bind (wpAny_setSeqItemAt h1 rfl ?_);have k := S.setAt (tk := s.toks) (f := fun ws => ws.setIfInBounds j u) ha h1 (vs := vs.set j u) (by simp) (h2.set r j);have hq := h _ k (.setAt ha h1);first
  | exact wpAny_bind (wpAny_pure (wpAny_pure ⟨.none,rfl,wpAny_pure hq⟩))
  | exact wpAny_pure ⟨.none,rfl,wpAny_pure hq⟩
theorem Vj {o i e : Expr} {p pos : Pos} {Q : Fl -> eE -> aW -> Prop}
  (h : WE c e ρ σ (fun v aG => WE c o ρ aG (fun x bN => ∃ a,x = .mut a /\ WE c i ρ bN (fun y bK => ∃ k xs,y = .int k /\ bK a = some xs /\ 0 <= k /\ k < (xs.length : Int) /\ xs.length <= sizeLine /\ Q .next ρ (aH bK a (xs.set k.toNat v))) X) X) X)
  (hs : swapsWith e (some (.Subscript o i p)) pos.line c.env = pure false := by rfl) : WT c (.Assign [.Subscript o i p] e pos) ρ σ Q X := fun s S Q' E' hQ hE => by
 refine wpAny_Assign_Subscript (h s S _ _ (fun va v aQ aG bC bO bQ bF => ?_) hE) hs;refine bF aQ bC _ _ (fun vo x cV bN dY dO gB dK => ?_) hE;obtain ⟨a,rfl,dK⟩ := dK;refine dK cV dY _ _ (fun vi y cN bK dF dB yU kZ => ?_) hE;obtain ⟨k,xs,rfl,ha,h0,h1,hl,kZ⟩ := kZ;first | obtain rfl := gB.val_inv | obtain rfl := gB.mR | obtain rfl := gB.nil_inv | cases gB
 obtain ⟨t,rfl⟩ := yU.int_inv;exact Vi dF ha h0 h1 hl ((bQ.mono dO).mono dB) fun s' S' F' => hQ _ _ _ _ _ S' (((bO.trans dO).trans dB).trans F') .next kZ
noncomputable def rG {α : Type} (xs ys : List α) (lo hi : Option Int) : List α :=
 xs.take (lo.elim 0 (clipAt xs.length)) ++ ys ++ xs.drop (max (lo.elim 0 (clipAt xs.length)) (hi.elim xs.length (clipAt xs.length)))
theorem Qu {α : Type} (xs ys : List α) (lo hi : Option Int) : (rG xs ys lo hi).length <= xs.length + ys.length := by
 unfold rG;rw [aJt,aJt,aNw,aKi,Nat.add_right_comm];exact aMh (aJw (aNf (Nat.sub_le_sub_left (aJw (Nat.min_le_left _ _) (Nat.le_max_left _ _)) _) _) (aOe (Nat.add_sub_of_le (Nat.min_le_right _ _)))) _
theorem Zq {s : Shared} {a sl : Addr} {xs ys : List V} {vl vu : Value} {lo hi : Option Int} {u : Value} {y : V} {Q' : Unit -> Shared -> Prop} {E : Value -> Shared -> Prop} (S : gG c ρ σ s) (ha : σ a = some xs)
  (hsl : s.heap.IsSliceOf sl vl vu .none) (pl : IsPart vl lo) (pu : IsPart vu hi) (r : Rep s.heap σ u y) (hy : bR σ y = some ys) (hu : y ≠ .mut a) (hl : xs.length + ys.length <= sizeLine)
  (h : ∀ s',gG c ρ (aH σ a (rG xs ys lo hi)) s' -> pD s.heap σ s'.heap (aH σ a (rG xs ys lo hi)) -> Q' () s') : wpAny (model G.prog G.w) c.A (setItem (.ref a) (.ref sl) u) Q' E s := by
 obtain ⟨vs,n,h1,h2⟩ := S.mem a xs ha;obtain ⟨b,ws,m,rfl,h3,h4⟩ := S.list r hy;have hz : sizeLine = 16777216 := rfl;have hln := h2.length;have hlm := h4.length;have hab : a ≠ b := fun q => by
  subst q;first | obtain rfl := r.val_inv | obtain rfl := r.mR | obtain rfl := r.nil_inv | cases r
  ·simp [bR] at hy
  ·exact hu rfl
  ·simp [bR] at hy
  ·rename_i _ e _; rw [ha] at e; exact tD e
 obtain ⟨os,hos,hcs,hds⟩ := id hsl;have hTs : s.TypeIs (.ref sl) "slice" := ⟨os,hos,hcs⟩;unfold setItem
 try with_reducible refine wpAny_holding ?_
 refine wpAny_bind (wpAny_sequenceKey h1.isList.typeIs (by decide) ?_);refine wpAny_bind (wpAny_callSpecial?_slot (name := aJp "__setitem__") h1.isList.typeIs slot_list_setitem
  (wpAny_call_entry slot_list_setitem h1.isList.typeIs entry_list_setitem ?_ (args_list_setitem _ _ _)))
 show wpAny _ _ (Builtin.List.listSubscript? (.ref sl) >>= _) _ _ s;refine wpAny_bind ?_;unfold Builtin.List.listSubscript?;refine wpAny_bind (wpAny_specialOf hTs slice_no_index ?_);simp only [Option.isNone_none,if_true];refine wpAny_pure ?_;show wpAny _ _ (typeOf (.ref sl) >>= _) _ _ s;refine wpAny_bind (wpAny_typeOf hTs ?_);rw [if_neg (by decide)];rw [listSliceParts_eq];refine wpAny_bind (wpAny_bind (wpAny_field hos hds (x := .none) rfl (wpAny_bind (wpAny_listPart (k := none) .none ?_))));rw [if_neg (show ¬ ((rawPart none == rawInt 0) = true) from aJx)];refine wpAny_bind (wpAny_field hos hds (x := vl) rfl (wpAny_bind (wpAny_listPart pl ?_)));refine wpAny_bind (wpAny_field hos hds (x := vu) rfl (wpAny_bind (wpAny_listPart pu (wpAny_pure ?_))));have hsame : Builtin.List.listSameRef (.ref a) (.ref b) = false := by
  show (a == b) = false;simpa using hab
 rw [hsame,if_neg aJx];refine wpAny_bind ?_;unfold Builtin.List.listAllItems;refine wpAny_bind (wpAny_typeOf h3.isList.typeIs ?_);rw [if_pos (by rfl)];unfold Builtin.List.listItems;refine wpAny_bind (wpAny_seqItems h3 rfl (wpAny_pure ?_));refine wpAny_bind (wpAny_bind (wpAny_seqItems h1 rfl (wpAny_pure ?_)));refine wpAny_bind (wpAny_of_eq (sliceIndices_raw lo hi none vs.toArray.size (by simp)) ?_);rw [sliceBounds_plain];dsimp only;rw [if_pos (by rfl)];refine wpAny_bind (wpAny_rule ?_);rw [if_neg (by
  unfold Builtin.List.listTooLong;simp only [aJv,decide_eq_true_eq];exact aLl (tC (UH (Ue U0 U1)<|UH (Ue U2 U3)<|UH (Ul (.a U1 U3) U4)<|UG (Ul (.a U0 U2) U4)) rfl hln hlm hl))]
 have hf : (vs.toArray.extract 0 (((lo.elim 0 (clipAt vs.toArray.size) : Nat) : Int).toNat) ++ ws.toArray ++
   vs.toArray.extract (max ((lo.elim 0 (clipAt vs.toArray.size) : Nat) : Int) ((hi.elim vs.toArray.size (clipAt vs.toArray.size) : Nat) : Int)).toNat) = (rG vs ws lo hi).toArray := by
  have e1 : (max ((lo.elim 0 (clipAt vs.toArray.size) : Nat) : Int) ((hi.elim vs.toArray.size (clipAt vs.toArray.size) : Nat) : Int)).toNat = max (lo.elim 0 (clipAt vs.toArray.size)) (hi.elim vs.toArray.size (clipAt vs.toArray.size)) := by rw [<- Lean.Omega.Int.ofNat_max]; rfl
  rw [e1,Int.toNat_natCast];unfold rG;simp only [aJv,List.extract_toArray,List.append_toArray,List.extract_eq_take_drop,aKe,Nat.sub_zero];have e2 : ∀ k,List.take (vs.length - k) (List.drop k vs) = List.drop k vs := fun k => aKr (by rw [aKi]; exact aJr _);rw [e2]
 refine wpAny_bind (m := updateSeq a _) (wpAny_updateSeq h1 rfl ?_ (by rw [aJv]; exact jX (UH (Ue U0 U1)<|UH (Ul (.a U1 U2) U3)<|UG (Ul U0 U3)) rfl hln hl) ?_)
 ·refine wpAny_bind (wpAny_letGo ?_);have hp : cM s.heap σ (rG vs ws lo hi) (rG xs ys lo hi) := by
   unfold rG;rw [hln];exact ((h2.take _).append h4).append (h2.drop _)
  have k := S.setAt (tk := s.toks) (f := fun xs => xs.extract 0 (((lo.elim 0 (clipAt vs.toArray.size) : Nat) : Int).toNat) ++ ws.toArray ++
    xs.extract (max ((lo.elim 0 (clipAt vs.toArray.size) : Nat) : Int) ((hi.elim vs.toArray.size (clipAt vs.toArray.size) : Nat) : Int)).toNat) ha h1 (vs := rG vs ws lo hi) hf hp
  have hq := h _ k (.setAt ha h1);exact wpAny_pure ⟨.none,rfl,wpAny_pure hq⟩
 ·show (vs.toArray.extract 0 _ ++ ws.toArray ++ vs.toArray.extract _).size <= _;rw [hf,aJv];have := Qu vs ws lo hi;exact Jt (UH (Ue U0 U1)<|UH (Ue U2 U3)<|UH (Ul (.a U1 U3) U4)<|UH (Ul U5 (.a U0 U2))<|UG (Ul U5 (Up 4 1))) rfl hln hlm hl this
theorem Zr {o e : Expr} {lower upper : Option Expr} {sp p pos : Pos} {Q : Fl -> eE -> aW -> Prop}
  (h : WE c e ρ σ (fun v aG => WE c o ρ aG (fun x bN => ∃ a,x = .mut a /\ v ≠ .mut a /\ NQ c lower ρ bN (fun lo bK => NQ c upper ρ bK (fun hi Yw => ∃ xs ys,Yw a = some xs /\ bR Yw v = some ys /\ xs.length + ys.length <= sizeLine /\
   Q .next ρ (aH Yw a (rG xs ys lo hi))) X) X) X) X)
  (hs : swapsWith e (some (.Subscript o (.Slice lower upper none sp) p)) pos.line c.env = pure false := by rfl) : WT c (.Assign [.Subscript o (.Slice lower upper none sp) p] e pos) ρ σ Q X := fun s S Q' E' hQ hE => by
 refine wpAny_Assign_Subscript (h s S _ _ (fun va v aQ aG bC bO bQ bF => ?_) hE) hs;refine bF aQ bC _ _ (fun vo x cV bN dY dO gB dK => ?_) hE;obtain ⟨a,rfl,hne,dK⟩ := dK;first | obtain rfl := gB.val_inv | obtain rfl := gB.mR | obtain rfl := gB.nil_inv | cases gB
 refine wpAny_Slice (dK.at cV dY _ _ (fun vl lo cN bK dF dB yU kZ => ?_) hE);obtain ⟨il,hvl,rfl⟩ := yU;refine kZ.at cN dF _ _ (fun vu hi xQ Yw aHy Wx aIz uw => ?_) hE;obtain ⟨xs,ys,hx,hy,hl,uw⟩ := uw;obtain ⟨iu,hvu,rfl⟩ := aIz;rw [evalPart_none];refine wpAny_pure ?_;have k := aHy.wB (o := { cls := .type "slice",data := .fields #[vl,vu,.none] }) (tk := xQ.toks);refine Zq k.1 hx (Heap.IsSliceOf.new ..) (xU hvl) (xU hvu) ((((bQ.mono dO).mono dB).mono Wx).mono k.2) hy hne hl fun s' S' F' => ?_;exact hQ _ _ _ _ _ S' (((((bO.trans dO).trans dB).trans Wx).trans k.2).trans F') .next uw
end Mine
end
namespace Mine
variable {G : eX} {c : Cfg G} {ρ : eE} {σ : aW} {X : Prop}
structure Iter (c : Cfg G) (it : Addr) (n : Nat) (item : Nat -> V) (C : aW -> Prop) (It : Nat -> Heap -> Prop) : Prop where
 Zt : ∀ i h,It i h -> ∃ o fs,h.get? it = some o /\ o.data = .fields fs
 same : ∀ i h h',It i h -> h'.get? it = h.get? it -> It i h'
 next : ∀ i ρ σ (s : Shared) (Q' : Option Value -> Shared -> Prop) (E : Value -> Shared -> Prop),i < n -> It i s.heap -> gG c ρ σ s -> C σ ->
  (∀ u h' tk,It (i + 1) h' -> Heap.SameBut it s.heap h' -> Rep s.heap σ u (item i) -> Q' (some u) { s with heap := h',toks := tk }) -> wpAny (model G.prog G.w) c.A (pyNext (.ref it)) Q' E s
 stop : ∀ ρ σ (s : Shared) (Q' : Option Value -> Shared -> Prop) (E : Value -> Shared -> Prop),It n s.heap -> gG c ρ σ s -> C σ ->
  (∀ h',Heap.ExtBut it s.heap h' -> Q' none { s with heap := h' }) -> wpAny (model G.prog G.w) c.A (pyNext (.ref it)) Q' E s
theorem zJ {it : Addr} {n : Nat} {item : Nat -> V} {C : aW -> Prop} {It : Nat -> Heap -> Prop} (K : Iter c it n item C It) (I : Nat -> eE -> aW -> Prop) {x : Str} {px : Pos} {body : List Stmt} {Q : Fl -> eE -> aW -> Prop}
  (hC : ∀ i ρ σ,I i ρ σ -> C σ)
  (turn : ∀ i ρ σ,i < n -> I i ρ σ -> ∃ ρ',Put ρ x (item i) ρ' /\ WS c body ρ' σ (Am (I (i + 1)) Q) X)
  (fin : ∀ ρ σ,I n ρ σ -> Q .next ρ σ)
  {s₀ cV : Shared} {vY : aW} (S : gG c ρ σ cV) (h0 : It 0 cV.heap) (hI : I 0 ρ σ) (F : pD s₀.heap vY cV.heap σ) (hnew : s₀.heap.get? it = .none) (he : c.he.get? it = .none) (hB : c.B.get? it = .none)
  {Q' : Flow -> Shared -> Prop} {E' : Value -> Shared -> Prop}
  (hQ : ∀ a b s' ρ' σ',gG c ρ' σ' s' -> pD s₀.heap vY s'.heap σ' -> Qm s'.heap σ' a b -> Q b ρ' σ' -> Q' a s') (hE : ∀ e s',X -> jE c e s' -> E' e s') :
  codeAny (model G.prog G.w) c.A (.forLoop (.Name x px) (.ref it) body [] c.env) (fun r s' => match r with | .ok f => Q' f s' | .error e => cameBackBy (model G.prog G.w) c.A c.env E' e s') cV := by
 have pass : ∀ e s'',X -> jE c e s'' -> notedBy (model G.prog G.w) c.A c.env (fun e s' => cameBackBy (model G.prog G.w) c.A c.env E' e s') e s'' := fun e s'' x f => f.passes f.ok.stack fun s' f' => hE _ _ x f';refine codeAny_forLoop (fun m s' => ∃ i ρ' σ',m = n - i /\ i <= n /\ gG c ρ' σ' s' /\ It i s'.heap /\ I i ρ' σ' /\ pD s₀.heap vY s'.heap σ') ?_ n ⟨0,ρ,σ,rfl,aKk _,S,h0,hI,F⟩;rintro m s' ⟨i,ρ',σ',rfl,hi,S',hit,hI',F'⟩;obtain ⟨o,fs,ho,hd⟩ := K.Zt i _ hit;have k0 : ∀ {h : Heap},Heap.ExtBut it s'.heap h -> pD s₀.heap vY h σ' := fun hx => F'.after fun b o e e' => hx b o (fun q => by subst q; rw [hnew] at e; exact aK e) e';by_cases hlt : i < n
 ·refine K.next i ρ' σ' s' _ _ hlt hit S' (hC _ _ _ hI') fun u h' tk hit' hs r => ?_;obtain ⟨Al,P,hb⟩ := turn i ρ' σ' hlt hI';obtain ⟨o',_,ho',_⟩ := K.Zt _ _ hit';have bC := S'.aEz (s' := { s' with heap := h',toks := tk }) ⟨rfl,rfl,rfl⟩ hs ho ⟨o',ho'⟩ ⟨fs,hd⟩ he hB;have fz2 : Frz2 s'.heap σ' h' σ' := ⟨fun {b items n} x => (hs.2 b (fun q => by subst q; have := ho.symm.trans x; obtain rfl := aJn this; cases hd)).trans x,fun {b items n} x y => ⟨(hs.2 b (fun q => by subst q; have := ho.symm.trans x; obtain rfl := aJn this; cases hd)).trans x,y⟩⟩;refine wpAny_assign_Name (bC.storeName P (r.Ec fz2) fun s'' S'' F'' => ?_);refine hb s'' S'' _ _ (fun f φ cN vQ bK dF dB yU kZ => ?_) pass;have Wx := ((k0 hs.extBut).trans F'').trans dB;have d9 : It (i + 1) cN.heap := by
   refine K.same _ _ _ hit' ?_;obtain ⟨aJj,aJf,e1,e2⟩ := K.Zt _ _ hit';rw [e1];exact dB.fld _ _ _ (F''.fld _ _ _ e1 e2) e2
  cases yU with
  | next => exact ⟨n - (i + 1),by exact Z25 (aJo (vZ hlt)) gY,i + 1,vQ,bK,rfl,hlt,dF,d9,kZ,Wx⟩
  | cont => exact ⟨n - (i + 1),by exact Z25 (aJo (vZ hlt)) gY,i + 1,vQ,bK,rfl,hlt,dF,d9,kZ,Wx⟩
  | brk => exact hQ _ _ _ _ _ dF Wx .next kZ
  | ret r => exact hQ _ _ _ _ _ dF Wx (.ret r) kZ
 ·have : i = n := by exact aJq (hi) ((aLy hlt))
  subst this;refine K.stop ρ' σ' s' _ _ hit S' (hC _ _ _ hI') fun h' hx => wpAny_execs_nil ?_;exact hQ _ _ _ _ _ (S'.aFa (s' := { s' with heap := h' }) ⟨rfl,rfl,rfl⟩ hx ho ⟨fs,hd⟩ he hB) (k0 hx) .next (fin _ _ hI')
theorem gG.OJ {s : Shared} (S : gG c ρ σ s) : s.heap.get? s.heap.objs.size = .none /\ c.he.get? s.heap.objs.size = .none /\ c.B.get? s.heap.objs.size = .none := by
 have h1 : s.heap.get? s.heap.objs.size = .none := by
  cases q : s.heap.get? s.heap.objs.size with
  | none => rfl
  | some o => exact absurd (Heap.lt_size q) (aLe _)
 refine ⟨h1,?_,?_⟩
 ·cases q : c.he.get? s.heap.objs.size with
  | none => rfl
  | some o => obtain ⟨⟨o',e⟩,_⟩ := S.keep _ _ q; rw [h1] at e; exact aK e
 ·cases q : c.B.get? s.heap.objs.size with
  | none => rfl
  | some o => have := S.base _ _ q; rw [h1] at this; exact aK this
theorem Zu {x : Str} {px pos : Pos} {e : Expr} {body : List Stmt} {Q : Fl -> eE -> aW -> Prop}
    (h : WE c e ρ σ (fun v aG => ∃ t : Str,v = .str t /\ t.cps.all (· < 128) = true /\ ∃ I : Nat -> eE -> aW -> Prop,I 0 ρ aG /\
      (∀ i ρ σ, ∀ hi : i < t.cps.size,I i ρ σ -> ∃ ρ',Put ρ x (.str ⟨#[t.cps[i]]⟩) ρ' /\ WS c body ρ' σ (Am (I (i + 1)) Q) X) /\ (∀ ρ σ,I t.cps.size ρ σ -> Q .next ρ σ)) X)
    (hs : ∀ v,foldedSetIterable e c.env v = pure v := by intro _; rfl) : WT c (.For (.Name x px) e body [] pos) ρ σ Q X := fun s S Q' E' hQ hE => by
  refine wpAny_For (h s S _ _ (fun a v aQ aG bC bO bQ bF => ?_) hE) hs
  obtain ⟨t,rfl,hasc,I,hI,turn,fin⟩ := bF
  obtain ⟨tk,rfl⟩ := bQ.str_inv
  refine wpAny_pyIter_ascii hasc ?_
  obtain ⟨n1,n2,n3⟩ := bC.OJ
  have k := bC.wB (o := { cls := .type "str_ascii_iterator",data := .fields #[.str t tk,.int 0 0] }) (tk := aQ.toks)
  have K : Iter c aQ.heap.objs.size t.cps.size (fun i => .str ⟨#[t.cps.getD i 0]⟩) (fun _ => True) (fun i h => h.IsStrIter aQ.heap.objs.size "str_ascii_iterator" t tk i) :=
    { Zt := fun i h ⟨o,h1,_,h3⟩ => ⟨o,_,h1,h3⟩
      same := fun i h h' ⟨o,h1,h2⟩ e => ⟨o,e.trans h1,h2⟩
      next := fun i ρ σ s Q' E hi hit S _ hq => by
        have hx : t.cps[i]? = some t.cps[i] := aNo hi
        refine wpAny_pyNext_ascii_item hit hx fun h' hit' hs => ?_
        have e : t.cps.getD i 0 = t.cps[i] := by simp [aOz,hi]
        exact hq _ h' _ hit' hs (by rw [e]; exact .str _ _)
      stop := fun ρ σ s Q' E hit S _ hq => wpAny_pyNext_ascii_end S.ok.hand hit (by simp) hq }
  refine zJ K I (s₀ := aQ) (fun _ _ _ _ => trivial) (fun i ρ σ hi hI => ?_) fin k.1 ⟨_,Heap.get?_push_size _ rfl,rfl,rfl⟩ hI k.2 n1 n2 n3 (fun a b s' ρ' σ' S' F' => hQ a b s' ρ' σ' S' (bO.trans F')) hE
  have e : t.cps.getD i 0 = t.cps[i] := by simp [aOz,hi]
  rw [e]
  exact turn i ρ σ hi hI
theorem Vk {x : Str} {px pos : Pos} {e : Expr} {body : List Stmt} {Q : Fl -> eE -> aW -> Prop}
    (h : WE c e ρ σ (fun v aG => ∃ a xs,v = .mut a /\ ∃ I : Nat -> eE -> aW -> Prop,(∀ i ρ σ,I i ρ σ -> σ a = some xs) /\ I 0 ρ aG /\
      (∀ i ρ σ, ∀ hi : i < xs.length,I i ρ σ -> ∃ ρ',Put ρ x xs[i] ρ' /\ WS c body ρ' σ (Am (I (i + 1)) Q) X) /\ (∀ ρ σ,I xs.length ρ σ -> Q .next ρ σ)) X)
    (hs : ∀ v,foldedSetIterable e c.env v = pure v := by intro _; rfl) : WT c (.For (.Name x px) e body [] pos) ρ σ Q X := fun s S Q' E' hQ hE => by
  refine wpAny_For (h s S _ _ (fun u v aQ aG bC bO bQ bF => ?_) hE) hs
  obtain ⟨a,xs,rfl,I,hC,hI,turn,fin⟩ := bF
  first | obtain rfl := bQ.val_inv | obtain rfl := bQ.mR | obtain rfl := bQ.nil_inv | cases bQ
  obtain ⟨vs,n,h1,h2⟩ := bC.mem a xs (hC _ _ _ hI)
  refine wpAny_pyIter_list h1.isList ?_
  obtain ⟨n1,n2,n3⟩ := bC.OJ
  have k := bC.wB (o := { cls := .type "list_iterator",data := .fields #[.ref a,.int 0 0] }) (tk := aQ.toks)
  have K : Iter c aQ.heap.objs.size xs.length (fun i => xs.getD i .none) (fun σ => σ a = some xs) (fun i h => h.IsListIter aQ.heap.objs.size a i) :=
    { Zt := fun i h ⟨o,h1,_,h3⟩ => ⟨o,_,h1,h3⟩
      same := fun i h h' ⟨o,h1,h2⟩ e => ⟨o,e.trans h1,h2⟩
      next := fun i ρ σ s Q' E hi hit S hc hq => by
        obtain ⟨vs,n,g1,g2⟩ := S.mem a xs hc
        have hx : xs[i]? = some xs[i] := aKo hi
        obtain ⟨u,hu,ru⟩ := g2.get hx
        refine wpAny_pyNext_list_item hit g1.isList (x := u) (by simpa using hu) fun h' hit' hs => ?_
        have e : xs.getD i .none = xs[i] := by simp [aPh,hi]
        exact hq _ h' s.toks hit' hs (by rw [e]; exact ru)
      stop := fun ρ σ s Q' E hit S hc hq => by
        obtain ⟨vs,n,g1,g2⟩ := S.mem a xs hc
        exact wpAny_pyNext_list_end S.ok.hand hit g1.isList (by have := g2.length; simp; exact Z26 this) hq }
  refine zJ K I (s₀ := aQ) hC (fun i ρ σ hi hI => ?_) fin k.1 ⟨_,Heap.get?_push_size _ rfl,rfl,rfl⟩ hI k.2 n1 n2 n3 (fun a b s' ρ' σ' S' F' => hQ a b s' ρ' σ' S' (bO.trans F')) hE
  have e : xs.getD i .none = xs[i] := by simp [aPh,hi]
  rw [e]
  exact turn i ρ σ hi hI
theorem Ef (I : Nat -> eE -> aW -> Prop) {x : Str} {px : Pos} {body : List Stmt} {Q : Fl -> eE -> aW -> Prop} {a b : Int} {r : Addr} {t u v : Tok} {aQ : Shared}
    (hI : I 0 ρ σ) (turn : ∀ (i : Nat) ρ σ,(i : Int) < b - a -> I i ρ σ -> ∃ ρ',Put ρ x (.int (a + i)) ρ' /\ WS c body ρ' σ (Am (I (i + 1)) Q) X) (fin : ∀ ρ σ,I (b - a).toNat ρ σ -> Q .next ρ σ)
    (ha : -(2 ^ 62) <= a) (ha' : a < 2 ^ 62) (hb : -(2 ^ 62) <= b) (hb' : b < 2 ^ 62) (bC : gG c ρ σ aQ) (hr : IsRange aQ.heap r a b 1 t u v)
    {Q' : Flow -> Shared -> Prop} {E' : Value -> Shared -> Prop}
    (hQ : ∀ a b s' ρ' σ',gG c ρ' σ' s' -> pD aQ.heap σ s'.heap σ' -> Qm s'.heap σ' a b -> Q b ρ' σ' -> Q' a s') (hE : ∀ e s',X -> jE c e s' -> E' e s') :
    wpAny (model G.prog G.w) c.A (pyIter (.ref r)) (fun it cV => codeAny (model G.prog G.w) c.A (.forLoop (.Name x px) it body [] c.env) (fun r s' => match r with | .ok f => Q' f s' | .error e => cameBackBy (model G.prog G.w) c.A c.env E' e s') cV) E' aQ := by
  refine wpAny_pyIter_range hr (small_one ha ha' hb hb') ?_
  rw [rangeSize_one]
  obtain ⟨n1,n2,n3⟩ := bC.OJ
  have hn : (if a < b then b - a else 0) = (((b - a).toNat : Nat) : Int) := by
    split <;> rename_i q
    · exact (aJy (Int.sub_nonneg_of_le (Int.le_of_lt q))).symm
    · rw [Int.toNat_of_nonpos (Int.sub_nonpos_of_le (aKd.mp q))]; rfl
  rw [hn]
  have k := bC.wB (o := { cls := .type "range_iterator",data := .fields #[rawInt a,rawInt (((b - a).toNat : Nat) : Int),rawInt 1] }) (tk := aQ.toks)
  have K : Iter c aQ.heap.objs.size (b - a).toNat (fun i => .int (a + i)) (fun _ => True) (fun i h => IsRangeIter h aQ.heap.objs.size (a + i) ((((b - a).toNat : Nat) : Int) - i) 1) :=
    { Zt := fun i h h1 => ⟨_,_,h1,rfl⟩
      same := fun i h h' h1 e => e.trans h1
      next := fun i ρ σ s Q' E hi hit S _ hq => by
        refine wpAny_pyNext_range_item hit (iR (UH (Ut U0 U1)<|UG (UT (.n 0) (.b (.c U1) (.c U0)))) rfl hi) fun h' hit' hs => ?_
        refine hq _ h' _ ?_ hs (.int _ _)
        have e1 : a + ((i + 1 : Nat) : Int) = a + i + 1 := by push_cast; exact aKs (aO (c := (m8 _)) (d := (qY _)) (UG (UL (.a (.v 0) (.a (.c U0) (.n 1))) (.a (.a (.v 0) (.c U0)) (.n 1)))) rfl) (aO (c := (m8 _)) (d := (qY _)) (UG (UL (.a (.a (.v 0) (.c U0)) (.n 1)) (.a (.v 0) (.a (.c U0) (.n 1))))) rfl)
        have e2 : (((b - a).toNat : Nat) : Int) - ((i + 1 : Nat) : Int) = (((b - a).toNat : Nat) : Int) - i - 1 := by push_cast; exact aKs (iR (UG (UL (.b (.c U0) (.a (.c U1) (.n 1))) (.b (.b (.c U0) (.c U1)) (.n 1)))) rfl) (iR (UG (UL (.b (.b (.c U0) (.c U1)) (.n 1)) (.b (.c U0) (.a (.c U1) (.n 1))))) rfl)
        rw [e1,e2]; exact hit'
      stop := fun ρ σ s Q' E hit S _ hq => wpAny_pyNext_range_end S.ok.hand hit (eU (UG (UL (.b (.c U0) (.c U0)) (.n 0))) rfl) hq }
  refine zJ K I (s₀ := aQ) (fun _ _ _ _ => trivial) (fun i ρ σ hi hI => turn i ρ σ (aPa.mp hi) hI) fin k.1 ?_ hI k.2 n1 n2 n3 hQ hE
  have := Heap.get?_push_size aQ.heap (o := { cls := .type "range_iterator",data := .fields #[rawInt a,rawInt (((b - a).toNat : Nat) : Int),rawInt 1] }) rfl
  show IsRangeIter _ _ (a + ((0 : Nat) : Int)) ((((b - a).toNat : Nat) : Int) - ((0 : Nat) : Int)) 1
  rw [Int.natCast_zero,aLk,Int.sub_zero]
  exact this
theorem Ng {f x : Str} {np px cpos pos : Pos} {e : Expr} {body : List Stmt} {Q : Fl -> eE -> aW -> Prop} (hk : f ∈ c.gn) (hf : GV G f (.val (.type "range")))
  (h : WE c e ρ σ (fun v aG => ∃ b : Int,v = .int b /\ -(2 ^ 62) <= b /\ b < 2 ^ 62 /\ ∃ I : Nat -> eE -> aW -> Prop,I 0 ρ aG /\
   (∀ (i : Nat) ρ σ,(i : Int) < b -> I i ρ σ -> ∃ ρ',Put ρ x (.int i) ρ' /\ WS c body ρ' σ (Am (I (i + 1)) Q) X) /\ (∀ ρ σ,I b.toNat ρ σ -> Q .next ρ σ)) X)
  (he : starEach [e] c.env = [(false,eval e c.env)] := by rfl)
  (hs : ∀ v,foldedSetIterable (.Call (.Name f np) [e] [] cpos) c.env v = pure v := by intro _; rfl) : WT c (.For (.Name x px) (.Call (.Name f np) [e] [] cpos) body [] pos) ρ σ Q X := fun s S Q' E' hQ hE => by
 refine wpAny_For (Call_name1 he (jJ (X := X) (Q := fun v σ' => v = .val (.type "range") /\ σ' = σ) hk hf ⟨rfl,rfl⟩ s S _ _ (fun a x aQ aG bC bO bQ bF => ?_) hE)) hs;obtain ⟨rfl,rfl⟩ := bF;obtain rfl := bQ.val_inv;refine callWith_type1 (h aQ bC _ _ (fun b' y cV bN dY dO gB dK => ?_) hE);obtain ⟨b,rfl,hb,hb',I,hI,turn,fin⟩ := dK;obtain ⟨t,rfl⟩ := gB.int_inv;refine call_range_1 ?_;have k := dY.wB (o := { cls := .type "range",data := .fields #[.int 0 cV.toks,.int b t,.int 1 (cV.toks + 1)] }) (tk := cV.toks + 1 + 1);refine Ef I (a := 0) (b := b) hI (fun i ρ σ hi hI => by simpa using turn i ρ σ (aO (c := (m8 _)) (d := (qY _)) (UH (UT (.c U0) (.b (.v 0) (.n 0)))<|UG (UT (.c U0) (.v 0))) rfl hi) hI) (fun ρ σ hI => fin ρ σ (by simpa using hI)) (aO (c := .o) (d := (qY _)) (UH (UL (.n 20000000) (.v 0))<|UG (UL (.g (.v 0)) (.n 0))) rfl xR) (aO (c := .o) (d := (qY _)) (UH (UL (.n 20000000) (.v 0))<|UG (UT (.n 0) (.v 0))) rfl xR) hb hb' k.1 (IsRange.new _ _ _ _ _ _ _)
  (fun a b s' ρ' σ' S' F' => hQ a b s' ρ' σ' S' (((bO.trans dO).trans k.2).trans F')) hE
theorem Nh {f x : Str} {np px cpos pos : Pos} {e e' : Expr} {body : List Stmt} {Q : Fl -> eE -> aW -> Prop} (hk : f ∈ c.gn) (hf : GV G f (.val (.type "range")))
  (h : WE c e ρ σ (fun v aG => ∃ a : Int,v = .int a /\ WE c e' ρ aG (fun v bN => ∃ b : Int,v = .int b /\ -(2 ^ 62) <= a /\ a < 2 ^ 62 /\ -(2 ^ 62) <= b /\ b < 2 ^ 62 /\ ∃ I : Nat -> eE -> aW -> Prop,I 0 ρ bN /\
   (∀ (i : Nat) ρ σ,(i : Int) < b - a -> I i ρ σ -> ∃ ρ',Put ρ x (.int (a + i)) ρ' /\ WS c body ρ' σ (Am (I (i + 1)) Q) X) /\ (∀ ρ σ,I (b - a).toNat ρ σ -> Q .next ρ σ)) X) X)
  (he : starEach [e,e'] c.env = [(false,eval e c.env),(false,eval e' c.env)] := by rfl)
  (hs : ∀ v,foldedSetIterable (.Call (.Name f np) [e,e'] [] cpos) c.env v = pure v := by intro _; rfl) : WT c (.For (.Name x px) (.Call (.Name f np) [e,e'] [] cpos) body [] pos) ρ σ Q X := fun s S Q' E' hQ hE => by
 refine wpAny_For (wpAny_Call_NameR (jJ (X := X) (Q := fun v σ' => v = .val (.type "range") /\ σ' = σ) hk hf ⟨rfl,rfl⟩ s S _ _ (fun a x aQ aG bC bO bQ bF => ?_) hE)) hs;obtain ⟨rfl,rfl⟩ := bF;obtain rfl := bQ.val_inv;rw [he];refine PySem.callWith_type rfl (Calls.evalArgs_plain (Calls.spliced_cons (h aQ bC _ _ (fun a' y cV bN dY dO gB dK => ?_) hE)));obtain ⟨a,rfl,dK⟩ := dK;obtain ⟨t,rfl⟩ := gB.int_inv;refine Calls.spliced_cons (dK cV dY _ _ (fun b' y cN bK dF dB yU kZ => ?_) hE);obtain ⟨b,rfl,ha,ha',hb,hb',I,hI,turn,fin⟩ := kZ;obtain ⟨u,rfl⟩ := yU.int_inv;refine Calls.spliced_nil ?_;refine call_range_2 ?_;have k := dF.wB (o := { cls := .type "range",data := .fields #[.int a t,.int b u,.int 1 cN.toks] }) (tk := cN.toks + 1);exact Ef I (a := a) (b := b) hI turn fin ha ha' hb hb' k.1 (IsRange.new _ _ _ _ _ _ _)
  (fun a b s' ρ' σ' S' F' => hQ a b s' ρ' σ' S' ((((bO.trans dO).trans dB).trans k.2).trans F')) hE
end Mine
open PySem PySem.W PyProof.Rows PySem.Calls Builtin Builtin.ObjectAttr
namespace Mine
noncomputable def uP : List Value := [.type "Exception",.type "BaseException",.type "object"]
noncomputable def uQ : List Value -> Bool
 | [] => false
 | v :: r => (v :: r) == uP || match v with | .ref _ => uQ r | _ => false
theorem Eh (self : Value) : ∀ {l : List Value},uQ l = true -> refuseLoop self "__setattr__" l = pure ()
 | [],e => by cases e
 | v :: r,e => by
  unfold uQ at e;rcases aKn.mp e with q | q
  ·rw [beq_iff_eq.mp q]; exact PySem.F.store_Exception.passes self
  ·cases v <;> first | cases q | skip
   rw [refuseLoop_ref]; exact Eh self q
theorem oR {X : String} : ∀ {l : List Value},uQ l = true -> l.contains (.type X) = uP.contains (.type X)
 | [],e => by cases e
 | v :: r,e => by
  unfold uQ at e;rcases aKn.mp e with q | q
  ·rw [beq_iff_eq.mp q]
  ·cases v <;> first | cases q | skip
   rw [aKy,oR q]; rfl
noncomputable def aFn (d : Data) (F : ClassData -> Bool) : Bool := if h : d.ctorIdx = 8 then Data.cls.elim d h F else false
@[elab_as_elim] theorem ux (d : Data) {F : ClassData -> Bool} {P : Data -> Prop} (h : aFn d F = true) (K : ∀ c,F c = true -> P (.cls c)) : P d :=
 let ⟨i,h⟩ := dk h; Data.cls.elim (motive := fun d => ∀ i,Data.cls.elim d i F = true -> P d) d i (fun c _ h => K c h) i h
noncomputable def X8 (K : Frag) (C fI : Addr) : Bool := bs (K.lookup C) fun o => aFn o.data fun cd => bc cd.mro fun m bm => o.cls == .type "type" && (m == .ref C && (aOg o.slots.size 6 && (o.slots[4]? == some (some (.builtin "Exception.__new__")) && (!cd.hasDel && (cd.hasDict && (uQ bm &&
 (findIn K (.ref C) "__init__" == some (some (.ref fI)) && (typeIn K (.ref fI) == some (.type "function") && findIn K (.ref C) "__setattr__" == some (some (.builtin "object.__setattr__"))))))))))
inductive aHz (h : Heap) (C : Addr) : Prop
 | mk (nm q : Str) (N : Addr) (bs bm : List Value) (sn : List Str) (sub : List Value) (ab : Bool) (col : Option Bool) (dd : Option Addr) (k0 k1 k2 k3 k5 : Option Value)
  (x : h.get? C = some (excClassObj nm q C N bs bm true sn sub ab col dd k0 k1 k2 k3 k5 "Exception.__new__")) (y : uQ bm = true)
structure jN (K : Frag) (h : Heap) (C fI : Addr) : Prop where
 obj : aHz h C
 init : findIn K (.ref C) "__init__" = some (some (.ref fI))
 fn : typeIn K (.ref fI) = some (.type "function")
 set : findIn K (.ref C) "__setattr__" = some (some (.builtin "object.__setattr__"))
theorem Kz {α : Type} {l : List α} {n : Nat} (h : l.length = n + 1) : Ex2 fun x r => l = x :: r /\ r.length = n := by
 cases l with
 | nil => cases h
 | cons x r => exact ⟨x,r,rfl,aNj h⟩
theorem aFo {α : Type} {a : Array α} (h : a.size = 6) : ∃ k0 k1 k2 k3 k4 k5,a = #[k0,k1,k2,k3,k4,k5] := by
 obtain ⟨l⟩ := a;obtain ⟨k0,l0,rfl,h0⟩ := Kz (show l.length = 5 + 1 from h);obtain ⟨k1,l1,rfl,h1⟩ := Kz h0;obtain ⟨k2,l2,rfl,h2⟩ := Kz h1;obtain ⟨k3,l3,rfl,h3⟩ := Kz h2;obtain ⟨k4,l4,rfl,h4⟩ := Kz h3;obtain ⟨k5,l5,rfl,h5⟩ := Kz h4;obtain rfl := aKu.mp h5;exact ⟨_,_,_,_,_,_,rfl⟩
theorem wC {K : Frag} {h : Heap} {C fI : Addr} (X : K.In h) (q : X8 K C fI = true) : jN K h C fI := by
 unfold X8 at q;cases ho : K.lookup C with
 | none => rw [ho] at q; cases q
 | some o =>
  rw [ho] at q;obtain ⟨cls,dd,data,sl⟩ := o;revert ho
  refine ux data q fun cd q => ?_;obtain ⟨nm,bs,mro,ns,qn,hd,sn,sub,ab,col,del⟩ := cd;refine mQ mro q fun m bm q => ak q fun h1 q => ak q fun h2 q => ak q fun h3 q => ak q fun h4 q => ak q fun h5 q => ak q fun h6 q => ak q fun h7 q => ak q fun h8 q => ak q fun h9 h10 => ?_;obtain ⟨k0,k1,k2,k3,k4,k5,hs⟩ := aFo (aLr h3);have e1 : cls = .type "type" := eq_of_beq h1;have e2 : m = .ref C := eq_of_beq h2;have hs : sl = #[k0,k1,k2,k3,k4,k5] := hs;have h4 : (sl[4]? == some (some (.builtin "Exception.__new__"))) = true := h4;have e4 : k4 = some (.builtin "Exception.__new__") := by rw [hs] at h4; exact aJn (eq_of_beq h4)
  have e5 : del = false := by cases del; rfl; cases h5
  have e6 : hd = true := h6;have E : (⟨cls,dd,.cls ⟨nm,bs,m :: bm,ns,qn,hd,sn,sub,ab,col,del⟩,sl⟩ : Obj) = excClassObj nm qn C ns bs bm true sn sub ab col dd k0 k1 k2 k3 k5 "Exception.__new__" := by
   rw [e1,e2,hs,e4,e5,e6]
  exact fun ho => ⟨⟨nm,qn,ns,bs,bm,sn,sub,ab,col,dd,k0,k1,k2,k3,k5,X _ _ (ho.trans (congrArg some E)),h7⟩,eq_of_beq h8,eq_of_beq h9,eq_of_beq h10⟩
section
variable {M : Model} {A : Around} {E : Value -> Shared -> Prop} {h : Heap} {g : Array GenState} {d : Drawn} {t : Nat} {os : OsState}
variable {nm q : Str} {C N : Addr} {bs bm : List Value} {hdct : Bool} {sn : List Str} {sub : List Value} {ab : Bool} {col : Option Bool} {dd : Option Addr} {k0 k1 k2 k3 k5 : Option Value}
variable {B newId initId : String} {bmB : List Value}
theorem Qv (F : ExcBaseFacts B newId initId bmB) (hcont : (Value.ref C :: bm).contains (.type B) = true) {rest : List Value} {Q : Unit -> Shared -> Prop} (hC : h.get? C = some (excClassObj nm q C N bs bm hdct sn sub ab col dd k0 k1 k2 k3 k5 newId))
  (hq : Q () ⟨h,g,d,t,os⟩) : wpAny M A (checkBuiltinCall newId ⟨.ref C :: rest,[]⟩) Q E ⟨h,g,d,t,os⟩ := by
 have hstar := F.noStar;simp only [checkBuiltinCall,F.newKind,F.newSplit,F.newRow];repeat (first | refine wpAny_loadPart_at hC ?_ | (refine wpAny_isSubtype_exc hC ?_; rw [hcont]) | refine wpAny_staticBase_exc hC ?_ | refine wpAny_madeBy_exc hC ?_ | simp only [bne_self_eq_false,aKg,if_false] | wp_step)
 exact hq
end
section
variable {prog : Program} {w : World} {A : Around} {R : Result -> Shared -> Prop} {h : Heap} {g : Array GenState} {d : Drawn} {t : Nat} {os : OsState}
variable {nm q : Str} {C N : Addr} {bs bm : List Value} {hdct : Bool} {sn : List Str} {sub : List Value} {ab : Bool} {col : Option Bool} {dd : Option Addr} {k0 k1 k2 k3 k5 : Option Value}
variable {B newId initId : String} {bmB : List Value}
theorem Zv (F : ExcBaseFacts B newId initId bmB) (hcB : (Value.ref C :: bm).contains (.type B) = true) (hcA : (Value.ref C :: bm).contains (.type "AttributeError") = false) (hcN : (Value.ref C :: bm).contains (.type "NameError") = false)
  {rest : List Value} (hC : h.get? C = some (excClassObj nm q C N bs bm hdct sn sub ab col dd k0 k1 k2 k3 k5 newId))
  (hq : R (.ok (.ret (.ref (h.objs.size + 1)))) ⟨(h.push { cls := .type "tuple",data := .seq rest.toArray }).push
   { cls := .ref C,data := .fields #[.ref h.objs.size,.none,.none,.none,.bool false,.none] },g,d,t,os⟩) (hrest : rest.length <= sizeLine) :
  codeAny (model prog w) A (.builtin newId ⟨.ref C :: rest,[]⟩) R ⟨h,g,d,t,os⟩ := by
 have hends := F.ends;refine codeAny_builtinAt F.entry ?_;unfold Builtin.«BaseException.__new__»;refine PySem.wpAt_bind ?_;show PySem.wpAt _ _ _ (stack >>= _) _ _ _;refine PySem.wpAt_bind (PySem.wpAt_stack fun p below => PySem.wpAt_of_wpAny ?_)
 wp_walk
 refine PySem.wpAt_of_wpAny ?_;rw [F.owner];repeat (first | with_reducible refine wpAny_madeHere_exc F.canon hC ?_ | with_reducible refine wpAny_loadPart_at hC ?_ | (with_reducible refine wpAny_isSubtype_exc hC ?_; first | rw [hcB] | rw [hcA] | rw [hcN]) | wp_step)
 show R _ _;rw [Heap.size_push];exact hq
end
noncomputable abbrev wD (C tp : Addr) : Obj := { cls := .ref C,data := .fields #[.ref tp,.none,.none,.none,.bool false,.none] }
noncomputable abbrev Ni (vs : List Value) : Obj := { cls := .type "tuple",data := .seq vs.toArray }
section
variable {prog : Program} {w : World} {A : Around} {R : Result -> Shared -> Prop} {h : Heap} {g : Array GenState} {d : Drawn} {t : Nat} {os : OsState}
variable {C fI : Addr} {K : Frag}
theorem Qw (X : K.In h) (Y : jN K h C fI) {rest : List Value} (hrest : rest.length <= sizeLine)
  (hq : codeAny (model prog w) (A.under (.builtin "type.__call__" ⟨.ref C :: rest,[]⟩)) (.call (.ref fI) ⟨.ref (h.objs.size + 1) :: rest,[]⟩) (InitBack (h.objs.size + 1) R)
   ⟨(h.push (Ni rest)).push (wD C h.objs.size),g,d,t,os⟩) :
  codeAny (model prog w) A (.call (.ref C) ⟨rest,[]⟩) R ⟨h,g,d,t,os⟩ := by
 obtain ⟨nm,q,N,bs,bm,sn,sub,ab,col,dd,k0,k1,k2,k3,k5,hC,hB⟩ := Y.obj;have hI := Y.init;have hf := Y.fn;have F := PySem.F.excBase_Exception;have hcB : (Value.ref C :: bm).contains (.type "Exception") = true := by rw [aKy,oR hB]; rw [show uP.contains (.type "Exception") = true from by decide +kernel,aNk]
 have hcA : (Value.ref C :: bm).contains (.type "AttributeError") = false := by rw [aKy,oR hB]; rw [show uP.contains (.type "AttributeError") = false from by decide +kernel]; rfl
 have hcN : (Value.ref C :: bm).contains (.type "NameError") = false := by rw [aKy,oR hB]; rw [show uP.contains (.type "NameError") = false from by decide +kernel]; rfl
 have f1 := tc_lookup;have f2 := tc_bind (.ref C);have hT : (⟨h,g,d,t,os⟩ : Shared).TypeIs (.ref C) "type" := ⟨_,hC,rfl⟩;refine codeAny_of_tree ?_;show wpAny _ _ (callAny (.ref C) _) _ _ _;repeat (any_goals (first | assumption | with_reducible refine wpAny_loadPart_at hC ?_ | wp_step))
 refine ⟨rfl,?_⟩;refine codeAny_call_builtin_at (Code.quiet_builtin _ (by decide +kernel)) entry_typeCall (wpAny_check_type_call_sub hC ?_);repeat (first | with_reducible refine wpAny_loadPart_at hC ?_ | with_reducible refine wpAny_madeBy_exc hC ?_ | wp_step)
 refine codeAny_call_builtin_code (Code.quiet_builtin _ F.quiet) (Qv F hcB hC ?_);refine Zv (rest := rest) F hcB hcA hcN hC ?_ hrest;show wpAny _ _ _ _ _ _;have k : ∀ b o,h.get? b = some o -> ((h.push (Ni rest)).push (wD C h.objs.size)).get? b = some o := fun b o e => Heap.get?_push_of_some _ (Heap.get?_push_of_some _ e);have aHf := k _ _ hC;have lU := X.keeps k;have hget : ((h.push (Ni rest)).push (wD C h.objs.size)).get? (h.objs.size + 1) = some { cls := .ref C,data := .fields #[.ref h.objs.size,.none,.none,.none,.bool false,.none] } := by heap_get
 have hcC : (Value.ref C :: bm).contains (.ref C) = true := by simp
 unfold isInstance;repeat (first | with_reducible refine wpAny_loadPart_at hget ?_ | (with_reducible refine wpAny_isSubtype_exc aHf ?_; rw [hcC]) | wp_step)
 show wpAny _ _ (typeLookup (.ref C) _) _ _ _;refine (looks_findIn lU hI).at ?_;refine wpAny_holding (wpAny_bind ((bind_fn lU _ hf).at ?_));refine wpAny_bind (wpAny_call ?_);refine codeAny_mono hq fun r s' z => ?_;rcases r with e | (v | _ | _ | _) <;> first | exact z | exact z.elim | skip
 obtain ⟨rfl,z⟩ := z;exact wpAny_pure (wpAny_pure z)
theorem Nj {M : Model} {A : Around} {E : Value -> Shared -> Prop} {nm q : Str} {N : Addr} {bs bm : List Value} {hdct : Bool} {sn : List Str} {sub : List Value} {ab : Bool} {col : Option Bool} {dd : Option Addr} {k0 k1 k2 k3 k5 : Option Value} {B newId initId n2 : String} {bmB : List Value}
  (F : ExcBaseFacts B newId initId bmB) (hcB : (Value.ref C :: bm).contains (.type B) = true) {e : Addr} {oe : Obj} {rest : List Value} {Q : Unit -> Shared -> Prop}
  (hC : h.get? C = some (excClassObj nm q C N bs bm hdct sn sub ab col dd k0 k1 k2 k3 k5 n2)) (he : h.get? e = some oe) (hcls : oe.cls = .ref C) (hq : Q () ⟨h,g,d,t,os⟩) :
  wpAny M A (checkBuiltinCall initId ⟨.ref e :: rest,[]⟩) Q E ⟨h,g,d,t,os⟩ := by
 have hshort := F.noStar;simp only [checkBuiltinCall,F.initKind,F.initSplit,F.initRow];repeat (first | (with_reducible refine wpAny_loadPart_at he ?_; rw [hcls]) | with_reducible refine wpAny_loadPart_at hC ?_ | (with_reducible refine wpAny_isSubtype_exc hC ?_; rw [hcB]) | wp_step)
 refine wpAny_onRaise ?_;rw [show ∀ (a b : String) (n : Nat),Bind.check ⟨.positional, "*",B,.self,[⟨"args",.varPos,false⟩]⟩ a b n (List.map (fun x => x.fst) ({ pos := Value.ref e :: rest } : Args).kw) = pure () from
  fun a b n => check_star_args _ _ _ _ _ _]
 exact wpAny_pure hq
theorem Kc {e t0 : Addr} (Y : jN K h C fI) (he : h.get? e = some { cls := .ref C,data := .fields #[.ref t0,.none,.none,.none,.bool false,.none] }) {rest : List Value} (hrest : rest.length <= sizeLine)
  (hq : ∀ h',(∀ b o,b ≠ e -> h.get? b = some o -> h'.get? b = some o) -> h'.get? e = some (wD C h.objs.size) -> R (.ok (.ret .none)) ⟨h',g,d,t,os⟩) :
  codeAny (model prog w) A (.call (.builtin "Exception.__init__") ⟨.ref e :: rest,[]⟩) R ⟨h,g,d,t,os⟩ := by
 obtain ⟨nm,q,N,bs,bm,sn,sub,ab,col,dd,k0,k1,k2,k3,k5,hC,hB⟩ := Y.obj;have hI := Y.init;have hf := Y.fn;have F := PySem.F.excBase_Exception;have hcB : (Value.ref C :: bm).contains (.type "Exception") = true := by rw [aKy,oR hB]; rw [show uP.contains (.type "Exception") = true from by decide +kernel,aNk]
 refine codeAny_call_builtin F.init.plain F.initEntry (Nj F hcB hC he rfl ?_)
 wp_walk
 refine hq _ (fun b o hb hbo => ?_) ?_
 ·rw [Heap.get?_update_other _ _ (Ne.symm hb)];exact Heap.get?_push_of_some _ hbo
 ·rw [Heap.get?_update_self _ (Heap.get?_push_of_some _ he) rfl];rfl
theorem Xf {x : Addr} {ox : Obj} {od : Option Obj} {name : Str} {tk : Tok} {v : Value} {s : Shared} (X : K.In s.heap) (Y : jN K s.heap C fI) (I : InstAt s.heap x ox C od) (ht : findIn K (.ref C) name = some none)
  (hq : wpAny (model prog w) A.in1 (storeInOwnDict (.ref x) (.ref C) (.str name tk) name v false)
   (fun fin s' => match fin with | .done f => R (.ok f) s' | .again c' => c'.quiet = true /\ codeAny (model prog w) A c' R s') (fun e s' => R (.error e) s') s) :
  codeAny (model prog w) A (.call (.builtin "object.__setattr__") ⟨[.ref x,.str name tk,v],[]⟩) R s := by
 have SF := PySem.F.store_object;obtain ⟨nm,q,N,bs,bm,sn,sub,ab,col,dd,k0,k1,k2,k3,k5,hC,hB⟩ := Y.obj;have hI := Y.init;have hf := Y.fn;have hm : Looks (model prog w) s.heap (mroOf (.ref C)) (.ref C :: bm) := ((Looks.ld (part := none) hC).andThen .now).andThen .now;have hcO : (Value.ref C :: bm).contains (.type "object") = true := by rw [aKy,oR hB]; rw [show uP.contains (.type "object") = true from by decide +kernel,aNk]
 have sub : Looks (model prog w) s.heap (isInstance (.ref x) (.type "object")) true := I.type.andThen (fun A Q E s' k q => by
  obtain ⟨h',g',d',t',os'⟩ := s';exact wpAny_isSubtype_exc (k _ _ hC) (by rw [hcO]; exact q))
 refine codeAny_call_builtin SF.slot.plain SF.entry (@check_slot (model prog w) _ _ s "object.__setattr__" "object" "__setattr__" (.ref x) [.str name tk,v] [] _ SF.kind SF.split sub (SF.args (.ref x) (.str name tk) v) ?_);rw [osa_eq,refuse_eq];refine wpAny_bind (wpAny_bind (I.type.here (wpAny_bind (hm.here ?_))));rw [refuseLoop_ref,Eh _ hB];refine wpAny_pure (wpAny_bind (I.type.here (wpAny_bind ((looks_findIn X ht).here (wpAny_bind (wpAny_pure ?_))))));exact hq
theorem Ei {dx : Addr} {name : Str} {tk : Tok} {v : Value} {mA : Str -> Option Value} {ns : List Str} {M : Model} {A : Around} {E : Value -> Shared -> Prop} {Q : Fin -> Shared -> Prop} (hns : h.Ns1 dx mA) (hw : Within mA ns) (hsz : ns.length < 1000)
  (hq : ∀ h',h'.Ns1 dx (fun y => if y = name then some v else mA y) -> Heap.SameBut dx h h' -> Q (.done (.ret .none)) ⟨h',g,d,t + 1,os⟩) : wpAny M A (storeInDict dx (.str name tk) name v) Q E ⟨h,g,d,t,os⟩ := by
 unfold storeInDict newKeyGuard;refine wpAny_bind (wpAny_pure (wpAny_bind (wpAny_nsSet1 hns fun h' hn' hs => ?_)));obtain ⟨oD,esD,epD,hoD,hdD,hcD⟩ := hn'.count (Within.cons name v hw);refine wpAny_bind (wpAny_lookBehind hoD (by rw [hdD]; exact pastItsLine_dict (aJw hcD (by rw [aJs,sizeLine_eq]; exact eU (UH (Ut U0 (Un 1000))<|UG (Ul (Up 0 1) (.a (Un 16777216) (Un 1)))) rfl hsz))) ?_);exact wpAny_pure (hq h' hn' hs)
structure ExcAt (h₀ h : Heap) (e C : Addr) (ns : List Str) : Prop where
 obj : ∃ tp dx sl mA,h.get? e = some { cls := .ref C,dict := some dx,data := .fields #[.ref tp,.none,.none,.none,.bool false,.none],slots := sl } /\ h₀.get? dx = none /\ dx ≠ e /\ h.Ns1 dx mA /\ Within mA ns
theorem K6 {e tp : Addr} {sl : Array (Option Value)} {name : Str} {v : Value} {A : Around} {E : Value -> Shared -> Prop} {Q : Unit -> Shared -> Prop} (X : K.In h) (Y : jN K h C fI) (ht : findIn K (.ref C) name = some none)
  (he : h.get? e = some { cls := .ref C,data := .fields #[.ref tp,.none,.none,.none,.bool false,.none],slots := sl })
  (hq : ∀ h' t',(∀ b o,b ≠ e -> h.get? b = some o -> h'.get? b = some o) -> ExcAt h h' e C [name] -> Q () ⟨h',g,d,t',os⟩) :
  wpAny (model prog w) A (setAttr (.ref e) name v) Q E ⟨h,g,d,t,os⟩ := by
 have I : InstAt h e { cls := .ref C,data := .fields #[.ref tp,.none,.none,.none,.bool false,.none],slots := sl } C none := ⟨he,rfl,rfl,trivial⟩;have Y' := Y;obtain ⟨nm,q,N,bs,bm,sn,sub,ab,col,dd,k0,k1,k2,k3,k5,hC,hB⟩ := Y.obj;have hI := Y.init;have hf := Y.fn;have hs := Y.set;refine set_plain X I hs (Xf (s := ⟨h,g,d,t + 1,os⟩) X Y' I ht ?_);refine wpAny_bind (wpAny_pure (wpAny_bind (wpAny_bind (wpAny_loadPart (s := ⟨h,g,d,t + 1,os⟩) he (wpAny_bind (wpAny_bind (wpAny_load (s := ⟨h,g,d,t + 1,os⟩) hC (wpAny_pure ?_))))))));dsimp only;have gb : (h.push emptyDict).get? e = some { cls := .ref C,data := .fields #[.ref tp,.none,.none,.none,.bool false,.none],slots := sl } := Heap.get?_push_of_some _ he;have hxs : e ≠ h.objs.size := aMu (Heap.lt_size he);refine wpAny_bind (wpAny_alloc' ?_);refine wpAny_bind (wpAny_update' gb ?_);refine wpAny_pure ?_;have hgd : ((h.push emptyDict).update e fun o => { o with dict := some h.objs.size }).get? h.objs.size = some emptyDict :=
  (Heap.get?_update_ne _ _ _ _ hxs.symm).trans (Heap.get?_push_at rfl rfl)
 have hnd : ((h.push emptyDict).update e fun o => { o with dict := some h.objs.size }).Ns h.objs.size (fun _ => none) :=
  ⟨_, #[],_,hgd,rfl,fun e he => absurd he (by simp),fun _ => rfl⟩
 show wpAny _ _ (storeInDict h.objs.size (.str name _) name v) _ _ _;refine Ei (Heap.Ns1.of_empty hnd) Within.nil (by decide) fun h' hn' hs => ?_;have hx' : h'.get? e = some { cls := .ref C,dict := some h.objs.size,data := .fields #[.ref tp,.none,.none,.none,.bool false,.none],slots := sl } :=
  (hs.2 e hxs).trans (Heap.get?_update_self _ gb rfl)
 refine hq h' _ (fun b ob hbx hb => ?_) ⟨tp,h.objs.size,sl,_,hx',Heap.get?_none_of_le (aJr _),hxs.symm,hn',Within.cons name v Within.nil⟩;exact (hs.2 b (aMu (Heap.lt_size hb))).trans ((Heap.get?_update_ne _ _ _ _ hbx).trans (Heap.get?_push_of_some _ hb))
theorem K7 {e tp dx : Addr} {sl : Array (Option Value)} {name : Str} {v : Value} {mA : Str -> Option Value} {ns : List Str} {A : Around} {E : Value -> Shared -> Prop} {Q : Unit -> Shared -> Prop} (X : K.In h) (Y : jN K h C fI) (ht : findIn K (.ref C) name = some none)
  (he : h.get? e = some { cls := .ref C,dict := some dx,data := .fields #[.ref tp,.none,.none,.none,.bool false,.none],slots := sl }) (hne : dx ≠ e) (hns : h.Ns1 dx mA) (hw : Within mA ns) (hsz : ns.length < 1000)
  (hq : ∀ h' t',Heap.SameBut dx h h' -> Q () ⟨h',g,d,t',os⟩) :
  wpAny (model prog w) A (setAttr (.ref e) name v) Q E ⟨h,g,d,t,os⟩ := by
 obtain ⟨od,es,ep,hod,hr⟩ := id hns;have I : InstAt h e { cls := .ref C,dict := some dx,data := .fields #[.ref tp,.none,.none,.none,.bool false,.none],slots := sl } C (some od) := ⟨he,rfl,rfl,hod⟩;have Y' := Y;obtain ⟨nm,q,N,bs,bm,sn,sub,ab,col,dd,k0,k1,k2,k3,k5,hC,hB⟩ := Y.obj;have hI := Y.init;have hf := Y.fn;have hs := Y.set;refine set_plain X I hs (Xf (s := ⟨h,g,d,t + 1,os⟩) X Y' I ht ?_);refine wpAny_bind (wpAny_pure (wpAny_bind (wpAny_bind (wpAny_loadPart (s := ⟨h,g,d,t + 1,os⟩) he (wpAny_bind (wpAny_bind (wpAny_load (s := ⟨h,g,d,t + 1,os⟩) hC (wpAny_pure ?_))))))));dsimp only;refine wpAny_pure ?_;show wpAny _ _ (storeInDict dx (.str name _) name v) _ _ _;exact Ei hns hw hsz fun h' hn' hs => hq h' _ hs
end
end Mine
open PySem PySem.W PyProof.Rows PySem.Calls Builtin Builtin.ObjectAttr
namespace Mine
structure PB (K : Frag) (f : Addr) (fd : FuncData) (ps gs : List Str) : Prop where
 look : ∃ oc od sl,K.lookup f = some ⟨oc,od,.func fd,sl⟩
 glob : fd.globals = mainGlobals
 blt : fd.builtins = builtinsNs
 kind : fd.scope.kind = .function
 co : fd.scope.isCoroutine = false
 gen : fd.scope.isGenerator = false
 cells : ∀ x ∈ fd.scope.names,x.2 ≠ .cell
 code : codeIn K fd.code fd.qualname = true
 loc : ∀ x ∈ ps,fd.scope.names.lookup x = some .local /\ (x == ("__debug__" : Str)) = false
 gns : ∀ x ∈ gs,fd.scope.names.lookup x = some .globalImplicit /\ (x == ("__debug__" : Str)) = false
 bind : ∀ vs : List Value,vs.length = ps.length -> bindArgs fd ⟨vs,[]⟩ = pure (ps.zip vs)
 nd : ps.Nodup
structure qZ (fd : FuncData) (ps gs : List Str) (vs : List Value) (env : Env) (h : Heap) : Prop where
 kind : env.scope.kind = .function
 glob : env.globals = mainGlobals
 blt : env.builtins = builtinsNs
 loc : ∀ x ∈ ps,env.kindOf x = some .local /\ (x == ("__debug__" : Str)) = false
 gns : ∀ x ∈ gs,env.kindOf x = some .globalImplicit /\ (x == ("__debug__" : Str)) = false
 ns : ∃ m,h.Ns env.locals m /\ ∀ x v,(x,v) ∈ ps.zip vs -> m x = some v
section
variable {prog : Program} {w : World} {A : Around} {R : Result -> Shared -> Prop} {s : Shared} {K : Frag} {f : Addr} {fd : FuncData} {ps gs : List Str} {vs : List Value} {body : List Stmt}
theorem fu (X : K.In s.heap) (I : PB K f fd ps gs) (hb : fd.body = .stmts body) (hl : vs.length = ps.length) (hlim : s.heap.NoLimit) (hroom : A.depth < recursionLimit)
  (h : ∀ h₀ env,qZ fd ps gs vs env h₀ -> env.locals = s.heap.objs.size -> (∀ b o,s.heap.get? b = some o -> h₀.get? b = some o) ->
   ∀ E,wpAny (model prog w) (A.deeper env) (execs body env) (fun φ s' => R (.ok (.ret (match φ with | .ret v => v | _ => .none))) s') E { s with heap := h₀,toks := s.toks + (ps.zip vs).length }) :
  codeAny (model prog w) A (.call (.ref f) ⟨vs,[]⟩) R s := by
 obtain ⟨oc,od,sl,ho⟩ := I.look;refine codeAny_call_def (fd := fd) (body := body) (binds := ps.zip vs) hroom (X _ _ ho) rfl hlim (codeRec_of X I.code) hb (.of_eq (I.bind vs hl)) I.cells (fun p hp => (I.loc _ (aOn hp).1).1) (fun jH hns sS => ?_) I.co I.gen I.kind;refine h jH (callEnv fd s.heap.objs.size f) { kind := I.kind,glob := I.glob,blt := I.blt,loc := fun x hx => I.loc x hx,gns := fun x hx => I.gns x hx,ns := ⟨_,hns,fun x v hx => Gp ?_ hx⟩ } rfl sS _;have : (ps.zip vs).map aLz = ps := aNu (Z3 hl);rw [this]; exact I.nd
variable {M : Model} {E : Value -> Shared -> Prop} {env : Env} {h : Heap}
theorem qZ.keeps {h' : Heap} (V : qZ fd ps gs vs env h) (k : ∀ o,h.get? env.locals = some o -> h'.get? env.locals = some o) : qZ fd ps gs vs env h' :=
 { V with ns := let ⟨m,⟨o,es,ep,h1,h2⟩,h3⟩ := V.ns; ⟨m,⟨o,es,ep,k o h1,h2⟩,h3⟩ }
theorem qZ.name {x : Str} {v : Value} {pos : Pos} {Q : Value -> Shared -> Prop} (V : qZ fd ps gs vs env s.heap) (hx : (x,v) ∈ ps.zip vs) (q : Q v s) : wpAny M A (eval (.Name x pos) env) Q E s := by
 obtain ⟨m,hn,hm⟩ := V.ns;obtain ⟨k1,k2⟩ := V.loc x (aOn hx).1;exact wpAny_Name (wpAny_loadName_local V.kind k1 hn (hm x v hx) q) k2
structure Qx (h : Heap) (mg mb : Str -> Option Value) : Prop where
 g : h.Ns mainGlobals mg
 b : h.Ns builtinsNs mb
theorem Qx.keeps {h h' : Heap} {mg mb : Str -> Option Value} (x : Qx h mg mb) (k : ∀ b o,h.get? b = some o -> h'.get? b = some o) : Qx h' mg mb := ⟨x.g.keeps k,x.b.keeps k⟩
theorem qZ.global {x : Str} {v : Value} {pos : Pos} {mg mb : Str -> Option Value} {Q : Value -> Shared -> Prop} (V : qZ fd ps gs vs env s.heap) (U : Qx s.heap mg mb) (hx : x ∈ gs) (hv : mg x = some v \/ (mg x = .none /\ mb x = some v)) (q : Q v s) : wpAny M A (eval (.Name x pos) env) Q E s := by
 obtain ⟨k1,k2⟩ := V.gns x hx;refine Calls.Name_function_global V.kind k1 ?_ k2;rcases hv with hv | ⟨h1,h2⟩
 ·exact Calls.loadGlobal_global (by rw [V.glob]; exact U.g) hv q
 ·exact Calls.loadGlobal_builtin (by rw [V.glob]; exact U.g) h1 (by rw [V.blt]; exact U.b) h2 q
theorem Zw {T : String} {name : Str} {v : Value} {pl : Sem Bool} {Q : Value × List Value -> Shared -> Prop} (X : K.In s.heap) (ht : typeOf (.type T) = pure (.type "type")) (hs : Manifest.isStub T = false)
  (e : findCls K (.type T) (.type "type") name = some (.val v)) (hh : handedIn v = true) (h : Q (v,[]) { s with toks := s.toks + 1 }) : wpAny (model prog w) A (getMethod (.type T) name pl) Q E s := by
 have hstub : opaqueClassAbove (.type T) = pure none := by unfold opaqueClassAbove; dsimp only; rw [hs]; rfl
 have L0 : Looks (model prog w) s.heap (typeOf (.type T)) (.type "type") := Looks.of_pure ht;have hg : findIn K (.type "type") "__getattribute__" = some (some (.builtin "type.__getattribute__")) := type_tga;unfold getMethod specialOf;refine wpAny_bind (wpAny_bind (L0.here ((looks_findIn X hg).here ?_)));dsimp only;rw [if_pos canon_tga];refine wpAny_bind (wpAny_mono (Q := fun v => Q (v,[])) (E := E) ?_ (fun _ _ z => wpAny_pure z) fun _ _ z => z);have LO : Looks (model prog w) s.heap (opaqueClassAbove (.type T)) none := Looks.of_pure hstub;refine cls_open X LO L0 hg (looks_hook X (r := none) (by rfl)) (by show subIn K _ _ = _; rfl) e
  (wpAny_pure (by show wpAny _ _ (handedOut v) _ _ _; rw [handedOut_of hh]; exact wpAny_pure h))
theorem PJ {C : Addr} {mc v : Value} {name : Str} {pl : Sem Bool} {Q : Value × List Value -> Shared -> Prop} (X : K.In s.heap) (hr : readsIn K C mc = true) (hg : specialIn K (.ref C) "__getattribute__" = some (some (.builtin "type.__getattribute__")))
  (e : findCls K (.ref C) mc name = some (.val v)) (hh : handedIn v = true) (h : Q (v,[]) { s with toks := s.toks + 1 }) : wpAny (model prog w) A (getMethod (.ref C) name pl) Q E s :=
 method_cls X hg (cls_value X hr e hh h)
end
theorem jN.at {K : Frag} {h h' : Heap} {C fI : Addr} (Y : jN K h C fI) (k : ∀ o,h.get? C = some o -> h'.get? C = some o) : jN K h' C fI := by
 obtain ⟨nm,q,N,bs,bm,sn,sub,ab,col,dd,k0,k1,k2,k3,k5,hC,hB⟩ := Y.obj;have r1 := Y.init;have r2 := Y.fn;have r3 := Y.set;exact ⟨⟨nm,q,N,bs,bm,sn,sub,ab,col,dd,k0,k1,k2,k3,k5,k _ hC,hB⟩,r1,r2,r3⟩
noncomputable def Cv (h : Heap) (e C : Addr) : Prop := ∃ tp d sl,h.get? e = some { cls := .ref C,dict := d,data := .fields #[.ref tp,.none,.none,.none,.bool false,.none],slots := sl }
noncomputable def aFp (p1 p2 p3 p4 p5 p6 p7 p8 p9 uy : Pos) : List Stmt :=
 [.Expr (.Call (.Attribute (.Name "Exception" p1) "__init__" p2) [.Name "self" p3,.Name "text" p4] [] p5) p6,
  .Assign [.Attribute (.Name "self" p7) "text" p8] (.Name "text" p9) uy]
noncomputable def aFq (p1 p2 p3 p4 p5 p6 p7 p8 p9 uy : Pos) : List Stmt :=
 [.Expr (.Call (.Attribute (.Name "F77Error" p1) "__init__" p2) [.Name "self" p3,.Name "text" p4] [] p5) p6,
  .Assign [.Attribute (.Name "self" p7) "at" p8] (.Name "at" p9) uy]
noncomputable def uz (o : Expr) (name : Str) (apos : Pos) (args : List Expr) (pos : Pos) : Prop := ∀ env, ∃ pl : Sem Bool,eval (.Call (.Attribute o name apos) args [] pos) env = (do
   let ov <- eval o env
   standAt apos.atName
   let (f,first) <- holding [ov] (getMethod ov name pl)
   callWith pos f first (backTo pos (starEach args env)) (backToKw pos (keywordEach [] env)))
inductive PK (b : FuncBody) (f : Pos -> Pos -> Pos -> Pos -> Pos -> Pos -> Pos -> Pos -> Pos -> Pos -> List Stmt) (x : Str) : Prop
 | mk (p1 p2 p3 p4 p5 p6 p7 p8 p9 uy : Pos) (e : b = .stmts (f p1 p2 p3 p4 p5 p6 p7 p8 p9 uy)) (h : uz (.Name x p1) "__init__" p2 [.Name "self" p3,.Name "text" p4] p5)
set_option genInjectivity false in
structure PL (K : Frag) (cF f0 f1 : Addr) (mg mb : Str -> Option Value) where
 fd0 : FuncData
 fd1 : FuncData
 i0 : PB K f0 fd0 ["self", "text"] ["Exception"]
 i1 : PB K f1 fd1 ["self", "at", "text"] ["F77Error"]
 b0 : PK fd0.body aFp "Exception"
 b1 : PK fd1.body aFq "F77Error"
 exc : mg "Exception" = none /\ mb "Exception" = some (.type "Exception")
 aFr : mg "F77Error" = some (.ref cF)
 reads : readsIn K cF (.type "type") = true
 special : specialIn K (.ref cF) "__getattribute__" = some (some (.builtin "type.__getattribute__"))
 finds : findCls K (.ref cF) (.type "type") "__init__" = some (.val (.ref f0))
 Y0 : findCls K (.type "Exception") (.type "type") "__init__" = some (.val (.builtin "Exception.__init__"))
section
variable {prog : Program} {w : World} {A : Around} {R : Result -> Shared -> Prop} {K : Frag} {cF f0 f1 C fC e t0 : Addr} {mg mb : Str -> Option Value} {v v' : Value}
theorem La {s : Shared} (J : PL K cF f0 f1 mg mb) (X : K.In s.heap) (Y : jN K s.heap C fC) (U : Qx s.heap mg mb) (hlim : s.heap.NoLimit) (hroom : A.depth < recursionLimit) (ht : findIn K (.ref C) "text" = some none)
  (hk : K.lookup e = none) (JF : e ≠ mainGlobals) (hbl : e ≠ builtinsNs) (hC : e ≠ C)
  (he : s.heap.get? e = some (wD C t0))
  (hq : ∀ h' t',(∀ b o,b ≠ e -> s.heap.get? b = some o -> h'.get? b = some o) -> ExcAt s.heap h' e C ["text"] -> R (.ok (.ret .none)) { s with heap := h',toks := t' }) :
  codeAny (model prog w) A (.call (.ref f0) ⟨[.ref e,v],[]⟩) R s := by
 obtain ⟨p1,p2,p3,p4,p5,p6,p7,p8,p9,uy,hb,hcm⟩ := J.b0;refine fu X J.i0 hb rfl hlim hroom fun h₀ env V hL k E => ?_;have g8 := k _ _ he;have Wy := X.keeps k;have hxs : e ≠ env.locals := fun q => aMu (Heap.lt_size he) (q.trans hL);have hi : interactive env = false := by unfold interactive; rw [V.kind]; rfl
 have ms : (("self" : Str),Value.ref e) ∈ aPb (["self", "text"] : List Str) [Value.ref e,v] := .head _;have mt : (("text" : Str),v) ∈ aPb (["self", "text"] : List Str) [Value.ref e,v] := .tail _ (.head _);obtain ⟨pl,hpl⟩ := hcm env;refine wpAny_execs_cons (wpAny_Expr_any (methodCall_KW (he := hpl) (qZ.global V (U.keeps k) (.head _) (.inr J.exc) ?_)) hi);refine Zw Wy (by kernel_rfl) (by decide +kernel) J.Y0 (by decide +kernel) ?_;refine callWith_method1 (first := []) (Calls.spliced_cons (qZ.name V ms (Calls.spliced_cons (qZ.name V mt (Calls.spliced_nil ?_)))));refine wpAny_call (Kc (rest := [v]) (Y.at (k C)) g8 (by show 1 <= sizeLine; decide) fun jH aJ aHg => ?_);have lU : K.In jH := fun a o q => aJ a o (fun z => by subst z; rw [hk] at q; exact aK q) (Wy a o q);have vd : jN K jH C fC := (Y.at (k C)).at fun o q => aJ _ _ (Ne.symm hC) q;have PN : qZ J.fd0 ["self", "text"] ["Exception"] [.ref e,v] env jH := qZ.keeps V fun o q => aJ _ _ (Ne.symm hxs) q;refine wpAny_execs_cons (plainObj_wpAny_Assign_Attribute (qZ.name PN mt (qZ.name PN ms (K6 lU vd ht aHg fun Ci aAj eY aJa => ?_))));refine wpAny_execs_nil (hq Ci aAj (fun b o hb q => eY b o hb (aJ b o hb (k b o q))) ?_);obtain ⟨tp,dx,sl,mA,a1,a2,a3,a4,a5⟩ := aJa;refine ⟨tp,dx,sl,mA,a1,?_,a3,a4,a5⟩;cases q : s.heap.get? dx with
 | none => rfl
 | some o => rw [aJ dx o a3 (k dx o q)] at a2; exact tD a2
theorem Zx {s : Shared} (J : PL K cF f0 f1 mg mb) (X : K.In s.heap) (Y : jN K s.heap C fC) (U : Qx s.heap mg mb) (hlim : s.heap.NoLimit) (hroom : A.depth + 1 < recursionLimit) (ht : findIn K (.ref C) "text" = some none) (ha : findIn K (.ref C) "at" = some none)
  (hk : K.lookup e = none) (JF : e ≠ mainGlobals) (hbl : e ≠ builtinsNs) (hC : e ≠ C)
  (he : s.heap.get? e = some (wD C t0))
  (hq : ∀ h' t',(∀ b o,b ≠ e -> s.heap.get? b = some o -> h'.get? b = some o) -> Cv h' e C -> R (.ok (.ret .none)) { s with heap := h',toks := t' }) :
  codeAny (model prog w) A (.call (.ref f1) ⟨[.ref e,v',v],[]⟩) R s := by
 obtain ⟨p1,p2,p3,p4,p5,p6,p7,p8,p9,uy,hb,hcm⟩ := J.b1;refine fu X J.i1 hb rfl hlim (Z35 hroom) fun h₀ env V hL k E => ?_;have g8 := k _ _ he;have Wy := X.keeps k;have hxs : e ≠ env.locals := fun q => aMu (Heap.lt_size he) (q.trans hL);have hi : interactive env = false := by unfold interactive; rw [V.kind]; rfl
 have ms : (("self" : Str),Value.ref e) ∈ aPb (["self", "at", "text"] : List Str) [Value.ref e,v',v] := .head _;have ma : (("at" : Str),v') ∈ aPb (["self", "at", "text"] : List Str) [Value.ref e,v',v] := .tail _ (.head _);have mt : (("text" : Str),v) ∈ aPb (["self", "at", "text"] : List Str) [Value.ref e,v',v] := .tail _ (.tail _ (.head _));have aFt : jN K h₀ C fC := Y.at (k C);obtain ⟨pl,hpl⟩ := hcm env;refine wpAny_execs_cons (wpAny_Expr_any (methodCall_KW (he := hpl) (qZ.global V (U.keeps k) (.head _) (.inl J.aFr) ?_)) hi);refine PJ Wy J.reads J.special J.finds rfl ?_;obtain ⟨oc,od,sl,hf0⟩ := J.i0.look;refine Calls.callWith_function (first := []) (Calls.evalArgs_plain (Calls.spliced_cons (qZ.name V ms (Calls.spliced_cons (qZ.name V mt (Calls.spliced_nil ⟨⟨Wy _ _ hf0,rfl⟩,?_⟩))))));refine wpAny_call (La (s := { s with heap := h₀,toks := _ }) J Wy aFt (U.keeps k) (hlim.keeps k) hroom ht hk JF hbl hC g8 fun jH aJk aJ aJb => ?_);obtain ⟨tp,dx,sl,mA,a1,a2,a3,a4,a5⟩ := aJb;have lU : K.In jH := fun a o q => aJ a o (fun z => by subst z; rw [hk] at q; exact aK q) (Wy a o q);have vd : jN K jH C fC := aFt.at fun o q => aJ _ _ (Ne.symm hC) q;have PN : qZ J.fd1 ["self", "at", "text"] ["F77Error"] [.ref e,v',v] env jH := qZ.keeps V fun o q => aJ _ _ (Ne.symm hxs) q;refine wpAny_execs_cons (plainObj_wpAny_Assign_Attribute (qZ.name (s := { s with heap := jH,toks := _ }) PN ma (qZ.name (s := { s with heap := jH,toks := _ }) PN ms (K7 lU vd ha a1 a3 a4 a5 (by decide) fun Ci aAj hs => ?_))));have aHh : ∀ o,h₀.get? dx = some o -> False := fun o q => by rw [q] at a2; exact tD a2
 refine wpAny_execs_nil (hq Ci aAj (fun b o hb q => (hs.2 b fun z => ?_).trans (aJ b o hb (k b o q))) ?_)
 ·subst z; exact aHh _ (k _ _ q)
 ·exact ⟨tp,_,sl,(hs.2 e (Ne.symm a3)).trans a1⟩
end
end Mine
open PySem PySem.W PyProof.Rows PySem.Calls Builtin Builtin.ObjectAttr
namespace Mine
set_option genInjectivity false in
structure Vl (G : eX) where
 K : Frag
 cF : Addr
 cL : Addr
 cS : Addr
 f0 : Addr
 f1 : Addr
 X : K.In G.h₀
 J : PL K cF f0 f1 G.mg G.mb
 yS : jN K G.h₀ cS f0
 yL : jN K G.h₀ cL f1
 ts : findIn K (.ref cS) "text" = some none
 tl : findIn K (.ref cL) "text" = some none
 al : findIn K (.ref cL) "at" = some none
 mS : (.ref cS) ∈ G.excs
 mL : (.ref cL) ∈ G.excs
 yF : jN K G.h₀ cF f0
 over : ∀ cls ∈ G.excs, ∃ C fC,cls = .ref C /\ jN K G.h₀ C fC /\ mroIn K C (.ref cF) = some true
section
variable {M : Model} {A : Around} {E : Value -> Shared -> Prop} {env : Env} {s : Shared}
theorem Vm {K : Frag} {C fC : Addr} (hh : A.handled = none) {x : Sem Value} {Q : Flow -> Shared -> Prop}
  (h : wpAny M A x (fun v aQ => ∃ e,v = .ref e /\ jN K aQ.heap C fC /\ Cv aQ.heap e C /\ E (.ref e) aQ) E s) :
  wpAny M A (raiseStmt env (some x) none) Q E s := by
 unfold raiseStmt;refine wpAny_bind (wpAny_mono h (fun v aQ jH => ?_) fun _ _ x => x);obtain ⟨e,rfl,Y,⟨tp,d,sl,he⟩,hE⟩ := jH;obtain ⟨nm,q,N,bs,bm,sn,sub,ab,col,dd,k0,k1,k2,k3,k5,hC,hB⟩ := Y.obj;have hcB : (Value.ref C :: bm).contains (.type "BaseException") = true := by rw [aKy,oR hB]; rw [show uP.contains (.type "BaseException") = true from by decide +kernel,aNk]
 obtain ⟨hp,g,d,tk,os⟩ := aQ;repeat (first | with_reducible refine wpAny_loadPart_at he ?_ | with_reducible refine wpAny_loadPart_at hC ?_ | (with_reducible refine wpAny_isSubtype_exc hC ?_; rw [hcB]) | wp_step)
 exact wpAny_raiseNew_none hh hE
theorem Gr {prog : Program} {w : World} {K : Frag} {C fC : Addr} {x : Str} {np cpos pos : Pos} {args : List Expr} {Q : Flow -> Shared -> Prop} (hh : A.handled = none) (hplain : (backTo cpos (starEach args env)).any (·.1) = false)
  (h : wpAny (model prog w) A (eval (.Name x np) env) (fun f aQ => f = .ref C /\ wpAny (model prog w) A (evalArgs (.ref C) true (backTo cpos (starEach args env)) [])
   (fun a cV => a.kw = [] /\ jN K cV.heap C fC /\ wpAny (model prog w) A (call (.ref C) a.pos) (fun v cN => ∃ e,v = .ref e /\ jN K cN.heap C fC /\ Cv cN.heap e C /\ E (.ref e) cN) E cV) E aQ) E s) :
  wpAny (model prog w) A (exec (.Raise (some (.Call (.Name x np) args [] cpos)) none pos) env) Q E s := by
 rw [arm_exec_Raise];refine wpAny_bind (wpAny_standAt (Vm (K := K) (C := C) (fC := fC) hh ?_));refine wpAny_bind (wpAny_mono (wpAny_Call_ofName (wpAny_mono h (fun f aQ jH => ?_) fun _ _ x => x)) (fun v cN Af => wpAny_bind (wpAny_standAt (wpAny_pure Af))) fun _ _ x => x);obtain ⟨rfl,jH⟩ := jH;unfold callWith;refine wpAny_bind (wpAny_holding (wpAny_mono jH (fun a cV Ci => wpAny_bind (wpAny_standAt ?_)) fun _ _ x => x));obtain ⟨apos,akw⟩ := a;obtain ⟨hkw,Y,Ci⟩ := Ci;obtain rfl : akw = [] := hkw;obtain ⟨nm,q,N,bs,bm,sn,sub,ab,col,dd,k0,k1,k2,k3,k5,hC,hB⟩ := Y.obj;obtain ⟨hp,g,d,tk,os⟩ := cV;simp only [hplain];refine wpAny_bind (wpAny_keeperOf_exc hC ?_);exact wpAny_bind (wpAny_mono Ci (fun v cN Af => wpAny_bind (wpAny_holding (wpAny_point (wpAny_pure Af)))) fun _ _ x => x)
end
variable {G : eX} {c : Cfg G} {ρ : eE} {σ : aW} {X : Prop}
theorem jE.fresh {s s' : Shared} {e C : Addr} (S : gG c ρ σ s) (k : ∀ b o,s.heap.get? b = some o -> s'.heap.get? b = some o) (hnew : s.heap.get? e = none) (fin : Cv s'.heap e C) (hc : .ref C ∈ G.excs)
  (fx : s'.gens = s.gens /\ s'.drawn = s.drawn /\ s'.os = s.os) : jE c (.ref e) s' := by
 obtain ⟨tp,d,sl,he⟩ := fin;refine ⟨S.ok,⟨e,.ref C,rfl,hc,.fresh _ _ (.ref tp) he rfl rfl rfl rfl ?_⟩,fun b o q => k b o (S.base b o q),?_,?_,?_,⟨fx.1.trans S.fixed.1,fx.2.1.trans S.fixed.2.1,fx.2.2.trans S.fixed.2.2⟩⟩
 ·cases q : c.B.get? e with
  | none => rfl
  | some o => rw [S.base e o q] at hnew; exact tD hnew
 ·intro env he;obtain ⟨k1,L',o,es,ep,e1,e2,e3,e4⟩ := S.frames env he;exact ⟨k1,L',o,es,ep,e1,e2,k _ _ e3,e4⟩
 ·obtain ⟨m,hn,_⟩ := S.locs; exact ⟨m,hn.keeps k⟩
 ·intro b o es ep h1 h2 h3;obtain ⟨⟨o',ho'⟩,kk⟩ := S.keep b o h1;by_cases w : c.W b
  ·obtain ⟨items,n,q⟩ := S.ok.WL b w;have := q.symm.trans h1; obtain rfl := aJn this; cases h2
  ·obtain ⟨sl,h4⟩ := (kk w).2; exact ⟨sl,k _ _ h4⟩
theorem uR {a n : Nat} (h : a < n) : n + 1 ≠ a := by exact aOh (Z36 h)
theorem K8 {n : Nat} (h : n + 1 < n) : False := by exact eU (UH (Ut (Up 0 1) U0)<|HL.g 0 .f) rfl h
section
variable {A : Around} {E : Value -> Shared -> Prop} {s : Shared} {Q : Value -> Shared -> Prop} {v v' : Value}
theorem Xg (Z : Vl G) (k : G.h₀.StaysIn s.heap) {rest : List Value} {C : Addr} :
  ∃ jH,jH = (s.heap.push (Ni rest)).push (wD C s.heap.objs.size) /\ (∀ b o,s.heap.get? b = some o -> jH.get? b = some o) /\ Z.K.In jH /\ Z.K.lookup (s.heap.objs.size + 1) = none /\ jH.get? (s.heap.objs.size + 1) = some (wD C s.heap.objs.size) := by
 refine ⟨_,rfl,fun b o q => Heap.get?_push_of_some _ (Heap.get?_push_of_some _ q),?_,?_,by heap_get⟩
 ·exact (Z.X.keeps k).keeps fun b o q => Heap.get?_push_of_some _ (Heap.get?_push_of_some _ q)
 ·cases q : Z.K.lookup (s.heap.objs.size + 1) with
  | none => rfl
  | some o => exact (K8 (Heap.lt_size (k _ _ (Z.X _ _ q)))).elim
theorem Xh {h : Heap} {a : Addr} {m : Str -> Option Value} (x : h.Ns a m) : a < h.objs.size := let ⟨_,_,_,e,_⟩ := x; Heap.lt_size e
theorem PX {h : Heap} {C e : Addr} {K : Frag} {fC : Addr} (Y : jN K h C fC) (he : e = h.objs.size + 1) : e ≠ C := by
 obtain ⟨nm,q,N,bs,bm,sn,sub,ab,col,dd,k0,k1,k2,k3,k5,hC,hB⟩ := Y.obj;subst he; exact uR (Heap.lt_size hC)
theorem Zy (Z : Vl G) (k : G.h₀.StaysIn s.heap) (hd : A.depth + 1 < recursionLimit)
  (hq : ∀ h' t',(∀ b o,s.heap.get? b = some o -> h'.get? b = some o) -> Cv h' (s.heap.objs.size + 1) Z.cS -> Q (.ref (s.heap.objs.size + 1)) { s with heap := h',toks := t' }) :
  wpAny (model G.prog G.w) A (call (.ref Z.cS) [v]) Q E s := by
 have Y := Z.yS.at (h' := s.heap) (k _);obtain ⟨jH,aAk,aJ,lU,hl,he⟩ := Xg (rest := [v]) (C := Z.cS) Z k;refine wpAny_call (Qw (Z.X.keeps k) Y (by show 1 <= sizeLine; decide) ?_);rw [<- aAk];have j4 := G.g.keeps k;have j5 := G.b.keeps k;refine La (s := { s with heap := jH }) Z.J lU (Y.at (aJ _)) (Qx.mk (j4.keeps aJ) (j5.keeps aJ)) ((G.lim.keeps k).keeps aJ) hd Z.ts hl (uR (Xh j4)) (uR (Xh j5)) (PX Y rfl) he fun h' t' k' x' => ?_;obtain ⟨tp,dx,sl,mA,a1,_⟩ := x';exact ⟨rfl,hq h' t' (fun b o q => k' b o (Ne.symm (uR (Heap.lt_size q))) (aJ b o q)) ⟨tp,_,sl,a1⟩⟩
theorem Zz (Z : Vl G) (k : G.h₀.StaysIn s.heap) (hd : A.depth + 2 < recursionLimit)
  (hq : ∀ h' t',(∀ b o,s.heap.get? b = some o -> h'.get? b = some o) -> Cv h' (s.heap.objs.size + 1) Z.cL -> Q (.ref (s.heap.objs.size + 1)) { s with heap := h',toks := t' }) :
  wpAny (model G.prog G.w) A (call (.ref Z.cL) [v',v]) Q E s := by
 have Y := Z.yL.at (h' := s.heap) (k _);obtain ⟨jH,aAk,aJ,lU,hl,he⟩ := Xg (rest := [v',v]) (C := Z.cL) Z k;refine wpAny_call (Qw (Z.X.keeps k) Y (by show 2 <= sizeLine; decide) ?_);rw [<- aAk];have j4 := G.g.keeps k;have j5 := G.b.keeps k;refine Zx (s := { s with heap := jH }) Z.J lU (Y.at (aJ _)) (Qx.mk (j4.keeps aJ) (j5.keeps aJ)) ((G.lim.keeps k).keeps aJ) hd Z.tl Z.al hl (uR (Xh j4)) (uR (Xh j5)) (PX Y rfl) he fun h' t' k' x' => ?_;exact ⟨rfl,hq h' t' (fun b o q => k' b o (Ne.symm (uR (Heap.lt_size q))) (aJ b o q)) x'⟩
end
theorem BJ (Z : Vl G) {x : Str} {e : Expr} {np cpos pos : Pos} {Q : Fl -> eE -> aW -> Prop} (hk : x ∈ c.gn) (hf : GV G x (.val (.ref Z.cS))) (hn : 2 <= c.n)
  (h : WE c e ρ σ (fun _ _ => X) X) (he : starEach [e] c.env = [(false,eval e c.env)] := by rfl) : WT c (.Raise (some (.Call (.Name x np) [e] [] cpos)) none pos) ρ σ Q X := fun s S Q' E' hQ hE => by
 refine Gr (K := Z.K) (C := Z.cS) (fC := Z.f0) S.ok.hand (by rw [he]; rfl) ?_;refine jJ (X := X) (Q := fun v σ' => v = .val (.ref Z.cS) /\ σ' = σ) hk hf ⟨rfl,rfl⟩ s S _ _ (fun a x aQ aG bC bO bQ bF => ?_) hE;obtain ⟨rfl,rfl⟩ := bF;obtain rfl := bQ.val_inv;refine ⟨rfl,?_⟩;rw [he];refine Calls.evalArgs_plain (Calls.spliced_cons (h aQ bC _ _ (fun b y cV bN dY dO gB dK => Calls.spliced_nil ?_) hE));have hX := dK;have Y := Z.yS.at (h' := cV.heap) (dY.h0 _);refine ⟨rfl,Y,?_⟩;have hd : c.A.depth + 1 < recursionLimit := by have := S.ok.room; exact gP (UH (Ul (Un 2) U0)<|UH (Ut (.a U1 U0) U2)<|UG (Ut (Up 1 1) U2)) rfl hn this
 refine Zy Z dY.h0 hd fun h' t' k' x' => ⟨_,rfl,Y.at (k' _),x',hE _ _ hX ?_⟩;exact jE.fresh dY k' (Heap.get?_none_of_le (Nat.le_succ _)) x' Z.mS ⟨rfl,rfl,rfl⟩
theorem BK (Z : Vl G) {x : Str} {e e' : Expr} {np cpos pos : Pos} {Q : Fl -> eE -> aW -> Prop} (hk : x ∈ c.gn) (hf : GV G x (.val (.ref Z.cL))) (hn : 3 <= c.n)
  (h : WE c e ρ σ (fun _ aG => WE c e' ρ aG (fun _ _ => X) X) X) (he : starEach [e,e'] c.env = [(false,eval e c.env),(false,eval e' c.env)] := by rfl) : WT c (.Raise (some (.Call (.Name x np) [e,e'] [] cpos)) none pos) ρ σ Q X := fun s S Q' E' hQ hE => by
 refine Gr (K := Z.K) (C := Z.cL) (fC := Z.f1) S.ok.hand (by rw [he]; rfl) ?_;refine jJ (X := X) (Q := fun v σ' => v = .val (.ref Z.cL) /\ σ' = σ) hk hf ⟨rfl,rfl⟩ s S _ _ (fun a x aQ aG bC bO bQ bF => ?_) hE;obtain ⟨rfl,rfl⟩ := bF;obtain rfl := bQ.val_inv;refine ⟨rfl,?_⟩;rw [he];refine Calls.evalArgs_plain (Calls.spliced_cons (h aQ bC _ _ (fun b y cV bN dY dO gB dK => ?_) hE));refine Calls.spliced_cons (dK cV dY _ _ (fun b' y cN bK dF dB yU kZ => Calls.spliced_nil ?_) hE);have hX := kZ;have Y := Z.yL.at (h' := cN.heap) (dF.h0 _);refine ⟨rfl,Y,?_⟩;have hd : c.A.depth + 2 < recursionLimit := by have := S.ok.room; exact gP (UH (Ul (Un 3) U0)<|UH (Ut (.a U1 U0) U2)<|UG (Ut (Up 1 2) U2)) rfl hn this
 refine Zz Z dF.h0 hd fun h' t' k' x' => ⟨_,rfl,Y.at (k' _),x',hE _ _ hX ?_⟩;exact jE.fresh dF k' (Heap.get?_none_of_le (Nat.le_succ _)) x' Z.mL ⟨rfl,rfl,rfl⟩
end Mine
open PySem PySem.W PyProof.Rows PySem.Calls Builtin Builtin.ObjectAttr
namespace Mine
variable {G : eX} {c : Cfg G} {ρ : eE} {σ : aW} {X : Prop}
theorem pD.fr {h : Heap} {a : Addr} {σ : aW} : pD h σ h (uO σ a) :=
 { tup := fun x => x,lst := fun {b items n} x y => ⟨x,by unfold uO; split <;> first | rfl | exact y⟩,fld := fun _ _ _ e _ => e }
inductive Kd : eE -> Str -> Addr -> List V -> eE -> Prop
 | here {x : Str} {a : Addr} {xs : List V} {r : eE} : Kd ((x,some (.mut a)) :: r) x a xs ((x,some (.lst xs)) :: r)
 | there {p : Str × Option V} {x : Str} {a : Addr} {xs : List V} {r r' : eE} : Kd r x a xs r' -> Kd (p :: r) x a xs (p :: r')
theorem Kd.names {ρ ρ' : eE} {x : Str} {a : Addr} {xs : List V} (h : Kd ρ x a xs ρ') : ρ'.map (·.1) = ρ.map (·.1) := by
 induction h with
 | here => rfl
 | there _ ih => simp only [aLf,ih]
theorem Kd.old {ρ ρ' : eE} {x : Str} {a : Addr} {xs : List V} (h : Kd ρ x a xs ρ') : ∀ y u,(y,u) ∈ ρ' -> (y,u) ∈ ρ \/ (u = some (.lst xs) /\ (y,some (.mut a)) ∈ ρ) := by
 induction h with
 | here =>
  intro y u m;rcases aKf.mp m with q | q
  ·cases q; exact .inr ⟨rfl,.head _⟩
  ·exact .inl (.tail _ q)
 | there h ih =>
  intro y u m;rcases aKf.mp m with q | q
  ·subst q; exact .inl (.head _)
  ·rcases ih y u q with z | ⟨z1,z2⟩
   ·exact .inl (.tail _ z)
   ·exact .inr ⟨z1,.tail _ z2⟩
theorem gG.aIa {s : Shared} {x : Str} {a : Addr} {xs : List V} {ρ' : eE} (S : gG c ρ σ s) (P : Kd ρ x a xs ρ') (ha : σ a = some xs) : gG c ρ' (uO σ a) s := by
 obtain ⟨S',F'⟩ := S.freeze (a := a);obtain ⟨vs,n,h1,h2⟩ := S.mem a xs ha;obtain ⟨m,hn,hm⟩ := S'.locs;refine { S' with locs := ⟨m,hn,fun y v hy => ?_⟩,names := P.names.trans S.names };rcases P.old y _ hy with q | ⟨q,q'⟩
 ·exact hm y v q
 ·obtain ⟨u,h3,h4⟩ := hm y _ q';obtain rfl := aJn q;cases h4
  exact ⟨_,h3,.lst (by unfold uO; exact if_pos rfl) h1 (h2.mono F')⟩
theorem BP {ss : List Stmt} {x : Str} {a : Addr} {xs : List V} {ρ' : eE} {Q : Fl -> eE -> aW -> Prop} (P : Kd ρ x a xs ρ') (ha : σ a = some xs) (h : WS c ss ρ' (uO σ a) Q X) : WS c ss ρ σ Q X := fun s S Q' E' hQ hE =>
 h s (S.aIa P ha) Q' E' (fun d z cN vQ bK dF dB => hQ d z cN vQ bK dF (pD.fr.trans dB)) hE
theorem K9 {ss : List Stmt} (a : Addr) {Q : Fl -> eE -> aW -> Prop} (h : WS c ss ρ (uO σ a) Q X) : WS c ss ρ σ Q X := fun s S Q' E' hQ hE =>
 h s (S.freeze (a := a)).1 Q' E' (fun d z cN vQ bK dF dB => hQ d z cN vQ bK dF (pD.fr.trans dB)) hE
theorem Fj {M : Model} {A : Around} {E : Value -> Shared -> Prop} {K : Frag} {C F fC fF e : Addr} {oe : Obj} {s : Shared} {Q : Bool -> Shared -> Prop} (Y : jN K s.heap C fC) (YF : jN K s.heap F fF)
  (hsub : mroIn K C (.ref F) = some true) (X : K.In s.heap) (he : s.heap.get? e = some oe) (hcls : oe.cls = .ref C) (hq : Q true s) : wpAny M A (excMatches (.ref e) (.ref F)) Q E s := by
 obtain ⟨nm,q,N,bs,bm,sn,sub,ab,col,dd,k0,k1,k2,k3,k5,hC,hB⟩ := Y.obj;obtain ⟨nmF,qF,NF,bsF,bmF,snF,aJg,abF,aJh,ddF,l0,l1,l2,l3,l5,hF,hBF⟩ := YF.obj;have hFB : (Value.ref F :: bmF).contains (.type "BaseException") = true := by rw [aKy,oR hBF]; rw [show uP.contains (.type "BaseException") = true from by decide +kernel,aNk]
 have hT := tc_notTuple;have L := looks_mroIn (M := M) X hsub;obtain ⟨hp,g,d,tk,os⟩ := s;unfold excMatches;repeat (first | (with_reducible refine wpAny_loadPart_at he ?_; rw [hcls]) | (with_reducible refine Looks.at L ?_) | with_reducible refine wpAny_loadPart_at hF ?_ | (with_reducible refine wpAny_isSubtype_exc hF ?_; rw [hFB]) | wp_step)
 exact hq
theorem Lb {l : List Env} {a : Addr} (h : a ∈ l.filterMap (·.frame)) : rH l a := by
 obtain ⟨env,he,hf⟩ := List.mem_filterMap.mp h;exact ⟨env,he,hf⟩
theorem vf (Z : Vl G) {body : List Stmt} {x : Str} {np cp rp hp pos : Pos} {kk : Nat} {Q : Fl -> eE -> aW -> Prop} {X' : Prop} (hk : x ∈ c.gn) (hf : GV G x (.val (.ref Z.cF))) (hσ : ∀ a,σ a = .none) (hW : ∀ a, ¬ c.W a)
    (h : ∀ c' : Cfg G,c'.n = c.n -> c'.k = c.k -> c'.gn = c.gn -> c'.names = c.names -> c'.env.scope = c.env.scope -> (∀ a, ¬ c'.W a) -> WS c' body ρ σ Q X') (hx : X' -> ∀ ρ',Q (.ret .none) ρ' σ) :
    WT c (.Try body [.ExceptHandler (some (.Name x np)) none [.Return (some (.Constant .none kk cp)) rp] hp] [] [] pos) ρ σ Q X := fun s S Q' E' hQ hE => by
  let fr := (c.env :: c.outer).filterMap (·.frame)
  have hfr : ∀ a ∈ fr,c.B.get? a = .none /\ ∃ o es ep,s.heap.get? a = some o /\ o.data = .dict es ep := fun a ha => by
    obtain ⟨env,he,hf⟩ := Lb ha
    obtain ⟨_,L,o,es,ep,e1,e2,e3,e4⟩ := S.frames env he
    obtain rfl : L = a := aJn (e1.symm.trans hf)
    exact ⟨e2,o,es,ep,e3,e4⟩
  let B' := hideAll s.heap fr
  have hBB : ∀ a o,c.B.get? a = some o -> B'.get? a = some o := fun a o e => hideAll_get _ (S.base a o e) fun m => by rw [(hfr a m).1] at e; exact aK e
  have M4 : ∀ env ∈ c.env :: c.outer, ∀ L,env.frame = some L -> L ∈ fr := fun env he L hL => List.mem_filterMap.mpr ⟨env,he,hL⟩
  let c' : Cfg G := { c with B := B' }
  have C := S.ok
  have ok' : Ql c' := { C with hB := fun a o e => hBB a o (C.hB a o e),BL := hideAll_none _ (M4 _ (.head _) _ C.frame) }
  have S' : gG c' ρ σ s := { S with
    ok := ok'
    base := fun a o e => of_hideAll _ e
    frames := fun env he => by
      obtain ⟨k1,L,o,es,ep,e1,e2,e3,e4⟩ := S.frames env he
      exact ⟨k1,L,o,es,ep,e1,hideAll_none _ (M4 env he L e1),e3,e4⟩
    dom := fun a e => absurd (hσ a) e }
  have kept : ∀ {s' : Shared},B'.StaysIn s'.heap -> ∀ a o,a ∉ fr -> s.heap.get? a = some o -> s'.heap.get? a = some o := fun hb a o ha e => hb a o (hideAll_get _ e ha)
  refine wpAny_Try_except (wpAny_mono (h c' rfl rfl rfl rfl rfl hW s S' (fun f aQ => (match f with | .next => wpAny (model G.prog G.w) c.A (execs [] c.env) Q' E' aQ | f => Q' f aQ)) (fun e aQ => X' /\ jE c' e aQ) (fun f φ aQ Al aG bC bO bQ bF => ?_) (fun e aQ x f => ⟨x,f⟩)) (fun f aQ z => z) (fun e aQ z => ?_))
  · have dY : gG c Al aG aQ := { bC with
      ok := C
      base := fun a o e => bC.base a o (hBB a o e)
      frames := fun env he => by
        obtain ⟨k1,L,o,es,ep,e1,e2,e3,e4⟩ := bC.frames env he
        refine ⟨k1,L,o,es,ep,e1,?_,e3,e4⟩
        exact (hfr L (M4 env he L e1)).1
      dom := fun a e => by
        refine ⟨?_,(bC.dom a e).2⟩
        cases q : c.B.get? a with
        | none => rfl
        | some o =>
          have z : B'.get? a = .none := (bC.dom a e).1
          rw [hBB a o q] at z
          exact absurd z (fun z => by exact tD z) }
    have hq := hQ f φ aQ Al aG dY bO bQ bF
    cases bQ with
    | next => exact wpAny_execs_nil hq
    | brk => exact hq
    | cont => exact hq
    | ret _ => exact hq
  · obtain ⟨hX,F⟩ := z
    refine F.note (A := c.A) C.stack fun a cls a0 cV he hcls hheld dO => ?_
    subst he
    refine wpAny_landsW hheld fun Af Vn aHi => ?_
    obtain ⟨Ce,fC,rfl,Ye,hm⟩ := Z.over cls hcls
    have Qy : B'.StaysIn Af := Vn.1
    have BR : ∀ b o,G.h₀.get? b = some o -> Af.get? b = some o := fun b o e => Qy b o (hBB b o (C.hB b o e))
    obtain ⟨ob,hob,hobc⟩ := Vn.there
    have hname : ∀ {A E} {Q : Value -> Shared -> Prop},Q (.ref Z.cF) { cV with heap := Af } -> wpAny (model G.prog G.w) A (eval (.Name x np) c.env) Q E { cV with heap := Af } := fun {A E Q} q => by
      obtain ⟨u,hu,r⟩ := hf
      have r := r Af (fun _ => none) BR (fun a z => absurd rfl z)
      first | obtain rfl := r.val_inv | obtain rfl := r.mR | obtain rfl := r.nil_inv | cases r
      obtain ⟨k1,k2⟩ := C.gn x hk
      have g1 : Af.Ns c.env.globals G.mg := by rw [C.globals]; exact G.g.keeps BR
      have g2 : Af.Ns c.env.builtins G.mb := by rw [C.builtins]; exact G.b.keeps BR
      refine Calls.Name_function_global C.kind k1 ?_ k2
      rcases hu with hu | ⟨h1,h2⟩
      · exact Calls.loadGlobal_global g1 hu q
      · exact Calls.loadGlobal_builtin g1 h1 g2 h2 q
    refine wpAny_handleBy_cons (codeAny_handlers_test (hname ?_)) (by intro q; cases q)
    refine Fj (s := { cV with heap := Af }) (Ye.at (BR _)) (Z.yF.at (BR _)) hm (Z.X.keeps BR) hob hobc (codeAny_handlers_suite ?_)
    refine lands_againW Vn fun Uj QB aFu => ?_
    have dB : jE c' (.ref a) { cV with heap := Uj } := dO.to ⟨rfl,rfl,rfl⟩ QB.1 (aHi.trans aFu) ⟨a,_,rfl,hcls,.flying a0 QB⟩
    refine wpAny_execs_cons (wpAny_Return_some (Constant_none ?_))
    have st : B'.StaysIn Uj := dB.base
    have fz : pD s.heap σ Uj σ := {
      tup := fun {b i n} e => kept (s' := { cV with heap := Uj }) st b _ (fun m => by obtain ⟨_,o,es,ep,e1,e2⟩ := hfr b m; have := e.symm.trans e1; obtain rfl := aJn this; cases e2) e
      lst := fun {b i n} e q => ⟨kept (s' := { cV with heap := Uj }) st b _ (fun m => by obtain ⟨_,o,es,ep,e1,e2⟩ := hfr b m; have := e.symm.trans e1; obtain rfl := aJn this; cases e2) e,q⟩
      fld := fun b o fs e d => kept (s' := { cV with heap := Uj }) st b _ (fun m => by obtain ⟨_,o',es,ep,e1,e2⟩ := hfr b m; have := e.symm.trans e1; obtain rfl := aJn this; rw [d] at e2; cases e2) e }
    refine hQ (.ret .none) (.ret .none) { cV with heap := Uj } (ρ.map fun p => (p.1,none)) σ ⟨C,fun b o e => st b o (hBB b o e),?_,?_,?_,?_,fun b xs e => absurd (hσ b) (by rw [e]; exact fun z => by exact tD z),fun b e => absurd (hσ b) e,dB.fixed⟩ fz (.ret .none) (hx hX _)
    · intro env he
      obtain ⟨k1,L,o,es,ep,e1,e2,e3,e4⟩ := dB.frames env he
      exact ⟨k1,L,o,es,ep,e1,(hfr L (M4 env he L e1)).1,e3,e4⟩
    · obtain ⟨m,hn⟩ := dB.ns
      exact ⟨m,hn,fun y v hy => by obtain ⟨p,_,hp⟩ := aMl.mp hy; cases hp⟩
    · rw [<- S.names,aOf]; rfl
    · intro b o e
      obtain ⟨⟨o',ho'⟩,k⟩ := S.keep b o e
      obtain ⟨k1,sl,k2⟩ := k (hW b)
      by_cases m : b ∈ fr
      · have nL : b ≠ c.env.locals := fun q => by subst q; rw [C.heL] at e; exact aK e
        have hin : rH c.outer b := by
          obtain ⟨env,he,hf⟩ := Lb m
          rcases aKf.mp he with rfl | he
          · exact absurd (aJn (hf.symm.trans C.frame)) nL
          · exact ⟨env,he,hf⟩
        obtain ⟨_,aJl,es,ep,e1,e2⟩ := hfr b m
        have hod : o.data = .dict es ep := by have := k2.symm.trans e1; obtain rfl := aJn this; exact e2
        obtain ⟨sl',h5⟩ := dB.up b o es ep e hod hin
        exact ⟨⟨_,h5⟩,fun _ => ⟨fun nf => absurd hin nf,sl',h5⟩⟩
      · have k3 := fun q e' => kept (s' := { cV with heap := Uj }) st b q m e'
        exact ⟨⟨o',k3 _ ho'⟩,fun _ => ⟨fun nf => k3 _ (k1 nf),sl,k3 _ k2⟩⟩
end Mine
section
set_option genInjectivity false
namespace Mine
theorem fl {n m : Nat} (h : Nat.ble (n + 1) m = true := by rfl) : n < m := aMx h
noncomputable def nth {α : Type} : List α -> Nat -> α -> α
 | [],_,d => d
 | x :: _,0,_ => x
 | _ :: r,i + 1,d => nth r i d
abbrev Fn := Fin 87
noncomputable abbrev Fn.mU : Fn := ⟨0,fl⟩
noncomputable abbrev Fn.dR : Fn := ⟨1,fl⟩
noncomputable abbrev Fn.eZ : Fn := ⟨2,fl⟩
noncomputable abbrev Fn.lX : Fn := ⟨3,fl⟩
noncomputable abbrev Fn.Aq : Fn := ⟨4,fl⟩
noncomputable abbrev Fn.oU : Fn := ⟨5,fl⟩
noncomputable abbrev Fn.Gs : Fn := ⟨6,fl⟩
noncomputable abbrev Fn.rI : Fn := ⟨7,fl⟩
noncomputable abbrev Fn.cY : Fn := ⟨8,fl⟩
noncomputable abbrev Fn.dD : Fn := ⟨9,fl⟩
noncomputable abbrev Fn.oV : Fn := ⟨10,fl⟩
noncomputable abbrev Fn.oF : Fn := ⟨11,fl⟩
noncomputable abbrev Fn.rJ : Fn := ⟨12,fl⟩
noncomputable abbrev Fn.sU : Fn := ⟨13,fl⟩
noncomputable abbrev Fn.Ar : Fn := ⟨14,fl⟩
noncomputable abbrev Fn.zK : Fn := ⟨15,fl⟩
noncomputable abbrev Fn.pO : Fn := ⟨16,fl⟩
noncomputable abbrev Fn.rM : Fn := ⟨17,fl⟩
noncomputable abbrev Fn.Vo : Fn := ⟨18,fl⟩
noncomputable abbrev Fn.Cw : Fn := ⟨19,fl⟩
noncomputable abbrev Fn.pF : Fn := ⟨20,fl⟩
noncomputable abbrev Fn.uT : Fn := ⟨21,fl⟩
noncomputable abbrev Fn.Cx : Fn := ⟨22,fl⟩
noncomputable abbrev Fn.Gu : Fn := ⟨23,fl⟩
noncomputable abbrev Fn.Cy : Fn := ⟨24,fl⟩
noncomputable abbrev Fn.Nk : Fn := ⟨25,fl⟩
noncomputable abbrev Fn.Gv : Fn := ⟨26,fl⟩
noncomputable abbrev Fn.lY : Fn := ⟨27,fl⟩
noncomputable abbrev Fn.depths : Fn := ⟨28,fl⟩
noncomputable abbrev Fn.closing : Fn := ⟨29,fl⟩
noncomputable abbrev Fn.wF : Fn := ⟨30,fl⟩
noncomputable abbrev Fn.qK : Fn := ⟨31,fl⟩
noncomputable abbrev Fn.pP : Fn := ⟨32,fl⟩
noncomputable abbrev Fn.oW : Fn := ⟨33,fl⟩
noncomputable abbrev Fn.uU : Fn := ⟨34,fl⟩
noncomputable abbrev Fn.gC : Fn := ⟨35,fl⟩
noncomputable abbrev Fn.oG : Fn := ⟨36,fl⟩
noncomputable abbrev Fn.uV : Fn := ⟨37,fl⟩
noncomputable abbrev Fn.pQ : Fn := ⟨38,fl⟩
noncomputable abbrev Fn.oH : Fn := ⟨39,fl⟩
noncomputable abbrev Fn.oJ : Fn := ⟨40,fl⟩
noncomputable abbrev Fn.pG : Fn := ⟨41,fl⟩
noncomputable abbrev Fn.pH : Fn := ⟨42,fl⟩
noncomputable abbrev Fn.Av : Fn := ⟨43,fl⟩
noncomputable abbrev Fn.rN : Fn := ⟨44,fl⟩
noncomputable abbrev Fn.oK : Fn := ⟨45,fl⟩
noncomputable abbrev Fn.uW : Fn := ⟨46,fl⟩
noncomputable abbrev Fn.rP : Fn := ⟨47,fl⟩
noncomputable abbrev Fn.rQ : Fn := ⟨48,fl⟩
noncomputable abbrev Fn.mV : Fn := ⟨49,fl⟩
noncomputable abbrev Fn.pI : Fn := ⟨50,fl⟩
noncomputable abbrev Fn.cD : Fn := ⟨51,fl⟩
noncomputable abbrev Fn.mW : Fn := ⟨52,fl⟩
noncomputable abbrev Fn.fQ : Fn := ⟨53,fl⟩
noncomputable abbrev Fn.tG : Fn := ⟨54,fl⟩
noncomputable abbrev Fn.tH : Fn := ⟨55,fl⟩
noncomputable abbrev Fn.fU : Fn := ⟨56,fl⟩
noncomputable abbrev Fn.Aw : Fn := ⟨57,fl⟩
noncomputable abbrev Fn.tK : Fn := ⟨58,fl⟩
noncomputable abbrev Fn.qC : Fn := ⟨59,fl⟩
noncomputable abbrev Fn.uX : Fn := ⟨60,fl⟩
noncomputable abbrev Fn.wG : Fn := ⟨61,fl⟩
noncomputable abbrev Fn.rR : Fn := ⟨62,fl⟩
noncomputable abbrev Fn.Cz : Fn := ⟨63,fl⟩
noncomputable abbrev Fn.xV : Fn := ⟨64,fl⟩
noncomputable abbrev Fn.Gw : Fn := ⟨65,fl⟩
noncomputable abbrev Fn.xW : Fn := ⟨66,fl⟩
noncomputable abbrev Fn.Nm : Fn := ⟨67,fl⟩
noncomputable abbrev Fn.Gx : Fn := ⟨68,fl⟩
noncomputable abbrev Fn.law_small : Fn := ⟨69,fl⟩
noncomputable abbrev Fn.zM : Fn := ⟨70,fl⟩
noncomputable abbrev Fn.Ax : Fn := ⟨71,fl⟩
noncomputable abbrev Fn.xX : Fn := ⟨72,fl⟩
noncomputable abbrev Fn.zN : Fn := ⟨73,fl⟩
noncomputable abbrev Fn.zO : Fn := ⟨74,fl⟩
noncomputable abbrev Fn.Dc : Fn := ⟨75,fl⟩
noncomputable abbrev Fn.Gy : Fn := ⟨76,fl⟩
noncomputable abbrev Fn.uY : Fn := ⟨77,fl⟩
noncomputable abbrev Fn.Ay : Fn := ⟨78,fl⟩
noncomputable abbrev Fn.wH : Fn := ⟨79,fl⟩
noncomputable abbrev Fn.wI : Fn := ⟨80,fl⟩
noncomputable abbrev Fn.gV : Fn := ⟨81,fl⟩
noncomputable abbrev Fn.fB : Fn := ⟨82,fl⟩
noncomputable abbrev Fn.BW : Fn := ⟨83,fl⟩
noncomputable abbrev Fn.BX : Fn := ⟨84,fl⟩
noncomputable abbrev Fn.BZ : Fn := ⟨85,fl⟩
noncomputable abbrev Fn.QC : Fn := ⟨86,fl⟩
inductive Gc where
 | rT | NEGATION | RELATION | SUM | POWER | INTEGER | REAL | DOUBLE | Gd | LOGICAL | CHARACTER | LETTERS | jR | SIGNS | xY | oX | pR | lJ | lZ | iT
noncomputable abbrev Y4 : Gc -> V
 | .rT => .int 1 | .NEGATION => .int 4 | .RELATION => .int 5 | .SUM => .int 7 | .POWER => .int 9 | .INTEGER => .int 0 | .REAL => .int 1 | .DOUBLE => .int 2 | .Gd => .int 3 | .LOGICAL => .int 4 | .CHARACTER => .int 5
 | .LETTERS => .str "ABCDEFGHIJKLMNOPQRSTUVWXYZ" | .jR => .str "0123456789" | .SIGNS => .str "+-*/(),=:" | .xY => .int 6 | .oX => .int 1000 | .pR => .str "0123456789" | .lJ => .int 7
 | .lZ => .str "ABCDEFGHIJKLMNOPQRSTUVWXYZ" | .iT => .str "0123456789"
noncomputable def QD : Gc -> Str
 | .rT => "EQUIVALENCE" | .NEGATION => "NEGATION" | .RELATION => "RELATION" | .SUM => "SUM" | .POWER => "POWER" | .INTEGER => "INTEGER" | .REAL => "REAL" | .DOUBLE => "DOUBLE" | .Gd => "COMPLEX" | .LOGICAL => "LOGICAL" | .CHARACTER => "CHARACTER"
 | .LETTERS => "LETTERS" | .jR => "DIGITS_lex" | .SIGNS => "SIGNS" | .xY => "MOST_NAME" | .oX => "MOST_DIGITS" | .pR => "DIGITS_specs" | .lJ => "MOST_DIMENSIONS"
 | .lZ => "_law_letters" | .iT => "_law_digits"
noncomputable def Yv : List Str := List.map aJp ["kind_at", "is_op", "need_op", "need_name", "need_int", "need_end", "close_at", "priority_at", "parse_expr", "parse_binary", "parse_first", "parse_primary", "constant_of", "parse_bracket", "part_end", "is_complex", "complex_part", "parse_named", "is_cut", "parse_cut", "parse_arguments", "parse_target", "run_of", "power_at", "number_at", "name_at", "token_at", "tokens_of", "depths", "closing", "parse_bound", "parse_dims", "parse_length", "head_length", "parse_item", "parse_typed", "parse_integer", "parse_real", "parse_double", "parse_complex", "parse_logical", "parse_character", "parse_dimension", "is_block", "parse_block", "parse_members", "parse_common", "parse_place", "parse_group", "parse_equivalence", "parse_parameter", "_law_take", "_law_bad", "_law_need", "_law_first", "_law_name", "_law_expr", "_law_sum", "_law_term", "_law_power", "_law_signed", "_law_complex", "_law_primary", "_law_colon", "_law_named", "_law_args", "_law_place", "_law_cut", "_law_bent", "_law_small", "_law_bounds", "_law_star", "_law_names", "_law_blocks", "_law_groups", "_law_pairs", "_law_dims", "_law_length", "_law_item", "_law_list", "_law_commons", "_law_read", "_law_heard", "dotted_at", "told_pair", "quoted_at", "point_at"]
noncomputable def Pr (f : Fn) : Str := nth Yv f.val ""
inductive Bf where
 | len | abs | int | str | list
noncomputable def vg : Bf -> Str
 | .len => "len" | .abs => "abs" | .int => "int" | .str => "str" | .list => "list"
set_option genCtorIdx false in
inductive E where
 | v (i : Nat) | k (j : Gc) | i (n : Int) | s (x : Str) | b (x : Bool) | none | fn (f : Fn)
 | bin (o : Operator) (x y : E) | cmp (o : CmpOp) (x y : E) | neg (x : E) | not (x : E) | and (x y : E) | or (x y : E) | Ju (t x y : E)
 | tup (es : E) | lst (es : E) | pU (es : E) | sub (x i : E) | eG (x lo hi : E) | mX (x lo hi : E)
 | call (f : Fn) (es : E) | Qz (x i es : E) | bf (f : Bf) (x : E) | app (o e : E) | pop (o e : E) | join (o e : E) | get (k d : E)
 | nil | cons (x xs : E) | pt (x : E)
set_option genCtorIdx false in
inductive S where
 | done | asg (i : Nat) (e : E) (r : S) | fV (is : List Nat) (e : E) (r : S) | aug (i : Nat) (o : Operator) (e : E) (r : S) | ret (e : E) | ifs (t : E) (a b r : S) | whl (t : E) (b r : S)
 | forR (i : Nat) (e : E) (b r : S) | Gz (i : Nat) (e e' : E) (b r : S) | QF (i : Nat) (e : E) (b r : S) | forL (i : Nat) (e : E) (b r : S)
 | expr (e : E) (r : S) | raise (e : E) | wJ (e e' : E) | QG (o i e : E) (r : S) | setC (o lo hi e : E) (r : S) | Ck (i : Nat) (r : S) | drop (r : S)
noncomputable def lG (x : Str) : Option Int :=
 if x = "+" then some 7 else if x = "-" then some 7 else if x = "*" then some 8 else if x = "/" then some 8 else if x = "**" then some 9 else if x = "//" then some 6 else none
noncomputable abbrev gQ : List Str := ["+", "-", "*", "/", "**", "//", "(", ")", ",", ":", "="]
noncomputable abbrev En := List (Option V)
noncomputable abbrev Hf : En -> Nat -> Option V
 | [],_ => none
 | x :: _,0 => x
 | _ :: r,i + 1 => Hf r i
noncomputable abbrev setAt : En -> Nat -> V -> En
 | [],_,_ => []
 | _ :: r,0,v => some v :: r
 | x :: r,i + 1,v => x :: setAt r i v
inductive M5 where
 | bin (o : Operator) | Y5 (o : Operator) | cmp (o : CmpOp) | neg | bf (f : Bf) | item
inductive CG : M5 -> (List Value -> Sem Value) -> Prop
 | bin (o : Operator) : CG (.bin o) (fun vs => binaryOp o (vs.getD 0 .none) (vs.getD 1 .none))
 | Y5 (o : Operator) : CG (.Y5 o) (fun vs => inplaceOp o (vs.getD 0 .none) (vs.getD 1 .none))
 | cmp (o : CmpOp) : CG (.cmp o) (fun vs => compareOp o (vs.getD 0 .none) (vs.getD 1 .none))
 | neg : CG .neg (fun vs => unaryOp .USub (vs.getD 0 .none))
 | len : CG (.bf .len) (fun vs => call (.builtin "len") [vs.getD 0 .none])
 | abs : CG (.bf .abs) (fun vs => call (.builtin "abs") [vs.getD 0 .none])
 | int : CG (.bf .int) (fun vs => call (.type "int") [vs.getD 0 .none])
 | str : CG (.bf .str) (fun vs => call (.type "str") [vs.getD 0 .none])
 | list : CG (.bf .list) (fun vs => call (.type "list") [vs.getD 0 .none])
 | item (value slice : Expr) : zH slice -> CG .item (fun vs => subscriptTail value slice (vs.getD 0 .none) (vs.getD 1 .none))
section
variable {G : eX} (c : Cfg G)
@[irreducible] noncomputable def iU (X : Prop) (o : M5) (xs : List V) (σ : aW) (Q : KV) : Prop := ∀ ρ t,CG o t -> WO c Rep t xs ρ σ Q X
end
noncomputable abbrev Ld : List V -> Nat -> Nat -> Option V
 | x :: _,0,_ => some x
 | _ :: r,n + 1,f + 1 => Ld r n f
 | _,_,_ => none
noncomputable abbrev Pz {α : Type} (xs : List V) (f : V -> V -> Option α) : Option α := match xs with
 | [x,y] => f x y
 | _ => none
noncomputable abbrev QH {α : Type} (x : V) (f : Int -> Option α) : Option α := match x with
 | .int a => f a
 | _ => none
noncomputable abbrev CJ {α : Type} (x : V) (f : Str -> Option α) : Option α := match x with
 | .str a => f a
 | _ => none
noncomputable abbrev QJ {α : Type} (x : V) (f : Option α) : Option α := match x with
 | .none => f
 | _ => none
noncomputable abbrev Az (k : Option Bool) (f : Bool -> Bool) : Option V := match k with
 | some k => some (.bool (f k))
 | none => none
noncomputable abbrev Ra (x y : V) (f : Int -> Int -> Option V) : Option V := QH x fun a => QH y fun b => f a b
noncomputable abbrev vh (x y : V) (f : Str -> Str -> Option V) : Option V := CJ x fun a => CJ y fun b => f a b
noncomputable abbrev eqs (o : CmpOp) (a b : Str) : Option V := match o with
 | .Eq => some (.bool (decide (a = b)))
 | .NotEq => some (.bool (!decide (a = b)))
 | _ => none
noncomputable abbrev opV (o : M5) (xs : List V) : Option V :=
 match o with
 | .bin .Add => Pz xs fun x y => Ra x y fun a b => some (.int (a + b))
 | .bin .Sub => Pz xs fun x y => Ra x y fun a b => some (.int (a - b))
 | .Y5 .Add => Pz xs fun x y => Ra x y fun a b => some (.int (a + b))
 | .Y5 .Sub => Pz xs fun x y => Ra x y fun a b => some (.int (a - b))
 | .cmp .Is => Pz xs fun x y => QJ y (Az (lR x) id)
 | .cmp .IsNot => Pz xs fun x y => QJ y (Az (lR x) (!·))
 | .cmp .In => Pz xs fun x y => vh x y fun y x => some (.bool (Txt.contains x y))
 | .cmp .NotIn => Pz xs fun x y => vh x y fun y x => some (.bool (!Txt.contains x y))
 | .cmp o => Pz xs fun x y => match x with
  | .str a => CJ y fun b => eqs o a b
  | x => Ra x y fun a b => Az (Vc o a b) id
 | .neg => match xs with
  | [x] => QH x fun a => some (.int (-a))
  | _ => none
 | .item => Pz xs fun x y => match x with
  | .tup xs => QH y fun i => match i with
   | .ofNat n => Ld xs n 1000
   | _ => none
  | _ => none
 | _ => none
section
variable {G : eX} (c : Cfg G)
noncomputable abbrev Ej (X : Prop) (o : M5) (xs : List V) (σ : aW) (Q : KV) : Prop :=
 match opV o xs with
 | some v => Q v σ
 | none => iU c X o xs σ Q
noncomputable abbrev KE := En -> aW -> KV -> Prop
noncomputable abbrev KF := Fl -> En -> aW -> Prop
noncomputable abbrev KS := En -> aW -> KF -> Prop
noncomputable def Jw (b : Bool) (A B : Prop) : Prop := match b with
 | true => A
 | false => B
noncomputable abbrev kV (x : Option V) (σ : aW) (Q : KV) : Prop := match x with
 | some v => Q v σ
 | none => False
noncomputable abbrev k1 (op : List V -> aW -> KV -> Prop) (a : V) (Q : KV) : KV := fun b σ => op [a,b] σ Q
noncomputable abbrev k2 (op : List V -> aW -> KV -> Prop) (ey : KE) (ρ : En) (Q : KV) : KV := fun a σ => ey ρ σ (k1 op a Q)
noncomputable abbrev k0 (op : List V -> aW -> KV -> Prop) (Q : KV) : KV := fun a σ => op [a] σ Q
noncomputable abbrev rA (K : Bool -> aW -> Prop) : KV := fun v σ => match LC v with
 | some b => K b σ
 | none => False
noncomputable abbrev aIb (Q : KV) : Bool -> aW -> Prop := fun b σ => Q (.bool (!b)) σ
noncomputable abbrev CK (ey : KE) (ρ : En) (Q : KV) : KV := fun v σ => match v with
 | .bool b => Jw b (ey ρ σ Q) (Q (.bool false) σ)
 | _ => False
noncomputable abbrev kOr (ey : KE) (ρ : En) (Q : KV) : KV := fun v σ => match v with
 | .bool b => Jw b (Q (.bool true) σ) (ey ρ σ Q)
 | _ => False
noncomputable abbrev kIf {α : Type} (a b : En -> aW -> α -> Prop) (ρ : En) (Q : α) : Bool -> aW -> Prop := fun t σ => Jw t (a ρ σ Q) (b ρ σ Q)
noncomputable abbrev kL1 (a : V) (Q : List V -> aW -> Prop) : List V -> aW -> Prop := fun vs σ => Q (a :: vs) σ
noncomputable abbrev kL (es : En -> aW -> (List V -> aW -> Prop) -> Prop) (ρ : En) (Q : List V -> aW -> Prop) : KV := fun a σ => es ρ σ (kL1 a Q)
noncomputable abbrev fj {α : Type} : List α -> Nat -> Prop -> Prop
 | [],_,P => P
 | _ :: _,0,_ => False
 | _ :: r,n + 1,P => fj r n P
noncomputable abbrev aIc (Q : KV) : List V -> aW -> Prop := fun vs σ => fj vs 30 (Q (.tup vs) σ)
noncomputable abbrev aIe (Q : KV) : List V -> aW -> Prop := fun vs σ => fj vs 30 (Q (.lst vs) σ)
noncomputable abbrev aIf (Q : KV) : List V -> aW -> Prop := fun vs σ => fj vs 30 (∀ a,σ a = none -> Q (.mut a) (aH σ a vs))
noncomputable abbrev Y6 (c : Cfg G) (fa : Addr) (X : Prop) (Q : KV) : List V -> aW -> Prop := fun vs σ => aR c (.ref fa) vs σ Q X
noncomputable abbrev kO (K : Option Int -> aW -> Prop) : KV := fun v σ => match v with
 | .int i => K (some i) σ
 | _ => False
@[irreducible] noncomputable def rU (x : V) (lo hi : Option Int) (σ : aW) (Q : KV) : Prop := ∃ xs,Py (bR σ x = some xs) (xs.length <= sizeLine) (Q (.lst (eG xs lo hi)) σ)
theorem Dd {x : V} {lo hi : Option Int} {σ : aW} {Q : KV} : rU x lo hi σ Q ↔ ∃ xs,Py (bR σ x = some xs) (xs.length <= sizeLine) (Q (.lst (eG xs lo hi)) σ) := by
 unfold rU; exact Iff.rfl
theorem Hg {x : V} {lo hi : Option Int} {σ : aW} {Q : KV} (xs : List V) (h1 : bR σ x = some xs) (h2 : xs.length <= sizeLine) (q : Q (.lst (eG xs lo hi)) σ) : rU x lo hi σ Q := Dd.mpr ⟨xs,h1,h2,q⟩
noncomputable abbrev aFv (a : Addr) (Q : KV) : KV := fun v σ => ∃ xs,Py (σ a = some xs) (xs.length < sizeLine) (Q .none (aH σ a (xs ++ [v])))
noncomputable abbrev aIg (e : KE) (ρ : En) (Q : KV) : KV := fun x σ => ∃ a,Py (x = .mut a) (∃ ys,σ a = some ys) (e ρ σ (aFv a Q))
noncomputable abbrev aFw (a : Addr) (Q : KV) : KV := fun v σ => v = .int 0 /\ Ex2 fun y xs => Py (σ a = some (y :: xs)) (xs.length < sizeLine) (Q y (aH σ a xs))
noncomputable abbrev aFx (e : KE) (ρ : En) (Q : KV) : KV := fun x σ => ∃ a,Py (x = .mut a) (∃ ys,σ a = some ys) (e ρ σ (aFw a Q))
noncomputable abbrev Xi (x : V) (lo hi : Option Int) (σ : aW) (Q : KV) : Prop := match x with
 | .str t => t.length <= sizeLine /\ Q (.str ⟨(eG t.cps.toList lo hi).toArray⟩) σ
 | _ => False
end
section
variable {G : eX} (c : Cfg G) (A : Fn -> Addr) (X : Prop)
mutual
@[reducible] noncomputable def vE : E -> En -> aW -> KV -> Prop
 | .v i,ρ,σ,Q => kV (Hf ρ i) σ Q
 | .k j,_,σ,Q => Q (Y4 j) σ
 | .i n,_,σ,Q => Q (.int n) σ
 | .s x,_,σ,Q => Q (.str x) σ
 | .b x,_,σ,Q => Q (.bool x) σ
 | .none,_,σ,Q => Q .none σ
 | .fn f,_,σ,Q => Q (.val (.ref (A f))) σ
 | .bin o x y,ρ,σ,Q => vE x ρ σ (k2 (Ej c X (.bin o)) (vE y) ρ Q)
 | .cmp o x y,ρ,σ,Q => vE x ρ σ (k2 (Ej c X (.cmp o)) (vE y) ρ Q)
 | .neg x,ρ,σ,Q => vE x ρ σ (k0 (Ej c X .neg) Q)
 | .not x,ρ,σ,Q => vE x ρ σ (rA (aIb Q))
 | .and x y,ρ,σ,Q => vE x ρ σ (CK (vE y) ρ Q)
 | .or x y,ρ,σ,Q => vE x ρ σ (kOr (vE y) ρ Q)
 | .Ju t x y,ρ,σ,Q => vE t ρ σ (rA (kIf (vE x) (vE y) ρ Q))
 | .tup es,ρ,σ,Q => vL es ρ σ (aIc Q)
 | .lst es,ρ,σ,Q => vL es ρ σ (aIe Q)
 | .pU es,ρ,σ,Q => vL es ρ σ (aIf Q)
 | .sub x i,ρ,σ,Q => vE x ρ σ (k2 (Ej c X .item) (vE i) ρ Q)
 | .eG x lo hi,ρ,σ,Q => vE x ρ σ fun a aG => vO lo ρ aG fun l bN => vO hi ρ bN fun h bK => rU a l h bK Q
 | .mX x lo hi,ρ,σ,Q => vE x ρ σ fun a aG => vO lo ρ aG fun l bN => vO hi ρ bN fun h bK => Xi a l h bK Q
 | .call f es,ρ,σ,Q => vL es ρ σ (Y6 c (A f) X Q)
 | .Qz x i es,ρ,σ,Q => vE x ρ σ (k2 (Ej c X .item) (vE i) ρ fun f aG => ∃ g,f = .val (.ref (A g)) /\ vL es ρ aG (Y6 c (A g) X Q))
 | .bf f x,ρ,σ,Q => vE x ρ σ (k0 (Ej c X (.bf f)) Q)
 | .app o e,ρ,σ,Q => vE o ρ σ (aIg (vE e) ρ Q)
 | .pop o e,ρ,σ,Q => vE o ρ σ (aFx (vE e) ρ Q)
 | .join o e,ρ,σ,Q => vE o ρ σ fun x aG => ∃ sep,x = .str sep /\ vE e ρ aG fun v bN => ∃ ys,bR bN v = some (sL ys) /\ (ys.map (·.length)).sum + ys.length * sep.length <= 16777216 /\ Q (.str (Txt.join sep ys)) bN
 | .get k d,ρ,σ,Q => vE k ρ σ fun v aG => ∃ x,v = .str x /\ x ∈ gQ /\ vE d ρ aG fun y bN => ∃ i,y = .int i /\ Q (.int ((lG x).getD i)) bN
 | _,_,_,_ => False
@[reducible] noncomputable def vL : E -> En -> aW -> (List V -> aW -> Prop) -> Prop
 | .nil,_,σ,Q => Q [] σ
 | .cons x xs,ρ,σ,Q => vE x ρ σ (kL (vL xs) ρ Q)
 | _,_,_,_ => False
@[reducible] noncomputable def vO : E -> En -> aW -> (Option Int -> aW -> Prop) -> Prop
 | .nil,_,σ,Q => Q none σ
 | .pt x,ρ,σ,Q => vE x ρ σ (kO Q)
 | _,_,_,_ => False
end
noncomputable abbrev kA (i : Nat) (r : KS) (ρ : En) (Q : KF) : KV := fun v σ => r (setAt ρ i v) σ Q
noncomputable abbrev kTs (r : KS) (σ : aW) (Q : KF) : List Nat -> List V -> En -> Prop
 | [],[],ρ => r ρ σ Q
 | i :: is,v :: vs,ρ => kTs r σ Q is vs (setAt ρ i v)
 | _,_,_ => False
noncomputable abbrev kT (is : List Nat) (r : KS) (ρ : En) (Q : KF) : KV := fun v σ => match v with
 | .tup vs => kTs r σ Q is vs ρ
 | _ => False
noncomputable abbrev aIh (ρ : En) (Q : KF) : KV := fun v σ => Q (.ret v) ρ σ
noncomputable abbrev kN (r : KS) (ρ : En) (Q : KF) : KV := fun _ σ => r ρ σ Q
noncomputable abbrev kX (X : Prop) : KV := fun _ _ => X
noncomputable abbrev sq (r : KS) (Q : KF) : KF := fun φ ρ σ => match φ with
 | .next => r ρ σ Q
 | φ => Q φ ρ σ
noncomputable abbrev lp (J : En -> aW -> Prop) (r : KS) (Q : KF) : KF := fun φ ρ σ => match φ with
 | .next => J ρ σ
 | .cont => J ρ σ
 | .brk => r ρ σ Q
 | .ret v => Q (.ret v) ρ σ
noncomputable abbrev kW {ι : Type} (b r : KS) (J : ι -> En -> aW -> Prop) (μ : ι -> Nat) (i : ι) (ρ : En) (Q : KF) : Bool -> aW -> Prop :=
 fun t σ => Jw t (b ρ σ (lp (fun ρ σ => ∃ j,μ j < μ i /\ J j ρ σ) r Q)) (r ρ σ Q)
noncomputable abbrev Kq (item : Nat -> V) (n : Nat) (x : Nat) (b r : KS) (ρ : En) (σ : aW) (Q : KF) (I : Nat -> En -> aW -> Prop) : Prop :=
 Py (I 0 ρ σ) (∀ k ρ σ,k < n -> I k ρ σ -> b (setAt ρ x (item k)) σ (lp (I (k + 1)) r Q)) (∀ ρ σ,I n ρ σ -> r ρ σ Q)
@[reducible] noncomputable def vS : S -> KS
 | .done,ρ,σ,Q => Q .next ρ σ
 | .asg i e r,ρ,σ,Q => vE c A X e ρ σ (kA i (vS r) ρ Q)
 | .fV is e r,ρ,σ,Q => vE c A X e ρ σ (kT is (vS r) ρ Q)
 | .aug i o e r,ρ,σ,Q => kV (Hf ρ i) σ fun a σ => vE c A X e ρ σ (k1 (Ej c X (.Y5 o)) a (kA i (vS r) ρ Q))
 | .ret e,ρ,σ,Q => vE c A X e ρ σ (aIh ρ Q)
 | .ifs t a b r,ρ,σ,Q => vE c A X t ρ σ (rA (kIf (vS a) (vS b) ρ (sq (vS r) Q)))
 | .whl t b r,ρ,σ,Q => ∃ (ι : Type) (J : ι -> En -> aW -> Prop) (μ : ι -> Nat) (xP : ι),J xP ρ σ /\ ∀ i ρ σ,J i ρ σ -> vE c A X t ρ σ (rA (kW (vS b) (vS r) J μ i ρ Q))
 | .forR x e b r,ρ,σ,Q => vE c A X e ρ σ fun v σ => ∃ n : Int,An4 (v = .int n) (-(2 ^ 62) <= n) (n < 2 ^ 62) (∃ I,Kq (fun k => .int k) n.toNat x (vS b) (vS r) ρ σ Q I)
 | .Gz x e e' b r,ρ,σ,Q => vE c A X e ρ σ fun v σ => ∃ m : Int,v = .int m /\ vE c A X e' ρ σ fun v σ => ∃ n : Int,v = .int n /\ -(2 ^ 62) <= m /\ m < 2 ^ 62 /\ -(2 ^ 62) <= n /\ n < 2 ^ 62 /\
   ∃ I,Kq (fun k => .int (m + k)) (n - m).toNat x (vS b) (vS r) ρ σ Q I
 | .QF x e b r,ρ,σ,Q => vE c A X e ρ σ fun v σ => ∃ t : Str,v = .str t /\ t.cps.all (· < 128) = true /\ ∃ I,Kq (fun k => .str ⟨#[t.cps.getD k 0]⟩) t.cps.size x (vS b) (vS r) ρ σ Q I
 | .forL x e b r,ρ,σ,Q => vE c A X e ρ σ fun v σ => ∃ a xs,v = .mut a /\ ∃ I,(∀ k ρ σ,I k ρ σ -> σ a = some xs) /\ Kq (fun k => xs.getD k .none) xs.length x (vS b) (vS r) ρ σ Q I
 | .expr e r,ρ,σ,Q => vE c A X e ρ σ (kN (vS r) ρ Q)
 | .raise e,ρ,σ,_ => 2 <= c.n /\ vE c A X e ρ σ (kX X)
 | .wJ e e',ρ,σ,_ => 3 <= c.n /\ vE c A X e ρ σ fun _ σ => vE c A X e' ρ σ (kX X)
 | .QG o i e r,ρ,σ,Q => vE c A X e ρ σ fun v σ => vE c A X o ρ σ fun x σ => ∃ a,x = .mut a /\ vE c A X i ρ σ fun y σ => ∃ k xs,y = .int k /\ σ a = some xs /\ 0 <= k /\ k < (xs.length : Int) /\ xs.length <= sizeLine /\ vS r ρ (aH σ a (xs.set k.toNat v)) Q
 | .setC o lo hi e r,ρ,σ,Q => vE c A X e ρ σ fun v σ => vE c A X o ρ σ fun x σ => ∃ a,x = .mut a /\ v ≠ .mut a /\ vO c A X lo ρ σ fun l σ => vO c A X hi ρ σ fun h σ => ∃ xs ys,σ a = some xs /\ bR σ v = some ys /\ xs.length + ys.length <= sizeLine /\ vS r ρ (aH σ a (rG xs ys l h)) Q
 | .Ck i r,ρ,σ,Q => ∃ a xs,Hf ρ i = some (.mut a) /\ σ a = some xs /\ vS r (setAt ρ i (.lst xs)) (uO σ a) Q
 | .drop r,ρ,σ,Q => ∃ a,vS r ρ (uO σ a) Q
end
end Mine
end
namespace Mine
noncomputable def nE : List Nat -> List Nat -> Bool
 | [],[] => true
 | a :: x,b :: y => aOg a b && nE x y
 | _,_ => false
theorem Y7 : ∀ {x y : List Nat},nE x y = true -> x = y
 | [],[],_ => rfl
 | [],_ :: _,h => nomatch h
 | _ :: _,[],h => nomatch h
 | a :: x,b :: y,h => by
  obtain ⟨h1,h2⟩ := aKv.mp h;rw [aLr h1,Y7 h2]
noncomputable def sE (a b : Str) : Bool := nE a.cps.toList b.cps.toList
theorem pK {a b : Str} (h : sE a b = true) : a = b := by
 cases a; cases b
 exact congrArg Str.mk (Array.toList_inj.mp (Y7 h))
noncomputable def Hh : List Str -> Str -> Bool
 | [],_ => false
 | y :: r,x => sE y x || Hh r x
theorem lA {x : Str} : ∀ {l : List Str},Hh l x = true -> x ∈ l
 | y :: r,h => by
  rcases aKn.mp h with h | h
  ·rw [pK h]; exact .head _
  ·exact .tail _ (lA h)
noncomputable def Fo : List Str -> Nat -> Str -> Bool
 | y :: _,0,x => sE y x
 | _ :: r,i + 1,x => Fo r i x
 | [],_,_ => false
noncomputable abbrev zl (ns : List Str) (ρ : En) : eE := ns.zip ρ
theorem Vp {x : Str} {v : V} : ∀ {ns : List Str} {ρ : En} {i : Nat},Fo ns i x = true -> Hf ρ i = some v -> Has (zl ns ρ) x v
 | _ :: _,u :: _,0,h,e => by
  have e : u = some v := e;rw [e, <- pK h]; exact .here
 | _ :: ns,_ :: ρ,i + 1,h,e => .there (Vp (ns := ns) (ρ := ρ) (i := i) h e)
 | _,[],_,_,e => by exact aK e
 | [],_ :: _,_,h,_ => by cases h
theorem Hi {x : Str} {v : V} : ∀ {ns : List Str} {ρ : En} {i : Nat},Fo ns i x = true -> ρ.length = ns.length -> Put (zl ns ρ) x v (zl ns (setAt ρ i v))
 | _ :: _,_ :: _,0,h,_ => by rw [<- pK h]; exact .here
 | _ :: ns,_ :: ρ,i + 1,h,e => .there (Hi (ns := ns) (ρ := ρ) (i := i) h (aNj e))
 | [],_ :: _,_,h,_ => by cases h
 | _ :: _,[],_,_,e => by cases e
 | [],[],_,h,_ => by cases h
theorem Xj {x : Str} {a : Addr} {xs : List V} : ∀ {ns : List Str} {ρ : En} {i : Nat},ρ.length = ns.length -> Hf ρ i = some (.mut a) -> ∃ x,Kd (zl ns ρ) x a xs (zl ns (setAt ρ i (.lst xs)))
 | y :: _,u :: _,0,_,e => by
  have e : u = some (.mut a) := e;rw [e]; exact ⟨y,.here⟩
 | _ :: ns,_ :: ρ,i + 1,h,e => let ⟨x,f⟩ := Xj (x := x) (ns := ns) (ρ := ρ) (i := i) (aNj h) e; ⟨x,.there f⟩
 | _,[],_,_,e => by exact aK e
 | [],_ :: _,_,h,_ => by cases h
theorem qD : ∀ (ρ : En) (i : Nat) (v : V),(setAt ρ i v).length = ρ.length
 | [],_,_ => rfl
 | _ :: _,0,_ => rfl
 | _ :: r,i + 1,v => congrArg (· + 1) (qD r i v)
noncomputable def uL (e : Expr) (F : Str -> Pos -> Bool) : Bool := if h : e.ctorIdx = 23 then Expr.Name.elim e h F else false
@[elab_as_elim] theorem lK (e : Expr) {F : Str -> Pos -> Bool} {P : Expr -> Prop} (h : uL e F = true) (K : ∀ (x : Str) (p : Pos),F x p = true -> P (.Name x p)) : P e :=
 let ⟨i,h⟩ := dk h; Expr.Name.elim (motive_1 := fun e => ∀ i,Expr.Name.elim e i F = true -> P e) e i (fun x p _ h => K x p h) i h
noncomputable def tL (e : Expr) (F : Const -> Nat -> Pos -> Bool) : Bool := if h : e.ctorIdx = 19 then Expr.Constant.elim e h F else false
@[elab_as_elim] theorem rW (e : Expr) {F : Const -> Nat -> Pos -> Bool} {P : Expr -> Prop} (h : tL e F = true) (K : ∀ (v : Const) (k : Nat) (p : Pos),F v k p = true -> P (.Constant v k p)) : P e :=
 let ⟨i,h⟩ := dk h; Expr.Constant.elim (motive_1 := fun e => ∀ i,Expr.Constant.elim e i F = true -> P e) e i (fun v k p _ h => K v k p h) i h
noncomputable def QK (e : Expr) (F : Expr -> Operator -> Expr -> Pos -> Bool) : Bool := if h : e.ctorIdx = 2 then Expr.BinOp.elim e h F else false
@[elab_as_elim] theorem QM (e : Expr) {F : Expr -> Operator -> Expr -> Pos -> Bool} {P : Expr -> Prop} (h : QK e F = true) (K : ∀ (l : Expr) (o : Operator) (r : Expr) (p : Pos),F l o r p = true -> P (.BinOp l o r p)) : P e :=
 let ⟨i,h⟩ := dk h; Expr.BinOp.elim (motive_1 := fun e => ∀ i,Expr.BinOp.elim e i F = true -> P e) e i (fun l o r p _ h => K l o r p h) i h
noncomputable def Rc (e : Expr) (F : Expr -> List CmpOp -> List Expr -> Pos -> Bool) : Bool := if h : e.ctorIdx = 15 then Expr.Compare.elim e h F else false
@[elab_as_elim] theorem Hj (e : Expr) {F : Expr -> List CmpOp -> List Expr -> Pos -> Bool} {P : Expr -> Prop} (h : Rc e F = true) (K : ∀ (l : Expr) (os : List CmpOp) (rs : List Expr) (p : Pos),F l os rs p = true -> P (.Compare l os rs p)) : P e :=
 let ⟨i,h⟩ := dk h; Expr.Compare.elim (motive_1 := fun e => ∀ i,Expr.Compare.elim e i F = true -> P e) e i (fun l os rs p _ h => K l os rs p h) i h
noncomputable def Hl (e : Expr) (F : UnaryOp -> Expr -> Pos -> Bool) : Bool := if h : e.ctorIdx = 3 then Expr.UnaryOp.elim e h F else false
@[elab_as_elim] theorem uZ (e : Expr) {F : UnaryOp -> Expr -> Pos -> Bool} {P : Expr -> Prop} (h : Hl e F = true) (K : ∀ (o : UnaryOp) (l : Expr) (p : Pos),F o l p = true -> P (.UnaryOp o l p)) : P e :=
 let ⟨i,h⟩ := dk h; Expr.UnaryOp.elim (motive_1 := fun e => ∀ i,Expr.UnaryOp.elim e i F = true -> P e) e i (fun o l p _ h => K o l p h) i h
noncomputable def Np (e : Expr) (F : BoolOp -> List Expr -> Pos -> Bool) : Bool := if h : e.ctorIdx = 0 then Expr.BoolOp.elim e h F else false
@[elab_as_elim] theorem xZ (e : Expr) {F : BoolOp -> List Expr -> Pos -> Bool} {P : Expr -> Prop} (h : Np e F = true) (K : ∀ (o : BoolOp) (es : List Expr) (p : Pos),F o es p = true -> P (.BoolOp o es p)) : P e :=
 let ⟨i,h⟩ := dk h; Expr.BoolOp.elim (motive_1 := fun e => ∀ i,Expr.BoolOp.elim e i F = true -> P e) e i (fun o es p _ h => K o es p h) i h
noncomputable def QS (e : Expr) (F : Expr -> Expr -> Expr -> Pos -> Bool) : Bool := if h : e.ctorIdx = 5 then Expr.IfExp.elim e h F else false
@[elab_as_elim] theorem Rd (e : Expr) {F : Expr -> Expr -> Expr -> Pos -> Bool} {P : Expr -> Prop} (h : QS e F = true) (K : ∀ (t : Expr) (a : Expr) (b : Expr) (p : Pos),F t a b p = true -> P (.IfExp t a b p)) : P e :=
 let ⟨i,h⟩ := dk h; Expr.IfExp.elim (motive_1 := fun e => ∀ i,Expr.IfExp.elim e i F = true -> P e) e i (fun t a b p _ h => K t a b p h) i h
noncomputable def Vq (e : Expr) (F : List Expr -> Nat -> Pos -> Bool) : Bool := if h : e.ctorIdx = 25 then Expr.Tuple.elim e h F else false
@[elab_as_elim] theorem Rf (e : Expr) {F : List Expr -> Nat -> Pos -> Bool} {P : Expr -> Prop} (h : Vq e F = true) (K : ∀ (l : List Expr) (k : Nat) (p : Pos),F l k p = true -> P (.Tuple l k p)) : P e :=
 let ⟨i,h⟩ := dk h; Expr.Tuple.elim (motive_1 := fun e => ∀ i,Expr.Tuple.elim e i F = true -> P e) e i (fun l k p _ h => K l k p h) i h
noncomputable def QT (e : Expr) (F : List Expr -> Pos -> Bool) : Bool := if h : e.ctorIdx = 24 then Expr.List.elim e h F else false
@[elab_as_elim] theorem Xk (e : Expr) {F : List Expr -> Pos -> Bool} {P : Expr -> Prop} (h : QT e F = true) (K : ∀ (l : List Expr) (p : Pos),F l p = true -> P (.List l p)) : P e :=
 let ⟨i,h⟩ := dk h; Expr.List.elim (motive_1 := fun e => ∀ i,Expr.List.elim e i F = true -> P e) e i (fun l p _ h => K l p h) i h
noncomputable def qL (e : Expr) (F : Expr -> Expr -> Pos -> Bool) : Bool := if h : e.ctorIdx = 21 then Expr.Subscript.elim e h F else false
@[elab_as_elim] theorem pW (e : Expr) {F : Expr -> Expr -> Pos -> Bool} {P : Expr -> Prop} (h : qL e F = true) (K : ∀ (l : Expr) (r : Expr) (p : Pos),F l r p = true -> P (.Subscript l r p)) : P e :=
 let ⟨i,h⟩ := dk h; Expr.Subscript.elim (motive_1 := fun e => ∀ i,Expr.Subscript.elim e i F = true -> P e) e i (fun l r p _ h => K l r p h) i h
noncomputable def QV (e : Expr) (F : Option Expr -> Option Expr -> Option Expr -> Pos -> Bool) : Bool := if h : e.ctorIdx = 26 then Expr.Slice.elim e h F else false
@[elab_as_elim] theorem QW (e : Expr) {F : Option Expr -> Option Expr -> Option Expr -> Pos -> Bool} {P : Expr -> Prop} (h : QV e F = true) (K : ∀ (a : Option Expr) (b : Option Expr) (d : Option Expr) (p : Pos),F a b d p = true -> P (.Slice a b d p)) : P e :=
 let ⟨i,h⟩ := dk h; Expr.Slice.elim (motive_1 := fun e => ∀ i,Expr.Slice.elim e i F = true -> P e) e i (fun a b d p _ h => K a b d p h) i h
noncomputable def Xl (e : Expr) (F : Expr -> List Expr -> List Keyword -> Pos -> Bool) : Bool := if h : e.ctorIdx = 16 then Expr.Call.elim e h F else false
@[elab_as_elim] theorem Nq (e : Expr) {F : Expr -> List Expr -> List Keyword -> Pos -> Bool} {P : Expr -> Prop} (h : Xl e F = true) (K : ∀ (f : Expr) (l : List Expr) (ks : List Keyword) (p : Pos),F f l ks p = true -> P (.Call f l ks p)) : P e :=
 let ⟨i,h⟩ := dk h; Expr.Call.elim (motive_1 := fun e => ∀ i,Expr.Call.elim e i F = true -> P e) e i (fun f l ks p _ h => K f l ks p h) i h
noncomputable def Ho (e : Expr) (F : Expr -> Str -> Pos -> Bool) : Bool := if h : e.ctorIdx = 20 then Expr.Attribute.elim e h F else false
@[elab_as_elim] theorem Nr (e : Expr) {F : Expr -> Str -> Pos -> Bool} {P : Expr -> Prop} (h : Ho e F = true) (K : ∀ (l : Expr) (m : Str) (p : Pos),F l m p = true -> P (.Attribute l m p)) : P e :=
 let ⟨i,h⟩ := dk h; Expr.Attribute.elim (motive_1 := fun e => ∀ i,Expr.Attribute.elim e i F = true -> P e) e i (fun l m p _ h => K l m p h) i h
noncomputable def Xm (e : Stmt) (F : Option Expr -> Pos -> Bool) : Bool := if h : e.ctorIdx = 3 then Stmt.Return.elim e h F else false
@[elab_as_elim] theorem CN (e : Stmt) {F : Option Expr -> Pos -> Bool} {P : Stmt -> Prop} (h : Xm e F = true) (K : ∀ (v : Option Expr) (p : Pos),F v p = true -> P (.Return v p)) : P e :=
 let ⟨i,h⟩ := dk h; Stmt.Return.elim (motive_2 := fun e => ∀ i,Stmt.Return.elim e i F = true -> P e) e i (fun v p _ h => K v p h) i h
noncomputable def Ba (e : Stmt) (F : List Expr -> Expr -> Pos -> Bool) : Bool := if h : e.ctorIdx = 5 then Stmt.Assign.elim e h F else false
@[elab_as_elim] theorem yC (e : Stmt) {F : List Expr -> Expr -> Pos -> Bool} {P : Stmt -> Prop} (h : Ba e F = true) (K : ∀ (ts : List Expr) (v : Expr) (p : Pos),F ts v p = true -> P (.Assign ts v p)) : P e :=
 let ⟨i,h⟩ := dk h; Stmt.Assign.elim (motive_2 := fun e => ∀ i,Stmt.Assign.elim e i F = true -> P e) e i (fun ts v p _ h => K ts v p h) i h
noncomputable def Hp (e : Stmt) (F : Expr -> Operator -> Expr -> Pos -> Bool) : Bool := if h : e.ctorIdx = 7 then Stmt.AugAssign.elim e h F else false
@[elab_as_elim] theorem Nt (e : Stmt) {F : Expr -> Operator -> Expr -> Pos -> Bool} {P : Stmt -> Prop} (h : Hp e F = true) (K : ∀ (t : Expr) (o : Operator) (v : Expr) (p : Pos),F t o v p = true -> P (.AugAssign t o v p)) : P e :=
 let ⟨i,h⟩ := dk h; Stmt.AugAssign.elim (motive_2 := fun e => ∀ i,Stmt.AugAssign.elim e i F = true -> P e) e i (fun t o v p _ h => K t o v p h) i h
noncomputable def QX (e : Stmt) (F : Expr -> Expr -> List Stmt -> List Stmt -> Pos -> Bool) : Bool := if h : e.ctorIdx = 9 then Stmt.For.elim e h F else false
@[elab_as_elim] theorem Nu (e : Stmt) {F : Expr -> Expr -> List Stmt -> List Stmt -> Pos -> Bool} {P : Stmt -> Prop} (h : QX e F = true) (K : ∀ (t : Expr) (i : Expr) (a : List Stmt) (b : List Stmt) (p : Pos),F t i a b p = true -> P (.For t i a b p)) : P e :=
 let ⟨i,h⟩ := dk h; Stmt.For.elim (motive_2 := fun e => ∀ i,Stmt.For.elim e i F = true -> P e) e i (fun t i a b p _ h => K t i a b p h) i h
noncomputable def QZ (e : Stmt) (F : Expr -> List Stmt -> List Stmt -> Pos -> Bool) : Bool := if h : e.ctorIdx = 11 then Stmt.While.elim e h F else false
@[elab_as_elim] theorem RB (e : Stmt) {F : Expr -> List Stmt -> List Stmt -> Pos -> Bool} {P : Stmt -> Prop} (h : QZ e F = true) (K : ∀ (t : Expr) (a : List Stmt) (b : List Stmt) (p : Pos),F t a b p = true -> P (.While t a b p)) : P e :=
 let ⟨i,h⟩ := dk h; Stmt.While.elim (motive_2 := fun e => ∀ i,Stmt.While.elim e i F = true -> P e) e i (fun t a b p _ h => K t a b p h) i h
noncomputable def bIf (e : Stmt) (F : Expr -> List Stmt -> List Stmt -> Pos -> Bool) : Bool := if h : e.ctorIdx = 12 then Stmt.If.elim e h F else false
@[elab_as_elim] theorem aFy (e : Stmt) {F : Expr -> List Stmt -> List Stmt -> Pos -> Bool} {P : Stmt -> Prop} (h : bIf e F = true) (K : ∀ (t : Expr) (a : List Stmt) (b : List Stmt) (p : Pos),F t a b p = true -> P (.If t a b p)) : P e :=
 let ⟨i,h⟩ := dk h; Stmt.If.elim (motive_2 := fun e => ∀ i,Stmt.If.elim e i F = true -> P e) e i (fun t a b p _ h => K t a b p h) i h
noncomputable def Vr (e : Stmt) (F : Option Expr -> Option Expr -> Pos -> Bool) : Bool := if h : e.ctorIdx = 16 then Stmt.Raise.elim e h F else false
@[elab_as_elim] theorem Rh (e : Stmt) {F : Option Expr -> Option Expr -> Pos -> Bool} {P : Stmt -> Prop} (h : Vr e F = true) (K : ∀ (a : Option Expr) (b : Option Expr) (p : Pos),F a b p = true -> P (.Raise a b p)) : P e :=
 let ⟨i,h⟩ := dk h; Stmt.Raise.elim (motive_2 := fun e => ∀ i,Stmt.Raise.elim e i F = true -> P e) e i (fun a b p _ h => K a b p h) i h
noncomputable def RD (e : Stmt) (F : Expr -> Pos -> Bool) : Bool := if h : e.ctorIdx = 24 then Stmt.Expr.elim e h F else false
@[elab_as_elim] theorem RJ (e : Stmt) {F : Expr -> Pos -> Bool} {P : Stmt -> Prop} (h : RD e F = true) (K : ∀ (v : Expr) (p : Pos),F v p = true -> P (.Expr v p)) : P e :=
 let ⟨i,h⟩ := dk h; Stmt.Expr.elim (motive_2 := fun e => ∀ i,Stmt.Expr.elim e i F = true -> P e) e i (fun v p _ h => K v p h) i h
noncomputable def RK (e : Const) (F : Bool) : Bool := if h : e.ctorIdx = 0 then Const.none.elim e h F else false
@[elab_as_elim] theorem RL (e : Const) {F : Bool} {P : Const -> Prop} (h : RK e F = true) (K : F = true -> P .none) : P e :=
 let ⟨i,h⟩ := dk h; Const.none.elim (motive := fun e => ∀ i,Const.none.elim e i F = true -> P e) e i (fun _ h => K h) i h
noncomputable def RM (e : Const) (F : Bool -> Bool) : Bool := if h : e.ctorIdx = 1 then Const.bool.elim e h F else false
@[elab_as_elim] theorem RN (e : Const) {F : Bool -> Bool} {P : Const -> Prop} (h : RM e F = true) (K : ∀ (x : Bool),F x = true -> P (.bool x)) : P e :=
 let ⟨i,h⟩ := dk h; Const.bool.elim (motive := fun e => ∀ i,Const.bool.elim e i F = true -> P e) e i (fun x _ h => K x h) i h
noncomputable def Y8 (e : Const) (F : Int -> Bool) : Bool := if h : e.ctorIdx = 2 then Const.int.elim e h F else false
@[elab_as_elim] theorem M6 (e : Const) {F : Int -> Bool} {P : Const -> Prop} (h : Y8 e F = true) (K : ∀ (x : Int),F x = true -> P (.int x)) : P e :=
 let ⟨i,h⟩ := dk h; Const.int.elim (motive := fun e => ∀ i,Const.int.elim e i F = true -> P e) e i (fun x _ h => K x h) i h
noncomputable def Y9 (e : Const) (F : Str -> Bool) : Bool := if h : e.ctorIdx = 5 then Const.str.elim e h F else false
@[elab_as_elim] theorem M7 (e : Const) {F : Str -> Bool} {P : Const -> Prop} (h : Y9 e F = true) (K : ∀ (x : Str),F x = true -> P (.str x)) : P e :=
 let ⟨i,h⟩ := dk h; Const.str.elim (motive := fun e => ∀ i,Const.str.elim e i F = true -> P e) e i (fun x _ h => K x h) i h
noncomputable def M8 : List Nat -> Nat -> Bool
 | [],_ => false
 | a :: r,i => aOg a i || M8 r i
noncomputable def zP (e : Expr) : Bool := M8 [0,2,3,5,15,16,19,21,23,24,25] e.ctorIdx
noncomputable def d8 (e : Expr) : Bool := M8 [2,16,19,21,23,24,25] e.ctorIdx
noncomputable def Ae (e : Expr) : Bool := aOg 23 e.ctorIdx
noncomputable def Wv (e : Expr) : Bool := aOg 16 e.ctorIdx
noncomputable def RP (e : Expr) : Bool := aOg 19 e.ctorIdx
noncomputable def Ri (m : Str) (e : Expr) (f : Expr -> List Expr -> Bool) : Bool :=
 Xl e fun g l ks q => bn ks && Ho g fun u y p => sE m y && ((p.endLine == q.line) && f u l)
@[elab_as_elim] theorem Ge {m : Str} (e : Expr) {f : Expr -> List Expr -> Bool} {P : Expr -> Prop} (h : Ri m e f = true)
  (k : ∀ u l p q,(p.endLine == q.line) = true -> f u l = true -> P (.Call (.Attribute u m p) l [] q)) : P e :=
 Nq e h fun g l ks q h => ak h fun h0 h => Fe ks h0 (Nr g h fun u y p h => ak h fun h1 h => ak h fun h2 h => (pK h1 ▸ k u l p q h2 h : P (.Call (.Attribute u y p) l [] q)))
noncomputable def Vs (e : Expr) (f : Str -> List Expr -> Bool) : Bool := Xl e fun g l ks _ => bn ks && uL g fun x _ => f x l
@[elab_as_elim] theorem Df (e : Expr) {f : Str -> List Expr -> Bool} {P : Expr -> Prop} (h : Vs e f = true) (k : ∀ x l p q,f x l = true -> P (.Call (.Name x p) l [] q)) : P e :=
 Nq e h fun g l ks q h => ak h fun h0 h => Fe ks h0 (lK g h fun x p h => k x l p q h)
noncomputable def M9 (e : Expr) (f : Expr -> Option Expr -> Option Expr -> Bool) : Bool := qL e fun l s _ => QV s fun a b d _ => bz d && f l a b
@[elab_as_elim] theorem Vt (e : Expr) {f : Expr -> Option Expr -> Option Expr -> Bool} {P : Expr -> Prop} (h : M9 e f = true) (k : ∀ l a b p q,f l a b = true -> P (.Subscript l (.Slice a b .none p) q)) : P e :=
 pW e h fun l s q h => QW s h fun a b d p h => ak h fun h0 h => o7 d h0 (k l a b p q h)
mutual
noncomputable def mE (ns gs : List Str) : E -> Expr -> Bool
 | .v i => fun e => uL e fun x _ => Fo ns i x
 | .k j => fun e => uL e fun x _ => sE (QD j) x && Hh gs x
 | .fn f => fun e => uL e fun x _ => sE (Pr f) x && Hh gs x
 | .i n => fun e => tL e fun v _ _ => Y8 v fun m => decide (n = m)
 | .s x => fun e => tL e fun v _ _ => Y9 v fun y => sE x y
 | .b x => fun e => tL e fun v _ _ => RM v fun y => decide (x = y)
 | .none => fun e => tL e fun v _ _ => RK v true
 | .bin o x y => fun e => QK e fun l o' r _ => decide (o = o') && (mE ns gs x l && mE ns gs y r)
 | .cmp o x y => fun e => Rc e fun l os rs _ => b1 os fun o' => decide (o = o') && b1 rs fun r => zP r && (mE ns gs x l && mE ns gs y r)
 | .neg x => fun e => Hl e fun o l _ => decide (.USub = o) && mE ns gs x l
 | .not x => fun e => Hl e fun o l _ => decide (.Not = o) && mE ns gs x l
 | .and x y => fun e => Np e fun o es p => decide (.And = o) && bc es fun l es => mE ns gs x l && bc es fun r u => match u with
  | [] => mE ns gs y r
  | t :: u => mE ns gs y (.BoolOp .And (r :: t :: u) p)
 | .or x y => fun e => Np e fun o es p => decide (.Or = o) && bc es fun l es => mE ns gs x l && bc es fun r u => match u with
  | [] => mE ns gs y r
  | t :: u => mE ns gs y (.BoolOp .Or (r :: t :: u) p)
 | .Ju t x y => fun e => QS e fun u l r _ => mE ns gs t u && (mE ns gs x l && mE ns gs y r)
 | .tup es => fun e => Vq e fun l _ _ => mL ns gs es l
 | .lst es => fun e => QT e fun l _ => mL ns gs es l
 | .pU es => fun e => QT e fun l _ => mL ns gs es l
 | .sub x i => fun e => qL e fun l r _ => zP r && (mE ns gs x l && mE ns gs i r)
 | .eG x lo hi => fun e => M9 e fun l a b => Ae l && (mE ns gs x l && (mO ns gs lo a && mO ns gs hi b))
 | .mX x lo hi => fun e => M9 e fun l a b => Ae l && (mE ns gs x l && (mO ns gs lo a && mO ns gs hi b))
 | .call f es => fun e => Vs e fun x l => bc l fun a l => sE (Pr f) x && (Hh gs x && (zP a && mL ns gs es (a :: l)))
 | .Qz x i es => fun e => Xl e fun g l ks _ => bn ks && (qL g fun u v _ => bc l fun a l => zP v && (zP a && (mE ns gs x u && (mE ns gs i v && mL ns gs es (a :: l)))))
 | .bf f x => fun e => Vs e fun y l => b1 l fun a => sE (vg f) y && (Hh gs y && (zP a && mE ns gs x a))
 | .app o e => fun e' => Ri "append" e' fun u l => b1 l fun a => Ae u && (zP a && (mE ns gs o u && mE ns gs e a))
 | .pop o e => fun e' => Ri "pop" e' fun u l => b1 l fun a => Ae u && (zP a && (mE ns gs o u && mE ns gs e a))
 | .join o e => fun e' => Ri "join" e' fun u l => b1 l fun a => RP u && (zP a && (mE ns gs o u && mE ns gs e a))
 | .get k d => fun e => Ri "get" e fun u l => uL u fun x _ => bc l fun a l => b1 l fun b => sE "PRIORITIES" x && (Hh gs x && (zP a && (zP b && (mE ns gs k a && mE ns gs d b))))
 | _ => fun _ => false
noncomputable def mL (ns gs : List Str) : E -> List Expr -> Bool
 | .nil => fun l => bn l
 | .cons x xs => fun l => bc l fun p ps => zP p && (mE ns gs x p && mL ns gs xs ps)
 | _ => fun _ => false
noncomputable def mO (ns gs : List Str) : E -> Option Expr -> Bool
 | .nil => fun o => bz o
 | .pt x => fun o => bs o fun p => mE ns gs x p
 | _ => fun _ => false
end
noncomputable def mI (ns : List Str) : List Nat -> List Expr -> Bool
 | [],l => bn l
 | i :: is,l => bc l fun p ps => uL p fun x _ => Fo ns i x && mI ns is ps
noncomputable def mS (ns gs : List Str) : S -> List Stmt -> Bool
 | .Ck _ r => fun ss => mS ns gs r ss
 | .drop r => fun ss => mS ns gs r ss
 | .done => fun ss => bn ss
 | .asg i e r => fun ss => bc ss fun st ss => Ba st fun ts v _ => b1 ts fun t => uL t fun x _ => Fo ns i x && (zP v && (mE ns gs e v && mS ns gs r ss))
 | .fV is e r => fun ss => bc ss fun st ss => Ba st fun ts v _ => b1 ts fun t => Vq t fun ts _ _ => mI ns is ts && (Wv v && (mE ns gs e v && mS ns gs r ss))
 | .aug i o e r => fun ss => bc ss fun st ss => Hp st fun t o' v _ => uL t fun x _ => Fo ns i x && (decide (o = o') && (mE ns gs e v && mS ns gs r ss))
 | .ret e => fun ss => b1 ss fun st => Xm st fun v _ => bs v fun v => mE ns gs e v
 | .ifs t a b r => fun ss => bc ss fun st ss => bIf st fun u l l' _ => mE ns gs t u && (mS ns gs a l && (mS ns gs b l' && mS ns gs r ss))
 | .whl t b r => fun ss => bc ss fun st ss => QZ st fun u l l' _ => bn l' && (mE ns gs t u && (mS ns gs b l && mS ns gs r ss))
 | .forR i e b r => fun ss => bc ss fun st ss => QX st fun t it l l' _ => uL t fun x _ => bn l' && (Vs it fun y us => b1 us fun u => Fo ns i x && (sE "range" y && (Hh gs y && (zP u && (mE ns gs e u && (mS ns gs b l && mS ns gs r ss))))))
 | .Gz i e e' b r => fun ss => bc ss fun st ss => QX st fun t it l l' _ => uL t fun x _ => bn l' && (Vs it fun y us => bc us fun u us => b1 us fun u' => Fo ns i x && (sE "range" y && (Hh gs y && (zP u && (zP u' && (mE ns gs e u && (mE ns gs e' u' && (mS ns gs b l && mS ns gs r ss))))))))
 | .QF i e b r => fun ss => bc ss fun st ss => QX st fun t it l l' _ => uL t fun x _ => bn l' && (Fo ns i x && (zP it && (mE ns gs e it && (mS ns gs b l && mS ns gs r ss))))
 | .forL i e b r => fun ss => bc ss fun st ss => QX st fun t it l l' _ => uL t fun x _ => bn l' && (Fo ns i x && (zP it && (mE ns gs e it && (mS ns gs b l && mS ns gs r ss))))
 | .expr e r => fun ss => bc ss fun st ss => RD st fun v _ => zP v && (mE ns gs e v && mS ns gs r ss)
 | .raise e => fun ss => b1 ss fun st => Vr st fun a b _ => bz b && (bs a fun a => Vs a fun x us => b1 us fun u => sE "SyntaxFault" x && (Hh gs x && (zP u && mE ns gs e u)))
 | .wJ e e' => fun ss => b1 ss fun st => Vr st fun a b _ => bz b && (bs a fun a => Vs a fun x us => bc us fun u us => b1 us fun u' => sE "LexFault" x && (Hh gs x && (zP u && (zP u' && (mE ns gs e u && mE ns gs e' u')))))
 | .QG o i e r => fun ss => bc ss fun st ss => Ba st fun ts v _ => b1 ts fun t => qL t fun u w _ => zP w && (zP v && (mE ns gs e v && (mE ns gs o u && (mE ns gs i w && mS ns gs r ss))))
 | .setC o lo hi e r => fun ss => bc ss fun st ss => Ba st fun ts v _ => b1 ts fun t => M9 t fun u a b => zP v && (mE ns gs e v && (mE ns gs o u && (mO ns gs lo a && (mO ns gs hi b && mS ns gs r ss))))
end Mine
section
set_option tactic.hygienic true
namespace Mine
variable {G : eX} {c : Cfg G} {A : Fn -> Addr} {X : Prop}
set_option genInjectivity false in
structure N5 (G : eX) (A : Fn -> Addr) : Type where
 g : ∀ f,GV G (Pr f) (.val (.ref (A f)))
 o : ∀ f,Xc G (A f)
 k : ∀ j,GV G (QD j) (Y4 j)
 len : GV G "len" (.val (.builtin "len"))
 abs : GV G "abs" (.val (.builtin "abs"))
 int : GV G "int" (.val (.type "int"))
 str : GV G "str" (.val (.type "str"))
 list : GV G "list" (.val (.type "list"))
 range : GV G "range" (.val (.type "range"))
 Z : Vl G
 zS : GV G "SyntaxFault" (.val (.ref Z.cS))
 zL : GV G "LexFault" (.val (.ref Z.cL))
 aP : Addr
 P : GV G "PRIORITIES" (.val (.ref aP))
 tab : ∃ t,Xe G aP t /\ ∀ x,x ∈ gQ -> t x = lG x
structure OkF (e : Expr) : Prop where
 p : zH e
 s : ∀ es env,starEach (e :: es) env = (false,eval e env) :: starEach es env
 m : ∀ o,behindInMarks o e = false
 w : ∀ t n env,swapsWith e t n env = pure false
 f : ∀ env v,foldedSetIterable e env v = pure v
theorem okF {e : Expr} (h : zP e = true) : OkF e := by
 cases e <;> first | (exact absurd h aJx) | (exact ⟨fun _ _ => rfl,fun _ _ => rfl,fun _ => rfl,fun _ _ _ => rfl,fun _ _ => rfl⟩)
theorem Rj {e : Expr} (h : zP e = true) : zH e := (okF h).p
theorem fY {e : Expr} {es : List Expr} {env : Env} (h : zP e = true) : starEach (e :: es) env = (false,eval e env) :: starEach es env := (okF h).s _ _
theorem Rk {e : Expr} {o : CmpOp} (h : zP e = true) : behindInMarks o e = false := (okF h).m _
theorem Bb {e : Expr} {t : Option Expr} {n : Nat} {env : Env} (h : zP e = true) : swapsWith e t n env = pure false := (okF h).w _ _ _
theorem Xn {e : Expr} {env : Env} (h : zP e = true) (v : Value) : foldedSetIterable e env v = pure v := (okF h).f _ _
theorem Vu {a b : Nat} (h : aOg a b = true) : b = a := (aLr h).symm
@[elab_as_elim] theorem aAh (e : Expr) {P : Expr -> Prop} (h : Wv e = true) (k : ∀ f l ks p,P (.Call f l ks p)) : P e := Expr.Call.elim (motive_1 := P) e (Vu h) k
@[elab_as_elim] theorem RQ (e : Expr) {P : Expr -> Prop} (h : Ae e = true) (k : ∀ x p,P (.Name x p)) : P e := Expr.Name.elim (motive_1 := P) e (Vu h) k
@[elab_as_elim] theorem aFz (e : Expr) {P : Expr -> Prop} (h : RP e = true) (k : ∀ v n p,P (.Constant v n p)) : P e := Expr.Constant.elim (motive_1 := P) e (Vu h) k
theorem Hq {e : Expr} {ts : List Expr} {k : Nat} {p : Pos} {n : Nat} {env : Env} (h : Wv e = true) : swapsWithSole [.Tuple ts k p] e n env = pure false /\ swappedStores [.Tuple ts k p] e env = pure none :=
 aAh e h fun _ _ _ _ => ⟨rfl,rfl⟩
theorem Nv {e : Expr} {x : Str} {env : Env} {w : Sem Value} (h : Ae e = true) : attributeBase e x env w = w := RQ e h fun _ _ => rfl
theorem RT {e : Expr} {x : Str} {env : Env} {w : Sem Value} (h : RP e = true) : attributeBase e x env w = w := aFz e h fun _ _ _ => rfl
theorem RV {e : Expr} (h : Ae e = true) : ∀ o r,letTemporaryGo e o r = pure () := RQ e h fun _ _ _ _ => rfl
theorem RW {e : Expr} {env : Env} {w : Sem Value} (h : d8 e = true) : isTrue e env w = (do let v <- w; standAt e.pos; holding [v] (truthy v)) := by
 cases e <;> first | (exact absurd h aJx) | (exact rfl)
theorem Lf : ∀ {xs : List V} {n f : Nat} {y : V},Ld xs n f = some y -> xs[n]? = some y /\ n <= f
 | x :: _,0,_,_,h => ⟨h,aKk _⟩
 | _ :: r,n + 1,f + 1,_,h => let ⟨a,b⟩ := Lf (xs := r) (n := n) (f := f) h; ⟨a,aLm b⟩
theorem N6 {value slice : Expr} {xs : List V} {n : Nat} {y : V} {ρ : eE} {σ : aW} {Q : KV} (h : xs[n]? = some y /\ n <= 1000) (q : Q y σ) (hs : zH slice) :
  WO c Rep (fun vs => subscriptTail value slice (vs.getD 0 .none) (vs.getD 1 .none)) [.tup xs,.int (.ofNat n)] ρ σ Q X :=
 J0 (aLq n) (aMk.mpr (aKl h.2 (by decide))) h.1 q hs
theorem Lg {α : Type} {xs : List V} {f : V -> V -> Option α} {v : α} (h : Pz xs f = some v) : Ex2 fun x y => xs = [x,y] /\ f x y = some v := by
 rcases xs with _ | ⟨x,_ | ⟨y,_ | _⟩⟩
 ·exact aK h
 ·exact aK h
 ·exact ⟨x,y,rfl,h⟩
 ·exact aK h
theorem Hr {α : Type} {x : V} {f : Int -> Option α} {v : α} (h : QH x f = some v) : ∃ a,x = .int a /\ f a = some v := by
 cases x <;> first | exact ⟨_,rfl,h⟩ | exact aK h
theorem Vv {α : Type} {x : V} {f : Str -> Option α} {v : α} (h : CJ x f = some v) : ∃ a,x = .str a /\ f a = some v := by
 cases x <;> first | exact ⟨_,rfl,h⟩ | exact aK h
theorem RX {α : Type} {x : V} {f : Option α} {v : α} (h : QJ x f = some v) : x = .none /\ f = some v := by
 cases x <;> first | exact ⟨rfl,h⟩ | exact aK h
theorem Nx {k : Option Bool} {f : Bool -> Bool} {v : V} (h : Az k f = some v) : ∃ b,k = some b /\ v = .bool (f b) := by
 cases k
 ·exact aK h
 ·exact ⟨_,rfl,(aJn h).symm⟩
theorem Ny {xs : List V} {f : Int -> Int -> Option V} {v : V} (h : Pz xs (fun x y => Ra x y f) = some v) : Ex2 fun a b => xs = [.int a,.int b] /\ f a b = some v := by
 obtain ⟨x,y,rfl,h⟩ := Lg h;obtain ⟨a,rfl,h⟩ := Hr h;obtain ⟨b,rfl,h⟩ := Hr h;exact ⟨a,b,rfl,h⟩
theorem RZ {xs : List V} {f : Str -> Str -> Option V} {v : V} (h : Pz xs (fun x y => vh x y f) = some v) : Ex2 fun a b => xs = [.str a,.str b] /\ f a b = some v := by
 obtain ⟨x,y,rfl,h⟩ := Lg h;obtain ⟨a,rfl,h⟩ := Vv h;obtain ⟨b,rfl,h⟩ := Vv h;exact ⟨a,b,rfl,h⟩
theorem aGa {o : CmpOp} {xs : List V} {v : V} (h : Pz xs (fun x y => match x with
  | .str a => CJ y fun b => eqs o a b
  | x => Ra x y fun a b => Az (Vc o a b) id) = some v) : (∃ a b,xs = [.str a,.str b] /\ eqs o a b = some v) \/ ∃ a b k,xs = [.int a,.int b] /\ Vc o a b = some k /\ v = .bool k := by
 obtain ⟨x,y,rfl,h⟩ := Lg h;cases x <;> first | (exact aK h; done) | skip
 ·obtain ⟨b,rfl,h⟩ := Hr (f := fun b => Az (Vc o _ b) id) h;obtain ⟨k,e,rfl⟩ := Nx h;exact .inr ⟨_,_,k,rfl,e,rfl⟩
 ·obtain ⟨b,rfl,h⟩ := Vv (f := fun b => eqs o _ b) h;exact .inl ⟨_,_,rfl,h⟩
theorem vm {o : M5} {xs : List V} {σ : aW} {Q : KV} (h : Ej c X o xs σ Q) : iU c X o xs σ Q := by
 have h : match opV o xs with
  | some v => Q v σ
  | none => iU c X o xs σ Q := h
 cases e : opV o xs with
 | none => rw [e] at h; exact h
 | some v =>
  rw [e] at h;have h : Q v σ := h;unfold iU;intro ρ t ht;cases ht with
  | bin o =>
   cases o <;> first | (exact aK e; done) | skip
   ·obtain ⟨a,b,rfl,e⟩ := Ny e; obtain rfl := aJn e; exact qy h
   ·obtain ⟨a,b,rfl,e⟩ := Ny e; obtain rfl := aJn e; exact qz h
  | Y5 o =>
   cases o <;> first | (exact aK e; done) | skip
   ·obtain ⟨a,b,rfl,e⟩ := Ny e; obtain rfl := aJn e; exact I7 h
   ·obtain ⟨a,b,rfl,e⟩ := Ny e; obtain rfl := aJn e; exact I8 h
  | cmp o =>
   have I : ∀ {o},Pz xs (fun x y => match x with
     | .str a => CJ y fun b => eqs o a b
     | x => Ra x y fun a b => Az (Vc o a b) id) = some v -> (∀ a b,eqs o a b = some v -> WO c Rep (fun vs => compareOp o (vs.getD 0 .none) (vs.getD 1 .none)) [.str a,.str b] ρ σ Q X) -> WO c Rep (fun vs => compareOp o (vs.getD 0 .none) (vs.getD 1 .none)) xs ρ σ Q X := fun e k => by
    rcases aGa e with ⟨a,b,rfl,e2⟩ | ⟨a,b,k,rfl,e2,rfl⟩
    ·exact k a b e2
    ·exact qx e2 h
   cases o
   case Is => obtain ⟨x,y,rfl,e1⟩ := Lg e; obtain ⟨rfl,e2⟩ := RX e1; obtain ⟨k,e3,rfl⟩ := Nx e2; exact MJ e3 h
   case IsNot => obtain ⟨x,y,rfl,e1⟩ := Lg e; obtain ⟨rfl,e2⟩ := RX e1; obtain ⟨k,e3,rfl⟩ := Nx e2; exact Qn e3 h
   case In => obtain ⟨a,b,rfl,e⟩ := RZ e; obtain rfl := aJn e; exact aFh h
   case NotIn => obtain ⟨a,b,rfl,e⟩ := RZ e; obtain rfl := aJn e; exact NZ h
   case Eq => exact I e fun a b e => by obtain rfl := aJn e; exact aFc h
   case NotEq => exact I e fun a b e => by obtain rfl := aJn e; exact aFd h
   all_goals exact I e fun a b e => nomatch e
  | neg =>
   rcases xs with _ | ⟨x,_ | _⟩ <;> first | (exact aK e; done) | skip
   obtain ⟨a,rfl,e⟩ := Hr (f := fun a => some (V.int (-a))) e;obtain rfl := aJn e; exact rz h
  | len | abs | int | str | list => exact aK e
  | item value slice hp =>
   obtain ⟨x,y,rfl,e⟩ := Lg e;cases x <;> first | (exact aK e; done) | skip
   case tup ys _ _ =>
   obtain ⟨i,rfl,e1⟩ := Hr (f := fun i => match i with
    | .ofNat n => Ld ys n 1000
    | _ => none) e
   cases i
   ·exact N6 (Lf e1) h hp
   ·exact aK e1
theorem tM {o : M5} {t : List Value -> Sem Value} {xs : List V} {σ : aW} {Q : KV} {ρ : eE} (h : Ej c X o xs σ Q) (ht : CG o t) : WO c Rep t xs ρ σ Q X := by
 have := vm h;unfold iU at this;exact this _ _ ht
theorem Nz {α : Type} {P : Prop} : ∀ {l : List α} {n : Nat},fj l n P -> l.length <= n /\ P
 | [],_,h => ⟨aKk _,h⟩
 | _ :: _,0,h => h.elim
 | _ :: r,n + 1,h => let ⟨a,b⟩ := Nz (l := r) (n := n) h; ⟨aLm a,b⟩
theorem Hs {α : Type} {P : Prop} {l : List α} (h : fj l 30 P) : l.length <= sizeLine /\ P :=
 ⟨aJw (Nz h).1 (by rw [sizeLine_eq]; decide),(Nz h).2⟩
theorem JD.mono {es : List Expr} {ρ : eE} {σ : aW} {Q bT : List V -> aW -> Prop} {lU : Prop} (h : JD c es ρ σ Q X) (hQ : ∀ b σ',Q b σ' -> bT b σ') (hX : X -> lU) : JD c es ρ σ bT lU :=
 fun p s S => (h p s S).mono hQ hX
theorem Oa {K : Bool -> aW -> Prop} {v : V} {σ : aW} (h : rA K v σ) : ∃ k,LC v = some k /\ K k σ := by
 unfold rA at h;split at h
 ·exact ⟨_,by assumption,h⟩
 ·exact h.elim
theorem rY {b : Bool} {P Q : Prop} (h : Jw b P Q) : if b = true then P else Q := by
 cases b
 ·exact h
 ·exact h
theorem aGb {K : Option Int -> aW -> Prop} {v : V} {σ : aW} (h : kO K v σ) : ∃ i,v = .int i /\ K (some i) σ := by
 unfold kO at h;split at h
 ·exact ⟨_,rfl,h⟩
 ·exact h.elim
section
variable {ns gs : List Str} (N : N5 G A) (hg : c.gn = gs)
theorem qM {a b : Bool} (h : (a && b) = true) : a = true /\ b = true := aKv.mp h
theorem aGc {a b d : Bool} (h : (a && b && d) = true) : a = true /\ b = true /\ d = true := ⟨(qM (qM h).1).1,(qM (qM h).1).2,(qM h).2⟩
end
theorem iU.mono {o : M5} {xs : List V} {σ : aW} {Q bT : KV} (h : iU c X o xs σ Q) (hQ : ∀ v σ,Q v σ -> bT v σ) : iU c X o xs σ bT := by
 unfold iU at h ⊢;exact fun ρ t ht s S vs R => (h ρ t ht s S vs R).mono hQ id
theorem oY {o : M5} {xs : List V} {σ : aW} {Q bT : KV} (hQ : ∀ v σ,Q v σ -> bT v σ) (h : Ej c X o xs σ Q) : Ej c X o xs σ bT := by
 unfold Ej at h ⊢;split at h
 ·exact hQ _ _ h
 ·exact h.mono hQ
theorem aR.Z0 {fv : Value} {xs : List V} {σ : aW} {Q bT : KV} (hQ : ∀ b σ',Q b σ' -> bT b σ') (h : aR c fv xs σ Q X) : aR c fv xs σ bT X := h.mono hQ id
theorem nP {K aHj : Bool -> aW -> Prop} (h : ∀ b σ,K b σ -> aHj b σ) : ∀ v σ,rA K v σ -> rA aHj v σ := fun v σ q => by
 unfold rA at q ⊢;split at q
 ·exact h _ _ q
 ·exact q
theorem gH {b : Bool} {P Q j6 bT : Prop} (h1 : P -> j6) (h2 : Q -> bT) (h : Jw b P Q) : Jw b j6 bT := by
 cases b
 ·exact h2 h
 ·exact h1 h
theorem Ht {α : Type} {P j6 : Prop} (h : P -> j6) : ∀ {l : List α} {n : Nat},fj l n P -> fj l n j6
 | [],_,q => h q
 | _ :: _,0,q => q.elim
 | _ :: r,n + 1,q => Ht h (l := r) (n := n) q
noncomputable def N7 (c : Cfg G) (A : Fn -> Addr) (X : Prop) (e : E) : Prop :=
 (∀ ρ σ Q bT,(∀ v σ,Q v σ -> bT v σ) -> vE c A X e ρ σ Q -> vE c A X e ρ σ bT) /\ (∀ ρ σ Q bT,(∀ v σ,Q v σ -> bT v σ) -> vL c A X e ρ σ Q -> vL c A X e ρ σ bT) /\
 (∀ ρ σ Q bT,(∀ v σ,Q v σ -> bT v σ) -> vO c A X e ρ σ Q -> vO c A X e ρ σ bT)
theorem Hu (e : E) : N7 c A X e := by
 induction e with
 | v i => exact ⟨fun ρ σ Q bT h q => by
   show kV _ _ _;have q : kV _ _ _ := q;unfold kV at q ⊢;split at q
   ·exact h _ _ q
   ·exact q,fun _ _ _ _ _ q => q.elim,fun _ _ _ _ _ q => q.elim⟩
 | k | i | s | b | none | fn => exact ⟨fun ρ σ Q bT h q => h _ _ q,fun _ _ _ _ _ q => q.elim,fun _ _ _ _ _ q => q.elim⟩
 | bin o x y hx hy | cmp o x y hx hy | sub x y hx hy => exact ⟨fun ρ σ Q bT h q => hx.1 _ _ _ _ (fun a σ q => hy.1 _ _ _ _ (fun b σ q => oY h q) q) q,fun _ _ _ _ _ q => q.elim,fun _ _ _ _ _ q => q.elim⟩
 | neg x hx | bf f x hx => exact ⟨fun ρ σ Q bT h q => hx.1 _ _ _ _ (fun a σ q => oY h q) q,fun _ _ _ _ _ q => q.elim,fun _ _ _ _ _ q => q.elim⟩
 | not x hx => exact ⟨fun ρ σ Q bT h q => hx.1 _ _ _ _ (nP fun b σ q => h _ _ q) q,fun _ _ _ _ _ q => q.elim,fun _ _ _ _ _ q => q.elim⟩
 | and x y hx hy => exact ⟨fun ρ σ Q bT h q => hx.1 _ _ _ _ (fun v σ q => by
   unfold CK at q ⊢;split at q
   ·exact gH (hy.1 _ _ _ _ h) (h _ _) q
   ·exact q) q,fun _ _ _ _ _ q => q.elim,fun _ _ _ _ _ q => q.elim⟩
 | or x y hx hy => exact ⟨fun ρ σ Q bT h q => hx.1 _ _ _ _ (fun v σ q => by
   unfold kOr at q ⊢;split at q
   ·exact gH (h _ _) (hy.1 _ _ _ _ h) q
   ·exact q) q,fun _ _ _ _ _ q => q.elim,fun _ _ _ _ _ q => q.elim⟩
 | Ju t x y ht hx hy => exact ⟨fun ρ σ Q bT h q => ht.1 _ _ _ _ (nP fun b σ q => gH (hx.1 _ _ _ _ h) (hy.1 _ _ _ _ h) q) q,fun _ _ _ _ _ q => q.elim,fun _ _ _ _ _ q => q.elim⟩
 | tup es h | lst es h => exact ⟨fun ρ σ Q bT hq q => h.2.1 _ _ _ _ (fun vs σ q => Ht (hq _ _) q) q,fun _ _ _ _ _ q => q.elim,fun _ _ _ _ _ q => q.elim⟩
 | pU es h => exact ⟨fun ρ σ Q bT hq q => h.2.1 _ _ _ _ (fun vs σ q => Ht (fun q a ha => hq _ _ (q a ha)) q) q,fun _ _ _ _ _ q => q.elim,fun _ _ _ _ _ q => q.elim⟩
 | eG x l u hx hl hu => exact ⟨fun ρ σ Q bT h q => hx.1 _ _ _ _ (fun a σ q => hl.2.2 _ _ _ _ (fun l σ q => hu.2.2 _ _ _ _ (fun u σ q => let ⟨xs,a,b,q⟩ := Dd.mp q; Hg xs a b (h _ _ q)) q) q) q,fun _ _ _ _ _ q => q.elim,fun _ _ _ _ _ q => q.elim⟩
 | mX x l u hx hl hu => exact ⟨fun ρ σ Q bT h q => hx.1 _ _ _ _ (fun a σ q => hl.2.2 _ _ _ _ (fun l σ q => hu.2.2 _ _ _ _ (fun u σ q => by
   unfold Xi at q ⊢;split at q
   ·exact ⟨q.1,h _ _ q.2⟩
   ·exact q) q) q) q,fun _ _ _ _ _ q => q.elim,fun _ _ _ _ _ q => q.elim⟩
 | call f es h => exact ⟨fun ρ σ Q bT hq q => h.2.1 _ _ _ _ (fun vs σ q => aR.Z0 hq q) q,fun _ _ _ _ _ q => q.elim,fun _ _ _ _ _ q => q.elim⟩
 | Qz x i es hx hi h => exact ⟨fun ρ σ Q bT hq q => hx.1 _ _ _ _ (fun a σ q => hi.1 _ _ _ _ (fun b σ q => oY (fun v σ q => let ⟨g,e,q⟩ := q; ⟨g,e,h.2.1 _ _ _ _ (fun vs σ q => aR.Z0 hq q) q⟩) q) q) q,fun _ _ _ _ _ q => q.elim,fun _ _ _ _ _ q => q.elim⟩
 | app o e ho he => exact ⟨fun ρ σ Q bT h q => ho.1 _ _ _ _ (fun x σ q => let ⟨a,e,y,q⟩ := q; ⟨a,e,y,he.1 _ _ _ _ (fun v σ q => let ⟨xs,e,l,q⟩ := q; ⟨xs,e,l,h _ _ q⟩) q⟩) q,fun _ _ _ _ _ q => q.elim,fun _ _ _ _ _ q => q.elim⟩
 | pop o e ho he => exact ⟨fun ρ σ Q bT h q => ho.1 _ _ _ _ (fun x σ q => let ⟨a,e,y,q⟩ := q; ⟨a,e,y,he.1 _ _ _ _ (fun v σ q => let ⟨z,y,xs,e,l,q⟩ := q; ⟨z,y,xs,e,l,h _ _ q⟩) q⟩) q,fun _ _ _ _ _ q => q.elim,fun _ _ _ _ _ q => q.elim⟩
 | join o e ho he => exact ⟨fun ρ σ Q bT h q => ho.1 _ _ _ _ (fun x σ q => let ⟨a,e,q⟩ := q; ⟨a,e,he.1 _ _ _ _ (fun v σ q => let ⟨ys,y,l,q⟩ := q; ⟨ys,y,l,h _ _ q⟩) q⟩) q,fun _ _ _ _ _ q => q.elim,fun _ _ _ _ _ q => q.elim⟩
 | get k d hk hd => exact ⟨fun ρ σ Q bT h q => hk.1 _ _ _ _ (fun v σ q => let ⟨x,e,m,q⟩ := q; ⟨x,e,m,hd.1 _ _ _ _ (fun v σ q => let ⟨i,e,q⟩ := q; ⟨i,e,h _ _ q⟩) q⟩) q,fun _ _ _ _ _ q => q.elim,fun _ _ _ _ _ q => q.elim⟩
 | nil => exact ⟨fun _ _ _ _ _ q => q.elim,fun _ _ _ _ h q => h _ _ q,fun _ _ _ _ h q => h _ _ q⟩
 | cons x xs hx hxs => exact ⟨fun _ _ _ _ _ q => q.elim,fun _ _ _ _ h q => hx.1 _ _ _ _ (fun a σ q => hxs.2.1 _ _ _ _ (fun vs σ q => h _ _ q) q) q,fun _ _ _ _ _ q => q.elim⟩
 | pt x hx => exact ⟨fun _ _ _ _ _ q => q.elim,fun _ _ _ _ _ q => q.elim,fun _ _ _ _ h q => hx.1 _ _ _ _ (fun v σ q => by
   unfold kO at q ⊢;split at q
   ·exact h _ _ q
   ·exact q) q⟩
theorem cW {e : E} {ρ : En} {σ : aW} {Q bT : KV} (h : ∀ v σ,Q v σ -> bT v σ) (q : vE c A X e ρ σ Q) : vE c A X e ρ σ bT := (Hu e).1 _ _ _ _ h q
end Mine
end
section
set_option tactic.hygienic true
namespace Mine
variable {G : eX} {c : Cfg G} {A : Fn -> Addr} {X : Prop}
structure Hv (c : Cfg G) (A : Fn -> Addr) (X : Prop) (ns gs : List Str) (e : E) : Prop where
 E : ∀ {pe ρ σ Q},mE ns gs e pe = true -> vE c A X e ρ σ Q -> WE c pe (zl ns ρ) σ Q X
 B : ∀ {pe ρ σ K},mE ns gs e pe = true -> vE c A X e ρ σ (rA K) -> WB c pe (zl ns ρ) σ K X
 L : ∀ {pe ρ σ Q},mL ns gs e pe = true -> vL c A X e ρ σ Q -> JD c pe (zl ns ρ) σ Q X
 O : ∀ {pe ρ σ Q},mO ns gs e pe = true -> vO c A X e ρ σ Q -> NQ c pe (zl ns ρ) σ Q X
theorem gZ {ns gs : List Str} {e : E} (H : ∀ {pe ρ σ Q},mE ns gs e pe = true -> vE c A X e ρ σ Q -> WE c pe (zl ns ρ) σ Q X /\ d8 pe = true) (hL : ∀ ρ σ Q, ¬ vL c A X e ρ σ Q) (hO : ∀ ρ σ Q, ¬ vO c A X e ρ σ Q) : Hv c A X ns gs e :=
 ⟨fun h q => (H h q).1,fun h q => Qo ((H h q).1.mono (fun v σ q => Oa q) id) (RW (H h q).2),fun _ q => absurd q (hL _ _ _),fun _ q => absurd q (hO _ _ _)⟩
theorem Dg {ns gs : List Str} {e : E} (hE : ∀ {pe ρ σ Q},mE ns gs e pe = true -> vE c A X e ρ σ Q -> WE c pe (zl ns ρ) σ Q X) (hB : ∀ {pe ρ σ K},mE ns gs e pe = true -> vE c A X e ρ σ (rA K) -> WB c pe (zl ns ρ) σ K X)
  (hL : ∀ ρ σ Q, ¬ vL c A X e ρ σ Q) (hO : ∀ ρ σ Q, ¬ vO c A X e ρ σ Q) : Hv c A X ns gs e := ⟨hE,hB,fun _ q => absurd q (hL _ _ _),fun _ q => absurd q (hO _ _ _)⟩
theorem Z1 {x : Option V} {σ : aW} {Q : KV} (h : kV x σ Q) : ∃ v,x = some v /\ Q v σ := by
 cases x
 ·exact h.elim
 ·exact ⟨_,rfl,h⟩
theorem SJ {x : V} {lo hi : Option Int} {σ : aW} {Q : KV} (h : Xi x lo hi σ Q) : ∃ t : Str,x = .str t /\ t.length <= sizeLine /\ Q (.str ⟨(eG t.cps.toList lo hi).toArray⟩) σ := by
 unfold Xi at h;split at h
 ·exact ⟨_,rfl,h⟩
 ·exact h.elim
theorem SM {f : En -> aW -> KV -> Prop} {ρ : En} {Q : KV} {v : V} {σ : aW} {P : Prop} (hP : f ρ σ Q -> P) (h : CK f ρ Q v σ) : ∃ k,LC v = some k /\ if k = true then P else Q v σ := by
 unfold CK at h;split at h
 ·rename_i b;refine ⟨b,rfl,?_⟩;cases b
  ·exact h
  ·exact hP h
 ·exact h.elim
theorem Z2 {f : En -> aW -> KV -> Prop} {ρ : En} {Q : KV} {v : V} {σ : aW} {P : Prop} (hP : f ρ σ Q -> P) (h : kOr f ρ Q v σ) : ∃ k,LC v = some k /\ if k = true then Q v σ else P := by
 unfold kOr at h;split at h
 ·rename_i b;refine ⟨b,rfl,?_⟩;cases b
  ·exact hP h
  ·exact h
 ·exact h.elim
theorem Xo {f : En -> aW -> KV -> Prop} {ρ : En} {K : Bool -> aW -> Prop} {v : V} {σ : aW} (h : CK f ρ (rA K) v σ) : rA (fun b σ => Jw b (f ρ σ (rA K)) (K false σ)) v σ := by
 unfold CK at h;split at h
 ·exact h
 ·exact h.elim
theorem SN {f : En -> aW -> KV -> Prop} {ρ : En} {K : Bool -> aW -> Prop} {v : V} {σ : aW} (h : kOr f ρ (rA K) v σ) : rA (fun b σ => Jw b (K true σ) (f ρ σ (rA K))) v σ := by
 unfold kOr at h;split at h
 ·exact h
 ·exact h.elim
theorem tO {e : Option Expr} {ρ : eE} {σ : aW} {Q bT : Option Int -> aW -> Prop} (h : NQ c e ρ σ Q X) (hQ : ∀ v σ,Q v σ -> bT v σ) : NQ c e ρ σ bT X := by
 cases e with
 | none => exact hQ _ _ h
 | some e => exact WE.mono h (fun v σ ⟨i,e,q⟩ => ⟨i,e,hQ _ _ q⟩) id
theorem aGd {t a b : Expr} {pos : Pos} {ρ : eE} {σ : aW} {K : Bool -> aW -> Prop} (h : WB c t ρ σ (fun k aG => if k then WB c a ρ aG K X else WB c b ρ aG K X) X) : WB c (.IfExp t a b pos) ρ σ K X := fun s S Q' E' hQ hE => by
 show wpAny _ _ (do if <- isTrue t c.env (eval t c.env) then isTrue a c.env (eval a c.env) else isTrue b c.env (eval b c.env)) _ _ _;refine wpAny_bind (h s S _ _ (fun k k' aQ aG bC bO bQ bF => ?_) hE);subst bQ;cases k
 ·exact bF aQ bC Q' E' (fun d z cN bK dF dB => hQ d z cN bK dF (bO.trans dB)) hE
 ·exact bF aQ bC Q' E' (fun d z cN bK dF dB => hQ d z cN bK dF (bO.trans dB)) hE
theorem Fp {M : Model} {A : Around} {E : Value -> Shared -> Prop} {s : Shared} {env : Env} {v sl : Expr} {p pos : Pos} {args : List Expr} {Q : Value -> Shared -> Prop}
  (h : wpAny M A (eval (.Subscript v sl p) env) (fun f aQ => wpAny M A (callWith pos f [] (backTo pos (starEach args env)) []) Q E aQ) E s) :
  wpAny M A (eval (.Call (.Subscript v sl p) args [] pos) env) Q E s := by
 show wpAny M A (do callWith pos (<- eval (.Subscript v sl p) env) [] (backTo pos (starEach args env)) (backToKw pos (keywordEach [] env))) Q E s;exact wpAny_bind h
theorem CP {v sl : Expr} {p pos : Pos} {e : Expr} {es : List Expr} {ρ : eE} {σ : aW} {Q : KV}
  (h : WE c (.Subscript v sl p) ρ σ (fun f vY => ∃ fa,Xc G fa /\ f = .val (.ref fa) /\ JD c (e :: es) ρ vY (fun xs aG => aR c (.ref fa) xs aG Q X) X) X)
  (he : starEach (e :: es) c.env = (false,eval e c.env) :: starEach es c.env) : WE c (.Call (.Subscript v sl p) (e :: es) [] pos) ρ σ Q X := fun s S Q' E' hQ hE => by
 refine Fp (h s S _ _ (fun a x aQ aG bC bO bQ bF => ?_) hE);obtain ⟨fa,⟨o,fd,ho,hd⟩,rfl,bF⟩ := bF;obtain rfl := bQ.val_inv;refine Calls.callWith_function (o := o) (fd := fd) ?_;have h' := bF pos aQ bC;rw [he] at h' ⊢;refine Calls.evalArgs_plain (h' _ _ (fun vs xs cV bN dY dO gB dK => ?_) hE);exact ⟨⟨dY.h0 _ _ ho,hd⟩,dK _ cV dY vs gB Q' E' (fun d z cN bK dF dB => hQ d z cN bK dF ((bO.trans dO).trans dB)) hE⟩
theorem SQ {op : BoolOp} {es : List Expr} {p : Pos} {ρ : eE} {σ : aW} {K : Bool -> aW -> Prop} (h : WB c (.BoolOp op es p) ρ σ K X) : X6 c op es ρ σ K X := fun pos cP s S => h s S
section
variable {ns gs : List Str} (N : N5 G A) (hg : c.gn = gs)
include N hg
theorem CQ (e : E) : Hv c A X ns gs e := by
 induction e with
 | v i => exact gZ (fun {pe ρ σ Q} h q => let ⟨v,e,q⟩ := Z1 q; lK pe h fun x p h => ⟨KY (Vp h e) q,rfl⟩) (fun _ _ _ q => q) (fun _ _ _ q => q)
 | k j => exact gZ (fun {pe ρ σ Q} h q => lK pe h fun x p h => ak h fun h1 h2 => ⟨jJ (hg ▸ lA h2) (pK h1 ▸ N.k j) q,rfl⟩) (fun _ _ _ q => q) (fun _ _ _ q => q)
 | fn j => exact gZ (fun {pe ρ σ Q} h q => lK pe h fun x p h => ak h fun h1 h2 => ⟨jJ (hg ▸ lA h2) (pK h1 ▸ N.g j) q,rfl⟩) (fun _ _ _ q => q) (fun _ _ _ q => q)
 | i n => exact gZ (fun {pe ρ σ Q} h q => rW pe h fun v k p h => M6 v h fun m h => ⟨of_decide_eq_true h ▸ qt q,rfl⟩) (fun _ _ _ q => q) (fun _ _ _ q => q)
 | s x => exact gZ (fun {pe ρ σ Q} h q => rW pe h fun v k p h => M7 v h fun m h => ⟨pK h ▸ qu q,rfl⟩) (fun _ _ _ q => q) (fun _ _ _ q => q)
 | b x => exact gZ (fun {pe ρ σ Q} h q => rW pe h fun v k p h => RN v h fun m h => ⟨of_decide_eq_true h ▸ I3 q,rfl⟩) (fun _ _ _ q => q) (fun _ _ _ q => q)
 | none => exact gZ (fun {pe ρ σ Q} h q => rW pe h fun v k p h => RL v h fun _ => ⟨I4 q,rfl⟩) (fun _ _ _ q => q) (fun _ _ _ q => q)
 | bin o x y hx hy => exact gZ (fun {pe ρ σ Q} h q => QM pe h fun l o' r p h => ak h fun h1 h => ak h fun h2 h3 => ⟨KZ ((hx.E h2 q).mono (fun a σ q => (hy.E h3 q).mono (fun b σ q => tM (of_decide_eq_true h1 ▸ q) (.bin _)) id) id),rfl⟩) (fun _ _ _ q => q) (fun _ _ _ q => q)
 | cmp o x y hx hy =>
  refine Dg (fun {pe ρ σ Q} h q => Hj pe h fun l os rs p h => tE os h fun o' h => ak h fun h0 h => tE rs h fun r h => ak h fun hr h => ak h fun h2 h3 => ?_)
   (fun {pe ρ σ K} h q => Hj pe h fun l os rs p h => tE os h fun o' h => ak h fun h0 h => tE rs h fun r h => ak h fun hr h => ak h fun h2 h3 => ?_) (fun _ _ _ q => q) (fun _ _ _ q => q)
  ·exact Va ((hx.E h2 q).mono (fun a σ q => (hy.E h3 q).mono (fun b σ q => tM (of_decide_eq_true h0 ▸ q) (.cmp _)) id) id) (Rk hr)
  ·exact Vd ((hx.E h2 q).mono (fun a σ q => (hy.E h3 q).mono (fun b σ q => tM (oY (fun _ _ q => Oa q) (of_decide_eq_true h0 ▸ q)) (.cmp _)) id) id) (Rk hr)
 | neg x hx =>
  exact Dg (fun {pe ρ σ Q} h q => uZ pe h fun o l p h => ak h fun h0 h => ek o h0 (Gm ((hx.E h q).mono (fun a σ q => tM q .neg) id)))
   (fun {pe ρ σ K} h q => uZ pe h fun o l p h => ak h fun h0 h => ek o h0 (Qo (Gm ((hx.E h q).mono (fun a σ q => tM (oY (fun _ _ q => Oa q) q) .neg) id)) rfl)) (fun _ _ _ q => q) (fun _ _ _ q => q)
 | not x hx =>
  exact Dg (fun {pe ρ σ Q} h q => uZ pe h fun o l p h => ak h fun h0 h => ek o h0 (sy ((hx.E h q).mono (fun a σ q => Oa q) id)))
   (fun {pe ρ σ K} h q => uZ pe h fun o l p h => ak h fun h0 h => ek o h0 (su (hx.B h q))) (fun _ _ _ q => q) (fun _ _ _ q => q)
 | and x y hx hy =>
  refine Dg (fun {pe ρ σ Q} h q => xZ pe h fun o es p h => ak h fun h0 h => ek o h0 (mQ es h fun l es h => ak h fun h1 h => mQ es h fun r u h => ?_))
   (fun {pe ρ σ K} h q => xZ pe h fun o es p h => ak h fun h0 h => ek o h0 (mQ es h fun l es h => ak h fun h1 h => mQ es h fun r u h => ?_)) (fun _ _ _ q => q) (fun _ _ _ q => q)
  ·cases u
   ·exact MN ((hx.E h1 q).mono (fun v σ q => SM (fun q => MK (hy.E h q)) q) id)
   ·exact MN ((hx.E h1 q).mono (fun v σ q => SM (fun q => hy.E h q) q) id)
  ·cases u
   ·exact xT (Nb ((hx.B h1 (cW (fun v σ q => Xo q) q)).mono (fun b σ q => rY (gH (fun q => Nb ((hy.B h q).mono (fun b σ q => by cases b; exact q; exact Qp q) id)) id q)) id))
   ·exact xT (Nb ((hx.B h1 (cW (fun v σ q => Xo q) q)).mono (fun b σ q => rY (gH (fun q => SQ (hy.B h q)) id q)) id))
 | or x y hx hy =>
  refine Dg (fun {pe ρ σ Q} h q => xZ pe h fun o es p h => ak h fun h0 h => ek o h0 (mQ es h fun l es h => ak h fun h1 h => mQ es h fun r u h => ?_))
   (fun {pe ρ σ K} h q => xZ pe h fun o es p h => ak h fun h0 h => ek o h0 (mQ es h fun l es h => ak h fun h1 h => mQ es h fun r u h => ?_)) (fun _ _ _ q => q) (fun _ _ _ q => q)
  ·cases u
   ·exact X7 ((hx.E h1 q).mono (fun v σ q => Z2 (fun q => MK (hy.E h q)) q) id)
   ·exact X7 ((hx.E h1 q).mono (fun v σ q => Z2 (fun q => hy.E h q) q) id)
  ·cases u
   ·exact xT (Vf ((hx.B h1 (cW (fun v σ q => SN q) q)).mono (fun b σ q => rY (gH id (fun q => Vf ((hy.B h q).mono (fun b σ q => by cases b; exact Ve q; exact q) id)) q)) id))
   ·exact xT (Vf ((hx.B h1 (cW (fun v σ q => SN q) q)).mono (fun b σ q => rY (gH id (fun q => SQ (hy.B h q)) q)) id))
 | Ju t x y ht hx hy =>
  exact Dg (fun {pe ρ σ Q} h q => Rd pe h fun u l r p h => ak h fun h1 h => ak h fun h2 h3 => aFe ((ht.B h1 q).mono (fun b σ q => rY (gH (hx.E h2) (hy.E h3) q)) id))
   (fun {pe ρ σ Q} h q => Rd pe h fun u l r p h => ak h fun h1 h => ak h fun h2 h3 => aGd ((ht.B h1 q).mono (fun b σ q => rY (gH (hx.B h2) (hy.B h3) q)) id)) (fun _ _ _ q => q) (fun _ _ _ q => q)
 | tup es h1 => exact gZ (fun {pe ρ σ Q} h q => Rf pe h fun l k p h => ⟨MP ((h1.L h q).mono (fun vs σ q => Hs q) id),rfl⟩) (fun _ _ _ q => q) (fun _ _ _ q => q)
 | lst es h1 => exact gZ (fun {pe ρ σ Q} h q => Xk pe h fun l p h => ⟨I9 ((h1.L h q).mono (fun vs σ q => Hs q) id),rfl⟩) (fun _ _ _ q => q) (fun _ _ _ q => q)
 | pU es h1 => exact gZ (fun {pe ρ σ Q} h q => Xk pe h fun l p h => ⟨NK ((h1.L h q).mono (fun vs σ q => Hs q) id),rfl⟩) (fun _ _ _ q => q) (fun _ _ _ q => q)
 | sub x y hx hy => exact gZ (fun {pe ρ σ Q} h q => pW pe h fun l r p h => ak h fun h1 h => ak h fun h2 h3 => ⟨NP ((hx.E h2 q).mono (fun a σ q => (hy.E h3 q).mono (fun b σ q => tM q (.item _ _ (Rj h1))) id) id),rfl⟩) (fun _ _ _ q => q) (fun _ _ _ q => q)
 | eG x l u hx hl hu => exact gZ (fun {pe ρ σ Q} h q => Vt pe h fun v a b p p' h => ak h fun hn h => ak h fun h1 h => ak h fun h2 h3 => ⟨J6 ((hx.E h1 q).mono (fun a σ q => tO (hl.O h2 q) fun l σ q => tO (hu.O h3 q) fun u σ q => Dd.mp q) id) (RV hn),rfl⟩) (fun _ _ _ q => q) (fun _ _ _ q => q)
 | mX x l u hx hl hu => exact gZ (fun {pe ρ σ Q} h q => Vt pe h fun v a b p p' h => ak h fun hn h => ak h fun h1 h => ak h fun h2 h3 => ⟨J7 ((hx.E h1 q).mono (fun a σ q => tO (hl.O h2 q) fun l σ q => tO (hu.O h3 q) fun u σ q => SJ q) id) (RV hn),rfl⟩) (fun _ _ _ q => q) (fun _ _ _ q => q)
 | call f es h1 => exact gZ (fun {pe ρ σ Q} h q => Df pe h fun x l p p' h => mQ l h fun a l h => ak h fun h2 h => ak h fun h3 h => ak h fun h5 h4 =>
   ⟨I6 (hg ▸ lA h3) (pK h2 ▸ N.g f) (N.o f) ((h1.L h4 q).mono (fun vs σ q => q) id) (fY h5),rfl⟩) (fun _ _ _ q => q) (fun _ _ _ q => q)
 | Qz x i es hx hi h1 => exact gZ (fun {pe ρ σ Q} h q => Nq pe h fun g l ks p h => ak h fun h0 h => Fe ks h0 (pW g h fun u v p' h =>
   mQ l h fun a l h => ak h fun h2 h => ak h fun h6 h => ak h fun h3 h => ak h fun h4 h5 =>
   ⟨CP (NP ((hx.E h3 q).mono (fun a σ q => (hi.E h4 q).mono (fun b σ q => tM (oY (fun v σ q => let ⟨g,e,q⟩ := q; ⟨_,N.o g,e,h1.L h5 q⟩) q) (.item _ _ (Rj h2))) id) id)) (fY h6),rfl⟩)) (fun _ _ _ q => q) (fun _ _ _ q => q)
 | bf f x hx => exact gZ (fun {pe ρ σ Q} h q => Df pe h fun y l p p' h => tE l h fun a h => ak h fun h2 h => ak h fun h3 h => ak h fun h5 h4 => by
   have hk := lA h3;rw [<- hg, <- pK h2] at hk;rw [<- pK h2];refine ⟨?_,rfl⟩;cases f
   ·exact Qt hk N.len ((hx.E h4 q).mono (fun a σ q => tM q .len) id) (fY h5)
   ·exact Qt hk N.abs ((hx.E h4 q).mono (fun a σ q => tM q .abs) id) (fY h5)
   ·exact Gq hk N.int ((hx.E h4 q).mono (fun a σ q => tM q .int) id) (fY h5)
   ·exact Gq hk N.str ((hx.E h4 q).mono (fun a σ q => tM q .str) id) (fY h5)
   ·exact Gq hk N.list ((hx.E h4 q).mono (fun a σ q => tM q .list) id) (fY h5)) (fun _ _ _ q => q) (fun _ _ _ q => q)
 | app o e ho he => exact gZ (fun {pe ρ σ Q} h q => Ge pe h fun u l p p' h2 h => tE l h fun a h => ak h fun h3 h => ak h fun h4 h => ak h fun h5 h6 =>
   ⟨Zo ((ho.E h5 q).mono (fun x σ q => let ⟨a,e1,y,q⟩ := q; ⟨a,e1,y,(he.E h6 q).mono (fun _ _ q => q) id⟩) id) (Nv h3) (fY h4) h2,rfl⟩) (fun _ _ _ q => q) (fun _ _ _ q => q)
 | pop o e ho he => exact gZ (fun {pe ρ σ Q} h q => Ge pe h fun u l p p' h2 h => tE l h fun a h => ak h fun h3 h => ak h fun h4 h => ak h fun h5 h6 =>
   ⟨K3 ((ho.E h5 q).mono (fun x σ q => let ⟨a,e1,y,q⟩ := q; ⟨a,e1,y,(he.E h6 q).mono (fun _ _ q => q) id⟩) id) (Nv h3) (fY h4) h2,rfl⟩) (fun _ _ _ q => q) (fun _ _ _ q => q)
 | join o e ho he => exact gZ (fun {pe ρ σ Q} h q => Ge pe h fun u l p p' h2 h => tE l h fun a h => ak h fun h3 h => ak h fun h4 h => ak h fun h5 h6 =>
   ⟨K4 ((ho.E h5 q).mono (fun x σ q => let ⟨a,e1,q⟩ := q; ⟨a,e1,(he.E h6 q).mono (fun _ _ q => q) id⟩) id) (RT h3) (fY h4) h2,rfl⟩) (fun _ _ _ q => q) (fun _ _ _ q => q)
 | get k d hk hd => exact gZ (fun {pe ρ σ Q} h q => Ge pe h fun u l p p' h5 h => lK u h fun x p0 h =>
   mQ l h fun a l h => tE l h fun b h =>
   ak h fun h2 h => ak h fun h4 h => ak h fun h6 h => ak h fun h7 h => ak h fun h8 h9 => let ⟨_,ht,hp⟩ := N.tab
   ⟨uq ht (jJ (hg ▸ lA h4) (pK h2 ▸ N.P) ⟨rfl,(hk.E h8 q).mono (fun v σ q => let ⟨x,e,m,q⟩ := q; ⟨x,e,(hd.E h9 q).mono (fun v σ q => let ⟨i,e,q⟩ := q; ⟨i,e,by rw [hp x m]; exact q⟩) id⟩) id⟩) (Nv rfl) ((fY h6).trans (congrArg (List.cons _) (fY h7))) h5,rfl⟩) (fun _ _ _ q => q) (fun _ _ _ q => q)
 | nil => exact ⟨fun _ q => q.elim,fun _ q => q.elim,fun {pe _ _ _} h q => Fe pe h (I5 q),fun {pe _ _ _} h q => o7 pe h q⟩
 | cons x xs hx hxs => exact ⟨fun _ q => q.elim,fun _ q => q.elim,fun {pe _ _ _} h q => mQ pe h fun p ps h => ak h fun h1 h => ak h fun h2 h3 => MF ((hx.E h2 q).mono (fun a σ q => (hxs.L h3 q).mono (fun vs σ q => q) id) id) (fY h1),fun _ q => q.elim⟩
 | pt x hx => exact ⟨fun _ q => q.elim,fun _ q => q.elim,fun _ q => q.elim,fun {pe _ _ _} h q => m9 pe h fun p h => (hx.E h q).mono (fun v σ q => aGb q) id⟩
end
end Mine
end
namespace Mine
variable {G : eX} {c : Cfg G} {A : Fn -> Addr} {X : Prop}
noncomputable def QL (ns : List Str) (Q : KF) : Fl -> eE -> aW -> Prop := fun φ l σ => ∃ ρ,ρ.length = ns.length /\ l = zl ns ρ /\ Q φ ρ σ
theorem Rm {ns : List Str} {r : KS} {Q : KF} {σ : aW} : ∀ {is : List Nat} {vs : List V} {ts : List Expr} {ρ : En},ρ.length = ns.length -> mI ns is ts = true -> kTs r σ Q is vs ρ -> ∃ ρ',ρ'.length = ns.length /\ Puts (zl ns ρ) ts vs (zl ns ρ') /\ r ρ' σ Q
 | [],[],ts,ρ,hl,h,q => Fe ts h ⟨ρ,hl,.nil,q⟩
 | i :: is,v :: vs,ts,ρ,hl,h,q => mQ ts h fun t ts h => lK t h fun x p h => ak h fun h1 h2 =>
  let ⟨ρ',a,b,d⟩ := Rm (is := is) (vs := vs) (ts := ts) ((qD _ _ _).trans hl) h2 q
  ⟨ρ',a,.cons (Hi h1 hl) b,d⟩
 | [],_ :: _,_,_,_,_,q => q.elim
 | _ :: _,[],_,_,_,_,q => q.elim
section
variable {ns gs : List Str}
theorem Z6 {r : S} {ss : List Stmt} {Q : KF} (ih : ∀ {ρ σ},ρ.length = ns.length -> vS c A X r ρ σ Q -> WS c ss (zl ns ρ) σ (QL ns Q) X) : ∀ φ l σ,QL ns (sq (vS c A X r) Q) φ l σ -> LQ c ss (QL ns Q) X φ l σ := by
 rintro φ l σ ⟨ρ,hl,rfl,q⟩;cases φ
 ·exact ih hl q
 ·exact ⟨ρ,hl,rfl,q⟩
 ·exact ⟨ρ,hl,rfl,q⟩
 ·exact ⟨ρ,hl,rfl,q⟩
theorem Z7 {r : S} {ss : List Stmt} {Q : KF} {J : En -> aW -> Prop} {J' : eE -> aW -> Prop} (hJ : ∀ ρ σ,ρ.length = ns.length -> J ρ σ -> J' (zl ns ρ) σ) (ih : ∀ {ρ σ},ρ.length = ns.length -> vS c A X r ρ σ Q -> WS c ss (zl ns ρ) σ (QL ns Q) X) :
  ∀ φ l σ,QL ns (lp J (vS c A X r) Q) φ l σ -> Am J' (LQ c ss (QL ns Q) X) φ l σ := by
 rintro φ l σ ⟨ρ,hl,rfl,q⟩;cases φ
 ·exact hJ _ _ hl q
 ·exact ih hl q
 ·exact hJ _ _ hl q
 ·exact ⟨ρ,hl,rfl,q⟩
noncomputable def In (ns : List Str) (I : En -> aW -> Prop) : eE -> aW -> Prop := fun l σ => ∃ ρ,ρ.length = ns.length /\ l = zl ns ρ /\ I ρ σ
theorem Ob {item item' : Nat -> V} {n : Nat} {i : Nat} {b r : S} {ss l : List Stmt} {ρ : En} {σ : aW} {Q : KF} {I : Nat -> En -> aW -> Prop} {x : Str} (h1 : Fo ns i x = true) (hl : ρ.length = ns.length) (he : ∀ k,k < n -> item' k = item k)
  (ihb : ∀ {ρ σ Q},ρ.length = ns.length -> vS c A X b ρ σ Q -> WS c l (zl ns ρ) σ (QL ns Q) X) (ih : ∀ {ρ σ},ρ.length = ns.length -> vS c A X r ρ σ Q -> WS c ss (zl ns ρ) σ (QL ns Q) X)
  (q : Kq item n i (vS c A X b) (vS c A X r) ρ σ Q I) :
  In ns (I 0) (zl ns ρ) σ /\ (∀ (k : Nat) ρ' σ,k < n -> In ns (I k) ρ' σ -> ∃ aGe,Put ρ' x (item' k) aGe /\ WS c l aGe σ (Am (In ns (I (k + 1))) (LQ c ss (QL ns Q) X)) X) /\ ∀ ρ' σ,In ns (I n) ρ' σ -> LQ c ss (QL ns Q) X .next ρ' σ := by
 obtain ⟨i0,turn,fin⟩ := q;refine ⟨⟨ρ,hl,rfl,i0⟩,?_,?_⟩
 ·rintro k _ σ hk ⟨ρ,hl,rfl,j⟩;rw [he k hk];exact ⟨_,Hi h1 hl,(ihb ((qD _ _ _).trans hl) (turn k ρ σ hk j)).mono (Z7 (fun ρ σ hl j => ⟨ρ,hl,rfl,j⟩) ih) id⟩
 ·rintro _ σ ⟨ρ,hl,rfl,j⟩;exact ih hl (fin _ _ j)
variable (N : N5 G A) (hg : c.gn = gs)
include N hg
theorem Oc (s : S) : ∀ {ss ρ σ Q},mS ns gs s ss = true -> ρ.length = ns.length -> vS c A X s ρ σ Q -> WS c ss (zl ns ρ) σ (QL ns Q) X := by
 have Jv := fun e => CQ (c := c) (X := X) (ns := ns) N hg e;induction s with
 | done =>
  exact fun {ss ρ σ Q} h hl q => Fe ss h (LK ⟨ρ,hl,rfl,q⟩)
 | Ck i r ih =>
  exact fun {ss ρ σ Q} h hl q =>
   let ⟨a,xs,e1,e2,q⟩ := q;let ⟨x,F⟩ := Xj (x := default) (xs := xs) hl e1
   BP F e2 (ih h ((qD _ _ _).trans hl) q)
 | drop r ih =>
  exact fun {ss ρ σ Q} h hl q => let ⟨a,q⟩ := q; K9 a (ih h hl q)
 | asg i e r ih =>
  exact fun {ss ρ σ Q} h hl q => mQ ss h fun st ss h => yC st h fun ts v p h => tE ts h fun t h => lK t h fun x p' h => ak h fun h1 h => ak h fun h2 h => ak h fun h3 h4 =>
   iG (Zj (((Jv e).E h3 q).mono (fun v σ q => ⟨_,Hi h1 hl,ih h4 ((qD _ _ _).trans hl) q⟩) id) (Bb h2))
 | fV is e r ih =>
  exact fun {ss ρ σ Q} h hl q => mQ ss h fun st ss h => yC st h fun ts v p h => tE ts h fun t h => Rf t h fun ts k p' h => ak h fun h1 h => ak h fun h2 h => ak h fun h3 h4 =>
   iG (Vh (((Jv e).E h3 q).mono (fun v σ q => by
    unfold kT at q;split at q
    ·obtain ⟨ρ',a,b,q⟩ := Rm hl h1 q;exact ⟨_,rfl,_,b,ih h4 a q⟩
    ·exact q.elim) id) (Hq h2).1 (Hq (n := 0) h2).2)
 | aug i o e r ih =>
  exact fun {ss ρ σ Q} h hl q => mQ ss h fun st ss h => Nt st h fun t o' v p h => lK t h fun x p' h => ak h fun h1 h => ak h fun h2 h => ak h fun h3 h4 =>
   let ⟨_,e,q⟩ := Z1 q
   iG (ek o' h2 (ur (Vp h1 e) (((Jv _).E h3 q).mono (fun v σ q => tM (oY (fun v σ q => ⟨_,Hi h1 hl,ih h4 ((qD _ _ _).trans hl) q⟩) q) (.Y5 _)) id)))
 | ret e =>
  exact fun {ss ρ σ Q} h hl q => tE ss h fun st h => CN st h fun v p h => m9 v h fun v h => iG (Zk (((Jv e).E h q).mono (fun v σ q => ⟨ρ,hl,rfl,q⟩) id))
 | ifs t a b r iha ihb ih =>
  exact fun {ss ρ σ Q} h hl q => mQ ss h fun st ss h => aFy st h fun u l l' p h => ak h fun h1 h => ak h fun h2 h => ak h fun h3 h4 =>
   iG (aFb (((Jv t).B h1 q).mono (fun k σ q => rY (gH (fun q => (iha h2 hl q).mono (Z6 (ih h4)) id) (fun q => (ihb h3 hl q).mono (Z6 (ih h4)) id) q)) id))
 | expr e r ih =>
  exact fun {ss ρ σ Q} h hl q => mQ ss h fun st ss h => RJ st h fun v p h => ak h fun h1 h => ak h fun h2 h3 => iG (K5 (((Jv e).E h2 q).mono (fun v σ q => ih h3 hl q) id) (Bb h1))
 | raise e =>
  exact fun {ss ρ σ Q} h hl q => tE ss h fun st h => Rh st h fun a b p h => ak h fun h0 h => o7 b h0 (m9 a h fun a h => Df a h fun x us p p' h => tE us h fun u h => ak h fun h1 h => ak h fun h2 h => ak h fun h3 h4 =>
   iG (BJ N.Z (hg ▸ lA h2) (pK h1 ▸ N.zS) q.1 (((Jv e).E h4 q.2).mono (fun _ _ q => q) id) (fY h3)))
 | wJ e e' =>
  exact fun {ss ρ σ Q} h hl q => tE ss h fun st h => Rh st h fun a b p h => ak h fun h0 h => o7 b h0 (m9 a h fun a h => Df a h fun x us p p' h => mQ us h fun u us h => tE us h fun u' h => ak h fun h1 h => ak h fun h2 h => ak h fun h3 h => ak h fun h4 h => ak h fun h5 h6 =>
   iG (BK N.Z (hg ▸ lA h2) (pK h1 ▸ N.zL) q.1 (((Jv e).E h5 q.2).mono (fun _ _ q => ((Jv e').E h6 q).mono (fun _ _ q => q) id) id) ((fY h3).trans (congrArg (List.cons _) (fY h4)))))
 | whl t b r ihb ih =>
  exact fun {ss ρ σ Q} h hl q => mQ ss h fun st ss h => RB st h fun u l l' p h => ak h fun h0 h => Fe l' h0 (ak h fun h1 h => ak h fun h2 h3 =>
   let ⟨ι,J,μ,xP,j0,turn⟩ := q
   iG (LR (fun i => In ns (J i)) μ xP ⟨ρ,hl,rfl,j0⟩ (by
    rintro i _ σ ⟨ρ,hl,rfl,j⟩;exact ((Jv t).B h1 (turn i ρ σ j)).mono (fun k σ q => rY (gH (fun q => (ihb h2 hl q).mono (Z7 (fun ρ σ hl j => j.imp fun j b => ⟨b.1,ρ,hl,rfl,b.2⟩) (ih h3)) id) (fun q => ih h3 hl q) q)) id)))
 | forR i e b r ihb ih =>
  exact fun {ss ρ σ Q} h hl q => mQ ss h fun st ss h => Nu st h fun t it l l' p h => lK t h fun x p' h => ak h fun h0 h => Fe l' h0 (Df it h fun y us p2 p3 h => tE us h fun u h => ak h fun h1 h => ak h fun h2 h => ak h fun h3 h => ak h fun h4 h => ak h fun h5 h => ak h fun h6 h7 =>
   iG (Ng (hg ▸ lA h3) (pK h2 ▸ N.range) (((Jv e).E h5 q).mono (fun v σ q => by obtain ⟨n,e,b1,b2,I,q⟩ := q; have w := Ob h1 hl (fun _ _ => rfl) (ihb h6) (ih h7) q; exact ⟨n,e,b1,b2,_,w.1,fun k ρ' σ hk => w.2.1 k ρ' σ (aPa.mpr hk),w.2.2⟩) id) (fY h4) (fun v => rfl)))
 | Gz i e e' b r ihb ih =>
  exact fun {ss ρ σ Q} h hl q => mQ ss h fun st ss h => Nu st h fun t it l l' p h => lK t h fun x p' h => ak h fun h0 h => Fe l' h0 (Df it h fun y us p2 p3 h => mQ us h fun u us h => tE us h fun u' h => ak h fun h1 h => ak h fun h2 h => ak h fun h3 h => ak h fun h4 h => ak h fun h5 h => ak h fun h6 h => ak h fun h7 h => ak h fun h8 h9 =>
   iG (Nh (hg ▸ lA h3) (pK h2 ▸ N.range) (((Jv e).E h6 q).mono (fun v σ q => by obtain ⟨m,e,q⟩ := q; exact ⟨m,e,((Jv e').E h7 q).mono (fun v σ q => by obtain ⟨n,e,a1,a2,b1,b2,I,q⟩ := q; have w := Ob h1 hl (fun _ _ => rfl) (ihb h8) (ih h9) q; exact ⟨n,e,a1,a2,b1,b2,_,w.1,fun k ρ' σ hk => w.2.1 k ρ' σ (aPa.mpr hk),w.2.2⟩) id⟩) id) ((fY h4).trans (congrArg (List.cons _) (fY h5))) (fun v => rfl)))
 | QF i e b r ihb ih =>
  exact fun {ss ρ σ Q} h hl q => mQ ss h fun st ss h => Nu st h fun t it l l' p h => lK t h fun x p' h => ak h fun h0 h => Fe l' h0 (ak h fun h1 h => ak h fun h2 h => ak h fun h3 h => ak h fun h4 h5 =>
   iG (Zu (((Jv e).E h3 q).mono (fun v σ q => by obtain ⟨t,e,ht,I,q⟩ := q; have w := Ob (item' := fun k => .str ⟨#[t.cps.getD k 0]⟩) h1 hl (fun _ _ => rfl) (ihb h4) (ih h5) q; exact ⟨t,e,ht,fun k => In ns (I k),w.1,fun k ρ' σ hk j => (show t.cps.getD k 0 = t.cps[k] by simp [aOz,hk]) ▸ w.2.1 k ρ' σ hk j,w.2.2⟩) id) (Xn h2)))
 | forL i e b r ihb ih =>
  exact fun {ss ρ σ Q} h hl q => mQ ss h fun st ss h => Nu st h fun t it l l' p h => lK t h fun x p' h => ak h fun h0 h => Fe l' h0 (ak h fun h1 h => ak h fun h2 h => ak h fun h3 h => ak h fun h4 h5 =>
   iG (Vk (((Jv e).E h3 q).mono (fun v σ q => by obtain ⟨a,xs,e,I,hI,q⟩ := q; have w := Ob (item' := fun k => xs.getD k .none) h1 hl (fun _ _ => rfl) (ihb h4) (ih h5) q; exact ⟨a,xs,e,fun k => In ns (I k),fun k l σ j => j.elim fun ρ j => hI k ρ σ j.2.2,w.1,fun k ρ' σ hk j => (show xs.getD k .none = xs[k] by simp [aPh,hk]) ▸ w.2.1 k ρ' σ hk j,w.2.2⟩) id) (Xn h2)))
 | QG o i e r ih =>
  exact fun {ss ρ σ Q} h hl q => mQ ss h fun st ss h => yC st h fun ts v p h => tE ts h fun t h => pW t h fun u w p' h => ak h fun h1 h => ak h fun h2 h => ak h fun h3 h => ak h fun h4 h => ak h fun h5 h6 =>
   iG (Vj (((Jv e).E h3 q).mono (fun v σ q => ((Jv o).E h4 q).mono (fun x σ q => by obtain ⟨a,e,q⟩ := q; exact ⟨a,e,((Jv i).E h5 q).mono (fun y σ q => by obtain ⟨k,xs,e1,e2,e3,e4,e5,q⟩ := q; exact ⟨k,xs,e1,e2,e3,e4,e5,ih h6 hl q⟩) id⟩) id) id) (Bb h2))
 | setC o lo hi e r ih =>
  exact fun {ss ρ σ Q} h hl q => mQ ss h fun st ss h => yC st h fun ts v p h => tE ts h fun t h => Vt t h fun u a b p' p2 h => ak h fun h1 h => ak h fun h2 h => ak h fun h3 h => ak h fun h4 h => ak h fun h5 h6 =>
   iG (Zr (((Jv e).E h2 q).mono (fun v σ q => ((Jv o).E h3 q).mono (fun x σ q => by obtain ⟨a,e,hn,q⟩ := q; exact ⟨a,e,hn,tO ((Jv lo).O h4 q) fun l σ q => tO ((Jv hi).O h5 q) fun u σ q => by obtain ⟨xs,ys,e1,e2,e3,q⟩ := q; exact ⟨xs,ys,e1,e2,e3,ih h6 hl q⟩⟩) id) id) (Bb h1))
end
end Mine
section
set_option genInjectivity false
namespace Mine
noncomputable abbrev e1 (a : E) : E := .cons a .nil
noncomputable abbrev e2 (a b : E) : E := .cons a (.cons b .nil)
noncomputable abbrev e3 (a b d : E) : E := .cons a (.cons b (.cons d .nil))
noncomputable abbrev e4 (a b d e : E) : E := .cons a (.cons b (.cons d (.cons e .nil)))
noncomputable abbrev hE (i : Nat) (x : Str) : E := .cmp .Eq (.eG (.v i) .nil (.pt (.i 1))) (.lst (.cons (.s x) .nil))
noncomputable abbrev hN (i : Nat) (x : Str) : E := .cmp .NotEq (.eG (.v i) .nil (.pt (.i 1))) (.lst (.cons (.s x) .nil))
noncomputable abbrev hI (i : Nat) (x y : Str) : E := .cmp .In (.eG (.v i) .nil (.pt (.i 1))) (.tup (.cons (.lst (.cons (.s x) .nil)) (.cons (.lst (.cons (.s y) .nil)) .nil)))
noncomputable abbrev hP (i : Nat) : E := .pop (.v i) (.i 0)
noncomputable abbrev aU : E := .v 0
noncomputable abbrev aV : E := .v 1
noncomputable abbrev cQ : E := .v 2
noncomputable abbrev fP : E := .v 3
noncomputable abbrev mK : E := .v 4
noncomputable abbrev Hw : E := .v 5
noncomputable abbrev SX : E := .v 6
noncomputable abbrev va7 : E := .v 7
noncomputable abbrev mY : E := .i 0
noncomputable abbrev dJ : E := .i 1
noncomputable abbrev Od : E := .i 2
noncomputable abbrev Oe : E := .i 3
noncomputable abbrev lB (f : Fn) (a : E) : E := .call f (e1 a)
noncomputable abbrev eF (f : Fn) (a b : E) : E := .call f (e2 a b)
noncomputable abbrev jD (f : Fn) (a b d : E) : E := .call f (e3 a b d)
noncomputable abbrev lM (a b : E) : E := .tup (e2 a b)
noncomputable abbrev Ah (a b d : E) : E := .tup (e3 a b d)
noncomputable abbrev m7 (a b d e : E) : E := .tup (e4 a b d e)
noncomputable abbrev uM (a : E) : E := .lst (e1 a)
noncomputable abbrev Cm : E := .lst .nil
noncomputable abbrev aA (a b : E) : E := .bin .Add a b
noncomputable abbrev aE (a b : E) : E := .cmp .Eq a b
noncomputable abbrev aS (a b : E) : E := .sub a b
noncomputable abbrev aX (a : E) : S := .expr a .done
noncomputable abbrev aL (a : E) : E := .bf .len a
structure CT where
 ns : List Str
 np : Nat
 nl : Nat
 gs : List Str
 b : S
noncomputable def aIi : List CT := [
 ⟨["tokens", "at"],2,0,["len"],.ifs (.cmp .Lt aV (aL aU)) (.ret (aS (aS aU aV) mY)) .done (.ret (.s ""))⟩,
 ⟨["tokens", "at", "text"],3,0,["len"],.ret (.and (.cmp .Lt aV (aL aU)) (.and (aE (aS (aS aU aV) mY) (.s "OP")) (aE (aS (aS aU aV) dJ) cQ)))⟩,
 ⟨["tokens", "at", "text"],3,0,["is_op", "SyntaxFault"],.ifs (.not (jD .dR aU aV cQ)) (.raise (aA (.s "a mark is missing: ") cQ)) .done (.ret (aA aV dJ))⟩,
 ⟨["tokens", "at"],2,0,["kind_at", "SyntaxFault"],.ifs (.cmp .NotEq (eF .mU aU aV) (.s "NAME")) (.raise (.s "a name is missing")) .done (.ret (lM (aS (aS aU aV) dJ) (aA aV dJ)))⟩,
 ⟨["tokens", "at"],2,0,["kind_at", "SyntaxFault"],.ifs (.cmp .NotEq (eF .mU aU aV) (.s "INT")) (.raise (.s "a whole number is missing")) .done (.ret (lM (aS (aS aU aV) dJ) (aA aV dJ)))⟩,
 ⟨["tokens", "at"],2,0,["len", "SyntaxFault"],.ifs (.cmp .Lt aV (aL aU)) (.raise (.s "more than a statement")) .done .done⟩,
 ⟨["tokens", "at", "depth", "place"],2,2,["range", "len", "is_op", "SyntaxFault"],.asg 2 mY (.Gz 3 aV (aL aU) (.ifs (jD .dR aU fP (.s "(")) (.aug 2 .Add dJ .done) (.ifs (jD .dR aU fP (.s ")")) (.aug 2 .Sub dJ (.ifs (aE cQ mY) (.ret fP) .done .done)) .done .done) .done) (.raise (.s "a bracket is not closed")))⟩,
 ⟨["tokens", "at"],2,0,["kind_at", "PRIORITIES"],.ifs (.cmp .NotEq (eF .mU aU aV) (.s "OP")) (.ret mY) .done (.ret (.get (aS (aS aU aV) dJ) mY))⟩,
 ⟨["tokens", "at"],2,0,["parse_binary", "EQUIVALENCE"],.ret (jD .dD aU aV (.k .rT))⟩,
 ⟨["tokens", "at", "least", "tree", "was_relation", "level", "op", "right"],3,5,["parse_first", "priority_at", "RELATION", "SyntaxFault", "POWER", "parse_binary"],.fV [3,1] (jD .oV aU aV cQ) (.asg 4 (.b false) (.whl (.cmp .GtE (eF .rI aU aV) cQ) (.asg 5 (eF .rI aU aV) (.asg 6 (aS (aS aU aV) dJ) (.ifs (.and (aE Hw (.k .RELATION)) mK) (.raise (.s "a relation behind a relation")) .done (.ifs (aE Hw (.k .POWER)) (.fV [7,1] (jD .dD aU (aA aV dJ) (.k .POWER)) .done) (.fV [7,1] (jD .dD aU (aA aV dJ) (aA Hw dJ)) .done) (.asg 3 (m7 (.s "bin") SX fP va7) (.asg 4 (aE Hw (.k .RELATION)) .done)))))) (.ret (lM fP aV))))⟩,
 ⟨["tokens", "at", "least", "tree", "sign"],3,2,["is_op", "NEGATION", "SyntaxFault", "parse_binary", "SUM", "parse_primary"],.ifs (jD .dR aU aV (.s ".NOT.")) (.ifs (.cmp .Gt cQ (.k .NEGATION)) (.raise (.s ".NOT. cannot stand here")) .done (.fV [3,1] (jD .dD aU (aA aV dJ) (aA (.k .NEGATION) dJ)) (.ret (lM (Ah (.s "un") (.s ".NOT.") fP) aV)))) .done (.ifs (.or (jD .dR aU aV (.s "+")) (jD .dR aU aV (.s "-"))) (.ifs (.cmp .Gt cQ (.k .SUM)) (.raise (.s "a sign cannot stand here")) .done (.asg 4 (aS (aS aU aV) dJ) (.fV [3,1] (jD .dD aU (aA aV dJ) (aA (.k .SUM) dJ)) (.ret (lM (Ah (.s "un") mK fP) aV))))) .done (.ret (eF .oF aU aV)))⟩,
 ⟨["tokens", "at", "kind"],2,1,["kind_at", "parse_named", "parse_bracket", "SyntaxFault", "constant_of"],.asg 2 (eF .mU aU aV) (.ifs (aE cQ (.s "NAME")) (.ret (eF .rM aU aV)) .done (.ifs (.and (aE cQ (.s "OP")) (aE (aS (aS aU aV) dJ) (.s "("))) (.ret (eF .sU aU aV)) .done (.ifs (.or (aE cQ (.s "")) (aE cQ (.s "OP"))) (.raise (.s "an operand is missing")) .done (.ret (lM (jD .rJ cQ (aS (aS aU aV) dJ) dJ) (aA aV dJ))))))⟩,
 ⟨["kind", "value", "sign"],3,0,[],.ifs (aE aU (.s "INT")) (.ret (lM (.s "int") (.bin .Mult cQ aV))) .done (.ifs (aE aU (.s "REAL")) (.ret (Ah (.s "real") (.bin .Mult cQ (aS aV mY)) (aS aV dJ))) .done (.ifs (aE aU (.s "DBLE")) (.ret (Ah (.s "dble") (.bin .Mult cQ (aS aV mY)) (aS aV dJ))) .done (.ifs (aE aU (.s "LOG")) (.ret (lM (.s "log") aV)) .done (.ret (lM (.s "char") aV)))))⟩,
 ⟨["tokens", "at", "left", "comma", "right", "end", "tree"],2,5,["is_complex", "complex_part", "need_op", "parse_expr"],.ifs (eF .zK aU aV) (.fV [2,3] (eF .pO aU (aA aV dJ)) (.fV [4,5] (eF .pO aU (aA fP dJ)) (.ret (lM (Ah (.s "cplx") cQ mK) (jD .eZ aU Hw (.s ")")))))) .done (.fV [6,1] (eF .cY aU (aA aV dJ)) (.ret (lM SX (jD .eZ aU aV (.s ")")))))⟩,
 ⟨["tokens", "at"],2,0,["is_op", "kind_at"],.ifs (.or (jD .dR aU aV (.s "+")) (jD .dR aU aV (.s "-"))) (.aug 1 .Add dJ .done) .done (.ifs (.or (aE (eF .mU aU aV) (.s "INT")) (aE (eF .mU aU aV) (.s "REAL"))) (.ret (aA aV dJ)) .done (.ret (.neg dJ)))⟩,
 ⟨["tokens", "at", "comma", "end"],2,2,["part_end", "is_op"],.asg 2 (eF .Ar aU (aA aV dJ)) (.ifs (.or (.cmp .Lt cQ mY) (.not (jD .dR aU cQ (.s ",")))) (.ret (.b false)) .done (.asg 3 (eF .Ar aU (aA cQ dJ)) (.ret (.and (.cmp .GtE fP mY) (jD .dR aU fP (.s ")"))))))⟩,
 ⟨["tokens", "at", "sign"],2,1,["is_op", "kind_at", "constant_of"],.asg 2 dJ (.ifs (jD .dR aU aV (.s "-")) (.asg 2 (.neg dJ) .done) .done (.ifs (aE (eF .mU aU aV) (.s "OP")) (.aug 1 .Add dJ .done) .done (.ret (lM (jD .rJ (aS (aS aU aV) mY) (aS (aS aU aV) dJ) cQ) (aA aV dJ)))))⟩,
 ⟨["tokens", "at", "name", "tree", "rows"],2,3,["need_name", "is_op", "is_cut", "parse_arguments", "parse_cut"],.fV [2,1] (eF .lX aU aV) (.asg 3 (lM (.s "name") cQ) (.ifs (.not (jD .dR aU aV (.s "("))) (.ret (lM fP aV)) .done (.ifs (.not (eF .Vo aU aV)) (.fV [4,1] (jD .pF aU aV (.b false)) (.asg 3 (Ah (.s "ref") cQ mK) .done)) .done (.ifs (jD .dR aU aV (.s "(")) (.ret (jD .Cw aU aV fP)) .done (.ret (lM fP aV))))))⟩,
 ⟨["tokens", "at", "end", "depth", "place"],2,3,["close_at", "range", "is_op"],.asg 2 (eF .Gs aU aV) (.asg 3 mY (.Gz 4 (aA aV dJ) cQ (.ifs (jD .dR aU mK (.s "(")) (.aug 3 .Add dJ .done) (.ifs (jD .dR aU mK (.s ")")) (.aug 3 .Sub dJ .done) (.ifs (.and (aE fP mY) (jD .dR aU mK (.s ":"))) (.ret (.b true)) .done .done) .done) .done) (.ret (.b false))))⟩,
 ⟨["tokens", "at", "base", "low", "high"],3,2,["need_op", "is_op", "parse_expr"],.asg 1 (jD .eZ aU aV (.s "(")) (.asg 3 .none (.asg 4 .none (.ifs (.not (jD .dR aU aV (.s ":"))) (.fV [3,1] (eF .cY aU aV) .done) .done (.asg 1 (jD .eZ aU aV (.s ":")) (.ifs (.not (jD .dR aU aV (.s ")"))) (.fV [4,1] (eF .cY aU aV) .done) .done (.ret (lM (m7 (.s "sub") cQ fP mK) (jD .eZ aU aV (.s ")")))))))))⟩,
 ⟨["tokens", "at", "may_return", "rows", "label", "tree"],3,3,["need_op", "is_op", "need_int", "parse_expr"],.asg 1 (jD .eZ aU aV (.s "(")) (.asg 3 (.pU .nil) (.ifs (jD .dR aU aV (.s ")")) (.Ck 3 (.ret (lM fP (aA aV dJ)))) .done (.whl (.b true) (.ifs (.and cQ (jD .dR aU aV (.s "*"))) (.fV [4,1] (eF .Aq aU (aA aV dJ)) (aX (.app fP (lM (.s "alt") mK)))) (.fV [5,1] (eF .cY aU aV) (aX (.app fP Hw))) (.ifs (.not (jD .dR aU aV (.s ","))) (.Ck 3 (.ret (lM fP (jD .eZ aU aV (.s ")"))))) .done (.aug 1 .Add dJ .done))) .done)))⟩,
 ⟨["tokens", "at"],2,0,["kind_at", "SyntaxFault", "parse_named"],.ifs (.cmp .NotEq (eF .mU aU aV) (.s "NAME")) (.raise (.s "nothing that can be given a value")) .done (.ret (eF .rM aU aV))⟩,
 ⟨["text", "at", "signs", "end"],3,1,["len"],.asg 3 aV (.whl (.and (.cmp .Lt fP (aL aU)) (.cmp .In (aS aU fP) cQ)) (.aug 3 .Add dJ .done) (.ret fP))⟩,
 ⟨["text", "at", "begun", "end", "power"],2,3,["len", "run_of", "DIGITS_lex", "MOST_DIGITS", "LexFault", "int"],.ifs (.or (.cmp .GtE aV (aL aU)) (.cmp .NotIn (aS aU aV) (.s "ED"))) (.ret (Ah (.s "") mY aV)) .done (.asg 2 (aA aV dJ) (.ifs (.and (.cmp .Lt cQ (aL aU)) (.cmp .In (aS aU cQ) (.s "+-"))) (.aug 2 .Add dJ .done) .done (.asg 3 (jD .Cx aU cQ (.k .jR)) (.ifs (aE fP cQ) (.ret (Ah (.s "") mY aV)) .done (.ifs (.cmp .Gt (.bin .Sub fP cQ) (.k .oX)) (.wJ aV (.s "an exponent has too many digits")) .done (.asg 4 (.bf .int (.mX aU (.pt cQ) (.pt fP))) (.ifs (aE (aS aU (aA aV dJ)) (.s "-")) (.asg 4 (.neg mK) .done) .done (.ret (Ah (aS aU aV) mK fP)))))))))⟩,
 ⟨["text", "at", "end", "digits", "fraction", "has_point", "behind", "letter", "power", "pair"],2,8,["run_of", "DIGITS_lex", "len", "dotted_at", "power_at", "MOST_DIGITS", "LexFault", "int", "told_pair"],.asg 2 (jD .Cx aU aV (.k .jR)) (.asg 3 (.mX aU (.pt aV) (.pt cQ)) (.asg 4 (.s "") (.asg 5 (.and (.cmp .Lt cQ (aL aU)) (.and (aE (aS aU cQ) (.s ".")) (aE (eF .BW aU cQ) (.s "")))) (.ifs Hw (.asg 6 (jD .Cx aU (aA cQ dJ) (.k .jR)) (.asg 4 (.mX aU (.pt (aA cQ dJ)) (.pt SX)) (.asg 2 SX .done))) .done (.fV [7,8,2] (eF .Gu aU cQ) (.ifs (.cmp .Gt (.bin .Sub cQ aV) (.k .oX)) (.wJ aV (.s "a number has too many digits")) .done (.ifs (.and (.not Hw) (aE va7 (.s ""))) (.ret (lM (Ah (.s "INT") (.bf .int fP) aV) cQ)) .done (.asg 9 (eF .BX (aA fP mK) (.bin .Sub (.v 8) (aL mK))) (.ifs (aE va7 (.s "D")) (.ret (lM (Ah (.s "DBLE") (.v 9) aV) cQ)) .done (.ret (lM (Ah (.s "REAL") (.v 9) aV) cQ)))))))))))⟩,
 ⟨["text", "at", "end"],2,1,["run_of", "LETTERS", "DIGITS_lex", "MOST_NAME", "LexFault"],.asg 2 (jD .Cx aU aV (aA (.k .LETTERS) (.k .jR))) (.ifs (.cmp .Gt (.bin .Sub cQ aV) (.k .xY)) (.wJ aV (.s "a name has more than six signs")) .done (.ret (lM (Ah (.s "NAME") (.mX aU (.pt aV) (.pt cQ)) aV) cQ)))⟩,
 ⟨["text", "at", "sign", "end"],2,2,["LETTERS", "name_at", "DIGITS_lex", "number_at", "point_at", "quoted_at", "SIGNS", "LexFault"],.asg 2 (aS aU aV) (.ifs (.cmp .In cQ (.k .LETTERS)) (.ret (eF .Nk aU aV)) .done (.ifs (.cmp .In cQ (.k .jR)) (.ret (eF .Cy aU aV)) .done (.ifs (aE cQ (.s ".")) (.ret (eF .QC aU aV)) .done (.ifs (aE cQ (.s "'")) (.ret (eF .BZ aU aV)) .done (.ifs (.cmp .NotIn cQ (.k .SIGNS)) (.wJ aV (.s "a sign that begins nothing")) .done (.asg 3 (aA aV dJ) (.ifs (.and (.cmp .In cQ (.s "*/")) (aE (.mX aU (.pt fP) (.pt (aA fP dJ))) cQ)) (.aug 3 .Add dJ .done) .done (.ret (lM (Ah (.s "OP") (.mX aU (.pt aV) (.pt fP)) aV) fP)))))))))⟩,
 ⟨["squeezed", "out", "at", "token"],1,3,["len", "token_at"],.asg 1 (.pU .nil) (.asg 2 mY (.whl (.cmp .Lt cQ (aL aU)) (.fV [3,2] (eF .Gv aU cQ) (aX (.app aV fP))) (.Ck 1 (.ret aV))))⟩,
 ⟨["row", "out", "depth", "is_inside", "sign"],1,4,[],.asg 1 (.pU .nil) (.asg 2 mY (.asg 3 (.b false) (.QF 4 aU (.ifs (aE mK (.s "'")) (.asg 3 (.not fP) (aX (.app aV (.neg dJ)))) (.ifs fP (aX (.app aV (.neg dJ))) (.ifs (.and (aE mK (.s "(")) (.cmp .GtE cQ mY)) (.expr (.app aV cQ) (.aug 2 .Add dJ .done)) (.ifs (.and (aE mK (.s ")")) (.cmp .Gt cQ mY)) (.aug 2 .Sub dJ (aX (.app aV cQ))) (.ifs (aE mK (.s ")")) (.asg 2 (.neg Od) .done) .done (aX (.app aV cQ))) .done) .done) .done) .done) (.Ck 1 (.ret aV)))))⟩,
 ⟨["row", "at", "levels", "end"],2,2,["depths", "range", "len"],.asg 2 (lB .depths aU) (.Gz 3 (aA aV dJ) (aL aU) (.ifs (.and (aE (aS aU fP) (.s ")")) (aE (aS cQ fP) (aS cQ aV))) (.ret fP) .done .done) (.ret (.neg dJ)))⟩,
 ⟨["tokens", "at", "low", "tree", "high"],2,3,["is_op", "parse_expr"],.asg 2 .none (.ifs (.not (jD .dR aU aV (.s "*"))) (.fV [3,1] (eF .cY aU aV) (.ifs (.not (jD .dR aU aV (.s ":"))) (.ret (lM (lM .none fP) aV)) .done (.asg 2 fP (.aug 1 .Add dJ .done)))) .done (.ifs (jD .dR aU aV (.s "*")) (.ret (lM (lM cQ .none) (aA aV dJ))) .done (.fV [4,1] (eF .cY aU aV) (.ret (lM (lM cQ mK) aV)))))⟩,
 ⟨["tokens", "at", "dims", "is_more", "bound"],2,3,["is_op", "len", "SyntaxFault", "parse_bound", "MOST_DIMENSIONS", "need_op"],.asg 2 (.pU .nil) (.ifs (.not (jD .dR aU aV (.s "("))) (.Ck 2 (.ret (lM cQ aV))) .done (.asg 3 (.b true) (.whl fP (.ifs (.and (.cmp .Gt (aL cQ) mY) (.cmp .Is (aS (aS cQ (.neg dJ)) dJ) .none)) (.raise (.s "a star ahead of the last dimension")) .done (.fV [4,1] (eF .wF aU (aA aV dJ)) (.expr (.app cQ mK) (.asg 3 (jD .dR aU aV (.s ",")) .done)))) (.ifs (.cmp .Gt (aL cQ) (.k .lJ)) (.raise (.s "more than seven dimensions")) .done (.Ck 2 (.ret (lM cQ (jD .eZ aU aV (.s ")")))))))))⟩,
 ⟨["tokens", "at", "number", "tree"],2,2,["kind_at", "need_int", "SyntaxFault", "need_op", "is_op", "parse_expr"],.ifs (aE (eF .mU aU aV) (.s "INT")) (.fV [2,1] (eF .Aq aU aV) (.ifs (aE cQ mY) (.raise (.s "a length of nothing")) .done (.ret (lM (lM (.s "int") cQ) aV)))) .done (.asg 1 (jD .eZ aU aV (.s "(")) (.ifs (jD .dR aU aV (.s "*")) (.ret (lM (.s "*") (jD .eZ aU (aA aV dJ) (.s ")")))) .done (.fV [3,1] (eF .cY aU aV) (.ret (lM fP (jD .eZ aU aV (.s ")")))))))⟩,
 ⟨["text", "at", "tokens", "length", "end"],1,4,["len", "DIGITS_specs", "closing", "SyntaxFault", "tokens_of", "parse_length", "need_end"],.ifs (.cmp .NotEq (.mX aU .nil (.pt dJ)) (.s "*")) (.ret (lM .none aU)) .done (.asg 1 dJ (.whl (.and (.cmp .Lt aV (aL aU)) (.cmp .In (aS aU aV) (.k .pR))) (.aug 1 .Add dJ .done) (.ifs (aE (.mX aU (.pt dJ) (.pt Od)) (.s "(")) (.asg 1 (aA (eF .closing aU dJ) dJ) .done) .done (.ifs (aE aV mY) (.raise (.s "a bracket is not closed")) .done (.asg 2 (lB .lY (.mX aU (.pt dJ) (.pt aV))) (.fV [3,4] (eF .pP cQ mY) (.expr (eF .oU cQ mK) (.ret (lM fP (.mX aU (.pt aV) .nil))))))))))⟩,
 ⟨["tokens", "at", "is_text", "name", "dims", "length"],3,3,["need_name", "parse_dims", "is_op", "parse_length"],.fV [3,1] (eF .lX aU aV) (.fV [4,1] (eF .qK aU aV) (.asg 5 .none (.ifs (.and cQ (jD .dR aU aV (.s "*"))) (.fV [5,1] (eF .pP aU (aA aV dJ)) .done) .done (.ret (lM (Ah fP mK Hw) aV)))))⟩,
 ⟨["kind", "length", "text", "tokens", "item", "at", "items"],3,4,["tokens_of", "parse_item", "CHARACTER", "is_op", "need_end"],.asg 3 (lB .lY cQ) (.fV [4,5] (jD .uU fP mY (aE aU (.k .CHARACTER))) (.asg 6 (.pU (e1 mK)) (.whl (jD .dR fP Hw (.s ",")) (.fV [4,5] (jD .uU fP (aA Hw dJ) (aE aU (.k .CHARACTER))) (aX (.app SX mK))) (.expr (eF .oU fP Hw) (.Ck 6 (.ret (uM (m7 (.s "type") aU aV SX))))))))⟩,
 ⟨["text"],1,0,["parse_typed", "INTEGER"],.ret (jD .gC (.k .INTEGER) .none (.mX aU (.pt (.i 7)) .nil))⟩,
 ⟨["text"],1,0,["parse_typed", "REAL"],.ret (jD .gC (.k .REAL) .none (.mX aU (.pt (.i 4)) .nil))⟩,
 ⟨["text"],1,0,["parse_typed", "DOUBLE"],.ret (jD .gC (.k .DOUBLE) .none (.mX aU (.pt (.i 15)) .nil))⟩,
 ⟨["text"],1,0,["parse_typed", "COMPLEX"],.ret (jD .gC (.k .Gd) .none (.mX aU (.pt (.i 7)) .nil))⟩,
 ⟨["text"],1,0,["parse_typed", "LOGICAL"],.ret (jD .gC (.k .LOGICAL) .none (.mX aU (.pt (.i 7)) .nil))⟩,
 ⟨["text", "length", "rest"],1,2,["head_length", "parse_typed", "CHARACTER"],.fV [1,2] (lB .oW (.mX aU (.pt (.i 9)) .nil)) (.ifs (.and (.cmp .IsNot aV .none) (aE (.mX cQ .nil (.pt dJ)) (.s ","))) (.asg 2 (.mX cQ (.pt dJ) .nil) .done) .done (.ret (jD .gC (.k .CHARACTER) aV cQ)))⟩,
 ⟨["text", "tokens", "items", "at", "is_more", "name", "dims"],1,6,["tokens_of", "need_name", "need_op", "parse_dims", "is_op", "need_end"],.asg 1 (lB .lY (.mX aU (.pt (.i 9)) .nil)) (.asg 2 (.pU .nil) (.asg 3 mY (.asg 4 (.b true) (.whl mK (.fV [5,3] (eF .lX aV fP) (.expr (jD .eZ aV fP (.s "(")) (.fV [6,3] (eF .qK aV fP) (.expr (.app cQ (Ah Hw SX .none)) (.asg 4 (jD .dR aV fP (.s ",")) (.ifs mK (.aug 3 .Add dJ .done) .done .done)))))) (.expr (eF .oU aV fP) (.Ck 2 (.ret (uM (lM (.s "dimension") cQ)))))))))⟩,
 ⟨["tokens", "at"],2,0,["is_op"],.ret (.or (jD .dR aU aV (.s "/")) (jD .dR aU aV (.s "//")))⟩,
 ⟨["tokens", "at", "name"],2,1,["is_op", "need_name", "need_op"],.ifs (jD .dR aU aV (.s "//")) (.ret (lM (.s "") (aA aV dJ))) .done (.ifs (.not (jD .dR aU aV (.s "/"))) (.ret (lM (.s "") aV)) .done (.fV [2,1] (eF .lX aU (aA aV dJ)) (.ret (lM cQ (jD .eZ aU aV (.s "/"))))))⟩,
 ⟨["tokens", "at", "items", "name", "dims"],2,3,["need_name", "parse_dims", "is_op", "is_block"],.asg 2 (.pU .nil) (.whl (.b true) (.fV [3,1] (eF .lX aU aV) (.fV [4,1] (eF .qK aU aV) (.expr (.app cQ (Ah fP mK .none)) (.ifs (.not (jD .dR aU aV (.s ","))) (.Ck 2 (.ret (lM cQ aV))) .done (.aug 1 .Add dJ (.ifs (eF .Av aU aV) (.Ck 2 (.ret (lM cQ aV))) .done .done)))))) .done)⟩,
 ⟨["text", "tokens", "block", "at", "items", "found"],1,5,["tokens_of", "parse_block", "parse_members", "is_block", "need_end"],.asg 1 (lB .lY (.mX aU (.pt (.i 6)) .nil)) (.fV [2,3] (eF .rN aV mY) (.fV [4,3] (eF .oK aV fP) (.asg 5 (.pU (e1 (Ah (.s "common") cQ mK))) (.whl (eF .Av aV fP) (.fV [2,3] (eF .rN aV fP) (.fV [4,3] (eF .oK aV fP) (aX (.app Hw (Ah (.s "common") cQ mK))))) (.expr (eF .oU aV fP) (.Ck 5 (.ret Hw)))))))⟩,
 ⟨["tokens", "at", "tree", "base"],2,2,["parse_target", "SyntaxFault"],.fV [2,1] (eF .uT aU aV) (.asg 3 cQ (.ifs (aE (aS cQ mY) (.s "sub")) (.asg 3 (aS cQ dJ) .done) .done (.ifs (.and (aE (aS fP mY) (.s "ref")) (aE (aS fP Od) Cm)) (.raise (.s "brackets without a subscript")) .done (.ret (lM cQ aV)))))⟩,
 ⟨["tokens", "at", "tree", "group"],2,2,["parse_place", "need_op", "is_op", "len", "SyntaxFault"],.fV [2,1] (eF .rP aU (jD .eZ aU aV (.s "("))) (.asg 3 (.pU (e1 cQ)) (.whl (jD .dR aU aV (.s ",")) (.fV [2,1] (eF .rP aU (aA aV dJ)) (aX (.app fP cQ))) (.ifs (.cmp .Lt (aL fP) Od) (.raise (.s "a group of one thing")) .done (.Ck 3 (.ret (lM fP (jD .eZ aU aV (.s ")"))))))))⟩,
 ⟨["text", "tokens", "group", "at", "groups"],1,4,["tokens_of", "parse_group", "is_op", "need_end"],.asg 1 (lB .lY (.mX aU (.pt (.i 11)) .nil)) (.fV [2,3] (eF .rQ aV mY) (.asg 4 (.pU (e1 cQ)) (.whl (jD .dR aV fP (.s ",")) (.fV [2,3] (eF .rQ aV (aA fP dJ)) (aX (.app mK cQ))) (.expr (eF .oU aV fP) (.Ck 4 (.ret (uM (lM (.s "equiv") mK))))))))⟩,
 ⟨["text", "tokens", "at", "pairs", "is_more", "name", "tree"],1,6,["tokens_of", "need_op", "need_name", "parse_expr", "is_op", "need_end"],.asg 1 (lB .lY (.mX aU (.pt (.i 9)) .nil)) (.asg 2 (jD .eZ aV mY (.s "(")) (.asg 3 (.pU .nil) (.asg 4 (.b true) (.whl mK (.fV [5,2] (eF .lX aV cQ) (.fV [6,2] (eF .cY aV (jD .eZ aV cQ (.s "="))) (.expr (.app fP (lM Hw SX)) (.asg 4 (jD .dR aV cQ (.s ",")) (.ifs mK (.aug 2 .Add dJ .done) .done .done))))) (.expr (eF .oU aV (jD .eZ aV cQ (.s ")"))) (.Ck 3 (.ret (uM (lM (.s "param") fP)))))))))⟩,
 ⟨["pool", "many", "digit"],2,1,["len"],.ifs (aE (aL aU) mY) (.ret mY) .done (.asg 2 (.bin .Mod (aS aU mY) aV) (.QG aU mY (.bin .FloorDiv (aS aU mY) aV) (.ifs (aE (aS aU mY) mY) (aX (hP 0)) .done (.ret cQ))))⟩,
 ⟨["rest"],1,0,[],.setC aU .nil .nil (uM (.s "?")) .done⟩,
 ⟨["rest", "sign"],2,0,["_law_bad"],.ifs (aE (.eG aU .nil (.pt dJ)) (uM aV)) (aX (hP 0)) (aX (lB .mW aU)) .done⟩,
 ⟨["rest"],1,0,[],.ret (.Ju (.cmp .NotEq aU Cm) (aS (aS aU mY) mY) (.s ""))⟩,
 ⟨["rest"],1,0,["_law_first", "_law_letters", "_law_bad"],.ifs (.or (.cmp .NotIn (lB .tG aU) (.k .lZ)) (aE aU Cm)) (.expr (lB .mW aU) (.ret (.s ""))) .done (.ret (hP 0))⟩,
 ⟨["rest", "tree"],1,1,["_law_sum"],.asg 1 (lB .Aw aU) (.whl (hE 0 "//") (.expr (hP 0) (.asg 1 (m7 (.s "bin") (.s "//") aV (lB .Aw aU)) .done)) (.ret aV))⟩,
 ⟨["rest", "sign", "tree"],1,2,["_law_term"],.ifs (hI 0 "+" "-") (.asg 1 (hP 0) (.asg 2 (Ah (.s "un") aV (lB .tK aU)) .done)) (.asg 2 (lB .tK aU) .done) (.whl (hI 0 "+" "-") (.asg 1 (hP 0) (.asg 2 (m7 (.s "bin") aV cQ (lB .tK aU)) .done)) (.ret cQ))⟩,
 ⟨["rest", "tree", "sign"],1,2,["_law_power"],.asg 1 (lB .qC aU) (.whl (hI 0 "*" "/") (.asg 2 (hP 0) (.asg 1 (m7 (.s "bin") cQ aV (lB .qC aU)) .done)) (.ret aV))⟩,
 ⟨["rest", "tree"],1,1,["_law_primary", "_law_power"],.asg 1 (lB .rR aU) (.ifs (hE 0 "**") (.expr (hP 0) (.ret (m7 (.s "bin") (.s "**") aV (lB .qC aU)))) .done (.ret aV))⟩,
 ⟨["rest", "at", "sign"],2,1,["len", "_law_digits", "int"],.asg 2 (.Ju (aE (.eG aU (.pt aV) (.pt (aA aV dJ))) (uM (.s "-"))) (.neg dJ) dJ) (.ifs (.cmp .In (.eG aU (.pt aV) (.pt (aA aV dJ))) (lM (uM (.s "+")) (uM (.s "-")))) (.aug 1 .Add dJ .done) .done (.ifs (.and (.cmp .Lt aV (aL aU)) (.cmp .In (aS (aS aU aV) mY) (.k .iT))) (.ret (lM (.bin .Mult cQ (.bf .int (aS aU aV))) (aA aV dJ))) .done (.ret (lM mY (.neg dJ)))))⟩,
 ⟨["rest", "left", "comma", "right", "end"],1,4,["_law_signed"],.fV [1,2] (eF .uX aU dJ) (.ifs (.or (hN 0 "(") (.or (.cmp .Lt cQ mY) (.cmp .NotEq (.eG aU (.pt cQ) (.pt (aA cQ dJ))) (uM (.s ","))))) (.ret .none) .done (.fV [3,4] (eF .uX aU (aA cQ dJ)) (.ifs (.or (.cmp .Lt mK mY) (.cmp .NotEq (.eG aU (.pt mK) (.pt (aA mK dJ))) (uM (.s ")")))) (.ret .none) .done (.setC aU .nil .nil (.eG aU (.pt (aA mK dJ)) .nil) (.ret (Ah (.s "cplx") (lM (.s "int") aV) (lM (.s "int") fP)))))))⟩,
 ⟨["rest", "tree"],1,1,["_law_first", "_law_digits", "int", "_law_named", "_law_complex", "_law_expr", "_law_need"],.ifs (.and (.cmp .In (lB .tG aU) (.k .iT)) (.cmp .NotEq aU Cm)) (.ret (lM (.s "int") (.bf .int (hP 0)))) .done (.ifs (hN 0 "(") (.ret (lB .xV aU)) .done (.asg 1 (lB .wG aU) (.ifs (.cmp .Is aV .none) (.expr (hP 0) (.asg 1 (lB .fU aU) (aX (eF .fQ aU (.s ")"))))) .done (.ret aV))))⟩,
 ⟨["rest", "depth", "found", "token"],1,3,[],.asg 1 mY (.asg 2 dJ (.forL 3 aU (.ifs (aE fP (.s "(")) (.aug 1 .Add dJ .done) .done (.ifs (aE fP (.s ")")) (.aug 1 .Sub dJ .done) .done (.ifs (.and (aE fP (.s ":")) (aE aV dJ)) (.asg 2 Od .done) .done (.ifs (aE aV mY) (.ret cQ) .done .done)))) (.ret mY)))⟩,
 ⟨["rest", "name", "tree", "way", "low", "high"],1,5,["_law_name", "_law_colon", "_law_bad", "_law_args", "_law_expr", "_law_need"],.asg 1 (lB .tH aU) (.asg 2 (lM (.s "name") aV) (.ifs (hE 0 "(") (.asg 3 (lB .Cz aU) (.ifs (aE fP mY) (aX (lB .mW aU)) .done (.ifs (aE fP dJ) (.asg 2 (Ah (.s "ref") aV (lB .Gw aU)) .done) .done .done))) .done (.ifs (hE 0 "(") (.expr (hP 0) (.asg 4 (.Ju (hE 0 ":") .none (lB .fU aU)) (.expr (eF .fQ aU (.s ":")) (.asg 5 (.Ju (hE 0 ")") .none (lB .fU aU)) (.expr (eF .fQ aU (.s ")")) (.asg 2 (m7 (.s "sub") cQ mK Hw) .done)))))) .done (.ret cQ))))⟩,
 ⟨["rest", "args"],1,1,["_law_expr", "_law_need"],.expr (hP 0) (.ifs (hE 0 ")") (.expr (hP 0) (.ret Cm)) .done (.asg 1 (.pU (e1 (lB .fU aU))) (.whl (hE 0 ",") (.expr (hP 0) (aX (.app aV (lB .fU aU)))) (.expr (eF .fQ aU (.s ")")) (.Ck 1 (.ret aV))))))⟩,
 ⟨["rest", "tree", "base"],1,2,["_law_named", "_law_bad"],.asg 1 (lB .xV aU) (.asg 2 (.Ju (aE (aS aV mY) (.s "sub")) (aS aV dJ) aV) (.ifs (.and (aE (aS cQ mY) (.s "ref")) (aE (aS cQ Od) Cm)) (aX (lB .mW aU)) .done (.ret aV)))⟩,
 ⟨["text", "rest", "at", "end"],1,3,["len", "_law_letters", "_law_digits"],.asg 1 (.pU .nil) (.asg 2 mY (.whl (.cmp .Lt cQ (aL aU)) (.asg 3 (aA cQ dJ) (.ifs (.cmp .In (aS aU cQ) (.k .lZ)) (.whl (.and (.cmp .Lt fP (aL aU)) (.cmp .In (aS aU fP) (aA (.k .lZ) (.k .iT)))) (.aug 3 .Add dJ .done) (.ifs (.cmp .Gt (.bin .Sub fP cQ) (.i 6)) (.drop (.ret (.pU (e1 (.s "?"))))) .done .done)) (.ifs (.cmp .In (aS aU cQ) (.k .iT)) (.whl (.and (.cmp .Lt fP (aL aU)) (.cmp .In (aS aU fP) (.k .iT))) (.aug 3 .Add dJ .done) .done) (.ifs (aE (aS aU cQ) (.s "'")) (.whl (.and (.cmp .Lt fP (aL aU)) (.or (.cmp .NotEq (aS aU fP) (.s "'")) (aE (.mX aU (.pt (aA fP dJ)) (.pt (aA fP Od))) (.s "'")))) (.aug 3 .Add (.Ju (aE (aS aU fP) (.s "'")) Od dJ) .done) (.ifs (.cmp .GtE fP (aL aU)) (.drop (.ret (.pU (e1 (.s "?"))))) .done (.aug 3 .Add dJ .done))) (.ifs (.and (.cmp .In (aS aU cQ) (.s "*/")) (aE (.mX aU (.pt fP) (.pt (aA fP dJ))) (aS aU cQ))) (.aug 3 .Add dJ .done) .done .done) .done) .done) (.expr (.app aV (.mX aU (.pt cQ) (.pt fP))) (.asg 2 fP .done)))) (.ret aV)))⟩,
 ⟨["pool", "row", "others", "turn", "at", "way", "token"],3,4,["list", "range", "_law_take", "len"],.asg 1 (.bf .list aV) (.forR 3 (eF .cD aU Oe) (.asg 4 (.bin .Mod (eF .cD aU (.i 24)) (aA (aL aV) dJ)) (.asg 5 (eF .cD aU Oe) (.asg 6 (aS cQ (eF .cD aU (aL cQ))) (.ifs (aE Hw mY) (.setC aV (.pt mK) (.pt (aA mK dJ)) Cm .done) (.ifs (aE Hw dJ) (.setC aV (.pt mK) (.pt mK) (uM SX) .done) (.setC aV (.pt mK) (.pt (aA mK dJ)) (uM SX) .done) .done) .done)))) (.Ck 1 (.ret aV)))⟩,
 ⟨["pool", "number", "name", "forms"],1,3,["str", "_law_take"],.asg 1 (.bf .str (eF .cD aU (.i 4))) (.asg 2 (aS (Ah (.s "N") (.s "A") (.s "X1")) (eF .cD aU Oe)) (.asg 3 (.tup (.cons (uM aV) (e4 (uM cQ) (.lst (e2 (.s "-") aV)) (.lst (e3 cQ (.s "+") aV)) (.lst (.cons cQ (.cons (.s "(") (e4 aV (.s ",") cQ (.s ")")))))))) (.asg 3 (aA fP (Ah (.lst (.cons (.s "(") (.cons cQ (.cons (.s "-") (e4 aV (.s ")") (.s "*") (.s "2")))))) (.lst (.cons cQ (e4 (.s "**") (.s "2") (.s "**") aV))) (.lst (.cons cQ (e4 (.s "(") (.s ":") aV (.s ")")))))) (.ret (aS fP (eF .cD aU (.i 8)))))))⟩,
 ⟨["pool", "row", "turn", "way", "bound"],1,4,["range", "_law_take", "_law_small"],.asg 1 Cm (.forR 2 (eF .cD aU Oe) (.asg 3 (eF .cD aU (.i 4)) (.asg 4 (.Ju (.cmp .Lt fP Oe) (lB .law_small aU) (uM (.s "*"))) (.ifs (aE fP dJ) (.asg 4 (aA (aA mK (uM (.s ":"))) (lB .law_small aU)) .done) .done (.ifs (aE fP Od) (.asg 4 (aA mK (.lst (e2 (.s ":") (.s "*")))) .done) .done (.asg 1 (aA (aA aV (uM (.Ju (aE cQ mY) (.s "(") (.s ",")))) mK) .done))))) (.ret (.Ju (.cmp .NotEq aV Cm) (aA aV (uM (.s ")"))) aV)))⟩,
 ⟨["pool", "way"],1,1,["_law_take", "str", "_law_small"],.asg 1 (eF .cD aU (.i 4)) (.ifs (aE aV dJ) (.ret (.lst (e2 (.s "*") (.bf .str (eF .cD aU (.i 12)))))) .done (.ifs (aE aV Od) (.ret (.lst (e4 (.s "*") (.s "(") (.s "*") (.s ")")))) .done (.ret (.Ju (aE aV Oe) (aA (aA (.lst (e2 (.s "*") (.s "("))) (lB .law_small aU)) (uM (.s ")"))) Cm))))⟩,
 ⟨["pool", "form", "row", "turn"],2,2,["range", "_law_take", "_law_bounds", "_law_star"],.asg 2 Cm (.forR 3 (aA dJ (eF .cD aU Oe)) (.asg 2 (aA (aA (aA cQ (.Ju (.cmp .Gt fP mY) (uM (.s ",")) Cm)) (uM (aS (Ah (.s "A") (.s "B") (.s "C2")) (eF .cD aU Oe)))) (lB .zM aU)) (.ifs (aE aV dJ) (.asg 2 (aA cQ (lB .Ax aU)) .done) .done .done)) (.ret cQ))⟩,
 ⟨["pool", "row", "turn", "block"],1,3,["range", "_law_take", "_law_names"],.asg 1 Cm (.forR 2 (aA dJ (eF .cD aU Oe)) (.asg 3 (aS (Ah Cm (uM (.s "//")) (.lst (e3 (.s "/") (.s "B1") (.s "/")))) (eF .cD aU Oe)) (.asg 1 (aA (aA (aA aV (.Ju (.and (.cmp .NotEq aV Cm) (aE (eF .cD aU Od) dJ)) (uM (.s ",")) Cm)) fP) (eF .xX aU Oe)) .done)) (.ret aV))⟩,
 ⟨["pool", "row", "turn", "place", "name", "ends"],1,5,["range", "_law_take", "_law_small"],.asg 1 Cm (.forR 2 (aA dJ (eF .cD aU Od)) (.asg 1 (aA (aA aV (.Ju (.cmp .Gt cQ mY) (uM (.s ",")) Cm)) (uM (.s "("))) (.forR 3 (aA Od (eF .cD aU Od)) (.asg 4 (aS (Ah (.s "A") (.s "B") (.s "C2")) (eF .cD aU Oe)) (.asg 5 (m7 Cm (aA (aA (uM (.s "(")) (lB .law_small aU)) (uM (.s ")"))) (.lst (.cons (.s "(") (e4 (.s "1") (.s ":") (.s "2") (.s ")")))) (.lst (.cons (.s "(") (.cons (.s "3") (.cons (.s ")") (e4 (.s "(") (.s ":") (.s "2") (.s ")"))))))) (.asg 1 (aA (aA (aA aV (.Ju (.cmp .Gt fP mY) (uM (.s ",")) Cm)) (uM mK)) (aS Hw (eF .cD aU (.i 4)))) .done))) (.asg 1 (aA aV (uM (.s ")"))) .done))) (.ret aV))⟩,
 ⟨["pool", "row", "turn"],1,2,["range", "_law_take", "_law_small"],.asg 1 (uM (.s "(")) (.forR 2 (aA dJ (eF .cD aU Oe)) (.asg 1 (aA (aA (aA aV (.Ju (.cmp .Gt cQ mY) (uM (.s ",")) Cm)) (.lst (e2 (aS (Ah (.s "A") (.s "B") (.s "C2")) (eF .cD aU Oe)) (.s "=")))) (lB .law_small aU)) .done) (.ret (aA aV (uM (.s ")")))))⟩,
 ⟨["rest", "dims", "is_more", "low", "high"],1,4,["_law_bad", "_law_expr", "_law_need", "len"],.asg 1 (.pU .nil) (.ifs (hN 0 "(") (.Ck 1 (.ret aV)) .done (.asg 2 (.b true) (.whl cQ (.expr (hP 0) (.ifs (.and (.cmp .NotEq aV Cm) (.cmp .Is (aS (aS aV (.neg dJ)) dJ) .none)) (aX (lB .mW aU)) .done (.asg 3 .none (.asg 4 .none (.ifs (hN 0 "*") (.asg 4 (lB .fU aU) (.ifs (hE 0 ":") (.expr (hP 0) (.asg 3 mK (.asg 4 .none (.ifs (hN 0 "*") (.asg 4 (lB .fU aU) .done) .done .done)))) .done .done)) .done (.ifs (.cmp .Is mK .none) (aX (eF .fQ aU (.s "*"))) .done (.expr (.app aV (lM fP mK)) (.asg 2 (hE 0 ",") .done)))))))) (.ifs (.cmp .Gt (aL aV) (.i 7)) (aX (lB .mW aU)) .done (.expr (eF .fQ aU (.s ")")) (.Ck 1 (.ret aV)))))))⟩,
 ⟨["rest", "number", "tree"],1,2,["_law_first", "_law_digits", "int", "_law_bad", "_law_need", "_law_expr"],.ifs (.and (.cmp .In (lB .tG aU) (.k .iT)) (.cmp .NotEq aU Cm)) (.asg 1 (.bf .int (hP 0)) (.ifs (aE aV mY) (aX (lB .mW aU)) .done (.ret (lM (.s "int") aV)))) .done (.expr (eF .fQ aU (.s "(")) (.asg 2 (.s "*") (.ifs (hE 0 "*") (aX (hP 0)) (.asg 2 (lB .fU aU) .done) (.expr (eF .fQ aU (.s ")")) (.ret cQ)))))⟩,
 ⟨["rest", "form", "name", "dims", "length"],2,3,["_law_name", "_law_bad", "_law_dims", "_law_length"],.asg 2 (lB .tH aU) (.ifs (.and (aE aV Od) (hN 0 "(")) (aX (lB .mW aU)) .done (.asg 3 (lB .Gy aU) (.asg 4 .none (.ifs (.and (aE aV dJ) (hE 0 "*")) (.expr (hP 0) (.asg 4 (lB .uY aU) .done)) .done (.ret (Ah cQ fP mK))))))⟩,
 ⟨["rest", "form", "items"],2,1,["_law_item"],.asg 2 (.pU (e1 (eF .Ay aU aV))) (.whl (.and (hE 0 ",") (.not (.and (aE aV Oe) (.cmp .In (.eG aU (.pt dJ) (.pt Od)) (lM (uM (.s "/")) (uM (.s "//"))))))) (.expr (hP 0) (aX (.app cQ (eF .Ay aU aV)))) (.ifs (.and (aE aV Oe) (hE 0 ",")) (aX (hP 0)) .done (.Ck 2 (.ret cQ))))⟩,
 ⟨["rest", "found", "block"],1,2,["_law_name", "_law_need", "_law_list"],.asg 1 (.pU .nil) (.whl (.or (aE aV Cm) (hI 0 "/" "//")) (.asg 2 (.s "") (.ifs (hE 0 "/") (.expr (hP 0) (.asg 2 (lB .tH aU) (aX (eF .fQ aU (.s "/"))))) (.ifs (hE 0 "//") (aX (hP 0)) .done .done) (aX (.app aV (Ah (.s "common") cQ (eF .wH aU Oe)))))) (.Ck 1 (.ret aV)))⟩,
 ⟨["rest", "form", "kind", "length", "groups", "group", "name"],3,4,["_law_length", "_law_list", "_law_commons", "_law_need", "_law_place", "len", "_law_bad", "_law_name", "_law_expr"],.ifs (.or (aE aV mY) (aE aV dJ)) (.asg 3 .none (.ifs (.and (aE aV dJ) (hE 0 "*")) (.expr (hP 0) (.asg 3 (lB .uY aU) (.ifs (hE 0 ",") (aX (hP 0)) .done .done))) .done (.ret (uM (m7 (.s "type") cQ fP (eF .wH aU aV)))))) .done (.ifs (aE aV Od) (.ret (uM (lM (.s "dimension") (eF .wH aU aV)))) .done (.ifs (aE aV Oe) (.ret (lB .wI aU)) .done (.asg 4 (.pU .nil) (.ifs (aE aV (.i 4)) (.whl (.or (aE mK Cm) (hE 0 ",")) (.ifs (.cmp .NotEq mK Cm) (aX (hP 0)) .done (.expr (eF .fQ aU (.s "(")) (.asg 5 (.pU (e1 (lB .xW aU))) (.whl (hE 0 ",") (.expr (hP 0) (aX (.app Hw (lB .xW aU)))) (.ifs (.cmp .Lt (aL Hw) Od) (aX (lB .mW aU)) .done (.expr (eF .fQ aU (.s ")")) (.Ck 5 (aX (.app mK Hw))))))))) (.Ck 4 (.ret (uM (lM (.s "equiv") mK))))) .done (.expr (eF .fQ aU (.s "(")) (.whl (.or (aE mK Cm) (hE 0 ",")) (.ifs (.cmp .NotEq mK Cm) (aX (hP 0)) .done (.asg 6 (lB .tH aU) (.expr (eF .fQ aU (.s "=")) (aX (.app mK (lM SX (lB .fU aU))))))) (.expr (eF .fQ aU (.s ")")) (.Ck 4 (.ret (uM (lM (.s "param") mK)))))))))))⟩,
 ⟨["form", "kind", "text", "word", "readers"],3,2,["parse_integer", "parse_real", "parse_double", "parse_complex", "parse_logical", "parse_character", "parse_dimension", "parse_common", "parse_equivalence", "parse_parameter", "F77Error"],.ifs (aE aU mY) (.asg 3 (aS (.tup (.cons (.s "INTEGER") (e4 (.s "REAL") (.s "DOUBLEPRECISION") (.s "COMPLEX") (.s "LOGICAL")))) aV) (.asg 4 (.tup (.cons (.fn .oG) (e4 (.fn .uV) (.fn .pQ) (.fn .oH) (.fn .oJ)))) (.ret (.Qz mK aV (e1 (aA fP cQ)))))) .done (.ifs (aE aU dJ) (.ret (lB .pG (aA (.s "CHARACTER") cQ))) .done (.ifs (aE aU Od) (.ret (lB .pH (aA (.s "DIMENSION") cQ))) .done (.ifs (aE aU Oe) (.ret (lB .uW (aA (.s "COMMON") cQ))) .done (.ifs (aE aU (.i 4)) (.ret (lB .mV (aA (.s "EQUIVALENCE") cQ))) .done (.ret (lB .pI (aA (.s "PARAMETER") cQ)))))))⟩,
 ⟨[],0,0,[],.done⟩,
 ⟨[],0,0,[],.done⟩,
 ⟨[],0,0,[],.done⟩,
 ⟨[],0,0,[],.done⟩]
noncomputable def Hx (f : Fn) : CT := nth aIi f.val ⟨[],0,0,[],.done⟩
noncomputable def W6 (l : List (Str × NameKind)) (x : Str) : Bool := decide (l.lookup x = some .local) && !(x == "__debug__")
noncomputable def vp (l : List (Str × NameKind)) (x : Str) : Bool := decide (l.lookup x = some .globalImplicit) && !(x == "__debug__")
noncomputable def Og (d : CT) (sc : Scope) : Bool :=
 d.ns.all (W6 sc.names) && d.gs.all (vp sc.names) && decide d.ns.Nodup && sc.names.all (fun x => x.2 != .cell) && !sc.isCoroutine && !sc.isGenerator && decide (sc.kind = .function) && aOg d.ns.length (d.np + d.nl)
noncomputable def Ui (d : CT) (name : Str) (ar : Arguments) (body : List Stmt) (sc : Scope) : Prop :=
 ∀ vs : List Value,vs.length = d.np -> ∀ doc pm an cdv ct,bindArgs (fnOf name name ar body sc .none .none doc pm an cdv ct) ⟨vs,[]⟩ = pure ((d.ns.take d.np).zip vs)
inductive zA (G : eX) (fa : Addr) (d : CT) (ok : List Stmt -> Bool) : Prop
 | mk (name : Str) (ar : Arguments) (body : List Stmt) (sc : Scope) (e : (Og d sc && ok body) = true) (b : Ui d name ar body sc) (oc : Value) (od : Option Addr) (osl : Array (Option Value)) (doc pm : Value) (an : Option Addr) (cdv ct : Value)
  (h1 : G.h₀.get? fa = some ⟨oc,od,.func (fnOf name name ar body sc .none .none doc pm an cdv ct),osl⟩) (h2 : G.h₀.CodeRec cdv name)
noncomputable def zQ (d : CT) (ss : List Stmt) : Bool := mS d.ns d.gs d.b ss
noncomputable abbrev Mu : Nat -> En
 | n + 1 => none :: Mu n
 | 0 => []
noncomputable abbrev zB : List V -> Nat -> En
 | x :: r,n => some x :: zB r n
 | [],n => Mu n
noncomputable abbrev rK (Q : KV) : KF := fun φ _ σ => Q (Xd φ) σ
theorem Hy {ρ : eE} : ∀ {ns : List Str} {xs : List V},xs.length <= ns.length -> Vb (ns.take xs.length) xs (ns.drop xs.length) = zl ns (zB xs (ns.length - xs.length))
 | [],[],_ => rfl
 | n :: ns,[],_ => by
  show ([] : eE) ++ (n :: ns).map (fun x => (x,none)) = zl (n :: ns) (Mu (ns.length + 1));rw [aMd];have : ∀ ns : List Str,ns.map (fun x => (x,(none : Option V))) = zl ns (Mu ns.length) := fun ns => by
   induction ns with
   | nil => rfl
   | cons x r ih => exact congrArg ((x,none) :: ·) ih
  exact this (n :: ns)
 | n :: ns,x :: xs,h => by
  have := Hy (ρ := ρ) (ns := ns) (xs := xs) (Nat.le_of_succ_le_succ h);show (n,some x) :: Vb (ns.take xs.length) xs (ns.drop xs.length) = _;rw [this];show _ = (n,some x) :: zl ns (zB xs ((ns.length + 1) - (xs.length + 1)));rw [Nat.add_sub_add_right]
 | [],_ :: _,h => absurd h (Nat.not_succ_le_zero _)
theorem Hz : ∀ (xs : List V) (n : Nat),(zB xs n).length = xs.length + n
 | x :: r,n => by show (zB r n).length + 1 = _; rw [Hz r n,aJs]; exact aJq (iR (UG (Ul (.a (.a U0 U1) (Un 1)) (.a (Up 0 1) U1))) rfl) (iR (UG (Ul (.a (Up 0 1) U1) (.a (.a U0 U1) (Un 1)))) rfl)
 | [],n => by
  have : ∀ n,(Mu n).length = n := fun n => by
   induction n with
   | zero => rfl
   | succ n ih => exact congrArg (· + 1) ih
  show (Mu n).length = _;rw [this,List.length_nil,Nat.zero_add]
section
variable {G : eX} {c : Cfg G} {X : Prop}
theorem CV {fa : Addr} {d : CT} {ok : List Stmt -> Bool} (hf : zA G fa d ok) {xs : List V} {σ : aW} {Q : KV} (hl : xs.length = d.np) (hn : 1 <= c.n)
  (h : ∀ (e : Cfg G) (ss : List Stmt),e.n + 1 = c.n -> (∀ a,e.W a -> σ a ≠ .none) -> e.gn = d.gs -> ok ss = true -> (zB xs d.nl).length = d.ns.length ->
   WS e ss (zl d.ns (zB xs d.nl)) σ (QL d.ns (rK Q)) X) : aR c (.ref fa) xs σ Q X := by
 obtain ⟨name,ar,body,sc,hok,hbind,oc,od,osl,doc,pm,an,cdv,ct,h1,h2⟩ := hf;obtain ⟨hok,hb⟩ := qM hok;obtain ⟨hok,hle⟩ := qM hok;obtain ⟨hok,hkind⟩ := qM hok;obtain ⟨hok,hgen⟩ := qM hok;obtain ⟨hok,hco⟩ := qM hok;obtain ⟨hok,hcell⟩ := qM hok;obtain ⟨hloc,JF,hnd⟩ := aGc hok;have hlen := aLr hle;have hns : d.np <= d.ns.length := by exact Z42 hlen
 have loc : ∀ x ∈ d.ns,sc.names.lookup x = some .local /\ (x == ("__debug__" : Str)) = false := fun x hx => by
  obtain ⟨a,b⟩ := qM (aKp.mp hloc x hx);exact ⟨of_decide_eq_true a,by simpa using b⟩
 have gl : ∀ x ∈ d.gs,sc.names.lookup x = some .globalImplicit /\ (x == ("__debug__" : Str)) = false := fun x hx => by
  obtain ⟨a,b⟩ := qM (aKp.mp JF x hx);exact ⟨of_decide_eq_true a,by simpa using b⟩
 have hll : (d.ns.take d.np).length = d.np := aOi hns;have hsplit : d.ns.take d.np ++ d.ns.drop d.np = d.ns := aMy _ _;refine aR.intro (st := .FunctionDef name ar body [] .none [] sc .none name default) (ps := d.ns.take d.np) (ls := d.ns.drop d.np) (gs := d.gs)
  ⟨name,_,body,sc,rfl,oc,od,osl,doc,pm,an,cdv,ct,h1,h2⟩ rfl (hl.trans hll.symm) hn (fun vs hv => hbind vs (hv.trans hll)) (by rw [hsplit]; exact of_decide_eq_true hnd) (by rw [hsplit]; exact loc) gl
  (fun x hx e => by have := aKp.mp hcell x hx; rw [e] at this; exact absurd this (by decide)) (by simpa using hco) (by simpa using hgen) (of_decide_eq_true hkind) (fun e hen _ heg _ _ hW => ?_)
 have hz := Hy (ρ := []) (ns := d.ns) (xs := xs) (Z43 hl hlen);rw [hl,show d.ns.length - d.np = d.nl by exact aJq (Z44 (aJo (Z42 hlen)) hlen) (Z45 hlen gY)] at hz;rw [hz];refine (h e body hen hW heg hb (by rw [Hz]; exact aJq (Z46 hl hlen) (Z47 hlen hl))).mono (fun φ l σ' q => ?_) id;obtain ⟨ρ,_,_,q⟩ := q;exact ⟨σ',Sub.refl _,q⟩
noncomputable def vq (f : Fn) : Bool := !M8 [82,83,84,85,86] f.val
structure Facts (G : eX) where
 a : Fn -> Addr
 f : ∀ k,vq k = true -> zA G (a k) (Hx k) (zQ (Hx k))
 N : N5 G a
theorem aN (F : Facts G) (k : Fn) {xs : List V} {σ : aW} {Q : KV} {ns gs : List Str} {np nl : Nat} {b : S} (hd : Hx k = ⟨ns,np,nl,gs,b⟩) (hl : xs.length = np) (hn : 1 <= c.n)
  (h : ∀ d : Cfg G,d.n + 1 = c.n -> (∀ a,d.W a -> σ a ≠ .none) -> vS d F.a X b (zB xs nl) σ (rK Q)) (hk : vq k = true := by rfl) : aR c (.ref (F.a k)) xs σ Q X :=
 CV (F.f k hk) (by rw [hd]; exact hl) hn fun e ss h1 h2 h3 h4 h5 => by
  rw [hd] at h3 h4 h5 ⊢;exact Oc F.N h3 _ h4 h5 (h e h1 h2)
end
end Mine
end
namespace Mine
variable {G : eX} {c : Cfg G} {A : Fn -> Addr} {X : Prop} {σ : aW}
theorem Ia {o : M5} {xs : List V} {Q : KV} (h : ∀ ρ t,CG o t -> WO c Rep t xs ρ σ Q X) : iU c X o xs σ Q := by
 unfold iU; exact h
section
variable {xs : List V} {Q : KV}
theorem Dh {o : Operator} (h : ∀ ρ,WO c Rep (fun vs => binaryOp o (vs.getD 0 .none) (vs.getD 1 .none)) xs ρ σ Q X) : iU c X (.bin o) xs σ Q := Ia fun ρ t ht => by cases ht; exact h ρ
theorem aIj {o : Operator} (h : ∀ ρ,WO c Rep (fun vs => inplaceOp o (vs.getD 0 .none) (vs.getD 1 .none)) xs ρ σ Q X) : iU c X (.Y5 o) xs σ Q := Ia fun ρ t ht => by cases ht; exact h ρ
theorem Ib {o : CmpOp} (h : ∀ ρ,WO c Rep (fun vs => compareOp o (vs.getD 0 .none) (vs.getD 1 .none)) xs ρ σ Q X) : iU c X (.cmp o) xs σ Q := Ia fun ρ t ht => by cases ht; exact h ρ
theorem Gf (h : ∀ ρ value slice,zH slice -> WO c Rep (fun vs => subscriptTail value slice (vs.getD 0 .none) (vs.getD 1 .none)) xs ρ σ Q X) : iU c X .item xs σ Q := Ia fun ρ t ht => by cases ht; exact h _ _ _ (by assumption)
end
theorem nQ {x : V} {xs : List V} {Q : KV} (hx : bR σ x = some xs) (hl : xs.length < 2 ^ 62) (q : Q (.int xs.length) σ) : iU c X (.bf .len) [x] σ Q := Ia fun ρ t h => by cases h; exact um hx hl q
theorem vA {x : Str} {Q : KV} (hl : x.length < 2 ^ 62) (q : Q (.int x.length) σ) : iU c X (.bf .len) [.str x] σ Q := Ia fun ρ t h => by cases h; exact uo hl q
theorem Xp {x : Str} {n : Int} {Q : KV} (hn : PySem.intText? x = some n) (hl : x.length <= 640) (q : Q (.int n) σ) : iU c X (.bf .int) [.str x] σ Q := Ia fun ρ t h => by cases h; exact aFl hn hl q
theorem Z8 {a : Int} {Q : KV} (ha : a.natAbs.log2 < 1920) (q : Q (.str (aJp (toString a))) σ) : iU c X (.bf .str) [.int a] σ Q := Ia fun ρ t h => by cases h; exact aFm ha q
theorem N8 {x : V} {xs : List V} {Q : KV} (hx : bR σ x = some xs) (hl : xs.length <= sizeLine) (q : ∀ a,σ a = .none -> Q (.mut a) (aH σ a xs)) : iU c X (.bf .list) [x] σ Q := Ia fun ρ t h => by cases h; exact K1 hx hl q
theorem Oh {xs : List V} {i : Int} {y : V} {Q : KV} (h0 : 0 <= i) (h1 : i < 2 ^ 62) (hy : xs[i.toNat]? = some y) (q : Q y σ) : iU c X .item [.lst xs,.int i] σ Q := Gf fun _ _ _ hs => J1 h0 h1 hy q hs
theorem vB {a : Addr} {xs : List V} {i : Int} {y : V} {Q : KV} (ha : σ a = some xs) (h0 : 0 <= i) (h1 : i < 2 ^ 62) (hy : xs[i.toNat]? = some y) (q : Q y σ) : iU c X .item [.mut a,.int i] σ Q := Gf fun _ _ _ hs => J3 ha h0 h1 hy q hs
theorem Xq {a : Addr} {xs : List V} {y : V} {Q : KV} (ha : σ a = some (xs ++ [y])) (hl : xs.length < 2 ^ 61) (q : Q y σ) : iU c X .item [.mut a,.int (-1)] σ Q := Gf fun _ _ _ hs => J4 ha hl q hs
theorem iH {x : Str} {i : Int} {k : Nat} {Q : KV} (h0 : 0 <= i) (h1 : i < 2 ^ 62) (hy : x.cps[i.toNat]? = some k) (q : Q (.str ⟨#[k]⟩) σ) : iU c X .item [.str x,.int i] σ Q := Gf fun _ _ _ hs => J5 h0 h1 hy q hs
theorem TF {a b : Int} {Q : KV} (hm : IntMulOk a b) (q : Q (.int (a * b)) σ) : iU c X (.bin .Mult) [.int a,.int b] σ Q := Dh fun _ => rm hm q
theorem TG {a b : Int} {Q : KV} (hb : b ≠ 0) (q : Q (.int (a.fmod b)) σ) : iU c X (.bin .Mod) [.int a,.int b] σ Q := Dh fun _ => tu hb q
theorem wg {a b : Int} {Q : KV} (hb : b ≠ 0) (hs : b.natAbs < 1073741824) (q : Q (.int (a.fdiv b)) σ) : iU c X (.bin .FloorDiv) [.int a,.int b] σ Q := Dh fun _ => uc hb hs q
theorem nR {a b : Str} {Q : KV} (hl : a.length + b.length <= sizeLine) (q : Q (.str (a ++ b)) σ) : iU c X (.bin .Add) [.str a,.str b] σ Q := Dh fun _ => ud hl q
theorem qN {x y : V} {xs ys : List V} {Q : KV} (hx : bR σ x = some xs) (hy : bR σ y = some ys) (hl : xs.length + ys.length <= sizeLine) (q : Q (.lst (xs ++ ys)) σ) : iU c X (.bin .Add) [x,y] σ Q := Dh fun _ => uf hx hy hl q
theorem wj {xs ys : List V} {Q : KV} (hx : xs ≠ []) (hy : ys ≠ []) (hl : xs.length + ys.length <= sizeLine) (q : Q (.tup (xs ++ ys)) σ) : iU c X (.bin .Add) [.tup xs,.tup ys] σ Q := Dh fun _ => ug hx hy hl q
theorem Ie {x : V} {k : Bool} {Q : KV} (e : lR x = some k) (q : Q (.bool k) σ) : Ej c X (.cmp .Is) [x,.none] σ Q := by
 unfold Ej opV Pz QJ Az;simp only [e];exact q
theorem Rn {x : V} {k : Bool} {Q : KV} (e : lR x = some k) (q : Q (.bool (!k)) σ) : Ej c X (.cmp .IsNot) [x,.none] σ Q := by
 unfold Ej opV Pz QJ Az;simp only [e];exact q
theorem TJ {x y : V} {xs ys : List Str} {Q : KV} (hx : bR σ x = some (sL xs)) (hy : bR σ y = some (sL ys)) (q : Q (.bool (decide (xs = ys))) σ) : iU c X (.cmp .Eq) [x,y] σ Q := Ib fun _ => aFi hx hy q
theorem aj {x y : V} {xs ys : List Str} {Q : KV} (hx : bR σ x = some (sL xs)) (hy : bR σ y = some (sL ys)) (q : Q (.bool (!decide (xs = ys))) σ) : iU c X (.cmp .NotEq) [x,y] σ Q := Ib fun _ => aFj hx hy q
theorem oM {x y : V} {xs : List V} {Q : KV} (hx : bR σ x = some xs) (hy : bR σ y = some []) (q : Q (.bool xs.isEmpty) σ) : iU c X (.cmp .Eq) [x,y] σ Q := Ib fun _ => J8 hx hy q
theorem oN {x y : V} {xs : List V} {Q : KV} (hx : bR σ x = some xs) (hy : bR σ y = some []) (q : Q (.bool (!xs.isEmpty)) σ) : iU c X (.cmp .NotEq) [x,y] σ Q := Ib fun _ => J9 hx hy q
theorem Vw {x : V} {xs ys zs : List Str} {Q : KV} (hx : bR σ x = some (sL xs)) (q : Q (.bool (decide (xs = ys) || decide (xs = zs))) σ) : iU c X (.cmp .In) [x,.tup [.lst (sL ys),.lst (sL zs)]] σ Q := Ib fun _ => uh hx q
theorem aY {σ : aW} {xs : List V} : bR σ (.lst xs) = some xs := rfl
theorem ll {n : Nat} (h : n <= 100) : n <= sizeLine := by rw [sizeLine_eq]; exact eU (UH (Ul U0 (Un 100))<|UG (Ul U0 (Un 16777216))) rfl h
theorem aIv {α : Type} {vs : List α} (h : vs.length = 2) : ∃ a b,vs = [a,b] := by
 match vs,h with
 | [a,b],_ => exact ⟨a,b,rfl⟩
theorem aIk {α : Type} {vs : List α} (h : vs.length = 3) : ∃ a b c,vs = [a,b,c] := by
 match vs,h with
 | [a,b,c],_ => exact ⟨a,b,c,rfl⟩
theorem bA {p : Prop} [Decidable p] {P R : Prop} (h1 : p -> P) (h2 : ¬p -> R) : Jw (decide p) P R := by
 by_cases h : p
 ·rw [decide_eq_true h]; exact h1 h
 ·rw [decide_eq_false h]; exact h2 h
theorem pJ {p : Prop} [Decidable p] {P R : Prop} (h1 : ¬p -> P) (h2 : p -> R) : Jw (!decide p) P R := by
 by_cases h : p
 ·rw [decide_eq_true h]; exact h2 h
 ·rw [decide_eq_false h]; exact h1 h
theorem jO {b : Bool} {P R : Prop} (h1 : b = true -> P) (h2 : b = false -> R) : Jw b P R := by
 cases b
 ·exact h2 rfl
 ·exact h1 rfl
theorem TP {b b' : Bool} {P R : Prop} (e : b = b') (h : Jw b' P R) : Jw b P R := e ▸ h
theorem aGf {b b' : Bool} {P R : Prop} (e : b = b') (h : Jw (!b') P R) : Jw (!b) P R := e ▸ h
theorem Lh {P R : Prop} (h : P) : Jw true P R := h
theorem Vx {P R : Prop} (h : R) : Jw false P R := h
theorem aIl {P R : Prop} (h : R) : Jw (!true) P R := h
theorem s_T {b : Bool} {P R : Prop} (e : b = true) (h : P) : Jw b P R := by rw [e]; exact h
theorem ao {b : Bool} {P R : Prop} (e : b = false) (h : R) : Jw b P R := by rw [e]; exact h
section
variable {i j : Nat} {e : E} {r : S} {ρ : En} {Q : KF} {v : V}
theorem a_n (h : vS c A X r (setAt ρ i .none) σ Q) : vS c A X (.asg i .none r) ρ σ Q := h
theorem a_i {n : Int} (h : vS c A X r (setAt ρ i (.int n)) σ Q) : vS c A X (.asg i (.i n) r) ρ σ Q := h
theorem a_s {x : Str} (h : vS c A X r (setAt ρ i (.str x)) σ Q) : vS c A X (.asg i (.s x) r) ρ σ Q := h
theorem a_b {x : Bool} (h : vS c A X r (setAt ρ i (.bool x)) σ Q) : vS c A X (.asg i (.b x) r) ρ σ Q := h
theorem a_v (h : vS c A X r (setAt ρ i v) σ Q) (g : Hf ρ j = some v := by rfl) : vS c A X (.asg i (.v j) r) ρ σ Q := by
 show kV _ _ _;rw [g]; exact h
theorem a_x {a : Addr} {v : V} (h : vS c A X r ρ σ Q) : kN (vS c A X r) ρ Q v σ := h
theorem a_d (h : vS c A X r ρ σ Q) : vS c A X .done ρ σ (sq (vS c A X r) Q) := h
end
theorem O1 {ι : Type} {t : E} {b r : S} {ρ : En} {Q : KF} (I : ι -> En -> aW -> Prop) (μ : ι -> Nat) (xP : ι) (h₀ : I xP ρ σ)
  (turn : ∀ J : ι -> En -> aW -> Prop,(∀ {i ρ σ},I i ρ σ -> J i ρ σ) -> ∀ i ρ σ,I i ρ σ -> vE c A X t ρ σ (rA (kW (vS c A X b) (vS c A X r) J μ i ρ Q))) : vS c A X (.whl t b r) ρ σ Q :=
 ⟨ι,I,μ,xP,h₀,turn I id⟩
theorem Rp {r Fz : KS} {Q bT : KF} (h : ∀ {ρ},r ρ σ Q -> Fz ρ σ bT) : ∀ {is : List Nat} {vs : List V} {ρ : En},kTs r σ Q is vs ρ -> kTs Fz σ bT is vs ρ
 | [],[],_,q => h q
 | _ :: is,_ :: vs,_,q => Rp h (is := is) (vs := vs) q
 | [],_ :: _,_,q => q
 | _ :: _,[],_,q => q
theorem O2 {is : List Nat} {r Fz : KS} {ρ : En} {Q bT : KF} {v : V} (h : ∀ {ρ},r ρ σ Q -> Fz ρ σ bT) (q : kT is r ρ Q v σ) : kT is Fz ρ bT v σ := by
 unfold kT at q ⊢;split at q
 ·exact Rp h q
 ·exact q
theorem O4 {x : Option V} {Q bT : KV} (h : ∀ v σ,Q v σ -> bT v σ) (q : kV x σ Q) : kV x σ bT := by
 unfold kV at q ⊢;split at q
 ·exact h _ _ q
 ·exact q
theorem aGg {item : Nat -> V} {n x : Nat} {b r : KS} {ρ : En} {Q : KF} (I : Nat -> En -> aW -> Prop) (i0 : I 0 ρ σ)
  (turn : ∀ J : Nat -> En -> aW -> Prop,(∀ {k ρ σ},I k ρ σ -> J k ρ σ) -> ∀ k ρ σ,k < n -> I k ρ σ -> b (setAt ρ x (item k)) σ (lp (J (k + 1)) r Q)) (fin : ∀ ρ σ,I n ρ σ -> r ρ σ Q) : ∃ I,Kq item n x b r ρ σ Q I :=
 ⟨I,i0,turn I id,fin⟩
theorem wk {item : Nat -> V} {n x : Nat} {b r : KS} {ρ : En} {Q : KF} {a : Addr} {xs : List V} (I : Nat -> En -> aW -> Prop) (hI : ∀ k ρ σ,I k ρ σ -> σ a = some xs) (i0 : I 0 ρ σ)
  (turn : ∀ J : Nat -> En -> aW -> Prop,(∀ {k ρ σ},I k ρ σ -> J k ρ σ) -> ∀ k ρ σ,k < n -> I k ρ σ -> b (setAt ρ x (item k)) σ (lp (J (k + 1)) r Q)) (fin : ∀ ρ σ,I n ρ σ -> r ρ σ Q) : ∃ I,(∀ k ρ σ,I k ρ σ -> σ a = some xs) /\ Kq item n x b r ρ σ Q I :=
 ⟨I,hI,i0,turn I id,fin⟩
theorem Xr {J : En -> aW -> Prop} {r Fz : KS} {Q bT : KF} (h : ∀ {ρ σ},r ρ σ Q -> Fz ρ σ bT) (hQ : ∀ φ ρ σ,Q φ ρ σ -> bT φ ρ σ) : ∀ φ ρ σ,lp J r Q φ ρ σ -> lp J Fz bT φ ρ σ := fun φ ρ σ q => by
 cases φ
 ·exact q
 ·exact h q
 ·exact q
 ·exact hQ _ _ _ q
theorem yD {item : Nat -> V} {n x : Nat} {b r Fz : KS} {ρ : En} {Q bT : KF} {I : Nat -> En -> aW -> Prop} (hb : ∀ {ρ σ Q bT},(∀ φ ρ σ,Q φ ρ σ -> bT φ ρ σ) -> b ρ σ Q -> b ρ σ bT) (h : ∀ {ρ σ},r ρ σ Q -> Fz ρ σ bT)
  (hQ : ∀ φ ρ σ,Q φ ρ σ -> bT φ ρ σ) (q : Kq item n x b r ρ σ Q I) : Kq item n x b Fz ρ σ bT I :=
 ⟨q.1,fun k ρ σ hk j => hb (Xr h hQ) (q.2 k ρ σ hk j),fun ρ σ j => h (q.3 ρ σ j)⟩
theorem Gg {s : S} : ∀ {ρ : En} {σ : aW} {Q bT : KF},(∀ φ ρ σ,Q φ ρ σ -> bT φ ρ σ) -> vS c A X s ρ σ Q -> vS c A X s ρ σ bT := by
 induction s with
 | done => exact fun h q => h _ _ _ q
 | asg i e r ih => exact fun h q => cW (fun v σ q => ih h q) q
 | fV is e r ih => exact fun h q => cW (fun v σ q => O2 (fun q => ih h q) q) q
 | aug i o e r ih => exact fun h q => O4 (fun v σ q => cW (fun v σ q => oY (fun v σ q => ih h q) q) q) q
 | ret e => exact fun h q => cW (fun v σ q => h _ _ _ q) q
 | ifs t a b r iha ihb ih =>
  intro ρ σ Q bT h q;have H : ∀ φ ρ σ,sq (vS c A X r) Q φ ρ σ -> sq (vS c A X r) bT φ ρ σ := fun φ ρ σ q => by
   cases φ
   ·exact ih h q
   ·exact h _ _ _ q
   ·exact h _ _ _ q
   ·exact h _ _ _ q
  exact cW (nP fun b σ q => gH (iha H) (ihb H) q) q
 | whl t b r ihb ih =>
  intro ρ σ Q bT h q;obtain ⟨ι,J,μ,xP,j0,turn⟩ := q;exact ⟨ι,J,μ,xP,j0,fun i ρ σ j => cW (nP fun b σ q => gH (ihb (Xr (ih h) h)) (ih h) q) (turn i ρ σ j)⟩
 | forR x e b r ihb ih =>
  intro ρ σ Q bT h q;refine cW (fun v σ q => ?_) q;obtain ⟨n,e1,e2,e3,I,q⟩ := q;exact ⟨n,e1,e2,e3,I,yD ihb (ih h) h q⟩
 | Gz x e e' b r ihb ih =>
  intro ρ σ Q bT h q;refine cW (fun v σ q => ?_) q;obtain ⟨m,e0,q⟩ := q;refine ⟨m,e0,cW (fun v σ q => ?_) q⟩;obtain ⟨n,e1,e2,e3,e4,e5,I,q⟩ := q;exact ⟨n,e1,e2,e3,e4,e5,I,yD ihb (ih h) h q⟩
 | QF x e b r ihb ih =>
  intro ρ σ Q bT h q;refine cW (fun v σ q => ?_) q;obtain ⟨n,e1,e2,I,q⟩ := q;exact ⟨n,e1,e2,I,yD ihb (ih h) h q⟩
 | forL x e b r ihb ih =>
  intro ρ σ Q bT h q;refine cW (fun v σ q => ?_) q;obtain ⟨a,n,e1,I,e2,q⟩ := q;exact ⟨a,n,e1,I,e2,yD ihb (ih h) h q⟩
 | expr e r ih => exact fun h q => cW (fun v σ q => ih h q) q
 | raise e => exact fun h q => q
 | wJ e e' => exact fun h q => q
 | QG o i e r ih => exact fun h q => cW (fun v σ q => cW (fun x σ q => let ⟨a,e1,q⟩ := q; ⟨a,e1,cW (fun y σ q => let ⟨k,xs,a1,a2,a3,a4,a5,q⟩ := q; ⟨k,xs,a1,a2,a3,a4,a5,ih h q⟩) q⟩) q) q
 | setC o lo hi e r ih => exact fun h q => cW (fun v σ q => cW (fun x σ q => let ⟨a,e1,n,q⟩ := q; ⟨a,e1,n,(Hu lo).2.2 _ _ _ _ (fun l σ q => (Hu hi).2.2 _ _ _ _ (fun u σ q => let ⟨xs,ys,a1,a2,a3,q⟩ := q; ⟨xs,ys,a1,a2,a3,ih h q⟩) q) q⟩) q) q
 | Ck i r ih => exact fun h q => let ⟨a,xs,e1,e2,q⟩ := q; ⟨a,xs,e1,e2,ih h q⟩
 | drop r ih => exact fun h q => let ⟨a,q⟩ := q; ⟨a,ih h q⟩
noncomputable abbrev fst : S -> S
 | .expr e _ => .expr e .done
 | .ifs t a b _ => .ifs t a b .done
 | .whl t b _ => .whl t b .done
 | .asg i e _ => .asg i e .done
 | .forR x e b _ => .forR x e b .done
 | s => s
noncomputable abbrev rst : S -> S
 | .expr _ r => r
 | .ifs _ _ _ r => r
 | .whl _ _ r => r
 | .asg _ _ r => r
 | .forR _ _ _ r => r
 | _ => .done
noncomputable abbrev sR (R : En -> aW -> Prop) (Q : KF) : KF := fun φ ρ σ => match φ with
 | .next => R ρ σ
 | φ => Q φ ρ σ
noncomputable def O5 : S -> Prop
 | .ifs .. | .whl .. | .asg .. | .forR .. | .expr .. => True
 | _ => False
theorem Vy {s : S} (hs : O5 s) {ρ : En} {Q : KF} (R : En -> aW -> Prop) (h1 : vS c A X (fst s) ρ σ (sR R Q)) (h2 : ∀ ρ σ,R ρ σ -> vS c A X (rst s) ρ σ Q) : vS c A X s ρ σ Q := by
 have D : ∀ {r : S},(∀ ρ σ,R ρ σ -> vS c A X r ρ σ Q) -> ∀ φ ρ σ,sq (vS c A X .done) (sR R Q) φ ρ σ -> sq (vS c A X r) Q φ ρ σ := fun h φ ρ σ q => by
  cases φ
  ·exact h _ _ q
  ·exact q
  ·exact q
  ·exact q
 have D2 : ∀ {r : S} {J : En -> aW -> Prop},(∀ ρ σ,R ρ σ -> vS c A X r ρ σ Q) -> ∀ φ ρ σ,lp J (vS c A X .done) (sR R Q) φ ρ σ -> lp J (vS c A X r) Q φ ρ σ := fun h φ ρ σ q => by
  cases φ
  ·exact q
  ·exact h _ _ q
  ·exact q
  ·exact q
 cases s with
 | ifs t a b r => exact cW (nP fun b σ q => gH (Gg (D h2)) (Gg (D h2)) q) h1
 | whl t b r =>
  obtain ⟨ι,J,μ,xP,j0,turn⟩ := h1;exact ⟨ι,J,μ,xP,j0,fun i ρ σ j => cW (nP fun b σ q => gH (Gg (D2 h2)) (h2 _ _) q) (turn i ρ σ j)⟩
 | asg i e r => exact cW (fun v σ q => h2 _ _ q) h1
 | expr e r => exact cW (fun v σ q => h2 _ _ q) h1
 | forR x e b r =>
  refine cW (fun v σ q => ?_) h1;obtain ⟨n,e1,e2,e3,I,q⟩ := q;exact ⟨n,e1,e2,e3,I,q.1,fun k ρ σ hk j => Gg (D2 h2) (q.2 k ρ σ hk j),fun ρ σ j => h2 _ _ (q.3 ρ σ j)⟩
 | _ => exact hs.elim
theorem aq {s : S} {ρ : En} {Q : KF} (R : En -> aW -> Prop) (h1 : ∀ R' : En -> aW -> Prop,(∀ {ρ σ},R ρ σ -> R' ρ σ) -> vS c A X (fst s) ρ σ (sR R' Q)) (h2 : ∀ ρ σ,R ρ σ -> vS c A X (rst s) ρ σ Q) (hs : O5 s := by trivial) : vS c A X s ρ σ Q :=
 Vy hs R (h1 R id) h2
theorem wu {s : S} {ρ : En} {Q : KF} (R : En -> aW -> Prop) (h1 : vS c A X (fst s) ρ σ (sR R Q)) (h2 : ∀ ρ σ,R ρ σ -> vS c A X (rst s) ρ σ Q) (hs : O5 s := by trivial) : vS c A X s ρ σ Q :=
 Vy hs R h1 h2
theorem Rq {e : E} {ρ : En} {K : Bool -> aW -> Prop} (b : Bool) (h : vE c A X e ρ σ (rA fun b' σ' => b' = b /\ σ' = σ)) (q : K b σ) : vE c A X e ρ σ (rA K) :=
 cW (nP fun b' σ' h => by obtain ⟨rfl,rfl⟩ := h; exact q) h
theorem wz {e : E} {ρ : En} {Q : KV} (v : V) (h : vE c A X e ρ σ (fun v' σ' => v' = v /\ σ' = σ)) (q : Q v σ) : vE c A X e ρ σ Q :=
 cW (fun v' σ' h => by obtain ⟨rfl,rfl⟩ := h; exact q) h
theorem zE {t : E} {a b r : S} {ρ : En} {Q : KF} (k : Bool) (h1 : vE c A X t ρ σ (rA fun b' σ' => b' = k /\ σ' = σ)) (h2 : Jw k (vS c A X a ρ σ (sq (vS c A X r) Q)) (vS c A X b ρ σ (sq (vS c A X r) Q))) : vS c A X (.ifs t a b r) ρ σ Q :=
 Rq k h1 h2
end Mine
namespace Mine
section
variable {G : eX} {c : Cfg G} {A : Fn -> Addr} {X : Prop} {σ : aW}
theorem O6 {C : En -> aW -> Prop} {ρ ρ' : En} (e : ρ = ρ') (h : C ρ σ) : C ρ' σ := e ▸ h
theorem bH {s : S} {ρ : En} {Q : KF} (K : (En -> aW -> Prop) -> Prop) (h1 : ∀ R',K R' -> vS c A X (fst s) ρ σ (sR R' Q)) (h2 : K (fun ρ σ => vS c A X (rst s) ρ σ Q)) (hs : O5 s := by trivial) : vS c A X s ρ σ Q :=
 Vy hs _ (h1 _ h2) fun _ _ h => h
theorem cO {ι : Type} {t : E} {b r : S} {ρ : En} {Q : KF} (K : ι -> (En -> aW -> Prop) -> Prop) (μ : ι -> Nat) (xP : ι) (h₀ : ∀ C,K xP C -> C ρ σ) (hK : ∀ i,K i (fun ρ σ => ∀ C,K i C -> C ρ σ))
  (turn : ∀ J : ι -> En -> aW -> Prop,(∀ i,K i (J i)) -> ∀ i,K i (fun ρ σ => vE c A X t ρ σ (rA (kW (vS c A X b) (vS c A X r) J μ i ρ Q)))) : vS c A X (.whl t b r) ρ σ Q :=
 ⟨ι,fun i ρ σ => ∀ C,K i C -> C ρ σ,μ,xP,h₀,fun i _ _ h => h _ (turn _ hK i)⟩
theorem sV {item : Nat -> V} {n x : Nat} {b r : KS} {ρ : En} {Q : KF} (K : Nat -> (En -> aW -> Prop) -> Prop) (h₀ : ∀ C,K 0 C -> C ρ σ) (hK : ∀ i,K i (fun ρ σ => ∀ C,K i C -> C ρ σ))
  (turn : ∀ J : Nat -> En -> aW -> Prop,(∀ i,K i (J i)) -> ∀ k,k < n -> K k (fun ρ σ => b (setAt ρ x (item k)) σ (lp (J (k + 1)) r Q))) (fin : K n (fun ρ σ => r ρ σ Q)) : ∃ I,Kq item n x b r ρ σ Q I :=
 ⟨fun i ρ σ => ∀ C,K i C -> C ρ σ,h₀,fun k _ _ hk h => h _ (turn _ hK k hk),fun _ _ h => h _ fin⟩
end
end Mine
namespace Mine
variable {G : eX} {c : Cfg G} {ρ : En} {σ : aW} {X : Prop}
inductive Tk where
 | name (s : Str) | num (ds : Str) (n : Int) | op (s : Str)
deriving DecidableEq
noncomputable def IW (p : Int) : Tk -> V
 | .name s => .tup [.str "NAME",.str s,.int p]
 | .num _ n => .tup [.str "INT",.int n,.int p]
 | .op s => .tup [.str "OP",.str s,.int p]
@[reducible] noncomputable def Di : Tk -> Str
 | .name _ => "NAME"
 | .num _ _ => "INT"
 | .op _ => "OP"
@[reducible] noncomputable def TQ : Tk -> V
 | .name s => .str s
 | .num _ n => .int n
 | .op s => .str s
theorem O7 (p : Int) (t : Tk) : IW p t = .tup [.str (Di t),TQ t,.int p] := by cases t <;> rfl
structure Toks (ts : List Tk) (vs : List V) : Prop where
 len : vs.length = ts.length
 get : ∀ (i : Nat) (t : Tk),ts[i]? = some t -> ∃ p : Int,vs[i]? = some (IW p t)
 small : ts.length < 10000
noncomputable def kd (ts : List Tk) : Str := match ts with
 | t :: _ => Di t
 | [] => ""
noncomputable def hd (ts : List Tk) (s : Str) : Bool := match ts with
 | .op x :: _ => decide (x = s)
 | _ => false
theorem fJ {α : Type} {ts : List α} {k : Nat} {t : α} {r : List α} (h : ts.drop k = t :: r) : k < ts.length /\ ts[k]? = some t /\ r = ts.drop (k + 1) := by
 have h1 : k < ts.length := by
  rcases aPc k ts.length with q | q
  ·exact q
  ·rw [aJz q] at h; cases h
 rw [aKq h1] at h;cases h
 exact ⟨h1,aKo h1,rfl⟩
theorem fD {α : Type} (ts : List α) (k : Nat) : (ts.length <= k /\ ts.drop k = []) \/ ∃ t,k < ts.length /\ ts[k]? = some t /\ ts.drop k = t :: ts.drop (k + 1) := by
 rcases aPc k ts.length with q | q
 ·exact .inr ⟨_,q,aKo q,aKq q⟩
 ·exact .inl ⟨q,aJz q⟩
theorem tail_drop {α : Type} (ts : List α) (k : Nat) : (ts.drop k).tail = ts.drop (k + 1) := by rw [List.tail_drop]
theorem gR {ts : List Tk} {k : Nat} {s : Str} (h : hd (ts.drop k) s = true) : k < ts.length := by
 rcases fD ts k with ⟨_,h2⟩ | ⟨t,h1,_,_⟩
 ·rw [h2] at h; cases h
 ·exact h1
theorem Ig : (("OP" : Str) = "NAME") = False := eq_false (by decide +kernel)
theorem CW : (("OP" : Str) = "INT") = False := eq_false (by decide +kernel)
theorem Ih : (("NAME" : Str) = "OP") = False := eq_false (by decide +kernel)
theorem Rr : (("NAME" : Str) = "INT") = False := eq_false (by decide +kernel)
theorem tQ : (("INT" : Str) = "OP") = False := eq_false (by decide +kernel)
theorem Ek : (("INT" : Str) = "NAME") = False := eq_false (by decide +kernel)
theorem Xu : (("" : Str) = "OP") = False := eq_false (by decide +kernel)
theorem Li : (("" : Str) = "NAME") = False := eq_false (by decide +kernel)
theorem TV : (("" : Str) = "INT") = False := eq_false (by decide +kernel)
theorem Toks.item {ts : List Tk} {vs : List V} {k : Nat} {t : Tk} (T : Toks ts vs) (h : ts[k]? = some t) : ∃ p,vs[k]? = some (.tup [.str (Di t),TQ t,.int p]) := by
 obtain ⟨p,hp⟩ := T.get k t h;exact ⟨p,by rw [hp,O7]⟩
theorem vR {ts : List Tk} {vs : List V} {k : Nat} {t : Tk} {Q : KV} (T : Toks ts vs) (h : ts[k]? = some t) (q : ∀ p,Q (.tup [.str (Di t),TQ t,.int p]) σ) :
  iU c X .item [.lst vs,.int k] σ Q := by
 obtain ⟨p,hp⟩ := T.item h;have hk : k < ts.length := (aNn.mp h).1;have := T.small;exact Oh (Uo) (aEe xR this hk) (by simpa using hp) (q p)
theorem iW (F : Facts G) {ts : List Tk} {vs : List V} {k : Nat} {Q : KV} (hn : 1 <= c.n) (T : Toks ts vs) (q : Q (.str (kd (ts.drop k))) σ) :
  aR c (.ref (F.a .mU)) [.lst vs,.int k] σ Q X := by
 refine aN F .mU rfl rfl (by omega) fun d hdn hW => ?_;refine nQ aY (by rw [T.len]; have := T.small; exact G7 Jx this) ?_;rw [T.len];rcases fD ts k with ⟨h1,h2⟩ | ⟨t,h1,h2,h3⟩
 ·rw [h2] at q;refine bA (fun h => absurd h (aKd.mpr (aEf h1))) (fun h => ?_);exact q
 ·rw [h3] at q;refine bA (fun h => ?_) (fun h => absurd (aMk.mpr h1) h);refine vR T h2 fun p => ?_;exact q
theorem bD (F : Facts G) {ts : List Tk} {vs : List V} {k : Nat} {x : Str} {Q : KV} (hn : 1 <= c.n) (T : Toks ts vs) (q : Q (.bool (hd (ts.drop k) x)) σ) :
  aR c (.ref (F.a .dR)) [.lst vs,.int k,.str x] σ Q X := by
 refine aN F .dR rfl rfl (by omega) fun d hdn hW => ?_;refine nQ aY (by rw [T.len]; have := T.small; exact G7 Jx this) ?_;rw [T.len];rcases fD ts k with ⟨h1,h2⟩ | ⟨t,h1,h2,h3⟩
 ·rw [h2] at q;exact ao (decide_eq_false (aKd.mpr (aEf h1))) q
 ·rw [h3] at q;refine s_T (decide_eq_true (iR (UH (Ut U0 U1)<|UG (UT (.c U0) (.c U1))) rfl h1)) ?_;refine vR T h2 fun p => ?_;cases t with
  | op s =>
   refine s_T (decide_eq_true (by rfl)) ?_;refine vR T h2 fun p => ?_;exact q
  | name s =>
   exact ao (decide_eq_false (by rw [show Di (Tk.name s) = "NAME" from rfl,Ih]; exact id)) q
  | num s =>
   exact ao (decide_eq_false (by rw [show Di (Tk.num s _) = "INT" from rfl,tQ]; exact id)) q
theorem cR (F : Facts G) {ts : List Tk} {vs : List V} {k : Nat} {x : Str} {Q : KV} (hn : 3 <= c.n) (T : Toks ts vs) (hx : x.length <= 10) (hX : hd (ts.drop k) x = false -> X) (q : hd (ts.drop k) x = true -> Q (.int (k + 1 : Nat)) σ) :
  aR c (.ref (F.a .eZ)) [.lst vs,.int k,.str x] σ Q X := by
 refine aN F .eZ rfl rfl (JC hn) fun d hdn hW => ?_;refine bD F (Ga hn hdn) T ?_;refine jO (fun h => ?_) (fun h => ?_)
 ·refine ⟨by exact Xa hn hdn,?_⟩;refine nR (by rw [show (aJp "a mark is missing: ").length = 19 from by decide +kernel,sizeLine_eq]; exact eU (UH (Ul U0 (Un 10))<|UG (Ul (.a (Un 19) U0) (Un 16777216))) rfl hx) ?_;exact hX (by simpa using h)
 ·exact q (by simpa using h)
theorem jY (F : Facts G) {ts : List Tk} {vs : List V} {k : Nat} {Q : KV} (hn : 3 <= c.n) (T : Toks ts vs) (hX : (∀ s r,ts.drop k ≠ .name s :: r) -> X) (q : ∀ s,ts.drop k = .name s :: ts.drop (k + 1) -> Q (.tup [.str s,.int (k + 1 : Nat)]) σ) :
  aR c (.ref (F.a .lX)) [.lst vs,.int k] σ Q X := by
 refine aN F .lX rfl rfl (JC hn) fun d hdn hW => ?_;refine iW F (Ga hn hdn) T ?_;have raises : kd (ts.drop k) ≠ "NAME" -> (∀ s r,ts.drop k ≠ .name s :: r) := fun h s r e => h (by rw [e]; rfl);rcases fD ts k with ⟨h1,h2⟩ | ⟨t,h1,h2,h3⟩
 ·refine pJ (fun h => ?_) (fun h => ?_)
  ·refine ⟨by exact Xa hn hdn,?_⟩;exact hX (raises h)
  ·rw [h2] at h; exact absurd h Li.mp
 ·cases t with
  | name s =>
   refine pJ (fun h => absurd (by rw [h3]; rfl) h) (fun h => ?_);refine vR T h2 fun p => ?_;exact q s h3
  | num s n =>
   refine pJ (fun h => ?_) (fun h => by rw [h3] at h; exact absurd h Ek.mp);refine ⟨by exact Xa hn hdn,?_⟩;exact hX (raises h)
  | op s =>
   refine pJ (fun h => ?_) (fun h => by rw [h3] at h; exact absurd h Ig.mp);refine ⟨by exact Xa hn hdn,?_⟩;exact hX (raises h)
theorem Rt (F : Facts G) {ts : List Tk} {vs : List V} {k : Nat} {d' : Str} {n : Int} {Q : KV} (hn : 3 <= c.n) (T : Toks ts vs) (h3 : ts.drop k = .num d' n :: ts.drop (k + 1)) (q : Q (.tup [.int n,.int (k + 1 : Nat)]) σ) :
  aR c (.ref (F.a .Aq)) [.lst vs,.int k] σ Q X := by
 refine aN F .Aq rfl rfl (JC hn) fun d hdn hW => ?_;refine iW F (Ga hn hdn) T ?_;refine pJ (fun h => absurd (by rw [h3]; rfl) h) (fun h => ?_);refine vR T (fJ h3).2.1 fun p => ?_;exact q
theorem mC (F : Facts G) {ts : List Tk} {vs : List V} {k : Nat} {Q : KV} (hn : 3 <= c.n) (T : Toks ts vs) (hX : ts.drop k ≠ [] -> X) (q : ts.drop k = [] -> Q .none σ) :
  aR c (.ref (F.a .oU)) [.lst vs,.int k] σ Q X := by
 refine aN F .oU rfl rfl (JC hn) fun d hdn hW => ?_;refine nQ aY (by rw [T.len]; have := T.small; exact G7 Jx this) ?_;rw [T.len];refine bA (fun h => ?_) (fun h => ?_)
 ·refine ⟨by exact Xa hn hdn,?_⟩;refine hX fun e => ?_;rw [List.drop_eq_nil_iff] at e;exact Z60 h e
 ·exact q (aJz (gw (aKd.mp h)))
theorem wK (F : Facts G) {n sg : Int} {Q : KV} (hn : 1 <= c.n) (hm : IntMulOk sg n) (q : Q (.tup [.str "int",.int (sg * n)]) σ) :
  aR c (.ref (F.a .rJ)) [.str "INT",.int n,.int sg] σ Q X := by
 refine aN F .rJ rfl rfl (by omega) fun d hdn hW => ?_;refine bA (fun _ => ?_) (fun h => absurd rfl h);refine TF hm ?_;exact q
noncomputable def cA (ts : List Tk) : Option Str := match ts with
 | .op s :: _ => some s
 | _ => none
noncomputable def Ii (ts : List Tk) : Int := match cA ts with
 | some s => (lG s).getD 0
 | none => 0
theorem wL (F : Facts G) {ts : List Tk} {vs : List V} {k : Nat} {Q : KV} (hn : 2 <= c.n) (T : Toks ts vs) (aIm : ∀ s,Tk.op s ∈ ts -> s ∈ (["+", "-", "*", "/", "**", "//", "(", ")", ",", ":", "="] : List Str)) (q : Q (.int (Ii (ts.drop k))) σ) :
  aR c (.ref (F.a .rI)) [.lst vs,.int k] σ Q X := by
 refine aN F .rI rfl rfl (j9 hn) fun d hdn hW => ?_;refine iW F (Gk hn hdn) T ?_;rcases fD ts k with ⟨h1,h2⟩ | ⟨t,h1,h2,h3⟩
 ·refine pJ (fun h => ?_) (fun h => ?_)
  ·rw [h2] at q; exact q
  ·rw [h2] at h; exact absurd h Xu.mp
 ·cases t with
  | op s =>
   refine pJ (fun h => absurd (by rw [h3]; rfl) h) (fun h => ?_);refine vR T h2 fun p => ?_;refine ⟨s,rfl,aIm s (aLv h2),0,rfl,?_⟩;rw [h3] at q; exact q
  | num s n =>
   refine pJ (fun h => ?_) (fun h => by rw [h3] at h; exact absurd h tQ.mp);rw [h3] at q; exact q
  | name s =>
   refine pJ (fun h => ?_) (fun h => by rw [h3] at h; exact absurd h Ih.mp);rw [h3] at q; exact q
end Mine
section
set_option tactic.hygienic true
namespace Mine
noncomputable abbrev P := List Tk -> Option (V × List Tk)
noncomputable def eH (p : P) : Prop := ∀ ts v r,p ts = some (v,r) -> r.length < ts.length
noncomputable def bin (o : Str) (l r : V) : V := .tup [.str "bin",.str o,l,r]
noncomputable def un (o : Str) (x : V) : V := .tup [.str "un",.str o,x]
noncomputable def Ke {A α β : Type} (F : A -> List α -> (A -> List α -> Option β) -> Option β) (a : A) (ts : List α) : Option β :=
 WellFounded.fix (measure fun x : A × List α => x.2.length).wf (fun x rec => F x.1 x.2 fun a' r => if h : r.length < x.2.length then rec (a',r) h else none) (a,ts)
theorem pX {A α β : Type} (F : A -> List α -> (A -> List α -> Option β) -> Option β) (a : A) (ts : List α) : Ke F a ts = F a ts fun a' r => if _h : r.length < ts.length then Ke F a' r else none := WellFounded.fix_eq _ _ _
noncomputable def eV (ops : Str -> Bool) (sub : P) (tree : V) (ts : List Tk) : Option (V × List Tk) :=
 Ke (fun tree ts rec => match cA ts with
 | none => some (tree,ts)
 | some o => if ops o then (match sub ts.tail with
   | none => none
   | some (t,r) => rec (bin o tree t) r)
  else some (tree,ts)) tree ts
theorem lC (ops : Str -> Bool) (sub : P) (tree : V) (ts : List Tk) : eV ops sub tree ts = match cA ts with
 | none => some (tree,ts)
 | some o => if ops o then (match sub ts.tail with
   | none => none
   | some (t,r) => if _h : r.length < ts.length then eV ops sub (bin o tree t) r else none)
  else some (tree,ts) := pX _ _ _
noncomputable def jF (prim : P) (ts : List Tk) : Option (V × List Tk) :=
 Ke (fun (_ : Unit) ts rec => match prim ts with
 | none => none
 | some (t,r) => if hd r "**" then (match rec () r.tail with
   | none => none
   | some (t',r') => some (bin "**" t t',r')) else some (t,r)) () ts
theorem Dj (prim : P) (ts : List Tk) : jF prim ts = match prim ts with
 | none => none
 | some (t,r) => if hd r "**" then (if _h : r.tail.length < ts.length then (match jF prim r.tail with
   | none => none
   | some (t',r') => some (bin "**" t t',r')) else none) else some (t,r) := by
 refine (pX _ _ _).trans ?_;cases prim ts with
 | none => rfl
 | some p =>
  by_cases h : p.2.tail.length < ts.length
  ·dsimp only; rw [dif_pos h,dif_pos h]; rfl
  ·dsimp only; rw [dif_neg h,dif_neg h]
noncomputable def mF (o : Str) : Bool := o = "*" || o = "/"
noncomputable def lH (o : Str) : Bool := o = "+" || o = "-"
noncomputable def rZ (o : Str) : Bool := o = "//"
noncomputable def andThen (x : Option (V × List Tk)) (f : V -> P) : Option (V × List Tk) := match x with
 | none => none
 | some (t,r) => f t r
noncomputable def fG (prim : P) : P := fun ts => andThen (jF prim ts) (eV mF (jF prim))
noncomputable def fZ (ts : List Tk) : Option Str := if hd ts "+" then some "+" else if hd ts "-" then some "-" else none
noncomputable def iY (prim : P) : P := fun ts => match fZ ts with
 | some o => andThen (fG prim ts.tail) fun t r => some (un o t,r)
 | none => fG prim ts
noncomputable def nT (prim : P) : P := fun ts => andThen (iY prim ts) (eV lH (fG prim))
noncomputable def sG (prim : P) : P := fun ts => andThen (nT prim ts) (eV rZ (nT prim))
theorem vC {ts : List Tk} {s : Str} (h : hd ts s = true) : ts.tail.length < ts.length := by
 cases ts with
 | nil => cases h
 | cons t r => exact aKa _
theorem oZ {ts : List Tk} {o : Str} (h : cA ts = some o) : ts.tail.length < ts.length := by
 cases ts with
 | nil => cases h
 | cons t r => exact aKa _
theorem gU {ts : List Tk} {s : Str} : hd ts s = true ↔ cA ts = some s := by
 cases ts with
 | nil => simp [hd,cA]
 | cons t r => cases t <;> simp [hd,cA]
theorem Ij {ops : Str -> Bool} {sub : P} : ∀ (n : Nat) (ts : List Tk),ts.length <= n -> ∀ tree v r,eV ops sub tree ts = some (v,r) -> r.length <= ts.length := by
 intro n;induction n with
 | zero =>
  intro ts hn tree v r h;cases ts with
  | nil => rw [lC] at h; simp only [cA] at h; obtain ⟨rfl,rfl⟩ := aZ h; exact aJr _
  | cons t r => simp at hn
 | succ n ih =>
  intro ts hn tree v r h;rw [lC] at h;split at h
  ·obtain ⟨rfl,rfl⟩ := aZ h; exact aJr _
  ·split at h
   ·split at h
    ·exact aK h
    ·split at h
     ·rename_i hlt;exact aKz (aKl (ih _ (gP (UH (Ul U0 (Up 1 1))<|UH (Ut U2 U0)<|UG (Ul U2 U1)) rfl hn hlt) _ _ _ h) hlt)
     ·exact aK h
   ·obtain ⟨rfl,rfl⟩ := aZ h; exact aJr _
theorem pA {prim : P} (hp : eH prim) : eH (jF prim) := by
 have key : ∀ (n : Nat) (ts : List Tk),ts.length <= n -> ∀ v r,jF prim ts = some (v,r) -> r.length < ts.length := by
  intro n;induction n with
  | zero =>
   intro ts hn v r h;rw [Dj] at h;split at h
   ·exact aK h
   ·rename_i e; have := hp _ _ _ e; exact Z65 hn this
  | succ n ih =>
   intro ts hn v r h;rw [Dj] at h;split at h
   ·exact aK h
   ·rename_i e;have h1 := hp _ _ _ e;split at h
    ·split at h
     ·split at h
      ·exact aK h
      ·rename_i e';obtain ⟨rfl,rfl⟩ := aZ h;have := ih _ (Qi hn (by assumption)) _ _ e';exact Zg this (by assumption)
     ·exact aK h
    ·obtain ⟨rfl,rfl⟩ := aZ h; exact h1
 exact fun ts v r h => key _ ts (aJr _) v r h
theorem wM {p : P} {f : V -> P} (hp : eH p) (hf : ∀ t ts v r,f t ts = some (v,r) -> r.length <= ts.length) : eH (fun ts => andThen (p ts) f) := by
 intro ts v r h;simp only [andThen] at h;split at h
 ·exact aK h
 ·rename_i e;exact aKl (hf _ _ _ _ h) (hp _ _ _ e)
theorem mD {prim : P} (hp : eH prim) : eH (fG prim) := wM (pA hp) fun _ ts _ _ h => Ij _ ts (aJr _) _ _ _ h
theorem Lj {ts : List Tk} {o : Str} (h : fZ ts = some o) : hd ts o = true := by
 unfold fZ at h;split at h
 ·obtain rfl := aJn h; assumption
 ·split at h
  ·obtain rfl := aJn h; assumption
  ·exact aK h
theorem El {prim : P} (hp : eH prim) : eH (iY prim) := by
 intro ts v r h;unfold iY at h;split at h
 ·rename_i o e;simp only [andThen] at h;split at h
  ·exact aK h
  ·rename_i e';obtain ⟨rfl,rfl⟩ := aZ h;have := mD hp _ _ _ e';have := vC (Lj e);exact Zg (by assumption) (by assumption)
 ·exact mD hp _ _ _ h
theorem qO {prim : P} (hp : eH prim) : eH (nT prim) := wM (El hp) fun _ ts _ _ h => Ij _ ts (aJr _) _ _ _ h
theorem Lk {prim : P} (hp : eH prim) : eH (sG prim) := wM (qO hp) fun _ ts _ _ h => Ij _ ts (aJr _) _ _ _ h
theorem iZ {ops : Str -> Bool} {sub : P} {tree : V} {ts : List Tk} {o : Str} (hs : eH sub) (h : cA ts = some o) (ho : ops o = true) : eV ops sub tree ts = andThen (sub ts.tail) fun t r => eV ops sub (bin o tree t) r := by
 rw [lC];simp only [h,ho,if_true,andThen];split
 ·rfl
 ·rename_i t r e;have := hs _ _ _ e;have := oZ h;rw [dif_pos (Zg (by assumption) (by assumption))]
theorem fK {ops : Str -> Bool} {sub : P} {tree : V} {ts : List Tk} (h : ∀ o,cA ts = some o -> ops o = false) : eV ops sub tree ts = some (tree,ts) := by
 rw [lC];split
 ·rfl
 ·rename_i o e;rw [h o e]; rfl
theorem Ik {ops : Str -> Bool} {sub : P} : ∀ (n : Nat) (ts : List Tk),ts.length <= n -> ∀ tree v r,eV ops sub tree ts = some (v,r) -> ∀ o,cA r = some o -> ops o = false := by
 intro n;induction n with
 | zero =>
  intro ts hn tree v r h o ho;cases ts with
  | nil => rw [lC] at h; simp only [cA] at h; obtain ⟨rfl,rfl⟩ := aZ h; cases ho
  | cons t r => simp at hn
 | succ n ih =>
  intro ts hn tree v r h o ho;rw [lC] at h;split at h
  ·rename_i e; obtain ⟨rfl,rfl⟩ := aZ h; rw [e] at ho; exact aK ho
  ·rename_i o' e;split at h
   ·split at h
    ·exact aK h
    ·split at h
     ·exact ih _ (Qi hn (by assumption)) _ _ _ h o ho
     ·exact aK h
   ·rename_i q;obtain ⟨rfl,rfl⟩ := aZ h;rw [e] at ho; obtain rfl := aJn ho;simpa using q
theorem CX {prim : P} : ∀ (n : Nat) (ts : List Tk),ts.length <= n -> ∀ v r,jF prim ts = some (v,r) -> cA r ≠ some "**" := by
 intro n;induction n with
 | zero =>
  intro ts hn v r h;rw [Dj] at h;split at h
  ·exact aK h
  ·split at h
   ·split at h
    ·exact absurd (aKx (by assumption : _ < ts.length) hn) (aNe _)
    ·exact aK h
   ·rename_i q; obtain ⟨rfl,rfl⟩ := aZ h; exact fun z => q (gU.mpr z)
 | succ n ih =>
  intro ts hn v r h;rw [Dj] at h;split at h
  ·exact aK h
  ·split at h
   ·split at h
    ·split at h
     ·exact aK h
     ·rename_i e; obtain ⟨rfl,rfl⟩ := aZ h; exact ih _ (Qi hn (by assumption)) _ _ e
    ·exact aK h
   ·rename_i q; obtain ⟨rfl,rfl⟩ := aZ h; exact fun z => q (gU.mpr z)
noncomputable def wN (least : Int) (sub : Int -> P) (tree : V) (ts : List Tk) : Option (V × List Tk) :=
 Ke (fun tree ts rec => match cA ts with
 | none => some (tree,ts)
 | some o => if least <= (lG o).getD 0 then (match sub (if lG o = some 9 then 9 else (lG o).getD 0 + 1) ts.tail with
   | none => none
   | some (t,r) => rec (bin o tree t) r)
  else some (tree,ts)) tree ts
theorem Ln (least : Int) (sub : Int -> P) (tree : V) (ts : List Tk) : wN least sub tree ts = match cA ts with
 | none => some (tree,ts)
 | some o => if least <= (lG o).getD 0 then (match sub (if lG o = some 9 then 9 else (lG o).getD 0 + 1) ts.tail with
   | none => none
   | some (t,r) => if _h : r.length < ts.length then wN least sub (bin o tree t) r else none)
  else some (tree,ts) := pX _ _ _
theorem Il {least : Int} {sub : Int -> P} {tree : V} {ts : List Tk} {o : Str} (hs : ∀ l,eH (sub l)) (h : cA ts = some o) (ho : least <= (lG o).getD 0) :
  wN least sub tree ts = andThen (sub (if lG o = some 9 then 9 else (lG o).getD 0 + 1) ts.tail) fun t r => wN least sub (bin o tree t) r := by
 rw [Ln];simp only [h,ho,if_true,andThen];split
 ·rfl
 ·rename_i t r e;have := hs _ _ _ _ e;have := oZ h;rw [dif_pos (Zg (by assumption) (by assumption))]
theorem Im {least : Int} {sub : Int -> P} {tree : V} {ts : List Tk} (h : ∀ o,cA ts = some o -> ¬ least <= (lG o).getD 0) : wN least sub tree ts = some (tree,ts) := by
 rw [Ln];split
 ·rfl
 ·rename_i o e;rw [if_neg (h o e)]
theorem aM (x : Option (V × List Tk)) (f g : V -> P) : andThen (andThen x f) g = andThen x fun t r => andThen (f t r) g := by
 cases x <;> rfl
theorem cH {x : Option (V × List Tk)} {f g : V -> P} (h : ∀ t r,x = some (t,r) -> f t r = g t r) : andThen x f = andThen x g := by
 cases x with
 | none => rfl
 | some p => exact h p.1 p.2 rfl
theorem aB (t : V) (r : List Tk) (f : V -> P) : andThen (some (t,r)) f = f t r := rfl
noncomputable def Cp (prim : P) (l : Int) : P := if l = 9 then jF prim else if l = 8 then fG prim else if l = 7 then nT prim else sG prim
noncomputable def tR (prim : P) (t : V) (r : List Tk) : Option (V × List Tk) := if hd r "**" then andThen (jF prim r.tail) fun t' r' => some (bin "**" t t',r') else some (t,r)
noncomputable def tU (prim : P) (t : V) (r : List Tk) : Option (V × List Tk) := andThen (tR prim t r) (eV mF (jF prim))
noncomputable def pL (prim : P) (t : V) (r : List Tk) : Option (V × List Tk) := andThen (tU prim t r) (eV lH (fG prim))
noncomputable def Bc (prim : P) (t : V) (r : List Tk) : Option (V × List Tk) := andThen (pL prim t r) (eV rZ (nT prim))
noncomputable def tV (prim : P) (l : Int) : V -> P := if l = 9 then tR prim else if l = 8 then tU prim else if l = 7 then pL prim else Bc prim
noncomputable def zR (prim : P) (l : Int) : P := fun ts => match fZ ts with
 | some o => if l <= 7 then andThen (fG prim ts.tail) fun t r => some (un o t,r) else none
 | none => prim ts
theorem Oi {prim : P} (hp : eH prim) (l : Int) : eH (Cp prim l) := by
 unfold Cp;split
 ·exact pA hp
 ·split
  ·exact mD hp
  ·split
   ·exact qO hp
   ·exact Lk hp
theorem vD {prim : P} (hp : eH prim) (ts : List Tk) : jF prim ts = andThen (prim ts) (tR prim) := by
 rw [Dj];split
 ·rename_i e; rw [e]; rfl
 ·rename_i t r e;rw [e,aB,tR];split
  ·rename_i h;have := hp _ _ _ e;have := vC h;rw [dif_pos (Zg (by assumption) (by assumption))];cases jF prim r.tail <;> rfl
  ·rfl
noncomputable def vU (r : List Tk) : Prop := cA r ≠ some "**"
noncomputable def Em (r : List Tk) : Prop := ∀ o,cA r = some o -> mF o = false
noncomputable def Xv (r : List Tk) : Prop := ∀ o,cA r = some o -> lH o = false
noncomputable def aGh (r : List Tk) : Prop := ∀ o,cA r = some o -> rZ o = false
theorem tW {prim : P} {t : V} {r : List Tk} (h : vU r) : tR prim t r = some (t,r) := by
 unfold tR;rw [if_neg fun z => h (gU.mp z)]
theorem tX {prim : P} {t : V} {r : List Tk} (h : vU r) (h2 : Em r) : tU prim t r = some (t,r) := by
 unfold tU; rw [tW h,aB,fK h2]
theorem Bd {prim : P} {t : V} {r : List Tk} (h : vU r) (h2 : Em r) (h3 : Xv r) : pL prim t r = some (t,r) := by
 unfold pL; rw [tX h h2,aB,fK h3]
theorem vG {prim : P} {ts : List Tk} {v : V} {r : List Tk} (h : jF prim ts = some (v,r)) : vU r := CX _ ts (aJr _) _ _ h
theorem Io {ops : Str -> Bool} {sub : P} {R : List Tk -> Prop} (hR : ∀ ts v r,sub ts = some (v,r) -> R r) : ∀ (n : Nat) (ts : List Tk),ts.length <= n -> R ts -> ∀ tree v r,eV ops sub tree ts = some (v,r) -> R r := by
 intro n;induction n with
 | zero =>
  intro ts hn h0 tree v r h;cases ts with
  | nil => rw [lC] at h; simp only [cA] at h; obtain ⟨rfl,rfl⟩ := aZ h; exact h0
  | cons t r => simp at hn
 | succ n ih =>
  intro ts hn h0 tree v r h;rw [lC] at h;split at h
  ·obtain ⟨rfl,rfl⟩ := aZ h; exact h0
  ·split at h
   ·split at h
    ·exact aK h
    ·rename_i e;split at h
     ·exact ih _ (Qi hn (by assumption)) (hR _ _ _ e) _ _ _ h
     ·exact aK h
   ·obtain ⟨rfl,rfl⟩ := aZ h; exact h0
theorem aD {x : Option (V × List Tk)} {f : V -> P} {v : V} {r : List Tk} (h : andThen x f = some (v,r)) : Ex2 fun t r' => x = some (t,r') /\ f t r' = some (v,r) := by
 cases x with
 | none => cases h
 | some p => exact ⟨p.1,p.2,rfl,h⟩
theorem mZ {prim : P} {ts : List Tk} {v : V} {r : List Tk} (h : fG prim ts = some (v,r)) : vU r /\ Em r := by
 obtain ⟨t,r',h1,h2⟩ := aD h;exact ⟨Io (R := vU) (fun _ _ _ e => vG e) _ _ (aJr _) (vG h1) _ _ _ h2,Ik _ _ (aJr _) _ _ _ h2⟩
theorem Oj {prim : P} {ts : List Tk} {v : V} {r : List Tk} (h : nT prim ts = some (v,r)) : (vU r /\ Em r) /\ Xv r := by
 obtain ⟨t,r',h1,h2⟩ := aD h;refine ⟨Io (R := fun r => vU r /\ Em r) (fun _ _ _ e => mZ e) _ _ (aJr _) ?_ _ _ _ h2,Ik _ _ (aJr _) _ _ _ h2⟩;unfold iY at h1;split at h1
 ·obtain ⟨t,r',h3,h4⟩ := aD h1;obtain ⟨rfl,rfl⟩ := aZ h4;exact mZ h3
 ·exact mZ h1
theorem vH {o : Str} {p : Int} (h : lG o = some p) : (o = "**" /\ p = 9) \/ (mF o = true /\ p = 8 /\ o ≠ "**") \/ (lH o = true /\ mF o = false /\ p = 7 /\ o ≠ "**") \/ (rZ o = true /\ lH o = false /\ mF o = false /\ p = 6 /\ o ≠ "**") := by
 unfold lG at h;split at h
 ·rename_i e; subst e; obtain rfl := aJn h; exact .inr (.inr (.inl (by decide +kernel)))
 ·split at h
  ·rename_i e; subst e; obtain rfl := aJn h; exact .inr (.inr (.inl (by decide +kernel)))
  ·split at h
   ·rename_i e; subst e; obtain rfl := aJn h; exact .inr (.inl (by decide +kernel))
   ·split at h
    ·rename_i e; subst e; obtain rfl := aJn h; exact .inr (.inl (by decide +kernel))
    ·split at h
     ·rename_i e; subst e; obtain rfl := aJn h; exact .inl ⟨rfl,rfl⟩
     ·split at h
      ·rename_i e; subst e; obtain rfl := aJn h; exact .inr (.inr (.inr (by decide +kernel)))
      ·exact aK h
theorem aGi {l : Int} (h : l = 1 \/ l = 7 \/ l = 8 \/ l = 9) : l <= 9 := by rcases h with rfl | rfl | rfl | rfl <;> decide
theorem au {l : Int} (h : l = 1 \/ l = 7 \/ l = 8 \/ l = 9) : 1 <= l := by rcases h with rfl | rfl | rfl | rfl <;> decide
theorem aGj {l : Int} (h : l = 1 \/ l = 7 \/ l = 8 \/ l = 9) (a : ¬ l = 9) (b : ¬ l = 8) (c : ¬ l = 7) : l <= 1 := h.elim aNi fun h => h.elim (absurd · c) fun h => h.elim (absurd · b) (absurd · a)
theorem TX {prim : P} (hp : eH prim) {l : Int} (hl : l = 1 \/ l = 7 \/ l = 8 \/ l = 9) : ∀ (n : Nat) (ts : List Tk),ts.length <= n -> ∀ t,wN l (Cp prim) t ts = tV prim l t ts := by
 have stop : ∀ (ts : List Tk) t,(∀ o,cA ts = some o -> ¬ l <= (lG o).getD 0) -> wN l (Cp prim) t ts = tV prim l t ts := by
  intro ts t h;rw [Im h];have n9 : vU ts := fun z => by
   have := h _ z;rw [show lG "**" = some 9 from by decide +kernel,aLn] at this;exact this (aGi hl)
  have pm : ∀ o,mF o = true -> lG o = some 8 := by
   intro o ho; unfold mF at ho;rcases aKn.mp ho with q | q <;> rw [decide_eq_true_eq] at q <;> subst q <;> decide +kernel
  have pa : ∀ o,lH o = true -> lG o = some 7 := by
   intro o ho; unfold lH at ho;rcases aKn.mp ho with q | q <;> rw [decide_eq_true_eq] at q <;> subst q <;> decide +kernel
  have pc : ∀ o,rZ o = true -> lG o = some 6 := by
   intro o ho; unfold rZ at ho;rw [decide_eq_true_eq] at ho; subst ho; decide +kernel
  have n8 : l <= 8 -> Em ts := fun hl o ho => by
   cases q : mF o
   ·rfl
   ·have := h o ho; rw [pm o q,aLn] at this; exact (aO (c := .o) (d := (qY _)) (UH (UL (.v 0) (.n 8))<|UH (UT (.n 8) (.v 0))<|HL.g 0 .f) rfl hl (aLp.mp this)).elim
  have n7 : l <= 7 -> Xv ts := fun hl o ho => by
   cases q : lH o
   ·rfl
   ·have := h o ho; rw [pa o q,aLn] at this; exact (aO (c := .o) (d := (qY _)) (UH (UL (.v 0) (.n 7))<|UH (UT (.n 7) (.v 0))<|HL.g 0 .f) rfl hl (aLp.mp this)).elim
  have n6 : l <= 6 -> aGh ts := fun hl o ho => by
   cases q : rZ o
   ·rfl
   ·have := h o ho; rw [pc o q,aLn] at this; exact (aO (c := .o) (d := (qY _)) (UH (UL (.v 0) (.n 6))<|UH (UT (.n 6) (.v 0))<|HL.g 0 .f) rfl hl (aLp.mp this)).elim
  unfold tV;split
  ·rw [tW n9]
  ·split
   ·rw [tX n9 (n8 (aO (c := .o) (d := (qY _)) (UH (UE (.v 0) (.n 8))<|UG (UL (.v 0) (.n 8))) rfl (by assumption)))]
   ·split
    ·rw [Bd n9 (n8 (aO (c := .o) (d := (qY _)) (UH (UE (.v 0) (.n 7))<|UG (UL (.v 0) (.n 8))) rfl (by assumption))) (n7 (aO (c := .o) (d := (qY _)) (UH (UE (.v 0) (.n 7))<|UG (UL (.v 0) (.n 7))) rfl (by assumption)))]
    ·unfold Bc; have l1 := aGj hl (by assumption) (by assumption) (by assumption);rw [Bd n9 (n8 (aOj l1 (by decide))) (n7 (aOj l1 (by decide))),aB,fK (n6 (aOj l1 (by decide)))]
 have step : ∀ (ts : List Tk) t o p,cA ts = some o -> lG o = some p -> l <= p ->
   andThen (Cp prim (if lG o = some 9 then 9 else (lG o).getD 0 + 1) ts.tail) (fun t' r => tV prim l (bin o t t') r) = tV prim l t ts := by
  intro ts t o p ho hpo hlp;rcases vH hpo with ⟨rfl,rfl⟩ | ⟨h1,rfl,h2⟩ | ⟨h1,h2,rfl,h3⟩ | ⟨h1,h2,h3,rfl,h4⟩
  ·rw [if_pos hpo,show Cp prim 9 = jF prim from rfl];have e9 : ∀ t,tR prim t ts = andThen (jF prim ts.tail) fun t' r' => some (bin "**" t t',r') := fun t => by unfold tR; rw [if_pos (gU.mpr ho)]
   have f9 : ∀ t' r,jF prim ts.tail = some (t',r) -> ∀ u,tR prim u r = some (u,r) := fun t' r e u => tW (vG e);unfold tV;split
   ·rw [e9]; exact cH fun t' r e => f9 t' r e _
   ·split
    ·unfold tU; rw [e9,aM]; exact cH fun t' r e => by rw [f9 t' r e]
    ·split
     ·unfold pL tU; rw [e9,aM,aM]; exact cH fun t' r e => by rw [f9 t' r e]; rfl
     ·unfold Bc pL tU; rw [e9,aM,aM,aM]; exact cH fun t' r e => by rw [f9 t' r e]; simp only [aB,aM]
  ·rw [hpo,if_neg (by decide),show Cp prim ((some (8 : Int)).getD 0 + 1) = jF prim from rfl];have n9 : vU ts := fun z => h2 (aJn (ho.symm.trans z));have e8 : ∀ t,tU prim t ts = andThen (jF prim ts.tail) fun t' r' => eV mF (jF prim) (bin o t t') r' := fun t => by
    unfold tU; rw [tW n9,aB,iZ (pA hp) ho h1]
   have f8 : ∀ t' r,jF prim ts.tail = some (t',r) -> ∀ u,tU prim u r = eV mF (jF prim) u r := fun t' r e u => by unfold tU; rw [tW (vG e),aB]
   unfold tV;split
   ·exact (aO (c := .o) (d := (qY _)) (UH (UL (.v 0) (.n 8))<|UH (UQ (.v 0) (.n 9))<|HL.g 0 .f) rfl hlp (by assumption)).elim
   ·split
    ·rw [e8]; exact cH fun t' r e => f8 t' r e _
    ·split
     ·unfold pL; rw [e8,aM]; exact cH fun t' r e => by rw [f8 t' r e]
     ·unfold Bc pL; rw [e8,aM,aM]; exact cH fun t' r e => by rw [f8 t' r e,aM]
  ·rw [hpo,if_neg (by decide),show Cp prim ((some (7 : Int)).getD 0 + 1) = fG prim from rfl];have n9 : vU ts := fun z => h3 (aJn (ho.symm.trans z));have n8 : Em ts := fun o' z => by rw [ho] at z; obtain rfl := aJn z; exact h2
   have e7 : ∀ t,pL prim t ts = andThen (fG prim ts.tail) fun t' r' => eV lH (fG prim) (bin o t t') r' := fun t => by
    unfold pL; rw [tX n9 n8,aB,iZ (mD hp) ho h1]
   have f7 : ∀ t' r,fG prim ts.tail = some (t',r) -> ∀ u,pL prim u r = eV lH (fG prim) u r := fun t' r e u => by unfold pL; rw [tX (mZ e).1 (mZ e).2,aB]
   unfold tV;split
   ·exact (aO (c := .o) (d := (qY _)) (UH (UL (.v 0) (.n 7))<|UH (UQ (.v 0) (.n 9))<|HL.g 0 .f) rfl hlp (by assumption)).elim
   ·split
    ·exact (aO (c := .o) (d := (qY _)) (UH (UL (.v 0) (.n 7))<|UH (UQ (.v 0) (.n 8))<|HL.g 0 .f) rfl hlp (by assumption)).elim
    ·split
     ·rw [e7]; exact cH fun t' r e => f7 t' r e _
     ·unfold Bc; rw [e7,aM]; exact cH fun t' r e => by rw [f7 t' r e]
  ·rw [hpo,if_neg (by decide),show Cp prim ((some (6 : Int)).getD 0 + 1) = nT prim from rfl];have n9 : vU ts := fun z => h4 (aJn (ho.symm.trans z));have n8 : Em ts := fun o' z => by rw [ho] at z; obtain rfl := aJn z; exact h3
   have n7 : Xv ts := fun o' z => by rw [ho] at z; obtain rfl := aJn z; exact h2
   unfold tV;rw [if_neg (by exact aPd (aO (c := .o) (d := (qY _)) (UH (UL (.v 0) (.n 6))<|UG (UT (.v 0) (.n 9))) rfl hlp)),if_neg (by exact aPd (aO (c := .o) (d := (qY _)) (UH (UL (.v 0) (.n 6))<|UG (UT (.v 0) (.n 8))) rfl hlp)),if_neg (by exact aPd (aO (c := .o) (d := (qY _)) (UH (UL (.v 0) (.n 6))<|UG (UT (.v 0) (.n 7))) rfl hlp))];unfold Bc;rw [Bd n9 n8 n7,aB,iZ (qO hp) ho h1];exact cH fun t' r e => by rw [Bd (Oj e).1.1 (Oj e).1.2 (Oj e).2,aB]
 intro n;induction n with
 | zero =>
  intro ts hn t;refine stop ts t fun o ho => ?_;have := oZ ho; exact aLp.mpr (aO (c := (Yx _ _)) (d := (j7 _ _)) (UH (Ul U0 (Un 0))<|UH (Ut U1 U0)<|HL.g 0 (UT (.v 0) (.v 1))) rfl hn this)
 | succ n ih =>
  intro ts hn t;cases ho : cA ts with
  | none => exact stop ts t fun o z => by rw [ho] at z; exact aK z
  | some o =>
   by_cases hlp : l <= (lG o).getD 0
   ·cases hpo : lG o with
    | none => rw [hpo,aNv] at hlp; exact absurd (aOj (au hl) hlp) (by decide)
    | some p =>
     rw [Il (Oi hp) ho hlp, <- step ts t o p ho hpo (by rw [hpo,aLn] at hlp; exact hlp)];refine cH fun t' r e => ih r ?_ _;have := Oi hp _ _ _ _ e;have := oZ ho;exact jX (UH (Ul U0 (Up 1 1))<|UH (Ut U2 U0)<|UH (Ut U3 U2)<|UG (Ul U3 U1)) rfl hn (by assumption) (by assumption)
   ·exact stop ts t fun o' z => by rw [ho] at z; obtain rfl := aJn z; exact hlp
theorem CZ {prim : P} (hp : eH prim) (hsg : ∀ ts o,fZ ts = some o -> prim ts = none) {l : Int} (hl : l = 1 \/ l = 7 \/ l = 8 \/ l = 9) (ts : List Tk) : andThen (zR prim l ts) (wN l (Cp prim)) = Cp prim l ts := by
 rw [cH (g := tV prim l) fun t r _ => TX hp hl _ r (aJr _) t];cases hs : fZ ts with
 | some o =>
  have pn := hsg ts o hs;have e9 : jF prim ts = none := by rw [vD hp,pn]; rfl
  have e8 : fG prim ts = none := by unfold fG; rw [e9]; rfl
  unfold zR;rw [hs];rcases hl with rfl | rfl | rfl | rfl
  ·rw [show Cp prim 1 = sG prim from rfl,show tV prim 1 = Bc prim from rfl];dsimp only;rw [if_pos (by decide)];unfold sG nT iY;rw [hs];dsimp only;rw [aM,aM,aM];refine cH fun t r e => ?_;rw [aB,aB];unfold Bc pL;rw [tX (mZ e).1 (mZ e).2,aB];rfl
  ·rw [show Cp prim 7 = nT prim from rfl,show tV prim 7 = pL prim from rfl];dsimp only;rw [if_pos (by decide)];unfold nT iY;rw [hs];dsimp only;rw [aM,aM];refine cH fun t r e => ?_;rw [aB,aB];unfold pL;rw [tX (mZ e).1 (mZ e).2,aB]
  ·rw [show Cp prim 8 = fG prim from rfl,e8]; rfl
  ·rw [show Cp prim 9 = jF prim from rfl,e9]; rfl
 | none =>
  unfold zR;rw [hs];dsimp only;have e8 : fG prim ts = andThen (prim ts) (tU prim) := by unfold fG tU; rw [vD hp,aM]
  have e7 : nT prim ts = andThen (prim ts) (pL prim) := by
   unfold nT iY; rw [hs]; dsimp only; rw [e8,aM]; rfl
  rcases hl with rfl | rfl | rfl | rfl
  ·rw [show Cp prim 1 = sG prim from rfl,show tV prim 1 = Bc prim from rfl];unfold sG; rw [e7,aM]; rfl
  ·exact e7.symm
  ·exact e8.symm
  ·exact (vD hp ts).symm
end Mine
end
section
set_option tactic.hygienic true
namespace Mine
noncomputable def Ey (ts : List Tk) : Int × List Tk := if hd ts "-" then (-1,ts.tail) else if hd ts "+" then (1,ts.tail) else (1,ts)
noncomputable abbrev iV (n : Int) : V := .tup [.str "int",.int n]
noncomputable abbrev TY (s : Str) : V := .tup [.str "name",.str s]
noncomputable def nA (ts : List Tk) : Option (V × List Tk) := match (Ey ts).2 with
 | .num _ n :: r => some (iV ((Ey ts).1 * n),r)
 | _ => none
noncomputable def sH (ts : List Tk) : Option (V × List Tk) := andThen (nA ts.tail) fun l r => if hd r "," then andThen (nA r.tail) fun l' r' => if hd r' ")" then some (.tup [.str "cplx",l,l'],r'.tail) else none else none
noncomputable def gM (E : P) : P := fun ts => andThen (E ts) fun t r => if hd r ")" then some (t,r.tail) else none
noncomputable def dM (E : P) (ts : List Tk) : Option (V × List Tk) := match sH ts with
 | some x => some x
 | none => gM E ts.tail
noncomputable def lF : Nat -> Bool -> List Tk -> Option Bool
 | _,_,[] => none
 | d,f,t :: r => if t = .op "(" then lF (d + 1) f r else if t = .op ")" then (if d = 1 then some f else lF (d - 1) f r) else lF d (f || (decide (d = 1) && decide (t = .op ":"))) r
noncomputable def mH (stop : Str) (E : P) : P := fun ts => if hd ts stop then some (.none,ts) else E ts
noncomputable def wO (E : P) (base : V) : P := fun ts => andThen (mH ":" E ts.tail) fun low r => if hd r ":" then andThen (mH ")" E r.tail) fun high r' => if hd r' ")" then some (.tup [.str "sub",base,low,high],r'.tail) else none else none
noncomputable def eN (p : P) (acc : List V) (ts : List Tk) : Option (V × List Tk) :=
 Ke (fun acc ts rec => match p ts with
 | none => none
 | some (t,r) => if hd r "," then rec (acc ++ [t]) r.tail else some (.lst (acc ++ [t]),r)) acc ts
theorem Bg (p : P) (acc : List V) (ts : List Tk) : eN p acc ts = match p ts with
 | none => none
 | some (t,r) => if hd r "," then (if _h : r.tail.length < ts.length then eN p (acc ++ [t]) r.tail else none) else some (.lst (acc ++ [t]),r) := pX _ _ _
noncomputable def pB (E : P) : P := fun ts => if hd ts.tail ")" then some (.lst [],ts.tail.tail) else gM (eN E []) ts.tail
noncomputable def jA (E : P) (s : Str) (r : List Tk) : Option (V × List Tk) := match lF 1 false r.tail with
 | none => none
 | some true => wO E (TY s) r
 | some false => andThen (pB E r) fun rows r' => if hd r' "(" then wO E (.tup [.str "ref",.str s,rows]) r' else some (.tup [.str "ref",.str s,rows],r')
noncomputable def iB (E : P) : P
 | .name s :: r => if hd r "(" then jA E s r else some (TY s,r)
 | _ => none
noncomputable def bB (E : P) : P
 | .name s :: r => iB E (.name s :: r)
 | .num _ n :: r => some (iV n,r)
 | .op o :: r => if o = "(" then dM E (.op o :: r) else none
 | [] => none
noncomputable def gE : Nat -> P
 | 0 => fun _ => none
 | n + 1 => sG (bB (gE n))
theorem bM (ts : List Tk) : ts.tail.length <= ts.length := by rw [aMz]; exact Z69 W9
theorem xg (ts : List Tk) : (Ey ts).2.length <= ts.length := by
 unfold Ey;split
 ·exact bM ts
 ·split
  ·exact bM ts
  ·exact aJr _
theorem tY : eH nA := by
 intro ts v r h;unfold nA at h;split at h
 ·rename_i e;obtain ⟨rfl,rfl⟩ := aZ h;have := xg ts;rw [e] at this;exact this
 ·exact aK h
theorem zT {E : P} (hE : eH E) : eH (gM E) := by
 intro ts v r h;obtain ⟨t,r',h1,h2⟩ := aD h;split at h2
 ·obtain ⟨rfl,rfl⟩ := aZ h2;have := hE _ _ _ h1;have := bM r';exact G8 (by assumption) (by assumption)
 ·exact aK h2
theorem DG {ts : List Tk} {v : V} {r : List Tk} (h : sH ts = some (v,r)) : r.length < ts.length := by
 obtain ⟨t,r',h1,h2⟩ := aD h;split at h2
 ·obtain ⟨t',r'',h3,h4⟩ := aD h2;split at h4
  ·obtain ⟨rfl,rfl⟩ := aZ h4;exact aKl (bM r'') (aLd (aKx (tY _ _ _ h3) (bM r')) (aKx (tY _ _ _ h1) (bM ts)))
  ·exact aK h4
 ·exact aK h2
theorem Ol {E : P} (hE : eH E) : eH (dM E) := by
 intro ts v r h;unfold dM at h;split at h
 ·rename_i e; obtain rfl := aJn h; exact DG e
 ·have := zT hE _ _ _ h;have := bM ts;exact qg (by assumption) (by assumption)
theorem Xw {E : P} (hE : eH E) {s : Str} {ts : List Tk} {v : V} {r : List Tk} (h : mH s E ts = some (v,r)) : r.length <= ts.length := by
 unfold mH at h;split at h
 ·obtain ⟨rfl,rfl⟩ := aZ h; exact aJr _
 ·exact aKz (hE _ _ _ h)
theorem wQ {E : P} (hE : eH E) (b : V) : eH (wO E b) := by
 intro ts v r h;obtain ⟨t,r',h1,h2⟩ := aD h;split at h2
 ·rename_i hc;obtain ⟨t',r'',h3,h4⟩ := aD h2;split at h4
  ·obtain ⟨rfl,rfl⟩ := aZ h4;exact aKl (aJw (bM r'') (Xw hE h3)) (aKx (vC hc) (aJw (Xw hE h1) (bM ts)))
  ·exact aK h4
 ·exact aK h2
theorem wR {p : P} (hp : eH p) : ∀ (n : Nat) (ts : List Tk),ts.length <= n -> ∀ acc v r,eN p acc ts = some (v,r) -> r.length < ts.length := by
 intro n;induction n with
 | zero =>
  intro ts hn acc v r h;rw [Bg] at h;split at h
  ·exact aK h
  ·rename_i e; have := hp _ _ _ e; exact Z65 hn this
 | succ n ih =>
  intro ts hn acc v r h;rw [Bg] at h;split at h
  ·exact aK h
  ·rename_i e;have := hp _ _ _ e;split at h
   ·split at h
    ·have := ih _ (Qi hn (by assumption)) _ _ _ h; exact Zg this (by assumption)
    ·exact aK h
   ·obtain ⟨rfl,rfl⟩ := aZ h; assumption
theorem Dk {E : P} (hE : eH E) {ts : List Tk} {v : V} {r : List Tk} (h : pB E ts = some (v,r)) : r.length <= ts.length := by
 unfold pB at h;split at h
 ·obtain ⟨rfl,rfl⟩ := aZ h;have := bM ts;have := bM ts.tail;exact aEg (by assumption) (by assumption)
 ·have := zT (fun ts v r h => wR hE _ ts (aJr _) _ _ _ h) _ _ _ h;have := bM ts;exact G9 (by assumption) (by assumption)
theorem zU {E : P} (hE : eH E) : eH (iB E) := by
 intro ts v r h;unfold iB at h;split at h
 ·rename_i s r';rw [aJs];split at h
  ·unfold jA at h;split at h
   ·exact aK h
   ·have := wQ hE _ _ _ _ h; exact Z36 this
   ·obtain ⟨t,r'',h1,h2⟩ := aD h;have := Dk hE h1;split at h2
    ·have := wQ hE _ _ _ _ h2; exact aEh (by assumption) (by assumption)
    ·obtain ⟨rfl,rfl⟩ := aZ h2; exact Z70 this
  ·obtain ⟨rfl,rfl⟩ := aZ h; exact m6
 ·exact aK h
theorem tZ {E : P} (hE : eH E) : eH (bB E) := by
 intro ts v r h;unfold bB at h;split at h
 ·exact zU hE _ _ _ h
 ·obtain ⟨rfl,rfl⟩ := aZ h; rw [aJs]; exact m6
 ·split at h
  ·exact Ol hE _ _ _ h
  ·exact aK h
 ·exact aK h
theorem dZ : ∀ n,eH (gE n)
 | 0 => fun _ _ _ h => by cases h
 | n + 1 => Lk (tZ (dZ n))
theorem Vz (E : P) (ts : List Tk) (o : Str) (h : fZ ts = some o) : bB E ts = none := by
 have := Lj h;cases ts with
 | nil => cases this
 | cons t r =>
  cases t with
  | op x =>
   have e : x = o := by simpa [hd] using this
   subst e;show (if x = "(" then dM E (.op x :: r) else none) = none;rw [if_neg];unfold fZ at h;intro z; subst z;revert h
   simp [hd,show ((("(" : Str) = "+") = False) from eq_false (by decide +kernel),show ((("(" : Str) = "-") = False) from eq_false (by decide +kernel)]
  | name _ => cases this
  | num _ _ => cases this
theorem bV {p : P} (hp : eH p) (acc : List V) (ts : List Tk) : eN p acc ts = andThen (p ts) fun t r => if hd r "," then eN p (acc ++ [t]) r.tail else some (.lst (acc ++ [t]),r) := by
 rw [Bg];split
 ·rename_i e; rw [e]; rfl
 ·rename_i t r e;rw [e,aB];have := hp _ _ _ e;have := bM r;split
  ·rw [dif_pos (G8 (by assumption) (by assumption))]
  ·rfl
noncomputable def Ew (ts : List Tk) : Nat := ts.countP (· = .op "(")
noncomputable def Fb (ts : List Tk) : Nat := ts.countP (· = .op "**")
noncomputable def nd (ts : List Tk) : Nat := 10 * Ew ts + Fb ts
theorem cI (ts : List Tk) {k k' : Nat} (h : k <= k') : nd (ts.drop k') <= nd (ts.drop k) := by
 have e : ts.drop k' = (ts.drop k).drop (k' - k) := by rw [aMi]; congr 1; exact aJq (Z72 gY) (Z73 (aJo (h)))
 have h1 : Ew (ts.drop k') <= Ew (ts.drop k) := by rw [e]; exact (aLu _ _).countP_le
 have h2 : Fb (ts.drop k') <= Fb (ts.drop k) := by rw [e]; exact (aLu _ _).countP_le
 unfold nd; exact Z74 h2 h1
theorem yE {ts : List Tk} {k : Nat} (h : hd (ts.drop k) "(" = true) : nd (ts.drop (k + 1)) + 10 = nd (ts.drop k) := by
 rcases fD ts k with ⟨_,h2⟩ | ⟨t,_,_,h2⟩
 ·rw [h2] at h; cases h
 ·rw [h2] at h ⊢;cases t with
  | op x =>
   have e : x = "(" := by simpa [hd] using h
   subst e;unfold nd Ew Fb;rw [aMb,aMb];simp [show ((("(" : Str) = "**") = False) from eq_false (by decide +kernel)];exact aJq (iR (UG (Ul (.a (.a (.m 10 U0) U1) (Un 10)) (.a (.m 10 (Up 0 1)) U1))) rfl) (iR (UG (Ul (.a (.m 10 (Up 0 1)) U1) (.a (.a (.m 10 U0) U1) (Un 10)))) rfl)
  | name _ => cases h
  | num _ _ => cases h
theorem Xx {ts : List Tk} {k : Nat} (h : cA (ts.drop k) = some ("**" : Str)) : nd (ts.drop (k + 1)) + 1 = nd (ts.drop k) := by
 rcases fD ts k with ⟨_,h2⟩ | ⟨t,_,_,h2⟩
 ·rw [h2] at h; cases h
 ·rw [h2] at h ⊢;cases t with
  | op x =>
   have e : x = "**" := by simpa [cA] using h
   subst e;unfold nd Ew Fb;rw [aMb,aMb];simp [show ((("**" : Str) = "(") = False) from eq_false (by decide +kernel)];exact aJq (iR (UG (Ul (.a (.a (.m 10 U0) U1) (Un 1)) (.a (.m 10 U0) (Up 1 1)))) rfl) (iR (UG (Ul (.a (.m 10 U0) (Up 1 1)) (.a (.a (.m 10 U0) U1) (Un 1)))) rfl)
  | name _ => cases h
  | num _ _ => cases h
end Mine
end
section
set_option tactic.hygienic true
namespace Mine
variable {G : eX} {c : Cfg G} {ρ : En} {σ : aW} {X : Prop}
structure Ctx (ts : List Tk) (vs : List V) : Prop where
 T : Toks ts vs
 ops : ∀ s,Tk.op s ∈ ts -> s ∈ gQ
theorem Ip {sg n : Int} (h : sg = 1 \/ sg = -1) : IntMulOk sg n := by
 rcases h with rfl | rfl <;> exact IntMulOk.of_left (by decide +kernel)
theorem UJ {ts : List Tk} (h : kd ts = "INT") : ∃ d n r,ts = .num d n :: r := by
 cases ts with
 | nil => exact absurd h TV.mp
 | cons t r => cases t with
  | op o => exact absurd h CW.mp
  | name _ => exact absurd h Rr.mp
  | num d n => exact ⟨d,n,r,rfl⟩
theorem O8 (ts : List Tk) : ¬ kd ts = "REAL" := by
 cases ts with
 | nil => decide +kernel
 | cons t r =>
  cases t with
  | op _ => exact (show ¬ (("OP" : Str) = "REAL") by decide +kernel)
  | name _ => exact (show ¬ (("NAME" : Str) = "REAL") by decide +kernel)
  | num _ _ => exact (show ¬ (("INT" : Str) = "REAL") by decide +kernel)
theorem Xy {ts : List Tk} {s : Str} (h : hd ts s = true) : ts = .op s :: ts.tail := by
 cases ts with
 | nil => cases h
 | cons t r => cases t with
  | op x =>
   have : x = s := by simpa [hd] using h
   subst this; rfl
  | name _ => cases h
  | num _ _ => cases h
theorem uD (ts : List Tk) (k : Nat) : (Ey (ts.drop k)).2 = ts.drop (if hd (ts.drop k) "+" || hd (ts.drop k) "-" then k + 1 else k) := by
 unfold Ey;cases h1 : hd (ts.drop k) "-" <;> cases h2 : hd (ts.drop k) "+" <;> simp
theorem Eo (F : Facts G) {ts : List Tk} {vs : List V} {k : Nat} {Q : KV} (hn : 2 <= c.n) (C : Ctx ts vs)
  (q : ∀ v k',nA (ts.drop k) = some (v,ts.drop k') -> k < k' -> k' <= ts.length -> Q (.int (k' : Nat)) σ) (q' : nA (ts.drop k) = none -> Q (.int (-1)) σ) :
  aR c (.ref (F.a .Ar)) [.lst vs,.int k] σ Q X := by
 refine aN F .Ar rfl rfl (j9 hn) fun d hdn hW => ?_;refine bH (fun C' => ∀ m : Nat,(Ey (ts.drop k)).2 = ts.drop m -> k <= m -> C' [some (V.lst vs),some (V.int m)] σ) ?_ ?_
 ·intro R' hR;refine bD F (Gk hn hdn) C.T ?_;refine jO (fun h => ?_) (fun h => ?_)
  ·exact hR (k + 1) (by rw [uD,h]; rfl) (Kv)
  ·refine bD F (Gk hn hdn) C.T ?_;refine jO (fun h2 => ?_) (fun h2 => ?_)
   ·exact hR (k + 1) (by rw [uD,h,h2]; rfl) (Kv)
   ·exact hR k (by rw [uD,h,h2]; rfl) (Z80)
 ·intro m hm hk;refine iW F (Gk hn hdn) C.T ?_;refine bA (fun h => ?_) (fun h => ?_)
  ·obtain ⟨d',n,r,e⟩ := UJ h;obtain ⟨h1,h2,h3⟩ := fJ e;subst h3;exact q _ (m + 1) (by unfold nA; rw [hm,e]) (Z70 hk) (vZ h1)
  ·refine iW F (Gk hn hdn) C.T ?_;refine ao (decide_eq_false (O8 _)) ?_;refine q' ?_;unfold nA;rw [hm];split
   ·rename_i e; rw [e] at h; exact absurd rfl h
   ·rfl
theorem Kf (F : Facts G) {ts : List Tk} {vs : List V} {k : Nat} {Q : KV} (hn : 3 <= c.n) (C : Ctx ts vs) (q : Q (.bool (sH (ts.drop k)).isSome) σ) :
  aR c (.ref (F.a .zK)) [.lst vs,.int k] σ Q X := by
 refine aN F .zK rfl rfl (JC hn) fun d hdn hW => ?_;refine Eo F (k := k + 1) (Xa hn hdn) C (fun v aJ e1 h1 h2 => ?_) (fun e1 => ?_)
 ·refine ao (decide_eq_false (aKd.mpr (G6))) ?_;refine bD F (Ga hn hdn) C.T ?_;cases h3 : hd (ts.drop aJ) ","
  ·unfold sH at q;rw [tail_drop,e1,aB,h3] at q;exact q
  ·refine Eo F (k := aJ + 1) (Xa hn hdn) C (fun v' eY e2 h4 h5 => ?_) (fun e2 => ?_)
   ·refine s_T (decide_eq_true (Uo)) ?_;refine bD F (Ga hn hdn) C.T ?_;unfold sH at q;rw [tail_drop,e1,aB,h3,if_pos rfl,tail_drop,e2,aB] at q;cases h6 : hd (ts.drop eY) ")" <;> rw [h6] at q <;> exact q
   ·unfold sH at q;rw [tail_drop,e1,aB,h3,if_pos rfl,tail_drop,e2] at q;exact q
 ·unfold sH at q;rw [tail_drop,e1] at q;exact q
theorem vV (F : Facts G) {ts : List Tk} {vs : List V} {k k' : Nat} {v : V} {Q : KV} (hn : 3 <= c.n) (C : Ctx ts vs) (e : nA (ts.drop k) = some (v,ts.drop k')) (hk : k' <= ts.length) (q : Q (.tup [v,.int (k' : Nat)]) σ) :
  aR c (.ref (F.a .pO)) [.lst vs,.int k] σ Q X := by
 refine aN F .pO rfl rfl (JC hn) fun d hdn hW => ?_;have e0 := e;unfold nA at e;split at e
 ·rename_i d' n r hs;have hs' := uD ts k;rw [hs] at hs';have hr : r = ts.drop k' := by cases e; rfl
  have hv : iV ((Ey (ts.drop k)).1 * n) = v := by cases e; rfl
  subst hv;clear e;refine bH (fun C' => C' [some (V.lst vs),some (V.int k),some (V.int 1)] σ) ?_ ?_
  ·intro R' hR;exact hR
  ·refine aq (fun ρ' σ' => σ = σ' /\ ρ' = [some (V.lst vs),some (V.int k),some (V.int (Ey (ts.drop k)).1)]) ?_ ?_
   ·intro R' hR;refine bD F (Ga hn hdn) C.T ?_;refine jO (fun h => ?_) (fun h => ?_)
    ·exact hR ⟨rfl,by unfold Ey; rw [if_pos h]⟩
    ·refine hR ⟨rfl,?_⟩;unfold Ey;rw [h,if_neg (by decide)];split <;> rfl
   ·rintro _ _ ⟨rfl,rfl⟩;refine bH (fun C' => ∀ m : Nat,ts.drop m = .num d' n :: r -> C' [some (V.lst vs),some (V.int m),some (V.int (Ey (ts.drop k)).1)] σ) ?_ ?_
    ·intro R' hR;refine iW F (Ga hn hdn) C.T ?_;refine bA (fun h => ?_) (fun h => ?_)
     ·refine hR (k + 1) ?_;split at hs'
      ·exact hs'.symm
      ·rw [<- hs'] at h; exact absurd h tQ.mp
     ·refine hR k ?_;split at hs'
      ·rename_i hh;rcases aKn.mp hh with z | z <;> exact absurd (by rw [Xy z]; rfl) h
      ·exact hs'.symm
    ·intro m hm;obtain ⟨h1,h2,h3⟩ := fJ hm;refine vR C.T h2 fun p => ?_;refine vR C.T h2 fun p => ?_;refine wK F (Ga hn hdn) (Ip ?_) ?_
     ·unfold Ey; split
      ·exact .inr rfl
      ·split <;> exact .inl rfl
     have : k' = m + 1 := by
      rw [hr] at h3;have := congrArg List.length h3;rw [aKi,aKi] at this;exact aJq (tC (UH (Ue (.a U0 U1) U2)<|UH (Uq U0 U3)<|UH (Ul U2 (.a U3 (Up 4 1)))<|UG (Ul U1 (Up 4 1))) rfl (aJo (hk)) this gY) (tC (UH (Ue (.a U0 (Up 1 1)) U2)<|UH (Ue U3 U0)<|UH (Ul U2 (.a U3 U4))<|UG (Ul (Up 1 1) U4)) rfl (aJo (vZ h1)) this gY)
     subst this;exact q
 ·exact aK e
theorem Lp (ts : List Tk) (k : Nat) (v : V) (r : List Tk) (e : nA (ts.drop k) = some (v,r)) : ∃ k',r = ts.drop k' /\ k < k' /\ k' <= ts.length := by
 unfold nA at e;rw [uD] at e;split at e
 ·rename_i h;obtain ⟨rfl,rfl⟩ := aZ e;obtain ⟨h1,h2,h3⟩ := fJ h;refine ⟨_,h3,?_,h1⟩;split
  ·exact aNr (aKa _)
  ·exact aKa _
 ·exact aK e
end Mine
end
local macro_rules | `(tactic| walk_at "a") => `(tactic| repeat (first | refine Mine.a_n ?_ | refine Mine.a_i ?_ | refine Mine.a_s ?_ | refine Mine.a_b ?_ | refine Mine.a_d ?_ | refine Mine.a_v ?_))
namespace Mine
variable {G : eX} {c : Cfg G} {ρ : En} {σ : aW} {X : Prop}
noncomputable def dU : Nat -> List Tk -> Nat -> Option Nat
 | _,[],_ => none
 | d,t :: r,i => if t = .op "(" then dU (d + 1) r (i + 1) else if t = .op ")" then (if d = 1 then some i else dU (d - 1) r (i + 1)) else dU d r (i + 1)
theorem Ir {t : Tk} {r : List Tk} {s : Str} : hd (t :: r) s = decide (t = .op s) := by
 cases t <;> simp [hd]
theorem Ru (F : Facts G) {ts : List Tk} {vs : List V} {k : Nat} {Q : KV} (hn : 3 <= c.n) (C : Ctx ts vs) (h0 : hd (ts.drop k) "(" = true)
  (hX : dU 0 (ts.drop k) k = none -> X) (q : ∀ e,dU 0 (ts.drop k) k = some e -> Q (.int (e : Nat)) σ) :
  aR c (.ref (F.a .Gs)) [.lst vs,.int k] σ Q X := by
 have hsm := C.T.small;have hk : k < ts.length := by
  rcases fD ts k with ⟨_,h2⟩ | ⟨t,h1,_,_⟩
  ·rw [h2] at h0; cases h0
  ·exact h1
 refine aN F .Gs rfl rfl (JC hn) fun d hdn hW => ?_;refine ⟨_,rfl,?_⟩;refine nQ aY (by rw [C.T.len]; exact G7 Jx hsm) ?_;refine ⟨_,rfl,by exact H6 xR,by exact aEe xR hsm hk,by exact H6 xR,by rw [C.T.len]; exact aO (c := (m8 _)) (d := (qY _)) (UH (UL (.n 20000000) (.v 0))<|UH (Ut U0 (Un 10000))<|UG (UT (.c U0) (.v 0))) rfl xR hsm,sV (fun i C' => ∀ (D : Nat) (pl : Option V),dU 0 (ts.drop k) k = dU D (ts.drop (k + i)) (k + i) -> ((i = 0 /\ D = 0 \/ 0 < D)) -> C' [some (V.lst vs),some (V.int k),some (V.int D),pl] σ) (fun C' k => k 0 _ rfl (.inl ⟨rfl,rfl⟩)) (fun _ x0 x1 x2 x3 C' k => k x0 x1 x2 x3) ?_ ?_⟩
 ·intro J hJ i hi D pl hD hD';have hlt : k + i < ts.length := by rw [C.T.len] at hi; exact jX (UH (UE (.c U0) (.b (.c U1) (.c U2)))<|UH (Ut U3 U0)<|UG (Ut (.a U2 U3) U1)) rfl (aJy (iR (UH (Ut U0 U1)<|UG (UL (.n 0) (.b (.c U1) (.c U0)))) rfl hk)) hi
  obtain ⟨t,ht⟩ : ∃ t,ts.drop (k + i) = t :: ts.drop (k + i + 1) := ⟨_,aKq hlt⟩;refine bD F (k := k + i) (Ga hn hdn) C.T ?_;rw [ht] at hD;rw [ht,Ir];refine bA (fun h => ?_) (fun h => ?_)
  ·exact hJ _ (D + 1) _ (by rw [hD]; (conv => lhs; unfold dU); rw [if_pos h]; rfl) (.inr (Z84))
  ·refine bD F (k := k + i) (Ga hn hdn) C.T ?_;rw [ht,Ir];refine bA (fun h2 => ?_) (fun h2 => ?_)
   ·have hi0 : 0 < D := by
     rcases hD' with ⟨rfl,rfl⟩ | z
     ·rw [Nat.add_zero] at ht;rw [ht,Ir] at h0;exact absurd (by simpa using h0) h
     ·exact z
    refine bA (fun h3 => ?_) (fun h3 => ?_)
    ·refine q (k + i) ?_;rw [hD]; unfold dU; rw [if_neg h,if_pos h2,if_pos (aJq (Z85 h3) (Z86 h3))]
    ·refine O6 (show _ = [_,_,some (V.int ((D : Int) - 1)),_] from by rw [show ((D : Int) - 1) = ((D - 1 : Nat) : Int) from by exact aKs (Z87 gY) (Z89 (aJo (Z88 hi0)))]) (hJ _ (D - 1) (some (V.int ((k : Int) + (i : Int)))) ?_ (.inr (Ak hi0 (ne1 h3))))
     ·rw [hD];conv => lhs; unfold dU
      rw [if_neg h,if_pos h2,if_neg (ne1 h3)]; rfl
   ·refine hJ _ D _ ?_ (.inr ?_)
    ·rw [hD];conv => lhs; unfold dU
     rw [if_neg h,if_neg h2]; rfl
    ·rcases hD' with ⟨rfl,rfl⟩ | z
     ·rw [Nat.add_zero] at ht;rw [ht,Ir] at h0;exact absurd (by simpa using h0) h
     ·exact z
 ·intro D pl hD hD';refine ⟨by exact Xa hn hdn,?_⟩;refine hX ?_;rw [hD,aJz]
  ·rfl
  ·rw [C.T.len]; exact gP (UH (UL (.b (.c U0) (.c U1)) (.c U2))<|UG (Ul U0 (.a U1 U2))) rfl X3
theorem lN : ∀ (r : List Tk) (d i e : Nat),dU d r i = some e -> i <= e /\ e < i + r.length
 | [],_,_,_,h => by cases h
 | t :: r,d,i,e,h => by
  unfold dU at h;rw [aJs];split at h
  ·have := lN r _ _ _ h; exact ⟨Z90 this.1,Z91 this.2⟩
  ·split at h
   ·split at h
    ·obtain rfl := aJn h; exact ⟨Z80,Z92⟩
    ·have := lN r _ _ _ h; exact ⟨Z90 this.1,Z91 this.2⟩
   ·have := lN r _ _ _ h; exact ⟨Z90 this.1,Z91 this.2⟩
theorem yG : ∀ (r : List Tk) (d : Nat) (f : Bool) (i : Nat),dU d r i = none -> lF d f r = none
 | [],_,_,_,_ => rfl
 | t :: r,d,f,i,h => by
  unfold dU at h;unfold lF;split at h
  ·rename_i q; rw [if_pos q]; exact yG r _ _ _ h
  ·rename_i q; rw [if_neg q];split at h
   ·rename_i q; rw [if_pos q];split at h
    ·exact tD h
    ·rename_i q; rw [if_neg q]; exact yG r _ _ _ h
   ·rename_i q; rw [if_neg q]; exact yG r _ _ _ h
theorem yH : ∀ (r : List Tk) (d : Nat) (i e : Nat),dU d r i = some e -> lF d true r = some true
 | [],_,_,_,h => by cases h
 | t :: r,d,i,e,h => by
  unfold dU at h;unfold lF;split at h
  ·rename_i q; rw [if_pos q]; exact yH r _ _ _ h
  ·rename_i q; rw [if_neg q];split at h
   ·rename_i q; rw [if_pos q];split at h
    ·rename_i q; rw [if_pos q]
    ·rename_i q; rw [if_neg q]; exact yH r _ _ _ h
   ·rename_i q; rw [if_neg q,Bool.true_or]; exact yH r _ _ _ h
theorem Bh {ts : List Tk} {k : Nat} (h0 : hd (ts.drop k) "(" = true) : dU 0 (ts.drop k) k = dU 1 (ts.drop (k + 1)) (k + 1) := by
 rw [Xy h0,tail_drop];conv => lhs; unfold dU
 rw [if_pos rfl]
theorem DK (F : Facts G) {ts : List Tk} {vs : List V} {k : Nat} {Q : KV} (hn : 4 <= c.n) (C : Ctx ts vs) (h0 : hd (ts.drop k) "(" = true)
  (hX : lF 1 false (ts.drop (k + 1)) = none -> X) (q : ∀ b,lF 1 false (ts.drop (k + 1)) = some b -> Q (.bool b) σ) :
  aR c (.ref (F.a .Vo)) [.lst vs,.int k] σ Q X := by
 have hsm := C.T.small;refine aN F .Vo rfl rfl (Z93 hn) fun d hdn hW => ?_;refine Ru F (ig hn hdn) C h0 (fun e => hX ?_) (fun e he => ?_)
 ·rw [Bh h0] at e; exact yG _ _ _ _ e
 rw [Bh h0] at he;have hge := lN _ _ _ _ he;rw [aKi] at hge;refine ⟨((k + 1 : Nat) : Int),rfl,?_⟩;refine ⟨(e : Int),rfl,by exact aO (c := (m8 _)) (d := (qY _)) (UH (UL (.n 20000000) (.v 0))<|UG (UL (.g (.v 0)) (.c (Up 0 1)))) rfl xR,aEw hsm hge,by exact H6 xR,X4 hsm hge,sV (fun i C' => ∀ (D : Nat) (pl : Option V),dU (D + 1) (ts.drop (k + 1 + i)) (k + 1 + i) = some e -> lF 1 false (ts.drop (k + 1)) = lF (D + 1) false (ts.drop (k + 1 + i)) -> C' [some (V.lst vs),some (V.int k),some (V.int e),some (V.int D),pl] σ) (fun C' k => k 0 _ he rfl) (fun _ x0 x1 x2 x3 C' k => k x0 x1 x2 x3) ?_ ?_⟩
 ·intro J hJ i hi D pl hD hS;obtain ⟨t,ht⟩ : ∃ t,ts.drop (k + 1 + i) = t :: ts.drop (k + 1 + i + 1) := by
   rcases fD ts (k + 1 + i) with ⟨_,h2⟩ | ⟨t,_,_,h2⟩
   ·rw [h2] at hD; cases hD
   ·exact ⟨t,h2⟩
  refine bD F (k := k + 1 + i) (o8 hn hdn) C.T ?_;rw [ht] at hD hS;unfold dU at hD;conv at hS => rhs; unfold lF
  rw [ht,Ir];refine bA (fun h => ?_) (fun h => ?_)
  ·rw [if_pos h] at hD hS;exact hJ _ (D + 1) _ hD hS
  ·rw [if_neg h] at hD hS;refine bD F (k := k + 1 + i) (o8 hn hdn) C.T ?_;rw [ht,Ir];refine bA (fun h2 => ?_) (fun h2 => ?_)
   ·rw [if_pos h2] at hD hS;by_cases h3 : D + 1 = 1
    ·rw [if_pos h3] at hD;obtain rfl := aJn hD;exact (gP (UH (UE (.c U0) (.b (.c (.a (Up 1 1) U2)) (.c (Up 1 1))))<|UH (Ut U2 U0)<|HL.g 0 .f) rfl (aJy (iR (UG (UL (.n 0) (.b (.c (.a (Up 0 1) U1)) (.c (Up 0 1))))) rfl)) hi).elim
    ·rw [if_neg h3] at hD hS;obtain ⟨D',e0⟩ := exs h3;refine O6 (show _ = [_,_,_,some (V.int ((D : Int) - 1)),_] from by rw [show ((D : Int) - 1) = (D' : Int) from by rw [e0]; exact Int.add_sub_cancel (D' : Int) 1]) (hJ _ D' (some (V.int (((k + 1 : Nat) : Int) + (i : Int)))) ?_ ?_)
     ·rw [<- e0]; exact hD
     ·rw [<- e0]; exact hS
   ·rw [if_neg h2] at hD hS;refine jO (fun h3 => ?_) (fun h3 => ?_)
    ·have hD0 : D = 0 := by have := eq_of_beq h3; exact aJq (Z97 this) (Z9)
     subst hD0;refine bD F (k := k + 1 + i) (o8 hn hdn) C.T ?_;rw [ht,Ir];refine bA (fun h4 => ?_) (fun h4 => ?_)
     ·refine q true ?_;rw [hS,decide_eq_true h4];exact yH _ _ _ _ hD
     ·refine hJ _ 0 _ hD ?_;rw [hS,decide_eq_false h4]; rfl
    ·have hD0 : D ≠ 0 := fun z => by subst z; cases h3
     refine hJ _ D _ hD ?_;rw [hS,show decide (D + 1 = 1) = false from decide_eq_false fun z => hD0 (aNj z)]; rfl
 ·intro D pl hD hS;have e1 : k + 1 + ((e : Int) - ((k + 1 : Nat) : Int)).toNat = e := by exact aJq (gP (UH (UE (.c U0) (.b (.c U1) (.c (Up 2 1))))<|UG (Ul (.a (Up 2 1) U0) U1)) rfl (aJy (iR (UH (Ul (Up 0 1) U1)<|UG (UL (.n 0) (.b (.c U1) (.c (Up 0 1))))) rfl hge.1))) (gP (UH (UL (.b (.c U0) (.c (Up 1 1))) (.c U2))<|UG (Ul U0 (.a (Up 1 1) U2))) rfl X3)
  rw [e1] at hD hS;refine q false ?_;rw [hS];rcases fD ts e with ⟨_,h2⟩ | ⟨t,_,_,h2⟩
  ·rw [h2] at hD; cases hD
  ·rw [h2] at hD ⊢;unfold dU at hD;unfold lF;split at hD
   ·have := lN _ _ _ _ hD; exact (Z98 this.1).elim
   ·rename_i h;rw [if_neg h];split at hD
    ·rename_i h; rw [if_pos h];split at hD
     ·rename_i h; rw [if_pos h]
     ·have := lN _ _ _ _ hD; exact (Z98 this.1).elim
    ·have := lN _ _ _ _ hD; exact (Z98 this.1).elim
end Mine
namespace Mine
variable {G : eX} {c : Cfg G} {ρ : En} {σ : aW} {X : Prop}
noncomputable def Ai (G : eX) (fa : Addr) (mid : List V) (B : Nat) (spec : P) (ts : List Tk) (vs : List V) (k : Nat) : Prop :=
 ∀ (c : Cfg G) (σ : aW) (Q : KV) (X : Prop),nd (ts.drop k) + B <= c.n -> (spec (ts.drop k) = none -> X) ->
  (∀ v k',spec (ts.drop k) = some (v,ts.drop k') -> k < k' -> k' <= ts.length -> Q (.tup [v,.int (k' : Nat)]) σ) -> aR c (.ref fa) (.lst vs :: .int k :: mid) σ Q X
section
variable {F : Facts G} {ts : List Tk} {vs : List V} {n : Nat} {E : P}
theorem Om (C : Ctx ts vs) (hE : ∀ k,ts.length - k < n -> Ai G (F.a .cY) [] 15 E ts vs k) {base : V} {k : Nat} (hk : ts.length - k <= n) (h0 : hd (ts.drop k) "(" = true) :
  Ai G (F.a .Cw) [base] 6 (wO E base) ts vs k := by
 intro c σ Q X hn hX q;have hop := yE h0;have hkl := gR h0;have mono := @cI ts;unfold wO at hX q;rw [tail_drop] at hX q;refine aN F .Cw rfl rfl (Z99 hn) fun d hdn hW => ?_;refine cR F (JM hn hdn) C.T (by decide +kernel) (fun z => by rw [h0] at z; cases z) fun _ => ?_;walk_at "a";refine bH (fun C' => ∀ low aJ,mH ":" E (ts.drop (k + 1)) = some (low,ts.drop aJ) -> k + 1 <= aJ -> aJ <= ts.length -> C' [some (V.lst vs),some (V.int (aJ : Nat)),some base,some low,some V.none] σ) ?_ ?_
 ·intro R' hR;refine bD F (k := k + 1) (JN hn hdn) C.T ?_;refine jO (fun h => ?_) (fun h => ?_)
  ·have h : hd (ts.drop (k + 1)) ":" = false := by simpa using h
   have oe : mH ":" E (ts.drop (k + 1)) = E (ts.drop (k + 1)) := by unfold mH; rw [h]; rfl
   refine hE (k + 1) (aAp (aJo (vZ hkl)) hk gY) _ _ _ _ (jX (UH (Ue (Up 0 10) U1)<|UH (Ul (Up 1 6) U2)<|UH (Uq (Up 3 1) U2)<|UG (Ul (Up 0 15) U3)) rfl hop hn hdn) (fun e => hX (by rw [oe,e]; rfl)) fun v aJ e h1 h2 => ?_;exact hR v aJ (by rw [oe,e]) (Yz h1) h2
  ·have h : hd (ts.drop (k + 1)) ":" = true := by simpa using h
   exact hR _ (k + 1) (by unfold mH; rw [if_pos h]) (aJr _) (vZ hkl)
 ·intro low aJ e1 h1 h2;rw [e1] at hX q;rw [aB] at hX;simp only [aB] at q;refine cR F (k := aJ) (JM hn hdn) C.T (by decide +kernel) (fun z => hX (by rw [z]; rfl)) fun hc => ?_;have O9 := gR hc;rw [if_pos hc,tail_drop] at hX;simp only [hc,if_true,tail_drop] at q;have sS := mono (k := k + 1) (k' := aJ) h1;have aHk := mono (k := aJ) (k' := aJ + 1) (Kv);have aHl : ts.length - (aJ + 1) < n := by exact Jt (UH (Ue (.a U0 (Up 1 1)) U2)<|UH (Ul (Up 3 1) U1)<|UH (Ul U4 U5)<|UH (Ul U2 (.a U4 U3))<|UG (Ut U0 U5)) rfl (aJo (vZ O9)) h1 hk gY
  walk_at "a";refine bH (fun C' => ∀ high eY,mH ")" E (ts.drop (aJ + 1)) = some (high,ts.drop eY) -> aJ + 1 <= eY -> eY <= ts.length -> C' [some (V.lst vs),some (V.int (eY : Nat)),some base,some low,some high] σ) ?_ ?_
  ·intro R' hR;refine bD F (k := aJ + 1) (JN hn hdn) C.T ?_;refine jO (fun h => ?_) (fun h => ?_)
   ·have h : hd (ts.drop (aJ + 1)) ")" = false := by simpa using h
    have oe : mH ")" E (ts.drop (aJ + 1)) = E (ts.drop (aJ + 1)) := by unfold mH; rw [h]; rfl
    refine hE (aJ + 1) aHl _ _ _ _ (Jt (UH (Ue (Up 0 10) U1)<|UH (Ul (Up 1 6) U2)<|UH (Ul U3 U0)<|UH (Ul U4 U3)<|UH (Uq (Up 5 1) U2)<|UG (Ul (Up 4 15) U5)) rfl hop hn sS aHk hdn) (fun e => hX (by rw [oe,e]; rfl)) fun v eY e h1 h2 => ?_;exact hR v eY (by rw [oe,e]) (Yz h1) h2
   ·have h : hd (ts.drop (aJ + 1)) ")" = true := by simpa using h
    exact hR _ (aJ + 1) (by unfold mH; rw [if_pos h]) (aJr _) (vZ O9)
  ·intro high eY e2 h3 h4;rw [e2,aB] at hX;simp only [e2,aB] at q;refine cR F (k := eY) (JM hn hdn) C.T (by decide +kernel) (fun z => hX (by rw [z]; rfl)) fun hc2 => ?_;have hlen3 := gR hc2;exact q _ (eY + 1) (by rw [if_pos hc2,tail_drop]) (gP (UH (Ul (Up 0 1) U1)<|UH (Ul (Up 1 1) U2)<|UG (Ut U0 (Up 2 1))) rfl h1 h3) hlen3
theorem Dl (C : Ctx ts vs) (hE : ∀ k,ts.length - k < n -> Ai G (F.a .cY) [] 15 E ts vs k) {k : Nat} (hk : ts.length - k <= n) (h0 : hd (ts.drop k) "(" = true) :
  Ai G (F.a .sU) [] 7 (dM E) ts vs k := by
 intro c σ Q X hn hX q;have hop := yE h0;have hkl := gR h0;unfold dM at hX q;refine aN F .sU rfl rfl (iw hn) fun d hdn hW => ?_;refine Kf F (Za hn hdn) C ?_;cases hx : sH (ts.drop k) with
 | some x =>
  obtain ⟨v,r⟩ := x;rw [hx] at q;simp only at q;obtain ⟨l,Fz,e1,hx⟩ := aD hx;rw [tail_drop] at e1;split at hx
  ·rename_i hc;obtain ⟨l',aJm,e2,hx⟩ := aD hx;split at hx
   ·rename_i hc2;obtain ⟨rfl,rfl⟩ := aZ hx;have s1 := Lp _ _ _ _ e1;obtain ⟨aJ,rfl,a1,a2⟩ := s1;rw [tail_drop] at e2;obtain ⟨eY,rfl,a3,a4⟩ := Lp _ _ _ _ e2;refine vV F (k := k + 1) (Za hn hdn) C e1 a2 ?_;refine vV F (k := aJ + 1) (Za hn hdn) C e2 a4 ?_;refine cR F (k := eY) (Za hn hdn) C.T (by decide +kernel) (fun z => by rw [hc2] at z; cases z) fun _ => ?_;have := gR hc2;exact q _ (eY + 1) (by rw [tail_drop]) (gP (UH (Ut (Up 0 1) U1)<|UH (Ut (Up 1 1) U2)<|UG (Ut U0 (Up 2 1))) rfl a1 a3) this
   ·exact aK hx
  ·exact aK hx
 | none =>
  rw [hx] at hX q;simp only at hX q;unfold gM at hX q;rw [tail_drop] at hX q;refine hE (k + 1) (aAp (aJo (vZ hkl)) hk gY) _ _ _ _ (jX (UH (Ue (Up 0 10) U1)<|UH (Ul (Up 1 7) U2)<|UH (Uq (Up 3 1) U2)<|UG (Ul (Up 0 15) U3)) rfl hop hn hdn) (fun e => hX (by rw [e]; rfl)) fun v aJ e h1 h2 => ?_;rw [e,aB] at hX;simp only [e,aB] at q;have := cI ts (k := k + 1) (k' := aJ) (Yz h1);refine cR F (k := aJ) (Za hn hdn) C.T (by decide +kernel) (fun z => hX (by rw [z]; rfl)) fun hc => ?_;have := gR hc;exact q _ (aJ + 1) (by rw [if_pos hc,tail_drop]) (aAq h1) this
theorem zV (C : Ctx ts vs) (hs : eH E) (hE : ∀ k,ts.length - k < n -> Ai G (F.a .cY) [] 15 E ts vs k) {k : Nat} (hk : ts.length - k <= n) (h0 : hd (ts.drop k) "(" = true) :
  Ai G (F.a .pF) [.bool false] 6 (pB E) ts vs k := by
 intro c σ Q X hn hX q;have hop := yE h0;have hkl := gR h0;have hsm := C.T.small;unfold pB at hX q;rw [tail_drop] at hX q;refine aN F .pF rfl rfl (Z99 hn) fun d hdn hW => ?_;refine cR F (JM hn hdn) C.T (by decide +kernel) (fun z => by rw [h0] at z; cases z) fun _ => ?_;intro a ha;refine bD F (k := k + 1) (JN hn hdn) C.T ?_;refine jO (fun h => ?_) (fun h => ?_)
 ·rw [if_pos h] at q;have O9 := gR h;refine ⟨_,_,rfl,aC _ _ _,?_⟩;rw [bU ha];exact q _ (k + 2) (by rw [tail_drop]) (iy) (iR (UH (Ut (Up 0 1) U1)<|UG (Ul (Up 0 2) U1)) rfl O9)
 ·have h : ¬ hd (ts.drop (k + 1)) ")" = true := by rw [h]; decide
  rw [if_neg h] at hX;simp only [if_neg h] at q;unfold gM at hX q;walk_at "a";refine cO (ι := Nat) (fun k' C' => ∀ (acc : List V) (tr : Option V),eN E [] (ts.drop (k + 1)) = eN E acc (ts.drop k') -> k + 1 <= k' -> k' <= ts.length -> acc.length + 1 <= k' -> C' [some (V.lst vs),some (V.int (k' : Nat)),some (V.bool false),some (V.mut a),none,tr] (aH σ a acc)) (fun k' => ts.length + 1 - k') (k + 1) (fun C' k => k [] _ rfl (aJr _) (vZ hkl) (by simp)) (fun _ x0 x1 x2 x3 x4 x5 C' k => k x0 x1 x2 x3 x4 x5) ?_;intro J hJ k' acc tr hsep h1 h2 h3;have hk' := cI ts (k := k + 1) (k' := k') h1;refine hE k' (Jt (UH (Ue (.a U0 U1) U2)<|UH (Ul (Up 3 1) U1)<|UH (Ul U4 U5)<|UH (Ul U2 (.a U4 U3))<|UG (Ut U0 U5)) rfl (aJo (h2)) h1 hk gY) _ _ _ _ (tC (UH (Ue (Up 0 10) U1)<|UH (Ul (Up 1 6) U2)<|UH (Ul U3 U0)<|UH (Uq (Up 4 1) U2)<|UG (Ul (Up 3 15) U4)) rfl hop hn hk' hdn) (fun e => hX (by rw [hsep,bV hs,e]; rfl)) fun v aJ e a1 a2 => ?_;have sS := cI ts (k := k') (k' := aJ) (j8 a1);refine ⟨a,rfl,⟨_,aC _ _ _⟩,?_⟩;refine ⟨acc,aC _ _ _,by rw [sizeLine_eq]; exact jX (UH (Ul (Up 0 1) U1)<|UH (Ul U2 U3)<|UH (Ut U1 U2)<|UH (Ut U3 (Un 10000))<|UG (Ut U0 (Un 16777216))) rfl h3 a2 a1 hsm,?_⟩;rw [bI];refine bD F (k := aJ) (JN hn hdn) C.T ?_;have hst : eN E [] (ts.drop (k + 1)) = if hd (ts.drop aJ) "," then eN E (acc ++ [v]) (ts.drop (aJ + 1)) else some (.lst (acc ++ [v]),ts.drop aJ) := by
   rw [hsep,bV hs,e,aB,tail_drop]
  cases hc : hd (ts.drop aJ) ","
  ·rw [hc] at hst;rw [hst] at hX q;refine ⟨_,_,rfl,aC _ _ _,?_⟩;rw [bU ha];refine cR F (k := aJ) (JM hn hdn) C.T (by decide +kernel) (fun z => hX (by show (if hd (ts.drop aJ) ")" then _ else _) = _; rw [z]; rfl)) fun hc2 => ?_;have := gR hc2;exact q _ (aJ + 1) (by show (if hd (ts.drop aJ) ")" then _ else _) = _; rw [if_pos hc2,tail_drop]) (gP (UH (Ul (Up 0 1) U1)<|UH (Ut U1 U2)<|UG (Ut U0 (Up 2 1))) rfl h1 a1) this
  ·rw [hc] at hst;have := gR hc;exact ⟨aJ + 1,by dsimp only; exact tC (UH (Ue (.a U0 (Up 1 1)) (Up 2 1))<|UH (Ut U3 U1)<|UH (Ul (Up 2 1) (.a U4 U3))<|UG (Ut U0 U4)) rfl (aJo (o9 this)) a1 gY,hJ _ (acc ++ [v]) _ hst (gP (UH (Ul (Up 0 1) U1)<|UH (Ut U1 U2)<|UG (Ul (Up 0 1) (Up 2 1))) rfl h1 a1) (vZ this) (by rw [aJt,aJu]; exact gP (UH (Ul (Up 0 1) U1)<|UH (Ut U1 U2)<|UG (Ul (.a (Up 0 1) (Un 1)) (Up 2 1))) rfl h3 a1)⟩
end
end Mine
section
set_option tactic.hygienic true
namespace Mine
theorem Rv {E : P} {s : Str} {r : List Tk} : iB E (.name s :: r) = if hd r "(" then jA E s r else some (TY s,r) := rfl
variable {G : eX} {F : Facts G} {ts : List Tk} {vs : List V} {n : Nat} {E : P}
theorem Lq {ts : List Tk} {k : Nat} (h : ∀ s r,ts.drop k ≠ .name s :: r) (E : P) : iB E (ts.drop k) = none := by
 unfold iB;split
 ·rename_i s r e; exact absurd e (h s r)
 ·rfl
theorem wU (C : Ctx ts vs) (hs : eH E) (hE : ∀ k,ts.length - k < n -> Ai G (F.a .cY) [] 15 E ts vs k) {k : Nat} (hk : ts.length - k <= n) :
  Ai G (F.a .rM) [] 7 (iB E) ts vs k := by
 intro c σ Q X hn hX q;have m1 := cI ts (k := k) (k' := k + 1) (Kv);refine aN F .rM rfl rfl (iw hn) fun d hdn hW => ?_;refine jY F (Za hn hdn) C.T (fun h => hX (Lq h E)) fun s hnm' => ?_;have hkl := (fJ hnm').1;rw [hnm',Rv] at hX q;refine bD F (k := k + 1) (aAr hn hdn) C.T ?_;cases hp : hd (ts.drop (k + 1)) "("
 ·rw [hp] at q;exact q _ (k + 1) rfl (m6) (vZ hkl)
 ·rw [hp,if_pos rfl] at hX;simp only [hp,if_true] at q;have aGk := gR hp;walk_at "a";refine bH (fun C' => ∀ tree aJ rows,jA E s (ts.drop (k + 1)) =
   (if hd (ts.drop aJ) "(" then wO E tree (ts.drop aJ) else some (tree,ts.drop aJ)) -> k + 1 <= aJ -> aJ <= ts.length -> C' [some (V.lst vs),some (V.int (aJ : Nat)),some (V.str s),some tree,rows] σ) ?_ ?_
  ·intro R' hR;refine DK F (k := k + 1) (gP (UH (Ul (Up 0 7) U1)<|UH (Uq (Up 2 1) U1)<|UG (Ul (Un 4) U2)) rfl hn hdn) C hp (fun z => hX (by unfold jA; rw [tail_drop,z])) fun b hb => ?_;unfold jA at hX;rw [tail_drop,hb] at hX;cases b
   ·refine zV C hs hE (k := k + 1) (aAs (aJo (Yz aGk)) hk gY) hp _ _ _ _ (aAt hn m1 hdn) (fun z => hX (by show andThen _ _ = none; rw [z]; rfl)) fun v aJ e h1 h2 => ?_;exact hR _ aJ _ (by unfold jA; rw [tail_drop,hb]; show andThen _ _ = _; rw [e]; rfl) (Yz h1) h2
   ·exact hR _ (k + 1) _ (by unfold jA; rw [tail_drop,hb,hp]; rfl) (JQ) (Yz aGk)
  ·intro tree aJ rows he h1 h2;rw [he] at hX;rw [he] at q;have m2 := cI ts (k := k) (k' := aJ) (Z90 h1);refine bD F (k := aJ) (aAr hn hdn) C.T ?_;cases hp2 : hd (ts.drop aJ) "("
   ·rw [hp2] at q;exact q _ aJ rfl (iR (UH (Ul (Up 0 1) U1)<|UG (Ut U0 U1)) rfl h1) h2
   ·rw [hp2] at hX q;refine Om C hE (k := aJ) (Jt (UH (Ue (.a U0 U1) U2)<|UH (Ul (Up 3 1) U1)<|UH (Ul U4 U5)<|UH (Ul U2 (.a U4 U3))<|UG (Ul U0 U5)) rfl (aJo (h2)) h1 hk gY) hp2 _ _ _ _ (aAt hn m2 hdn) (fun z => hX z) fun v eY e h3 h4 => ?_;exact q v eY e (gP (UH (Ul (Up 0 1) U1)<|UH (Ut U1 U2)<|UG (Ut U0 U2)) rfl h1 h3) h4
theorem jZ (C : Ctx ts vs) (hs : eH E) (hE : ∀ k,ts.length - k < n -> Ai G (F.a .cY) [] 15 E ts vs k) {k : Nat} (hk : ts.length - k <= n) :
  Ai G (F.a .oF) [] 8 (bB E) ts vs k := by
 intro c σ Q X hn hX q;refine aN F .oF rfl rfl (iz hn) fun d hdn hW => ?_;refine iW F (jc hn hdn) C.T ?_;rcases fD ts k with ⟨h1,h2⟩ | ⟨t,h1,h2,h3⟩
 ·rw [h2] at hX;have e0 : kd (ts.drop k) = "" := by rw [h2]; rfl
  refine bA (fun h => absurd (e0 ▸ h) Li.mp) (fun _ => ?_);refine bA (fun h => absurd (e0 ▸ h) Xu.mp) (fun _ => ?_);refine bA (fun _ => ?_) (fun h => absurd e0 h);refine ⟨by exact jd hn hdn,?_⟩;exact hX rfl
 ·cases t with
  | name s =>
   refine bA (fun _ => ?_) (fun h => absurd (by rw [h3]; rfl) h);refine wU C hs hE hk _ _ _ _ (s7 hn hdn) (fun z => hX (by rw [h3] at z ⊢; exact z)) fun v k' e a1 a2 => ?_;exact q v k' (by rw [h3] at e ⊢; exact e) a1 a2
  | num ds m =>
   have e0 : kd (ts.drop k) = "INT" := by rw [h3]; rfl
   rw [h3] at hX q;refine bA (fun h => absurd (e0 ▸ h) Ek.mp) (fun _ => ?_);refine bA (fun h => absurd (e0 ▸ h) tQ.mp) (fun _ => ?_);refine bA (fun h => absurd (e0 ▸ h) (show ¬ (("INT" : Str) = "") by decide +kernel)) (fun _ => ?_);refine bA (fun h => absurd (e0 ▸ h) tQ.mp) (fun _ => ?_);refine vR C.T h2 fun p => ?_;rw [e0];refine wK F (jc hn hdn) (Ip (.inl rfl)) ?_;rw [Int.one_mul];exact q _ (k + 1) rfl (m6) (vZ h1)
  | op o =>
   have e0 : kd (ts.drop k) = "OP" := by rw [h3]; rfl
   refine bA (fun h => absurd (e0 ▸ h) Ig.mp) (fun _ => ?_);refine bA (fun _ => ?_) (fun h => absurd e0 h);refine vR C.T h2 fun p => ?_;refine bA (fun ho => ?_) (fun ho => ?_)
   ·have ep : bB E (ts.drop k) = dM E (ts.drop k) := by
     rw [h3]; show (if o = "(" then _ else _) = _; rw [if_pos ho]
    rw [ep] at hX;simp only [ep] at q;refine Dl C hE hk (by rw [h3]; simp [hd,ho]) _ _ _ _ (s7 hn hdn) hX fun v k' e a1 a2 => ?_;exact q v k' e a1 a2
   ·refine bA (fun h => absurd (e0 ▸ h) (show ¬ (("OP" : Str) = "") by decide +kernel)) (fun _ => ?_);refine bA (fun _ => ?_) (fun h => absurd e0 h);refine ⟨by exact jd hn hdn,?_⟩;refine hX ?_;rw [h3]; show (if o = "(" then _ else _) = _; rw [if_neg ho]
end Mine
end
namespace Mine
variable {G : eX} {F : Facts G} {ts : List Tk} {vs : List V} {n : Nat} {E : P}
theorem xq (C : Ctx ts vs) (k : Nat) : hd (ts.drop k) ".NOT." = false := by
 rcases fD ts k with ⟨_,h2⟩ | ⟨t,_,h2,h3⟩
 ·rw [h2]; rfl
 ·rw [h3];cases t with
  | op o =>
   have := C.ops o (aLv h2);show decide (o = ".NOT.") = false;refine decide_eq_false fun z => ?_;subst z;revert this
   decide +kernel
  | name _ => rfl
  | num _ _ => rfl
theorem Lr {ts : List Tk} : (fZ ts = none /\ hd ts "+" = false /\ hd ts "-" = false) \/ ∃ o,fZ ts = some o /\ cA ts = some o /\ (hd ts "+" = true \/ (hd ts "+" = false /\ hd ts "-" = true)) := by
 unfold fZ;cases h1 : hd ts "+"
 ·cases h2 : hd ts "-"
  ·exact .inl ⟨rfl,rfl,rfl⟩
  ·exact .inr ⟨"-",rfl,gU.mp h2,.inr ⟨rfl,rfl⟩⟩
 ·exact .inr ⟨"+",rfl,gU.mp h1,.inl rfl⟩
theorem jT {ts : List Tk} {k : Nat} {o : Str} (h : cA (ts.drop k) = some o) : k < ts.length /\ ts[k]? = some (.op o) /\ ts.drop k = .op o :: ts.drop (k + 1) := by
 rcases fD ts k with ⟨_,h2⟩ | ⟨t,h1,h2,h3⟩
 ·rw [h2] at h; cases h
 ·rw [h3] at h;cases t with
  | op x => cases h; exact ⟨h1,h2,h3⟩
  | name _ => cases h
  | num _ _ => cases h
theorem nC (C : Ctx ts vs) (UW : ∀ k,ts.length - k <= n -> Ai G (F.a .oF) [] 8 (bB E) ts vs k) {l : Int} {B : Nat} (hB : 9 <= B)
  (h8 : l <= 7 -> ∀ k,ts.length - k <= n -> Ai G (F.a .dD) [.int 8] 11 (fG (bB E)) ts vs k) (hB8 : l <= 7 -> 12 <= B) {k : Nat} (hk : ts.length - k <= n) :
  Ai G (F.a .oV) [.int l] B (zR (bB E) l) ts vs k := by
 intro c σ Q X hn hX q;have m1 := cI ts (k := k) (k' := k + 1) (Kv);refine aN F .oV rfl rfl (gP (UH (Ul (.a U0 U1) U2)<|UH (Ul (Un 9) U1)<|UG (Ul (Un 1) U2)) rfl hn hB) fun d hdn hW => ?_;refine bD F (s8 hn hB hdn) C.T ?_;rw [xq C];unfold zR at hX q;walk_at "a";refine zE (fZ (ts.drop k)).isSome ?_ ?_
 ·refine bD F (s8 hn hB hdn) C.T ?_;rcases Lr (ts := ts.drop k) with ⟨e0,e1,e2⟩ | ⟨o,e0,e1,e2 | ⟨e2,e3⟩⟩
  ·rw [e0,e1];refine bD F (s8 hn hB hdn) C.T ?_;rw [e2];exact ⟨rfl,rfl⟩
  ·rw [e0,e2];exact ⟨rfl,rfl⟩
  ·rw [e0,e2];refine bD F (s8 hn hB hdn) C.T ?_;rw [e3];exact ⟨rfl,rfl⟩
 ·rcases Lr (ts := ts.drop k) with ⟨e0,_⟩ | ⟨o,e0,e1,_⟩
  ·rw [e0] at hX q ⊢;refine UW k hk _ _ _ _ (jX (UH (Ul (.a U0 U1) U2)<|UH (Ul (Un 9) U1)<|UH (Uq (Up 3 1) U2)<|UG (Ul (Up 0 8) U3)) rfl hn hB hdn) hX fun v k' e a1 a2 => ?_;exact q v k' e a1 a2
  ·rw [e0] at hX q ⊢;obtain ⟨b1,b2,b3⟩ := jT e1;simp only at hX q;refine bA (fun h => ?_) (fun h => ?_)
   ·rw [if_neg (aLp.mpr (h))] at hX;refine ⟨by exact jX (UH (Ul (.a U0 U1) U2)<|UH (Ul (Un 9) U1)<|UH (Uq (Up 3 1) U2)<|UG (Ul (Un 2) U3)) rfl hn hB hdn,?_⟩;exact hX rfl
   ·have hl : l <= 7 := by exact (aKd.mp h)
    have := hB8 hl;rw [if_pos hl,tail_drop] at hX;simp only [if_pos hl,tail_drop] at q;refine vR C.T b2 fun p => ?_;refine h8 hl (k + 1) (aAs (aJo (vZ b1)) hk gY) _ _ _ _ (tC (UH (Ul (.a U0 U1) U2)<|UH (Ul (Un 12) U1)<|UH (Ul U3 U0)<|UH (Uq (Up 4 1) U2)<|UG (Ul (Up 3 11) U4)) rfl hn this m1 hdn) (fun z => hX (by rw [z]; rfl)) fun v aJ e a1 a2 => ?_;exact q _ aJ (by rw [e]; rfl) (Z35 a1) a2
theorem P0 {ts : List Tk} {l : Int} (hl : 1 <= l) (h : l <= Ii ts) : ∃ o p,cA ts = some o /\ lG o = some p /\ Ii ts = p /\ l <= p := by
 unfold Ii at h ⊢;cases e : cA ts with
 | none => rw [e] at h; simp only at h; exact (aAu hl h).elim
 | some o =>
  rw [e] at h;simp only at h ⊢;cases ep : lG o with
  | none => rw [ep,aNv] at h; exact (aAu hl h).elim
  | some p => rw [ep,aLn] at h; exact ⟨o,p,rfl,ep,by rw [aLn],h⟩
theorem iI (C : Ctx ts vs) (hs : eH E) {l : Int} (hl : l = 1 \/ l = 7 \/ l = 8 \/ l = 9) {B Bf : Nat} (hBf : Bf + 1 <= B) (hB5 : 5 <= B) {k : Nat} (hk : ts.length - k <= n)
  (hfirst : Ai G (F.a .oV) [.int l] Bf (zR (bB E) l) ts vs k)
  (hsub : ∀ (j : Nat) (o : Str) (p : Int),k < j -> cA (ts.drop j) = some o -> lG o = some p -> l <= p -> ∀ (c : Cfg G) (σ : aW) (Q : KV) (X : Prop),nd (ts.drop j) + B <= c.n + 1 ->
   (Cp (bB E) (if p = 9 then 9 else p + 1) (ts.drop (j + 1)) = none -> X) ->
   (∀ v k',Cp (bB E) (if p = 9 then 9 else p + 1) (ts.drop (j + 1)) = some (v,ts.drop k') -> j + 1 < k' -> k' <= ts.length -> Q (.tup [v,.int (k' : Nat)]) σ) ->
   aR c (.ref (F.a .dD)) [.lst vs,.int (j + 1 : Nat),.int (if p = 9 then 9 else p + 1)] σ Q X) :
  Ai G (F.a .dD) [.int l] B (Cp (bB E) l) ts vs k := by
 intro c σ Q X hn hX q;have hp := tZ hs;have key := CZ hp (Vz E) hl (ts.drop k);rw [<- key] at hX;simp only [<- key] at q;refine aN F .dD rfl rfl (jX (UH (Ul (.a U0 U1) U2)<|UH (Ul (Up 3 1) U1)<|UG (Ul (Un 1) U2)) rfl hn hBf) fun d hdn hW => ?_;refine hfirst _ _ _ _ (tC (UH (Ul (.a U0 U1) U2)<|UH (Ul (Up 3 1) U1)<|UH (Uq (Up 4 1) U2)<|UG (Ul (.a U0 U3) U4)) rfl hn hBf hdn) (fun z => hX (by rw [z]; rfl)) fun v aHm e a1 a2 => ?_;rw [e,aB] at hX;simp only [e,aB] at q;walk_at "a";refine O1 (ι := Nat) (fun k' ρ' σ' => ∃ (tree : V) (lv op right : Option V),ρ' = [some (V.lst vs),some (V.int (k' : Nat)),some (V.int l),some tree,some (V.bool false),lv,op,right] /\ σ = σ' /\
  wN l (Cp (bB E)) v (ts.drop aHm) = wN l (Cp (bB E)) tree (ts.drop k') /\ k < k' /\ k' <= ts.length) (fun k' => ts.length + 1 - k') aHm ⟨v,_,_,_,rfl,rfl,rfl,a1,a2⟩ ?_
 rintro J hJ k' _ _ ⟨tree,lv,op,right,rfl,rfl,hb,h1,h2⟩;have m1 := cI ts (k := k) (k' := k') (j8 h1);refine wL F (aAv hn hB5 hdn) C.T C.ops ?_;refine bA (fun h => ?_) (fun h => ?_)
 ·obtain ⟨o,p,ho,hpo,hpa,hlp⟩ := P0 (l := l) (au hl) h;obtain ⟨b1,b2,b3⟩ := jT ho;rw [Il (Oi hp) (tree := tree) ho (by rw [hpo]; exact hlp),hpo,tail_drop] at hb;have hp5 : ¬ p = 5 := by rcases vH hpo with ⟨_,rfl⟩ | ⟨_,rfl,_⟩ | ⟨_,_,rfl,_⟩ | ⟨_,_,_,rfl,_⟩ <;> decide
  have e9 : (if some p = some (9 : Int) then (9 : Int) else (some p).getD 0 + 1) = if p = 9 then 9 else p + 1 := by simp
  rw [e9] at hb;refine wL F (aAv hn hB5 hdn) C.T C.ops ?_;rw [hpa];refine vR C.T b2 fun _ => ?_;have f5 : (p == 5) = false := beq_eq_false_iff_ne.mpr hp5;refine jO (fun z => by rw [f5] at z; cases z) (fun _ => ?_);walk_at "a";refine bH (fun C' => ∀ (t : V) (aJ : Nat),Cp (bB E) (if p = 9 then 9 else p + 1) (ts.drop (k' + 1)) = some (t,ts.drop aJ) -> k' + 1 < aJ -> aJ <= ts.length -> C' [some (V.lst vs),some (V.int (aJ : Nat)),some (V.int l),some tree,some (V.bool false),some (V.int p),some (V.str o),some t] σ) ?_ ?_
  ·intro R' hR;have call := hsub k' o p h1 ho hpo hlp;have hX' : Cp (bB E) (if p = 9 then 9 else p + 1) (ts.drop (k' + 1)) = none -> X := fun z => hX (by rw [hb,z]; rfl);refine jO (fun z => ?_) (fun z => ?_)
   ·have hp9 : p = 9 := eq_of_beq z;rw [if_pos hp9] at call hX';refine call _ _ _ _ (aAw hn m1 hdn) hX' fun t aJ e c1 c2 => ?_;exact hR t aJ (by rw [if_pos hp9]; exact e) c1 c2
   ·have hp9 : ¬ p = 9 := ne_of_beq_false z;rw [if_neg hp9] at call hX';refine call _ _ _ _ (aAw hn m1 hdn) hX' fun t aJ e c1 c2 => ?_;exact hR t aJ (by rw [if_neg hp9]; exact e) c1 c2
  ·intro t aJ e c1 c2;rw [e,aB] at hb;exact ⟨aJ,by dsimp only; exact u0 (aJo (Jy c2)) c1 gY,hJ ⟨_,_,_,_,by show [_,_,_,_,some (V.bool (p == 5)),_,_,_] = _; rw [f5]; rfl,rfl,hb,by exact aAx c1 h1,c2⟩⟩
 ·have hst : wN l (Cp (bB E)) tree (ts.drop k') = some (tree,ts.drop k') := Im fun o ho z => h (by unfold Ii; rw [ho]; exact z);exact q tree k' (by rw [hb,hst]) h1 h2
end Mine
namespace Mine
variable {G : eX} {F : Facts G} {ts : List Tk} {vs : List V} {n : Nat} {E : P}
theorem aGl {o : Str} {p : Int} (h : lG o = some p) (h9 : p = 9) : o = "**" := by
 rcases vH h with ⟨e,_⟩ | ⟨_,e,_⟩ | ⟨_,_,e,_⟩ | ⟨_,_,_,e,_⟩
 ·exact e
 all_goals exact absurd (e.symm.trans h9) (by decide)
theorem yI {o : Str} {p : Int} (h : lG o = some p) : p = 9 \/ p = 8 \/ p = 7 \/ p = 6 := by
 rcases vH h with ⟨_,e⟩ | ⟨_,e,_⟩ | ⟨_,_,e,_⟩ | ⟨_,_,_,e,_⟩
 ·exact .inl e
 ·exact .inr (.inl e)
 ·exact .inr (.inr (.inl e))
 ·exact .inr (.inr (.inr e))
theorem Q0 {p : Int} (h : p = 9 \/ p = 8 \/ p = 7 \/ p = 6) (q : 9 <= p) : p = 9 := h.elim id fun h => absurd q (by rcases h with rfl | rfl | rfl <;> decide)
theorem Q5 {p : Int} (h : p = 9 \/ p = 8 \/ p = 7 \/ p = 6) (q : 8 <= p) : (if p = 9 then (9 : Int) else p + 1) = 9 := by
 rcases h with rfl | rfl | h
 ·rfl
 ·rfl
 ·exact absurd q (by rcases h with rfl | rfl <;> decide)
section
variable (C : Ctx ts vs) (hs : eH E) (hE : ∀ k,ts.length - k < n -> Ai G (F.a .cY) [] 15 E ts vs k)
include C hs hE
theorem Rw : ∀ (m k : Nat),ts.length - k <= m -> ts.length - k <= n -> Ai G (F.a .dD) [.int 9] 10 (Cp (bB E) 9) ts vs k := by
 intro m;induction m with
 | zero =>
  intro k hm hk;refine iI C hs (Bf := 9) (.inr (.inr (.inr rfl))) (aAy) (aAz) hk (nC C (fun k hk => jZ C hs hE hk) (l := 9) (je) (fun h => absurd h (by decide)) (fun h => absurd h (by decide)) hk) ?_;intro j o p hj ho;have := (jT ho).1;exact (jX (UH (Ul U0 (Un 0))<|UH (Ut U1 U2)<|UH (Ut U2 U3)<|UH (Ul U3 (.a U0 U1))<|HL.g 0 .f) rfl hm hj this gY).elim
 | succ m ih =>
  intro k hm hk;refine iI C hs (Bf := 9) (.inr (.inr (.inr rfl))) (aAy) (aAz) hk (nC C (fun k hk => jZ C hs hE hk) (l := 9) (je) (fun h => absurd h (by decide)) (fun h => absurd h (by decide)) hk) ?_;intro j o p hj ho hpo hlp c σ Q X hn hX q;have hj' := (jT ho).1;have hp9 : p = 9 := Q0 (yI hpo) hlp;have hst := Xx (ts := ts) (k := j) (by rw [ho,aGl hpo hp9]);rw [if_pos hp9] at hX q ⊢;exact ih (j + 1) (Jt (UH (Ue (.a U0 (Up 1 1)) U2)<|UH (Ul U3 (Up 4 1))<|UH (Ut U5 U1)<|UH (Ul U2 (.a U3 U5))<|UG (Ul U0 U4)) rfl (aJo (vZ hj')) hm hj gY) (Mw (aJo (vZ hj')) hk hj gY) c σ Q X (gP (UH (Ue (Up 0 1) U1)<|UH (Ul (Up 1 10) (Up 2 1))<|UG (Ul (Up 0 10) U2)) rfl hst hn) hX q
theorem VB (k : Nat) (hk : ts.length - k <= n) : Ai G (F.a .dD) [.int 8] 11 (Cp (bB E) 8) ts vs k := by
 refine iI C hs (Bf := 9) (.inr (.inr (.inl rfl))) (aO (c := .o) (d := .o) (UG (Ul (.a (Un 9) (Un 1)) (Un 11))) rfl) (aO (c := .o) (d := .o) (UG (Ul (Un 5) (Un 11))) rfl) hk (nC C (fun k hk => jZ C hs hE hk) (l := 8) (je) (fun h => absurd h (by decide)) (fun h => absurd h (by decide)) hk) ?_;intro j o p hj ho hpo hlp c σ Q X hn hX q;have hj' := (jT ho).1;have m1 := cI ts (k := j) (k' := j + 1) (Kv);have e : (if p = 9 then (9 : Int) else p + 1) = 9 := Q5 (yI hpo) hlp;rw [e] at hX q ⊢;exact Rw C hs hE _ (j + 1) (aJr _) (Mw (aJo (vZ hj')) hk hj gY) c σ Q X (gP (UH (Ul (Up 0 11) (Up 1 1))<|UH (Ul U2 U0)<|UG (Ul (Up 2 10) U1)) rfl hn m1) hX q
theorem Rx {l : Int} (k : Nat) (hk : ts.length - k <= n) : Ai G (F.a .oV) [.int l] 12 (zR (bB E) l) ts vs k :=
 nC C (fun k hk => jZ C hs hE hk) (aO (c := .o) (d := .o) (UG (Ul (Un 9) (Un 12))) rfl) (fun _ k hk => VB C hs hE k hk) (fun _ => by exact aO (c := .o) (d := .o) (UG (Ul (Un 12) (Un 12))) rfl) hk
theorem aGm (k : Nat) (hk : ts.length - k <= n) : Ai G (F.a .dD) [.int 7] 13 (Cp (bB E) 7) ts vs k := by
 refine iI C hs (.inr (.inl rfl)) (aJr _) (aO (c := .o) (d := .o) (UG (Ul (Un 5) (.a (Un 12) (Un 1)))) rfl) hk (Rx C hs hE k hk) ?_;intro j o p hj ho hpo hlp c σ Q X hn hX q;have hj' := (jT ho).1;have m1 := cI ts (k := j) (k' := j + 1) (Kv);rcases yI hpo with rfl | rfl | rfl | rfl
 ·exact Rw C hs hE _ (j + 1) (aJr _) (Mw (aJo (vZ hj')) hk hj gY) c σ Q X (aBa hn m1) hX q
 ·exact Rw C hs hE _ (j + 1) (aJr _) (Mw (aJo (vZ hj')) hk hj gY) c σ Q X (aBa hn m1) hX q
 ·exact VB C hs hE (j + 1) (Mw (aJo (vZ hj')) hk hj gY) c σ Q X (gP (UH (Ul (.a U0 (.a (Un 12) (Un 1))) (Up 1 1))<|UH (Ul U2 U0)<|UG (Ul (Up 2 11) U1)) rfl hn m1) hX q
 ·exact (aO (c := .o) (d := .o) (UH (UL (.n 7) (.n 6))<|HL.g 0 .f) rfl hlp).elim
theorem aGn (k : Nat) (hk : ts.length - k <= n) : Ai G (F.a .dD) [.int 1] 14 (Cp (bB E) 1) ts vs k := by
 refine iI C hs (.inl rfl) (Bf := 12) (aO (c := .o) (d := .o) (UG (Ul (.a (Un 12) (Un 1)) (Un 14))) rfl) (aO (c := .o) (d := .o) (UG (Ul (Un 5) (Un 14))) rfl) hk (Rx C hs hE k hk) ?_;intro j o p hj ho hpo hlp c σ Q X hn hX q;have hj' := (jT ho).1;have m1 := cI ts (k := j) (k' := j + 1) (Kv);rcases yI hpo with rfl | rfl | rfl | rfl
 ·exact Rw C hs hE _ (j + 1) (aJr _) (Mw (aJo (vZ hj')) hk hj gY) c σ Q X (aBb hn m1) hX q
 ·exact Rw C hs hE _ (j + 1) (aJr _) (Mw (aJo (vZ hj')) hk hj gY) c σ Q X (aBb hn m1) hX q
 ·exact VB C hs hE (j + 1) (Mw (aJo (vZ hj')) hk hj gY) c σ Q X (gP (UH (Ul (Up 0 14) (Up 1 1))<|UH (Ul U2 U0)<|UG (Ul (Up 2 11) U1)) rfl hn m1) hX q
 ·exact aGm C hs hE (j + 1) (Mw (aJo (vZ hj')) hk hj gY) c σ Q X (gP (UH (Ul (Up 0 14) (Up 1 1))<|UH (Ul U2 U0)<|UG (Ul (Up 2 13) U1)) rfl hn m1) hX q
end
theorem Kg (F : Facts G) (C : Ctx ts vs) : ∀ (n k : Nat),ts.length - k < n -> Ai G (F.a .cY) [] 15 (gE n) ts vs k := by
 intro n;induction n with
 | zero => intro k h; exact (Fg h).elim
 | succ n ih =>
  intro k hk c σ Q X hn hX q;refine aN F .cY rfl rfl (aBc hn) fun d hdn hW => ?_;refine aGn C (dZ n) ih k (jf hk) _ _ _ _ (aBd hn hdn) hX fun v k' e a1 a2 => ?_;exact q v k' e a1 a2
end Mine
section
set_option tactic.hygienic true
namespace Mine
noncomputable def fL (E : P) : P := fun ts => if hd ts "*" then some (.tup [.none,.none],ts.tail) else andThen (E ts) fun t r =>
 if hd r ":" then (if hd r.tail "*" then some (.tup [t,.none],r.tail.tail) else andThen (E r.tail) fun h r' => some (.tup [t,h],r')) else some (.tup [.none,t],r)
noncomputable def Ls : V -> Bool
 | .tup [_,.none] => true
 | _ => false
noncomputable def nD (acc : List V) : Bool := match acc.getLast? with
 | some v => Ls v
 | none => false
noncomputable def kJ (E : P) (acc : List V) (ts : List Tk) : Option (V × List Tk) :=
 Ke (fun acc ts rec => if nD acc then none else match fL E ts.tail with
  | none => none
  | some (b,r) => if hd r "," then rec (acc ++ [b]) r else some (.lst (acc ++ [b]),r)) acc ts
theorem Dm (E : P) (acc : List V) (ts : List Tk) : kJ E acc ts = if nD acc then none else match fL E ts.tail with
  | none => none
  | some (b,r) => if hd r "," then (if _h : r.length < ts.length then kJ E (acc ++ [b]) r else none) else some (.lst (acc ++ [b]),r) := pX _ _ _
noncomputable def IV : V -> Nat
 | .lst l => l.length
 | _ => 0
noncomputable def kI (E : P) : P := fun ts => if hd ts "(" then andThen (kJ E [] ts) fun d r => if 7 < IV d then none else if hd r ")" then some (d,r.tail) else none else some (.lst [],ts)
noncomputable def gD (E : P) (ts : List Tk) : Option (V × List Tk) := match ts with
 | .num _ n :: r => if n = 0 then none else some (iV n,r)
 | _ => if hd ts "(" then (if hd ts.tail "*" then (if hd ts.tail.tail ")" then some (.str "*",ts.tail.tail.tail) else none) else gM E ts.tail) else none
noncomputable def gO (E : P) (isText : Bool) : P := fun ts => if isText && hd ts "*" then gD E ts.tail else some (.none,ts)
noncomputable def gW (E : P) (form : Nat) : P
 | .name s :: r => if form = 2 /\ hd r "(" = false then none else andThen (kI E r) fun d r' => andThen (gO E (form = 1) r') fun l r'' => some (.tup [.str s,d,l],r'')
 | _ => none
theorem qP {E : P} (hE : eH E) : eH (fL E) := by
 intro ts v r h;unfold fL at h;split at h
 ·rename_i hh; obtain ⟨rfl,rfl⟩ := aZ h; exact vC hh
 ·obtain ⟨t,r',h1,h2⟩ := aD h;have := hE _ _ _ h1;split at h2
  ·have := bM r';split at h2
   ·obtain ⟨rfl,rfl⟩ := aZ h2; have := bM r'.tail; exact aEi (by assumption) (by assumption) (by assumption)
   ·obtain ⟨t',r'',h3,h4⟩ := aD h2;obtain ⟨rfl,rfl⟩ := aZ h4;exact aLd (aKx (hE _ _ _ h3) (bM r')) (hE _ _ _ h1)
  ·obtain ⟨rfl,rfl⟩ := aZ h2; assumption
theorem sI {E : P} (hE : eH E) (acc : List V) (ts : List Tk) : kJ E acc ts = if nD acc then none else andThen (fL E ts.tail) fun b r => if hd r "," then kJ E (acc ++ [b]) r else some (.lst (acc ++ [b]),r) := by
 rw [Dm];split
 ·rfl
 ·split
  ·rename_i e; rw [e]; rfl
  ·rename_i b r e;rw [e,aB];have := qP hE _ _ _ e;have := bM ts;split
   ·rw [dif_pos (qg (by assumption) (by assumption))]
   ·rfl
variable {G : eX} {F : Facts G} {ts : List Tk} {vs : List V} {N : Nat}
section
variable (F) (C : Ctx ts vs) (hN : ts.length < N)
include C hN
theorem Bj (k : Nat) : Ai G (F.a .cY) [] 15 (gE N) ts vs k := Kg F C N k (gP (UH (Ut U0 U1)<|UH (Ul U2 U0)<|UG (Ut U2 U1)) rfl hN W9)
theorem Iu {k : Nat} (hkl : k <= ts.length) : Ai G (F.a .wF) [] 16 (fL (gE N)) ts vs k := by
 intro c σ Q X hn hX q;unfold fL at hX q;rw [tail_drop] at q;refine aN F .wF rfl rfl (aBe hn) fun d hdn hW => ?_;walk_at "a";refine bH (fun C' => ∀ (low : V) (tree : Option V) (aJ : Nat),k <= aJ -> aJ <= ts.length -> fL (gE N) (ts.drop k) = (if hd (ts.drop aJ) "*" then some (.tup [low,.none],ts.drop (aJ + 1)) else andThen (gE N (ts.drop aJ)) fun h r' => some (.tup [low,h],r')) -> ((aJ = k -> hd (ts.drop k) "*" = true)) -> C' [some (V.lst vs),some (V.int (aJ : Nat)),some low,tree,none] σ) ?_ ?_
 ·intro R' hR;refine bD F (jg hn hdn) C.T ?_;cases h : hd (ts.drop k) "*"
  ·rw [h] at hX q;simp only [aKg,if_false] at hX q;refine Bj F C hN k _ _ _ _ (gP (UH (Ul (Up 0 16) U1)<|UH (Uq (Up 2 1) U1)<|UG (Ul (Up 0 15) U2)) rfl hn hdn) (fun z => hX (by rw [z]; rfl)) fun t aJ e a1 a2 => ?_;rw [e,aB] at hX;simp only [e,aB] at q;have m1 := cI ts (k := k) (k' := aJ) (j8 a1);refine bD F (k := aJ) (jg hn hdn) C.T ?_;cases h2 : hd (ts.drop aJ) ":"
   ·rw [h2] at q;exact q _ aJ rfl a1 a2
   ·have := gR h2;refine hR t _ (aJ + 1) (aBf a1) (vZ this) ?_ (fun z => by exact (iR (UH (Ue (Up 0 1) U1)<|UH (Ut U1 U0)<|HL.g 0 .f) rfl z a1).elim);unfold fL;rw [h,e];simp only [aKg,if_false,aB,h2,if_true,tail_drop]
  ·refine hR _ _ k (aJr _) hkl ?_ (fun _ => h);unfold fL;rw [h,if_pos rfl,if_pos rfl,tail_drop]
 ·intro low tree aJ a1 a2 he hst;have hX : fL (gE N) (ts.drop k) = none -> X := hX;have q : ∀ v k',fL (gE N) (ts.drop k) = some (v,ts.drop k') -> k < k' -> k' <= ts.length -> Q (.tup [v,.int (k' : Nat)]) σ := by
   intro v k' e; exact q v k' (by rw [<- e]; unfold fL; rw [tail_drop])
  rw [he] at hX;rw [he] at q;have m1 := cI ts (k := k) (k' := aJ) (by omega);refine bD F (k := aJ) (jg hn hdn) C.T ?_;cases h : hd (ts.drop aJ) "*"
  ·have hne : aJ ≠ k := fun z => by subst z; rw [hst rfl] at h; cases h
   rw [h] at hX q;simp only [aKg,if_false] at hX q;refine Bj F C hN aJ _ _ _ _ (aBg hn m1 hdn) (fun z => hX (by rw [z]; rfl)) fun t eY e a3 a4 => ?_;exact q _ eY (by rw [e]; rfl) (gP (UH (Ul U0 U1)<|UH (Ut U1 U2)<|UG (Ut U0 U2)) rfl a1 a3) a4
  ·rw [h,if_pos rfl] at q;have := gR h;exact q _ (aJ + 1) rfl (Z70 a1) (vZ this)
end
end Mine
end
namespace Mine
noncomputable def Uu (p : P) : Prop := ∀ ts v r,p ts = some (v,r) -> ∃ xs,v = .tup xs
theorem Dn {ops : Str -> Bool} {sub : P} : ∀ (n : Nat) (ts : List Tk),ts.length <= n -> ∀ tree v r,(∃ xs,tree = .tup xs) -> eV ops sub tree ts = some (v,r) -> ∃ xs,v = .tup xs := by
 intro n;induction n with
 | zero =>
  intro ts hn tree v r h0 h;cases ts with
  | nil => rw [lC] at h; simp only [cA] at h; obtain ⟨rfl,rfl⟩ := aZ h; exact h0
  | cons t r => simp at hn
 | succ n ih =>
  intro ts hn tree v r h0 h;rw [lC] at h;split at h
  ·obtain ⟨rfl,rfl⟩ := aZ h; exact h0
  ·split at h
   ·split at h
    ·exact aK h
    ·split at h
     ·exact ih _ (Qi hn (by assumption)) _ _ _ ⟨_,rfl⟩ h
     ·exact aK h
   ·obtain ⟨rfl,rfl⟩ := aZ h; exact h0
theorem VD {prim : P} (hp : Uu prim) : Uu (jF prim) := by
 intro ts v r h;rw [Dj] at h;split at h
 ·exact aK h
 ·rename_i e;split at h
  ·split at h
   ·split at h
    ·exact aK h
    ·obtain ⟨rfl,rfl⟩ := aZ h; exact ⟨_,rfl⟩
   ·exact aK h
  ·obtain ⟨rfl,rfl⟩ := aZ h; exact hp _ _ _ e
theorem wV {p : P} {f : V -> P} (hp : Uu p) (hf : ∀ t ts v r,(∃ xs,t = .tup xs) -> f t ts = some (v,r) -> ∃ xs,v = .tup xs) : Uu (fun ts => andThen (p ts) f) := by
 intro ts v r h;obtain ⟨t,r',h1,h2⟩ := aD h;exact hf _ _ _ _ (hp _ _ _ h1) h2
theorem DN {prim : P} (hp : Uu prim) : Uu (fG prim) := wV (VD hp) fun t ts v r h0 h => Dn _ ts (aJr _) _ _ _ h0 h
theorem Ry {prim : P} (hp : Uu prim) : Uu (iY prim) := by
 intro ts v r h;unfold iY at h;split at h
 ·obtain ⟨t,r',h1,h2⟩ := aD h;obtain ⟨rfl,rfl⟩ := aZ h2; exact ⟨_,rfl⟩
 ·exact DN hp _ _ _ h
theorem VF {prim : P} (hp : Uu prim) : Uu (nT prim) := wV (Ry hp) fun t ts v r h0 h => Dn _ ts (aJr _) _ _ _ h0 h
theorem DP {prim : P} (hp : Uu prim) : Uu (sG prim) := wV (VF hp) fun t ts v r h0 h => Dn _ ts (aJr _) _ _ _ h0 h
theorem Rz {E : P} {b : V} {ts : List Tk} {v : V} {r : List Tk} (h : wO E b ts = some (v,r)) : ∃ l hh,v = .tup [.str "sub",b,l,hh] := by
 obtain ⟨t,r',h1,h2⟩ := aD h;split at h2
 ·obtain ⟨t',r'',h3,h4⟩ := aD h2;split at h4
  ·obtain ⟨rfl,rfl⟩ := aZ h4; exact ⟨_,_,rfl⟩
  ·exact aK h4
 ·exact aK h2
theorem DQ {E : P} {ts : List Tk} {v : V} {r : List Tk} (h : pB E ts = some (v,r)) : ∃ l,v = .lst l := by
 have key : ∀ (n : Nat) (ts : List Tk),ts.length <= n -> ∀ acc v r,eN E acc ts = some (v,r) -> ∃ l,v = .lst l := by
  intro n;induction n with
  | zero =>
   intro ts hn acc v r h;rw [Bg] at h;split at h
   ·exact aK h
   ·split at h
    ·split at h
     ·exact (iR (UH (Ul U0 (Un 0))<|UH (Ut U1 U0)<|HL.g 0 .f) rfl hn (by assumption)).elim
     ·exact aK h
    ·obtain ⟨rfl,rfl⟩ := aZ h; exact ⟨_,rfl⟩
  | succ n ih =>
   intro ts hn acc v r h;rw [Bg] at h;split at h
   ·exact aK h
   ·split at h
    ·split at h
     ·exact ih _ (Qi hn (by assumption)) _ _ _ h
     ·exact aK h
    ·obtain ⟨rfl,rfl⟩ := aZ h; exact ⟨_,rfl⟩
 unfold pB at h;split at h
 ·obtain ⟨rfl,rfl⟩ := aZ h; exact ⟨_,rfl⟩
 ·obtain ⟨t,r',h1,h2⟩ := aD h;split at h2
  ·obtain ⟨rfl,rfl⟩ := aZ h2; exact key _ _ (aJr _) _ _ _ h1
  ·exact aK h2
inductive Named : V -> Prop
 | nm (s : Str) : Named (TY s)
 | ref (s : Str) (l : List V) : Named (.tup [.str "ref",.str s,.lst l])
inductive Place : V -> Prop
 | base {v : V} : Named v -> Place v
 | sub {v l h : V} : Named v -> Place (.tup [.str "sub",v,l,h])
theorem Bk {E : P} {ts : List Tk} {v : V} {r : List Tk} (h : iB E ts = some (v,r)) : Place v := by
 unfold iB at h;split at h
 ·split at h
  ·unfold jA at h;split at h
   ·exact aK h
   ·obtain ⟨l,hh,rfl⟩ := Rz h; exact .sub (.nm _)
   ·obtain ⟨t,r',h1,h2⟩ := aD h;obtain ⟨l,rfl⟩ := DQ h1;split at h2
    ·obtain ⟨l,hh,rfl⟩ := Rz h2; exact .sub (.ref _ _)
    ·obtain ⟨rfl,rfl⟩ := aZ h2; exact .base (.ref _ _)
  ·obtain ⟨rfl,rfl⟩ := aZ h; exact .base (.nm _)
 ·exact aK h
theorem Place.tup {v : V} (h : Place v) : ∃ xs,v = .tup xs := by
 cases h with
 | base h => cases h <;> exact ⟨_,rfl⟩
 | sub _ => exact ⟨_,rfl⟩
theorem DR {E : P} (hE : Uu E) : Uu (bB E) := by
 intro ts v r h;unfold bB at h;split at h
 ·exact (Bk h).tup
 ·obtain ⟨rfl,rfl⟩ := aZ h; exact ⟨_,rfl⟩
 ·split at h
  ·unfold dM at h;split at h
   ·rename_i e;obtain rfl := aJn h;obtain ⟨t,r',h1,h2⟩ := aD e;split at h2
    ·obtain ⟨t',r'',h3,h4⟩ := aD h2;split at h4
     ·obtain ⟨rfl,rfl⟩ := aZ h4; exact ⟨_,rfl⟩
     ·exact aK h4
    ·exact aK h2
   ·obtain ⟨t,r',h1,h2⟩ := aD h;split at h2
    ·obtain ⟨rfl,rfl⟩ := aZ h2; exact hE _ _ _ h1
    ·exact aK h2
  ·exact aK h
 ·exact aK h
theorem Wa : ∀ n,Uu (gE n)
 | 0 => fun _ _ _ h => by cases h
 | n + 1 => DP (DR (Wa n))
theorem Oo {E : P} (hE : Uu E) {ts : List Tk} {v : V} {r : List Tk} (h : fL E ts = some (v,r)) : ∃ lo hi,v = .tup [lo,hi] /\ lR hi = some (Ls v) := by
 unfold fL at h;split at h
 ·obtain ⟨rfl,rfl⟩ := aZ h; exact ⟨_,_,rfl,rfl⟩
 ·obtain ⟨t,r',h1,h2⟩ := aD h;obtain ⟨xs,rfl⟩ := hE _ _ _ h1;split at h2
  ·split at h2
   ·obtain ⟨rfl,rfl⟩ := aZ h2; exact ⟨_,_,rfl,rfl⟩
   ·obtain ⟨t',r'',h3,h4⟩ := aD h2;obtain ⟨ys,rfl⟩ := hE _ _ _ h3;obtain ⟨rfl,rfl⟩ := aZ h4; exact ⟨_,_,rfl,rfl⟩
  ·obtain ⟨rfl,rfl⟩ := aZ h2; exact ⟨_,_,rfl,rfl⟩
variable {G : eX} {F : Facts G} {ts : List Tk} {vs : List V} {N : Nat}
section
variable (F) (C : Ctx ts vs) (hN : ts.length < N)
include C hN
theorem sW {k : Nat} (hkl : k <= ts.length) : ∀ (c : Cfg G) (σ : aW) (Q : KV) (X : Prop),nd (ts.drop k) + 17 <= c.n -> (kI (gE N) (ts.drop k) = none -> X) ->
  (∀ v k',kI (gE N) (ts.drop k) = some (v,ts.drop k') -> k <= k' -> k' <= ts.length -> Q (.tup [v,.int (k' : Nat)]) σ) -> aR c (.ref (F.a .qK)) [.lst vs,.int k] σ Q X := by
 intro c σ Q X hn hX q;have hsm := C.T.small;have hE := dZ N;unfold kI at hX q;refine aN F .qK rfl rfl (aBh hn) fun d hdn hW => ?_;intro a ha;refine bD F (u5 hn hdn) C.T ?_;cases h0 : hd (ts.drop k) "("
 ·rw [h0] at q;refine Lh ?_;refine ⟨_,_,rfl,aC _ _ _,?_⟩;rw [bU ha];exact q _ k rfl (aJr _) hkl
 ·rw [h0,if_pos rfl] at hX;simp only [h0,if_true] at q;walk_at "a";refine bH (fun C' => ∀ (acc : List V) (k' : Nat) (bd : Option V),kJ (gE N) [] (ts.drop k) = some (.lst acc,ts.drop k') -> k <= k' -> k' <= ts.length -> acc.length <= k' -> C' [some (V.lst vs),some (V.int (k' : Nat)),some (V.mut a),some (V.bool false),bd] (aH σ a acc)) ?_ ?_
  ·intro R' hR;walk_at "a";refine cO (ι := Nat × Bool) (fun i C' => ∀ (acc : List V) (bd : Option V),kJ (gE N) [] (ts.drop k) = (if i.2 then kJ (gE N) acc (ts.drop i.1) else some (.lst acc,ts.drop i.1)) -> k <= i.1 -> i.1 <= ts.length -> ((i.2 = true -> i.1 < ts.length)) -> acc.length <= i.1 -> ((∀ b ∈ acc, ∃ lo hi,b = .tup [lo,hi] /\ lR hi = some (Ls b))) -> C' [some (V.lst vs),some (V.int (i.1 : Nat)),some (V.mut a),some (V.bool i.2),bd] (aH σ a acc)) (fun i => 2 * (ts.length + 1 - i.1) + i.2.toNat) (k,true) (fun C' k => k [] _ rfl (aJr _) hkl (fun _ => gR h0) (aKk _) (by simp)) (fun _ x0 x1 x2 x3 x4 x5 x6 x7 C' k => k x0 x1 x2 x3 x4 x5 x6 x7) ?_;rintro J hJ ⟨k',more⟩ acc bd hs h1 h2 h3 h4 h5;have m1 := cI ts (k := k) (k' := k') h1;cases more
   ·exact hR acc k' bd hs h1 h2 h4
   ·rw [if_pos rfl,sI hE acc (ts.drop k')] at hs;have h3 : k' < ts.length := h3 rfl;walk_at "a";refine zE (nD acc) ?_ ?_
    ·refine nQ (xs := acc) (aC _ _ _) (aLd (aKl h4 (aLd h3 hsm)) (by decide)) ?_;rcases aOo acc with rfl | ⟨ys,y,rfl⟩
     ·refine bA (fun z => by simp at z) (fun _ => ?_);exact ⟨rfl,rfl⟩
     ·rw [aOp] at *;refine bA (fun _ => ?_) (fun z => by simp at z);rw [aJt] at h4;refine Xq (aC _ _ _) (aLd (aKl (aJw (aMa _ _) h4) (aLd h3 hsm)) (by decide)) ?_;obtain ⟨lo,hi,rfl,hb⟩ := h5 y (by simp);refine Ie hb ?_;refine ⟨?_,rfl⟩;unfold nD; rw [aOu]
    ·refine jO (fun z => ?_) (fun z => ?_)
     ·refine ⟨by exact jh hn hdn,?_⟩;exact hX (by rw [hs,if_pos z]; rfl)
     ·rw [if_neg (by rw [z]; decide),tail_drop] at hs;have m2 := cI ts (k := k') (k' := k' + 1) (Kv);refine Iu F C hN (k := k' + 1) (vZ h3) _ _ _ _ (tC (UH (Ul (Up 0 17) U1)<|UH (Ul U2 U0)<|UH (Ul U3 U2)<|UH (Uq (Up 4 1) U1)<|UG (Ul (Up 3 16) U4)) rfl hn m1 m2 hdn) (fun e => hX (by rw [hs,e]; rfl)) fun b aJ e a1 a2 => ?_;rw [e,aB] at hs;have m3 := cI ts (k := k') (k' := aJ) (s6 a1);refine ⟨a,rfl,⟨_,aC _ _ _⟩,?_⟩;refine ⟨acc,aC _ _ _,by rw [sizeLine_eq]; exact aLd (aKl h4 (aLd h3 hsm)) (by decide),?_⟩;rw [bI];refine bD F (k := aJ) (u5 hn hdn) C.T ?_;refine ⟨(aJ,hd (ts.drop aJ) ","),?_,hJ _ (acc ++ [b]) _ hs (aJw h1 (aKz (Nat.lt_of_succ_lt a1))) a2 (fun hh => gR hh) (by rw [aJt,aJu]; exact aJw (aLm h4) (aKz a1)) ?_⟩
      ·have : (hd (ts.drop aJ) ",").toNat <= 1 := aNs _;simp only [aLs];exact Jt (UH (Ul U0 (Un 1))<|HL.h 2 (Ue (.a U1 U2) (Up 3 1))<|HL.h 2 (Ut (Up 4 1) U2)<|HL.h 2 (Ul (Up 3 1) (.a U5 U4))<|UG (Ut (.a (.m 2 U1) U0) (.a (.m 2 U5) (Un 1)))) rfl this (aJo (Jy a2)) a1 gY
      ·intro b' hb';rcases aLi.mp hb' with z | z
       ·exact h5 b' z
       ·rw [aKm] at z; subst z; exact Oo (Wa N) e
  ·intro acc k' bd hs h1 h2 h4;rw [hs,aB] at hX;simp only [hs,aB] at q;have m1 := cI ts (k := k) (k' := k') h1;refine nQ (xs := acc) (aC _ _ _) (aEj Jx h4 h2 hsm) ?_;refine bA (fun z => ?_) (fun z => ?_)
   ·refine ⟨by exact jh hn hdn,?_⟩;exact hX (if_pos (by show 7 < acc.length; exact aBi z))
   ·have hz : ¬ 7 < IV (.lst acc) := by show ¬ 7 < acc.length; exact aLl (aBj (aKd.mp z))
    rw [if_neg hz] at hX;simp only [if_neg hz] at q;refine ⟨_,_,rfl,aC _ _ _,?_⟩;rw [bU ha];refine cR F (k := k') (JR hn hdn) C.T (by decide +kernel) (fun z => hX (by rw [z]; rfl)) fun hc => ?_;have := gR hc;exact q _ (k' + 1) (by rw [if_pos hc,tail_drop]) (Jy h1) (vZ this)
end
end Mine
namespace Mine
noncomputable def Ez (ts : List Tk) : Bool := hd ts "/" || hd ts "//"
noncomputable def lO : P := fun ts => if hd ts "//" then some (.str "",ts.tail) else if hd ts "/" then (match ts.tail with
  | .name s :: r => if hd r "/" then some (.str s,r.tail) else none
  | _ => none) else some (.str "",ts)
noncomputable def gJ (E : P) (acc : List V) (ts : List Tk) : Option (V × List Tk) := Ke (fun acc ts rec => match gW E 3 ts with
 | none => none
 | some (it,r) => if hd r "," then (if Ez r.tail then some (.lst (acc ++ [it]),r.tail) else rec (acc ++ [it]) r.tail) else some (.lst (acc ++ [it]),r)) acc ts
theorem Sg (E : P) (acc : List V) (ts : List Tk) : gJ E acc ts = match gW E 3 ts with
 | none => none
 | some (it,r) => if hd r "," then (if Ez r.tail then some (.lst (acc ++ [it]),r.tail) else if _h : r.tail.length < ts.length then gJ E (acc ++ [it]) r.tail else none) else some (.lst (acc ++ [it]),r) := pX _ _ _
noncomputable def Sh : V -> Bool
 | .tup [_,_,.lst []] => true
 | _ => false
noncomputable def wW : V -> Bool
 | .tup [_,b,_,_] => Sh b
 | v => Sh v
noncomputable def jL (E : P) : P := fun ts => andThen (iB E ts) fun t r => if wW t then none else some (t,r)
noncomputable def fM (E : P) : P := fun ts => if hd ts "(" then andThen (eN (jL E) [] ts.tail) fun g r => if IV g < 2 then none else if hd r ")" then some (g,r.tail) else none else none
variable {G : eX} {F : Facts G} {ts : List Tk} {vs : List V} {N : Nat}
section
variable (F) (C : Ctx ts vs) (hN : ts.length < N)
include C hN
theorem vW {k : Nat} : Ai G (F.a .pP) [] 17 (gD (gE N)) ts vs k := by
 intro c σ Q X hn hX q;have m1 := cI ts (k := k) (k' := k + 1) (Kv);refine aN F .pP rfl rfl (aBh hn) fun d hdn hW => ?_;refine iW F (u5 hn hdn) C.T ?_;have other : (∀ d n r,ts.drop k ≠ .num d n :: r) -> gD (gE N) (ts.drop k) = if hd (ts.drop k) "(" then (if hd (ts.drop (k + 1)) "*" then (if hd (ts.drop (k + 2)) ")" then some (.str "*",ts.drop (k + 3)) else none) else gM (gE N) (ts.drop (k + 1))) else none := fun h => by
  unfold gD;split
  ·rename_i e; exact absurd e (h _ _ _)
  ·rw [tail_drop,tail_drop,tail_drop]
 refine bA (fun h => ?_) (fun h => ?_)
 ·obtain ⟨d',n,r,e⟩ := UJ h;obtain ⟨h1,h2,h3⟩ := fJ e;subst h3;rw [e] at hX q;refine Rt F (JR hn hdn) C.T e ?_;refine jO (fun z => ?_) (fun z => ?_)
  ·have : n = 0 := eq_of_beq z;refine ⟨by exact jh hn hdn,?_⟩;exact hX (if_pos this)
  ·have : ¬ n = 0 := ne_of_beq_false z;exact q _ (k + 1) (if_neg this) (m6) (vZ h1)
 ·have ho := other fun d' n r e => h (by rw [e]; rfl);rw [ho] at hX q;refine cR F (JR hn hdn) C.T (by decide +kernel) (fun z => hX (by rw [z]; rfl)) fun hc => ?_;rw [hc,if_pos rfl] at hX;simp only [hc,if_true] at q;have := gR hc;refine bD F (k := k + 1) (u5 hn hdn) C.T ?_;cases h2 : hd (ts.drop (k + 1)) "*"
  ·rw [h2] at hX;simp only [h2,aKg,if_false] at hX q;unfold gM at hX q;refine Bj F C hN (k + 1) _ _ _ _ (jX (UH (Ul (Up 0 17) U1)<|UH (Ul U2 U0)<|UH (Uq (Up 3 1) U1)<|UG (Ul (Up 2 15) U3)) rfl hn m1 hdn) (fun z => hX (by rw [z]; rfl)) fun t aJ e a1 a2 => ?_;rw [e,aB] at hX;simp only [e,aB] at q;have m2 := cI ts (k := k) (k' := aJ) (s6 a1);refine cR F (k := aJ) (JR hn hdn) C.T (by decide +kernel) (fun z => hX (by rw [z]; rfl)) fun hc2 => ?_;have := gR hc2;exact q _ (aJ + 1) (by rw [if_pos hc2,tail_drop]) (aAq a1) this
  ·rw [h2,if_pos rfl] at hX;simp only [h2,if_true] at q;refine cR F (k := k + 2) (JR hn hdn) C.T (by decide +kernel) (fun z => hX (by rw [z]; rfl)) fun hc2 => ?_;have := gR hc2;exact q _ (k + 3) (by rw [if_pos hc2]) (eU (UG (Ut U0 (Up 0 3))) rfl) this
theorem Ep {c : Cfg G} {σ : aW} {X : Prop} {k : Nat} {Q : KV} (hn : 2 <= c.n) (q : Q (.bool (Ez (ts.drop k))) σ) : aR c (.ref (F.a .Av)) [.lst vs,.int k] σ Q X := by
 unfold Ez at q;refine aN F .Av rfl rfl (j9 hn) fun d hdn hW => ?_;refine bD F (Gk hn hdn) C.T ?_;cases h : hd (ts.drop k) "/"
 ·rw [h] at q;refine bD F (Gk hn hdn) C.T ?_;exact q
 ·rw [h] at q;exact q
theorem wX {c : Cfg G} {σ : aW} {X : Prop} {k : Nat} {Q : KV} (hkl : k <= ts.length) (hn : 4 <= c.n) (hX : lO (ts.drop k) = none -> X)
  (q : ∀ v k',lO (ts.drop k) = some (v,ts.drop k') -> k <= k' -> k' <= ts.length -> Q (.tup [v,.int (k' : Nat)]) σ) : aR c (.ref (F.a .rN)) [.lst vs,.int k] σ Q X := by
 unfold lO at hX q;refine aN F .rN rfl rfl (Z93 hn) fun d hdn hW => ?_;refine bD F (o8 hn hdn) C.T ?_;cases h : hd (ts.drop k) "//"
 ·rw [h] at hX;simp only [h,aKg,if_false] at hX q;refine bD F (o8 hn hdn) C.T ?_;cases h2 : hd (ts.drop k) "/"
  ·rw [h2] at q;exact q _ k rfl (aJr _) hkl
  ·rw [h2,if_pos rfl,tail_drop] at hX;simp only [h2,if_true,tail_drop] at q;have := gR h2;refine jY F (k := k + 1) (ig hn hdn) C.T (fun z => hX ?_) fun s e => ?_
   ·split
    ·rename_i e; exact absurd e (z _ _)
    ·rfl
   ·rw [e] at hX q;simp only at hX q;have := (fJ e).1;refine cR F (k := k + 2) (ig hn hdn) C.T (by decide +kernel) (fun z => hX (by rw [z]; rfl)) fun hc => ?_;have := gR hc;exact q _ (k + 3) (by rw [if_pos hc,tail_drop]) (eU (UG (Ul U0 (Up 0 3))) rfl) this
 ·rw [h] at q;have := gR h;exact q _ (k + 1) (by rw [if_pos rfl,tail_drop]) (Kv) this
end
end Mine
section
set_option tactic.hygienic true
namespace Mine
theorem VG {E : P} (hE : eH E) {ts : List Tk} {v : V} {r : List Tk} (h : kI E ts = some (v,r)) : r.length <= ts.length := by
 have key : ∀ (n : Nat) (ts : List Tk),ts.length <= n -> ∀ acc v r,kJ E acc ts = some (v,r) -> r.length <= ts.length := by
  intro n;induction n with
  | zero =>
   intro ts hn acc v r h;rw [Dm] at h;split at h
   ·exact aK h
   ·split at h
    ·exact aK h
    ·rename_i e;have := qP hE _ _ _ e;have := bM ts;exact jX (UH (Ul U0 (Un 0))<|UH (Ul U1 U0)<|UH (Ut U2 U1)<|HL.g 0 (Ul U3 U0)) rfl hn (by assumption) (by assumption)
  | succ n ih =>
   intro ts hn acc v r h;rw [Dm] at h;split at h
   ·exact aK h
   ·split at h
    ·exact aK h
    ·rename_i e;have := qP hE _ _ _ e;have := bM ts;split at h
     ·split at h
      ·have := ih _ (Qi hn (by assumption)) _ _ _ h; exact gP (UH (Ul U0 U1)<|UH (Ut U1 U2)<|UG (Ul U0 U2)) rfl this (by assumption)
      ·exact aK h
     ·obtain ⟨rfl,rfl⟩ := aZ h; exact G9 (by assumption) (by assumption)
 unfold kI at h;split at h
 ·obtain ⟨d,r',h1,h2⟩ := aD h;have := key _ _ (aJr _) _ _ _ h1;split at h2
  ·exact aK h2
  ·split at h2
   ·obtain ⟨rfl,rfl⟩ := aZ h2; have := bM r'; exact aEg (by assumption) (by assumption)
   ·exact aK h2
 ·obtain ⟨rfl,rfl⟩ := aZ h; exact aJr _
theorem Iv {E : P} (hE : eH E) : eH (gD E) := by
 intro ts v r h;unfold gD at h;split at h
 ·split at h
  ·exact aK h
  ·obtain ⟨rfl,rfl⟩ := aZ h; rw [aJs]; exact m6
 ·split at h
  ·rename_i hh;have h0 := vC hh;split at h
   ·split at h
    ·obtain ⟨rfl,rfl⟩ := aZ h;have := bM ts.tail;have := bM ts.tail.tail;exact aEi (by assumption) (by assumption) h0
    ·exact aK h
   ·have := zT hE _ _ _ h; exact gP (UH (Ut U0 U1)<|UH (Ut U1 U2)<|UG (Ut U0 U2)) rfl this h0
  ·exact aK h
theorem Wb {E : P} (hE : eH E) {b : Bool} {ts : List Tk} {v : V} {r : List Tk} (h : gO E b ts = some (v,r)) : r.length <= ts.length := by
 unfold gO at h;split at h
 ·have := Iv hE _ _ _ h; have := bM ts; exact G9 (by assumption) (by assumption)
 ·obtain ⟨rfl,rfl⟩ := aZ h; exact aJr _
theorem iJ {E : P} (hE : eH E) (f : Nat) : eH (gW E f) := by
 intro ts v r h;unfold gW at h;split at h
 ·split at h
  ·exact aK h
  ·obtain ⟨d,r',h1,h2⟩ := aD h;obtain ⟨l,r'',h3,h4⟩ := aD h2;obtain ⟨rfl,rfl⟩ := aZ h4;have := VG hE h1;have := Wb hE h3;rw [aJs]; exact gP (UH (Ul U0 U1)<|UH (Ul U1 U2)<|UG (Ut U0 (Up 2 1))) rfl (by assumption) (by assumption)
 ·exact aK h
theorem qQ {E : P} (hE : eH E) : eH (jL E) := by
 intro ts v r h;obtain ⟨t,r',h1,h2⟩ := aD h;split at h2
 ·exact aK h2
 ·obtain ⟨rfl,rfl⟩ := aZ h2; exact zU hE _ _ _ h1
theorem lD {E : P} (hE : eH E) (acc : List V) (ts : List Tk) : gJ E acc ts = andThen (gW E 3 ts) fun it r => if hd r "," then (if Ez r.tail then some (.lst (acc ++ [it]),r.tail) else gJ E (acc ++ [it]) r.tail) else some (.lst (acc ++ [it]),r) := by
 rw [Sg];split
 ·rename_i e; rw [e]; rfl
 ·rename_i it r e;rw [e,aB];have := iJ hE 3 _ _ _ e;have := bM r;split
  ·split
   ·rfl
   ·rw [dif_pos (G8 (by assumption) (by assumption))]
  ·rfl
variable {G : eX} {F : Facts G} {ts : List Tk} {vs : List V} {N : Nat}
section
variable (F) (C : Ctx ts vs) (hN : ts.length < N)
include C hN
theorem Fq {k : Nat} : Ai G (F.a .uT) [] 8 (iB (gE N)) ts vs k := by
 intro c σ Q X hn hX q;refine aN F .uT rfl rfl (iz hn) fun d hdn hW => ?_;refine iW F (jc hn hdn) C.T ?_;refine pJ (fun h => ?_) (fun h => ?_)
 ·refine ⟨by exact jd hn hdn,?_⟩;exact hX (Lq (fun s r e => h (by rw [e]; rfl)) _)
 ·refine wU C (dZ N) (n := N) (fun k _ => Bj F C hN k) (gP (UH (Ut U0 U1)<|UH (Ul U2 U0)<|UG (Ul U2 U1)) rfl hN W9) _ _ _ _ (s7 hn hdn) hX fun v k' e a1 a2 => ?_;exact q v k' e a1 a2
theorem wY {k : Nat} : Ai G (F.a .rP) [] 9 (jL (gE N)) ts vs k := by
 intro c σ Q X hn hX q;unfold jL at hX q;refine aN F .rP rfl rfl (aBk hn) fun d hdn hW => ?_;refine Fq F C hN _ _ _ _ (aBl hn hdn) (fun z => hX (by rw [z]; rfl)) fun t aJ e a1 a2 => ?_;rw [e,aB] at hX;simp only [e,aB] at q;have Sq : ¬ (("name" : Str) = "sub") := by decide +kernel
 have Xz : ¬ (("ref" : Str) = "sub") := by decide +kernel
 have Iw : ¬ (("name" : Str) = "ref") := by decide +kernel
 -- what the test of the place says
 have test : ∀ {base : V} {bs : Option V} {QQ : Fl -> eE -> aW -> Prop},Named base -> ∀ {st : Stmt},True := fun _ => trivial;cases Bk e with
 | base hb =>
  cases hb with
  | nm s =>
   refine bA (fun z => absurd z Sq) (fun _ => ?_);refine bA (fun z => absurd z Iw) (fun _ => ?_);exact q _ aJ rfl a1 a2
  | ref s l =>
   refine bA (fun z => absurd z Xz) (fun _ => ?_);refine bA (fun _ => ?_) (fun z => absurd rfl z);refine oM (xs := l) aY aY ?_;cases l with
   | nil =>
    refine Lh ?_;refine ⟨by exact aBm hn hdn,?_⟩;exact hX rfl
   | cons x l =>
    refine Vx ?_;exact q _ aJ rfl a1 a2
 | sub hb =>
  cases hb with
  | nm s =>
   refine bA (fun _ => ?_) (fun z => absurd rfl z);refine bA (fun z => absurd z Iw) (fun _ => ?_);exact q _ aJ rfl a1 a2
  | ref s l =>
   refine bA (fun _ => ?_) (fun z => absurd rfl z);refine bA (fun _ => ?_) (fun z => absurd rfl z);refine oM (xs := l) aY aY ?_;cases l with
   | nil =>
    refine Lh ?_;refine ⟨by exact aBm hn hdn,?_⟩;exact hX rfl
   | cons x l =>
    refine Vx ?_;exact q _ aJ rfl a1 a2
theorem wZ {k : Nat} : Ai G (F.a .rQ) [] 10 (fM (gE N)) ts vs k := by
 intro c σ Q X hn hX q;have hsm := C.T.small;have hs := qQ (dZ N);have m1 := cI ts (k := k) (k' := k + 1) (Kv);unfold fM at hX q;rw [tail_drop] at hX q;refine aN F .rQ rfl rfl (aBn hn) fun d hdn hW => ?_;refine cR F (aBo hn hdn) C.T (by decide +kernel) (fun z => hX (by rw [z]; rfl)) fun hc => ?_;rw [hc,if_pos rfl] at hX;simp only [hc,if_true] at q;refine wY F C hN (k := k + 1) _ _ _ _ (aBp hn m1 hdn) (fun z => hX (by rw [bV hs,z]; rfl)) fun t aJ e a1 a2 => ?_;have m2 := cI ts (k := k) (k' := aJ) (s6 a1);have hst : eN (jL (gE N)) [] (ts.drop (k + 1)) = if hd (ts.drop aJ) "," then eN (jL (gE N)) [t] (ts.drop (aJ + 1)) else some (.lst [t],ts.drop aJ) := by
  rw [bV hs,e,aB,tail_drop]; rfl
 intro a ha;walk_at "a";refine bH (fun C' => ∀ (acc : List V) (k' : Nat) (tr : Option V),eN (jL (gE N)) [] (ts.drop (k + 1)) = some (.lst acc,ts.drop k') -> k < k' -> k' <= ts.length -> acc.length <= k' -> C' [some (V.lst vs),some (V.int (k' : Nat)),tr,some (V.mut a)] (aH σ a acc)) ?_ ?_
 ·intro R' hR;walk_at "a";refine cO (ι := Nat) (fun k' C' => ∀ (acc : List V) (tr : Option V),eN (jL (gE N)) [] (ts.drop (k + 1)) = (if hd (ts.drop k') "," then eN (jL (gE N)) acc (ts.drop (k' + 1)) else some (.lst acc,ts.drop k')) -> k < k' -> k' <= ts.length -> acc.length <= k' -> C' [some (V.lst vs),some (V.int (k' : Nat)),tr,some (V.mut a)] (aH σ a acc)) (fun k' => ts.length + 1 - k') aJ (fun C' k => k [t] _ hst (Z35 a1) a2 (by simp; exact iR (UH (Ut (Up 0 1) U1)<|UG (Ul (Un 1) U1)) rfl a1)) (fun _ x0 x1 x2 x3 x4 x5 C' k => k x0 x1 x2 x3 x4 x5) ?_;intro J hJ k' acc tr hs' h1 h2 h3;have m3 := cI ts (k := k) (k' := k') (j8 h1);have m4 := cI ts (k := k) (k' := k' + 1) (aBf h1);refine bD F (gP (UH (Ul (Up 0 10) U1)<|UH (Uq (Up 2 1) U1)<|UG (Ul (Un 1) U2)) rfl hn hdn) C.T ?_;cases hc2 : hd (ts.drop k') ","
  ·rw [hc2] at hs';exact hR acc k' tr hs' h1 h2 h3
  ·rw [hc2,if_pos rfl,bV hs acc] at hs';have := gR hc2;refine wY F C hN (k := k' + 1) _ _ _ _ (aBp hn m4 hdn) (fun z => hX (by rw [hs',z]; rfl)) fun t' eY e' b1 b2 => ?_;rw [e',aB,tail_drop] at hs';refine ⟨a,rfl,⟨_,aC _ _ _⟩,?_⟩;refine ⟨acc,aC _ _ _,by rw [sizeLine_eq]; exact jX (UH (Ul U0 U1)<|UH (Ul U2 U3)<|UH (Ut (Up 1 1) U2)<|UH (Ut U3 (Un 10000))<|UG (Ut U0 (Un 16777216))) rfl h3 b2 b1 hsm,?_⟩;rw [bI];exact ⟨eY,by dsimp only; exact u0 (aJo (Jy b2)) b1 gY,hJ _ (acc ++ [t']) _ hs' (aAx b1 h1) b2 (by rw [aJt,aJu]; exact ji h3 b1)⟩
 ·intro acc k' tr hs' h1 h2 h3;rw [hs',aB] at hX;simp only [hs',aB] at q;refine nQ (xs := acc) (aC _ _ _) (aEj Jx h3 h2 hsm) ?_;refine bA (fun z => ?_) (fun z => ?_)
  ·refine ⟨by exact gP (UH (Ul (Up 0 10) U1)<|UH (Uq (Up 2 1) U1)<|UG (Ul (Un 2) U2)) rfl hn hdn,?_⟩;exact hX (if_pos (by show acc.length < 2; exact aBq z))
  ·have hz : ¬ IV (.lst acc) < 2 := by show ¬ acc.length < 2; exact aLl (aBr (aKd.mp z))
   rw [if_neg hz] at hX;simp only [if_neg hz] at q;refine ⟨_,_,rfl,aC _ _ _,?_⟩;rw [bU ha];refine cR F (k := k') (aBo hn hdn) C.T (by decide +kernel) (fun z => hX (by rw [z]; rfl)) fun hc => ?_;have := gR hc;exact q _ (k' + 1) (by rw [if_pos hc,tail_drop]) (Z36 h1) (vZ this)
end
end Mine
end
namespace Mine
variable {G : eX} {F : Facts G} {ts : List Tk} {vs : List V} {N : Nat}
theorem Iz {E : P} {f : Nat} {s : Str} {r : List Tk} (hf : f ≠ 2) : gW E f (.name s :: r) = andThen (kI E r) fun d r' => andThen (gO E (f = 1) r') fun l r'' => some (.tup [.str s,d,l],r'') := by
 show (if f = 2 /\ hd r "(" = false then none else _) = _;rw [if_neg fun z => hf z.1]
theorem Bl {E : P} {f : Nat} {ts : List Tk} (h : ∀ s r,ts ≠ .name s :: r) : gW E f ts = none := by
 unfold gW;split
 ·exact absurd rfl (h _ _)
 ·rfl
section
variable (F) (C : Ctx ts vs) (hN : ts.length < N)
include C hN
theorem zF {k : Nat} {b : Bool} : Ai G (F.a .uU) [.bool b] 18 (gW (gE N) (if b then 1 else 0)) ts vs k := by
 intro c σ Q X hn hX q;have m1 := cI ts (k := k) (k' := k + 1) (Kv);have hf2 : (if b then 1 else 0) ≠ 2 := by cases b <;> decide
 have hf1 : decide ((if b then 1 else 0) = 1) = b := by cases b <;> rfl
 refine aN F .uU rfl rfl (Qh hn) fun d hdn hW => ?_;refine jY F (aBs hn hdn) C.T (fun h => hX (Bl h)) fun s e0 => ?_;have hkl := (fJ e0).1;rw [e0,Iz hf2,hf1] at hX q;refine sW F C hN (k := k + 1) (vZ hkl) _ _ _ _ (jj hn m1 hdn) (fun z => hX (by rw [z]; rfl)) fun dm aJ e1 a1 a2 => ?_;rw [e1,aB] at hX;simp only [e1,aB] at q;have m2 := cI ts (k := k) (k' := aJ) (Z90 a1);have m3 := cI ts (k := k) (k' := aJ + 1) (iR (UH (Ul (Up 0 1) U1)<|UG (Ul U0 (Up 1 1))) rfl a1);walk_at "a";refine wu (fun ρ' σ' => σ = σ' /\ ∃ (l : V) (eY : Nat),ρ' = [some (V.lst vs),some (V.int (eY : Nat)),some (V.bool b),some (V.str s),some dm,some l] /\
  gO (gE N) b (ts.drop aJ) = some (l,ts.drop eY) /\ aJ <= eY /\ eY <= ts.length) ?_ ?_
 ·unfold gO at hX q ⊢;cases b
  ·exact ⟨rfl,_,aJ,rfl,rfl,aJr _,a2⟩
  ·refine bD F (k := aJ) (jk hn hdn) C.T ?_;cases h : hd (ts.drop aJ) "*"
   ·exact ⟨rfl,_,aJ,rfl,rfl,aJr _,a2⟩
   ·rw [h,tail_drop] at hX;refine vW F C hN (k := aJ + 1) _ _ _ _ (jj hn m3 hdn) (fun z => hX (by show andThen (gD _ _) _ = none; rw [z]; rfl)) fun l eY e b1 b2 => ?_;exact ⟨rfl,l,eY,rfl,by rw [tail_drop]; exact e,by exact s6 b1,b2⟩
 ·rintro _ _ ⟨rfl,l,eY,rfl,e2,b1,b2⟩;simp only [e2,aB] at q;exact q _ eY rfl (gP (UH (Ul (Up 0 1) U1)<|UH (Ul U1 U2)<|UG (Ut U0 U2)) rfl a1 b1) b2
theorem uE {k : Nat} : Ai G (F.a .oK) [] 18 (gJ (gE N) []) ts vs k := by
 intro c σ Q X hn hX q;have hsm := C.T.small;have hE := dZ N;refine aN F .oK rfl rfl (Qh hn) fun d hdn hW => ?_;intro a ha;walk_at "a";refine cO (ι := Nat) (fun k' C' => ∀ (acc : List V) (nm dm : Option V),gJ (gE N) [] (ts.drop k) = gJ (gE N) acc (ts.drop k') -> k <= k' -> acc.length <= k' -> C' [some (V.lst vs),some (V.int (k' : Nat)),some (V.mut a),nm,dm] (aH σ a acc)) (fun k' => ts.length + 1 - k') k (fun C' k => k [] _ _ rfl (aJr _) (aKk _)) (fun _ x0 x1 x2 x3 x4 x5 C' k => k x0 x1 x2 x3 x4 x5) ?_;intro J hJ k' acc nm dm hs h1 h2;have m1 := cI ts (k := k) (k' := k' + 1) (Jy h1);rw [lD hE acc (ts.drop k')] at hs;refine jY F (aBs hn hdn) C.T (fun h => hX (by rw [hs,Bl h]; rfl)) fun s e0 => ?_;have hkl := (fJ e0).1;rw [e0,Iz (by decide)] at hs;refine sW F C hN (k := k' + 1) (vZ hkl) _ _ _ _ (jj hn m1 hdn) (fun z => hX (by rw [hs,z]; rfl)) fun dm' aJ e1 a1 a2 => ?_;rw [e1,aB,show gO (gE N) (decide (3 = 1)) (ts.drop aJ) = some (.none,ts.drop aJ) from rfl,aB,aB,tail_drop] at hs;refine ⟨a,rfl,⟨_,aC _ _ _⟩,?_⟩;refine ⟨acc,aC _ _ _,by rw [sizeLine_eq]; exact gP (UH (Ul U0 U1)<|UH (Ut U1 U2)<|UH (Ut U2 (Un 10000))<|UG (Ut U0 (Un 16777216))) rfl h2 hkl hsm,?_⟩;rw [bI];refine bD F (k := aJ) (jk hn hdn) C.T ?_;cases hc : hd (ts.drop aJ) ","
 ·rw [hc] at hs;refine Lh ?_;refine ⟨_,_,rfl,aC _ _ _,?_⟩;rw [bU ha];exact q _ aJ hs (gP (UH (Ul (Up 0 1) U1)<|UH (Ul U2 U0)<|UG (Ut U2 U1)) rfl a1 h1) a2
 ·rw [hc,if_pos rfl] at hs;have := gR hc;refine Ep F C hN (k := aJ + 1) (Uw hn hdn) ?_;cases hb : Ez (ts.drop (aJ + 1))
  ·rw [hb] at hs;exact ⟨aJ + 1,by dsimp only; exact tC (UH (Ue (.a U0 (Up 1 1)) (Up 2 1))<|UH (Ul (Up 3 1) U1)<|UH (Ul (Up 2 1) (.a U4 U3))<|UG (Ut U0 U4)) rfl (aJo (o9 this)) a1 gY,hJ _ _ _ _ hs (gP (UH (Ul (Up 0 1) U1)<|UH (Ul U2 U0)<|UG (Ul U2 (Up 1 1))) rfl a1 h1) (by rw [aJt,aJu]; exact gP (UH (Ul (Up 0 1) U1)<|UH (Ul U2 U0)<|UG (Ul (Up 2 1) (Up 1 1))) rfl a1 h2)⟩
  ·rw [hb] at hs;refine Lh ?_;refine ⟨_,_,rfl,aC _ _ _,?_⟩;rw [bU ha];exact q _ (aJ + 1) hs (gP (UH (Ul (Up 0 1) U1)<|UH (Ul U2 U0)<|UG (Ut U2 (Up 1 1))) rfl a1 h1) this
end
end Mine
namespace Mine
variable {G : eX} {c : Cfg G} {ρ : En} {σ : aW} {X : Prop}
noncomputable def pY : List Nat := [65,66,67,78,88,48,49,50,51,52,53,54,55,56,57,43,45,42,47,40,41,44,61,58]
noncomputable def Lw (c : Nat) : Bool := decide (65 <= c) && decide (c <= 90)
noncomputable def isD (c : Nat) : Bool := decide (48 <= c) && decide (c <= 57)
noncomputable def mJ (c : Nat) : Bool := Lw c || isD c
theorem zW : ∀ c ∈ pY,Txt.contains "ABCDEFGHIJKLMNOPQRSTUVWXYZ" ⟨#[c]⟩ = Lw c := by decide +kernel
theorem nU : ∀ c ∈ pY,Txt.contains "0123456789" ⟨#[c]⟩ = isD c := by decide +kernel
theorem Yb : ∀ c ∈ pY,Txt.contains ((aJp "ABCDEFGHIJKLMNOPQRSTUVWXYZ") ++ (aJp "0123456789")) ⟨#[c]⟩ = mJ c := by decide +kernel
theorem aGo : ∀ c ∈ pY,Txt.contains "ED" ⟨#[c]⟩ = false := by decide +kernel
theorem VH : ∀ c ∈ pY,Lw c = false -> isD c = false -> Txt.contains "+-*/(),=:" ⟨#[c]⟩ = true := by decide +kernel
theorem Ss : ∀ c ∈ pY,Txt.contains "*/" ⟨#[c]⟩ = (decide (c = 42) || decide (c = 47)) := by decide +kernel
theorem Sv : ∀ c ∈ pY, ¬ (⟨#[c]⟩ : Str) = "." := by decide +kernel
theorem Ja : ∀ c ∈ pY, ¬ (⟨#[c]⟩ : Str) = "'" := by decide +kernel
theorem xr : ∀ c ∈ pY,Lw c = false -> isD c = false -> (⟨#[c]⟩ : Str) ∈ gQ := by decide +kernel
theorem xu : ∀ c ∈ pY,c = 42 \/ c = 47 -> (⟨#[c,c]⟩ : Str) ∈ gQ := by decide +kernel
theorem Wc : ∀ c ∈ pY,c < 128 := by decide +kernel
noncomputable def eO (c : Nat) (r : List Nat) : Option (Tk × List Nat) :=
 if Lw c then (if 6 < (c :: r.takeWhile mJ).length then none else some (.name ⟨(c :: r.takeWhile mJ).toArray⟩,r.dropWhile mJ))
 else if isD c then some (.num ⟨(c :: r.takeWhile isD).toArray⟩ (NumText.digitsVal (c :: r.takeWhile isD) : Nat),r.dropWhile isD)
 else if (c = 42 \/ c = 47) /\ r.head? = some c then some (.op ⟨#[c,c]⟩,r.tail) else some (.op ⟨#[c]⟩,r)
theorem Bm {α : Type} (p : α -> Bool) (l : List α) : (l.dropWhile p).length <= l.length := (List.dropWhile_sublist p).length_le
theorem Bo {c : Nat} {r : List Nat} {t : Tk} {r' : List Nat} (h : eO c r = some (t,r')) : r'.length <= r.length := by
 unfold eO at h;split at h
 ·split at h
  ·exact aK h
  ·obtain ⟨rfl,rfl⟩ := aZ h; exact Bm _ _
 ·split at h
  ·obtain ⟨rfl,rfl⟩ := aZ h; exact Bm _ _
  ·split at h
   ·obtain ⟨rfl,rfl⟩ := aZ h; rw [aMz]; exact Z69 W9
   ·obtain ⟨rfl,rfl⟩ := aZ h; exact aJr _
noncomputable def fX (cs : List Nat) : Option (List Tk) := Ke (fun (_ : Unit) cs rec => match cs with
 | [] => some []
 | c :: r => match eO c r with
  | none => none
  | some (t,r') => (rec () r').map (t :: ·)) () cs
theorem fH : fX [] = some [] := pX _ _ _
theorem iK (c : Nat) (r : List Nat) : fX (c :: r) = match eO c r with
  | none => none
  | some (t,r') => (fX r').map (t :: ·) := by
 refine (pX _ _ _).trans ?_;dsimp only;cases e : eO c r with
 | none => rfl
 | some p =>
  obtain ⟨t,r'⟩ := p;dsimp only;rw [dif_pos (show r'.length < (c :: r).length from Nat.lt_succ_of_le (Bo e))]; rfl
structure jQ (t : Str) : Prop where
 al : ∀ c ∈ t.cps.toList,c ∈ pY
 len : t.length <= 600
theorem jU (n k : Nat) : clipAt n (k : Int) = min k n := by
 unfold clipAt;rw [if_neg (by exact aKd.mpr (G6)), <- Lean.Omega.Int.ofNat_min,Int.max_eq_right (aLq _)];rfl
theorem uF {α : Type} (xs : List α) (k e : Nat) : eG xs (some (k : Int)) (some (e : Int)) = (xs.drop k).take (e - k) := by
 unfold eG;show (xs.drop (clipAt xs.length (k : Int))).take (clipAt xs.length (e : Int) - clipAt xs.length (k : Int)) = _;rw [jU,jU];rcases aNl k xs.length with h | h
 ·rw [aLj h];rcases aNl e xs.length with h2 | h2
  ·rw [aLj h2]
  ·rw [aMm h2,aKr (by rw [aKi]; exact Z80),aKr (by rw [aKi]; exact tC (UH (Ue (.a U0 U1) U2)<|UH (Ul U2 U3)<|UH (Ul U3 (.a U4 U1))<|UG (Ul U0 U4)) rfl (aJo (h)) h2 gY)]
 ·rw [aMm h,aMn,aJz h];simp
theorem jQ.size {t : Str} : t.cps.toList.length = t.length := aLw
theorem jQ.at {t : Str} (H : jQ t) {k : Nat} (hk : k < t.length) : ∃ c,t.cps[k]? = some c /\ c ∈ pY /\ t.cps.toList.drop k = c :: t.cps.toList.drop (k + 1) := by
 have h1 : k < t.cps.toList.length := by rw [jQ.size]; exact hk
 have h2 : t.cps.toList[k]? = some t.cps.toList[k] := aKo h1;refine ⟨t.cps.toList[k],by rw [<- aMf]; exact h2,H.al _ (List.getElem_mem h1),aKq h1⟩
section
variable (F : Facts G) {t : Str} (H : jQ t)
include H
theorem Lx {k : Nat} {sg : Str} {p : Nat -> Bool} {Q : KV} (hn : 1 <= c.n) (hp : ∀ c ∈ pY,Txt.contains sg ⟨#[c]⟩ = p c) (hk : k <= t.length)
  (q : Q (.int (k + ((t.cps.toList.drop k).takeWhile p).length : Nat)) σ) : aR c (.ref (F.a .Cx)) [.str t,.int k,.str sg] σ Q X := by
 have hlen := H.len;refine aN F .Cx rfl rfl (by omega) fun d hdn hW => ?_;walk_at "a";refine cO (ι := Nat) (fun e C' => k + ((t.cps.toList.drop k).takeWhile p).length = e + ((t.cps.toList.drop e).takeWhile p).length -> e <= t.length -> C' [some (V.str t),some (V.int k),some (V.str sg),some (V.int (e : Nat))] σ) (fun e => t.length - e) k (fun C' k => k rfl hk) (fun _ x0 x1 C' k => k x0 x1) ?_;intro J hJ e he h1;refine vA (Mx Jx hlen) ?_;refine bA (fun z => ?_) (fun z => ?_)
 ·have z : e < t.length := by exact Ux z
  obtain ⟨ch,e1,e2,e3⟩ := H.at z;rw [e3,aKb] at he;refine iH (Uo) (H9 hlen z) (by simpa using e1) ?_;refine jO (fun hc => ?_) (fun hc => ?_) <;> rw [hp ch e2] at hc
  ·rw [hc,if_pos rfl,aJs] at he;exact ⟨e + 1,aMo z (aKa _),hJ _ (aJq (jl he) (jm he)) z⟩
  ·rw [hc] at he;rw [he] at q;exact q
 ·have : e = t.length := by exact aJq (h1) (gw (aKd.mp z))
  subst this;rw [he,aJz (by rw [jQ.size]; exact aJr _)] at q;exact q
end
end Mine
namespace Mine
variable {G : eX} {c : Cfg G} {ρ : En} {σ : aW} {X : Prop}
theorem uG {α : Type} (p : α -> Bool) : ∀ l : List α,l.take (l.takeWhile p).length = l.takeWhile p
 | [] => rfl
 | a :: l => by
  rw [aKb];split
  ·rw [aJs,List.take_succ_cons,uG p l]
  ·rfl
theorem uH {α : Type} (p : α -> Bool) : ∀ l : List α,l.drop (l.takeWhile p).length = l.dropWhile p
 | [] => rfl
 | a :: l => by
  rw [aKb,aKj];split
  ·rw [aJs,aMp,uH p l]
  ·rfl
theorem yJ {α : Type} (p : α -> Bool) (l : List α) : (l.takeWhile p).length <= l.length := (List.takeWhile_sublist p).length_le
theorem Yc (p : Nat -> Bool) : ∀ l : List Nat, ∀ x ∈ l.takeWhile p,p x = true
 | [],x,h => by simp at h
 | a :: l,x,h => by
  rw [aKb] at h;split at h
  ·rcases aKf.mp h with e | e
   ·subst e; assumption
   ·exact Yc p l x e
  ·simp at h
theorem zG {c : Nat} {r : List Nat} (h : isD c = true) : NumText.AllDigits (c :: r.takeWhile isD) := by
 intro d hd;rcases aKf.mp hd with e | e
 ·subst e; simpa [isD] using h
 ·simpa [isD] using Yc isD r d e
theorem tB (l : List Nat) : (⟨l.toArray⟩ : Str).cps.toList = l := rfl
theorem yR (l : List Nat) : (⟨l.toArray⟩ : Str).length = l.length := by show l.toArray.size = _; exact aJv
section
variable (F : Facts G) {t : Str} (H : jQ t)
include H
theorem Gh {k m : Nat} : eG t.cps.toList (some (k : Int)) (some ((k + m : Nat) : Int)) = (t.cps.toList.drop k).take m := by
 rw [uF]; congr 1; exact aJq (jq (aJo (jo))) (jr gY)
theorem Wd {k ch : Nat} {r : List Nat} {Q : KV} (hn : 4 <= c.n) (hk : k < t.length) (e : t.cps.toList.drop k = ch :: r) (hc : Lw ch = true)
  (hX : eO ch r = none -> X) (q : ∀ tk k',eO ch r = some (tk,t.cps.toList.drop k') -> k < k' -> k' <= t.length -> Q (.tup [IW (k : Nat) tk,.int (k' : Nat)]) σ) :
  aR c (.ref (F.a .Nk)) [.str t,.int k] σ Q X := by
 have hlen := H.len;have hsz := jQ.size (t := t);have hld : mJ ch = true := by unfold mJ; rw [hc]; rfl
 have e1 : (t.cps.toList.drop k).takeWhile mJ = ch :: r.takeWhile mJ := by rw [e,aKb,if_pos hld]
 have e2 : (t.cps.toList.drop k).dropWhile mJ = r.dropWhile mJ := by rw [e,aKj,if_pos hld]
 have e3 := yJ mJ (t.cps.toList.drop k);rw [aKi,hsz] at e3;unfold eO at hX q;rw [if_pos hc, <- e1] at hX;simp only [hc,if_true, <- e1] at q;refine aN F .Nk rfl rfl (Z93 hn) fun d hdn hW => ?_;refine nR (by rw [show (aJp "ABCDEFGHIJKLMNOPQRSTUVWXYZ").length = 26 from by decide +kernel,show (aJp "0123456789").length = 10 from by decide +kernel,sizeLine_eq]; exact aBt) ?_;refine Lx F H (o8 hn hdn) Yb (j8 hk) ?_;refine bA (fun z => ?_) (fun z => ?_)
 ·rw [if_pos (aBu z)] at hX;refine ⟨by exact ig hn hdn,?_⟩;exact hX rfl
 ·simp only [if_neg (show ¬ 6 < ((t.cps.toList.drop k).takeWhile mJ).length by exact aLl (aBv (aKd.mp z)))] at q;refine ⟨by rw [sizeLine_eq]; exact Cr hlen,?_⟩;rw [Gh H,uG];refine q (.name ⟨((t.cps.toList.drop k).takeWhile mJ).toArray⟩) (k + ((t.cps.toList.drop k).takeWhile mJ).length) ?_ ?_ (jt (aJo (j8 hk)) e3)
  ·rw [<- e2, <- uH,aMi]
  ·rw [e1,aJs]; exact Z92
theorem Sw {k : Nat} {Q : KV} (hn : 1 <= c.n) (hk : k <= t.length) (q : Q (.tup [.str "",.int 0,.int k]) σ) :
  aR c (.ref (F.a .Gu)) [.str t,.int k] σ Q X := by
 have hlen := H.len;refine aN F .Gu rfl rfl (by omega) fun d hdn hW => ?_;walk_at "a";refine zE true ?_ ?_
 ·refine vA (Mx Jx hlen) ?_;refine bA (fun z => ⟨rfl,rfl⟩) (fun z => ?_);obtain ⟨ch,e1,e2,e3⟩ := H.at (k := k) (Ux (aLp.mp z));refine iH (Uo) (aO (c := (Yx _ _)) (d := (qY _)) (UH (UL (.n 20000000) (.v 0))<|UH (UT (.c U0) (.c U1))<|UH (Ul U1 (Un 600))<|UG (UT (.c U0) (.v 0))) rfl xR (aLp.mp z) hlen) (by simpa using e1) ?_;exact ⟨congrArg (!·) (aGo ch e2),rfl⟩
 ·exact q
theorem Oq {k ch : Nat} {r : List Nat} {Q : KV} (hn : 3 <= c.n) (hk : k < t.length) (e : t.cps.toList.drop k = ch :: r) (hc : Lw ch = false) (hd' : isD ch = true)
  (q : ∀ tk k',eO ch r = some (tk,t.cps.toList.drop k') -> k < k' -> k' <= t.length -> Q (.tup [IW (k : Nat) tk,.int (k' : Nat)]) σ) :
  aR c (.ref (F.a .Cy)) [.str t,.int k] σ Q X := by
 have hlen := H.len;have hsz := jQ.size (t := t);have e1 : (t.cps.toList.drop k).takeWhile isD = ch :: r.takeWhile isD := by rw [e,aKb,if_pos hd']
 have e2 : (t.cps.toList.drop k).dropWhile isD = r.dropWhile isD := by rw [e,aKj,if_pos hd']
 have e3 := yJ isD (t.cps.toList.drop k);rw [aKi,hsz] at e3;unfold eO at q;rw [hc] at q;simp only [aKg,if_false,hd',if_true, <- e1] at q;have ad : NumText.AllDigits ((t.cps.toList.drop k).takeWhile isD) := by rw [e1]; exact zG hd'
 have ne : (t.cps.toList.drop k).takeWhile isD ≠ [] := by rw [e1]; exact List.cons_ne_nil _ _
 generalize hm : ((t.cps.toList.drop k).takeWhile isD).length = m at e3;refine aN F .Cy rfl rfl (JC hn) fun d hdn hW => ?_;refine Lx F H (Ga hn hdn) nU (j8 hk) ?_;rw [hm];refine ⟨by rw [sizeLine_eq]; exact Cr hlen,?_⟩;rw [Gh H, <- hm,uG,hm];walk_at "a"; refine wz (.bool false) ?_ ?_
 ·refine vA (Mx Jx hlen) ?_;refine bA (fun z => ?_) (fun z => ⟨rfl,rfl⟩);obtain ⟨Q6,b1,b2,b3⟩ := H.at (k := k + m) (gP (UH (UT (.c (.a U0 U1)) (.c U2))<|UG (Ut (.a U0 U1) U2)) rfl z);refine iH (k := Q6) (iR (UG (UL (.n 0) (.c (.a U0 U1)))) rfl) (aO (c := (Uc3 _ _ _)) (d := (qY _)) (UH (UL (.n 20000000) (.v 0))<|UH (UT (.c (.a U0 U1)) (.c U2))<|UH (Ul U2 (Un 600))<|UG (UT (.c (.a U0 U1)) (.v 0))) rfl xR z hlen) (by show t.cps[((k : Int) + (m : Int)).toNat]? = some Q6; rw [show ((k : Int) + (m : Int)).toNat = k + m from by exact aJq (gP (UH (UE (.c U0) (.a (.c U1) (.c U2)))<|UG (Ul U0 (.a U1 U2))) rfl (aJy (iR (UG (UL (.n 0) (.a (.c U0) (.c U1)))) rfl))) (gP (UH (UL (.a (.c U0) (.c U1)) (.c U2))<|UG (Ul (.a U0 U1) U2)) rfl X3)]; exact b1) ?_;refine bA (fun z => absurd z (Sv Q6 b2)) (fun z => ⟨rfl,rfl⟩)
 ·refine Sw F H (k := k + m) (Ga hn hdn) (jt (aJo (j8 hk)) e3) ?_;refine ao (decide_eq_false (aKd.mpr (jX (UH (Ul U0 (Un 600))<|UH (Ul U1 U2)<|UH (Ul U2 U0)<|UG (UL (.b (.c (.a U3 U1)) (.c U3)) (.n 1000))) rfl hlen e3 W9))) ?_;refine Lh ?_;refine bA (fun _ => ?_) (fun z => absurd rfl z);refine Xp (PySem.intText_digits (ad) (ne) (by rw [yR,hm]; exact gP (UH (Ul U0 (Un 600))<|UH (Ul U1 U2)<|UH (Ul U2 U0)<|UG (Ul U1 (Un 4300))) rfl hlen e3 W9)) (by rw [yR,hm]; exact gP (UH (Ul U0 (Un 600))<|UH (Ul U1 U2)<|UH (Ul U2 U0)<|UG (Ul U1 (Un 640))) rfl hlen e3 W9) ?_;refine q (.num ⟨((t.cps.toList.drop k).takeWhile isD).toArray⟩ (NumText.digitsVal ((t.cps.toList.drop k).takeWhile isD) : Nat)) (k + m) ?_ (by have := List.length_pos_iff.mpr ne; exact gP (UH (Ue U0 U1)<|UH (Ut (Un 0) U0)<|UG (Ut U2 (.a U2 U1))) rfl hm this) (jt (aJo (j8 hk)) e3);rw [<- e2, <- uH,aMi,hm]
theorem Sx {k ch : Nat} {r : List Nat} {Q : KV} (hn : 5 <= c.n) (hk : k < t.length) (e : t.cps.toList.drop k = ch :: r) (hal : ch ∈ pY)
  (hX : eO ch r = none -> X) (q : ∀ tk k',eO ch r = some (tk,t.cps.toList.drop k') -> k < k' -> k' <= t.length -> Q (.tup [IW (k : Nat) tk,.int (k' : Nat)]) σ) :
  aR c (.ref (F.a .Gv)) [.str t,.int k] σ Q X := by
 have hlen := H.len;have hsz := jQ.size (t := t);have hch : t.cps[k]? = some ch := by
  rw [<- aMf]; exact (fJ e).2.1
 have hr : r = t.cps.toList.drop (k + 1) := (fJ e).2.2;refine aN F .Gv rfl rfl (aBw hn) fun d hdn hW => ?_;refine iH (Uo) (aO (c := (Yx _ _)) (d := (qY _)) (UH (UL (.n 20000000) (.v 0))<|UH (Ul U0 (Un 600))<|UH (Ut U1 U0)<|UG (UT (.c U1) (.v 0))) rfl xR hlen hk) (by simpa using hch) ?_;refine TP (zW ch hal) ?_;cases hL : Lw ch
 ·refine Vx ?_;refine TP (nU ch hal) ?_;cases hD : isD ch
  ·refine Vx ?_;refine bA (fun z => absurd z (Sv ch hal)) (fun _ => ?_);refine bA (fun z => absurd z (Ja ch hal)) (fun _ => ?_);refine aGf (VH ch hal hL hD) ?_;walk_at "a";refine bH (fun C' => ∀ e' : Nat,eO ch r = some (.op ⟨((t.cps.toList.drop k).take (e' - k)).toArray⟩,t.cps.toList.drop e') -> k < e' -> e' <= t.length -> C' [some (V.str t),some (V.int k),some (V.str ⟨#[ch]⟩),some (V.int (e' : Nat))] σ) ?_ ?_
   ·intro R' hR;have Pz : ∀ (b : Prop) [Decidable b],((ch = 42 \/ ch = 47) /\ r.head? = some ch) = b -> eO ch r = if b then some (.op ⟨#[ch,ch]⟩,r.tail) else some (.op ⟨#[ch]⟩,r) := fun b _ hb => by
     unfold eO; rw [hL,hD]; simp only [aKg,if_false, <- hb]
    have one : ¬ ((ch = 42 \/ ch = 47) /\ r.head? = some ch) -> eO ch r = some (.op ⟨((t.cps.toList.drop k).take (k + 1 - k)).toArray⟩,t.cps.toList.drop (k + 1)) := fun h => by
     unfold eO; rw [hL,hD]; simp only [aKg,if_false,if_neg h];rw [show k + 1 - k = 1 from by exact aJq (u6 (aJo (Kv))) (u9 gY),e,hr]; rfl
    refine TP (Ss ch hal) ?_;refine jO (fun z => ?_) (fun z => ?_)
    ·have z' : ch = 42 \/ ch = 47 := by simpa using z
     refine ⟨by rw [sizeLine_eq]; exact Cr hlen,?_⟩;rw [show ((k : Int) + 1 + 1) = ((k + 1 + 1 : Nat) : Int) from rfl,show ((k : Int) + 1) = ((k + 1 : Nat) : Int) from rfl,Gh H, <- hr];have eqv : ((⟨(r.take 1).toArray⟩ : Str) = ⟨#[ch]⟩) ↔ r.head? = some ch := by
      cases r with
      | nil => simp
      | cons a r => simp
     refine bA (fun y => ?_) (fun y => ?_)
     ·have y' := eqv.mp y;refine hR (k + 2) ?_ (iy) ?_
      ·unfold eO; rw [hL,hD]; simp only [aKg,if_false,if_pos (And.intro z' y')];rw [show k + 2 - k = 2 from by exact aJq (aBy (aJo (aBx))) (aBz gY),e,hr,tail_drop];rw [hr] at y';cases hd2 : t.cps.toList.drop (k + 1) with
       | nil => rw [hd2] at y'; cases y'
       | cons a r2 => rw [hd2] at y'; cases y'; rfl
      ·have : r ≠ [] := fun w => by rw [w] at y'; cases y'
       rw [hr] at this;have := mt aJz this;exact aCa hsz (aLx this)
     ·exact hR (k + 1) (one (fun w => y (eqv.mpr w.2))) (m6) (vZ hk)
    ·have z' : ¬ (ch = 42 \/ ch = 47) := by simpa using z
     exact hR (k + 1) (one (fun w => z' w.1)) (m6) (vZ hk)
   ·intro e' he h1 h2;refine ⟨by rw [sizeLine_eq]; exact Cr hlen,?_⟩;rw [uF];exact q _ e' he h1 h2
  ·refine Oq F H (iR (UH (Ul (Un 5) U0)<|UH (Uq (Up 1 1) U0)<|UG (Ul (Un 3) U1)) rfl hn hdn) hk e hL hD fun tk k' a1 a2 a3 => ?_;exact q tk k' a1 a2 a3
 ·refine Wd F H (v7 hn hdn) hk e hL hX fun tk k' a1 a2 a3 => ?_;exact q tk k' a1 a2 a3
omit H in
theorem Yd {ch : Nat} {r : List Nat} {s : Str} {r' : List Nat} (hal : ch ∈ pY) (h : eO ch r = some (.op s,r')) : s ∈ gQ := by
 unfold eO at h;split at h
 ·split at h <;> cases h
 ·split at h
  ·cases h
  ·rename_i h1 h2;split at h
   ·rename_i h3; cases h; exact xu ch hal h3.1
   ·cases h; exact xr ch hal (by simpa using h1) (by simpa using h2)
theorem kE {Q : KV} (hn : 6 <= c.n) (hX : fX t.cps.toList = none -> X) (q : ∀ ts vs,fX t.cps.toList = some ts -> Ctx ts vs -> ts.length <= t.length -> Q (.lst vs) σ) :
  aR c (.ref (F.a .lY)) [.str t] σ Q X := by
 have hlen := H.len;have hsz := jQ.size (t := t);refine aN F .lY rfl rfl (eU (UH (Ul (Un 6) U0)<|UG (Ul (Un 1) U0)) rfl hn) fun d hdn hW => ?_;intro a ha;walk_at "a";refine cO (ι := Nat) (fun k C' => ∀ (vs : List V) (ts : List Tk) (tk : Option V),fX t.cps.toList = (fX (t.cps.toList.drop k)).map (ts ++ ·) -> k <= t.length -> ts.length <= k -> Ctx ts vs -> C' [some (V.str t),some (V.mut a),some (V.int (k : Nat)),tk] (aH σ a vs)) (fun k => t.length - k) 0 (fun C' k => k [] [] _ (by rw [aKe]; cases fX t.cps.toList <;> simp) (aKk _) (aJr _) ⟨⟨rfl,fun i t h => by simp at h,by decide⟩,fun s h => by simp at h⟩) (fun _ x0 x1 x2 x3 x4 x5 x6 C' k => k x0 x1 x2 x3 x4 x5 x6) ?_;intro J hJ k vs ts tk hs h1 h2 C;refine vA (Mx Jx hlen) ?_;refine bA (fun z => ?_) (fun z => ?_)
 ·have z : k < t.length := by exact Ux z
  obtain ⟨ch,e1,e2,e3⟩ := H.at z;rw [e3,iK] at hs;refine Sx F H (iR (UH (Ul (Un 6) U0)<|UH (Uq (Up 1 1) U0)<|UG (Ul (Un 5) U1)) rfl hn hdn) z e3 e2 (fun y => hX (by rw [hs,y]; rfl)) fun t' k' a1 a2 a3 => ?_;rw [a1] at hs;simp only [aMj] at hs;refine ⟨a,rfl,⟨_,aC _ _ _⟩,?_⟩;refine ⟨vs,aC _ _ _,by rw [C.T.len,sizeLine_eq]; exact aCb hlen a3 h2 a2,?_⟩;rw [bI];refine ⟨k',by dsimp only; exact aEk (aJo (a3)) a2 gY,hJ _ (vs ++ [IW (k : Nat) t']) (ts ++ [t']) _ ?_ a3 (by rw [aJt,aJu]; exact aCc h2 a2) ⟨⟨?_,?_,?_⟩,?_⟩⟩
  ·rw [hs]; congr 1; funext l; simp
  ·rw [aJt,aJt,C.T.len]; rfl
  ·intro i u hu;rcases aPc i ts.length with hi | hi
   ·rw [aNp hi] at hu;rw [aNp (by rw [C.T.len]; exact hi)];exact C.T.get i u hu
   ·rw [aNm hi] at hu;rw [aNm (by rw [C.T.len]; exact hi),C.T.len];cases hj : i - ts.length with
    | zero => rw [hj] at hu; cases hu; exact ⟨(k : Nat),rfl⟩
    | succ j => rw [hj] at hu; cases hu
  ·rw [aJt,aJu]; exact jX (UH (Ul U0 (Un 600))<|UH (Ul U1 U0)<|UH (Ul U2 U3)<|UH (Ut U3 U1)<|UG (Ut (Up 2 1) (Un 10000))) rfl hlen a3 h2 a2
  ·intro s hs';rcases aLi.mp hs' with w | w
   ·exact C.ops s w
   ·rw [aKm] at w;subst w;exact Yd e2 a1
 ·have : k = t.length := by exact aJq (h1) (gw (aKd.mp z))
  subst this;rw [aJz (by rw [hsz]; exact aJr _)] at hs;refine ⟨_,_,rfl,aC _ _ _,?_⟩;rw [bU ha];refine q ts vs ?_ C (by omega);rw [hs,fH]; simp
end
end Mine
namespace Mine
variable {G : eX} {c : Cfg G} {ρ : En} {σ : aW} {X : Prop}
noncomputable def cP (x : Option (V × List Tk)) : Option V := match x with
 | some (v,[]) => some v
 | _ => none
theorem nY {v : V} {r : List Tk} (h : r = []) : cP (some (v,r)) = some v := by subst h; rfl
theorem nZ {v : V} {r : List Tk} (h : r ≠ []) : cP (some (v,r)) = none := by cases r with | nil => exact absurd rfl h | cons _ _ => rfl
noncomputable abbrev cC : P := gE 1000
noncomputable def cZ (f : Nat) (ts : List Tk) : Option V := cP (eN (gW cC f) [] ts)
noncomputable def bW (t : Str) (f : List Tk -> Option V) : Option V := (fX t.cps.toList).bind f
section
variable (F : Facts G) {t : Str} (H : jQ t)
include H
theorem xG {kn : Int} {len : V} {Q : KV} (hn : 7 <= c.n) (hnd : ∀ ts,fX t.cps.toList = some ts -> nd ts + 20 <= c.n)
  (hX : bW t (cZ (if kn == 5 then 1 else 0)) = none -> X) (q : ∀ v,bW t (cZ (if kn == 5 then 1 else 0)) = some v -> Q (.lst [.tup [.str "type",.int kn,len,v]]) σ) :
  aR c (.ref (F.a .gC)) [.int kn,len,.str t] σ Q X := by
 have hlen := H.len;unfold bW at hX q;refine aN F .gC rfl rfl (Zb hn) fun d hdn hW => ?_;refine kE F H (Zc hn hdn) (fun z => hX (by rw [z]; rfl)) fun ts vs hl C hsl => ?_;rw [hl,aKh] at hX;simp only [hl,aKh] at q;have hnd := hnd ts hl;have hN : ts.length < 1000 := by exact Zd hlen hsl
 have m0 := fun k => cI ts (k := 0) (k' := k) (aKk _);rw [aKe] at m0;have hs := iJ (dZ 1000) (if kn == 5 then 1 else 0);unfold cZ at hX q;refine zF F C hN (k := 0) (b := kn == 5) _ _ _ _ (by have := m0 0; exact v8 hnd this hdn) (fun z => hX (by rw [bV hs]; rw [aKe] at z; rw [z]; rfl)) fun it aJ e a1 a2 => ?_;rw [aKe] at e;have hst : eN (gW cC (if kn == 5 then 1 else 0)) [] ts = if hd (ts.drop aJ) "," then eN (gW cC (if kn == 5 then 1 else 0)) [it] (ts.drop (aJ + 1)) else some (.lst [it],ts.drop aJ) := by
  rw [bV hs,e,aB,tail_drop]; rfl
 intro a ha;walk_at "a";refine bH (fun C' => ∀ (acc : List V) (k' : Nat) (it : Option V),eN (gW cC (if kn == 5 then 1 else 0)) [] ts = some (.lst acc,ts.drop k') -> k' <= ts.length -> acc.length <= k' -> C' [some (V.int kn),some len,some (V.str t),some (V.lst vs),it,some (V.int (k' : Nat)),some (V.mut a)] (aH σ a acc)) ?_ ?_
 ·intro R' hR;walk_at "a";refine cO (ι := Nat) (fun k' C' => ∀ (acc : List V) (it : Option V),eN (gW cC (if kn == 5 then 1 else 0)) [] ts = (if hd (ts.drop k') "," then eN (gW cC (if kn == 5 then 1 else 0)) acc (ts.drop (k' + 1)) else some (.lst acc,ts.drop k')) -> k' <= ts.length -> acc.length <= k' -> C' [some (V.int kn),some len,some (V.str t),some (V.lst vs),it,some (V.int (k' : Nat)),some (V.mut a)] (aH σ a acc)) (fun k' => ts.length + 1 - k') aJ (fun C' k => k [it] _ hst a2 (by simp; exact Z88 a1)) (fun _ x0 x1 x2 x3 x4 C' k => k x0 x1 x2 x3 x4) ?_;intro J hJ k' acc it' hs' h2 h3;have m4 := m0 (k' + 1);refine bD F (v9 hn hdn) C.T ?_;cases hc2 : hd (ts.drop k') ","
  ·rw [hc2] at hs';exact hR acc k' _ hs' h2 h3
  ·rw [hc2,if_pos rfl,bV hs acc] at hs';have := gR hc2;refine zF F C hN (k := k' + 1) (b := kn == 5) _ _ _ _ (v8 hnd m4 hdn) (fun z => hX (by rw [hs',z]; rfl)) fun t' eY e' b1 b2 => ?_;rw [e',aB,tail_drop] at hs';refine ⟨a,rfl,⟨_,aC _ _ _⟩,?_⟩;refine ⟨acc,aC _ _ _,by rw [sizeLine_eq]; exact gP (UH (Ul U0 U1)<|UH (Ut U1 U2)<|UH (Ut U2 (Un 1000))<|UG (Ut U0 (Un 16777216))) rfl h3 this hN,?_⟩;rw [bI];exact ⟨eY,by dsimp only; exact u0 (aJo (Jy b2)) b1 gY,hJ _ (acc ++ [t']) _ hs' (by omega) (by rw [aJt,aJu]; exact ji h3 b1)⟩
 ·intro acc k' it' hs' h2 h3;rw [hs'] at hX;simp only [hs'] at q;refine mC F (Fi hn hdn) C.T (fun z => hX (nZ z)) fun z => ?_;refine ⟨_,_,rfl,aC _ _ _,?_⟩;rw [bU ha];exact q _ (nY z)
end
end Mine
section
set_option tactic.hygienic true
namespace Mine
variable {G : eX} {c : Cfg G} {ρ : En} {σ : aW} {X : Prop}
theorem jG {x t : Str} {n : Nat} (h : x.cps.toList.drop n = t.cps.toList) : (⟨(eG x.cps.toList (some (n : Int)) none).toArray⟩ : Str) = t := by
 have : eG x.cps.toList (some (n : Int)) none = t.cps.toList := by
  unfold eG;show (x.cps.toList.drop (clipAt x.cps.toList.length (n : Int))).take (x.cps.toList.length - clipAt x.cps.toList.length (n : Int)) = _;rw [jU];rcases aNl n x.cps.toList.length with q | q
  ·rw [aLj q,aKr (by rw [aKi]; exact aJr _),h]
  ·rw [aMm q,aMn, <- h,aJz q]; simp
 rw [this]
noncomputable def jV (E : P) : P
 | .name s :: r => if hd r "=" then andThen (E r.tail) fun t r' => some (.tup [.str s,t],r') else none
 | _ => none
noncomputable def Q7 (ts : List Tk) : Option V := cZ 2 ts
noncomputable def Ot (ts : List Tk) : Option V := cP (eN (fM cC) [] ts)
noncomputable def Dq (ts : List Tk) : Option V := if hd ts "(" then cP (gM (eN (jV cC) []) ts.tail) else none
theorem zX {E : P} (hE : eH E) : eH (fM E) := by
 intro ts v r h;unfold fM at h;split at h
 ·obtain ⟨g,r',h1,h2⟩ := aD h;have := wR (qQ hE) _ _ (aJr _) _ _ _ h1;have := bM ts;split at h2
  ·exact aK h2
  ·split at h2
   ·obtain ⟨rfl,rfl⟩ := aZ h2; have := bM r'; exact jX (UH (Ul U0 U1)<|UH (Ul U2 U3)<|UH (Ut U1 U2)<|UG (Ut U0 U3)) rfl (by assumption) (by assumption) (by assumption)
   ·exact aK h2
 ·exact aK h
theorem Dr {E : P} (hE : eH E) : eH (jV E) := by
 intro ts v r h;unfold jV at h;split at h
 ·split at h
  ·obtain ⟨g,r',h1,h2⟩ := aD h;obtain ⟨rfl,rfl⟩ := aZ h2;have := hE _ _ _ h1;rename_i r0 _;have := bM r0;rw [aJs]; exact aEh (by assumption) (by assumption)
  ·exact aK h
 ·exact aK h
section
variable (F : Facts G) {t : Str} (H : jQ t)
include H
theorem xH {x : Str} (hx : x.cps.toList.drop 11 = t.cps.toList) (Ur : x.length <= 700) {Q : KV} (hn : 7 <= c.n) (hnd : ∀ ts,fX t.cps.toList = some ts -> nd ts + 20 <= c.n)
  (hX : bW t Ot = none -> X) (q : ∀ v,bW t Ot = some v -> Q (.lst [.tup [.str "equiv",v]]) σ) :
  aR c (.ref (F.a .mV)) [.str x] σ Q X := by
 have hlen := H.len;unfold bW at hX q;refine aN F .mV rfl rfl (Zb hn) fun d hdn hW => ?_;refine ⟨by rw [sizeLine_eq]; exact Jz Ur,?_⟩;rw [show ((11 : Int)) = ((11 : Nat) : Int) from rfl,jG hx];refine kE F H (Zc hn hdn) (fun z => hX (by rw [z]; rfl)) fun ts vs hl C hsl => ?_;rw [hl,aKh] at hX;simp only [hl,aKh] at q;have hnd := hnd ts hl;have hN : ts.length < 1000 := by exact Zd hlen hsl
 have m0 := fun k => cI ts (k := 0) (k' := k) (aKk _);rw [aKe] at m0;have hs := zX (dZ 1000);unfold Ot at hX q;refine wZ F C hN (k := 0) _ _ _ _ (by have := m0 0; exact aCd hnd this hdn) (fun z => hX (by rw [bV hs]; rw [aKe] at z; rw [z]; rfl)) fun it aJ e a1 a2 => ?_;rw [aKe] at e;have hst : eN (fM cC) [] ts = if hd (ts.drop aJ) "," then eN (fM cC) [it] (ts.drop (aJ + 1)) else some (.lst [it],ts.drop aJ) := by
  rw [bV hs,e,aB,tail_drop]; rfl
 intro a ha;walk_at "a";refine bH (fun C' => ∀ (acc : List V) (k' : Nat) (it : Option V),eN (fM cC) [] ts = some (.lst acc,ts.drop k') -> k' <= ts.length -> acc.length <= k' -> C' [some (V.str x),some (V.lst vs),it,some (V.int (k' : Nat)),some (V.mut a)] (aH σ a acc)) ?_ ?_
 ·intro R' hR;walk_at "a";refine cO (ι := Nat) (fun k' C' => ∀ (acc : List V) (it : Option V),eN (fM cC) [] ts = (if hd (ts.drop k') "," then eN (fM cC) acc (ts.drop (k' + 1)) else some (.lst acc,ts.drop k')) -> k' <= ts.length -> acc.length <= k' -> C' [some (V.str x),some (V.lst vs),it,some (V.int (k' : Nat)),some (V.mut a)] (aH σ a acc)) (fun k' => ts.length + 1 - k') aJ (fun C' k => k [it] _ hst a2 (by simp; exact Z88 a1)) (fun _ x0 x1 x2 x3 x4 C' k => k x0 x1 x2 x3 x4) ?_;intro J hJ k' acc it' hs' h2 h3;have m4 := m0 (k' + 1);refine bD F (v9 hn hdn) C.T ?_;cases hc2 : hd (ts.drop k') ","
  ·rw [hc2] at hs';exact hR acc k' _ hs' h2 h3
  ·rw [hc2,if_pos rfl,bV hs acc] at hs';have := gR hc2;refine wZ F C hN (k := k' + 1) _ _ _ _ (aCd hnd m4 hdn) (fun z => hX (by rw [hs',z]; rfl)) fun t' eY e' b1 b2 => ?_;rw [e',aB,tail_drop] at hs';refine ⟨a,rfl,⟨_,aC _ _ _⟩,?_⟩;refine ⟨acc,aC _ _ _,by rw [sizeLine_eq]; exact jX (UH (Ul U0 U1)<|UH (Ul U2 U3)<|UH (Ut (Up 1 1) U2)<|UH (Ut U3 (Un 1000))<|UG (Ut U0 (Un 16777216))) rfl h3 b2 b1 hN,?_⟩;rw [bI];exact ⟨eY,by dsimp only; exact u0 (aJo (Jy b2)) b1 gY,hJ _ (acc ++ [t']) _ hs' (by omega) (by rw [aJt,aJu]; exact ji h3 b1)⟩
 ·intro acc k' it' hs' h2 h3;rw [hs'] at hX;simp only [hs'] at q;refine mC F (Fi hn hdn) C.T (fun z => hX (nZ z)) fun z => ?_;refine ⟨_,_,rfl,aC _ _ _,?_⟩;rw [bU ha];exact q _ (nY z)
theorem zY {x : Str} (hx : x.cps.toList.drop 9 = t.cps.toList) (Ur : x.length <= 700) {Q : KV} (hn : 7 <= c.n) (hnd : ∀ ts,fX t.cps.toList = some ts -> nd ts + 20 <= c.n)
  (hX : bW t Q7 = none -> X) (q : ∀ v,bW t Q7 = some v -> Q (.lst [.tup [.str "dimension",v]]) σ) :
  aR c (.ref (F.a .pH)) [.str x] σ Q X := by
 have hlen := H.len;unfold bW at hX q;refine aN F .pH rfl rfl (Zb hn) fun d hdn hW => ?_;refine ⟨by rw [sizeLine_eq]; exact Jz Ur,?_⟩;rw [show ((9 : Int)) = ((9 : Nat) : Int) from rfl,jG hx];refine kE F H (Zc hn hdn) (fun z => hX (by rw [z]; rfl)) fun ts vs hl C hsl => ?_;rw [hl,aKh] at hX;simp only [hl,aKh] at q;have hnd := hnd ts hl;have hN : ts.length < 1000 := by exact Zd hlen hsl
 have m0 := fun k => cI ts (k := 0) (k' := k) (aKk _);rw [aKe] at m0;have hs := iJ (dZ 1000) 2;unfold Q7 cZ at hX q;intro a ha;walk_at "a";refine bH (fun C' => ∀ (acc : List V) (k' : Nat) (nm dm : Option V),eN (gW cC 2) [] ts = some (.lst acc,ts.drop k') -> k' <= ts.length -> acc.length <= k' -> C' [some (V.str x),some (V.lst vs),some (V.mut a),some (V.int (k' : Nat)),some (V.bool false),nm,dm] (aH σ a acc)) ?_ ?_
 ·intro R' hR;walk_at "a";refine cO (ι := Nat × Bool) (fun i C' => ∀ (acc : List V) (nm dm : Option V),eN (gW cC 2) [] ts = (if i.2 then eN (gW cC 2) acc (ts.drop i.1) else some (.lst acc,ts.drop i.1)) -> i.1 <= ts.length -> acc.length <= i.1 -> C' [some (V.str x),some (V.lst vs),some (V.mut a),some (V.int (i.1 : Nat)),some (V.bool i.2),nm,dm] (aH σ a acc)) (fun i => 2 * (ts.length + 1 - i.1) + i.2.toNat) (0,true) (fun C' k => k [] _ _ (by rw [aKe]; rfl) (aKk _) (aKk _)) (fun _ x0 x1 x2 x3 x4 x5 C' k => k x0 x1 x2 x3 x4 x5) ?_;rintro J hJ ⟨k',more⟩ acc nm dm hs' h2 h3;have m3 := m0 k';have m4 := m0 (k' + 1);simp only at h2 h3;cases more
  ·exact hR acc k' _ _ hs' h2 h3
  ·rw [if_pos rfl,bV hs acc] at hs';simp only at hs';refine jY F (Fi hn hdn) C.T (fun h => hX (by rw [hs',Bl h]; rfl)) fun s e0 => ?_;have hkl := (fJ e0).1;rw [e0] at hs';have hno : hd (ts.drop (k' + 1)) "(" = false -> gW cC 2 (.name s :: ts.drop (k' + 1)) = none := fun z => by
    show (if 2 = 2 /\ hd (ts.drop (k' + 1)) "(" = false then none else _) = _;rw [if_pos ⟨rfl,z⟩]
   refine cR F (k := k' + 1) (Fi hn hdn) C.T (by decide +kernel) (fun z => hX (by rw [hs',hno z]; rfl)) fun hc => ?_;have hyes : gW cC 2 (.name s :: ts.drop (k' + 1)) = andThen (kI cC (ts.drop (k' + 1))) fun d r' => some (.tup [.str s,d,.none],r') := by
    show (if 2 = 2 /\ hd (ts.drop (k' + 1)) "(" = false then none else _) = _;rw [if_neg (by rw [hc]; exact fun z => by cases z.2)]; rfl
   rw [hyes] at hs';refine sW F C hN (k := k' + 1) hkl _ _ _ _ (jX (UH (Ul (Up 0 20) U1)<|UH (Ul U2 U0)<|UH (Uq (Up 3 1) U1)<|UG (Ul (Up 2 17) U3)) rfl hnd m4 hdn) (fun z => hX (by rw [hs',z]; rfl)) fun dm' aJ e1 a1 a2 => ?_;rw [e1,aB,aB,tail_drop] at hs';refine ⟨a,rfl,⟨_,aC _ _ _⟩,?_⟩;refine ⟨acc,aC _ _ _,by rw [sizeLine_eq]; exact jX (UH (Ul (Up 0 1) U1)<|UH (Ul U1 U2)<|UH (Ul U3 U0)<|UH (Ut U2 (Un 1000))<|UG (Ut U3 (Un 16777216))) rfl a1 a2 h3 hN,?_⟩;rw [bI];refine bD F (k := aJ) (v9 hn hdn) C.T ?_;cases hc2 : hd (ts.drop aJ) ","
   ·rw [hc2] at hs';exact ⟨(aJ,false),by simp only [aLs,aNy]; exact tC (HL.h 2 (Ue (.a U0 U1) (Up 2 1))<|HL.h 2 (Ul (Up 3 1) U1)<|HL.h 2 (Ul (Up 2 1) (.a U4 U3))<|UG (Ut (.a (.m 2 U0) (Un 0)) (.a (.m 2 U4) (Un 1)))) rfl (aJo (Jy a2)) a1 gY,hJ _ _ _ _ hs' a2 (by rw [aJt,aJu]; exact aJw (aLm h3) a1)⟩
   ·rw [hc2] at hs';have := gR hc2;exact ⟨(aJ + 1,true),by simp only [aLs]; exact tC (HL.h 2 (Ue (.a U0 (Up 1 1)) (Up 2 1))<|HL.h 2 (Ul (Up 3 1) U1)<|HL.h 2 (Ul (Up 2 1) (.a U4 U3))<|UG (Ut (.a (.m 2 U0) (Un 1)) (.a (.m 2 U4) (Un 1)))) rfl (aJo (o9 this)) a1 gY,hJ _ _ _ _ hs' this (by rw [aJt,aJu]; exact Nat.le_succ_of_le (aJw (aLm h3) a1))⟩
 ·intro acc k' nm dm hs' h2 h3;rw [hs'] at hX;simp only [hs'] at q;refine mC F (Fi hn hdn) C.T (fun z => hX (nZ z)) fun z => ?_;refine ⟨_,_,rfl,aC _ _ _,?_⟩;rw [bU ha];exact q _ (nY z)
end
end Mine
end
section
set_option tactic.hygienic true
namespace Mine
variable {G : eX} {c : Cfg G} {ρ : En} {σ : aW} {X : Prop}
theorem vI {E : P} (hE : eH E) (acc : List V) : eH (gJ E acc) := by
 have key : ∀ (n : Nat) (ts : List Tk),ts.length <= n -> ∀ acc v r,gJ E acc ts = some (v,r) -> r.length < ts.length := by
  intro n;induction n with
  | zero =>
   intro ts hn acc v r h;rw [lD hE] at h;obtain ⟨t,r',h1,h2⟩ := aD h;have := iJ hE 3 _ _ _ h1;exact Z65 hn this
  | succ n ih =>
   intro ts hn acc v r h;rw [lD hE] at h;obtain ⟨t,r',h1,h2⟩ := aD h;have := iJ hE 3 _ _ _ h1;have := bM r';split at h2
   ·split at h2
    ·obtain ⟨rfl,rfl⟩ := aZ h2; exact G8 (by assumption) (by assumption)
    ·have := ih _ (jX (UH (Ul U0 (Up 1 1))<|UH (Ul U2 U3)<|UH (Ut U3 U0)<|UG (Ul U2 U1)) rfl hn (by assumption) (by assumption)) _ _ _ h2; exact aLd (aKx this (bM r')) (iJ hE 3 _ _ _ h1)
   ·obtain ⟨rfl,rfl⟩ := aZ h2; assumption
 exact fun ts v r h => key _ ts (aJr _) acc v r h
theorem Ly {ts : List Tk} {v : V} {r : List Tk} (h : lO ts = some (v,r)) : r.length <= ts.length := by
 unfold lO at h;split at h
 ·obtain ⟨rfl,rfl⟩ := aZ h; exact bM ts
 ·split at h
  ·split at h
   ·rename_i s r' e;have := bM ts;rw [e,aJs] at this;split at h
    ·obtain ⟨rfl,rfl⟩ := aZ h; have := bM r'; exact gP (UH (Ul (Up 0 1) U1)<|UH (Ul U2 U0)<|UG (Ul U2 U1)) rfl (by assumption) (by assumption)
    ·exact aK h
   ·exact aK h
  ·obtain ⟨rfl,rfl⟩ := aZ h; exact aJr _
noncomputable def zZ (b m : V) : V := .tup [.str "common",b,m]
noncomputable def rB (E : P) (acc : List V) (ts : List Tk) : Option (V × List Tk) := Ke (fun acc ts rec => match lO ts with
 | none => none
 | some (b,r) => match gJ E [] r with
  | none => none
  | some (m,r') => if Ez r' then rec (acc ++ [zZ b m]) r' else some (.lst (acc ++ [zZ b m]),r')) acc ts
theorem Q8 (E : P) (acc : List V) (ts : List Tk) : rB E acc ts = match lO ts with
 | none => none
 | some (b,r) => match gJ E [] r with
  | none => none
  | some (m,r') => if Ez r' then (if _h : r'.length < ts.length then rB E (acc ++ [zZ b m]) r' else none) else some (.lst (acc ++ [zZ b m]),r') := pX _ _ _
theorem yK {E : P} (hE : eH E) (acc : List V) (ts : List Tk) : rB E acc ts = andThen (lO ts) fun b r => andThen (gJ E [] r) fun m r' => if Ez r' then rB E (acc ++ [zZ b m]) r' else some (.lst (acc ++ [zZ b m]),r') := by
 rw [Q8];split
 ·rename_i e; rw [e]; rfl
 ·rename_i b r e;rw [e,aB];have := Ly e;split
  ·rename_i e; rw [e]; rfl
  ·rename_i m r' e;rw [e,aB];have := vI hE [] _ _ _ e;split
   ·rw [dif_pos (qg (by assumption) (by assumption))]
   ·rfl
noncomputable def Q9 (ts : List Tk) : Option V := cP (rB cC [] ts)
section
variable (F : Facts G) {t : Str} (H : jQ t)
include H
theorem Ft {x : Str} (hx : x.cps.toList.drop 6 = t.cps.toList) (Ur : x.length <= 700) {Q : KV} (hn : 7 <= c.n) (hnd : ∀ ts,fX t.cps.toList = some ts -> nd ts + 20 <= c.n)
  (hX : bW t Q9 = none -> X) (q : ∀ v,bW t Q9 = some v -> Q v σ) :
  aR c (.ref (F.a .uW)) [.str x] σ Q X := by
 have hlen := H.len;unfold bW at hX q;refine aN F .uW rfl rfl (Zb hn) fun d hdn hW => ?_;refine ⟨by rw [sizeLine_eq]; exact Jz Ur,?_⟩;rw [show ((6 : Int)) = ((6 : Nat) : Int) from rfl,jG hx];refine kE F H (Zc hn hdn) (fun z => hX (by rw [z]; rfl)) fun ts vs hl C hsl => ?_;rw [hl,aKh] at hX;simp only [hl,aKh] at q;have hnd := hnd ts hl;have hN : ts.length < 1000 := by exact Zd hlen hsl
 have m0 := fun k => cI ts (k := 0) (k' := k) (aKk _);rw [aKe] at m0;have hE := dZ 1000;unfold Q9 at hX q;rw [yK hE] at hX q;have z0 : ts.drop 0 = ts := aKe;refine wX F C hN (k := 0) (aKk _) (aCe hn hdn) (fun z => hX (by rw [z0] at z; rw [z]; rfl)) fun b aJ e a1 a2 => ?_;rw [z0] at e;rw [e,aB] at hX;simp only [e,aB] at q;have m1 := m0 aJ;refine uE F C hN (k := aJ) _ _ _ _ (v8 hnd m1 hdn) (fun z => hX (by rw [z]; rfl)) fun m eY e2 b1 b2 => ?_;rw [e2,aB] at hX;simp only [e2,aB] at q;intro a ha;walk_at "a";refine bH (fun C' => ∀ (acc : List V) (k' : Nat) (bl it : Option V),(if Ez (ts.drop eY) then rB cC ([] ++ [zZ b m]) (ts.drop eY) else some (.lst ([] ++ [zZ b m]),ts.drop eY)) = some (.lst acc,ts.drop k') -> k' <= ts.length -> C' [some (V.str x),some (V.lst vs),bl,some (V.int (k' : Nat)),it,some (V.mut a)] (aH σ a acc)) ?_ ?_
 ·intro R' hR;walk_at "a";refine cO (ι := Nat) (fun k' C' => ∀ (acc : List V) (bl it : Option V),(if Ez (ts.drop eY) then rB cC ([] ++ [zZ b m]) (ts.drop eY) else some (.lst ([] ++ [zZ b m]),ts.drop eY)) = (if Ez (ts.drop k') then rB cC acc (ts.drop k') else some (.lst acc,ts.drop k')) -> k' <= ts.length -> acc.length <= k' -> C' [some (V.str x),some (V.lst vs),bl,some (V.int (k' : Nat)),it,some (V.mut a)] (aH σ a acc)) (fun k' => ts.length + 1 - k') eY (fun C' k => k [zZ b m] _ _ rfl b2 (by simp; exact iR (UH (Ut U0 U1)<|UG (Ul (Un 1) U1)) rfl b1)) (fun _ x0 x1 x2 x3 x4 x5 C' k => k x0 x1 x2 x3 x4 x5) ?_;intro J hJ k' acc bl it hs' h2 h3;have m4 := m0 k';refine Ep F C hN (k := k') (ju hn hdn) ?_;cases hb : Ez (ts.drop k')
  ·rw [hb] at hs';exact hR acc k' _ _ hs' h2
  ·rw [hb,if_pos rfl,yK hE acc (ts.drop k')] at hs';refine wX F C hN (k := k') h2 (aCe hn hdn) (fun z => hX (by rw [hs',z]; rfl)) fun b' aHn e3 c1 c2 => ?_;rw [e3,aB] at hs';have m5 := m0 aHn;refine uE F C hN (k := aHn) _ _ _ _ (v8 hnd m5 hdn) (fun z => hX (by rw [hs',z]; rfl)) fun m' aJc e4 d1 d2 => ?_;rw [e4,aB] at hs';refine ⟨a,rfl,⟨_,aC _ _ _⟩,?_⟩;refine ⟨acc,aC _ _ _,by rw [sizeLine_eq]; exact tC (UH (Ul U0 U1)<|UH (Ul U1 U2)<|UH (Ul U3 U4)<|UH (Ut U2 U3)<|UH (Ut U4 (Un 1000))<|UG (Ut U0 (Un 16777216))) rfl h3 c1 d2 d1 hN,?_⟩;rw [bI];exact ⟨aJc,by dsimp only; exact Jt (UH (Ue (.a U0 U1) (Up 2 1))<|UH (Ul U3 U4)<|UH (Ut U4 U1)<|UH (Ul (Up 2 1) (.a U5 U3))<|UG (Ut U0 U5)) rfl (aJo (Jy d2)) c1 d1 gY,hJ _ (acc ++ [zZ b' m']) _ _ hs' d2 (by rw [aJt,aJu]; exact jX (UH (Ul U0 U1)<|UH (Ul U1 U2)<|UH (Ut U2 U3)<|UG (Ul (Up 0 1) U3)) rfl h3 c1 d1)⟩
 ·intro acc k' bl it hs' h2;rw [hs'] at hX;simp only [hs'] at q;refine mC F (Fi hn hdn) C.T (fun z => hX (nZ z)) fun z => ?_;refine ⟨_,_,rfl,aC _ _ _,?_⟩;rw [bU ha];exact q _ (nY z)
theorem Aa {x : Str} (hx : x.cps.toList.drop 9 = t.cps.toList) (Ur : x.length <= 700) {Q : KV} (hn : 7 <= c.n) (hnd : ∀ ts,fX t.cps.toList = some ts -> nd ts + 20 <= c.n)
  (hX : bW t Dq = none -> X) (q : ∀ v,bW t Dq = some v -> Q (.lst [.tup [.str "param",v]]) σ) :
  aR c (.ref (F.a .pI)) [.str x] σ Q X := by
 have hlen := H.len;unfold bW at hX q;refine aN F .pI rfl rfl (Zb hn) fun d hdn hW => ?_;refine ⟨by rw [sizeLine_eq]; exact Jz Ur,?_⟩;rw [show ((9 : Int)) = ((9 : Nat) : Int) from rfl,jG hx];refine kE F H (Zc hn hdn) (fun z => hX (by rw [z]; rfl)) fun ts vs hl C hsl => ?_;rw [hl,aKh] at hX;simp only [hl,aKh] at q;have hnd := hnd ts hl;have hN : ts.length < 1000 := by exact Zd hlen hsl
 have m0 := fun k => cI ts (k := 0) (k' := k) (aKk _);rw [aKe] at m0;have hs := Dr (dZ 1000);unfold Dq at hX q;have z0 : ts.drop 0 = ts := aKe;have t0 : ts.tail = ts.drop 1 := by rw [aNt]
 rw [t0] at hX q;refine cR F (k := 0) (Fi hn hdn) C.T (by decide +kernel) (fun z => hX (by rw [z0] at z; rw [z]; rfl)) fun hc => ?_;have hl1 := gR hc;rw [z0] at hc;rw [hc,if_pos rfl] at hX;simp only [hc,if_true] at q;unfold gM at hX q;intro a ha;walk_at "a";refine bH (fun C' => ∀ (acc : List V) (k' : Nat) (nm tr : Option V),eN (jV cC) [] (ts.drop 1) = some (.lst acc,ts.drop k') -> k' <= ts.length -> acc.length <= k' -> C' [some (V.str x),some (V.lst vs),some (V.int (k' : Nat)),some (V.mut a),some (V.bool false),nm,tr] (aH σ a acc)) ?_ ?_
 ·intro R' hR;walk_at "a";refine cO (ι := Nat × Bool) (fun i C' => ∀ (acc : List V) (nm tr : Option V),eN (jV cC) [] (ts.drop 1) = (if i.2 then eN (jV cC) acc (ts.drop i.1) else some (.lst acc,ts.drop i.1)) -> i.1 <= ts.length -> acc.length <= i.1 -> C' [some (V.str x),some (V.lst vs),some (V.int (i.1 : Nat)),some (V.mut a),some (V.bool i.2),nm,tr] (aH σ a acc)) (fun i => 2 * (ts.length + 1 - i.1) + i.2.toNat) (1,true) (fun C' k => k [] _ _ rfl hl1 (aKk _)) (fun _ x0 x1 x2 x3 x4 x5 C' k => k x0 x1 x2 x3 x4 x5) ?_;rintro J hJ ⟨k',more⟩ acc nm tr hs' h2 h3;have m3 := m0 k';have m4 := m0 (k' + 2);simp only at h2 h3;cases more
  ·exact hR acc k' _ _ hs' h2 h3
  ·rw [if_pos rfl,bV hs acc] at hs';simp only at hs';refine jY F (Fi hn hdn) C.T (fun h => hX (by
    rw [hs'];have : jV cC (ts.drop k') = none := by
     unfold jV; split
     ·rename_i e; exact absurd e (h _ _)
     ·rfl
    rw [this]; rfl)) fun s e0 => ?_
   have hkl := (fJ e0).1;rw [e0,show jV cC (.name s :: ts.drop (k' + 1)) = if hd (ts.drop (k' + 1)) "=" then andThen (cC (ts.drop (k' + 1)).tail) fun t r' => some (.tup [.str s,t],r') else none from rfl,tail_drop] at hs';refine cR F (k := k' + 1) (Fi hn hdn) C.T (by decide +kernel) (fun z => hX (by rw [hs',z]; rfl)) fun hc => ?_;rw [hc,if_pos rfl] at hs';refine Bj F C hN (k' + 2) _ _ _ _ (jX (UH (Ul (Up 0 20) U1)<|UH (Ul U2 U0)<|UH (Uq (Up 3 1) U1)<|UG (Ul (Up 2 15) U3)) rfl hnd m4 hdn) (fun z => hX (by rw [hs',show cC (ts.drop (k' + 1 + 1)) = none from z]; rfl)) fun tv aJ e1 a1 a2 => ?_;rw [show cC (ts.drop (k' + 1 + 1)) = some (tv,ts.drop aJ) from e1,aB,aB,tail_drop] at hs';refine ⟨a,rfl,⟨_,aC _ _ _⟩,?_⟩;refine ⟨acc,aC _ _ _,by rw [sizeLine_eq]; exact jX (UH (Ul U0 U1)<|UH (Ul U2 U3)<|UH (Ut (Up 1 2) U2)<|UH (Ut U3 (Un 1000))<|UG (Ut U0 (Un 16777216))) rfl h3 a2 a1 hN,?_⟩;rw [bI];refine bD F (k := aJ) (v9 hn hdn) C.T ?_;cases hc2 : hd (ts.drop aJ) ","
   ·rw [hc2] at hs';exact ⟨(aJ,false),by simp only [aLs,aNy]; exact tC (HL.h 2 (Ue (.a U0 U1) (Up 2 1))<|HL.h 2 (Ut (Up 3 2) U1)<|HL.h 2 (Ul (Up 2 1) (.a U4 U3))<|UG (Ut (.a (.m 2 U0) (Un 0)) (.a (.m 2 U4) (Un 1)))) rfl (aJo (Jy a2)) a1 gY,hJ _ _ _ _ hs' a2 (by rw [aJt,aJu]; exact aJw (aLm h3) (aJw (aMa _ 2) a1))⟩
   ·rw [hc2] at hs';have := gR hc2;exact ⟨(aJ + 1,true),by simp only [aLs]; exact tC (HL.h 2 (Ue (.a U0 (Up 1 1)) (Up 2 1))<|HL.h 2 (Ut (Up 3 2) U1)<|HL.h 2 (Ul (Up 2 1) (.a U4 U3))<|UG (Ut (.a (.m 2 U0) (Un 1)) (.a (.m 2 U4) (Un 1)))) rfl (aJo (o9 this)) a1 gY,hJ _ _ _ _ hs' this (by rw [aJt,aJu]; exact Nat.le_succ_of_le (aJw (aLm h3) (aJw (aMa _ 2) a1)))⟩
 ·intro acc k' nm tr hs' h2 h3;rw [hs',aB] at hX;simp only [hs',aB] at q;refine cR F (k := k') (Fi hn hdn) C.T (by decide +kernel) (fun z => hX (by rw [z]; rfl)) fun hc2 => ?_;rw [hc2,if_pos rfl,tail_drop] at hX;simp only [hc2,if_true,tail_drop] at q;refine mC F (Fi hn hdn) C.T (fun z => hX (nZ z)) fun z => ?_;refine ⟨_,_,rfl,aC _ _ _,?_⟩;rw [bU ha];exact q _ (nY z)
end
end Mine
end
namespace Mine
variable {G : eX} {c : Cfg G} {ρ : En} {σ : aW} {X : Prop}
theorem sJ {a b : Nat} {s : Str} (hs : s = ⟨#[b]⟩) : ((⟨#[a]⟩ : Str) = s) ↔ a = b := by
 subst hs;constructor
 ·intro h; simpa using congrArg (fun x : Str => x.cps.toList) h
 ·rintro rfl; rfl
theorem Wg : (aJp "(") = ⟨#[40]⟩ := by decide +kernel
theorem yM : (aJp ")") = ⟨#[41]⟩ := by decide +kernel
theorem VJ : (aJp "*") = ⟨#[42]⟩ := by decide +kernel
theorem R5 : (aJp ",") = ⟨#[44]⟩ := by decide +kernel
noncomputable def yV : Int -> List Nat -> List Int
 | _,[] => []
 | d,c :: r => if c = 40 /\ 0 <= d then d :: yV (d + 1) r else if c = 41 /\ 0 < d then (d - 1) :: yV (d - 1) r else (if c = 41 then -2 else d) :: yV (if c = 41 then -2 else d) r
noncomputable def dN : Nat -> List Nat -> Option Nat
 | _,[] => none
 | d,c :: r => if c = 40 then (dN (d + 1) r).map (· + 1) else if c = 41 then (if d = 1 then some 1 else (dN (d - 1) r).map (· + 1)) else (dN d r).map (· + 1)
theorem Jb {c : Nat} {d : Int} {r : List Nat} (h : c = 40) (h2 : 0 <= d) : yV d (c :: r) = d :: yV (d + 1) r := by
 conv => lhs; unfold yV
 rw [if_pos ⟨h,h2⟩]
theorem Lz {c : Nat} {d : Int} {r : List Nat} (h : c = 41) (h2 : 0 < d) : yV d (c :: r) = (d - 1) :: yV (d - 1) r := by
 conv => lhs; unfold yV
 rw [if_neg fun z => absurd (h.symm.trans z.1) (by decide),if_pos ⟨h,h2⟩]
theorem R6 {c : Nat} {d : Int} {r : List Nat} (h : c = 41) (h2 : ¬ 0 < d) : yV d (c :: r) = (-2) :: yV (-2) r := by
 conv => lhs; unfold yV
 rw [if_neg fun z => absurd (h.symm.trans z.1) (by decide),if_neg fun z => h2 z.2,if_pos h]
theorem Bp {c : Nat} {d : Int} {r : List Nat} (h : ¬ (c = 40 /\ 0 <= d)) (h2 : ¬ c = 41) : yV d (c :: r) = d :: yV d r := by
 conv => lhs; unfold yV
 rw [if_neg h,if_neg fun z => h2 z.1,if_neg h2]
section
variable (F : Facts G) {t : Str} (H : jQ t)
include H
theorem DW {Q : KV} (hn : 1 <= c.n) (q : Q (.lst ((yV 0 t.cps.toList).map V.int)) σ) : aR c (.ref (F.a .depths)) [.str t] σ Q X := by
 have hlen := H.len;have hsz := jQ.size (t := t);refine aN F .depths rfl rfl (by omega) fun d hdn hW => ?_;intro a ha;refine ⟨t,rfl,?_,aGg (fun i ρ' σ' => ∃ (acc : List V) (d : Int) (sg : Option V),ρ' = [some (V.str t),some (V.mut a),some (V.int d),some (V.bool false),sg] /\ σ' = aH σ a acc /\
  (yV 0 t.cps.toList).map V.int = acc ++ (yV d (t.cps.toList.drop i)).map V.int /\ acc.length <= i) ⟨[],0,_,rfl,rfl,by rw [aKe]; rfl,aJr _⟩ ?_ ?_⟩
 ·rw [Array.all_eq_true];intro i hi;have := Wc _ (H.al t.cps[i] (by rw [aNc]; exact Array.getElem_mem hi));simpa using this
 ·rintro J hJ i _ _ hi ⟨acc,d',sg,rfl,rfl,hs,hl⟩;have hi' : i < t.cps.toList.length := by rw [aLw]; exact hi
  have hdr : t.cps.toList.drop i = t.cps[i] :: t.cps.toList.drop (i + 1) := by
   rw [aKq hi']; simp
  have hal := H.al t.cps[i] (by rw [aNc]; exact Array.getElem_mem hi);rw [show t.cps.getD i 0 = t.cps[i] by simp [aOz,hi]];generalize t.cps[i] = ch at hdr hal ⊢;rw [hdr] at hs;have hil : i < 600 := by have : t.cps.size = t.length := rfl; exact gP (UH (Ue U0 U1)<|UH (Ul U1 (Un 600))<|UH (Ut U2 U0)<|UG (Ut U2 (Un 600))) rfl hsz hlen hi'
  have app : ∀ {v : V} {QQ : Fl -> eE -> aW -> Prop},True := trivial;refine bA (fun z => absurd z (Ja ch hal)) (fun _ => ?_);refine bA (fun z => ?_) (fun z => ?_)
  ·have z : ch = 40 := (sJ Wg).mp z;refine bA (fun y => ?_) (fun y => ?_)
   ·refine ⟨a,rfl,⟨_,aC _ _ _⟩,?_⟩;refine ⟨acc,aC _ _ _,by rw [sizeLine_eq]; exact JT hl hil,?_⟩;rw [bI];refine hJ ⟨_,_,_,rfl,rfl,?_,by rw [aJt,aJu]; exact JV hl⟩;rw [hs,Jb z y]; simp
   ·refine bA (fun w => ?_) (fun w => ?_)
    ·have w := (sJ yM).mp w; exact (aCf z w).elim
    ·refine bA (fun w => ?_) (fun w => ?_)
     ·have w := (sJ yM).mp w; exact (aCf z w).elim
     ·refine ⟨a,rfl,⟨_,aC _ _ _⟩,?_⟩;refine ⟨acc,aC _ _ _,by rw [sizeLine_eq]; exact JT hl hil,?_⟩;rw [bI];refine hJ ⟨_,_,_,rfl,rfl,?_,by rw [aJt,aJu]; exact JV hl⟩;rw [hs,Bp (fun x => y x.2) (aMu (eU (UH (Ue U0 (Un 40))<|UG (Ut U0 (Un 41))) rfl z))]; simp
  ·have z : ¬ ch = 40 := fun x => z ((sJ Wg).mpr x);refine bA (fun w => ?_) (fun w => ?_)
   ·have w' : ch = 41 := (sJ yM).mp w;refine bA (fun y => ?_) (fun y => ?_)
    ·refine ⟨a,rfl,⟨_,aC _ _ _⟩,?_⟩;refine ⟨acc,aC _ _ _,by rw [sizeLine_eq]; exact JT hl hil,?_⟩;rw [bI];refine hJ ⟨_,_,_,rfl,rfl,?_,by rw [aJt,aJu]; exact JV hl⟩;rw [hs,Lz w' y]; simp
    ·refine bA (fun _ => ?_) (fun x => absurd w x);refine ⟨a,rfl,⟨_,aC _ _ _⟩,?_⟩;refine ⟨acc,aC _ _ _,by rw [sizeLine_eq]; exact JT hl hil,?_⟩;rw [bI];refine hJ ⟨_,_,_,rfl,rfl,?_,by rw [aJt,aJu]; exact JV hl⟩;rw [hs,R6 w' y]; simp
   ·have w' : ¬ ch = 41 := fun x => w ((sJ yM).mpr x);refine bA (fun x => absurd x w) (fun _ => ?_);refine ⟨a,rfl,⟨_,aC _ _ _⟩,?_⟩;refine ⟨acc,aC _ _ _,by rw [sizeLine_eq]; exact JT hl hil,?_⟩;rw [bI];refine hJ ⟨_,_,_,rfl,rfl,?_,by rw [aJt,aJu]; exact JV hl⟩;rw [hs,Bp (fun x => z x.1) w']; simp
 ·rintro _ _ ⟨acc,d',sg,rfl,rfl,hs,hl⟩;rw [aJz (by rw [hsz]; exact aJr _)] at hs;have hs : (yV 0 t.cps.toList).map V.int = acc := by rw [hs]; unfold yV; simp
  refine ⟨_,_,rfl,aC _ _ _,?_⟩;rw [bU ha];rw [<- hs];exact q
theorem Wh {r : List Nat} {Q : KV} (hn : 2 <= c.n) (hcs : t.cps.toList = 42 :: 40 :: r) (q : ∀ m,dN 1 r = some m -> Q (.int (m + 1 : Nat)) σ) (q' : dN 1 r = none -> Q (.int (-1)) σ) :
  aR c (.ref (F.a .closing)) [.str t,.int 1] σ Q X := by
 have hlen := H.len;have hsz := jQ.size (t := t);have hlv : yV 0 t.cps.toList = 0 :: 0 :: yV 1 r := by
  rw [hcs,Bp (by decide) (by decide),Jb rfl (Int.le_refl _)]; rfl
 refine aN F .closing rfl rfl (j9 hn) fun d hdn hW => ?_;refine DW F H (Gk hn hdn) ?_;rw [hlv];refine ⟨((2 : Nat) : Int),rfl,?_⟩;refine vA (Mx Jx hlen) ?_;have hrl : t.length = r.length + 2 := by rw [<- hsz,hcs]; rfl
 refine ⟨(t.length : Int),rfl,by exact aO (c := .o) (d := (qY _)) (UH (UL (.n 20000000) (.v 0))<|UG (UL (.g (.v 0)) (.c (Un 2)))) rfl xR,by exact aO (c := .o) (d := (qY _)) (UH (UL (.n 20000000) (.v 0))<|UG (UT (.c (Un 2)) (.v 0))) rfl xR,by exact H6 xR,by exact aO (c := (m8 _)) (d := (qY _)) (UH (UL (.n 20000000) (.v 0))<|UH (Ul U0 (Un 600))<|UG (UT (.c U0) (.v 0))) rfl xR hlen,sV (fun i C' => ∀ (D : Nat) (pl : Option V),0 < D -> dN 1 r = (dN D (r.drop i)).map (· + i) -> (yV 1 r).drop i = yV (D : Int) (r.drop i) -> C' [some (V.str t),some (V.int 1),some (V.lst ((0 :: 0 :: yV 1 r).map V.int)),pl] σ) (fun C' k => k 1 _ (aO (c := .o) (d := .o) (UG (Ut (Un 0) (Un 1))) rfl) (by rw [aKe]; cases dN 1 r <;> rfl) (by rw [aKe,aKe]; rfl)) (fun _ x0 x1 x2 x3 x4 C' k => k x0 x1 x2 x3 x4) ?_ ?_⟩
 ·intro J hJ i hi D pl hD hcl hlev;have hir : i < r.length := by exact jX (UH (Ue U0 (Up 1 2))<|UH (UE (.c U2) (.b (.c U0) (.c (Un 2))))<|UH (Ut U3 U2)<|UG (Ut U3 U1)) rfl hrl (aJy (aEm hrl)) hi
  obtain ⟨ch,hch⟩ : ∃ ch,r.drop i = ch :: r.drop (i + 1) := ⟨_,aKq hir⟩;have hget : t.cps[2 + i]? = some ch := by
   rw [<- aMf,hcs,show 2 + i = i + 1 + 1 from by exact aJq (aCg) (aCh),aMc,aMc];exact (fJ hch).2.1
  have yc : ((0 :: 0 :: yV 1 r).map V.int)[2 + i]? = ((yV (D : Int) (r.drop i)).head?).map V.int := by
   rw [aMv,show 2 + i = i + 1 + 1 from by exact aJq (aCg) (aCh),aMc,aMc, <- hlev,List.head?_drop]
  rw [hch] at hcl hlev yc;refine iH (k := ch) (aCi) (aEn xR hlen hir hrl) (by rw [show (((2 : Nat) : Int) + (i : Int)).toNat = 2 + i from by exact aJq (aEp (aJy (aEo))) (aEq X3)]; exact hget) ?_;have Jc : ∀ {x : Int} {d : Int},yV (D : Int) (ch :: r.drop (i + 1)) = x :: yV d (r.drop (i + 1)) -> (yV 1 r).drop (i + 1) = yV d (r.drop (i + 1)) := fun {x d} h => by
   rw [<- List.tail_drop,hlev,h]; rfl
  refine bA (fun z => ?_) (fun z => ?_)
  ·have z : ch = 41 := (sJ yM).mp z;have hl1 : yV (D : Int) (ch :: r.drop (i + 1)) = ((D : Int) - 1) :: yV ((D : Int) - 1) (r.drop (i + 1)) := by
    exact Lz z (eU (UH (Ut (Un 0) U0)<|UG (UT (.n 0) (.c U0))) rfl hD)
   rw [hl1] at yc;refine Oh (y := .int ((D : Int) - 1)) (aCi) (aEn xR hlen hir hrl) (by rw [show (((2 : Nat) : Int) + (i : Int)).toNat = 2 + i from by exact aJq (aEp (aJy (aEo))) (aEq X3)]; exact yc) ?_;refine Oh (y := .int 0) (by decide) (by decide) rfl ?_;conv at hcl => rhs; unfold dN
   rw [if_neg (aOh (eU (UH (Uq U0 (Un 41))<|UG (Ut (Un 40) U0)) rfl z)),if_pos z] at hcl;refine jO (fun y => ?_) (fun y => ?_)
   ·have y : D = 1 := by have := eq_of_beq y; exact aJq (Z85 this) (Z86 this)
    rw [if_pos y] at hcl;have := q (1 + i) hcl;rw [show ((1 + i + 1 : Nat) : Int) = ((2 : Nat) : Int) + (i : Int) from by exact aKs (eU (UG (UL (.c (.a (.a (Un 1) U0) (Un 1))) (.a (.c (Un 2)) (.c U0)))) rfl) (eU (UG (UL (.a (.c (Un 2)) (.c U0)) (.c (.a (.a (Un 1) U0) (Un 1))))) rfl)] at this;exact this
   ·have y : D ≠ 1 := fun x => by subst x; cases y
    rw [if_neg y] at hcl;refine hJ _ (D - 1) (some (V.int (((2 : Nat) : Int) + (i : Int)))) (Ak hD y) ?_ ?_
    ·rw [hcl,aMj]; congr 1; funext x; simp; exact aJq (JW) (JX)
    ·rw [Jc hl1]; congr 1; exact aKs (Z87 gY) (Z89 (aJo (Z88 hD)))
  ·have z : ¬ ch = 41 := fun x => z ((sJ yM).mpr x);conv at hcl => rhs; unfold dN
   by_cases y : ch = 40
   ·rw [if_pos y] at hcl;refine hJ _ (D + 1) (some (V.int (((2 : Nat) : Int) + (i : Int)))) (Z84) ?_ ?_
    ·rw [hcl,aMj]; congr 1; funext x; simp; exact aJq (JW) (JX)
    ·rw [Jc (Jb y (Uo))]; rfl
   ·rw [if_neg y,if_neg z] at hcl;refine hJ _ D (some (V.int (((2 : Nat) : Int) + (i : Int)))) (by omega) ?_ ?_
    ·rw [hcl,aMj]; congr 1; funext x; simp; exact aJq (JW) (JX)
    ·rw [Jc (Bp (fun w => y w.1) z)]
 ·intro D pl hD hcl hlev;rw [show ((t.length : Int) - ((2 : Nat) : Int)).toNat = r.length from by exact aJq (gP (UH (Ue U0 (Up 1 2))<|UH (UE (.c U2) (.b (.c U0) (.c (Un 2))))<|UG (Ul U2 U1)) rfl hrl (aJy (aEm hrl))) (gP (UH (UL (.b (.c U0) (.c (Un 2))) (.c U1))<|UH (Uq U0 (Up 2 2))<|UG (Ul U2 U1)) rfl X3 hrl),aMn] at hcl;exact q' hcl
end
noncomputable def Er (r : List Nat) : Option Nat := match r with
 | 40 :: r' => (dN 1 r').map (· + 1)
 | _ => some (r.takeWhile isD).length
theorem yN : ∀ (r : List Nat) (d m : Nat),dN d r = some m -> m <= r.length
 | [],_,_,h => by cases h
 | c :: r,d,m,h => by
  unfold dN at h;rw [aJs];split at h
  ·obtain ⟨x,h1,h2⟩ := aKc.mp h;have := yN r _ _ h1; exact w5 this h2
  ·split at h
   ·split at h
    ·obtain rfl := aJn h; exact Z96
    ·obtain ⟨x,h1,h2⟩ := aKc.mp h;have := yN r _ _ h1; exact w5 this h2
   ·obtain ⟨x,h1,h2⟩ := aKc.mp h;have := yN r _ _ h1; exact w5 this h2
theorem VK {r : List Nat} {m : Nat} (h : Er r = some m) : m <= r.length := by
 unfold Er at h;split at h
 ·obtain ⟨x,h1,h2⟩ := aKc.mp h;have := yN _ _ _ h1;rw [aJs]; exact w5 this h2
 ·obtain rfl := aJn h; exact yJ _ _
noncomputable def nG (r : List Nat) : Option (V × List Nat) := (Er r).bind fun m => ((fX (r.take m)).bind fun ts => cP (gD cC ts)).map fun l => (l,r.drop m)
theorem Jd {t : Str} {l : List Nat} (H : jQ t) (hs : l.Sublist t.cps.toList) : jQ ⟨l.toArray⟩ :=
 ⟨fun c hc => H.al c (hs.subset hc),by rw [yR]; have := hs.length_le; rw [jQ.size] at this; have := H.len; exact iR (UH (Ul U0 (Un 600))<|UH (Ul U1 U0)<|UG (Ul U1 (Un 600))) rfl (by assumption) (by assumption)⟩
section
variable (F : Facts G) {t : Str} (H : jQ t)
include H
theorem Ds {r : List Nat} {Q : KV} (hcs : t.cps.toList = 42 :: r) (hn : 7 <= c.n) (hnd : ∀ l ts,l.Sublist t.cps.toList -> fX l = some ts -> nd ts + 20 <= c.n)
  (hX : nG r = none -> X) (q : ∀ l r',nG r = some (l,r') -> Q (.tup [l,.str ⟨r'.toArray⟩]) σ) : aR c (.ref (F.a .oW)) [.str t] σ Q X := by
 have hlen := H.len;have hsz := jQ.size (t := t);have hrl : t.length = r.length + 1 := by rw [<- hsz,hcs]; rfl
 unfold nG at hX q;refine aN F .oW rfl rfl (Zb hn) fun d hdn hW => ?_;refine ⟨by rw [sizeLine_eq]; exact Cr hlen,?_⟩;rw [show eG t.cps.toList none (some 1) = [42] from by rw [hcs]; unfold eG; rw [show ((none : Option Int).elim 0 (clipAt (42 :: r).length)) = 0 from rfl,show ((some (1 : Int)).elim (42 :: r).length (clipAt (42 :: r).length)) = clipAt (42 :: r).length ((1 : Nat) : Int) from rfl,jU]; simp];refine pJ (fun z => absurd VJ.symm z) (fun _ => ?_);have d1 : t.cps.toList.drop 1 = r := by rw [hcs]; rfl
 walk_at "a";refine bH (fun C' => C' [some (V.str t),some (V.int ((r.takeWhile isD).length + 1 : Nat)),none,none,none] σ) ?_ ?_
 ·intro R' hR;walk_at "a";refine cO (ι := Nat) (fun e C' => (r.takeWhile isD).length + 1 = e + ((t.cps.toList.drop e).takeWhile isD).length -> e <= t.length -> C' [some (V.str t),some (V.int (e : Nat)),none,none,none] σ) (fun e => t.length - e) 1 (fun C' k => k (by rw [d1]; exact aJq (eU (UG (Ul (Up 0 1) (.a (Un 1) U0))) rfl) (eU (UG (Ul (.a (Un 1) U0) (Up 0 1))) rfl)) (iR (UH (Uq U0 (Up 1 1))<|UG (Ul (Un 1) U0)) rfl hrl)) (fun _ x0 x1 C' k => k x0 x1) ?_;intro J hJ e he h1;refine vA (Mx Jx hlen) ?_;refine bA (fun z => ?_) (fun z => ?_)
  ·have z : e < t.length := by exact Ux z
   obtain ⟨ch,e1,e2,e3⟩ := H.at z;rw [e3,aKb] at he;refine iH (Uo) (H9 hlen z) (by simpa using e1) ?_;refine jO (fun hc => ?_) (fun hc => ?_) <;> rw [nU ch e2] at hc
   ·rw [hc,if_pos rfl,aJs] at he;exact ⟨e + 1,aMo z (aKa _),hJ _ (aJq (gP (UH (Ue (Up 0 1) (.a U1 (Up 2 1)))<|UG (Ul (Up 0 1) (.a (Up 1 1) U2))) rfl he) (gP (UH (Uq (Up 0 1) (.a U1 (Up 2 1)))<|UG (Ul (.a (Up 1 1) U2) (Up 0 1))) rfl he)) z⟩
   ·rw [hc] at he;refine O6 ?_ hR;rw [he]; rfl
  ·have : e = t.length := by exact aJq (h1) (gw (aKd.mp z))
   subst this;refine O6 ?_ hR;rw [he,aJz (by rw [hsz]; exact aJr _)]; rfl
 ·walk_at "a";refine bH (fun C' => ∀ at_ : Int,((Er r = none /\ at_ = 0 \/ ∃ m : Nat,Er r = some m /\ at_ = ((m + 1 : Nat) : Int))) -> C' [some (V.str t),some (V.int at_),none,none,none] σ) ?_ ?_
  ·intro R' hR;refine ⟨by rw [sizeLine_eq]; exact Cr hlen,?_⟩;rw [show (1 : Int) = ((1 : Nat) : Int) from rfl,show (2 : Int) = ((2 : Nat) : Int) from rfl,uF,d1];have eqv : ((⟨(r.take (2 - 1)).toArray⟩ : Str) = aJp "(") ↔ r.head? = some 40 := by
    rw [Wg];cases r with
    | nil => simp
    | cons a r => simp
   refine bA (fun z => ?_) (fun z => ?_)
   ·have z := eqv.mp z;obtain ⟨r',rfl⟩ : ∃ r',r = 40 :: r' := by
     cases r with
     | nil => cases z
     | cons a r => cases z; exact ⟨r,rfl⟩
    refine Wh F H (ju hn hdn) hcs (fun m hm => ?_) (fun hm => ?_)
    ·exact hR _ (.inr ⟨m + 1,by show (dN 1 r').map (· + 1) = _; rw [hm]; rfl,rfl⟩)
    ·exact hR _ (.inl ⟨by show (dN 1 r').map (· + 1) = _; rw [hm]; rfl,rfl⟩)
   ·have z : ¬ r.head? = some 40 := fun w => z (eqv.mpr w);refine hR _ (.inr ⟨(r.takeWhile isD).length,?_,rfl⟩);unfold Er;split
    ·exact absurd rfl z
    ·rfl
  ·rintro at_ (⟨hm,rfl⟩ | ⟨m,hm,rfl⟩)
   ·rw [hm] at hX;refine Lh ?_;refine ⟨by exact ju hn hdn,?_⟩;exact hX rfl
   ·have hml := VK hm;rw [hm,aKh] at hX;simp only [hm,aKh] at q;refine jO (fun z => (Nat.succ_ne_zero _ (Int.natCast_eq_zero.mp (eq_of_beq z))).elim) (fun _ => ?_);refine ⟨by rw [sizeLine_eq]; exact Cr hlen,?_⟩;rw [show (1 : Int) = ((1 : Nat) : Int) from rfl,uF,d1,show m + 1 - 1 = m from by exact aJq (iR (UH (Ue (Up 0 1) (Up 1 1))<|UG (Ul U0 U1)) rfl (aJo (Z96))) (Uy gY)];have sub : (r.take m).Sublist t.cps.toList := by rw [hcs]; exact (aNq m r).trans (aOk _ _)
    refine kE F (Jd H sub) (Zc hn hdn) (fun z => hX (by rw [show fX (r.take m) = none from z]; rfl)) fun ts vs hl C hsl => ?_;have hl : fX (r.take m) = some ts := hl;rw [hl,aKh] at hX;simp only [hl,aKh] at q;have hnd := hnd _ ts sub hl;have hN : ts.length < 1000 := by
     have : ts.length <= (r.take m).length := by rw [<- yR]; exact hsl
     have := List.length_take_le m r;exact tC (UH (Ul U0 (Un 600))<|UH (Ul U1 U2)<|UH (Ul U2 U3)<|UH (Ul U3 U4)<|UH (Uq U0 (Up 4 1))<|UG (Ut U1 (Un 1000))) rfl hlen (by assumption) (by assumption) hml hrl
    have z0 : ts.drop 0 = ts := aKe;refine vW F C hN (k := 0) _ _ _ _ (by rw [z0]; exact gP (UH (Ul (Up 0 20) U1)<|UH (Uq (Up 2 1) U1)<|UG (Ul (Up 0 17) U2)) rfl hnd hdn) (fun z => hX (by rw [z0] at z; rw [show gD cC ts = none from z]; rfl)) fun l aJ e a1 a2 => ?_;rw [z0] at e;rw [show gD cC ts = _ from e] at hX;simp only [show gD cC ts = _ from e] at q;refine mC F (Fi hn hdn) C.T (fun z => hX (by rw [nZ z]; rfl)) fun z => ?_;refine ⟨by rw [sizeLine_eq]; exact Cr hlen,?_⟩;rw [jG (t := ⟨(r.drop m).toArray⟩) (n := m + 1) (by rw [hcs]; rfl)];exact q l (r.drop m) (by rw [nY z]; rfl)
end
end Mine
namespace Mine
variable {G : eX} {c : Cfg G} {ρ : En} {σ : aW} {X : Prop}
noncomputable def jW (k : Int) (l v : V) : V := .lst [.tup [.str "type",.int k,l,v]]
noncomputable def dG (r : List Nat) : List Nat := if r.head? = some 44 then r.tail else r
noncomputable def Ma (cs : List Nat) : Option V := if cs.head? = some 42 then (nG cs.tail).bind fun p => ((fX (dG p.2)).bind (cZ 1)).map (jW 5 p.1) else ((fX cs).bind (cZ 1)).map (jW 5 .none)
theorem DX {ts : List Tk} {l : V} {r : List Tk} (h : gD cC ts = some (l,r)) : lR l = some false := by
 unfold gD at h;split at h
 ·split at h
  ·exact aK h
  ·obtain ⟨rfl,rfl⟩ := aZ h; rfl
 ·split at h
  ·split at h
   ·split at h
    ·obtain ⟨rfl,rfl⟩ := aZ h; rfl
    ·exact aK h
   ·obtain ⟨t,r',h1,h2⟩ := aD h;obtain ⟨xs,rfl⟩ := Wa 1000 _ _ _ h1;split at h2
    ·obtain ⟨rfl,rfl⟩ := aZ h2; rfl
    ·exact aK h2
  ·exact aK h
theorem Wi {r r' : List Nat} {l : V} (h : nG r = some (l,r')) : lR l = some false /\ ∃ m,r' = r.drop m := by
 unfold nG at h;obtain ⟨m,h1,h2⟩ := aMs.mp h;obtain ⟨l',h3,h4⟩ := aKc.mp h2;cases h4
 refine ⟨?_,m,rfl⟩;obtain ⟨ts,h5,h6⟩ := aMs.mp h3;unfold cP at h6;split at h6
 ·rename_i e; obtain rfl := aJn h6; exact DX e
 ·exact aK h6
section
variable (F : Facts G) {t : Str} (H : jQ t)
include H
theorem Bq {Q : KV} (hcs : t.cps.toList.head? ≠ some 42) (hn : 1 <= c.n) (q : Q (.tup [.none,.str t]) σ) : aR c (.ref (F.a .oW)) [.str t] σ Q X := by
 have hlen := H.len;refine aN F .oW rfl rfl (by omega) fun d hdn hW => ?_;refine ⟨by rw [sizeLine_eq]; exact Cr hlen,?_⟩;refine pJ (fun _ => ?_) (fun z => ?_)
 ·exact q
 ·refine absurd ?_ hcs;have e : eG t.cps.toList none (some 1) = t.cps.toList.take 1 := by
   unfold eG;rw [show ((none : Option Int).elim 0 (clipAt t.cps.toList.length)) = 0 from rfl,show ((some (1 : Int)).elim t.cps.toList.length (clipAt t.cps.toList.length)) = clipAt t.cps.toList.length ((1 : Nat) : Int) from rfl,jU];simp
  rw [e,VJ] at z;have z := congrArg (fun x : Str => x.cps.toList) z;simp only at z;cases h : t.cps.toList with
  | nil => rw [h] at z; cases z
  | cons a r => rw [h] at z; simp at z; rw [z]; rfl
theorem xJ {x : Str} {kn : Int} {len : V} {Q : KV} (hk : ¬ kn = 5) (hn : 7 <= c.n) (hnd : ∀ ts,fX t.cps.toList = some ts -> nd ts + 20 <= c.n)
  (hX : bW t (cZ 0) = none -> X) (q : ∀ v,bW t (cZ 0) = some v -> Q (jW kn len v) σ) : aR c (.ref (F.a .gC)) [.int kn,len,.str t] σ Q X := by
 have e : (if kn == 5 then 1 else 0) = 0 := by rw [beq_eq_false_iff_ne.mpr hk]; rfl
 exact xG F H hn hnd (by rw [e]; exact hX) (by rw [e]; exact q)
theorem Je {len : V} {Q : KV} (hn : 7 <= c.n) (hnd : ∀ ts,fX t.cps.toList = some ts -> nd ts + 20 <= c.n)
  (hX : bW t (cZ 1) = none -> X) (q : ∀ v,bW t (cZ 1) = some v -> Q (jW 5 len v) σ) : aR c (.ref (F.a .gC)) [.int 5,len,.str t] σ Q X :=
 xG F H hn hnd hX q
section
variable {x : Str} {Q : KV} (Ur : x.length <= 700) (hn : 8 <= c.n) (hnd : ∀ ts,fX t.cps.toList = some ts -> nd ts + 21 <= c.n) (hX : bW t (cZ 0) = none -> X)
include Ur hn hnd hX
theorem Dt (hx : x.cps.toList.drop 7 = t.cps.toList) (q : ∀ v,bW t (cZ 0) = some v -> Q (jW 0 .none v) σ) : aR c (.ref (F.a .oG)) [.str x] σ Q X := by
 refine aN F .oG rfl rfl (JZ hn) fun d hdn hW => ?_;refine ⟨by rw [sizeLine_eq]; exact Jz Ur,?_⟩;rw [show ((7 : Int)) = ((7 : Nat) : Int) from rfl,jG hx];refine xJ (x := x) F H (by decide) (KC hn hdn) (fun ts h => by have := hnd ts h; exact KD this hdn) hX fun v e => ?_;exact q v e
theorem Kh (hx : x.cps.toList.drop 4 = t.cps.toList) (q : ∀ v,bW t (cZ 0) = some v -> Q (jW 1 .none v) σ) : aR c (.ref (F.a .uV)) [.str x] σ Q X := by
 refine aN F .uV rfl rfl (JZ hn) fun d hdn hW => ?_;refine ⟨by rw [sizeLine_eq]; exact Jz Ur,?_⟩;rw [show ((4 : Int)) = ((4 : Nat) : Int) from rfl,jG hx];refine xJ (x := x) F H (by decide) (KC hn hdn) (fun ts h => by have := hnd ts h; exact KD this hdn) hX fun v e => ?_;exact q v e
theorem Fv (hx : x.cps.toList.drop 15 = t.cps.toList) (q : ∀ v,bW t (cZ 0) = some v -> Q (jW 2 .none v) σ) : aR c (.ref (F.a .pQ)) [.str x] σ Q X := by
 refine aN F .pQ rfl rfl (JZ hn) fun d hdn hW => ?_;refine ⟨by rw [sizeLine_eq]; exact Jz Ur,?_⟩;rw [show ((15 : Int)) = ((15 : Nat) : Int) from rfl,jG hx];refine xJ (x := x) F H (by decide) (KC hn hdn) (fun ts h => by have := hnd ts h; exact KD this hdn) hX fun v e => ?_;exact q v e
theorem Du (hx : x.cps.toList.drop 7 = t.cps.toList) (q : ∀ v,bW t (cZ 0) = some v -> Q (jW 3 .none v) σ) : aR c (.ref (F.a .oH)) [.str x] σ Q X := by
 refine aN F .oH rfl rfl (JZ hn) fun d hdn hW => ?_;refine ⟨by rw [sizeLine_eq]; exact Jz Ur,?_⟩;rw [show ((7 : Int)) = ((7 : Nat) : Int) from rfl,jG hx];refine xJ (x := x) F H (by decide) (KC hn hdn) (fun ts h => by have := hnd ts h; exact KD this hdn) hX fun v e => ?_;exact q v e
theorem Dv (hx : x.cps.toList.drop 7 = t.cps.toList) (q : ∀ v,bW t (cZ 0) = some v -> Q (jW 4 .none v) σ) : aR c (.ref (F.a .oJ)) [.str x] σ Q X := by
 refine aN F .oJ rfl rfl (JZ hn) fun d hdn hW => ?_;refine ⟨by rw [sizeLine_eq]; exact Jz Ur,?_⟩;rw [show ((7 : Int)) = ((7 : Nat) : Int) from rfl,jG hx];refine xJ (x := x) F H (by decide) (KC hn hdn) (fun ts h => by have := hnd ts h; exact KD this hdn) hX fun v e => ?_;exact q v e
end
theorem Ab {x : Str} {Q : KV} (hx : x.cps.toList.drop 9 = t.cps.toList) (Ur : x.length <= 700) (hn : 9 <= c.n) (hnd : ∀ l ts,l.Sublist t.cps.toList -> fX l = some ts -> nd ts + 22 <= c.n)
  (hX : Ma t.cps.toList = none -> X) (q : ∀ v,Ma t.cps.toList = some v -> Q v σ) : aR c (.ref (F.a .pG)) [.str x] σ Q X := by
 have hlen := H.len;unfold Ma at hX q;refine aN F .pG rfl rfl (eU (UH (Ul (Un 9) U0)<|UG (Ul (Un 1) U0)) rfl hn) fun d hdn hW => ?_;refine ⟨by rw [sizeLine_eq]; exact Jz Ur,?_⟩;rw [show ((9 : Int)) = ((9 : Nat) : Int) from rfl,jG hx];by_cases h0 : t.cps.toList.head? = some 42
 ·rw [if_pos h0] at hX;simp only [if_pos h0] at q;obtain ⟨r,hcs⟩ : ∃ r,t.cps.toList = 42 :: r := by
   cases h : t.cps.toList with
   | nil => rw [h] at h0; cases h0
   | cons a r => rw [h] at h0; cases h0; exact ⟨r,rfl⟩
  rw [hcs,aLa] at hX q;refine Ds F H hcs (jw hn hdn) (fun l ts h1 h2 => by have := hnd l ts h1 h2; exact jz this hdn) (fun z => hX (by rw [z]; rfl)) fun l r' e => ?_;obtain ⟨hl,m,rfl⟩ := Wi e;rw [e,aKh] at hX;simp only [e,aKh] at q;have yd : (r.drop m).Sublist t.cps.toList := by rw [hcs]; exact (aLu m r).trans (aOk _ _)
  have aGp : (dG (r.drop m)).Sublist t.cps.toList := by
   unfold dG; split
   ·exact (List.tail_sublist _).trans yd
   ·exact yd
  have H0 := Jd H yd;have H1 := Jd H aGp;walk_at "a";refine bH (fun C' => C' [some (V.str x),some l,some (V.str ⟨(dG (r.drop m)).toArray⟩)] σ) ?_ ?_
  ·intro R' hR;refine Rn hl ?_;refine ⟨by have := H0.len; rw [sizeLine_eq]; exact Cr this,?_⟩;have e1 : eG (⟨(r.drop m).toArray⟩ : Str).cps.toList none (some 1) = (r.drop m).take 1 := by
    rw [tB];unfold eG;rw [show ((none : Option Int).elim 0 (clipAt (r.drop m).length)) = 0 from rfl,show ((some (1 : Int)).elim (r.drop m).length (clipAt (r.drop m).length)) = clipAt (r.drop m).length ((1 : Nat) : Int) from rfl,jU];simp
   rw [e1,R5];have eqv : ((⟨((r.drop m).take 1).toArray⟩ : Str) = ⟨#[44]⟩) ↔ (r.drop m).head? = some 44 := by
    cases r.drop m with
    | nil => simp
    | cons a r => simp
   refine bA (fun z => ?_) (fun z => ?_)
   ·have z := eqv.mp z;refine ⟨by have := H0.len; rw [sizeLine_eq]; exact Cr this,?_⟩;rw [show ((1 : Int)) = ((1 : Nat) : Int) from rfl,jG (t := ⟨(dG (r.drop m)).toArray⟩) (by
     rw [tB,tB]; unfold dG; rw [if_pos z,aNt])]
    exact hR
   ·have z : ¬ (r.drop m).head? = some 44 := fun w => z (eqv.mpr w);refine O6 ?_ hR;unfold dG; rw [if_neg z]
  ·refine Je F H1 (jw hn hdn) (fun ts h => by have := hnd _ ts aGp h; exact jz this hdn) (fun z => hX (by rw [show (fX (dG (r.drop m))).bind (cZ 1) = none from z]; rfl)) fun v e => ?_;exact q _ (by rw [show (fX (dG (r.drop m))).bind (cZ 1) = some v from e]; rfl)
 ·rw [if_neg h0] at hX;simp only [if_neg h0] at q;refine Bq F H h0 (iR (UH (Ul (Un 9) U0)<|UH (Uq (Up 1 1) U0)<|UG (Ul (Un 1) U1)) rfl hn hdn) ?_;refine Je F H (jw hn hdn) (fun ts h => by have := hnd _ ts (List.Sublist.refl _) h; exact jz this hdn) (fun z => hX (by rw [show (fX t.cps.toList).bind (cZ 1) = none from z]; rfl)) fun v e => ?_;exact q _ (by rw [show (fX t.cps.toList).bind (cZ 1) = some v from e]; rfl)
end
end Mine
namespace Mine
variable {G : eX} {c : Cfg G} {ρ : En} {σ : aW} {X : Prop}
noncomputable abbrev LS := Option (List Tk)
@[reducible] noncomputable def fO : Tk -> Str
 | .name s => s
 | .num ds _ => ds
 | .op s => s
@[reducible] noncomputable def Qc : LS -> List Str
 | none => ["?"]
 | some ts => ts.map fO
noncomputable def cU (st : LS) : List V := sL (Qc st)
noncomputable def pZ : LS -> Str -> Bool
 | none,_ => false
 | some ts,s => hd ts s
noncomputable def Yg : LS -> Nat
 | none => 0
 | some ts => nd ts
noncomputable def cB : LS -> Nat
 | none => 0
 | some ts => ts.length
inductive Wf : Tk -> Prop
 | name {s : Str} {c : Nat} {r : List Nat} : s.cps.toList = c :: r -> Lw c = true -> c ∈ pY -> s ∉ gQ -> Wf (.name s)
 | num {s : Str} {n : Int} {c : Nat} {r : List Nat} : s.cps.toList = c :: r -> Lw c = false -> isD c = true -> c ∈ pY -> s ∉ gQ -> PySem.intText? s = some n -> s.length <= 640 -> Wf (.num s n)
 | op {s : Str} : s ∈ gQ -> Wf (.op s)
structure xK (ts : List Tk) : Prop where
 wf : ∀ t ∈ ts,Wf t
 len : ts.length < 1000
noncomputable def bZ : LS -> Prop
 | none => True
 | some ts => xK ts
noncomputable def Le (st' st : LS) : Prop := st' = none \/ ∃ ts r,st = some ts /\ st' = some r /\ r <:+ ts
theorem Le.refl : ∀ st : LS,Le st st
 | none => .inl rfl
 | some ts => .inr ⟨ts,ts,rfl,rfl,aNa _⟩
theorem Le.trans {a b c : LS} (h : Le a b) (k : Le b c) : Le a c := by
 rcases h with h | ⟨ts,r,rfl,rfl,h⟩
 ·exact .inl h
 ·rcases k with k | ⟨ts',r',rfl,k1,k⟩
  ·exact tD k
  ·obtain rfl := aJn k1; exact .inr ⟨_,_,rfl,rfl,h.trans k⟩
theorem Le.tail {t : Tk} {r : List Tk} : Le (some r) (some (t :: r)) := .inr ⟨_,_,rfl,rfl,aNz _ _⟩
theorem Le.none {st : LS} : Le none st := .inl rfl
theorem bZ.le {st' st : LS} (h : bZ st) (k : Le st' st) : bZ st' := by
 rcases k with rfl | ⟨ts,r,rfl,rfl,k⟩
 ·trivial
 ·exact ⟨fun t ht => h.wf t (k.subset ht),aKl k.length_le h.len⟩
theorem bY {st' st : LS} (k : Le st' st) : Yg st' <= Yg st := by
 rcases k with rfl | ⟨ts,r,rfl,rfl,k⟩
 ·exact aKk _
 ·have h1 : Ew r <= Ew ts := k.sublist.countP_le;have h2 : Fb r <= Fb ts := k.sublist.countP_le;show nd r <= nd ts;unfold nd; exact Z74 h2 h1
theorem cT {st' st : LS} (k : Le st' st) : cB st' <= cB st := by
 rcases k with rfl | ⟨ts,r,rfl,rfl,k⟩
 ·exact aKk _
 ·exact k.length_le
theorem bZ.Yh {st : LS} (h : bZ st) : (Qc st).length < 1000 := by
 cases st with
 | none => show 1 < 1000; decide
 | some ts => show (ts.map fO).length < 1000; rw [aKw]; exact h.len
theorem vJ {st : LS} (h : bZ st) : (cU st).length < 1000 := by
 unfold cU sL; rw [aKw]; exact h.Yh
theorem R7 : ∀ s ∈ gQ, ¬ (aJp "?") = s := by decide +kernel
theorem iM {st : LS} {s : Str} (hg : bZ st) (hs : s ∈ gQ) : decide ((Qc st).take 1 = [s]) = pZ st s := by
 cases st with
 | none => exact decide_eq_false fun z => R7 s hs (by simpa using z)
 | some ts =>
  cases ts with
  | nil => rfl
  | cons t r =>
   show decide ([fO t] = [s]) = _;have hw := hg.wf t (.head _);cases hw with
   | name h1 h2 h3 h4 => exact decide_eq_false fun z => h4 (by have e := List.singleton_inj.mp z; rw [<- e] at hs; exact hs)
   | num h1 h2 h3 h4 h5 h6 h7 => exact decide_eq_false fun z => h5 (by have e := List.singleton_inj.mp z; rw [<- e] at hs; exact hs)
   | op h => show decide ([_] = [s]) = decide (_ = s); simp
theorem cG {st : LS} {s : Str} (h : pZ st s = true) : ∃ r,st = some (.op s :: r) := by
 cases st with
 | none => cases h
 | some ts => exact ⟨_,congrArg some (Xy h)⟩
theorem VL {t : Tk} {r : List Tk} : cU (some (t :: r)) = .str (fO t) :: cU (some r) := rfl
theorem VN (l : List V) : eG l none (some 1) = l.take 1 := by
 unfold eG;rw [show ((none : Option Int).elim 0 (clipAt l.length)) = 0 from rfl,show ((some (1 : Int)).elim l.length (clipAt l.length)) = clipAt l.length ((1 : Nat) : Int) from rfl,jU];simp
theorem Sy (st : LS) : (cU st).take 1 = sL ((Qc st).take 1) := by unfold cU sL; rw [aOw]
section
variable {a : Addr} {st : LS} {s s' : Str} {ρ : En} {A : Fn -> Addr} {Q : KV}
theorem Yi (hg : bZ st) (q : Q (.lst (sL ((Qc st).take 1))) (aH σ a (cU st))) : rU (.mut a) none (some 1) (aH σ a (cU st)) Q :=
 Hg (cU st) (aC _ _ _) (by have := vJ hg; rw [sizeLine_eq]; exact w6 this) (by rw [VN,Sy]; exact q)
theorem h_eq (hg : bZ st) (q : Q (.bool (pZ st s)) (aH σ a (cU st))) (hs : s ∈ gQ := by decide +kernel) :
  rU (.mut a) none (some 1) (aH σ a (cU st)) (k2 (Ej c X (.cmp .Eq)) (vE c A X (.lst (.cons (.s s) .nil))) ρ Q) :=
 Yi hg (TJ (ys := [s]) aY aY (by rw [iM hg hs]; exact q))
theorem aIn (hg : bZ st) (q : Q (.bool (!pZ st s)) (aH σ a (cU st))) (hs : s ∈ gQ := by decide +kernel) :
  rU (.mut a) none (some 1) (aH σ a (cU st)) (k2 (Ej c X (.cmp .NotEq)) (vE c A X (.lst (.cons (.s s) .nil))) ρ Q) :=
 Yi hg (aj (ys := [s]) aY aY (by rw [iM hg hs]; exact q))
theorem aIo (hg : bZ st) (q : Q (.bool (pZ st s || pZ st s')) (aH σ a (cU st))) (hs : s ∈ gQ := by decide +kernel) (hs' : s' ∈ gQ := by decide +kernel) :
  rU (.mut a) none (some 1) (aH σ a (cU st)) (k2 (Ej c X (.cmp .In)) (vE c A X (.tup (.cons (.lst (.cons (.s s) .nil)) (.cons (.lst (.cons (.s s') .nil)) .nil)))) ρ Q) :=
 Yi hg (Vw (ys := [s]) (zs := [s']) aY (by rw [iM hg hs,iM hg hs']; exact q))
theorem bh {t : Tk} {r : List Tk} (hg' : bZ (some r)) (q : Q (.str (fO t)) (aH σ a (cU (some r)))) : aFx (vE c A X (.i 0)) ρ Q (.mut a) (aH σ a (cU (some (t :: r)))) :=
 ⟨a,rfl,⟨_,aC _ _ _⟩,rfl,.str (fO t),cU (some r),aC _ _ _,by have := vJ hg'; rw [sizeLine_eq]; exact eU (UH (Ut U0 (Un 1000))<|UG (Ut U0 (Un 16777216))) rfl this,by rw [bI]; exact q⟩
end
noncomputable def Mt (spec : P) (st : LS) (v : V) (st' : LS) : Prop := match st with
 | none => st' = none
 | some ts => (st' = none /\ spec ts = none) \/ ∃ r,st' = some r /\ spec ts = some (v,r) /\ r <:+ ts
theorem Mt.le {spec : P} {st st' : LS} {v : V} (h : Mt spec st v st') : Le st' st := by
 cases st with
 | none => exact .inl h
 | some ts =>
  rcases h with ⟨h,_⟩ | ⟨r,h,_,h2⟩
  ·exact .inl h
  ·exact .inr ⟨ts,r,rfl,h,h2⟩
theorem Mt.bad {spec : P} {ts : List Tk} {v : V} (h : spec ts = Option.none) : Mt spec (some ts) v Option.none := .inl ⟨rfl,h⟩
theorem Mt.ok {spec : P} {ts r : List Tk} {v : V} (h : spec ts = some (v,r)) (k : r <:+ ts) : Mt spec (some ts) v (some r) := .inr ⟨r,rfl,h,k⟩
noncomputable def uI (G : eX) (fa : Addr) (B : Nat) (spec : P) (shape : V -> Prop) (st : LS) : Prop :=
 ∀ (c : Cfg G) (σ : aW) (a : Addr) (Q : KV) (X : Prop),Yg st + B <= c.n -> (∀ v st',Mt spec st v st' -> shape v -> Q v (aH σ a (cU st'))) -> aR c (.ref fa) [.mut a] (aH σ a (cU st)) Q X
theorem R8 {st : LS} {r : List Tk} {s : Str} (e : st = some r) (h : pZ st s = false) : ¬ hd r s = true := by subst e; exact fun z => aJx (h.symm.trans z)
theorem bZ.lt {st : LS} (h : bZ st) : cB st < 1000 := by
 cases st with
 | none => exact Nat.zero_lt_succ _
 | some ts => exact h.len
end Mine
local macro_rules | `(tactic| walk_at "h") => do let hg := Lean.mkIdent `hg; let hg' := Lean.mkIdent `hg'; `(tactic| repeat (first | refine Mine.a_n ?_ | refine Mine.a_i ?_ | refine Mine.a_s ?_ | refine Mine.a_b ?_ | refine Mine.a_d ?_ | refine Mine.h_eq $hg ?_ | refine Mine.aIn $hg ?_ | refine Mine.aIo $hg ?_ | refine Mine.bh $hg' ?_ | with_reducible refine Mine.Lh ?_ | with_reducible refine Mine.Vx ?_ | with_reducible refine Mine.aIl ?_ | with_reducible refine Mine.aJi ?_))
namespace Mine
variable {G : eX} {c : Cfg G} {σ : aW} {X : Prop} {st : LS} {a : Addr}
theorem oA (F : Facts G) {Q : KV} (hn : 1 <= c.n) (hg : bZ st) (q : Q .none (aH σ a (cU none))) : aR c (.ref (F.a .mW)) [.mut a] (aH σ a (cU st)) Q X := by
 refine aN F .mW rfl rfl (by omega) fun d hdn hW => ?_;refine ⟨a,rfl,(fun z => by cases z),?_⟩;walk_at "h";refine ⟨cU st,[.str "?"],aC _ _ _,rfl,by have := vJ hg; rw [sizeLine_eq]; show _ + 1 <= _; exact eU (UH (Ut U0 (Un 1000))<|UG (Ul (Up 0 1) (Un 16777216))) rfl this,?_⟩;rw [bI];have e : rG (cU st) [V.str "?"] none none = cU none := by
  unfold rG;simp [cU,sL,Qc]
 rw [e];walk_at "h";exact q
noncomputable def vX (st : LS) (s : Str) : LS := match st with
 | none => none
 | some ts => if hd ts s then some ts.tail else none
theorem qR {s : Str} : Le (vX st s) st := by
 cases st with
 | none => exact .inl rfl
 | some ts =>
  show Le (if hd ts s then some ts.tail else none) _;split
  ·exact .inr ⟨ts,_,rfl,rfl,aOa _⟩
  ·exact .inl rfl
theorem jP (F : Facts G) {Q : KV} {s : Str} (hn : 2 <= c.n) (hg : bZ st) (hs : s ∈ gQ) (q : Q .none (aH σ a (cU (vX st s)))) :
  aR c (.ref (F.a .fQ)) [.mut a,.str s] (aH σ a (cU st)) Q X := by
 refine aN F .fQ rfl rfl (j9 hn) fun d hdn hW => ?_;walk_at "a";refine zE (pZ st s) ?_ ?_
 ·refine Yi hg ?_;refine TJ (ys := [s]) aY aY ?_;exact ⟨iM hg hs,rfl⟩
 ·refine jO (fun h => ?_) (fun h => ?_)
  ·obtain ⟨r,rfl⟩ := cG h;have hg' : bZ (some r) := hg.le .tail;walk_at "h";have e : vX (some (.op s :: r)) s = some r := by exact if_pos (show hd (.op s :: r) s = true from h)
   rw [e] at q;exact q
  ·walk_at "h";refine oA F (Gk hn hdn) hg ?_;walk_at "h";have e : vX st s = none := by
    cases st with
    | none => rfl
    | some ts => show (if hd ts s then some ts.tail else none) = _; rw [if_neg (by rw [show hd ts s = false from h]; decide)]
   rw [e] at q;exact q
noncomputable def dX (s : Str) : Nat := s.cps.toList.headD 0
noncomputable def Wj : LS -> Str
 | none => "?"
 | some [] => ""
 | some (t :: _) => ⟨#[dX (fO t)]⟩
theorem yO : ∀ s ∈ gQ,s.cps.toList ≠ [] /\ dX s ∈ pY /\ Lw (dX s) = false /\ isD (dX s) = false := by decide +kernel
theorem Wf.code {t : Tk} (h : Wf t) : (fO t).cps[0]? = some (dX (fO t)) /\ dX (fO t) ∈ pY := by
 have key : ∀ {s : Str} {c : Nat} {r : List Nat},s.cps.toList = c :: r -> s.cps[0]? = some (dX s) /\ dX s = c := fun {s c r} e => by
  have e1 : dX s = c := by unfold dX; rw [e]; rfl
  exact ⟨by rw [<- aMf,e,e1]; rfl,e1⟩
 cases h with
 | name h1 h2 h3 h4 => exact ⟨(key h1).1,by rw [(key h1).2]; exact h3⟩
 | num h1 h2 h3 h4 h5 h6 h7 => exact ⟨(key h1).1,by rw [(key h1).2]; exact h4⟩
 | @op s h =>
  have := yO s h;cases e : s.cps.toList with
  | nil => exact absurd e this.1
  | cons c r => exact ⟨(key e).1,this.2.1⟩
theorem Dw (F : Facts G) {Q : KV} (hn : 1 <= c.n) (hg : bZ st) (q : Q (.str (Wj st)) (aH σ a (cU st))) :
  aR c (.ref (F.a .tG)) [.mut a] (aH σ a (cU st)) Q X := by
 refine aN F .tG rfl rfl (by omega) fun d hdn hW => ?_;walk_at "h";walk_at "h";refine oN (xs := cU st) (aC _ _ _) aY ?_;walk_at "h";cases st with
 | none =>
  refine Lh ?_;walk_at "h";refine vB (xs := cU none) (y := .str "?") (aC _ _ _) (by decide) (by decide) rfl ?_;walk_at "h";refine iH (k := 63) (by decide) (by decide) (by decide +kernel) ?_;walk_at "h";exact q
 | some ts =>
  cases ts with
  | nil =>
   refine Vx ?_;walk_at "h";exact q
  | cons t r =>
   refine Lh ?_;have hw := (hg.wf t (.head _)).code;walk_at "h";refine vB (xs := cU (some (t :: r))) (y := .str (fO t)) (aC _ _ _) (by decide) (by decide) rfl ?_;walk_at "h";refine iH (by decide) (by decide) hw.1 ?_;walk_at "h";exact q
@[reducible] noncomputable def aIp : LS -> Bool
 | none => false
 | some [] => true
 | some (.name _ :: _) => true
 | _ => false
@[reducible] noncomputable def yg : LS -> Bool
 | none => false
 | some [] => true
 | some (.num _ _ :: _) => true
 | _ => false
@[reducible] noncomputable def aGq : LS -> Bool
 | some (.name _ :: _) => true
 | _ => false
theorem Kl {st : LS} (hg : bZ st) : Txt.contains "ABCDEFGHIJKLMNOPQRSTUVWXYZ" (Wj st) = aIp st := by
 cases st with
 | none => clear hg; decide +kernel
 | some ts =>
  cases ts with
  | nil => clear hg; decide +kernel
  | cons t r =>
   have hw := hg.wf t (.head _);show Txt.contains _ ⟨#[dX (fO t)]⟩ = _;rw [zW _ hw.code.2];cases hw with
   | name h1 h2 h3 h4 => show Lw (dX _) = true; unfold dX; rw [h1]; exact h2
   | num h1 h2 h3 h4 h5 h6 h7 => show Lw (dX _) = false; unfold dX; rw [h1]; exact h2
   | @op s h => exact (yO s h).2.2.1
theorem Br {st : LS} (hg : bZ st) : Txt.contains "0123456789" (Wj st) = yg st := by
 cases st with
 | none => clear hg; decide +kernel
 | some ts =>
  cases ts with
  | nil => clear hg; decide +kernel
  | cons t r =>
   have hw := hg.wf t (.head _);show Txt.contains _ ⟨#[dX (fO t)]⟩ = _;rw [nU _ hw.code.2];cases hw with
   | @name s c r' h1 h2 h3 h4 =>
    show isD (dX _) = false; unfold dX; rw [h1];show isD c = false;unfold isD; unfold Lw at h2;simp only [aLc,decide_eq_true_eq] at h2;rw [decide_eq_false (show ¬ c <= 57 by exact aOb (aCj h2.1)),aOv]
   | num h1 h2 h3 h4 h5 h6 h7 => show isD (dX _) = true; unfold dX; rw [h1]; exact h3
   | @op s h => exact (yO s h).2.2.2
theorem Gi (F : Facts G) {Q : KV} (hn : 2 <= c.n) (hg : bZ st) (q : ∀ s st',(∀ s' r,st = some (.name s' :: r) -> s' = s /\ st' = some r) -> ((∀ s' r,st ≠ some (.name s' :: r)) -> st' = none) -> Le st' st -> Q (.str s) (aH σ a (cU st'))) :
  aR c (.ref (F.a .tH)) [.mut a] (aH σ a (cU st)) Q X := by
 refine aN F .tH rfl rfl (j9 hn) fun d hdn hW => ?_;walk_at "h";walk_at "a";refine zE (!aGq st) ?_ ?_
 ·walk_at "h";refine Dw F (Gk hn hdn) hg ?_;refine aGf (Kl hg) ?_
  match st with
  | none => exact Lh ⟨rfl,rfl⟩
  | some [] =>
   refine Vx ?_;refine oM (xs := cU (some [])) (aC _ _ _) aY ?_;exact ⟨rfl,rfl⟩
  | some (.name s :: r) =>
   refine Vx ?_;refine oM (xs := cU (some (.name s :: r))) (aC _ _ _) aY ?_;exact ⟨rfl,rfl⟩
  | some (.num _ _ :: r) => exact Lh ⟨rfl,rfl⟩
  | some (.op _ :: r) => exact Lh ⟨rfl,rfl⟩
 ·have fin : (∀ s' r,st ≠ some (.name s' :: r)) -> Q (.str "") (aH σ a (cU none)) := fun h => q "" none (fun s' r e => absurd e (h s' r)) (fun _ => rfl) .none
  match st with
  | none =>
   walk_at "h";refine oA F (Gk hn hdn) hg ?_;walk_at "h";exact fin (fun _ _ e => by exact aK e)
  | some [] =>
   walk_at "h";refine oA F (Gk hn hdn) hg ?_;walk_at "h";exact fin (fun _ _ e => by cases e)
  | some (.num _ _ :: r) =>
   walk_at "h";refine oA F (Gk hn hdn) hg ?_;walk_at "h";exact fin (fun _ _ e => by cases e)
  | some (.op _ :: r) =>
   walk_at "h";refine oA F (Gk hn hdn) hg ?_;walk_at "h";exact fin (fun _ _ e => by cases e)
  | some (.name s :: r) =>
   have hg' : bZ (some r) := hg.le .tail;walk_at "h";exact q s (some r) (fun s' r' e => by cases e; exact ⟨rfl,rfl⟩) (fun h => absurd rfl (h s r)) .tail
end Mine
local macro_rules | `(tactic| walk_at "p") => do let hg' := Lean.mkIdent `hg'; `(tactic| repeat (first | refine Mine.a_x ?_ | refine Mine.a_n ?_ | refine Mine.a_i ?_ | refine Mine.a_s ?_ | refine Mine.a_b ?_ | refine Mine.a_d ?_ | refine Mine.bh $hg' ?_))
namespace Mine
variable {G : eX} {c : Cfg G} {ρ : En} {σ : aW} {X : Prop} {a : Addr}
theorem vK {ts : List Tk} (h : xK ts) (k : Nat) : xK (ts.drop k) := ⟨fun t ht => h.wf t (List.mem_of_mem_drop ht),by have := h.len; rw [aKi]; exact iR (UH (Ut U0 (Un 1000))<|UH (Ul U1 U0)<|UG (Ut U1 (Un 1000))) rfl this W9⟩
section
variable {ts : List Tk} {m : Nat} {s s' : Str} {ρ : En} {A : Fn -> Addr} {Q : KV}
theorem Ou (hg : xK ts) (q : Q (.lst (sL ((Qc (some (ts.drop m))).take 1))) (aH σ a (cU (some ts)))) : rU (.mut a) (some (m : Int)) (some ((m : Int) + 1)) (aH σ a (cU (some ts))) Q := by
 refine Hg (cU (some ts)) (aC _ _ _) (by have := vJ (st := some ts) hg; rw [sizeLine_eq]; exact w6 this) ?_;rw [show ((m : Int) + 1) = ((m + 1 : Nat) : Int) from rfl,uF,show m + 1 - m = 1 from by exact aJq (u6 (aJo (Kv))) (u9 gY)];have e : ((cU (some ts)).drop m).take 1 = sL ((Qc (some (ts.drop m))).take 1) := by
  unfold cU sL Qc; simp [aOx,aOw]
 rw [e];exact q
theorem aIq (hg : xK ts) (q : Q (.bool (hd (ts.drop m) s)) (aH σ a (cU (some ts)))) (hs : s ∈ gQ := by decide +kernel) :
  rU (.mut a) (some (m : Int)) (some ((m : Int) + 1)) (aH σ a (cU (some ts))) (k2 (Ej c X (.cmp .Eq)) (vE c A X (.lst (.cons (.s s) .nil))) ρ Q) :=
 Ou hg (TJ (ys := [s]) aY aY (by rw [iM (st := some (ts.drop m)) (vK hg m) hs]; exact q))
theorem aGr (hg : xK ts) (q : Q (.bool (!hd (ts.drop m) s)) (aH σ a (cU (some ts)))) (hs : s ∈ gQ := by decide +kernel) :
  rU (.mut a) (some (m : Int)) (some ((m : Int) + 1)) (aH σ a (cU (some ts))) (k2 (Ej c X (.cmp .NotEq)) (vE c A X (.lst (.cons (.s s) .nil))) ρ Q) :=
 Ou hg (aj (ys := [s]) aY aY (by rw [iM (st := some (ts.drop m)) (vK hg m) hs]; exact q))
theorem aIr (hg : xK ts) (q : Q (.bool (hd (ts.drop m) s || hd (ts.drop m) s')) (aH σ a (cU (some ts)))) (hs : s ∈ gQ := by decide +kernel) (hs' : s' ∈ gQ := by decide +kernel) :
  rU (.mut a) (some (m : Int)) (some ((m : Int) + 1)) (aH σ a (cU (some ts))) (k2 (Ej c X (.cmp .In)) (vE c A X (.tup (.cons (.lst (.cons (.s s) .nil)) (.cons (.lst (.cons (.s s') .nil)) .nil)))) ρ Q) :=
 Ou hg (Vw (ys := [s]) (zs := [s']) aY (by rw [iM (st := some (ts.drop m)) (vK hg m) hs,iM (st := some (ts.drop m)) (vK hg m) hs']; exact q))
end
theorem DY {α : Type} (xs : List α) (n : Nat) : eG xs (some (n : Int)) none = xs.drop n := by
 unfold eG;show (xs.drop (clipAt xs.length (n : Int))).take (xs.length - clipAt xs.length (n : Int)) = _;rw [jU];rcases aNl n xs.length with q | q
 ·rw [aLj q,aKr (by rw [aKi]; exact aJr _)]
 ·rw [aMm q,aMn,aJz q]; simp
theorem VP {α : Type} (xs ys : List α) : rG xs ys none none = ys := by
 unfold rG; simp
theorem Mf (F : Facts G) {ts : List Tk} {k : Nat} {Q : KV} (hn : 1 <= c.n) (hg : xK ts)
  (q : ∀ n k',nA (ts.drop k) = some (iV n,ts.drop k') -> k < k' -> k' <= ts.length -> Q (.tup [.int n,.int (k' : Nat)]) (aH σ a (cU (some ts)))) (q' : nA (ts.drop k) = none -> Q (.tup [.int 0,.int (-1)]) (aH σ a (cU (some ts)))) :
  aR c (.ref (F.a .uX)) [.mut a,.int k] (aH σ a (cU (some ts))) Q X := by
 have hlen := hg.len;have hel := vJ (st := some ts) hg;have hell : (cU (some ts)).length = ts.length := by unfold cU sL Qc; simp
 refine aN F .uX rfl rfl (by omega) fun d hdn hW => ?_;walk_at "a";refine aq (fun ρ' σ' => σ' = aH σ a (cU (some ts)) /\ ρ' = [some (V.mut a),some (V.int (k : Nat)),some (V.int (Ey (ts.drop k)).1)]) ?_ ?_
 ·intro R' hR;walk_at "h";refine aIq hg ?_;refine jO (fun h => ?_) (fun h => ?_)
  ·walk_at "h";exact hR ⟨rfl,by unfold Ey; rw [if_pos h]⟩
  ·walk_at "h";refine hR ⟨rfl,?_⟩;unfold Ey; rw [h,if_neg (by decide)]; split <;> rfl
 ·rintro _ _ ⟨rfl,rfl⟩;walk_at "a";refine bH (fun C' => ∀ m : Nat,(Ey (ts.drop k)).2 = ts.drop m -> k <= m -> C' [some (V.mut a),some (V.int (m : Nat)),some (V.int (Ey (ts.drop k)).1)] (aH σ a (cU (some ts)))) ?_ ?_
  ·intro R' hR;walk_at "h";refine aIr hg ?_;have hsd := uD ts k;refine jO (fun h => ?_) (fun h => ?_)
   ·rw [h] at hsd;walk_at "h";exact hR (k + 1) hsd (Kv)
   ·rw [h] at hsd;walk_at "h";exact hR k hsd (aJr _)
  ·intro m hm hk;unfold nA at q q';rw [hm] at q q';rcases fD ts m with ⟨h1,h2⟩ | ⟨t,h1,h2,h3⟩
   ·rw [h2] at q';walk_at "h";refine nQ (xs := cU (some ts)) (aC _ _ _) (aEr Jx hel) ?_;walk_at "h";rw [hell];refine bA (fun z => by exact (Z60 z h1).elim) (fun _ => ?_);walk_at "h";exact q' rfl
   ·have hw := hg.wf t (aLv h2);have hitem : (cU (some ts))[m]? = some (.str (fO t)) := by
     unfold cU sL Qc; rw [aMv,aMv,h2]; rfl
    rw [h3] at q q';walk_at "h";refine nQ (xs := cU (some ts)) (aC _ _ _) (aEr Jx hel) ?_;walk_at "h";rw [hell];refine bA (fun _ => ?_) (fun z => by exact (iR (UH (UL (.c U0) (.c U1))<|UH (Ut U1 U0)<|HL.g 0 .f) rfl (aKd.mp z) h1).elim);walk_at "h";refine vB (xs := cU (some ts)) (y := .str (fO t)) (aC _ _ _) (Uo) (aEs xR hel h1 hell) (by simpa using hitem) ?_;walk_at "h";refine iH (by decide) (by decide) hw.code.1 ?_;walk_at "h";refine TP (nU _ hw.code.2) ?_;cases hw with
    | @name s c r' g1 g2 g3 g4 =>
     have hD : isD (dX (fO (Tk.name s))) = false := by
      show isD (dX _) = false; unfold dX; rw [g1];show isD c = false;unfold isD; unfold Lw at g2;simp only [aLc,decide_eq_true_eq] at g2;rw [decide_eq_false (show ¬ c <= 57 by exact aOb (aCj g2.1)),aOv]
     rw [hD];walk_at "h";exact q' rfl
    | @op s h =>
     have hD : isD (dX (fO (Tk.op s))) = false := (yO s h).2.2.2;rw [hD];walk_at "h";exact q' rfl
    | @num s n c r' g1 g2 g3 g4 g5 g6 g7 =>
     have hD : isD (dX (fO (Tk.num s n))) = true := by show isD (dX _) = true; unfold dX; rw [g1]; exact g3
     rw [hD];walk_at "h";refine vB (xs := cU (some ts)) (y := .str s) (aC _ _ _) (Uo) (aEs xR hel h1 hell) (by simpa using hitem) ?_;walk_at "h";refine Xp g6 g7 ?_;walk_at "h";refine TF (Ip ?_) ?_
     ·unfold Ey; split
      ·exact .inr rfl
      ·split <;> exact .inl rfl
     walk_at "h";exact q _ (m + 1) rfl (Z70 hk) h1
theorem Tc (F : Facts G) {ts : List Tk} {Q : KV} (hn : 2 <= c.n) (hg : xK ts) (h0 : hd ts "(" = true)
  (q : ∀ v r,sH ts = some (v,r) -> r <:+ ts -> Q v (aH σ a (cU (some r)))) (q' : sH ts = none -> Q .none (aH σ a (cU (some ts)))) :
  aR c (.ref (F.a .wG)) [.mut a] (aH σ a (cU (some ts))) Q X := by
 have hlen := hg.len;have hel := vJ (st := some ts) hg;have hell : (cU (some ts)).length = ts.length := by unfold cU sL Qc; simp
 have t1 : ts.tail = ts.drop 1 := by rw [aNt]
 have hg' : bZ (some ts) := hg;unfold sH at q q';rw [t1] at q q';refine aN F .wG rfl rfl (j9 hn) fun d hdn hW => ?_;walk_at "h";refine Mf F (k := 1) (Gk hn hdn) hg (fun n aJ e a1 a2 => ?_) (fun e => ?_)
 ·rw [e,aB] at q';simp only [e,aB] at q;rw [tail_drop] at q';simp only [tail_drop] at q;walk_at "p";walk_at "a";refine zE (!hd (ts.drop aJ) ",") ?_ ?_
  ·walk_at "h";rw [show pZ (some ts) "(" = true from h0];walk_at "h";refine ao (decide_eq_false (aKd.mpr (G6))) ?_;walk_at "h";refine aGr hg ?_;cases hd (ts.drop aJ) "," <;> (exact ⟨rfl,rfl⟩)
  ·cases h : hd (ts.drop aJ) ","
   ·rw [h] at q';walk_at "h";exact q' rfl
   ·rw [h,if_pos rfl] at q';simp only [h,if_true] at q;walk_at "h";refine Mf F (k := aJ + 1) (Gk hn hdn) hg (fun n' eY e' b1 b2 => ?_) (fun e' => ?_)
    ·rw [e',aB] at q';simp only [e',aB] at q;walk_at "p";walk_at "a";refine zE (!hd (ts.drop eY) ")") ?_ ?_
     ·walk_at "h";refine ao (decide_eq_false (aKd.mpr (G6))) ?_;walk_at "h";refine aGr hg ?_;cases hd (ts.drop eY) ")" <;> (exact ⟨rfl,rfl⟩)
     ·cases h2 : hd (ts.drop eY) ")"
      ·rw [h2] at q';walk_at "h";exact q' rfl
      ·rw [tail_drop] at q;have q := q _ _ (by rw [h2]; rfl) (List.drop_suffix _ _);refine Vx ?_;refine Hg (cU (some ts)) (aC _ _ _) (by rw [sizeLine_eq]; exact w6 hel) ?_;walk_at "h";refine ⟨a,rfl,(fun z => by cases z),?_⟩;walk_at "h";refine ⟨cU (some ts),_,aC _ _ _,rfl,by have := Ed (cU (some ts)) (some ((eY : Int) + 1)) none; rw [sizeLine_eq]; exact iR (UH (Ul U0 U1)<|HL.h 2 (Ut U1 (Un 1000))<|UG (Ul (.a U1 U0) (Un 16777216))) rfl this hel,?_⟩;rw [bI];have e3 : rG (cU (some ts)) (eG (cU (some ts)) (some ((eY : Int) + 1)) none) none none = cU (some (ts.drop (eY + 1))) := by
        rw [show ((eY : Int) + 1) = ((eY + 1 : Nat) : Int) from rfl,DY,VP];unfold cU sL Qc; simp [aOx]
       rw [e3];walk_at "h";exact q
    ·rw [e'] at q';walk_at "h";exact q' rfl
 ·rw [e] at q';walk_at "h";rw [show pZ (some ts) "(" = true from h0];walk_at "h";exact q' rfl
theorem Wf.R9 {t : Tk} (h : Wf t) {s : Str} (hs : s ∈ gQ) : fO t = s ↔ t = .op s := by
 cases h with
 | @name x c r g1 g2 g3 g4 => exact ⟨fun e => by have e' : x = s := e; subst e'; exact absurd hs g4,fun e => by cases e⟩
 | @num x n c r g1 g2 g3 g4 g5 g6 g7 => exact ⟨fun e => by have e' : x = s := e; subst e'; exact absurd hs g5,fun e => by cases e⟩
 | @op x h => exact ⟨fun e => by have e' : x = s := e; subst e'; rfl,fun e => by cases e; rfl⟩
noncomputable def aIs : Option Bool -> Int
 | none => 0
 | some false => 1
 | some true => 2
theorem VR (F : Facts G) {ts : List Tk} {Q : KV} (hn : 1 <= c.n) (hg : xK ts) (h0 : hd ts "(" = true) (q : Q (.int (aIs (lF 1 false ts.tail))) (aH σ a (cU (some ts)))) :
  aR c (.ref (F.a .Cz)) [.mut a] (aH σ a (cU (some ts))) Q X := by
 have hlen := hg.len;have hell : (cU (some ts)).length = ts.length := by unfold cU sL Qc; simp
 have EY : (aJp "(") ∈ gQ := by decide +kernel
 have cls : (aJp ")") ∈ gQ := by decide +kernel
 have col : (aJp ":") ∈ gQ := by decide +kernel
 refine aN F .Cz rfl rfl (by omega) fun d hdn hW => ?_;walk_at "p";walk_at "h";refine ⟨a,cU (some ts),rfl,wk (fun i ρ' σ' => σ' = aH σ a (cU (some ts)) /\ ∃ (D : Nat) (f : Bool) (tk : Option V),ρ' = [some (V.mut a),some (V.int (D : Nat)),some (V.int (if f then 2 else 1)),tk] /\
  (i = 0 /\ D = 0 /\ f = false \/ 0 < D /\ lF 1 false ts.tail = lF D f (ts.drop i))) (fun i ρ σ h => by rw [h.1]; exact aC _ _ _) ⟨rfl,0,false,_,rfl,.inl ⟨rfl,rfl,rfl⟩⟩ ?_ ?_⟩
 ·rintro J hJ i _ _ hi ⟨rfl,D,f,tk,rfl,hs⟩;have hil : i < ts.length := by rw [hell] at hi; exact hi
  have hdr : ts.drop i = ts[i] :: ts.drop (i + 1) := aKq hil;have hit : (cU (some ts)).getD i .none = .str (fO ts[i]) := by
   unfold cU sL Qc; simp [aPh,hil]
  have hw := hg.wf ts[i] (List.getElem_mem hil);rw [hit];have test : ∀ s ∈ gQ,fO ts[i] = s ↔ ts[i] = .op s := fun s hs => hw.R9 hs;have step : lF 1 false ts.tail = lF 1 false (ts.drop 1) := by rw [aNt]
  have t0 : i = 0 -> ts[i] = .op "(" := fun e => by
   subst e;have := Xy h0;rw [aKe] at hdr;rw [hdr] at this;exact (List.cons.inj this).1
  walk_at "h";refine bA (fun z => ?_) (fun z => ?_)
  ·have z' := (test _ EY).mp z;walk_at "h";refine bA (fun y => ?_) (fun y => ?_)
   ·have y := (test _ cls).mp y; rw [z'] at y; exact absurd (Tk.op.inj y) (by decide +kernel)
   ·walk_at "h";refine bA (fun y => ?_) (fun y => ?_)
    ·have y := (test _ col).mp y; rw [z'] at y; exact absurd (Tk.op.inj y) (by decide +kernel)
    ·walk_at "h";walk_at "h";refine hJ ⟨rfl,D + 1,f,_,rfl,.inr ⟨by exact Z84,?_⟩⟩;rcases hs with ⟨rfl,rfl,rfl⟩ | ⟨h1,h2⟩
     ·exact step
     ·rw [h2,hdr]; conv => lhs; unfold lF;rw [if_pos z']
  ·have z' : ¬ ts[i] = .op "(" := fun e => z ((test _ EY).mpr e);obtain ⟨h1,h2⟩ : 0 < D /\ lF 1 false ts.tail = lF D f (ts.drop i) := by
    rcases hs with ⟨e,_,_⟩ | h
    ·exact absurd (t0 e) z'
    ·exact h
   rw [hdr] at h2;conv at h2 => rhs; unfold lF
   rw [if_neg z'] at h2;walk_at "h";refine bA (fun y => ?_) (fun y => ?_)
   ·have y' := (test _ cls).mp y;rw [if_pos y'] at h2;walk_at "h";refine bA (fun w => ?_) (fun w => ?_)
    ·have w := (test _ col).mp w; rw [y'] at w; exact absurd (Tk.op.inj w) (by decide +kernel)
    ·walk_at "h";refine jO (fun v => ?_) (fun v => ?_)
     ·have v : D = 1 := by have := eq_of_beq v; exact aJq (Z85 this) (Z86 this)
      rw [if_pos v] at h2;walk_at "h";rw [h2] at q;cases f <;> exact q
     ·have v : D ≠ 1 := fun e => by subst e; cases v
      rw [if_neg v] at h2;walk_at "h";refine hJ ⟨rfl,D - 1,f,some (V.str (fO ts[i])),?_,.inr ⟨Ak h1 v,h2⟩⟩;rw [show ((D : Int) - 1) = ((D - 1 : Nat) : Int) from by exact aKs (Z87 gY) (Z89 (aJo (Z88 h1)))]
   ·have y' : ¬ ts[i] = .op ")" := fun e => y ((test _ cls).mpr e);rw [if_neg y'] at h2;walk_at "h";refine bA (fun w => ?_) (fun w => ?_)
    ·have w' := (test _ col).mp w;walk_at "h";refine jO (fun v => ?_) (fun v => ?_)
     ·have v : D = 1 := by have := eq_of_beq v; exact aJq (aCk this) (aCl this)
      subst v;walk_at "h";walk_at "h";refine hJ ⟨rfl,1,true,_,rfl,.inr ⟨by omega,?_⟩⟩;rw [h2,decide_eq_true w']; simp
     ·have v : D ≠ 1 := fun e => by subst e; cases v
      walk_at "h";refine jO (fun u => by have := eq_of_beq u; exact (aCm this h1).elim) (fun _ => ?_);walk_at "h";refine hJ ⟨rfl,D,f,_,rfl,.inr ⟨by omega,?_⟩⟩;rw [h2,decide_eq_false v]; simp
    ·have w' : ¬ ts[i] = .op ":" := fun e => w ((test _ col).mpr e);walk_at "h";refine jO (fun u => by have := eq_of_beq u; exact (aCm this h1).elim) (fun _ => ?_);walk_at "h";refine hJ ⟨rfl,D,f,_,rfl,.inr ⟨by omega,?_⟩⟩;rw [h2,decide_eq_false w']; simp
 ·rintro _ _ ⟨rfl,D,f,tk,rfl,hs⟩;rw [hell] at hs;have : lF 1 false ts.tail = none := by
   rcases hs with ⟨e,_,_⟩ | ⟨_,h⟩
   ·have := vC h0; exact (iR (UH (Ue U0 (Un 0))<|UH (Ut U1 U0)<|HL.g 0 .f) rfl e this).elim
   ·rw [h,aMn]; rfl
  rw [this] at q;walk_at "h";exact q
end Mine
namespace Mine
variable {G : eX} {F : Facts G} {n : Nat} {E : P}
theorem gA {σ : aW} {a b : Addr} {xs : List V} (h : a ≠ b) : uO (aH σ a xs) b = aH (uO σ b) a xs := by
 funext d; unfold uO aH
 by_cases h1 : d = b
 ·subst h1; simp [Ne.symm h]
 ·simp [h1]
theorem jB {σ : aW} {a b : Addr} {xs : List V} (h : aH σ a xs b = none) : a ≠ b /\ σ b = none := by
 by_cases e : b = a
 ·subst e; rw [aC] at h; exact tD h
 ·rw [iD _ _ e] at h; exact ⟨Ne.symm e,h⟩
noncomputable abbrev Qa : V -> Prop := fun v => ∃ xs,v = .tup xs
theorem WD {r ts : List Tk} (h : r <:+ ts) : r.tail <:+ ts := (aOa r).trans h
theorem yh {r ts : List Tk} (h : r <:+ ts) : Le (some r) (some ts) := .inr ⟨ts,r,rfl,rfl,h⟩
noncomputable def bJ (st : LS) (spec f : P) (bL : LS) : Prop := match st with
 | none => bL = none
 | some ts => match bL with
  | none => spec ts = none
  | some r => r <:+ ts /\ spec ts = f r
theorem bJ.refl {st : LS} {spec : P} : bJ st spec spec st := by
 cases st with
 | none => rfl
 | some ts => exact ⟨aNa _,rfl⟩
theorem bJ.le {st bL : LS} {spec f : P} (h : bJ st spec f bL) : Le bL st := by
 cases st with
 | none => exact .inl h
 | some ts => cases bL with
  | none => exact .none
  | some r => exact yh h.1
theorem bJ.step {st bL dW : LS} {spec f p : P} {g : V -> P} {v : V} (h : bJ st spec f bL) (o : Mt p bL v dW) (hf : ∀ r,bL = some r -> f r = andThen (p r) g) : bJ st spec (g v) dW := by
 cases st with
 | none =>
  have h : bL = none := h;subst h; exact o
 | some ts =>
  cases bL with
  | none => have o : dW = none := o; subst o; exact h
  | some r =>
   have hw : spec ts = andThen (p r) g := h.2.trans (hf r rfl);rcases o with ⟨rfl,e⟩ | ⟨r',rfl,e,hs⟩
   ·show spec ts = none; rw [hw,e]; rfl
   ·exact ⟨hs.trans h.1,by rw [hw,e]; rfl⟩
theorem bJ.congr {st bL : LS} {spec f f' : P} (h : bJ st spec f bL) (hf : ∀ r,bL = some r -> f r = f' r) : bJ st spec f' bL := by
 cases st with
 | none => exact h
 | some ts => cases bL with
  | none => exact h
  | some r => exact ⟨h.1,h.2.trans (hf r rfl)⟩
theorem bJ.Cq {st : LS} {t : Tk} {r : List Tk} {spec f f' : P} (h : bJ st spec f (some (t :: r))) (hf : f (t :: r) = f' r) : bJ st spec f' (some r) := by
 cases st with
 | none => cases h
 | some ts => exact ⟨(aNz _ _).trans h.1,h.2.trans hf⟩
theorem bJ.bad {st bL : LS} {spec f f' : P} (h : bJ st spec f bL) (hf : ∀ r,bL = some r -> f r = none) : bJ st spec f' none := by
 cases st with
 | none => rfl
 | some ts => cases bL with
  | none => exact h
  | some r => exact h.2.trans (hf r rfl)
theorem bJ.need {st bL : LS} {spec f f' : P} {s : Str} (h : bJ st spec f bL) (hf : ∀ r,bL = some r -> f r = if hd r s then f' r.tail else none) : bJ st spec f' (vX bL s) := by
 cases bL with
 | none => exact h.bad fun r e => by exact aK e
 | some r =>
  show bJ st spec f' (if hd r s then some r.tail else none);split
  ·rename_i hh;cases st with
   | none => cases h
   | some ts => exact ⟨WD h.1,by rw [h.2,hf r rfl,if_pos hh]⟩
  ·rename_i hh;exact h.bad fun r' e => by obtain rfl := aJn e; rw [hf r rfl,if_neg hh]
theorem bJ.out {st st' : LS} {spec : P} {v : V} (h : bJ st spec (fun r => some (v,r)) st') : Mt spec st v st' := by
 cases st with
 | none => exact h
 | some ts => cases st' with
  | none => exact .bad h
  | some r => exact .ok h.2 h.1
theorem FJ (hs : eH (bB E)) (UW : ∀ st,cB st <= n -> bZ st -> uI G (F.a .rR) 6 (bB E) Qa st) : ∀ (m : Nat) (st : LS),cB st < m -> cB st <= n -> bZ st -> uI G (F.a .qC) 7 (jF (bB E)) Qa st := by
 intro m;induction m with
 | zero => intro st hm; exact (Fg hm).elim
 | succ m ih =>
  intro st hm hn' hg c σ a Q X hn q;refine aN F .qC rfl rfl (iw hn) fun d hdn hW => ?_;walk_at "h";refine UW st hn' hg _ _ _ _ _ (gP (UH (Ul (Up 0 7) U1)<|UH (Uq (Up 2 1) U1)<|UG (Ul (Up 0 6) U2)) rfl hn hdn) fun v bL o hv => ?_;have R : bJ st (jF (bB E)) (tR (bB E) v) bL := bJ.refl.step o fun r _ => vD hs r;have hn1 := bY R.le;have hl1 := cT R.le;have hg : bZ bL := hg.le R.le;walk_at "h";refine jO (fun h => ?_) (fun h => ?_)
  ·obtain ⟨r,rfl⟩ := cG h;have hg' : bZ (some r) := hg.le .tail;have R2 : bJ st (jF (bB E)) (fun r => andThen (jF (bB E) r) fun t' r' => some (bin "**" v t',r')) (some r) := R.Cq (by unfold tR; exact if_pos (show hd (.op "**" :: r) "**" = true from h));have hn2 := bY (Le.tail (t := .op "**") (r := r));have JG : Yg (some r) + 1 = Yg (some (.op "**" :: r)) := Xx (ts := .op "**" :: r) (k := 0) rfl;have hl2 : cB (some (Tk.op "**" :: r)) = cB (some r) + 1 := rfl;walk_at "h";refine ih (some r) (jX (UH (Ul U0 U1)<|UH (Ut U1 (Up 2 1))<|UH (Uq U0 (Up 3 1))<|UG (Ut U3 U2)) rfl hl1 hm hl2) (w7 hl1 hn' hl2) hg' _ _ _ _ _ (tC (UH (Ue (Up 0 1) U1)<|UH (Ul (Up 2 7) U3)<|UH (Ul U1 U2)<|UH (Uq (Up 4 1) U3)<|UG (Ul (Up 0 7) U4)) rfl JG hn hn1 hdn) fun v' dW o2 hv2 => ?_;have R3 := R2.step o2 fun r _ => rfl;walk_at "h";exact q _ _ R3.out ⟨_,rfl⟩
  ·walk_at "h";exact q v bL (R.congr fun r e => by subst e; exact tW fun z => by rw [show pZ (some r) "**" = true from gU.mpr z] at h; cases h).out hv
theorem WK (hs : eH (bB E)) (hpow : ∀ st,cB st <= n -> bZ st -> uI G (F.a .qC) 7 (jF (bB E)) Qa st) (st : LS) (hn' : cB st <= n) (hg : bZ st) : uI G (F.a .tK) 8 (fG (bB E)) Qa st := by
 intro c σ a Q X hn q;have hps := pA hs;refine aN F .tK rfl rfl (iz hn) fun d hdn hW => ?_;walk_at "h";refine hpow st hn' hg _ _ _ _ _ (s7 hn hdn) fun v bL o hv => ?_;have R : bJ st (fG (bB E)) (eV mF (jF (bB E)) v) bL := bJ.refl.step o fun r _ => rfl;walk_at "p";walk_at "a";refine cO (ι := LS) (fun s' C' => ∀ (tree : V) (sg : Option V),bJ st (fG (bB E)) (eV mF (jF (bB E)) tree) s' -> Qa tree -> C' [some (V.mut a),some tree,sg] (aH σ a (cU s'))) (fun s' => cB s') bL (fun C' k => k v _ R hv) (fun _ x0 x1 x2 x3 C' k => k x0 x1 x2 x3) ?_;intro J hJ s' tree sg R ht;have hg := hg.le R.le;have hn1 := bY R.le;have hl1 := cT R.le;walk_at "h";refine jO (fun h => ?_) (fun h => ?_)
 ·have go : ∀ o r,s' = some (.op o :: r) -> mF o = true -> True := fun _ _ _ _ => trivial;obtain ⟨o,r,rfl,hm⟩ : ∃ o r,s' = some (.op o :: r) /\ mF o = true := by
   rcases aKn.mp h with z | z <;> obtain ⟨r,rfl⟩ := cG z <;> exact ⟨_,r,rfl,by decide +kernel⟩
  have hg' : bZ (some r) := hg.le .tail;have R2 : bJ st (fG (bB E)) (fun r => andThen (jF (bB E) r) fun t r' => eV mF (jF (bB E)) (bin o tree t) r') (some r) := R.Cq (iZ hps rfl hm);have hn2 := bY (Le.tail (t := .op o) (r := r));have hl2 : cB (some (Tk.op o :: r)) = cB (some r) + 1 := rfl;walk_at "h";refine hpow (some r) (w7 hl1 hn' hl2) hg' _ _ _ _ _ (tC (UH (Ul (Up 0 8) U1)<|UH (Ul U2 U0)<|UH (Ul U3 U2)<|UH (Uq (Up 4 1) U1)<|UG (Ul (Up 3 7) U4)) rfl hn hn1 hn2 hdn) fun v' dW o2 hv2 => ?_;have R3 := R2.step o2 fun r _ => rfl;have hl3 := cT o2.le;walk_at "h";exact ⟨dW,by dsimp only; exact Ze hl3 hl2,hJ _ _ _ R3 ⟨_,rfl⟩⟩
 ·walk_at "h";refine q tree s' (R.congr fun r e => by
   subst e;refine fK fun o ho => ?_;cases hm : mF o
   ·rfl
   ·have : pZ (some r) o = true := gU.mpr ho;unfold mF at hm;rcases aKn.mp hm with z | z <;> rw [decide_eq_true_eq] at z <;> subst z <;> rw [this] at h <;> simp at h).out ht
end Mine
namespace Mine
variable {G : eX} {F : Facts G} {n : Nat} {E : P}
theorem bw {st : LS} (h : (pZ st "+" || pZ st "-") = true) : ∃ o r,st = some (.op o :: r) /\ lH o = true /\ fZ (.op o :: r) = some o := by
 cases hp : pZ st "+"
 ·rw [hp,Bool.false_or] at h;obtain ⟨r,rfl⟩ := cG h;refine ⟨"-",r,rfl,by decide +kernel,?_⟩;unfold fZ;rw [show hd (.op "-" :: r) "+" = false from hp,show hd (.op "-" :: r) "-" = true from h]; rfl
 ·obtain ⟨r,rfl⟩ := cG hp;refine ⟨"+",r,rfl,by decide +kernel,?_⟩;unfold fZ;rw [show hd (.op "+" :: r) "+" = true from hp]; rfl
theorem bx {r : List Tk} (h : (pZ (some r) "+" || pZ (some r) "-") = false) : fZ r = none /\ ∀ o,cA r = some o -> lH o = false := by
 obtain ⟨h1,h2⟩ := aLt.mp h;refine ⟨?_,fun o ho => ?_⟩
 ·unfold fZ; rw [show hd r "+" = false from h1,show hd r "-" = false from h2]; rfl
 ·cases hm : lH o
  ·rfl
  ·have : hd r o = true := gU.mpr ho;unfold lH at hm;rcases aKn.mp hm with z | z <;> rw [decide_eq_true_eq] at z <;> subst z
   ·rw [show pZ (some r) "+" = true from this] at h1; cases h1
   ·rw [show pZ (some r) "-" = true from this] at h2; cases h2
theorem S5 (hs : eH (bB E)) (WM : ∀ st,cB st <= n -> bZ st -> uI G (F.a .tK) 8 (fG (bB E)) Qa st) (st : LS) (hn' : cB st <= n) (hg : bZ st) : uI G (F.a .Aw) 9 (nT (bB E)) Qa st := by
 intro c σ a Q X hn q;have hps := mD hs;refine aN F .Aw rfl rfl (aBk hn) fun d hdn hW => ?_;walk_at "a";refine bH (fun C' => ∀ (bL : LS) (tree : V) (sg : Option V),bJ st (nT (bB E)) (eV lH (fG (bB E)) tree) bL -> Qa tree -> C' [some (V.mut a),sg,some tree] (aH σ a (cU bL))) ?_ ?_
 ·intro R' hR;walk_at "h";refine jO (fun h => ?_) (fun h => ?_)
  ·obtain ⟨o,r,rfl,hm,hsg⟩ := bw h;have hg' : bZ (some r) := hg.le .tail;have R2 : bJ (some (.op o :: r)) (nT (bB E)) (fun r => andThen (fG (bB E) r) fun t r' => eV lH (fG (bB E)) (un o t) r') (some r) := bJ.refl.Cq (by
    unfold nT iY; rw [hsg]; dsimp only; rw [aM]; rfl)
   have hn2 := bY (Le.tail (t := .op o) (r := r));have hl2 : cB (some (Tk.op o :: r)) = cB (some r) + 1 := rfl;walk_at "h";refine WM (some r) (gP (UH (Ul U0 U1)<|UH (Uq U0 (Up 2 1))<|UG (Ul U2 U1)) rfl hn' hl2) hg' _ _ _ _ _ (jX (UH (Ul (Up 0 9) U1)<|UH (Ul U2 U0)<|UH (Uq (Up 3 1) U1)<|UG (Ul (Up 2 8) U3)) rfl hn hn2 hdn) fun v bL o1 hv => ?_;walk_at "h";exact hR bL _ _ (R2.step (g := fun t => eV lH (fG (bB E)) (un o t)) o1 fun r _ => rfl) ⟨_,rfl⟩
  ·walk_at "h";refine WM st hn' hg _ _ _ _ _ (aBl hn hdn) fun v bL o1 hv => ?_;walk_at "h";exact hR bL _ _ (bJ.refl.step o1 fun r e => by subst e; unfold nT iY; rw [(bx h).1]) hv
 ·intro bL S6 sg R aHo;walk_at "a";refine cO (ι := LS) (fun s' C' => ∀ (tree : V) (sg : Option V),bJ st (nT (bB E)) (eV lH (fG (bB E)) tree) s' -> Qa tree -> C' [some (V.mut a),sg,some tree] (aH σ a (cU s'))) (fun s' => cB s') bL (fun C' k => k S6 _ R aHo) (fun _ x0 x1 x2 x3 C' k => k x0 x1 x2 x3) ?_;intro J hJ s' tree sg R ht;have hg := hg.le R.le;have hn1 := bY R.le;have hl1 := cT R.le;walk_at "h";refine jO (fun h => ?_) (fun h => ?_)
  ·obtain ⟨o,r,rfl,hm,_⟩ := bw h;have hg' : bZ (some r) := hg.le .tail;have R2 : bJ st (nT (bB E)) (fun r => andThen (fG (bB E) r) fun t r' => eV lH (fG (bB E)) (bin o tree t) r') (some r) := R.Cq (iZ hps rfl hm);have hn2 := bY (Le.tail (t := .op o) (r := r));have hl2 : cB (some (Tk.op o :: r)) = cB (some r) + 1 := rfl;walk_at "h";refine WM (some r) (w7 hl1 hn' hl2) hg' _ _ _ _ _ (tC (UH (Ul (Up 0 9) U1)<|UH (Ul U2 U0)<|UH (Ul U3 U2)<|UH (Uq (Up 4 1) U1)<|UG (Ul (Up 3 8) U4)) rfl hn hn1 hn2 hdn) fun v' dW o2 _ => ?_;have R3 := R2.step o2 fun r _ => rfl;have hl3 := cT o2.le;walk_at "h";exact ⟨dW,by dsimp only; exact Ze hl3 hl2,hJ _ _ _ R3 ⟨_,rfl⟩⟩
  ·walk_at "h";exact q tree s' (R.congr fun r e => by subst e; exact fK (bx h).2).out ht
theorem WQ (hs : eH (bB E)) (hsum : ∀ st,cB st <= n -> bZ st -> uI G (F.a .Aw) 9 (nT (bB E)) Qa st) (st : LS) (hn' : cB st <= n) (hg : bZ st) : uI G (F.a .fU) 10 (sG (bB E)) Qa st := by
 intro c σ a Q X hn q;have hps := qO hs;refine aN F .fU rfl rfl (aBn hn) fun d hdn hW => ?_;walk_at "h";refine hsum st hn' hg _ _ _ _ _ (gP (UH (Ul (Up 0 10) U1)<|UH (Uq (Up 2 1) U1)<|UG (Ul (Up 0 9) U2)) rfl hn hdn) fun v bL o hv => ?_;have R : bJ st (sG (bB E)) (eV rZ (nT (bB E)) v) bL := bJ.refl.step o fun r _ => rfl;walk_at "p";walk_at "a";refine cO (ι := LS) (fun s' C' => ∀ (tree : V),bJ st (sG (bB E)) (eV rZ (nT (bB E)) tree) s' -> Qa tree -> C' [some (V.mut a),some tree] (aH σ a (cU s'))) (fun s' => cB s') bL (fun C' k => k v R hv) (fun _ x0 x1 x2 C' k => k x0 x1 x2) ?_;intro J hJ s' tree R ht;have hg := hg.le R.le;have hn1 := bY R.le;have hl1 := cT R.le;walk_at "h";refine jO (fun h => ?_) (fun h => ?_)
 ·obtain ⟨r,rfl⟩ := cG h;have hg' : bZ (some r) := hg.le .tail;have R2 : bJ st (sG (bB E)) (fun r => andThen (nT (bB E) r) fun t r' => eV rZ (nT (bB E)) (bin "//" tree t) r') (some r) := R.Cq (iZ hps rfl (by decide +kernel));have hn2 := bY (Le.tail (t := .op "//") (r := r));have hl2 : cB (some (Tk.op "//" :: r)) = cB (some r) + 1 := rfl;walk_at "h";refine hsum (some r) (w7 hl1 hn' hl2) hg' _ _ _ _ _ (tC (UH (Ul (Up 0 10) U1)<|UH (Ul U2 U0)<|UH (Ul U3 U2)<|UH (Uq (Up 4 1) U1)<|UG (Ul (Up 3 9) U4)) rfl hn hn1 hn2 hdn) fun v' dW o2 _ => ?_;have R3 := R2.step o2 fun r _ => rfl;have hl3 := cT o2.le;walk_at "h";exact ⟨dW,by dsimp only; exact Ze hl3 hl2,hJ _ _ R3 ⟨_,rfl⟩⟩
 ·walk_at "h";refine q tree s' (R.congr fun r e => by
   subst e;refine fK fun o ho => ?_;cases hm : rZ o
   ·rfl
   ·have : hd r o = true := gU.mpr ho;unfold rZ at hm;rw [decide_eq_true_eq] at hm; subst hm;rw [show pZ (some r) "//" = true from this] at h; cases h).out ht
end Mine
namespace Mine
variable {G : eX} {F : Facts G} {n : Nat} {E : P}
noncomputable abbrev Yj : V -> Prop := fun v => ∃ l,v = .lst l
noncomputable abbrev nO (E : P) (acc : List V) : P := fun r => if hd r "," then eN E acc r.tail else some (.lst acc,r)
theorem WR (hs : eH E) (hE : ∀ st,cB st < n -> bZ st -> uI G (F.a .fU) 10 E Qa st) (st : LS) (hn' : cB st <= n) (hg : bZ st) (h0 : pZ st "(" = true) : uI G (F.a .Gw) 4 (pB E) Yj st := by
 intro c σ a Q X hn q;obtain ⟨r,rfl⟩ := cG h0;have hg' : bZ (some r) := hg.le .tail;have hop : Yg (some r) + 10 = Yg (some (.op "(" :: r)) := yE (ts := .op "(" :: r) (k := 0) rfl;have hl2 : cB (some (Tk.op "(" :: r)) = cB (some r) + 1 := rfl;have R : bJ (some (.op "(" :: r)) (pB E) (fun r => if hd r ")" then some (.lst [],r.tail) else gM (eN E []) r) (some r) := bJ.refl.Cq rfl;refine aN F .Gw rfl rfl (iR (UH (Ul (Up 0 4) U1)<|UG (Ul (Un 1) U1)) rfl hn) fun d hdn hW => ?_;walk_at "p";have hg := hg';walk_at "h";refine jO (fun h => ?_) (fun h => ?_)
 ·obtain ⟨r2,e⟩ := cG h;obtain rfl := aJn e;have hg' : bZ (some r2) := hg.le .tail;have R2 := R.Cq (f' := fun r => some (.lst [],r)) (if_pos (show hd (.op ")" :: r2) ")" = true from h));walk_at "h";walk_at "h";exact q _ _ R2.out ⟨_,rfl⟩
 ·have R2 := R.congr (f' := gM (eN E [])) fun r' e => by obtain rfl := aJn e; exact if_neg (by rw [show hd r ")" = false from h]; decide)
  have hb := hg.Yh;walk_at "p";walk_at "p";refine hE (some r) (kh hn' hl2) hg _ _ _ _ _ (jX (UH (Ue (Up 0 10) U1)<|UH (Ul (Up 1 4) U2)<|UH (Uq (Up 3 1) U2)<|UG (Ul (Up 0 10) U3)) rfl hop hn hdn) fun v bL o _ => ?_;have R3 := R2.step (g := fun v => fun r => andThen (nO E [v] r) fun t r => if hd r ")" then some (t,r.tail) else none) o fun r' e => by
   unfold gM; rw [bV hs,aM]; rfl
  walk_at "p";intro b hb0;obtain ⟨hab,hbn⟩ := jB hb0;have comm : ∀ (l e : List V),aH (aH σ a e) b l = aH (aH σ b l) a e := fun l e => dI _ _ _ hab;rw [comm];walk_at "p";have hll : cB (some r) = r.length := rfl;have hrl := hg.len;walk_at "a";refine bH (fun C' => ∀ (s' : LS) (acc : List V),bJ (some (.op "(" :: r)) (pB E) (fun r => if hd r ")" then some (.lst acc,r.tail) else none) s' -> C' [some (V.mut a),some (V.mut b)] (aH (aH σ b acc) a (cU s'))) ?_ ?_
  ·intro R' hR;walk_at "a";refine cO (ι := LS) (fun s' C' => ∀ (acc : List V),bJ (some (.op "(" :: r)) (pB E) (fun r => andThen (nO E acc r) fun t r => if hd r ")" then some (t,r.tail) else none) s' -> acc.length + cB s' <= r.length + 1 -> Le s' (some r) -> C' [some (V.mut a),some (V.mut b)] (aH (aH σ b acc) a (cU s'))) (fun s' => cB s') bL (fun C' k => k [v] R3 (by have := cT o.le; simp; exact gP (UH (Ue U0 U1)<|UH (Ul U2 U0)<|UG (Ul (.a (Un 1) U2) (Up 1 1))) rfl hll this) o.le) (fun _ x0 x1 x2 x3 C' k => k x0 x1 x2 x3) ?_;intro J hJ s' acc R hacc hle;have hg := (show bZ (some (Tk.op "(" :: r)) from ‹bZ (some (Tk.op "(" :: r))›).le R.le;have hn1 := bY hle;have hl1 := cT hle;walk_at "h";refine jO (fun h => ?_) (fun h => ?_)
   ·obtain ⟨r2,rfl⟩ := cG h;have hg' : bZ (some r2) := hg.le .tail;have R2 := R.Cq (f' := fun r => andThen (andThen (E r) (fun t r => nO E (acc ++ [t]) r)) fun t r => if hd r ")" then some (t,r.tail) else none) (by
     dsimp only [nO]; rw [if_pos (show hd (.op "," :: r2) "," = true from h),aLa,bV hs])
    have hn2 := bY (Le.tail (t := .op ",") (r := r2));have hl2 : cB (some (Tk.op "," :: r2)) = cB (some r2) + 1 := rfl;walk_at "h";walk_at "h";refine ⟨b,rfl,⟨acc,by rw [iD _ _ (Ne.symm hab)]; exact aC _ _ _⟩,?_⟩;walk_at "h";refine hE (some r2) (tC (UH (Ul U0 U1)<|UH (Ul U2 U3)<|UH (Uq U0 (Up 3 1))<|UH (Uq U2 (Up 4 1))<|UG (Ut U4 U1)) rfl hn' hl1 (by assumption) (by assumption)) hg' _ _ _ _ _ (Jt (UH (Ue (Up 0 10) U1)<|UH (Ul (Up 1 4) U2)<|UH (Ul U3 U0)<|UH (Ul U4 U3)<|UH (Uq (Up 5 1) U2)<|UG (Ul (Up 4 10) U5)) rfl hop hn hn1 hn2 hdn) fun v' dW o2 _ => ?_;have R3 := R2.step (g := fun v => fun r => andThen (nO E (acc ++ [v]) r) fun t r => if hd r ")" then some (t,r.tail) else none) o2 fun r' e => by rw [aM]
    have hl3 := cT o2.le;refine ⟨acc,by rw [iD _ _ (Ne.symm hab)]; exact aC _ _ _,by rw [sizeLine_eq]; exact gP (UH (Ul (.a U0 U1) (Up 2 1))<|UH (Ut U2 (Un 1000))<|UG (Ut U0 (Un 16777216))) rfl hacc hrl,?_⟩;rw [dI _ _ _ hab,bI];walk_at "h";exact ⟨dW,by dsimp only; exact Ze hl3 hl2,hJ _ _ R3 (by rw [aJt,aJu]; exact tC (UH (Ul (.a U0 U1) (Up 2 1))<|UH (Ul U3 U4)<|UH (Uq U1 (Up 4 1))<|UG (Ul (.a (Up 0 1) U3) (Up 2 1))) rfl hacc hl3 hl2) (o2.le.trans (Le.tail.trans hle))⟩
   ·walk_at "h";refine hR s' acc (R.congr fun r' e => ?_);subst e;dsimp only [nO];rw [if_neg (by rw [show hd r' "," = false from h]; decide),aB]
  ·intro s' acc R;have hg := (show bZ (some (Tk.op "(" :: r)) from ‹bZ (some (Tk.op "(" :: r))›).le R.le;walk_at "h";refine jP F (gP (UH (Ul (Up 0 4) U1)<|UH (Uq (Up 2 1) U1)<|UG (Ul (Un 2) U2)) rfl hn hdn) hg (by decide +kernel) ?_;have R2 := R.need (f' := fun r => some (.lst acc,r)) fun r' e => rfl;refine ⟨b,acc,rfl,(by rw [iD _ _ (Ne.symm hab)]; exact aC _ _ _),?_⟩;rw [gA hab,bU hbn];walk_at "h";exact q _ _ R2.out ⟨_,rfl⟩
end Mine
namespace Mine
variable {G : eX} {F : Facts G} {n : Nat} {E : P}
theorem aAg {st : LS} {r : List Tk} {s : Str} (k : Le (some (.op s :: r)) st) : cB (some r) < cB st := by
 have := cT k;have e : cB (some (Tk.op s :: r)) = cB (some r) + 1 := rfl;exact kh this e
theorem Ov {ts : List Tk} (h : ∀ s r,ts ≠ .name s :: r) : iB E ts = none := by
 unfold iB;split
 ·exact absurd rfl (h _ _)
 ·rfl
theorem Mg (hs : eH E) (hE : ∀ st,cB st < n -> bZ st -> uI G (F.a .fU) 10 E Qa st) (st : LS) (hn' : cB st <= n) (hg : bZ st) : uI G (F.a .xV) 5 (iB E) Place st := by
 intro c σ a Q X hn q;have hst := hg;refine aN F .xV rfl rfl (iR (UH (Ul (Up 0 5) U1)<|UG (Ul (Un 1) U1)) rfl hn) fun d hdn hW => ?_;walk_at "h";refine Gi F (kj hn hdn) hg fun s bL e1 e2 hle => ?_;have R : bJ st (iB E) (fun r => if hd r "(" then jA E s r else some (TY s,r)) bL := by
  cases st with
  | none => exact e2 fun _ _ e => by exact aK e
  | some ts =>
   by_cases h : ∃ s' r,ts = .name s' :: r
   ·obtain ⟨s',r,rfl⟩ := h;obtain ⟨rfl,rfl⟩ := e1 s' r rfl;exact bJ.refl.Cq rfl
   ·have h' : ∀ s' r,ts ≠ .name s' :: r := fun s' r e => h ⟨s',r,e⟩;have := e2 fun s' r e => h' s' r (aJn e);subst this;exact Ov h'
 clear e1 e2;have hg : bZ bL := hst.le hle;have hn1 := bY hle;have hl1 := cT hle;walk_at "p";walk_at "a";refine bH (fun C' => ∀ (s' : LS) (tree : V) (way : Option V),Named tree -> bJ st (iB E) (fun r => if hd r "(" then wO E tree r else some (tree,r)) s' -> C' [some (V.mut a),some (V.str s),some tree,way,none,none] (aH σ a (cU s'))) ?_ ?_
 ·intro R' hR;walk_at "h";refine jO (fun h => ?_) (fun h => ?_)
  ·obtain ⟨r,rfl⟩ := cG h;have hc : hd (.op "(" :: r) "(" = true := h;have R := R.congr (f' := jA E s) fun r' e => by obtain rfl := aJn e; exact if_pos hc
   walk_at "h";refine VR F (aCn hn hdn) hg hc ?_;rw [aLa];have way : ∀ o,lF 1 false r = o -> jA E s (.op "(" :: r) = (match o with
     | none => none
     | some true => wO E (TY s) (.op "(" :: r)
     | some false => andThen (pB E (.op "(" :: r)) fun rows r' => if hd r' "(" then wO E (.tup [.str "ref",.str s,rows]) r' else some (.tup [.str "ref",.str s,rows],r')) := fun o e => by
    subst e; rfl
   cases hw : lF 1 false r with
   | none =>
    have R := R.bad (f' := fun r => if hd r "(" then wO E (TY s) r else some (TY s,r)) fun r' e => by obtain rfl := aJn e; exact way _ hw
    walk_at "h";walk_at "h";refine oA F (aCn hn hdn) hg ?_;walk_at "h";walk_at "h";exact hR none _ _ (.nm s) R
   | some b =>
    cases b
    ·have R := R.congr (f' := fun r => andThen (pB E r) fun rows r' => if hd r' "(" then wO E (.tup [.str "ref",.str s,rows]) r' else some (.tup [.str "ref",.str s,rows],r')) fun r' e => by obtain rfl := aJn e; exact way _ hw
     walk_at "h";walk_at "h";walk_at "h";refine WR hs hE _ (gP (UH (Ul U0 U1)<|UH (Ul U1 U2)<|UG (Ul U0 U2)) rfl hl1 hn') hg h _ _ _ _ _ (jX (UH (Ul (Up 0 5) U1)<|UH (Ul U2 U0)<|UH (Uq (Up 3 1) U1)<|UG (Ul (Up 2 4) U3)) rfl hn hn1 hdn) fun rows dW o hl => ?_;obtain ⟨l,rfl⟩ := hl;walk_at "h";exact hR dW _ _ (.ref s l) (R.step (g := fun rows r' => if hd r' "(" then wO E (.tup [.str "ref",.str s,rows]) r' else some (.tup [.str "ref",.str s,rows],r')) o fun r' e => rfl)
    ·have R := R.congr (f' := fun r => if hd r "(" then wO E (TY s) r else some (TY s,r)) fun r' e => by obtain rfl := aJn e; rw [if_pos hc]; exact way _ hw
     walk_at "h";walk_at "h";walk_at "h";exact hR _ _ _ (.nm s) R
  ·walk_at "h";exact hR bL _ _ (.nm s) (R.congr fun r e => by
    have hf : ¬ hd r "(" = true := R8 e h;rw [if_neg hf,if_neg hf])
 ·intro s' tree way hnm' R;have hg : bZ s' := hst.le R.le;walk_at "p";walk_at "h";refine jO (fun h => ?_) (fun h => ?_)
  ·obtain ⟨r,rfl⟩ := cG h;have hg' : bZ (some r) := hg.le .tail;have hop : Yg (some r) + 10 = Yg (some (.op "(" :: r)) := yE (ts := .op "(" :: r) (k := 0) rfl;have hn2 := bY R.le;have hl2 := aAg R.le;have R := R.Cq (f' := fun r => andThen (mH ":" E r) fun low r => if hd r ":" then andThen (mH ")" E r.tail) fun high r' => if hd r' ")" then some (.tup [.str "sub",tree,low,high],r'.tail) else none else none) (by
    exact (if_pos (show hd (.op "(" :: r) "(" = true from h)).trans rfl)
   walk_at "p";have opt : ∀ (s : Str) (cur : LS),pZ cur s = true -> Mt (mH s E) cur .none cur := fun s cur hh => by
    cases cur with
    | none => rfl
    | some ts => exact .ok (by unfold mH; rw [if_pos (show hd ts s = true from hh)]) (aNa _)
   have aGs : ∀ (s : Str) (cur st' : LS) (v : V),pZ cur s = false -> Mt E cur v st' -> Mt (mH s E) cur v st' := fun s cur st' v hh o => by
    cases cur with
    | none => exact o
    | some ts =>
     have e : mH s E ts = E ts := by unfold mH; rw [if_neg (by rw [show hd ts s = false from hh]; decide)]
     show (_ /\ mH s E ts = none) \/ ∃ r,_ /\ mH s E ts = _ /\ _;rw [e]; exact o
   clear hg;have hg := hg';walk_at "a";refine bH (fun C' => ∀ (s' : LS) (low : V),Mt (mH ":" E) (some r) low s' -> C' [some (V.mut a),some (V.str s),some tree,way,some low,none] (aH σ a (cU s'))) ?_ ?_
   ·intro R' hR;walk_at "h";refine jO (fun hh => ?_) (fun hh => ?_)
    ·walk_at "h";exact hR _ _ (opt _ _ hh)
    ·walk_at "h";refine hE _ (gP (UH (Ul U0 U1)<|UH (Ut U2 U0)<|UG (Ut U2 U1)) rfl hn' hl2) hg _ _ _ _ _ (tC (UH (Ue (Up 0 10) U1)<|UH (Ul (Up 2 5) U3)<|UH (Ul U1 U2)<|UH (Uq (Up 4 1) U3)<|UG (Ul (Up 0 10) U4)) rfl hop hn hn2 hdn) fun v dW o _ => ?_;walk_at "h";exact hR _ _ (aGs _ _ _ _ hh o)
   ·intro cN low o;have R := R.step (g := fun low r => if hd r ":" then andThen (mH ")" E r.tail) fun high r' => if hd r' ")" then some (.tup [.str "sub",tree,low,high],r'.tail) else none else none) o fun r' e => rfl;have WW := hg.le o.le;clear hg;have hg := WW;walk_at "p";refine jP F (kj hn hdn) hg (by decide +kernel) ?_;have R := R.need (f' := fun r => andThen (mH ")" E r) fun high r' => if hd r' ")" then some (.tup [.str "sub",tree,low,high],r'.tail) else none) fun r' e => rfl;have hle := (qR (st := cN) (s := ":")).trans o.le;have cg : bZ (vX cN ":") := hg'.le hle;have yj := bY hle;have yP := cT hle;generalize vX cN ":" = xQ at R hle cg yj yP;clear hg;have hg := cg;walk_at "a";refine bH (fun C' => ∀ (s' : LS) (high : V),Mt (mH ")" E) xQ high s' -> C' [some (V.mut a),some (V.str s),some tree,way,some low,some high] (aH σ a (cU s'))) ?_ ?_
    ·intro R' hR;walk_at "h";refine jO (fun hh => ?_) (fun hh => ?_)
     ·walk_at "h";exact hR _ _ (opt _ _ hh)
     ·walk_at "h";refine hE _ (jX (UH (Ul U0 U1)<|UH (Ul U2 U3)<|UH (Ut U1 U2)<|UG (Ut U0 U3)) rfl yP hn' hl2) hg _ _ _ _ _ (Jt (UH (Ue (Up 0 10) U1)<|UH (Ul (Up 2 5) U3)<|UH (Ul U1 U2)<|UH (Ul U4 U0)<|UH (Uq (Up 5 1) U3)<|UG (Ul (Up 4 10) U5)) rfl hop hn hn2 yj hdn) fun v dW o _ => ?_;walk_at "h";exact hR _ _ (aGs _ _ _ _ hh o)
    ·intro Px high o;have R := R.step (g := fun high r' => if hd r' ")" then some (.tup [.str "sub",tree,low,high],r'.tail) else none) o fun r' e => rfl;have aGt := hg.le o.le;clear hg;have hg := aGt;walk_at "h";refine jP F (kj hn hdn) hg (by decide +kernel) ?_;have R := R.need (f' := fun r => some (.tup [.str "sub",tree,low,high],r)) fun r' e => rfl;walk_at "h";exact q _ _ R.out (.sub hnm')
  ·walk_at "h";exact q _ _ (R.congr fun r e => by
    exact if_neg (R8 e h)).out (.base hnm')
end Mine
namespace Mine
variable {G : eX} {F : Facts G} {n : Nat} {E : P}
theorem FN {st st' : LS} {v : V} (h : yg st = false \/ st = some []) (h0 : pZ st "(" = false) (o : Mt (iB E) st v st') : Mt (bB E) st v st' := by
 cases st with
 | none => exact o
 | some ts =>
  have e : bB E ts = iB E ts := by
   cases ts with
   | nil => rfl
   | cons t r =>
    cases t with
    | name s => rfl
    | num d n => rcases h with h | h <;> cases h
    | op x =>
     show (if x = "(" then dM E (.op x :: r) else none) = none;rw [if_neg];have : decide (x = "(") = false := h0;simpa using this
  show (_ /\ bB E ts = none) \/ ∃ r,_ /\ bB E ts = _ /\ _;rw [e]; exact o
@[reducible] noncomputable def S7 : LS -> Bool
 | some (.num _ _ :: _) => true
 | _ => false
theorem Mh {st : LS} (h : S7 st = true) : ∃ d m r,st = some (.num d m :: r) := by
 match st,h with
 | some (.num d' m :: r),_ => exact ⟨d',m,r,rfl⟩
 | some (.name _ :: r),h => cases h
 | some (.op _ :: r),h => cases h
 | some [],h => cases h
 | none,h => cases h
theorem FP {st : LS} (h : S7 st = false) : yg st = false \/ st = some [] := by
 match st,h with
 | some (.num d' m :: r),h => cases h
 | some (.name _ :: r),h => exact .inl rfl
 | some (.op _ :: r),h => exact .inl rfl
 | some [],h => exact .inr rfl
 | none,h => exact .inl rfl
theorem Td (hs : eH E) (hE : ∀ st,cB st < n -> bZ st -> uI G (F.a .fU) 10 E Qa st) (st : LS) (hn' : cB st <= n) (hg : bZ st) : uI G (F.a .rR) 6 (bB E) Qa st := by
 intro c σ a Q X hn q;refine aN F .rR rfl rfl (Z99 hn) fun d hdn hW => ?_;walk_at "a";refine zE (S7 st) ?_ ?_
 ·walk_at "h";refine Dw F (JN hn hdn) hg ?_;walk_at "h";refine TP (Br hg) ?_;cases st with
  | none => first | exact Vx ⟨rfl,rfl⟩ | exact Lh ⟨rfl,rfl⟩
  | some ts =>
   cases ts with
   | nil =>
    walk_at "h";walk_at "h";refine oN (xs := cU (some [])) (aC _ _ _) aY ?_;walk_at "h";exact ⟨rfl,rfl⟩
   | cons t r =>
    cases t with
    | name s => first | exact Vx ⟨rfl,rfl⟩ | exact Lh ⟨rfl,rfl⟩
    | op s => first | exact Vx ⟨rfl,rfl⟩ | exact Lh ⟨rfl,rfl⟩
    | num d m =>
     walk_at "h";walk_at "h";refine oN (xs := cU (some (.num d m :: r))) (aC _ _ _) aY ?_;walk_at "h";walk_at "h";exact ⟨rfl,rfl⟩
 ·refine jO (fun h => ?_) (fun h => ?_)
  ·obtain ⟨d',m,r,rfl⟩ := Mh h;have hg' : bZ (some r) := hg.le .tail;have hw := hg.wf _ (.head _);cases hw with
   | num g1 g2 g3 g4 g5 g6 g7 =>
   walk_at "h";refine Xp g6 g7 ?_;walk_at "h";exact q _ (some r) (.ok rfl (aNz _ _)) ⟨_,rfl⟩
  ·have hd' := FP h;walk_at "h";cases h0 : pZ st "("
   ·walk_at "h";refine Mg hs hE st hn' hg _ _ _ _ _ (gP (UH (Ul (Up 0 6) U1)<|UH (Uq (Up 2 1) U1)<|UG (Ul (Up 0 5) U2)) rfl hn hdn) fun v st' o hp => ?_;walk_at "h";exact q v st' (FN hd' h0 o) hp.tup
   ·obtain ⟨r,rfl⟩ := cG h0;have JF : xK (.op "(" :: r) := hg;have e0 : bB E (.op "(" :: r) = dM E (.op "(" :: r) := by
     show (if ("(" : Str) = "(" then dM E (.op "(" :: r) else none) = _;exact if_pos rfl
    walk_at "h";refine Tc F (aCo hn hdn) JF h0 (fun v r' e hsf => ?_) (fun e => ?_)
    ·have eb : bB E (.op "(" :: r) = some (v,r') := by rw [e0]; unfold dM; rw [e]
     obtain ⟨xs,rfl⟩ : ∃ xs,v = .tup xs := by
      obtain ⟨t,r1,h1,h2⟩ := aD e;split at h2
      ·obtain ⟨t',r2,h3,h4⟩ := aD h2;split at h4
       ·obtain ⟨rfl,rfl⟩ := aZ h4; exact ⟨_,rfl⟩
       ·exact aK h4
      ·exact aK h2
     walk_at "h";exact q _ (some r') (.ok eb hsf) ⟨_,rfl⟩
    ·have eb : ∀ tr,bB E (.op "(" :: tr) = bB E (.op "(" :: tr) := fun _ => rfl;have R : bJ (some (.op "(" :: r)) (bB E) (gM E) (some r) := bJ.refl.Cq (by rw [e0]; unfold dM; rw [e]; rfl);have hg' : bZ (some r) := hg.le .tail;have hop : Yg (some r) + 10 = Yg (some (.op "(" :: r)) := yE (ts := .op "(" :: r) (k := 0) rfl;have hl2 : cB (some (Tk.op "(" :: r)) = cB (some r) + 1 := rfl;walk_at "h";refine hE (some r) (kh hn' hl2) hg' _ _ _ _ _ (jX (UH (Ue (Up 0 10) U1)<|UH (Ul (Up 1 6) U2)<|UH (Uq (Up 3 1) U2)<|UG (Ul (Up 0 10) U3)) rfl hop hn hdn) fun v dW o hv => ?_;have R := R.step (g := fun t r => if hd r ")" then some (t,r.tail) else none) o fun r' e => rfl;have Uk := hg'.le o.le;walk_at "h";refine jP F (aCo hn hdn) Uk (by decide +kernel) ?_;have R := R.need (f' := fun r => some (v,r)) fun r' e => rfl;walk_at "h";exact q _ _ R.out hv
theorem FQ (F : Facts G) : ∀ (n : Nat) (st : LS),cB st < n -> bZ st -> uI G (F.a .fU) 10 (gE n) Qa st := by
 intro n;induction n with
 | zero => intro st h; exact (Fg h).elim
 | succ n ih =>
  intro st h hg;have hs := dZ n;have hps := tZ hs;exact WQ hps (fun st h hg => S5 hps (fun st h hg => WK hps (fun st h hg => FJ hps (fun st h hg => Td hs ih st h hg) _ st (aKa _) h hg) st h hg) st h hg) st (jf h) hg
end Mine
namespace Mine
variable {G : eX} {N : Nat}
theorem xM (F : Facts G) (st : LS) (hg : bZ st) : uI G (F.a .fU) 10 cC Qa st := by
 refine FQ F 1000 st ?_ hg;cases st with
 | none => show 0 < 1000; decide
 | some ts => exact hg.len
theorem Mi (F : Facts G) (st : LS) (hg : bZ st) : uI G (F.a .xW) 11 (jL cC) Place st := by
 intro c σ a Q X hn q;have hst := hg;have Sq : ¬ (("name" : Str) = "sub") := by decide +kernel
 have Xz : ¬ (("ref" : Str) = "sub") := by decide +kernel
 have Iw : ¬ (("name" : Str) = "ref") := by decide +kernel
 have hlen : cB st <= 1000 := by
  cases st with
  | none => exact aKk _
  | some ts => exact aKz hg.len
 refine aN F .xW rfl rfl (aCp hn) fun d hdn hW => ?_;walk_at "h";refine Mg (dZ 1000) (n := 1000) (fun st _ hg => xM F st hg) st hlen hg _ _ _ _ _ (gP (UH (Ul (Up 0 11) U1)<|UH (Uq (Up 2 1) U1)<|UG (Ul (Up 0 5) U2)) rfl hn hdn) fun v bL o hp => ?_;have R : bJ st (jL cC) (fun r => if wW v then none else some (v,r)) bL := bJ.refl.step (g := fun v r => if wW v then none else some (v,r)) o fun r e => rfl;have hg : bZ bL := hst.le R.le;have good : wW v = false -> Q v (aH σ a (cU bL)) := fun h => q v bL (R.congr fun r e => if_neg (by rw [h]; decide)).out hp;have bad : wW v = true -> Q v (aH σ a (cU none)) := fun h => q v none (bJ.out (R.bad fun r e => if_pos h)) hp;cases hp with
 | base hb =>
  cases hb with
  | nm s =>
   exact good rfl
  | ref s l =>
   refine oM (xs := l) aY aY ?_;cases l with
   | nil =>
    refine oA F (z6 hn hdn) hg ?_;exact bad rfl
   | cons x l =>
    exact good rfl
 | sub hb =>
  cases hb with
  | nm s =>
   exact good rfl
  | ref s l =>
   refine oM (xs := l) aY aY ?_;cases l with
   | nil =>
    refine oA F (z6 hn hdn) hg ?_;exact bad rfl
   | cons x l =>
    exact good rfl
theorem Jf (F : Facts G) (st : LS) (hg : bZ st) : uI G (F.a .uY) 12 (gD cC) (fun _ => True) st := by
 intro c σ a Q X hn q;have hst := hg;refine aN F .uY rfl rfl (iR (UH (Ul (Up 0 12) U1)<|UG (Ul (Un 1) U1)) rfl hn) fun d hdn hW => ?_;walk_at "a";refine zE (S7 st) ?_ ?_
 ·walk_at "h";refine Dw F (aCq hn hdn) hg ?_;walk_at "h";refine TP (Br hg) ?_;cases st with
  | none => first | exact Vx ⟨rfl,rfl⟩ | exact Lh ⟨rfl,rfl⟩
  | some ts =>
   cases ts with
   | nil =>
    walk_at "h";walk_at "h";refine oN (xs := cU (some [])) (aC _ _ _) aY ?_;walk_at "h";exact ⟨rfl,rfl⟩
   | cons t r =>
    cases t with
    | name s => first | exact Vx ⟨rfl,rfl⟩ | exact Lh ⟨rfl,rfl⟩
    | op s => first | exact Vx ⟨rfl,rfl⟩ | exact Lh ⟨rfl,rfl⟩
    | num d m =>
     walk_at "h";walk_at "h";refine oN (xs := cU (some (.num d m :: r))) (aC _ _ _) aY ?_;walk_at "h";walk_at "h";exact ⟨rfl,rfl⟩
 ·refine jO (fun h => ?_) (fun h => ?_)
  ·obtain ⟨d',m,r,rfl⟩ := Mh h;have hg' : bZ (some r) := hg.le .tail;have hw := hg.wf _ (.head _);have R : bJ (some (.num d' m :: r)) (gD cC) (fun r => if m = 0 then none else some (iV m,r)) (some r) := bJ.refl.Cq rfl;cases hw with
   | num g1 g2 g3 g4 g5 g6 g7 =>
   walk_at "h";refine Xp g6 g7 ?_;walk_at "h";refine jO (fun z => ?_) (fun z => ?_)
   ·have z : m = 0 := eq_of_beq z;walk_at "h";refine oA F (aCq hn hdn) hg' ?_;walk_at "h";exact q _ none (bJ.out (R.bad fun r e => if_pos z)) trivial
   ·have z : ¬ m = 0 := ne_of_beq_false z;walk_at "h";exact q _ (some r) (bJ.out (R.congr fun r e => if_neg z)) trivial
  ·have R : bJ st (gD cC) (fun r => if hd r "(" then (fun r => if hd r "*" then (if hd r.tail ")" then some (.str "*",r.tail.tail) else none) else gM cC r) r.tail else none) st := bJ.refl.congr fun r e => by
    subst e;unfold gD;split
    ·cases h
    ·rfl
   walk_at "p";refine jP F (aCr hn hdn) hg (by decide +kernel) ?_;have R := R.need (f' := fun r => if hd r "*" then (if hd r.tail ")" then some (.str "*",r.tail.tail) else none) else gM cC r) fun r e => rfl;have hg := hst.le R.le;have hn1 := bY R.le;generalize vX st "(" = aQ at R hg hn1;walk_at "p";walk_at "a";refine bH (fun C' => ∀ (s' : LS) (tree : V),bJ st (gD cC) (fun r => if hd r ")" then some (tree,r.tail) else none) s' -> C' [some (V.mut a),none,some tree] (aH σ a (cU s'))) ?_ ?_
   ·intro R' hR;walk_at "h";refine jO (fun hh => ?_) (fun hh => ?_)
    ·obtain ⟨r,rfl⟩ := cG hh;have hg' : bZ (some r) := hg.le .tail;have R2 := R.Cq (f' := fun r => if hd r ")" then some (.str "*",r.tail) else none) ((if_pos (show hd (.op "*" :: r) "*" = true from hh)).trans rfl);walk_at "h";exact hR _ _ R2
    ·walk_at "h";refine xM F aQ hg _ _ _ _ _ (jX (UH (Ul (Up 0 12) U1)<|UH (Ul U2 U0)<|UH (Uq (Up 3 1) U1)<|UG (Ul (Up 2 10) U3)) rfl hn hn1 hdn) fun v dW o _ => ?_;have R2 := R.step (g := fun v r => if hd r ")" then some (v,r.tail) else none) o fun r e => by
      subst e; rw [if_neg (by rw [show hd r "*" = false from hh]; decide)]; rfl
     walk_at "h";exact hR _ _ R2
   ·intro s' tree R;have hg := hst.le R.le;walk_at "h";refine jP F (aCr hn hdn) hg (by decide +kernel) ?_;have R := R.need (f' := fun r => some (tree,r)) fun r e => rfl;walk_at "h";exact q _ _ R.out trivial
end Mine
namespace Mine
variable {G : eX}
theorem fW {σ : aW} {a b : Addr} {xs ys : List V} (h : b ≠ a) : aH (aH σ b xs) a ys b = some xs := by rw [iD _ _ h]; exact aC _ _ _
noncomputable abbrev Es (d : V) : P := fun r => if 7 < IV d then none else if hd r ")" then some (d,r.tail) else none
theorem WX (F : Facts G) (st : LS) (hg : bZ st) : uI G (F.a .Gy) 11 (kI cC) Yj st := by
 intro c σ a Q X hn q;have hst := hg;have hE := dZ 1000;have hlen : cB st < 1000 := by
  cases st with
  | none => show 0 < 1000; decide
  | some ts => exact hg.len
 refine aN F .Gy rfl rfl (aCp hn) fun d hdn hW => ?_;walk_at "p";walk_at "p";intro b hb0;obtain ⟨hab,hbn⟩ := jB hb0;have hba := Ne.symm hab;rw [dI _ _ _ hab];walk_at "p";walk_at "h";cases h0 : pZ st "("
 ·refine ⟨b,[],rfl,(fW hba),?_⟩;rw [gA hab,bU hbn];walk_at "h";refine q _ st (bJ.out (bJ.refl.congr fun r e => ?_)) ⟨_,rfl⟩;exact if_neg (R8 e h0)
 ·have R0 : bJ st (kI cC) (fun r => andThen (kJ cC [] r) Es) st := bJ.refl.congr fun r e => by
   subst e; exact if_pos h0
  walk_at "p";walk_at "a";refine bH (fun C' => ∀ (s' : LS) (acc : List V) (lo hi : Option V),bJ st (kI cC) (Es (.lst acc)) s' -> acc.length <= 1000 -> C' [some (V.mut a),some (V.mut b),some (V.bool false),lo,hi] (aH (aH σ b acc) a (cU s'))) ?_ ?_
  ·intro R' hR;walk_at "a";refine cO (ι := LS × Bool) (fun i C' => ∀ (acc : List V) (lo hi : Option V),bJ st (kI cC) (if i.2 then (fun r => andThen (kJ cC acc r) Es) else Es (.lst acc)) i.1 -> acc.length + cB i.1 <= 1000 -> ((i.2 = true -> ∃ t r,i.1 = some (t :: r))) -> ((∀ b ∈ acc, ∃ lo hi,b = .tup [lo,hi] /\ lR hi = some (Ls b))) -> C' [some (V.mut a),some (V.mut b),some (V.bool i.2),lo,hi] (aH (aH σ b acc) a (cU i.1))) (fun i => 2 * cB i.1 + i.2.toNat) (st,true) (fun C' k => k [] none none R0 (by simp; exact lg hlen) (fun _ => by obtain ⟨r,e⟩ := cG h0; exact ⟨_,r,e⟩) (by simp)) (fun _ x0 x1 x2 x3 x4 x5 x6 C' k => k x0 x1 x2 x3 x4 x5 x6) ?_;rintro J hJ ⟨s',more⟩ acc lo hi R hacc hne hsh;simp only at R hacc hne;cases more
   ·walk_at "h";exact hR s' acc _ _ R (iR (UH (Ul (.a U0 U1) (Un 1000))<|UG (Ul U0 (Un 1000))) rfl hacc)
   ·obtain ⟨t,r,rfl⟩ := hne rfl;have hg := hst.le R.le;have hg' : bZ (some r) := hg.le .tail;have hl2 : cB (some (t :: r)) = cB (some r) + 1 := rfl;have hn2 := bY ((Le.tail (t := t) (r := r)).trans R.le);have JG := bY (Le.tail (t := t) (r := r));walk_at "p"
    -- a star ahead of the last dimension
    walk_at "a";refine bH (fun C' => ∀ (aQ : LS),Le aQ (some r) -> bJ st (kI cC) (fun r => andThen (fL cC r) fun bd r => andThen (if hd r "," then kJ cC (acc ++ [bd]) r else some (.lst (acc ++ [bd]),r)) Es) aQ -> C' [some (V.mut a),some (V.mut b),some (V.bool true),lo,hi] (aH (aH σ b acc) a (cU aQ))) ?_ ?_
    ·intro R' hR;have Rb : nD acc = true -> bJ st (kI cC) (fun r => andThen (fL cC r) fun bd r => andThen (if hd r "," then kJ cC (acc ++ [bd]) r else some (.lst (acc ++ [bd]),r)) Es) none := fun z => R.bad fun r' e => by
      simp only [if_true];rw [sI hE acc r',if_pos z]; rfl
     have Rg : nD acc = false -> bJ st (kI cC) (fun r => andThen (fL cC r) fun bd r => andThen (if hd r "," then kJ cC (acc ++ [bd]) r else some (.lst (acc ++ [bd]),r)) Es) (some r) := fun z => R.Cq (by
      simp only [if_true];rw [sI hE acc (t :: r),if_neg (by rw [z]; decide),aM]; rfl)
     walk_at "h";walk_at "h";refine oN (xs := acc) (fW hba) aY ?_;walk_at "h";rcases aOo acc with rfl | ⟨ys,y,rfl⟩
     ·walk_at "h";exact hR (some r) (Le.refl _) (Rg rfl)
     ·rw [aOp] at *;have hne' : (!(ys ++ [y]).isEmpty) = true := by simp
      rw [hne'];walk_at "h";rw [aJt] at hacc;refine Xq (fW hba) (aKl (aJw (aJw (aMa _ _) (aMa _ _)) hacc) (by decide)) ?_;obtain ⟨lo',hi',rfl,hb⟩ := hsh y (by simp);walk_at "h";refine Ie hb ?_;walk_at "h";have hsl : nD (ys ++ [.tup [lo',hi']]) = Ls (.tup [lo',hi']) := by unfold nD; rw [aOu]
      refine jO (fun z => ?_) (fun z => ?_)
      ·walk_at "h";refine oA F (z6 hn hdn) hg' ?_;walk_at "h";exact hR none .none (Rb (hsl.trans z))
      ·walk_at "h";exact hR (some r) (Le.refl _) (Rg (hsl.trans z))
    ·intro aQ hle R;have Fd := hg'.le hle;have yj := bY hle;have yP := cT hle;clear hg hg';have hg := Fd;walk_at "p";walk_at "a";refine bH (fun C' => ∀ (cV : LS) (low high : V) (k : Bool),lR high = some k -> bJ aQ (fL cC) (fun r => if k then (if hd r "*" then some (.tup [low,high],r.tail) else none) else some (.tup [low,high],r)) cV -> C' [some (V.mut a),some (V.mut b),some (V.bool true),some low,some high] (aH (aH σ b acc) a (cU cV))) ?_ ?_
     ·intro R' hR;walk_at "h";cases hh : pZ aQ "*"
      ·have R1 : bJ aQ (fL cC) (fun ts => andThen (cC ts) fun t r => if hd r ":" then (if hd r.tail "*" then some (.tup [t,.none],r.tail.tail) else andThen (cC r.tail) fun h r' => some (.tup [t,h],r')) else some (.tup [.none,t],r)) aQ := bJ.refl.congr fun r' e => by
        subst e; exact if_neg (by rw [show hd r' "*" = false from hh]; decide)
       walk_at "h";refine xM F aQ hg _ _ _ _ _ (tC (UH (Ul (Up 0 11) U1)<|UH (Ul U2 U0)<|UH (Ul U3 U2)<|UH (Uq (Up 4 1) U1)<|UG (Ul (Up 3 10) U4)) rfl hn hn2 yj hdn) fun v dW o hv => ?_;have R1 := R1.step (g := fun t r => if hd r ":" then (if hd r.tail "*" then some (.tup [t,.none],r.tail.tail) else andThen (cC r.tail) fun h r' => some (.tup [t,h],r')) else some (.tup [.none,t],r)) o fun r' e => rfl;have Uk := hg.le o.le;have hn5 := bY o.le;clear hg;have hg := Uk;obtain ⟨xs,rfl⟩ := hv;walk_at "h";refine jO (fun hc => ?_) (fun hc => ?_)
       ·obtain ⟨r2,rfl⟩ := cG hc;have hg' : bZ (some r2) := hg.le .tail;have hn6 := bY (Le.tail (t := .op ":") (r := r2));have R2 := R1.Cq (f' := fun r => if hd r "*" then some (.tup [.tup xs,.none],r.tail) else andThen (cC r) fun h r' => some (.tup [.tup xs,h],r')) ((if_pos (show hd (.op ":" :: r2) ":" = true from hc)).trans rfl);clear hg;have hg := hg';walk_at "p";walk_at "h";cases hh2 : pZ (some r2) "*"
        ·walk_at "h";refine xM F (some r2) hg _ _ _ _ _ (UM7 (UH (Ul (Up 0 11) U1)<|UH (Uq (Up 2 1) U1)<|UH (Ul U3 U0)<|UH (Ul U4 U3)<|UH (Ul U5 U4)<|UH (Ul U6 U5)<|UG (Ul (Up 6 10) U2)) rfl hn hdn hn2 yj hn5 hn6) fun v2 Qy o2 hv2 => ?_;obtain ⟨ys,rfl⟩ := hv2;have R3 := (R2.congr (f' := fun r => andThen (cC r) fun h r' => some (.tup [.tup xs,h],r')) fun r' e => by
          obtain rfl := aJn e; exact if_neg (by rw [show hd r2 "*" = false from hh2]; decide)).step (g := fun h r' => some (.tup [.tup xs,h],r')) o2 fun r' e => rfl
         walk_at "h";exact hR Qy _ _ false rfl R3
        ·walk_at "h";exact hR (some r2) _ _ true rfl (R2.congr fun r' e => by
          obtain rfl := aJn e;have hh' : hd r2 "*" = true := hh2;rw [if_pos hh',if_pos rfl,if_pos hh'])
       ·walk_at "h";exact hR dW _ _ false rfl (R1.congr fun r' e => by
         subst e; exact if_neg (by rw [show hd r' ":" = false from hc]; decide))
      ·walk_at "h";exact hR aQ _ _ true rfl (bJ.refl.congr fun r' e => by
        subst e;have hh' : hd r' "*" = true := hh;show fL cC r' = _;unfold fL;rw [if_pos hh',if_pos rfl,if_pos hh'])
     ·intro cV low high k hk R1;have Uk := hg.le R1.le;have hn5 := bY R1.le;clear hg;have hg := Uk;walk_at "a";refine bH (fun C' => ∀ (cN : LS),Mt (fL cC) aQ (.tup [low,high]) cN -> C' [some (V.mut a),some (V.mut b),some (V.bool true),some low,some high] (aH (aH σ b acc) a (cU cN))) ?_ ?_
      ·intro R' hR;walk_at "h";refine Ie hk ?_;walk_at "h";cases k
       ·walk_at "h";exact hR cV R1.out
       ·walk_at "h";refine jP F (aCs hn hdn) hg (by decide +kernel) ?_;have R2 := R1.need (f' := fun r => some (.tup [low,high],r)) fun r' e => rfl;walk_at "h";exact hR _ R2.out
      ·intro cN o;have WW := Fd.le o.le;have Mj := cT o.le;clear hg;have hg := WW;have R := R.step (g := fun bd r => andThen (if hd r "," then kJ cC (acc ++ [bd]) r else some (.lst (acc ++ [bd]),r)) Es) o fun r' e => rfl;walk_at "h";walk_at "h";refine ⟨b,rfl,⟨acc,fW hba⟩,?_⟩;walk_at "h";refine ⟨acc,fW hba,by rw [sizeLine_eq]; exact iR (UH (Ul (.a U0 U1) (Un 1000))<|UG (Ut U0 (Un 16777216))) rfl hacc,?_⟩;rw [dI _ _ _ hab,bI];walk_at "h";have hsh' : ∀ b' ∈ acc ++ [.tup [low,high]], ∃ lo hi,b' = .tup [lo,hi] /\ lR hi = some (Ls b') := by
        intro b' hb';rcases aLi.mp hb' with z | z
        ·exact hsh b' z
        ·rw [aKm] at z; subst z;refine ⟨low,high,rfl,?_⟩;cases high <;> first | rfl | cases hk
       cases hc : pZ cN ","
       ·exact ⟨(cN,false),by simp only [aLs,aNy]; exact jX (HL.h 2 (Ul U0 U1)<|HL.h 2 (Ul U1 U2)<|HL.h 2 (Uq U3 (Up 2 1))<|UG (Ut (.a (.m 2 U0) (Un 0)) (.a (.m 2 U3) (Un 1)))) rfl Mj yP hl2,hJ _ (acc ++ [.tup [low,high]]) _ _ (R.congr fun r' e => by
         subst e; rw [if_neg (by rw [show hd r' "," = false from hc]; decide),aB]; rfl) (by simp only [aJt,aJu]; exact aCt hacc Mj yP hl2) (fun z => by cases z) hsh'⟩
       ·exact ⟨(cN,true),by simp only [aLs]; exact jX (HL.h 2 (Ul U0 U1)<|HL.h 2 (Ul U1 U2)<|HL.h 2 (Uq U3 (Up 2 1))<|UG (Ut (.a (.m 2 U0) (Un 1)) (.a (.m 2 U3) (Un 1)))) rfl Mj yP hl2,hJ _ (acc ++ [.tup [low,high]]) _ _ (R.congr fun r' e => by
         subst e; rw [if_pos (show hd r' "," = true from hc)]; rfl) (by simp only [aJt,aJu]; exact aCt hacc Mj yP hl2) (fun _ => by obtain ⟨r',e⟩ := cG hc; exact ⟨_,r',e⟩) hsh'⟩
  ·intro s' acc lo hi R hacc;have hg := hst.le R.le;walk_at "p";walk_at "a";refine bH (fun C' => ∀ (s' : LS),bJ st (kI cC) (fun r => if hd r ")" then some (.lst acc,r.tail) else none) s' -> C' [some (V.mut a),some (V.mut b),some (V.bool false),lo,hi] (aH (aH σ b acc) a (cU s'))) ?_ ?_
   ·intro R' hR;walk_at "h";refine nQ (xs := acc) (fW hba) (aEt Jx hacc) ?_;walk_at "h";refine bA (fun z => ?_) (fun z => ?_)
    ·walk_at "h";refine oA F (z6 hn hdn) hg ?_;walk_at "h";exact hR none (R.bad fun r e => if_pos (by show 7 < acc.length; exact aBi z))
    ·walk_at "h";exact hR s' (R.congr fun r e => if_neg (by show ¬ 7 < acc.length; exact aLl (aBj (aKd.mp z))))
   ·intro s' R;have hg := hst.le R.le;walk_at "h";refine jP F (aCs hn hdn) hg (by decide +kernel) ?_;have R := R.need (f' := fun r => some (.lst acc,r)) fun r e => rfl;refine ⟨b,acc,rfl,(fW hba),?_⟩;rw [gA hab,bU hbn];walk_at "h";exact q _ _ R.out ⟨_,rfl⟩
end Mine
namespace Mine
variable {G : eX}
noncomputable def cj (G : eX) (fa : Addr) (form : Nat) (B : Nat) (spec : P) (shape : V -> Prop) (st : LS) : Prop :=
 ∀ (c : Cfg G) (σ : aW) (a : Addr) (Q : KV) (X : Prop),Yg st + B <= c.n -> (∀ v st',Mt spec st v st' -> shape v -> Q v (aH σ a (cU st'))) -> aR c (.ref fa) [.mut a,.int (form : Nat)] (aH σ a (cU st)) Q X
theorem Te (F : Facts G) (form : Nat) (st : LS) (hg : bZ st) : cj G (F.a .Ay) form 14 (gW cC form) (fun _ => True) st := by
 intro c σ a Q X hn q;have hst := hg;refine aN F .Ay rfl rfl (iR (UH (Ul (Up 0 14) U1)<|UG (Ul (Un 1) U1)) rfl hn) fun d hdn hW => ?_;walk_at "p";refine Gi F (gP (UH (Ul (Up 0 14) U1)<|UH (Uq (Up 2 1) U1)<|UG (Ul (Un 2) U2)) rfl hn hdn) hg fun s bL h1 h2 hle => ?_;have R : bJ st (gW cC form) (fun r => if form = 2 /\ hd r "(" = false then none else andThen (kI cC r) fun d r' => andThen (gO cC (form = 1) r') fun l r'' => some (.tup [.str s,d,l],r'')) bL := by
  match st,h1,h2 with
  | none,h1,h2 => exact h2 (fun _ _ e => by exact aK e)
  | some [],h1,h2 => rw [h2 (fun _ _ e => by cases e)]; exact bJ.refl.bad fun r e => by obtain rfl := aJn e; rfl
  | some (.num _ _ :: r),h1,h2 => rw [h2 (fun _ _ e => by cases e)]; exact bJ.refl.bad fun r e => by obtain rfl := aJn e; rfl
  | some (.op _ :: r),h1,h2 => rw [h2 (fun _ _ e => by cases e)]; exact bJ.refl.bad fun r e => by obtain rfl := aJn e; rfl
  | some (.name s' :: r),h1,h2 =>
   obtain ⟨rfl,rfl⟩ := h1 s' r rfl;exact bJ.refl.Cq rfl
 have hg := hst.le R.le;have hn1 := bY R.le;walk_at "p";walk_at "a";refine bH (fun C' => ∀ (s' : LS),bJ st (gW cC form) (fun r => andThen (kI cC r) fun d r' => andThen (gO cC (form = 1) r') fun l r'' => some (.tup [.str s,d,l],r'')) s' -> C' [some (V.mut a),some (V.int (form : Nat)),some (V.str s),none,none] (aH σ a (cU s'))) ?_ ?_
 ·intro R' hR;walk_at "h";refine jO (fun z => ?_) (fun z => ?_)
  ·have z : form = 2 := by have := eq_of_beq z; exact aJq (eU (UH (UE (.c U0) (.n 2))<|UG (Ul U0 (Un 2))) rfl this) (eU (UH (UQ (.c U0) (.n 2))<|UG (Ul (Un 2) U0)) rfl this)
   walk_at "h";refine jO (fun hh => ?_) (fun hh => ?_)
   ·have hh : pZ bL "(" = false := by simpa using hh
    walk_at "h";refine oA F (gP (UH (Ul (Up 0 14) U1)<|UH (Uq (Up 2 1) U1)<|UG (Ul (Un 1) U2)) rfl hn hdn) hg ?_;walk_at "h";exact hR none (R.bad fun r e => by subst e; exact if_pos ⟨z,hh⟩)
   ·have hh : pZ bL "(" = true := by simpa using hh
    walk_at "h";exact hR bL (R.congr fun r e => by subst e; exact if_neg fun y => by rw [show hd r "(" = true from hh] at y; cases y.2)
  ·have z : ¬ form = 2 := fun y => ne_of_beq_false z (congrArg aPe y);walk_at "h";exact hR bL (R.congr fun r e => if_neg fun y => z y.1)
 ·intro s' R;have hg := hst.le R.le;have hn1 := bY R.le;walk_at "p";refine WX F s' hg _ _ _ _ _ (jX (UH (Ul (Up 0 14) U1)<|UH (Ul U2 U0)<|UH (Uq (Up 3 1) U1)<|UG (Ul (Up 2 11) U3)) rfl hn hn1 hdn) fun d dW o hd' => ?_;have R := R.step (g := fun d r' => andThen (gO cC (form = 1) r') fun l r'' => some (.tup [.str s,d,l],r'')) o fun r e => rfl;have hg := hst.le R.le;have hn1 := bY R.le;walk_at "p";walk_at "a";refine bH (fun C' => ∀ (s' : LS) (l : V),bJ st (gW cC form) (fun r'' => some (.tup [.str s,d,l],r'')) s' -> C' [some (V.mut a),some (V.int (form : Nat)),some (V.str s),some d,some l] (aH σ a (cU s'))) ?_ ?_
  ·intro R' hR;walk_at "h";refine jO (fun z => ?_) (fun z => ?_)
   ·have z : form = 1 := by have := eq_of_beq z; exact aJq (aCk this) (aCl this)
    walk_at "h";refine jO (fun hh => ?_) (fun hh => ?_)
    ·obtain ⟨r,rfl⟩ := cG hh;have hg' : bZ (some r) := hg.le .tail;have hn2 := bY (Le.tail (t := .op "*") (r := r));have R2 := R.Cq (f' := fun r' => andThen (gD cC r') fun l r'' => some (.tup [.str s,d,l],r'')) (by
      have : gO cC (decide (form = 1)) (.op "*" :: r) = gD cC r := if_pos (by rw [decide_eq_true z]; exact hh);show andThen (gO cC (decide (form = 1)) (.op "*" :: r)) _ = _;rw [this])
     walk_at "h";refine Jf F (some r) hg' _ _ _ _ _ (tC (UH (Ul (Up 0 14) U1)<|UH (Ul U2 U0)<|UH (Ul U3 U2)<|UH (Uq (Up 4 1) U1)<|UG (Ul (Up 3 12) U4)) rfl hn hn1 hn2 hdn) fun l Qy o2 _ => ?_;have R3 := R2.step (g := fun l r'' => some (.tup [.str s,d,l],r'')) o2 fun r e => rfl;walk_at "h";exact hR Qy l R3
    ·walk_at "h";exact hR dW .none (R.congr fun r e => by
      subst e;have : gO cC (decide (form = 1)) r = some (.none,r) := if_neg (by rw [show hd r "*" = false from hh,aOv]; decide);rw [this]; rfl)
   ·have z : ¬ form = 1 := fun y => ne_of_beq_false z (congrArg aPe y);walk_at "h";exact hR dW .none (R.congr fun r e => by
     have : gO cC (decide (form = 1)) r = some (.none,r) := if_neg (by rw [decide_eq_false z,Bool.false_and]; decide);rw [this]; rfl)
  ·intro s' l R;walk_at "h";exact q _ _ R.out trivial
theorem aGu (x : V) (l : List V) : eG (x :: l) (some 1) (some 2) = l.take 1 := by
 unfold eG;show ((x :: l).drop (clipAt (x :: l).length ((1 : Nat) : Int))).take (clipAt (x :: l).length ((2 : Nat) : Int) - clipAt (x :: l).length ((1 : Nat) : Int)) = _;rw [jU,jU];cases l with
 | nil => rfl
 | cons y l =>
  simp only [aJs];rw [aLj (eU (UG (Ul (Un 2) (.a (Up 0 1) (Un 1)))) rfl),aLj (eU (UG (Ul (Un 1) (.a (Up 0 1) (Un 1)))) rfl)];rfl
section
variable {c : Cfg G} {ρ : En} {σ : aW} {X : Prop} {a : Addr} {t : Tk} {r : List Tk} {s s' : Str} {A : Fn -> Addr} {Q : KV}
theorem S8 (hg : bZ (some (t :: r))) (q : Q (.lst (sL ((Qc (some r)).take 1))) (aH σ a (cU (some (t :: r))))) : rU (.mut a) (some 1) (some 2) (aH σ a (cU (some (t :: r)))) Q := by
 refine Hg (cU (some (t :: r))) (aC _ _ _) (by have := vJ hg; rw [sizeLine_eq]; exact w6 this) ?_;rw [VL,aGu,Sy];exact q
theorem aIt (hg : bZ (some (t :: r))) (q : Q (.bool (hd r s || hd r s')) (aH σ a (cU (some (t :: r))))) (hs : s ∈ gQ := by decide +kernel) (hs' : s' ∈ gQ := by decide +kernel) :
  rU (.mut a) (some 1) (some 2) (aH σ a (cU (some (t :: r)))) (k2 (Ej c X (.cmp .In)) (vE c A X (.tup (.cons (.lst (.cons (.s s) .nil)) (.cons (.lst (.cons (.s s') .nil)) .nil)))) ρ Q) :=
 S8 hg (Vw (ys := [s]) (zs := [s']) aY (by rw [iM (hg.le .tail) hs,iM (hg.le .tail) hs']; exact q))
end
noncomputable def pN (form : Nat) (acc : List V) : P := fun r => if form = 3 then gJ cC acc r else eN (gW cC form) acc r
noncomputable def Fw (form : Nat) (acc : List V) : P := fun r => if hd r "," then (if form = 3 /\ Ez r.tail = true then some (.lst acc,r.tail) else pN form acc r.tail) else some (.lst acc,r)
theorem Jg (form : Nat) (acc : List V) (r : List Tk) : pN form acc r = andThen (gW cC form r) fun it r => Fw form (acc ++ [it]) r := by
 unfold pN;by_cases h : form = 3
 ·subst h;rw [if_pos rfl,lD (dZ 1000)];congr 1
  funext it r'
  unfold Fw pN;cases hd r' ","
  ·rfl
  ·cases Ez r'.tail <;> rfl
 ·rw [if_neg h,bV (iJ (dZ 1000) form)];congr 1
  funext it r'
  unfold Fw pN;cases hd r' ","
  ·rfl
  ·rw [if_pos rfl,if_pos rfl,if_neg fun z => h z.1,if_neg h]
@[reducible] noncomputable def WY (form : Nat) : LS -> Bool
 | some (_ :: r) => decide (form = 3) && Ez r
 | _ => false
theorem Bs (F : Facts G) (form : Nat) (st : LS) (hg : bZ st) : cj G (F.a .wH) form 15 (pN form []) Yj st := by
 intro c σ a Q X hn q;have hst := hg;refine aN F .wH rfl rfl (aBc hn) fun d hdn hW => ?_;walk_at "p";walk_at "p";refine Te F form st hg _ _ _ _ _ (aBd hn hdn) fun v bL o _ => ?_;have R : bJ st (pN form []) (Fw form [v]) bL := bJ.refl.step (g := fun it r => Fw form ([] ++ [it]) r) o fun r e => Jg form [] r;walk_at "p";intro b hb0;obtain ⟨hab,hbn⟩ := jB hb0;have hba := Ne.symm hab;rw [dI _ _ _ hab];walk_at "p";have hl0 : cB st < 1000 := hst.lt;have hl1 := cT R.le;walk_at "a";refine bH (fun C' => ∀ (s' : LS) (acc : List V),bJ st (pN form []) (Fw form acc) s' -> ((pZ s' "," = false \/ ∃ r,s' = some (.op "," :: r) /\ form = 3 /\ Ez r = true)) -> C' [some (V.mut a),some (V.int (form : Nat)),some (V.mut b)] (aH (aH σ b acc) a (cU s'))) ?_ ?_
 ·intro R' hR;walk_at "a";refine cO (ι := LS) (fun s' C' => ∀ (acc : List V),bJ st (pN form []) (Fw form acc) s' -> acc.length + cB s' <= 1001 -> C' [some (V.mut a),some (V.int (form : Nat)),some (V.mut b)] (aH (aH σ b acc) a (cU s'))) (fun s' => cB s') bL (fun C' k => k [v] R (by simp; exact iR (UH (Ul U0 U1)<|UH (Ut U1 (Un 1000))<|UG (Ul (.a (Un 1) U0) (Un 1001))) rfl hl1 hl0)) (fun _ x0 x1 x2 C' k => k x0 x1 x2) ?_;intro J hJ s' acc R hacc;have hg := hst.le R.le;have hn1 := bY R.le;refine Rq (pZ s' "," && !WY form s') ?_ ?_
  ·walk_at "h";cases hc : pZ s' ","
   ·walk_at "h";exact ⟨rfl,rfl⟩
   ·obtain ⟨r,rfl⟩ := cG hc;refine Lh ?_;walk_at "h";refine jO (fun z => ?_) (fun z => ?_)
    ·have z : form = 3 := by have := eq_of_beq z; exact aJq (eU (UH (UE (.c U0) (.n 3))<|UG (Ul U0 (Un 3))) rfl this) (eU (UH (UQ (.c U0) (.n 3))<|UG (Ul (Un 3) U0)) rfl this)
     walk_at "h";refine aIt hg ?_;walk_at "h";have e : WY form (some (.op "," :: r)) = (hd r "/" || hd r "//") := by show (decide (form = 3) && Ez r) = _; rw [decide_eq_true z]; rfl
     rw [e];cases (hd r "/" || hd r "//")
     ·walk_at "h";exact ⟨rfl,rfl⟩
     ·walk_at "h";exact ⟨rfl,rfl⟩
    ·have z : ¬ form = 3 := fun y => ne_of_beq_false z (congrArg aPe y);walk_at "h";refine ⟨?_,rfl⟩;show _ = (true && !(decide (form = 3) && Ez r));rw [decide_eq_false z]; rfl
  ·refine jO (fun hc => ?_) (fun hc => ?_)
   ·rw [aLc,Bool.not_eq_true'] at hc;obtain ⟨r,rfl⟩ := cG hc.1;have hg' : bZ (some r) := hg.le .tail;have hn2 := bY (Le.tail (t := .op ",") (r := r));have hl2 : cB (some (Tk.op "," :: r)) = cB (some r) + 1 := rfl;have R2 := R.Cq (f' := pN form acc) (by
     have h1 : hd (.op "," :: r) "," = true := hc.1;have h2 : ¬ (form = 3 /\ Ez r = true) := fun y => by
      have e : (decide (form = 3) && Ez r) = false := hc.2;rw [decide_eq_true y.1,y.2] at e; cases e
     show Fw form acc (.op "," :: r) = pN form acc r;unfold Fw;rw [if_pos h1,aLa,if_neg h2])
    walk_at "h";walk_at "h";refine ⟨b,rfl,⟨acc,fW hba⟩,?_⟩;walk_at "h";refine Te F form (some r) hg' _ _ _ _ _ (tC (UH (Ul (Up 0 15) U1)<|UH (Ul U2 U0)<|UH (Ul U3 U2)<|UH (Uq (Up 4 1) U1)<|UG (Ul (Up 3 14) U4)) rfl hn hn1 hn2 hdn) fun v' dW o2 _ => ?_;have R3 := R2.step (g := fun it r => Fw form (acc ++ [it]) r) o2 fun r' e => Jg form acc r';have hl3 := cT o2.le;walk_at "h";refine ⟨acc,fW hba,by rw [sizeLine_eq]; exact aCu hacc,?_⟩;rw [dI _ _ _ hab,bI];walk_at "h";exact ⟨dW,by dsimp only; exact Ze hl3 hl2,hJ _ _ R3 (by rw [aJt,aJu]; exact aCv hacc hl3 hl2)⟩
   ·walk_at "h";refine hR s' acc R ?_;cases h1 : pZ s' ","
    ·exact .inl rfl
    ·obtain ⟨r,rfl⟩ := cG h1;rw [h1] at hc;have e : (decide (form = 3) && Ez r) = true := by
      cases h2 : (decide (form = 3) && Ez r)
      ·rw [show WY form (some (.op "," :: r)) = (decide (form = 3) && Ez r) from rfl,h2] at hc; cases hc
      ·rfl
     rw [aLc,decide_eq_true_eq] at e;exact .inr ⟨r,rfl,e.1,e.2⟩
 ·intro s' acc R he;have hg := hst.le R.le;walk_at "a";refine bH (fun C' => ∀ (s' : LS),bJ st (pN form []) (fun r => some (.lst acc,r)) s' -> C' [some (V.mut a),some (V.int (form : Nat)),some (V.mut b)] (aH (aH σ b acc) a (cU s'))) ?_ ?_
  ·intro R' hR;walk_at "a";refine zE (pZ s' ",") ?_ ?_
   ·walk_at "h";refine jO (fun z => ?_) (fun z => ?_)
    ·walk_at "h";cases pZ s' "," <;> exact ⟨rfl,rfl⟩
    ·have z : ¬ form = 3 := fun y => ne_of_beq_false z (congrArg aPe y);walk_at "h";refine ⟨?_,rfl⟩;rcases he with he | ⟨r,rfl,h,_⟩
     ·exact he.symm
     ·exact absurd h z
   ·rcases he with he | ⟨r,rfl,h3,hb⟩
    ·rw [he];walk_at "h";exact hR s' (R.congr fun r e => by
      exact if_neg (R8 e he))
    ·have hg' : bZ (some r) := hg.le .tail;have h1 : pZ (some (.op "," :: r)) "," = true := by show decide ((aJp ",") = aJp ",") = true; exact decide_eq_true rfl
     rw [h1];walk_at "h";exact hR _ (R.Cq (by
      show Fw form acc (.op "," :: r) = _;unfold Fw;rw [if_pos (show hd (.op "," :: r) "," = true from h1),aLa,if_pos ⟨h3,hb⟩]))
  ·intro s' R;refine ⟨b,acc,rfl,(fW hba),?_⟩;rw [gA hab,bU hbn];walk_at "h";exact q _ _ R.out ⟨_,rfl⟩
end Mine
namespace Mine
variable {G : eX}
noncomputable def yp (acc : List V) : P := fun r => if Ez r then rB cC acc r else some (.lst acc,r)
noncomputable def qT (acc : List V) (b : V) : P := fun r => andThen (gJ cC [] r) fun m r' => yp (acc ++ [zZ b m]) r'
noncomputable def Jh : P
 | .name s :: r => if hd r "/" then some (.str s,r.tail) else none
 | _ => none
theorem Tf (F : Facts G) (st : LS) (hg : bZ st) : uI G (F.a .wI) 16 (rB cC []) Yj st := by
 intro c σ a Q X hn q;have hst := hg;have hl0 : cB st < 1000 := hst.lt;have hstep : ∀ acc r,rB cC acc r = andThen (lO r) fun b r => qT acc b r := fun acc r => yK (dZ 1000) acc r;refine aN F .wI rfl rfl (aBe hn) fun d hdn hW => ?_;walk_at "p";walk_at "p";intro b hb0;obtain ⟨hab,hbn⟩ := jB hb0;have hba := Ne.symm hab;rw [dI _ _ _ hab];walk_at "p";walk_at "a";refine bH (fun C' => ∀ (s' : LS) (acc : List V) (bk : Option V),bJ st (rB cC []) (fun r => some (.lst acc,r)) s' -> C' [some (V.mut a),some (V.mut b),bk] (aH (aH σ b acc) a (cU s'))) ?_ ?_
 ·intro R' hR;walk_at "a";refine cO (ι := LS × Bool) (fun i C' => ∀ (acc : List V) (bk : Option V),i.2 = acc.isEmpty -> bJ st (rB cC []) (if i.2 then rB cC acc else yp acc) i.1 -> acc.length + cB i.1 <= 1000 + (!i.2).toNat -> C' [some (V.mut a),some (V.mut b),bk] (aH (aH σ b acc) a (cU i.1))) (fun i => 2 * cB i.1 + i.2.toNat) (st,true) (fun C' k => k [] _ rfl bJ.refl (by simp; exact lg hl0)) (fun _ x0 x1 x2 x3 x4 C' k => k x0 x1 x2 x3 x4) ?_;rintro J hJ ⟨s',e0⟩ acc bk he R hacc;simp only at he R hacc;have hg := hst.le R.le;have hn1 := bY R.le;refine Rq (e0 || (pZ s' "/" || pZ s' "//")) ?_ ?_
  ·walk_at "h";walk_at "h";refine oM (xs := acc) (fW hba) aY ?_;walk_at "h";rw [<- he];cases e0
   ·walk_at "h";cases (pZ s' "/" || pZ s' "//") <;> exact ⟨rfl,rfl⟩
   ·walk_at "h";exact ⟨rfl,rfl⟩
  ·refine jO (fun hc => ?_) (fun hc => ?_)
   ·have R0 : bJ st (rB cC []) (rB cC acc) s' := by
     cases e0
     ·refine R.congr fun r e => ?_;subst e;refine if_pos ?_;exact hc
     ·exact R
    walk_at "p";walk_at "a";refine bH (fun C' => ∀ (aQ : LS) (bv : V),bJ st (rB cC []) (qT acc bv) aQ -> cB aQ + (!e0).toNat <= cB s' -> C' [some (V.mut a),some (V.mut b),some bv] (aH (aH σ b acc) a (cU aQ))) ?_ ?_
    ·intro R' hR;walk_at "h";cases h1 : pZ s' "/"
     ·walk_at "h";cases h2 : pZ s' "//"
      ·walk_at "h";have e1 : e0 = true := by rw [h1,h2] at hc; simpa using hc
       subst e1;exact hR s' _ (R0.congr fun r e => by
        subst e;rw [hstep];have e3 : lO r = some (.str "",r) := by
         unfold lO;rw [if_neg (by rw [show hd r "//" = false from h2]; decide),if_neg (by rw [show hd r "/" = false from h1]; decide)]
        rw [e3]; rfl) (by simp)
      ·obtain ⟨r,rfl⟩ := cG h2;have hg' : bZ (some r) := hg.le .tail;have hl2 : cB (some (Tk.op "//" :: r)) = cB (some r) + 1 := rfl;walk_at "h";exact hR (some r) _ (R0.Cq (by
        rw [hstep];have e3 : lO (.op "//" :: r) = some (.str "",r) := if_pos h2;rw [e3]; rfl)) (by rw [hl2]; exact aNf (aNs _) _)
     ·obtain ⟨r,rfl⟩ := cG h1;have hg' : bZ (some r) := hg.le .tail;have hl2 : cB (some (Tk.op "/" :: r)) = cB (some r) + 1 := rfl;have hn2 := bY (Le.tail (t := .op "/") (r := r));have R1 : bJ st (rB cC []) (fun r => andThen (Jh r) fun b r => qT acc b r) (some r) := R0.Cq (by
       rw [hstep];have e3 : lO (.op "/" :: r) = Jh r := by
        have z : ¬ hd (.op "/" :: r) "//" = true := fun y => by
         have : (aJp "/") = aJp "//" := of_decide_eq_true y;revert this; decide +kernel
        show (if _ then _ else if _ then _ else _) = _;rw [if_neg z,if_pos (show hd (.op "/" :: r) "/" = true from h1)];cases r with
        | nil => rfl
        | cons t r => cases t <;> rfl
       rw [e3])
      walk_at "h";refine Gi F (aCx hn hdn) hg' fun s bL g1 g2 hle => ?_;have R2 : bJ st (rB cC []) (fun r => if hd r "/" then qT acc (.str s) r.tail else none) bL := by
       match r,g1,g2,R1 with
       | [],g1,g2,R1 => rw [g2 (fun _ _ e => by cases e)]; exact R1.bad fun r e => by obtain rfl := aJn e; rfl
       | .num _ _ :: r,g1,g2,R1 => rw [g2 (fun _ _ e => by cases e)]; exact R1.bad fun r e => by obtain rfl := aJn e; rfl
       | .op _ :: r,g1,g2,R1 => rw [g2 (fun _ _ e => by cases e)]; exact R1.bad fun r e => by obtain rfl := aJn e; rfl
       | .name s' :: r,g1,g2,R1 =>
        obtain ⟨rfl,rfl⟩ := g1 s' r rfl;refine R1.Cq ?_;show andThen (if hd r "/" then some (.str s',r.tail) else none) _ = _;cases hd r "/" <;> rfl
      have hg := hst.le R2.le;have JG := bY R2.le;have hl3 := cT hle;walk_at "h";refine jP F (aCx hn hdn) hg (by decide +kernel) ?_;have R3 := R2.need (f' := qT acc (.str s)) fun r e => rfl;have yP := cT (qR (st := bL) (s := "/"));walk_at "h";exact hR _ _ R3 (by rw [hl2]; exact Nat.add_le_add (aJw yP hl3) (aNs _))
    ·intro aQ bv R1 hl1;have hg := hst.le R1.le;have JG := bY R1.le;walk_at "h";walk_at "h";refine ⟨b,rfl,⟨acc,fW hba⟩,?_⟩;walk_at "h";refine Bs F 3 aQ hg _ _ _ _ _ (aBg hn JG hdn) fun m dW o _ => ?_;have R2 := R1.step (g := fun m r' => yp (acc ++ [zZ bv m]) r') o fun r e => rfl;have hl3 := cT o.le;walk_at "h";refine ⟨acc,fW hba,by rw [sizeLine_eq]; exact lb1 hacc,?_⟩;rw [dI _ _ _ hab,bI];walk_at "h";exact ⟨(dW,false),lb2 (aJw (aMh hl3 _) hl1),hJ _ _ _ (by simp) R2 (by rw [aJt,aJu]; exact lb3 hacc hl1 hl3)⟩
   ·walk_at "h";rw [aLt] at hc;obtain ⟨rfl,hc⟩ := hc;refine hR s' acc bk (R.congr fun r e => ?_);subst e;exact if_neg (by rw [show Ez r = false from hc]; decide)
 ·intro s' acc bk R;refine ⟨b,acc,rfl,(fW hba),?_⟩;rw [gA hab,bU hbn];walk_at "h";exact q _ _ R.out ⟨_,rfl⟩
end Mine
namespace Mine
variable {G : eX}
noncomputable def Ji (G : eX) (fa : Addr) (form : Int) (kind : Int) (B : Nat) (spec : P) (st : LS) : Prop :=
 ∀ (c : Cfg G) (σ : aW) (a : Addr) (Q : KV) (X : Prop),Yg st + B <= c.n -> (∀ v st',Mt spec st v st' -> Q v (aH σ a (cU st'))) -> aR c (.ref fa) [.mut a,.int form,.int kind] (aH σ a (cU st)) Q X
noncomputable def jM (form : Nat) (kind : Int) (l : V) : P := fun r => andThen (pN form [] r) fun v r => some (jW kind l v,r)
noncomputable def nH (kind : Int) : P := fun r => if hd r "*" then andThen (gD cC r.tail) fun l r => jM 1 kind l (if hd r "," then r.tail else r) else jM 1 kind .none r
noncomputable def XC : P := fun r => andThen (pN 2 [] r) fun v r => some (.lst [.tup [.str "dimension",v]],r)
noncomputable def Bt : P := fun r => andThen (eN (fM cC) [] r) fun v r => some (.lst [.tup [.str "equiv",v]],r)
noncomputable def oO : P := fun r => if hd r "(" then andThen (gM (eN (jV cC) []) r.tail) fun v r => some (.lst [.tup [.str "param",v]],r) else none
theorem FT (F : Facts G) (kind : Int) (st : LS) (hg : bZ st) : Ji G (F.a .gV) 0 kind 18 (jM 0 kind .none) st := by
 intro c σ a Q X hn q;refine aN F .gV rfl rfl (Qh hn) fun d hdn hW => ?_;walk_at "h";walk_at "h";refine Bs F 0 st hg _ _ _ _ _ (aCy hn hdn) fun m dW o _ => ?_;have R : bJ st (jM 0 kind .none) (fun r => some (jW kind .none m,r)) dW := bJ.refl.step (g := fun v r => some (jW kind .none v,r)) o fun r e => rfl;walk_at "h";exact q _ _ R.out
theorem FW (F : Facts G) (kind : Int) (st : LS) (hg : bZ st) : Ji G (F.a .gV) 2 kind 18 XC st := by
 intro c σ a Q X hn q;refine aN F .gV rfl rfl (Qh hn) fun d hdn hW => ?_;walk_at "h";walk_at "h";refine Bs F 2 st hg _ _ _ _ _ (aCy hn hdn) fun m dW o _ => ?_;have R : bJ st XC (fun r => some (.lst [.tup [.str "dimension",m]],r)) dW := bJ.refl.step (g := fun v r => some (.lst [.tup [.str "dimension",v]],r)) o fun r e => rfl;walk_at "h";exact q _ _ R.out
theorem FZ (F : Facts G) (kind : Int) (st : LS) (hg : bZ st) : Ji G (F.a .gV) 3 kind 18 (rB cC []) st := by
 intro c σ a Q X hn q;refine aN F .gV rfl rfl (Qh hn) fun d hdn hW => ?_;walk_at "h";refine Tf F st hg _ _ _ _ _ (gP (UH (Ul (Up 0 18) U1)<|UH (Uq (Up 2 1) U1)<|UG (Ul (Up 0 16) U2)) rfl hn hdn) fun m dW o _ => ?_;walk_at "h";exact q _ _ o
theorem GC (F : Facts G) (kind : Int) (st : LS) (hg : bZ st) : Ji G (F.a .gV) 1 kind 18 (nH kind) st := by
 intro c σ a Q X hn q;have hst := hg;refine aN F .gV rfl rfl (Qh hn) fun d hdn hW => ?_;walk_at "p";walk_at "p";walk_at "a";refine bH (fun C' => ∀ (s' : LS) (l : V),bJ st (nH kind) (jM 1 kind l) s' -> C' [some (V.mut a),some (V.int 1),some (V.int kind),some l,none,none,none] (aH σ a (cU s'))) ?_ ?_
 ·intro R' hR;walk_at "h";cases h1 : pZ st "*"
  ·walk_at "h";exact hR st .none (bJ.refl.congr fun r e => by
    exact if_neg (R8 e h1))
  ·obtain ⟨r,rfl⟩ := cG h1;have hg' : bZ (some r) := hg.le .tail;have hn2 := bY (Le.tail (t := .op "*") (r := r));have R := (bJ.refl (st := some (.op "*" :: r)) (spec := nH kind)).Cq (f' := fun r => andThen (gD cC r) fun l r => jM 1 kind l (if hd r "," then r.tail else r)) (if_pos h1);walk_at "h";refine Jf F (some r) hg' _ _ _ _ _ (jX (UH (Ul (Up 0 18) U1)<|UH (Ul U2 U0)<|UH (Uq (Up 3 1) U1)<|UG (Ul (Up 2 12) U3)) rfl hn hn2 hdn) fun l dW o _ => ?_;have R := R.step (g := fun l r => jM 1 kind l (if hd r "," then r.tail else r)) o fun r e => rfl;have hg := hst.le R.le;walk_at "h";refine jO (fun h => ?_) (fun h => ?_)
   ·obtain ⟨r,rfl⟩ := cG h;have hg' : bZ (some r) := hg.le .tail;walk_at "h";exact hR (some r) l (R.Cq (congrArg (jM 1 kind l) (if_pos h)))
   ·walk_at "h";exact hR dW l (R.congr fun r e => by
     exact congrArg (jM 1 kind l) (if_neg (R8 e h)))
 ·intro s' l R;have hg := hst.le R.le;have hn1 := bY R.le;walk_at "h";walk_at "h";refine Bs F 1 s' hg _ _ _ _ _ (jX (UH (Ul (Up 0 18) U1)<|UH (Ul U2 U0)<|UH (Uq (Up 3 1) U1)<|UG (Ul (Up 2 15) U3)) rfl hn hn1 hdn) fun m dW o _ => ?_;have R := R.step (g := fun v r => some (jW kind l v,r)) o fun r e => rfl;walk_at "h";exact q _ _ R.out
end Mine
namespace Mine
variable {G : eX}
theorem GD (F : Facts G) (kind : Int) (st : LS) (hg : bZ st) : Ji G (F.a .gV) 5 kind 18 oO st := by
 intro c σ a Q X hn q;have hst := hg;have hl0 : cB st < 1000 := hst.lt;have hE := Dr (dZ 1000);refine aN F .gV rfl rfl (Qh hn) fun d hdn hW => ?_;walk_at "p";walk_at "p";walk_at "p";walk_at "p";walk_at "p";intro b hb0;obtain ⟨hab,hbn⟩ := jB hb0;have hba := Ne.symm hab;rw [dI _ _ _ hab];walk_at "p";walk_at "p";refine jP F (Uw hn hdn) hg (by decide +kernel) ?_;have R := (bJ.refl (st := st) (spec := oO)).need (s := "(") (f' := fun r => andThen (gM (eN (jV cC) []) r) fun v r => some (.lst [.tup [.str "param",v]],r)) fun r e => rfl;have hl1 := cT (qR (st := st) (s := "("));generalize vX st "(" = bL at R hl1;walk_at "p";walk_at "a";refine bH (fun C' => ∀ (s' : LS) (acc : List V) (nm : Option V),bJ st oO (fun r => if hd r ")" then some (.lst [.tup [.str "param",.lst acc]],r.tail) else none) s' -> C' [some (V.mut a),some (V.int 5),some (V.int kind),none,some (V.mut b),none,nm] (aH (aH σ b acc) a (cU s'))) ?_ ?_
 ·intro R' hR;let fin : V -> P := fun t r => andThen (if hd r ")" then some (t,r.tail) else none) fun v r => some (.lst [.tup [.str "param",v]],r);walk_at "a";refine cO (ι := LS × Bool) (fun i C' => ∀ (acc : List V) (nm : Option V),i.2 = acc.isEmpty -> bJ st oO (fun r => andThen (if i.2 then eN (jV cC) acc r else nO (jV cC) acc r) fin) i.1 -> acc.length + cB i.1 <= 1000 + (!i.2).toNat -> C' [some (V.mut a),some (V.int 5),some (V.int kind),none,some (V.mut b),none,nm] (aH (aH σ b acc) a (cU i.1))) (fun i => 2 * cB i.1 + i.2.toNat) (bL,true) (fun C' k => k [] _ rfl (R.congr fun r e => aM _ _ _) (by simp; exact iR (UH (Ul U0 U1)<|UH (Ut U1 (Un 1000))<|UG (Ul U0 (Un 1000))) rfl hl1 hl0)) (fun _ x0 x1 x2 x3 x4 C' k => k x0 x1 x2 x3 x4) ?_;rintro J hJ ⟨s',e0⟩ acc nm he R hacc;simp only at he R hacc;have hg := hst.le R.le;have hn1 := bY R.le;refine Rq (e0 || pZ s' ",") ?_ ?_
  ·walk_at "h";walk_at "h";refine oM (xs := acc) (fW hba) aY ?_;walk_at "h";rw [<- he];cases e0
   ·walk_at "h";cases pZ s' "," <;> exact ⟨rfl,rfl⟩
   ·walk_at "h";exact ⟨rfl,rfl⟩
  ·refine jO (fun hc => ?_) (fun hc => ?_)
   ·walk_at "a";refine bH (fun C' => ∀ (aQ : LS),bJ st oO (fun r => andThen (jV cC r) fun t r => andThen (nO (jV cC) (acc ++ [t]) r) fin) aQ -> cB aQ + (!e0).toNat <= cB s' -> C' [some (V.mut a),some (V.int 5),some (V.int kind),none,some (V.mut b),none,nm] (aH (aH σ b acc) a (cU aQ))) ?_ ?_
    ·intro R' hR;walk_at "h";walk_at "h";refine oN (xs := acc) (fW hba) aY ?_;walk_at "h";rw [<- he];cases e0
     ·obtain ⟨r,rfl⟩ := cG (st := s') (s := ",") hc;have hg' : bZ (some r) := hg.le .tail;have hl2 : cB (some (Tk.op "," :: r)) = cB (some r) + 1 := rfl;walk_at "h";refine hR (some r) (R.Cq ?_) (by simp; exact aCw hl2);have hc : hd (.op "," :: r) "," = true := hc;show andThen (nO (jV cC) acc (.op "," :: r)) fin = _;dsimp only [nO];rw [if_pos hc,aLa,bV hE,aM]
     ·walk_at "h";refine hR s' (R.congr fun r e => ?_) (by simp);show andThen (eN (jV cC) acc r) fin = _;rw [bV hE,aM]
    ·intro aQ R1 hl1;have hg := hst.le R1.le;have hn1 := bY R1.le;walk_at "h";refine Gi F (Uw hn hdn) hg fun s dW g1 g2 hle => ?_;have R2 : bJ st oO (fun r => if hd r "=" then andThen (cC r.tail) fun t r' => andThen (nO (jV cC) (acc ++ [.tup [.str s,t]]) r') fin else none) dW := by
      match aQ,g1,g2,R1 with
      | none,g1,g2,R1 => rw [g2 (fun _ _ e => by exact aK e)]; exact R1.bad fun r e => by exact aK e
      | some [],g1,g2,R1 => rw [g2 (fun _ _ e => by cases e)]; exact R1.bad fun r e => by obtain rfl := aJn e; rfl
      | some (.num _ _ :: r),g1,g2,R1 => rw [g2 (fun _ _ e => by cases e)]; exact R1.bad fun r e => by obtain rfl := aJn e; rfl
      | some (.op _ :: r),g1,g2,R1 => rw [g2 (fun _ _ e => by cases e)]; exact R1.bad fun r e => by obtain rfl := aJn e; rfl
      | some (.name s' :: r),g1,g2,R1 =>
       obtain ⟨rfl,rfl⟩ := g1 s' r rfl;refine R1.Cq ?_;show andThen (if hd r "=" then andThen (cC r.tail) fun t r' => some (.tup [.str s',t],r') else none) _ = _;cases hd r "="
       ·rfl
       ·rw [if_pos rfl,if_pos rfl,aM]; rfl
     have hg := hst.le R2.le;have JG := bY R2.le;have hl3 := cT hle;walk_at "h";refine jP F (Uw hn hdn) hg (by decide +kernel) ?_;have R3 := R2.need (f' := fun r => andThen (cC r) fun t r' => andThen (nO (jV cC) (acc ++ [.tup [.str s,t]]) r') fin) fun r e => rfl;have yP := cT (qR (st := dW) (s := "="));generalize vX dW "=" = cN at R3 yP;have hg := hst.le R3.le;have JG := bY R3.le;walk_at "h";walk_at "h";refine ⟨b,rfl,⟨acc,fW hba⟩,?_⟩;walk_at "h";refine xM F cN hg _ _ _ _ _ (jX (UH (Ul (Up 0 18) U1)<|UH (Ul U2 U0)<|UH (Uq (Up 3 1) U1)<|UG (Ul (Up 2 10) U3)) rfl hn JG hdn) fun m aGv o _ => ?_;have R4 := R3.step (g := fun t r' => andThen (nO (jV cC) (acc ++ [.tup [.str s,t]]) r') fin) o fun r e => rfl;have Mj := cT o.le;walk_at "h";refine ⟨acc,fW hba,by rw [sizeLine_eq]; exact lb1 hacc,?_⟩;rw [dI _ _ _ hab,bI];walk_at "h";exact ⟨(aGv,false),lb2 (aJw (aMh (aJw Mj (aJw yP hl3)) _) hl1),hJ _ _ _ (by simp) R4 (by rw [aJt,aJu]; exact lb3 hacc hl1 (aJw Mj (aJw yP hl3)))⟩
   ·walk_at "h";rw [aLt] at hc;obtain ⟨rfl,hc⟩ := hc;refine hR s' acc nm (R.congr fun r e => ?_);show andThen (nO (jV cC) acc r) fin = _;dsimp only [nO];rw [if_neg (R8 e hc),aB];show andThen (if hd r ")" then some (V.lst acc,r.tail) else none) _ = _;cases hd r ")" <;> rfl
 ·intro s' acc nm R;have hg := hst.le R.le;have hn1 := bY R.le;walk_at "h";refine jP F (Uw hn hdn) hg (by decide +kernel) ?_;have R3 := R.need (f' := fun r => some (.lst [.tup [.str "param",.lst acc]],r)) fun r e => rfl;refine ⟨b,acc,rfl,(fW hba),?_⟩;rw [gA hab,bU hbn];walk_at "h";walk_at "h";exact q _ _ R3.out
end Mine
namespace Mine
variable {G : eX}
noncomputable abbrev Dy : V -> P := fun g r => if IV g < 2 then none else if hd r ")" then some (g,r.tail) else none
theorem GF (F : Facts G) (kind : Int) (st : LS) (hg : bZ st) : Ji G (F.a .gV) 4 kind 18 Bt st := by
 intro c σ a Q X hn q;have hst := hg;have hl0 : cB st < 1000 := hst.lt;have hE := zX (dZ 1000);have hP := qQ (dZ 1000);refine aN F .gV rfl rfl (Qh hn) fun d hdn hW => ?_;walk_at "p";walk_at "p";walk_at "p";walk_at "p";walk_at "p";intro b hb0;obtain ⟨hab,hbn⟩ := jB hb0;have hba := Ne.symm hab;rw [dI _ _ _ hab];walk_at "p";walk_at "p";let fin : V -> P := fun v r => some (.lst [.tup [.str "equiv",v]],r);walk_at "a";refine bH (fun C' => ∀ (s' : LS) (acc : List V) (gp : Option V),bJ st Bt (fin (.lst acc)) s' -> C' [some (V.mut a),some (V.int 4),some (V.int kind),none,some (V.mut b),gp,none] (aH (aH σ b acc) a (cU s'))) ?_ ?_
 ·intro R' hR;walk_at "a";refine cO (ι := LS × Bool) (fun i C' => ∀ (acc : List V) (gp : Option V),i.2 = acc.isEmpty -> bJ st Bt (fun r => andThen (if i.2 then eN (fM cC) acc r else nO (fM cC) acc r) fin) i.1 -> acc.length + cB i.1 <= 1000 + (!i.2).toNat -> C' [some (V.mut a),some (V.int 4),some (V.int kind),none,some (V.mut b),gp,none] (aH (aH σ b acc) a (cU i.1))) (fun i => 2 * cB i.1 + i.2.toNat) (st,true) (fun C' k => k [] _ rfl bJ.refl (by simp; exact lg hl0)) (fun _ x0 x1 x2 x3 x4 C' k => k x0 x1 x2 x3 x4) ?_;rintro J hJ ⟨s',e0⟩ acc gp he R hacc;simp only at he R hacc;have hg := hst.le R.le;have hn1 := bY R.le;refine Rq (e0 || pZ s' ",") ?_ ?_
  ·walk_at "h";walk_at "h";refine oM (xs := acc) (fW hba) aY ?_;walk_at "h";rw [<- he];cases e0
   ·walk_at "h";cases pZ s' "," <;> exact ⟨rfl,rfl⟩
   ·walk_at "h";exact ⟨rfl,rfl⟩
  ·refine jO (fun hc => ?_) (fun hc => ?_)
   ·walk_at "a";refine bH (fun C' => ∀ (aQ : LS),bJ st Bt (fun r => andThen (fM cC r) fun t r => andThen (nO (fM cC) (acc ++ [t]) r) fin) aQ -> cB aQ + (!e0).toNat <= cB s' -> C' [some (V.mut a),some (V.int 4),some (V.int kind),none,some (V.mut b),gp,none] (aH (aH σ b acc) a (cU aQ))) ?_ ?_
    ·intro R' hR;walk_at "h";walk_at "h";refine oN (xs := acc) (fW hba) aY ?_;walk_at "h";rw [<- he];cases e0
     ·obtain ⟨r,rfl⟩ := cG (st := s') (s := ",") hc;have hg' : bZ (some r) := hg.le .tail;have hl2 : cB (some (Tk.op "," :: r)) = cB (some r) + 1 := rfl;walk_at "h";refine hR (some r) (R.Cq ?_) (by simp; exact aCw hl2);have hc : hd (.op "," :: r) "," = true := hc;show andThen (nO (fM cC) acc (.op "," :: r)) fin = _;dsimp only [nO];rw [if_pos hc,aLa,bV hE,aM]
     ·walk_at "h";refine hR s' (R.congr fun r e => ?_) (by simp);show andThen (eN (fM cC) acc r) fin = _;rw [bV hE,aM]
    ·intro aQ R1 hl1;have Fd := hst.le R1.le;have hg := Fd;have hn1 := bY R1.le;walk_at "p";refine jP F (Uw hn hdn) hg (by decide +kernel) ?_;have RG := (bJ.refl (st := aQ) (spec := fM cC)).need (s := "(") (f' := fun r => andThen (eN (jL cC) [] r) Dy) fun r e => rfl;have hl2 := cT (qR (st := aQ) (s := "("));have hn2 := bY (qR (st := aQ) (s := "("));generalize vX aQ "(" = cV at RG hl2 hn2;have hg := Fd.le RG.le;walk_at "p";walk_at "p";refine Mi F cV hg _ _ _ _ _ (tC (UH (Ul (Up 0 18) U1)<|UH (Ul U2 U0)<|UH (Ul U3 U2)<|UH (Uq (Up 4 1) U1)<|UG (Ul (Up 3 11) U4)) rfl hn hn1 hn2 hdn) fun v cN o _ => ?_;have RG := RG.step (g := fun t r => andThen (nO (jL cC) [t] r) Dy) o fun r e => by rw [bV hP,aM]; rfl
     have hl3 := cT o.le;walk_at "p";intro g hg0;obtain ⟨hag,hg1⟩ := jB hg0;have hga := Ne.symm hag;rw [dI _ _ _ hag];obtain ⟨hbg,hgn⟩ := jB hg1;walk_at "p";walk_at "a";refine bH (fun C' => ∀ (xQ : LS) (ga : List V),bJ aQ (fM cC) (Dy (.lst ga)) xQ -> cB xQ <= cB aQ -> ga.length <= 1001 -> C' [some (V.mut a),some (V.int 4),some (V.int kind),none,some (V.mut b),some (V.mut g),none] (aH (aH (aH σ b acc) g ga) a (cU xQ))) ?_ ?_
     ·intro R' hR;walk_at "a";refine cO (ι := LS) (fun xQ C' => ∀ (ga : List V),bJ aQ (fM cC) (fun r => andThen (nO (jL cC) ga r) Dy) xQ -> ga.length + cB xQ <= 1001 -> C' [some (V.mut a),some (V.int 4),some (V.int kind),none,some (V.mut b),some (V.mut g),none] (aH (aH (aH σ b acc) g ga) a (cU xQ))) (fun xQ => cB xQ) cN (fun C' k => k [v] RG (by simp at *; exact Jt (UH (Ul (.a U0 U1) (.a (Un 1000) U2))<|UH (Ul (.a U3 U2) U1)<|UH (Ul U4 U3)<|UH (Ul U5 U4)<|UG (Ul (.a (Un 1) U5) (Un 1001))) rfl hacc hl1 hl2 hl3)) (fun _ x0 x1 x2 C' k => k x0 x1 x2) ?_;intro J hJ xQ ga RG XD;have hg := Fd.le RG.le;have JG := bY RG.le;have yP := cT RG.le;walk_at "h";refine jO (fun h => ?_) (fun h => ?_)
      ·obtain ⟨r,rfl⟩ := cG h;have hg' : bZ (some r) := hg.le .tail;have yj := bY (Le.tail (t := .op ",") (r := r));have Mj : cB (some (Tk.op "," :: r)) = cB (some r) + 1 := rfl;have RG := RG.Cq (f' := fun r => andThen (jL cC r) fun t r => andThen (nO (jL cC) (ga ++ [t]) r) Dy) (by
        have h : hd (.op "," :: r) "," = true := h;dsimp only [nO];rw [if_pos h,aLa,bV hP,aM])
       walk_at "h";walk_at "h";refine ⟨g,rfl,⟨ga,fW hga⟩,?_⟩;walk_at "h";refine Mi F (some r) hg' _ _ _ _ _ (Jt (UH (Ul (Up 0 18) U1)<|UH (Ul U2 U0)<|UH (Ul U3 U2)<|UH (Ul U4 U3)<|UH (Uq (Up 5 1) U1)<|UG (Ul (Up 4 11) U5)) rfl hn hn1 JG yj hdn) fun v' Px o2 _ => ?_;have RG := RG.step (g := fun t r => andThen (nO (jL cC) (ga ++ [t]) r) Dy) o2 fun r e => rfl;have hl6 := cT o2.le;walk_at "h";refine ⟨ga,fW hga,by rw [sizeLine_eq]; exact aCu XD,?_⟩;rw [dI _ _ _ hag,bI];walk_at "h";exact ⟨Px,by dsimp only; exact Ze hl6 Mj,hJ _ _ RG (by rw [aJt,aJu]; exact aCv XD hl6 Mj)⟩
      ·walk_at "h";refine hR xQ ga (RG.congr fun r e => ?_) (by omega) (iR (UH (Ul (.a U0 U1) (Un 1001))<|UG (Ul U0 (Un 1001))) rfl XD);dsimp only [nO];rw [if_neg (R8 e h),aB]
     ·intro xQ ga RG yP XD;have hg := Fd.le RG.le;have JG := bY RG.le;walk_at "p";walk_at "a";refine bH (fun C' => ∀ (Px : LS),bJ aQ (fM cC) (fun r => if hd r ")" then some (.lst ga,r.tail) else none) Px -> cB Px <= cB aQ -> C' [some (V.mut a),some (V.int 4),some (V.int kind),none,some (V.mut b),some (V.mut g),none] (aH (aH (aH σ b acc) g ga) a (cU Px))) ?_ ?_
      ·intro R' hR;walk_at "h";refine nQ (xs := ga) (fW hga) (iR (UH (Ul (Un 20000000) U0)<|UH (Ul U1 (Un 1001))<|UG (Ut U1 U0)) rfl Jx XD) ?_;walk_at "h";refine bA (fun z => ?_) (fun z => ?_)
       ·walk_at "h";refine oA F (jk hn hdn) hg ?_;walk_at "h";exact hR none (RG.bad fun r e => if_pos (by show ga.length < 2; exact aBq z)) (aKk _)
       ·walk_at "h";exact hR xQ (RG.congr fun r e => if_neg (by show ¬ ga.length < 2; exact aLl (aBr (aKd.mp z)))) yP
      ·intro Px RG Mj;have hg := Fd.le RG.le;have JG := bY RG.le;walk_at "p";refine jP F (Uw hn hdn) hg (by decide +kernel) ?_;have RG := RG.need (f' := fun r => some (.lst ga,r)) fun r e => rfl;have hl6 := cT (qR (st := Px) (s := ")"));generalize vX Px ")" = aJd at RG hl6;have R2 := R1.step (g := fun t r => andThen (nO (fM cC) (acc ++ [t]) r) fin) RG.out fun r e => rfl;refine ⟨g,ga,rfl,(fW hga),?_⟩;rw [gA hag,bU hg1];walk_at "h";walk_at "h";refine ⟨b,rfl,⟨acc,fW hba⟩,?_⟩;walk_at "h";refine ⟨acc,fW hba,by rw [sizeLine_eq]; exact lb1 hacc,?_⟩;rw [dI _ _ _ hab,bI];walk_at "h";exact ⟨(aJd,false),lb2 (aJw (aMh (aJw hl6 Mj) _) hl1),hJ _ _ _ (by simp) R2 (by rw [aJt,aJu]; exact lb3 hacc hl1 (aJw hl6 Mj))⟩
   ·walk_at "h";rw [aLt] at hc;obtain ⟨rfl,hc⟩ := hc;refine hR s' acc gp (R.congr fun r e => ?_);show andThen (nO (fM cC) acc r) fin = _;dsimp only [nO];rw [if_neg (R8 e hc),aB]
 ·intro s' acc gp R;refine ⟨b,acc,rfl,(fW hba),?_⟩;rw [gA hab,bU hbn];walk_at "h";walk_at "h";exact q _ _ R.out
end Mine
namespace Mine
variable {G : eX} {c : Cfg G} {σ : aW} {X : Prop}
section
variable (F : Facts G) {t : Str} (H : jQ t)
include H
theorem S9 {Q : KV} (hn : 2 <= c.n) (q : ∀ b,σ b = none -> Q (.mut b) (aH σ b (cU (fX t.cps.toList)))) :
  aR c (.ref (F.a .Nm)) [.str t] σ Q X := by
 have hlen := H.len;have hsz := jQ.size (t := t);refine aN F .Nm rfl rfl (j9 hn) fun d hdn hW => ?_;intro b hb;walk_at "a";refine bH (fun C' => ∀ (ts : List Tk) (en : Option V) (k : Nat),fX t.cps.toList = some ts -> C' [some (V.str t),some (V.mut b),some (V.int (k : Nat)),en] (aH σ b (cU (some ts)))) ?_ ?_
 ·intro R' hR;walk_at "a";refine cO (ι := Nat) (fun k C' => ∀ (ts : List Tk) (en : Option V),fX t.cps.toList = (fX (t.cps.toList.drop k)).map (ts ++ ·) -> k <= t.length -> ts.length <= k -> C' [some (V.str t),some (V.mut b),some (V.int (k : Nat)),en] (aH σ b (cU (some ts)))) (fun k => t.length - k) 0 (fun C' k => k [] _ (by rw [aKe]; cases fX t.cps.toList <;> simp) (aKk _) (aJr _)) (fun _ x0 x1 x2 x3 x4 C' k => k x0 x1 x2 x3 x4) ?_;intro J hJ k ts en hs h1 h2;refine vA (Mx Jx hlen) ?_;refine bA (fun z => ?_) (fun z => ?_)
  ·have z : k < t.length := by exact Ux z
   have zk := z;obtain ⟨ch,e1,e2,e3⟩ := H.at z;have hr : t.cps.toList.drop (k + 1) = t.cps.toList.drop (k + 1) := rfl;rw [e3,iK] at hs;walk_at "a";refine bH (fun C' => ∀ (e : Nat) (tk : Tk),eO ch (t.cps.toList.drop (k + 1)) = some (tk,t.cps.toList.drop e) -> k < e -> e <= t.length -> fO tk = ⟨((t.cps.toList.drop k).take (e - k)).toArray⟩ -> C' [some (V.str t),some (V.mut b),some (V.int (k : Nat)),some (V.int (e : Nat))] (aH σ b (cU (some ts)))) ?_ ?_
   ·intro R' hR;refine iH (Uo) (H9 hlen z) (by simpa using e1) ?_;refine TP (zW ch e2) ?_;cases hL : Lw ch
    ·refine iH (Uo) (H9 hlen z) (by simpa using e1) ?_;refine TP (nU ch e2) ?_;cases hD : isD ch
     ·refine iH (Uo) (H9 hlen z) (by simpa using e1) ?_;refine bA (fun z => absurd z (Ja ch e2)) (fun _ => ?_);refine iH (Uo) (H9 hlen z) (by simpa using e1) ?_;refine TP (Ss ch e2) ?_;generalize hr : t.cps.toList.drop (k + 1) = r at e3;have one : ¬ ((ch = 42 \/ ch = 47) /\ r.head? = some ch) -> eO ch r = some (.op ⟨#[ch]⟩,r) /\ fO (.op ⟨#[ch]⟩) = ⟨((t.cps.toList.drop k).take (k + 1 - k)).toArray⟩ := fun h => by
       refine ⟨?_,?_⟩
       ·unfold eO; rw [hL,hD]; simp only [aKg,if_false,if_neg h]
       ·rw [show k + 1 - k = 1 from by exact aJq (u6 (aJo (Kv))) (u9 gY),e3]; rfl
      refine jO (fun z => ?_) (fun z => ?_)
      ·have z' : ch = 42 \/ ch = 47 := by simpa using z
       refine ⟨by rw [sizeLine_eq]; exact Cr hlen,?_⟩;rw [show ((k : Int) + 1 + 1) = ((k + 1 + 1 : Nat) : Int) from rfl,show ((k : Int) + 1) = ((k + 1 : Nat) : Int) from rfl,Gh H,hr];refine iH (Uo) (H9 hlen zk) (by simpa using e1) ?_;have eqv : ((⟨(r.take 1).toArray⟩ : Str) = ⟨#[ch]⟩) ↔ r.head? = some ch := by
        cases r with
        | nil => simp
        | cons a r => simp
       refine bA (fun y => ?_) (fun y => ?_)
       ·have y' := eqv.mp y;refine hR (k + 2) (.op ⟨#[ch,ch]⟩) ?_ (iy) ?_ ?_
        ·unfold eO; rw [hL,hD,hr]; simp only [aKg,if_false,if_pos (And.intro z' y')];rw [<- hr,tail_drop]
        ·have : r ≠ [] := fun w => by rw [w] at y'; cases y'
         rw [<- hr] at this;have := mt aJz this;exact aCa hsz (aLx this)
        ·rw [show k + 2 - k = 2 from by exact aJq (aBy (aJo (aBx))) (aBz gY),e3];cases r with
         | nil => cases y'
         | cons a r2 => cases y'; rfl
       ·have := one (fun w => y (eqv.mpr w.2));exact hR (k + 1) _ (by rw [hr]; exact this.1) (m6) zk this.2
      ·have z' : ¬ (ch = 42 \/ ch = 47) := by simpa using z
       have := one (fun w => z' w.1);exact hR (k + 1) _ (by rw [hr]; exact this.1) (m6) zk this.2
     ·have hrun : (t.cps.toList.drop k).takeWhile isD = ch :: (t.cps.toList.drop (k + 1)).takeWhile isD := by rw [e3,aKb,if_pos hD]
      have hdr : (t.cps.toList.drop k).dropWhile isD = (t.cps.toList.drop (k + 1)).dropWhile isD := by rw [e3,aKj,if_pos hD]
      have hle := yJ isD (t.cps.toList.drop k);rw [aKi,hsz] at hle;walk_at "a";refine bH (fun C' => C' [some (V.str t),some (V.mut b),some (V.int (k : Nat)),some (V.int (k + ((t.cps.toList.drop k).takeWhile isD).length : Nat))] (aH σ b (cU (some ts)))) ?_ ?_
      ·intro R' hR;walk_at "a";refine cO (ι := Nat) (fun e C' => k + ((t.cps.toList.drop k).takeWhile isD).length = e + ((t.cps.toList.drop e).takeWhile isD).length -> e <= t.length -> C' [some (V.str t),some (V.mut b),some (V.int (k : Nat)),some (V.int (e : Nat))] (aH σ b (cU (some ts)))) (fun e => t.length - e) (k + 1) (fun C' k => k (by rw [hrun,aJs]; exact aJq (JX) (JW)) zk) (fun _ x0 x1 C' k => k x0 x1) ?_;intro J hJ e he h1;refine vA (Mx Jx hlen) ?_;refine bA (fun z => ?_) (fun z => ?_)
       ·have z : e < t.length := by exact Ux z
        obtain ⟨Q6,e1,e2,e3⟩ := H.at z;rw [e3,aKb] at he;refine iH (Uo) (H9 hlen z) (by simpa using e1) ?_;refine TP (nU Q6 e2) ?_;cases hc : isD Q6
        ·rw [hc] at he;refine O6 ?_ hR;rw [he]; rfl
        ·rw [hc,if_pos rfl,aJs] at he;exact ⟨e + 1,aMo z (aKa _),hJ _ (aJq (jl he) (jm he)) z⟩
       ·have : e = t.length := by exact aJq (h1) (gw (aKd.mp z))
        subst this;refine O6 ?_ hR;rw [he,aJz (by rw [hsz]; exact aJr _)]; rfl
      ·refine hR (k + ((t.cps.toList.drop k).takeWhile isD).length) (.num ⟨(ch :: (t.cps.toList.drop (k + 1)).takeWhile isD).toArray⟩ (NumText.digitsVal (ch :: (t.cps.toList.drop (k + 1)).takeWhile isD) : Nat)) ?_ ?_ (aOq (aKz zk) hle) ?_
       ·unfold eO; rw [hL,hD]; simp only [aKg,if_false,if_true];rw [<- hdr, <- uH,aMi]
       ·rw [hrun,aJs]; exact Z92
       ·rw [show k + ((t.cps.toList.drop k).takeWhile isD).length - k = ((t.cps.toList.drop k).takeWhile isD).length from by exact aJq (jq (aJo (jo))) (jr gY),uG,hrun]
    ·have hLD : mJ ch = true := by unfold mJ; rw [hL]; rfl
     have hrun : (t.cps.toList.drop k).takeWhile mJ = ch :: (t.cps.toList.drop (k + 1)).takeWhile mJ := by rw [e3,aKb,if_pos hLD]
     have hdr : (t.cps.toList.drop k).dropWhile mJ = (t.cps.toList.drop (k + 1)).dropWhile mJ := by rw [e3,aKj,if_pos hLD]
     have hle := yJ mJ (t.cps.toList.drop k);rw [aKi,hsz] at hle;walk_at "a";refine bH (fun C' => C' [some (V.str t),some (V.mut b),some (V.int (k : Nat)),some (V.int (k + ((t.cps.toList.drop k).takeWhile mJ).length : Nat))] (aH σ b (cU (some ts)))) ?_ ?_
     ·intro R' hR;walk_at "a";refine cO (ι := Nat) (fun e C' => k + ((t.cps.toList.drop k).takeWhile mJ).length = e + ((t.cps.toList.drop e).takeWhile mJ).length -> e <= t.length -> C' [some (V.str t),some (V.mut b),some (V.int (k : Nat)),some (V.int (e : Nat))] (aH σ b (cU (some ts)))) (fun e => t.length - e) (k + 1) (fun C' k => k (by rw [hrun,aJs]; exact aJq (JX) (JW)) zk) (fun _ x0 x1 C' k => k x0 x1) ?_;intro J hJ e he h1;refine vA (Mx Jx hlen) ?_;refine bA (fun z => ?_) (fun z => ?_)
      ·have z : e < t.length := by exact Ux z
       obtain ⟨Q6,e1,e2,e3⟩ := H.at z;rw [e3,aKb] at he;refine iH (Uo) (H9 hlen z) (by simpa using e1) ?_;refine nR (by rw [show (aJp "ABCDEFGHIJKLMNOPQRSTUVWXYZ").length = 26 from by decide +kernel,show (aJp "0123456789").length = 10 from by decide +kernel,sizeLine_eq]; exact aBt) ?_;refine TP (Yb Q6 e2) ?_;cases hc : mJ Q6
       ·rw [hc] at he;refine O6 ?_ hR;rw [he]; rfl
       ·rw [hc,if_pos rfl,aJs] at he;exact ⟨e + 1,aMo z (aKa _),hJ _ (aJq (jl he) (jm he)) z⟩
      ·have : e = t.length := by exact aJq (h1) (gw (aKd.mp z))
       subst this;refine O6 ?_ hR;rw [he,aJz (by rw [hsz]; exact aJr _)]; rfl
     ·refine bA (fun z => ?_) (fun z => ?_)
      ·have : eO ch (t.cps.toList.drop (k + 1)) = none := by
        unfold eO; rw [hL,if_pos rfl, <- hrun,if_pos (aBu z)]
       rw [this] at hs;rw [hs] at q;refine ⟨b,?_⟩;rw [bU hb];intro b2 hb2;exact q b2 hb2
      ·refine hR (k + ((t.cps.toList.drop k).takeWhile mJ).length) (.name ⟨(ch :: (t.cps.toList.drop (k + 1)).takeWhile mJ).toArray⟩) ?_ ?_ (aOq (aKz zk) hle) ?_
       ·unfold eO; rw [hL,if_pos rfl, <- hrun,if_neg (aLl (aBv (aKd.mp z)))];rw [<- hdr, <- uH,aMi]
       ·rw [hrun,aJs]; exact Z92
       ·rw [show k + ((t.cps.toList.drop k).takeWhile mJ).length - k = ((t.cps.toList.drop k).takeWhile mJ).length from by exact aJq (jq (aJo (jo))) (jr gY),uG,hrun]
   ·intro e tk a1 a2 a3 a4;rw [a1] at hs;simp only [aMj] at hs;refine ⟨b,rfl,⟨_,aC _ _ _⟩,?_⟩;refine ⟨by rw [sizeLine_eq]; exact Cr hlen,?_⟩;rw [uF, <- a4];have el : (cU (some ts)).length = ts.length := by unfold cU sL Qc; simp
    refine ⟨cU (some ts),aC _ _ _,by rw [el,sizeLine_eq]; exact aCb hlen a3 h2 a2,?_⟩;rw [bI,show cU (some ts) ++ [V.str (fO tk)] = cU (some (ts ++ [tk])) from by unfold cU sL Qc; simp];refine ⟨e,by dsimp only; exact aEk (aJo (a3)) a2 gY,hJ _ (ts ++ [tk]) _ ?_ a3 (by rw [aJt,aJu]; exact aCc h2 a2)⟩
    ·rw [hs]; congr 1; funext l; simp
  ·have : k = t.length := by exact aJq (h1) (gw (aKd.mp z))
   subst this;refine hR ts _ _ ?_;rw [hs,aJz (by rw [hsz]; exact aJr _)];rw [fH]; simp
 ·intro ts en k hs;rw [hs] at q;exact q b hb
end
end Mine
namespace Mine
theorem T3 {c : Nat} {r : List Nat} {t : Tk} {r' : List Nat} (hc : c ∈ pY) (hl : r.length < 600) (h : eO c r = some (t,r')) : Wf t := by
 have h0 := h;unfold eO at h;split at h
 ·rename_i h1;split at h
  ·exact aK h
  ·obtain ⟨rfl,rfl⟩ := aZ h;refine .name rfl h1 hc fun z => ?_;have := (yO _ z).2.2.1;rw [show dX (⟨(c :: r.takeWhile mJ).toArray⟩ : Str) = c from rfl,h1] at this;cases this
 ·rename_i h1;split at h
  ·rename_i h2;obtain ⟨rfl,rfl⟩ := aZ h;have hlen := yJ isD r;refine .num rfl (by simpa using h1) h2 hc (fun z => ?_) (PySem.intText_digits (zG h2) (List.cons_ne_nil _ _) (by rw [yR,aJs]; exact iR (UH (Ul U0 U1)<|UH (Ut U1 (Un 600))<|UG (Ul (Up 0 1) (Un 4300))) rfl hlen hl)) (by rw [yR,aJs]; exact iR (UH (Ul U0 U1)<|UH (Ut U1 (Un 600))<|UG (Ul (Up 0 1) (Un 640))) rfl hlen hl);have := (yO _ z).2.2.2;rw [show dX (⟨(c :: r.takeWhile isD).toArray⟩ : Str) = c from rfl,h2] at this;cases this
  ·have : ∃ s,t = .op s := by
    split at h <;> obtain ⟨rfl,rfl⟩ := aZ h <;> exact ⟨_,rfl⟩
   obtain ⟨s,rfl⟩ := this;exact .op (Yd hc h0)
theorem Tg {c : Nat} {r : List Nat} {t : Tk} {r' : List Nat} (h : eO c r = some (t,r')) : r' <:+ r := by
 unfold eO at h;split at h
 ·split at h
  ·exact aK h
  ·obtain ⟨rfl,rfl⟩ := aZ h; exact aOr _
 ·split at h
  ·obtain ⟨rfl,rfl⟩ := aZ h; exact aOr _
  ·split at h
   ·obtain ⟨rfl,rfl⟩ := aZ h; exact aOa _
   ·obtain ⟨rfl,rfl⟩ := aZ h; exact aNa _
theorem Ti : ∀ (n : Nat) (cs : List Nat) (ts : List Tk),cs.length <= n -> n <= 600 -> (∀ c ∈ cs,c ∈ pY) -> fX cs = some ts -> (∀ t ∈ ts,Wf t) /\ ts.length <= cs.length := by
 intro n;induction n with
 | zero =>
  intro cs ts hn _ _ h;cases cs with
  | nil => rw [fH] at h; obtain rfl := aJn h; exact ⟨(fun t z => by cases z),aJr _⟩
  | cons c r => exact absurd hn (Nat.not_succ_le_zero _)
 | succ n ih =>
  intro cs ts hn hn' ha h;cases cs with
  | nil => rw [fH] at h; obtain rfl := aJn h; exact ⟨(fun t z => by cases z),aJr _⟩
  | cons c r =>
   rw [aJs] at hn;rw [iK] at h;cases h1 : eO c r with
   | none => rw [h1] at h; exact aK h
   | some p =>
    obtain ⟨t,r'⟩ := p;rw [h1] at h;obtain ⟨ts',h2,h3⟩ := aKc.mp h;subst h3;have hs := Tg h1;have hle := hs.length_le;obtain ⟨g1,g2⟩ := ih r' ts' (KH hn hle) (eU (UH (Ul (Up 0 1) (Un 600))<|UG (Ul U0 (Un 600))) rfl hn') (fun x hx => ha x (List.mem_cons_of_mem _ (hs.subset hx))) h2;refine ⟨fun u hu => ?_,by rw [aJs,aJs]; exact gP (UH (Ul U0 U1)<|UH (Ul U1 U2)<|UG (Ul (Up 0 1) (Up 2 1))) rfl g2 hle⟩;rcases aKf.mp hu with e | e
    ·subst e; exact T3 (ha c (.head _)) (iR (UH (Ul (Up 0 1) (Un 600))<|UH (Ul (Up 1 1) (Up 0 1))<|UG (Ut U1 (Un 600))) rfl hn' hn) h1
    ·exact g1 u e
theorem XF {t : Str} (H : jQ t) : bZ (fX t.cps.toList) := by
 cases h : fX t.cps.toList with
 | none => trivial
 | some ts =>
  have hl := H.len;have := Ti 600 _ _ (by rw [jQ.size]; exact H.len) (aJr _) H.al h;exact ⟨this.1,by have := this.2; rw [jQ.size] at this; exact Zd hl this⟩
end Mine
namespace Mine
inductive Ag (y z : List Tk) : Nat -> List Tk -> List Tk -> Prop
 | nil (d : Nat) : Ag y z d [] []
 | stop : Ag y z 0 (.op ")" :: y) (.op ")" :: z)
 | EY {d : Nat} {a b : List Tk} : Ag y z (d + 1) a b -> Ag y z d (.op "(" :: a) (.op "(" :: b)
 | cls {d : Nat} {a b : List Tk} : Ag y z d a b -> Ag y z (d + 1) (.op ")" :: a) (.op ")" :: b)
 | oth {d : Nat} {a b : List Tk} (t : Tk) : t ≠ .op "(" -> t ≠ .op ")" -> Ag y z d a b -> Ag y z d (t :: a) (t :: b)
variable {y z : List Tk} {d : Nat} {a b : List Tk}
theorem Et {s s' : Str} (h : s ≠ s') : Tk.op s ≠ Tk.op s' := fun e => h (by cases e; rfl)
theorem xO : (aJp "(") ≠ aJp ")" := by decide +kernel
theorem Ag.head (h : Ag y z d a b) : a.head? = b.head? := by cases h <;> rfl
theorem Yk (l : List Tk) (s : Str) : hd l s = match l.head? with | some (.op x) => decide (x = s) | _ => false := by
 cases l with
 | nil => rfl
 | cons t r => cases t <;> rfl
theorem Ag.hd (h : Ag y z d a b) (s : Str) : hd a s = hd b s := by rw [Yk,Yk,h.head]
theorem Eu (l : List Tk) : cA l = match l.head? with | some (.op x) => some x | _ => none := by
 cases l with
 | nil => rfl
 | cons t r => cases t <;> rfl
theorem Ag.cA (h : Ag y z d a b) : cA a = cA b := by rw [Eu,Eu,h.head]
theorem Ag.sign (h : Ag y z d a b) : fZ a = fZ b := by unfold fZ; rw [h.hd,h.hd]
theorem vM {x s : Str} {r : List Tk} (h : hd (.op x :: r) s = true) : x = s := of_decide_eq_true h
theorem Yl {t : Tk} {r : List Tk} {s : Str} (h : hd (t :: r) s = true) : t = .op s := by
 cases t with
 | name _ => cases h
 | num _ _ => cases h
 | op x => rw [vM h]
theorem Ag.sX {s : Str} (h : Ag y z d a b) (e : Mine.hd a s = true) (h1 : s ≠ "(") (h2 : s ≠ ")") : Ag y z d a.tail b.tail := by
 cases h with
 | nil => exact .nil _
 | stop => exact absurd (vM e).symm h2
 | EY _ => exact absurd (vM e).symm h1
 | cls _ => exact absurd (vM e).symm h2
 | oth t _ _ k => exact k
theorem Ag.oE (h : Ag y z d a b) (e : Mine.hd a "(" = true) : Ag y z (d + 1) a.tail b.tail := by
 cases h with
 | nil => cases e
 | stop => exact absurd (vM e).symm xO
 | EY k => exact k
 | cls _ => exact absurd (vM e).symm xO
 | oth t h1 _ k => exact absurd (Yl e) h1
theorem Ag.vN (h : Ag y z (d + 1) a b) (e : Mine.hd a ")" = true) : Ag y z d a.tail b.tail := by
 cases h with
 | nil => cases e
 | EY _ => exact absurd (vM e) xO
 | cls k => exact k
 | oth t _ h1 k => exact absurd (Yl e) h1
noncomputable def rF (y z : List Tk) (d : Nat) (x x' : Option (V × List Tk)) : Prop := (x = none /\ x' = none) \/ ∃ v a b,x = some (v,a) /\ x' = some (v,b) /\ Ag y z d a b
noncomputable def iQ (y z : List Tk) (p : P) : Prop := ∀ d a b,Ag y z d a b -> rF y z d (p a) (p b)
theorem rF.no : rF y z d none none := .inl ⟨rfl,rfl⟩
theorem rF.yes {v : V} (h : Ag y z d a b) : rF y z d (some (v,a)) (some (v,b)) := .inr ⟨v,a,b,rfl,rfl,h⟩
theorem rF.bind {d' : Nat} {x x' : Option (V × List Tk)} {f : V -> P} (h : rF y z d x x') (k : ∀ v a b,Ag y z d a b -> rF y z d' (f v a) (f v b)) : rF y z d' (andThen x f) (andThen x' f) := by
 rcases h with ⟨rfl,rfl⟩ | ⟨v,a,b,rfl,rfl,h⟩
 ·exact .no
 ·exact k v a b h
theorem rF.ite {p p' : Bool} {x x' w w' : Option (V × List Tk)} (e : p = p') (h1 : p = true -> rF y z d x x') (h2 : p = false -> rF y z d w w') : rF y z d (if p then x else w) (if p' then x' else w') := by
 subst e;cases p
 ·exact h2 rfl
 ·exact h1 rfl
theorem Jj {E : P} (hE : iQ y z E) (h : Ag y z (d + 1) a b) : rF y z d (gM E a) (gM E b) :=
 (hE _ _ _ h).bind fun v a b h => .ite (h.hd _) (fun e => .yes (h.vN e)) (fun _ => .no)
theorem Ym {prim : P} (hs : eH prim) (hp : iQ y z prim) : iQ y z (jF prim) := by
 have key : ∀ n d a b,a.length < n -> Ag y z d a b -> rF y z d (jF prim a) (jF prim b) := by
  intro n;induction n with
  | zero => intro d a b h; exact (Fg h).elim
  | succ n ih =>
   intro d a b hn h;rw [vD hs,vD hs];rcases hp _ _ _ h with ⟨e1,e2⟩ | ⟨v,a',b',e1,e2,h'⟩
   ·rw [e1,e2]; exact .no
   ·rw [e1,e2,aB,aB];unfold tR;refine .ite (h'.hd _) (fun e => ?_) (fun _ => .yes h');have := hs _ _ _ e1;have := bM a';exact (ih _ _ _ (aEu (by assumption) (by assumption) hn) (h'.sX e (by decide +kernel) (by decide +kernel))).bind fun v a b h => .yes h
 exact fun d a b h => key _ _ _ _ (aKa _) h
theorem Jk {ops : Str -> Bool} {sub : P} (ho : ∀ o,ops o = true -> o ≠ "(" /\ o ≠ ")") (hs : eH sub) (hp : iQ y z sub) : ∀ tree,iQ y z (eV ops sub tree) := by
 have key : ∀ n tree d a b,a.length < n -> Ag y z d a b -> rF y z d (eV ops sub tree a) (eV ops sub tree b) := by
  intro n;induction n with
  | zero => intro tree d a b h; exact (Fg h).elim
  | succ n ih =>
   intro tree d a b hn h;cases e : cA a with
   | none =>
    rw [fK (fun o q => by rw [e] at q; exact aK q),fK (fun o q => by rw [<- h.cA,e] at q; exact aK q)];exact .yes h
   | some o =>
    cases e2 : ops o with
    | false =>
     rw [fK (fun o q => by rw [e] at q; obtain rfl := aJn q; exact e2),fK (fun o q => by rw [<- h.cA,e] at q; obtain rfl := aJn q; exact e2)];exact .yes h
    | true =>
     rw [iZ hs e e2,iZ hs (h.cA ▸ e) e2];have h1 := h.sX (gU.mpr e) (ho o e2).1 (ho o e2).2;have := oZ e;rcases hp _ _ _ h1 with ⟨e1,e2⟩ | ⟨v,a',b',e1,e2,h'⟩
     ·rw [e1,e2]; exact .no
     ·rw [e1,e2,aB,aB];have := hs _ _ _ e1;exact ih _ _ _ _ (jX (UH (Ut U0 (Up 1 1))<|UH (Ut U2 U0)<|UH (Ut U3 U2)<|UG (Ut U3 U1)) rfl hn (by assumption) (by assumption)) h'
 exact fun tree d a b h => key _ _ _ _ _ (aKa _) h
theorem yq : ∀ o,mF o = true -> o ≠ "(" /\ o ≠ ")" := fun o h => by
 unfold mF at h;rcases aKn.mp h with q | q <;> rw [decide_eq_true_eq] at q <;> subst q <;> decide +kernel
theorem yr : ∀ o,lH o = true -> o ≠ "(" /\ o ≠ ")" := fun o h => by
 unfold lH at h;rcases aKn.mp h with q | q <;> rw [decide_eq_true_eq] at q <;> subst q <;> decide +kernel
theorem yt : ∀ o,rZ o = true -> o ≠ "(" /\ o ≠ ")" := fun o h => by
 unfold rZ at h;rw [decide_eq_true_eq] at h; subst h; decide +kernel
theorem Jl {prim : P} (hs : eH prim) (hp : iQ y z prim) : iQ y z (fG prim) := fun d a b h =>
 (Ym hs hp d a b h).bind fun v a b h => Jk yq (pA hs) (Ym hs hp) v d a b h
theorem GJ {o : Str} (h : Ag y z d a b) (e : fZ a = some o) : Ag y z d a.tail b.tail := by
 unfold fZ at e;split at e
 ·rename_i e1; exact h.sX e1 (by decide +kernel) (by decide +kernel)
 ·split at e
  ·rename_i e1; exact h.sX e1 (by decide +kernel) (by decide +kernel)
  ·exact aK e
theorem Wk {prim : P} (hs : eH prim) (hp : iQ y z prim) : iQ y z (iY prim) := fun d a b h => by
 unfold iY;rw [<- h.sign];cases e : fZ a with
 | none => exact Jl hs hp d a b h
 | some o => exact (Jl hs hp _ _ _ (GJ h e)).bind fun v a b h => .yes h
theorem Yn {prim : P} (hs : eH prim) (hp : iQ y z prim) : iQ y z (nT prim) := fun d a b h =>
 (Wk hs hp d a b h).bind fun v a b h => Jk yr (mD hs) (Jl hs hp) v d a b h
theorem XH {prim : P} (hs : eH prim) (hp : iQ y z prim) : iQ y z (sG prim) := fun d a b h =>
 (Yn hs hp d a b h).bind fun v a b h => Jk yt (qO hs) (Yn hs hp) v d a b h
theorem T4 (h : Ag y z d a b) : (Ey a).1 = (Ey b).1 /\ Ag y z d (Ey a).2 (Ey b).2 := by
 unfold Ey;rw [<- h.hd, <- h.hd];split
 ·rename_i e; exact ⟨rfl,h.sX e (by decide +kernel) (by decide +kernel)⟩
 ·split
  ·rename_i e; exact ⟨rfl,h.sX e (by decide +kernel) (by decide +kernel)⟩
  ·exact ⟨rfl,h⟩
theorem Ml : iQ y z nA := fun d a b h => by
 obtain ⟨h1,h2⟩ := T4 h;unfold nA;rw [<- h1];generalize (Ey a).2 = a' at h2;generalize (Ey b).2 = b' at h2;cases h2 with
 | nil => exact .no
 | stop => exact .no
 | EY _ => exact .no
 | cls _ => exact .no
 | oth t _ _ k => cases t with
  | name s => exact .no
  | num ds n => exact .yes k
  | op s => exact .no
theorem XJ (h : Ag y z d a b) (e : hd a "(" = true) : rF y z d (sH a) (sH b) :=
 (Ml _ _ _ (h.oE e)).bind fun v a b h => .ite (h.hd _) (fun e => (Ml _ _ _ (h.sX e (by decide +kernel) (by decide +kernel))).bind fun v a b h => .ite (h.hd _) (fun e => .yes (h.vN e)) fun _ => .no) fun _ => .no
theorem Tj {E : P} (hE : iQ y z E) (h : Ag y z d a b) (e : hd a "(" = true) : rF y z d (dM E a) (dM E b) := by
 unfold dM;rcases XJ h e with ⟨e1,e2⟩ | ⟨v,a',b',e1,e2,h'⟩
 ·rw [e1,e2]; exact Jj hE (h.oE e)
 ·rw [e1,e2]; exact .yes h'
theorem XK : ∀ {n : Nat} {a b : List Tk},Ag y z n a b -> ∀ (d k : Nat) (f : Bool),n = d + k -> 1 <= k -> lF k f a = lF k f b := by
 intro n a b h;induction h with
 | nil d => intro d k f e hk; rfl
 | stop => intro d k f e hk; exact (iR (UH (Ul (Un 1) U0)<|UH (Uq (Un 0) (.a U1 U0))<|HL.g 0 .f) rfl hk e).elim
 | EY _ ih => intro d k f e hk; unfold lF; rw [if_pos rfl,if_pos rfl]; exact ih d (k + 1) f (aJq (gP (UH (Ue U0 (.a U1 U2))<|UG (Ul (Up 0 1) (.a U1 (Up 2 1)))) rfl e) (gP (UH (Uq U0 (.a U1 U2))<|UG (Ul (.a U1 (Up 2 1)) (Up 0 1))) rfl e)) (Z96)
 | cls _ ih =>
  intro d k f e hk; unfold lF;rw [if_neg (Et (Ne.symm xO)),if_neg (Et (Ne.symm xO)),if_pos rfl,if_pos rfl];by_cases hk1 : k = 1
  ·rw [if_pos hk1,if_pos hk1]
  ·rw [if_neg hk1,if_neg hk1]; exact ih d (k - 1) f (aJq (jX (UH (Ue (Up 0 1) (.a U1 U2))<|UH (Ul U2 (Up 3 1))<|UG (Ul U0 (.a U1 U3))) rfl e gY) (jX (UH (Ue (Up 0 1) U1)<|UH (Uq (Up 2 1) (.a U3 U1))<|UG (Ul (.a U3 U0) U2)) rfl (aJo (hk)) e)) (Ak hk hk1)
 | oth t h1 h2 _ ih =>
  intro d k f e hk; unfold lF;rw [if_neg h1,if_neg h1,if_neg h2,if_neg h2];exact ih d k _ e hk
theorem Tn {E : P} (s : Str) (hE : iQ y z E) : iQ y z (mH s E) := fun d a b h => .ite (h.hd _) (fun _ => .yes h) fun _ => hE _ _ _ h
theorem Yo {E : P} (hE : iQ y z E) (base : V) (h : Ag y z d a b) (e : hd a "(" = true) : rF y z d (wO E base a) (wO E base b) :=
 (Tn _ hE _ _ _ (h.oE e)).bind fun v a b h => .ite (h.hd _) (fun e => (Tn _ hE _ _ _ (h.sX e (by decide +kernel) (by decide +kernel))).bind fun v a b h => .ite (h.hd _) (fun e => .yes (h.vN e)) fun _ => .no) fun _ => .no
theorem XM {p : P} (hs : eH p) (hp : iQ y z p) : ∀ acc,iQ y z (eN p acc) := by
 have key : ∀ n acc d a b,a.length < n -> Ag y z d a b -> rF y z d (eN p acc a) (eN p acc b) := by
  intro n;induction n with
  | zero => intro acc d a b h; exact (Fg h).elim
  | succ n ih =>
   intro acc d a b hn h;rw [bV hs acc a,bV hs acc b];rcases hp _ _ _ h with ⟨e1,e2⟩ | ⟨v,a',b',e1,e2,h'⟩
   ·rw [e1,e2]; exact .no
   ·rw [e1,e2,aB,aB];refine .ite (h'.hd _) (fun e => ?_) (fun _ => .yes h');have := hs _ _ _ e1;have := bM a';exact ih _ _ _ _ (aEu (by assumption) (by assumption) hn) (h'.sX e (by decide +kernel) (by decide +kernel))
 exact fun acc d a b h => key _ _ _ _ _ (aKa _) h
theorem XQ {E : P} (hs : eH E) (hE : iQ y z E) (h : Ag y z d a b) (e : hd a "(" = true) : rF y z d (pB E a) (pB E b) :=
 .ite ((h.oE e).hd _) (fun e2 => .yes ((h.oE e).vN e2)) fun _ => Jj (XM hs hE []) (h.oE e)
theorem GK {E : P} (hs : eH E) (hE : iQ y z E) (s : Str) (h : Ag y z d a b) (e : hd a "(" = true) : rF y z d (jA E s a) (jA E s b) := by
 unfold jA;rw [<- XK (h.oE e) d 1 false rfl (aJr _)];cases lF 1 false a.tail with
 | none => exact .no
 | some f => cases f with
  | true => exact Yo hE _ h e
  | false => exact (XQ hs hE h e).bind fun v a b h => .ite (h.hd _) (fun e => Yo hE _ h e) fun _ => .yes h
theorem GP {E : P} (hs : eH E) (hE : iQ y z E) : iQ y z (iB E) := fun d a b h => by
 cases h with
 | nil => exact .no
 | stop => exact .no
 | EY _ => exact .no
 | cls _ => exact .no
 | oth t _ _ k => cases t with
  | name s => exact .ite (k.hd _) (fun e => GK hs hE s k e) fun _ => .yes k
  | num ds n => exact .no
  | op s => exact .no
theorem XR {E : P} (hs : eH E) (hE : iQ y z E) : iQ y z (bB E) := fun d a b h => by
 have no : ∀ {s : Str} {r : List Tk},s ≠ "(" -> bB E (.op s :: r) = none := fun h => if_neg h;have h0 := h;cases h with
 | nil => exact .no
 | stop => rw [no (Ne.symm xO),no (Ne.symm xO)]; exact .no
 | EY _ =>
  have yes : ∀ r,bB E (.op "(" :: r) = dM E (.op "(" :: r) := fun r => by
   show (if (aJp "(") = aJp "(" then dM E (.op "(" :: r) else none) = _;exact if_pos rfl
  rw [yes,yes];exact Tj hE h0 (show decide ((aJp "(") = aJp "(") = true from decide_eq_true rfl)
 | cls _ => rw [no (Ne.symm xO),no (Ne.symm xO)]; exact .no
 | oth t h1 _ k => cases t with
  | name s => exact GP hs hE d _ _ h0
  | num ds n => exact .yes k
  | op s =>
   have : s ≠ "(" := fun e => h1 (by rw [e]);rw [no this,no this]; exact .no
theorem XS : ∀ n,iQ y z (gE n)
 | 0 => fun _ _ _ _ => .no
 | n + 1 => XH (tZ (dZ n)) (XR (dZ n) (XS n))
end Mine
namespace Mine
theorem sY {p : Nat -> Bool} {x : Nat} (hx : p x = false) (b : List Nat) : ∀ l : List Nat,(l ++ x :: b).takeWhile p = l.takeWhile p
 | [] => by rw [aMd,aKb,hx]; rfl
 | c :: l => by
  rw [aLo,aKb,aKb];split
  ·rw [sY hx b l]
  ·rfl
theorem sZ {p : Nat -> Bool} {x : Nat} (hx : p x = false) (b : List Nat) : ∀ l : List Nat,(l ++ x :: b).dropWhile p = l.dropWhile p ++ x :: b
 | [] => by rw [aMd,aKj,hx]; rfl
 | c :: l => by
  rw [aLo,aKj,aKj];split
  ·rw [sZ hx b l]
  ·rfl
theorem YB (b : List Nat) (c : Nat) (r : List Nat) : eO c (r ++ 41 :: b) = (eO c r).map fun p => (p.1,p.2 ++ 41 :: b) := by
 unfold eO;rw [sY (by decide),sZ (by decide),sY (by decide),sZ (by decide)];split
 ·split <;> rfl
 ·split
  ·rfl
  ·cases r with
   | nil =>
    rw [aMd];by_cases h : c = 42 \/ c = 47
    ·rw [if_neg fun ⟨_,z⟩ => absurd ((aJn z).symm ▸ h : 41 = 42 \/ 41 = 47) (by decide),if_neg fun ⟨_,z⟩ => aK z]; rfl
    ·rw [if_neg (fun q => h q.1),if_neg (fun q => h q.1)]; rfl
   | cons a r =>
    rw [aLo];by_cases h : (c = 42 \/ c = 47) /\ some a = some c
    ·rw [if_pos (show (c = 42 \/ c = 47) /\ (a :: (r ++ 41 :: b)).head? = some c from h),if_pos (show (c = 42 \/ c = 47) /\ (a :: r).head? = some c from h)]; rfl
    ·rw [if_neg (show ¬ ((c = 42 \/ c = 47) /\ (a :: (r ++ 41 :: b)).head? = some c) from h),if_neg (show ¬ ((c = 42 \/ c = 47) /\ (a :: r).head? = some c) from h)]; rfl
theorem Bu : (⟨#[41]⟩ : Str) = ")" := by decide +kernel
theorem Bv : (⟨#[40]⟩ : Str) = "(" := by decide +kernel
theorem Tp : (⟨#[44]⟩ : Str) = "," := by decide +kernel
theorem Yp : (⟨#[42]⟩ : Str) = "*" := by decide +kernel
theorem qG {c : Nat} {s : Str} (r : List Nat) (h1 : Lw c = false) (h2 : isD c = false) (h3 : ¬ ((c = 42 \/ c = 47) /\ r.head? = some c)) (hs : (⟨#[c]⟩ : Str) = s) : fX (c :: r) = (fX r).map (.op s :: ·) := by
 rw [iK];have : eO c r = some (.op s,r) := by
  unfold eO;rw [h1,h2];simp only [aKg,if_false];rw [if_neg h3,hs]
 rw [this]
theorem Mp (b : List Nat) : ∀ (n : Nat) (a : List Nat),a.length <= n -> fX (a ++ 41 :: b) = (fX a).bind fun x => (fX b).map fun w => x ++ .op ")" :: w := by
 intro n;induction n with
 | zero =>
  intro a hn;have : a = [] := aKu.mp (aJq (hn) (Z9));subst this;rw [aMd,qG b (by decide) (by decide) (fun q => absurd q.1 (by decide)) Bu,fH];rfl
 | succ n ih =>
  intro a hn;cases a with
  | nil =>
   rw [aMd,qG b (by decide) (by decide) (fun q => absurd q.1 (by decide)) Bu,fH];rfl
  | cons c r =>
   rw [aJs] at hn;rw [aLo,iK,iK,YB];cases h : eO c r with
   | none => rfl
   | some p =>
    obtain ⟨t,r'⟩ := p;have := Bo h;show (fX (r' ++ 41 :: b)).map (t :: ·) = ((fX r').map (t :: ·)).bind fun x => (fX b).map fun w => x ++ .op ")" :: w;rw [ih r' (KH hn this)];cases fX r' with
    | none => rfl
    | some x => cases fX b <;> rfl
noncomputable def Uh : Nat -> List Nat -> Option Nat
 | d,[] => some d
 | d,c :: r => if c = 40 then Uh (d + 1) r else if c = 41 then (if d = 0 then none else Uh (d - 1) r) else Uh d r
theorem Tq (r : List Nat) (d m : Nat) (h : dN (d + 1) r = some m) : ∃ u,r = u ++ 41 :: r.drop m /\ m = u.length + 1 /\ Uh d u = some 0 := by
 induction r generalizing d m with
 | nil => cases h
 | cons c r ih =>
  unfold dN at h;split at h
  ·rename_i e;obtain ⟨x,h1,h2⟩ := aKc.mp h;obtain ⟨u,g1,g2,g3⟩ := ih (d + 1) x h1;subst h2;refine ⟨c :: u,?_,by rw [aJs]; exact aJq (lq g2) (lu g2),by unfold Uh; rw [if_pos e]; exact g3⟩;rw [aMp,aLo, <- g1]
  ·rename_i e;split at h
   ·rename_i e2;split at h
    ·rename_i e3;obtain rfl := aJn h;have : d = 0 := by exact aJq (eU (UH (Ue (Up 0 1) (Un 1))<|UG (Ul U0 (Un 0))) rfl e3) (Z9)
     subst this; subst e2;exact ⟨[],rfl,rfl,rfl⟩
    ·rename_i e3;obtain ⟨x,h1,h2⟩ := aKc.mp h;obtain ⟨d',rfl⟩ := exs e3;obtain ⟨u,g1,g2,g3⟩ := ih d' x h1;subst h2;refine ⟨c :: u,?_,by rw [aJs]; exact aJq (lq g2) (lu g2),by unfold Uh; rw [if_neg e,if_pos e2,if_neg (aOh (Z84))]; exact g3⟩;rw [aMp,aLo, <- g1]
   ·rename_i e2;obtain ⟨x,h1,h2⟩ := aKc.mp h;obtain ⟨u,g1,g2,g3⟩ := ih d x h1;subst h2;refine ⟨c :: u,?_,by rw [aJs]; exact aJq (lq g2) (lu g2),by unfold Uh; rw [if_neg e,if_neg e2]; exact g3⟩;rw [aMp,aLo, <- g1]
theorem uJ {c : Nat} (h1 : c ≠ 40) (h2 : c ≠ 41) (d : Nat) (r : List Nat) : Uh d (c :: r) = Uh d r := by
 rw [Uh,if_neg h1,if_neg h2]
theorem Ow {p : Nat -> Bool} (h1 : p 40 = false) (h2 : p 41 = false) (d : Nat) : ∀ r : List Nat,Uh d (r.dropWhile p) = Uh d r
 | [] => rfl
 | c :: r => by
  rw [aKj];split
  ·rename_i e;rw [Ow h1 h2 d r,uJ (fun q => by subst q; rw [h1] at e; cases e) (fun q => by subst q; rw [h2] at e; cases e)]
  ·rfl
theorem qH {c : Nat} (h1 : c ≠ 40) (h2 : c ≠ 41) {d : Nat} {r : List Nat} (h : dN d (c :: r) = none) : dN d r = none := by
 rw [dN,if_neg h1,if_neg h2] at h;exact aMw.mp h
theorem Jm {p : Nat -> Bool} (h1 : p 40 = false) (h2 : p 41 = false) {d : Nat} : ∀ r : List Nat,dN d r = none -> dN d (r.dropWhile p) = none
 | [],h => h
 | c :: r,h => by
  rw [aKj];split
  ·rename_i e;exact Jm h1 h2 r (qH (fun q => by subst q; rw [h1] at e; cases e) (fun q => by subst q; rw [h2] at e; cases e) h)
  ·exact h
theorem Dz {c : Nat} {r : List Nat} {t : Tk} {r' : List Nat} (h : eO c r = some (t,r')) :
  (c = 40 /\ t = .op "(" /\ r' = r) \/ (c = 41 /\ t = .op ")" /\ r' = r) \/ (t ≠ .op "(" /\ t ≠ .op ")" /\ (∀ d,Uh d (c :: r) = Uh d r') /\ ∀ d,dN d (c :: r) = none -> dN d r' = none) := by
 unfold eO at h;split at h
 ·rename_i h1;have n1 : c ≠ 40 := fun q => by subst q; cases h1
  have n2 : c ≠ 41 := fun q => by subst q; cases h1
  split at h
  ·exact aK h
  ·obtain ⟨rfl,rfl⟩ := aZ h;exact .inr (.inr ⟨(fun q => by cases q),(fun q => by cases q),(fun d => by rw [uJ n1 n2]; exact (Ow (by decide) (by decide) d _).symm),fun d q => Jm (by decide) (by decide) _ (qH n1 n2 q)⟩)
 ·split at h
  ·rename_i h1;have n1 : c ≠ 40 := fun q => by subst q; cases h1
   have n2 : c ≠ 41 := fun q => by subst q; cases h1
   obtain ⟨rfl,rfl⟩ := aZ h;exact .inr (.inr ⟨(fun q => by cases q),(fun q => by cases q),(fun d => by rw [uJ n1 n2]; exact (Ow (by decide) (by decide) d _).symm),fun d q => Jm (by decide) (by decide) _ (qH n1 n2 q)⟩)
  ·split at h
   ·rename_i h1;obtain ⟨rfl,rfl⟩ := aZ h;have n1 : c ≠ 40 := fun q => absurd (q ▸ h1.1 : 40 = 42 \/ 40 = 47) (by decide);have n2 : c ≠ 41 := fun q => absurd (q ▸ h1.1 : 41 = 42 \/ 41 = 47) (by decide);have n3 : Tk.op ⟨#[c,c]⟩ ≠ .op "(" := Et fun q => by
     have : (2 : Nat) = (aJp "(").cps.size := by rw [<- q]; rfl
     revert this; decide +kernel
    have n4 : Tk.op ⟨#[c,c]⟩ ≠ .op ")" := Et fun q => by
     have : (2 : Nat) = (aJp ")").cps.size := by rw [<- q]; rfl
     revert this; decide +kernel
    cases r with
    | nil => cases h1.2
    | cons a r =>
     cases h1.2
     exact .inr (.inr ⟨n3,n4,fun d => by rw [uJ n1 n2,uJ n1 n2]; rfl,fun d q => qH n1 n2 (qH n1 n2 q)⟩)
   ·obtain ⟨rfl,rfl⟩ := aZ h;by_cases n1 : c = 40
    ·subst n1; exact .inl ⟨rfl,by rw [Bv],rfl⟩
    ·by_cases n2 : c = 41
     ·subst n2; exact .inr (.inl ⟨rfl,by rw [Bu],rfl⟩)
     ·refine .inr (.inr ⟨Et fun q => n1 ?_,Et fun q => n2 ?_,fun d => uJ n1 n2 d _,fun d q => qH n1 n2 q⟩)
      ·rw [<- Bv] at q; cases q; rfl
      ·rw [<- Bu] at q; cases q; rfl
theorem yu {y z : List Tk} : ∀ (n : Nat) (u : List Nat) (x : List Tk) (d : Nat),u.length <= n -> fX u = some x -> Uh d u = some 0 -> Ag y z d (x ++ .op ")" :: y) (x ++ .op ")" :: z) := by
 intro n;induction n with
 | zero =>
  intro u x d hn h hd;have : u = [] := aKu.mp (aJq (hn) (Z9));subst this;rw [fH] at h; obtain rfl := aJn h; cases hd;exact .stop
 | succ n ih =>
  intro u x d hn h hd;cases u with
  | nil => rw [fH] at h; obtain rfl := aJn h; cases hd; exact .stop
  | cons c r =>
   rw [aJs] at hn;rw [iK] at h;cases h1 : eO c r with
   | none => rw [h1] at h; exact aK h
   | some p =>
    obtain ⟨t,r'⟩ := p;rw [h1] at h;obtain ⟨x',h2,rfl⟩ := aKc.mp h;have := Bo h1;rcases Dz h1 with ⟨rfl,rfl,rfl⟩ | ⟨rfl,rfl,rfl⟩ | ⟨n1,n2,n3,_⟩
    ·rw [Uh,if_pos rfl] at hd;exact .EY (ih _ _ _ (Uy hn) h2 hd)
    ·rw [Uh,if_neg (by decide),if_pos rfl] at hd;split at hd
     ·exact aK hd
     ·obtain ⟨d',rfl⟩ := aEx (d := d) (by assumption);exact .cls (ih _ _ _ (Uy hn) h2 hd)
    ·rw [n3] at hd;exact .oth t n1 n2 (ih _ _ _ (KH hn this) h2 hd)
theorem T5 {y z : List Tk} : ∀ (n : Nat) (u : List Nat) (x : List Tk) (d : Nat),u.length <= n -> fX u = some x -> dN (d + 1) u = none -> Ag y z d x x := by
 intro n;induction n with
 | zero =>
  intro u x d hn h hd;have : u = [] := aKu.mp (aJq (hn) (Z9));subst this;rw [fH] at h; obtain rfl := aJn h;exact .nil _
 | succ n ih =>
  intro u x d hn h hd;cases u with
  | nil => rw [fH] at h; obtain rfl := aJn h; exact .nil _
  | cons c r =>
   rw [aJs] at hn;rw [iK] at h;cases h1 : eO c r with
   | none => rw [h1] at h; exact aK h
   | some p =>
    obtain ⟨t,r'⟩ := p;rw [h1] at h;obtain ⟨x',h2,rfl⟩ := aKc.mp h;have := Bo h1;rcases Dz h1 with ⟨rfl,rfl,rfl⟩ | ⟨rfl,rfl,rfl⟩ | ⟨n1,n2,_,n3⟩
    ·rw [dN,if_pos rfl] at hd;exact .EY (ih _ _ _ (Uy hn) h2 (aMw.mp hd))
    ·rw [dN,if_neg (by decide),if_pos rfl] at hd;split at hd
     ·exact tD hd
     ·obtain ⟨d',rfl⟩ := exs (d := d) (by assumption);exact .cls (ih _ _ _ (Uy hn) h2 (aMw.mp hd))
    ·exact .oth t n1 n2 (ih _ _ _ (KH hn this) h2 (n3 _ hd))
theorem Ag.ends {y z : List Tk} {a b : List Tk} (h : Ag y z 0 a b) (e : Mine.hd a ")" = true) : a = .op ")" :: y /\ b = .op ")" :: z := by
 cases h with
 | nil => cases e
 | stop => exact ⟨rfl,rfl⟩
 | EY _ => exact absurd (vM e) xO
 | oth t _ h1 k => exact absurd (Yl e) h1
theorem Mq {y z a b : List Tk} (h : Ag y z 0 a b) : (gD cC (.op "(" :: a) = none /\ gD cC (.op "(" :: b) = none) \/ ∃ v,gD cC (.op "(" :: a) = some (v,y) /\ gD cC (.op "(" :: b) = some (v,z) := by
 have e : ∀ l,gD cC (.op "(" :: l) = if hd l "*" then (if hd l.tail ")" then some (.str "*",l.tail.tail) else none) else gM cC l := fun l => by
  show (if hd (.op "(" :: l) "(" then _ else none) = _;rw [if_pos (show hd (.op "(" :: l) "(" = true from by show decide ((aJp "(") = aJp "(") = true; exact decide_eq_true rfl)];rfl
 rw [e,e, <- h.hd];cases e1 : hd a "*"
 ·rw [if_neg (by decide),if_neg (by decide)];unfold gM;rcases XS 1000 _ _ _ h with ⟨g1,g2⟩ | ⟨v,a',b',g1,g2,h'⟩
  ·rw [show cC a = none from g1,show cC b = none from g2]; exact .inl ⟨rfl,rfl⟩
  ·rw [show cC a = _ from g1,show cC b = _ from g2,aB,aB, <- h'.hd];cases e2 : hd a' ")"
   ·exact .inl ⟨rfl,rfl⟩
   ·obtain ⟨rfl,rfl⟩ := h'.ends e2;exact .inr ⟨v,rfl,rfl⟩
 ·rw [if_pos rfl,if_pos rfl];have h' := h.sX e1 (by decide +kernel) (by decide +kernel);rw [<- h'.hd];cases e2 : hd a.tail ")"
  ·exact .inl ⟨rfl,rfl⟩
  ·obtain ⟨g1,g2⟩ := h'.ends e2;rw [g1,g2];exact .inr ⟨_,rfl,rfl⟩
end Mine
namespace Mine
theorem yQ (x : Option (V × List Tk)) (f : V -> V) : cP (andThen x fun v r => some (f v,r)) = (cP x).map f := by
 cases x with
 | none => rfl
 | some p =>
  obtain ⟨v,r⟩ := p;cases r <;> rfl
theorem Ac {f : Nat} (hf : f ≠ 3) (k : Int) (l : V) (ts : List Tk) : cP (jM f k l ts) = (cZ f ts).map (jW k l) := by
 unfold jM cZ;rw [yQ];unfold pN;rw [if_neg hf]
theorem Wm {c : Nat} {r : List Nat} {ts : List Tk} {s : Str} {k : Nat} (hs : (⟨#[k]⟩ : Str) = s) (h : fX (c :: r) = some ts) (e : hd ts s = true) : c = k /\ ¬ (c = 42 \/ c = 47) \/ c = k /\ r.head? ≠ some c := by
 rw [iK] at h;cases h1 : eO c r with
 | none => rw [h1] at h; exact aK h
 | some p =>
  obtain ⟨t,r'⟩ := p;rw [h1] at h;obtain ⟨x',h2,rfl⟩ := aKc.mp h;have ht := Yl e;subst ht;unfold eO at h1;split at h1
  ·split at h1 <;> cases h1
  ·split at h1
   ·cases h1
   ·split at h1
    ·rename_i e2;have e3 : (⟨#[c,c]⟩ : Str) = s := by cases h1; rfl
     have : (2 : Nat) = 1 := by
      have z : (⟨#[c,c]⟩ : Str).cps.size = (⟨#[k]⟩ : Str).cps.size := by rw [e3,hs]
      exact z
     exact absurd this (by decide)
    ·rename_i e2;have e3 : (⟨#[c]⟩ : Str) = s := by cases h1; rfl
     rw [<- hs] at e3;have e4 : c = k := by cases e3; rfl
     by_cases q : c = 42 \/ c = 47
     ·exact .inr ⟨e4,fun z => e2 ⟨q,z⟩⟩
     ·exact .inl ⟨e4,q⟩
theorem GQ (w : List Nat) : fX (dG w) = (fX w).map fun y => if hd y "," then y.tail else y := by
 unfold dG;cases w with
 | nil =>
  rw [if_neg (by simp),fH]; rfl
 | cons c r =>
  by_cases h : c = 44
  ·subst h;rw [if_pos (show (44 :: r).head? = some 44 from rfl),qG r (by decide) (by decide) (fun q => absurd q.1 (by decide)) Tp,aMj,aLa];have : ∀ x : List Tk,(if hd (.op "," :: x) "," then (Tk.op "," :: x).tail else .op "," :: x) = x := fun x => if_pos (by show decide ((aJp ",") = aJp ",") = true; exact decide_eq_true rfl);cases fX r with
   | none => rfl
   | some x => exact congrArg some (this x).symm
  ·rw [if_neg (fun q => h (by simpa using q))];cases e : fX (c :: r) with
   | none => rfl
   | some ts =>
    show some ts = some (if hd ts "," then ts.tail else ts);rw [if_neg];intro q;rcases Wm Tp e q with ⟨z,_⟩ | ⟨z,_⟩ <;> exact h z
theorem Pu (l : V) (w : List Nat) : ((fX (dG w)).bind (cZ 1)).map (jW 5 l) = (fX w).bind fun y => cP (jM 1 5 l (if hd y "," then y.tail else y)) := by
 rw [GQ];cases fX w with
 | none => rfl
 | some y =>
  show (cZ 1 (if hd y "," then y.tail else y)).map (jW 5 l) = cP (jM 1 5 l (if hd y "," then y.tail else y));rw [Ac (by decide)]
theorem Ad {ts : List Tk} (h : hd ts "*" = false) : cP (nH 5 ts) = (cZ 1 ts).map (jW 5 .none) := by
 unfold nH;rw [if_neg (by rw [h]; decide),Ac (by decide)]
theorem GR (ts : List Tk) : nH 5 (.op "*" :: ts) = andThen (gD cC ts) fun l r => jM 1 5 l (if hd r "," then r.tail else r) := by
 unfold nH;rw [if_pos (show hd (.op "*" :: ts) "*" = true from by show decide ((aJp "*") = aJp "*") = true; exact decide_eq_true rfl)];rfl
theorem T6 {t : Tk} {r : List Tk} (h1 : ∀ d n,t ≠ .num d n) (h2 : t ≠ .op "(") : gD cC (t :: r) = none := by
 cases t with
 | name s => rfl
 | num d n => exact absurd rfl (h1 d n)
 | op s =>
  show (if hd (.op s :: r) "(" then _ else none) = none;rw [if_neg];intro e;exact h2 (by rw [vM e])
theorem Cg (p : Nat -> Bool) : ∀ l : List Nat,(l.takeWhile p).dropWhile p = [] /\ (l.takeWhile p).takeWhile p = l.takeWhile p
 | [] => ⟨rfl,rfl⟩
 | c :: l => by
  rw [aKb];split
  ·rename_i q;rw [aKj,if_pos q,aKb,if_pos q,(Cg p l).1,(Cg p l).2];exact ⟨rfl,rfl⟩
  ·exact ⟨rfl,rfl⟩
theorem T7 (r : List Nat) (h : r.head? ≠ some 42) : (nG r).bind (fun p => ((fX (dG p.2)).bind (cZ 1)).map (jW 5 p.1)) = (fX r).bind fun ts => cP (andThen (gD cC ts) fun l r => jM 1 5 l (if hd r "," then r.tail else r)) := by
 cases r with
 | nil =>
  rw [fH];have : nG [] = none := by
   unfold nG;show ((fX []).bind fun ts => cP (gD cC ts)).map _ = none;rw [fH]; rfl
  rw [this]; rfl
 | cons c r =>
  by_cases hc : c = 40
  ·subst hc;have hl : fX (40 :: r) = (fX r).map (.op "(" :: ·) := qG r (by decide) (by decide) (fun q => absurd q.1 (by decide)) Bv;cases hcl : dN 1 r with
   | none =>
    have : nG (40 :: r) = none := by
     unfold nG;show ((dN 1 r).map (· + 1)).bind _ = none;rw [hcl]; rfl
    rw [this,hl];cases hx : fX r with
    | none => rfl
    | some x =>
     have ag : Ag [] [.op ")"] 0 x x := T5 _ r x 0 (aJr _) hx hcl;rcases Mq ag with ⟨g,_⟩ | ⟨v,g1,g2⟩
     ·show none = cP (andThen (gD cC (.op "(" :: x)) _);rw [g]; rfl
     ·rw [g1] at g2; cases g2
   | some m =>
    obtain ⟨u,e1,e2,e3⟩ := Tq r 0 m hcl;generalize hw : r.drop m = w at e1;have hlr : fX r = (fX u).bind fun x => (fX w).map fun y => x ++ .op ")" :: y := by rw [e1]; exact Mp w _ u (aJr _)
    have hS : nG (40 :: r) = ((fX u).bind fun x => cP (gD cC (.op "(" :: (x ++ [.op ")"])))).map fun l => (l,w) := by
     unfold nG;show ((dN 1 r).map (· + 1)).bind _ = _;rw [hcl];show ((fX (40 :: r.take m)).bind fun ts => cP (gD cC ts)).map (fun l => (l,r.drop m)) = _;have ht : r.take m = u ++ 41 :: [] := by
      rw [e1,e2,List.take_append,aKr (Kv),show u.length + 1 - u.length = 1 from by exact aJq (u6 (aJo (Kv))) (u9 gY)]; rfl
     rw [hw,ht,qG _ (by decide) (by decide) (fun q => absurd q.1 (by decide)) Bv,Mp [] _ u (aJr _),fH];cases fX u <;> rfl
    rw [hS,hl,hlr];cases hx : fX u with
    | none => rfl
    | some x =>
     show ((cP (gD cC (.op "(" :: (x ++ [.op ")"])))).map fun l => (l,w)).bind _ = (((fX w).map fun y => x ++ .op ")" :: y).map (.op "(" :: ·)).bind _;cases hy : fX w with
     | none =>
      cases cP (gD cC (.op "(" :: (x ++ [.op ")"]))) with
      | none => rfl
      | some l =>
       show ((fX (dG w)).bind (cZ 1)).map (jW 5 l) = none;rw [Pu,hy]; rfl
     | some y =>
      have ag : Ag y [] 0 (x ++ .op ")" :: y) (x ++ .op ")" :: []) := yu _ u x 0 (aJr _) hx e3;show ((cP (gD cC (.op "(" :: (x ++ [.op ")"])))).map fun l => (l,w)).bind _ = cP (andThen (gD cC (.op "(" :: (x ++ .op ")" :: y))) _);rcases Mq ag with ⟨g1,g2⟩ | ⟨v,g1,g2⟩
      ·rw [g1,g2]; rfl
      ·rw [g1,g2];show ((fX (dG w)).bind (cZ 1)).map (jW 5 v) = cP (jM 1 5 v (if hd y "," then y.tail else y));rw [Pu,hy]; rfl
  ·have hN : Er (c :: r) = some ((c :: r).takeWhile isD).length := by
    unfold Er;split
    ·rename_i e; cases e; exact absurd rfl hc
    ·rfl
   by_cases hD : isD c = true
   ·have hL : Lw c = false := by
     unfold isD at hD; unfold Lw;simp only [aLc,decide_eq_true_eq] at hD;rw [decide_eq_false (aOb (eU (UH (Ul U0 (Un 57))<|UG (Ut U0 (Un 65))) rfl hD.2)),Bool.false_and]
    have h1 : ∀ r',eO c r' = some (.num ⟨(c :: r'.takeWhile isD).toArray⟩ (NumText.digitsVal (c :: r'.takeWhile isD) : Nat),r'.dropWhile isD) := fun r' => by
     unfold eO;rw [hL,hD];simp only [aKg,if_false,if_true]
    have hl : ∀ r',fX (c :: r') = (fX (r'.dropWhile isD)).map (.num ⟨(c :: r'.takeWhile isD).toArray⟩ (NumText.digitsVal (c :: r'.takeWhile isD) : Nat) :: ·) := fun r' => by
     rw [iK,h1]
    have ht : (c :: r).takeWhile isD = c :: r.takeWhile isD := by rw [aKb,if_pos hD]
    have hd0 : (c :: r).dropWhile isD = r.dropWhile isD := by rw [aKj,if_pos hD]
    have hS : nG (c :: r) = (cP (gD cC [.num ⟨(c :: r.takeWhile isD).toArray⟩ (NumText.digitsVal (c :: r.takeWhile isD) : Nat)])).map fun l => (l,r.dropWhile isD) := by
     unfold nG;rw [hN];show ((fX ((c :: r).take ((c :: r).takeWhile isD).length)).bind fun ts => cP (gD cC ts)).map (fun l => (l,(c :: r).drop ((c :: r).takeWhile isD).length)) = _;rw [uG,uH,ht,hd0,hl,(Cg isD r).1,(Cg isD r).2,fH];rfl
    rw [hS,hl];generalize (NumText.digitsVal (c :: r.takeWhile isD) : Int) = n;have g : ∀ y d,gD cC (.num d n :: y) = if n = 0 then none else some (iV n,y) := fun y d => rfl
    rw [g];by_cases hn : n = 0
    ·rw [if_pos hn];cases fX (r.dropWhile isD) with
     | none => rfl
     | some y =>
      show none = cP (andThen (gD cC (.num _ n :: y)) _);rw [g,if_pos hn]; rfl
    ·rw [if_neg hn];show ((fX (dG (r.dropWhile isD))).bind (cZ 1)).map (jW 5 (iV n)) = _;rw [Pu];cases fX (r.dropWhile isD) with
     | none => rfl
     | some y =>
      show _ = cP (andThen (gD cC (.num _ n :: y)) _);rw [g,if_neg hn]; rfl
   ·have hS : nG (c :: r) = none := by
     unfold nG;rw [hN,aKb,if_neg hD];show ((fX []).bind fun ts => cP (gD cC ts)).map _ = none;rw [fH]; rfl
    rw [hS];cases hx : fX (c :: r) with
    | none => rfl
    | some ts =>
     show none = cP (andThen (gD cC ts) _);cases ts with
     | nil => rfl
     | cons t ts =>
      rw [T6]
      ·rfl
      ·rintro d n rfl;rw [iK] at hx;cases h1 : eO c r with
       | none => rw [h1] at hx; exact aK hx
       | some p =>
        rw [h1] at hx;obtain ⟨x',_,h3⟩ := aKc.mp hx;unfold eO at h1;split at h1
        ·split at h1
         ·exact aK h1
         ·obtain rfl := aJn h1; cases h3
        ·split at h1 <;> obtain rfl := aJn h1 <;> cases h3
      ·rintro rfl;rcases Wm Bv hx (by show decide ((aJp "(") = aJp "(") = true; exact decide_eq_true rfl) with ⟨q,_⟩ | ⟨q,_⟩ <;> exact hc q
theorem T8 (cs : List Nat) : Ma cs = (fX cs).bind fun ts => cP (nH 5 ts) := by
 unfold Ma;cases cs with
 | nil =>
  rw [if_neg (by simp),fH];exact (Ad rfl).symm
 | cons c r =>
  by_cases h : c = 42
  ·subst h;rw [if_pos (show (42 :: r).head? = some 42 from rfl),aLa];by_cases h2 : r.head? = some 42
   ·cases r with
    | nil => cases h2
    | cons a r =>
     cases h2
     have hS : nG (42 :: r) = none := by
      unfold nG;show ((fX []).bind fun ts => cP (gD cC ts)).map _ = none;rw [fH]; rfl
     rw [hS,iK];have : eO 42 (42 :: r) = some (.op ⟨#[42,42]⟩,r) := by
      unfold eO;rw [if_neg (show ¬ Lw 42 = true by decide),if_neg (show ¬ isD 42 = true by decide),if_pos (show ((42 : Nat) = 42 \/ (42 : Nat) = 47) /\ (42 :: r).head? = some 42 from ⟨.inl rfl,rfl⟩)]; rfl
     rw [this];show none = ((fX r).map (.op ⟨#[42,42]⟩ :: ·)).bind fun ts => cP (nH 5 ts);cases fX r with
     | none => rfl
     | some x =>
      show none = cP (nH 5 (.op ⟨#[42,42]⟩ :: x));have ns : hd (.op ⟨#[42,42]⟩ :: x) "*" = false := by show decide ((⟨#[42,42]⟩ : Str) = "*") = false; decide +kernel
      rw [Ad ns];unfold cZ;rw [bV (iJ (dZ 1000) 1),Bl (fun s r e => by cases e)];rfl
   ·rw [T7 r h2,qG r (by decide) (by decide) (fun q => h2 q.2) Yp];cases fX r with
    | none => rfl
    | some ts =>
     show _ = cP (nH 5 (.op "*" :: ts));rw [GR]; rfl
  ·rw [if_neg (fun q => h (by simpa using q))];cases hx : fX (c :: r) with
   | none => rfl
   | some ts =>
    show (cZ 1 ts).map _ = cP (nH 5 ts);rw [Ad];cases q : hd ts "*"
    ·rfl
    ·rcases Wm Yp hx q with ⟨z,_⟩ | ⟨z,_⟩ <;> exact absurd z h
end Mine
namespace Mine
variable {G : eX} {c : Cfg G} {ρ : En} {σ : aW} {X : Prop}
noncomputable def iL (ps : List Int) : List V := ps.map .int
noncomputable def wt1 (c : Nat) : Nat := if c = 40 then 10 else if c = 42 then 1 else 0
noncomputable def Us (l : List Nat) : Nat := (l.map wt1).sum
noncomputable def wtS (s : Str) : Nat := Us s.cps.toList
structure Row (k l w : Nat) (xs : List Str) : Prop where
 al : ∀ s ∈ xs, ∀ c ∈ s.cps.toList,c ∈ pY
 cnt : xs.length <= k
 len : (xs.map (·.length)).sum <= l
 wt : (xs.map wtS).sum <= w
theorem Row.nil : Row 0 0 0 [] := ⟨(fun s h => by cases h),aJr _,aJr _,aJr _⟩
theorem Row.app {k l w k' l' w' : Nat} {xs ys : List Str} (h : Row k l w xs) (h' : Row k' l' w' ys) : Row (k + k') (l + l') (w + w') (xs ++ ys) :=
 ⟨fun s hs => (aLi.mp hs).elim (h.al s) (h'.al s),by rw [aJt]; have := h.cnt; have := h'.cnt; exact qj (by assumption) (by assumption),
  by rw [aKt,aLb]; have := h.len; have := h'.len; exact qj (by assumption) (by assumption),by rw [aKt,aLb]; have := h.wt; have := h'.wt; exact qj (by assumption) (by assumption)⟩
theorem Row.mono {k l w k' l' w' : Nat} {xs : List Str} (h : Row k l w xs) (h1 : k <= k') (h2 : l <= l') (h3 : w <= w') : Row k' l' w' xs :=
 ⟨h.al,aJw h.cnt h1,aJw h.len h2,aJw h.wt h3⟩
theorem Row.cons {k l w k' l' w' : Nat} {s : Str} {ys : List Str} (h : Row k l w [s]) (h' : Row k' l' w' ys) : Row (k + k') (l + l') (w + w') (s :: ys) := h.app h'
noncomputable def T9 (k l w : Nat) (xs : List Str) : Bool := xs.all (fun s => s.cps.toList.all (fun c => pY.contains c)) && decide (xs.length <= k) && decide ((xs.map (·.length)).sum <= l) && decide ((xs.map wtS).sum <= w)
theorem Row.of {k l w : Nat} {xs : List Str} (h : T9 k l w xs = true) : Row k l w xs := by
 unfold T9 at h;simp only [aLc,decide_eq_true_eq,aKp,List.contains_iff_mem] at h;exact ⟨h.1.1.1,h.1.1.2,h.1.2,h.2⟩
theorem qU (xs ys : List Str) : sL xs ++ sL ys = sL (xs ++ ys) := by unfold sL; rw [aKt]
section
variable (F : Facts G) {p : Addr} {ps : List Int}
theorem cX {many : Int} {Q : KV} (hn : 1 <= c.n) (hl : ps.length <= 12) (hm : 0 < many) (hm2 : many < 1000) (q : ∀ d ps',0 <= d -> d < many -> ps'.length <= 12 -> Q (.int d) (aH σ p (iL ps'))) :
  aR c (.ref (F.a .cD)) [.mut p,.int many] (aH σ p (iL ps)) Q X := by
 refine aN F .cD rfl rfl (by omega) fun d hdn hW => ?_;refine nQ (xs := iL ps) (aC _ _ _) (by unfold iL; rw [aKw]; exact iR (UH (Ul (Un 20000000) U0)<|UH (Ul U1 (Un 12))<|UG (Ut U1 U0)) rfl Jx hl) ?_;cases ps with
 | nil =>
  refine jO (fun _ => ?_) (fun z => by cases z);exact q 0 [] (aCz) hm (by decide)
 | cons n ps =>
  refine jO (fun z => by unfold iL at z; simp at z; exact (eU (UH (UE (.a (.c U0) (.n 1)) (.n 0))<|HL.g 0 .f) rfl z).elim) (fun _ => ?_);refine vB (xs := iL (n :: ps)) (y := .int n) (aC _ _ _) (by decide) (by decide) rfl ?_;refine TG (aPf (hm)) ?_;refine vB (xs := iL (n :: ps)) (y := .int n) (aC _ _ _) (by decide) (by decide) rfl ?_;refine wg (aPf (hm)) (aLd (Int.natAbs_lt_natAbs_of_nonneg_of_lt (Int.le_of_lt hm) hm2) (by decide)) ?_;refine ⟨p,rfl,?_⟩;refine ⟨0,iL (n :: ps),rfl,aC _ _ _,by exact aCz,by unfold iL; rw [aKw,aJs]; exact eU (UG (UT (.n 0) (.c (Up 0 1)))) rfl,by unfold iL; rw [aKw,sizeLine_eq]; exact aDa hl,?_⟩;rw [bI,show (iL (n :: ps)).set (0 : Int).toNat (.int (n.fdiv many)) = iL (n.fdiv many :: ps) from rfl];have hd0 := Int.fmod_nonneg_of_pos n hm;have hd1 := Int.fmod_lt_of_pos n hm;refine vB (xs := iL (n.fdiv many :: ps)) (y := .int (n.fdiv many)) (aC _ _ _) (by decide) (by decide) rfl ?_;refine jO (fun z => ?_) (fun z => ?_)
  ·refine ⟨p,rfl,⟨_,aC _ _ _⟩,rfl,.int (n.fdiv many),iL ps,aC _ _ _,by unfold iL; rw [aKw,sizeLine_eq]; rw [aJs] at hl; exact eU (UH (Ul (Up 0 1) (Un 12))<|UG (Ut U0 (Un 16777216))) rfl hl,?_⟩;rw [bI];exact q _ ps hd0 hd1 (by rw [aJs] at hl; exact eU (UH (Ul (Up 0 1) (Un 12))<|UG (Ul U0 (Un 12))) rfl hl)
  ·exact q _ (n.fdiv many :: ps) hd0 hd1 (by rw [aJs] at hl ⊢; omega)
theorem Tr : ∀ {xs : List V} {n f : Nat} {y : V},n < f -> xs[n]? = some y -> Ld xs n f = some y
 | [],_,_,_,_,h => by simp at h
 | x :: r,0,f + 1,y,_,h => by simpa [Ld] using h
 | x :: r,n + 1,f + 1,y,hn,h => Tr (xs := r) (n := n) (f := f) (Nat.lt_of_succ_lt_succ hn) (by simpa using h)
theorem nJ {xs : List V} {i : Int} {y : V} {Q : KV} (h0 : 0 <= i) (h1 : i < 1000) (hy : xs[i.toNat]? = some y) (q : Q y σ) : Ej c X .item [.tup xs,.int i] σ Q := by
 obtain ⟨n,rfl⟩ := aNx h0;have e : opV .item [.tup xs,.int (n : Int)] = some y := Tr (eU (UH (UT (.c U0) (.n 1000))<|UG (Ut U0 (Un 1000))) rfl h1) hy;unfold Ej;rw [e];exact q
theorem U9 {d : Int} (h0 : 0 <= d) (h1 : d < 4) : Row 1 1 0 [aJp (toString d)] := by
 have : d = 0 \/ d = 1 \/ d = 2 \/ d = 3 := by exact gq (h0) (h1)
 rcases this with rfl | rfl | rfl | rfl <;> exact Row.of (by decide +kernel)
theorem YC {d : Int} (h0 : 0 <= d) (h1 : d < 12) : Row 1 2 0 [aJp (toString d)] := by
 have : d = 0 \/ d = 1 \/ d = 2 \/ d = 3 \/ d = 4 \/ d = 5 \/ d = 6 \/ d = 7 \/ d = 8 \/ d = 9 \/ d = 10 \/ d = 11 := by exact JL (h0) (h1)
 rcases this with rfl | rfl | rfl | rfl | rfl | rfl | rfl | rfl | rfl | rfl | rfl | rfl <;> exact Row.of (by decide +kernel)
theorem cu {d : Int} {a b e : Str} (h0 : 0 <= d) (h1 : d < 3) (ha : Row 1 2 0 [a]) (hb : Row 1 2 0 [b]) (he : Row 1 2 0 [e]) : ∃ s,([.str a,.str b,.str e] : List V)[d.toNat]? = some (.str s) /\ Row 1 2 0 [s] := by
 have : d = 0 \/ d = 1 \/ d = 2 := by exact aAn (h0) (h1)
 rcases this with rfl | rfl | rfl
 ·exact ⟨_,rfl,ha⟩
 ·exact ⟨_,rfl,hb⟩
 ·exact ⟨_,rfl,he⟩
theorem uK {Q : KV} (hn : 2 <= c.n) (hl : ps.length <= 12) (q : ∀ xs ps',Row 7 8 11 xs -> ps'.length <= 12 -> Q (.lst (sL xs)) (aH σ p (iL ps'))) :
  aR c (.ref (F.a .law_small)) [.mut p] (aH σ p (iL ps)) Q X := by
 refine aN F .law_small rfl rfl (j9 hn) fun d hdn hW => ?_;refine cX F (Gk hn hdn) hl (by decide) (by decide) fun d1 ps1 a1 b1 hl1 => ?_;refine Z8 ?_ ?_
 ·have : d1 = 0 \/ d1 = 1 \/ d1 = 2 \/ d1 = 3 := by exact gq (a1) (b1)
  rcases this with rfl | rfl | rfl | rfl <;> decide
 have r1 := U9 a1 b1;generalize aJp (toString d1) = n at r1;refine cX F (Gk hn hdn) hl1 (by decide) (by decide) fun d2 ps2 a2 b2 hl2 => ?_;obtain ⟨nm,e2,r2⟩ := cu (a := "N") (b := "A") (e := "X1") a2 b2 (Row.of (by decide +kernel)) (Row.of (by decide +kernel)) (Row.of (by decide +kernel));refine nJ a2 (Uz b2) e2 ?_;refine wj (by simp) (by simp) (ll (aMx rfl)) ?_;refine cX F (Gk hn hdn) hl2 (by decide) (by decide) fun d3 yW a3 b3 hl3 => ?_;have lit : ∀ {k l w : Nat} {s : Str},T9 k l w [s] = true -> Row k l w [s] := fun h => Row.of h;have key : ∃ xs,([V.lst [V.str n],V.lst [V.str nm],V.lst [V.str "-",V.str n],V.lst [V.str nm,V.str "+",V.str n],V.lst [V.str nm,V.str "(",V.str n,V.str ",",V.str nm,V.str ")"]] ++
   [V.lst [V.str "(",V.str nm,V.str "-",V.str n,V.str ")",V.str "*",V.str "2"],V.lst [V.str nm,V.str "**",V.str "2",V.str "**",V.str n],V.lst [V.str nm,V.str "(",V.str ":",V.str n,V.str ")"]] : List V)[d3.toNat]? = some (.lst (sL xs)) /\ Row 7 8 11 xs := by
  have t : ∀ {s : Str},T9 1 1 0 [s] = true -> Row 1 1 0 [s] := fun h => Row.of h;have o : Row 1 1 10 [(aJp "(")] := Row.of (by decide +kernel);have : d3 = 0 \/ d3 = 1 \/ d3 = 2 \/ d3 = 3 \/ d3 = 4 \/ d3 = 5 \/ d3 = 6 \/ d3 = 7 := by exact aHq (a3) (b3)
  rcases this with rfl | rfl | rfl | rfl | rfl | rfl | rfl | rfl
  ·exact ⟨[n],rfl,r1.mono (by decide) (by decide) (by decide)⟩
  ·exact ⟨[nm],rfl,r2.mono (by decide) (by decide) (by decide)⟩
  ·exact ⟨["-",n],rfl,((t (s := "-") (by decide +kernel)).cons r1).mono (by decide) (by decide) (by decide)⟩
  ·exact ⟨[nm, "+",n],rfl,(r2.cons ((t (s := "+") (by decide +kernel)).cons r1)).mono (by decide) (by decide) (by decide)⟩
  ·exact ⟨[nm, "(",n, ",",nm, ")"],rfl,(r2.cons (o.cons (r1.cons ((t (s := ",") (by decide +kernel)).cons (r2.cons (t (s := ")") (by decide +kernel))))))).mono (by decide) (by decide) (by decide)⟩
  ·exact ⟨["(",nm, "-",n, ")", "*", "2"],rfl,(o.cons (r2.cons ((t (s := "-") (by decide +kernel)).cons (r1.cons ((t (s := ")") (by decide +kernel)).cons ((lit (k := 1) (l := 1) (w := 1) (s := "*") (by decide +kernel)).cons (t (s := "2") (by decide +kernel)))))))).mono (by decide) (by decide) (by decide)⟩
  ·exact ⟨[nm, "**", "2", "**",n],rfl,(r2.cons ((lit (k := 1) (l := 2) (w := 2) (s := "**") (by decide +kernel)).cons ((t (s := "2") (by decide +kernel)).cons ((lit (k := 1) (l := 2) (w := 2) (s := "**") (by decide +kernel)).cons r1)))).mono (by decide) (by decide) (by decide)⟩
  ·exact ⟨[nm, "(", ":",n, ")"],rfl,(r2.cons (o.cons ((t (s := ":") (by decide +kernel)).cons (r1.cons (t (s := ")") (by decide +kernel)))))).mono (by decide) (by decide) (by decide)⟩
 obtain ⟨xs,e3,r3⟩ := key;refine nJ a3 (aO (c := .o) (d := (qY _)) (UH (UT (.v 0) (.n 8))<|UG (UT (.v 0) (.n 1000))) rfl b3) e3 ?_;exact q xs yW r3 hl3
end
end Mine
namespace Mine
variable {G : eX} {c : Cfg G} {ρ : En} {σ : aW} {X : Prop}
theorem rO : Row 1 1 10 [(aJp "(")] := Row.of (by decide +kernel)
theorem rC : Row 1 1 0 [(aJp ")")] := Row.of (by decide +kernel)
theorem dg : Row 1 1 0 [(aJp ",")] := Row.of (by decide +kernel)
theorem rD : Row 1 1 0 [(aJp ":")] := Row.of (by decide +kernel)
theorem rS : Row 1 1 1 [(aJp "*")] := Row.of (by decide +kernel)
theorem Fx {k l w : Nat} {xs : List Str} (h : Row k l w xs) (hk : k <= 1000) : (sL xs).length <= 1000 := by unfold sL; rw [aKw]; have := h.cnt; exact iR (UH (Ul U0 (Un 1000))<|UH (Ul U1 U0)<|UG (Ul U1 (Un 1000))) rfl hk this
section
variable (F : Facts G) {p : Addr} {ps : List Int}
theorem Yq {Q : KV} (hn : 3 <= c.n) (hl : ps.length <= 12) (q : ∀ xs ps',Row 10 11 22 xs -> ps'.length <= 12 -> Q (.lst (sL xs)) (aH σ p (iL ps'))) :
  aR c (.ref (F.a .Ax)) [.mut p] (aH σ p (iL ps)) Q X := by
 refine aN F .Ax rfl rfl (JC hn) fun d hdn hW => ?_;refine cX F (Ga hn hdn) hl (by decide) (by decide) fun d ps1 a1 b1 hl1 => ?_;refine jO (fun z => ?_) (fun z => ?_)
 ·refine cX F (Ga hn hdn) hl1 (by decide) (by decide) fun d1 ps2 a2 b2 hl2 => ?_;refine Z8 ?_ ?_
  ·have : d1 = 0 \/ d1 = 1 \/ d1 = 2 \/ d1 = 3 \/ d1 = 4 \/ d1 = 5 \/ d1 = 6 \/ d1 = 7 \/ d1 = 8 \/ d1 = 9 \/ d1 = 10 \/ d1 = 11 := by exact JL (a2) (b2)
   rcases this with rfl | rfl | rfl | rfl | rfl | rfl | rfl | rfl | rfl | rfl | rfl | rfl <;> decide
  exact q ["*",aJp (toString d1)] ps2 ((rS.cons (YC a2 b2)).mono (by decide) (by decide) (by decide)) hl2
 ·refine jO (fun z2 => ?_) (fun z2 => ?_)
  ·exact q ["*", "(", "*", ")"] ps1 (Row.of (by decide +kernel)) hl1
  ·refine jO (fun z3 => ?_) (fun z3 => ?_)
   ·refine uK F (Xa hn hdn) hl1 fun xs ps2 r hl2 => ?_;refine qN (xs := sL [(aJp "*"),aJp "("]) (ys := sL xs) aY aY (by have := Fx r (by decide); rw [sizeLine_eq]; show 2 + _ <= _; exact eU (UH (Ul U0 (Un 1000))<|UG (Ul (.a (Un 2) U0) (Un 16777216))) rfl this) ?_;rw [qU];refine qN (xs := sL ([(aJp "*"),aJp "("] ++ xs)) (ys := sL [")"]) aY aY (by have := Fx ((rS.cons rO).app r) (by decide); rw [sizeLine_eq]; show _ + 1 <= _; exact Zf this) ?_;rw [qU];exact q _ ps2 ((((rS.cons rO).app r).app rC).mono (by decide) (by decide) (by decide)) hl2
   ·exact q [] ps1 (Row.nil.mono (by decide) (by decide) (by decide)) hl1
theorem Mr {Q : KV} (hn : 3 <= c.n) (hl : ps.length <= 12) (q : ∀ xs ps',Row 33 37 54 xs -> ps'.length <= 12 -> Q (.lst (sL xs)) (aH σ p (iL ps'))) :
  aR c (.ref (F.a .zM)) [.mut p] (aH σ p (iL ps)) Q X := by
 refine aN F .zM rfl rfl (JC hn) fun d hdn hW => ?_;refine cX F (Ga hn hdn) hl (by decide) (by decide) fun d ps1 a1 b1 hl1 => ?_;refine ⟨d,rfl,by exact G4 a1 xR,by exact aEv xR b1,sV (fun i C' => ∀ (xs : List Str) (ps' : List Int) (t w b : Option V),ps'.length <= 12 -> i <= 2 -> Row (16 * i) (18 * i) (10 + 22 * i) xs -> ((i = 0 -> xs = [])) -> C' [some (V.mut p),some (V.lst (sL xs)),t,w,b] (aH σ p (iL ps'))) (fun C' k => k [] ps1 _ _ _ hl1 (mj) (Row.nil.mono (by decide) (by decide) (by decide)) (fun _ => rfl)) (fun _ x0 x1 x2 x3 x4 x5 x6 x7 x8 C' k => k x0 x1 x2 x3 x4 x5 x6 x7 x8) ?_ ?_⟩
 ·intro J hJ i hi xs ps' t w b hl' h2 hr h0;refine cX F (Ga hn hdn) hl' (by decide) (by decide) fun wy ps2 a2 b2 hl2 => ?_;walk_at "a";refine bH (fun C' => ∀ (ys : List Str) (ps' : List Int),ps'.length <= 12 -> Row 7 8 11 ys -> C' [some (V.mut p),some (V.lst (sL xs)),some (V.int (i : Nat)),some (V.int wy),some (V.lst (sL ys))] (aH σ p (iL ps'))) ?_ ?_
  ·intro R' hR;refine bA (fun z => ?_) (fun z => ?_)
   ·refine uK F (Xa hn hdn) hl2 fun ys yW r hl3 => ?_;exact hR ys yW hl3 r
   ·exact hR ["*"] ps2 hl2 (rS.mono (by decide) (by decide) (by decide))
  ·intro ys yW hl3 r;walk_at "a";refine bH (fun C' => ∀ (ys : List Str) (ps' : List Int),ps'.length <= 12 -> Row 15 17 22 ys -> ((wy = 2 -> Row 7 8 11 ys)) -> C' [some (V.mut p),some (V.lst (sL xs)),some (V.int (i : Nat)),some (V.int wy),some (V.lst (sL ys))] (aH σ p (iL ps'))) ?_ ?_
   ·intro R' hR;refine jO (fun z => ?_) (fun z => ?_)
    ·have z : wy = 1 := eq_of_beq z;refine qN (xs := sL ys) (ys := sL [(aJp ":")]) aY aY (by have := Fx r (by decide); rw [sizeLine_eq]; show _ + 1 <= _; exact Zf this) ?_;rw [qU];refine uK F (Xa hn hdn) hl3 fun zs Yr r2 yP => ?_;refine qN (xs := sL (ys ++ [(aJp ":")])) (ys := sL zs) aY aY (by have := Fx (r.app rD) (by decide); have := Fx r2 (by decide); rw [sizeLine_eq]; exact iR (UH (Ul U0 (Un 1000))<|UH (Ul U1 (Un 1000))<|UG (Ul (.a U0 U1) (Un 16777216))) rfl (by assumption) (by assumption)) ?_;rw [qU];exact hR _ Yr yP (((r.app rD).app r2).mono (by decide) (by decide) (by decide)) (fun y => by exact (aO (c := .o) (d := (qY _)) (UH (UE (.v 0) (.n 1))<|UH (UQ (.v 0) (.n 2))<|HL.g 0 .f) rfl z y).elim)
    ·exact hR ys yW hl3 (r.mono (by decide) (by decide) (by decide)) (fun _ => r)
   ·intro ys yW hl3 r r';walk_at "a";refine bH (fun C' => ∀ (ys : List Str),Row 15 17 22 ys -> C' [some (V.mut p),some (V.lst (sL xs)),some (V.int (i : Nat)),some (V.int wy),some (V.lst (sL ys))] (aH σ p (iL yW))) ?_ ?_
    ·intro R' hR;refine jO (fun z => ?_) (fun z => ?_)
     ·have z : wy = 2 := eq_of_beq z;refine qN (xs := sL ys) (ys := sL [(aJp ":"),aJp "*"]) aY aY (by have := Fx r (by decide); rw [sizeLine_eq]; show _ + 2 <= _; exact eU (UH (Ul U0 (Un 1000))<|UG (Ul (Up 0 2) (Un 16777216))) rfl this) ?_;rw [qU];exact hR _ (((r' z).app (rD.cons rS)).mono (by decide) (by decide) (by decide))
     ·exact hR ys r
    ·intro ys r;have hc := Fx hr (aDb h2);have hc2 := Fx r (by decide);refine jO (fun z => ?_) (fun z => ?_)
     ·have z : i = 0 := by have := eq_of_beq z; exact aJq (Z97 this) (Z9)
      have := h0 z;subst this; subst z;refine qN (xs := sL []) (ys := sL [(aJp "(")]) aY aY (ll (aMx rfl)) ?_;rw [qU];refine qN (xs := sL ([] ++ [(aJp "(")])) (ys := sL ys) aY aY (by rw [sizeLine_eq]; show 1 + _ <= _; exact eU (UH (Ul U0 (Un 1000))<|UG (Ul (.a (Un 1) U0) (Un 16777216))) rfl hc2) ?_;rw [qU];exact hJ _ _ yW _ _ _ hl3 (aO (c := .o) (d := .o) (UG (Ul (.a (Un 0) (Un 1)) (Un 2))) rfl) (((Row.nil.app rO).app r).mono (by decide) (by decide) (by decide)) (fun y => by exact (aO (c := .o) (d := .o) (UH (Ue (.a (Un 0) (Un 1)) (Un 0))<|HL.g 0 .f) rfl y).elim)
     ·have z : ¬ i = 0 := fun y => ne_of_beq_false z (congrArg aPe y);refine qN (xs := sL xs) (ys := sL [(aJp ",")]) aY aY (by rw [sizeLine_eq]; show _ + 1 <= _; exact Zf hc) ?_;rw [qU];have hc3 := Fx (hr.app dg) (eU (HL.h 16 (Ul U0 (Un 2))<|UG (Ul (.a (.m 16 U0) (Un 1)) (Un 1000))) rfl h2);refine qN (xs := sL (xs ++ [(aJp ",")])) (ys := sL ys) aY aY (by rw [sizeLine_eq]; exact iR (UH (Ul U0 (Un 1000))<|UH (Ul U1 (Un 1000))<|UG (Ul (.a U0 U1) (Un 16777216))) rfl hc3 hc2) ?_;rw [qU];exact hJ _ _ yW _ _ _ hl3 (H7 (aJy (a1)) b1 hi) (((hr.app dg).app r).mono (eU (UG (Ul (.a (.a (.m 16 U0) (Un 1)) (Un 15)) (.m 16 (Up 0 1)))) rfl) (eU (UG (Ul (.a (.a (.m 18 U0) (Un 1)) (Un 17)) (.m 18 (Up 0 1)))) rfl) (eU (UG (Ul (.a (.a (.a (Un 10) (.m 22 U0)) (Un 0)) (Un 22)) (.a (Un 10) (.m 22 (Up 0 1))))) rfl)) (fun y => by exact (eU (UH (Ue (Up 0 1) (Un 0))<|HL.g 0 .f) rfl y).elim)
 ·intro xs ps' t w b hl' h2 hr h0;have hc := Fx hr (aDb h2);refine oN (xs := sL xs) aY aY ?_;refine jO (fun z => ?_) (fun z => ?_)
  ·refine qN (xs := sL xs) (ys := sL [(aJp ")")]) aY aY (by rw [sizeLine_eq]; show _ + 1 <= _; exact Zf hc) ?_;rw [qU];exact q _ ps' ((hr.app rC).mono (eU (HL.h 16 (Ul U0 (Un 2))<|UG (Ul (.a (.m 16 U0) (Un 1)) (Un 33))) rfl h2) (eU (HL.h 18 (Ul U0 (Un 2))<|UG (Ul (.a (.m 18 U0) (Un 1)) (Un 37))) rfl h2) (eU (HL.h 22 (Ul U0 (Un 2))<|UG (Ul (.a (.a (Un 10) (.m 22 U0)) (Un 0)) (Un 54))) rfl h2)) hl'
  ·exact q _ ps' (hr.mono (eU (HL.h 16 (Ul U0 (Un 2))<|UG (Ul (.m 16 U0) (Un 33))) rfl h2) (eU (HL.h 18 (Ul U0 (Un 2))<|UG (Ul (.m 18 U0) (Un 37))) rfl h2) (eU (HL.h 22 (Ul U0 (Un 2))<|UG (Ul (.a (Un 10) (.m 22 U0)) (Un 54))) rfl h2)) hl'
end
end Mine
namespace Mine
variable {G : eX} {c : Cfg G} {ρ : En} {σ : aW} {X : Prop}
theorem Tt {d : Int} (h0 : 0 <= d) (h1 : d < 3) : ∃ s,([.str "A",.str "B",.str "C2"] : List V)[d.toNat]? = some (.str s) /\ Row 1 2 0 [s] := cu h0 h1 (Row.of (by decide +kernel)) (Row.of (by decide +kernel)) (Row.of (by decide +kernel))
theorem cJ {xs ys : List Str} {k l w k' l' w' : Nat} {Q : KV} (h1 : Row k l w xs) (h2 : Row k' l' w' ys) (hk : k + k' <= 1000) (q : Row (k + k') (l + l') (w + w') (xs ++ ys) -> Q (.lst (sL (xs ++ ys))) σ) :
  iU c X (.bin .Add) [.lst (sL xs),.lst (sL ys)] σ Q := by
 have a1 := h1.cnt;have a2 := h2.cnt;refine qN (xs := sL xs) (ys := sL ys) aY aY (by unfold sL; rw [aKw,aKw,sizeLine_eq]; exact jX (UH (Ul (.a U0 U1) (Un 1000))<|UH (Ul U2 U0)<|UH (Ul U3 U1)<|UG (Ul (.a U2 U3) (Un 16777216))) rfl hk a1 a2) ?_;rw [qU];exact q (h1.app h2)
noncomputable def nk (f : Int) : Nat := if f = 1 then 45 else 35
noncomputable def nl (f : Int) : Nat := if f = 1 then 51 else 40
noncomputable def nw (f : Int) : Nat := if f = 1 then 76 else 54
section
variable (F : Facts G) {p : Addr} {ps : List Int}
theorem Bw {form : Int} {Q : KV} (hn : 4 <= c.n) (hl : ps.length <= 12) (q : ∀ xs ps',Row (3 * nk form) (3 * nl form) (3 * nw form) xs -> ps'.length <= 12 -> Q (.lst (sL xs)) (aH σ p (iL ps'))) :
  aR c (.ref (F.a .xX)) [.mut p,.int form] (aH σ p (iL ps)) Q X := by
 have k1 : 35 <= nk form /\ nk form <= 45 /\ (form = 1 -> nk form = 45) := by unfold nk; split <;> simp_all
 have k2 : 40 <= nl form /\ nl form <= 51 /\ (form = 1 -> nl form = 51) := by unfold nl; split <;> simp_all
 have k3 : 54 <= nw form /\ nw form <= 76 /\ (form = 1 -> nw form = 76) := by unfold nw; split <;> simp_all
 refine aN F .xX rfl rfl (Z93 hn) fun d hdn hW => ?_;refine cX F (o8 hn hdn) hl (by decide) (by decide) fun d ps1 a1 b1 hl1 => ?_;refine ⟨1 + d,rfl,by exact H8 a1 xR,by exact ql xR b1,sV (fun i C' => ∀ (xs : List Str) (ps' : List Int) (t : Option V),ps'.length <= 12 -> i <= 3 -> Row (i * nk form) (i * nl form) (i * nw form) xs -> C' [some (V.mut p),some (V.int form),some (V.lst (sL xs)),t] (aH σ p (iL ps'))) (fun C' k => k [] ps1 _ hl1 (z7) (Row.nil.mono (mq) (mq) (mq))) (fun _ x0 x1 x2 x3 x4 x5 C' k => k x0 x1 x2 x3 x4 x5) ?_ ?_⟩
 ·intro J hJ i hi xs ps' t hl' h2 hr;have hik : i * nk form <= 90 := aJw (Nat.mul_le_mul (show i <= 2 by exact aO (c := (Yx _ _)) (d := (qY _)) (UH (UE (.c U0) (.a (.n 1) (.v 0)))<|UH (UT (.v 0) (.n 3))<|UH (Ut U1 U0)<|UG (Ul U1 (Un 2))) rfl (aJy (Qj a1)) b1 hi) k1.2.1) (by decide);have s1 : (i + 1) * nk form = i * nk form + nk form := aPg _ _;have s2 : (i + 1) * nl form = i * nl form + nl form := aPg _ _;have s3 : (i + 1) * nw form = i * nw form + nw form := aPg _ _;walk_at "a";refine bH (fun C' => ∀ (ys : List Str) (ps' : List Int),ps'.length <= 12 -> Row (i * nk form + 35) (i * nl form + 40) (i * nw form + 54) ys -> C' [some (V.mut p),some (V.int form),some (V.lst (sL ys)),some (V.int (i : Nat))] (aH σ p (iL ps'))) ?_ ?_
  ·intro R' hR;refine bA (fun z => ?_) (fun z => ?_)
   ·refine cJ hr dg (eU (UH (Ul U0 (Un 90))<|UG (Ul (Up 0 1) (Un 1000))) rfl hik) fun hr2 => ?_;refine cX F (o8 hn hdn) hl' (by decide) (by decide) fun d2 ps2 a2 b2 hl2 => ?_;obtain ⟨nm,e2,r2⟩ := Tt a2 b2;refine nJ a2 (Uz b2) e2 ?_;refine cJ (ys := [nm]) hr2 r2 (eU (UH (Ul U0 (Un 90))<|UG (Ul (.a (Up 0 1) (Un 1)) (Un 1000))) rfl hik) fun Km => ?_;refine Mr F (ig hn hdn) hl2 fun bs yW r3 hl3 => ?_;refine cJ Km r3 (eU (UH (Ul U0 (Un 90))<|UG (Ul (.a (.a (Up 0 1) (Un 1)) (Un 33)) (Un 1000))) rfl hik) fun GX => ?_;exact hR _ yW hl3 (GX.mono (eU (UG (Ul (.a (.a (Up 0 1) (Un 1)) (Un 33)) (Up 0 35))) rfl) (eU (UG (Ul (.a (.a (Up 0 1) (Un 2)) (Un 37)) (Up 0 40))) rfl) (aDc))
   ·refine cJ (ys := []) hr .nil (eU (UH (Ul U0 (Un 90))<|UG (Ul (Up 0 0) (Un 1000))) rfl hik) fun hr2 => ?_;refine cX F (o8 hn hdn) hl' (by decide) (by decide) fun d2 ps2 a2 b2 hl2 => ?_;obtain ⟨nm,e2,r2⟩ := Tt a2 b2;refine nJ a2 (Uz b2) e2 ?_;refine cJ (ys := [nm]) hr2 r2 (eU (UH (Ul U0 (Un 90))<|UG (Ul (.a (Up 0 0) (Un 1)) (Un 1000))) rfl hik) fun Km => ?_;refine Mr F (ig hn hdn) hl2 fun bs yW r3 hl3 => ?_;refine cJ Km r3 (eU (UH (Ul U0 (Un 90))<|UG (Ul (.a (.a (Up 0 0) (Un 1)) (Un 33)) (Un 1000))) rfl hik) fun GX => ?_;exact hR _ yW hl3 (GX.mono (eU (UG (Ul (.a (.a (Up 0 0) (Un 1)) (Un 33)) (Up 0 35))) rfl) (eU (UG (Ul (.a (.a (Up 0 0) (Un 2)) (Un 37)) (Up 0 40))) rfl) (aDc))
  ·intro ys ps2 hl2 r;refine jO (fun z => ?_) (fun z => ?_)
   ·have z : form = 1 := eq_of_beq z;have z1 := k1.2.2 z;have z2 := k2.2.2 z;have z3 := k3.2.2 z;refine Yq F (ig hn hdn) hl2 fun ss yW r3 hl3 => ?_;refine cJ r r3 (eU (UH (Ul U0 (Un 90))<|UG (Ul (.a (Up 0 35) (Un 10)) (Un 1000))) rfl hik) fun GX => ?_;exact hJ _ _ yW _ hl3 (Zh (aJy (Qj a1)) b1 hi) (GX.mono (gP (UH (Uq U0 (.a U1 U2))<|UH (Uq U2 (Un 45))<|UG (Ul (.a (Up 1 35) (Un 10)) U0)) rfl s1 z1) (gP (UH (Uq U0 (.a U1 U2))<|UH (Uq U2 (Un 51))<|UG (Ul (.a (Up 1 40) (Un 11)) U0)) rfl s2 z2) (gP (UH (Uq U0 (.a U1 U2))<|UH (Uq U2 (Un 76))<|UG (Ul (.a (Up 1 54) (Un 22)) U0)) rfl s3 z3))
   ·exact hJ _ _ ps2 _ hl2 (Zh (aJy (Qj a1)) b1 hi) (r.mono (gP (UH (Ul (Un 35) U0)<|UH (Uq U1 (.a U2 U0))<|UG (Ul (Up 2 35) U1)) rfl k1.1 s1) (gP (UH (Ul (Un 40) U0)<|UH (Uq U1 (.a U2 U0))<|UG (Ul (Up 2 40) U1)) rfl k2.1 s2) (gP (UH (Ul (Un 54) U0)<|UH (Uq U1 (.a U2 U0))<|UG (Ul (Up 2 54) U1)) rfl k3.1 s3))
 ·intro xs ps' t hl' h2 hr;have : (1 + d).toNat <= 3 := by omega
  exact q _ ps' (hr.mono (aNd _ this) (aNd _ this) (aNd _ this)) hl'
theorem GZ {Q : KV} (hn : 5 <= c.n) (hl : ps.length <= 12) (q : ∀ xs ps',Row 327 375 486 xs -> ps'.length <= 12 -> Q (.lst (sL xs)) (aH σ p (iL ps'))) :
  aR c (.ref (F.a .zN)) [.mut p] (aH σ p (iL ps)) Q X := by
 have n1 : nk 3 = 35 := rfl;have n2 : nl 3 = 40 := rfl;have n3 : nw 3 = 54 := rfl;refine aN F .zN rfl rfl (aBw hn) fun d hdn hW => ?_;refine cX F (mz hn hdn) hl (by decide) (by decide) fun d ps1 a1 b1 hl1 => ?_;refine ⟨1 + d,rfl,by exact H8 a1 xR,by exact ql xR b1,sV (fun i C' => ∀ (xs : List Str) (ps' : List Int) (t b : Option V),ps'.length <= 12 -> i <= 3 -> Row (109 * i) (125 * i) (162 * i) xs -> C' [some (V.mut p),some (V.lst (sL xs)),t,b] (aH σ p (iL ps'))) (fun C' k => k [] ps1 _ _ hl1 (z7) (Row.nil.mono (aO (c := .o) (d := .o) (UG (Ul (Un 0) (.m 109 (Un 0)))) rfl) (aO (c := .o) (d := .o) (UG (Ul (Un 0) (.m 125 (Un 0)))) rfl) (aO (c := .o) (d := .o) (UG (Ul (Un 0) (.m 162 (Un 0)))) rfl))) (fun _ x0 x1 x2 x3 x4 x5 x6 C' k => k x0 x1 x2 x3 x4 x5 x6) ?_ ?_⟩
 ·intro J hJ i hi xs ps' t b hl' h2 hr;refine cX F (mz hn hdn) hl' (by decide) (by decide) fun d2 ps2 a2 b2 hl2 => ?_;have key : ∃ bs,([V.lst [],V.lst [V.str "//"],V.lst [V.str "/",V.str "B1",V.str "/"]] : List V)[d2.toNat]? = some (.lst (sL bs)) /\ Row 3 4 0 bs := by
   have : d2 = 0 \/ d2 = 1 \/ d2 = 2 := by exact aAn (a2) (b2)
   rcases this with rfl | rfl | rfl
   ·exact ⟨[],rfl,Row.of (by decide +kernel)⟩
   ·exact ⟨["//"],rfl,Row.of (by decide +kernel)⟩
   ·exact ⟨["/", "B1", "/"],rfl,Row.of (by decide +kernel)⟩
  obtain ⟨bs,e2,r2⟩ := key;refine nJ a2 (Uz b2) e2 ?_;refine oN (xs := sL xs) aY aY ?_;cases (sL xs).isEmpty
  ·refine cX F (mz hn hdn) hl2 (by decide) (by decide) fun d3 yW a3 b3 hl3 => ?_;refine jO (fun z => ?_) (fun z => ?_)
   ·refine cJ hr dg (eU (HL.h 109 (Ul U0 (Un 3))<|UG (Ul (.a (.m 109 U0) (Un 1)) (Un 1000))) rfl h2) fun hr2 => ?_;refine cJ hr2 r2 (eU (HL.h 109 (Ul U0 (Un 3))<|UG (Ul (.a (.a (.m 109 U0) (Un 1)) (Un 3)) (Un 1000))) rfl h2) fun Km => ?_;refine Bw F (v7 hn hdn) hl3 fun ns Yr r4 yP => ?_;rw [n1,n2,n3] at r4;refine cJ Km r4 (eU (HL.h 109 (Ul U0 (Un 3))<|UG (Ul (.a (.a (.a (.m 109 U0) (Un 1)) (Un 3)) (.m 3 (Un 35))) (Un 1000))) rfl h2) fun hr5 => ?_;exact hJ _ _ Yr _ _ yP (Zh (aJy (Qj a1)) b1 hi) (hr5.mono (eU (UG (Ul (.a (.a (.a (.m 109 U0) (Un 1)) (Un 3)) (.m 3 (Un 35))) (.m 109 (Up 0 1)))) rfl) (eU (UG (Ul (.a (.a (.a (.m 125 U0) (Un 1)) (Un 4)) (.m 3 (Un 40))) (.m 125 (Up 0 1)))) rfl) (ni))
   ·refine cJ (ys := []) hr .nil (aDd h2) fun hr2 => ?_;refine cJ hr2 r2 (aDe h2) fun Km => ?_;refine Bw F (v7 hn hdn) hl3 fun ns Yr r4 yP => ?_;rw [n1,n2,n3] at r4;refine cJ Km r4 (aDf h2) fun hr5 => ?_;exact hJ _ _ Yr _ _ yP (Zh (aJy (Qj a1)) b1 hi) (hr5.mono (aDg) (aDh) (ni))
  ·refine cJ (ys := []) hr .nil (aDd h2) fun hr2 => ?_;refine cJ hr2 r2 (aDe h2) fun Km => ?_;refine Bw F (v7 hn hdn) hl2 fun ns Yr r4 yP => ?_;rw [n1,n2,n3] at r4;refine cJ Km r4 (aDf h2) fun hr5 => ?_;exact hJ _ _ Yr _ _ yP (Zh (aJy (Qj a1)) b1 hi) (hr5.mono (aDg) (aDh) (ni))
 ·intro xs ps' t b hl' h2 hr;exact q _ ps' (hr.mono (eU (HL.h 109 (Ul U0 (Un 3))<|UG (Ul (.m 109 U0) (Un 327))) rfl h2) (eU (HL.h 125 (Ul U0 (Un 3))<|UG (Ul (.m 125 U0) (Un 375))) rfl h2) (eU (HL.h 162 (Ul U0 (Un 3))<|UG (Ul (.m 162 U0) (Un 486))) rfl h2)) hl'
theorem YD {Q : KV} (hn : 3 <= c.n) (hl : ps.length <= 12) (q : ∀ xs ps',Row 32 38 43 xs -> ps'.length <= 12 -> Q (.lst (sL xs)) (aH σ p (iL ps'))) :
  aR c (.ref (F.a .Dc)) [.mut p] (aH σ p (iL ps)) Q X := by
 refine aN F .Dc rfl rfl (JC hn) fun d hdn hW => ?_;refine cX F (Ga hn hdn) hl (by decide) (by decide) fun d ps1 a1 b1 hl1 => ?_;refine ⟨1 + d,rfl,by exact H8 a1 xR,by exact ql xR b1,sV (fun i C' => ∀ (xs : List Str) (ps' : List Int) (t : Option V),ps'.length <= 12 -> i <= 3 -> Row (1 + 10 * i) (1 + 12 * i) (10 + 11 * i) xs -> C' [some (V.mut p),some (V.lst (sL xs)),t] (aH σ p (iL ps'))) (fun C' k => k [(aJp "(")] ps1 _ hl1 (z7) (rO.mono (aO (c := .o) (d := .o) (UG (Ul (Un 1) (.a (Un 1) (.m 10 (Un 0))))) rfl) (aO (c := .o) (d := .o) (UG (Ul (Un 1) (.a (Un 1) (.m 12 (Un 0))))) rfl) (aO (c := .o) (d := .o) (UG (Ul (Un 10) (.a (Un 10) (.m 11 (Un 0))))) rfl))) (fun _ x0 x1 x2 x3 x4 x5 C' k => k x0 x1 x2 x3 x4 x5) ?_ ?_⟩
 ·intro J hJ i hi xs ps' t hl' h2 hr;have rE : Row 1 1 0 [(aJp "=")] := Row.of (by decide +kernel);refine bA (fun z => ?_) (fun z => ?_)
  ·refine cJ hr dg (aDi h2) fun hr2 => ?_;refine cX F (Ga hn hdn) hl' (by decide) (by decide) fun d2 ps2 a2 b2 hl2 => ?_;obtain ⟨nm,e2,r2⟩ := Tt a2 b2;refine nJ a2 (Uz b2) e2 ?_;refine cJ (ys := [nm, "="]) hr2 (r2.cons rE) (eU (HL.h 10 (Ul U0 (Un 3))<|UG (Ul (.a (.a (.a (Un 1) (.m 10 U0)) (Un 1)) (.a (Un 1) (Un 1))) (Un 1000))) rfl h2) fun Km => ?_;refine uK F (Xa hn hdn) hl2 fun bs yW r3 hl3 => ?_;refine cJ Km r3 (eU (HL.h 10 (Ul U0 (Un 3))<|UG (Ul (.a (.a (.a (.a (Un 1) (.m 10 U0)) (Un 1)) (.a (Un 1) (Un 1))) (Un 7)) (Un 1000))) rfl h2) fun GX => ?_;exact hJ _ _ yW _ hl3 (Zh (aJy (Qj a1)) b1 hi) (GX.mono (eU (UG (Ul (.a (.a (.a (.a (Un 1) (.m 10 U0)) (Un 1)) (.a (Un 1) (Un 1))) (Un 7)) (.a (Un 1) (.m 10 (Up 0 1))))) rfl) (eU (UG (Ul (.a (.a (.a (.a (Un 1) (.m 12 U0)) (Un 1)) (.a (Un 2) (Un 1))) (Un 8)) (.a (Un 1) (.m 12 (Up 0 1))))) rfl) (aDj))
  ·refine cJ (ys := []) hr .nil (eU (HL.h 10 (UL (.c U0) (.n 0))<|UG (Ul (.a (.a (Un 1) (.m 10 U0)) (Un 0)) (Un 1000))) rfl (aKd.mp z)) fun hr2 => ?_;refine cX F (Ga hn hdn) hl' (by decide) (by decide) fun d2 ps2 a2 b2 hl2 => ?_;obtain ⟨nm,e2,r2⟩ := Tt a2 b2;refine nJ a2 (Uz b2) e2 ?_;refine cJ (ys := [nm, "="]) hr2 (r2.cons rE) (eU (HL.h 10 (UL (.c U0) (.n 0))<|UG (Ul (.a (.a (.a (Un 1) (.m 10 U0)) (Un 0)) (.a (Un 1) (Un 1))) (Un 1000))) rfl (aKd.mp z)) fun Km => ?_;refine uK F (Xa hn hdn) hl2 fun bs yW r3 hl3 => ?_;refine cJ Km r3 (eU (HL.h 10 (UL (.c U0) (.n 0))<|UG (Ul (.a (.a (.a (.a (Un 1) (.m 10 U0)) (Un 0)) (.a (Un 1) (Un 1))) (Un 7)) (Un 1000))) rfl (aKd.mp z)) fun GX => ?_;exact hJ _ _ yW _ hl3 (aDk (aKd.mp z)) (GX.mono (eU (UG (Ul (.a (.a (.a (.a (Un 1) (.m 10 U0)) (Un 0)) (.a (Un 1) (Un 1))) (Un 7)) (.a (Un 1) (.m 10 (Up 0 1))))) rfl) (eU (UG (Ul (.a (.a (.a (.a (Un 1) (.m 12 U0)) (Un 0)) (.a (Un 2) (Un 1))) (Un 8)) (.a (Un 1) (.m 12 (Up 0 1))))) rfl) (aDj))
 ·intro xs ps' t hl' h2 hr;refine cJ hr rC (aDi h2) fun hr2 => ?_;exact q _ ps' (hr2.mono (eU (HL.h 10 (Ul U0 (Un 3))<|UG (Ul (.a (.a (Un 1) (.m 10 U0)) (Un 1)) (Un 32))) rfl h2) (eU (HL.h 12 (Ul U0 (Un 3))<|UG (Ul (.a (.a (Un 1) (.m 12 U0)) (Un 1)) (Un 38))) rfl h2) (eU (HL.h 11 (Ul U0 (Un 3))<|UG (Ul (.a (.a (Un 10) (.m 11 U0)) (Un 0)) (Un 43))) rfl h2)) hl'
end
end Mine
open PySem PySem.W PyProof.Rows PySem.Calls Builtin Builtin.ObjectAttr
namespace Mine
variable {G : eX} {c : Cfg G} {ρ : En} {σ : aW} {X : Prop}
theorem yw {ρ : eE} {xs : List V} {Q : KV} (hl : xs.length < 2 ^ 62) (q : Q (.int xs.length) σ) : WO c Rep (fun vs => call (.builtin "len") [vs.getD 0 .none]) [.tup xs] ρ σ Q X :=
 X5 (f := fun v => call (.builtin "len") [v]) fun s v S r Q' E' hQ hE => by
  cases r with
  | @tup a vs _ n it rs =>
  have e : vs.toArray.size = xs.length := by rw [aJv,rs.length]
  refine P.len_tuple it (by rw [e]; exact aLp.mpr (qm hl)) ?_;rw [e];exact hQ _ _ _ _ (S.tok _) (.refl _ _) (.int _ _) q
theorem yx {xs : List V} {Q : KV} (hl : xs.length < 2 ^ 62) (q : Q (.int xs.length) σ) : iU c X (.bf .len) [.tup xs] σ Q := Ia fun ρ t h => by cases h; exact yw hl q
section
variable (F : Facts G) {p : Addr} {ps : List Int}
theorem HB {Q : KV} (hn : 3 <= c.n) (hl : ps.length <= 12) (q : ∀ xs ps',Row 72 84 146 xs -> ps'.length <= 12 -> Q (.lst (sL xs)) (aH σ p (iL ps'))) :
  aR c (.ref (F.a .zO)) [.mut p] (aH σ p (iL ps)) Q X := by
 refine aN F .zO rfl rfl (JC hn) fun d hdn hW => ?_;refine cX F (Ga hn hdn) hl (by decide) (by decide) fun d ps1 a1 b1 hl1 => ?_;refine ⟨1 + d,rfl,by exact H8 a1 xR,by exact aO (c := .o) (d := (j7 _ _)) (UH (UL (.n 20000000) (.v 0))<|UH (UT (.v 1) (.n 2))<|UG (UT (.a (.n 1) (.v 1)) (.v 0))) rfl xR b1,sV (fun i C' => ∀ (xs : List Str) (ps' : List Int) (t pl n e : Option V),ps'.length <= 12 -> i <= 2 -> Row (36 * i) (42 * i) (73 * i) xs -> C' [some (V.mut p),some (V.lst (sL xs)),t,pl,n,e] (aH σ p (iL ps'))) (fun C' k => k [] ps1 _ _ _ _ hl1 (mj) (Row.nil.mono (aO (c := .o) (d := .o) (UG (Ul (Un 0) (.m 36 (Un 0)))) rfl) (aO (c := .o) (d := .o) (UG (Ul (Un 0) (.m 42 (Un 0)))) rfl) (aO (c := .o) (d := .o) (UG (Ul (Un 0) (.m 73 (Un 0)))) rfl))) (fun _ x0 x1 x2 x3 x4 x5 x6 x7 x8 C' k => k x0 x1 x2 x3 x4 x5 x6 x7 x8) ?_ ?_⟩
 ·intro J hJ i hi xs ps' t pl n e hl' h2 hr;walk_at "a";refine bH (fun C' => ∀ (ys : List Str),Row (36 * i + 2) (42 * i + 2) (73 * i + 10) ys -> C' [some (V.mut p),some (V.lst (sL ys)),some (V.int (i : Nat)),pl,n,e] (aH σ p (iL ps'))) ?_ ?_
  ·intro R' hR;refine bA (fun z => ?_) (fun z => ?_)
   ·refine cJ hr dg (eU (HL.h 36 (Ul U0 (Un 2))<|UG (Ul (.a (.m 36 U0) (Un 1)) (Un 1000))) rfl h2) fun hr2 => ?_;refine cJ hr2 rO (eU (HL.h 36 (Ul U0 (Un 2))<|UG (Ul (.a (.a (.m 36 U0) (Un 1)) (Un 1)) (Un 1000))) rfl h2) fun Km => ?_;exact hR _ (Km.mono (eU (UG (Ul (.a (.a (.m 36 U0) (Un 1)) (Un 1)) (.a (.m 36 U0) (Un 2)))) rfl) (eU (UG (Ul (.a (.a (.m 42 U0) (Un 1)) (Un 1)) (.a (.m 42 U0) (Un 2)))) rfl) (aDl))
   ·refine cJ (ys := []) hr .nil (eU (HL.h 36 (UL (.c U0) (.n 0))<|UG (Ul (.a (.m 36 U0) (Un 0)) (Un 1000))) rfl (aKd.mp z)) fun hr2 => ?_;refine cJ hr2 rO (eU (HL.h 36 (UL (.c U0) (.n 0))<|UG (Ul (.a (.a (.m 36 U0) (Un 0)) (Un 1)) (Un 1000))) rfl (aKd.mp z)) fun Km => ?_;exact hR _ (Km.mono (eU (UG (Ul (.a (.a (.m 36 U0) (Un 0)) (Un 1)) (.a (.m 36 U0) (Un 2)))) rfl) (eU (UG (Ul (.a (.a (.m 42 U0) (Un 0)) (Un 1)) (.a (.m 42 U0) (Un 2)))) rfl) (aDl))
  ·intro ys hr;walk_at "a";refine bH (fun C' => ∀ (ys : List Str) (ps' : List Int) (pl n e : Option V),ps'.length <= 12 -> Row (36 * i + 35) (42 * i + 41) (73 * i + 73) ys -> C' [some (V.mut p),some (V.lst (sL ys)),some (V.int (i : Nat)),pl,n,e] (aH σ p (iL ps'))) ?_ ?_
   ·intro R' hR;refine cX F (Ga hn hdn) hl' (by decide) (by decide) fun d2 ps2 a2 b2 hl2 => ?_;refine ⟨2 + d2,rfl,by exact aO (c := .o) (d := (j7 _ _)) (UH (UL (.n 0) (.v 0))<|UH (UL (.n 20000000) (.v 1))<|UG (UL (.g (.v 1)) (.a (.n 2) (.v 0)))) rfl a2 xR,by exact aO (c := .o) (d := (j7 _ _)) (UH (UL (.n 20000000) (.v 0))<|UH (UT (.v 1) (.n 2))<|UG (UT (.a (.n 2) (.v 1)) (.v 0))) rfl xR b2,sV (fun j C' => ∀ (xs : List Str) (ps' : List Int) (pl n e : Option V),ps'.length <= 12 -> j <= 3 -> Row (36 * i + 2 + 11 * j) (42 * i + 2 + 13 * j) (73 * i + 10 + 21 * j) xs -> C' [some (V.mut p),some (V.lst (sL xs)),some (V.int (i : Nat)),pl,n,e] (aH σ p (iL ps'))) (fun C' k => k ys ps2 _ _ _ hl2 (z7) hr) (fun _ x0 x1 x2 x3 x4 x5 x6 x7 C' k => k x0 x1 x2 x3 x4 x5 x6 x7) ?_ ?_⟩
    ·intro J2 hJ2 j hj xs ps' pl n e hl' h3 hr;refine cX F (Ga hn hdn) hl' (by decide) (by decide) fun d3 yW a3 b3 hl3 => ?_;obtain ⟨nm,e3,r3⟩ := Tt a3 b3;refine nJ a3 (Uz b3) e3 ?_;refine uK F (Xa hn hdn) hl3 fun ss Yr r4 yP => ?_;refine cJ (xs := [(aJp "(")]) rO r4 (aO (c := .o) (d := .o) (UG (Ul (.a (Un 1) (Un 7)) (Un 1000))) rfl) fun r5 => ?_;refine cJ r5 rC (aO (c := .o) (d := .o) (UG (Ul (.a (.a (Un 1) (Un 7)) (Un 1)) (Un 1000))) rfl) fun r6 => ?_;have key : ∀ d : Int,0 <= d -> d < 4 -> ∃ es,([V.lst [],V.lst (sL ([(aJp "(")] ++ ss ++ [(aJp ")")])),V.lst [V.str "(",V.str "1",V.str ":",V.str "2",V.str ")"],V.lst [V.str "(",V.str "3",V.str ")",V.str "(",V.str ":",V.str "2",V.str ")"]] : List V)[d.toNat]? = some (.lst (sL es)) /\ Row 9 10 21 es := by
      intro d h0 h1;have : d = 0 \/ d = 1 \/ d = 2 \/ d = 3 := by exact gq (h0) (h1)
      rcases this with rfl | rfl | rfl | rfl
      ·exact ⟨[],rfl,Row.of (by decide +kernel)⟩
      ·exact ⟨_,rfl,r6.mono (by decide) (by decide) (by decide)⟩
      ·exact ⟨["(", "1", ":", "2", ")"],rfl,Row.of (by decide +kernel)⟩
      ·exact ⟨["(", "3", ")", "(", ":", "2", ")"],rfl,Row.of (by decide +kernel)⟩
     refine bA (fun z => ?_) (fun z => ?_)
     ·refine cJ hr dg (iR (HL.h 11 (Ul U0 (Un 3))<|HL.h 36 (Ul U1 (Un 2))<|UG (Ul (.a (.a (.a (.m 36 U1) (Un 2)) (.m 11 U0)) (Un 1)) (Un 1000))) rfl h3 h2) fun hr2 => ?_;refine cJ (ys := [nm]) hr2 r3 (iR (HL.h 11 (Ul U0 (Un 3))<|HL.h 36 (Ul U1 (Un 2))<|UG (Ul (.a (.a (.a (.a (.m 36 U1) (Un 2)) (.m 11 U0)) (Un 1)) (Un 1)) (Un 1000))) rfl h3 h2) fun Km => ?_;refine cX F (Ga hn hdn) yP (by decide) (by decide) fun d5 ps5 a5 b5 Mj => ?_;obtain ⟨es,e5,r7⟩ := key d5 a5 b5;refine nJ a5 (aDm b5) e5 ?_;refine cJ Km r7 (iR (HL.h 11 (Ul U0 (Un 3))<|HL.h 36 (Ul U1 (Un 2))<|UG (Ul (.a (.a (.a (.a (.a (.m 36 U1) (Un 2)) (.m 11 U0)) (Un 1)) (Un 1)) (Un 9)) (Un 1000))) rfl h3 h2) fun GX => ?_;exact hJ2 _ _ ps5 _ _ _ Mj (aO (c := (Yx _ _)) (d := (qY _)) (UH (UE (.c U0) (.a (.n 2) (.v 0)))<|UH (UT (.v 0) (.n 2))<|UH (Ut U1 U0)<|UG (Ul (Up 1 1) (Un 3))) rfl (aJy (aO (c := .o) (d := (qY _)) (UH (UL (.n 0) (.v 0))<|UG (UL (.n 0) (.a (.n 2) (.v 0)))) rfl a2)) b2 hj) (GX.mono (iR (UG (Ul (.a (.a (.a (.a (.a (.m 36 U0) (Un 2)) (.m 11 U1)) (Un 1)) (Un 1)) (Un 9)) (.a (.a (.m 36 U0) (Un 2)) (.m 11 (Up 1 1))))) rfl) (iR (UG (Ul (.a (.a (.a (.a (.a (.m 42 U0) (Un 2)) (.m 13 U1)) (Un 1)) (Un 2)) (Un 10)) (.a (.a (.m 42 U0) (Un 2)) (.m 13 (Up 1 1))))) rfl) (aDn))
     ·refine cJ (ys := []) hr .nil (iR (HL.h 11 (UL (.c U0) (.n 0))<|HL.h 36 (Ul U1 (Un 2))<|UG (Ul (.a (.a (.a (.m 36 U1) (Un 2)) (.m 11 U0)) (Un 0)) (Un 1000))) rfl (aKd.mp z) h2) fun hr2 => ?_;refine cJ (ys := [nm]) hr2 r3 (iR (HL.h 11 (UL (.c U0) (.n 0))<|HL.h 36 (Ul U1 (Un 2))<|UG (Ul (.a (.a (.a (.a (.m 36 U1) (Un 2)) (.m 11 U0)) (Un 0)) (Un 1)) (Un 1000))) rfl (aKd.mp z) h2) fun Km => ?_;refine cX F (Ga hn hdn) yP (by decide) (by decide) fun d5 ps5 a5 b5 Mj => ?_;obtain ⟨es,e5,r7⟩ := key d5 a5 b5;refine nJ a5 (aDm b5) e5 ?_;refine cJ Km r7 (iR (HL.h 11 (UL (.c U0) (.n 0))<|HL.h 36 (Ul U1 (Un 2))<|UG (Ul (.a (.a (.a (.a (.a (.m 36 U1) (Un 2)) (.m 11 U0)) (Un 0)) (Un 1)) (Un 9)) (Un 1000))) rfl (aKd.mp z) h2) fun GX => ?_;exact hJ2 _ _ ps5 _ _ _ Mj (aDk (aKd.mp z)) (GX.mono (iR (UG (Ul (.a (.a (.a (.a (.a (.m 36 U0) (Un 2)) (.m 11 U1)) (Un 0)) (Un 1)) (Un 9)) (.a (.a (.m 36 U0) (Un 2)) (.m 11 (Up 1 1))))) rfl) (iR (UG (Ul (.a (.a (.a (.a (.a (.m 42 U0) (Un 2)) (.m 13 U1)) (Un 0)) (Un 2)) (Un 10)) (.a (.a (.m 42 U0) (Un 2)) (.m 13 (Up 1 1))))) rfl) (aDn))
    ·intro xs ps' pl n e hl' h3 hr;exact hR xs ps' _ _ _ hl' (hr.mono (iR (HL.h 11 (Ul U0 (Un 3))<|UG (Ul (.a (.a (.m 36 U1) (Un 2)) (.m 11 U0)) (.a (.m 36 U1) (Un 35)))) rfl h3) (iR (HL.h 13 (Ul U0 (Un 3))<|UG (Ul (.a (.a (.m 42 U1) (Un 2)) (.m 13 U0)) (.a (.m 42 U1) (Un 41)))) rfl h3) (iR (HL.h 21 (Ul U0 (Un 3))<|UG (Ul (.a (.a (.m 73 U1) (Un 10)) (.m 21 U0)) (.a (.m 73 U1) (Un 73)))) rfl h3))
   ·intro ys yW pl n e hl3 hr;refine cJ hr rC (eU (HL.h 36 (Ul U0 (Un 2))<|UG (Ul (.a (.a (.m 36 U0) (Un 35)) (Un 1)) (Un 1000))) rfl h2) fun hr2 => ?_;exact hJ _ _ yW _ _ _ _ hl3 (aO (c := (Yx _ _)) (d := (qY _)) (UH (UE (.c U0) (.a (.n 1) (.v 0)))<|UH (UT (.v 0) (.n 2))<|UH (Ut U1 U0)<|UG (Ul (Up 1 1) (Un 2))) rfl (aJy (Qj a1)) b1 hi) (hr2.mono (eU (UG (Ul (.a (.a (.m 36 U0) (Un 35)) (Un 1)) (.m 36 (Up 0 1)))) rfl) (eU (UG (Ul (.a (.a (.m 42 U0) (Un 41)) (Un 1)) (.m 42 (Up 0 1)))) rfl) (eU (UG (Ul (.a (.a (.m 73 U0) (Un 73)) (Un 0)) (.m 73 (Up 0 1)))) rfl))
 ·intro xs ps' t pl n e hl' h2 hr;exact q _ ps' (hr.mono (eU (HL.h 36 (Ul U0 (Un 2))<|UG (Ul (.m 36 U0) (Un 72))) rfl h2) (eU (HL.h 42 (Ul U0 (Un 2))<|UG (Ul (.m 42 U0) (Un 84))) rfl h2) (eU (HL.h 73 (Ul U0 (Un 2))<|UG (Ul (.m 73 U0) (Un 146))) rfl h2)) hl'
theorem Ox {α : Type} (f : α -> Nat) {xs ys : List α} (h : xs.Sublist ys) : (xs.map f).sum <= (ys.map f).sum := by
 induction h with
 | slnil => exact aJr _
 | cons a _ ih => rw [aLf,aNb]; exact gP (UH (Ul U0 U1)<|UG (Ul U0 (.a U2 U1))) rfl ih
 | cons_cons a _ ih => rw [aLf,aLf,aNb,aNb]; exact gP (UH (Ul U0 U1)<|UG (Ul (.a U2 U0) (.a U2 U1))) rfl ih
theorem Row.sub {k l w : Nat} {xs ys : List Str} (h : Row k l w ys) (hs : xs.Sublist ys) : Row k l w xs :=
 ⟨fun s z => h.al s (hs.subset z),aJw hs.length_le h.cnt,aJw (Ox _ hs) h.len,aJw (Ox _ hs) h.wt⟩
theorem Row.mid {k l w k' l' w' : Nat} {us vs ys : List Str} (h : Row k l w (us ++ vs)) (h2 : Row k' l' w' ys) : Row (k + k') (l + l') (w + w') (us ++ ys ++ vs) := by
 refine ⟨fun s z => ?_,?_,?_,?_⟩
 ·rcases aLi.mp z with z | z
  ·rcases aLi.mp z with z | z
   ·exact h.al s (aOt _ z)
   ·exact h2.al s z
  ·exact h.al s (List.mem_append_right _ z)
 ·have h1 := h.cnt;have := h2.cnt;rw [aJt] at h1;rw [aJt,aJt]; exact nj h1 this
 ·have h1 := h.len;have := h2.len;rw [aKt,aLb] at h1;rw [aKt,aKt,aLb,aLb]; exact nj h1 this
 ·have h1 := h.wt;have := h2.wt;rw [aKt,aLb] at h1;rw [aKt,aKt,aLb,aLb]; exact nj h1 this
theorem Row.put {k l w k' l' w' : Nat} {xs ys : List Str} (h : Row k l w xs) (h2 : Row k' l' w' ys) (lo hi : Option Int) : Row (k + k') (l + l') (w + w') (rG xs ys lo hi) := by
 unfold rG;refine Row.mid (h.sub ?_) h2;generalize lo.elim 0 (clipAt xs.length) = a;generalize hm : max a (hi.elim xs.length (clipAt xs.length)) = m;have hle : a <= m := hm ▸ Nat.le_max_left _ _;have e : xs.drop m = (xs.drop a).drop (m - a) := by rw [aMi]; congr 1; exact aJq (Z72 gY) (Z73 (aJo (hle)))
 have e2 : xs.take a ++ xs.drop a = xs := aMy _ _;rw [e];conv => rhs; rw [<- e2]
 exact (List.Sublist.refl _).append (aLu _ _)
theorem Oz (xs ys : List Str) (lo hi : Option Int) : rG (sL xs) (sL ys) lo hi = sL (rG xs ys lo hi) := by
 unfold rG sL;simp only [aKw,aKt,aOw,aOx]
noncomputable def Ww : List Str := ["A", "B", "7", "0", ",", "(", ")", ":", "*", "/", "+", "="]
theorem Wn {d : Int} (h0 : 0 <= d) (h1 : d < 12) : ∃ s,(sL Ww)[d.toNat]? = some (.str s) /\ Row 1 1 10 [s] := by
 have : d = 0 \/ d = 1 \/ d = 2 \/ d = 3 \/ d = 4 \/ d = 5 \/ d = 6 \/ d = 7 \/ d = 8 \/ d = 9 \/ d = 10 \/ d = 11 := by exact JL (h0) (h1)
 rcases this with rfl | rfl | rfl | rfl | rfl | rfl | rfl | rfl | rfl | rfl | rfl | rfl <;> exact ⟨_,rfl,Row.of (by decide +kernel)⟩
theorem V0 {xs : List Str} {k l w : Nat} {Q : KV} (hn : 2 <= c.n) (hl : ps.length <= 12) (hr : Row k l w xs) (hk : k <= 900) (q : ∀ xs ps',Row (k + 2) (l + 2) (w + 20) xs -> ps'.length <= 12 -> Q (.lst (sL xs)) (aH σ p (iL ps'))) :
  aR c (.ref (F.a .Gx)) [.mut p,.lst (sL xs),.tup (sL Ww)] (aH σ p (iL ps)) Q X := by
 refine aN F .Gx rfl rfl (j9 hn) fun d hdn hW => ?_;refine N8 (xs := sL xs) aY (by have := Fx hr (eU (UH (Ul U0 (Un 900))<|UG (Ul U0 (Un 1000))) rfl hk); rw [sizeLine_eq]; exact eU (UH (Ul U0 (Un 1000))<|UG (Ul U0 (Un 16777216))) rfl this) fun b hb => ?_;obtain ⟨hpb,hbn⟩ := jB hb;have hbp := Ne.symm hpb;rw [dI _ _ _ hpb];refine cX F (Gk hn hdn) hl (by decide) (by decide) fun d ps1 a1 b1 hl1 => ?_;refine ⟨d,rfl,by exact G4 a1 xR,by exact aEv xR b1,sV (fun i C' => ∀ (xs : List Str) (ps' : List Int) (t a w' tk : Option V),ps'.length <= 12 -> i <= 2 -> Row (k + i) (l + i) (w + 10 * i) xs -> C' [some (V.mut p),some (V.mut b),some (V.tup (sL Ww)),t,a,w',tk] (aH (aH σ b (sL xs)) p (iL ps'))) (fun C' k => k xs ps1 _ _ _ _ hl1 (mj) hr) (fun _ x0 x1 x2 x3 x4 x5 x6 x7 x8 C' k => k x0 x1 x2 x3 x4 x5 x6 x7 x8) ?_ ?_⟩
 ·intro J hJ i hi xs ps' t a w' tk hl' h2 hr;have hc := Fx hr (iR (UH (Ul U0 (Un 2))<|UH (Ul U1 (Un 900))<|UG (Ul (.a U1 U0) (Un 1000))) rfl h2 hk);refine cX F (Gk hn hdn) hl' (by decide) (by decide) fun d2 ps2 a2 b2 hl2 => ?_;refine nQ (xs := sL xs) (fW hbp) (aEt Jx hc) ?_;refine TG (aPf (eU (UG (UT (.n 0) (.a (.c U0) (.n 1)))) rfl)) ?_;generalize d2.fmod _ = at_;refine cX F (Gk hn hdn) hl2 (by decide) (by decide) fun d3 yW a3 b3 hl3 => ?_;refine yx (by decide) ?_;refine cX F (Gk hn hdn) hl3 (by decide) (by decide) fun d4 Yr a4 b4 yP => ?_;have b4 : d4 < 12 := b4;obtain ⟨tok,e4,r4⟩ := Wn a4 b4;refine nJ a4 (aO (c := .o) (d := (qY _)) (UH (UT (.v 0) (.n 12))<|UG (UT (.v 0) (.n 1000))) rfl b4) e4 ?_;refine jO (fun z => ?_) (fun z => ?_)
  ·refine ⟨b,rfl,(fun z => by cases z),?_⟩;refine ⟨sL xs,sL [],fW hbp,rfl,by rw [sizeLine_eq]; show _ + 0 <= _; exact eU (UH (Ul U0 (Un 1000))<|UG (Ul (Up 0 0) (Un 16777216))) rfl hc,?_⟩;rw [dI _ _ _ hpb,bI,Oz];exact hJ _ _ Yr _ _ _ _ yP (H7 (aJy (a1)) b1 hi) ((hr.put .nil _ _).mono (aDo) (aDo) (iR (UG (Ul (.a (.a U0 (.m 10 U1)) (Un 0)) (.a U0 (.m 10 (Up 1 1))))) rfl))
  ·refine jO (fun z => ?_) (fun z => ?_)
   ·refine ⟨b,rfl,(fun z => by cases z),?_⟩;refine ⟨sL xs,sL [tok],fW hbp,rfl,by rw [sizeLine_eq]; show _ + 1 <= _; exact Zf hc,?_⟩;rw [dI _ _ _ hpb,bI,Oz];exact hJ _ _ Yr _ _ _ _ yP (H7 (aJy (a1)) b1 hi) ((hr.put r4 _ _).mono (z8) (z8) (aDp))
   ·refine ⟨b,rfl,(fun z => by cases z),?_⟩;refine ⟨sL xs,sL [tok],fW hbp,rfl,by rw [sizeLine_eq]; show _ + 1 <= _; exact Zf hc,?_⟩;rw [dI _ _ _ hpb,bI,Oz];exact hJ _ _ Yr _ _ _ _ yP (H7 (aJy (a1)) b1 hi) ((hr.put r4 _ _).mono (z8) (z8) (aDp))
 ·intro xs ps' t a w' tk hl' h2 hr;refine ⟨b,sL xs,rfl,(fW hbp),?_⟩;rw [gA hpb,bU hbn];exact q _ ps' (hr.mono (aDq h2) (aDq h2) (iR (HL.h 10 (Ul U0 (Un 2))<|UG (Ul (.a U1 (.m 10 U0)) (Up 1 20))) rfl h2)) hl'
end
end Mine
namespace Mine
variable {G : eX} {c : Cfg G} {ρ : En} {σ : aW} {X : Prop}
inductive PD : Nat -> V -> Prop
 | none {n : Nat} : PD n .none
 | bool {n : Nat} (b : Bool) : PD n (.bool b)
 | int {n : Nat} (i : Int) : PD n (.int i)
 | str {n : Nat} (s : Str) : PD n (.str s)
 | tup {n : Nat} {xs : List V} : (∀ x ∈ xs,PD n x) -> PD (n + 1) (.tup xs)
 | lst {n : Nat} {xs : List V} : (∀ x ∈ xs,PD n x) -> PD (n + 1) (.lst xs)
theorem PD.mono {n : Nat} {v : V} (h : PD n v) : ∀ {m : Nat},n <= m -> PD m v := by
 induction h with
 | none => intro m _; exact .none
 | bool b => intro m _; exact .bool b
 | int i => intro m _; exact .int i
 | str s => intro m _; exact .str s
 | tup h ih =>
  intro m hm;obtain ⟨m,rfl⟩ : ∃ k,m = k + 1 := ⟨m - 1,by exact aJq (Z5 gY) (Z4 (aJo (aDr hm)))⟩;exact .tup fun x hx => ih x hx (Uy hm)
 | lst h ih =>
  intro m hm;obtain ⟨m,rfl⟩ : ∃ k,m = k + 1 := ⟨m - 1,by exact aJq (Z5 gY) (Z4 (aJo (aDr hm)))⟩;exact .lst fun x hx => ih x hx (Uy hm)
theorem cM.aGw {h : Heap} {vs ws : List Value} {xs : List V} (r : cM h σ vs xs) (r' : cM h σ ws xs) (j : Nat) (h1 : j < vs.length) (h2 : j < ws.length) : ∃ x ∈ xs,Rep h σ vs[j] x /\ Rep h σ ws[j] x := by
 obtain ⟨x,e,a⟩ := r.of_get (aKo h1);obtain ⟨y,e',b⟩ := r'.of_get (aKo h2);exact ⟨x,aLv e,a,aJn (e.symm.trans e') ▸ b⟩
theorem V1 {s : Shared} {n : Nat} {v : V} (p : PD n v) : ∀ (A : Around) (a b : Value),Rep s.heap σ a v -> Rep s.heap σ b v -> A.units + n < cLine -> SeqAt.RcAt A s a b true /\ SeqAt.EqAt A s a b true := by
 induction p with
 | none => intro A a b r r' _; obtain rfl := r.none_inv; obtain rfl := r'.none_inv; exact ⟨SeqAt.RcAt.none_none,SeqAt.EqAt.same _⟩
 | bool k => intro A a b r r' _; obtain rfl := r.bool_inv; obtain rfl := r'.bool_inv; have := SeqAt.RcAt.bool_bool (A := A) (s := s) k k; rw [beq_self_eq_true] at this; exact ⟨this,SeqAt.EqAt.same _⟩
 | int i =>
  intro A a b r r' _;obtain ⟨t,rfl⟩ := r.int_inv;obtain ⟨u,rfl⟩ := r'.int_inv;have h1 := SeqAt.RcAt.int_int (A := A) (s := s) i t i u;have h2 := SeqAt.EqAt.int_int (A := A) (s := s) i t i u;rw [beq_self_eq_true] at h1 h2;exact ⟨h1,h2⟩
 | str x =>
  intro A a b r r' _;obtain ⟨t,rfl⟩ := r.str_inv;obtain ⟨u,rfl⟩ := r'.str_inv;have h1 := SeqAt.RcAt.str_str (A := A) (s := s) x t x u;have h2 := SeqAt.EqAt.str_str (A := A) (s := s) x t x u;rw [beq_self_eq_true] at h1 h2;exact ⟨h1,h2⟩
 | @tup n xs _ ih =>
  intro A a b r r' hu;obtain ⟨a,vs,k,rfl,it,rs⟩ := r.uN;obtain ⟨b,ws,m,rfl,it',rs'⟩ := r'.uN;have l1 : vs.length = ws.length := rs.length.trans rs'.length.symm;have key : SeqAt.RcAt A s (.ref a) (.ref b) true := by
   have := SeqAt.RcAt.tuples (A := A) (s := s) (e := fun _ => true) ⟨_,it,rfl,_,rfl⟩ ⟨_,it',rfl,_,rfl⟩ (aDs hu) (fun j j1 j2 => by
    have j1' : j < vs.length := by simpa using j1
    have j2' : j < ws.length := by simpa using j2
    obtain ⟨x,hx,g1,g2⟩ := rs.aGw rs' j j1' j2';exact (ih x hx A.in1 _ _ (by simpa using g1) (by simpa using g2) (by rw [units_in1]; exact aDt hu)).2)
   have e : ((aOy (min vs.toArray.size ws.toArray.size)).all (fun _ => true) && vs.toArray.size == ws.toArray.size) = true := by simp [l1]
   rw [e] at this;exact this
  refine ⟨key,?_⟩;by_cases hab : a = b
  ·subst hab; exact SeqAt.EqAt.same _
  ·exact SeqAt.EqAt.of_refs hab key
 | @lst n xs _ ih =>
  intro A a b r r' hu;obtain ⟨a,vs,k,rfl,e0,it,rs⟩ := r.lst_inv;obtain ⟨b,ws,m,rfl,e0',it',rs'⟩ := r'.lst_inv;have l1 : vs.length = ws.length := rs.length.trans rs'.length.symm;have key : SeqAt.RcAt A s (.ref a) (.ref b) true := by
   have := SeqAt.RcAt.lists (A := A) (s := s) (e := fun _ => true) it.isList it'.isList (by simp [l1]) (aDs hu) (fun j j1 j2 => by
    have j1' : j < vs.length := by simpa using j1
    have j2' : j < ws.length := by simpa using j2
    obtain ⟨x,hx,g1,g2⟩ := rs.aGw rs' j j1' j2';exact (ih x hx A.in1 _ _ (by simpa using g1) (by simpa using g2) (by rw [units_in1]; exact aDt hu)).2)
   have e : (aOy vs.toArray.size).all (fun _ => true) = true := by simp
   rw [e] at this;exact this
  refine ⟨key,?_⟩;by_cases hab : a = b
  ·subst hab; exact SeqAt.EqAt.same _
  ·exact SeqAt.EqAt.of_refs hab key
theorem YG {ρ : eE} {v : V} {n : Nat} {Q : KV} (p : PD n v) (hn : n <= 1300) (hc : 150 <= c.n) (q : Q (.bool true) σ) :
  WO c Rep (fun vs => compareOp .Eq (vs.getD 0 .none) (vs.getD 1 .none)) [v,v] ρ σ Q X :=
 Cj fun s a b S r r' Q' E' hQ hE => by
  have hu := S.ok.units;exact (V1 p c.A a b r r' (by show _ < 9900; exact jX (UH (Ul U0 (Un 1300))<|UH (Ut (.a (.a U1 (.m 12 U2)) U3) (Un 9800))<|HL.h 12 (Ul (Un 150) U2)<|UG (Ut (.a U1 U0) (Un 9900))) rfl hn hu hc)).1 G.prog G.w E' _ (hQ _ _ _ _ S (.refl _ _) (.bool _) q)
theorem Tv {v : V} {n : Nat} {Q : KV} (p : PD n v) (hn : n <= 1300) (hc : 150 <= c.n) (q : Q (.bool true) σ) : Ej c X (.cmp .Eq) [v,v] σ Q := by
 have r : iU c X (.cmp .Eq) [v,v] σ Q := Ia fun ρ t h => by cases h; exact YG p hn hc q
 cases p with
 | int i => show Q (.bool (i == i)) σ; rw [beq_self_eq_true]; exact q
 | str s => show Q (.bool (decide (s = s))) σ; rw [decide_eq_true rfl]; exact q
 | _ => exact r
end Mine
section
set_option tactic.hygienic true
namespace Mine
noncomputable def DpK (k : Nat) (p : P) : Prop := ∀ ts v r,p ts = some (v,r) -> ∀ n,2 * ts.length + k <= n + 2 * r.length -> PD n v
noncomputable abbrev Dp (p : P) : Prop := DpK 0 p
theorem kY {n : Nat} {a : V} (h : PD n a) : ∀ x ∈ [a],PD n x := fun x hx => by rw [aKm.mp hx]; exact h
theorem lQ {n : Nat} {a : V} {l : List V} (h : PD n a) (k : ∀ x ∈ l,PD n x) : ∀ x ∈ a :: l,PD n x := fun x hx => (aKf.mp hx).elim (fun e => e ▸ h) (k x)
theorem Ko {n : Nat} : ∀ x ∈ ([] : List V),PD n x := fun x hx => by cases hx
theorem Kp {n : Nat} {l l' : List V} (h : ∀ x ∈ l,PD n x) (k : ∀ x ∈ l',PD n x) : ∀ x ∈ l ++ l',PD n x := fun x hx => (aLi.mp hx).elim (h x) (k x)
theorem jC {n m : Nat} {l : List V} (e : n + 1 <= m) (h : ∀ x ∈ l,PD n x) : PD m (.tup l) := (PD.tup h).mono e
theorem qW {n m : Nat} {l : List V} (e : n + 1 <= m) (h : ∀ x ∈ l,PD n x) : PD m (.lst l) := (PD.lst h).mono e
theorem YH {n m : Nat} {o : Str} {l r : V} (e : n + 1 <= m) (h : PD n l) (k : PD n r) : PD m (bin o l r) := jC e (lQ (.str _) (lQ (.str _) (lQ h (kY k))))
theorem aGx {n m : Nat} {o : Str} {l : V} (e : n + 1 <= m) (h : PD n l) : PD m (un o l) := jC e (lQ (.str _) (lQ (.str _) (kY h)))
theorem YJ {m : Nat} {n : Int} (e : 1 <= m) : PD m (iV n) := jC (n := 0) e (lQ (.str _) (kY (.int _)))
theorem YK {m : Nat} {s : Str} (e : 1 <= m) : PD m (TY s) := jC (n := 0) e (lQ (.str _) (kY (.str _)))
theorem dH {ts : List Tk} {s : Str} (h : hd ts s = true) : ts.tail.length + 1 = ts.length := by
 have := vC h;rw [aMz] at this ⊢;exact aJq (vZ this) (Z5 gY)
theorem YL {prim : P} (hs : eH prim) (hp : Dp prim) : Dp (jF prim) := by
 have key : ∀ m ts v r,ts.length < m -> jF prim ts = some (v,r) -> ∀ n,2 * ts.length <= n + 2 * r.length -> PD n v := by
  intro m;induction m with
  | zero => intro ts v r h; exact (Fg h).elim
  | succ m ih =>
   intro ts v r hm h n hn;rw [vD hs] at h;obtain ⟨t,r1,h1,h2⟩ := aD h;have l1 := hs _ _ _ h1;unfold tR at h2;split at h2
   ·rename_i e;have l2 := dH e;obtain ⟨t',r2,h3,h4⟩ := aD h2;obtain ⟨rfl,rfl⟩ := aZ h4;have l3 := pA hs _ _ _ h3;exact YH (n := n - 1) (Z4 (aJo (tC (UH (Ul (.m 2 U0) (.a U1 (.m 2 U2)))<|HL.h 2 (Ue (Up 3 1) U4)<|HL.h 2 (Ut U2 U3)<|HL.h 2 (Ut U4 U0)<|UG (Ul (Un 1) U1)) rfl hn l2 l3 l1))) (hp _ _ _ h1 _ (Jt (UH (Ul (.m 2 U0) (.a U1 (.m 2 U2)))<|HL.h 2 (Ue (Up 3 1) U4)<|HL.h 2 (Ut U2 U3)<|UH (Ul U1 (Up 5 1))<|UG (Ul (.a (.m 2 U0) (Un 0)) (.a U5 (.m 2 U4)))) rfl hn l2 l3 gY)) (ih _ _ _ (nq l2 l1 hm) h3 _ (Jt (UH (Ul (.m 2 U0) (.a U1 (.m 2 U2)))<|HL.h 2 (Ue (Up 3 1) U4)<|HL.h 2 (Ut U4 U0)<|UH (Ul U1 (Up 5 1))<|UG (Ul (.m 2 U3) (.a U5 (.m 2 U2)))) rfl hn l2 l1 gY))
   ·obtain ⟨rfl,rfl⟩ := aZ h2; exact hp _ _ _ h1 _ (by omega)
 exact fun ts v r h n hn => key _ ts v r (aKa _) h n hn
theorem V2 {ops : Str -> Bool} {sub : P} (hs : eH sub) (hp : Dp sub) : ∀ m tree ts v r,ts.length < m -> eV ops sub tree ts = some (v,r) -> ∀ k n,PD k tree -> 2 * ts.length + k <= n + 2 * r.length -> PD n v := by
 intro m;induction m with
 | zero => intro tree ts v r h; exact (Fg h).elim
 | succ m ih =>
  intro tree ts v r hm h k n hk hn;cases e : cA ts with
  | none =>
   rw [fK (fun o q => by rw [e] at q; exact aK q)] at h;obtain ⟨rfl,rfl⟩ := aZ h; exact hk.mono (aDu hn)
  | some o =>
   cases e2 : ops o with
   | false =>
    rw [fK (fun o q => by rw [e] at q; obtain rfl := aJn q; exact e2)] at h;obtain ⟨rfl,rfl⟩ := aZ h; exact hk.mono (aDu hn)
   | true =>
    rw [iZ hs e e2] at h;obtain ⟨t,r1,h1,h2⟩ := aD h;have l0 := dH (gU.mpr e);have l1 := hs _ _ _ h1;exact ih _ _ _ _ (nu l0 hm l1) h2 (k + 2 * ts.length - 2 * r1.length) n (YH (n := k + 2 * ts.length - 2 * r1.length - 1) (Z4 (aJo (tC (HL.h 2 (Ue (Up 0 1) U1)<|HL.h 2 (Ut U2 U0)<|UH (Ul (.a U3 (.m 2 U1)) (.a U4 (.m 2 U2)))<|UG (Ul (Un 1) U4)) rfl l0 l1 gY))) (hk.mono (Jt (HL.h 2 (Ue (Up 0 1) U1)<|HL.h 2 (Ut U2 U0)<|UH (Ul (.a U3 (.m 2 U1)) (.a U4 (.m 2 U2)))<|UH (Ul U4 (Up 5 1))<|UG (Ul U3 U5)) rfl l0 l1 gY gY)) (hp _ _ _ h1 _ (Jt (HL.h 2 (Ue (Up 0 1) U1)<|UH (Ul (.a U2 (.m 2 U1)) (.a U3 (.m 2 U4)))<|UH (Ul U3 (Up 5 1))<|UG (Ul (.a (.m 2 U0) (Un 0)) (.a U5 (.m 2 U4)))) rfl l0 gY gY))) (Jt (UH (Ue (.a U0 (.m 2 U1)) (.a U2 (.m 2 U3)))<|UH (Ul (.a (.m 2 U3) U2) (.a U4 (.m 2 U5)))<|UG (Ul (.a (.m 2 U1) U0) (.a U4 (.m 2 U5)))) rfl (aJo (jX (HL.h 2 (Ue (Up 0 1) U1)<|HL.h 2 (Ut U2 U0)<|UG (Ul (.m 2 U2) (.a U3 (.m 2 U1)))) rfl l0 l1)) hn)
theorem Jo {ops : Str -> Bool} {p sub : P} (hs : eH sub) (hp : Dp sub) (hsp : eH p) (hpp : Dp p) : Dp (fun ts => andThen (p ts) (eV ops sub)) := fun ts v r h n hn => by
 obtain ⟨t,r1,h1,h2⟩ := aD h;have l1 := hsp _ _ _ h1;exact V2 hs hp _ _ _ _ _ (aKa _) h2 (2 * ts.length - 2 * r1.length) n (hpp _ _ _ h1 _ (gP (UH (Ul (.m 2 U0) (.a U1 (.m 2 U2)))<|UG (Ul (.a (.m 2 U0) (Un 0)) (.a U1 (.m 2 U2)))) rfl gY)) (tC (UH (Ue (.a U0 (.m 2 U1)) (.m 2 U2))<|UH (Ul (.a (.m 2 U2) (Un 0)) (.a U3 (.m 2 U4)))<|UG (Ul (.a (.m 2 U1) U0) (.a U3 (.m 2 U4)))) rfl (aJo (iR (HL.h 2 (Ut U0 U1)<|UG (Ul (.m 2 U0) (.m 2 U1))) rfl l1)) hn)
theorem Pa {prim : P} (hs : eH prim) (hp : Dp prim) : Dp (fG prim) := Jo (pA hs) (YL hs hp) (pA hs) (YL hs hp)
theorem HD {prim : P} (hs : eH prim) (hp : Dp prim) : Dp (iY prim) := fun ts v r h n hn => by
 unfold iY at h;split at h
 ·rename_i o e;obtain ⟨t,r1,h1,h2⟩ := aD h;obtain ⟨rfl,rfl⟩ := aZ h2;have l0 : ts.tail.length + 1 = ts.length := by
   unfold fZ at e;split at e
   ·rename_i e1; exact dH e1
   ·split at e
    ·rename_i e1; exact dH e1
    ·exact aK e
  have l1 := mD hs _ _ _ h1;exact aGx (n := n - 1) (Z4 (aJo (jX (UH (Ul (.a (.m 2 U0) (Un 0)) (.a U1 (.m 2 U2)))<|HL.h 2 (Ue (Up 3 1) U0)<|HL.h 2 (Ut U2 U3)<|UG (Ul (Un 1) U1)) rfl hn l0 l1))) (Pa hs hp _ _ _ h1 _ (tC (UH (Ul (.a (.m 2 U0) (Un 0)) (.a U1 (.m 2 U2)))<|HL.h 2 (Ue (Up 3 1) U0)<|UH (Ul U1 (Up 4 1))<|UG (Ul (.a (.m 2 U3) (Un 0)) (.a U4 (.m 2 U2)))) rfl hn l0 gY))
 ·exact Pa hs hp _ _ _ h _ hn
theorem YM {prim : P} (hs : eH prim) (hp : Dp prim) : Dp (nT prim) := Jo (mD hs) (Pa hs hp) (El hs) (HD hs hp)
theorem V3 {prim : P} (hs : eH prim) (hp : Dp prim) : Dp (sG prim) := Jo (qO hs) (YM hs hp) (qO hs) (YM hs hp)
theorem Tw : Dp nA := fun ts v r h n hn => by
 have l := tY _ _ _ h;unfold nA at h;split at h
 ·obtain ⟨rfl,rfl⟩ := aZ h; exact YJ (gP (UH (Ul (.a (.m 2 U0) (Un 0)) (.a U1 (.m 2 U2)))<|HL.h 2 (Ut U2 U0)<|UG (Ul (Un 1) U1)) rfl hn l)
 ·exact aK h
theorem Ms {E : P} (hs : eH E) (hE : Dp E) : Dp (gM E) := fun ts v r h n hn => by
 obtain ⟨t,r1,h1,h2⟩ := aD h;split at h2
 ·obtain ⟨rfl,rfl⟩ := aZ h2;have := bM r1;exact hE _ _ _ h1 _ (jX (UH (Ul (.a (.m 2 U0) (Un 0)) (.a U1 (.m 2 U2)))<|HL.h 2 (Ul U2 U3)<|UG (Ul (.a (.m 2 U0) (Un 0)) (.a U1 (.m 2 U3)))) rfl hn this)
 ·exact aK h2
theorem V4 : Dp sH := fun ts v r h n hn => by
 obtain ⟨t,r1,h1,h2⟩ := aD h;split at h2
 ·rename_i e1;obtain ⟨t',r2,h3,h4⟩ := aD h2;split at h4
  ·rename_i e2;obtain ⟨rfl,rfl⟩ := aZ h4;have l1 := tY _ _ _ h1;have l2 := tY _ _ _ h3;have l3 := dH e1;have l4 := dH e2;have l5 := bM ts;exact jC (n := n - 1) (Z4 (aJo (UM7 (UH (Ul (.a (.m 2 U0) (Un 0)) (.a U1 (.m 2 U2)))<|HL.h 2 (Ut U3 U4)<|HL.h 2 (Ut U5 U6)<|HL.h 2 (Ue (Up 6 1) U3)<|HL.h 2 (Ue (Up 2 1) U5)<|HL.h 2 (Ul U4 U0)<|UG (Ul (Un 1) U1)) rfl hn l1 l2 l3 l4 l5))) (lQ (.str _) (lQ (Tw _ _ _ h1 _ (UM8 (UH (Ul (.a (.m 2 U0) (Un 0)) (.a U1 (.m 2 U2)))<|HL.h 2 (Ut U3 U4)<|HL.h 2 (Ue (Up 4 1) U5)<|HL.h 2 (Ue (Up 2 1) U3)<|HL.h 2 (Ul U6 U0)<|UH (Ul U1 (Up 7 1))<|UG (Ul (.a (.m 2 U6) (Un 0)) (.a U7 (.m 2 U5)))) rfl hn l2 l3 l4 l5 gY)) (kY (Tw _ _ _ h3 _ (UM8 (UH (Ul (.a (.m 2 U0) (Un 0)) (.a U1 (.m 2 U2)))<|HL.h 2 (Ut U3 U4)<|HL.h 2 (Ue (Up 5 1) U3)<|HL.h 2 (Ue (Up 2 1) U6)<|HL.h 2 (Ul U4 U0)<|UH (Ul U1 (Up 7 1))<|UG (Ul (.a (.m 2 U5) (Un 0)) (.a U7 (.m 2 U6)))) rfl hn l1 l3 l4 l5 gY)))))
  ·exact aK h4
 ·exact aK h2
theorem Wo {E : P} (hs : eH E) (hE : Dp E) : Dp (dM E) := fun ts v r h n hn => by
 unfold dM at h;split at h
 ·rename_i x e; obtain rfl := aJn h; exact V4 _ _ _ e _ hn
 ·have := bM ts;exact Ms hs hE _ _ _ h _ (aDv hn this)
theorem Ys {E : P} (s : Str) (hE : Dp E) : Dp (mH s E) := fun ts v r h n hn => by
 unfold mH at h;split at h
 ·obtain ⟨rfl,rfl⟩ := aZ h; exact .none
 ·exact hE _ _ _ h _ hn
theorem Tz {E : P} {s : Str} (hs : eH E) {ts r : List Tk} {v : V} (h : mH s E ts = some (v,r)) : r.length <= ts.length := by
 unfold mH at h;split at h
 ·obtain ⟨rfl,rfl⟩ := aZ h; exact aJr _
 ·exact aKz (hs _ _ _ h)
theorem YQ {E : P} (hs : eH E) (hE : Dp E) {base : V} {ts r : List Tk} {v : V} (h : wO E base ts = some (v,r)) {k : Nat} (hk : PD k base) (hn : 2 * ts.length <= k + 2 * r.length) : PD (k + 1) v := by
 obtain ⟨t,r1,h1,h2⟩ := aD h;split at h2
 ·rename_i e1;obtain ⟨t',r2,h3,h4⟩ := aD h2;split at h4
  ·rename_i e2;obtain ⟨rfl,rfl⟩ := aZ h4;have l1 := Tz hs h1;have l2 := Tz hs h3;have l3 := dH e1;have l4 := dH e2;have l5 := bM ts;exact jC (aJr _) (lQ (.str _) (lQ hk (lQ (Ys _ hE _ _ _ h1 _ (UM7 (UH (Ul (.m 2 U0) (.a U1 (.m 2 U2)))<|HL.h 2 (Ue (Up 2 1) U3)<|HL.h 2 (Ue (Up 4 1) U5)<|HL.h 2 (Ul U3 U4)<|HL.h 2 (Ul U6 U0)<|UG (Ul (.a (.m 2 U6) (Un 0)) (.a U1 (.m 2 U5)))) rfl hn l4 l3 l2 l5)) (kY (Ys _ hE _ _ _ h3 _ (UM7 (UH (Ul (.m 2 U0) (.a U1 (.m 2 U2)))<|HL.h 2 (Ue (Up 2 1) U3)<|HL.h 2 (Ue (Up 4 1) U5)<|HL.h 2 (Ul U5 U6)<|HL.h 2 (Ul U6 U0)<|UG (Ul (.a (.m 2 U4) (Un 0)) (.a U1 (.m 2 U3)))) rfl hn l4 l3 l1 l5))))))
  ·exact aK h4
 ·exact aK h2
theorem Pb {p : P} (hs : eH p) (hp : Dp p) : ∀ m acc ts v r,ts.length < m -> eN p acc ts = some (v,r) -> ∀ k,(∀ x ∈ acc,PD k x) -> 2 * ts.length <= k + 2 * r.length -> PD (k + 1) v := by
 intro m;induction m with
 | zero => intro acc ts v r h; exact (Fg h).elim
 | succ m ih =>
  intro acc ts v r hm h k hk hn;have l0 := wR hs m ts (jf hm) _ _ _ h;rw [bV hs] at h;obtain ⟨t,r1,h1,h2⟩ := aD h;have l1 := hs _ _ _ h1;split at h2
  ·rename_i e;have l2 := dH e;have l3 := wR hs m r1.tail (jX (UH (Ue (Up 0 1) U1)<|UH (Ut U1 U2)<|UH (Ut U2 (Up 3 1))<|UG (Ul U0 U3)) rfl l2 l1 hm) _ _ _ h2;exact ih _ _ _ _ (nq l2 l1 hm) h2 k (Kp hk (kY (hp _ _ _ h1 _ (aDw hn l2 l3)))) (aDx hn l2 l1)
  ·obtain ⟨rfl,rfl⟩ := aZ h2;exact qW (aJr _) (Kp hk (kY (hp _ _ _ h1 _ (by omega))))
end Mine
end
section
set_option tactic.hygienic true
namespace Mine
theorem Gj {E : P} (hs : eH E) (hE : Dp E) {ts r : List Tk} {v : V} (h : pB E ts = some (v,r)) {k : Nat} (e : hd ts "(" = true) (hn : 2 * ts.length <= k + 4 + 2 * r.length) : PD (k + 1) v := by
 have l0 := dH e;unfold pB at h;split at h
 ·obtain ⟨rfl,rfl⟩ := aZ h; exact qW (n := 0) (aDy) Ko
 ·obtain ⟨t,r1,h1,h2⟩ := aD h;split at h2
  ·rename_i e2;obtain ⟨rfl,rfl⟩ := aZ h2;have l2 := dH e2;exact Pb hs hE _ _ _ _ _ (aKa _) h1 k Ko (tC (UH (Ul (.m 2 U0) (.a (Up 1 4) (.m 2 U2)))<|HL.h 2 (Ue (Up 2 1) U3)<|HL.h 2 (Ue (Up 4 1) U0)<|UG (Ul (.m 2 U4) (.a U1 (.m 2 U3)))) rfl hn l2 l0)
  ·exact aK h2
theorem Wq {E : P} (hs : eH E) {s : Str} {ts r : List Tk} {v : V} (h : jA E s ts = some (v,r)) : r.length <= ts.length := by
 unfold jA at h;split at h
 ·exact aK h
 ·exact aKz (wQ hs _ _ _ _ h)
 ·obtain ⟨t,r1,h1,h2⟩ := aD h;have l1 := Dk hs h1;split at h2
  ·have := wQ hs _ _ _ _ h2; exact gP (UH (Ul U0 U1)<|UH (Ut U2 U0)<|UG (Ul U2 U1)) rfl l1 this
  ·obtain ⟨rfl,rfl⟩ := aZ h2; exact l1
theorem Ua {E : P} (hs : eH E) (hE : Dp E) {s : Str} {ts r : List Tk} {v : V} (e : hd ts "(" = true) (h : jA E s ts = some (v,r)) {k : Nat} (hk : 1 <= k) (hn : 2 * ts.length <= k + 2 * r.length) : PD (k + 1) v := by
 have l0 := dH e;unfold jA at h;split at h
 ·exact aK h
 ·exact YQ hs hE h (YK hk) hn
 ·obtain ⟨t,r1,h1,h2⟩ := aD h;have l1 := Dk hs h1;split at h2
  ·have l2 := wQ hs _ _ _ _ h2;have g : PD (k - 1 + 1 - 1 + 1) t := by
    by_cases hk2 : 2 <= k
    ·have := Gj hs hE h1 (k := k - 2) e (aDz hn l2 gY);exact this.mono (jX (UH (Ue (Up 0 2) U1)<|UH (Ul (Up 2 1) (Up 3 1))<|UH (Ul U1 (Up 2 1))<|UG (Ul (Up 0 1) (Up 3 1))) rfl (aJo (hk2)) gY gY)
    ·have := Gj hs hE h1 (k := 0) e (jX (UH (Ul (.m 2 U0) (.a U1 (.m 2 U2)))<|UH (Ut U1 (Un 2))<|HL.h 2 (Ut U2 U3)<|UG (Ul (.m 2 U0) (.a (.a (Un 0) (Un 4)) (.m 2 U3)))) rfl hn (aLx hk2) l2);exact this.mono (aDy)
   refine YQ hs hE h2 (k := k) (jC (n := k - 1) (Z4 (aJo (hk))) (lQ (.str _) (lQ (.str _) (kY ?_)))) (jX (UH (Ul (.m 2 U0) (.a U1 (.m 2 U2)))<|HL.h 2 (Ul U3 U0)<|UG (Ul (.m 2 U3) (.a U1 (.m 2 U2)))) rfl hn l1);by_cases hk2 : 2 <= k
   ·exact (Gj hs hE h1 (k := k - 2) e (aDz hn l2 gY)).mono (gP (UH (Ue (Up 0 2) U1)<|UH (Ul U1 (Up 2 1))<|UG (Ul (Up 0 1) U2)) rfl (aJo (hk2)) gY)
   ·exact (jX (UH (Ul (.m 2 U0) (.a U1 (.m 2 U2)))<|UH (Ut U1 (Un 2))<|HL.h 2 (Ul U3 U0)<|HL.h 2 (Ut U2 U3)<|HL.g 0 .f) rfl hn (aLx hk2) l1 l2).elim
  ·obtain ⟨rfl,rfl⟩ := aZ h2;refine jC (n := k) (aJr _) (lQ (.str _) (lQ (.str _) (kY ?_)));exact (Gj hs hE h1 (k := k - 1) e (jX (UH (Ul (.m 2 U0) (.a U1 (.m 2 U2)))<|UH (Ul U1 (Up 3 1))<|UG (Ul (.m 2 U0) (.a (Up 3 4) (.m 2 U2)))) rfl hn gY)).mono (Z4 (aJo (hk)))
theorem Ub {E : P} (hs : eH E) (hE : Dp E) : Dp (iB E) := fun ts v r h n hn => by
 have l0 := zU hs _ _ _ h;unfold iB at h;split at h
 ·rename_i s r0;rw [aJs] at hn l0;split at h
  ·rename_i e;have := Wq hs h;by_cases hn2 : 3 <= n
   ·exact (Ua hs hE e h (k := n - 2) (iR (UH (Ul (Un 3) U0)<|UH (Ul U0 (Up 1 2))<|UG (Ul (Un 1) U1)) rfl hn2 gY) (jX (UH (Ul (.a (.m 2 (Up 0 1)) (Un 0)) (.a U1 (.m 2 U2)))<|UH (Ul U1 (Up 3 2))<|UG (Ul (.m 2 U0) (.a U3 (.m 2 U2)))) rfl hn gY)).mono (iR (UH (Ue (Up 0 2) U1)<|UG (Ul (Up 0 1) U1)) rfl (aJo (eU (UH (Ul (Un 3) U0)<|UG (Ul (Un 2) U0)) rfl hn2)))
   ·exact (Ua hs hE e h (k := 1) (aO (c := .o) (d := .o) (UG (Ul (Un 1) (Un 1))) rfl) (gP (UH (Ul (.a (.m 2 (Up 0 1)) (Un 0)) (.a U1 (.m 2 U2)))<|UH (Ut U1 (Un 3))<|UG (Ul (.m 2 U0) (.a (Un 1) (.m 2 U2)))) rfl hn (aLx hn2))).mono (gP (UH (Ul (.a (.m 2 (Up 0 1)) (Un 0)) (.a U1 (.m 2 U2)))<|HL.h 2 (Ut U2 (Up 0 1))<|UG (Ul (.a (Un 1) (Un 1)) U1)) rfl hn l0)
  ·obtain ⟨rfl,rfl⟩ := aZ h; exact YK (oh hn)
 ·exact aK h
theorem V5 {E : P} (hs : eH E) (hE : Dp E) : Dp (bB E) := fun ts v r h n hn => by
 unfold bB at h;split at h
 ·exact Ub hs hE _ _ _ h _ hn
 ·obtain ⟨rfl,rfl⟩ := aZ h; exact YJ (by rw [aJs] at hn; exact oh hn)
 ·split at h
  ·exact Wo hs hE _ _ _ h _ hn
  ·exact aK h
 ·exact aK h
theorem YS : ∀ n,Dp (gE n)
 | 0 => fun _ _ _ h => by cases h
 | n + 1 => V3 (tZ (dZ n)) (V5 (dZ n) (YS n))
theorem Jp {E : P} (hs : eH E) (hE : Dp E) : DpK 1 (fL E) := fun ts v r h n hn => by
 have l0 := qP hs _ _ _ h;unfold fL at h;split at h
 ·obtain ⟨rfl,rfl⟩ := aZ h; exact jC (n := 0) (gP (UH (Ul (.a (.m 2 U0) (Un 1)) (.a U1 (.m 2 U2)))<|HL.h 2 (Ut U2 U0)<|UG (Ul (.a (Un 0) (Un 1)) U1)) rfl hn l0) (lQ .none (kY .none))
 ·obtain ⟨t,r1,h1,h2⟩ := aD h;have l1 := hs _ _ _ h1;split at h2
  ·rename_i e;have l2 := dH e;split at h2
   ·rename_i e2;have l3 := dH e2;obtain ⟨rfl,rfl⟩ := aZ h2; exact jC (n := n - 1) (Z4 (aJo (tC (UH (Ul (.a (.m 2 U0) (Un 1)) (.a U1 (.m 2 U2)))<|HL.h 2 (Ue (Up 2 1) U3)<|HL.h 2 (Ue (Up 3 1) U4)<|HL.h 2 (Ut U4 U0)<|UG (Ul (Un 1) U1)) rfl hn l3 l2 l1))) (lQ (hE _ _ _ h1 _ (Jt (UH (Ul (.a (.m 2 U0) (Un 1)) (.a U1 (.m 2 U2)))<|HL.h 2 (Ue (Up 2 1) U3)<|HL.h 2 (Ue (Up 3 1) U4)<|UH (Ul U1 (Up 5 1))<|UG (Ul (.a (.m 2 U0) (Un 0)) (.a U5 (.m 2 U4)))) rfl hn l3 l2 gY)) (kY .none))
   ·obtain ⟨t',r2,h3,h4⟩ := aD h2;obtain ⟨rfl,rfl⟩ := aZ h4;have l3 := hs _ _ _ h3;exact jC (n := n - 1) (Z4 (aJo (aEa hn l0))) (lQ (hE _ _ _ h1 _ (Jt (UH (Ul (.a (.m 2 U0) (Un 1)) (.a U1 (.m 2 U2)))<|HL.h 2 (Ue (Up 3 1) U4)<|HL.h 2 (Ut U2 U3)<|UH (Ul U1 (Up 5 1))<|UG (Ul (.a (.m 2 U0) (Un 0)) (.a U5 (.m 2 U4)))) rfl hn l2 l3 gY)) (kY (hE _ _ _ h3 _ (Jt (UH (Ul (.a (.m 2 U0) (Un 1)) (.a U1 (.m 2 U2)))<|HL.h 2 (Ue (Up 3 1) U4)<|HL.h 2 (Ut U4 U0)<|UH (Ul U1 (Up 5 1))<|UG (Ul (.a (.m 2 U3) (Un 0)) (.a U5 (.m 2 U2)))) rfl hn l2 l1 gY))))
  ·obtain ⟨rfl,rfl⟩ := aZ h2; exact jC (n := n - 1) (Z4 (aJo (aEa hn l0))) (lQ .none (kY (hE _ _ _ h1 _ (jX (UH (Ul (.a (.m 2 U0) (Un 1)) (.a U1 (.m 2 U2)))<|UH (Ul U1 (Up 3 1))<|UG (Ul (.a (.m 2 U0) (Un 0)) (.a U3 (.m 2 U2)))) rfl hn gY))))
theorem Jq {E : P} (hs : eH E) (hE : Dp E) : ∀ m acc ts v r,ts.length < m -> 1 <= ts.length -> kJ E acc ts = some (v,r) -> ∀ k,(∀ x ∈ acc,PD k x) -> 2 * ts.length <= k + 1 + 2 * r.length -> PD (k + 1) v /\ r.length < ts.length := by
 intro m;induction m with
 | zero => intro acc ts v r h; exact (Fg h).elim
 | succ m ih =>
  intro acc ts v r hm hne h k hk hn;rw [sI hs] at h;split at h
  ·exact aK h
  ·obtain ⟨t,r1,h1,h2⟩ := aD h;have l1 := qP hs _ _ _ h1;have l0 : ts.tail.length + 1 = ts.length := by rw [aMz]; exact aJq (Z4 (aJo (hne))) (Z5 gY)
   split at h2
   ·rename_i e;have l2 := dH e;have l3 : r.length < r1.length := (ih (acc ++ [t]) r1 v r (nu l0 hm l1) (KJ l2) h2 (k + 2 * ts.length) (Kp (fun x hx => (hk x hx).mono (iR (UG (Ul U0 (.a U0 (.m 2 U1)))) rfl)) (kY (Jp hs hE _ _ _ h1 _ (jX (HL.h 2 (Ue (Up 0 1) U1)<|UG (Ul (.a (.m 2 U0) (Un 1)) (.a (.a U2 (.m 2 U1)) (.m 2 U3)))) rfl l0)))) (tC (HL.h 2 (Ue (Up 0 1) U1)<|HL.h 2 (Ut U2 U0)<|UG (Ul (.m 2 U2) (.a (.a (.a U3 (.m 2 U1)) (Un 1)) (.m 2 U4)))) rfl l0 l1)).2;exact ⟨(ih _ _ _ _ (nu l0 hm l1) (KJ l2) h2 k (Kp hk (kY (Jp hs hE _ _ _ h1 _ (tC (UH (Ul (.m 2 U0) (.a (Up 1 1) (.m 2 U2)))<|HL.h 2 (Ue (Up 3 1) U0)<|HL.h 2 (Ut U2 U4)<|UG (Ul (.a (.m 2 U3) (Un 1)) (.a U1 (.m 2 U4)))) rfl hn l0 l3)))) (tC (UH (Ul (.m 2 U0) (.a (Up 1 1) (.m 2 U2)))<|HL.h 2 (Ue (Up 3 1) U0)<|HL.h 2 (Ut U4 U3)<|UG (Ul (.m 2 U4) (.a (Up 1 1) (.m 2 U2)))) rfl hn l0 l1)).1,by exact jX (UH (Ue (Up 0 1) U1)<|UH (Ut U2 U0)<|UH (Ut U3 U2)<|UG (Ut U3 U1)) rfl l0 l1 l3⟩
   ·obtain ⟨rfl,rfl⟩ := aZ h2;exact ⟨qW (aJr _) (Kp hk (kY (Jp hs hE _ _ _ h1 _ (jX (UH (Ul (.m 2 U0) (.a (Up 1 1) (.m 2 U2)))<|HL.h 2 (Ue (Up 3 1) U0)<|UG (Ul (.a (.m 2 U3) (Un 1)) (.a U1 (.m 2 U2)))) rfl hn l0)))),by exact gP (UH (Ue (Up 0 1) U1)<|UH (Ut U2 U0)<|UG (Ut U2 U1)) rfl l0 l1⟩
theorem V6 {E : P} (hs : eH E) (hE : Dp E) : DpK 1 (kI E) := fun ts v r h n hn => by
 unfold kI at h;split at h
 ·rename_i e;have l0 := dH e;obtain ⟨t,r1,h1,h2⟩ := aD h;split at h2
  ·exact aK h2
  ·split at h2
   ·rename_i e2;obtain ⟨rfl,rfl⟩ := aZ h2;have l2 := dH e2;have l1 := (Jq hs hE _ _ _ _ _ (aKa _) (KJ l0) h1 (2 * ts.length) Ko (aEb)).2;exact ((Jq hs hE _ _ _ _ _ (aKa _) (KJ l0) h1 (n - 1) Ko (tC (UH (Ul (.a (.m 2 U0) (Un 1)) (.a U1 (.m 2 U2)))<|HL.h 2 (Ue (Up 2 1) U3)<|UH (Ul U1 (Up 4 1))<|UG (Ul (.m 2 U0) (.a (Up 4 1) (.m 2 U3)))) rfl hn l2 gY)).1).mono (Z4 (aJo (jX (UH (Ul (.a (.m 2 U0) (Un 1)) (.a U1 (.m 2 U2)))<|HL.h 2 (Ue (Up 2 1) U3)<|HL.h 2 (Ut U3 U0)<|UG (Ul (Un 1) U1)) rfl hn l2 l1)))
   ·exact aK h2
 ·obtain ⟨rfl,rfl⟩ := aZ h; exact qW (n := 0) (iR (UH (Ul (.a (.m 2 U0) (Un 1)) (.a U1 (.m 2 U0)))<|UG (Ul (.a (Un 0) (Un 1)) U1)) rfl hn) Ko
theorem YT {E : P} (hs : eH E) (hE : Dp E) {ts r : List Tk} {v : V} (h : kI E ts = some (v,r)) : r.length <= ts.length := by
 unfold kI at h;split at h
 ·rename_i e;have l0 := dH e;obtain ⟨t,r1,h1,h2⟩ := aD h;split at h2
  ·exact aK h2
  ·split at h2
   ·rename_i e2;obtain ⟨rfl,rfl⟩ := aZ h2;have l2 := dH e2;have l1 := (Jq hs hE _ _ _ _ _ (aKa _) (KJ l0) h1 (2 * ts.length) Ko (aEb)).2;exact gP (UH (Ue (Up 0 1) U1)<|UH (Ut U1 U2)<|UG (Ul U0 U2)) rfl l2 l1
   ·exact aK h2
 ·obtain ⟨rfl,rfl⟩ := aZ h; exact aJr _
theorem YW {E : P} (hs : eH E) (hE : Dp E) : Dp (gD E) := fun ts v r h n hn => by
 unfold gD at h;split at h
 ·split at h
  ·exact aK h
  ·obtain ⟨rfl,rfl⟩ := aZ h; exact YJ (by rw [aJs] at hn; exact oh hn)
 ·split at h
  ·rename_i e;have l0 := dH e;split at h
   ·split at h
    ·obtain ⟨rfl,rfl⟩ := aZ h; exact .str _
    ·exact aK h
   ·exact Ms hs hE _ _ _ h _ (jX (UH (Ul (.a (.m 2 U0) (Un 0)) (.a U1 (.m 2 U2)))<|HL.h 2 (Ue (Up 3 1) U0)<|UG (Ul (.a (.m 2 U3) (Un 0)) (.a U1 (.m 2 U2)))) rfl hn l0)
  ·exact aK h
theorem HF {E : P} (hs : eH E) (hE : Dp E) (b : Bool) : Dp (gO E b) := fun ts v r h n hn => by
 unfold gO at h;split at h
 ·have := bM ts;exact YW hs hE _ _ _ h _ (aDv hn this)
 ·obtain ⟨rfl,rfl⟩ := aZ h; exact .none
theorem Wr {E : P} (hs : eH E) {b : Bool} {ts r : List Tk} {v : V} (h : gO E b ts = some (v,r)) : r.length <= ts.length := by
 unfold gO at h;split at h
 ·have := bM ts;have := Iv hs _ _ _ h;exact G9 (by assumption) (by assumption)
 ·obtain ⟨rfl,rfl⟩ := aZ h; exact aJr _
theorem Bx {E : P} (hs : eH E) (hE : Dp E) (f : Nat) : Dp (gW E f) := fun ts v r h n hn => by
 unfold gW at h;split at h
 ·rw [aJs] at hn;split at h
  ·exact aK h
  ·obtain ⟨t,r1,h1,h2⟩ := aD h;obtain ⟨t',r2,h3,h4⟩ := aD h2;obtain ⟨rfl,rfl⟩ := aZ h4;have l1 := YT hs hE h1;have l2 := Wr hs h3;exact jC (n := n - 1) (Z4 (aJo (jX (UH (Ul (.a (.m 2 (Up 0 1)) (Un 0)) (.a U1 (.m 2 U2)))<|HL.h 2 (Ul U2 U3)<|HL.h 2 (Ul U3 U0)<|UG (Ul (Un 1) U1)) rfl hn l2 l1))) (lQ (.str _) (lQ (V6 hs hE _ _ _ h1 _ (tC (UH (Ul (.a (.m 2 (Up 0 1)) (Un 0)) (.a U1 (.m 2 U2)))<|HL.h 2 (Ul U2 U3)<|UH (Ul U1 (Up 4 1))<|UG (Ul (.a (.m 2 U0) (Un 1)) (.a U4 (.m 2 U3)))) rfl hn l2 gY)) (kY (HF hs hE _ _ _ _ h3 _ (tC (UH (Ul (.a (.m 2 (Up 0 1)) (Un 0)) (.a U1 (.m 2 U2)))<|HL.h 2 (Ul U3 U0)<|UH (Ul U1 (Up 4 1))<|UG (Ul (.a (.m 2 U3) (Un 0)) (.a U4 (.m 2 U2)))) rfl hn l1 gY)))))
 ·exact aK h
theorem YX {E : P} (hs : eH E) (hE : Dp E) : Dp (jL E) := fun ts v r h n hn => by
 obtain ⟨t,r1,h1,h2⟩ := aD h;split at h2
 ·exact aK h2
 ·obtain ⟨rfl,rfl⟩ := aZ h2; exact Ub hs hE _ _ _ h1 _ hn
theorem YZ {E : P} (hs : eH E) (hE : Dp E) : Dp (fM E) := fun ts v r h n hn => by
 unfold fM at h;split at h
 ·rename_i e;have l0 := dH e;obtain ⟨t,r1,h1,h2⟩ := aD h;split at h2
  ·exact aK h2
  ·split at h2
   ·rename_i e2;obtain ⟨rfl,rfl⟩ := aZ h2;have l2 := dH e2;have l3 := wR (qQ hs) _ _ (aJr _) _ _ _ h1;exact (Pb (qQ hs) (YX hs hE) _ _ _ _ _ (aKa _) h1 (n - 1) Ko (Jt (UH (Ul (.a (.m 2 U0) (Un 0)) (.a U1 (.m 2 U2)))<|HL.h 2 (Ue (Up 2 1) U3)<|HL.h 2 (Ue (Up 4 1) U0)<|UH (Ul U1 (Up 5 1))<|UG (Ul (.m 2 U4) (.a U5 (.m 2 U3)))) rfl hn l2 l0 gY)).mono (Z4 (aJo (tC (UH (Ul (.a (.m 2 U0) (Un 0)) (.a U1 (.m 2 U2)))<|HL.h 2 (Ue (Up 2 1) U3)<|HL.h 2 (Ue (Up 4 1) U0)<|HL.h 2 (Ut U3 U4)<|UG (Ul (Un 1) U1)) rfl hn l2 l0 l3)))
   ·exact aK h2
 ·exact aK h
theorem V7 {E : P} (hs : eH E) (hE : Dp E) : Dp (jV E) := fun ts v r h n hn => by
 unfold jV at h;split at h
 ·rw [aJs] at hn;split at h
  ·rename_i e;have l0 := dH e;obtain ⟨t,r1,h1,h2⟩ := aD h;obtain ⟨rfl,rfl⟩ := aZ h2;have l1 := hs _ _ _ h1;exact jC (n := n - 1) (Z4 (aJo (jX (UH (Ul (.a (.m 2 (Up 0 1)) (Un 0)) (.a U1 (.m 2 U2)))<|HL.h 2 (Ue (Up 3 1) U0)<|HL.h 2 (Ut U2 U3)<|UG (Ul (Un 1) U1)) rfl hn l0 l1))) (lQ (.str _) (kY (hE _ _ _ h1 _ (tC (UH (Ul (.a (.m 2 (Up 0 1)) (Un 0)) (.a U1 (.m 2 U2)))<|HL.h 2 (Ue (Up 3 1) U0)<|UH (Ul U1 (Up 4 1))<|UG (Ul (.a (.m 2 U3) (Un 0)) (.a U4 (.m 2 U2)))) rfl hn l0 gY))))
  ·exact aK h
 ·exact aK h
theorem Ws {E : P} (hs : eH E) (hE : Dp E) : ∀ m acc ts v r,ts.length < m -> gJ E acc ts = some (v,r) -> ∀ k,(∀ x ∈ acc,PD k x) -> 2 * ts.length <= k + 2 * r.length -> PD (k + 1) v := by
 intro m;induction m with
 | zero => intro acc ts v r h; exact (Fg h).elim
 | succ m ih =>
  intro acc ts v r hm h k hk hn;rw [lD hs] at h;obtain ⟨t,r1,h1,h2⟩ := aD h;have l1 := iJ hs 3 _ _ _ h1;split at h2
  ·rename_i e;have l2 := dH e;split at h2
   ·obtain ⟨rfl,rfl⟩ := aZ h2;exact qW (aJr _) (Kp hk (kY (Bx hs hE 3 _ _ _ h1 _ (jX (UH (Ul (.m 2 U0) (.a U1 (.m 2 U2)))<|HL.h 2 (Ue (Up 2 1) U3)<|UG (Ul (.a (.m 2 U0) (Un 0)) (.a U1 (.m 2 U3)))) rfl hn l2))))
   ·have l3 := vI hs _ _ _ _ h2;exact ih _ _ _ _ (nq l2 l1 hm) h2 k (Kp hk (kY (Bx hs hE 3 _ _ _ h1 _ (aDw hn l2 l3)))) (aDx hn l2 l1)
  ·obtain ⟨rfl,rfl⟩ := aZ h2;exact qW (aJr _) (Kp hk (kY (Bx hs hE 3 _ _ _ h1 _ (by omega))))
theorem ZC {ts r : List Tk} {v : V} (h : lO ts = some (v,r)) {n : Nat} : PD n v := by
 unfold lO at h;split at h
 ·obtain ⟨rfl,rfl⟩ := aZ h; exact .str _
 ·split at h
  ·split at h
   ·split at h
    ·obtain ⟨rfl,rfl⟩ := aZ h; exact .str _
    ·exact aK h
   ·exact aK h
  ·obtain ⟨rfl,rfl⟩ := aZ h; exact .str _
theorem za {E : P} (hs : eH E) (hE : Dp E) : ∀ m acc ts v r,ts.length < m -> rB E acc ts = some (v,r) -> ∀ k,2 * ts.length <= k -> (∀ x ∈ acc,PD (k + 2) x) -> PD (k + 3) v := by
 intro m;induction m with
 | zero => intro acc ts v r h; exact (Fg h).elim
 | succ m ih =>
  intro acc ts v r hm h k hk ha;rw [yK hs] at h;obtain ⟨b,r1,h1,h2⟩ := aD h;obtain ⟨mm,r2,h3,h4⟩ := aD h2;have l1 := Ly h1;have l2 := vI hs _ _ _ _ h3;have g : PD (k + 2) (zZ b mm) := jC (aJr _) (lQ (.str _) (lQ (ZC h1) (kY (Ws hs hE _ _ _ _ _ (aKa _) h3 k Ko (jX (UH (Ul (.m 2 U0) U1)<|HL.h 2 (Ul U2 U0)<|UG (Ul (.m 2 U2) (.a U1 (.m 2 U3)))) rfl hk l1)))));split at h4
  ·exact ih _ _ _ _ (jX (UH (Ul U0 U1)<|UH (Ut U1 (Up 2 1))<|UH (Ut U3 U0)<|UG (Ut U3 U2)) rfl l1 hm l2) h4 k (jX (UH (Ul (.m 2 U0) U1)<|HL.h 2 (Ul U2 U0)<|HL.h 2 (Ut U3 U2)<|UG (Ul (.m 2 U3) U1)) rfl hk l1 l2) (Kp ha (kY g))
  ·obtain ⟨rfl,rfl⟩ := aZ h4;exact qW (aJr _) (Kp ha (kY g))
noncomputable def zc (form kind : Int) : P := if form = 0 then jM 0 kind .none else if form = 1 then nH kind else if form = 2 then XC else if form = 3 then rB cC [] else if form = 4 then Bt else oO
theorem Pg {p : P} (hs : eH p) (hp : Dp p) {ts r : List Tk} {v : V} (h : eN p [] ts = some (v,r)) {k : Nat} (hk : 2 * ts.length <= k) : PD (k + 1) v :=
 Pb hs hp _ _ _ _ _ (aKa _) h k Ko (gP (UH (Ul (.m 2 U0) U1)<|UG (Ul (.m 2 U0) (.a U1 (.m 2 U2)))) rfl hk)
theorem Ph {f : Nat} (hf : f ≠ 3) {kind : Int} {l : V} {ts r : List Tk} {v : V} (h : jM f kind l ts = some (v,r)) {k : Nat} (hk : 2 * ts.length <= k) (hl : PD k l) : PD (k + 3) v := by
 obtain ⟨t,r1,h1,h2⟩ := aD h;cases h2
 have h1 : eN (gW cC f) [] ts = some (t,r) := by unfold pN at h1; rw [if_neg hf] at h1; exact h1
 exact qW (aJr _) (kY (jC (aJr _) (lQ (.str _) (lQ (.int _) (lQ (hl.mono (Kv)) (kY ((Pg (iJ (dZ 1000) f) (Bx (dZ 1000) (YS 1000) f) h1 hk).mono (JQ))))))))
theorem aGy {form kind : Int} {ts r : List Tk} {v : V} (h : zc form kind ts = some (v,r)) {k : Nat} (hk : 2 * ts.length <= k) : PD (k + 3) v := by
 have hs := dZ 1000;have hE := YS 1000;unfold zc at h;split at h
 ·exact Ph (by decide) h hk .none
 ·split at h
  ·unfold nH at h;split at h
   ·rename_i e;have l0 := dH e;obtain ⟨t,r1,h1,h2⟩ := aD h;have l1 := Iv hs _ _ _ h1;have l2 := bM r1;refine Ph (by decide) h2 (k := k) ?_ (YW hs hE _ _ _ h1 _ (jX (UH (Ul (.m 2 U0) U1)<|HL.h 2 (Ue (Up 2 1) U0)<|UG (Ul (.a (.m 2 U2) (Un 0)) (.a U1 (.m 2 U3)))) rfl hk l0));have b : 2 * r1.length <= k := aJw (Nat.mul_le_mul_left 2 (aKz (aKx l1 (aKz (Nat.lt_of_succ_le (aOe l0)))))) hk;split
    ·exact aJw (Nat.mul_le_mul_left 2 l2) b
    ·exact b
   ·exact Ph (by decide) h hk .none
  ·split at h
   ·obtain ⟨t,r1,h1,h2⟩ := aD h;obtain ⟨rfl,rfl⟩ := aZ h2;exact qW (aJr _) (kY (jC (aJr _) (lQ (.str _) (kY ((Pg (iJ hs 2) (Bx hs hE 2) h1 hk).mono (JQ))))))
   ·split at h
    ·exact za hs hE _ _ _ _ _ (aKa _) h k hk Ko
    ·split at h
     ·obtain ⟨t,r1,h1,h2⟩ := aD h;obtain ⟨rfl,rfl⟩ := aZ h2;exact qW (aJr _) (kY (jC (aJr _) (lQ (.str _) (kY ((Pg (zX hs) (YZ hs hE) h1 hk).mono (JQ))))))
     ·unfold oO at h;split at h
      ·rename_i e;have l0 := dH e;obtain ⟨t,r1,h1,h2⟩ := aD h;obtain ⟨rfl,rfl⟩ := aZ h2;obtain ⟨t',r1,h3,h4⟩ := aD h1;split at h4
       ·obtain ⟨rfl,rfl⟩ := aZ h4;exact qW (aJr _) (kY (jC (aJr _) (lQ (.str _) (kY ((Pg (Dr hs) (V7 hs hE) h3 (k := k) (gP (UH (Ul (.m 2 U0) U1)<|HL.h 2 (Ue (Up 2 1) U0)<|UG (Ul (.m 2 U2) U1)) rfl hk l0)).mono (JQ))))))
       ·exact aK h4
      ·exact aK h
end Mine
end
namespace Mine
variable {G : eX} {c : Cfg G} {ρ : En} {σ : aW} {X : Prop}
theorem Jr : ∀ xs : List Str,(Txt.join (aJp "") xs).cps.toList = (xs.map (·.cps.toList)).flatten := by
 intro xs;show (Builtin.Str.glued (aJp "") xs).cps.toList = _;rw [StrLaws.glued_eq_join];induction xs with
 | nil => rfl
 | cons x r ih =>
  cases r with
  | nil => show x.cps.toList = _; simp
  | cons y r =>
   show (x.cps ++ (aJp "").cps ++ (Str.join (aJp "") (y :: r)).cps).toList = _;rw [aMq,aMq,ih,show (aJp "").cps.toList = [] from by decide +kernel];simp
theorem V8 (a b : List Nat) : Us (a ++ b) = Us a + Us b := by unfold Us; rw [aKt,aLb]
theorem Row.text {k l w : Nat} {xs : List Str} (h : Row k l w xs) (hl : l <= 600) : jQ (Txt.join (aJp "") xs) /\ Us (Txt.join (aJp "") xs).cps.toList <= w := by
 have e1 : (Txt.join (aJp "") xs).length = (xs.map (·.length)).sum := by
  rw [<- jQ.size,Jr,List.length_flatten,aOf];congr 1
 have e2 : Us (Txt.join (aJp "") xs).cps.toList = (xs.map wtS).sum := by
  rw [Jr];clear h e1;induction xs with
  | nil => rfl
  | cons x r ih => rw [aLf,List.flatten_cons,V8,ih,aLf,aNb]; rfl
 refine ⟨⟨fun c hc => ?_,by rw [e1]; have := h.len; exact iR (UH (Ul U0 (Un 600))<|UH (Ul U1 U0)<|UG (Ul U1 (Un 600))) rfl hl this⟩,by rw [e2]; exact h.wt⟩;rw [Jr] at hc;obtain ⟨l',h1,h2⟩ := List.mem_flatten.mp hc;obtain ⟨s,h3,h4⟩ := aMl.mp h1;subst h4;exact h.al s h3 c h2
theorem ZD {a b : List Nat} (h : a.Sublist b) : Us a <= Us b := Ox wt1 h
theorem V9 (t : Tk) (ts : List Tk) : nd (t :: ts) = nd ts + (if t = .op "(" then 10 else 0) + (if t = .op "**" then 1 else 0) := by
 unfold nd Ew Fb;rw [aMb,aMb];simp only [decide_eq_true_eq];rw [Nat.mul_add,show ∀ (p : Prop) [Decidable p],10 * (if p then 1 else 0) = if p then 10 else 0 from fun p _ => by split <;> rfl,Nat.add_add_add_comm, <- Nat.add_assoc]
theorem HJ {c : Nat} {r : List Nat} {t : Tk} {r' : List Nat} (h : eO c r = some (t,r')) : (if t = .op "(" then 10 else 0) + (if t = .op "**" then 1 else 0) <= wt1 c := by
 by_cases h1 : t = .op "("
 ·subst h1;rw [if_pos rfl,if_neg (Et (by decide +kernel))];rcases Dz h with ⟨rfl,_⟩ | ⟨_,e,_⟩ | ⟨e,_⟩
  ·decide
  ·exact absurd e (Et xO)
  ·exact absurd rfl e
 ·rw [if_neg h1];by_cases h2 : t = .op "**"
  ·subst h2;rw [if_pos rfl];have : c = 42 := by
    unfold eO at h;split at h
    ·split at h <;> cases h
    ·split at h
     ·cases h
     ·split at h
      ·have e : (⟨#[c,c]⟩ : Str) = aJp "**" := by cases h; rfl
       have e2 : aJp "**" = ⟨#[42,42]⟩ := by decide +kernel
       rw [e2] at e;cases e; rfl
      ·cases h
   subst this; decide
  ·rw [if_neg h2]; exact eU (UG (Ul (.a (Un 0) (Un 0)) U0)) rfl
theorem dh : ∀ (n : Nat) (cs : List Nat) (ts : List Tk),cs.length <= n -> fX cs = some ts -> nd ts <= Us cs := by
 intro n;induction n with
 | zero =>
  intro cs ts hn h;have : cs = [] := aKu.mp (aJq (hn) (Z9));subst this;rw [fH] at h; obtain rfl := aJn h; exact aJr _
 | succ n ih =>
  intro cs ts hn h;cases cs with
  | nil => rw [fH] at h; obtain rfl := aJn h; exact aJr _
  | cons c r =>
   rw [aJs] at hn;rw [iK] at h;cases h1 : eO c r with
   | none => rw [h1] at h; exact aK h
   | some p =>
    obtain ⟨t,r'⟩ := p;rw [h1] at h;obtain ⟨x',h2,rfl⟩ := aKc.mp h;have := Bo h1;have g1 := ih r' x' (KH hn this) h2;have g2 := ZD (Tg h1).sublist;have g3 := HJ h1;have g4 : Us (c :: r) = wt1 c + Us r := by unfold Us; rw [aLf,aNb]
    rw [V9,g4]; exact Jt (UH (Ul (.a U0 U1) U2)<|UH (Ul U3 U4)<|UH (Ul U4 U5)<|UG (Ul (.a (.a U3 U0) U1) (.a U2 U5))) rfl g3 g1 g2
theorem zf {t : Str} {l : List Nat} {ts : List Tk} (hs : l.Sublist t.cps.toList) (h : fX l = some ts) : nd ts <= Us t.cps.toList := aJw (dh _ l ts (aJr _) h) (ZD hs)
noncomputable def lE (form kind : Int) (t : Str) : Option V := (fX t.cps.toList).bind fun ts => cP (zc form kind ts)
theorem ZF {kind : Int} {t : Str} : lE 0 kind t = (bW t (cZ 0)).map (jW kind .none) := by
 unfold lE bW;cases fX t.cps.toList with
 | none => rfl
 | some ts => exact Ac (by decide) kind .none ts
theorem ZG {t : Str} : lE 1 5 t = Ma t.cps.toList := (T8 _).symm
theorem ZJ {kind : Int} {t : Str} : lE 2 kind t = (bW t Q7).map fun v => .lst [.tup [.str "dimension",v]] := by
 unfold lE bW;cases fX t.cps.toList with
 | none => rfl
 | some ts => exact yQ _ _
theorem ZK {kind : Int} {t : Str} : lE 3 kind t = bW t Q9 := rfl
theorem ZL {kind : Int} {t : Str} : lE 4 kind t = (bW t Ot).map fun v => .lst [.tup [.str "equiv",v]] := by
 unfold lE bW;cases fX t.cps.toList with
 | none => rfl
 | some ts => exact yQ _ _
theorem ZM {kind : Int} {t : Str} : lE 5 kind t = (bW t Dq).map fun v => .lst [.tup [.str "param",v]] := by
 unfold lE bW;cases fX t.cps.toList with
 | none => rfl
 | some ts =>
  show cP (oO ts) = (Dq ts).map _;unfold oO Dq;split
  ·exact yQ _ _
  ·rfl
theorem HN {x : Option (V × List Tk)} {v : V} (h : cP x = some v) : x = some (v,[]) := by
 unfold cP at h;split at h
 ·obtain rfl := aJn h; rfl
 ·exact aK h
theorem ZP {form kind : Int} {t : Str} {v : V} (H : jQ t) (h : lE form kind t = some v) : PD 1210 v := by
 unfold lE at h;obtain ⟨ts,h1,h2⟩ := aMs.mp h;have hl := (Ti 600 _ _ (by rw [jQ.size]; exact H.len) (aJr _) H.al h1).2;have := H.len;rw [jQ.size] at hl;exact (aGy (HN h2) (k := 1200) (iR (HL.h 2 (Ul U0 (Un 600))<|HL.h 2 (Ul U1 U0)<|UG (Ul (.m 2 U1) (Un 1200))) rfl this hl)).mono (aO (c := .o) (d := .o) (UG (Ul (.a (Un 1200) (Un 3)) (Un 1210))) rfl)
theorem zj {form kind : Int} {t : Str} {v : V} {st' : LS} (o : Mt (zc form kind) (fX t.cps.toList) v st') : (if (cU st').isEmpty then v else .none) = (lE form kind t).getD .none := by
 unfold lE;cases h : fX t.cps.toList with
 | none =>
  rw [h] at o;have o : st' = none := o;subst o;rfl
 | some ts =>
  rw [h] at o;rcases o with ⟨rfl,e⟩ | ⟨r,rfl,e,_⟩
  ·show V.none = (cP (zc form kind ts)).getD .none;rw [e]; rfl
  ·show _ = (cP (zc form kind ts)).getD .none;rw [e];cases r with
   | nil => rfl
   | cons t r => rfl
end Mine
section
set_option tactic.hygienic true
namespace Mine
variable {G : eX} {c : Cfg G} {σ : aW} {X : Prop}
theorem Wt {fa : Addr} {d : CT} {ok : List Stmt -> Bool} (hf : zA G fa d ok) {xs : List V} {σ : aW} {Q : KV} (hl : xs.length = d.np) (hn : 1 <= c.n)
  (h : ∀ (e : Cfg G) (ss : List Stmt),e.n + 1 = c.n -> (∀ a,e.W a -> σ a ≠ .none) -> e.gn = d.gs -> ok ss = true -> (zB xs d.nl).length = d.ns.length ->
   WS e ss (zl d.ns (zB xs d.nl)) σ (fun φ _ σ' => Q (Xd φ) σ') X) : aR c (.ref fa) xs σ Q X := by
 obtain ⟨name,ar,body,sc,hok,hbind,oc,od,osl,doc,pm,an,cdv,ct,h1,h2⟩ := hf;obtain ⟨hok,hb⟩ := qM hok;obtain ⟨hok,hle⟩ := qM hok;obtain ⟨hok,hkind⟩ := qM hok;obtain ⟨hok,hgen⟩ := qM hok;obtain ⟨hok,hco⟩ := qM hok;obtain ⟨hok,hcell⟩ := qM hok;obtain ⟨hloc,JF,hnd⟩ := aGc hok;have hlen := aLr hle;have hns : d.np <= d.ns.length := by exact Z42 hlen
 have loc : ∀ x ∈ d.ns,sc.names.lookup x = some .local /\ (x == ("__debug__" : Str)) = false := fun x hx => by
  obtain ⟨a,b⟩ := qM (aKp.mp hloc x hx);exact ⟨of_decide_eq_true a,by simpa using b⟩
 have gl : ∀ x ∈ d.gs,sc.names.lookup x = some .globalImplicit /\ (x == ("__debug__" : Str)) = false := fun x hx => by
  obtain ⟨a,b⟩ := qM (aKp.mp JF x hx);exact ⟨of_decide_eq_true a,by simpa using b⟩
 have hll : (d.ns.take d.np).length = d.np := aOi hns;have hsplit : d.ns.take d.np ++ d.ns.drop d.np = d.ns := aMy _ _;refine aR.intro (st := .FunctionDef name ar body [] .none [] sc .none name default) (ps := d.ns.take d.np) (ls := d.ns.drop d.np) (gs := d.gs)
  ⟨name,_,body,sc,rfl,oc,od,osl,doc,pm,an,cdv,ct,h1,h2⟩ rfl (hl.trans hll.symm) hn (fun vs hv => hbind vs (hv.trans hll)) (by rw [hsplit]; exact of_decide_eq_true hnd) (by rw [hsplit]; exact loc) gl
  (fun x hx e => by have := aKp.mp hcell x hx; rw [e] at this; exact absurd this (by decide)) (by simpa using hco) (by simpa using hgen) (of_decide_eq_true hkind) (fun e hen _ heg _ _ hW => ?_)
 have hz := Hy (ρ := []) (ns := d.ns) (xs := xs) (Z43 hl hlen);rw [hl,show d.ns.length - d.np = d.nl by exact aJq (Z44 (aJo (Z42 hlen)) hlen) (Z45 hlen gY)] at hz;rw [hz];refine (h e body hen hW heg hb (by rw [Hz]; exact aJq (Z46 hl hlen) (Z47 hlen hl))).mono (fun φ l σ' q => ?_) id;exact ⟨σ',Sub.refl _,q⟩
noncomputable def hT5 : Expr -> Bool
 | .Constant .none _ _ => true
 | _ => false
noncomputable def hT4 : Stmt -> Bool
 | .Return (some v) _ => hT5 v
 | _ => false
noncomputable def hT3 : Expr -> Bool
 | .Name x _ => sE "F77Error" x
 | _ => false
noncomputable def hT2 : ExceptHandler -> Bool
 | .ExceptHandler (some x) none [r] _ => hT3 x && hT4 r
 | _ => false
noncomputable def hT1 (d : CT) : Stmt -> Bool
 | .Try body [h] [] [] _ => hT2 h && zQ d body
 | _ => false
noncomputable def hT (d : CT) : List Stmt -> Bool
 | [st] => hT1 d st
 | _ => false
theorem zm {e : Expr} (h : hT5 e = true) : ∃ kk cp,e = .Constant .none kk cp := by
 cases e <;> first | (exact absurd h aJx) | skip
 rename_i cv _ _;cases cv <;> first | (exact absurd h aJx) | exact ⟨_,_,rfl⟩
theorem zp {st : Stmt} (h : hT4 st = true) : ∃ kk cp rp,st = .Return (some (.Constant .none kk cp)) rp := by
 cases st <;> first | (exact absurd h aJx) | skip
 rename_i v p;cases v with
 | none => exact absurd h aJx
 | some v =>
  obtain ⟨kk,cp,rfl⟩ := zm (e := v) h;exact ⟨_,_,_,rfl⟩
theorem zq {e : Expr} (h : hT3 e = true) : ∃ np,e = .Name "F77Error" np := by
 cases e <;> first | (exact absurd h aJx) | exact ⟨_,by rw [<- pK h]⟩
theorem zu {x : ExceptHandler} (h : hT2 x = true) : ∃ np kk cp rp hp,x = .ExceptHandler (some (.Name "F77Error" np)) none [.Return (some (.Constant .none kk cp)) rp] hp := by
 obtain ⟨x,nm,b,p⟩ := x;rcases x with _ | x
 ·exact absurd h aJx
 rcases nm with _ | _
 ·rcases b with _ | ⟨r,_ | _⟩
  ·exact absurd h aJx
  ·obtain ⟨h1,h2⟩ := qM (a := hT3 x) (b := hT4 r) h;obtain ⟨_,rfl⟩ := zq h1;obtain ⟨_,_,_,rfl⟩ := zp h2;exact ⟨_,_,_,_,_,rfl⟩
  ·exact absurd h aJx
 ·exact absurd h aJx
theorem aGz {d : CT} {ss : List Stmt} (h : hT d ss = true) : ∃ body x np kk cp rp hp pos,ss = [.Try body [.ExceptHandler (some (.Name x np)) none [.Return (some (.Constant .none kk cp)) rp] hp] [] [] pos] /\ x = "F77Error" /\ zQ d body = true := by
 rcases ss with _ | ⟨st,_ | _⟩
 ·exact absurd h aJx
 ·replace h : hT1 d st = true := h;cases st <;> first | (exact absurd h aJx) | skip
  rename_i body hs e f pos;rcases hs with _ | ⟨x,_ | _⟩
  ·exact absurd h aJx
  ·rcases e with _ | _
   ·rcases f with _ | _
    ·obtain ⟨h1,h2⟩ := qM (a := hT2 x) (b := zQ d body) h;obtain ⟨_,_,_,_,_,rfl⟩ := zu h1;exact ⟨_,_,_,_,_,_,_,_,rfl,rfl,h2⟩
    ·exact absurd h aJx
   ·exact absurd h aJx
  ·exact absurd h aJx
 ·exact absurd h aJx
theorem jK {w t : Str} {n : Nat} (h : w.cps.toList.length = n) : (w ++ t).cps.toList.drop n = t.cps.toList := by
 show (w.cps ++ t.cps).toList.drop n = _;rw [aMq,List.drop_append,h,Nat.sub_self,aKe,aJz (Z26 h)]; rfl
theorem gK {w t : Str} {n : Nat} (h : w.cps.toList.length = n) (hn : n <= 20) (ht : t.length <= 600) : (w ++ t).length <= 700 := by
 have : (w ++ t).length = w.cps.toList.length + t.length := by
  rw [<- jQ.size, <- jQ.size];show (w.cps ++ t.cps).toList.length = _;rw [aMq,aJt]
 exact jX (UH (Ue U0 (.a U1 U2))<|UH (Ue U1 U3)<|UH (Ul U2 (Un 600))<|UH (Ul U3 (Un 20))<|UG (Ul U0 (Un 700))) rfl this h ht hn
section
variable (F : Facts G) {t : Str} (H : jQ t)
include H
theorem ZQ (hF : zA G (F.a .fB) (Hx .fB) (hT (Hx .fB))) (gF : GV G "F77Error" (.val (.ref F.N.Z.cF))) {form kind : Int} {w : Nat} {Q : KV} (hσ : ∀ a,σ a = .none) (hf : 0 <= form /\ form < 6) (hk : form = 0 -> 0 <= kind /\ kind < 5) (hk' : form ≠ 0 -> kind = 5) (hw : Us t.cps.toList <= w) (hn : w + 30 <= c.n)
  (q : Q ((lE form kind t).getD .none) σ) : aR c (.ref (F.a .fB)) [.int form,.int kind,.str t] σ Q X := by
 have hlen := H.len;have nds : ∀ l ts,l.Sublist t.cps.toList -> fX l = some ts -> nd ts <= w := fun l ts h1 h2 => aJw (zf h1 h2) hw;have W0 : ∀ ts,fX t.cps.toList = some ts -> nd ts <= w := fun ts h => nds _ ts (List.Sublist.refl _) h;refine Wt hF rfl (iR (UH (Ul (Up 0 30) U1)<|UG (Ul (Un 1) U1)) rfl hn) fun e ss hdn hW h3 h4 h5 => ?_;obtain ⟨body,x,_,_,_,_,_,_,rfl,rfl,hb⟩ := aGz h4;refine iG (vf F.N.Z (by rw [h3]; decide +kernel) gF (X' := lE form kind t = none) hσ (fun a h => hW a h (hσ a)) (fun d e1 e2 e3 e4 e5 hW' => ?_) fun e _ => by rw [e] at q; exact q)
 ·refine WS.mono (Oc F.N (e3.trans h3) _ hb h5 (Q := rK Q) ?_) (fun φ l σ' q => by obtain ⟨ρ,_,_,q⟩ := q; cases φ <;> first | exact LK q | exact q) id;have fin : ∀ v,lE form kind t = some v -> Q v σ := fun v e => by rw [e] at q; exact q
  have : form = 0 \/ form = 1 \/ form = 2 \/ form = 3 \/ form = 4 \/ form = 5 := by exact aAo (hf.1) (hf.2)
  rcases this with rfl | rfl | rfl | rfl | rfl | rfl
  ·have := hk rfl;have : kind = 0 \/ kind = 1 \/ kind = 2 \/ kind = 3 \/ kind = 4 := by exact aHp (this.1) (this.2)
   have hX : bW t (cZ 0) = none -> lE 0 kind t = none := fun e => by rw [ZF,e]; rfl
   have hq : ∀ v,bW t (cZ 0) = some v -> lE 0 kind t = some (jW kind .none v) := fun v e => by rw [ZF,e]; rfl
   rcases this with rfl | rfl | rfl | rfl | rfl
   ·refine ⟨.oG,rfl,?_⟩;refine nR (by rw [sizeLine_eq]; have := gK (w := (aJp "INTEGER")) (t := t) (n := 7) (by decide +kernel) (by decide) hlen; have e : ((aJp "INTEGER")).length = 7 := (by decide +kernel); exact ou e hlen) ?_;refine Dt F H (gK (n := 7) (by decide +kernel) (by decide) hlen) (KN hn hdn e1) (fun ts h => by have := W0 ts h; exact KQ hn this hdn e1) hX (jK (by decide +kernel)) fun v e => ?_;exact fin _ (hq v e)
   ·refine ⟨.uV,rfl,?_⟩;refine nR (by rw [sizeLine_eq]; have := gK (w := (aJp "REAL")) (t := t) (n := 4) (by decide +kernel) (by decide) hlen; have e : ((aJp "REAL")).length = 4 := (by decide +kernel); exact iR (UH (Ue U0 (Un 4))<|UH (Ul U1 (Un 600))<|UG (Ul (.a U0 U1) (Un 16777216))) rfl e hlen) ?_;refine Kh F H (gK (n := 4) (by decide +kernel) (by decide) hlen) (KN hn hdn e1) (fun ts h => by have := W0 ts h; exact KQ hn this hdn e1) hX (jK (by decide +kernel)) fun v e => ?_;exact fin _ (hq v e)
   ·refine ⟨.pQ,rfl,?_⟩;refine nR (by rw [sizeLine_eq]; have := gK (w := (aJp "DOUBLEPRECISION")) (t := t) (n := 15) (by decide +kernel) (by decide) hlen; have e : ((aJp "DOUBLEPRECISION")).length = 15 := (by decide +kernel); exact iR (UH (Ue U0 (Un 15))<|UH (Ul U1 (Un 600))<|UG (Ul (.a U0 U1) (Un 16777216))) rfl e hlen) ?_;refine Fv F H (gK (n := 15) (by decide +kernel) (by decide) hlen) (KN hn hdn e1) (fun ts h => by have := W0 ts h; exact KQ hn this hdn e1) hX (jK (by decide +kernel)) fun v e => ?_;exact fin _ (hq v e)
   ·refine ⟨.oH,rfl,?_⟩;refine nR (by rw [sizeLine_eq]; have := gK (w := (aJp "COMPLEX")) (t := t) (n := 7) (by decide +kernel) (by decide) hlen; have e : ((aJp "COMPLEX")).length = 7 := (by decide +kernel); exact ou e hlen) ?_;refine Du F H (gK (n := 7) (by decide +kernel) (by decide) hlen) (KN hn hdn e1) (fun ts h => by have := W0 ts h; exact KQ hn this hdn e1) hX (jK (by decide +kernel)) fun v e => ?_;exact fin _ (hq v e)
   ·refine ⟨.oJ,rfl,?_⟩;refine nR (by rw [sizeLine_eq]; have := gK (w := (aJp "LOGICAL")) (t := t) (n := 7) (by decide +kernel) (by decide) hlen; have e : ((aJp "LOGICAL")).length = 7 := (by decide +kernel); exact ou e hlen) ?_;refine Dv F H (gK (n := 7) (by decide +kernel) (by decide) hlen) (KN hn hdn e1) (fun ts h => by have := W0 ts h; exact KQ hn this hdn e1) hX (jK (by decide +kernel)) fun v e => ?_;exact fin _ (hq v e)
  ·have W2 : kind = 5 := hk' (by decide);subst W2;refine nR (by rw [sizeLine_eq]; have e : (aJp "CHARACTER").length = 9 := (by decide +kernel); exact pq e hlen) ?_;refine Ab F H (jK (n := 9) (by decide +kernel)) (gK (n := 9) (by decide +kernel) (by decide) hlen) (jX (UH (Ul (Up 0 30) U1)<|UH (Uq (Up 2 1) U1)<|UH (Uq U3 U2)<|UG (Ul (Un 9) U3)) rfl hn hdn e1) (fun l ts h1 h2 => by have := nds l ts h1 h2; exact tC (UH (Ul (Up 0 30) U1)<|UH (Ul U2 U0)<|UH (Uq (Up 3 1) U1)<|UH (Uq U4 U3)<|UG (Ul (Up 2 22) U4)) rfl hn this hdn e1) (fun e => by rw [ZG,e]) fun v e => ?_;exact fin _ (by rw [ZG,e]; try rfl)
  ·have W2 : kind = 5 := hk' (by decide);subst W2;refine nR (by rw [sizeLine_eq]; have e : (aJp "DIMENSION").length = 9 := (by decide +kernel); exact pq e hlen) ?_;refine zY F H (jK (n := 9) (by decide +kernel)) (gK (n := 9) (by decide +kernel) (by decide) hlen) (z9 hn hdn e1) (fun ts h => by have := W0 ts h; exact G3 hn this hdn e1) (fun e => by rw [ZJ,e]; try rfl) fun v e => ?_;exact fin _ (by rw [ZJ,e]; try rfl)
  ·have W2 : kind = 5 := hk' (by decide);subst W2;refine nR (by rw [sizeLine_eq]; have e : (aJp "COMMON").length = 6 := (by decide +kernel); exact iR (UH (Ue U0 (Un 6))<|UH (Ul U1 (Un 600))<|UG (Ul (.a U0 U1) (Un 16777216))) rfl e hlen) ?_;refine Ft F H (jK (n := 6) (by decide +kernel)) (gK (n := 6) (by decide +kernel) (by decide) hlen) (z9 hn hdn e1) (fun ts h => by have := W0 ts h; exact G3 hn this hdn e1) (fun e => by rw [ZK,e]; try rfl) fun v e => ?_;exact fin _ (by rw [ZK,e]; try rfl)
  ·have W2 : kind = 5 := hk' (by decide);subst W2;refine nR (by rw [sizeLine_eq]; have e : (aJp "EQUIVALENCE").length = 11 := (by decide +kernel); exact iR (UH (Ue U0 (Un 11))<|UH (Ul U1 (Un 600))<|UG (Ul (.a U0 U1) (Un 16777216))) rfl e hlen) ?_;refine xH F H (jK (n := 11) (by decide +kernel)) (gK (n := 11) (by decide +kernel) (by decide) hlen) (z9 hn hdn e1) (fun ts h => by have := W0 ts h; exact G3 hn this hdn e1) (fun e => by rw [ZL,e]; try rfl) fun v e => ?_;exact fin _ (by rw [ZL,e]; try rfl)
  ·have W2 : kind = 5 := hk' (by decide);subst W2;refine nR (by rw [sizeLine_eq]; have e : (aJp "PARAMETER").length = 9 := (by decide +kernel); exact pq e hlen) ?_;refine Aa F H (jK (n := 9) (by decide +kernel)) (gK (n := 9) (by decide +kernel) (by decide) hlen) (z9 hn hdn e1) (fun ts h => by have := W0 ts h; exact G3 hn this hdn e1) (fun e => by rw [ZM,e]; try rfl) fun v e => ?_;exact fin _ (by rw [ZM,e]; try rfl)
end
end Mine
end
namespace Mine
variable {G : eX} {c : Cfg G} {σ : aW} {X : Prop}
noncomputable def vY : aW := fun _ => none
theorem ZR (F : Facts G) (form kind : Int) (hf : 0 <= form /\ form < 6) (st : LS) (hg : bZ st) : Ji G (F.a .gV) form kind 18 (zc form kind) st := by
 have : form = 0 \/ form = 1 \/ form = 2 \/ form = 3 \/ form = 4 \/ form = 5 := by exact aAo (hf.1) (hf.2)
 rcases this with rfl | rfl | rfl | rfl | rfl | rfl
 ·exact FT F kind st hg
 ·exact GC F kind st hg
 ·exact FW F kind st hg
 ·exact FZ F kind st hg
 ·exact GF F kind st hg
 ·exact GD F kind st hg
theorem HS {t : Str} : Yg (fX t.cps.toList) <= Us t.cps.toList := by
 cases h : fX t.cps.toList with
 | none => exact aKk _
 | some ts => exact dh _ _ ts (aJr _) h
noncomputable def Fy : CT := ⟨["script", "pool", "form", "kind", "row", "text", "rest", "due"],1,7,["_law_take", "_law_blocks", "_law_groups", "_law_pairs", "_law_names", "_law_star", "_law_bent", "_law_cut", "_law_read", "_law_heard"],.asg 2 (.call .cD (e2 (.v 1) (.i 6))) (.asg 3 (.Ju (.cmp .Eq (.v 2) (.i 0)) (.call .cD (e2 (.v 1) (.i 5))) (.i 5)) (.ifs (.cmp .Eq (.v 2) (.i 3)) (.asg 4 (.call .zN (e1 (.v 1))) .done) (.ifs (.cmp .Eq (.v 2) (.i 4)) (.asg 4 (.call .zO (e1 (.v 1))) .done) (.ifs (.cmp .Eq (.v 2) (.i 5)) (.asg 4 (.call .Dc (e1 (.v 1))) .done) (.asg 4 (.call .xX (e2 (.v 1) (.v 2))) (.ifs (.cmp .Eq (.v 2) (.i 1)) (.asg 4 (.bin .Add (.bin .Add (.call .Ax (e1 (.v 1))) (.Ju (.cmp .Eq (.call .cD (e2 (.v 1) (.i 2))) (.i 1)) (.lst (e1 (.s ","))) (.lst .nil))) (.v 4)) .done) .done .done)) .done) .done) (.asg 4 (.call .Gx (e3 (.v 1) (.v 4) (.tup (.cons (.s "A") (.cons (.s "B") (.cons (.s "7") (.cons (.s "0") (.cons (.s ",") (.cons (.s "(") (.cons (.s ")") (.cons (.s ":") (e4 (.s "*") (.s "/") (.s "+") (.s "="))))))))))))) (.asg 5 (.join (.s "") (.v 4)) (.asg 6 (.call .Nm (e1 (.v 5))) (.asg 7 (.call .gV (e3 (.v 6) (.v 2) (.v 3))) (.Ck 6 (.drop (.ret (.cmp .Eq (.call .fB (e3 (.v 2) (.v 3) (.v 5))) (.Ju (.cmp .Eq (.v 6) (.lst .nil)) (.v 7) .none)))))))))))⟩
theorem zx (F : Facts G) (hF : zA G (F.a .fB) (Hx .fB) (hT (Hx .fB))) (gF : GV G "F77Error" (.val (.ref F.N.Z.cF))) {sc : V} {p : Addr} {ps : List Int} {Q : KF} (hn : 560 <= c.n) (hl : ps.length <= 12)
  (q : ∀ ρ' σ',Q (.ret (.bool true)) ρ' σ') :
  vS c F.a X Fy.b [some sc,some (.mut p),none,none,none,none,none,none] (aH vY p (iL ps)) Q := by
 refine cX F (qb hn) hl (by decide) (by decide) fun form ps1 a1 b1 hl1 => ?_;walk_at "a";refine bH (fun C' => ∀ (kind : Int) (ps' : List Int),ps'.length <= 12 -> ((form = 0 -> 0 <= kind /\ kind < 5)) -> ((form ≠ 0 -> kind = 5)) -> C' [some sc,some (.mut p),some (.int form),some (.int kind),none,none,none,none] (aH vY p (iL ps'))) ?_ ?_
 ·intro R' hR;refine jO (fun z => ?_) (fun z => ?_)
  ·have z : form = 0 := eq_of_beq z;refine cX F (qb hn) hl1 (by decide) (by decide) fun kind ps2 a2 b2 hl2 => ?_;exact hR kind ps2 hl2 (fun _ => ⟨a2,b2⟩) (fun y => absurd z y)
  ·have z : ¬ form = 0 := ne_of_beq_false z;exact hR 5 ps1 hl1 (fun y => absurd y z) (fun _ => rfl)
 ·intro kind ps2 hl2 hk hk';walk_at "a";refine bH (fun C' => ∀ (row : List Str) (ps' : List Int),ps'.length <= 12 -> Row 330 380 490 row -> C' [some sc,some (.mut p),some (.int form),some (.int kind),some (.lst (sL row)),none,none,none] (aH vY p (iL ps'))) ?_ ?_
  ·intro R' hR;refine jO (fun z => ?_) (fun z => ?_)
   ·refine GZ F (eU (UH (Ul (Un 560) U0)<|UG (Ul (Un 5) U0)) rfl hn) hl2 fun xs yW r hl3 => ?_;exact hR xs yW hl3 (r.mono (by decide) (by decide) (by decide))
   ·refine jO (fun z => ?_) (fun z => ?_)
    ·refine HB F (qd hn) hl2 fun xs yW r hl3 => ?_;exact hR xs yW hl3 (r.mono (by decide) (by decide) (by decide))
    ·refine jO (fun z => ?_) (fun z => ?_)
     ·refine YD F (qd hn) hl2 fun xs yW r hl3 => ?_;exact hR xs yW hl3 (r.mono (by decide) (by decide) (by decide))
     ·have k1 : nk form <= 45 := by unfold nk; split <;> decide
      have k2 : nl form <= 51 := by unfold nl; split <;> decide
      have k3 : nw form <= 76 := by unfold nw; split <;> decide
      refine Bw F (eU (UH (Ul (Un 560) U0)<|UG (Ul (Un 4) U0)) rfl hn) hl2 fun xs yW r hl3 => ?_;have r := r.mono (k' := 135) (l' := 153) (w' := 228) (eU (HL.h 3 (Ul U0 (Un 45))<|UG (Ul (.m 3 U0) (Un 135))) rfl k1) (eU (HL.h 3 (Ul U0 (Un 51))<|UG (Ul (.m 3 U0) (Un 153))) rfl k2) (eU (HL.h 3 (Ul U0 (Un 76))<|UG (Ul (.m 3 U0) (Un 228))) rfl k3);refine jO (fun z => ?_) (fun z => ?_)
      ·refine Yq F (qd hn) hl3 fun ss Yr r2 yP => ?_;refine cX F (qb hn) yP (by decide) (by decide) fun d ps5 a5 b5 Mj => ?_;refine jO (fun z => ?_) (fun z => ?_)
       ·refine cJ r2 dg (aO (c := .o) (d := .o) (UG (Ul (.a (Un 10) (Un 1)) (Un 1000))) rfl) fun r3 => ?_;refine cJ r3 r (aO (c := .o) (d := .o) (UG (Ul (.a (.a (Un 10) (Un 1)) (Un 135)) (Un 1000))) rfl) fun r4 => ?_;exact hR _ ps5 Mj (r4.mono (by decide) (by decide) (by decide))
       ·refine cJ (ys := []) r2 .nil (aO (c := .o) (d := .o) (UG (Ul (.a (Un 10) (Un 0)) (Un 1000))) rfl) fun r3 => ?_;refine cJ r3 r (aO (c := .o) (d := .o) (UG (Ul (.a (.a (Un 10) (Un 0)) (Un 135)) (Un 1000))) rfl) fun r4 => ?_;exact hR _ ps5 Mj (r4.mono (by decide) (by decide) (by decide))
      ·exact hR _ yW hl3 (r.mono (by decide) (by decide) (by decide))
  ·intro row yW hl3 r;refine V0 F (aEc hn) hl3 r (by decide) fun row2 Yr r2 yP => ?_;obtain ⟨H,hw⟩ := r2.text (by decide);refine ⟨_,rfl,row2,aY,by rw [show (aJp "").length = 0 from by decide +kernel]; exact aJw r2.len (by decide : 380 + 2 <= 16777216),?_⟩;generalize Txt.join (aJp "") row2 = t at H hw;have hpd : ∃ n,n <= 1300 /\ PD n ((lE form kind t).getD .none) := by
    cases e : lE form kind t with
    | none => exact ⟨0,by decide,.none⟩
    | some v => exact ⟨1210,by decide,ZP H e⟩
   obtain ⟨n,hn1,hpd⟩ := hpd;refine S9 F H (aEc hn) fun b hb => ?_;have hnd := HS (t := t);refine ZR F form kind ⟨a1,b1⟩ _ (XF H) _ _ _ _ _ (gP (UH (Ul (Un 560) U0)<|UH (Ul U1 (.a (Un 490) (Un 20)))<|UH (Ul U2 U1)<|UG (Ul (Up 2 18) U0)) rfl hn hw hnd) fun v st' o => ?_;have W3 := zj o;refine ⟨b,cU st',rfl,(aC _ _ _),?_⟩;rw [bU hb];refine ⟨p,?_⟩;rw [bU rfl];refine ZQ F H hF gF (w := 510) (fun _ => rfl) ⟨a1,b1⟩ hk hk' (by omega) (eU (UH (Ul (Un 560) U0)<|UG (Ul (.a (Un 510) (Un 30)) U0)) rfl hn) ?_;refine oM (xs := cU st') aY aY ?_;cases he : (cU st').isEmpty
   ·rw [he] at W3;rw [<- W3];exact Tv (v := .none) .none hn1 (aEd hn) (q _ _)
   ·rw [he] at W3;rw [<- W3] at hpd ⊢;exact Tv hpd hn1 (aEd hn) (q _ _)
theorem zy (F : Facts G) (hF : zA G (F.a .fB) (Hx .fB) (hT (Hx .fB))) (gF : GV G "F77Error" (.val (.ref F.N.Z.cF))) {sc : V} {p : Addr} {ps : List Int} {Q : Fl -> eE -> aW -> Prop} (hn : 560 <= c.n) (hl : ps.length <= 12)
  (hgs : c.gn = Fy.gs) {ss : List Stmt} (hs : mS Fy.ns Fy.gs Fy.b ss = true) (q : ∀ ρ' σ',Q (.ret (.bool true)) ρ' σ') :
  WS c ss (zl Fy.ns [some sc,some (.mut p),none,none,none,none,none,none]) (aH vY p (iL ps)) Q X :=
 (Oc F.N hgs _ hs rfl (zx F hF gF (Q := fun φ _ _ => φ = .ret (.bool true)) hn hl fun _ _ => rfl)).mono (fun φ l σ' h => by obtain ⟨_,_,_,rfl⟩ := h; exact q _ _) id
end Mine
namespace Mine
section
noncomputable def ES (K : Frag) : Array DictEntry := match K.lookup 3 with
 | some ⟨_,_,.dict es _,_⟩ => es
 | _ => #[]
noncomputable def Pq (K : Frag) (a : Addr) : Option (Array DictEntry) := match K.lookup a with
 | some o => match o.data with
  | .dict es _ => some es
  | _ => none
 | none => none
theorem dj {h : Heap} {K : Frag} (X : K.In h) {a : Addr} {mg : Str -> Option Value} (g : h.Ns a mg) {es : Array DictEntry} (hd : Pq K a = some es) (x : Str) : nsFind es x = mg x := by
 obtain ⟨o,es',ep,h1,h2,_,h4⟩ := g;unfold Pq at hd;cases e : K.lookup a with
 | none => rw [e] at hd; cases hd
 | some o' =>
  rw [e] at hd;have h5 := (X a o' e).symm.trans h1;cases h5
  have hd : (match o.data with
   | .dict es _ => some es
   | _ => none) = some es := hd
  rw [h2] at hd;cases hd
  exact h4 x
theorem Js {G : eX} {x : Str} {v : Value} (h : G.mg x = some v) : GV G x (.val v) := ⟨v,.inl h,fun _ _ _ _ => .val _⟩
theorem nM {G : eX} {x : Str} {i : Int} {t : Tok} (h : G.mg x = some (.int i t)) : GV G x (.int i) := ⟨_,.inl h,fun _ _ _ _ => .int _ _⟩
theorem Ea {G : eX} {x y : Str} {t : Tok} (h : G.mg x = some (.str y t)) : GV G x (.str y) := ⟨_,.inl h,fun _ _ _ _ => .str _ _⟩
theorem Eb {G : eX} {x : Str} {v : Value} (h : G.mg x = none) (h2 : G.mb x = some v) : GV G x (.val v) := ⟨v,.inr ⟨h,h2⟩,fun _ _ _ _ => .val _⟩
noncomputable abbrev OkK (h : Heap) (K : Frag) : Prop := K.In h /\ Pq K mainGlobals = some (ES K)
theorem okK {h : Heap} {K : Frag} (X : K.In h) (e : Pq K mainGlobals = some (ES K)) : OkK h K := ⟨X,e⟩
theorem aAa {h : Heap} {K : Frag} (Z : OkK h K) {mg : Str -> Option Value} (g : h.Ns mainGlobals mg) {a : Addr} (hm : mg "law" = some (.ref a)) (e : nsFind (ES K) "law" = some (.ref 682)) : a = 682 := by
 have := e.symm.trans ((dj Z.1 g Z.2 "law").trans hm); cases this; rfl
theorem nm {G : eX} {K : Frag} (X : OkK G.h₀ K) {x : Str} {r : Option Value} (h : nsFind (ES K) x = r) : G.mg x = r := (dj X.1 G.g X.2 x).symm.trans h
noncomputable def EP (K : Frag) : Array DictEntry := match K.lookup 115 with
 | some ⟨_,_,.dict es _,_⟩ => es
 | _ => #[]
noncomputable def d7 (es : Array DictEntry) (k : Str) : Option Int := match findBy Value.isStrOf es k with
 | some (.int i _) => some i
 | _ => none
noncomputable def Wu : Value -> Bool
 | .int _ _ => true
 | _ => false
theorem ZS {G : eX} {K : Frag} (X : K.In G.h₀) {a : Addr} {es : Array DictEntry} {n : Nat} (hl : K.lookup a = some ⟨.type "dict",none,.dict es n, #[]⟩) (hk : KeysLit G.w.params es.toList)
  (hi : es.toList.all (fun e => Wu e.val) = true) (ha : (a == sysModules) = false) : Xe G a (d7 es) := by
 refine ⟨ha,_,mapOf_K (prog := G.prog) X hl hk,fun k => ?_⟩;unfold d7;cases e : findBy Value.isStrOf es k with
 | none => exact rfl
 | some v =>
  have : Wu v = true := by
   unfold findBy at e;obtain ⟨d,h1,h2⟩ := aKc.mp e;rw [<- h2];exact aKp.mp hi d (aNc.mpr (Array.mem_of_find?_eq_some h1))
  cases v <;> first | exact ⟨_,rfl⟩ | cases this
theorem aAb {G : eX} {K : Frag} (X : K.In G.h₀) {n : Nat} (hl : K.lookup 115 = some ⟨.type "dict",none,.dict (EP K) n, #[]⟩) (hk : KeysLit G.w.params (EP K).toList) (hi : (EP K).toList.all (fun e => Wu e.val) = true)
  (ht : gQ.all (fun x => decide (d7 (EP K) x = lG x)) = true) : ∃ t,Xe G 115 t /\ ∀ x,x ∈ gQ -> t x = lG x :=
 ⟨_,ZS X hl hk hi (by decide),fun x hx => of_decide_eq_true (aKp.mp ht x hx)⟩
noncomputable def FD (K : Frag) (a : Addr) : FuncData := match K.lookup a with
 | some ⟨_,_,.func fd,_⟩ => fd
 | _ => default
theorem Uc {l : List (Str × NameKind)} (h : l.all (fun x => x.2 != .cell) = true) : ∀ x ∈ l,x.2 ≠ .cell := fun x hx e => by
 have := aKp.mp h x hx;rw [e] at this; exact absurd this (by decide)
noncomputable def aFs : List Addr := [72,79,86,93,100,107,114,122,129,136,143,150,157,164,171,178,185,192,199,206,213,220,229,250,257,271,285,292,299,306,313,320,327,334,341,348,355,362,369,376,383,390,397,404,411,418,425,432,439,446,453,460,467,474,481,488,495,502,509,516,523,530,537,544,551,558,565,572,579,586,593,600,607,614,621,628,635,642,649,656,663,670,677,236,243,264,278]
noncomputable def aF (f : Fn) : Addr := nth aFs f.val 0
noncomputable def Ca : FuncBody -> List Stmt
 | .stmts l => l
 | .expr _ => []
noncomputable def Yt : FuncBody -> Bool
 | .stmts _ => true
 | .expr _ => false
noncomputable def aAc : Value -> Bool
 | .none => true
 | _ => false
theorem Yu {v : Value} (h : aAc v = true) : v = .none := by cases v <;> first | rfl | cases h
theorem ZV {b : FuncBody} (h : Yt b = true) : b = .stmts (Ca b) := by cases b <;> first | rfl | cases h
noncomputable def Pj (K : Frag) (a : Addr) : Option FuncData := match K.lookup a with
 | some o => match o.data with
  | .func fd => some fd
  | _ => none
 | none => none
theorem Ud {K : Frag} {a : Addr} {fd : FuncData} (h : Pj K a = some fd) : ∃ oc od osl,K.lookup a = some ⟨oc,od,.func fd,osl⟩ := by
 unfold Pj at h;cases e : K.lookup a with
 | none => rw [e] at h; cases h
 | some o =>
  rw [e] at h;obtain ⟨oc,od,data,osl⟩ := o;cases data <;> first | (cases h; done) | skip
  cases h
  exact ⟨_,_,_,rfl⟩
noncomputable def fOk (K : Frag) (ok : Scope -> List Stmt -> Bool) (fd : FuncData) : Bool :=
 decide (fd.qualname = fd.name) && decide (fd.globals = mainGlobals) && decide (fd.builtins = builtinsNs) && fd.closure.isEmpty && aAc fd.defaults && aAc fd.kwdefaults && Yt fd.body && codeIn K fd.code fd.name && ok fd.scope (Ca fd.body)
noncomputable def aAd (K : Frag) (a : Addr) (ok : Scope -> List Stmt -> Bool) : Bool := (Pj K a).any (fOk K ok)
noncomputable def HW (K : Frag) (a : Addr) : Arguments := match K.lookup a with
 | some ⟨_,_,.func fd,_⟩ => fd.params
 | _ => default
theorem aHa {name qual : Str} {par : Arguments} {body : FuncBody} {sc : Scope} {gl bl : Addr} {clo : List (Str × Addr)} {dv kv doc pm cd ct : Value} {an : Option Addr} (h1 : qual = name) (h2 : gl = mainGlobals) (h3 : bl = builtinsNs) (h4 : clo = []) (h5 : dv = .none) (h6 : kv = .none) (h7 : body = .stmts (Ca body)) :
  (⟨name,qual,par,body,sc,gl,clo,dv,kv,doc,pm,an,cd,ct,bl⟩ : FuncData) = fnOf name name par (Ca body) sc .none .none doc pm an cd ct := by
 rw [h7]; subst h1 h2 h3 h4 h5 h6; rfl
theorem Cd {G : eX} {K : Frag} (X : K.In G.h₀) {a : Addr} {d : CT} {ok : List Stmt -> Bool} (h : aAd K a (fun sc body => Og d sc && ok body) = true)
  (hb : ∀ name body sc,Ui d name (HW K a) body sc) : zA G a d ok := by
 obtain ⟨fd,e,h⟩ : ∃ fd,Pj K a = some fd /\ fOk K (fun sc body => Og d sc && ok body) fd = true := by
  unfold aAd at h;cases e : Pj K a with
  | none => rw [e] at h; cases h
  | some fd => rw [e] at h; exact ⟨fd,rfl,h⟩
 obtain ⟨oc,od,osl,e'⟩ := Ud e;obtain ⟨name,qual,par,body,sc,gl,clo,dv,kv,doc,pm,an,cd,ct,bl⟩ := fd;refine ak h fun h h9 => ak h fun h h8 => ak h fun h h7 => ak h fun h h6 => ak h fun h h5 => ak h fun h h4 => ak h fun h h3 => ak h fun h1 h2 => ?_;have ea : HW K a = par := by unfold HW; rw [e']
 have E := aHa (par := par) (sc := sc) (doc := doc) (pm := pm) (cd := cd) (ct := ct) (an := an) (of_decide_eq_true h1) (of_decide_eq_true h2) (of_decide_eq_true h3) (List.isEmpty_iff.mp h4) (Yu h5) (Yu h6) (ZV h7);rw [E] at e';exact ⟨name,par,Ca body,sc,h9,ea ▸ hb _ _ sc,oc,od,osl,doc,pm,an,cd,ct,X _ _ e',codeRec_of X h8⟩
theorem bl0 {P : List Value -> Prop} (h : P []) : ∀ l,l.length = 0 -> P l
 | [],_ => h
theorem blS {n : Nat} {P : List Value -> Prop} (h : ∀ a l,l.length = n -> P (a :: l)) : ∀ l,l.length = n + 1 -> P l
 | a :: l,e => h a l (aNj e)
section
variable {P : List Value -> Prop}
theorem bl1 (h : ∀ a,P [a]) : ∀ l,l.length = 1 -> P l := blS fun a => bl0 (h a)
theorem bl2 (h : ∀ a b,P [a,b]) : ∀ l,l.length = 2 -> P l := blS fun a => blS fun b => bl0 (h a b)
theorem bl3 (h : ∀ a b c,P [a,b,c]) : ∀ l,l.length = 3 -> P l := blS fun a => blS fun b => blS fun c => bl0 (h a b c)
end
theorem aAe {G : eX} {K : Frag} (X : K.In G.h₀) {a : Addr} (h : (Pj K a).isSome = true) : Xc G a := by
 cases e : Pj K a with
 | none => rw [e] at h; cases h
 | some fd =>
  obtain ⟨oc,od,osl,e⟩ := Ud e;exact ⟨_,_,X _ _ e,rfl⟩
noncomputable abbrev FI (G : eX) (a : Addr) (k : Fn) : Prop := zA G a (Hx k) (zQ (Hx k))
noncomputable def W7 (p : Nat -> Bool) : Nat -> Bool
 | 0 => true
 | n + 1 => p n && W7 p n
theorem Pk {p : Nat -> Bool} {i : Nat} : ∀ {n : Nat},W7 p n = true -> i < n -> p i = true
 | 0,_,h => absurd h (aNe _)
 | n + 1,e,h => ak e fun e1 e2 => (Nat.lt_or_eq_of_le (Nat.le_of_lt_succ h)).elim (fun l => Pk e2 l) fun q => q ▸ e1
theorem aIw {K : Frag} (h : W7 (fun i => nsFind (ES K) (nth Yv i "") == some (.ref (nth aFs i 0))) 87 = true) (f : Fn) : nsFind (ES K) (Pr f) = some (.ref (aF f)) := eq_of_beq (Pk h f.isLt)
theorem aHb {K : Frag} (h : W7 (fun i => (Pj K (nth aFs i 0)).isSome) 87 = true) (f : Fn) : (Pj K (aF f)).isSome = true := Pk h f.isLt
theorem up {P : (n : Nat) -> n < 87 -> Prop} (n : Nat) (hn : n < 87) (h0 : P n hn) (h : ∀ k hk,n + 1 <= k -> P k hk) : ∀ k hk,n <= k -> P k hk := fun k hk q => by
 rcases Nat.lt_or_eq_of_le q with l | rfl
 ·exact h k hk l
 ·exact h0
noncomputable abbrev PF (G : eX) (n : Nat) (hn : n < 87) : Prop := vq ⟨n,hn⟩ = true -> zA G (aF ⟨n,hn⟩) (Hx ⟨n,hn⟩) (zQ (Hx ⟨n,hn⟩))
section
variable {G : eX} {K : Frag} (X : K.In G.h₀) (n : Nat) (hn : n < 87) (h : aAd K (aF ⟨n,hn⟩) (fun sc body => Og (Hx ⟨n,hn⟩) sc && zQ (Hx ⟨n,hn⟩) body) = true)
include X h
theorem u1 (e : (Hx ⟨n,hn⟩).np = 1) (hb : ∀ name body sc a doc pm an cdv ct,bindArgs (fnOf name name (HW K (aF ⟨n,hn⟩)) body sc .none .none doc pm an cdv ct) ⟨[a],[]⟩ = pure (((Hx ⟨n,hn⟩).ns.take 1).zip [a])) (q : ∀ k hk,n + 1 <= k -> PF G k hk) :
  ∀ k hk,n <= k -> PF G k hk := up n hn (fun _ => Cd X h fun name body sc => by unfold Ui; rw [e]; exact bl1 (hb name body sc)) q
theorem u2 (e : (Hx ⟨n,hn⟩).np = 2) (hb : ∀ name body sc a b doc pm an cdv ct,bindArgs (fnOf name name (HW K (aF ⟨n,hn⟩)) body sc .none .none doc pm an cdv ct) ⟨[a,b],[]⟩ = pure (((Hx ⟨n,hn⟩).ns.take 2).zip [a,b])) (q : ∀ k hk,n + 1 <= k -> PF G k hk) :
  ∀ k hk,n <= k -> PF G k hk := up n hn (fun _ => Cd X h fun name body sc => by unfold Ui; rw [e]; exact bl2 (hb name body sc)) q
theorem u3 (e : (Hx ⟨n,hn⟩).np = 3) (hb : ∀ name body sc a b d doc pm an cdv ct,bindArgs (fnOf name name (HW K (aF ⟨n,hn⟩)) body sc .none .none doc pm an cdv ct) ⟨[a,b,d],[]⟩ = pure (((Hx ⟨n,hn⟩).ns.take 3).zip [a,b,d])) (q : ∀ k hk,n + 1 <= k -> PF G k hk) :
  ∀ k hk,n <= k -> PF G k hk := up n hn (fun _ => Cd X h fun name body sc => by unfold Ui; rw [e]; exact bl3 (hb name body sc)) q
end
structure HH (G : eX) where
 F : Facts G
 h : zA G (F.a .fB) (Hx .fB) (hT (Hx .fB))
 e : GV G "F77Error" (.val (.ref F.N.Z.cF))
end
end Mine
namespace Mine
noncomputable def aHc : List Stmt -> Nat -> Stmt
 | s :: _,0 => s
 | _ :: r,n + 1 => aHc r n
 | [],_ => .Pass ⟨0,0,0,0⟩
noncomputable def ZW : Stmt := aHc PySem.Challenge.pw_no0281_01.main.body 120
noncomputable def vP : List Stmt := match Gb ZW with
 | some (_,_,_ :: r,_) => r
 | _ => []
noncomputable def sO : Stmt := match Gb ZW with
 | some (_,_,s :: _,_) => s
 | _ => .Pass ⟨0,0,0,0⟩
section
variable {prog : Program} {w : World} {A : Around} {E : Value -> Shared -> Prop} {s : Shared} {env : Env}
theorem aAf {mg mb m : Str -> Option Value} {n : Int} {t : Tok} {np ap cp p1 p2 p3 p4 : Pos} {k1 k2 : Nat} {Q : Value -> Shared -> Prop} (hk : env.scope.kind = .function) (ha : env.kindOf "abs" = some .globalImplicit) (hn : env.kindOf "number" = some .local)
  (g : s.heap.Ns env.globals mg) (b : s.heap.Ns env.builtins mb) (h1 : mg "abs" = none) (h2 : mb "abs" = some (.builtin "abs")) (hl : s.heap.Ns env.locals m) (hm : m "number" = some (.int n t))
  (q : ∀ k u tk,Q (.int k u) { s with toks := tk }) :
  wpAny (model prog w) A (eval (.BinOp (.Call (.Name "abs" ap) [.Name "number" np] [] cp) .Mod (.BinOp (.Constant (.int 10) k1 p1) .Pow (.Constant (.int 60) k2 p2) p3) p4) env) Q E s := by
 refine wpAny_BinOp (Call_name1 rfl (Calls.Name_function_global hk ha (Calls.loadGlobal_builtin g h1 b h2 ?_)));refine callWith_builtin1 (wpAny_Name (wpAny_loadName_local hk hn hl hm ?_));refine call_abs_int fun u tk => ?_;refine wpAny_BinOp (wpAny_Constant_int (wpAny_Constant_int ?_));refine pow_int_small (by decide) (by decide) (by decide) ?_;exact mod_int' (by decide) (q _ _ _)
theorem ZX {vs : List Value} {ns : List Int} (h : IntsAre vs ns) : ∀ v ∈ vs, ∃ n t,v = .int n t := by
 induction h with
 | nil => intro v hv; cases hv
 | cons n t _ ih =>
  intro v hv;rcases aKf.mp hv with rfl | hv
  ·exact ⟨n,t,rfl⟩
  ·exact ih v hv
theorem IK {vs : List Value} {ns : List Int} (h : IntsAre vs ns) (n : Int) (t : Tok) : IntsAre (vs ++ [.int n t]) (ns ++ [n]) := by
 induction h with
 | nil => exact .cons n t .nil
 | cons k u _ ih => exact .cons k u ih
noncomputable def Ug (env : Env) : Prop := match sO with
 | .Assign [.Name y py] e spos => swapsWith e (some (.Name y py)) spos.line env = pure true
 | _ => False
open LCg in
theorem HX {h₀ : Heap} {L : Addr} {mg mb m : Str -> Option Value} {scope : Scope} {np ap cp p1 p2 p3 p4 : Pos} {k1 k2 : Nat} {S : List (Addr × Obj) -> Prop} {P : Nat -> Value -> Prop} {Fin : List Value -> List (Addr × Obj) -> Prop} {news : List (Addr × Obj)} {K : Nat}
  (hC : ∀ C,(compEnvC scope [] C env).scope.kind = .function /\ (compEnvC scope [] C env).kindOf "abs" = some .globalImplicit /\ (compEnvC scope [] C env).kindOf "number" = some .local)
  (JF : env.globals = mainGlobals) (hbl : env.builtins = builtinsNs) (g : h₀.Ns mainGlobals mg) (b : h₀.Ns builtinsNs mb) (h1 : mg "abs" = none) (h2 : mb "abs" = some (.builtin "abs"))
  (hS : S news) (hP : ∀ i v,P i v -> ∃ n t,v = .int n t) (hF : ∀ ys ps,IntsAre ys ps -> ps.length = K -> Fin ys news) :
  ∀ k i ys ps,i + k = K -> IntsAre ys ps -> ps.length = i -> CompRest prog w A h₀ L m env (.BinOp (.Call (.Name "abs" ap) [.Name "number" np] [] cp) .Mod (.BinOp (.Constant (.int 10) k1 p1) .Pow (.Constant (.int 60) k2 p2) p3) p4) "number" scope [] s S P Fin k i ys news := by
 intro k;induction k with
 | zero => intro i ys ps e h h3; exact CompRest.zero (hF ys ps h (aJq (gP (UH (Ue (Up 0 0) U1)<|UH (Ue U2 U0)<|UG (Ul U2 U1)) rfl e h3) (gP (UH (Uq (Up 0 0) U1)<|UH (Uq U2 U0)<|UG (Ul U1 U2)) rfl e h3)))
 | succ k ih =>
  intro i ys ps h1' h2' h3;refine CompRest.succ ?_;intro v I oI C oC D aJe h tk E' hPv hCo hm F N off ne;obtain ⟨n,t,rfl⟩ := hP i v hPv;obtain ⟨c1,c2,c3⟩ := hC C;refine aAf (mg := mg) (mb := mb) (m := aJe) (n := n) (t := t) c1 c2 c3 ?_ ?_ h1 h2 ?_ hm fun k' u tk' => ?_
  ·show h.Ns env.globals mg;rw [JF]; exact g.keeps F.keep
  ·show h.Ns env.builtins mb;rw [hbl]; exact b.keeps F.keep
  ·exact hCo.ns (N (C,oC) (.tail _ (.head _))).1
  ·exact CompEnd.intro F N _ (fun p hp => hp) off hS (ih (i + 1) _ _ (aJq (gP (UH (Ue (.a U0 (Up 1 1)) U2)<|UG (Ul (.a (Up 0 1) U1) U2)) rfl h1') (gP (UH (Uq (.a U0 (Up 1 1)) U2)<|UG (Ul U2 (.a (Up 0 1) U1))) rfl h1')) (IK h2' k' u) (by rw [aJt,aJu,h3]))
open LCg in
theorem W4 {h₀ : Heap} {L ax : Addr} {mg mb m : Str -> Option Value} {its : List Value} {ns : List Int} {Q : Flow -> Shared -> Prop} (Um : Fr h₀ L s.heap m) (hLe : env.locals = L) (hk : env.scope.kind = .function)
  (hs1 : env.kindOf "script" = some .local) (hs2 : env.kindOf "pool" = some .local) (JF : env.globals = mainGlobals) (hbl : env.builtins = builtinsNs) (g : h₀.Ns mainGlobals mg) (b : h₀.Ns builtinsNs mb) (h1 : mg "abs" = none) (h2 : mb "abs" = some (.builtin "abs"))
  (hh : A.handled = none) (hsw : Ug env) (hs : m "script" = some (.ref ax)) (hax : h₀.IsList ax its.toArray) (hi : IntsAre its ns) (hlen : its.length <= 63)
  (q : ∀ D h tk vs ps,ps.length <= 12 -> Fr h₀ L h (fun z => if z = "pool" then some (.ref D) else m z) -> h.get? D = some (lst vs) -> h₀.get? D = none -> D ≠ L -> IntsAre vs ps -> Q .next { s with heap := h,toks := tk }) :
  wpAny (model prog w) A (exec sO env) Q E s := by
 refine Assign_ListComp_U (cl := []) Um hLe ?hsw ?hclos ?hcell ?hkind ?hnames ?hx hs2 ?hp ?h ?hsf
 case hsw => exact hsw
 case hclos => exact rfl
 case hcell => decide
 case hkind => rfl
 case hnames => decide
 case hx => rfl
 case hp => rw [hk]; rfl
 case hsf => intro _; rfl
 case h =>
  refine wpAny_Subscript_list_slice (wpAny_Name (wpAny_loadName_local hk hs1 (hLe ▸ Um.ns) hs ?_));rw [evalPart_none];refine wpAny_pure ?_;rw [evalPart_some];refine wpAny_Constant_int ?_;refine ⟨ax,its.toArray,none,some 12,rfl,(let ⟨o,e,r⟩ := hax; ⟨o,Um.keep _ _ e,r⟩),by rw [aJv]; show its.length <= 16777216; exact eU (UH (Ul U0 (Un 63))<|UG (Ul U0 (Un 16777216))) rfl hlen,.none,.int _ _,?_⟩;have aHd : slicePick its.toArray none (some 12) none = (its.take 12).toArray := by
   rw [slicePick_plain];have e := jU its.toArray.size 12;show ((its.drop 0).take (clipAt its.toArray.size ((12 : Nat) : Int) - 0)).toArray = _;rw [e,aKe,Nat.sub_zero];congr 1
   rw [aJv];rcases aNl 12 its.length with z | z
   ·rw [aLj z]
   ·rw [aMm z,aKr (aJr _),aKr z]
  rw [aHd];generalize htk : its.take 12 = HY;have hl2 : HY.length <= 12 := by rw [<- htk,aNw]; omega
  have hin : ∀ v ∈ HY, ∃ n t,v = .int n t := fun v hv => ZX hi v (by rw [<- htk] at hv; exact List.take_subset _ _ hv);have up1 : ∀ b o,s.heap.get? b = some o -> (s.heap.push { cls := .type "slice",data := .fields #[.none,.int 12 s.toks,.none] }).get? b = some o := fun b o e => Heap.get?_push_of_some _ e;have up : ∀ b o,s.heap.get? b = some o -> ((s.heap.push { cls := .type "slice",data := .fields #[.none,.int 12 s.toks,.none] }).push { cls := .type "list",data := .seq HY.toArray }).get? b = some o := fun b o e => Heap.get?_push_of_some _ (up1 b o e);have hnew : ((s.heap.push { cls := .type "slice",data := .fields #[.none,.int 12 s.toks,.none] }).push { cls := .type "list",data := .seq HY.toArray }).get? (s.heap.objs.size + 1) = some { cls := .type "list",data := .seq HY.toArray } := by
   have := Heap.get?_push_size (s.heap.push { cls := .type "slice",data := .fields #[.none,.int 12 s.toks,.none] }) (o := { cls := .type "list",data := .seq HY.toArray }) rfl;rw [Heap.size_push] at this;exact this
  have hL := Um.ns.lt;have N : News h₀ L ((s.heap.push { cls := .type "slice",data := .fields #[.none,.int 12 s.toks,.none] }).push { cls := .type "list",data := .seq HY.toArray }) [(s.heap.objs.size + 1,{ cls := .type "list",data := .seq HY.toArray })] := fun p hp => by
   rw [aKm.mp hp];exact ⟨hnew,aOh (aNr hL),Heap.get?_none_of_le (aKz (aKl Um.above (aNr hL)))⟩
  refine .inl ⟨_,HY.toArray,_,rfl,hh,Um.keeps up,N,.inr ⟨_,.head _,rfl,_,rfl⟩,by rw [aJv]; show HY.length <= 16777216; exact aDa hl2,?_⟩;rintro cV ⟨Ci,rfl⟩;rw [aJv];refine HX (K := HY.length) (fun C => ⟨rfl,rfl,rfl⟩) JF hbl g b h1 h2 (.inr ⟨_,.head _,rfl,_,rfl⟩) (fun i v hP => ?_) (fun ys ps h3 h4 => ?_) HY.length 0 [] [] (aJq (eU (UG (Ul (.a (Un 0) U0) U0)) rfl) (eU (UG (Ul U0 (.a (Un 0) U0))) rfl)) .nil rfl
  ·refine hin v ?_;have hP : HY.toArray[i]? = some v := hP;rw [List.getElem?_toArray] at hP;exact aLv hP
  ·intro D h tk F N off;have := N _ (.head _);exact q D h tk ys ps (iR (UH (Ue U0 U1)<|UH (Ul U1 (Un 12))<|UG (Ul U0 (Un 12))) rfl h4 hl2) F this.1 this.2.2 this.2.1 h3
end
end Mine
namespace Mine
inductive dw (G : eX) : Prop
 | mk (nm : Str) (ar : Arguments) (sc : Scope) (oc : Value) (od : Option Addr) (osl : Array (Option Value)) (doc pm cdv ct : Value) (an : Option Addr)
  (q0 : G.h₀.get? 682 = some ⟨oc,od,.func (fnOf nm nm ar (sO :: vP) sc .none .none doc pm an cdv ct),osl⟩)
  (q1 : G.h₀.CodeRec cdv nm)
  (q2 : (∀ v doc pm an cdv ct,bindArgs (fnOf nm nm ar (sO :: vP) sc .none .none doc pm an cdv ct) ⟨[v],[]⟩ = pure ([("script",v)] : List (Str × Value))))
  (q3 : (∀ x ∈ sc.names,x.2 ≠ .cell))
  (q4 : sc.isCoroutine = false)
  (q5 : sc.isGenerator = false)
  (q6 : sc.kind = .function)
  (q7 : (∀ x ∈ Fy.ns,sc.names.lookup x = some .local /\ (x == ("__debug__" : Str)) = false))
  (q8 : (∀ x ∈ Fy.gs,sc.names.lookup x = some .globalImplicit /\ (x == ("__debug__" : Str)) = false))
  (q9 : (∀ L a doc pm an cdv ct,Ug (callEnv (fnOf nm nm ar (sO :: vP) sc .none .none doc pm an cdv ct) L a)))
noncomputable abbrev GG (w : World) (s : Shared) {mg mb : Str -> Option Value} (g : s.heap.Ns mainGlobals mg) (b : s.heap.Ns builtinsNs mb) (lim : s.heap.NoLimit) : eX := { prog := PySem.Challenge.rw_no0281_01.row.prog,w := w,h₀ := s.heap,mg := mg,mb := mb,excs := [.ref 63,.ref 51],g := g,b := b,lim := lim }
theorem IntsAre.reps {h : Heap} {σ : aW} {vs : List Value} {ns : List Int} (x : IntsAre vs ns) : cM h σ vs (iL ns) := by
 induction x with
 | nil => exact .nil
 | cons n t _ ih => exact .cons (.int n t) ih
theorem c7 {w : World} {s : Shared} {mg mb : Str -> Option Value} (g : s.heap.Ns mainGlobals mg) (b : s.heap.Ns builtinsNs mb) (lim : s.heap.NoLimit) (H : HH (GG w s g b lim)) (LF : dw (GG w s g b lim)) (hab : mg "abs" = none) (aIu : mb "abs" = some (.builtin "abs"))
    {ax : Addr} {its : List Value} {ns : List Int} (hax : s.heap.IsList ax its.toArray) (hi : IntsAre its ns) (hlen : its.length <= 63) {R : Result -> Shared -> Prop}
    (hR : ∀ s' : Shared,(∀ b o,s.heap.get? b = some o -> s'.heap.get? b = some o) -> s'.gens = s.gens -> s'.os = s.os -> R (.ok (.ret (.bool true))) s') :
    codeAny (model PySem.Challenge.rw_no0281_01.row.prog w) callerA (.call (.ref 682) ⟨[.ref ax],[]⟩) R s := by
  obtain ⟨nm',ar,sc,oc,od,osl,doc,pm,cdv,ct,an,ho,hcd,hbind,hcell,hco,hgen,hk,hloc,hgn,hsw⟩ := LF
  have hroom : callerA.depth < recursionLimit := by decide +kernel
  refine codeAny_call_def (fd := fnOf nm' nm' ar (sO :: vP) sc .none .none doc pm an cdv ct) (body := sO :: vP) (binds := [("script",.ref ax)]) hroom ho rfl lim hcd rfl (.of_eq (hbind _ _ _ _ _ _)) hcell ?_ (fun jH hns sS => ?_) hco hgen hk
  · intro p hp
    rw [aKm.mp hp]
    exact (hloc _ (.head _)).1
  let env : Env := callEnv (fnOf nm' nm' ar (sO :: vP) sc .none .none doc pm an cdv ct) s.heap.objs.size 682
  have heL : s.heap.get? s.heap.objs.size = .none := by
    cases q : s.heap.get? s.heap.objs.size with
    | none => rfl
    | some o => exact absurd (Heap.lt_size q) (aLe _)
  refine wpAny_execs_cons ?_
  have Um : Fr s.heap s.heap.objs.size jH (fun x => [(("script" : Str),Value.ref ax)].reverse.lookup x) := ⟨hns,sS,aJr _⟩
  refine W4 (s := { s with heap := jH,toks := _ }) (env := env) Um rfl hk (hloc "script" (.head _)).1 (hloc "pool" (.tail _ (.head _))).1 rfl rfl g b ?_ ?_ rfl (hsw _ _ _ _ _ _ _) ?_ hax hi hlen ?_
  · exact hab
  · exact aIu
  · rfl
  intro D h tk vs ps hl F' hD gj hDL hvs
  let d : Cfg (GG w s g b lim) := { B := s.heap,he := s.heap,W := fun _ => False,A := callerA.deeper env,env := env,outer := [],r0 := s,n := 600,k := 6,names := Fy.ns,gn := Fy.gs }
  have dOk : Ql d := {
    hB := fun _ _ e => e
    stack := Around.frames_deeper rfl
    hand := rfl
    frame := rfl
    kind := hk
    globals := rfl
    builtins := rfl
    heL := heL
    BL := heL
    room := by show callerA.depth + 1 + 600 < recursionLimit; decide +kernel
    units := by show callerA.units + 3 + 12 * 600 + 6 < 9800; decide
    nodup := by show Fy.ns.Nodup; decide +kernel
    WL := fun a ha => absurd ha id
    locals := fun x hx => hloc x hx
    gn := fun x hx => hgn x hx }
  have Sd : gG d (zl Fy.ns [some (.val (.ref ax)),some (.mut D),none,none,none,none,none,none]) (aH vY D (iL ps)) { s with heap := h,toks := tk } := {
    ok := dOk
    base := F'.keep
    frames := by
      intro e he
      rw [aKm.mp he]
      obtain ⟨o,es,ep,h2,h3,_⟩ := id F'.ns
      exact ⟨by show sc.kind ≠ _; rw [hk]; decide,s.heap.objs.size,o,es,ep,rfl,heL,h2,h3⟩
    locs := by
      refine ⟨_,F'.ns,fun x v hx => ?_⟩
      rcases aKf.mp hx with e | hx
      · cases e
        exact ⟨.ref ax,by rw [if_neg (by decide +kernel)]; rfl,.val _⟩
      · rcases aKf.mp hx with e | hx
        · cases e
          exact ⟨.ref D,if_pos rfl,.mut _⟩
        · exfalso
          simp at hx
    names := rfl
    keep := fun a o e => ⟨⟨o,F'.keep a o e⟩,fun _ => ⟨fun _ => F'.keep a o e,o.slots,F'.keep a o e⟩⟩
    mem := fun a ys e => by
      by_cases q : a = D
      · subst q
        rw [aC] at e; obtain rfl := aJn e
        exact ⟨vs,_,hD,IntsAre.reps hvs⟩
      · rw [iD _ _ q] at e; cases e
    dom := fun a e => by
      by_cases q : a = D
      · subst q; exact ⟨gj,.inr gj⟩
      · rw [iD _ _ q] at e; exact absurd rfl e
    fixed := ⟨rfl,rfl,rfl⟩ }
  refine zy (X := False) H.F H.h H.e (c := d) (ss := vP) (Q := fun φ _ _ => φ = .ret (.bool true)) (by show 560 <= 600; decide) hl rfl (by kernel_rfl) (fun _ _ => rfl) _ Sd _ _ (fun f φ s' ρ' σ' S' _ r q => ?_) (fun e s' x _ => absurd x id)
  subst q
  cases r with
  | ret r =>
    cases r
    exact hR s' S'.base S'.fixed.1 S'.fixed.2.2
theorem W5 (args ds : List WData) : PySem.Challenge.rw_no0281_01.row.claim.post args (.bool true) ds = true := by
 show (WShape.has [] (.bool true) .bool && WTm.holds [] (WTm.eq .res (.lit (.bool true))) { args := args,res := some (.bool true),after := ds }) = true;rw [aLc];refine ⟨?_,?_⟩
 ·simp [WShape.has,WShape.arms]
 ·simp [WTm.holds,WTm.value,same_self]
end Mine
section
set_option tactic.hygienic true
namespace Mine
namespace hd0
def tw2808911380250203912:=Nat
def tw543060588611493414:=Nat
def tw17781076316100833504:=Nat
def tw9115860346242966872:=Nat
def tw15843602826518793961:=Nat
def tw2128425038151221735:=Nat
def tw10763176690372330244:=Nat
def tw13545224959385804456:=Nat
def tw3687058039446345037:=Nat
def tw4837166207565515596:=Nat
def tw3033483415405381561:=Nat
def tw3465554795787012971:=Nat
def tw13105775301183761922:=Nat
def tw14595221640817416183:=Nat
def tw10380885782726495096:=Nat
def tw14139502865228493775:=Nat
def tw1601430817000102872:=Nat
def tw11237116216057311745:=Nat
def tw10121685255857489051:=Nat
def tw12933712334415985070:=Nat
def tw14502001302391087502:=Nat
def tw6865537962405302380:=Nat
def tw6014977574509414443:=Nat
def tw10759000945844983178:=Nat
def tw1903914753097239244:=Nat
def tw12151319272224551882:=Nat
def tw16389596510190857529:=Nat
def tw1144143789490447932:=Nat
def tw122436498391896827:=Nat
def tw10961334433642396284:=Nat
def tw1500556042865797202:=Nat
def tw1408586941499263977:=Nat
def tw8860506098235749104:=Nat
def tw8413799840646086991:=Nat
def tw12665424717540478268:=Nat
def tw243666046294145252:=Nat
def tw2872812170981058569:=Nat
def tw10810385065285312349:=Nat
def tw11580911146225420957:=Nat
def tw866052350247734544:=Nat
def tw2834553128231939821:=Nat
def tw17998732546299578792:=Nat
def tw4632445285567490079:=Nat
def tw12274314036958901727:=Nat
def tw5341192815897622196:=Nat
def tw2860899101727606338:=Nat
def tw9846644877726163059:=Nat
def tw17111967392191881361:=Nat
def tw666637029103987267:=Nat
def tw9059464732126916848:=Nat
def tw5677135109947497480:=Nat
def tw6958545755987672987:=Nat
def tw10402865154986503972:=Nat
def tw14317292564540358215:=Nat
def tw7579484373256523769:=Nat
def tw9563851893216371074:=Nat
def tw2788084877741506761:=Nat
def tw463379757040502600:=Nat
def tw5049636077015095027:=Nat
def tw16799398214865156367:=Nat
def tw113680085351987624:=Nat
def tw1512869562912987329:=Nat
def tw12003068471920674386:=Nat
def tw10260036693505685281:=Nat
def tw147192801218679358:=Nat
def tw8052174542758884176:=Nat
def tw6271287328366208365:=Nat
def tw12407471169438301300:=Nat
def tw14736164837976249918:=Nat
def tw16518725849791831052:=Nat
def tw12413647210551461848:=Nat
def tw5814328120849822248:=Nat
def tw14693713190999327560:=Nat
def tw17788234752527007362:=Nat
def tw12777931453158178941:=Nat
def tw7937780131228529215:=Nat
def tw585297023151507021:=Nat
def tw18132021507681513943:=Nat
def tw9632985906301461538:=Nat
def tw5125984077138792351:=Nat
def tw12751441355756486076:=Nat
def tw12921619473888229003:=Nat
def tw12782592981888142045:=Nat
def tw1409594657495654067:=Nat
def tw13681048869030573423:=Nat
def tw17443584081481348451:=Nat
def tw3794367142867343539:=Nat
def tw15490979449997167053:=Nat
def tw13778493272816522149:=Nat
def tw15675528710725479212:=Nat
def tw16038326589278796262:=Nat
def tw3532348270762500020:=Nat
def tw5447685084907291095:=Nat
def tw4909836705566933740:=Nat
def tw14364967241312749879:=Nat
def tw13742105315037027404:=Nat
def tw7535352132141763260:=Nat
def tw12319278043188072571:=Nat
def tw17965875459906211518:=Nat
def tw12244509886447296242:=Nat
def tw241197298611353260:=Nat
def tw5851460317537991607:=Nat
def tw1825929278167054478:=Nat
def tw4794905699969862168:=Nat
def tw3649991183435880112:=Nat
def tw14487139744964632365:=Nat
def tw14219380631129882139:=Nat
def tw1375262684347379207:=Nat
def tw17781500546642245381:=Nat
def tw11119462899506271795:=Nat
def tw17132104802792603634:=Nat
def tw12445168859298407736:=Nat
def tw10282353163112612276:=Nat
def tw12469646135889110394:=Nat
def tw12531005905967446356:=Nat
def tw6649401386675659039:=Nat
def tw12056577157831287533:=Nat
def tw619783545232244655:=Nat
def tw2827288076518157466:=Nat
def tw8575195297261919627:=Nat
def tw1176053044683504432:=Nat
def tw7079748053240274874:=Nat
def tw12805207464963118493:=Nat
def tw14531314831857924074:=Nat
def tw10472887827112669461:=Nat
def tw5428070130070536091:=Nat
def tw17087212701041150630:=Nat
def tw12322794258418571040:=Nat
def tw1174218808468287412:=Nat
def tw10783142842391291914:=Nat
def tw14859510367324771804:=Nat
def tw17529906274252830889:=Nat
def tw10314495095132462600:=Nat
def tw1740062941625307943:=Nat
def tw8021989280010895897:=Nat
def tw9025043858014030743:=Nat
def tw5484117130419629514:=Nat
def tw14707159364453948219:=Nat
def tw1963438426913184167:=Nat
def tw7302656184531018288:=Nat
def tw8066634004926191738:=Nat
def tw7731734453053413589:=Nat
def tw10997815742221998408:=Nat
def tw4373546571844417716:=Nat
def tw5992386861721816697:=Nat
def tw5354866172724995518:=Nat
def tw10834066803405267298:=Nat
def tw14751195016474515691:=Nat
def tw12949994812025541312:=Nat
def tw17154914396850454422:=Nat
def tw179991387133551241:=Nat
def tw11731983014207206779:=Nat
def tw4983706646000405154:=Nat
def tw1486104822300770100:=Nat
def tw3640104315449746964:=Nat
def tw11235671498635311869:=Nat
def tw14876873880408228765:=Nat
def tw8428931017558521197:=Nat
def tw10498964822654063026:=Nat
def tw12281760368372384568:=Nat
def tw9588568164011065487:=Nat
def tw13198788859858803882:=Nat
def tw4582842965409387306:=Nat
def tw5366906053448781924:=Nat
def tw2510654449352665463:=Nat
def tw17259225582567307977:=Nat
def tw16921087693971489108:=Nat
def tw3149825195295114616:=Nat
def tw13012256603424907846:=Nat
def tw721295028468206029:=Nat
def tw11520006908099386746:=Nat
def tw12042970921518469988:=Nat
def tw208745692366851961:=Nat
def tw16112012934339231772:=Nat
def tw13487184783045432306:=Nat
def tw3406311059433270224:=Nat
def tw4061320783067801059:=Nat
def tw13291091997398420451:=Nat
def tw13934678020478736222:=Nat
def tw2919583234286436895:=Nat
def tw7214897715431218698:=Nat
def tw12933303735471307315:=Nat
def tw12784123285358203314:=Nat
def tw12276703297741760479:=Nat
def tw13990672569431220391:=Nat
def tw6070584094110415979:=Nat
def tw6269040581006461771:=Nat
def tw16426948963021806353:=Nat
def tw8125271861009673391:=Nat
def tw7623283449146697146:=Nat
def tw13800483763300068865:=Nat
def tw3466419429004618768:=Nat
def tw1658824891121474949:=Nat
def tw3394719057209654559:=Nat
def tw16611413978080045876:=Nat
def tw16463593755247147200:=Nat
def tw5886135802988145460:=Nat
def tw1817164187568313849:=Nat
def tw4691257246625332865:=Nat
def tw16057218211864961754:=Nat
def tw6302951332473218875:=Nat
def tw7746724291664459861:=Nat
def tw8196393364371573391:=Nat
def tw15728283652489511788:=Nat
def tw159360540141897952:=Nat
def tw9732216286042656328:=Nat
def tw5009392681941405746:=Nat
def tw12075269703002163213:=Nat
def tw2329996539569397640:=Nat
def tw18135268618719461282:=Nat
def tw7288751869163876638:=Nat
def tw17636036072376682784:=Nat
def tw10765925126889504240:=Nat
def tw9001251600818444179:=Nat
def tw3361144743427637995:=Nat
def tw3682416365666891632:=Nat
def tw13568120283695954765:=Nat
def tw9949846813906436267:=Nat
def tw9188398823286509360:=Nat
def tw14885392324379421255:=Nat
def tw9915369828831269134:=Nat
def tw16271690622389391696:=Nat
def tw14469414521783600489:=Nat
def tw475519468955650494:=Nat
def tw15631703557454890568:=Nat
def tw5573079312679747698:=Nat
def tw773914070166202923:=Nat
def tw6414887533649200790:=Nat
def tw14602483098564173615:=Nat
def tw16269486087580614188:=Nat
def tw3233326631691786436:=Nat
def tw11055183035642229788:=Nat
def tw10990117588895114390:=Nat
def tw9385747698160950831:=Nat
def tw17161414228395185700:=Nat
def tw2846630024949705071:=Nat
def tw14198383729236097778:=Nat
def tw12291059427910704922:=Nat
def tw2302055443720114960:=Nat
def tw16866877141584463672:=Nat
def tw3352384854717104398:=Nat
def tw9589788102987637898:=Nat
def tw744657077029961169:=Nat
def tw5271022457499508285:=Nat
def tw5336939312866089149:=Nat
def tw16945641315097055003:=Nat
def tw5353220722972676460:=Nat
def tw5970747636077353761:=Nat
def tw13486330257028493506:=Nat
def tw13130983519766148356:=Nat
def tw901327545473398541:=Nat
def tw4192044030403024501:=Nat
def tw14905831658627392255:=Nat
def tw17557899024913747603:=Nat
def tw2514418997314332413:=Nat
def tw5677194259293420247:=Nat
def tw6134885170197741980:=Nat
def tw8989800094379352571:=Nat
def tw9387283391072121096:=Nat
def tw5099975578641171906:=Nat
def tw11971303437334320129:=Nat
def tw8799922735631600174:=Nat
def tw18344095453417198420:=Nat
def tw16613889504466272002:=Nat
def tw16255563409837272293:=Nat
def tw16356745440860276358:=Nat
def tw10171905155036859849:=Nat
def tw8708807820475274586:=Nat
def tw13451678851320754741:=Nat
def tw1344525240475726329:=Nat
def tw15478791486184338690:=Nat
def tw12482913051474129847:=Nat
def tw3752284228027186358:=Nat
def tw1562688426800042800:=Nat
def tw12665113834384165610:=Nat
def tw4663038693165263023:=Nat
def tw17763732069537761205:=Nat
def tw8053029068741257462:=Nat
def tw15621366761432239028:=Nat
def tw8464541185895156213:=Nat
def tw15883065056585263411:=Nat
def tw1280484567907817961:=Nat
def tw295419916050123564:=Nat
def tw6425220609725761449:=Nat
def tw17327177587765197472:=Nat
def tw11064160589316715639:=Nat
def tw12776546938699652369:=Nat
def tw14784936291350405178:=Nat
def tw10780423286290277794:=Nat
def tw2920931838809075660:=Nat
def tw17910583106863524117:=Nat
def tw15651294698572667320:=Nat
def tw5364393782896679965:=Nat
def tw6726440965815083050:=Nat
def tw17018938808108061734:=Nat
def tw12075429309070946594:=Nat
def tw1881863556942964538:=Nat
def tw1206084808893199565:=Nat
def tw14800764121473040398:=Nat
def tw10297934492154968163:=Nat
def tw3153493263474777528:=Nat
def tw6304940225609730636:=Nat
def tw10893015288667660014:=Nat
def tw11569332292355274217:=Nat
def tw6663342589294648794:=Nat
def tw4972683947323451530:=Nat
def tw16983820468018708842:=Nat
def tw10084470103006088933:=Nat
def tw16690107442442495926:=Nat
def tw18416291653570748741:=Nat
def tw6319714708284619015:=Nat
def tw8935835073043769850:=Nat
def tw1824040809486260883:=Nat
def tw6610721040928539861:=Nat
def tw8907265306392417265:=Nat
def tw3178646243906574223:=Nat
def tw9920712778304440653:=Nat
def tw16844770772499615110:=Nat
def tw9799908990197425402:=Nat
def tw2630645244069355918:=Nat
def tw9526941815458186415:=Nat
def tw16261526148008475707:=Nat
def tw2219251433370212802:=Nat
def tw3525650266765315696:=Nat
def tw15960652031959596643:=Nat
def tw1673108226327096836:=Nat
def tw12751726420226901460:=Nat
def tw2280702184356970510:=Nat
def tw2738655298557570645:=Nat
def tw83355183581604759:=Nat
def tw2863537065255238847:=Nat
def tw4958161400511572651:=Nat
def tw17651327042114731174:=Nat
def tw5641299431439701213:=Nat
def tw18253309430737647335:=Nat
def tw17823266487745473820:=Nat
def tw2350088028635606421:=Nat
def tw13774004877433310113:=Nat
def tw1277909223561221377:=Nat
def tw13674825878566736871:=Nat
def tw9745709091790514047:=Nat
def tw2060100933777360416:=Nat
def tw2489025533102696113:=Nat
def tw3990100346840067004:=Nat
def tw13510157072313097611:=Nat
def tw1359104647744391194:=Nat
def tw13960838486111706346:=Nat
def tw10299701338536963064:=Nat
def tw6731150079252952819:=Nat
def tw13143500989680652158:=Nat
def tw2395880578221408459:=Nat
def tw17828249871568911703:=Nat
def tw5476550517563732157:=Nat
def tw11948003583001340954:=Nat
def tw18429324449565333914:=Nat
def tw1943803618969230435:=Nat
def tw11510660921149772417:=Nat
def tw14530719843544073062:=Nat
def tw10121465883057819038:=Nat
def tw2080979622161356455:=Nat
def tw14494657868452557277:=Nat
def tw8346849033427223727:=Nat
def tw18143976691941029074:=Nat
def tw8564352693357475677:=Nat
def tw15553139450688975919:=Nat
def tw7493280530175958909:=Nat
def tw5094363740755177244:=Nat
def tw5932400532023938697:=Nat
def tw6893331240596464896:=Nat
def tw16621426456839085515:=Nat
def tw12753557443971426460:=Nat
def tw13333579491729134397:=Nat
def tw3687841886611527418:=Nat
def tw7005178408466318249:=Nat
def tw839443794188527141:=Nat
def tw15543821095186356926:=Nat
def tw14574581053450234351:=Nat
def tw201601121702685456:=Nat
def tw5151245016333330754:=Nat
def tw4798827951396624206:=Nat
def tw4550181199752876123:=Nat
def tw97161497214354009:=Nat
def tw11759931035086368862:=Nat
def tw9402539598613710537:=Nat
def tw10950015098503667:=Nat
def tw14133583787211923317:=Nat
def tw7754574992301268747:=Nat
def tw9059920523635683277:=Nat
def tw1821098575492082715:=Nat
def tw5873444610005042059:=Nat
def tw17751538270359655562:=Nat
def tw6568540664440534053:=Nat
def tw8560568789277484544:=Nat
def tw16309731707783951826:=Nat
def tw7075065347616537067:=Nat
def tw18017804224502492442:=Nat
def tw1189054894648436682:=Nat
def tw2735401655943086511:=Nat
def tw17996456997027125405:=Nat
def tw1597637715128213681:=Nat
def tw3614440592705372375:=Nat
def tw17819310920826306093:=Nat
def tw17312371794062739880:=Nat
def tw12276868589851284407:=Nat
def tw11185450218303098929:=Nat
def tw3771890792122485445:=Nat
def tw1779554380871787090:=Nat
def tw13601029301931556805:=Nat
def tw11797003534878959301:=Nat
def tw13555123127346715575:=Nat
def tw13826388099692679067:=Nat
def tw17614214558043839244:=Nat
def tw8412496611741829076:=Nat
def tw2008372144067494435:=Nat
def tw8913561755670897571:=Nat
def tw15549164469732841750:=Nat
def tw4215313949165501139:=Nat
def tw7895234915340226546:=Nat
def tw650764759088172349:=Nat
def tw17623544462552871726:=Nat
def tw5900601929854858263:=Nat
def tw15389241651499710389:=Nat
def tw7359261033328424013:=Nat
def tw16178185886527317852:=Nat
def tw789673355000652139:=Nat
def tw6062643184621189875:=Nat
def tw1104153614263761704:=Nat
def tw17165560880091878914:=Nat
def tw10992540420993761691:=Nat
def tw6487651796703802930:=Nat
def tw15005460686244068168:=Nat
def tw12205703568204840568:=Nat
def tw10833352333336119249:=Nat
def tw1566675678902604740:=Nat
def tw16664977806865809019:=Nat
def tw18430945745249023057:=Nat
def tw12408544009092005060:=Nat
def tw12489974410676362506:=Nat
def tw14626680062922504877:=Nat
end hd0
set_option Elab.async true in
theorem hd0 : PySem.Challenge.rw_no0281_01.Holds := by
 w_on; o_law; k_head; (case hw => w_witness2)
 intro w s₀ aQ mg mb G Y fa o pm cd doc dV kV ho hd hcd hD hmg hg args vals as hpre hlay hrd hwl hlo;have X := kIn_of Y;refine Ground.open G ?_;intro T B D TE TW;have Z := okK X (by kernel_rfl);obtain rfl := aAa Z T.g hmg (by kernel_rfl);clear hmg;wrow_args hpre hlay hrd hwl hlo
 rename_i ns hs hl0 hL1 hr1 hl2 a1 a2 ax its as' hL ra w1 r0 hI hr hc1 hc2;refine enter_call ?_;let F : Facts (GG w aQ T.g T.b T.nolimit) := {
  a := aF
  f := fun k => (u2 X 0 fl (by kernel_rfl) rfl (by intros; kernel_rfl) <| u3 X 1 fl (by kernel_rfl) rfl (by intros; kernel_rfl) <| u3 X 2 fl (by kernel_rfl) rfl (by intros; kernel_rfl) <| u2 X 3 fl (by kernel_rfl) rfl (by intros; kernel_rfl) <| u2 X 4 fl (by kernel_rfl) rfl (by intros; kernel_rfl) <| u2 X 5 fl (by kernel_rfl) rfl (by intros; kernel_rfl) <| u2 X 6 fl (by kernel_rfl) rfl (by intros; kernel_rfl) <| u2 X 7 fl (by kernel_rfl) rfl (by intros; kernel_rfl) <| u2 X 8 fl (by kernel_rfl) rfl (by intros; kernel_rfl) <| u3 X 9 fl (by kernel_rfl) rfl (by intros; kernel_rfl) <| u3 X 10 fl (by kernel_rfl) rfl (by intros; kernel_rfl) <| u2 X 11 fl (by kernel_rfl) rfl (by intros; kernel_rfl) <| u3 X 12 fl (by kernel_rfl) rfl (by intros; kernel_rfl) <| u2 X 13 fl (by kernel_rfl) rfl (by intros; kernel_rfl) <| u2 X 14 fl (by kernel_rfl) rfl (by intros; kernel_rfl) <| u2 X 15 fl (by kernel_rfl) rfl (by intros; kernel_rfl) <| u2 X 16 fl (by kernel_rfl) rfl (by intros; kernel_rfl) <| u2 X 17 fl (by kernel_rfl) rfl (by intros; kernel_rfl) <| u2 X 18 fl (by kernel_rfl) rfl (by intros; kernel_rfl) <| u3 X 19 fl (by kernel_rfl) rfl (by intros; kernel_rfl) <| u3 X 20 fl (by kernel_rfl) rfl (by intros; kernel_rfl) <| u2 X 21 fl (by kernel_rfl) rfl (by intros; kernel_rfl) <| u3 X 22 fl (by kernel_rfl) rfl (by intros; kernel_rfl) <| u2 X 23 fl (by kernel_rfl) rfl (by intros; kernel_rfl) <| u2 X 24 fl (by kernel_rfl) rfl (by intros; kernel_rfl) <| u2 X 25 fl (by kernel_rfl) rfl (by intros; kernel_rfl) <| u2 X 26 fl (by kernel_rfl) rfl (by intros; kernel_rfl) <| u1 X 27 fl (by kernel_rfl) rfl (by intros; kernel_rfl) <| u1 X 28 fl (by kernel_rfl) rfl (by intros; kernel_rfl) <| u2 X 29 fl (by kernel_rfl) rfl (by intros; kernel_rfl) <| u2 X 30 fl (by kernel_rfl) rfl (by intros; kernel_rfl) <| u2 X 31 fl (by kernel_rfl) rfl (by intros; kernel_rfl) <| u2 X 32 fl (by kernel_rfl) rfl (by intros; kernel_rfl) <| u1 X 33 fl (by kernel_rfl) rfl (by intros; kernel_rfl) <| u3 X 34 fl (by kernel_rfl) rfl (by intros; kernel_rfl) <| u3 X 35 fl (by kernel_rfl) rfl (by intros; kernel_rfl) <| u1 X 36 fl (by kernel_rfl) rfl (by intros; kernel_rfl) <| u1 X 37 fl (by kernel_rfl) rfl (by intros; kernel_rfl) <| u1 X 38 fl (by kernel_rfl) rfl (by intros; kernel_rfl) <| u1 X 39 fl (by kernel_rfl) rfl (by intros; kernel_rfl) <| u1 X 40 fl (by kernel_rfl) rfl (by intros; kernel_rfl) <| u1 X 41 fl (by kernel_rfl) rfl (by intros; kernel_rfl) <| u1 X 42 fl (by kernel_rfl) rfl (by intros; kernel_rfl) <| u2 X 43 fl (by kernel_rfl) rfl (by intros; kernel_rfl) <| u2 X 44 fl (by kernel_rfl) rfl (by intros; kernel_rfl) <| u2 X 45 fl (by kernel_rfl) rfl (by intros; kernel_rfl) <| u1 X 46 fl (by kernel_rfl) rfl (by intros; kernel_rfl) <| u2 X 47 fl (by kernel_rfl) rfl (by intros; kernel_rfl) <| u2 X 48 fl (by kernel_rfl) rfl (by intros; kernel_rfl) <| u1 X 49 fl (by kernel_rfl) rfl (by intros; kernel_rfl) <| u1 X 50 fl (by kernel_rfl) rfl (by intros; kernel_rfl) <| u2 X 51 fl (by kernel_rfl) rfl (by intros; kernel_rfl) <| u1 X 52 fl (by kernel_rfl) rfl (by intros; kernel_rfl) <| u2 X 53 fl (by kernel_rfl) rfl (by intros; kernel_rfl) <| u1 X 54 fl (by kernel_rfl) rfl (by intros; kernel_rfl) <| u1 X 55 fl (by kernel_rfl) rfl (by intros; kernel_rfl) <| u1 X 56 fl (by kernel_rfl) rfl (by intros; kernel_rfl) <| u1 X 57 fl (by kernel_rfl) rfl (by intros; kernel_rfl) <| u1 X 58 fl (by kernel_rfl) rfl (by intros; kernel_rfl) <| u1 X 59 fl (by kernel_rfl) rfl (by intros; kernel_rfl) <| u2 X 60 fl (by kernel_rfl) rfl (by intros; kernel_rfl) <| u1 X 61 fl (by kernel_rfl) rfl (by intros; kernel_rfl) <| u1 X 62 fl (by kernel_rfl) rfl (by intros; kernel_rfl) <| u1 X 63 fl (by kernel_rfl) rfl (by intros; kernel_rfl) <| u1 X 64 fl (by kernel_rfl) rfl (by intros; kernel_rfl) <| u1 X 65 fl (by kernel_rfl) rfl (by intros; kernel_rfl) <| u1 X 66 fl (by kernel_rfl) rfl (by intros; kernel_rfl) <| u1 X 67 fl (by kernel_rfl) rfl (by intros; kernel_rfl) <| u3 X 68 fl (by kernel_rfl) rfl (by intros; kernel_rfl) <| u1 X 69 fl (by kernel_rfl) rfl (by intros; kernel_rfl) <| u1 X 70 fl (by kernel_rfl) rfl (by intros; kernel_rfl) <| u1 X 71 fl (by kernel_rfl) rfl (by intros; kernel_rfl) <| u2 X 72 fl (by kernel_rfl) rfl (by intros; kernel_rfl) <| u1 X 73 fl (by kernel_rfl) rfl (by intros; kernel_rfl) <| u1 X 74 fl (by kernel_rfl) rfl (by intros; kernel_rfl) <| u1 X 75 fl (by kernel_rfl) rfl (by intros; kernel_rfl) <| u1 X 76 fl (by kernel_rfl) rfl (by intros; kernel_rfl) <| u1 X 77 fl (by kernel_rfl) rfl (by intros; kernel_rfl) <| u2 X 78 fl (by kernel_rfl) rfl (by intros; kernel_rfl) <| u2 X 79 fl (by kernel_rfl) rfl (by intros; kernel_rfl) <| u1 X 80 fl (by kernel_rfl) rfl (by intros; kernel_rfl) <| u3 X 81 fl (by kernel_rfl) rfl (by intros; kernel_rfl) <| up 82 fl (fun h => nomatch h) <| up 83 fl (fun h => nomatch h) <| up 84 fl (fun h => nomatch h) <| up 85 fl (fun h => nomatch h) <| up 86 fl (fun h => nomatch h) <| fun k hk q => absurd hk (Nat.not_lt.mpr q) : ∀ (k : Nat) (hk : k < 87),0 <= k -> PF _ k hk) k.val k.isLt (aKk _)
  N := {
   g := fun f => Js (nm Z (aIw (by kernel_rfl) f))
   o := fun f => aAe X (aHb (by kernel_rfl) f)
   k := fun
    | .rT => nM (t := 324) (nm Z (by kernel_rfl))
    | .NEGATION => nM (t := 326) (nm Z (by kernel_rfl))
    | .RELATION => nM (t := 328) (nm Z (by kernel_rfl))
    | .SUM => nM (t := 330) (nm Z (by kernel_rfl))
    | .POWER => nM (t := 332) (nm Z (by kernel_rfl))
    | .INTEGER => nM (t := 535) (nm Z (by kernel_rfl))
    | .REAL => nM (t := 537) (nm Z (by kernel_rfl))
    | .DOUBLE => nM (t := 539) (nm Z (by kernel_rfl))
    | .Gd => nM (t := 541) (nm Z (by kernel_rfl))
    | .LOGICAL => nM (t := 543) (nm Z (by kernel_rfl))
    | .CHARACTER => nM (t := 545) (nm Z (by kernel_rfl))
    | .LETTERS => Ea (t := 549) (nm Z (by kernel_rfl))
    | .jR => Ea (t := 551) (nm Z (by kernel_rfl))
    | .SIGNS => Ea (t := 568) (nm Z (by kernel_rfl))
    | .xY => nM (t := 570) (nm Z (by kernel_rfl))
    | .oX => nM (t := 572) (nm Z (by kernel_rfl))
    | .pR => Ea (t := 703) (nm Z (by kernel_rfl))
    | .lJ => nM (t := 705) (nm Z (by kernel_rfl))
    | .lZ => Ea (t := 918) (nm Z (by kernel_rfl))
    | .iT => Ea (t := 920) (nm Z (by kernel_rfl))
   len := Eb (nm Z (by kernel_rfl)) ((T.builtins _ (by decide +kernel)).trans (by kernel_rfl))
   abs := Eb (nm Z (by kernel_rfl)) ((T.builtins _ (by decide +kernel)).trans (by kernel_rfl))
   int := Eb (nm Z (by kernel_rfl)) ((T.builtins _ (by decide +kernel)).trans (by kernel_rfl))
   str := Eb (nm Z (by kernel_rfl)) ((T.builtins _ (by decide +kernel)).trans (by kernel_rfl))
   list := Eb (nm Z (by kernel_rfl)) ((T.builtins _ (by decide +kernel)).trans (by kernel_rfl))
   range := Eb (nm Z (by kernel_rfl)) ((T.builtins _ (by decide +kernel)).trans (by kernel_rfl))
   Z := {
     K := (hd0.heap_1_39 w.params)
     cF := 31
     cL := 51
     cS := 63
     f0 := 28
     f1 := 48
     X := X
     J := {
     fd0 := FD (hd0.heap_1_39 w.params) 28
     fd1 := FD (hd0.heap_1_39 w.params) 48
     i0 := {
      look := ⟨_,_,_,rfl⟩
      glob := rfl
      blt := rfl
      kind := rfl
      co := rfl
      gen := rfl
      cells := Uc (by kernel_rfl)
      code := by kernel_rfl
      loc := fun x hx => by
       rcases aKf.mp hx with rfl | hx
       ·exact ⟨rfl,by decide +kernel⟩
       ·rw [aKm.mp hx]; exact ⟨rfl,by decide +kernel⟩
      gns := fun x hx => by rw [aKm.mp hx]; exact ⟨rfl,by decide +kernel⟩
      bind := fun vs hl => by obtain ⟨a,b,rfl⟩ := aIv hl; rfl
      nd := by decide +kernel }
     i1 := {
      look := ⟨_,_,_,rfl⟩
      glob := rfl
      blt := rfl
      kind := rfl
      co := rfl
      gen := rfl
      cells := Uc (by kernel_rfl)
      code := by kernel_rfl
      loc := fun x hx => by
       rcases aKf.mp hx with rfl | hx
       ·exact ⟨rfl,by decide +kernel⟩
       ·rcases aKf.mp hx with rfl | hx
        ·exact ⟨rfl,by decide +kernel⟩
        ·rw [aKm.mp hx]; exact ⟨rfl,by decide +kernel⟩
      gns := fun x hx => by rw [aKm.mp hx]; exact ⟨rfl,by decide +kernel⟩
      bind := fun vs hl => by obtain ⟨a,b,c,rfl⟩ := aIk hl; rfl
      nd := by decide +kernel }
     b0 := ⟨_,_,_,_,_,_,_,_,_,_,rfl,fun env => ⟨_,rfl⟩⟩
     b1 := ⟨_,_,_,_,_,_,_,_,_,_,rfl,fun env => ⟨_,rfl⟩⟩
     exc := ⟨nm Z (by kernel_rfl),(T.builtins _ (by decide +kernel)).trans (by kernel_rfl)⟩
     aFr := nm Z (by kernel_rfl)
     reads := by kernel_rfl
     special := by kernel_rfl
     finds := by kernel_rfl
     Y0 := by kernel_rfl }
     yS := wC X (by kernel_rfl)
     yL := wC X (by kernel_rfl)
     ts := by kernel_rfl
     tl := by kernel_rfl
     al := by kernel_rfl
     mS := .head _
     mL := .tail _ (.head _)
     yF := wC X (by kernel_rfl)
     over := by
      intro cls hc;rcases aKf.mp hc with rfl | hc
      ·exact ⟨63,28,rfl,wC X (by kernel_rfl),by kernel_rfl⟩
      ·rw [aKm.mp hc];exact ⟨51,48,rfl,wC X (by kernel_rfl),by kernel_rfl⟩ }
   zS := Js (nm Z (by kernel_rfl))
   zL := Js (nm Z (by kernel_rfl))
   aP := 115
   P := Js (nm Z (by kernel_rfl))
   tab := aAb X rfl (by repeat (first | exact trivial | refine And.intro ⟨_,_,rfl,rfl⟩ ?_)) (by kernel_rfl) (by kernel_rfl) } }
 have LF : dw (GG w aQ T.g T.b T.nolimit) := by
  refine ⟨_,_,_,_,_,_,_,_,_,_,_,X 682 _ rfl,⟨_,_,_,_,rfl,X _ _ rfl,rfl,rfl⟩,?_,?_,rfl,rfl,rfl,?_,?_,?_⟩
  ·intro v doc pm an cdv ct; rfl
  ·decide +kernel
  ·decide +kernel
  ·decide +kernel
  ·intro L a doc pm an cdv ct;show swapsWith _ _ _ _ = _
   with_unfolding_all rfl
 refine codeAny_mono (c7 T.g T.b T.nolimit ⟨F,Cd X (by kernel_rfl) fun name body sc => bl3 (by intros; kernel_rfl),Js (nm Z (by kernel_rfl))⟩ LF (nm (G := GG w aQ T.g T.b T.nolimit) Z (by kernel_rfl)) ((T.builtins _ (by decide +kernel)).trans (by kernel_rfl)) hL hI (by have := hI.length; omega) (R := fun r s' => r = .ok (.ret (.bool true)) /\ (∀ b o,aQ.heap.get? b = some o -> s'.heap.get? b = some o) /\ s'.gens = aQ.gens /\ s'.os = aQ.os) (fun s' h1 h2 h3 => ⟨rfl,h1,h2,h3⟩)) fun r s' h => ?_;obtain ⟨rfl,h1,h2,h3⟩ := h;refine GoodW.toG ⟨.inl ⟨.bool true,.bool true,[],rfl,fun cls => ?_,.bool true,?_,fun _ => ⟨List.nodup_nil,fun a ha => by cases ha⟩⟩,h1,h3,h2.trans hg⟩
 ·rfl
 ·exact W5 _ _
end Mine
theorem PySem.Challenge.cw_no0281_01_holds : PySem.Challenge.rw_no0281_01.Holds :=
 Mine.hd0
end