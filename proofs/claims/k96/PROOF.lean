import PyProof.Rows.All
import Wide.All
import OpenK.AllK
import Wide.FinOn
import HandS.ForMost
import HandS.Exc
import HandS.TryOnly
import HandS.ExcOwn
import HandS.WordsExc
import HandS.Wide
import HandS.WideBits
import HandS.Gcd
import HandS.IsInst
import HandS.ExcIs
import HandS.Defaults
import HandS.Flow
import HandS.Small
import HandS.More
import HandS.SortInts
import HandS.TupAny
import HandS.DeepEq
import HandS.Conv
import HandS.Codes
import HandS.Walk
import HandS.ExcInit
import HandS.ExcField
import HandS.HotCalls
import HandS.TupLe
import PySem.Challenge.RW_solvedpapers_k96_ratio_words
set_option Elab.async false
set_option linter.all false
set_option maxRecDepth 100000
set_option maxHeartbeats 4000000
namespace Px
open PySem PySem.Spec PyProof.Rows L2
/-! ### applied readings -/
section
variable {K : PySem.W.Frag} {σ : L2.St} {H : Hp} {D : Ends} {Q : VK} {QA : List V → Hp → Prop} {QB : Bool → Hp → Prop} {ta tb te : TE} {t u : TS} {c d : TT} {tl tr : TA} {g : TG} {v : V} {r : R2}

theorem v0 {r : L2.St} : (tVar 0 (some v :: r) H Q) = (Q v H) := propext ⟨fun ⟨_, e, q⟩ => by cases e; exact q, fun q => ⟨v, rfl, q⟩⟩
theorem v1 {a0 : Option V} {r : L2.St} : (tVar 1 (a0 :: some v :: r) H Q) = (Q v H) := propext ⟨fun ⟨_, e, q⟩ => by cases e; exact q, fun q => ⟨v, rfl, q⟩⟩
theorem v2 {a0 a1 : Option V} {r : L2.St} : (tVar 2 (a0 :: a1 :: some v :: r) H Q) = (Q v H) := propext ⟨fun ⟨_, e, q⟩ => by cases e; exact q, fun q => ⟨v, rfl, q⟩⟩
theorem v3 {a0 a1 a2 : Option V} {r : L2.St} : (tVar 3 (a0 :: a1 :: a2 :: some v :: r) H Q) = (Q v H) := propext ⟨fun ⟨_, e, q⟩ => by cases e; exact q, fun q => ⟨v, rfl, q⟩⟩
theorem v4 {a0 a1 a2 a3 : Option V} {r : L2.St} : (tVar 4 (a0 :: a1 :: a2 :: a3 :: some v :: r) H Q) = (Q v H) := propext ⟨fun ⟨_, e, q⟩ => by cases e; exact q, fun q => ⟨v, rfl, q⟩⟩
theorem v5 {a0 a1 a2 a3 a4 : Option V} {r : L2.St} : (tVar 5 (a0 :: a1 :: a2 :: a3 :: a4 :: some v :: r) H Q) = (Q v H) := propext ⟨fun ⟨_, e, q⟩ => by cases e; exact q, fun q => ⟨v, rfl, q⟩⟩
theorem v6 {a0 a1 a2 a3 a4 a5 : Option V} {r : L2.St} : (tVar 6 (a0 :: a1 :: a2 :: a3 :: a4 :: a5 :: some v :: r) H Q) = (Q v H) := propext ⟨fun ⟨_, e, q⟩ => by cases e; exact q, fun q => ⟨v, rfl, q⟩⟩
theorem v7 {a0 a1 a2 a3 a4 a5 a6 : Option V} {r : L2.St} : (tVar 7 (a0 :: a1 :: a2 :: a3 :: a4 :: a5 :: a6 :: some v :: r) H Q) = (Q v H) := propext ⟨fun ⟨_, e, q⟩ => by cases e; exact q, fun q => ⟨v, rfl, q⟩⟩
theorem v8 {a0 a1 a2 a3 a4 a5 a6 a7 : Option V} {r : L2.St} : (tVar 8 (a0 :: a1 :: a2 :: a3 :: a4 :: a5 :: a6 :: a7 :: some v :: r) H Q) = (Q v H) := propext ⟨fun ⟨_, e, q⟩ => by cases e; exact q, fun q => ⟨v, rfl, q⟩⟩
theorem v9 {a0 a1 a2 a3 a4 a5 a6 a7 a8 : Option V} {r : L2.St} : (tVar 9 (a0 :: a1 :: a2 :: a3 :: a4 :: a5 :: a6 :: a7 :: a8 :: some v :: r) H Q) = (Q v H) := propext ⟨fun ⟨_, e, q⟩ => by cases e; exact q, fun q => ⟨v, rfl, q⟩⟩
theorem v10 {a0 a1 a2 a3 a4 a5 a6 a7 a8 a9 : Option V} {r : L2.St} : (tVar 10 (a0 :: a1 :: a2 :: a3 :: a4 :: a5 :: a6 :: a7 :: a8 :: a9 :: some v :: r) H Q) = (Q v H) := propext ⟨fun ⟨_, e, q⟩ => by cases e; exact q, fun q => ⟨v, rfl, q⟩⟩
theorem v11 {a0 a1 a2 a3 a4 a5 a6 a7 a8 a9 a10 : Option V} {r : L2.St} : (tVar 11 (a0 :: a1 :: a2 :: a3 :: a4 :: a5 :: a6 :: a7 :: a8 :: a9 :: a10 :: some v :: r) H Q) = (Q v H) := propext ⟨fun ⟨_, e, q⟩ => by cases e; exact q, fun q => ⟨v, rfl, q⟩⟩
theorem v12 {a0 a1 a2 a3 a4 a5 a6 a7 a8 a9 a10 a11 : Option V} {r : L2.St} : (tVar 12 (a0 :: a1 :: a2 :: a3 :: a4 :: a5 :: a6 :: a7 :: a8 :: a9 :: a10 :: a11 :: some v :: r) H Q) = (Q v H) := propext ⟨fun ⟨_, e, q⟩ => by cases e; exact q, fun q => ⟨v, rfl, q⟩⟩
theorem v13 {a0 a1 a2 a3 a4 a5 a6 a7 a8 a9 a10 a11 a12 : Option V} {r : L2.St} : (tVar 13 (a0 :: a1 :: a2 :: a3 :: a4 :: a5 :: a6 :: a7 :: a8 :: a9 :: a10 :: a11 :: a12 :: some v :: r) H Q) = (Q v H) := propext ⟨fun ⟨_, e, q⟩ => by cases e; exact q, fun q => ⟨v, rfl, q⟩⟩
theorem v14 {a0 a1 a2 a3 a4 a5 a6 a7 a8 a9 a10 a11 a12 a13 : Option V} {r : L2.St} : (tVar 14 (a0 :: a1 :: a2 :: a3 :: a4 :: a5 :: a6 :: a7 :: a8 :: a9 :: a10 :: a11 :: a12 :: a13 :: some v :: r) H Q) = (Q v H) := propext ⟨fun ⟨_, e, q⟩ => by cases e; exact q, fun q => ⟨v, rfl, q⟩⟩
theorem v15 {a0 a1 a2 a3 a4 a5 a6 a7 a8 a9 a10 a11 a12 a13 a14 : Option V} {r : L2.St} : (tVar 15 (a0 :: a1 :: a2 :: a3 :: a4 :: a5 :: a6 :: a7 :: a8 :: a9 :: a10 :: a11 :: a12 :: a13 :: a14 :: some v :: r) H Q) = (Q v H) := propext ⟨fun ⟨_, e, q⟩ => by cases e; exact q, fun q => ⟨v, rfl, q⟩⟩
theorem v16 {a0 a1 a2 a3 a4 a5 a6 a7 a8 a9 a10 a11 a12 a13 a14 a15 : Option V} {r : L2.St} : (tVar 16 (a0 :: a1 :: a2 :: a3 :: a4 :: a5 :: a6 :: a7 :: a8 :: a9 :: a10 :: a11 :: a12 :: a13 :: a14 :: a15 :: some v :: r) H Q) = (Q v H) := propext ⟨fun ⟨_, e, q⟩ => by cases e; exact q, fun q => ⟨v, rfl, q⟩⟩
theorem v17 {a0 a1 a2 a3 a4 a5 a6 a7 a8 a9 a10 a11 a12 a13 a14 a15 a16 : Option V} {r : L2.St} : (tVar 17 (a0 :: a1 :: a2 :: a3 :: a4 :: a5 :: a6 :: a7 :: a8 :: a9 :: a10 :: a11 :: a12 :: a13 :: a14 :: a15 :: a16 :: some v :: r) H Q) = (Q v H) := propext ⟨fun ⟨_, e, q⟩ => by cases e; exact q, fun q => ⟨v, rfl, q⟩⟩
theorem v18 {a0 a1 a2 a3 a4 a5 a6 a7 a8 a9 a10 a11 a12 a13 a14 a15 a16 a17 : Option V} {r : L2.St} : (tVar 18 (a0 :: a1 :: a2 :: a3 :: a4 :: a5 :: a6 :: a7 :: a8 :: a9 :: a10 :: a11 :: a12 :: a13 :: a14 :: a15 :: a16 :: a17 :: some v :: r) H Q) = (Q v H) := propext ⟨fun ⟨_, e, q⟩ => by cases e; exact q, fun q => ⟨v, rfl, q⟩⟩
theorem v19 {a0 a1 a2 a3 a4 a5 a6 a7 a8 a9 a10 a11 a12 a13 a14 a15 a16 a17 a18 : Option V} {r : L2.St} : (tVar 19 (a0 :: a1 :: a2 :: a3 :: a4 :: a5 :: a6 :: a7 :: a8 :: a9 :: a10 :: a11 :: a12 :: a13 :: a14 :: a15 :: a16 :: a17 :: a18 :: some v :: r) H Q) = (Q v H) := propext ⟨fun ⟨_, e, q⟩ => by cases e; exact q, fun q => ⟨v, rfl, q⟩⟩
theorem v20 {a0 a1 a2 a3 a4 a5 a6 a7 a8 a9 a10 a11 a12 a13 a14 a15 a16 a17 a18 a19 : Option V} {r : L2.St} : (tVar 20 (a0 :: a1 :: a2 :: a3 :: a4 :: a5 :: a6 :: a7 :: a8 :: a9 :: a10 :: a11 :: a12 :: a13 :: a14 :: a15 :: a16 :: a17 :: a18 :: a19 :: some v :: r) H Q) = (Q v H) := propext ⟨fun ⟨_, e, q⟩ => by cases e; exact q, fun q => ⟨v, rfl, q⟩⟩
theorem v21 {a0 a1 a2 a3 a4 a5 a6 a7 a8 a9 a10 a11 a12 a13 a14 a15 a16 a17 a18 a19 a20 : Option V} {r : L2.St} : (tVar 21 (a0 :: a1 :: a2 :: a3 :: a4 :: a5 :: a6 :: a7 :: a8 :: a9 :: a10 :: a11 :: a12 :: a13 :: a14 :: a15 :: a16 :: a17 :: a18 :: a19 :: a20 :: some v :: r) H Q) = (Q v H) := propext ⟨fun ⟨_, e, q⟩ => by cases e; exact q, fun q => ⟨v, rfl, q⟩⟩
theorem v22 {a0 a1 a2 a3 a4 a5 a6 a7 a8 a9 a10 a11 a12 a13 a14 a15 a16 a17 a18 a19 a20 a21 : Option V} {r : L2.St} : (tVar 22 (a0 :: a1 :: a2 :: a3 :: a4 :: a5 :: a6 :: a7 :: a8 :: a9 :: a10 :: a11 :: a12 :: a13 :: a14 :: a15 :: a16 :: a17 :: a18 :: a19 :: a20 :: a21 :: some v :: r) H Q) = (Q v H) := propext ⟨fun ⟨_, e, q⟩ => by cases e; exact q, fun q => ⟨v, rfl, q⟩⟩
theorem v23 {a0 a1 a2 a3 a4 a5 a6 a7 a8 a9 a10 a11 a12 a13 a14 a15 a16 a17 a18 a19 a20 a21 a22 : Option V} {r : L2.St} : (tVar 23 (a0 :: a1 :: a2 :: a3 :: a4 :: a5 :: a6 :: a7 :: a8 :: a9 :: a10 :: a11 :: a12 :: a13 :: a14 :: a15 :: a16 :: a17 :: a18 :: a19 :: a20 :: a21 :: a22 :: some v :: r) H Q) = (Q v H) := propext ⟨fun ⟨_, e, q⟩ => by cases e; exact q, fun q => ⟨v, rfl, q⟩⟩
theorem c0  : (tC v σ H Q) = (Q v H) := rfl
theorem seq  : (tSeq t u D σ H) = (t { D with nx := u D } σ H) := rfl
theorem asg  : (tAsg te g D σ H) = (te σ H fun x H1 => g x σ H1 D.nx) := rfl
theorem gnm {i : Nat} {QS : L2.St → Hp → Prop} : (gName i v σ H QS) = (QS (σ.set i (some v)) H) := rfl
theorem ret  : (tRet te D σ H) = (te σ H D.rt) := rfl
theorem retN  : (tRetN D σ H) = (D.rt .non H) := rfl
theorem drop  : (tDrop te D σ H) = (te σ H fun _ H1 => D.nx σ H1) := rfl
theorem nxt  : (tNext D σ H) = (D.nx σ H) := rfl
theorem brk  : (tBreak D σ H) = (D.bk σ H) := rfl
theorem cnt  : (tCont D σ H) = (D.ct σ H) := rfl
theorem ifs  : (tIfS c t u D σ H) = (c σ H fun b H1 => if b = true then t D σ H1 else u D σ H1) := rfl
theorem op  : (tOp r ta tb σ H Q) = (ta σ H fun x H1 => tb σ H1 fun y H2 => r x y H2 Q) := rfl
theorem un {f : V → Hp → VK → Prop} : (tUn f ta σ H Q) = (ta σ H fun x H1 => f x H1 Q) := rfl
theorem tst  : (tTest te σ H QB) = (te σ H fun x H1 => ∃ k, x = .bl k ∧ QB k H1) := rfl
theorem tbl  : (tB te σ H QB) = (te σ H fun x H1 => ∃ k, x = .bl k ∧ QB k H1) := rfl
theorem tand  : (tAnd c d σ H QB) = (c σ H fun b H1 => if b = true then d σ H1 QB else QB false H1) := rfl
theorem tor  : (tOr c d σ H QB) = (c σ H fun b H1 => if b = true then QB true H1 else d σ H1 QB) := rfl
theorem tnot  : (tNot c σ H QB) = (c σ H fun b H1 => QB (!b) H1) := rfl
theorem andv  : (tAndV ta tb σ H Q) = (ta σ H fun x H1 => ∃ b, x = .bl b ∧ if b = true then tb σ H1 Q else Q (.bl false) H1) := rfl
theorem orv  : (tOrV ta tb σ H Q) = (ta σ H fun x H1 => ∃ b, x = .bl b ∧ if b = true then Q (.bl true) H1 else tb σ H1 Q) := rfl
theorem notv  : (tNotV ta σ H Q) = (ta σ H fun x H1 => ∃ b, x = .bl b ∧ Q (.bl (!b)) H1) := rfl
theorem tif  : (tIf c ta tb σ H Q) = (c σ H fun b H1 => if b = true then ta σ H1 Q else tb σ H1 Q) := rfl
theorem tup  : (tTup tl σ H Q) = (tl σ H fun xs H1 => xs.length ≤ sizeLine ∧ ∀ p, H1 p = none → Q (.ref p) (upd H1 p (.tup xs))) := rfl
theorem lst  : (tLst tl σ H Q) = (tl σ H fun xs H1 => xs.length ≤ sizeLine ∧ ∀ p, H1 p = none → Q (.ref p) (upd H1 p (.lst xs))) := rfl
theorem nil  : (tNil σ H QA) = (QA [] H) := rfl
theorem cons  : (tCons ta tl σ H QA) = (ta σ H fun x H1 => tl σ H1 fun xs H2 => QA (x :: xs) H2) := rfl
theorem cal {sp : Sp} {dvs : List V} {E : XK} : (tCall sp dvs E tl σ H Q) = (tl σ H fun vs H1 => sp (vs ++ dvs) H1 Q E) := rfl
theorem calS {sp : Sp} {E : L2.St → XK} : (tCallS sp E tl σ H Q) = (tl σ H fun vs H1 => sp vs H1 Q (E σ)) := rfl
theorem cb {f : List V → Hp → VK → Prop} : (tCB f tl σ H Q) = (tl σ H fun vs H1 => f vs H1 Q) := rfl
theorem par {i j : Nat} : (tPar i j tl D σ H) = (tl σ H fun vs H1 => ∃ v w, vs = [v, w] ∧ D.nx ((σ.set i (some v)).set j (some w)) H1) := rfl
theorem gsub {ts : TSet} {QS : L2.St → Hp → Prop} : (gSub ta tb ts v σ H QS) = (ta σ H fun o H1 => tb σ H1 fun i H2 => ts o i v H2 fun H3 => QS σ H3) := rfl
theorem bits  : (tBits ta σ H Q) = (ta σ H fun x H1 => ∃ i, x = .int i ∧ Q (.int (Builtin.Int.intBits i : Nat)) H1) := rfl
theorem bm {T : String} {f : V → List V → Hp → VK → Prop} : (tBM K T f ta tl σ H Q) = (ta σ H fun x H1 => tyV K T x H1 ∧ tl σ H1 fun xs H2 => f x xs H2 Q) := rfl
theorem bm0 {T : String} {f : V → List V → Hp → VK → Prop} : (tBM0 K T f ta σ H Q) = (ta σ H fun x H1 => tyV K T x H1 ∧ f x [] H1 Q) := rfl
theorem ri {C : Int → Int → Prop} {f : Int → Int → V} {x y : V} : (rI C f x y H Q) = (∃ i j, x = .int i ∧ y = .int j ∧ C i j ∧ Q (f i j) H) := rfl
theorem ri0 {f : Int → Int → V} {x y : V} : (rI0 f x y H Q) = (∃ i j, x = .int i ∧ y = .int j ∧ Q (f i j) H) := rfl
theorem ru {f : Int → V} {x : V} : (rU f x H Q) = (∃ i, x = .int i ∧ Q (f i) H) := rfl
theorem req {x y : V} : (rEq x y H Q) = (scal x y = true ∧ Q (.bl (decide (x = y))) H) := rfl
theorem rne {x y : V} : (rNe x y H Q) = (scal x y = true ∧ Q (.bl (!decide (x = y))) H) := rfl
end

theorem sc_ii {i j : Int} : scal (.int i) (.int j) = true := rfl
theorem sc_bb {i j : Bool} : scal (.bl i) (.bl j) = true := rfl
theorem sc_ss {i j : Str} : scal (.str i) (.str j) = true := rfl
theorem atI0 {α : Type} {a0 : α} {r : List α} : atI (a0 :: r) 0 = some a0 := atI_nat (j := 0) rfl
theorem ixN0 {m : Nat} : ixN (m + 1) 0 = some 0 := by unfold ixN; rw [if_pos (by omega), if_pos (by omega)]; rfl
theorem atI1 {α : Type} {a0 a1 : α} {r : List α} : atI (a0 :: a1 :: r) 1 = some a1 := atI_nat (j := 1) rfl
theorem ixN1 {m : Nat} : ixN (m + 2) 1 = some 1 := by unfold ixN; rw [if_pos (by omega), if_pos (by omega)]; rfl
theorem atI2 {α : Type} {a0 a1 a2 : α} {r : List α} : atI (a0 :: a1 :: a2 :: r) 2 = some a2 := atI_nat (j := 2) rfl
theorem ixN2 {m : Nat} : ixN (m + 3) 2 = some 2 := by unfold ixN; rw [if_pos (by omega), if_pos (by omega)]; rfl
theorem atI3 {α : Type} {a0 a1 a2 a3 : α} {r : List α} : atI (a0 :: a1 :: a2 :: a3 :: r) 3 = some a3 := atI_nat (j := 3) rfl
theorem ixN3 {m : Nat} : ixN (m + 4) 3 = some 3 := by unfold ixN; rw [if_pos (by omega), if_pos (by omega)]; rfl
theorem atI4 {α : Type} {a0 a1 a2 a3 a4 : α} {r : List α} : atI (a0 :: a1 :: a2 :: a3 :: a4 :: r) 4 = some a4 := atI_nat (j := 4) rfl
theorem ixN4 {m : Nat} : ixN (m + 5) 4 = some 4 := by unfold ixN; rw [if_pos (by omega), if_pos (by omega)]; rfl
theorem atI5 {α : Type} {a0 a1 a2 a3 a4 a5 : α} {r : List α} : atI (a0 :: a1 :: a2 :: a3 :: a4 :: a5 :: r) 5 = some a5 := atI_nat (j := 5) rfl
theorem ixN5 {m : Nat} : ixN (m + 6) 5 = some 5 := by unfold ixN; rw [if_pos (by omega), if_pos (by omega)]; rfl
theorem atI6 {α : Type} {a0 a1 a2 a3 a4 a5 a6 : α} {r : List α} : atI (a0 :: a1 :: a2 :: a3 :: a4 :: a5 :: a6 :: r) 6 = some a6 := atI_nat (j := 6) rfl
theorem ixN6 {m : Nat} : ixN (m + 7) 6 = some 6 := by unfold ixN; rw [if_pos (by omega), if_pos (by omega)]; rfl
theorem atI7 {α : Type} {a0 a1 a2 a3 a4 a5 a6 a7 : α} {r : List α} : atI (a0 :: a1 :: a2 :: a3 :: a4 :: a5 :: a6 :: a7 :: r) 7 = some a7 := atI_nat (j := 7) rfl
theorem ixN7 {m : Nat} : ixN (m + 8) 7 = some 7 := by unfold ixN; rw [if_pos (by omega), if_pos (by omega)]; rfl
/-! ### heaps -/
theorem updI {H : Hp} {p q : Addr} {o : HO} (hp : H p = none) (hq : (H q).isSome = true) : upd H p o q = H q := by
  refine upd_ne fun e => ?_
  rw [e, hp] at hq
  cases hq
/-- the sequence at an address -/
def seqH : Option HO → Option (List V)
  | some (.tup xs) => some xs
  | some (.lst xs) => some xs
  | some (.frz _ (.lst xs)) => some xs
  | some (.frz _ (.tup xs)) => some xs
  | _ => none
theorem seqH_t {xs : List V} : seqH (some (.tup xs)) = some xs := rfl
theorem seqH_l {xs : List V} : seqH (some (.lst xs)) = some xs := rfl
theorem seqH_fl {o : Obj} {xs : List V} : seqH (some (.frz o (.lst xs))) = some xs := rfl
theorem seqH_or {K : PySem.W.Frag} {H : Hp} {a : Addr} {xs : List V} (h : seqH (H a) = some xs) : SqL K H a xs ∨ SqT K H a xs := by
  unfold seqH at h
  split at h
  · rename_i e
    cases h
    exact .inr (.inl (.inl e))
  · rename_i e
    cases h
    exact .inl (.inl (.inl e))
  · rename_i e
    cases h
    exact .inl (.inl (.inr ⟨_, e⟩))
  · rename_i e
    cases h
    exact .inr (.inl (.inr ⟨_, e⟩))
  · cases h
/-- x[i], a list or a tuple that H knows -/
def rIxH : R2 := fun x y H Q => ∃ p i xs v, x = .ref p ∧ y = .int i ∧ seqH (H p) = some xs ∧ atI xs i = some v ∧ Q v H
def rLenH : List V → Hp → VK → Prop := fun vs H Q => ∃ p xs, vs = [.ref p] ∧ seqH (H p) = some xs ∧ Q (.int xs.length) H
def rInH (neg : Bool) : R2 := fun x y H Q => ∃ p xs, y = .ref p ∧ seqH (H p) = some xs ∧ flatV x = true ∧ xs.all flatV = true ∧ Q (.bl (if neg then !inV x xs else inV x xs)) H
section
variable {X : Cx}
theorem ix_H : IxR X rIxH := by
  intro value slice pins s σ H x y v u Q I rx ry q hs
  obtain ⟨p, i, xs, w, e1, e2, h, a, q⟩ := q
  rcases seqH_or (K := X.K) h with h | h
  · exact ix_list value slice pins s σ H x y v u Q I rx ry ⟨p, xs, i, w, e1, e2, h, a, q⟩ hs
  · exact ix_tup value slice pins s σ H x y v u Q I rx ry ⟨p, xs, i, w, e1, e2, h, a, q⟩ hs
theorem len_H : CallR X (.builtin "len") rLenH := by
  intro pins s σ H xs us Q I r q
  obtain ⟨p, ys, e, h, q⟩ := q
  exact call_len_seq pins s σ H xs us Q I r ⟨p, ys, e, seqH_or h, q⟩
theorem in_H : OpR X (compareOp .In) (rInH false) := by
  intro pins s σ H x y v u Q I rx ry q
  obtain ⟨p, xs, e, h, a, b, q⟩ := q
  exact op_in_seq pins s σ H x y v u Q I rx ry ⟨p, xs, e, seqH_or h, a, b, q⟩
theorem notIn_H : OpR X (compareOp .NotIn) (rInH true) := by
  intro pins s σ H x y v u Q I rx ry q
  obtain ⟨p, xs, e, h, a, b, q⟩ := q
  exact op_notIn_seq pins s σ H x y v u Q I rx ry ⟨p, xs, e, seqH_or h, a, b, q⟩
end
section
variable {H : Hp} {Q : VK}
theorem rix {x y : V} : rIxH x y H Q = ∃ p i xs v, x = .ref p ∧ y = .int i ∧ seqH (H p) = some xs ∧ atI xs i = some v ∧ Q v H := rfl
theorem rixl {K : PySem.W.Frag} {x y : V} : rIxL K x y H Q = ∃ p xs i v, x = .ref p ∧ y = .int i ∧ SqL K H p xs ∧ atI xs i = some v ∧ Q v H := rfl
theorem rixt {K : PySem.W.Frag} {x y : V} : rIxT K x y H Q = ∃ p xs i v, x = .ref p ∧ y = .int i ∧ SqT K H p xs ∧ atI xs i = some v ∧ Q v H := rfl
theorem rlen {vs : List V} : rLenH vs H Q = ∃ p xs, vs = [.ref p] ∧ seqH (H p) = some xs ∧ Q (.int xs.length) H := rfl
theorem rin {b : Bool} {x y : V} : rInH b x y H Q = ∃ p xs, y = .ref p ∧ seqH (H p) = some xs ∧ flatV x = true ∧ xs.all flatV = true ∧ Q (.bl (if b then !inV x xs else inV x xs)) H := rfl
theorem rsetl {o i v : V} {QS : Hp → Prop} : rSetL o i v H QS = ∃ p xs k j, o = .ref p ∧ i = .int k ∧ H p = some (.lst xs) ∧ ixN xs.length k = some j ∧ QS (upd H p (.lst (xs.set j v))) := rfl
end
/-! ### a, b = a tuple -/
def gTupH (n : Nat) (t : TGs) : TG := fun v σ H Q => ∃ a xs, v = .ref a ∧ H a = some (.tup xs) ∧ xs.length = n ∧ t xs σ H Q
theorem pg_tupH {X : Cx} {pos : Pos} {es : List Expr} {k : Nat} {t : TGs} {n : Nat} (hc : X.calm = true) (h : PGs X es t) (hn : (assignEach es X.env).length = n := by rfl) (hst : (assignEach es X.env).findIdx? (·.1) = none := by rfl) : PG X (.Tuple es k pos) (gTupH n t) :=
  ⟨fun pins s σ H v u Q I r ⟨a, xs, e, ha, hl, q⟩ => (pg_tup hc h hn hst).run pins s σ H v u Q I r ⟨a, xs, e, .inl (.inl ha), hl, q⟩⟩
section
variable {n : Nat} {t : TG} {u : TGs} {v : V} {vs : List V} {σ : L2.St} {H : Hp} {Q : L2.St → Hp → Prop}
theorem gtup : gTupH n u v σ H Q = ∃ a xs, v = .ref a ∧ H a = some (.tup xs) ∧ xs.length = n ∧ u xs σ H Q := rfl
theorem gcons : gCons t u vs σ H Q = ∃ v r, vs = v :: r ∧ t v σ H fun σ' H' => u r σ' H' Q := rfl
theorem gnil : gNil vs σ H Q = (vs = [] ∧ Q σ H) := rfl
end
/-! ### isinstance -/
/-- the name of a value's type, where H tells it -/
def tyH (H : Hp) : V → Option String
  | .non => some "NoneType"
  | .bl _ => some "bool"
  | .int _ => some "int"
  | .str _ => some "str"
  | .ref a => match H a with
    | some (.lst _) => some "list"
    | some (.tup _) => some "tuple"
    | some (.dK _) => some "dict"
    | _ => none
  | _ => none
theorem tyH_ok {K : PySem.W.Frag} {H : Hp} {x : V} {t : String} (h : tyH H x = some t) : TyX K H x (.type t) := by
  cases x with
  | non => cases h; exact .base .non
  | bl b => cases h; exact .base (.bl b)
  | int i => cases h; exact .base (.int i)
  | str z => cases h; exact .base (.str z)
  | byt b => cases h
  | flt b => cases h
  | ty n => cases h
  | ref a =>
    unfold tyH at h
    dsimp only at h
    split at h
    · rename_i e; cases h; exact .base (.lst e)
    · rename_i e; cases h; exact .base (.tup e)
    · rename_i e; cases h; exact .base (.dK e)
    · cases h
def rIsiH : List V → Hp → VK → Prop := fun xs H Q => ∃ x T t b, xs = [x, .ty T] ∧ tyH H x = some t ∧ kitB t T = some b ∧ Q (.bl b) H
theorem isi_H {X : Cx} : CallR X (.builtin "isinstance") rIsiH := by
  intro pins s σ H xs us Q I r q
  obtain ⟨x, T, t, b, e, h, k, q⟩ := q
  exact call_isi pins s σ H xs us Q I r ⟨x, .ty T, .type t, .type T, b, e, .ty T, tyH_ok h, kit_ty k, q⟩
theorem risi {xs : List V} {H : Hp} {Q : VK} : rIsiH xs H Q = ∃ x T t b, xs = [x, .ty T] ∧ tyH H x = some t ∧ kitB t T = some b ∧ Q (.bl b) H := rfl
theorem tyH_n {H : Hp} : tyH H .non = some "NoneType" := rfl
theorem tyH_b {H : Hp} {b : Bool} : tyH H (.bl b) = some "bool" := rfl
theorem tyH_i {H : Hp} {i : Int} : tyH H (.int i) = some "int" := rfl
theorem tyH_s {H : Hp} {z : Str} : tyH H (.str z) = some "str" := rfl
theorem tyH_r {H : Hp} {a : Addr} : tyH H (.ref a) = (match H a with | some (.lst _) => some "list" | some (.tup _) => some "tuple" | some (.dK _) => some "dict" | _ => none) := rfl
theorem kb_NoneType_int : kitB "NoneType" "int" = some false := by decide +kernel
theorem kb_NoneType_bool : kitB "NoneType" "bool" = some false := by decide +kernel
theorem kb_NoneType_str : kitB "NoneType" "str" = some false := by decide +kernel
theorem kb_NoneType_list : kitB "NoneType" "list" = some false := by decide +kernel
theorem kb_NoneType_tuple : kitB "NoneType" "tuple" = some false := by decide +kernel
theorem kb_NoneType_dict : kitB "NoneType" "dict" = some false := by decide +kernel
theorem kb_bool_int : kitB "bool" "int" = some true := by decide +kernel
theorem kb_bool_bool : kitB "bool" "bool" = some true := by decide +kernel
theorem kb_bool_str : kitB "bool" "str" = some false := by decide +kernel
theorem kb_bool_list : kitB "bool" "list" = some false := by decide +kernel
theorem kb_bool_tuple : kitB "bool" "tuple" = some false := by decide +kernel
theorem kb_bool_dict : kitB "bool" "dict" = some false := by decide +kernel
theorem kb_int_int : kitB "int" "int" = some true := by decide +kernel
theorem kb_int_bool : kitB "int" "bool" = some false := by decide +kernel
theorem kb_int_str : kitB "int" "str" = some false := by decide +kernel
theorem kb_int_list : kitB "int" "list" = some false := by decide +kernel
theorem kb_int_tuple : kitB "int" "tuple" = some false := by decide +kernel
theorem kb_int_dict : kitB "int" "dict" = some false := by decide +kernel
theorem kb_str_int : kitB "str" "int" = some false := by decide +kernel
theorem kb_str_bool : kitB "str" "bool" = some false := by decide +kernel
theorem kb_str_str : kitB "str" "str" = some true := by decide +kernel
theorem kb_str_list : kitB "str" "list" = some false := by decide +kernel
theorem kb_str_tuple : kitB "str" "tuple" = some false := by decide +kernel
theorem kb_str_dict : kitB "str" "dict" = some false := by decide +kernel
theorem kb_list_int : kitB "list" "int" = some false := by decide +kernel
theorem kb_list_bool : kitB "list" "bool" = some false := by decide +kernel
theorem kb_list_str : kitB "list" "str" = some false := by decide +kernel
theorem kb_list_list : kitB "list" "list" = some true := by decide +kernel
theorem kb_list_tuple : kitB "list" "tuple" = some false := by decide +kernel
theorem kb_list_dict : kitB "list" "dict" = some false := by decide +kernel
theorem kb_tuple_int : kitB "tuple" "int" = some false := by decide +kernel
theorem kb_tuple_bool : kitB "tuple" "bool" = some false := by decide +kernel
theorem kb_tuple_str : kitB "tuple" "str" = some false := by decide +kernel
theorem kb_tuple_list : kitB "tuple" "list" = some false := by decide +kernel
theorem kb_tuple_tuple : kitB "tuple" "tuple" = some true := by decide +kernel
theorem kb_tuple_dict : kitB "tuple" "dict" = some false := by decide +kernel
theorem kb_dict_int : kitB "dict" "int" = some false := by decide +kernel
theorem kb_dict_bool : kitB "dict" "bool" = some false := by decide +kernel
theorem kb_dict_str : kitB "dict" "str" = some false := by decide +kernel
theorem kb_dict_list : kitB "dict" "list" = some false := by decide +kernel
theorem kb_dict_tuple : kitB "dict" "tuple" = some false := by decide +kernel
theorem kb_dict_dict : kitB "dict" "dict" = some true := by decide +kernel
/-! ### built-in calls in short -/
section
variable {X : Cx}
theorem call_intI : CallR X (.type "int") (fun xs H Q => ∃ i, xs = [.int i] ∧ Q (.int i) H) := by
  intro pins s σ H xs us Q I r q
  exact call_int1 pins s σ H xs us Q I r (.inl q)
theorem call_intB : CallR X (.type "int") (fun xs H Q => ∃ k, xs = [.bl k] ∧ Q (.int (if k then 1 else 0)) H) := by
  intro pins s σ H xs us Q I r q
  exact call_int1 pins s σ H xs us Q I r (.inr q)
/-- // by a divisor that is not 0 and below 2 ^ 9000 -/
def CDivWN (_ j : Int) : Prop := j ≠ 0 ∧ j.natAbs.log2 < 9000
theorem op_fdivWN : OpR X (binaryOp .FloorDiv) (rI CDivWN fun i j => .int (i.fdiv j)) := opI fun i j _ _ _ _ _ hc q =>
  PyProof.Rows.floordiv_int hc.1 q (.inl (PyProof.noPylong_of_log2 hc.2))
end
theorem cdivwn {i j : Int} {b : Nat} (h : j ≠ 0) (hb : j.natAbs < 2 ^ b) (h0 : 0 < b) (h9 : b ≤ 9000) : CDivWN i j := ⟨h, Nat.lt_of_lt_of_le (PySem.Flt.log2_lt_of h0 hb) h9⟩
theorem e0 {c : Value} {d : Option Addr} {H : Hp} : E0 c d H = False := rfl
theorem rgcd {vs : List V} {H : Hp} {Q : VK} : rGcd vs H Q = ∃ a b : Int, vs = [.int a, .int b] ∧ Q (.int ((Nat.gcd a.natAbs b.natAbs : Nat) : Int)) H := rfl
/-! ### defs by name -/
/-- the def st stands at the module's name x -/
def FunAt (K : PySem.W.Frag) (mg : Str → Option Value) (x : Str) (st : Stmt) : Prop := ∃ f fd, mg x = some (.ref f) ∧ Fun K x x st f fd
/-- the def at the module's name x keeps the promise sp -/
def Def (P : Program) (w : World) (K : PySem.W.Frag) (mg : Str → Option Value) (base : Heap) (CX : CXT) (k : Nat) (x : Str) (ps : List Str) (sp : Sp) : Prop :=
  ∃ f fd, mg x = some (.ref f) ∧ PySem.W.keepIn K (.ref f) = true ∧ Binds K fd ps [] ∧ FnOk P w K mg base CX k f fd ps sp
theorem Def.mono {P : Program} {w : World} {K : PySem.W.Frag} {mg : Str → Option Value} {base : Heap} {CX : CXT} {k j : Nat} {x : Str} {ps : List Str} {sp : Sp} (d : Def P w K mg base CX k x ps sp) (h : k ≤ j) : Def P w K mg base CX j x ps sp := by
  obtain ⟨f, fd, a, b, c, d⟩ := d
  exact ⟨f, fd, a, b, c, d.mono h⟩
section
variable {X : Cx} {CX : CXT} {k : Nat} {x : Str} {ps : List Str} {sp : Sp} {E : XK} {ES : L2.St → XK} {p pos : Pos} {e : Expr} {es : List Expr} {t : TA}
theorem pe_fn (F : Def X.prog X.w X.K X.mg X.base CX k x ps sp) (hr : Room k X.A) (hx : Passes CX X E) (ha : PA X (e :: es) t) (hg : Gl X x := by rfl)
    (hdb : (x == ("__debug__" : Str)) = false := by decide) (he : starEach (e :: es) X.env = (false, eval e X.env) :: starEach es X.env := by rfl) (hpl : (backTo pos (starEach es X.env)).any (·.1) = false := by rfl) :
    PE X (.Call (.Name x p) (e :: es) [] pos) (tCall sp [] E t) := by
  obtain ⟨f, fd, a, b, c, d⟩ := F
  exact pe_call d hr hg a b c .nil hx ha hdb he hpl
theorem pe_fn0 (F : Def X.prog X.w X.K X.mg X.base CX k x ps sp) (hr : Room k X.A) (hx : Passes CX X E) (hg : Gl X x := by rfl) (hdb : (x == ("__debug__" : Str)) = false := by decide) : PE X (.Call (.Name x p) [] [] pos) (tCall sp [] E tNil) := by
  obtain ⟨f, fd, a, b, c, d⟩ := F
  exact pe_call0 d hr hg a b c .nil hx hdb
theorem pe_fnS (F : Def X.prog X.w X.K X.mg X.base CX k x ps sp) (hr : Room k X.A) (hx : ∀ σ, PassesAt CX X σ (ES σ)) (ha : PA X (e :: es) t) (hg : Gl X x := by rfl)
    (hdb : (x == ("__debug__" : Str)) = false := by decide) (he : starEach (e :: es) X.env = (false, eval e X.env) :: starEach es X.env := by rfl) (hpl : (backTo pos (starEach es X.env)).any (·.1) = false := by rfl) :
    PE X (.Call (.Name x p) (e :: es) [] pos) (tCallS sp ES t) := by
  obtain ⟨f, fd, a, b, c, d⟩ := F
  exact pe_callS d hr hg a b c hx ha hdb he hpl
end
section
variable {P : Program} {w : World} {K : PySem.W.Frag} {mg : Str → Option Value} {base : Heap}
theorem FunAt.ok {x : Str} {st : Stmt} {N ps : List Str} {k : Nat} {sp : Sp} (F : FunAt K mg x st) (S : FnScope N ps (defScope st))
    (hb : ∀ (kV doc pm : Value) (an : Option Addr) (cdv ct : Value) (us : List Value), us.length = ps.length → bindArgs (PySem.W.fnOf x x (defArgs st) (defBody st) (defScope st) .none kV doc pm an cdv ct) ⟨us, []⟩ = pure (ps.zip us))
    (len : ∀ vs H Q E, sp vs H Q E → vs.length = ps.length)
    (hbody : ∀ (f : Addr) (cdv : Value) (A : Around) (outer : List Env) (s : Shared) (H : Hp) (vs : List V) (Q : VK) (E : XK), Room k (A.deeper (envOfC x (defScope st) s.heap.objs.size f cdv)) → sp vs H Q E →
      ∃ t, PSs (cxOf CX0 P w K mg base N x (defScope st) f cdv A outer s H E).nox (defBody st) t ∧ t { nx := fun _ H' => Q .non H', rt := Q } (start N vs) H) : Def P w K mg base CX0 (k + 1) x ps sp := by
  obtain ⟨f, fd, a, F⟩ := F
  exact ⟨f, fd, a, F.kp, F.binds hb, F.ok S len fun cdv A outer s H vs Q E hr h => hbody f cdv A outer s H vs Q E hr h⟩
theorem FunAt.okX {x : Str} {st : Stmt} {N ps : List Str} {k : Nat} {sp : Sp} (F : FunAt K mg x st) (S : FnScope N ps (defScope st))
    (hb : ∀ (kV doc pm : Value) (an : Option Addr) (cdv ct : Value) (us : List Value), us.length = ps.length → bindArgs (PySem.W.fnOf x x (defArgs st) (defBody st) (defScope st) .none kV doc pm an cdv ct) ⟨us, []⟩ = pure (ps.zip us))
    (len : ∀ vs H Q E, sp vs H Q E → vs.length = ps.length)
    (hbody : ∀ (f : Addr) (cdv : Value) (A : Around) (outer : List Env) (s : Shared) (H : Hp) (vs : List V) (Q : VK) (E : XK), Room k (A.deeper (envOfC x (defScope st) s.heap.objs.size f cdv)) → sp vs H Q E →
      ∃ t, PSs (cxOf (L2.CX P w) P w K mg base N x (defScope st) f cdv A outer s H E) (defBody st) t ∧ t { nx := fun _ H' => Q .non H', rt := Q } (start N vs) H) : Def P w K mg base (L2.CX P w) (k + 1) x ps sp := by
  obtain ⟨f, fd, a, F⟩ := F
  exact ⟨f, fd, a, F.kp, F.binds hb, F.okX S len fun cdv A outer s H vs Q E hr h => hbody f cdv A outer s H vs Q E hr h⟩
theorem funAt_mk {x : Str} {st : Stmt} {h : Heap} {f : Addr} {oc : Value} {od an : Option Addr} {osl : Array (Option Value)} {kV doc pm cdv ct : Value} (X : K.In h) (G : h.Ns mainGlobals mg) (a : PySem.W.nsIn K mainGlobals x = some (some (.ref f)))
    (l : K.lookup f = some ⟨oc, od, .func (PySem.W.fnOf x x (defArgs st) (defBody st) (defScope st) .none kV doc pm an cdv ct), osl⟩)
    (c : PySem.W.codeIn K cdv x = true) (k : PySem.W.keepIn K (.ref f) = true) : FunAt K mg x st := ⟨f, _, PySem.W.mg_of X G a, fun_mk (st := st) l c k⟩
end
/-! ### joining of ways -/
section
variable {X : Cx}
/-- a statement, then the rest, with a word between them: what follows is shown once, from Mid -/
def tCut (t u : TS) : TS := fun D σ H => ∃ Mid : L2.St → Hp → Prop, t { D with nx := Mid } σ H ∧ ∀ σ' H', Mid σ' H' → u D σ' H'
theorem pcut {st : Stmt} {rest : List Stmt} {t u : TS} (h1 : PS X st t) (h2 : PSs X rest u) : PSs X (st :: rest) (tCut t u) := by
  refine ⟨fun pins s σ H D I h => ?_⟩
  obtain ⟨Mid, hm, hu⟩ := h
  refine wpAny_execs_cons (thn (h1.run pins s σ H { D with nx := Mid } I hm) fun f s1 q => ?_)
  cases f with
  | next =>
    obtain ⟨σ', H', I', q⟩ := q
    exact h2.run pins s1 σ' H' D I' (hu σ' H' q)
  | ret v => exact q
  | brk => exact q
  | cont => exact q
theorem go_cut {t u : TS} {D : Ends} {σ : L2.St} {H : Hp} (Mid : L2.St → Hp → Prop) (h : t { D with nx := Mid } σ H) (k : ∀ σ' H', Mid σ' H' → u D σ' H') : tCut t u D σ H := ⟨Mid, h, k⟩
end
theorem mg_at {K : PySem.W.Frag} {h : Heap} {mg : Str → Option Value} {x : Str} {v : Value} (X : K.In h) (G : h.Ns mainGlobals mg) (a : PySem.W.nsIn K mainGlobals x = some (some v)) : mg x = some v := PySem.W.mg_of X G a
/-! ### loops -/
section
variable {σ : L2.St} {H : Hp} {D : Ends} {ta : TA} {tb : TS} {j : Nat}
theorem go_seq {t u : TS} (h : t { D with nx := u D } σ H) : tSeq t u D σ H := h
/-- an if: both ways from the same place -/
theorem go_if {c : Prop} [Decidable c] {A B : Prop} (h1 : c → A) (h2 : ¬ c → B) : if c then A else B := by
  by_cases h : c
  · rw [if_pos h]
    exact h1 h
  · rw [if_neg h]
    exact h2 h
/-- for x in range(n) -/
theorem for_r1 (Pv : Nat → L2.St → Hp → Prop) (n : Int) (e : ∀ Q : List V → Hp → Prop, Q [.int n] H → ta σ H Q) (hn : -(2 ^ 62) ≤ n ∧ n < 2 ^ 62) (h0 : Pv 0 σ H)
    (hs : ∀ (i : Nat) σ H, (i : Int) < n → Pv i σ H → tb { D with nx := Pv (i + 1), ct := Pv (i + 1), bk := D.nx } (σ.set j (some (.int (i : Int)))) H) (hd : ∀ σ H, Pv n.toNat σ H → D.nx σ H) : tFor (iRng1 ta) (gName j) tb D σ H := by
  refine e _ ?_
  refine ⟨n, rfl, hn.1, hn.2, for_range (lo := 0) (n := n.toNat) Pv h0 (fun i σ' H' hi p => ?_) hd⟩
  have q := hs i σ' H' (by omega) p
  have e0 : (0 : Int) + (i : Int) = (i : Int) := Int.zero_add _
  show tb _ (σ'.set j (some (.int ((0 : Int) + (i : Int))))) H'
  rw [e0]
  exact q
end
section
variable {K : PySem.W.Frag} {c cls : Value} {d : Option Addr} {ts : Addr → Value → Option Addr → TS} {Wout W : WX} {D : Ends} {σ : L2.St} {H : Hp} {i : Nat}
theorem we : WE W σ cls d H = W cls d σ H := rfl
theorem wonly : wOnly K c ts Wout D cls d σ H = ∃ b, PySem.W.exmOne K cls c = some b ∧ (b = true → ∀ a, H a = none → ts a cls d D σ H) ∧ (b = false → Wout cls d σ H) := rfl
theorem was : wAs K c i ts Wout D cls d σ H = ∃ b, PySem.W.exmOne K cls c = some b ∧ (b = true → ∀ a, H a = none → ts a cls d { nx := fun σ' H' => D.nx (σ'.set i none) H', rt := D.rt, bk := fun σ' H' => D.bk (σ'.set i none) H', ct := fun σ' H' => D.ct (σ'.set i none) H' } (σ.set i (some (.ref a))) H) ∧ (b = false → Wout cls d σ H) := rfl
end
theorem cxK {CX : CXT} {P : Program} {w : World} {K : PySem.W.Frag} {mg : Str → Option Value} {base : Heap} {N : List Str} {qual : Str} {scope : Scope} {f : Addr} {cd : Value} {A : Around} {outer : List Env} {s : Shared} {H : Hp} {E : XK} :
  (cxOf CX P w K mg base N qual scope f cd A outer s H E).K = K := rfl
/-! ### which class is which -/
section
variable {K : PySem.W.Frag} {D C : Addr} {t : Value} {b : Bool}
theorem kcls_ref (h1 : PySem.W.isClsIn K C = true) (h2 : PySem.W.typeIn K (.ref C) = some (.type "type")) (h3 : PySem.W.subIn K t (.ref C) = some b) : PySem.W.kitCls K t (.ref C) = some b := by
  have h1' : (PySem.W.clsIn K C).isSome = true := h1
  have e : ((PySem.W.clsIn K C).isSome && PySem.W.typeIn K (.ref C) == some (.type "type")) = true := by rw [h1', h2] <;> rfl
  show (if ((PySem.W.clsIn K C).isSome && PySem.W.typeIn K (.ref C) == some (.type "type")) = true then PySem.W.subIn K t (.ref C) else none) = some b
  rw [if_pos e]
  exact h3
theorem kit_ref (h1 : PySem.W.isClsIn K C = true) (h2 : PySem.W.typeIn K (.ref C) = some (.type "type")) (h3 : PySem.W.subIn K (.ref D) (.ref C) = some b) (hn : ¬ D = C) : PySem.W.kitOne K (.ref D) (.ref C) = some b := by
  have e : (Value.ref D == Value.ref C) = false := by
    refine beq_eq_false_iff_ne.mpr fun q => hn ?_
    injection q
  show (if (Value.ref D == Value.ref C) = true then some true else PySem.W.kitCls K (.ref D) (.ref C)) = some b
  rw [e, if_neg Bool.false_ne_true]
  exact kcls_ref h1 h2 h3
theorem kit_self : PySem.W.kitOne K (.ref D) (.ref D) = some true := by
  show (if (Value.ref D == Value.ref D) = true then some true else PySem.W.kitCls K (.ref D) (.ref D)) = some true
  rw [if_pos (beq_self_eq_true _)]
theorem kit_type {T : String} (h1 : PySem.W.kitMeta T = true) (h3 : PySem.W.subIn K (.ref D) (.type T) = some b) : PySem.W.kitOne K (.ref D) (.type T) = some b := by
  show (if PySem.W.kitMeta T = true then PySem.W.subIn K (.ref D) (.type T) else none) = some b
  rw [if_pos h1]
  exact h3
theorem kits_nil : PySem.W.kitAny K t [] = some false := rfl
theorem kits_no {c : Value} {r : List Value} (h : PySem.W.kitOne K t c = some false) (k : PySem.W.kitAny K t r = some b) : PySem.W.kitAny K t (c :: r) = some b := by
  unfold PySem.W.kitAny
  rw [h]
  exact k
theorem kits_yes {c : Value} {r : List Value} (h : PySem.W.kitOne K t c = some true) : PySem.W.kitAny K t (c :: r) = some true := by
  unfold PySem.W.kitAny
  rw [h]
theorem exm_of (hb : PySem.W.subIn K (.ref C) (.type "BaseException") = some true) (h1 : PySem.W.isClsIn K C = true) (h2 : PySem.W.typeIn K (.ref C) = some (.type "type")) (h3 : PySem.W.subIn K t (.ref C) = some b) : PySem.W.exmOne K t (.ref C) = some b := by
  have e : (PySem.W.subIn K (.ref C) (.type "BaseException") == some true) = true := by rw [hb] <;> rfl
  show (if (PySem.W.subIn K (.ref C) (.type "BaseException") == some true) = true then PySem.W.kitCls K t (.ref C) else none) = some b
  rw [if_pos e]
  exact kcls_ref h1 h2 h3
end
/-! ### exceptions of the program's own, without an __init__ -/
/-- what K says of the class at the module's name x -/
structure Exc0 (K : PySem.W.Frag) (mg : Str → Option Value) (x : Str) (C : Addr) : Prop where
  g : mg x = some (.ref C)
  q : PySem.W.excIn K C [.type "ValueError", .type "Exception", .type "BaseException", .type "object"] "ValueError.__new__" = true
  k : PySem.W.keepIn K (.ref C) = true
  b : PySem.W.subIn K (.ref C) (.type "BaseException") = some true
  t : PySem.W.typeIn K (.ref C) = some (.type "type")
section
variable {X : Cx} {C : Addr} {x : Str} {p pos : Pos}
theorem pe_globR (hg : Gl X x) (hm : X.mg x = some (.ref C)) (hdb : (x == ("__debug__" : Str)) = false := by decide) : PE X (.Name x pos) (tC (.ref C)) := pe_glob (u := .ref C) (v := .ref C) hg hm (show Value.ref C = Value.ref C from rfl) hdb
/-- X() -/
theorem pmk_own0 (c : Exc0 X.K X.mg x C) (hg : Gl X x := by rfl) (hdb : (x == ("__debug__" : Str)) = false := by decide) : PMk X (.Call (.Name x p) [] [] pos) (fun _ H Q => Q (.ref C) none H) := by
  intro pins s σ H Q I h
  refine wpAny_Call_Name_kw (ld_glob I hg c.g ?_ hdb)
  refine PySem.W.callWith_K0 I.kIn c.k ?_
  show wpAny _ _ (call (.ref C) []) _ _ _
  obtain ⟨bm, N, nm, qn, bs, hdct, sn, sub, ab, col, dd, k0, k1, k2, k3, k5, mN, hC, hN, hni, T⟩ := exc_obj I.kIn c.q
  obtain ⟨hp1, g1, d1, tk1, os1⟩ := s
  exact wpAny_call_exc_subT PySem.F.excBase_ValueError T hC hN hni (fun h' e hm => mk_of I hm (raises_own c.b c.t) h (I.hok.gone hm.new)) (Nat.zero_le _)
/-- isinstance(e, c) and isinstance(e, (c, ..)), e the exception that the suite holds, of an own class -/
def rIsEx (K : PySem.W.Frag) (cls : Value) (d : Option Addr) (a : Addr) : List V → Hp → VK → Prop := fun xs H Q => ∃ (D : Addr) (us : List Value) (b : Bool), cls = .ref D ∧ d = none ∧ ExcC K D ∧ PySem.W.kitAny K (.ref D) us = some b ∧
  ((∃ c u, xs = [.ref a, c] ∧ us = [u] ∧ ClsV c u) ∨ ∃ tp cs, xs = [.ref a, .ref tp] ∧ H tp = some (.tup cs) ∧ Paired ClsV cs us) ∧ Q (.bl b) H
theorem call_isEx {a : Addr} {oe : Obj} {cls : Value} {d : Option Addr} {pn : List (Addr × Obj)} (hz : Zc cls d oe) (hf : ∃ vs, oe.data = .fields vs) : CallR (X.suite a ((a, oe) :: pn)) (.builtin "isinstance") (rIsEx X.K cls d a) := by
  intro pins s σ H xs us Q I r h
  obtain ⟨D, ws, b, rfl, rfl, C, e, h, q⟩ := h
  obtain ⟨hget, _⟩ := I.pin (a, oe) (List.mem_append.mpr (.inl List.mem_cons_self))
  obtain ⟨vs, hv⟩ := hf
  have J : PySem.W.InstAt s.heap a oe D none := by
    obtain ⟨oc, od, oda, osl⟩ := oe
    obtain ⟨h1, h2⟩ := hz
    dsimp only at h1 h2 hv
    subst h1 h2 hv
    exact ⟨hget, rfl, rfl, trivial⟩
  have Z := PySem.W.handS_kitx_exc (x := a) (ox := oe) C.hg C.hk C.hs C.hd C.ha C.hn C.ht C.hm
  rcases h with ⟨c, u, rfl, rfl, k⟩ | ⟨tp, cs, rfl, hT, k⟩
  · obtain ⟨u1, u2, rfl, r1, r2⟩ := vals2 r
    cases (show u1 = Value.ref a from r1)
    have e2 := k.eq r2
    subst e2
    have e3 : PySem.W.kitOne X.K (.ref D) u2 = some b := by
      unfold PySem.W.kitAny at e
      cases e4 : PySem.W.kitOne X.K (.ref D) u2 with
      | none => rw [e4] at e; cases e
      | some b' =>
        rw [e4] at e
        cases b' with
        | true => exact e
        | false => exact e
    exact PySem.W.kia_one Z I.kIn J e3 (fun z => nomatch z) fun tk => ⟨.bl b, H, I.kept (t' := tk) fun _ _ z => z, rfl, q⟩
  · obtain ⟨u1, u2, rfl, r1, r2⟩ := vals2 r
    cases (show u1 = Value.ref a from r1)
    cases (show u2 = Value.ref tp from r2)
    obtain ⟨_, its, rv, o, h1, h2, n, h3⟩ := (show ObjOk X.prog X.w H s.heap tp (.tup cs) from I.hok tp _ hT)
    have e3 := ClsV.all k rv
    subst e3
    obtain ⟨oc, od, dt, sl⟩ := o
    simp only at h2 h3
    subst h2 h3
    exact PySem.W.kia_tup Z I.kIn J h1 e (fun z => nomatch z) fun tk => ⟨.bl b, H, I.kept (t' := tk) fun _ _ z => z, rfl, q⟩
end
theorem ris {K : PySem.W.Frag} {cls : Value} {d : Option Addr} {a : Addr} {xs : List V} {H : Hp} {Q : VK} : rIsEx K cls d a xs H Q = ∃ (D : Addr) (us : List Value) (b : Bool), cls = .ref D ∧ d = none ∧ ExcC K D ∧ PySem.W.kitAny K (.ref D) us = some b ∧
  ((∃ c u, xs = [.ref a, c] ∧ us = [u] ∧ ClsV c u) ∨ ∃ tp cs, xs = [.ref a, .ref tp] ∧ H tp = some (.tup cs) ∧ Paired ClsV cs us) ∧ Q (.bl b) H := rfl
end Px

namespace Px
open PySem PySem.Spec PyProof.Rows L2
/-! ### heaps -/
/-- all that is known stands -/
abbrev Ext (H H' : Hp) : Prop := ∀ q, (H q).isSome = true → H' q = H q
/-- all but p stands -/
abbrev But (p : Addr) (H H' : Hp) : Prop := ∀ q, q ≠ p → (H q).isSome = true → H' q = H q
def isT : Option HO → Bool
  | some (.tup _) => true
  | _ => false
def isL : Option HO → Bool
  | some (.lst _) => true
  | _ => false
def isD : Option HO → Bool
  | some (.dK _) => true
  | _ => false
theorem isT_t {xs : List V} : isT (some (.tup xs)) = true := rfl
theorem isL_l {xs : List V} : isL (some (.lst xs)) = true := rfl
theorem isD_d {xs : List (Key × V)} : isD (some (.dK xs)) = true := rfl
theorem isT_l {xs : List V} : isT (some (.lst xs)) = false := rfl
theorem isL_t {xs : List V} : isL (some (.tup xs)) = false := rfl
theorem isT_d {xs : List (Key × V)} : isT (some (.dK xs)) = false := rfl
theorem isT_some {o : Option HO} (h : isT o = true) : ∃ xs, o = some (.tup xs) := by
  unfold isT at h
  split at h
  · exact ⟨_, rfl⟩
  · cases h
/-- tuples stand -/
abbrev Tu (H H' : Hp) : Prop := ∀ q, isT (H q) = true → H' q = H q
theorem isT_isSome {o : Option HO} (h : isT o = true) : o.isSome = true := by
  obtain ⟨xs, rfl⟩ := isT_some h
  rfl
theorem Ext.tu {H H' : Hp} (e : Ext H H') : Tu H H' := fun q h => e q (isT_isSome h)
theorem Tu.rfl' (H : Hp) : Tu H H := fun _ _ => rfl
theorem Tu.trans {H H1 H2 : Hp} (a : Tu H H1) (b : Tu H1 H2) : Tu H H2 := fun q hq => by
  have h1 := a q hq
  rw [b q (by rw [h1]; exact hq), h1]
theorem Tu.get {H H1 : Hp} {a : Addr} {xs : List V} (e : Tu H H1) (h : H a = some (.tup xs)) : H1 a = some (.tup xs) := by rw [e a (by rw [h]; rfl), h]
theorem Tu.new {H H' : Hp} {p : Addr} {o : HO} (e : Tu H H') (hp : H' p = none) : Tu H (upd H' p o) := fun q hq => by
  have h1 := e q hq
  rw [updI hp (by rw [h1]; exact isT_isSome hq), h1]
theorem Tu.mut {H H' : Hp} {p : Addr} {o : HO} (e : Tu H H') (hp : isT (H' p) = false) : Tu H (upd H' p o) := fun q hq => by
  have h1 := e q hq
  have hn : q ≠ p := fun z => by
    rw [← z, h1, hq] at hp
    cases hp
  rw [upd_ne hn, h1]
theorem But.tu {p : Addr} {H H' : Hp} (e : But p H H') (hp : isT (H p) = false) : Tu H H' := fun q h => e q (fun z => by rw [z, hp] at h; cases h) (isT_isSome h)
theorem Ext.new {H H' : Hp} {p : Addr} {o : HO} (e : Ext H H') (hp : H' p = none) : Ext H (upd H' p o) := fun q hq => by
  have h1 := e q hq
  rw [updI hp (by rw [h1]; exact hq), h1]
theorem But.new {a : Addr} {H H' : Hp} {p : Addr} {o : HO} (e : But a H H') (hp : H' p = none) : But a H (upd H' p o) := fun q ha hq => by
  have h1 := e q ha hq
  rw [updI hp (by rw [h1]; exact hq), h1]
theorem But.mut {a : Addr} {H H' : Hp} {o : HO} (e : But a H H') : But a H (upd H' a o) := fun q ha hq => by
  rw [upd_ne ha]
  exact e q ha hq
/-- what H does not know may change -/
theorem Ext.mut {H H' : Hp} {p : Addr} {o : HO} (e : Ext H H') (hp : H p = none) : Ext H (upd H' p o) := fun q hq => by
  have hn : q ≠ p := fun z => by rw [z, hp] at hq; cases hq
  rw [upd_ne hn]
  exact e q hq
theorem Ext.trans {H H1 H2 : Hp} (a : Ext H H1) (b : Ext H1 H2) : Ext H H2 := fun q hq => by
  have h1 := a q hq
  rw [b q (by rw [h1]; exact hq), h1]
theorem But.trans {p : Addr} {H H1 H2 : Hp} (a : But p H H1) (b : But p H1 H2) : But p H H2 := fun q hp hq => by
  have h1 := a q hp hq
  rw [b q hp (by rw [h1]; exact hq), h1]
theorem But.of {p : Addr} {H H1 : Hp} (a : Ext H H1) : But p H H1 := fun q _ hq => a q hq
theorem Ext.get {H H1 : Hp} {a : Addr} {o : HO} (e : Ext H H1) (h : H a = some o) : H1 a = some o := by rw [e a (by rw [h]; rfl), h]
theorem But.get {p : Addr} {H H1 : Hp} {a : Addr} {o : HO} (e : But p H H1) (n : a ≠ p) (h : H a = some o) : H1 a = some o := by rw [e a n (by rw [h]; rfl), h]
theorem Ext.rfl' (H : Hp) : Ext H H := fun _ _ => rfl
theorem But.rfl' (p : Addr) (H : Hp) : But p H H := fun _ _ _ => rfl
theorem Ext.no {H H1 : Hp} {a : Addr} (e : Ext H H1) (h : H1 a = none) : H a = none := by
  cases q : H a with
  | none => rfl
  | some o => rw [e.get q] at h; cases h
theorem But.no {p : Addr} {H H1 : Hp} {a : Addr} (e : But p H H1) (n : a ≠ p) (h : H1 a = none) : H a = none := by
  cases q : H a with
  | none => rfl
  | some o => rw [e.get n q] at h; cases h
theorem Ext.but {p : Addr} {H H1 H2 : Hp} (a : Ext H H1) (hp : H p = none) (b : But p H1 H2) : Ext H H2 := fun q hq => by
  have h1 := a q hq
  rw [b q (fun e => by rw [e, hp] at hq; cases hq) (by rw [h1]; exact hq), h1]
theorem But.mut0 {a p : Addr} {H H' : Hp} {o : HO} (e : But a H H') (hp : H p = none) : But a H (upd H' p o) := fun q ha hq => by
  have hn : q ≠ p := fun z => by rw [z, hp] at hq; cases hq
  rw [upd_ne hn]
  exact e q ha hq
theorem SqLext {K : PySem.W.Frag} {H H' : Hp} {a : Addr} {xs : List V} (e : Ext H H') (h : SqL K H a xs) : SqL K H' a xs := by
  rcases h with (h | ⟨o, h⟩) | h
  · exact .inl (.inl (e.get h))
  · exact .inl (.inr ⟨o, e.get h⟩)
  · exact .inr h
theorem ne_nt {H : Hp} {a p : Addr} {xs : List V} (h : H a = some (.tup xs)) (hp : isT (H p) = false) : a ≠ p := fun e => by
  rw [e] at h
  rw [h] at hp
  cases hp
theorem ne_some_none {H : Hp} {a p : Addr} (h : (H a).isSome = true) (hp : H p = none) : a ≠ p := fun e => by
  rw [e, hp] at h
  cases h
/-- a pool at p -/
def Pool (H : Hp) (p : Addr) : Prop := ∃ (c k : Int) (b : Bool) (s : Int), H p = some (.lst [.int c, .int k, .bl b, .int s])
theorem Pool.new {H : Hp} {p q : Addr} {o : HO} (h : Pool H p) (hq : H q = none) : Pool (upd H q o) p := by
  obtain ⟨c, k, b, s, h⟩ := h
  exact ⟨c, k, b, s, by rw [updI hq (by rw [h]; rfl), h]⟩
theorem Pool.ext {H H' : Hp} {p : Addr} (h : Pool H p) (e : Ext H H') : Pool H' p := by
  obtain ⟨c, k, b, s, h⟩ := h
  exact ⟨c, k, b, s, e.get h⟩
theorem Pool.but {H H' : Hp} {p q : Addr} (h : Pool H p) (e : But q H H') (n : p ≠ q) : Pool H' p := by
  obtain ⟨c, k, b, s, h⟩ := h
  exact ⟨c, k, b, s, e.get n h⟩
theorem Pool.nt {H : Hp} {p : Addr} (h : Pool H p) : isT (H p) = false := by
  obtain ⟨c, k, b, s, h⟩ := h
  rw [h]
  rfl
theorem Pool.isSome {H : Hp} {p : Addr} (h : Pool H p) : (H p).isSome = true := by
  obtain ⟨c, k, b, s, h⟩ := h
  rw [h]
  rfl
theorem Pool.ne {H : Hp} {p q : Addr} {xs : List V} (h : Pool H p) (hq : H q = some (.tup xs)) : q ≠ p := ne_nt hq h.nt
theorem Pool.ne0 {H : Hp} {p q : Addr} (h : Pool H p) (hq : H q = none) : q ≠ p := fun e => by
  have := h.isSome
  rw [← e, hq] at this
  cases this
def spTake (vs : List V) (H : Hp) (Q : VK) (_ : XK) : Prop := ∃ (p : Addr) (n : Int), vs = [.ref p, .int n] ∧ Pool H p ∧ (0 < n ∧ n < 1000000000) ∧ ∀ v H', 0 ≤ v → v < n → Pool H' p → But p H H' → Tu H H' → Q (.int v) H'
def spPool (K : PySem.W.Frag) (vs : List V) (H : Hp) (Q : VK) (_ : XK) : Prop := ∃ (a : Addr) (ns : List Int) (k : Nat), vs = [.ref a, .int (k : Int)] ∧ SqL K H a (ns.map V.int) ∧ k < 1000 ∧ ∀ p H', H p = none → Pool H' p → Ext H H' → Q (.ref p) H'
theorem cmul_mod {x y m : Int} (h0 : 0 < m) (h1 : m ≤ 2 ^ 64) : CMul (x % m) y := by
  have a := Int.emod_nonneg x (Int.ne_of_gt h0)
  have b := Int.emod_lt_of_pos x h0
  exact .inl ⟨by omega, by omega⟩
theorem cmul_lit {x y : Int} (h0 : 0 ≤ x) (h1 : x < 2 ^ 64) : CMul x y := .inl ⟨by omega, by omega⟩
theorem cmul_sm {x y : Int} (h0 : -(2 ^ 64) < x) (h1 : x < 2 ^ 64) : CMul x y := .inl ⟨h0, h1⟩
theorem cmul_sm2 {x y : Int} (h0 : -(2 ^ 64) < y) (h1 : y < 2 ^ 64) : CMul x y := .inr ⟨h0, h1⟩
/-! ### data that never changes: numbers, texts, tuples of such -/
mutual
inductive Dt (H : Hp) : V → PyData → Prop
  | non : Dt H .non .none
  | bl (b : Bool) : Dt H (.bl b) (.bool b)
  | int (i : Int) : Dt H (.int i) (.int i)
  | str (x : Str) : Dt H (.str x) (.str x)
  | tup {a : Addr} {xs : List V} {ds : List PyData} : H a = some (.tup xs) → DtAll H xs ds → Dt H (.ref a) (.tuple ds)
inductive DtAll (H : Hp) : List V → List PyData → Prop
  | nil : DtAll H [] []
  | cons {v : V} {vs : List V} {d : PyData} {ds : List PyData} : Dt H v d → DtAll H vs ds → DtAll H (v :: vs) (d :: ds)
end
mutual
theorem Dt.mono {H H' : Hp} (e : Tu H H') : ∀ {v : V} {d : PyData}, Dt H v d → Dt H' v d
  | _, _, .non => .non
  | _, _, .bl b => .bl b
  | _, _, .int i => .int i
  | _, _, .str x => .str x
  | _, _, .tup h a => .tup (e.get h) (DtAll.mono e a)
theorem DtAll.mono {H H' : Hp} (e : Tu H H') : ∀ {vs : List V} {ds : List PyData}, DtAll H vs ds → DtAll H' vs ds
  | _, _, .nil => .nil
  | _, _, .cons h a => .cons (Dt.mono e h) (DtAll.mono e a)
end
mutual
theorem Dt.dp {K : PySem.W.Frag} {H : Hp} : ∀ {v : V} {d : PyData}, Dt H v d → Dp K H v d
  | _, _, .non => .non
  | _, _, .bl b => .bl b
  | _, _, .int i => .int i
  | _, _, .str x => .str x
  | _, _, .tup h a => .tup (.inl (.inl h)) (DtAll.dp a)
theorem DtAll.dp {K : PySem.W.Frag} {H : Hp} : ∀ {vs : List V} {ds : List PyData}, DtAll H vs ds → DpAll K H vs ds
  | _, _, .nil => .nil
  | _, _, .cons h a => .cons (Dt.dp h) (DtAll.dp a)
end
theorem DtAll.len {H : Hp} : ∀ {vs : List V} {ds : List PyData}, DtAll H vs ds → vs.length = ds.length
  | _, _, .nil => rfl
  | _, _, .cons _ a => by rw [List.length_cons, List.length_cons, a.len]
theorem DtAll.get {H : Hp} : ∀ {vs : List V} {ds : List PyData} {i : Nat} {v : V}, DtAll H vs ds → vs[i]? = some v → ∃ d, ds[i]? = some d ∧ Dt H v d
  | _, _, 0, _, .cons h _, e => by cases e; exact ⟨_, rfl, h⟩
  | _, _, i + 1, _, .cons _ a, e => DtAll.get (i := i) a e
  | _, _, _, _, .nil, e => by simp at e
theorem DtAll.get' {H : Hp} : ∀ {vs : List V} {ds : List PyData} {i : Nat} {d : PyData}, DtAll H vs ds → ds[i]? = some d → ∃ v, vs[i]? = some v ∧ Dt H v d
  | _, _, 0, _, .cons h _, e => by cases e; exact ⟨_, rfl, h⟩
  | _, _, i + 1, _, .cons _ a, e => DtAll.get' (i := i) a e
  | _, _, _, _, .nil, e => by simp at e
theorem DtAll.app {H : Hp} : ∀ {vs ws : List V} {ds es : List PyData}, DtAll H vs ds → DtAll H ws es → DtAll H (vs ++ ws) (ds ++ es)
  | _, _, _, _, .nil, b => b
  | _, _, _, _, .cons h a, b => .cons h (DtAll.app a b)
theorem DtAll.ints {H : Hp} : ∀ ns : List Int, DtAll H (ns.map V.int) (ns.map PyData.int)
  | [] => .nil
  | n :: ns => .cons (.int n) (DtAll.ints ns)
theorem DtAll.of_ints {H : Hp} : ∀ {vs : List V} {ns : List Int}, DtAll H vs (ns.map PyData.int) → vs = ns.map V.int
  | _, [], h => by cases h; rfl
  | _, n :: ns, h => by
    cases h with
    | cons a b =>
      cases a
      rw [DtAll.of_ints b]
      rfl
/-! ### loops over a list or a tuple -/
/-- what is walked: either -/
def iSeq (K : PySem.W.Frag) (tl : TE) : TI := fun σ H R => iList K tl σ H R ∨ iTup K tl σ H R
theorem pi_seq {X : Cx} {tg l : Expr} {tl : TE} (hl : PE X l tl) : PI X tg l (iSeq X.K tl) := ⟨fun pins s σ H R I h => by
  rcases h with h | h
  · exact (pi_list hl).run pins s σ H R I h
  · exact (pi_tup hl).run pins s σ H R I h⟩
theorem seqH_cases {o : Option HO} {xs : List V} (h : seqH o = some xs) : (o = some (.lst xs) ∨ ∃ u, o = some (.frz u (.lst xs))) ∨ (o = some (.tup xs) ∨ ∃ u, o = some (.frz u (.tup xs))) := by
  unfold seqH at h
  split at h <;> first
    | (cases h; exact .inr (.inl rfl))
    | (cases h; exact .inl (.inl rfl))
    | (cases h; exact .inl (.inr ⟨_, rfl⟩))
    | (cases h; exact .inr (.inr ⟨_, rfl⟩))
    | cases h
theorem for_seq {K : PySem.W.Frag} {tl : TE} {a : Addr} {xs : List V} {g : TG} {tb : TS} {D : Ends} {σ : L2.St} {H : Hp} (Pv : Nat → L2.St → Hp → Prop) (e : ∀ Q : VK, Q (.ref a) H → tl σ H Q) (hx : seqH (H a) = some xs) (h0 : Pv 0 σ H) (hl : ∀ i σ' H', Pv i σ' H' → H' a = H a)
    (hs : ∀ i x σ' H', xs[i]? = some x → Pv i σ' H' → g x σ' H' fun σ2 H2 => tb { D with nx := Pv (i + 1), ct := Pv (i + 1), bk := D.nx } σ2 H2) (hd : ∀ σ' H', Pv xs.length σ' H' → D.nx σ' H') : tFor (iSeq K tl) g tb D σ H := by
  rcases seqH_cases hx with h | h
  · have hq : ∀ H' : Hp, H' a = H a → SqL K H' a xs := fun H' q => by
      rcases h with h | ⟨u, h⟩
      · exact .inl (.inl (by rw [q, h]))
      · exact .inl (.inr ⟨u, by rw [q, h]⟩)
    exact .inl (e _ ⟨a, rfl, ⟨xs, hq H rfl⟩, for_list Pv h0 (fun i σ' H' _ p => hq H' (hl i σ' H' p)) hs hd⟩)
  · have hq : ∀ H' : Hp, H' a = H a → SqT K H' a xs := fun H' q => by
      rcases h with h | ⟨u, h⟩
      · exact .inl (.inl (by rw [q, h]))
      · exact .inl (.inr ⟨u, by rw [q, h]⟩)
    exact .inr (e _ ⟨a, rfl, ⟨xs, hq H rfl⟩, for_tup Pv h0 (fun i σ' H' _ p => hq H' (hl i σ' H' p)) hs hd⟩)
/-! ### comprehensions: a list of data -/
/-- the i's below n that f takes, in order, by v -/
def given {α : Type} (n : Nat) (f : Nat → Bool) (v : Nat → α) : List α := ((List.range n).filter f).map v
theorem given_yes {α : Type} {n : Nat} {f : Nat → Bool} {v : Nat → α} (h : f n = true) : given (n + 1) f v = given n f v ++ [v n] := by
  unfold given
  rw [List.range_succ, List.filter_append, List.map_append, List.filter_cons, if_pos h]
  rfl
theorem given_no {α : Type} {n : Nat} {f : Nat → Bool} {v : Nat → α} (h : f n = false) : given (n + 1) f v = given n f v := by
  unfold given
  rw [List.range_succ, List.filter_append, List.map_append, List.filter_cons, if_neg (by rw [h]; decide)]
  show _ ++ [] = _
  rw [List.append_nil]
theorem given_len {α : Type} (n : Nat) (f : Nat → Bool) (v : Nat → α) : (given n f v).length ≤ n := by
  unfold given
  rw [List.length_map]
  have h := List.length_filter_le f (List.range n)
  rw [List.length_range] at h
  exact h
theorem given_all {α : Type} (n : Nat) (v : Nat → α) : given n (fun _ => true) v = (List.range n).map v := by
  unfold given
  rw [List.filter_eq_self.mpr (fun _ _ => rfl)]
theorem given_eq {α β : Type} (ys : List α) (d : α) (p : α → Bool) (g : α → β) : given ys.length (fun i => p (ys.getD i d)) (fun i => g (ys.getD i d)) = (ys.filter p).map g := by
  have e : (List.range ys.length).map (fun i => ys.getD i d) = ys := by
    refine List.ext_getElem (by simp) fun i h1 h2 => ?_
    simp only [List.getElem_map, List.getElem_range]
    rw [List.getD_eq_getElem?_getD, List.getElem?_eq_getElem h2]
    rfl
  have q : ((((List.range ys.length).map fun i => ys.getD i d).filter p).map g) = (ys.filter p).map g := by rw [e]
  rw [← q, List.filter_map, List.map_map]
  rfl
theorem given_ints {H : Hp} {zs : List V} (ys : List Int) (p : Int → Bool) (f : Int → Int) (h : DtAll H zs (given ys.length (fun i => p (ys.getD i 0)) fun i => .int (f (ys.getD i 0)))) : zs = ((ys.filter p).map f).map V.int := by
  refine DtAll.of_ints (H := H) ?_
  have e := given_eq ys 0 p fun y => PyData.int (f y)
  rw [e] at h
  rw [List.map_map]
  exact h
/-- the i-th of ints -/
theorem int_at {ls : List Int} {i : Nat} {x : V} (h : (ls.map V.int)[i]? = some x) : ∃ l, ls[i]? = some l ∧ x = .int l ∧ ls.getD i 0 = l ∧ l ∈ ls := by
  rw [List.getElem?_map] at h
  cases q : ls[i]? with
  | none => rw [q] at h; cases h
  | some l =>
    rw [q] at h
    exact ⟨l, rfl, (Option.some.inj h).symm, by rw [List.getD_eq_getElem?_getD, q]; rfl, List.mem_of_getElem? q⟩
section
variable {K : PySem.W.Frag} {g : TG} {tt : TT} {te : TE} {vs : List Nat} {σ : L2.St} {H : Hp} {Q : VK} {n : Nat} (ks : Nat → Bool) (ds : Nat → PyData)
/-- behind i turns -/
def Cv (H : Hp) (ks : Nat → Bool) (ds : Nat → PyData) (D : Addr) (i : Nat) (H' : Hp) : Prop := H D = none ∧ Ext H H' ∧ ∃ ys, H' D = some (.lst ys) ∧ DtAll H' ys (given i ks ds)
/-- one turn: from any later heap the test gives ks i, the element a value of the datum ds i -/
def Ct (H : Hp) (g : TG) (tt : TT) (te : TE) (vs : List Nat) (σ : L2.St) (k : Bool) (d : PyData) (x : V) : Prop :=
  ∀ (H' : Hp) (R : Hp → Prop) (E : VK), Ext H H' → (k = false → ∀ H3, Ext H' H3 → R H3) → (k = true → ∀ y H4, Ext H' H4 → Dt H4 y d → E y H4) →
    g x (wipe σ vs) H' fun σ2 H2 => wipe σ2 vs = wipe σ vs ∧ tt σ2 H2 fun b H3 => if b = true then te σ2 H3 E else R H3
theorem cv_start {D : Addr} (hD : H D = none) : Cv H ks ds D 0 (upd H D (.lst [])) := ⟨hD, (Ext.rfl' H).new hD, [], upd_same, .nil⟩
theorem cv_turn {D : Addr} {i : Nat} {x : V} {H' : Hp} (hi : i < 100000) (ht : Ct H g tt te vs σ (ks i) (ds i) x) (p : Cv H ks ds D i H') :
    g x (wipe σ vs) H' fun σ2 H2 => wipe σ2 vs = wipe σ vs ∧ tt σ2 H2 fun b H3 => if b = true then te σ2 H3 fun y H4 => ∃ acc, H4 D = some (.lst acc) ∧ acc.length < sizeLine ∧ Cv H ks ds D (i + 1) (upd H4 D (.lst (acc ++ [y]))) else Cv H ks ds D (i + 1) H3 := by
  obtain ⟨hD, e, ys, hy, ha⟩ := p
  refine ht H' _ _ e (fun hk H3 e3 => ⟨hD, e.trans e3, ys, e3.get hy, ?_⟩) (fun hk y H4 e4 hd => ⟨ys, e4.get hy, ?_, hD, (e.trans e4).mut hD, _, upd_same, ?_⟩)
  · rw [given_no hk]
    exact ha.mono e3.tu
  · have := ha.len
    have := given_len i ks ds
    exact Nat.lt_of_lt_of_le (show ys.length < 100001 by omega) (by decide)
  · rw [given_yes hk]
    have nt : isT (H4 D) = false := by rw [e4.get hy]; rfl
    exact ((ha.mono e4.tu).mono ((Tu.rfl' H4).mut nt)).app (.cons (hd.mono ((Tu.rfl' H4).mut nt)) .nil)
theorem lc_seq {tl : TE} {a : Addr} {xs : List V} (e : ∀ Q : VK, Q (.ref a) H → tl σ H Q) (hx : seqH (H a) = some xs) (hn : xs.length ≤ 100000) (ht : ∀ (i : Nat) (x : V), xs[i]? = some x → Ct H g tt te vs σ (ks i) (ds i) x)
    (hd : ∀ D ys H', H D = none → Ext H H' → H' D = some (.lst ys) → DtAll H' ys (given xs.length ks ds) → Q (.ref D) H') : tLc (iSeq K tl) g tt te vs σ H Q := by
  have fin : ∀ D H', Cv H ks ds D xs.length H' → Q (.ref D) H' := fun D H' ⟨h0, h1, ys, h2, h3⟩ => hd D ys H' h0 h1 h2 h3
  have turn : ∀ D (i : Nat) (x : V) (H' : Hp), xs[i]? = some x → Cv H ks ds D i H' → g x (wipe σ vs) H' fun σ2 H2 => wipe σ2 vs = wipe σ vs ∧ tt σ2 H2 fun b H3 =>
      if b = true then te σ2 H3 fun y H4 => ∃ acc, H4 D = some (.lst acc) ∧ acc.length < sizeLine ∧ Cv H ks ds D (i + 1) (upd H4 D (.lst (acc ++ [y]))) else Cv H ks ds D (i + 1) H3 := fun D i x H' hi p =>
    cv_turn ks ds (by have := (List.getElem?_eq_some_iff.mp hi).1; omega) (ht i x hi) p
  rcases seqH_cases hx with h | h
  · have hq : ∀ H' : Hp, H' a = H a → SqL K H' a xs := fun H' q => by
      rcases h with h | ⟨u, h⟩
      · exact .inl (.inl (by rw [q, h]))
      · exact .inl (.inr ⟨u, by rw [q, h]⟩)
    have hs : (H a).isSome = true := by rcases h with h | ⟨u, h⟩ <;> rw [h] <;> rfl
    show iSeq K tl σ H _
    exact .inl (e _ ⟨a, rfl, ⟨xs, hq H rfl⟩, fun D hD => lc_list (Cv H ks ds D) (cv_start ks ds hD) (fun i H' _ p => hq H' (p.2.1 a hs)) (turn D) (fin D)⟩)
  · have hq : ∀ H' : Hp, H' a = H a → SqT K H' a xs := fun H' q => by
      rcases h with h | ⟨u, h⟩
      · exact .inl (.inl (by rw [q, h]))
      · exact .inl (.inr ⟨u, by rw [q, h]⟩)
    have hs : (H a).isSome = true := by rcases h with h | ⟨u, h⟩ <;> rw [h] <;> rfl
    show iSeq K tl σ H _
    exact .inr (e _ ⟨a, rfl, ⟨xs, hq H rfl⟩, fun D hD => lc_tup (Cv H ks ds D) (cv_start ks ds hD) (fun i H' _ p => hq H' (p.2.1 a hs)) (turn D) (fin D)⟩)
theorem lc_rng {ta : TA} (n : Int) (e : ∀ Q : List V → Hp → Prop, Q [.int n] H → ta σ H Q) (hn : 0 ≤ n ∧ n ≤ 100000) (ht : ∀ i : Nat, (i : Int) < n → Ct H g tt te vs σ (ks i) (ds i) (.int (i : Int)))
    (hd : ∀ D ys H', H D = none → Ext H H' → H' D = some (.lst ys) → DtAll H' ys (given n.toNat ks ds) → Q (.ref D) H') : tLc (iRng1 ta) g tt te vs σ H Q := by
  show iRng1 ta σ H _
  refine e _ ⟨n, rfl, by omega, by omega, fun D hD => lc_range (lo := 0) (n := n.toNat) (Cv H ks ds D) (cv_start ks ds hD) (fun i H' hi p => ?_) (fun H' ⟨h0, h1, ys, h2, h3⟩ => hd D ys H' h0 h1 h2 h3)⟩
  have e0 : (0 : Int) + (i : Int) = (i : Int) := Int.zero_add _
  rw [e0]
  exact cv_turn ks ds (by omega) (ht i (by omega)) p
end
/-! the same where what is walked is made on the way: a new list (M: what is known of it) -/
section
variable {K : PySem.W.Frag} {g : TG} {tt : TT} {te : TE} {vs : List Nat} {σ : L2.St} {H : Hp} {Q : VK} {tl : TE} {tb : TS} {D : Ends}
theorem lc_seqL (M : Addr → List V → Hp → Prop) (e : ∀ R : VK, (∀ a xs H1, M a xs H1 → R (.ref a) H1) → tl σ H R)
    (hm : ∀ a xs H1, M a xs H1 → H1 a = some (.lst xs) ∧ xs.length ≤ 100000 ∧ ∃ ks ds, (∀ (i : Nat) (x : V), xs[i]? = some x → Ct H1 g tt te vs σ (ks i) (ds i) x) ∧
      ∀ D ys H', H1 D = none → Ext H1 H' → H' D = some (.lst ys) → DtAll H' ys (given xs.length ks ds) → Q (.ref D) H') : tLc (iSeq K tl) g tt te vs σ H Q := by
  show iSeq K tl σ H _
  refine .inl (e _ fun a xs H1 m => ?_)
  obtain ⟨ha, hn, ks, ds, ht, hd⟩ := hm a xs H1 m
  have hs : (H1 a).isSome = true := by rw [ha]; rfl
  exact ⟨a, rfl, ⟨xs, .inl (.inl ha)⟩, fun D hD => lc_list (Cv H1 ks ds D) (cv_start ks ds hD) (fun i H' _ p => .inl (.inl (p.2.1.get ha))) (fun i x H' hi p => cv_turn ks ds (by have := (List.getElem?_eq_some_iff.mp hi).1; omega) (ht i x hi) p)
    (fun H' ⟨h0, h1, ys, h2, h3⟩ => hd D ys H' h0 h1 h2 h3)⟩
theorem for_seqL (M : Addr → List V → Hp → Prop) (e : ∀ R : VK, (∀ a xs H1, M a xs H1 → R (.ref a) H1) → tl σ H R)
    (hm : ∀ a xs H1, M a xs H1 → H1 a = some (.lst xs) ∧ ∃ Pv : Nat → L2.St → Hp → Prop, Pv 0 σ H1 ∧ (∀ i σ' H', Pv i σ' H' → H' a = H1 a) ∧
      (∀ i x σ' H', xs[i]? = some x → Pv i σ' H' → g x σ' H' fun σ2 H2 => tb { D with nx := Pv (i + 1), ct := Pv (i + 1), bk := D.nx } σ2 H2) ∧ ∀ σ' H', Pv xs.length σ' H' → D.nx σ' H') : tFor (iSeq K tl) g tb D σ H := by
  refine .inl (e _ fun a xs H1 m => ?_)
  obtain ⟨ha, Pv, h0, hl, hs, hd⟩ := hm a xs H1 m
  exact ⟨a, rfl, ⟨xs, .inl (.inl ha)⟩, for_list Pv h0 (fun i σ' H' _ p => .inl (.inl ((hl i σ' H' p).trans ha))) hs hd⟩
theorem for_seqT (M : Addr → List V → Hp → Prop) (e : ∀ R : VK, (∀ a xs H1, M a xs H1 → R (.ref a) H1) → tl σ H R)
    (hm : ∀ a xs H1, M a xs H1 → H1 a = some (.tup xs) ∧ ∃ Pv : Nat → L2.St → Hp → Prop, Pv 0 σ H1 ∧ (∀ i σ' H', Pv i σ' H' → H' a = H1 a) ∧
      (∀ i x σ' H', xs[i]? = some x → Pv i σ' H' → g x σ' H' fun σ2 H2 => tb { D with nx := Pv (i + 1), ct := Pv (i + 1), bk := D.nx } σ2 H2) ∧ ∀ σ' H', Pv xs.length σ' H' → D.nx σ' H') : tFor (iSeq K tl) g tb D σ H := by
  refine .inr (e _ fun a xs H1 m => ?_)
  obtain ⟨ha, Pv, h0, hl, hs, hd⟩ := hm a xs H1 m
  exact ⟨a, rfl, ⟨xs, .inl (.inl ha)⟩, for_tup Pv h0 (fun i σ' H' _ p => .inl (.inl ((hl i σ' H' p).trans ha))) hs hd⟩
end
/-! comprehensions whose elements may change what stands (a pool): I i ds H' holds behind i turns that made the data ds -/
section
variable {K : PySem.W.Frag} {g : TG} {tt : TT} {te : TE} {vs : List Nat} {σ : L2.St} {H : Hp} {Q : VK} (I : Nat → List PyData → Hp → Prop)
def Cg (H : Hp) (I : Nat → List PyData → Hp → Prop) (D : Addr) (i : Nat) (H' : Hp) : Prop := H D = none ∧ ∃ ys ds, H' D = some (.lst ys) ∧ ys.length ≤ i ∧ DtAll H' ys ds ∧ I i ds H'
/-- one turn of such -/
def Cgt (H : Hp) (I : Nat → List PyData → Hp → Prop) (g : TG) (tt : TT) (te : TE) (vs : List Nat) (σ : L2.St) (i : Nat) (x : V) : Prop :=
  ∀ (D : Addr) (ds : List PyData) (H' : Hp) (R : Hp → Prop) (E : VK), H D = none → isL (H' D) = true → I i ds H' → (∀ H3, H3 D = H' D → Tu H' H3 → I (i + 1) ds H3 → R H3) → (∀ y d H4, H4 D = H' D → Tu H' H4 → Dt H4 y d → I (i + 1) (ds ++ [d]) H4 → E y H4) →
    g x (wipe σ vs) H' fun σ2 H2 => wipe σ2 vs = wipe σ vs ∧ tt σ2 H2 fun b H3 => if b = true then te σ2 H3 E else R H3
theorem cg_start {D : Addr} (hD : H D = none) (hI : ∀ D i ds H' ys, H D = none → I i ds H' → I i ds (upd H' D (.lst ys))) (h0 : I 0 [] H) : Cg H I D 0 (upd H D (.lst [])) := ⟨hD, [], [], upd_same, Nat.le_refl _, .nil, hI _ _ _ _ _ hD h0⟩
theorem cg_turn {D : Addr} {i : Nat} {x : V} {H' : Hp} (hi : i < 100000) (hI : ∀ D i ds H' ys, H D = none → I i ds H' → I i ds (upd H' D (.lst ys))) (ht : Cgt H I g tt te vs σ i x) (p : Cg H I D i H') :
    g x (wipe σ vs) H' fun σ2 H2 => wipe σ2 vs = wipe σ vs ∧ tt σ2 H2 fun b H3 => if b = true then te σ2 H3 fun y H4 => ∃ acc, H4 D = some (.lst acc) ∧ acc.length < sizeLine ∧ Cg H I D (i + 1) (upd H4 D (.lst (acc ++ [y]))) else Cg H I D (i + 1) H3 := by
  obtain ⟨hD, ys, ds, hy, hl, ha, hp⟩ := p
  refine ht D ds H' _ _ hD (by rw [hy]; rfl) hp (fun H3 e3 t3 p3 => ⟨hD, ys, ds, e3.trans hy, Nat.le_succ_of_le hl, ha.mono t3, p3⟩) (fun y d H4 e4 t4 hd p4 => ?_)
  have hy4 := e4.trans hy
  have nt : isT (H4 D) = false := by rw [hy4]; rfl
  refine ⟨ys, hy4, Nat.lt_of_lt_of_le (show ys.length < 100001 by omega) (by decide), hD, _, _, upd_same, by rw [List.length_append, List.length_singleton]; omega, ?_, hI _ _ _ _ _ hD p4⟩
  exact ((ha.mono t4).mono ((Tu.rfl' H4).mut nt)).app (.cons (hd.mono ((Tu.rfl' H4).mut nt)) .nil)
theorem lcg_rng {ta : TA} (n : Int) (e : ∀ Q : List V → Hp → Prop, Q [.int n] H → ta σ H Q) (hn : 0 ≤ n ∧ n ≤ 100000) (hI : ∀ D i ds H' ys, H D = none → I i ds H' → I i ds (upd H' D (.lst ys))) (h0 : I 0 [] H)
    (ht : ∀ i : Nat, (i : Int) < n → Cgt H I g tt te vs σ i (.int (i : Int))) (hd : ∀ D ys ds H', H D = none → H' D = some (.lst ys) → DtAll H' ys ds → I n.toNat ds H' → Q (.ref D) H') : tLc (iRng1 ta) g tt te vs σ H Q := by
  show iRng1 ta σ H _
  refine e _ ⟨n, rfl, by omega, by omega, fun D hD => lc_range (lo := 0) (n := n.toNat) (Cg H I D) (cg_start I hD hI h0) (fun i H' hi p => ?_) (fun H' ⟨h0, ys, ds, h2, _, h3, h4⟩ => hd D ys ds H' h0 h2 h3 h4)⟩
  have e0 : (0 : Int) + (i : Int) = (i : Int) := Int.zero_add _
  rw [e0]
  exact cg_turn I (by omega) hI (ht i (by omega)) p
end
/-! ### more operations by what H knows -/
def rTupH : List V → Hp → VK → Prop := fun vs H Q => ∃ p, vs = [.ref p] ∧ ((∃ ys, H p = some (.lst ys) ∧ ∀ l, H l = none → Q (.ref l) (upd H l (.tup ys))) ∨ ∃ ys, H p = some (.tup ys) ∧ Q (.ref p) H)
def rListH : List V → Hp → VK → Prop := fun vs H Q => ∃ p ys, vs = [.ref p] ∧ seqH (H p) = some ys ∧ ∀ l, H l = none → Q (.ref l) (upd H l (.lst ys))
def rSlH : V → Option Int → Option Int → Hp → VK → Prop := fun x lo hi H Q => ∃ a xs, x = .ref a ∧ H a = some (.lst xs) ∧ ∀ p, H p = none → Q (.ref p) (upd H p (.lst (cutV xs lo hi)))
def rSortH : List V → Hp → VK → Prop := fun vs H Q => ∃ a ns, vs = [.ref a] ∧ seqH (H a) = some (ns.map V.int) ∧ isL (H a) = true ∧ ∀ (ns' : List Int) p, ns'.Perm ns → ns'.Pairwise (· ≤ ·) → H p = none → Q (.ref p) (upd H p (.lst (ns'.map V.int)))
section
variable {X : Cx}
theorem tup_H : CallR X (.type "tuple") rTupH := by
  intro pins s σ H xs us Q I r q
  obtain ⟨p, e, q⟩ := q
  rcases q with ⟨ys, h, q⟩ | ⟨ys, h, q⟩
  · exact call_tuple_of pins s σ H xs us Q I r ⟨p, ys, e, .inl ⟨.inl (.inl h), q⟩⟩
  · exact call_tuple_of pins s σ H xs us Q I r ⟨p, ys, e, .inr ⟨.inl (.inl h), q⟩⟩
theorem list_H : CallR X (.type "list") rListH := by
  intro pins s σ H xs us Q I r q
  obtain ⟨p, ys, e, h, q⟩ := q
  exact call_list_of pins s σ H xs us Q I r ⟨p, ys, e, seqH_or h, q⟩
theorem sl_H : SlR X rSlH := by
  intro pins s σ H x v vl vu lo hi sl Q I rx hs pl pu q
  obtain ⟨a, xs, e, h, q⟩ := q
  exact sl_list pins s σ H x v vl vu lo hi sl Q I rx hs pl pu ⟨a, xs, e, .inl (.inl h), q⟩
theorem sort_H : CallR X (.builtin "sorted") rSortH := by
  intro pins s σ H xs us Q I r q
  obtain ⟨a, ns, e, h, hl, q⟩ := q
  refine cr_sortedI pins s σ H xs us Q I r ⟨a, ns, e, ?_, q⟩
  rcases seqH_cases h with (h | ⟨u, h⟩) | (h | ⟨u, h⟩)
  · exact .inl (.inl h)
  · exact .inl (.inr ⟨u, h⟩)
  · rw [h] at hl; cases hl
  · rw [h] at hl; cases hl
end
section
variable {H : Hp} {Q : VK} {vs : List V} {x y : V} {K : PySem.W.Frag} {σ : L2.St} {te : TE} {tl th : TO} {a : Addr}
theorem rtup : rTupH vs H Q = ∃ p, vs = [.ref p] ∧ ((∃ ys, H p = some (.lst ys) ∧ ∀ l, H l = none → Q (.ref l) (upd H l (.tup ys))) ∨ ∃ ys, H p = some (.tup ys) ∧ Q (.ref p) H) := rfl
theorem rlist : rListH vs H Q = ∃ p ys, vs = [.ref p] ∧ seqH (H p) = some ys ∧ ∀ l, H l = none → Q (.ref l) (upd H l (.lst ys)) := rfl
theorem rsl {lo hi : Option Int} : rSlH x lo hi H Q = ∃ a xs, x = .ref a ∧ H a = some (.lst xs) ∧ ∀ p, H p = none → Q (.ref p) (upd H p (.lst (cutV xs lo hi))) := rfl
theorem rsort : rSortH vs H Q = ∃ a ns, vs = [.ref a] ∧ seqH (H a) = some (ns.map V.int) ∧ isL (H a) = true ∧ ∀ (ns' : List Int) p, ns'.Perm ns → ns'.Pairwise (· ≤ ·) → H p = none → Q (.ref p) (upd H p (.lst (ns'.map V.int))) := rfl
theorem rcat : rCat x y H Q = ∃ l b xs zs, x = .ref l ∧ y = .ref b ∧ H l = some (.lst xs) ∧ H b = some (.lst zs) ∧ xs.length + zs.length ≤ sizeLine ∧ ∀ p, H p = none → Q (.ref p) (upd H p (.lst (xs ++ zs))) := rfl
theorem rapp : rAppend x vs H Q = ∃ l xs y, x = .ref l ∧ vs = [y] ∧ H l = some (.lst xs) ∧ xs.length < sizeLine ∧ Q .non (upd H l (.lst (xs ++ [y]))) := rfl
theorem rrev : rReverse x vs H Q = ∃ l xs, x = .ref l ∧ vs = [] ∧ H l = some (.lst xs) ∧ Q .non (upd H l (.lst xs.reverse)) := rfl
theorem sl_ap {r : V → Option Int → Option Int → Hp → VK → Prop} : tSl r te tl th σ H Q = te σ H fun x H1 => tl σ H1 fun l H2 => th σ H2 fun u H3 => r x l u H3 Q := rfl
theorem nop {QO : Option Int → Hp → Prop} : tNoPart σ H QO = QO none H := rfl
theorem part {QO : Option Int → Hp → Prop} : tPart te σ H QO = te σ H fun x H1 => ∃ i, x = .int i ∧ QO (some i) H1 := rfl
theorem yes {QB : Bool → Hp → Prop} : tYes σ H QB = QB true H := rfl
theorem tyl (h : isL (H a) = true) : tyV K "list" (.ref a) H = True := by
  refine eq_true ?_
  unfold isL at h
  split at h
  · rename_i xs e
    exact Or.inl ⟨rfl, _, .inl (.inl e)⟩
  · cases h
theorem reqd : rEqD K x y H Q = ∃ d e, Dp K H x d ∧ Dp K H y e ∧ SeqAt.shaped d = true ∧ SeqAt.shaped e = true ∧ Q (.bl (PyData.eqv d e)) H := rfl
theorem inV_ints {k : Int} : ∀ ns : List Int, inV (.int k) (ns.map V.int) = decide (k ∈ ns)
  | [] => rfl
  | n :: ns => by
    have ih := inV_ints (k := k) ns
    unfold inV at ih ⊢
    rw [List.map_cons, List.any_cons, ih]
    have : eqV (.int n) (.int k) = decide (n = k) := by
      show (n == k) = decide (n = k)
      by_cases h : n = k
      · rw [decide_eq_true h, h]
        exact beq_self_eq_true _
      · rw [decide_eq_false h]
        exact beq_eq_false_iff_ne.mpr h
    rw [this]
    by_cases h : n = k
    · subst h
      simp
    · have h' : ¬ k = n := fun e => h e.symm
      simp [h, h']
theorem flat_ints : ∀ ns : List Int, (ns.map V.int).all flatV = true
  | [] => rfl
  | n :: ns => by rw [List.map_cons, List.all_cons, flat_ints ns]; rfl
theorem flatV_i {k : Int} : flatV (.int k) = true := rfl
theorem wipe_cons {v : Nat} {vs : List Nat} : wipe σ (v :: vs) = (wipe σ vs).set v none := rfl
theorem wipe_nil : wipe σ [] = σ := rfl
theorem ints_inj {xs ys : List Int} : (xs.map V.int = ys.map V.int) = (xs = ys) := by
  refine propext ⟨fun h => ?_, fun h => by rw [h]⟩
  induction xs generalizing ys with
  | nil => cases ys with
    | nil => rfl
    | cons => cases h
  | cons x xs ih => cases ys with
    | nil => cases h
    | cons y ys =>
      rw [List.map_cons, List.map_cons] at h
      injection h with h1 h2
      injection h1 with h3
      rw [h3, ih h2]
end
/-! ### dicts with number and text keys -/
def dOf : Option HO → List (Key × V)
  | some (.dK kvs) => kvs
  | _ => []
theorem dOf_d {kvs : List (Key × V)} : dOf (some (.dK kvs)) = kvs := rfl
theorem isD_some {o : Option HO} (h : isD o = true) : o = some (.dK (dOf o)) := by
  unfold isD at h
  split at h
  · rfl
  · cases h
section
variable {H H' : Hp} {a : Addr} {i : Int} {z : Str} {o : Option V} {v : V} {σ : L2.St} {Q : VK} {td ty tx : TE} {D : Ends}
theorem dg2 : tDGet2 td ty tx σ H Q = td σ H fun x H1 => ∃ a, x = .ref a ∧ IsD H1 a ∧ ty σ H1 fun y H2 => tx σ H2 fun z H3 => ∃ o, DGet H3 a y o ∧ Q (o.getD z) H3 := rfl
theorem dg1 : tDGet1 td ty σ H Q = td σ H fun x H1 => ∃ a, x = .ref a ∧ IsD H1 a ∧ ty σ H1 fun y H2 => ∃ o, DGet H2 a y o ∧ Q (o.getD .non) H2 := rfl
theorem dg : tDGet td ty σ H Q = td σ H fun x H1 => ty σ H1 fun y H2 => ∃ a v, x = .ref a ∧ DGet H2 a y (some v) ∧ Q v H2 := rfl
theorem din : tDIn ty td σ H Q = ty σ H fun y H1 => td σ H1 fun x H2 => ∃ a o, x = .ref a ∧ DGet H2 a y o ∧ Q (.bl o.isSome) H2 := rfl
theorem dnotin : tDNotIn ty td σ H Q = ty σ H fun y H1 => td σ H1 fun x H2 => ∃ a o, x = .ref a ∧ DGet H2 a y o ∧ Q (.bl (!o.isSome)) H2 := rfl
theorem dnew : tDNewK σ H Q = ∀ p, H p = none → Q (.ref p) (upd H p (.dK [])) := rfl
theorem dput : sDPut td ty tx D σ H = tx σ H fun v H1 => td σ H1 fun x H2 => ty σ H2 fun y H3 => ∃ a H4, x = .ref a ∧ DPut H3 a y v H4 ∧ D.nx σ H4 := rfl
theorem isD_is (h : isD (H a) = true) : IsD H a = True := eq_true (.inl ⟨_, .inl (isD_some h)⟩)
theorem dget_k (h : isD (H a) = true) (k : Key) : DGet H a (kV k) o = (o = valV (dOf (H a)) k) := by
  have e := isD_some h
  refine propext ⟨fun q => ?_, fun q => .inl ⟨_, k, .inl e, rfl, q⟩⟩
  rcases q with ⟨kvs, k', r, ek, q⟩ | ⟨kvs, k', b, r, ek, _⟩
  · have ek' := kV_inj ek
    subst ek'
    rcases r with r | ⟨u, r⟩
    · rw [r]
      exact q
    · rw [e] at r
      cases r
  · cases k <;> cases ek
theorem dget_i (h : isD (H a) = true) : DGet H a (.int i) o = (o = valV (dOf (H a)) (Sum.inl i)) := dget_k h (Sum.inl i)
theorem dget_s (h : isD (H a) = true) : DGet H a (.str z) o = (o = valV (dOf (H a)) (Sum.inr z)) := dget_k h (Sum.inr z)
theorem dput_k (h : isD (H a) = true) (k : Key) : DPut H a (kV k) v H' = ((dOf (H a)).length < sizeLine ∧ H' = upd H a (.dK (putK (dOf (H a)) k v))) := by
  have e := isD_some h
  refine propext ⟨fun q => ?_, fun q => .inl ⟨_, k, e, rfl, q.1, q.2⟩⟩
  rcases q with ⟨kvs, k', r, ek, q⟩ | ⟨kvs, k', b, r, ek, _⟩
  · have ek' := kV_inj ek
    subst ek'
    rw [r]
    exact q
  · cases k <;> cases ek
theorem dput_i (h : isD (H a) = true) : DPut H a (.int i) v H' = ((dOf (H a)).length < sizeLine ∧ H' = upd H a (.dK (putK (dOf (H a)) (Sum.inl i) v))) := dput_k h (Sum.inl i)
theorem dput_s (h : isD (H a) = true) : DPut H a (.str z) v H' = ((dOf (H a)).length < sizeLine ∧ H' = upd H a (.dK (putK (dOf (H a)) (Sum.inr z) v))) := dput_k h (Sum.inr z)
end
/-! ### == of data -/
theorem eqd_ok {K : PySem.W.Frag} {H : Hp} {x y : V} {d : PyData} {Q : VK} (hx : Dt H x d) (hy : Dt H y d) (hs : SeqAt.shaped d = true) (q : Q (.bl true) H) : rEqD K x y H Q := by
  refine ⟨d, d, hx.dp, hy.dp, hs, hs, ?_⟩
  rw [SeqAt.eqv_refl d (SeqAt.canLay_of_shaped hs)]
  exact q
end Px

namespace Px
open PySem PySem.Spec PyProof.Rows L2
/-! ### augmented assignments, while, truth of numbers, dicts made of dicts -/
section
variable {σ : L2.St} {H : Hp} {Q : VK} {D : Ends} {te : TE} {ti : TIp} {x y : V} {vs : List V} {K : PySem.W.Frag}
theorem aug {i : Nat} : tAug i te ti D σ H = tVar i σ H fun x _ => te σ H fun y H1 => ti x y H1 fun z H2 => D.nx (σ.set i (some z)) H2 := rfl
theorem ipi {f : Int → Int → Int} : ipI f x y H Q = ∃ i j, x = .int i ∧ y = .int j ∧ Q (.int (f i j)) H := rfl
def tTrI (te : TE) : TT := fun σ H Q => te σ H fun x H' => ∃ i, x = .int i ∧ Q (decide (i ≠ 0)) H'
theorem tri {QB : Bool → Hp → Prop} : tTrI te σ H QB = te σ H fun x H' => ∃ i, x = .int i ∧ QB (decide (i ≠ 0)) H' := rfl
theorem pt_int {X : Cx} {a : Expr} {ta : TE} (ha : PE X a ta) (he : ∀ (whole : Sem Value), PySem.isTrue a X.env whole = do
          let v ← whole
          standAt a.pos
          holding [v] (truthy v)) : PT X a (tTrI ta) := ⟨fun pins s σ H Q I h => isTrue_plain (thn (ha.run pins s σ H (fun x H' => ∃ i, x = .int i ∧ Q (decide (i ≠ 0)) H') I h) fun v s1 x => by
  obtain ⟨x, H1, I1, r1, i, rfl, q⟩ := x
  refine tru_ok pins s1 σ H1 (.int i) v Q I1 r1 ⟨decide (i ≠ 0), ?_, q⟩
  show decide (i ≠ 0) = (i != 0)
  by_cases z : i = 0
  · subst z; rfl
  · rw [decide_eq_true z]; exact (bne_iff_ne.mpr z).symm) (he (eval a X.env))⟩
/-- two tuples put together -/
def rCatTH : V → V → Hp → VK → Prop := fun x y H Q => ∃ a b xs ys, x = .ref a ∧ y = .ref b ∧ H a = some (.tup xs) ∧ H b = some (.tup ys) ∧ xs.length + ys.length ≤ sizeLine ∧ ∀ p H', H' p = some (.tup (xs ++ ys)) → (H' = H ∨ ∃ q o, H q = none ∧ H' = upd H q o) → Q (.ref p) H'
theorem rcatth : rCatTH x y H Q = ∃ a b xs ys, x = .ref a ∧ y = .ref b ∧ H a = some (.tup xs) ∧ H b = some (.tup ys) ∧ xs.length + ys.length ≤ sizeLine ∧ ∀ p H', H' p = some (.tup (xs ++ ys)) → (H' = H ∨ ∃ q o, H q = none ∧ H' = upd H q o) → Q (.ref p) H' := rfl
theorem catT_H {X : Cx} : OpR X (binaryOp .Add) rCatTH := by
  intro pins s σ H x y u v Q I rx ry q
  refine op_catA pins s σ H x y u v Q I rx ry ?_
  obtain ⟨a, b, xs, ys, ex, ey, h1, h2, l, q⟩ := q
  refine ⟨a, b, xs, ys, ex, ey, .inl (.inl h1), .inl (.inl h2), l, fun e => q b H (by rw [h2, e]; rfl) (.inl rfl), fun e e' => q a H (by rw [h1, e', List.append_nil]) (.inl rfl), fun _ _ p hp => q p _ upd_same (.inr ⟨p, _, hp, rfl⟩)⟩
end
end Px

namespace Px
open PySem PySem.Spec PyProof.Rows L2
/-! ### texts: lists of signs -/
abbrev Tx (a : List Nat) : Str := SX.S a
section
variable {x y v : V} {σ : L2.St} {H : Hp} {Q : VK} {K : PySem.W.Frag} {vs : List V} {lo hi : Option Int} {to te : TE} {r : V → List V → Hp → VK → Prop} {n : Nat} {u : TGs} {D : Ends} {QS : L2.St → Hp → Prop}
theorem rixs : rIxS x y H Q = ∃ z i c, x = .str z ∧ y = .int i ∧ z.length ≤ sizeLine ∧ atI z.cps.toList i = some c ∧ Q (.str (Tx [c])) H := rfl
theorem rsls : rSlS x lo hi H Q = ∃ z, x = .str z ∧ z.length ≤ sizeLine ∧ Q (.str (cutS z lo hi)) H := rfl
theorem tm1 : tM1 r to te σ H Q = to σ H fun x H1 => (∃ a, x = .str a) ∧ te σ H1 fun y H2 => r x [y] H2 Q := rfl
theorem glst : gLst K n u v σ H QS = ∃ a xs, v = .ref a ∧ SqL K H a xs ∧ xs.length = n ∧ u xs σ H QS := rfl
theorem nstr {ys : List Str} : rNewStrs ys H Q = ∀ p, H p = none → Q (.ref p) (upd H p (.lst (ys.map V.str))) := rfl
theorem txI {a b : List Nat} : (Tx a = Tx b) = (a = b) := propext ⟨fun h => SX.S_inj h, fun h => by rw [h]⟩
theorem txC {a : List Nat} : (Tx a).cps.toList = a := rfl
theorem txL {a : List Nat} : (Tx a).length = a.length := SX.S_len a
theorem txA {a b : List Nat} : Tx a ++ Tx b = Tx (a ++ b) := SX.S_cat a b
theorem one_sign {c : Nat} {z : Str} : (∃ (c' : Nat) (z' : Str), V.str (Tx [c]) = V.str ⟨#[c']⟩ ∧ V.str z = V.str z' ∧ Q (.bl (decide (c' ∈ z'.cps.toList))) H) = Q (.bl (decide (c ∈ z.cps.toList))) H := by
  refine propext ⟨fun ⟨c', z', h1, h2, q⟩ => ?_, fun q => ⟨c, z, rfl, rfl, q⟩⟩
  have e1 : Tx [c] = Tx [c'] := V.str.inj h1
  have e2 := SX.S_inj e1
  injection e2 with e2
  injection h2 with h2
  subst e2 h2
  exact q
theorem no_sign {c : Nat} {z : Str} : (∃ (c' : Nat) (z' : Str), V.str (Tx [c]) = V.str ⟨#[c']⟩ ∧ V.str z = V.str z' ∧ Q (.bl (!decide (c' ∈ z'.cps.toList))) H) = Q (.bl (!decide (c ∈ z.cps.toList))) H := by
  refine propext ⟨fun ⟨c', z', h1, h2, q⟩ => ?_, fun q => ⟨c, z, rfl, rfl, q⟩⟩
  have e1 : Tx [c] = Tx [c'] := V.str.inj h1
  have e2 := SX.S_inj e1
  injection e2 with e2
  injection h2 with h2
  subst e2 h2
  exact q
end
/-- in, not in: one sign in a text, by applied form -/
def rSgn (neg : Bool) : R2 := fun x y H Q => ∃ (c : Nat) (z : Str), x = .str (Tx [c]) ∧ y = .str z ∧ Q (.bl (if neg then !decide (c ∈ z.cps.toList) else decide (c ∈ z.cps.toList))) H
theorem in_sg {X : Cx} : OpR X (compareOp .In) (rSgn false) := by
  intro pins s σ H x y u v Q I rx ry ⟨c, z, e1, e2, q⟩
  exact op_in_sign pins s σ H x y u v Q I rx ry ⟨c, z, e1, e2, q⟩
theorem notIn_sg {X : Cx} : OpR X (compareOp .NotIn) (rSgn true) := by
  intro pins s σ H x y u v Q I rx ry ⟨c, z, e1, e2, q⟩
  exact op_notIn_sign pins s σ H x y u v Q I rx ry ⟨c, z, e1, e2, q⟩
theorem rsgn {b : Bool} {x y : V} {H : Hp} {Q : VK} : rSgn b x y H Q = ∃ (c : Nat) (z : Str), x = .str (Tx [c]) ∧ y = .str z ∧ Q (.bl (if b then !decide (c ∈ z.cps.toList) else decide (c ∈ z.cps.toList))) H := rfl
/-- for c in text -/
theorem for_str {σ : L2.St} {H : Hp} {D : Ends} {te : TE} {tb : TS} {j : Nat} {a : List Nat} (Pv : Nat → L2.St → Hp → Prop) (e : ∀ R : VK, R (.str (Tx a)) H → te σ H R) (h0 : Pv 0 σ H)
    (hs : ∀ (i c : Nat) σ' H', a[i]? = some c → Pv i σ' H' → tb { D with nx := Pv (i + 1), ct := Pv (i + 1), bk := D.nx } (σ'.set j (some (.str (Tx [c])))) H') (hd : ∀ σ' H', Pv a.length σ' H' → D.nx σ' H') : tFor (iStr te) (gName j) tb D σ H := by
  have hz : (Tx a).cps.size = a.length := by show a.toArray.size = a.length; simp
  refine e _ ⟨_, rfl, for_it walk_str Pv h0 (fun _ _ _ _ _ => trivial) (fun i x σ' H1 H2 hi p y => ?_) (fun σ' H' p => hd σ' H' (by rw [hz] at p; exact p))⟩
  obtain ⟨rfl, c, hc, rfl⟩ := y
  have hc' : a[i]? = some c := by
    have : (Tx a).cps[i]? = a[i]? := by show a.toArray[i]? = a[i]?; simp
    rw [← this]
    exact hc
  exact hs i c σ' _ hc' p
end Px

/-! ### the class of an exception that has fields -/
namespace PySem.W
open PySem PySem.Spec PySem.Calls PyProof.Rows
section
variable {pr : Program} {wl : World} {Ar : Around} {Er : Value → Shared → Prop} {st : Shared} {Kf : Frag} {e0 C0 : Addr} {obj : Obj} {dct : Option Obj}
theorem px_findObj {nm : Str} {av gv : Value} (h1 : (clsIn Kf C0).isSome = true) (h2 : findIn Kf (.ref C0) nm = some (some av)) (h3 : specialIn Kf av "__get__" = some (some gv)) (h4 : takesIn Kf av = some true) : findObj Kf C0 dct nm = some (.bind gv av) := by
  obtain ⟨rec, h1⟩ := Option.isSome_iff_exists.mp h1
  unfold findObj
  rw [h1, Option.bind_some, h2, Option.bind_some]
  simp [h3, h4]
theorem px_class {Qr : Option Value → Shared → Prop} (f1 : findIn Kf (.ref C0) "__getattribute__" = some (some (.builtin "BaseException.__getattribute__"))) (f2 : findIn Kf (.ref C0) "__getattr__" = some none) (f3 : subIn Kf (.ref C0) (.type "BaseException") = some true)
    (f4 : hasDictIn Kf C0 = true) (f5 : findIn Kf (.ref C0) "__class__" = some (some (.builtin "object.__class__")))
    (f6 : specialIn Kf (.builtin "object.__class__") "__get__" = some (some (.builtin "getset_descriptor.__get__"))) (f7 : takesIn Kf (.builtin "object.__class__") = some true) (f8 : mroIn Kf C0 (.type "object") = some true)
    (XK : Kf.In st.heap) (J : InstAt st.heap e0 obj C0 dct) (fin : Qr (some (.ref C0)) { st with toks := st.toks + 1 }) : wpAny (model pr wl) Ar (getAttr? (.ref e0) "__class__") Qr Er st := by
  have found : findObj Kf C0 dct "__class__" = some (.bind (.builtin "getset_descriptor.__get__") (.builtin "object.__class__")) := px_findObj (by obtain ⟨rec, z, _⟩ := any_some f4; rw [z]; rfl) f5 f6 f7
  obtain ⟨hh, gg, dd, tt, oo⟩ := st
  have la := J.type (M := model pr wl)
  have lb := looks_findIn (M := model pr wl) XK f1
  have lc := looks_findIn (M := model pr wl) XK f2
  have ld := looks_find (M := model pr wl) XK J found
  have isB : Looks (model pr wl) hh (isInstance (.ref e0) (.type "BaseException")) true := la.andThen (looks_subIn XK f3)
  have n0 : (false && onTheHeap (Value.builtin "BaseException.__getattribute__")) = false := rfl
  have n2 : (Value.builtin "BaseException.__getattribute__" == Value.builtin "object.__getattribute__") = false := by decide +kernel
  have n1 : (onTheHeap (Value.ref C0) && Value.builtin "BaseException.__getattribute__" == Value.builtin "object.__getattribute__") = false := by rw [n2]; rfl
  unfold getAttr? getAttrBy? getAttrBy
  refine wpAny_bind (wpAny_mkText (wpAny_bind (wpAny_attempt (wpAny_holding (wpAny_bind (la.at (wpAny_bind (lb.at ?_))))))))
  show wpAny _ _ (if (onTheHeap (Value.ref C0) && Value.builtin "BaseException.__getattribute__" == Value.builtin "object.__getattribute__") = true then _ else _) _ _ _
  rw [n1, if_neg Bool.false_ne_true]
  unfold getAttrByItsOwn hookBefore
  refine wpAny_bind ?_
  rw [if_pos (show onTheHeap (Value.ref C0) = true from rfl)]
  refine lc.at ?_
  refine wpAny_bind (wpAny_attempt (wpAny_holding ?_))
  unfold callGetattribute
  rw [n0, if_neg Bool.false_ne_true]
  unfold boundAndCalled
  rw [PySem.F.excAttr_ValueError.ga.bind (.ref e0)]
  refine wpAny_bind (wpAny_pure ?_)
  show wpAny _ _ (call (.builtin "BaseException.__getattribute__") [.ref e0, .str "__class__" tt]) _ _ _
  refine wpAny_call (codeAny_call_builtin PySem.F.excAttr_ValueError.ga.plain PySem.F.entry_bexc_ga ?_)
  refine @check_slot (model pr wl) _ _ ⟨hh, gg, dd, tt + 1, oo⟩ "BaseException.__getattribute__" "BaseException" "__getattribute__" (.ref e0) [.str "__class__" tt] [] _ (by decide +kernel) (by decide +kernel) isB (PySem.F.args_bexc_ga (.ref e0) (.str "__class__" tt)) ?_
  unfold Builtin.«object.__getattribute__»
  refine wpAny_bind (wpAny_of_eq (a := ((Value.ref e0 : Value), [Value.str "__class__" tt])) (by first | rfl | (simp only [slotArgs]; rfl)) ?_)
  refine wpAny_bind (wpAny_pure (wpAny_bind (la.at (wpAny_bind (ld.at ?_)))))
  show wpAny _ _ (holding [Value.builtin "object.__class__"] (call (.builtin "getset_descriptor.__get__") [.builtin "object.__class__", .ref e0, .ref C0]) >>= ret) _ _ _
  refine wpAny_bind (wpAny_holding (wpAny_call (class_get (s := ⟨hh, gg, dd, tt + 1, oo⟩) (ox := obj) (od := dct) XK J f8 ?_)))
  refine wpAny_pure ?_
  show wpAny _ _ (handedOut (.ref C0)) _ _ _
  rw [handedOut_of (v := .ref C0) rfl]
  first
    | exact wpAny_pure (wpAny_pure fin)
    | exact wpAny_pure fin
    | exact wpAny_pure (wpAny_bind (wpAny_pure (wpAny_pure fin)))
theorem px_kitx (f1 : findIn Kf (.ref C0) "__getattribute__" = some (some (.builtin "BaseException.__getattribute__"))) (f2 : findIn Kf (.ref C0) "__getattr__" = some none) (f3 : subIn Kf (.ref C0) (.type "BaseException") = some true) (f4 : hasDictIn Kf C0 = true) (f5 : findIn Kf (.ref C0) "__class__" = some (some (.builtin "object.__class__")))
    (f6 : specialIn Kf (.builtin "object.__class__") "__get__" = some (some (.builtin "getset_descriptor.__get__"))) (f7 : takesIn Kf (.builtin "object.__class__") = some true) (f8 : mroIn Kf C0 (.type "object") = some true) :
    KitX Kf (.ref e0) (.ref C0) (fun h => InstAt h e0 obj C0 dct) where
  ty := fun _ _ _ J => J.type
  it := fun _ _ XK _ => by
    obtain ⟨rec, hrec, _⟩ := any_some f4
    unfold clsIn at hrec
    split at hrec
    · rename_i a1 a2 a3 a4 at0
      intro b1 b2 b3 b4 keep fin
      unfold isType loadHead
      exact wpAny_bind (wpAny_loadPart (keep _ _ (XK _ _ at0)) (wpAny_pure fin))
    · cases hrec
  ne := fun hh tup dd its n sl XK at1 => by
    obtain ⟨rec, hrec, _⟩ := any_some f4
    refine Bool.eq_false_iff.mpr fun q => ?_
    have same : C0 = tup := Value.ref.inj (beq_iff_eq.mp q)
    subst same
    unfold clsIn at hrec
    split at hrec
    · rename_i a1 a2 a3 a4 at0
      have z := (XK _ _ at0).symm.trans at1
      cases z
    · cases hrec
  ca := fun XK J fin => px_class f1 f2 f3 f4 f5 f6 f7 f8 XK J fin
end
end PySem.W
namespace Px
open PySem PySem.Spec PyProof.Rows L2
/-! ### raising an own exception that has an own __init__ -/
def ExD (P : Program) (w : World) (K : PySem.W.Frag) (mg : Str → Option Value) (base : Heap) (k : Nat) (x : Str) (C : Addr) (ps : List Str) (sp : Sp) : Prop :=
  ∃ fI fd, OexC K C ∧ PySem.W.findIn K (.ref C) "__init__" = some (some (.ref fI)) ∧ PySem.W.typeIn K (.ref fI) = some (.type "function") ∧ mg x = some (.ref C) ∧ Binds K fd ps [] ∧ FnOk P w K mg base CX0 k fI fd ps sp
section
variable {X : Cx} {x : Str} {C : Addr} {k : Nat} {ps : List Str} {sp : Sp} {e : Expr} {es : List Expr} {ta : TA} {p pos : Pos}
theorem pmk_exD (D : ExD X.prog X.w X.K X.mg X.base k x C ps sp) (hr : Room (k + 1) X.A) (ha : PA X (e :: es) ta) (hg : Gl X x := by rfl) (hdb : (x == ("__debug__" : Str)) = false := by decide)
    (he : starEach (e :: es) X.env = (false, eval e X.env) :: starEach es X.env := by rfl) (hpl : (backTo pos (starEach es X.env)).any (·.1) = false := by rfl) : PMk X (.Call (.Name x p) (e :: es) [] pos) (tMkO C sp [] ta) := by
  obtain ⟨fI, fd, d1, d2, d3, d4, d5, d6⟩ := D
  exact pmk_oex d1 d2 d3 d6 hr d5 .nil pass0 hg d4 ha hdb he hpl
end
section
variable {a : Addr} {cls : Value} {d : Option Addr} {C : Addr} {f : Str} {te to : TE} {σ : L2.St} {H : Hp} {Q : VK} {K : PySem.W.Frag} {D : Ends} {ta : TA} {QX : XK} {sp : Sp} {dvs : List V}
theorem txf : tXf a cls d C f te σ H Q = te σ H fun x H1 => x = .ref a ∧ cls = .ref C ∧ ∃ (dd : Addr) (fs : List (Str × V)) (v : V), d = some dd ∧ H1 dd = some (.xd fs) ∧ fs.lookup f = some v ∧ Q v H1 := rfl
theorem tost : tOst K f to te D σ H = te σ H fun y H1 => to σ H1 fun x H2 => ∃ a C : Addr, x = .ref a ∧ OexC K C ∧ PySem.W.findIn K (.ref C) f = some none ∧
  ((H2 a = some (exo a C none) ∧ ∀ dx, H2 dx = none → dx ≠ a → D.nx σ (upd (upd H2 dx (exd dx [(f, y)])) a (exo a C (some dx)))) ∨
    ∃ (dx : Addr) (fs : List (Str × V)), H2 a = some (exo a C (some dx)) ∧ H2 dx = some (exd dx fs) ∧ fs.length ≤ 900 ∧ D.nx σ (upd H2 dx (exd dx ((f, y) :: fs)))) := rfl
theorem tmko : tMkO C sp dvs ta σ H QX = ta σ H fun vs H1 => vs.length ≤ 1000 ∧ ∀ a, H1 a = none → sp (.ref a :: (vs ++ dvs)) (upd H1 a (exo a C none))
  (fun v H2 => v = .non ∧ ∃ (d : Addr) (fs : List (Str × V)), H2 a = some (exo a C (some d)) ∧ H2 d = some (exd d fs) ∧ H1 d = none ∧ QX (.ref C) (some d) (upd (del H2 a) d (.xd fs))) (fun _ _ _ => False) := rfl
end
/-- isinstance(e, c) and isinstance(e, (c, ..)), e the exception that the suite holds, of an own class with fields -/
def rIsXd (K : PySem.W.Frag) (cls : Value) (d : Option Addr) (a : Addr) : List V → Hp → VK → Prop := fun xs H Q => ∃ (D : Addr) (us : List Value) (b : Bool) (dd : Addr) (fs : List (Str × V)), cls = .ref D ∧ d = some dd ∧ H dd = some (.xd fs) ∧ ExcC K D ∧ PySem.W.kitAny K (.ref D) us = some b ∧
  ((∃ c u, xs = [.ref a, c] ∧ us = [u] ∧ ClsV c u) ∨ ∃ tp cs, xs = [.ref a, .ref tp] ∧ H tp = some (.tup cs) ∧ Paired ClsV cs us) ∧ Q (.bl b) H
theorem risxd {K : PySem.W.Frag} {cls : Value} {d : Option Addr} {a : Addr} {xs : List V} {H : Hp} {Q : VK} : rIsXd K cls d a xs H Q = ∃ (D : Addr) (us : List Value) (b : Bool) (dd : Addr) (fs : List (Str × V)), cls = .ref D ∧ d = some dd ∧ H dd = some (.xd fs) ∧ ExcC K D ∧ PySem.W.kitAny K (.ref D) us = some b ∧
  ((∃ c u, xs = [.ref a, c] ∧ us = [u] ∧ ClsV c u) ∨ ∃ tp cs, xs = [.ref a, .ref tp] ∧ H tp = some (.tup cs) ∧ Paired ClsV cs us) ∧ Q (.bl b) H := rfl
theorem call_isXd {X : Cx} {a : Addr} {oe : Obj} {cls : Value} {d : Option Addr} {pn : List (Addr × Obj)} (hz : Zc cls d oe) (hf : ∃ vs, oe.data = .fields vs) : CallR (X.suite a ((a, oe) :: pn)) (.builtin "isinstance") (rIsXd X.K cls d a) := by
  intro pins s σ H xs us Q I rv h
  obtain ⟨D, ws, b, dd, fs, rfl, rfl, hdd, C, e, h, q⟩ := h
  obtain ⟨hget, _⟩ := I.pin (a, oe) (List.mem_append.mpr (.inl List.mem_cons_self))
  obtain ⟨vs, hv⟩ := hf
  obtain ⟨mA, hns, _⟩ := (show ObjOk X.prog X.w H s.heap dd (.xd fs) from I.hok dd _ hdd)
  obtain ⟨od, ho, _⟩ := lookIn_ns hns
  have J : PySem.W.InstAt s.heap a oe D (some od) := ⟨hget, hz.1, by unfold PySem.W.notCls; rw [hv] <;> rfl, by rw [hz.2]; exact ho⟩
  have Z := PySem.W.px_kitx (e0 := a) (obj := oe) (dct := some od) C.hg C.hk C.hs C.hd C.ha C.hn C.ht C.hm
  rcases h with ⟨c, u, rfl, rfl, k⟩ | ⟨tp, cs, rfl, hT, k⟩
  · obtain ⟨u1, u2, rfl, r1, r2⟩ := vals2 rv
    cases (show u1 = Value.ref a from r1)
    have e2 := k.eq r2
    subst e2
    have e3 : PySem.W.kitOne X.K (.ref D) u2 = some b := by
      unfold PySem.W.kitAny at e
      cases e4 : PySem.W.kitOne X.K (.ref D) u2 with
      | none => rw [e4] at e; cases e
      | some b' =>
        rw [e4] at e
        cases b' with
        | true => exact e
        | false => exact e
    exact PySem.W.kia_one Z I.kIn J e3 (fun z => nomatch z) fun tk => ⟨.bl b, H, I.kept (t' := tk) fun _ _ z => z, rfl, q⟩
  · obtain ⟨u1, u2, rfl, r1, r2⟩ := vals2 rv
    cases (show u1 = Value.ref a from r1)
    cases (show u2 = Value.ref tp from r2)
    obtain ⟨_, its, rv', o, h1, h2, n, h3⟩ := (show ObjOk X.prog X.w H s.heap tp (.tup cs) from I.hok tp _ hT)
    have e3 := ClsV.all k rv'
    subst e3
    obtain ⟨oc, od', dt, sl⟩ := o
    simp only at h2 h3
    subst h2 h3
    exact PySem.W.kia_tup Z I.kIn J h1 e (fun z => nomatch z) fun tk => ⟨.bl b, H, I.kept (t' := tk) fun _ _ z => z, rfl, q⟩
/-! ### an own def that is called within an except suite, and raises nothing -/
structure FnQ (P : Program) (w : World) (K : PySem.W.Frag) (mg : Str → Option Value) (base : Heap) (k : Nat) (f : Addr) (fd : FuncData) (ps : List Str) (sp : Sp) : Prop where
  len : ∀ vs H Q E, sp vs H Q E → vs.length = ps.length
  run : ∀ (Ar : Around) (above : List Env) (st : Shared) (H : Hp) (args : Args) (us : List Value) (vs : List V) (Q : VK) (E : XK) (pin : Addr × Obj), L2H.RoomH k Ar → L2H.PinOk above H st pin → Env0 P w K mg base Ar above st H → BindsTo st fd args (ps.zip us) → Vals vs us → sp vs H Q E →
    codeAny (model P w) Ar (.call (.ref f) args) (CR CX0 above P w H st Q E) st
theorem fnq_of {P : Program} {w : World} {K : PySem.W.Frag} {mg : Str → Option Value} {base : Heap} {k : Nat} {f : Addr} {nm qn : Str} {pa : Arguments} {bd : List Stmt} {sc : Scope} {dV kV doc pm cdv ct oc : Value} {an od : Option Addr}
    {osl : Array (Option Value)} {N ps : List Str} {sp : Sp} (lk : K.lookup f = some ⟨oc, od, .func (PySem.W.fnOf nm qn pa bd sc dV kV doc pm an cdv ct), osl⟩) (hcd : PySem.W.codeIn K cdv qn = true) (S : FnScope N ps sc)
    (len : ∀ vs H Q E, sp vs H Q E → vs.length = ps.length)
    (hb : ∀ (Ar : Around) (above : List Env) (st : Shared) (H : Hp) (vs : List V) (Q : VK) (E : XK) (pin : Addr × Obj), sp vs H Q E →
      ∃ t, PSs (L2H.cxH CX0 P w K mg base N qn sc f cdv Ar above st H E pin) bd t ∧ t { nx := fun _ H' => Q .non H', rt := Q } (L2.start N vs) H) :
    FnQ P w K mg base (k + 1) f (PySem.W.fnOf nm qn pa bd sc dV kV doc pm an cdv ct) ps sp := by
  refine ⟨len, fun Ar above st H args us vs Q E pin room hpin env0 bnd rel hsp => ?_⟩
  have hl := len _ _ _ _ hsp
  have kin : K.In st.heap := env0.mod.kin.keeps fun b o z => (env0.bs b o z).1
  have lim : st.heap.NoLimit := env0.mod.nolimit.keeps fun b o z => (env0.bs b o z).1
  have kinds : ∀ y ∈ ps.zip us, sc.names.lookup y.1 = some .local ∨ (sc.names.lookup y.1 = some .cell ∧ ((cellsFrom (st.heap.objs.size + 1) sc.names []).lookup y.1).isSome = true) := fun ⟨n, v⟩ hy => by
    rcases S.par n (List.of_mem_zip hy).1 with z | z
    · exact .inl z
    · exact .inr ⟨z, PySem.W.cellsFrom_some _ _ _ (.inl z)⟩
  refine codeAny_call_function room.depth (kin _ _ lk) rfl S.co S.gen rfl (PySem.W.codeRec_of kin hcd) (bnd _ _ _ _ ?_)
  refine wpAny_newFunctionEnv_cells S.kind kinds fun env he s1 x => ?_
  subst he
  refine ⟨lim.keeps x.toInCall.keep, codeAny_func ?_⟩
  obtain ⟨t, ht, hq⟩ := hb Ar above st H vs Q E pin hsp
  have I0 : Inv (L2H.cxH CX0 P w K mg base N qn sc f cdv Ar above st H E pin) [] (L2.start N vs) H s1 := L2H.inv_startH S hpin env0 hl rel x
  refine wpAny_mono (ht.run [] s1 (L2.start N vs) H _ I0 hq) (fun fl s' hs => ?_) fun e s' hs => hs
  have done : ∀ {σ' : L2.St} {H' : Hp} {v : V} {u : Value}, Inv (L2H.cxH CX0 P w K mg base N qn sc f cdv Ar above st H E pin) [] σ' H' s' → RelV v u → Q v H' → CE above P w H st Q u s' :=
    fun {σ' H' v u} J rv q => ⟨v, H', J.os, J.bare, J.base, J.hok, rv, q⟩
  cases fl with
  | ret u =>
    obtain ⟨v, σ', H', J, rv, q⟩ := hs
    exact done J rv q
  | next =>
    obtain ⟨σ', H', J, q⟩ := hs
    exact done (v := V.non) (u := Value.none) J rfl q
  | brk =>
    obtain ⟨_, _, _, z⟩ := hs
    exact False.elim z
  | cont =>
    obtain ⟨_, _, _, z⟩ := hs
    exact False.elim z
/-- bundled by its name -/
def DefQ (P : Program) (w : World) (K : PySem.W.Frag) (mg : Str → Option Value) (base : Heap) (k : Nat) (x : Str) (ps : List Str) (sp : Sp) : Prop :=
  ∃ f fd, mg x = some (.ref f) ∧ PySem.W.keepIn K (.ref f) = true ∧ Binds K fd ps [] ∧ FnQ P w K mg base k f fd ps sp
theorem pe_fnQ {X : Cx} {a : Addr} {oe : Obj} {pn : List (Addr × Obj)} {k : Nat} {x : Str} {ps : List Str} {sp : Sp} {e : Expr} {es : List Expr} {t : TA} {p pos : Pos} (D : DefQ X.prog X.w X.K X.mg X.base k x ps sp) (hr : Room k X.A) (ha : PA (X.suite a ((a, oe) :: pn)) (e :: es) t)
    (hg : Gl (X.suite a ((a, oe) :: pn)) x := by rfl) (hdb : (x == ("__debug__" : Str)) = false := by decide) (he : starEach (e :: es) X.env = (false, eval e X.env) :: starEach es X.env := by rfl) (hpl : (backTo pos (starEach es X.env)).any (·.1) = false := by rfl) :
    PE (X.suite a ((a, oe) :: pn)) (.Call (.Name x p) (e :: es) [] pos) (tCall sp [] E0 t) := by
  obtain ⟨f, fd, hm, hk, hbd, F⟩ := D
  refine ⟨fun pins s σ H Q I h => ?_⟩
  refine wpAny_Call_Name_kw (ld_glob I hg hm ?_ hdb)
  refine PySem.W.callWith_K (h₀ := X.base) I.ok.mod.kin hk (thn (ha.run pos pins s σ H _ I h) fun us s1 ⟨vs, H1, I1, rv, hsp⟩ => ⟨I1.kIn, ?_⟩) he hpl
  have hsp : sp (vs ++ []) H1 Q E0 := hsp
  rw [List.append_nil] at hsp
  have hl : us.length = ps.length := by rw [← rv.length]; exact F.len _ _ _ _ hsp
  have b0 := hbd s1 us I1.kIn (by rw [List.append_nil]; exact hl)
  rw [List.append_nil] at b0
  have P1 := I1.pin (a, oe) (List.mem_append_left _ List.mem_cons_self)
  have hpin : L2H.PinOk (X.suite a ((a, oe) :: pn)).stack H1 s1 (a, oe) := ⟨P1.1, P1.2.1, fun hm => (List.mem_cons.mp (I1.stkSub a hm)).elim P1.2.2.1 P1.2.2.2.1, P1.2.2.2.2⟩
  have room : L2H.RoomH k (X.suite a ((a, oe) :: pn)).A := ⟨hr.dp, hr.un⟩
  refine wpAny_call (codeAny_mono (F.run _ _ s1 H1 ⟨us, []⟩ us vs Q E0 (a, oe) room hpin I1.env0 b0 rv hsp) fun r s' hq => ?_)
  cases r with
  | error z => exact hq.elim
  | ok fl =>
    cases fl with
    | ret u => exact I1.after hq
    | next => exact False.elim hq
    | brk => exact False.elim hq
    | cont => exact False.elim hq
end Px

namespace K96
open PySem PySem.Spec PyProof.Rows L2 Px
/-! ### words, plainly: lists of signs -/
abbrev T (a : List Nat) : Str := SX.S a
def dg (c : Nat) : Bool := decide (48 ≤ c) && decide (c ≤ 57)
theorem dg_iff {c : Nat} : dg c = true ↔ 48 ≤ c ∧ c ≤ 57 := by
  unfold dg
  rw [Bool.and_eq_true, decide_eq_true_eq, decide_eq_true_eq]
/-- a count: digits, no leading 0 -/
def cnt : List Nat → Bool
  | [] => false
  | c :: r => (decide (c ≠ 48) || decide (r = [])) && (c :: r).all dg
theorem cnt_cons (c : Nat) (r : List Nat) : cnt (c :: r) = ((decide (c ≠ 48) || decide (r = [])) && (c :: r).all dg) := rfl
def whl (a : List Nat) : Bool := if a.head? = some 45 then cnt a.tail && decide (a.tail ≠ [48]) else cnt a
def ratP : List (List Nat) → Bool
  | [p, q] => whl p && (cnt q && decide (q ≠ [48]))
  | _ => false
def prt (a : List Nat) : List (List Nat) := TL.spl [47] 0 [] a
def rat (a : List Nat) : Bool := ratP (prt a)
/-- the steps of the law's reader -/
def stp (s c : Nat) : Nat :=
  if s = 0 ∧ c = 45 then 1 else if s = 0 ∧ c = 48 then 2 else if (s = 0 ∨ s = 1) ∧ (49 ≤ c ∧ c ≤ 57) then 3 else if s = 3 ∧ dg c = true then 3 else if (s = 2 ∨ s = 3) ∧ c = 47 then 4 else
  if s = 4 ∧ (49 ≤ c ∧ c ≤ 57) then 5 else if s = 5 ∧ dg c = true then 5 else 6
def run (s : Nat) (a : List Nat) : Nat := a.foldl stp s
theorem run_cons (s c : Nat) (r : List Nat) : run s (c :: r) = run (stp s c) r := rfl
theorem run_app (s : Nat) (p q : List Nat) : run s (p ++ q) = run (run s p) q := List.foldl_append
theorem run6 : ∀ a, run 6 a = 6
  | [] => rfl
  | c :: r => run6 r
theorem stp3 (c : Nat) : stp 3 c = if dg c = true then 3 else if c = 47 then 4 else 6 := by
  unfold stp
  split <;> simp_all
theorem stp5 (c : Nat) : stp 5 c = if dg c = true then 5 else 6 := by
  unfold stp
  split <;> simp_all
theorem stp4 (c : Nat) : stp 4 c = if 49 ≤ c ∧ c ≤ 57 then 5 else 6 := by
  unfold stp
  split <;> simp_all
theorem stp2 (c : Nat) : stp 2 c = if c = 47 then 4 else 6 := by
  unfold stp
  split <;> simp_all
theorem stp1 (c : Nat) : stp 1 c = if 49 ≤ c ∧ c ≤ 57 then 3 else 6 := by
  unfold stp
  split <;> simp_all
theorem stp0 (c : Nat) : stp 0 c = if c = 45 then 1 else if c = 48 then 2 else if 49 ≤ c ∧ c ≤ 57 then 3 else 6 := by
  unfold stp
  split <;> (try split) <;> (try split) <;> simp_all
theorem run5 : ∀ a, run 5 a = if a.all dg = true then 5 else 6
  | [] => rfl
  | c :: r => by
    rw [run_cons, stp5]
    by_cases h : dg c = true
    · rw [if_pos h, run5 r, List.all_cons, h, Bool.true_and]
    · rw [if_neg h, run6, List.all_cons, Bool.eq_false_iff.mpr h, Bool.false_and, if_neg Bool.false_ne_true]
theorem run3 : ∀ a, 47 ∉ a → run 3 a = if a.all dg = true then 3 else 6
  | [], _ => rfl
  | c :: r, h => by
    have h1 : c ≠ 47 := fun e => h (by rw [e]; exact List.mem_cons_self)
    have h2 : 47 ∉ r := fun e => h (List.mem_cons_of_mem _ e)
    rw [run_cons, stp3]
    by_cases q : dg c = true
    · rw [if_pos q, run3 r h2, List.all_cons, q, Bool.true_and]
    · rw [if_neg q, if_neg h1, run6, List.all_cons, Bool.eq_false_iff.mpr q, Bool.false_and, if_neg Bool.false_ne_true]
theorem cnt_cons1 {c : Nat} {r : List Nat} (h : 49 ≤ c ∧ c ≤ 57) : cnt (c :: r) = r.all dg := by
  have h1 : dg c = true := dg_iff.mpr ⟨by omega, h.2⟩
  have h2 : decide (c ≠ 48) = true := decide_eq_true (by omega)
  rw [cnt_cons, h2, List.all_cons, h1]
  rfl
theorem cnt_cons0 (r : List Nat) : cnt (48 :: r) = decide (r = []) := by
  have h1 : dg 48 = true := rfl
  have h2 : decide (48 ≠ 48) = false := rfl
  rw [cnt_cons, h2, Bool.false_or, List.all_cons, h1, Bool.true_and]
  cases r with
  | nil => rfl
  | cons x r => rfl
theorem cnt_not {c : Nat} {r : List Nat} (h : dg c = false) : cnt (c :: r) = false := by
  rw [cnt_cons, List.all_cons, h, Bool.false_and, Bool.and_false]
theorem run4 (a : List Nat) : run 4 a = if a = [] then 4 else if cnt a && decide (a ≠ [48]) then 5 else 6 := by
  cases a with
  | nil => rfl
  | cons c r =>
    rw [if_neg (List.cons_ne_nil _ _), run_cons, stp4]
    by_cases h : 49 ≤ c ∧ c ≤ 57
    · have n : decide (c :: r ≠ [48]) = true := decide_eq_true (fun e => by injection e; omega)
      rw [if_pos h, run5, cnt_cons1 h, n, Bool.and_true]
    · rw [if_neg h, run6]
      by_cases z : c = 48
      · subst z
        rw [cnt_cons0]
        cases r with
        | nil => rfl
        | cons x r => rfl
      · have : dg c = false := Bool.eq_false_iff.mpr fun e => by
          have := dg_iff.mp e
          omega
        rw [cnt_not this]
        rfl
theorem run2 (a : List Nat) (h : 47 ∉ a) : run 2 a = if a = [] then 2 else 6 := by
  cases a with
  | nil => rfl
  | cons c r =>
    have h1 : c ≠ 47 := fun e => h (by rw [e]; exact List.mem_cons_self)
    rw [run_cons, stp2, if_neg h1, run6]
    rfl
theorem run1 (a : List Nat) (h : 47 ∉ a) : run 1 a = if a = [] then 1 else if cnt a && decide (a ≠ [48]) then 3 else 6 := by
  cases a with
  | nil => rfl
  | cons c r =>
    have h2 : 47 ∉ r := fun e => h (List.mem_cons_of_mem _ e)
    rw [if_neg (List.cons_ne_nil _ _), run_cons, stp1]
    by_cases q : 49 ≤ c ∧ c ≤ 57
    · have n : decide (c :: r ≠ [48]) = true := decide_eq_true (fun e => by injection e; omega)
      rw [if_pos q, run3 _ h2, cnt_cons1 q, n, Bool.and_true]
    · rw [if_neg q, run6]
      by_cases z : c = 48
      · subst z
        rw [cnt_cons0]
        cases r with
        | nil => rfl
        | cons x r => rfl
      · have : dg c = false := Bool.eq_false_iff.mpr fun e => by
          have := dg_iff.mp e
          omega
        rw [cnt_not this]
        rfl
/-- without a stroke: states 2 and 3 are whole words, 4 and 5 are not reached -/
theorem run0 (a : List Nat) (h : 47 ∉ a) : ((run 0 a = 2 ∨ run 0 a = 3) ↔ whl a = true) ∧ run 0 a ≠ 4 ∧ run 0 a ≠ 5 := by
  cases a with
  | nil => decide
  | cons c r =>
    have h2 : 47 ∉ r := fun e => h (List.mem_cons_of_mem _ e)
    rw [run_cons, stp0]
    unfold whl
    rw [List.head?_cons, List.tail_cons]
    by_cases q : c = 45
    · rw [if_pos q, if_pos (by rw [q]), run1 _ h2]
      cases r with
      | nil => decide
      | cons x r =>
        rw [if_neg (List.cons_ne_nil _ _)]
        cases (cnt (x :: r) && decide (x :: r ≠ [48])) <;> decide
    · rw [if_neg q, if_neg (fun e => q (Option.some.inj e))]
      by_cases z : c = 48
      · subst z
        rw [if_pos rfl, run2 _ h2, cnt_cons0]
        split <;> simp_all
      · rw [if_neg z]
        by_cases y : 49 ≤ c ∧ c ≤ 57
        · rw [if_pos y, run3 _ h2, cnt_cons1 y]
          split <;> simp_all
        · rw [if_neg y, run6]
          have : dg c = false := Bool.eq_false_iff.mpr fun e => by
            have := dg_iff.mp e
            omega
          rw [cnt_not this]
          decide
theorem all_no {a : List Nat} (h : a.all dg = true) : 47 ∉ a := fun e => by
  have := List.all_eq_true.mp h 47 e
  exact absurd this (by decide)
theorem cnt_all {a : List Nat} (h : cnt a = true) : a.all dg = true ∧ a ≠ [] := by
  cases a with
  | nil => cases h
  | cons c r =>
    rw [cnt_cons, Bool.and_eq_true] at h
    exact ⟨h.2, List.cons_ne_nil _ _⟩
theorem whl_no {a : List Nat} (h : whl a = true) : 47 ∉ a := by
  unfold whl at h
  split at h
  · rename_i q
    rw [Bool.and_eq_true] at h
    cases a with
    | nil => cases q
    | cons c r =>
      have : c = 45 := Option.some.inj q
      subst this
      intro e
      rcases List.mem_cons.mp e with e | e
      · cases e
      · exact all_no (cnt_all h.1).1 e
  · exact all_no (cnt_all h).1
theorem cut47 {a : List Nat} (h : 47 ∈ a) : ∃ p q, a = p ++ 47 :: q ∧ 47 ∉ p := by
  induction a with
  | nil => cases h
  | cons c r ih =>
    by_cases e : c = 47
    · exact ⟨[], r, by rw [e]; rfl, fun z => nomatch z⟩
    · have : 47 ∈ r := by
        rcases List.mem_cons.mp h with h | h
        · exact absurd h.symm e
        · exact h
      obtain ⟨p, q, rfl, h2⟩ := ih this
      refine ⟨c :: p, q, rfl, fun z => ?_⟩
      rcases List.mem_cons.mp z with z | z
      · exact e z.symm
      · exact h2 z
theorem prt_no {a : List Nat} (h : 47 ∉ a) : prt a = [a] := by
  have := SX.spl_join (c := 47) (sep := []) (parts := [a]) (List.cons_ne_nil _ _) (fun p hp => by rw [List.mem_singleton.mp hp]; exact h)
  exact this
theorem prt_cut {p q : List Nat} (h : 47 ∉ p) : prt (p ++ 47 :: q) = p :: prt q := by
  have := SX.spl_free (sep := [47]) (p := p) q (List.cons_ne_nil _ _) (SX.free_head h)
  exact this
theorem prt_ne (a : List Nat) : prt a ≠ [] := by
  by_cases h : 47 ∈ a
  · obtain ⟨p, q, rfl, h2⟩ := cut47 h
    rw [prt_cut h2]
    exact List.cons_ne_nil _ _
  · rw [prt_no h]
    exact List.cons_ne_nil _ _
theorem stp_cut {s : Nat} (hs : s ≠ 4) : stp s 47 = if s = 2 ∨ s = 3 then 4 else 6 := by
  unfold stp
  have : dg 47 = false := rfl
  simp [this]
theorem run_cut {p q : List Nat} (h : 47 ∉ p) : run 0 (p ++ 47 :: q) = if whl p = true then run 4 q else 6 := by
  obtain ⟨h1, h2, h3⟩ := run0 p h
  rw [run_app, run_cons, stp_cut h2]
  by_cases z : whl p = true
  · rw [if_pos (h1.mpr z), if_pos z]
  · rw [if_neg (fun e => z (h1.mp e)), if_neg z, run6]
theorem run4_47 {p q : List Nat} (h : 47 ∉ p) : run 4 (p ++ 47 :: q) = 6 := by
  have e := run4 (p ++ 47 :: q)
  have n1 : p ++ 47 :: q ≠ [] := by simp
  have n2 : cnt (p ++ 47 :: q) = false := Bool.eq_false_iff.mpr fun z => all_no (cnt_all z).1 (by simp)
  rw [e, if_neg n1, n2]
  rfl
theorem rat_two {p q : List Nat} (h : 47 ∉ p) (h2 : 47 ∉ q) : rat (p ++ 47 :: q) = (whl p && (cnt q && decide (q ≠ [48]))) := by
  unfold rat
  rw [prt_cut h, prt_no h2]
  rfl
/-- the reader knows whole words and ratio words -/
theorem reads (a : List Nat) : ((run 0 a = 2 ∨ run 0 a = 3) ↔ whl a = true) ∧ (run 0 a = 5 ↔ rat a = true) := by
  by_cases h : 47 ∈ a
  · obtain ⟨p, q, rfl, h1⟩ := cut47 h
    have w : whl (p ++ 47 :: q) = false := Bool.eq_false_iff.mpr fun z => whl_no z (by simp)
    rw [w, run_cut h1]
    by_cases hq : 47 ∈ q
    · obtain ⟨p2, q2, rfl, h2⟩ := cut47 hq
      have r : rat (p ++ 47 :: (p2 ++ 47 :: q2)) = false := by
        unfold rat
        rw [prt_cut h1, prt_cut h2]
        cases e : prt q2 with
        | nil => exact absurd e (prt_ne q2)
        | cons x xs => rfl
      rw [r, run4_47 h2]
      split <;> decide
    · rw [rat_two h1 hq, run4]
      cases whl p with
      | false => simp
      | true =>
        rw [if_pos rfl, Bool.true_and]
        by_cases n : q = []
        · subst n
          decide
        · rw [if_neg n]
          cases (cnt q && decide (q ≠ [48])) <;> decide
  · obtain ⟨h1, h2, h3⟩ := run0 a h
    refine ⟨h1, fun e => absurd e h3, fun e => ?_⟩
    unfold rat at e
    rw [prt_no h] at e
    cases e
theorem rat_cut {a : List Nat} (h : rat a = true) : ∃ p q, a = p ++ 47 :: q ∧ 47 ∉ p ∧ 47 ∉ q ∧ whl p = true ∧ cnt q = true ∧ q ≠ [48] ∧ prt a = [p, q] := by
  by_cases h47 : 47 ∈ a
  · obtain ⟨p, q, rfl, h1⟩ := cut47 h47
    by_cases hq : 47 ∈ q
    · obtain ⟨p2, q2, rfl, h2⟩ := cut47 hq
      unfold rat at h
      rw [prt_cut h1, prt_cut h2] at h
      cases e : prt q2 with
      | nil => exact absurd e (prt_ne q2)
      | cons x xs => rw [e] at h; cases h
    · rw [rat_two h1 hq, Bool.and_eq_true, Bool.and_eq_true, decide_eq_true_eq] at h
      exact ⟨p, q, rfl, h1, hq, h.1, h.2.1, h.2.2, by rw [prt_cut h1, prt_no hq]⟩
  · unfold rat at h
    rw [prt_no h47] at h
    cases h
/-! ### the numbers that are read -/
def rd (x : Nat × Nat × Nat) (c : Nat) : Nat × Nat × Nat := (stp x.1 c, if stp x.1 c = 3 then 10 * x.2.1 + (c - 48) else x.2.1, if stp x.1 c = 5 then 10 * x.2.2 + (c - 48) else x.2.2)
def rdl (x : Nat × Nat × Nat) (a : List Nat) : Nat × Nat × Nat := a.foldl rd x
theorem rdl_st : ∀ (a : List Nat) (x : Nat × Nat × Nat), (rdl x a).1 = run x.1 a
  | [], _ => rfl
  | c :: r, x => rdl_st r (rd x c)
theorem rdl_app (x : Nat × Nat × Nat) (p q : List Nat) : rdl x (p ++ q) = rdl (rdl x p) q := List.foldl_append
theorem rdl3 : ∀ (a : List Nat) (t b : Nat), a.all dg = true → rdl (3, t, b) a = (3, a.foldl (fun acc c => acc * 10 + (c - 48)) t, b)
  | [], _, _, _ => rfl
  | c :: r, t, b, h => by
    rw [List.all_cons, Bool.and_eq_true] at h
    have e : rd (3, t, b) c = (3, t * 10 + (c - 48), b) := by
      unfold rd
      rw [stp3, if_pos h.1]
      simp [Nat.mul_comm]
    show rdl (rd (3, t, b) c) r = _
    rw [e, rdl3 r _ _ h.2]
    rfl
theorem rdl5 : ∀ (a : List Nat) (t b : Nat), a.all dg = true → rdl (5, t, b) a = (5, t, a.foldl (fun acc c => acc * 10 + (c - 48)) b)
  | [], _, _, _ => rfl
  | c :: r, t, b, h => by
    rw [List.all_cons, Bool.and_eq_true] at h
    have e : rd (5, t, b) c = (5, t, b * 10 + (c - 48)) := by
      unfold rd
      rw [stp5, if_pos h.1]
      simp [Nat.mul_comm]
    show rdl (rd (5, t, b) c) r = _
    rw [e, rdl5 r _ _ h.2]
    rfl
/-- the digits of a whole word -/
def ab (p : List Nat) : List Nat := if p.head? = some 45 then p.tail else p
theorem cnt_rd {s : Nat} (hs : s = 0 ∨ s = 1) {a : List Nat} (h : cnt a = true) (h0 : s = 1 → a ≠ [48]) : ((rdl (s, 0, 0) a).1 = 2 ∨ (rdl (s, 0, 0) a).1 = 3) ∧ (rdl (s, 0, 0) a).2 = (NumText.digitsVal a, 0) := by
  cases a with
  | nil => cases h
  | cons c r =>
    by_cases z : c = 48
    · subst z
      rw [cnt_cons0] at h
      have := of_decide_eq_true h
      subst this
      rcases hs with e | e
      · subst e
        decide
      · exact absurd rfl (h0 e)
    · have hd : dg c = true := by
        have := (cnt_all h).1
        rw [List.all_cons, Bool.and_eq_true] at this
        exact this.1
      have hr : r.all dg = true := by
        have := (cnt_all h).1
        rw [List.all_cons, Bool.and_eq_true] at this
        exact this.2
      have hc := dg_iff.mp hd
      have e : rd (s, 0, 0) c = (3, c - 48, 0) := by
        unfold rd
        have : stp s c = 3 := by
          rcases hs with e | e
          · rw [e, stp0, if_neg (by omega), if_neg z, if_pos ⟨by omega, hc.2⟩]
          · rw [e, stp1, if_pos ⟨by omega, hc.2⟩]
        rw [this]
        simp
      have e2 : rdl (s, 0, 0) (c :: r) = (3, NumText.digitsVal (c :: r), 0) := by
        show rdl (rd (s, 0, 0) c) r = _
        rw [e, rdl3 r _ _ hr]
        unfold NumText.digitsVal
        rw [List.foldl_cons, Nat.zero_mul, Nat.zero_add]
      rw [e2]
      exact ⟨.inr rfl, rfl⟩
theorem whl_rd {p : List Nat} (h : whl p = true) : ((rdl (0, 0, 0) p).1 = 2 ∨ (rdl (0, 0, 0) p).1 = 3) ∧ (rdl (0, 0, 0) p).2 = (NumText.digitsVal (ab p), 0) := by
  unfold whl at h
  unfold ab
  split at h
  · rename_i q
    rw [if_pos q]
    rw [Bool.and_eq_true, decide_eq_true_eq] at h
    cases p with
    | nil => cases q
    | cons c r =>
      have : c = 45 := Option.some.inj q
      subst this
      have e : rd (0, 0, 0) 45 = (1, 0, 0) := by decide
      show ((rdl (rd (0, 0, 0) 45) r).1 = 2 ∨ (rdl (rd (0, 0, 0) 45) r).1 = 3) ∧ (rdl (rd (0, 0, 0) 45) r).2 = _
      rw [e]
      exact cnt_rd (.inr rfl) h.1 (fun _ => h.2)
  · rename_i q
    rw [if_neg q]
    exact cnt_rd (.inl rfl) h (fun e => by cases e)
theorem rat_rd {p q : List Nat} (hp : whl p = true) (hq : cnt q = true) (h0 : q ≠ [48]) : rdl (0, 0, 0) (p ++ 47 :: q) = (5, NumText.digitsVal (ab p), NumText.digitsVal q) := by
  obtain ⟨h1, h2⟩ := whl_rd hp
  obtain ⟨s, t, b, e⟩ : ∃ s t b, rdl (0, 0, 0) p = (s, t, b) := ⟨_, _, _, rfl⟩
  rw [e] at h1 h2
  have h1 : s = 2 ∨ s = 3 := h1
  injection h2 with h2 h3
  have h2 : t = NumText.digitsVal (ab p) := h2
  have h3 : b = 0 := h3
  rw [rdl_app, e]
  subst h2 h3
  have e4 : rd (s, NumText.digitsVal (ab p), 0) 47 = (4, NumText.digitsVal (ab p), 0) := by
    unfold rd
    have : stp s 47 = 4 := by rw [stp_cut (by omega), if_pos h1]
    rw [this]
    rfl
  show rdl (rd (s, NumText.digitsVal (ab p), 0) 47) q = _
  rw [e4]
  cases q with
  | nil => cases hq
  | cons c r =>
    have ha := (cnt_all hq).1
    rw [List.all_cons, Bool.and_eq_true] at ha
    have hc := dg_iff.mp ha.1
    have z : c ≠ 48 := fun z => by
      subst z
      rw [cnt_cons0] at hq
      exact h0 (by rw [of_decide_eq_true hq])
    have e5 : rd (4, NumText.digitsVal (ab p), 0) c = (5, NumText.digitsVal (ab p), c - 48) := by
      unfold rd
      have : stp 4 c = 5 := by rw [stp4, if_pos ⟨by omega, hc.2⟩]
      rw [this]
      simp
    show rdl (rd (4, NumText.digitsVal (ab p), 0) c) r = _
    rw [e5, rdl5 r _ _ ha.2]
    unfold NumText.digitsVal
    rw [List.foldl_cons, Nat.zero_mul, Nat.zero_add]
/-! ### bounds, written numbers -/
theorem val_lt : ∀ (a : List Nat), a.all dg = true → NumText.digitsVal a < 10 ^ a.length := by
  intro a
  have key : ∀ (a : List Nat) (t n : Nat), a.all dg = true → t < 10 ^ n → a.foldl (fun acc c => acc * 10 + (c - 48)) t < 10 ^ (n + a.length) := by
    intro a
    induction a with
    | nil => intro t n _ h; exact h
    | cons c r ih =>
      intro t n h ht
      rw [List.all_cons, Bool.and_eq_true] at h
      have hc := dg_iff.mp h.1
      have := ih (t * 10 + (c - 48)) (n + 1) h.2 (by rw [Nat.pow_succ]; omega)
      rw [List.foldl_cons, List.length_cons, show n + (r.length + 1) = n + 1 + r.length by omega]
      exact this
  intro h
  have := key a 0 0 h (by decide)
  rw [Nat.zero_add] at this
  exact this
theorem val_pos {a : List Nat} (h : cnt a = true) (h0 : a ≠ [48]) : 0 < NumText.digitsVal a := by
  cases a with
  | nil => cases h
  | cons c r =>
    have ha := (cnt_all h).1
    rw [List.all_cons, Bool.and_eq_true] at ha
    have hc := dg_iff.mp ha.1
    have z : c ≠ 48 := fun z => by
      subst z
      rw [cnt_cons0] at h
      exact h0 (by rw [of_decide_eq_true h])
    exact NumText.digitsVal_pos (by omega)
/-- a whole word's number -/
def wv (p : List Nat) : Int := if p.head? = some 45 then -((NumText.digitsVal (ab p) : Nat) : Int) else ((NumText.digitsVal (ab p) : Nat) : Int)
theorem alld {a : List Nat} (h : a.all dg = true) : NumText.AllDigits a := fun c hc => dg_iff.mp (List.all_eq_true.mp h c hc)
theorem int_whl {p : List Nat} (h : whl p = true) (hl : p.length ≤ 640) : intText? (T p) = some (wv p) := by
  unfold whl at h
  unfold wv ab
  split at h
  · rename_i q
    rw [if_pos q, if_pos q]
    rw [Bool.and_eq_true] at h
    cases p with
    | nil => cases q
    | cons c r =>
      have : c = 45 := Option.some.inj q
      subst this
      obtain ⟨a, b⟩ := cnt_all h.1
      exact intText_neg (x := T (45 :: r)) rfl (alld a) b (by rw [SX.S_len]; omega)
  · rename_i q
    rw [if_neg q, if_neg q]
    obtain ⟨a, b⟩ := cnt_all h
    exact intText_digits (x := T p) (alld a) b (by rw [SX.S_len]; omega)
theorem int_cnt {p : List Nat} (h : cnt p = true) (hl : p.length ≤ 640) : intText? (T p) = some ((NumText.digitsVal p : Nat) : Int) := by
  obtain ⟨a, b⟩ := cnt_all h
  exact intText_digits (x := T p) (alld a) b (by rw [SX.S_len]; omega)
theorem wv_abs {p : List Nat} (h : whl p = true) : (wv p).natAbs < 10 ^ p.length := by
  unfold whl at h
  unfold wv ab
  split at h
  · rename_i q
    rw [if_pos q, if_pos q]
    rw [Bool.and_eq_true] at h
    have := val_lt _ (cnt_all h.1).1
    rw [Int.natAbs_neg, Int.natAbs_natCast]
    refine Nat.lt_of_lt_of_le this (Nat.pow_le_pow_right (by decide) ?_)
    rw [List.length_tail]
    omega
  · rename_i q
    rw [if_neg q, if_neg q, Int.natAbs_natCast]
    exact val_lt _ (cnt_all h).1
theorem cnt_num (n : Nat) : cnt (TL.numL n) = true ∧ (0 < n → TL.numL n ≠ [48]) := by
  have ha : (TL.numL n).all dg = true := List.all_eq_true.mpr fun c hc => dg_iff.mpr (TL.numL_digits n c hc)
  have hne := TL.numL_ne n
  have hv := TL.numL_val n
  refine ⟨?_, fun h e => ?_⟩
  · have key : ∀ n : Nat, 0 < n → ∃ c r, TL.numL n = c :: r ∧ c ≠ 48 := by
      intro n
      induction n using Nat.strongRecOn with
      | _ n ih =>
        intro h0
        by_cases h : n < 10
        · exact ⟨48 + n, [], TL.numL_lt h, by omega⟩
        · obtain ⟨c, r, e, hc⟩ := ih (n / 10) (by omega) (by omega)
          exact ⟨c, r ++ [48 + n % 10], by rw [TL.numL_step (by omega), e]; rfl, hc⟩
    by_cases h0 : n = 0
    · rw [h0, TL.numL_lt (by decide)]
      rfl
    · obtain ⟨c, r, e, hc⟩ := key n (by omega)
      rw [e] at ha ⊢
      rw [cnt_cons, ha, decide_eq_true hc]
      rfl
  · rw [e] at hv
    have : NumText.digitsVal [48] = 0 := rfl
    omega
end K96

namespace K96
open PySem PySem.Spec PyProof.Rows L2 Px
def top (i : Nat) : Stmt := PySem.Challenge.pw_solvedpapers_k96_ratio_words.main.body.getD i (.Pass ⟨0, 0, 0, 0⟩)
abbrev s_is_count : Stmt := top 16
theorem sc_is_count : FnScope ["text", "char"] ["text"] (defScope s_is_count) := ⟨rfl, rfl, rfl, by decide +kernel, rfl, by decide +kernel, by decide +kernel⟩
abbrev s_is_whole_word : Stmt := top 17
theorem sc_is_whole_word : FnScope ["text"] ["text"] (defScope s_is_whole_word) := ⟨rfl, rfl, rfl, by decide +kernel, rfl, by decide +kernel, by decide +kernel⟩
abbrev s_is_ratio_word : Stmt := top 18
theorem sc_is_ratio_word : FnScope ["text", "parts"] ["text"] (defScope s_is_ratio_word) := ⟨rfl, rfl, rfl, by decide +kernel, rfl, by decide +kernel, by decide +kernel⟩
abbrev s_ratio : Stmt := top 20
theorem sc_ratio : FnScope ["p", "q", "divisor"] ["p", "q"] (defScope s_ratio) := ⟨rfl, rfl, rfl, by decide +kernel, rfl, by decide +kernel, by decide +kernel⟩
abbrev s_ratio_text : Stmt := top 21
theorem sc_ratio_text : FnScope ["a"] ["a"] (defScope s_ratio_text) := ⟨rfl, rfl, rfl, by decide +kernel, rfl, by decide +kernel, by decide +kernel⟩
abbrev s_parse_ratio : Stmt := top 22
theorem sc_parse_ratio : FnScope ["text", "top", "bottom"] ["text"] (defScope s_parse_ratio) := ⟨rfl, rfl, rfl, by decide +kernel, rfl, by decide +kernel, by decide +kernel⟩
abbrev s_law_pool : Stmt := top 24
theorem sc_law_pool : FnScope ["script", "k", "cell", "spare"] ["script", "k"] (defScope s_law_pool) := ⟨rfl, rfl, rfl, by decide +kernel, rfl, by decide +kernel, by decide +kernel⟩
abbrev s_law_take : Stmt := top 25
theorem sc_law_take : FnScope ["pool", "size", "k", "cell", "mixed"] ["pool", "size"] (defScope s_law_take) := ⟨rfl, rfl, rfl, by decide +kernel, rfl, by decide +kernel, by decide +kernel⟩
abbrev s_law_whole : Stmt := top 26
theorem sc_law_whole : FnScope ["value"] ["value"] (defScope s_law_whole) := ⟨rfl, rfl, rfl, by decide +kernel, rfl, by decide +kernel, by decide +kernel⟩
abbrev s_law_sized : Stmt := top 27
theorem sc_law_sized : FnScope ["pool", "pieces", "size", "total", "k"] ["pool", "pieces"] (defScope s_law_sized) := ⟨rfl, rfl, rfl, by decide +kernel, rfl, by decide +kernel, by decide +kernel⟩
abbrev s_law_lowest : Stmt := top 28
theorem sc_law_lowest : FnScope ["p", "q", "a", "b", "k"] ["p", "q"] (defScope s_law_lowest) := ⟨rfl, rfl, rfl, by decide +kernel, rfl, by decide +kernel, by decide +kernel⟩
abbrev s_law_digits : Stmt := top 29
theorem sc_law_digits : FnScope ["pool", "most", "text", "many", "k"] ["pool", "most"] (defScope s_law_digits) := ⟨rfl, rfl, rfl, by decide +kernel, rfl, by decide +kernel, by decide +kernel⟩
abbrev s_law_word : Stmt := top 30
theorem sc_law_word : FnScope ["pool", "most", "pick"] ["pool", "most"] (defScope s_law_word) := ⟨rfl, rfl, rfl, by decide +kernel, rfl, by decide +kernel, by decide +kernel⟩
abbrev s_law_signs : Stmt := top 31
theorem sc_law_signs : FnScope ["signs"] [] (defScope s_law_signs) := ⟨rfl, rfl, rfl, by decide +kernel, rfl, by decide +kernel, by decide +kernel⟩
abbrev s_law_sign : Stmt := top 32
theorem sc_law_sign : FnScope ["pool", "signs"] ["pool"] (defScope s_law_sign) := ⟨rfl, rfl, rfl, by decide +kernel, rfl, by decide +kernel, by decide +kernel⟩
abbrev s_law_spoilt : Stmt := top 33
theorem sc_law_spoilt : FnScope ["pool", "text", "at", "way"] ["pool", "text"] (defScope s_law_spoilt) := ⟨rfl, rfl, rfl, by decide +kernel, rfl, by decide +kernel, by decide +kernel⟩
abbrev s_law_odd : Stmt := top 34
theorem sc_law_odd : FnScope ["pool", "odd"] ["pool"] (defScope s_law_odd) := ⟨rfl, rfl, rfl, by decide +kernel, rfl, by decide +kernel, by decide +kernel⟩
abbrev s_law_free : Stmt := top 35
theorem sc_law_free : FnScope ["pool", "signs", "many", "k"] ["pool"] (defScope s_law_free) := ⟨rfl, rfl, rfl, by decide +kernel, rfl, by decide +kernel, by decide +kernel⟩
abbrev s_law_text : Stmt := top 36
theorem sc_law_text : FnScope ["pool", "way", "text"] ["pool"] (defScope s_law_text) := ⟨rfl, rfl, rfl, by decide +kernel, rfl, by decide +kernel, by decide +kernel⟩
abbrev s_law_step : Stmt := top 37
theorem sc_law_step : FnScope ["state", "sign"] ["state", "sign"] (defScope s_law_step) := ⟨rfl, rfl, rfl, by decide +kernel, rfl, by decide +kernel, by decide +kernel⟩
abbrev s_law_read : Stmt := top 38
theorem sc_law_read : FnScope ["text", "state", "top", "bottom", "sign"] ["text"] (defScope s_law_read) := ⟨rfl, rfl, rfl, by decide +kernel, rfl, by decide +kernel, by decide +kernel⟩
abbrev s_law_is : Stmt := top 39
theorem sc_law_is : FnScope ["told", "top", "bottom"] ["told", "top", "bottom"] (defScope s_law_is) := ⟨rfl, rfl, rfl, by decide +kernel, rfl, by decide +kernel, by decide +kernel⟩
abbrev s_law_refused : Stmt := top 40
theorem sc_law_refused : FnScope ["text", "e"] ["text"] (defScope s_law_refused) := ⟨rfl, rfl, rfl, by decide +kernel, rfl, by decide +kernel, by decide +kernel⟩
abbrev s_law_refused_by_base : Stmt := top 41
theorem sc_law_refused_by_base : FnScope ["text", "e"] ["text"] (defScope s_law_refused_by_base) := ⟨rfl, rfl, rfl, by decide +kernel, rfl, by decide +kernel, by decide +kernel⟩
abbrev s_law_asked : Stmt := top 42
theorem sc_law_asked : FnScope ["text", "how", "state", "top", "bottom", "told"] ["text", "how"] (defScope s_law_asked) := ⟨rfl, rfl, rfl, by decide +kernel, rfl, by decide +kernel, by decide +kernel⟩
abbrev s_law_written : Stmt := top 43
theorem sc_law_written : FnScope ["pair", "own", "told"] ["pair"] (defScope s_law_written) := ⟨rfl, rfl, rfl, by decide +kernel, rfl, by decide +kernel, by decide +kernel⟩
abbrev s_law : Stmt := top 44
theorem sc_law : FnScope ["script", "k", "pool", "text", "how", "top", "pair"] ["script"] (defScope s_law) := ⟨rfl, rfl, rfl, by decide +kernel, rfl, by decide +kernel, by decide +kernel⟩
abbrev s_BadText___init__ : Stmt := inClass (top 9) 0
theorem sc_BadText___init__ : FnScope ["self", "place"] ["self", "place"] (defScope s_BadText___init__) := ⟨rfl, rfl, rfl, by decide +kernel, rfl, by decide +kernel, by decide +kernel⟩
structure Bn (mg : Str → Option Value) : Prop where
  ValueError : mg "ValueError" = none
  abs : mg "abs" = none
  bool_ : mg "bool" = none
  int_ : mg "int" = none
  isinstance : mg "isinstance" = none
  len : mg "len" = none
  max_ : mg "max" = none
  min_ : mg "min" = none
  range : mg "range" = none
  str_ : mg "str" = none
  tuple_ : mg "tuple" = none
  gcd : mg "gcd" = some (.builtin "math.gcd")
  g_DIGITS : ∃ u, mg "DIGITS" = some u ∧ RelV (.str "0123456789") u
theorem l_e : Str.ofString "" = Tx [] := rfl
theorem l_0 : Str.ofString "0" = Tx [48] := rfl
theorem l_m : Str.ofString "-" = Tx [45] := rfl
theorem l_m0 : Str.ofString "-0" = Tx [45, 48] := rfl
theorem l_s : Str.ofString "/" = Tx [47] := rfl
theorem l_d : Str.ofString "0123456789" = Tx [48, 49, 50, 51, 52, 53, 54, 55, 56, 57] := rfl
theorem l_1 : Str.ofString "123456789" = Tx [49, 50, 51, 52, 53, 54, 55, 56, 57] := rfl
theorem in_d {c : Nat} : (c ∈ [48, 49, 50, 51, 52, 53, 54, 55, 56, 57]) = (dg c = true) := by
  refine propext ?_
  rw [dg_iff]
  simp only [List.mem_cons, List.not_mem_nil, or_false]
  omega
theorem in_1 {c : Nat} : (c ∈ [49, 50, 51, 52, 53, 54, 55, 56, 57]) = (49 ≤ c ∧ c ≤ 57) := by
  refine propext ?_
  simp only [List.mem_cons, List.not_mem_nil, or_false]
  omega
section
variable {P : Program} {w : World} {K : PySem.W.Frag} {mg : Str → Option Value} {base : Heap}
theorem ok_take (B : Bn mg) (F : FunAt K mg "_law_take" s_law_take) : Def P w K mg base CX0 1 "_law_take" ["pool", "size"] spTake := by
  refine F.ok sc_law_take (fun _ _ _ _ _ _ us hl => match us, hl with | [_, _], _ => rfl) (fun vs H Q E h => by obtain ⟨p, n, rfl, _⟩ := h; rfl) (fun f cdv A outer s H vs Q E hr h => ?_)
  obtain ⟨p, n, rfl, ⟨c, k, b, s0, hp⟩, hn, q⟩ := h
  refine ⟨_, pss_cons (ps_set (i := 2) sc_law_take.nd rfl (Or.inl rfl) (pe_ix ix_H (pv 0) pe_int (fun _ _ => rfl))) (
  pss_cons (ps_asg (pe_op op_add (pv 2) pe_int) (pg_sub (pv 0) pe_int set_list)) (
  pss_cons (ps_set (i := 3) sc_law_take.nd rfl (Or.inl rfl) (pe_ix ix_H (pv 0) pe_int (fun _ _ => rfl))) (
  pss_cons (ps_if (PW.pt (pw_and (pt_val (pe_ix ix_H (pv 0) pe_int (fun _ _ => rfl))) (pw_and1 (pt_cmpR op_gt (pv 3) pe_int (nomark _))))) (pss_cons (ps_asg (pe_op op_fdiv (pv 3) (pv 1)) (pg_sub (pv 0) pe_int set_list)) (
  pss_one (ps_ret (pe_op op_mod (pe_callTy call_intI rfl B.int_ (by decide +kernel) (pa_cons (pv 3) pa_nil)) (pv 1))))) (pss_nil)) (
  pss_cons (ps_if (pt_val (pe_ix ix_H (pv 0) pe_int (fun _ _ => rfl))) (pss_one (ps_set (i := 3) sc_law_take.nd rfl (Or.inl rfl) (pe_ix ix_H (pv 0) pe_int (fun _ _ => rfl)))) (pss_nil)) (
  pss_cons (ps_set (i := 4) sc_law_take.nd rfl (Or.inl rfl) (pe_op op_mod (pe_callTy call_intI rfl B.int_ (by decide +kernel) (pa_cons (pe_op op_add (pe_op op_add (pv 3) (pe_op op_mul pe_int (pv 2))) pe_int) pa_nil)) pe_int)) (
  pss_cons (ps_set (i := 4) sc_law_take.nd rfl (Or.inl rfl) (pe_op op_mod (pe_callTy call_intI rfl B.int_ (by decide +kernel) (pa_cons (pe_op op_mul (pv 4) (pe_op op_add (pv 4) pe_int)) pa_nil)) pe_int)) (
  pss_cons (ps_set (i := 4) sc_law_take.nd rfl (Or.inl rfl) (pe_op op_mod (pe_callTy call_intI rfl B.int_ (by decide +kernel) (pa_cons (pe_op op_add (pe_op op_mul (pv 4) (pe_op op_add (pv 4) pe_int)) (pe_op op_mul pe_int (pv 2))) pa_nil)) pe_int)) (
  pss_one (ps_ret (pe_op op_mod (pe_callTy call_intI rfl B.int_ (by decide +kernel) (pa_cons (pe_op op_fdiv (pv 4) pe_int) pa_nil)) (pv 1))))))))))), ?_⟩
  show tSeq _ _ _ [some (.ref p), some (.int n), none, none, none] H
  refine go_seq ?_
  simp only [decide_true, decide_false, List.map_cons, List.map_nil, Option.map_none, Option.map_some, Option.getD_none, Option.getD_some, Px.dg2, Px.dg1, Px.dg, Px.din, Px.dnotin, Px.dnew, Px.dput, Px.isD_is, Px.dget_i, Px.dget_s, Px.dput_i, Px.dput_s, Px.dOf_d, Px.rtup, Px.rlist, Px.rsl, Px.rsort, Px.rcat, Px.rapp, Px.rrev, Px.sl_ap, Px.nop, Px.part, Px.yes, Px.tyl, Px.isL_l, Px.isT_t, Px.isL_t, Px.isT_l, Px.isD_d, Px.isT_d, Px.inV_ints, Px.flat_ints, Px.flatV_i, Px.wipe_cons, Px.wipe_nil, Px.gtup, Px.gcons, Px.gnil, gt_iff_lt, ge_iff_le, Px.we, Px.wonly, Px.was, Px.cxK, not_true_eq_false, and_self, true_implies, false_implies, implies_true, Px.e0, and_assoc, imp_false, not_false_eq_true, ne_eq, Px.rgcd, Px.rixl, Px.rixt, Px.v0, Px.v1, Px.v2, Px.v3, Px.v4, Px.v5, Px.v6, Px.v7, Px.v8, Px.v9, Px.v10, Px.v11, Px.v12, Px.v13, Px.v14, Px.v15, Px.v16, Px.v17, Px.v18, Px.v19, Px.v20, Px.v21, Px.v22, Px.v23, Px.c0, Px.asg, Px.gnm, Px.ret, Px.retN, Px.drop, Px.nxt, Px.brk, Px.cnt, Px.ifs, Px.op, Px.un, Px.tst, Px.tbl, Px.tand, Px.tor, Px.tnot, Px.andv, Px.orv, Px.notv, Px.tif, Px.tup, Px.lst, Px.nil, Px.cons, Px.cal, Px.calS, Px.cb, Px.par, Px.gsub, Px.bits, Px.bm, Px.bm0, Px.ri, Px.ri0, Px.ru, Px.req, Px.rne, Px.rix, Px.rlen, Px.rin, Px.rsetl, Px.risi, Px.tyH_n, Px.tyH_b, Px.tyH_i, Px.tyH_s, Px.tyH_r, Px.seqH_t, Px.seqH_l, Px.seqH_fl, Px.sc_ii, Px.sc_bb, Px.sc_ss, Px.atI0, Px.atI1, Px.atI2, Px.atI3, Px.atI4, Px.atI5, Px.atI6, Px.atI7, Px.kb_NoneType_int, Px.kb_NoneType_bool, Px.kb_NoneType_str, Px.kb_NoneType_list, Px.kb_NoneType_tuple, Px.kb_NoneType_dict, Px.kb_bool_int, Px.kb_bool_bool, Px.kb_bool_str, Px.kb_bool_list, Px.kb_bool_tuple, Px.kb_bool_dict, Px.kb_int_int, Px.kb_int_bool, Px.kb_int_str, Px.kb_int_list, Px.kb_int_tuple, Px.kb_int_dict, Px.kb_str_int, Px.kb_str_bool, Px.kb_str_str, Px.kb_str_list, Px.kb_str_tuple, Px.kb_str_dict, Px.kb_list_int, Px.kb_list_bool, Px.kb_list_str, Px.kb_list_list, Px.kb_list_tuple, Px.kb_list_dict, Px.kb_tuple_int, Px.kb_tuple_bool, Px.kb_tuple_str, Px.kb_tuple_list, Px.kb_tuple_tuple, Px.kb_tuple_dict, Px.kb_dict_int, Px.kb_dict_bool, Px.kb_dict_str, Px.kb_dict_list, Px.kb_dict_tuple, Px.kb_dict_dict, L2.upd_same, Px.updI, L2.ixN, List.set_cons_zero, List.set_cons_succ, List.length_cons, List.length_nil, Nat.reduceAdd, Nat.zero_add, L2.HO.lst.injEq, L2.HO.tup.injEq, L2.upd_upd, L2.V.int.injEq, L2.V.ref.injEq, L2.V.bl.injEq, L2.V.str.injEq, L2.V.ty.injEq, List.cons.injEq, and_true, true_and, and_false, false_and, or_false, false_or, exists_eq_left', exists_eq_left, exists_and_left, exists_const, exists_false, Option.some.injEq, decide_eq_true_eq, List.append_nil, List.cons_append, List.nil_append, Option.isSome_some, Bool.not_true, Bool.not_false, Bool.not_eq_true', Bool.not_eq_true, Bool.false_eq_true, decide_eq_false_iff_not, if_true, if_false, ite_true, ite_false, Int.reduceLE, Int.reduceLT, Int.reduceToNat, Int.cast_ofNat_Int, Bool.true_eq_false, eq_self, ↓reduceIte, reduceCtorEq, Px.aug, Px.ipi, Px.tri, Px.rcatth, Px.rixs, Px.rsls, Px.tm1, Px.glst, Px.nstr, Px.txI, Px.txC, Px.txL, Px.txA, Px.rsgn, Px.txf, Px.tost, Px.tmko, Px.risxd, *, Px.seq]
  have nt : isT (H p) = false := by rw [hp]; rfl
  have fin : ∀ (x : Int) (c' k' : Int) (b' : Bool) (s' : Int), Q (.int (x % n)) (upd H p (.lst [.int c', .int k', .bl b', .int s'])) := fun x c' k' b' s' =>
    q _ _ (Int.emod_nonneg x (by omega)) (Int.emod_lt_of_pos x (by omega)) ⟨_, _, _, _, upd_same⟩ (But.mut (But.rfl' p H)) ((Tu.rfl' H).mut nt)
  have d1 : CDiv c n := ⟨hn.1, by omega⟩
  have d2 : ∀ x, CDiv x 9 := fun x => ⟨by decide, by decide⟩
  have m1 : CMul 7919 k := cmul_lit (by decide) (by decide)
  have m2 : CMul 31 k := cmul_lit (by decide) (by decide)
  have m3 : ∀ x y, CMul (x % 2147483647) y := fun x y => cmul_mod (by decide) (by decide)
  have m4 : ∀ x y, CMul (x % 2147483629) y := fun x y => cmul_mod (by decide) (by decide)
  split <;> (try split) <;> (try split) <;> first
    | exact ⟨d1, fin _ _ _ _ _⟩
    | exact ⟨m1, m3 _ _, m4 _ _, m2, d2 _, fin _ _ _ _ _⟩
theorem ok_pool (B : Bn mg) (F : FunAt K mg "_law_pool" s_law_pool) : Def P w K mg base CX0 1 "_law_pool" ["script", "k"] (spPool K) := by
  refine F.ok sc_law_pool (fun _ _ _ _ _ _ us hl => match us, hl with | [_, _], _ => rfl) (fun vs H Q E h => by obtain ⟨p, n, k, rfl, _⟩ := h; rfl) (fun f cdv A outer s H vs Q E hr h => ?_)
  obtain ⟨a, ns, k, rfl, hS, hk, q⟩ := h
  refine ⟨_, pss_cons (ps_set (i := 2) sc_law_pool.nd rfl (Or.inl rfl) (pe_op op_add (pe_op op_mul pe_int (pv 1)) pe_int)) (
  pss_cons (ps_set (i := 3) sc_law_pool.nd rfl (Or.inl rfl) (pe_op op_add (pe_op op_mul pe_int (pv 1)) pe_int)) (
  pcut (ps_if (pt_cmpR op_lt (pv 1) (pe_callB call_len_seq rfl B.len (by decide +kernel) (pa_cons (pv 0) pa_nil)) (nomark _)) (pss_one (ps_set (i := 2) sc_law_pool.nd rfl (Or.inl rfl) (pe_ix ix_list (pv 0) (pv 1) (fun _ _ => rfl)))) (pss_nil)) (
  pcut (ps_if (pt_cmpR op_lt (pe_op op_add (pv 1) pe_int) (pe_callB call_len_seq rfl B.len (by decide +kernel) (pa_cons (pv 0) pa_nil)) (nomark _)) (pss_one (ps_set (i := 3) sc_law_pool.nd rfl (Or.inl rfl) (pe_ix ix_list (pv 0) (pe_op op_add (pv 1) pe_int) (fun _ _ => rfl)))) (pss_nil)) (
  pss_one (ps_ret (pe_lst (pa_cons (pv 2) (pa_cons pe_int (pa_cons (pe_cmpR op_ge (pv 2) (pe_op op_pow pe_int pe_int) (nomark _)) (pa_cons (pv 3) pa_nil)))))))))), ?_⟩
  show tSeq _ _ _ [some (.ref a), some (.int k), none, none] H
  have fin : ∀ x y : V, ∀ c k' b s, x = .int c → y = .int s → ∀ p, H p = none → Q (.ref p) (upd H p (.lst [x, .int k', .bl b, y])) := fun x y c k' b s e1 e2 p hp => by
    subst e1 e2
    exact q p _ hp ⟨_, _, _, _, upd_same⟩ (Ext.new (Ext.rfl' H) hp)
  refine go_seq ?_
  simp only [decide_true, decide_false, List.map_cons, List.map_nil, Option.map_none, Option.map_some, Option.getD_none, Option.getD_some, Px.dg2, Px.dg1, Px.dg, Px.din, Px.dnotin, Px.dnew, Px.dput, Px.isD_is, Px.dget_i, Px.dget_s, Px.dput_i, Px.dput_s, Px.dOf_d, Px.rtup, Px.rlist, Px.rsl, Px.rsort, Px.rcat, Px.rapp, Px.rrev, Px.sl_ap, Px.nop, Px.part, Px.yes, Px.tyl, Px.isL_l, Px.isT_t, Px.isL_t, Px.isT_l, Px.isD_d, Px.isT_d, Px.inV_ints, Px.flat_ints, Px.flatV_i, Px.wipe_cons, Px.wipe_nil, Px.gtup, Px.gcons, Px.gnil, gt_iff_lt, ge_iff_le, Px.we, Px.wonly, Px.was, Px.cxK, not_true_eq_false, and_self, true_implies, false_implies, implies_true, Px.e0, and_assoc, imp_false, not_false_eq_true, ne_eq, Px.rgcd, Px.rixl, Px.rixt, Px.v0, Px.v1, Px.v2, Px.v3, Px.v4, Px.v5, Px.v6, Px.v7, Px.v8, Px.v9, Px.v10, Px.v11, Px.v12, Px.v13, Px.v14, Px.v15, Px.v16, Px.v17, Px.v18, Px.v19, Px.v20, Px.v21, Px.v22, Px.v23, Px.c0, Px.asg, Px.gnm, Px.ret, Px.retN, Px.drop, Px.nxt, Px.brk, Px.cnt, Px.ifs, Px.op, Px.un, Px.tst, Px.tbl, Px.tand, Px.tor, Px.tnot, Px.andv, Px.orv, Px.notv, Px.tif, Px.tup, Px.lst, Px.nil, Px.cons, Px.cal, Px.calS, Px.cb, Px.par, Px.gsub, Px.bits, Px.bm, Px.bm0, Px.ri, Px.ri0, Px.ru, Px.req, Px.rne, Px.rix, Px.rlen, Px.rin, Px.rsetl, Px.risi, Px.tyH_n, Px.tyH_b, Px.tyH_i, Px.tyH_s, Px.tyH_r, Px.seqH_t, Px.seqH_l, Px.seqH_fl, Px.sc_ii, Px.sc_bb, Px.sc_ss, Px.atI0, Px.atI1, Px.atI2, Px.atI3, Px.atI4, Px.atI5, Px.atI6, Px.atI7, Px.kb_NoneType_int, Px.kb_NoneType_bool, Px.kb_NoneType_str, Px.kb_NoneType_list, Px.kb_NoneType_tuple, Px.kb_NoneType_dict, Px.kb_bool_int, Px.kb_bool_bool, Px.kb_bool_str, Px.kb_bool_list, Px.kb_bool_tuple, Px.kb_bool_dict, Px.kb_int_int, Px.kb_int_bool, Px.kb_int_str, Px.kb_int_list, Px.kb_int_tuple, Px.kb_int_dict, Px.kb_str_int, Px.kb_str_bool, Px.kb_str_str, Px.kb_str_list, Px.kb_str_tuple, Px.kb_str_dict, Px.kb_list_int, Px.kb_list_bool, Px.kb_list_str, Px.kb_list_list, Px.kb_list_tuple, Px.kb_list_dict, Px.kb_tuple_int, Px.kb_tuple_bool, Px.kb_tuple_str, Px.kb_tuple_list, Px.kb_tuple_tuple, Px.kb_tuple_dict, Px.kb_dict_int, Px.kb_dict_bool, Px.kb_dict_str, Px.kb_dict_list, Px.kb_dict_tuple, Px.kb_dict_dict, L2.upd_same, Px.updI, L2.ixN, List.set_cons_zero, List.set_cons_succ, List.length_cons, List.length_nil, Nat.reduceAdd, Nat.zero_add, L2.HO.lst.injEq, L2.HO.tup.injEq, L2.upd_upd, L2.V.int.injEq, L2.V.ref.injEq, L2.V.bl.injEq, L2.V.str.injEq, L2.V.ty.injEq, List.cons.injEq, and_true, true_and, and_false, false_and, or_false, false_or, exists_eq_left', exists_eq_left, exists_and_left, exists_const, exists_false, Option.some.injEq, decide_eq_true_eq, List.append_nil, List.cons_append, List.nil_append, Option.isSome_some, Bool.not_true, Bool.not_false, Bool.not_eq_true', Bool.not_eq_true, Bool.false_eq_true, decide_eq_false_iff_not, if_true, if_false, ite_true, ite_false, Int.reduceLE, Int.reduceLT, Int.reduceToNat, Int.cast_ofNat_Int, Bool.true_eq_false, eq_self, ↓reduceIte, reduceCtorEq, Px.aug, Px.ipi, Px.tri, Px.rcatth, Px.rixs, Px.rsls, Px.tm1, Px.glst, Px.nstr, Px.txI, Px.txC, Px.txL, Px.txA, Px.rsgn, Px.txf, Px.tost, Px.tmko, Px.risxd, *]
  refine ⟨cmul_lit (by decide) (by decide), go_seq ?_⟩
  simp only [decide_true, decide_false, List.map_cons, List.map_nil, Option.map_none, Option.map_some, Option.getD_none, Option.getD_some, Px.dg2, Px.dg1, Px.dg, Px.din, Px.dnotin, Px.dnew, Px.dput, Px.isD_is, Px.dget_i, Px.dget_s, Px.dput_i, Px.dput_s, Px.dOf_d, Px.rtup, Px.rlist, Px.rsl, Px.rsort, Px.rcat, Px.rapp, Px.rrev, Px.sl_ap, Px.nop, Px.part, Px.yes, Px.tyl, Px.isL_l, Px.isT_t, Px.isL_t, Px.isT_l, Px.isD_d, Px.isT_d, Px.inV_ints, Px.flat_ints, Px.flatV_i, Px.wipe_cons, Px.wipe_nil, Px.gtup, Px.gcons, Px.gnil, gt_iff_lt, ge_iff_le, Px.we, Px.wonly, Px.was, Px.cxK, not_true_eq_false, and_self, true_implies, false_implies, implies_true, Px.e0, and_assoc, imp_false, not_false_eq_true, ne_eq, Px.rgcd, Px.rixl, Px.rixt, Px.v0, Px.v1, Px.v2, Px.v3, Px.v4, Px.v5, Px.v6, Px.v7, Px.v8, Px.v9, Px.v10, Px.v11, Px.v12, Px.v13, Px.v14, Px.v15, Px.v16, Px.v17, Px.v18, Px.v19, Px.v20, Px.v21, Px.v22, Px.v23, Px.c0, Px.asg, Px.gnm, Px.ret, Px.retN, Px.drop, Px.nxt, Px.brk, Px.cnt, Px.ifs, Px.op, Px.un, Px.tst, Px.tbl, Px.tand, Px.tor, Px.tnot, Px.andv, Px.orv, Px.notv, Px.tif, Px.tup, Px.lst, Px.nil, Px.cons, Px.cal, Px.calS, Px.cb, Px.par, Px.gsub, Px.bits, Px.bm, Px.bm0, Px.ri, Px.ri0, Px.ru, Px.req, Px.rne, Px.rix, Px.rlen, Px.rin, Px.rsetl, Px.risi, Px.tyH_n, Px.tyH_b, Px.tyH_i, Px.tyH_s, Px.tyH_r, Px.seqH_t, Px.seqH_l, Px.seqH_fl, Px.sc_ii, Px.sc_bb, Px.sc_ss, Px.atI0, Px.atI1, Px.atI2, Px.atI3, Px.atI4, Px.atI5, Px.atI6, Px.atI7, Px.kb_NoneType_int, Px.kb_NoneType_bool, Px.kb_NoneType_str, Px.kb_NoneType_list, Px.kb_NoneType_tuple, Px.kb_NoneType_dict, Px.kb_bool_int, Px.kb_bool_bool, Px.kb_bool_str, Px.kb_bool_list, Px.kb_bool_tuple, Px.kb_bool_dict, Px.kb_int_int, Px.kb_int_bool, Px.kb_int_str, Px.kb_int_list, Px.kb_int_tuple, Px.kb_int_dict, Px.kb_str_int, Px.kb_str_bool, Px.kb_str_str, Px.kb_str_list, Px.kb_str_tuple, Px.kb_str_dict, Px.kb_list_int, Px.kb_list_bool, Px.kb_list_str, Px.kb_list_list, Px.kb_list_tuple, Px.kb_list_dict, Px.kb_tuple_int, Px.kb_tuple_bool, Px.kb_tuple_str, Px.kb_tuple_list, Px.kb_tuple_tuple, Px.kb_tuple_dict, Px.kb_dict_int, Px.kb_dict_bool, Px.kb_dict_str, Px.kb_dict_list, Px.kb_dict_tuple, Px.kb_dict_dict, L2.upd_same, Px.updI, L2.ixN, List.set_cons_zero, List.set_cons_succ, List.length_cons, List.length_nil, Nat.reduceAdd, Nat.zero_add, L2.HO.lst.injEq, L2.HO.tup.injEq, L2.upd_upd, L2.V.int.injEq, L2.V.ref.injEq, L2.V.bl.injEq, L2.V.str.injEq, L2.V.ty.injEq, List.cons.injEq, and_true, true_and, and_false, false_and, or_false, false_or, exists_eq_left', exists_eq_left, exists_and_left, exists_const, exists_false, Option.some.injEq, decide_eq_true_eq, List.append_nil, List.cons_append, List.nil_append, Option.isSome_some, Bool.not_true, Bool.not_false, Bool.not_eq_true', Bool.not_eq_true, Bool.false_eq_true, decide_eq_false_iff_not, if_true, if_false, ite_true, ite_false, Int.reduceLE, Int.reduceLT, Int.reduceToNat, Int.cast_ofNat_Int, Bool.true_eq_false, eq_self, ↓reduceIte, reduceCtorEq, Px.aug, Px.ipi, Px.tri, Px.rcatth, Px.rixs, Px.rsls, Px.tm1, Px.glst, Px.nstr, Px.txI, Px.txC, Px.txL, Px.txA, Px.rsgn, Px.txf, Px.tost, Px.tmko, Px.risxd, *]
  refine ⟨cmul_lit (by decide) (by decide), ?_⟩
  refine go_cut (fun σ' H' => ∃ c s, σ' = [some (.ref a), some (.int k), some (.int c), some (.int s)] ∧ H' = H) ?_ ?_
  · simp only [decide_true, decide_false, List.map_cons, List.map_nil, Option.map_none, Option.map_some, Option.getD_none, Option.getD_some, Px.dg2, Px.dg1, Px.dg, Px.din, Px.dnotin, Px.dnew, Px.dput, Px.isD_is, Px.dget_i, Px.dget_s, Px.dput_i, Px.dput_s, Px.dOf_d, Px.rtup, Px.rlist, Px.rsl, Px.rsort, Px.rcat, Px.rapp, Px.rrev, Px.sl_ap, Px.nop, Px.part, Px.yes, Px.tyl, Px.isL_l, Px.isT_t, Px.isL_t, Px.isT_l, Px.isD_d, Px.isT_d, Px.inV_ints, Px.flat_ints, Px.flatV_i, Px.wipe_cons, Px.wipe_nil, Px.gtup, Px.gcons, Px.gnil, gt_iff_lt, ge_iff_le, Px.we, Px.wonly, Px.was, Px.cxK, not_true_eq_false, and_self, true_implies, false_implies, implies_true, Px.e0, and_assoc, imp_false, not_false_eq_true, ne_eq, Px.rgcd, Px.rixl, Px.rixt, Px.v0, Px.v1, Px.v2, Px.v3, Px.v4, Px.v5, Px.v6, Px.v7, Px.v8, Px.v9, Px.v10, Px.v11, Px.v12, Px.v13, Px.v14, Px.v15, Px.v16, Px.v17, Px.v18, Px.v19, Px.v20, Px.v21, Px.v22, Px.v23, Px.c0, Px.asg, Px.gnm, Px.ret, Px.retN, Px.drop, Px.nxt, Px.brk, Px.cnt, Px.ifs, Px.op, Px.un, Px.tst, Px.tbl, Px.tand, Px.tor, Px.tnot, Px.andv, Px.orv, Px.notv, Px.tif, Px.tup, Px.lst, Px.nil, Px.cons, Px.cal, Px.calS, Px.cb, Px.par, Px.gsub, Px.bits, Px.bm, Px.bm0, Px.ri, Px.ri0, Px.ru, Px.req, Px.rne, Px.rix, Px.rlen, Px.rin, Px.rsetl, Px.risi, Px.tyH_n, Px.tyH_b, Px.tyH_i, Px.tyH_s, Px.tyH_r, Px.seqH_t, Px.seqH_l, Px.seqH_fl, Px.sc_ii, Px.sc_bb, Px.sc_ss, Px.atI0, Px.atI1, Px.atI2, Px.atI3, Px.atI4, Px.atI5, Px.atI6, Px.atI7, Px.kb_NoneType_int, Px.kb_NoneType_bool, Px.kb_NoneType_str, Px.kb_NoneType_list, Px.kb_NoneType_tuple, Px.kb_NoneType_dict, Px.kb_bool_int, Px.kb_bool_bool, Px.kb_bool_str, Px.kb_bool_list, Px.kb_bool_tuple, Px.kb_bool_dict, Px.kb_int_int, Px.kb_int_bool, Px.kb_int_str, Px.kb_int_list, Px.kb_int_tuple, Px.kb_int_dict, Px.kb_str_int, Px.kb_str_bool, Px.kb_str_str, Px.kb_str_list, Px.kb_str_tuple, Px.kb_str_dict, Px.kb_list_int, Px.kb_list_bool, Px.kb_list_str, Px.kb_list_list, Px.kb_list_tuple, Px.kb_list_dict, Px.kb_tuple_int, Px.kb_tuple_bool, Px.kb_tuple_str, Px.kb_tuple_list, Px.kb_tuple_tuple, Px.kb_tuple_dict, Px.kb_dict_int, Px.kb_dict_bool, Px.kb_dict_str, Px.kb_dict_list, Px.kb_dict_tuple, Px.kb_dict_dict, L2.upd_same, Px.updI, L2.ixN, List.set_cons_zero, List.set_cons_succ, List.length_cons, List.length_nil, Nat.reduceAdd, Nat.zero_add, L2.HO.lst.injEq, L2.HO.tup.injEq, L2.upd_upd, L2.V.int.injEq, L2.V.ref.injEq, L2.V.bl.injEq, L2.V.str.injEq, L2.V.ty.injEq, List.cons.injEq, and_true, true_and, and_false, false_and, or_false, false_or, exists_eq_left', exists_eq_left, exists_and_left, exists_const, exists_false, Option.some.injEq, decide_eq_true_eq, List.append_nil, List.cons_append, List.nil_append, Option.isSome_some, Bool.not_true, Bool.not_false, Bool.not_eq_true', Bool.not_eq_true, Bool.false_eq_true, decide_eq_false_iff_not, if_true, if_false, ite_true, ite_false, Int.reduceLE, Int.reduceLT, Int.reduceToNat, Int.cast_ofNat_Int, Bool.true_eq_false, eq_self, ↓reduceIte, reduceCtorEq, Px.aug, Px.ipi, Px.tri, Px.rcatth, Px.rixs, Px.rsls, Px.tm1, Px.glst, Px.nstr, Px.txI, Px.txC, Px.txL, Px.txA, Px.rsgn, Px.txf, Px.tost, Px.tmko, Px.risxd, *]
    refine ⟨ns.map V.int, .inl hS, ?_⟩
    rw [List.length_map]
    refine go_if (fun h => ?_) (fun h => ?_)
    · refine ⟨ns.map V.int, hS, .int (ns.getD k 0), ?_, _, rfl⟩
      refine atI_nat ?_
      rw [List.getElem?_map, List.getD_eq_getElem?_getD, List.getElem?_eq_getElem (by omega)]
      rfl
    · trivial
  · rintro σ' H' ⟨c, s, rfl, rfl⟩
    refine go_cut (fun σ' H'' => ∃ c s, σ' = [some (.ref a), some (.int k), some (.int c), some (.int s)] ∧ H'' = H') ?_ ?_
    · simp only [decide_true, decide_false, List.map_cons, List.map_nil, Option.map_none, Option.map_some, Option.getD_none, Option.getD_some, Px.dg2, Px.dg1, Px.dg, Px.din, Px.dnotin, Px.dnew, Px.dput, Px.isD_is, Px.dget_i, Px.dget_s, Px.dput_i, Px.dput_s, Px.dOf_d, Px.rtup, Px.rlist, Px.rsl, Px.rsort, Px.rcat, Px.rapp, Px.rrev, Px.sl_ap, Px.nop, Px.part, Px.yes, Px.tyl, Px.isL_l, Px.isT_t, Px.isL_t, Px.isT_l, Px.isD_d, Px.isT_d, Px.inV_ints, Px.flat_ints, Px.flatV_i, Px.wipe_cons, Px.wipe_nil, Px.gtup, Px.gcons, Px.gnil, gt_iff_lt, ge_iff_le, Px.we, Px.wonly, Px.was, Px.cxK, not_true_eq_false, and_self, true_implies, false_implies, implies_true, Px.e0, and_assoc, imp_false, not_false_eq_true, ne_eq, Px.rgcd, Px.rixl, Px.rixt, Px.v0, Px.v1, Px.v2, Px.v3, Px.v4, Px.v5, Px.v6, Px.v7, Px.v8, Px.v9, Px.v10, Px.v11, Px.v12, Px.v13, Px.v14, Px.v15, Px.v16, Px.v17, Px.v18, Px.v19, Px.v20, Px.v21, Px.v22, Px.v23, Px.c0, Px.asg, Px.gnm, Px.ret, Px.retN, Px.drop, Px.nxt, Px.brk, Px.cnt, Px.ifs, Px.op, Px.un, Px.tst, Px.tbl, Px.tand, Px.tor, Px.tnot, Px.andv, Px.orv, Px.notv, Px.tif, Px.tup, Px.lst, Px.nil, Px.cons, Px.cal, Px.calS, Px.cb, Px.par, Px.gsub, Px.bits, Px.bm, Px.bm0, Px.ri, Px.ri0, Px.ru, Px.req, Px.rne, Px.rix, Px.rlen, Px.rin, Px.rsetl, Px.risi, Px.tyH_n, Px.tyH_b, Px.tyH_i, Px.tyH_s, Px.tyH_r, Px.seqH_t, Px.seqH_l, Px.seqH_fl, Px.sc_ii, Px.sc_bb, Px.sc_ss, Px.atI0, Px.atI1, Px.atI2, Px.atI3, Px.atI4, Px.atI5, Px.atI6, Px.atI7, Px.kb_NoneType_int, Px.kb_NoneType_bool, Px.kb_NoneType_str, Px.kb_NoneType_list, Px.kb_NoneType_tuple, Px.kb_NoneType_dict, Px.kb_bool_int, Px.kb_bool_bool, Px.kb_bool_str, Px.kb_bool_list, Px.kb_bool_tuple, Px.kb_bool_dict, Px.kb_int_int, Px.kb_int_bool, Px.kb_int_str, Px.kb_int_list, Px.kb_int_tuple, Px.kb_int_dict, Px.kb_str_int, Px.kb_str_bool, Px.kb_str_str, Px.kb_str_list, Px.kb_str_tuple, Px.kb_str_dict, Px.kb_list_int, Px.kb_list_bool, Px.kb_list_str, Px.kb_list_list, Px.kb_list_tuple, Px.kb_list_dict, Px.kb_tuple_int, Px.kb_tuple_bool, Px.kb_tuple_str, Px.kb_tuple_list, Px.kb_tuple_tuple, Px.kb_tuple_dict, Px.kb_dict_int, Px.kb_dict_bool, Px.kb_dict_str, Px.kb_dict_list, Px.kb_dict_tuple, Px.kb_dict_dict, L2.upd_same, Px.updI, L2.ixN, List.set_cons_zero, List.set_cons_succ, List.length_cons, List.length_nil, Nat.reduceAdd, Nat.zero_add, L2.HO.lst.injEq, L2.HO.tup.injEq, L2.upd_upd, L2.V.int.injEq, L2.V.ref.injEq, L2.V.bl.injEq, L2.V.str.injEq, L2.V.ty.injEq, List.cons.injEq, and_true, true_and, and_false, false_and, or_false, false_or, exists_eq_left', exists_eq_left, exists_and_left, exists_const, exists_false, Option.some.injEq, decide_eq_true_eq, List.append_nil, List.cons_append, List.nil_append, Option.isSome_some, Bool.not_true, Bool.not_false, Bool.not_eq_true', Bool.not_eq_true, Bool.false_eq_true, decide_eq_false_iff_not, if_true, if_false, ite_true, ite_false, Int.reduceLE, Int.reduceLT, Int.reduceToNat, Int.cast_ofNat_Int, Bool.true_eq_false, eq_self, ↓reduceIte, reduceCtorEq, Px.aug, Px.ipi, Px.tri, Px.rcatth, Px.rixs, Px.rsls, Px.tm1, Px.glst, Px.nstr, Px.txI, Px.txC, Px.txL, Px.txA, Px.rsgn, Px.txf, Px.tost, Px.tmko, Px.risxd, *]
      refine ⟨ns.map V.int, .inl hS, ?_⟩
      rw [List.length_map]
      refine go_if (fun h => ?_) (fun h => ?_)
      · refine ⟨ns.map V.int, hS, .int (ns.getD (k + 1) 0), ?_, _, rfl⟩
        refine atI_nat (j := k + 1) ?_
        rw [List.getElem?_map, List.getD_eq_getElem?_getD, List.getElem?_eq_getElem (by omega)]
        rfl
      · trivial
    · rintro σ' H' ⟨c, s, rfl, rfl⟩
      simp only [decide_true, decide_false, List.map_cons, List.map_nil, Option.map_none, Option.map_some, Option.getD_none, Option.getD_some, Px.dg2, Px.dg1, Px.dg, Px.din, Px.dnotin, Px.dnew, Px.dput, Px.isD_is, Px.dget_i, Px.dget_s, Px.dput_i, Px.dput_s, Px.dOf_d, Px.rtup, Px.rlist, Px.rsl, Px.rsort, Px.rcat, Px.rapp, Px.rrev, Px.sl_ap, Px.nop, Px.part, Px.yes, Px.tyl, Px.isL_l, Px.isT_t, Px.isL_t, Px.isT_l, Px.isD_d, Px.isT_d, Px.inV_ints, Px.flat_ints, Px.flatV_i, Px.wipe_cons, Px.wipe_nil, Px.gtup, Px.gcons, Px.gnil, gt_iff_lt, ge_iff_le, Px.we, Px.wonly, Px.was, Px.cxK, not_true_eq_false, and_self, true_implies, false_implies, implies_true, Px.e0, and_assoc, imp_false, not_false_eq_true, ne_eq, Px.rgcd, Px.rixl, Px.rixt, Px.v0, Px.v1, Px.v2, Px.v3, Px.v4, Px.v5, Px.v6, Px.v7, Px.v8, Px.v9, Px.v10, Px.v11, Px.v12, Px.v13, Px.v14, Px.v15, Px.v16, Px.v17, Px.v18, Px.v19, Px.v20, Px.v21, Px.v22, Px.v23, Px.c0, Px.asg, Px.gnm, Px.ret, Px.retN, Px.drop, Px.nxt, Px.brk, Px.cnt, Px.ifs, Px.op, Px.un, Px.tst, Px.tbl, Px.tand, Px.tor, Px.tnot, Px.andv, Px.orv, Px.notv, Px.tif, Px.tup, Px.lst, Px.nil, Px.cons, Px.cal, Px.calS, Px.cb, Px.par, Px.gsub, Px.bits, Px.bm, Px.bm0, Px.ri, Px.ri0, Px.ru, Px.req, Px.rne, Px.rix, Px.rlen, Px.rin, Px.rsetl, Px.risi, Px.tyH_n, Px.tyH_b, Px.tyH_i, Px.tyH_s, Px.tyH_r, Px.seqH_t, Px.seqH_l, Px.seqH_fl, Px.sc_ii, Px.sc_bb, Px.sc_ss, Px.atI0, Px.atI1, Px.atI2, Px.atI3, Px.atI4, Px.atI5, Px.atI6, Px.atI7, Px.kb_NoneType_int, Px.kb_NoneType_bool, Px.kb_NoneType_str, Px.kb_NoneType_list, Px.kb_NoneType_tuple, Px.kb_NoneType_dict, Px.kb_bool_int, Px.kb_bool_bool, Px.kb_bool_str, Px.kb_bool_list, Px.kb_bool_tuple, Px.kb_bool_dict, Px.kb_int_int, Px.kb_int_bool, Px.kb_int_str, Px.kb_int_list, Px.kb_int_tuple, Px.kb_int_dict, Px.kb_str_int, Px.kb_str_bool, Px.kb_str_str, Px.kb_str_list, Px.kb_str_tuple, Px.kb_str_dict, Px.kb_list_int, Px.kb_list_bool, Px.kb_list_str, Px.kb_list_list, Px.kb_list_tuple, Px.kb_list_dict, Px.kb_tuple_int, Px.kb_tuple_bool, Px.kb_tuple_str, Px.kb_tuple_list, Px.kb_tuple_tuple, Px.kb_tuple_dict, Px.kb_dict_int, Px.kb_dict_bool, Px.kb_dict_str, Px.kb_dict_list, Px.kb_dict_tuple, Px.kb_dict_dict, L2.upd_same, Px.updI, L2.ixN, List.set_cons_zero, List.set_cons_succ, List.length_cons, List.length_nil, Nat.reduceAdd, Nat.zero_add, L2.HO.lst.injEq, L2.HO.tup.injEq, L2.upd_upd, L2.V.int.injEq, L2.V.ref.injEq, L2.V.bl.injEq, L2.V.str.injEq, L2.V.ty.injEq, List.cons.injEq, and_true, true_and, and_false, false_and, or_false, false_or, exists_eq_left', exists_eq_left, exists_and_left, exists_const, exists_false, Option.some.injEq, decide_eq_true_eq, List.append_nil, List.cons_append, List.nil_append, Option.isSome_some, Bool.not_true, Bool.not_false, Bool.not_eq_true', Bool.not_eq_true, Bool.false_eq_true, decide_eq_false_iff_not, if_true, if_false, ite_true, ite_false, Int.reduceLE, Int.reduceLT, Int.reduceToNat, Int.cast_ofNat_Int, Bool.true_eq_false, eq_self, ↓reduceIte, reduceCtorEq, Px.aug, Px.ipi, Px.tri, Px.rcatth, Px.rixs, Px.rsls, Px.tm1, Px.glst, Px.nstr, Px.txI, Px.txC, Px.txL, Px.txA, Px.rsgn, Px.txf, Px.tost, Px.tmko, Px.risxd, *]
      exact ⟨⟨by decide, by decide, by decide⟩, by decide, fun p hp => fin _ _ _ _ _ _ rfl rfl p hp⟩

def spCount (vs : List V) (H : Hp) (Q : VK) (_ : XK) : Prop := ∃ a : List Nat, vs = [.str (Tx a)] ∧ a.length ≤ 600 ∧ Q (.bl (cnt a)) H
theorem line_ok {n : Nat} (h : n ≤ 10000) : n ≤ sizeLine := Nat.le_trans h (by decide)
def ICo (a : List Nat) (H : Hp) (i : Nat) (σ' : L2.St) (H' : Hp) : Prop := (∃ v, σ' = [some (.str (Tx a)), v]) ∧ H' = H ∧ (a.take i).all dg = true
theorem ok_count (B : Bn mg) (F : FunAt K mg "is_count" s_is_count) : Def P w K mg base CX0 1 "is_count" ["text"] spCount := by
  refine F.ok sc_is_count (fun _ _ _ _ _ _ us hl => match us, hl with | [_], _ => rfl) (fun vs H Q E h => by obtain ⟨_, rfl, _⟩ := h; rfl) (fun f cdv A outer s H vs Q E hr h => ?_)
  obtain ⟨a, rfl, hl, k⟩ := h
  refine ⟨_, pcut (ps_if (PW.pt (pw_or (pt_cmpR op_eq (pv 0) pe_str (nomark _)) (pw_or1 (PW.pt (pw_and (pt_cmpR op_eq (pe_ix ix_str (pv 0) pe_int (fun _ _ => rfl)) pe_str (nomark _)) (pw_and1 (pt_cmpR op_ne (pv 0) pe_str (nomark _)))))))) (pss_one (ps_ret pe_bl)) (pss_nil)) (
  pss_cons (ps_for PassesOwn.never rfl (pi_str (pv 0)) (pg_name (i := 1) sc_is_count.nd rfl (Or.inl rfl)) (
  pss_one (ps_if (pt_cmpR notIn_sg (pv 1) (C8.pe_gc rfl B.g_DIGITS) rfl) (pss_one (ps_ret pe_bl)) (pss_nil)))) (
  pss_one (ps_ret pe_bl))), ?_⟩
  show tCut _ _ _ [some (.str (Tx a)), none] H
  have hz := line_ok (show a.length ≤ 10000 by omega)
  refine go_cut (fun σ' H' => σ' = [some (.str (Tx a)), none] ∧ H' = H ∧ cnt a = a.all dg ∧ a ≠ []) ?_ ?_
  · simp only [decide_true, decide_false, List.map_cons, List.map_nil, Option.map_none, Option.map_some, Option.getD_none, Option.getD_some, Px.dg2, Px.dg1, Px.dg, Px.din, Px.dnotin, Px.dnew, Px.dput, Px.isD_is, Px.dget_i, Px.dget_s, Px.dput_i, Px.dput_s, Px.dOf_d, Px.rtup, Px.rlist, Px.rsl, Px.rsort, Px.rcat, Px.rapp, Px.rrev, Px.sl_ap, Px.nop, Px.part, Px.yes, Px.tyl, Px.isL_l, Px.isT_t, Px.isL_t, Px.isT_l, Px.isD_d, Px.isT_d, Px.inV_ints, Px.flat_ints, Px.flatV_i, Px.wipe_cons, Px.wipe_nil, Px.gtup, Px.gcons, Px.gnil, gt_iff_lt, ge_iff_le, Px.we, Px.wonly, Px.was, Px.cxK, not_true_eq_false, and_self, true_implies, false_implies, implies_true, Px.e0, and_assoc, imp_false, not_false_eq_true, ne_eq, Px.rgcd, Px.rixl, Px.rixt, Px.v0, Px.v1, Px.v2, Px.v3, Px.v4, Px.v5, Px.v6, Px.v7, Px.v8, Px.v9, Px.v10, Px.v11, Px.v12, Px.v13, Px.v14, Px.v15, Px.v16, Px.v17, Px.v18, Px.v19, Px.v20, Px.v21, Px.v22, Px.v23, Px.c0, Px.asg, Px.gnm, Px.ret, Px.retN, Px.drop, Px.nxt, Px.brk, Px.cnt, Px.ifs, Px.op, Px.un, Px.tst, Px.tbl, Px.tand, Px.tor, Px.tnot, Px.andv, Px.orv, Px.notv, Px.tif, Px.tup, Px.lst, Px.nil, Px.cons, Px.cal, Px.calS, Px.cb, Px.par, Px.gsub, Px.bits, Px.bm, Px.bm0, Px.ri, Px.ri0, Px.ru, Px.req, Px.rne, Px.rix, Px.rlen, Px.rin, Px.rsetl, Px.risi, Px.tyH_n, Px.tyH_b, Px.tyH_i, Px.tyH_s, Px.tyH_r, Px.seqH_t, Px.seqH_l, Px.seqH_fl, Px.sc_ii, Px.sc_bb, Px.sc_ss, Px.atI0, Px.atI1, Px.atI2, Px.atI3, Px.atI4, Px.atI5, Px.atI6, Px.atI7, Px.kb_NoneType_int, Px.kb_NoneType_bool, Px.kb_NoneType_str, Px.kb_NoneType_list, Px.kb_NoneType_tuple, Px.kb_NoneType_dict, Px.kb_bool_int, Px.kb_bool_bool, Px.kb_bool_str, Px.kb_bool_list, Px.kb_bool_tuple, Px.kb_bool_dict, Px.kb_int_int, Px.kb_int_bool, Px.kb_int_str, Px.kb_int_list, Px.kb_int_tuple, Px.kb_int_dict, Px.kb_str_int, Px.kb_str_bool, Px.kb_str_str, Px.kb_str_list, Px.kb_str_tuple, Px.kb_str_dict, Px.kb_list_int, Px.kb_list_bool, Px.kb_list_str, Px.kb_list_list, Px.kb_list_tuple, Px.kb_list_dict, Px.kb_tuple_int, Px.kb_tuple_bool, Px.kb_tuple_str, Px.kb_tuple_list, Px.kb_tuple_tuple, Px.kb_tuple_dict, Px.kb_dict_int, Px.kb_dict_bool, Px.kb_dict_str, Px.kb_dict_list, Px.kb_dict_tuple, Px.kb_dict_dict, L2.upd_same, Px.updI, L2.ixN, List.set_cons_zero, List.set_cons_succ, List.length_cons, List.length_nil, Nat.reduceAdd, Nat.zero_add, L2.HO.lst.injEq, L2.HO.tup.injEq, L2.upd_upd, L2.V.int.injEq, L2.V.ref.injEq, L2.V.bl.injEq, L2.V.str.injEq, L2.V.ty.injEq, List.cons.injEq, and_true, true_and, and_false, false_and, or_false, false_or, exists_eq_left', exists_eq_left, exists_and_left, exists_const, exists_false, Option.some.injEq, decide_eq_true_eq, List.append_nil, List.cons_append, List.nil_append, Option.isSome_some, Bool.not_true, Bool.not_false, Bool.not_eq_true', Bool.not_eq_true, Bool.false_eq_true, decide_eq_false_iff_not, if_true, if_false, ite_true, ite_false, Int.reduceLE, Int.reduceLT, Int.reduceToNat, Int.cast_ofNat_Int, Bool.true_eq_false, eq_self, ↓reduceIte, reduceCtorEq, Px.aug, Px.ipi, Px.tri, Px.rcatth, Px.rixs, Px.rsls, Px.tm1, Px.glst, Px.nstr, Px.txI, Px.txC, Px.txL, Px.txA, Px.rsgn, Px.txf, Px.tost, Px.tmko, Px.risxd, *, l_e, l_0]
    refine go_if (fun e => ?_) (fun e => ?_)
    · rw [e] at k
      exact k
    · cases a with
      | nil => exact absurd rfl e
      | cons c r =>
        refine ⟨c, atI0, ?_⟩
        refine go_if (fun h0 => ?_) (fun h0 => ?_)
        · subst h0
          refine go_if (fun h1 => ?_) (fun h1 => ?_)
          · rw [cnt_cons0, decide_eq_false (fun z => h1 (by rw [z]))] at k
            exact k
          · have e1 : 48 :: r = [48] := Decidable.not_not.mp h1
            injection e1 with _ e1
            subst e1
            exact ⟨rfl, List.cons_ne_nil _ _⟩
        · exact ⟨by rw [cnt_cons, decide_eq_true h0]; rfl, List.cons_ne_nil _ _⟩
  rintro σ' H' ⟨rfl, rfl, e, _⟩
  rw [e] at k
  refine go_seq ?_
  refine for_str (a := a) (ICo a H') (fun R q => by simp only [decide_true, decide_false, List.map_cons, List.map_nil, Option.map_none, Option.map_some, Option.getD_none, Option.getD_some, Px.dg2, Px.dg1, Px.dg, Px.din, Px.dnotin, Px.dnew, Px.dput, Px.isD_is, Px.dget_i, Px.dget_s, Px.dput_i, Px.dput_s, Px.dOf_d, Px.rtup, Px.rlist, Px.rsl, Px.rsort, Px.rcat, Px.rapp, Px.rrev, Px.sl_ap, Px.nop, Px.part, Px.yes, Px.tyl, Px.isL_l, Px.isT_t, Px.isL_t, Px.isT_l, Px.isD_d, Px.isT_d, Px.inV_ints, Px.flat_ints, Px.flatV_i, Px.wipe_cons, Px.wipe_nil, Px.gtup, Px.gcons, Px.gnil, gt_iff_lt, ge_iff_le, Px.we, Px.wonly, Px.was, Px.cxK, not_true_eq_false, and_self, true_implies, false_implies, implies_true, Px.e0, and_assoc, imp_false, not_false_eq_true, ne_eq, Px.rgcd, Px.rixl, Px.rixt, Px.v0, Px.v1, Px.v2, Px.v3, Px.v4, Px.v5, Px.v6, Px.v7, Px.v8, Px.v9, Px.v10, Px.v11, Px.v12, Px.v13, Px.v14, Px.v15, Px.v16, Px.v17, Px.v18, Px.v19, Px.v20, Px.v21, Px.v22, Px.v23, Px.c0, Px.asg, Px.gnm, Px.ret, Px.retN, Px.drop, Px.nxt, Px.brk, Px.cnt, Px.ifs, Px.op, Px.un, Px.tst, Px.tbl, Px.tand, Px.tor, Px.tnot, Px.andv, Px.orv, Px.notv, Px.tif, Px.tup, Px.lst, Px.nil, Px.cons, Px.cal, Px.calS, Px.cb, Px.par, Px.gsub, Px.bits, Px.bm, Px.bm0, Px.ri, Px.ri0, Px.ru, Px.req, Px.rne, Px.rix, Px.rlen, Px.rin, Px.rsetl, Px.risi, Px.tyH_n, Px.tyH_b, Px.tyH_i, Px.tyH_s, Px.tyH_r, Px.seqH_t, Px.seqH_l, Px.seqH_fl, Px.sc_ii, Px.sc_bb, Px.sc_ss, Px.atI0, Px.atI1, Px.atI2, Px.atI3, Px.atI4, Px.atI5, Px.atI6, Px.atI7, Px.kb_NoneType_int, Px.kb_NoneType_bool, Px.kb_NoneType_str, Px.kb_NoneType_list, Px.kb_NoneType_tuple, Px.kb_NoneType_dict, Px.kb_bool_int, Px.kb_bool_bool, Px.kb_bool_str, Px.kb_bool_list, Px.kb_bool_tuple, Px.kb_bool_dict, Px.kb_int_int, Px.kb_int_bool, Px.kb_int_str, Px.kb_int_list, Px.kb_int_tuple, Px.kb_int_dict, Px.kb_str_int, Px.kb_str_bool, Px.kb_str_str, Px.kb_str_list, Px.kb_str_tuple, Px.kb_str_dict, Px.kb_list_int, Px.kb_list_bool, Px.kb_list_str, Px.kb_list_list, Px.kb_list_tuple, Px.kb_list_dict, Px.kb_tuple_int, Px.kb_tuple_bool, Px.kb_tuple_str, Px.kb_tuple_list, Px.kb_tuple_tuple, Px.kb_tuple_dict, Px.kb_dict_int, Px.kb_dict_bool, Px.kb_dict_str, Px.kb_dict_list, Px.kb_dict_tuple, Px.kb_dict_dict, L2.upd_same, Px.updI, L2.ixN, List.set_cons_zero, List.set_cons_succ, List.length_cons, List.length_nil, Nat.reduceAdd, Nat.zero_add, L2.HO.lst.injEq, L2.HO.tup.injEq, L2.upd_upd, L2.V.int.injEq, L2.V.ref.injEq, L2.V.bl.injEq, L2.V.str.injEq, L2.V.ty.injEq, List.cons.injEq, and_true, true_and, and_false, false_and, or_false, false_or, exists_eq_left', exists_eq_left, exists_and_left, exists_const, exists_false, Option.some.injEq, decide_eq_true_eq, List.append_nil, List.cons_append, List.nil_append, Option.isSome_some, Bool.not_true, Bool.not_false, Bool.not_eq_true', Bool.not_eq_true, Bool.false_eq_true, decide_eq_false_iff_not, if_true, if_false, ite_true, ite_false, Int.reduceLE, Int.reduceLT, Int.reduceToNat, Int.cast_ofNat_Int, Bool.true_eq_false, eq_self, ↓reduceIte, reduceCtorEq, Px.aug, Px.ipi, Px.tri, Px.rcatth, Px.rixs, Px.rsls, Px.tm1, Px.glst, Px.nstr, Px.txI, Px.txC, Px.txL, Px.txA, Px.rsgn, Px.txf, Px.tost, Px.tmko, Px.risxd]; exact q) ⟨⟨_, rfl⟩, rfl, rfl⟩ ?_ ?_
  · rintro i c σ' H1 hi ⟨⟨v, rfl⟩, rfl, ht⟩
    have tk : a.take (i + 1) = a.take i ++ [c] := by rw [List.take_succ, hi]; rfl
    simp only [decide_true, decide_false, List.map_cons, List.map_nil, Option.map_none, Option.map_some, Option.getD_none, Option.getD_some, Px.dg2, Px.dg1, Px.dg, Px.din, Px.dnotin, Px.dnew, Px.dput, Px.isD_is, Px.dget_i, Px.dget_s, Px.dput_i, Px.dput_s, Px.dOf_d, Px.rtup, Px.rlist, Px.rsl, Px.rsort, Px.rcat, Px.rapp, Px.rrev, Px.sl_ap, Px.nop, Px.part, Px.yes, Px.tyl, Px.isL_l, Px.isT_t, Px.isL_t, Px.isT_l, Px.isD_d, Px.isT_d, Px.inV_ints, Px.flat_ints, Px.flatV_i, Px.wipe_cons, Px.wipe_nil, Px.gtup, Px.gcons, Px.gnil, gt_iff_lt, ge_iff_le, Px.we, Px.wonly, Px.was, Px.cxK, not_true_eq_false, and_self, true_implies, false_implies, implies_true, Px.e0, and_assoc, imp_false, not_false_eq_true, ne_eq, Px.rgcd, Px.rixl, Px.rixt, Px.v0, Px.v1, Px.v2, Px.v3, Px.v4, Px.v5, Px.v6, Px.v7, Px.v8, Px.v9, Px.v10, Px.v11, Px.v12, Px.v13, Px.v14, Px.v15, Px.v16, Px.v17, Px.v18, Px.v19, Px.v20, Px.v21, Px.v22, Px.v23, Px.c0, Px.asg, Px.gnm, Px.ret, Px.retN, Px.drop, Px.nxt, Px.brk, Px.cnt, Px.ifs, Px.op, Px.un, Px.tst, Px.tbl, Px.tand, Px.tor, Px.tnot, Px.andv, Px.orv, Px.notv, Px.tif, Px.tup, Px.lst, Px.nil, Px.cons, Px.cal, Px.calS, Px.cb, Px.par, Px.gsub, Px.bits, Px.bm, Px.bm0, Px.ri, Px.ri0, Px.ru, Px.req, Px.rne, Px.rix, Px.rlen, Px.rin, Px.rsetl, Px.risi, Px.tyH_n, Px.tyH_b, Px.tyH_i, Px.tyH_s, Px.tyH_r, Px.seqH_t, Px.seqH_l, Px.seqH_fl, Px.sc_ii, Px.sc_bb, Px.sc_ss, Px.atI0, Px.atI1, Px.atI2, Px.atI3, Px.atI4, Px.atI5, Px.atI6, Px.atI7, Px.kb_NoneType_int, Px.kb_NoneType_bool, Px.kb_NoneType_str, Px.kb_NoneType_list, Px.kb_NoneType_tuple, Px.kb_NoneType_dict, Px.kb_bool_int, Px.kb_bool_bool, Px.kb_bool_str, Px.kb_bool_list, Px.kb_bool_tuple, Px.kb_bool_dict, Px.kb_int_int, Px.kb_int_bool, Px.kb_int_str, Px.kb_int_list, Px.kb_int_tuple, Px.kb_int_dict, Px.kb_str_int, Px.kb_str_bool, Px.kb_str_str, Px.kb_str_list, Px.kb_str_tuple, Px.kb_str_dict, Px.kb_list_int, Px.kb_list_bool, Px.kb_list_str, Px.kb_list_list, Px.kb_list_tuple, Px.kb_list_dict, Px.kb_tuple_int, Px.kb_tuple_bool, Px.kb_tuple_str, Px.kb_tuple_list, Px.kb_tuple_tuple, Px.kb_tuple_dict, Px.kb_dict_int, Px.kb_dict_bool, Px.kb_dict_str, Px.kb_dict_list, Px.kb_dict_tuple, Px.kb_dict_dict, L2.upd_same, Px.updI, L2.ixN, List.set_cons_zero, List.set_cons_succ, List.length_cons, List.length_nil, Nat.reduceAdd, Nat.zero_add, L2.HO.lst.injEq, L2.HO.tup.injEq, L2.upd_upd, L2.V.int.injEq, L2.V.ref.injEq, L2.V.bl.injEq, L2.V.str.injEq, L2.V.ty.injEq, List.cons.injEq, and_true, true_and, and_false, false_and, or_false, false_or, exists_eq_left', exists_eq_left, exists_and_left, exists_const, exists_false, Option.some.injEq, decide_eq_true_eq, List.append_nil, List.cons_append, List.nil_append, Option.isSome_some, Bool.not_true, Bool.not_false, Bool.not_eq_true', Bool.not_eq_true, Bool.false_eq_true, decide_eq_false_iff_not, if_true, if_false, ite_true, ite_false, Int.reduceLE, Int.reduceLT, Int.reduceToNat, Int.cast_ofNat_Int, Bool.true_eq_false, eq_self, ↓reduceIte, reduceCtorEq, Px.aug, Px.ipi, Px.tri, Px.rcatth, Px.rixs, Px.rsls, Px.tm1, Px.glst, Px.nstr, Px.txI, Px.txC, Px.txL, Px.txA, Px.rsgn, Px.txf, Px.tost, Px.tmko, Px.risxd, *, l_d, in_d]
    refine go_if (fun hc => ?_) (fun hc => ⟨⟨_, rfl⟩, rfl, ?_⟩)
    · have : a.all dg = false := Bool.eq_false_iff.mpr fun z => by
        rw [List.all_eq_true.mp z c (List.mem_of_getElem? hi)] at hc
        cases hc
      rw [this] at k
      exact k
    · rw [tk, List.all_append, ht, List.all_cons, List.all_nil, Bool.and_true, Bool.true_and]
      exact Bool.not_eq_false _ |>.mp hc
  · rintro σ' H1 ⟨⟨v, rfl⟩, rfl, ht⟩
    rw [List.take_length] at ht
    rw [ht] at k
    simp only [decide_true, decide_false, List.map_cons, List.map_nil, Option.map_none, Option.map_some, Option.getD_none, Option.getD_some, Px.dg2, Px.dg1, Px.dg, Px.din, Px.dnotin, Px.dnew, Px.dput, Px.isD_is, Px.dget_i, Px.dget_s, Px.dput_i, Px.dput_s, Px.dOf_d, Px.rtup, Px.rlist, Px.rsl, Px.rsort, Px.rcat, Px.rapp, Px.rrev, Px.sl_ap, Px.nop, Px.part, Px.yes, Px.tyl, Px.isL_l, Px.isT_t, Px.isL_t, Px.isT_l, Px.isD_d, Px.isT_d, Px.inV_ints, Px.flat_ints, Px.flatV_i, Px.wipe_cons, Px.wipe_nil, Px.gtup, Px.gcons, Px.gnil, gt_iff_lt, ge_iff_le, Px.we, Px.wonly, Px.was, Px.cxK, not_true_eq_false, and_self, true_implies, false_implies, implies_true, Px.e0, and_assoc, imp_false, not_false_eq_true, ne_eq, Px.rgcd, Px.rixl, Px.rixt, Px.v0, Px.v1, Px.v2, Px.v3, Px.v4, Px.v5, Px.v6, Px.v7, Px.v8, Px.v9, Px.v10, Px.v11, Px.v12, Px.v13, Px.v14, Px.v15, Px.v16, Px.v17, Px.v18, Px.v19, Px.v20, Px.v21, Px.v22, Px.v23, Px.c0, Px.asg, Px.gnm, Px.ret, Px.retN, Px.drop, Px.nxt, Px.brk, Px.cnt, Px.ifs, Px.op, Px.un, Px.tst, Px.tbl, Px.tand, Px.tor, Px.tnot, Px.andv, Px.orv, Px.notv, Px.tif, Px.tup, Px.lst, Px.nil, Px.cons, Px.cal, Px.calS, Px.cb, Px.par, Px.gsub, Px.bits, Px.bm, Px.bm0, Px.ri, Px.ri0, Px.ru, Px.req, Px.rne, Px.rix, Px.rlen, Px.rin, Px.rsetl, Px.risi, Px.tyH_n, Px.tyH_b, Px.tyH_i, Px.tyH_s, Px.tyH_r, Px.seqH_t, Px.seqH_l, Px.seqH_fl, Px.sc_ii, Px.sc_bb, Px.sc_ss, Px.atI0, Px.atI1, Px.atI2, Px.atI3, Px.atI4, Px.atI5, Px.atI6, Px.atI7, Px.kb_NoneType_int, Px.kb_NoneType_bool, Px.kb_NoneType_str, Px.kb_NoneType_list, Px.kb_NoneType_tuple, Px.kb_NoneType_dict, Px.kb_bool_int, Px.kb_bool_bool, Px.kb_bool_str, Px.kb_bool_list, Px.kb_bool_tuple, Px.kb_bool_dict, Px.kb_int_int, Px.kb_int_bool, Px.kb_int_str, Px.kb_int_list, Px.kb_int_tuple, Px.kb_int_dict, Px.kb_str_int, Px.kb_str_bool, Px.kb_str_str, Px.kb_str_list, Px.kb_str_tuple, Px.kb_str_dict, Px.kb_list_int, Px.kb_list_bool, Px.kb_list_str, Px.kb_list_list, Px.kb_list_tuple, Px.kb_list_dict, Px.kb_tuple_int, Px.kb_tuple_bool, Px.kb_tuple_str, Px.kb_tuple_list, Px.kb_tuple_tuple, Px.kb_tuple_dict, Px.kb_dict_int, Px.kb_dict_bool, Px.kb_dict_str, Px.kb_dict_list, Px.kb_dict_tuple, Px.kb_dict_dict, L2.upd_same, Px.updI, L2.ixN, List.set_cons_zero, List.set_cons_succ, List.length_cons, List.length_nil, Nat.reduceAdd, Nat.zero_add, L2.HO.lst.injEq, L2.HO.tup.injEq, L2.upd_upd, L2.V.int.injEq, L2.V.ref.injEq, L2.V.bl.injEq, L2.V.str.injEq, L2.V.ty.injEq, List.cons.injEq, and_true, true_and, and_false, false_and, or_false, false_or, exists_eq_left', exists_eq_left, exists_and_left, exists_const, exists_false, Option.some.injEq, decide_eq_true_eq, List.append_nil, List.cons_append, List.nil_append, Option.isSome_some, Bool.not_true, Bool.not_false, Bool.not_eq_true', Bool.not_eq_true, Bool.false_eq_true, decide_eq_false_iff_not, if_true, if_false, ite_true, ite_false, Int.reduceLE, Int.reduceLT, Int.reduceToNat, Int.cast_ofNat_Int, Bool.true_eq_false, eq_self, ↓reduceIte, reduceCtorEq, Px.aug, Px.ipi, Px.tri, Px.rcatth, Px.rixs, Px.rsls, Px.tm1, Px.glst, Px.nstr, Px.txI, Px.txC, Px.txL, Px.txA, Px.rsgn, Px.txf, Px.tost, Px.tmko, Px.risxd, *]
def spWholeW (vs : List V) (H : Hp) (Q : VK) (_ : XK) : Prop := ∃ a : List Nat, vs = [.str (Tx a)] ∧ a.length ≤ 600 ∧ Q (.bl (whl a)) H
theorem cut_1 (a : List Nat) : cutS (Tx a) none (some 1) = Tx (a.take 1) := by
  rw [C8.cutS_slice, SX.slice_to (by decide)]
  rfl
theorem cut_f1 (a : List Nat) : cutS (Tx a) (some 1) none = Tx (a.drop 1) := by
  rw [C8.cutS_slice, SX.slice_from (by decide)]
  rfl
theorem tk1 {a : List Nat} : (a.take 1 = [45]) = (a.head? = some 45) := by
  cases a with
  | nil => simp
  | cons c r => simp
theorem ok_whl (B : Bn mg) (F : FunAt K mg "is_whole_word" s_is_whole_word) (D_is_count : Def P w K mg base CX0 1 "is_count" ["text"] spCount) : Def P w K mg base CX0 2 "is_whole_word" ["text"] spWholeW := by
  refine F.ok sc_is_whole_word (fun _ _ _ _ _ _ us hl => match us, hl with | [_], _ => rfl) (fun vs H Q E h => by obtain ⟨_, rfl, _⟩ := h; rfl) (fun f cdv A outer s H vs Q E hr h => ?_)
  obtain ⟨a, rfl, hl, k⟩ := h
  refine ⟨_, pss_cons (ps_if (pt_cmpR op_eq (pe_slice sl_str (pv 0) po_none (po_some pe_int)) pe_str (nomark _)) (pss_one (ps_ret (pe_and (pe_fn D_is_count hr pass0 (pa_cons (pe_slice sl_str (pv 0) (po_some pe_int) po_none) pa_nil)) (pe_one (pe_cmpR op_ne (pv 0) pe_str (nomark _)))))) (pss_nil)) (
  pss_one (ps_ret (pe_fn D_is_count hr pass0 (pa_cons (pv 0) pa_nil)))), ?_⟩
  show tSeq _ _ _ [some (.str (Tx a))] H
  have hz := line_ok (show a.length ≤ 10000 by omega)
  refine go_seq ?_
  simp only [decide_true, decide_false, List.map_cons, List.map_nil, Option.map_none, Option.map_some, Option.getD_none, Option.getD_some, Px.dg2, Px.dg1, Px.dg, Px.din, Px.dnotin, Px.dnew, Px.dput, Px.isD_is, Px.dget_i, Px.dget_s, Px.dput_i, Px.dput_s, Px.dOf_d, Px.rtup, Px.rlist, Px.rsl, Px.rsort, Px.rcat, Px.rapp, Px.rrev, Px.sl_ap, Px.nop, Px.part, Px.yes, Px.tyl, Px.isL_l, Px.isT_t, Px.isL_t, Px.isT_l, Px.isD_d, Px.isT_d, Px.inV_ints, Px.flat_ints, Px.flatV_i, Px.wipe_cons, Px.wipe_nil, Px.gtup, Px.gcons, Px.gnil, gt_iff_lt, ge_iff_le, Px.we, Px.wonly, Px.was, Px.cxK, not_true_eq_false, and_self, true_implies, false_implies, implies_true, Px.e0, and_assoc, imp_false, not_false_eq_true, ne_eq, Px.rgcd, Px.rixl, Px.rixt, Px.v0, Px.v1, Px.v2, Px.v3, Px.v4, Px.v5, Px.v6, Px.v7, Px.v8, Px.v9, Px.v10, Px.v11, Px.v12, Px.v13, Px.v14, Px.v15, Px.v16, Px.v17, Px.v18, Px.v19, Px.v20, Px.v21, Px.v22, Px.v23, Px.c0, Px.asg, Px.gnm, Px.ret, Px.retN, Px.drop, Px.nxt, Px.brk, Px.cnt, Px.ifs, Px.op, Px.un, Px.tst, Px.tbl, Px.tand, Px.tor, Px.tnot, Px.andv, Px.orv, Px.notv, Px.tif, Px.tup, Px.lst, Px.nil, Px.cons, Px.cal, Px.calS, Px.cb, Px.par, Px.gsub, Px.bits, Px.bm, Px.bm0, Px.ri, Px.ri0, Px.ru, Px.req, Px.rne, Px.rix, Px.rlen, Px.rin, Px.rsetl, Px.risi, Px.tyH_n, Px.tyH_b, Px.tyH_i, Px.tyH_s, Px.tyH_r, Px.seqH_t, Px.seqH_l, Px.seqH_fl, Px.sc_ii, Px.sc_bb, Px.sc_ss, Px.atI0, Px.atI1, Px.atI2, Px.atI3, Px.atI4, Px.atI5, Px.atI6, Px.atI7, Px.kb_NoneType_int, Px.kb_NoneType_bool, Px.kb_NoneType_str, Px.kb_NoneType_list, Px.kb_NoneType_tuple, Px.kb_NoneType_dict, Px.kb_bool_int, Px.kb_bool_bool, Px.kb_bool_str, Px.kb_bool_list, Px.kb_bool_tuple, Px.kb_bool_dict, Px.kb_int_int, Px.kb_int_bool, Px.kb_int_str, Px.kb_int_list, Px.kb_int_tuple, Px.kb_int_dict, Px.kb_str_int, Px.kb_str_bool, Px.kb_str_str, Px.kb_str_list, Px.kb_str_tuple, Px.kb_str_dict, Px.kb_list_int, Px.kb_list_bool, Px.kb_list_str, Px.kb_list_list, Px.kb_list_tuple, Px.kb_list_dict, Px.kb_tuple_int, Px.kb_tuple_bool, Px.kb_tuple_str, Px.kb_tuple_list, Px.kb_tuple_tuple, Px.kb_tuple_dict, Px.kb_dict_int, Px.kb_dict_bool, Px.kb_dict_str, Px.kb_dict_list, Px.kb_dict_tuple, Px.kb_dict_dict, L2.upd_same, Px.updI, L2.ixN, List.set_cons_zero, List.set_cons_succ, List.length_cons, List.length_nil, Nat.reduceAdd, Nat.zero_add, L2.HO.lst.injEq, L2.HO.tup.injEq, L2.upd_upd, L2.V.int.injEq, L2.V.ref.injEq, L2.V.bl.injEq, L2.V.str.injEq, L2.V.ty.injEq, List.cons.injEq, and_true, true_and, and_false, false_and, or_false, false_or, exists_eq_left', exists_eq_left, exists_and_left, exists_const, exists_false, Option.some.injEq, decide_eq_true_eq, List.append_nil, List.cons_append, List.nil_append, Option.isSome_some, Bool.not_true, Bool.not_false, Bool.not_eq_true', Bool.not_eq_true, Bool.false_eq_true, decide_eq_false_iff_not, if_true, if_false, ite_true, ite_false, Int.reduceLE, Int.reduceLT, Int.reduceToNat, Int.cast_ofNat_Int, Bool.true_eq_false, eq_self, ↓reduceIte, reduceCtorEq, Px.aug, Px.ipi, Px.tri, Px.rcatth, Px.rixs, Px.rsls, Px.tm1, Px.glst, Px.nstr, Px.txI, Px.txC, Px.txL, Px.txA, Px.rsgn, Px.txf, Px.tost, Px.tmko, Px.risxd, *, l_m, l_m0, cut_1, cut_f1, tk1, spCount]
  unfold whl at k
  refine go_if (fun e => ?_) (fun e => ?_)
  · rw [if_pos e] at k
    cases a with
    | nil => cases e
    | cons c r =>
      have ec : c = 45 := Option.some.inj e
      subst ec
      show r.length ≤ 600 ∧ if cnt r = true then _ else _
      rw [List.length_cons] at hl
      refine ⟨by omega, ?_⟩
      have e2 : (!decide (45 :: r = [45, 48])) = decide (r ≠ [48]) := by
        by_cases z : r = [48]
        · subst z; rfl
        · rw [decide_eq_true z, decide_eq_false (fun q => z (by injection q))]
          rfl
      rw [List.tail_cons] at k
      refine go_if (fun h => ?_) (fun h => ?_)
      · rw [e2]
        rw [h, Bool.true_and] at k
        exact k
      · rw [Bool.eq_false_iff.mpr h, Bool.false_and] at k
        exact k
  · rw [if_neg e] at k
    exact k
theorem prt_len : ∀ (n : Nat) (a : List Nat), a.length ≤ n → ∀ p, p ∈ prt a → p.length ≤ a.length
  | n, a, hn, p, hp => by
    induction n generalizing a with
    | zero =>
      have : a = [] := List.eq_nil_of_length_eq_zero (by omega)
      subst this
      rw [prt_no List.not_mem_nil] at hp
      rw [List.mem_singleton.mp hp]
      exact Nat.le_refl _
    | succ n ih =>
      by_cases h : 47 ∈ a
      · obtain ⟨p', q, rfl, h2⟩ := cut47 h
        rw [prt_cut h2] at hp
        rw [List.length_append, List.length_cons] at hn ⊢
        rcases List.mem_cons.mp hp with e | hp
        · rw [e]; omega
        · have := ih q (by omega) hp
          omega
      · rw [prt_no h] at hp
        rw [List.mem_singleton.mp hp]
        exact Nat.le_refl _
theorem spl_e (a : List Nat) : (Txt.split (Tx a) (Tx [47])).map V.str = (prt a).map fun p => V.str (Tx p) := by
  rw [SX.split_S (List.cons_ne_nil _ _) rfl, List.map_map]
  rfl
def spRatW (vs : List V) (H : Hp) (Q : VK) (_ : XK) : Prop := ∃ a : List Nat, vs = [.str (Tx a)] ∧ a.length ≤ 600 ∧ ∀ H', Px.Ext H H' → Q (.bl (rat a)) H'
theorem ok_ratw (B : Bn mg) (F : FunAt K mg "is_ratio_word" s_is_ratio_word) (D_is_count : Def P w K mg base CX0 1 "is_count" ["text"] spCount) (D_is_whole_word : Def P w K mg base CX0 2 "is_whole_word" ["text"] spWholeW) : Def P w K mg base CX0 3 "is_ratio_word" ["text"] spRatW := by
  refine F.ok sc_is_ratio_word (fun _ _ _ _ _ _ us hl => match us, hl with | [_], _ => rfl) (fun vs H Q E h => by obtain ⟨_, rfl, _⟩ := h; rfl) (fun f cdv A outer s H vs Q E hr h => ?_)
  obtain ⟨a, rfl, hl, k⟩ := h
  refine ⟨_, pss_cons (ps_set (i := 1) sc_is_ratio_word.nd rfl (Or.inl rfl) (pe_split (pv 0) pe_str)) (
  pss_cons (ps_if (pt_cmpR op_ne (pe_callB len_H rfl B.len (by decide +kernel) (pa_cons (pv 1) pa_nil)) pe_int (nomark _)) (pss_one (ps_ret pe_bl)) (pss_nil)) (
  pss_one (ps_ret (pe_and (pe_fn D_is_whole_word hr pass0 (pa_cons (pe_ix ix_H (pv 1) pe_int (fun _ _ => rfl)) pa_nil)) (pe_and (pe_fn D_is_count (hr.mono (by decide)) pass0 (pa_cons (pe_ix ix_H (pv 1) pe_int (fun _ _ => rfl)) pa_nil)) (pe_one (pe_cmpR op_ne (pe_ix ix_H (pv 1) pe_int (fun _ _ => rfl)) pe_str (nomark _)))))))), ?_⟩
  show tSeq _ _ _ [some (.str (Tx a)), none] H
  refine go_seq ?_
  simp only [decide_true, decide_false, List.map_cons, List.map_nil, Option.map_none, Option.map_some, Option.getD_none, Option.getD_some, Px.dg2, Px.dg1, Px.dg, Px.din, Px.dnotin, Px.dnew, Px.dput, Px.isD_is, Px.dget_i, Px.dget_s, Px.dput_i, Px.dput_s, Px.dOf_d, Px.rtup, Px.rlist, Px.rsl, Px.rsort, Px.rcat, Px.rapp, Px.rrev, Px.sl_ap, Px.nop, Px.part, Px.yes, Px.tyl, Px.isL_l, Px.isT_t, Px.isL_t, Px.isT_l, Px.isD_d, Px.isT_d, Px.inV_ints, Px.flat_ints, Px.flatV_i, Px.wipe_cons, Px.wipe_nil, Px.gtup, Px.gcons, Px.gnil, gt_iff_lt, ge_iff_le, Px.we, Px.wonly, Px.was, Px.cxK, not_true_eq_false, and_self, true_implies, false_implies, implies_true, Px.e0, and_assoc, imp_false, not_false_eq_true, ne_eq, Px.rgcd, Px.rixl, Px.rixt, Px.v0, Px.v1, Px.v2, Px.v3, Px.v4, Px.v5, Px.v6, Px.v7, Px.v8, Px.v9, Px.v10, Px.v11, Px.v12, Px.v13, Px.v14, Px.v15, Px.v16, Px.v17, Px.v18, Px.v19, Px.v20, Px.v21, Px.v22, Px.v23, Px.c0, Px.asg, Px.gnm, Px.ret, Px.retN, Px.drop, Px.nxt, Px.brk, Px.cnt, Px.ifs, Px.op, Px.un, Px.tst, Px.tbl, Px.tand, Px.tor, Px.tnot, Px.andv, Px.orv, Px.notv, Px.tif, Px.tup, Px.lst, Px.nil, Px.cons, Px.cal, Px.calS, Px.cb, Px.par, Px.gsub, Px.bits, Px.bm, Px.bm0, Px.ri, Px.ri0, Px.ru, Px.req, Px.rne, Px.rix, Px.rlen, Px.rin, Px.rsetl, Px.risi, Px.tyH_n, Px.tyH_b, Px.tyH_i, Px.tyH_s, Px.tyH_r, Px.seqH_t, Px.seqH_l, Px.seqH_fl, Px.sc_ii, Px.sc_bb, Px.sc_ss, Px.atI0, Px.atI1, Px.atI2, Px.atI3, Px.atI4, Px.atI5, Px.atI6, Px.atI7, Px.kb_NoneType_int, Px.kb_NoneType_bool, Px.kb_NoneType_str, Px.kb_NoneType_list, Px.kb_NoneType_tuple, Px.kb_NoneType_dict, Px.kb_bool_int, Px.kb_bool_bool, Px.kb_bool_str, Px.kb_bool_list, Px.kb_bool_tuple, Px.kb_bool_dict, Px.kb_int_int, Px.kb_int_bool, Px.kb_int_str, Px.kb_int_list, Px.kb_int_tuple, Px.kb_int_dict, Px.kb_str_int, Px.kb_str_bool, Px.kb_str_str, Px.kb_str_list, Px.kb_str_tuple, Px.kb_str_dict, Px.kb_list_int, Px.kb_list_bool, Px.kb_list_str, Px.kb_list_list, Px.kb_list_tuple, Px.kb_list_dict, Px.kb_tuple_int, Px.kb_tuple_bool, Px.kb_tuple_str, Px.kb_tuple_list, Px.kb_tuple_tuple, Px.kb_tuple_dict, Px.kb_dict_int, Px.kb_dict_bool, Px.kb_dict_str, Px.kb_dict_list, Px.kb_dict_tuple, Px.kb_dict_dict, L2.upd_same, Px.updI, L2.ixN, List.set_cons_zero, List.set_cons_succ, List.length_cons, List.length_nil, Nat.reduceAdd, Nat.zero_add, L2.HO.lst.injEq, L2.HO.tup.injEq, L2.upd_upd, L2.V.int.injEq, L2.V.ref.injEq, L2.V.bl.injEq, L2.V.str.injEq, L2.V.ty.injEq, List.cons.injEq, and_true, true_and, and_false, false_and, or_false, false_or, exists_eq_left', exists_eq_left, exists_and_left, exists_const, exists_false, Option.some.injEq, decide_eq_true_eq, List.append_nil, List.cons_append, List.nil_append, Option.isSome_some, Bool.not_true, Bool.not_false, Bool.not_eq_true', Bool.not_eq_true, Bool.false_eq_true, decide_eq_false_iff_not, if_true, if_false, ite_true, ite_false, Int.reduceLE, Int.reduceLT, Int.reduceToNat, Int.cast_ofNat_Int, Bool.true_eq_false, eq_self, ↓reduceIte, reduceCtorEq, Px.aug, Px.ipi, Px.tri, Px.rcatth, Px.rixs, Px.rsls, Px.tm1, Px.glst, Px.nstr, Px.txI, Px.txC, Px.txL, Px.txA, Px.rsgn, Px.txf, Px.tost, Px.tmko, Px.risxd, *, l_s, spl_e]
  refine ⟨⟨_, rfl⟩, rfl, line_ok (show a.length + 2 ≤ 10000 by omega), ?_⟩
  intro p hp
  have pl := prt_len _ a (Nat.le_refl _)
  have e := k _ ((Px.Ext.rfl' H).new (o := .lst ((prt a).map fun p => V.str (Tx p))) hp)
  unfold rat at e
  generalize prt a = ps at *
  refine go_seq ?_
  simp only [decide_true, decide_false, List.map_cons, List.map_nil, Option.map_none, Option.map_some, Option.getD_none, Option.getD_some, Px.dg2, Px.dg1, Px.dg, Px.din, Px.dnotin, Px.dnew, Px.dput, Px.isD_is, Px.dget_i, Px.dget_s, Px.dput_i, Px.dput_s, Px.dOf_d, Px.rtup, Px.rlist, Px.rsl, Px.rsort, Px.rcat, Px.rapp, Px.rrev, Px.sl_ap, Px.nop, Px.part, Px.yes, Px.tyl, Px.isL_l, Px.isT_t, Px.isL_t, Px.isT_l, Px.isD_d, Px.isT_d, Px.inV_ints, Px.flat_ints, Px.flatV_i, Px.wipe_cons, Px.wipe_nil, Px.gtup, Px.gcons, Px.gnil, gt_iff_lt, ge_iff_le, Px.we, Px.wonly, Px.was, Px.cxK, not_true_eq_false, and_self, true_implies, false_implies, implies_true, Px.e0, and_assoc, imp_false, not_false_eq_true, ne_eq, Px.rgcd, Px.rixl, Px.rixt, Px.v0, Px.v1, Px.v2, Px.v3, Px.v4, Px.v5, Px.v6, Px.v7, Px.v8, Px.v9, Px.v10, Px.v11, Px.v12, Px.v13, Px.v14, Px.v15, Px.v16, Px.v17, Px.v18, Px.v19, Px.v20, Px.v21, Px.v22, Px.v23, Px.c0, Px.asg, Px.gnm, Px.ret, Px.retN, Px.drop, Px.nxt, Px.brk, Px.cnt, Px.ifs, Px.op, Px.un, Px.tst, Px.tbl, Px.tand, Px.tor, Px.tnot, Px.andv, Px.orv, Px.notv, Px.tif, Px.tup, Px.lst, Px.nil, Px.cons, Px.cal, Px.calS, Px.cb, Px.par, Px.gsub, Px.bits, Px.bm, Px.bm0, Px.ri, Px.ri0, Px.ru, Px.req, Px.rne, Px.rix, Px.rlen, Px.rin, Px.rsetl, Px.risi, Px.tyH_n, Px.tyH_b, Px.tyH_i, Px.tyH_s, Px.tyH_r, Px.seqH_t, Px.seqH_l, Px.seqH_fl, Px.sc_ii, Px.sc_bb, Px.sc_ss, Px.atI0, Px.atI1, Px.atI2, Px.atI3, Px.atI4, Px.atI5, Px.atI6, Px.atI7, Px.kb_NoneType_int, Px.kb_NoneType_bool, Px.kb_NoneType_str, Px.kb_NoneType_list, Px.kb_NoneType_tuple, Px.kb_NoneType_dict, Px.kb_bool_int, Px.kb_bool_bool, Px.kb_bool_str, Px.kb_bool_list, Px.kb_bool_tuple, Px.kb_bool_dict, Px.kb_int_int, Px.kb_int_bool, Px.kb_int_str, Px.kb_int_list, Px.kb_int_tuple, Px.kb_int_dict, Px.kb_str_int, Px.kb_str_bool, Px.kb_str_str, Px.kb_str_list, Px.kb_str_tuple, Px.kb_str_dict, Px.kb_list_int, Px.kb_list_bool, Px.kb_list_str, Px.kb_list_list, Px.kb_list_tuple, Px.kb_list_dict, Px.kb_tuple_int, Px.kb_tuple_bool, Px.kb_tuple_str, Px.kb_tuple_list, Px.kb_tuple_tuple, Px.kb_tuple_dict, Px.kb_dict_int, Px.kb_dict_bool, Px.kb_dict_str, Px.kb_dict_list, Px.kb_dict_tuple, Px.kb_dict_dict, L2.upd_same, Px.updI, L2.ixN, List.set_cons_zero, List.set_cons_succ, List.length_cons, List.length_nil, Nat.reduceAdd, Nat.zero_add, L2.HO.lst.injEq, L2.HO.tup.injEq, L2.upd_upd, L2.V.int.injEq, L2.V.ref.injEq, L2.V.bl.injEq, L2.V.str.injEq, L2.V.ty.injEq, List.cons.injEq, and_true, true_and, and_false, false_and, or_false, false_or, exists_eq_left', exists_eq_left, exists_and_left, exists_const, exists_false, Option.some.injEq, decide_eq_true_eq, List.append_nil, List.cons_append, List.nil_append, Option.isSome_some, Bool.not_true, Bool.not_false, Bool.not_eq_true', Bool.not_eq_true, Bool.false_eq_true, decide_eq_false_iff_not, if_true, if_false, ite_true, ite_false, Int.reduceLE, Int.reduceLT, Int.reduceToNat, Int.cast_ofNat_Int, Bool.true_eq_false, eq_self, ↓reduceIte, reduceCtorEq, Px.aug, Px.ipi, Px.tri, Px.rcatth, Px.rixs, Px.rsls, Px.tm1, Px.glst, Px.nstr, Px.txI, Px.txC, Px.txL, Px.txA, Px.rsgn, Px.txf, Px.tost, Px.tmko, Px.risxd, *]
  refine go_if (fun h => ?_) (fun h => ?_)
  · have : ratP ps = false := by
      rcases ps with _ | ⟨x, _ | ⟨y, _ | ⟨z, r⟩⟩⟩
      · rfl
      · rfl
      · exact absurd rfl h
      · rfl
    rw [this] at e
    exact e
  · rcases ps with _ | ⟨x, _ | ⟨y, _ | ⟨z, r⟩⟩⟩
    · exact absurd (show ¬ ((0 : Nat) : Int) = 2 by decide) h
    · exact absurd (show ¬ ((1 : Nat) : Int) = 2 by decide) h
    · have l1 := pl x List.mem_cons_self
      have l2 := pl y (List.mem_cons_of_mem _ List.mem_cons_self)
      have e' : ratP [x, y] = (whl x && (cnt y && decide (y ≠ [48]))) := rfl
      rw [e'] at e
      simp only [decide_true, decide_false, List.map_cons, List.map_nil, Option.map_none, Option.map_some, Option.getD_none, Option.getD_some, Px.dg2, Px.dg1, Px.dg, Px.din, Px.dnotin, Px.dnew, Px.dput, Px.isD_is, Px.dget_i, Px.dget_s, Px.dput_i, Px.dput_s, Px.dOf_d, Px.rtup, Px.rlist, Px.rsl, Px.rsort, Px.rcat, Px.rapp, Px.rrev, Px.sl_ap, Px.nop, Px.part, Px.yes, Px.tyl, Px.isL_l, Px.isT_t, Px.isL_t, Px.isT_l, Px.isD_d, Px.isT_d, Px.inV_ints, Px.flat_ints, Px.flatV_i, Px.wipe_cons, Px.wipe_nil, Px.gtup, Px.gcons, Px.gnil, gt_iff_lt, ge_iff_le, Px.we, Px.wonly, Px.was, Px.cxK, not_true_eq_false, and_self, true_implies, false_implies, implies_true, Px.e0, and_assoc, imp_false, not_false_eq_true, ne_eq, Px.rgcd, Px.rixl, Px.rixt, Px.v0, Px.v1, Px.v2, Px.v3, Px.v4, Px.v5, Px.v6, Px.v7, Px.v8, Px.v9, Px.v10, Px.v11, Px.v12, Px.v13, Px.v14, Px.v15, Px.v16, Px.v17, Px.v18, Px.v19, Px.v20, Px.v21, Px.v22, Px.v23, Px.c0, Px.asg, Px.gnm, Px.ret, Px.retN, Px.drop, Px.nxt, Px.brk, Px.cnt, Px.ifs, Px.op, Px.un, Px.tst, Px.tbl, Px.tand, Px.tor, Px.tnot, Px.andv, Px.orv, Px.notv, Px.tif, Px.tup, Px.lst, Px.nil, Px.cons, Px.cal, Px.calS, Px.cb, Px.par, Px.gsub, Px.bits, Px.bm, Px.bm0, Px.ri, Px.ri0, Px.ru, Px.req, Px.rne, Px.rix, Px.rlen, Px.rin, Px.rsetl, Px.risi, Px.tyH_n, Px.tyH_b, Px.tyH_i, Px.tyH_s, Px.tyH_r, Px.seqH_t, Px.seqH_l, Px.seqH_fl, Px.sc_ii, Px.sc_bb, Px.sc_ss, Px.atI0, Px.atI1, Px.atI2, Px.atI3, Px.atI4, Px.atI5, Px.atI6, Px.atI7, Px.kb_NoneType_int, Px.kb_NoneType_bool, Px.kb_NoneType_str, Px.kb_NoneType_list, Px.kb_NoneType_tuple, Px.kb_NoneType_dict, Px.kb_bool_int, Px.kb_bool_bool, Px.kb_bool_str, Px.kb_bool_list, Px.kb_bool_tuple, Px.kb_bool_dict, Px.kb_int_int, Px.kb_int_bool, Px.kb_int_str, Px.kb_int_list, Px.kb_int_tuple, Px.kb_int_dict, Px.kb_str_int, Px.kb_str_bool, Px.kb_str_str, Px.kb_str_list, Px.kb_str_tuple, Px.kb_str_dict, Px.kb_list_int, Px.kb_list_bool, Px.kb_list_str, Px.kb_list_list, Px.kb_list_tuple, Px.kb_list_dict, Px.kb_tuple_int, Px.kb_tuple_bool, Px.kb_tuple_str, Px.kb_tuple_list, Px.kb_tuple_tuple, Px.kb_tuple_dict, Px.kb_dict_int, Px.kb_dict_bool, Px.kb_dict_str, Px.kb_dict_list, Px.kb_dict_tuple, Px.kb_dict_dict, L2.upd_same, Px.updI, L2.ixN, List.set_cons_zero, List.set_cons_succ, List.length_cons, List.length_nil, Nat.reduceAdd, Nat.zero_add, L2.HO.lst.injEq, L2.HO.tup.injEq, L2.upd_upd, L2.V.int.injEq, L2.V.ref.injEq, L2.V.bl.injEq, L2.V.str.injEq, L2.V.ty.injEq, List.cons.injEq, and_true, true_and, and_false, false_and, or_false, false_or, exists_eq_left', exists_eq_left, exists_and_left, exists_const, exists_false, Option.some.injEq, decide_eq_true_eq, List.append_nil, List.cons_append, List.nil_append, Option.isSome_some, Bool.not_true, Bool.not_false, Bool.not_eq_true', Bool.not_eq_true, Bool.false_eq_true, decide_eq_false_iff_not, if_true, if_false, ite_true, ite_false, Int.reduceLE, Int.reduceLT, Int.reduceToNat, Int.cast_ofNat_Int, Bool.true_eq_false, eq_self, ↓reduceIte, reduceCtorEq, Px.aug, Px.ipi, Px.tri, Px.rcatth, Px.rixs, Px.rsls, Px.tm1, Px.glst, Px.nstr, Px.txI, Px.txC, Px.txL, Px.txA, Px.rsgn, Px.txf, Px.tost, Px.tmko, Px.risxd, *, spWholeW, spCount, l_0]
      have e2 : (!decide (y = [48])) = decide (y ≠ [48]) := by rw [decide_not]
      rw [e2]
      refine ⟨by omega, go_if (fun h => ⟨by omega, go_if (fun h' => ?_) (fun h' => ?_)⟩) (fun h => ?_)⟩
      · rw [h, h', Bool.true_and, Bool.true_and] at e
        exact e
      · rw [h, Bool.eq_false_iff.mpr h', Bool.true_and, Bool.false_and] at e
        exact e
      · rw [Bool.eq_false_iff.mpr h, Bool.false_and] at e
        exact e
    · exact absurd (fun z => by simp at z; omega) h
end
end K96

set_option exponentiation.threshold 3000
namespace K96
open PySem PySem.Spec PyProof.Rows L2 Px
/-! ### the ratios: plain -/
def dv (p q : Int) : Int := if q < 0 then -((Nat.gcd p.natAbs q.natAbs : Nat) : Int) else ((Nat.gcd p.natAbs q.natAbs : Nat) : Int)
def top' (p q : Int) : Int := p.fdiv (dv p q)
def bot (p q : Int) : Int := q.fdiv (dv p q)
theorem dv_ne {p q : Int} (h : q ≠ 0) : dv p q ≠ 0 := by
  unfold dv
  have : 0 < Nat.gcd p.natAbs q.natAbs := Nat.gcd_pos_of_pos_right _ (by omega)
  split <;> omega
theorem dv_abs {p q : Int} : (dv p q).natAbs = Nat.gcd p.natAbs q.natAbs := by
  unfold dv
  split <;> omega
theorem dv_lt {p q : Int} {n : Nat} (h : q ≠ 0) (hq : q.natAbs < 2 ^ n) : (dv p q).natAbs < 2 ^ n := by
  rw [dv_abs]
  exact Nat.lt_of_le_of_lt (Nat.gcd_le_right _ (by omega)) hq
def spRatio (CB : Addr) (vs : List V) (H : Hp) (Q : VK) (E : XK) : Prop := ∃ p q : Int, vs = [.int p, .int q] ∧ q.natAbs < 2 ^ 2000 ∧ (q = 0 → E (.ref CB) none H) ∧
  (q ≠ 0 → ∀ a, H a = none → Q (.ref a) (upd H a (.tup [.int (top' p q), .int (bot p q)])))
section
variable {P : Program} {w : World} {K : PySem.W.Frag} {mg : Str → Option Value} {base : Heap} {CB : Addr}
theorem ok_ratio (B : Bn mg) (C_BadRatio : Exc0 K mg "BadRatio" CB) {f : Addr} {fd : FuncData} (hm : mg "ratio" = some (.ref f)) (F : FunD K "ratio" "ratio" (defArgs s_ratio) (defBody s_ratio) (defScope s_ratio) [.int 1] [] f fd) :
    Def P w K mg base (L2.CX P w) 1 "ratio" ["p", "q"] (spRatio CB) := by
  obtain ⟨ds, r1, r2⟩ := F.binds1 (ps := ["p", "q"]) 2 1 (by simp) rfl (fun T kV doc pm an cdv ct us its h1 h2 => by
    match us, h1, its, h2 with
    | [_, _], _, [_], _ => exact ⟨_, rfl, rfl⟩)
  cases r1
  refine ⟨f, fd, hm, F.kp, r2, F.ok sc_ratio (fun vs H Q E h => by obtain ⟨p, n, rfl, _⟩ := h; rfl) (fun cdv A outer s H vs Q E hr h => ?_)⟩
  obtain ⟨p, q, rfl, hq, h0, h1⟩ := h
  refine ⟨_, pss_cons (ps_if (pt_cmpR op_eq (pv 1) pe_int (nomark _)) (pss_one (ps_raise rfl (takes_of rfl rfl rfl rfl) (pmk_own0 C_BadRatio))) (pss_nil)) (
  pss_cons (ps_set (i := 2) sc_ratio.nd rfl (Or.inl rfl) (pe_callBfun cr_gcd rfl B.gcd (pa_cons (pv 0) (pa_cons (pv 1) pa_nil)))) (
  pss_cons (ps_if (pt_cmpR op_lt (pv 1) pe_int (nomark _)) (pss_one (ps_set (i := 2) sc_ratio.nd rfl (Or.inl rfl) (pe_un un_neg (pv 2)))) (pss_nil)) (
  pss_one (ps_ret (pe_tup (pa_cons (pe_op op_fdivWN (pv 0) (pv 2)) (pa_cons (pe_op op_fdivWN (pv 1) (pv 2)) pa_nil))))))), ?_⟩
  show tSeq _ _ _ [some (.int p), some (.int q), none] H
  refine go_seq ?_
  simp only [decide_true, decide_false, List.map_cons, List.map_nil, Option.map_none, Option.map_some, Option.getD_none, Option.getD_some, Px.dg2, Px.dg1, Px.dg, Px.din, Px.dnotin, Px.dnew, Px.dput, Px.isD_is, Px.dget_i, Px.dget_s, Px.dput_i, Px.dput_s, Px.dOf_d, Px.rtup, Px.rlist, Px.rsl, Px.rsort, Px.rcat, Px.rapp, Px.rrev, Px.sl_ap, Px.nop, Px.part, Px.yes, Px.tyl, Px.isL_l, Px.isT_t, Px.isL_t, Px.isT_l, Px.isD_d, Px.isT_d, Px.inV_ints, Px.flat_ints, Px.flatV_i, Px.wipe_cons, Px.wipe_nil, Px.gtup, Px.gcons, Px.gnil, gt_iff_lt, ge_iff_le, Px.we, Px.wonly, Px.was, Px.cxK, not_true_eq_false, and_self, true_implies, false_implies, implies_true, Px.e0, and_assoc, imp_false, not_false_eq_true, ne_eq, Px.rgcd, Px.rixl, Px.rixt, Px.v0, Px.v1, Px.v2, Px.v3, Px.v4, Px.v5, Px.v6, Px.v7, Px.v8, Px.v9, Px.v10, Px.v11, Px.v12, Px.v13, Px.v14, Px.v15, Px.v16, Px.v17, Px.v18, Px.v19, Px.v20, Px.v21, Px.v22, Px.v23, Px.c0, Px.asg, Px.gnm, Px.ret, Px.retN, Px.drop, Px.nxt, Px.brk, Px.cnt, Px.ifs, Px.op, Px.un, Px.tst, Px.tbl, Px.tand, Px.tor, Px.tnot, Px.andv, Px.orv, Px.notv, Px.tif, Px.tup, Px.lst, Px.nil, Px.cons, Px.cal, Px.calS, Px.cb, Px.par, Px.gsub, Px.bits, Px.bm, Px.bm0, Px.ri, Px.ri0, Px.ru, Px.req, Px.rne, Px.rix, Px.rlen, Px.rin, Px.rsetl, Px.risi, Px.tyH_n, Px.tyH_b, Px.tyH_i, Px.tyH_s, Px.tyH_r, Px.seqH_t, Px.seqH_l, Px.seqH_fl, Px.sc_ii, Px.sc_bb, Px.sc_ss, Px.atI0, Px.atI1, Px.atI2, Px.atI3, Px.atI4, Px.atI5, Px.atI6, Px.atI7, Px.kb_NoneType_int, Px.kb_NoneType_bool, Px.kb_NoneType_str, Px.kb_NoneType_list, Px.kb_NoneType_tuple, Px.kb_NoneType_dict, Px.kb_bool_int, Px.kb_bool_bool, Px.kb_bool_str, Px.kb_bool_list, Px.kb_bool_tuple, Px.kb_bool_dict, Px.kb_int_int, Px.kb_int_bool, Px.kb_int_str, Px.kb_int_list, Px.kb_int_tuple, Px.kb_int_dict, Px.kb_str_int, Px.kb_str_bool, Px.kb_str_str, Px.kb_str_list, Px.kb_str_tuple, Px.kb_str_dict, Px.kb_list_int, Px.kb_list_bool, Px.kb_list_str, Px.kb_list_list, Px.kb_list_tuple, Px.kb_list_dict, Px.kb_tuple_int, Px.kb_tuple_bool, Px.kb_tuple_str, Px.kb_tuple_list, Px.kb_tuple_tuple, Px.kb_tuple_dict, Px.kb_dict_int, Px.kb_dict_bool, Px.kb_dict_str, Px.kb_dict_list, Px.kb_dict_tuple, Px.kb_dict_dict, L2.upd_same, Px.updI, L2.ixN, List.set_cons_zero, List.set_cons_succ, List.length_cons, List.length_nil, Nat.reduceAdd, Nat.zero_add, L2.HO.lst.injEq, L2.HO.tup.injEq, L2.upd_upd, L2.V.int.injEq, L2.V.ref.injEq, L2.V.bl.injEq, L2.V.str.injEq, L2.V.ty.injEq, List.cons.injEq, and_true, true_and, and_false, false_and, or_false, false_or, exists_eq_left', exists_eq_left, exists_and_left, exists_const, exists_false, Option.some.injEq, decide_eq_true_eq, List.append_nil, List.cons_append, List.nil_append, Option.isSome_some, Bool.not_true, Bool.not_false, Bool.not_eq_true', Bool.not_eq_true, Bool.false_eq_true, decide_eq_false_iff_not, if_true, if_false, ite_true, ite_false, Int.reduceLE, Int.reduceLT, Int.reduceToNat, Int.cast_ofNat_Int, Bool.true_eq_false, eq_self, ↓reduceIte, reduceCtorEq, Px.aug, Px.ipi, Px.tri, Px.rcatth, Px.rixs, Px.rsls, Px.tm1, Px.glst, Px.nstr, Px.txI, Px.txC, Px.txL, Px.txA, Px.rsgn, Px.txf, Px.tost, Px.tmko, Px.risxd, *, Px.seq]
  refine go_if (fun e => h0 e) (fun e => ?_)
  have d0 := dv_ne (p := p) e
  have d1 := dv_lt (p := p) e hq
  have w : ∀ x, CDivWN x (dv p q) := fun x => cdivwn d0 d1 (by decide) (by decide)
  refine go_if (fun l => ?_) (fun l => ?_)
  · have ed : -((Nat.gcd p.natAbs q.natAbs : Nat) : Int) = dv p q := by unfold dv; rw [if_pos l]
    rw [ed]
    exact ⟨w _, w _, by decide, fun a ha => h1 e a ha⟩
  · have ed : ((Nat.gcd p.natAbs q.natAbs : Nat) : Int) = dv p q := by unfold dv; rw [if_neg l]
    rw [ed]
    exact ⟨w _, w _, by decide, fun a ha => h1 e a ha⟩
theorem lt_up {x : Nat} {a b : Nat} (h : x < 2 ^ a) (hb : a ≤ b) : x < 2 ^ b := Nat.lt_of_lt_of_le h (Nat.pow_le_pow_right (by decide) hb)
end
/-! ### Euclid, plain -/
/-- behind i turns from (x0, y0), n the bits of y0 -/
def Eu (x0 y0 n i x y : Nat) : Prop := Nat.gcd x y = Nat.gcd x0 y0 ∧ (i = 0 → x = x0 ∧ y = y0) ∧ (0 < i → y < x ∧ x * y * 2 ^ (i - 1) < 2 ^ (2 * n))
theorem eu_start (x0 y0 n : Nat) : Eu x0 y0 n 0 x0 y0 := ⟨rfl, fun _ => ⟨rfl, rfl⟩, fun h => absurd h (by decide)⟩
theorem eu_turn {x0 y0 n i x y : Nat} (hn : y0 < 2 ^ n) (h : Eu x0 y0 n i x y) (hy : y ≠ 0) : Eu x0 y0 n (i + 1) y (x % y) := by
  obtain ⟨h1, h2, h3⟩ := h
  have hr : x % y < y := Nat.mod_lt _ (by omega)
  refine ⟨?_, fun e => absurd e (by omega), fun _ => ⟨hr, ?_⟩⟩
  · rw [← h1, Nat.gcd_comm y (x % y), ← Nat.gcd_rec, Nat.gcd_comm]
  · show y * (x % y) * 2 ^ i < 2 ^ (2 * n)
    by_cases hi : i = 0
    · subst hi
      obtain ⟨_, rfl⟩ := h2 rfl
      have a : y * (x % y) < 2 ^ n * 2 ^ n := Nat.mul_lt_mul'' hn (Nat.lt_trans hr hn)
      rw [← Nat.pow_add] at a
      rw [Nat.pow_zero, Nat.mul_one, Nat.two_mul]
      exact a
    · obtain ⟨a, b⟩ := h3 (by omega)
      have c : 2 * (x % y) ≤ x := by
        have e := Nat.div_add_mod x y
        have q : 1 ≤ x / y := (Nat.one_le_div_iff (by omega)).mpr (by omega)
        have q2 : y * 1 ≤ y * (x / y) := Nat.mul_le_mul_left _ q
        omega
      have d : y * (x % y) * 2 ≤ x * y := by
        have := Nat.mul_le_mul_left y c
        rw [Nat.mul_comm x y, Nat.mul_assoc, Nat.mul_comm (x % y) 2]
        exact this
      obtain ⟨j, rfl⟩ : ∃ j, i = j + 1 := ⟨i - 1, by omega⟩
      have e : y * (x % y) * 2 ^ (j + 1) = (y * (x % y) * 2) * 2 ^ j := by rw [Nat.pow_succ, Nat.mul_comm (2 ^ j) 2, Nat.mul_assoc (y * (x % y)) 2]
      rw [e]
      exact Nat.lt_of_le_of_lt (Nat.mul_le_mul_right _ d) b
theorem eu_end {x0 y0 n x y : Nat} (h : Eu x0 y0 n (2 * n + 5) x y) : y = 0 := by
  obtain ⟨_, _, h3⟩ := h
  obtain ⟨a, b⟩ := h3 (by omega)
  cases y with
  | zero => rfl
  | succ y =>
    have c : 1 ≤ x * (y + 1) := Nat.mul_pos (by omega) (by omega)
    have d : 2 ^ (2 * n) ≤ 2 ^ (2 * n + 5 - 1) := Nat.pow_le_pow_right (by decide) (by omega)
    have e : 1 * 2 ^ (2 * n + 5 - 1) ≤ x * (y + 1) * 2 ^ (2 * n + 5 - 1) := Nat.mul_le_mul_right _ c
    omega
theorem bits_lt (y : Nat) : y < 2 ^ Builtin.Int.intBits (y : Int) := by
  unfold Builtin.Int.intBits
  by_cases h : (y : Int) == 0
  · rw [if_pos h]
    have : (y : Int) = 0 := beq_iff_eq.mp h
    omega
  · rw [if_neg h]
    exact Nat.lt_log2_self
theorem bits_le {y n : Nat} (h : y < 2 ^ n) (hn : 0 < n) : Builtin.Int.intBits (y : Int) ≤ n := by
  unfold Builtin.Int.intBits
  split
  · omega
  · exact PySem.Flt.log2_lt_of hn h
section
variable {P : Program} {w : World} {K : PySem.W.Frag} {mg : Str → Option Value} {base : Heap} {CB CT : Addr}
def spWhole (vs : List V) (H : Hp) (Q : VK) (_ : XK) : Prop := ∃ i : Int, vs = [.int i] ∧ Q (.bl true) H
theorem ok_whole (B : Bn mg) (F : FunAt K mg "_law_whole" s_law_whole) : Def P w K mg base CX0 1 "_law_whole" ["value"] spWhole := by
  refine F.ok sc_law_whole (fun _ _ _ _ _ _ us hl => match us, hl with | [_], _ => rfl) (fun vs H Q E h => by obtain ⟨p, rfl, _⟩ := h; rfl) (fun f cdv A outer s H vs Q E hr h => ?_)
  obtain ⟨i, rfl, k⟩ := h
  refine ⟨_, pss_one (ps_ret (pe_and (pe_callB isi_H rfl B.isinstance (by decide +kernel) (pa_cons (pv 0) (pa_cons (pe_bltn (v := .ty "int") rfl B.int_ (by decide +kernel) rfl) pa_nil))) (pe_one (pe_not (pe_callB isi_H rfl B.isinstance (by decide +kernel) (pa_cons (pv 0) (pa_cons (pe_bltn (v := .ty "bool") rfl B.bool_ (by decide +kernel) rfl) pa_nil))))))), ?_⟩
  show tRet _ _ [some (.int i)] H
  simp only [decide_true, decide_false, List.map_cons, List.map_nil, Option.map_none, Option.map_some, Option.getD_none, Option.getD_some, Px.dg2, Px.dg1, Px.dg, Px.din, Px.dnotin, Px.dnew, Px.dput, Px.isD_is, Px.dget_i, Px.dget_s, Px.dput_i, Px.dput_s, Px.dOf_d, Px.rtup, Px.rlist, Px.rsl, Px.rsort, Px.rcat, Px.rapp, Px.rrev, Px.sl_ap, Px.nop, Px.part, Px.yes, Px.tyl, Px.isL_l, Px.isT_t, Px.isL_t, Px.isT_l, Px.isD_d, Px.isT_d, Px.inV_ints, Px.flat_ints, Px.flatV_i, Px.wipe_cons, Px.wipe_nil, Px.gtup, Px.gcons, Px.gnil, gt_iff_lt, ge_iff_le, Px.we, Px.wonly, Px.was, Px.cxK, not_true_eq_false, and_self, true_implies, false_implies, implies_true, Px.e0, and_assoc, imp_false, not_false_eq_true, ne_eq, Px.rgcd, Px.rixl, Px.rixt, Px.v0, Px.v1, Px.v2, Px.v3, Px.v4, Px.v5, Px.v6, Px.v7, Px.v8, Px.v9, Px.v10, Px.v11, Px.v12, Px.v13, Px.v14, Px.v15, Px.v16, Px.v17, Px.v18, Px.v19, Px.v20, Px.v21, Px.v22, Px.v23, Px.c0, Px.asg, Px.gnm, Px.ret, Px.retN, Px.drop, Px.nxt, Px.brk, Px.cnt, Px.ifs, Px.op, Px.un, Px.tst, Px.tbl, Px.tand, Px.tor, Px.tnot, Px.andv, Px.orv, Px.notv, Px.tif, Px.tup, Px.lst, Px.nil, Px.cons, Px.cal, Px.calS, Px.cb, Px.par, Px.gsub, Px.bits, Px.bm, Px.bm0, Px.ri, Px.ri0, Px.ru, Px.req, Px.rne, Px.rix, Px.rlen, Px.rin, Px.rsetl, Px.risi, Px.tyH_n, Px.tyH_b, Px.tyH_i, Px.tyH_s, Px.tyH_r, Px.seqH_t, Px.seqH_l, Px.seqH_fl, Px.sc_ii, Px.sc_bb, Px.sc_ss, Px.atI0, Px.atI1, Px.atI2, Px.atI3, Px.atI4, Px.atI5, Px.atI6, Px.atI7, Px.kb_NoneType_int, Px.kb_NoneType_bool, Px.kb_NoneType_str, Px.kb_NoneType_list, Px.kb_NoneType_tuple, Px.kb_NoneType_dict, Px.kb_bool_int, Px.kb_bool_bool, Px.kb_bool_str, Px.kb_bool_list, Px.kb_bool_tuple, Px.kb_bool_dict, Px.kb_int_int, Px.kb_int_bool, Px.kb_int_str, Px.kb_int_list, Px.kb_int_tuple, Px.kb_int_dict, Px.kb_str_int, Px.kb_str_bool, Px.kb_str_str, Px.kb_str_list, Px.kb_str_tuple, Px.kb_str_dict, Px.kb_list_int, Px.kb_list_bool, Px.kb_list_str, Px.kb_list_list, Px.kb_list_tuple, Px.kb_list_dict, Px.kb_tuple_int, Px.kb_tuple_bool, Px.kb_tuple_str, Px.kb_tuple_list, Px.kb_tuple_tuple, Px.kb_tuple_dict, Px.kb_dict_int, Px.kb_dict_bool, Px.kb_dict_str, Px.kb_dict_list, Px.kb_dict_tuple, Px.kb_dict_dict, L2.upd_same, Px.updI, L2.ixN, List.set_cons_zero, List.set_cons_succ, List.length_cons, List.length_nil, Nat.reduceAdd, Nat.zero_add, L2.HO.lst.injEq, L2.HO.tup.injEq, L2.upd_upd, L2.V.int.injEq, L2.V.ref.injEq, L2.V.bl.injEq, L2.V.str.injEq, L2.V.ty.injEq, List.cons.injEq, and_true, true_and, and_false, false_and, or_false, false_or, exists_eq_left', exists_eq_left, exists_and_left, exists_const, exists_false, Option.some.injEq, decide_eq_true_eq, List.append_nil, List.cons_append, List.nil_append, Option.isSome_some, Bool.not_true, Bool.not_false, Bool.not_eq_true', Bool.not_eq_true, Bool.false_eq_true, decide_eq_false_iff_not, if_true, if_false, ite_true, ite_false, Int.reduceLE, Int.reduceLT, Int.reduceToNat, Int.cast_ofNat_Int, Bool.true_eq_false, eq_self, ↓reduceIte, reduceCtorEq, Px.aug, Px.ipi, Px.tri, Px.rcatth, Px.rixs, Px.rsls, Px.tm1, Px.glst, Px.nstr, Px.txI, Px.txC, Px.txL, Px.txA, Px.rsgn, Px.txf, Px.tost, Px.tmko, Px.risxd, *]
def gg (p q : Int) : Int := ((Nat.gcd p.natAbs q.natAbs : Nat) : Int)
def spLowest (vs : List V) (H : Hp) (Q : VK) (_ : XK) : Prop := ∃ p q : Int, vs = [.int p, .int q] ∧ 0 < q ∧ q.natAbs < 2 ^ 2000 ∧ ∀ c, H c = none → Q (.ref c) (upd H c (.tup [.int (p / gg p q), .int (q / gg p q)]))
theorem ok_lowest (B : Bn mg) (F : FunAt K mg "_law_lowest" s_law_lowest) : Def P w K mg base CX0 1 "_law_lowest" ["p", "q"] spLowest := by
  refine F.ok sc_law_lowest (fun _ _ _ _ _ _ us hl => match us, hl with | [_, _], _ => rfl) (fun vs H Q E h => by obtain ⟨p, n, rfl, _⟩ := h; rfl) (fun f cdv A outer s H vs Q E hr h => ?_)
  obtain ⟨p, q, rfl, h0, hq, k⟩ := h
  refine ⟨_, pss_cons (ps_set (i := 2) sc_law_lowest.nd rfl (Or.inl rfl) (pe_callB call_abs rfl B.abs (by decide +kernel) (pa_cons (pv 0) pa_nil))) (
  pss_cons (ps_set (i := 3) sc_law_lowest.nd rfl (Or.inl rfl) (pv 1)) (
  pcut (ps_for PassesOwn.never rfl (pi_range1 rfl B.range (pa_cons (pe_op op_add (pe_op op_mul pe_int (pe_bits (pv 3))) pe_int) pa_nil)) (pg_name (i := 4) sc_law_lowest.nd rfl (Or.inl rfl)) (
  pss_cons (ps_if (pt_cmpR op_eq (pv 3) pe_int (nomark _)) (pss_one (ps_break)) (pss_nil)) (
  pss_one (ps_par (i := 2) (j := 3) rfl sc_law_lowest.nd rfl rfl (by decide) rfl rfl (pa_cons (pv 3) (pa_cons (pe_op op_mod (pe_callTy call_intI rfl B.int_ (by decide +kernel) (pa_cons (pv 2) pa_nil)) (pe_callTy call_intI rfl B.int_ (by decide +kernel) (pa_cons (pv 3) pa_nil))) pa_nil)) rfl)))) (
  pss_one (ps_ret (pe_tup (pa_cons (pe_op op_fdivW (pv 0) (pv 2)) (pa_cons (pe_op op_fdivW (pv 1) (pv 2)) pa_nil))))))), ?_⟩
  show tSeq _ _ _ [some (.int p), some (.int q), none, none, none] H
  refine go_seq ?_
  simp only [decide_true, decide_false, List.map_cons, List.map_nil, Option.map_none, Option.map_some, Option.getD_none, Option.getD_some, Px.dg2, Px.dg1, Px.dg, Px.din, Px.dnotin, Px.dnew, Px.dput, Px.isD_is, Px.dget_i, Px.dget_s, Px.dput_i, Px.dput_s, Px.dOf_d, Px.rtup, Px.rlist, Px.rsl, Px.rsort, Px.rcat, Px.rapp, Px.rrev, Px.sl_ap, Px.nop, Px.part, Px.yes, Px.tyl, Px.isL_l, Px.isT_t, Px.isL_t, Px.isT_l, Px.isD_d, Px.isT_d, Px.inV_ints, Px.flat_ints, Px.flatV_i, Px.wipe_cons, Px.wipe_nil, Px.gtup, Px.gcons, Px.gnil, gt_iff_lt, ge_iff_le, Px.we, Px.wonly, Px.was, Px.cxK, not_true_eq_false, and_self, true_implies, false_implies, implies_true, Px.e0, and_assoc, imp_false, not_false_eq_true, ne_eq, Px.rgcd, Px.rixl, Px.rixt, Px.v0, Px.v1, Px.v2, Px.v3, Px.v4, Px.v5, Px.v6, Px.v7, Px.v8, Px.v9, Px.v10, Px.v11, Px.v12, Px.v13, Px.v14, Px.v15, Px.v16, Px.v17, Px.v18, Px.v19, Px.v20, Px.v21, Px.v22, Px.v23, Px.c0, Px.asg, Px.gnm, Px.ret, Px.retN, Px.drop, Px.nxt, Px.brk, Px.cnt, Px.ifs, Px.op, Px.un, Px.tst, Px.tbl, Px.tand, Px.tor, Px.tnot, Px.andv, Px.orv, Px.notv, Px.tif, Px.tup, Px.lst, Px.nil, Px.cons, Px.cal, Px.calS, Px.cb, Px.par, Px.gsub, Px.bits, Px.bm, Px.bm0, Px.ri, Px.ri0, Px.ru, Px.req, Px.rne, Px.rix, Px.rlen, Px.rin, Px.rsetl, Px.risi, Px.tyH_n, Px.tyH_b, Px.tyH_i, Px.tyH_s, Px.tyH_r, Px.seqH_t, Px.seqH_l, Px.seqH_fl, Px.sc_ii, Px.sc_bb, Px.sc_ss, Px.atI0, Px.atI1, Px.atI2, Px.atI3, Px.atI4, Px.atI5, Px.atI6, Px.atI7, Px.kb_NoneType_int, Px.kb_NoneType_bool, Px.kb_NoneType_str, Px.kb_NoneType_list, Px.kb_NoneType_tuple, Px.kb_NoneType_dict, Px.kb_bool_int, Px.kb_bool_bool, Px.kb_bool_str, Px.kb_bool_list, Px.kb_bool_tuple, Px.kb_bool_dict, Px.kb_int_int, Px.kb_int_bool, Px.kb_int_str, Px.kb_int_list, Px.kb_int_tuple, Px.kb_int_dict, Px.kb_str_int, Px.kb_str_bool, Px.kb_str_str, Px.kb_str_list, Px.kb_str_tuple, Px.kb_str_dict, Px.kb_list_int, Px.kb_list_bool, Px.kb_list_str, Px.kb_list_list, Px.kb_list_tuple, Px.kb_list_dict, Px.kb_tuple_int, Px.kb_tuple_bool, Px.kb_tuple_str, Px.kb_tuple_list, Px.kb_tuple_tuple, Px.kb_tuple_dict, Px.kb_dict_int, Px.kb_dict_bool, Px.kb_dict_str, Px.kb_dict_list, Px.kb_dict_tuple, Px.kb_dict_dict, L2.upd_same, Px.updI, L2.ixN, List.set_cons_zero, List.set_cons_succ, List.length_cons, List.length_nil, Nat.reduceAdd, Nat.zero_add, L2.HO.lst.injEq, L2.HO.tup.injEq, L2.upd_upd, L2.V.int.injEq, L2.V.ref.injEq, L2.V.bl.injEq, L2.V.str.injEq, L2.V.ty.injEq, List.cons.injEq, and_true, true_and, and_false, false_and, or_false, false_or, exists_eq_left', exists_eq_left, exists_and_left, exists_const, exists_false, Option.some.injEq, decide_eq_true_eq, List.append_nil, List.cons_append, List.nil_append, Option.isSome_some, Bool.not_true, Bool.not_false, Bool.not_eq_true', Bool.not_eq_true, Bool.false_eq_true, decide_eq_false_iff_not, if_true, if_false, ite_true, ite_false, Int.reduceLE, Int.reduceLT, Int.reduceToNat, Int.cast_ofNat_Int, Bool.true_eq_false, eq_self, ↓reduceIte, reduceCtorEq, Px.aug, Px.ipi, Px.tri, Px.rcatth, Px.rixs, Px.rsls, Px.tm1, Px.glst, Px.nstr, Px.txI, Px.txC, Px.txL, Px.txA, Px.rsgn, Px.txf, Px.tost, Px.tmko, Px.risxd, *, Px.seq]
  have ea : (if p < 0 then -p else p) = ((p.natAbs : Nat) : Int) := by split <;> omega
  obtain ⟨y0, rfl⟩ : ∃ y0 : Nat, q = (y0 : Int) := ⟨q.toNat, by omega⟩
  rw [ea]
  have b1 := bits_lt y0
  have b2 := bits_le (show y0 < 2 ^ 2000 from hq) (by decide)
  obtain ⟨n, en⟩ : ∃ n, Builtin.Int.intBits (y0 : Int) = n := ⟨_, rfl⟩
  rw [en] at b1 b2
  refine go_cut (fun σ' H' => ∃ v, σ' = [some (.int p), some (.int (y0 : Int)), some (.int (gg p (y0 : Int))), some (.int 0), v] ∧ H' = H) ?_ ?_
  · refine for_r1 (fun i σ' H' => ∃ (x y : Nat) (v : Option V), σ' = [some (.int p), some (.int (y0 : Int)), some (.int (x : Int)), some (.int (y : Int)), v] ∧ H' = H ∧ Eu p.natAbs y0 n i x y) (2 * (n : Int) + 5) ?_ ⟨by omega, by omega⟩ ⟨_, _, _, rfl, rfl, eu_start _ _ _⟩ ?_ ?_
    · intro Q hQ
      simp only [decide_true, decide_false, List.map_cons, List.map_nil, Option.map_none, Option.map_some, Option.getD_none, Option.getD_some, Px.dg2, Px.dg1, Px.dg, Px.din, Px.dnotin, Px.dnew, Px.dput, Px.isD_is, Px.dget_i, Px.dget_s, Px.dput_i, Px.dput_s, Px.dOf_d, Px.rtup, Px.rlist, Px.rsl, Px.rsort, Px.rcat, Px.rapp, Px.rrev, Px.sl_ap, Px.nop, Px.part, Px.yes, Px.tyl, Px.isL_l, Px.isT_t, Px.isL_t, Px.isT_l, Px.isD_d, Px.isT_d, Px.inV_ints, Px.flat_ints, Px.flatV_i, Px.wipe_cons, Px.wipe_nil, Px.gtup, Px.gcons, Px.gnil, gt_iff_lt, ge_iff_le, Px.we, Px.wonly, Px.was, Px.cxK, not_true_eq_false, and_self, true_implies, false_implies, implies_true, Px.e0, and_assoc, imp_false, not_false_eq_true, ne_eq, Px.rgcd, Px.rixl, Px.rixt, Px.v0, Px.v1, Px.v2, Px.v3, Px.v4, Px.v5, Px.v6, Px.v7, Px.v8, Px.v9, Px.v10, Px.v11, Px.v12, Px.v13, Px.v14, Px.v15, Px.v16, Px.v17, Px.v18, Px.v19, Px.v20, Px.v21, Px.v22, Px.v23, Px.c0, Px.asg, Px.gnm, Px.ret, Px.retN, Px.drop, Px.nxt, Px.brk, Px.cnt, Px.ifs, Px.op, Px.un, Px.tst, Px.tbl, Px.tand, Px.tor, Px.tnot, Px.andv, Px.orv, Px.notv, Px.tif, Px.tup, Px.lst, Px.nil, Px.cons, Px.cal, Px.calS, Px.cb, Px.par, Px.gsub, Px.bits, Px.bm, Px.bm0, Px.ri, Px.ri0, Px.ru, Px.req, Px.rne, Px.rix, Px.rlen, Px.rin, Px.rsetl, Px.risi, Px.tyH_n, Px.tyH_b, Px.tyH_i, Px.tyH_s, Px.tyH_r, Px.seqH_t, Px.seqH_l, Px.seqH_fl, Px.sc_ii, Px.sc_bb, Px.sc_ss, Px.atI0, Px.atI1, Px.atI2, Px.atI3, Px.atI4, Px.atI5, Px.atI6, Px.atI7, Px.kb_NoneType_int, Px.kb_NoneType_bool, Px.kb_NoneType_str, Px.kb_NoneType_list, Px.kb_NoneType_tuple, Px.kb_NoneType_dict, Px.kb_bool_int, Px.kb_bool_bool, Px.kb_bool_str, Px.kb_bool_list, Px.kb_bool_tuple, Px.kb_bool_dict, Px.kb_int_int, Px.kb_int_bool, Px.kb_int_str, Px.kb_int_list, Px.kb_int_tuple, Px.kb_int_dict, Px.kb_str_int, Px.kb_str_bool, Px.kb_str_str, Px.kb_str_list, Px.kb_str_tuple, Px.kb_str_dict, Px.kb_list_int, Px.kb_list_bool, Px.kb_list_str, Px.kb_list_list, Px.kb_list_tuple, Px.kb_list_dict, Px.kb_tuple_int, Px.kb_tuple_bool, Px.kb_tuple_str, Px.kb_tuple_list, Px.kb_tuple_tuple, Px.kb_tuple_dict, Px.kb_dict_int, Px.kb_dict_bool, Px.kb_dict_str, Px.kb_dict_list, Px.kb_dict_tuple, Px.kb_dict_dict, L2.upd_same, Px.updI, L2.ixN, List.set_cons_zero, List.set_cons_succ, List.length_cons, List.length_nil, Nat.reduceAdd, Nat.zero_add, L2.HO.lst.injEq, L2.HO.tup.injEq, L2.upd_upd, L2.V.int.injEq, L2.V.ref.injEq, L2.V.bl.injEq, L2.V.str.injEq, L2.V.ty.injEq, List.cons.injEq, and_true, true_and, and_false, false_and, or_false, false_or, exists_eq_left', exists_eq_left, exists_and_left, exists_const, exists_false, Option.some.injEq, decide_eq_true_eq, List.append_nil, List.cons_append, List.nil_append, Option.isSome_some, Bool.not_true, Bool.not_false, Bool.not_eq_true', Bool.not_eq_true, Bool.false_eq_true, decide_eq_false_iff_not, if_true, if_false, ite_true, ite_false, Int.reduceLE, Int.reduceLT, Int.reduceToNat, Int.cast_ofNat_Int, Bool.true_eq_false, eq_self, ↓reduceIte, reduceCtorEq, Px.aug, Px.ipi, Px.tri, Px.rcatth, Px.rixs, Px.rsls, Px.tm1, Px.glst, Px.nstr, Px.txI, Px.txC, Px.txL, Px.txA, Px.rsgn, Px.txf, Px.tost, Px.tmko, Px.risxd, *]
      exact cmul_lit (by decide) (by decide)
    · rintro i σ' H' hi ⟨x, y, v, rfl, rfl, eu⟩
      refine go_seq ?_
      simp only [decide_true, decide_false, List.map_cons, List.map_nil, Option.map_none, Option.map_some, Option.getD_none, Option.getD_some, Px.dg2, Px.dg1, Px.dg, Px.din, Px.dnotin, Px.dnew, Px.dput, Px.isD_is, Px.dget_i, Px.dget_s, Px.dput_i, Px.dput_s, Px.dOf_d, Px.rtup, Px.rlist, Px.rsl, Px.rsort, Px.rcat, Px.rapp, Px.rrev, Px.sl_ap, Px.nop, Px.part, Px.yes, Px.tyl, Px.isL_l, Px.isT_t, Px.isL_t, Px.isT_l, Px.isD_d, Px.isT_d, Px.inV_ints, Px.flat_ints, Px.flatV_i, Px.wipe_cons, Px.wipe_nil, Px.gtup, Px.gcons, Px.gnil, gt_iff_lt, ge_iff_le, Px.we, Px.wonly, Px.was, Px.cxK, not_true_eq_false, and_self, true_implies, false_implies, implies_true, Px.e0, and_assoc, imp_false, not_false_eq_true, ne_eq, Px.rgcd, Px.rixl, Px.rixt, Px.v0, Px.v1, Px.v2, Px.v3, Px.v4, Px.v5, Px.v6, Px.v7, Px.v8, Px.v9, Px.v10, Px.v11, Px.v12, Px.v13, Px.v14, Px.v15, Px.v16, Px.v17, Px.v18, Px.v19, Px.v20, Px.v21, Px.v22, Px.v23, Px.c0, Px.asg, Px.gnm, Px.ret, Px.retN, Px.drop, Px.nxt, Px.brk, Px.cnt, Px.ifs, Px.op, Px.un, Px.tst, Px.tbl, Px.tand, Px.tor, Px.tnot, Px.andv, Px.orv, Px.notv, Px.tif, Px.tup, Px.lst, Px.nil, Px.cons, Px.cal, Px.calS, Px.cb, Px.par, Px.gsub, Px.bits, Px.bm, Px.bm0, Px.ri, Px.ri0, Px.ru, Px.req, Px.rne, Px.rix, Px.rlen, Px.rin, Px.rsetl, Px.risi, Px.tyH_n, Px.tyH_b, Px.tyH_i, Px.tyH_s, Px.tyH_r, Px.seqH_t, Px.seqH_l, Px.seqH_fl, Px.sc_ii, Px.sc_bb, Px.sc_ss, Px.atI0, Px.atI1, Px.atI2, Px.atI3, Px.atI4, Px.atI5, Px.atI6, Px.atI7, Px.kb_NoneType_int, Px.kb_NoneType_bool, Px.kb_NoneType_str, Px.kb_NoneType_list, Px.kb_NoneType_tuple, Px.kb_NoneType_dict, Px.kb_bool_int, Px.kb_bool_bool, Px.kb_bool_str, Px.kb_bool_list, Px.kb_bool_tuple, Px.kb_bool_dict, Px.kb_int_int, Px.kb_int_bool, Px.kb_int_str, Px.kb_int_list, Px.kb_int_tuple, Px.kb_int_dict, Px.kb_str_int, Px.kb_str_bool, Px.kb_str_str, Px.kb_str_list, Px.kb_str_tuple, Px.kb_str_dict, Px.kb_list_int, Px.kb_list_bool, Px.kb_list_str, Px.kb_list_list, Px.kb_list_tuple, Px.kb_list_dict, Px.kb_tuple_int, Px.kb_tuple_bool, Px.kb_tuple_str, Px.kb_tuple_list, Px.kb_tuple_tuple, Px.kb_tuple_dict, Px.kb_dict_int, Px.kb_dict_bool, Px.kb_dict_str, Px.kb_dict_list, Px.kb_dict_tuple, Px.kb_dict_dict, L2.upd_same, Px.updI, L2.ixN, List.set_cons_zero, List.set_cons_succ, List.length_cons, List.length_nil, Nat.reduceAdd, Nat.zero_add, L2.HO.lst.injEq, L2.HO.tup.injEq, L2.upd_upd, L2.V.int.injEq, L2.V.ref.injEq, L2.V.bl.injEq, L2.V.str.injEq, L2.V.ty.injEq, List.cons.injEq, and_true, true_and, and_false, false_and, or_false, false_or, exists_eq_left', exists_eq_left, exists_and_left, exists_const, exists_false, Option.some.injEq, decide_eq_true_eq, List.append_nil, List.cons_append, List.nil_append, Option.isSome_some, Bool.not_true, Bool.not_false, Bool.not_eq_true', Bool.not_eq_true, Bool.false_eq_true, decide_eq_false_iff_not, if_true, if_false, ite_true, ite_false, Int.reduceLE, Int.reduceLT, Int.reduceToNat, Int.cast_ofNat_Int, Bool.true_eq_false, eq_self, ↓reduceIte, reduceCtorEq, Px.aug, Px.ipi, Px.tri, Px.rcatth, Px.rixs, Px.rsls, Px.tm1, Px.glst, Px.nstr, Px.txI, Px.txC, Px.txL, Px.txA, Px.rsgn, Px.txf, Px.tost, Px.tmko, Px.risxd, *]
      refine go_if (fun e => ?_) (fun e => ?_)
      · have ey : y = 0 := by omega
        subst ey
        have ex : (x : Int) = gg p (y0 : Int) := by
          have z := eu.1
          rw [Nat.gcd_zero_right] at z
          show (x : Int) = ((Nat.gcd p.natAbs (y0 : Int).natAbs : Nat) : Int)
          rw [Int.natAbs_natCast, z]
        simp only [decide_true, decide_false, List.map_cons, List.map_nil, Option.map_none, Option.map_some, Option.getD_none, Option.getD_some, Px.dg2, Px.dg1, Px.dg, Px.din, Px.dnotin, Px.dnew, Px.dput, Px.isD_is, Px.dget_i, Px.dget_s, Px.dput_i, Px.dput_s, Px.dOf_d, Px.rtup, Px.rlist, Px.rsl, Px.rsort, Px.rcat, Px.rapp, Px.rrev, Px.sl_ap, Px.nop, Px.part, Px.yes, Px.tyl, Px.isL_l, Px.isT_t, Px.isL_t, Px.isT_l, Px.isD_d, Px.isT_d, Px.inV_ints, Px.flat_ints, Px.flatV_i, Px.wipe_cons, Px.wipe_nil, Px.gtup, Px.gcons, Px.gnil, gt_iff_lt, ge_iff_le, Px.we, Px.wonly, Px.was, Px.cxK, not_true_eq_false, and_self, true_implies, false_implies, implies_true, Px.e0, and_assoc, imp_false, not_false_eq_true, ne_eq, Px.rgcd, Px.rixl, Px.rixt, Px.v0, Px.v1, Px.v2, Px.v3, Px.v4, Px.v5, Px.v6, Px.v7, Px.v8, Px.v9, Px.v10, Px.v11, Px.v12, Px.v13, Px.v14, Px.v15, Px.v16, Px.v17, Px.v18, Px.v19, Px.v20, Px.v21, Px.v22, Px.v23, Px.c0, Px.asg, Px.gnm, Px.ret, Px.retN, Px.drop, Px.nxt, Px.brk, Px.cnt, Px.ifs, Px.op, Px.un, Px.tst, Px.tbl, Px.tand, Px.tor, Px.tnot, Px.andv, Px.orv, Px.notv, Px.tif, Px.tup, Px.lst, Px.nil, Px.cons, Px.cal, Px.calS, Px.cb, Px.par, Px.gsub, Px.bits, Px.bm, Px.bm0, Px.ri, Px.ri0, Px.ru, Px.req, Px.rne, Px.rix, Px.rlen, Px.rin, Px.rsetl, Px.risi, Px.tyH_n, Px.tyH_b, Px.tyH_i, Px.tyH_s, Px.tyH_r, Px.seqH_t, Px.seqH_l, Px.seqH_fl, Px.sc_ii, Px.sc_bb, Px.sc_ss, Px.atI0, Px.atI1, Px.atI2, Px.atI3, Px.atI4, Px.atI5, Px.atI6, Px.atI7, Px.kb_NoneType_int, Px.kb_NoneType_bool, Px.kb_NoneType_str, Px.kb_NoneType_list, Px.kb_NoneType_tuple, Px.kb_NoneType_dict, Px.kb_bool_int, Px.kb_bool_bool, Px.kb_bool_str, Px.kb_bool_list, Px.kb_bool_tuple, Px.kb_bool_dict, Px.kb_int_int, Px.kb_int_bool, Px.kb_int_str, Px.kb_int_list, Px.kb_int_tuple, Px.kb_int_dict, Px.kb_str_int, Px.kb_str_bool, Px.kb_str_str, Px.kb_str_list, Px.kb_str_tuple, Px.kb_str_dict, Px.kb_list_int, Px.kb_list_bool, Px.kb_list_str, Px.kb_list_list, Px.kb_list_tuple, Px.kb_list_dict, Px.kb_tuple_int, Px.kb_tuple_bool, Px.kb_tuple_str, Px.kb_tuple_list, Px.kb_tuple_tuple, Px.kb_tuple_dict, Px.kb_dict_int, Px.kb_dict_bool, Px.kb_dict_str, Px.kb_dict_list, Px.kb_dict_tuple, Px.kb_dict_dict, L2.upd_same, Px.updI, L2.ixN, List.set_cons_zero, List.set_cons_succ, List.length_cons, List.length_nil, Nat.reduceAdd, Nat.zero_add, L2.HO.lst.injEq, L2.HO.tup.injEq, L2.upd_upd, L2.V.int.injEq, L2.V.ref.injEq, L2.V.bl.injEq, L2.V.str.injEq, L2.V.ty.injEq, List.cons.injEq, and_true, true_and, and_false, false_and, or_false, false_or, exists_eq_left', exists_eq_left, exists_and_left, exists_const, exists_false, Option.some.injEq, decide_eq_true_eq, List.append_nil, List.cons_append, List.nil_append, Option.isSome_some, Bool.not_true, Bool.not_false, Bool.not_eq_true', Bool.not_eq_true, Bool.false_eq_true, decide_eq_false_iff_not, if_true, if_false, ite_true, ite_false, Int.reduceLE, Int.reduceLT, Int.reduceToNat, Int.cast_ofNat_Int, Bool.true_eq_false, eq_self, ↓reduceIte, reduceCtorEq, Px.aug, Px.ipi, Px.tri, Px.rcatth, Px.rixs, Px.rsls, Px.tm1, Px.glst, Px.nstr, Px.txI, Px.txC, Px.txL, Px.txA, Px.rsgn, Px.txf, Px.tost, Px.tmko, Px.risxd]
        exact ex
      · exact ⟨by omega, y, rfl, x % y, (Int.natCast_emod x y).symm, eu_turn b1 eu (by omega)⟩
    · rintro σ' H' ⟨x, y, v, rfl, rfl, eu⟩
      have e5 : (2 * (n : Int) + 5).toNat = 2 * n + 5 := by omega
      rw [e5] at eu
      have ey := eu_end eu
      subst ey
      have ex : (x : Int) = gg p (y0 : Int) := by
        have z := eu.1
        rw [Nat.gcd_zero_right] at z
        show (x : Int) = ((Nat.gcd p.natAbs (y0 : Int).natAbs : Nat) : Int)
        rw [Int.natAbs_natCast, z]
      exact ⟨v, by rw [ex]; rfl, rfl⟩
  · rintro σ' H' ⟨v, rfl, rfl⟩
    simp only [decide_true, decide_false, List.map_cons, List.map_nil, Option.map_none, Option.map_some, Option.getD_none, Option.getD_some, Px.dg2, Px.dg1, Px.dg, Px.din, Px.dnotin, Px.dnew, Px.dput, Px.isD_is, Px.dget_i, Px.dget_s, Px.dput_i, Px.dput_s, Px.dOf_d, Px.rtup, Px.rlist, Px.rsl, Px.rsort, Px.rcat, Px.rapp, Px.rrev, Px.sl_ap, Px.nop, Px.part, Px.yes, Px.tyl, Px.isL_l, Px.isT_t, Px.isL_t, Px.isT_l, Px.isD_d, Px.isT_d, Px.inV_ints, Px.flat_ints, Px.flatV_i, Px.wipe_cons, Px.wipe_nil, Px.gtup, Px.gcons, Px.gnil, gt_iff_lt, ge_iff_le, Px.we, Px.wonly, Px.was, Px.cxK, not_true_eq_false, and_self, true_implies, false_implies, implies_true, Px.e0, and_assoc, imp_false, not_false_eq_true, ne_eq, Px.rgcd, Px.rixl, Px.rixt, Px.v0, Px.v1, Px.v2, Px.v3, Px.v4, Px.v5, Px.v6, Px.v7, Px.v8, Px.v9, Px.v10, Px.v11, Px.v12, Px.v13, Px.v14, Px.v15, Px.v16, Px.v17, Px.v18, Px.v19, Px.v20, Px.v21, Px.v22, Px.v23, Px.c0, Px.asg, Px.gnm, Px.ret, Px.retN, Px.drop, Px.nxt, Px.brk, Px.cnt, Px.ifs, Px.op, Px.un, Px.tst, Px.tbl, Px.tand, Px.tor, Px.tnot, Px.andv, Px.orv, Px.notv, Px.tif, Px.tup, Px.lst, Px.nil, Px.cons, Px.cal, Px.calS, Px.cb, Px.par, Px.gsub, Px.bits, Px.bm, Px.bm0, Px.ri, Px.ri0, Px.ru, Px.req, Px.rne, Px.rix, Px.rlen, Px.rin, Px.rsetl, Px.risi, Px.tyH_n, Px.tyH_b, Px.tyH_i, Px.tyH_s, Px.tyH_r, Px.seqH_t, Px.seqH_l, Px.seqH_fl, Px.sc_ii, Px.sc_bb, Px.sc_ss, Px.atI0, Px.atI1, Px.atI2, Px.atI3, Px.atI4, Px.atI5, Px.atI6, Px.atI7, Px.kb_NoneType_int, Px.kb_NoneType_bool, Px.kb_NoneType_str, Px.kb_NoneType_list, Px.kb_NoneType_tuple, Px.kb_NoneType_dict, Px.kb_bool_int, Px.kb_bool_bool, Px.kb_bool_str, Px.kb_bool_list, Px.kb_bool_tuple, Px.kb_bool_dict, Px.kb_int_int, Px.kb_int_bool, Px.kb_int_str, Px.kb_int_list, Px.kb_int_tuple, Px.kb_int_dict, Px.kb_str_int, Px.kb_str_bool, Px.kb_str_str, Px.kb_str_list, Px.kb_str_tuple, Px.kb_str_dict, Px.kb_list_int, Px.kb_list_bool, Px.kb_list_str, Px.kb_list_list, Px.kb_list_tuple, Px.kb_list_dict, Px.kb_tuple_int, Px.kb_tuple_bool, Px.kb_tuple_str, Px.kb_tuple_list, Px.kb_tuple_tuple, Px.kb_tuple_dict, Px.kb_dict_int, Px.kb_dict_bool, Px.kb_dict_str, Px.kb_dict_list, Px.kb_dict_tuple, Px.kb_dict_dict, L2.upd_same, Px.updI, L2.ixN, List.set_cons_zero, List.set_cons_succ, List.length_cons, List.length_nil, Nat.reduceAdd, Nat.zero_add, L2.HO.lst.injEq, L2.HO.tup.injEq, L2.upd_upd, L2.V.int.injEq, L2.V.ref.injEq, L2.V.bl.injEq, L2.V.str.injEq, L2.V.ty.injEq, List.cons.injEq, and_true, true_and, and_false, false_and, or_false, false_or, exists_eq_left', exists_eq_left, exists_and_left, exists_const, exists_false, Option.some.injEq, decide_eq_true_eq, List.append_nil, List.cons_append, List.nil_append, Option.isSome_some, Bool.not_true, Bool.not_false, Bool.not_eq_true', Bool.not_eq_true, Bool.false_eq_true, decide_eq_false_iff_not, if_true, if_false, ite_true, ite_false, Int.reduceLE, Int.reduceLT, Int.reduceToNat, Int.cast_ofNat_Int, Bool.true_eq_false, eq_self, ↓reduceIte, reduceCtorEq, Px.aug, Px.ipi, Px.tri, Px.rcatth, Px.rixs, Px.rsls, Px.tm1, Px.glst, Px.nstr, Px.txI, Px.txC, Px.txL, Px.txA, Px.rsgn, Px.txf, Px.tost, Px.tmko, Px.risxd, *]
    have g0 : 0 < gg p (y0 : Int) := by
      have := Nat.gcd_pos_of_pos_right p.natAbs (show 0 < (y0 : Int).natAbs by omega)
      unfold gg
      omega
    have g1 : (gg p (y0 : Int)).natAbs < 2 ^ 2000 := Nat.lt_of_le_of_lt (by
      have := Nat.gcd_le_right p.natAbs (show 0 < (y0 : Int).natAbs by omega)
      unfold gg
      omega) hq
    exact ⟨wide_div g0 g1 (by decide) (by decide), wide_div g0 g1 (by decide) (by decide), by decide, k⟩
/-! ### texts of numbers -/
def wt (i : Int) : List Nat := if i < 0 then 45 :: TL.numL i.natAbs else TL.numL i.natAbs
theorem str_wt (i : Int) : Str.ofString (toString i) = Tx (wt i) := by
  cases i with
  | ofNat m =>
    have e : wt (Int.ofNat m) = TL.numL m := if_neg (show ¬ (m : Int) < 0 by omega)
    rw [e]
    exact SX.num_S m
  | negSucc n =>
    have e : wt (Int.negSucc n) = 45 :: TL.numL (n + 1) := if_pos (Int.negSucc_lt_zero n)
    have h := SX.num_S (n + 1)
    rw [Str.ofString_eq_toList] at h
    have h' := SX.S_inj (a := (toString ((n + 1 : Nat) : Int)).toList.map Char.toNat) h
    rw [e, Str.ofString_eq_toList]
    have e2 : (toString (Int.negSucc n)).toList = '-' :: (toString ((n + 1 : Nat) : Int)).toList := by
      show ("-" ++ toString (n + 1)).toList = '-' :: (toString (n + 1)).toList
      rw [String.toList_append]
      rfl
    rw [e2, List.map_cons, h']
    rfl
theorem wt_len {i : Int} (h : i.natAbs < 10 ^ 100) : (wt i).length ≤ 101 := by
  have := TL.numL_len (k := 100) (by decide) h
  unfold wt
  split
  · rw [List.length_cons]; omega
  · omega
theorem whl_wt (i : Int) : whl (wt i) = true ∧ wv (wt i) = i := by
  obtain ⟨h1, h2⟩ := cnt_num i.natAbs
  unfold wt
  split
  · rename_i q
    unfold whl wv ab
    rw [List.head?_cons, if_pos rfl, if_pos rfl, if_pos rfl, List.tail_cons, h1, decide_eq_true (h2 (by omega)), TL.numL_val]
    exact ⟨rfl, by omega⟩
  · rename_i q
    have nh : ¬ (TL.numL i.natAbs).head? = some 45 := fun z => by
      cases e : TL.numL i.natAbs with
      | nil => rw [e] at z; cases z
      | cons c r =>
        rw [e] at z
        have := TL.numL_digits i.natAbs c (by rw [e]; exact List.mem_cons_self)
        have := Option.some.inj z
        omega
    unfold whl wv ab
    rw [if_neg nh, if_neg nh, if_neg nh, TL.numL_val]
    exact ⟨h1, by omega⟩
theorem wt_free (i : Int) : 47 ∉ wt i := whl_no (whl_wt i).1
def spText (vs : List V) (H : Hp) (Q : VK) (_ : XK) : Prop := ∃ (a : Addr) (p q : Int), vs = [.ref a] ∧ H a = some (.tup [.int p, .int q]) ∧ p.natAbs < 10 ^ 100 ∧ q.natAbs < 10 ^ 100 ∧ Q (.str (Tx (wt p ++ 47 :: wt q))) H
theorem log_ok {p : Int} (h : p.natAbs < 10 ^ 100) : p.natAbs.log2 < 1920 := PySem.Flt.log2_lt_of (by decide) (Nat.lt_trans h (by decide))
theorem ok_text (B : Bn mg) (F : FunAt K mg "ratio_text" s_ratio_text) : Def P w K mg base CX0 1 "ratio_text" ["a"] spText := by
  refine F.ok sc_ratio_text (fun _ _ _ _ _ _ us hl => match us, hl with | [_], _ => rfl) (fun vs H Q E h => by obtain ⟨_, _, _, rfl, _⟩ := h; rfl) (fun f cdv A outer s H vs Q E hr h => ?_)
  obtain ⟨a, p, q, rfl, ha, h1, h2, k⟩ := h
  refine ⟨_, pss_one (ps_ret (pe_op op_add_str (pe_op op_add_str (pe_callTy call_str_int rfl B.str_ (by decide +kernel) (pa_cons (pe_ix ix_H (pv 0) pe_int (fun _ _ => rfl)) pa_nil)) pe_str) (pe_callTy call_str_int rfl B.str_ (by decide +kernel) (pa_cons (pe_ix ix_H (pv 0) pe_int (fun _ _ => rfl)) pa_nil)))), ?_⟩
  show tRet _ _ [some (.ref a)] H
  have l1 := log_ok h1
  have l2 := log_ok h2
  have w1 := wt_len h1
  have w2 := wt_len h2
  simp only [decide_true, decide_false, List.map_cons, List.map_nil, Option.map_none, Option.map_some, Option.getD_none, Option.getD_some, Px.dg2, Px.dg1, Px.dg, Px.din, Px.dnotin, Px.dnew, Px.dput, Px.isD_is, Px.dget_i, Px.dget_s, Px.dput_i, Px.dput_s, Px.dOf_d, Px.rtup, Px.rlist, Px.rsl, Px.rsort, Px.rcat, Px.rapp, Px.rrev, Px.sl_ap, Px.nop, Px.part, Px.yes, Px.tyl, Px.isL_l, Px.isT_t, Px.isL_t, Px.isT_l, Px.isD_d, Px.isT_d, Px.inV_ints, Px.flat_ints, Px.flatV_i, Px.wipe_cons, Px.wipe_nil, Px.gtup, Px.gcons, Px.gnil, gt_iff_lt, ge_iff_le, Px.we, Px.wonly, Px.was, Px.cxK, not_true_eq_false, and_self, true_implies, false_implies, implies_true, Px.e0, and_assoc, imp_false, not_false_eq_true, ne_eq, Px.rgcd, Px.rixl, Px.rixt, Px.v0, Px.v1, Px.v2, Px.v3, Px.v4, Px.v5, Px.v6, Px.v7, Px.v8, Px.v9, Px.v10, Px.v11, Px.v12, Px.v13, Px.v14, Px.v15, Px.v16, Px.v17, Px.v18, Px.v19, Px.v20, Px.v21, Px.v22, Px.v23, Px.c0, Px.asg, Px.gnm, Px.ret, Px.retN, Px.drop, Px.nxt, Px.brk, Px.cnt, Px.ifs, Px.op, Px.un, Px.tst, Px.tbl, Px.tand, Px.tor, Px.tnot, Px.andv, Px.orv, Px.notv, Px.tif, Px.tup, Px.lst, Px.nil, Px.cons, Px.cal, Px.calS, Px.cb, Px.par, Px.gsub, Px.bits, Px.bm, Px.bm0, Px.ri, Px.ri0, Px.ru, Px.req, Px.rne, Px.rix, Px.rlen, Px.rin, Px.rsetl, Px.risi, Px.tyH_n, Px.tyH_b, Px.tyH_i, Px.tyH_s, Px.tyH_r, Px.seqH_t, Px.seqH_l, Px.seqH_fl, Px.sc_ii, Px.sc_bb, Px.sc_ss, Px.atI0, Px.atI1, Px.atI2, Px.atI3, Px.atI4, Px.atI5, Px.atI6, Px.atI7, Px.kb_NoneType_int, Px.kb_NoneType_bool, Px.kb_NoneType_str, Px.kb_NoneType_list, Px.kb_NoneType_tuple, Px.kb_NoneType_dict, Px.kb_bool_int, Px.kb_bool_bool, Px.kb_bool_str, Px.kb_bool_list, Px.kb_bool_tuple, Px.kb_bool_dict, Px.kb_int_int, Px.kb_int_bool, Px.kb_int_str, Px.kb_int_list, Px.kb_int_tuple, Px.kb_int_dict, Px.kb_str_int, Px.kb_str_bool, Px.kb_str_str, Px.kb_str_list, Px.kb_str_tuple, Px.kb_str_dict, Px.kb_list_int, Px.kb_list_bool, Px.kb_list_str, Px.kb_list_list, Px.kb_list_tuple, Px.kb_list_dict, Px.kb_tuple_int, Px.kb_tuple_bool, Px.kb_tuple_str, Px.kb_tuple_list, Px.kb_tuple_tuple, Px.kb_tuple_dict, Px.kb_dict_int, Px.kb_dict_bool, Px.kb_dict_str, Px.kb_dict_list, Px.kb_dict_tuple, Px.kb_dict_dict, L2.upd_same, Px.updI, L2.ixN, List.set_cons_zero, List.set_cons_succ, List.length_cons, List.length_nil, Nat.reduceAdd, Nat.zero_add, L2.HO.lst.injEq, L2.HO.tup.injEq, L2.upd_upd, L2.V.int.injEq, L2.V.ref.injEq, L2.V.bl.injEq, L2.V.str.injEq, L2.V.ty.injEq, List.cons.injEq, and_true, true_and, and_false, false_and, or_false, false_or, exists_eq_left', exists_eq_left, exists_and_left, exists_const, exists_false, Option.some.injEq, decide_eq_true_eq, List.append_nil, List.cons_append, List.nil_append, Option.isSome_some, Bool.not_true, Bool.not_false, Bool.not_eq_true', Bool.not_eq_true, Bool.false_eq_true, decide_eq_false_iff_not, if_true, if_false, ite_true, ite_false, Int.reduceLE, Int.reduceLT, Int.reduceToNat, Int.cast_ofNat_Int, Bool.true_eq_false, eq_self, ↓reduceIte, reduceCtorEq, Px.aug, Px.ipi, Px.tri, Px.rcatth, Px.rixs, Px.rsls, Px.tm1, Px.glst, Px.nstr, Px.txI, Px.txC, Px.txL, Px.txA, Px.rsgn, Px.txf, Px.tost, Px.tmko, Px.risxd, *, str_wt, l_s]
  refine ⟨line_ok (show _ ≤ 10000 by omega), line_ok (show _ ≤ 10000 by rw [List.length_append, List.length_singleton]; omega), ?_⟩
  rw [List.append_assoc]
  exact k
end
end K96

namespace K96
open PySem PySem.Spec PyProof.Rows L2 Px
/-- what K says of the errors: BadText at CT, PaperError at CP -/
structure Errs (K : PySem.W.Frag) (mg : Str → Option Value) (CT CP c1 c2 c3 c4 c5 c6 d1 d2 d3 d4 : Addr) : Prop where
  gT : mg "BadText" = some (.ref CT)
  gP : mg "PaperError" = some (.ref CP)
  eT : PySem.W.exmOne K (.ref CT) (.ref CT) = some true
  eP : PySem.W.exmOne K (.ref CT) (.ref CP) = some true
  ec : ExcC K CT
  xf : XfC K CT
  ox : OexC K CT
  nf : PySem.W.findIn K (.ref CT) "place" = some none
  g1 : mg "BadLiteral" = some (.ref c1)
  g2 : mg "BadModel" = some (.ref c2)
  g3 : mg "BadName" = some (.ref c3)
  g4 : mg "BadNode" = some (.ref c4)
  gB : mg "BadRatio" = some (.ref c5)
  g6 : mg "BadSort" = some (.ref c6)
  h1 : mg "NameTaken" = some (.ref d1)
  h2 : mg "NoAnswer" = some (.ref d2)
  h3 : mg "NoLevel" = some (.ref d3)
  h4 : mg "UnknownName" = some (.ref d4)
  k1 : PySem.W.kitAny K (.ref CT) [.ref c1, .ref c2, .ref c3, .ref c4, .ref c5, .ref c6] = some false
  k2 : PySem.W.kitAny K (.ref CT) [.ref d1, .ref d2, .ref d3, .ref d4] = some false
  k3 : PySem.W.kitAny K (.ref CT) [.ref CT] = some true
  k4 : PySem.W.kitAny K (.ref CT) [.type "ValueError"] = some true
section
variable {P : Program} {w : World} {K : PySem.W.Frag} {mg : Str → Option Value} {base : Heap} {CB CT CP c1 c2 c3 c4 c5 c6 d1 d2 d3 d4 : Addr}
def spBInit (CT : Addr) (vs : List V) (H : Hp) (Q : VK) (_ : XK) : Prop := ∃ (a : Addr) (i : Int), vs = [.ref a, .int i] ∧ H a = some (exo a CT none) ∧ ∀ dx, H dx = none → dx ≠ a → Q .non (upd (upd H dx (exd dx [("place", .int i)])) a (exo a CT (some dx)))
theorem ok_binit {f : Addr} {fd : FuncData} (B : Bn mg) (X : Errs K mg CT CP c1 c2 c3 c4 c5 c6 d1 d2 d3 d4) (F : Fun K "__init__" "BadText.__init__" s_BadText___init__ f fd) : FnOk P w K mg base CX0 1 f fd ["self", "place"] (spBInit CT) := by
  refine F.ok sc_BadText___init__ (fun vs H Q E h => by obtain ⟨_, _, rfl, _⟩ := h; rfl) (fun cdv A outer s H vs Q E hr h => ?_)
  obtain ⟨a, i, rfl, ha, k⟩ := h
  refine ⟨_, pss_one (ps_ost (pv 0) (pv 1)), ?_⟩
  show tOst _ _ _ _ _ [some (.ref a), some (.int i)] H
  simp only [decide_true, decide_false, List.map_cons, List.map_nil, Option.map_none, Option.map_some, Option.getD_none, Option.getD_some, Px.dg2, Px.dg1, Px.dg, Px.din, Px.dnotin, Px.dnew, Px.dput, Px.isD_is, Px.dget_i, Px.dget_s, Px.dput_i, Px.dput_s, Px.dOf_d, Px.rtup, Px.rlist, Px.rsl, Px.rsort, Px.rcat, Px.rapp, Px.rrev, Px.sl_ap, Px.nop, Px.part, Px.yes, Px.tyl, Px.isL_l, Px.isT_t, Px.isL_t, Px.isT_l, Px.isD_d, Px.isT_d, Px.inV_ints, Px.flat_ints, Px.flatV_i, Px.wipe_cons, Px.wipe_nil, Px.gtup, Px.gcons, Px.gnil, gt_iff_lt, ge_iff_le, Px.we, Px.wonly, Px.was, Px.cxK, not_true_eq_false, and_self, true_implies, false_implies, implies_true, Px.e0, and_assoc, imp_false, not_false_eq_true, ne_eq, Px.rgcd, Px.rixl, Px.rixt, Px.v0, Px.v1, Px.v2, Px.v3, Px.v4, Px.v5, Px.v6, Px.v7, Px.v8, Px.v9, Px.v10, Px.v11, Px.v12, Px.v13, Px.v14, Px.v15, Px.v16, Px.v17, Px.v18, Px.v19, Px.v20, Px.v21, Px.v22, Px.v23, Px.c0, Px.asg, Px.gnm, Px.ret, Px.retN, Px.drop, Px.nxt, Px.brk, Px.cnt, Px.ifs, Px.op, Px.un, Px.tst, Px.tbl, Px.tand, Px.tor, Px.tnot, Px.andv, Px.orv, Px.notv, Px.tif, Px.tup, Px.lst, Px.nil, Px.cons, Px.cal, Px.calS, Px.cb, Px.par, Px.gsub, Px.bits, Px.bm, Px.bm0, Px.ri, Px.ri0, Px.ru, Px.req, Px.rne, Px.rix, Px.rlen, Px.rin, Px.rsetl, Px.risi, Px.tyH_n, Px.tyH_b, Px.tyH_i, Px.tyH_s, Px.tyH_r, Px.seqH_t, Px.seqH_l, Px.seqH_fl, Px.sc_ii, Px.sc_bb, Px.sc_ss, Px.atI0, Px.atI1, Px.atI2, Px.atI3, Px.atI4, Px.atI5, Px.atI6, Px.atI7, Px.kb_NoneType_int, Px.kb_NoneType_bool, Px.kb_NoneType_str, Px.kb_NoneType_list, Px.kb_NoneType_tuple, Px.kb_NoneType_dict, Px.kb_bool_int, Px.kb_bool_bool, Px.kb_bool_str, Px.kb_bool_list, Px.kb_bool_tuple, Px.kb_bool_dict, Px.kb_int_int, Px.kb_int_bool, Px.kb_int_str, Px.kb_int_list, Px.kb_int_tuple, Px.kb_int_dict, Px.kb_str_int, Px.kb_str_bool, Px.kb_str_str, Px.kb_str_list, Px.kb_str_tuple, Px.kb_str_dict, Px.kb_list_int, Px.kb_list_bool, Px.kb_list_str, Px.kb_list_list, Px.kb_list_tuple, Px.kb_list_dict, Px.kb_tuple_int, Px.kb_tuple_bool, Px.kb_tuple_str, Px.kb_tuple_list, Px.kb_tuple_tuple, Px.kb_tuple_dict, Px.kb_dict_int, Px.kb_dict_bool, Px.kb_dict_str, Px.kb_dict_list, Px.kb_dict_tuple, Px.kb_dict_dict, L2.upd_same, Px.updI, L2.ixN, List.set_cons_zero, List.set_cons_succ, List.length_cons, List.length_nil, Nat.reduceAdd, Nat.zero_add, L2.HO.lst.injEq, L2.HO.tup.injEq, L2.upd_upd, L2.V.int.injEq, L2.V.ref.injEq, L2.V.bl.injEq, L2.V.str.injEq, L2.V.ty.injEq, List.cons.injEq, and_true, true_and, and_false, false_and, or_false, false_or, exists_eq_left', exists_eq_left, exists_and_left, exists_const, exists_false, Option.some.injEq, decide_eq_true_eq, List.append_nil, List.cons_append, List.nil_append, Option.isSome_some, Bool.not_true, Bool.not_false, Bool.not_eq_true', Bool.not_eq_true, Bool.false_eq_true, decide_eq_false_iff_not, if_true, if_false, ite_true, ite_false, Int.reduceLE, Int.reduceLT, Int.reduceToNat, Int.cast_ofNat_Int, Bool.true_eq_false, eq_self, ↓reduceIte, reduceCtorEq, Px.aug, Px.ipi, Px.tri, Px.rcatth, Px.rixs, Px.rsls, Px.tm1, Px.glst, Px.nstr, Px.txI, Px.txC, Px.txL, Px.txA, Px.rsgn, Px.txf, Px.tost, Px.tmko, Px.risxd]
  exact ⟨CT, X.ox, X.nf, .inl ⟨ha, fun dx h1 h2 => k dx h1 h2⟩⟩
def rdT (a : List Nat) : Int × Int := (wv ((prt a).getD 0 []), ((NumText.digitsVal ((prt a).getD 1 []) : Nat) : Int))
def spParse (CT : Addr) (vs : List V) (H : Hp) (Q : VK) (E : XK) : Prop := ∃ a : List Nat, vs = [.str (Tx a)] ∧ a.length ≤ 600 ∧
  (rat a = true → ∀ c H', Px.Ext H H' → H' c = some (.tup [.int (top' (rdT a).1 (rdT a).2), .int (bot (rdT a).1 (rdT a).2)]) → Q (.ref c) H') ∧
  (rat a = false → ∀ d H', Px.Ext H H' → H' d = some (.xd [("place", .int 0)]) → E (.ref CT) (some d) H')
theorem ok_parse (B : Bn mg) (X : Errs K mg CT CP c1 c2 c3 c4 c5 c6 d1 d2 d3 d4) (F : FunAt K mg "parse_ratio" s_parse_ratio) (D_BadText : ExD P w K mg base 1 "BadText" CT ["self", "place"] (spBInit CT)) (D_is_ratio_word : Def P w K mg base CX0 3 "is_ratio_word" ["text"] spRatW)
    (D_ratio : Def P w K mg base (L2.CX P w) 1 "ratio" ["p", "q"] (spRatio CB)) : Def P w K mg base (L2.CX P w) 4 "parse_ratio" ["text"] (spParse CT) := by
  refine F.okX sc_parse_ratio (fun _ _ _ _ _ _ us hl => match us, hl with | [_], _ => rfl) (fun vs H Q E h => by obtain ⟨_, rfl, _⟩ := h; rfl) (fun f cdv A outer s H vs Q E hr h => ?_)
  obtain ⟨a, rfl, hl, k1, k2⟩ := h
  refine ⟨_, pss_cons (ps_if (pt_not (pt_val (pe_fn D_is_ratio_word hr pass0 (pa_cons (pv 0) pa_nil)))) (pss_one (ps_raise rfl (takes_of rfl rfl rfl rfl) (pmk_exD D_BadText (hr.mono (by decide)) (pa_cons pe_int pa_nil)))) (pss_nil)) (
  pss_cons (ps_asg (pe_split (pv 0) pe_str) (pg_lst (n := 2) rfl (pgs_cons (pg_name (i := 1) sc_parse_ratio.nd rfl (Or.inl rfl)) (pgs_cons (pg_name (i := 2) sc_parse_ratio.nd rfl (Or.inl rfl)) pgs_nil)))) (
  pss_one (ps_ret (pe_fn D_ratio (hr.mono (by decide)) (passes_call (takes_of rfl rfl rfl rfl) (fun _ _ _ _ h => h)) (pa_cons (pe_callTy call_int_str rfl B.int_ (by decide +kernel) (pa_cons (pv 1) pa_nil)) (pa_cons (pe_callTy call_int_str rfl B.int_ (by decide +kernel) (pa_cons (pv 2) pa_nil)) pa_nil)))))), ?_⟩
  show tSeq _ _ _ [some (.str (Tx a)), none, none] H
  refine go_seq ?_
  simp only [decide_true, decide_false, List.map_cons, List.map_nil, Option.map_none, Option.map_some, Option.getD_none, Option.getD_some, Px.dg2, Px.dg1, Px.dg, Px.din, Px.dnotin, Px.dnew, Px.dput, Px.isD_is, Px.dget_i, Px.dget_s, Px.dput_i, Px.dput_s, Px.dOf_d, Px.rtup, Px.rlist, Px.rsl, Px.rsort, Px.rcat, Px.rapp, Px.rrev, Px.sl_ap, Px.nop, Px.part, Px.yes, Px.tyl, Px.isL_l, Px.isT_t, Px.isL_t, Px.isT_l, Px.isD_d, Px.isT_d, Px.inV_ints, Px.flat_ints, Px.flatV_i, Px.wipe_cons, Px.wipe_nil, Px.gtup, Px.gcons, Px.gnil, gt_iff_lt, ge_iff_le, Px.we, Px.wonly, Px.was, Px.cxK, not_true_eq_false, and_self, true_implies, false_implies, implies_true, Px.e0, and_assoc, imp_false, not_false_eq_true, ne_eq, Px.rgcd, Px.rixl, Px.rixt, Px.v0, Px.v1, Px.v2, Px.v3, Px.v4, Px.v5, Px.v6, Px.v7, Px.v8, Px.v9, Px.v10, Px.v11, Px.v12, Px.v13, Px.v14, Px.v15, Px.v16, Px.v17, Px.v18, Px.v19, Px.v20, Px.v21, Px.v22, Px.v23, Px.c0, Px.asg, Px.gnm, Px.ret, Px.retN, Px.drop, Px.nxt, Px.brk, Px.cnt, Px.ifs, Px.op, Px.un, Px.tst, Px.tbl, Px.tand, Px.tor, Px.tnot, Px.andv, Px.orv, Px.notv, Px.tif, Px.tup, Px.lst, Px.nil, Px.cons, Px.cal, Px.calS, Px.cb, Px.par, Px.gsub, Px.bits, Px.bm, Px.bm0, Px.ri, Px.ri0, Px.ru, Px.req, Px.rne, Px.rix, Px.rlen, Px.rin, Px.rsetl, Px.risi, Px.tyH_n, Px.tyH_b, Px.tyH_i, Px.tyH_s, Px.tyH_r, Px.seqH_t, Px.seqH_l, Px.seqH_fl, Px.sc_ii, Px.sc_bb, Px.sc_ss, Px.atI0, Px.atI1, Px.atI2, Px.atI3, Px.atI4, Px.atI5, Px.atI6, Px.atI7, Px.kb_NoneType_int, Px.kb_NoneType_bool, Px.kb_NoneType_str, Px.kb_NoneType_list, Px.kb_NoneType_tuple, Px.kb_NoneType_dict, Px.kb_bool_int, Px.kb_bool_bool, Px.kb_bool_str, Px.kb_bool_list, Px.kb_bool_tuple, Px.kb_bool_dict, Px.kb_int_int, Px.kb_int_bool, Px.kb_int_str, Px.kb_int_list, Px.kb_int_tuple, Px.kb_int_dict, Px.kb_str_int, Px.kb_str_bool, Px.kb_str_str, Px.kb_str_list, Px.kb_str_tuple, Px.kb_str_dict, Px.kb_list_int, Px.kb_list_bool, Px.kb_list_str, Px.kb_list_list, Px.kb_list_tuple, Px.kb_list_dict, Px.kb_tuple_int, Px.kb_tuple_bool, Px.kb_tuple_str, Px.kb_tuple_list, Px.kb_tuple_tuple, Px.kb_tuple_dict, Px.kb_dict_int, Px.kb_dict_bool, Px.kb_dict_str, Px.kb_dict_list, Px.kb_dict_tuple, Px.kb_dict_dict, L2.upd_same, Px.updI, L2.ixN, List.set_cons_zero, List.set_cons_succ, List.length_cons, List.length_nil, Nat.reduceAdd, Nat.zero_add, L2.HO.lst.injEq, L2.HO.tup.injEq, L2.upd_upd, L2.V.int.injEq, L2.V.ref.injEq, L2.V.bl.injEq, L2.V.str.injEq, L2.V.ty.injEq, List.cons.injEq, and_true, true_and, and_false, false_and, or_false, false_or, exists_eq_left', exists_eq_left, exists_and_left, exists_const, exists_false, Option.some.injEq, decide_eq_true_eq, List.append_nil, List.cons_append, List.nil_append, Option.isSome_some, Bool.not_true, Bool.not_false, Bool.not_eq_true', Bool.not_eq_true, Bool.false_eq_true, decide_eq_false_iff_not, if_true, if_false, ite_true, ite_false, Int.reduceLE, Int.reduceLT, Int.reduceToNat, Int.cast_ofNat_Int, Bool.true_eq_false, eq_self, ↓reduceIte, reduceCtorEq, Px.aug, Px.ipi, Px.tri, Px.rcatth, Px.rixs, Px.rsls, Px.tm1, Px.glst, Px.nstr, Px.txI, Px.txC, Px.txL, Px.txA, Px.rsgn, Px.txf, Px.tost, Px.tmko, Px.risxd, *, spRatW]
  intro H1 e1
  cases hra : rat a with
  | false =>
    rw [if_pos rfl]
    refine ⟨by decide, fun x hx => ⟨x, 0, rfl, upd_same, fun dx n1 n2 => ⟨rfl, dx, upd_same, [("place", .int 0)], by rw [upd_ne n2, upd_same], ?_, k2 hra dx _ (e1.trans fun b hb => ?_) upd_same⟩⟩⟩
    · rw [← n1, upd_ne n2]
    · have b1 : b ≠ x := ne_some_none hb hx
      have b2 : b ≠ dx := ne_some_none hb (by rw [← n1, upd_ne n2])
      rw [upd_ne b2, del_ne b1, upd_ne b1, upd_ne b2, upd_ne b1]
  | true =>
    rw [if_neg (by decide)]
    obtain ⟨p, q, ea, n1, n2, hp, hq, h0, hpr⟩ := rat_cut hra
    have l1 := prt_len _ a (Nat.le_refl _) p (by rw [hpr]; exact List.mem_cons_self)
    have l2 := prt_len _ a (Nat.le_refl _) q (by rw [hpr]; exact List.mem_cons_of_mem _ List.mem_cons_self)
    have i1 := int_whl hp (by omega)
    have i2 := int_cnt hq (by omega)
    have e2 : rdT a = (wv p, ((NumText.digitsVal q : Nat) : Int)) := by unfold rdT; rw [hpr]; rfl
    have k := k1 hra
    rw [e2] at k
    have v0 := val_pos hq h0
    have v1 := val_lt q (cnt_all hq).1
    have v2 : NumText.digitsVal q < 2 ^ 2000 := Nat.lt_of_lt_of_le (Nat.lt_of_lt_of_le v1 (Nat.pow_le_pow_right (by decide) (show q.length ≤ 600 by omega))) (by decide +kernel)
    clear ea
    refine go_seq ?_
    simp only [decide_true, decide_false, List.map_cons, List.map_nil, Option.map_none, Option.map_some, Option.getD_none, Option.getD_some, Px.dg2, Px.dg1, Px.dg, Px.din, Px.dnotin, Px.dnew, Px.dput, Px.isD_is, Px.dget_i, Px.dget_s, Px.dput_i, Px.dput_s, Px.dOf_d, Px.rtup, Px.rlist, Px.rsl, Px.rsort, Px.rcat, Px.rapp, Px.rrev, Px.sl_ap, Px.nop, Px.part, Px.yes, Px.tyl, Px.isL_l, Px.isT_t, Px.isL_t, Px.isT_l, Px.isD_d, Px.isT_d, Px.inV_ints, Px.flat_ints, Px.flatV_i, Px.wipe_cons, Px.wipe_nil, Px.gtup, Px.gcons, Px.gnil, gt_iff_lt, ge_iff_le, Px.we, Px.wonly, Px.was, Px.cxK, not_true_eq_false, and_self, true_implies, false_implies, implies_true, Px.e0, and_assoc, imp_false, not_false_eq_true, ne_eq, Px.rgcd, Px.rixl, Px.rixt, Px.v0, Px.v1, Px.v2, Px.v3, Px.v4, Px.v5, Px.v6, Px.v7, Px.v8, Px.v9, Px.v10, Px.v11, Px.v12, Px.v13, Px.v14, Px.v15, Px.v16, Px.v17, Px.v18, Px.v19, Px.v20, Px.v21, Px.v22, Px.v23, Px.c0, Px.asg, Px.gnm, Px.ret, Px.retN, Px.drop, Px.nxt, Px.brk, Px.cnt, Px.ifs, Px.op, Px.un, Px.tst, Px.tbl, Px.tand, Px.tor, Px.tnot, Px.andv, Px.orv, Px.notv, Px.tif, Px.tup, Px.lst, Px.nil, Px.cons, Px.cal, Px.calS, Px.cb, Px.par, Px.gsub, Px.bits, Px.bm, Px.bm0, Px.ri, Px.ri0, Px.ru, Px.req, Px.rne, Px.rix, Px.rlen, Px.rin, Px.rsetl, Px.risi, Px.tyH_n, Px.tyH_b, Px.tyH_i, Px.tyH_s, Px.tyH_r, Px.seqH_t, Px.seqH_l, Px.seqH_fl, Px.sc_ii, Px.sc_bb, Px.sc_ss, Px.atI0, Px.atI1, Px.atI2, Px.atI3, Px.atI4, Px.atI5, Px.atI6, Px.atI7, Px.kb_NoneType_int, Px.kb_NoneType_bool, Px.kb_NoneType_str, Px.kb_NoneType_list, Px.kb_NoneType_tuple, Px.kb_NoneType_dict, Px.kb_bool_int, Px.kb_bool_bool, Px.kb_bool_str, Px.kb_bool_list, Px.kb_bool_tuple, Px.kb_bool_dict, Px.kb_int_int, Px.kb_int_bool, Px.kb_int_str, Px.kb_int_list, Px.kb_int_tuple, Px.kb_int_dict, Px.kb_str_int, Px.kb_str_bool, Px.kb_str_str, Px.kb_str_list, Px.kb_str_tuple, Px.kb_str_dict, Px.kb_list_int, Px.kb_list_bool, Px.kb_list_str, Px.kb_list_list, Px.kb_list_tuple, Px.kb_list_dict, Px.kb_tuple_int, Px.kb_tuple_bool, Px.kb_tuple_str, Px.kb_tuple_list, Px.kb_tuple_tuple, Px.kb_tuple_dict, Px.kb_dict_int, Px.kb_dict_bool, Px.kb_dict_str, Px.kb_dict_list, Px.kb_dict_tuple, Px.kb_dict_dict, L2.upd_same, Px.updI, L2.ixN, List.set_cons_zero, List.set_cons_succ, List.length_cons, List.length_nil, Nat.reduceAdd, Nat.zero_add, L2.HO.lst.injEq, L2.HO.tup.injEq, L2.upd_upd, L2.V.int.injEq, L2.V.ref.injEq, L2.V.bl.injEq, L2.V.str.injEq, L2.V.ty.injEq, List.cons.injEq, and_true, true_and, and_false, false_and, or_false, false_or, exists_eq_left', exists_eq_left, exists_and_left, exists_const, exists_false, Option.some.injEq, decide_eq_true_eq, List.append_nil, List.cons_append, List.nil_append, Option.isSome_some, Bool.not_true, Bool.not_false, Bool.not_eq_true', Bool.not_eq_true, Bool.false_eq_true, decide_eq_false_iff_not, if_true, if_false, ite_true, ite_false, Int.reduceLE, Int.reduceLT, Int.reduceToNat, Int.cast_ofNat_Int, Bool.true_eq_false, eq_self, ↓reduceIte, reduceCtorEq, Px.aug, Px.ipi, Px.tri, Px.rcatth, Px.rixs, Px.rsls, Px.tm1, Px.glst, Px.nstr, Px.txI, Px.txC, Px.txL, Px.txA, Px.rsgn, Px.txf, Px.tost, Px.tmko, Px.risxd, *, l_s]
    refine ⟨⟨_, rfl⟩, rfl, line_ok (show a.length + 2 ≤ 10000 by omega), fun s0 hs0 => ?_⟩
    have y1 : Px.Ext H1 (upd H1 s0 (.lst ((Txt.split (Tx a) (Tx [47])).map V.str))) := (Px.Ext.rfl' H1).new hs0
    have x1 : (upd H1 s0 (.lst ((Txt.split (Tx a) (Tx [47])).map V.str))) s0 = some (.lst [.str (Tx p), .str (Tx q)]) := by rw [spl_e, hpr]; exact upd_same
    generalize upd H1 s0 (.lst ((Txt.split (Tx a) (Tx [47])).map V.str)) = H2 at *
    have g1 : (Tx p).length ≤ 640 := by rw [txL]; omega
    have g2 : (Tx q).length ≤ 640 := by rw [txL]; omega
    exact ⟨_, .inl (.inl x1), rfl, _, _, rfl, _, _, rfl, rfl, _, rfl, _, i1, g1, _, rfl, _, i2, g2, _, _, rfl, by rw [Int.natAbs_natCast]; exact v2, fun z => absurd z (by omega), fun _ c hc => k c _ ((e1.trans y1).new hc) upd_same⟩
end
end K96

namespace K96
open PySem PySem.Spec PyProof.Rows L2 Px
section
variable {P : Program} {w : World} {K : PySem.W.Frag} {mg : Str → Option Value} {base : Heap} {CB CT CP c1 c2 c3 c4 c5 c6 d1 d2 d3 d4 : Addr}
theorem okq_whole {f : Addr} {oc kV doc pm cdv ct : Value} {od an : Option Addr} {osl : Array (Option Value)} (B : Bn mg)
    (lk : K.lookup f = some ⟨oc, od, .func (PySem.W.fnOf "_law_whole" "_law_whole" (defArgs s_law_whole) (defBody s_law_whole) (defScope s_law_whole) .none kV doc pm an cdv ct), osl⟩) (hcd : PySem.W.codeIn K cdv "_law_whole" = true) :
    FnQ P w K mg base 1 f (PySem.W.fnOf "_law_whole" "_law_whole" (defArgs s_law_whole) (defBody s_law_whole) (defScope s_law_whole) .none kV doc pm an cdv ct) ["value"] spWhole := by
  refine fnq_of lk hcd sc_law_whole (fun vs H Q E h => by obtain ⟨_, rfl, _⟩ := h; rfl) (fun Ar above st H vs Q E pin h => ?_)
  obtain ⟨i, rfl, k⟩ := h
  refine ⟨_, pss_one (ps_ret (pe_and (pe_callB isi_H rfl B.isinstance (by decide +kernel) (pa_cons (pv 0) (pa_cons (pe_bltn (v := .ty "int") rfl B.int_ (by decide +kernel) rfl) pa_nil))) (pe_one (pe_not (pe_callB isi_H rfl B.isinstance (by decide +kernel) (pa_cons (pv 0) (pa_cons (pe_bltn (v := .ty "bool") rfl B.bool_ (by decide +kernel) rfl) pa_nil))))))), ?_⟩
  show tRet _ _ [some (.int i)] H
  simp only [decide_true, decide_false, List.map_cons, List.map_nil, Option.map_none, Option.map_some, Option.getD_none, Option.getD_some, Px.dg2, Px.dg1, Px.dg, Px.din, Px.dnotin, Px.dnew, Px.dput, Px.isD_is, Px.dget_i, Px.dget_s, Px.dput_i, Px.dput_s, Px.dOf_d, Px.rtup, Px.rlist, Px.rsl, Px.rsort, Px.rcat, Px.rapp, Px.rrev, Px.sl_ap, Px.nop, Px.part, Px.yes, Px.tyl, Px.isL_l, Px.isT_t, Px.isL_t, Px.isT_l, Px.isD_d, Px.isT_d, Px.inV_ints, Px.flat_ints, Px.flatV_i, Px.wipe_cons, Px.wipe_nil, Px.gtup, Px.gcons, Px.gnil, gt_iff_lt, ge_iff_le, Px.we, Px.wonly, Px.was, Px.cxK, not_true_eq_false, and_self, true_implies, false_implies, implies_true, Px.e0, and_assoc, imp_false, not_false_eq_true, ne_eq, Px.rgcd, Px.rixl, Px.rixt, Px.v0, Px.v1, Px.v2, Px.v3, Px.v4, Px.v5, Px.v6, Px.v7, Px.v8, Px.v9, Px.v10, Px.v11, Px.v12, Px.v13, Px.v14, Px.v15, Px.v16, Px.v17, Px.v18, Px.v19, Px.v20, Px.v21, Px.v22, Px.v23, Px.c0, Px.asg, Px.gnm, Px.ret, Px.retN, Px.drop, Px.nxt, Px.brk, Px.cnt, Px.ifs, Px.op, Px.un, Px.tst, Px.tbl, Px.tand, Px.tor, Px.tnot, Px.andv, Px.orv, Px.notv, Px.tif, Px.tup, Px.lst, Px.nil, Px.cons, Px.cal, Px.calS, Px.cb, Px.par, Px.gsub, Px.bits, Px.bm, Px.bm0, Px.ri, Px.ri0, Px.ru, Px.req, Px.rne, Px.rix, Px.rlen, Px.rin, Px.rsetl, Px.risi, Px.tyH_n, Px.tyH_b, Px.tyH_i, Px.tyH_s, Px.tyH_r, Px.seqH_t, Px.seqH_l, Px.seqH_fl, Px.sc_ii, Px.sc_bb, Px.sc_ss, Px.atI0, Px.atI1, Px.atI2, Px.atI3, Px.atI4, Px.atI5, Px.atI6, Px.atI7, Px.kb_NoneType_int, Px.kb_NoneType_bool, Px.kb_NoneType_str, Px.kb_NoneType_list, Px.kb_NoneType_tuple, Px.kb_NoneType_dict, Px.kb_bool_int, Px.kb_bool_bool, Px.kb_bool_str, Px.kb_bool_list, Px.kb_bool_tuple, Px.kb_bool_dict, Px.kb_int_int, Px.kb_int_bool, Px.kb_int_str, Px.kb_int_list, Px.kb_int_tuple, Px.kb_int_dict, Px.kb_str_int, Px.kb_str_bool, Px.kb_str_str, Px.kb_str_list, Px.kb_str_tuple, Px.kb_str_dict, Px.kb_list_int, Px.kb_list_bool, Px.kb_list_str, Px.kb_list_list, Px.kb_list_tuple, Px.kb_list_dict, Px.kb_tuple_int, Px.kb_tuple_bool, Px.kb_tuple_str, Px.kb_tuple_list, Px.kb_tuple_tuple, Px.kb_tuple_dict, Px.kb_dict_int, Px.kb_dict_bool, Px.kb_dict_str, Px.kb_dict_list, Px.kb_dict_tuple, Px.kb_dict_dict, L2.upd_same, Px.updI, L2.ixN, List.set_cons_zero, List.set_cons_succ, List.length_cons, List.length_nil, Nat.reduceAdd, Nat.zero_add, L2.HO.lst.injEq, L2.HO.tup.injEq, L2.upd_upd, L2.V.int.injEq, L2.V.ref.injEq, L2.V.bl.injEq, L2.V.str.injEq, L2.V.ty.injEq, List.cons.injEq, and_true, true_and, and_false, false_and, or_false, false_or, exists_eq_left', exists_eq_left, exists_and_left, exists_const, exists_false, Option.some.injEq, decide_eq_true_eq, List.append_nil, List.cons_append, List.nil_append, Option.isSome_some, Bool.not_true, Bool.not_false, Bool.not_eq_true', Bool.not_eq_true, Bool.false_eq_true, decide_eq_false_iff_not, if_true, if_false, ite_true, ite_false, Int.reduceLE, Int.reduceLT, Int.reduceToNat, Int.cast_ofNat_Int, Bool.true_eq_false, eq_self, ↓reduceIte, reduceCtorEq, Px.aug, Px.ipi, Px.tri, Px.rcatth, Px.rixs, Px.rsls, Px.tm1, Px.glst, Px.nstr, Px.txI, Px.txC, Px.txL, Px.txA, Px.rsgn, Px.txf, Px.tost, Px.tmko, Px.risxd, *]
theorem lk_same {m : Str} {v : V} : List.lookup m [(m, v)] = some v := by simp [List.lookup]
def spRefused (vs : List V) (H : Hp) (Q : VK) (_ : XK) : Prop := ∃ a : List Nat, vs = [.str (Tx a)] ∧ a.length ≤ 600 ∧ rat a = false ∧ ∀ H', Px.Ext H H' → Q (.bl true) H'
theorem ok_refused (B : Bn mg) (X : Errs K mg CT CP c1 c2 c3 c4 c5 c6 d1 d2 d3 d4) (F : FunAt K mg "_law_refused" s_law_refused) (D_parse_ratio : Def P w K mg base (L2.CX P w) 4 "parse_ratio" ["text"] (spParse CT)) (DQ_law_whole : DefQ P w K mg base 1 "_law_whole" ["value"] spWhole) :
    Def P w K mg base CX0 5 "_law_refused" ["text"] spRefused := by
  refine F.ok sc_law_refused (fun _ _ _ _ _ _ us hl => match us, hl with | [_], _ => rfl) (fun vs H Q E h => by obtain ⟨_, rfl, _⟩ := h; rfl) (fun f cdv A outer s H vs Q E hr h => ?_)
  obtain ⟨a, rfl, hl, hra, k⟩ := h
  refine ⟨_, pss_cons (ps_try_as (i := 1) (Wout := fun _ _ _ _ => False) rfl rfl sc_law_refused.nd rfl rfl ⟨rfl, by decide, Or.inl X.gT⟩ takes0 (fun W pn xe tk _ =>
  pss_one (ps_expr (pe_fnS D_parse_ratio hr (fun σ => passAt tk σ) (pa_cons (pv 0) pa_nil)))) (fun a oe cls d pn hz hf =>
  pss_one (ps_ret (pe_and (pe_fnQ DQ_law_whole (hr.mono (by decide)) (pa_cons (pe_xf X.xf X.nf hz hf (pv 1)) pa_nil)) (pe_one (pe_cmpR op_eq (pe_xf X.xf X.nf hz hf (pv 1)) pe_int (nomark _))))))) (
  pss_one (ps_ret pe_bl)), ?_⟩
  show tSeq _ _ _ [some (.str (Tx a)), none] H
  have eT := X.eT
  refine go_seq ?_
  simp only [decide_true, decide_false, List.map_cons, List.map_nil, Option.map_none, Option.map_some, Option.getD_none, Option.getD_some, Px.dg2, Px.dg1, Px.dg, Px.din, Px.dnotin, Px.dnew, Px.dput, Px.isD_is, Px.dget_i, Px.dget_s, Px.dput_i, Px.dput_s, Px.dOf_d, Px.rtup, Px.rlist, Px.rsl, Px.rsort, Px.rcat, Px.rapp, Px.rrev, Px.sl_ap, Px.nop, Px.part, Px.yes, Px.tyl, Px.isL_l, Px.isT_t, Px.isL_t, Px.isT_l, Px.isD_d, Px.isT_d, Px.inV_ints, Px.flat_ints, Px.flatV_i, Px.wipe_cons, Px.wipe_nil, Px.gtup, Px.gcons, Px.gnil, gt_iff_lt, ge_iff_le, Px.we, Px.wonly, Px.was, Px.cxK, not_true_eq_false, and_self, true_implies, false_implies, implies_true, Px.e0, and_assoc, imp_false, not_false_eq_true, ne_eq, Px.rgcd, Px.rixl, Px.rixt, Px.v0, Px.v1, Px.v2, Px.v3, Px.v4, Px.v5, Px.v6, Px.v7, Px.v8, Px.v9, Px.v10, Px.v11, Px.v12, Px.v13, Px.v14, Px.v15, Px.v16, Px.v17, Px.v18, Px.v19, Px.v20, Px.v21, Px.v22, Px.v23, Px.c0, Px.asg, Px.gnm, Px.ret, Px.retN, Px.drop, Px.nxt, Px.brk, Px.cnt, Px.ifs, Px.op, Px.un, Px.tst, Px.tbl, Px.tand, Px.tor, Px.tnot, Px.andv, Px.orv, Px.notv, Px.tif, Px.tup, Px.lst, Px.nil, Px.cons, Px.cal, Px.calS, Px.cb, Px.par, Px.gsub, Px.bits, Px.bm, Px.bm0, Px.ri, Px.ri0, Px.ru, Px.req, Px.rne, Px.rix, Px.rlen, Px.rin, Px.rsetl, Px.risi, Px.tyH_n, Px.tyH_b, Px.tyH_i, Px.tyH_s, Px.tyH_r, Px.seqH_t, Px.seqH_l, Px.seqH_fl, Px.sc_ii, Px.sc_bb, Px.sc_ss, Px.atI0, Px.atI1, Px.atI2, Px.atI3, Px.atI4, Px.atI5, Px.atI6, Px.atI7, Px.kb_NoneType_int, Px.kb_NoneType_bool, Px.kb_NoneType_str, Px.kb_NoneType_list, Px.kb_NoneType_tuple, Px.kb_NoneType_dict, Px.kb_bool_int, Px.kb_bool_bool, Px.kb_bool_str, Px.kb_bool_list, Px.kb_bool_tuple, Px.kb_bool_dict, Px.kb_int_int, Px.kb_int_bool, Px.kb_int_str, Px.kb_int_list, Px.kb_int_tuple, Px.kb_int_dict, Px.kb_str_int, Px.kb_str_bool, Px.kb_str_str, Px.kb_str_list, Px.kb_str_tuple, Px.kb_str_dict, Px.kb_list_int, Px.kb_list_bool, Px.kb_list_str, Px.kb_list_list, Px.kb_list_tuple, Px.kb_list_dict, Px.kb_tuple_int, Px.kb_tuple_bool, Px.kb_tuple_str, Px.kb_tuple_list, Px.kb_tuple_tuple, Px.kb_tuple_dict, Px.kb_dict_int, Px.kb_dict_bool, Px.kb_dict_str, Px.kb_dict_list, Px.kb_dict_tuple, Px.kb_dict_dict, L2.upd_same, Px.updI, L2.ixN, List.set_cons_zero, List.set_cons_succ, List.length_cons, List.length_nil, Nat.reduceAdd, Nat.zero_add, L2.HO.lst.injEq, L2.HO.tup.injEq, L2.upd_upd, L2.V.int.injEq, L2.V.ref.injEq, L2.V.bl.injEq, L2.V.str.injEq, L2.V.ty.injEq, List.cons.injEq, and_true, true_and, and_false, false_and, or_false, false_or, exists_eq_left', exists_eq_left, exists_and_left, exists_const, exists_false, Option.some.injEq, decide_eq_true_eq, List.append_nil, List.cons_append, List.nil_append, Option.isSome_some, Bool.not_true, Bool.not_false, Bool.not_eq_true', Bool.not_eq_true, Bool.false_eq_true, decide_eq_false_iff_not, if_true, if_false, ite_true, ite_false, Int.reduceLE, Int.reduceLT, Int.reduceToNat, Int.cast_ofNat_Int, Bool.true_eq_false, eq_self, ↓reduceIte, reduceCtorEq, Px.aug, Px.ipi, Px.tri, Px.rcatth, Px.rixs, Px.rsls, Px.tm1, Px.glst, Px.nstr, Px.txI, Px.txC, Px.txL, Px.txA, Px.rsgn, Px.txf, Px.tost, Px.tmko, Px.risxd, *, spParse]
  intro d H1 e1 hd x hx
  refine ⟨_, hd, _, lk_same, 0, rfl, true, rfl, ?_⟩
  rw [if_pos rfl]
  exact ⟨_, hd, _, lk_same, rfl, k H1 e1⟩
theorem ok_base (B : Bn mg) (X : Errs K mg CT CP c1 c2 c3 c4 c5 c6 d1 d2 d3 d4) (F : FunAt K mg "_law_refused_by_base" s_law_refused_by_base) (D_parse_ratio : Def P w K mg base (L2.CX P w) 4 "parse_ratio" ["text"] (spParse CT)) (DQ_law_whole : DefQ P w K mg base 1 "_law_whole" ["value"] spWhole) :
    Def P w K mg base CX0 5 "_law_refused_by_base" ["text"] spRefused := by
  refine F.ok sc_law_refused_by_base (fun _ _ _ _ _ _ us hl => match us, hl with | [_], _ => rfl) (fun vs H Q E h => by obtain ⟨_, rfl, _⟩ := h; rfl) (fun f cdv A outer s H vs Q E hr h => ?_)
  obtain ⟨a, rfl, hl, hra, k⟩ := h
  refine ⟨_, pss_cons (ps_try_as (i := 1) (Wout := fun _ _ _ _ => False) rfl rfl sc_law_refused_by_base.nd rfl rfl ⟨rfl, by decide, Or.inl X.gP⟩ takes0 (fun W pn xe tk _ =>
  pss_one (ps_expr (pe_fnS D_parse_ratio hr (fun σ => passAt tk σ) (pa_cons (pv 0) pa_nil)))) (fun a oe cls d pn hz hf =>
  pss_cons (ps_if (pt_val (pe_callB (call_isXd hz hf) rfl B.isinstance (by decide +kernel) (pa_cons (pv 1) (pa_cons (pe_tup (pa_cons (pe_globR rfl X.g1) (pa_cons (pe_globR rfl X.g2) (pa_cons (pe_globR rfl X.g3) (pa_cons (pe_globR rfl X.g4) (pa_cons (pe_globR rfl X.gB) (pa_cons (pe_globR rfl X.g6) pa_nil))))))) pa_nil)))) (pss_one (ps_ret pe_bl)) (pss_nil)) (
  pss_cons (ps_if (pt_val (pe_callB (call_isXd hz hf) rfl B.isinstance (by decide +kernel) (pa_cons (pv 1) (pa_cons (pe_tup (pa_cons (pe_globR rfl X.h1) (pa_cons (pe_globR rfl X.h2) (pa_cons (pe_globR rfl X.h3) (pa_cons (pe_globR rfl X.h4) pa_nil))))) pa_nil)))) (pss_one (ps_ret pe_bl)) (pss_nil)) (
  pss_cons (ps_if (PW.pt (pw_or (pt_not (pt_val (pe_callB (call_isXd hz hf) rfl B.isinstance (by decide +kernel) (pa_cons (pv 1) (pa_cons (pe_globR rfl X.gT) pa_nil))))) (pw_or1 (pt_not (pt_val (pe_callB (call_isXd hz hf) rfl B.isinstance (by decide +kernel) (pa_cons (pv 1) (pa_cons (pe_bltn (v := .ty "ValueError") rfl B.ValueError (by decide +kernel) rfl) pa_nil)))))))) (pss_one (ps_ret pe_bl)) (pss_nil)) (
  pss_one (ps_ret (pe_and (pe_fnQ DQ_law_whole (hr.mono (by decide)) (pa_cons (pe_xf X.xf X.nf hz hf (pv 1)) pa_nil)) (pe_one (pe_cmpR op_eq (pe_xf X.xf X.nf hz hf (pv 1)) pe_int (nomark _)))))))))) (
  pss_one (ps_ret pe_bl)), ?_⟩
  show tSeq _ _ _ [some (.str (Tx a)), none] H
  have eP := X.eP
  refine go_seq ?_
  simp only [decide_true, decide_false, List.map_cons, List.map_nil, Option.map_none, Option.map_some, Option.getD_none, Option.getD_some, Px.dg2, Px.dg1, Px.dg, Px.din, Px.dnotin, Px.dnew, Px.dput, Px.isD_is, Px.dget_i, Px.dget_s, Px.dput_i, Px.dput_s, Px.dOf_d, Px.rtup, Px.rlist, Px.rsl, Px.rsort, Px.rcat, Px.rapp, Px.rrev, Px.sl_ap, Px.nop, Px.part, Px.yes, Px.tyl, Px.isL_l, Px.isT_t, Px.isL_t, Px.isT_l, Px.isD_d, Px.isT_d, Px.inV_ints, Px.flat_ints, Px.flatV_i, Px.wipe_cons, Px.wipe_nil, Px.gtup, Px.gcons, Px.gnil, gt_iff_lt, ge_iff_le, Px.we, Px.wonly, Px.was, Px.cxK, not_true_eq_false, and_self, true_implies, false_implies, implies_true, Px.e0, and_assoc, imp_false, not_false_eq_true, ne_eq, Px.rgcd, Px.rixl, Px.rixt, Px.v0, Px.v1, Px.v2, Px.v3, Px.v4, Px.v5, Px.v6, Px.v7, Px.v8, Px.v9, Px.v10, Px.v11, Px.v12, Px.v13, Px.v14, Px.v15, Px.v16, Px.v17, Px.v18, Px.v19, Px.v20, Px.v21, Px.v22, Px.v23, Px.c0, Px.asg, Px.gnm, Px.ret, Px.retN, Px.drop, Px.nxt, Px.brk, Px.cnt, Px.ifs, Px.op, Px.un, Px.tst, Px.tbl, Px.tand, Px.tor, Px.tnot, Px.andv, Px.orv, Px.notv, Px.tif, Px.tup, Px.lst, Px.nil, Px.cons, Px.cal, Px.calS, Px.cb, Px.par, Px.gsub, Px.bits, Px.bm, Px.bm0, Px.ri, Px.ri0, Px.ru, Px.req, Px.rne, Px.rix, Px.rlen, Px.rin, Px.rsetl, Px.risi, Px.tyH_n, Px.tyH_b, Px.tyH_i, Px.tyH_s, Px.tyH_r, Px.seqH_t, Px.seqH_l, Px.seqH_fl, Px.sc_ii, Px.sc_bb, Px.sc_ss, Px.atI0, Px.atI1, Px.atI2, Px.atI3, Px.atI4, Px.atI5, Px.atI6, Px.atI7, Px.kb_NoneType_int, Px.kb_NoneType_bool, Px.kb_NoneType_str, Px.kb_NoneType_list, Px.kb_NoneType_tuple, Px.kb_NoneType_dict, Px.kb_bool_int, Px.kb_bool_bool, Px.kb_bool_str, Px.kb_bool_list, Px.kb_bool_tuple, Px.kb_bool_dict, Px.kb_int_int, Px.kb_int_bool, Px.kb_int_str, Px.kb_int_list, Px.kb_int_tuple, Px.kb_int_dict, Px.kb_str_int, Px.kb_str_bool, Px.kb_str_str, Px.kb_str_list, Px.kb_str_tuple, Px.kb_str_dict, Px.kb_list_int, Px.kb_list_bool, Px.kb_list_str, Px.kb_list_list, Px.kb_list_tuple, Px.kb_list_dict, Px.kb_tuple_int, Px.kb_tuple_bool, Px.kb_tuple_str, Px.kb_tuple_list, Px.kb_tuple_tuple, Px.kb_tuple_dict, Px.kb_dict_int, Px.kb_dict_bool, Px.kb_dict_str, Px.kb_dict_list, Px.kb_dict_tuple, Px.kb_dict_dict, L2.upd_same, Px.updI, L2.ixN, List.set_cons_zero, List.set_cons_succ, List.length_cons, List.length_nil, Nat.reduceAdd, Nat.zero_add, L2.HO.lst.injEq, L2.HO.tup.injEq, L2.upd_upd, L2.V.int.injEq, L2.V.ref.injEq, L2.V.bl.injEq, L2.V.str.injEq, L2.V.ty.injEq, List.cons.injEq, and_true, true_and, and_false, false_and, or_false, false_or, exists_eq_left', exists_eq_left, exists_and_left, exists_const, exists_false, Option.some.injEq, decide_eq_true_eq, List.append_nil, List.cons_append, List.nil_append, Option.isSome_some, Bool.not_true, Bool.not_false, Bool.not_eq_true', Bool.not_eq_true, Bool.false_eq_true, decide_eq_false_iff_not, if_true, if_false, ite_true, ite_false, Int.reduceLE, Int.reduceLT, Int.reduceToNat, Int.cast_ofNat_Int, Bool.true_eq_false, eq_self, ↓reduceIte, reduceCtorEq, Px.aug, Px.ipi, Px.tri, Px.rcatth, Px.rixs, Px.rsls, Px.tm1, Px.glst, Px.nstr, Px.txI, Px.txC, Px.txL, Px.txA, Px.rsgn, Px.txf, Px.tost, Px.tmko, Px.risxd, *, spParse]
  intro d H1 e1 hd x hx
  refine go_seq ?_
  simp only [decide_true, decide_false, List.map_cons, List.map_nil, Option.map_none, Option.map_some, Option.getD_none, Option.getD_some, Px.dg2, Px.dg1, Px.dg, Px.din, Px.dnotin, Px.dnew, Px.dput, Px.isD_is, Px.dget_i, Px.dget_s, Px.dput_i, Px.dput_s, Px.dOf_d, Px.rtup, Px.rlist, Px.rsl, Px.rsort, Px.rcat, Px.rapp, Px.rrev, Px.sl_ap, Px.nop, Px.part, Px.yes, Px.tyl, Px.isL_l, Px.isT_t, Px.isL_t, Px.isT_l, Px.isD_d, Px.isT_d, Px.inV_ints, Px.flat_ints, Px.flatV_i, Px.wipe_cons, Px.wipe_nil, Px.gtup, Px.gcons, Px.gnil, gt_iff_lt, ge_iff_le, Px.we, Px.wonly, Px.was, Px.cxK, not_true_eq_false, and_self, true_implies, false_implies, implies_true, Px.e0, and_assoc, imp_false, not_false_eq_true, ne_eq, Px.rgcd, Px.rixl, Px.rixt, Px.v0, Px.v1, Px.v2, Px.v3, Px.v4, Px.v5, Px.v6, Px.v7, Px.v8, Px.v9, Px.v10, Px.v11, Px.v12, Px.v13, Px.v14, Px.v15, Px.v16, Px.v17, Px.v18, Px.v19, Px.v20, Px.v21, Px.v22, Px.v23, Px.c0, Px.asg, Px.gnm, Px.ret, Px.retN, Px.drop, Px.nxt, Px.brk, Px.cnt, Px.ifs, Px.op, Px.un, Px.tst, Px.tbl, Px.tand, Px.tor, Px.tnot, Px.andv, Px.orv, Px.notv, Px.tif, Px.tup, Px.lst, Px.nil, Px.cons, Px.cal, Px.calS, Px.cb, Px.par, Px.gsub, Px.bits, Px.bm, Px.bm0, Px.ri, Px.ri0, Px.ru, Px.req, Px.rne, Px.rix, Px.rlen, Px.rin, Px.rsetl, Px.risi, Px.tyH_n, Px.tyH_b, Px.tyH_i, Px.tyH_s, Px.tyH_r, Px.seqH_t, Px.seqH_l, Px.seqH_fl, Px.sc_ii, Px.sc_bb, Px.sc_ss, Px.atI0, Px.atI1, Px.atI2, Px.atI3, Px.atI4, Px.atI5, Px.atI6, Px.atI7, Px.kb_NoneType_int, Px.kb_NoneType_bool, Px.kb_NoneType_str, Px.kb_NoneType_list, Px.kb_NoneType_tuple, Px.kb_NoneType_dict, Px.kb_bool_int, Px.kb_bool_bool, Px.kb_bool_str, Px.kb_bool_list, Px.kb_bool_tuple, Px.kb_bool_dict, Px.kb_int_int, Px.kb_int_bool, Px.kb_int_str, Px.kb_int_list, Px.kb_int_tuple, Px.kb_int_dict, Px.kb_str_int, Px.kb_str_bool, Px.kb_str_str, Px.kb_str_list, Px.kb_str_tuple, Px.kb_str_dict, Px.kb_list_int, Px.kb_list_bool, Px.kb_list_str, Px.kb_list_list, Px.kb_list_tuple, Px.kb_list_dict, Px.kb_tuple_int, Px.kb_tuple_bool, Px.kb_tuple_str, Px.kb_tuple_list, Px.kb_tuple_tuple, Px.kb_tuple_dict, Px.kb_dict_int, Px.kb_dict_bool, Px.kb_dict_str, Px.kb_dict_list, Px.kb_dict_tuple, Px.kb_dict_dict, L2.upd_same, Px.updI, L2.ixN, List.set_cons_zero, List.set_cons_succ, List.length_cons, List.length_nil, Nat.reduceAdd, Nat.zero_add, L2.HO.lst.injEq, L2.HO.tup.injEq, L2.upd_upd, L2.V.int.injEq, L2.V.ref.injEq, L2.V.bl.injEq, L2.V.str.injEq, L2.V.ty.injEq, List.cons.injEq, and_true, true_and, and_false, false_and, or_false, false_or, exists_eq_left', exists_eq_left, exists_and_left, exists_const, exists_false, Option.some.injEq, decide_eq_true_eq, List.append_nil, List.cons_append, List.nil_append, Option.isSome_some, Bool.not_true, Bool.not_false, Bool.not_eq_true', Bool.not_eq_true, Bool.false_eq_true, decide_eq_false_iff_not, if_true, if_false, ite_true, ite_false, Int.reduceLE, Int.reduceLT, Int.reduceToNat, Int.cast_ofNat_Int, Bool.true_eq_false, eq_self, ↓reduceIte, reduceCtorEq, Px.aug, Px.ipi, Px.tri, Px.rcatth, Px.rixs, Px.rsls, Px.tm1, Px.glst, Px.nstr, Px.txI, Px.txC, Px.txL, Px.txA, Px.rsgn, Px.txf, Px.tost, Px.tmko, Px.risxd, *]
  refine ⟨by decide, fun t1 ht1 => ?_⟩
  have y1 : Px.Ext H1 (upd H1 t1 (.tup [.ref c1, .ref c2, .ref c3, .ref c4, .ref c5, .ref c6])) := (Px.Ext.rfl' H1).new ht1
  have x1 : (upd H1 t1 (.tup [.ref c1, .ref c2, .ref c3, .ref c4, .ref c5, .ref c6])) t1 = some (.tup [.ref c1, .ref c2, .ref c3, .ref c4, .ref c5, .ref c6]) := upd_same
  generalize upd H1 t1 (.tup [.ref c1, .ref c2, .ref c3, .ref c4, .ref c5, .ref c6]) = H2 at *
  refine ⟨CT, rfl, _, false, _, y1.get hd, X.ec, X.k1, .inr (.cons (.own _) (.cons (.own _) (.cons (.own _) (.cons (.own _) (.cons (.own _) (.cons (.own _) .nil)))))), ?_⟩
  rw [if_neg Bool.false_ne_true]
  refine go_seq ?_
  simp only [decide_true, decide_false, List.map_cons, List.map_nil, Option.map_none, Option.map_some, Option.getD_none, Option.getD_some, Px.dg2, Px.dg1, Px.dg, Px.din, Px.dnotin, Px.dnew, Px.dput, Px.isD_is, Px.dget_i, Px.dget_s, Px.dput_i, Px.dput_s, Px.dOf_d, Px.rtup, Px.rlist, Px.rsl, Px.rsort, Px.rcat, Px.rapp, Px.rrev, Px.sl_ap, Px.nop, Px.part, Px.yes, Px.tyl, Px.isL_l, Px.isT_t, Px.isL_t, Px.isT_l, Px.isD_d, Px.isT_d, Px.inV_ints, Px.flat_ints, Px.flatV_i, Px.wipe_cons, Px.wipe_nil, Px.gtup, Px.gcons, Px.gnil, gt_iff_lt, ge_iff_le, Px.we, Px.wonly, Px.was, Px.cxK, not_true_eq_false, and_self, true_implies, false_implies, implies_true, Px.e0, and_assoc, imp_false, not_false_eq_true, ne_eq, Px.rgcd, Px.rixl, Px.rixt, Px.v0, Px.v1, Px.v2, Px.v3, Px.v4, Px.v5, Px.v6, Px.v7, Px.v8, Px.v9, Px.v10, Px.v11, Px.v12, Px.v13, Px.v14, Px.v15, Px.v16, Px.v17, Px.v18, Px.v19, Px.v20, Px.v21, Px.v22, Px.v23, Px.c0, Px.asg, Px.gnm, Px.ret, Px.retN, Px.drop, Px.nxt, Px.brk, Px.cnt, Px.ifs, Px.op, Px.un, Px.tst, Px.tbl, Px.tand, Px.tor, Px.tnot, Px.andv, Px.orv, Px.notv, Px.tif, Px.tup, Px.lst, Px.nil, Px.cons, Px.cal, Px.calS, Px.cb, Px.par, Px.gsub, Px.bits, Px.bm, Px.bm0, Px.ri, Px.ri0, Px.ru, Px.req, Px.rne, Px.rix, Px.rlen, Px.rin, Px.rsetl, Px.risi, Px.tyH_n, Px.tyH_b, Px.tyH_i, Px.tyH_s, Px.tyH_r, Px.seqH_t, Px.seqH_l, Px.seqH_fl, Px.sc_ii, Px.sc_bb, Px.sc_ss, Px.atI0, Px.atI1, Px.atI2, Px.atI3, Px.atI4, Px.atI5, Px.atI6, Px.atI7, Px.kb_NoneType_int, Px.kb_NoneType_bool, Px.kb_NoneType_str, Px.kb_NoneType_list, Px.kb_NoneType_tuple, Px.kb_NoneType_dict, Px.kb_bool_int, Px.kb_bool_bool, Px.kb_bool_str, Px.kb_bool_list, Px.kb_bool_tuple, Px.kb_bool_dict, Px.kb_int_int, Px.kb_int_bool, Px.kb_int_str, Px.kb_int_list, Px.kb_int_tuple, Px.kb_int_dict, Px.kb_str_int, Px.kb_str_bool, Px.kb_str_str, Px.kb_str_list, Px.kb_str_tuple, Px.kb_str_dict, Px.kb_list_int, Px.kb_list_bool, Px.kb_list_str, Px.kb_list_list, Px.kb_list_tuple, Px.kb_list_dict, Px.kb_tuple_int, Px.kb_tuple_bool, Px.kb_tuple_str, Px.kb_tuple_list, Px.kb_tuple_tuple, Px.kb_tuple_dict, Px.kb_dict_int, Px.kb_dict_bool, Px.kb_dict_str, Px.kb_dict_list, Px.kb_dict_tuple, Px.kb_dict_dict, L2.upd_same, Px.updI, L2.ixN, List.set_cons_zero, List.set_cons_succ, List.length_cons, List.length_nil, Nat.reduceAdd, Nat.zero_add, L2.HO.lst.injEq, L2.HO.tup.injEq, L2.upd_upd, L2.V.int.injEq, L2.V.ref.injEq, L2.V.bl.injEq, L2.V.str.injEq, L2.V.ty.injEq, List.cons.injEq, and_true, true_and, and_false, false_and, or_false, false_or, exists_eq_left', exists_eq_left, exists_and_left, exists_const, exists_false, Option.some.injEq, decide_eq_true_eq, List.append_nil, List.cons_append, List.nil_append, Option.isSome_some, Bool.not_true, Bool.not_false, Bool.not_eq_true', Bool.not_eq_true, Bool.false_eq_true, decide_eq_false_iff_not, if_true, if_false, ite_true, ite_false, Int.reduceLE, Int.reduceLT, Int.reduceToNat, Int.cast_ofNat_Int, Bool.true_eq_false, eq_self, ↓reduceIte, reduceCtorEq, Px.aug, Px.ipi, Px.tri, Px.rcatth, Px.rixs, Px.rsls, Px.tm1, Px.glst, Px.nstr, Px.txI, Px.txC, Px.txL, Px.txA, Px.rsgn, Px.txf, Px.tost, Px.tmko, Px.risxd, *]
  refine ⟨by decide, fun t2 ht2 => ?_⟩
  have y2 : Px.Ext H2 (upd H2 t2 (.tup [.ref d1, .ref d2, .ref d3, .ref d4])) := (Px.Ext.rfl' H2).new ht2
  have x2 : (upd H2 t2 (.tup [.ref d1, .ref d2, .ref d3, .ref d4])) t2 = some (.tup [.ref d1, .ref d2, .ref d3, .ref d4]) := upd_same
  generalize upd H2 t2 (.tup [.ref d1, .ref d2, .ref d3, .ref d4]) = H3 at *
  have hd3 := (y1.trans y2).get hd
  refine ⟨CT, rfl, _, false, _, hd3, X.ec, X.k2, .inr (.cons (.own _) (.cons (.own _) (.cons (.own _) (.cons (.own _) .nil)))), ?_⟩
  rw [if_neg Bool.false_ne_true]
  refine go_seq ?_
  simp only [decide_true, decide_false, List.map_cons, List.map_nil, Option.map_none, Option.map_some, Option.getD_none, Option.getD_some, Px.dg2, Px.dg1, Px.dg, Px.din, Px.dnotin, Px.dnew, Px.dput, Px.isD_is, Px.dget_i, Px.dget_s, Px.dput_i, Px.dput_s, Px.dOf_d, Px.rtup, Px.rlist, Px.rsl, Px.rsort, Px.rcat, Px.rapp, Px.rrev, Px.sl_ap, Px.nop, Px.part, Px.yes, Px.tyl, Px.isL_l, Px.isT_t, Px.isL_t, Px.isT_l, Px.isD_d, Px.isT_d, Px.inV_ints, Px.flat_ints, Px.flatV_i, Px.wipe_cons, Px.wipe_nil, Px.gtup, Px.gcons, Px.gnil, gt_iff_lt, ge_iff_le, Px.we, Px.wonly, Px.was, Px.cxK, not_true_eq_false, and_self, true_implies, false_implies, implies_true, Px.e0, and_assoc, imp_false, not_false_eq_true, ne_eq, Px.rgcd, Px.rixl, Px.rixt, Px.v0, Px.v1, Px.v2, Px.v3, Px.v4, Px.v5, Px.v6, Px.v7, Px.v8, Px.v9, Px.v10, Px.v11, Px.v12, Px.v13, Px.v14, Px.v15, Px.v16, Px.v17, Px.v18, Px.v19, Px.v20, Px.v21, Px.v22, Px.v23, Px.c0, Px.asg, Px.gnm, Px.ret, Px.retN, Px.drop, Px.nxt, Px.brk, Px.cnt, Px.ifs, Px.op, Px.un, Px.tst, Px.tbl, Px.tand, Px.tor, Px.tnot, Px.andv, Px.orv, Px.notv, Px.tif, Px.tup, Px.lst, Px.nil, Px.cons, Px.cal, Px.calS, Px.cb, Px.par, Px.gsub, Px.bits, Px.bm, Px.bm0, Px.ri, Px.ri0, Px.ru, Px.req, Px.rne, Px.rix, Px.rlen, Px.rin, Px.rsetl, Px.risi, Px.tyH_n, Px.tyH_b, Px.tyH_i, Px.tyH_s, Px.tyH_r, Px.seqH_t, Px.seqH_l, Px.seqH_fl, Px.sc_ii, Px.sc_bb, Px.sc_ss, Px.atI0, Px.atI1, Px.atI2, Px.atI3, Px.atI4, Px.atI5, Px.atI6, Px.atI7, Px.kb_NoneType_int, Px.kb_NoneType_bool, Px.kb_NoneType_str, Px.kb_NoneType_list, Px.kb_NoneType_tuple, Px.kb_NoneType_dict, Px.kb_bool_int, Px.kb_bool_bool, Px.kb_bool_str, Px.kb_bool_list, Px.kb_bool_tuple, Px.kb_bool_dict, Px.kb_int_int, Px.kb_int_bool, Px.kb_int_str, Px.kb_int_list, Px.kb_int_tuple, Px.kb_int_dict, Px.kb_str_int, Px.kb_str_bool, Px.kb_str_str, Px.kb_str_list, Px.kb_str_tuple, Px.kb_str_dict, Px.kb_list_int, Px.kb_list_bool, Px.kb_list_str, Px.kb_list_list, Px.kb_list_tuple, Px.kb_list_dict, Px.kb_tuple_int, Px.kb_tuple_bool, Px.kb_tuple_str, Px.kb_tuple_list, Px.kb_tuple_tuple, Px.kb_tuple_dict, Px.kb_dict_int, Px.kb_dict_bool, Px.kb_dict_str, Px.kb_dict_list, Px.kb_dict_tuple, Px.kb_dict_dict, L2.upd_same, Px.updI, L2.ixN, List.set_cons_zero, List.set_cons_succ, List.length_cons, List.length_nil, Nat.reduceAdd, Nat.zero_add, L2.HO.lst.injEq, L2.HO.tup.injEq, L2.upd_upd, L2.V.int.injEq, L2.V.ref.injEq, L2.V.bl.injEq, L2.V.str.injEq, L2.V.ty.injEq, List.cons.injEq, and_true, true_and, and_false, false_and, or_false, false_or, exists_eq_left', exists_eq_left, exists_and_left, exists_const, exists_false, Option.some.injEq, decide_eq_true_eq, List.append_nil, List.cons_append, List.nil_append, Option.isSome_some, Bool.not_true, Bool.not_false, Bool.not_eq_true', Bool.not_eq_true, Bool.false_eq_true, decide_eq_false_iff_not, if_true, if_false, ite_true, ite_false, Int.reduceLE, Int.reduceLT, Int.reduceToNat, Int.cast_ofNat_Int, Bool.true_eq_false, eq_self, ↓reduceIte, reduceCtorEq, Px.aug, Px.ipi, Px.tri, Px.rcatth, Px.rixs, Px.rsls, Px.tm1, Px.glst, Px.nstr, Px.txI, Px.txC, Px.txL, Px.txA, Px.rsgn, Px.txf, Px.tost, Px.tmko, Px.risxd, *]
  refine ⟨CT, rfl, _, true, _, rfl, X.ec, X.k3, .inl ⟨_, rfl, .own _⟩, ?_⟩
  rw [if_neg (by decide)]
  refine ⟨CT, rfl, _, true, _, rfl, X.ec, X.k4, ⟨_, rfl, .ty _⟩, ?_⟩
  rw [if_neg (by decide)]
  refine ⟨_, rfl, _, lk_same, 0, rfl, true, rfl, ?_⟩
  rw [if_pos rfl]
  exact ⟨_, hd3, _, lk_same, rfl, k H3 ((e1.trans y1).trans y2)⟩
/-! ### drawn numbers -/
/-- a ratio of fewer than n bits a part -/
def Rt (n : Nat) (x y : Int) : Prop := 0 < y ∧ Nat.gcd x.natAbs y.natAbs = 1 ∧ x.natAbs < 2 ^ n ∧ y.natAbs < 2 ^ n
theorem rt_low {n : Nat} {p q : Int} (h0 : 0 < q) (hp : p.natAbs < 2 ^ n) (hq : q.natAbs < 2 ^ n) : Rt n (p / gg p q) (q / gg p q) := by
  have g0 : 0 < Nat.gcd p.natAbs q.natAbs := Nat.gcd_pos_of_pos_right _ (by omega)
  have gp : ((Nat.gcd p.natAbs q.natAbs : Nat) : Int) ∣ p := Int.ofNat_dvd_left.mpr (Nat.gcd_dvd_left _ _)
  have gq : ((Nat.gcd p.natAbs q.natAbs : Nat) : Int) ∣ q := Int.ofNat_dvd_left.mpr (Nat.gcd_dvd_right _ _)
  have e1 : (p / gg p q).natAbs = p.natAbs / Nat.gcd p.natAbs q.natAbs := by
    unfold gg
    rw [Int.natAbs_ediv_of_dvd gp, Int.natAbs_natCast]
  have e2 : (q / gg p q).natAbs = q.natAbs / Nat.gcd p.natAbs q.natAbs := by
    unfold gg
    rw [Int.natAbs_ediv_of_dvd gq, Int.natAbs_natCast]
  refine ⟨?_, ?_, ?_, ?_⟩
  · have a : 0 < q.natAbs / Nat.gcd p.natAbs q.natAbs := Nat.div_pos (Nat.gcd_le_right _ (by omega)) g0
    have b : 0 ≤ q / gg p q := Int.ediv_nonneg (by omega) (by unfold gg; omega)
    omega
  · rw [e1, e2]
    exact Nat.Coprime.gcd_eq_one (Nat.coprime_div_gcd_div_gcd g0)
  · rw [e1]
    exact Nat.lt_of_le_of_lt (Nat.div_le_self _ _) hp
  · rw [e2]
    exact Nat.lt_of_le_of_lt (Nat.div_le_self _ _) hq
theorem Rt.up {n m : Nat} {x y : Int} (h : Rt n x y) (l : n ≤ m) : Rt m x y := ⟨h.1, h.2.1, lt_up h.2.2.1 l, lt_up h.2.2.2 l⟩
def spSized (vs : List V) (H : Hp) (Q : VK) (_ : XK) : Prop := ∃ (p : Addr) (n : Int), vs = [.ref p, .int n] ∧ Pool H p ∧ (0 ≤ n ∧ n ≤ 7) ∧ ∀ v H', v.natAbs < 2 ^ 140 → Pool H' p → Px.But p H H' → Q (.int v) H'
def MSized (p : Addr) (n size : Int) (H : Hp) (σ' : L2.St) (H' : Hp) : Prop := ∃ t v, σ' = [some (.ref p), some (.int n), some (.int size), some (.int t), v] ∧ (0 ≤ t ∧ t < 1000000000000000000000000000000000000000000) ∧ Pool H' p ∧ Px.But p H H'
theorem ok_sized (B : Bn mg) (F : FunAt K mg "_law_sized" s_law_sized) (D_law_take : Def P w K mg base CX0 1 "_law_take" ["pool", "size"] spTake) : Def P w K mg base CX0 2 "_law_sized" ["pool", "pieces"] spSized := by
  refine F.ok sc_law_sized (fun _ _ _ _ _ _ us hl => match us, hl with | [_, _], _ => rfl) (fun vs H Q E h => by obtain ⟨p, n, rfl, _⟩ := h; rfl) (fun f cdv A outer s H vs Q E hr h => ?_)
  obtain ⟨p, n, rfl, hp, hn, k⟩ := h
  refine ⟨_, pss_cons (ps_set (i := 2) sc_law_sized.nd rfl (Or.inl rfl) (pe_fn D_law_take hr pass0 (pa_cons (pv 0) (pa_cons pe_int pa_nil)))) (
  pss_cons (ps_set (i := 3) sc_law_sized.nd rfl (Or.inl rfl) (pe_fn D_law_take hr pass0 (pa_cons (pv 0) (pa_cons pe_int pa_nil)))) (
  pcut (ps_if (pt_cmpR op_eq (pv 2) pe_int (nomark _)) (pss_one (ps_set (i := 3) sc_law_sized.nd rfl (Or.inl rfl) (pe_fn D_law_take hr pass0 (pa_cons (pv 0) (pa_cons pe_int pa_nil))))) (pss_nil)) (
  pcut (ps_if (pt_cmpR op_eq (pv 2) pe_int (nomark _)) (pss_one (ps_set (i := 3) sc_law_sized.nd rfl (Or.inl rfl) (pe_fn D_law_take hr pass0 (pa_cons (pv 0) (pa_cons pe_int pa_nil))))) (pss_nil)) (
  pcut (ps_if (pt_cmpR op_eq (pv 2) pe_int (nomark _)) (pss_cons (ps_set (i := 3) sc_law_sized.nd rfl (Or.inl rfl) pe_int) (
  pss_one (ps_for PassesOwn.never rfl (pi_range1 rfl B.range (pa_cons (pv 1) pa_nil)) (pg_name (i := 4) sc_law_sized.nd rfl (Or.inl rfl)) (
  pss_one (ps_set (i := 3) sc_law_sized.nd rfl (Or.inl rfl) (pe_op op_add (pe_op op_mul (pv 3) pe_int) (pe_fn D_law_take hr pass0 (pa_cons (pv 0) (pa_cons pe_int pa_nil))))))))) (pss_nil)) (
  pss_cons (ps_if (pt_cmpR op_eq (pe_fn D_law_take hr pass0 (pa_cons (pv 0) (pa_cons pe_int pa_nil))) pe_int (nomark _)) (pss_one (ps_ret (pe_un un_neg (pv 3)))) (pss_nil)) (
  pss_one (ps_ret (pv 3)))))))), ?_⟩
  show tSeq _ _ _ [some (.ref p), some (.int n), none, none, none] H
  refine go_seq ?_
  simp only [decide_true, decide_false, List.map_cons, List.map_nil, Option.map_none, Option.map_some, Option.getD_none, Option.getD_some, Px.dg2, Px.dg1, Px.dg, Px.din, Px.dnotin, Px.dnew, Px.dput, Px.isD_is, Px.dget_i, Px.dget_s, Px.dput_i, Px.dput_s, Px.dOf_d, Px.rtup, Px.rlist, Px.rsl, Px.rsort, Px.rcat, Px.rapp, Px.rrev, Px.sl_ap, Px.nop, Px.part, Px.yes, Px.tyl, Px.isL_l, Px.isT_t, Px.isL_t, Px.isT_l, Px.isD_d, Px.isT_d, Px.inV_ints, Px.flat_ints, Px.flatV_i, Px.wipe_cons, Px.wipe_nil, Px.gtup, Px.gcons, Px.gnil, gt_iff_lt, ge_iff_le, Px.we, Px.wonly, Px.was, Px.cxK, not_true_eq_false, and_self, true_implies, false_implies, implies_true, Px.e0, and_assoc, imp_false, not_false_eq_true, ne_eq, Px.rgcd, Px.rixl, Px.rixt, Px.v0, Px.v1, Px.v2, Px.v3, Px.v4, Px.v5, Px.v6, Px.v7, Px.v8, Px.v9, Px.v10, Px.v11, Px.v12, Px.v13, Px.v14, Px.v15, Px.v16, Px.v17, Px.v18, Px.v19, Px.v20, Px.v21, Px.v22, Px.v23, Px.c0, Px.asg, Px.gnm, Px.ret, Px.retN, Px.drop, Px.nxt, Px.brk, Px.cnt, Px.ifs, Px.op, Px.un, Px.tst, Px.tbl, Px.tand, Px.tor, Px.tnot, Px.andv, Px.orv, Px.notv, Px.tif, Px.tup, Px.lst, Px.nil, Px.cons, Px.cal, Px.calS, Px.cb, Px.par, Px.gsub, Px.bits, Px.bm, Px.bm0, Px.ri, Px.ri0, Px.ru, Px.req, Px.rne, Px.rix, Px.rlen, Px.rin, Px.rsetl, Px.risi, Px.tyH_n, Px.tyH_b, Px.tyH_i, Px.tyH_s, Px.tyH_r, Px.seqH_t, Px.seqH_l, Px.seqH_fl, Px.sc_ii, Px.sc_bb, Px.sc_ss, Px.atI0, Px.atI1, Px.atI2, Px.atI3, Px.atI4, Px.atI5, Px.atI6, Px.atI7, Px.kb_NoneType_int, Px.kb_NoneType_bool, Px.kb_NoneType_str, Px.kb_NoneType_list, Px.kb_NoneType_tuple, Px.kb_NoneType_dict, Px.kb_bool_int, Px.kb_bool_bool, Px.kb_bool_str, Px.kb_bool_list, Px.kb_bool_tuple, Px.kb_bool_dict, Px.kb_int_int, Px.kb_int_bool, Px.kb_int_str, Px.kb_int_list, Px.kb_int_tuple, Px.kb_int_dict, Px.kb_str_int, Px.kb_str_bool, Px.kb_str_str, Px.kb_str_list, Px.kb_str_tuple, Px.kb_str_dict, Px.kb_list_int, Px.kb_list_bool, Px.kb_list_str, Px.kb_list_list, Px.kb_list_tuple, Px.kb_list_dict, Px.kb_tuple_int, Px.kb_tuple_bool, Px.kb_tuple_str, Px.kb_tuple_list, Px.kb_tuple_tuple, Px.kb_tuple_dict, Px.kb_dict_int, Px.kb_dict_bool, Px.kb_dict_str, Px.kb_dict_list, Px.kb_dict_tuple, Px.kb_dict_dict, L2.upd_same, Px.updI, L2.ixN, List.set_cons_zero, List.set_cons_succ, List.length_cons, List.length_nil, Nat.reduceAdd, Nat.zero_add, L2.HO.lst.injEq, L2.HO.tup.injEq, L2.upd_upd, L2.V.int.injEq, L2.V.ref.injEq, L2.V.bl.injEq, L2.V.str.injEq, L2.V.ty.injEq, List.cons.injEq, and_true, true_and, and_false, false_and, or_false, false_or, exists_eq_left', exists_eq_left, exists_and_left, exists_const, exists_false, Option.some.injEq, decide_eq_true_eq, List.append_nil, List.cons_append, List.nil_append, Option.isSome_some, Bool.not_true, Bool.not_false, Bool.not_eq_true', Bool.not_eq_true, Bool.false_eq_true, decide_eq_false_iff_not, if_true, if_false, ite_true, ite_false, Int.reduceLE, Int.reduceLT, Int.reduceToNat, Int.cast_ofNat_Int, Bool.true_eq_false, eq_self, ↓reduceIte, reduceCtorEq, Px.aug, Px.ipi, Px.tri, Px.rcatth, Px.rixs, Px.rsls, Px.tm1, Px.glst, Px.nstr, Px.txI, Px.txC, Px.txL, Px.txA, Px.rsgn, Px.txf, Px.tost, Px.tmko, Px.risxd, *, spTake]
  refine fun size H1 a0 a1 hp1 b1 _ => go_seq ?_
  simp only [decide_true, decide_false, List.map_cons, List.map_nil, Option.map_none, Option.map_some, Option.getD_none, Option.getD_some, Px.dg2, Px.dg1, Px.dg, Px.din, Px.dnotin, Px.dnew, Px.dput, Px.isD_is, Px.dget_i, Px.dget_s, Px.dput_i, Px.dput_s, Px.dOf_d, Px.rtup, Px.rlist, Px.rsl, Px.rsort, Px.rcat, Px.rapp, Px.rrev, Px.sl_ap, Px.nop, Px.part, Px.yes, Px.tyl, Px.isL_l, Px.isT_t, Px.isL_t, Px.isT_l, Px.isD_d, Px.isT_d, Px.inV_ints, Px.flat_ints, Px.flatV_i, Px.wipe_cons, Px.wipe_nil, Px.gtup, Px.gcons, Px.gnil, gt_iff_lt, ge_iff_le, Px.we, Px.wonly, Px.was, Px.cxK, not_true_eq_false, and_self, true_implies, false_implies, implies_true, Px.e0, and_assoc, imp_false, not_false_eq_true, ne_eq, Px.rgcd, Px.rixl, Px.rixt, Px.v0, Px.v1, Px.v2, Px.v3, Px.v4, Px.v5, Px.v6, Px.v7, Px.v8, Px.v9, Px.v10, Px.v11, Px.v12, Px.v13, Px.v14, Px.v15, Px.v16, Px.v17, Px.v18, Px.v19, Px.v20, Px.v21, Px.v22, Px.v23, Px.c0, Px.asg, Px.gnm, Px.ret, Px.retN, Px.drop, Px.nxt, Px.brk, Px.cnt, Px.ifs, Px.op, Px.un, Px.tst, Px.tbl, Px.tand, Px.tor, Px.tnot, Px.andv, Px.orv, Px.notv, Px.tif, Px.tup, Px.lst, Px.nil, Px.cons, Px.cal, Px.calS, Px.cb, Px.par, Px.gsub, Px.bits, Px.bm, Px.bm0, Px.ri, Px.ri0, Px.ru, Px.req, Px.rne, Px.rix, Px.rlen, Px.rin, Px.rsetl, Px.risi, Px.tyH_n, Px.tyH_b, Px.tyH_i, Px.tyH_s, Px.tyH_r, Px.seqH_t, Px.seqH_l, Px.seqH_fl, Px.sc_ii, Px.sc_bb, Px.sc_ss, Px.atI0, Px.atI1, Px.atI2, Px.atI3, Px.atI4, Px.atI5, Px.atI6, Px.atI7, Px.kb_NoneType_int, Px.kb_NoneType_bool, Px.kb_NoneType_str, Px.kb_NoneType_list, Px.kb_NoneType_tuple, Px.kb_NoneType_dict, Px.kb_bool_int, Px.kb_bool_bool, Px.kb_bool_str, Px.kb_bool_list, Px.kb_bool_tuple, Px.kb_bool_dict, Px.kb_int_int, Px.kb_int_bool, Px.kb_int_str, Px.kb_int_list, Px.kb_int_tuple, Px.kb_int_dict, Px.kb_str_int, Px.kb_str_bool, Px.kb_str_str, Px.kb_str_list, Px.kb_str_tuple, Px.kb_str_dict, Px.kb_list_int, Px.kb_list_bool, Px.kb_list_str, Px.kb_list_list, Px.kb_list_tuple, Px.kb_list_dict, Px.kb_tuple_int, Px.kb_tuple_bool, Px.kb_tuple_str, Px.kb_tuple_list, Px.kb_tuple_tuple, Px.kb_tuple_dict, Px.kb_dict_int, Px.kb_dict_bool, Px.kb_dict_str, Px.kb_dict_list, Px.kb_dict_tuple, Px.kb_dict_dict, L2.upd_same, Px.updI, L2.ixN, List.set_cons_zero, List.set_cons_succ, List.length_cons, List.length_nil, Nat.reduceAdd, Nat.zero_add, L2.HO.lst.injEq, L2.HO.tup.injEq, L2.upd_upd, L2.V.int.injEq, L2.V.ref.injEq, L2.V.bl.injEq, L2.V.str.injEq, L2.V.ty.injEq, List.cons.injEq, and_true, true_and, and_false, false_and, or_false, false_or, exists_eq_left', exists_eq_left, exists_and_left, exists_const, exists_false, Option.some.injEq, decide_eq_true_eq, List.append_nil, List.cons_append, List.nil_append, Option.isSome_some, Bool.not_true, Bool.not_false, Bool.not_eq_true', Bool.not_eq_true, Bool.false_eq_true, decide_eq_false_iff_not, if_true, if_false, ite_true, ite_false, Int.reduceLE, Int.reduceLT, Int.reduceToNat, Int.cast_ofNat_Int, Bool.true_eq_false, eq_self, ↓reduceIte, reduceCtorEq, Px.aug, Px.ipi, Px.tri, Px.rcatth, Px.rixs, Px.rsls, Px.tm1, Px.glst, Px.nstr, Px.txI, Px.txC, Px.txL, Px.txA, Px.rsgn, Px.txf, Px.tost, Px.tmko, Px.risxd, *, spTake]
  refine fun tot H2 t0 t1 hp2 b2 _ => ?_
  have b2' := b1.trans b2
  refine go_cut (MSized p n size H) ?_ ?_
  · simp only [decide_true, decide_false, List.map_cons, List.map_nil, Option.map_none, Option.map_some, Option.getD_none, Option.getD_some, Px.dg2, Px.dg1, Px.dg, Px.din, Px.dnotin, Px.dnew, Px.dput, Px.isD_is, Px.dget_i, Px.dget_s, Px.dput_i, Px.dput_s, Px.dOf_d, Px.rtup, Px.rlist, Px.rsl, Px.rsort, Px.rcat, Px.rapp, Px.rrev, Px.sl_ap, Px.nop, Px.part, Px.yes, Px.tyl, Px.isL_l, Px.isT_t, Px.isL_t, Px.isT_l, Px.isD_d, Px.isT_d, Px.inV_ints, Px.flat_ints, Px.flatV_i, Px.wipe_cons, Px.wipe_nil, Px.gtup, Px.gcons, Px.gnil, gt_iff_lt, ge_iff_le, Px.we, Px.wonly, Px.was, Px.cxK, not_true_eq_false, and_self, true_implies, false_implies, implies_true, Px.e0, and_assoc, imp_false, not_false_eq_true, ne_eq, Px.rgcd, Px.rixl, Px.rixt, Px.v0, Px.v1, Px.v2, Px.v3, Px.v4, Px.v5, Px.v6, Px.v7, Px.v8, Px.v9, Px.v10, Px.v11, Px.v12, Px.v13, Px.v14, Px.v15, Px.v16, Px.v17, Px.v18, Px.v19, Px.v20, Px.v21, Px.v22, Px.v23, Px.c0, Px.asg, Px.gnm, Px.ret, Px.retN, Px.drop, Px.nxt, Px.brk, Px.cnt, Px.ifs, Px.op, Px.un, Px.tst, Px.tbl, Px.tand, Px.tor, Px.tnot, Px.andv, Px.orv, Px.notv, Px.tif, Px.tup, Px.lst, Px.nil, Px.cons, Px.cal, Px.calS, Px.cb, Px.par, Px.gsub, Px.bits, Px.bm, Px.bm0, Px.ri, Px.ri0, Px.ru, Px.req, Px.rne, Px.rix, Px.rlen, Px.rin, Px.rsetl, Px.risi, Px.tyH_n, Px.tyH_b, Px.tyH_i, Px.tyH_s, Px.tyH_r, Px.seqH_t, Px.seqH_l, Px.seqH_fl, Px.sc_ii, Px.sc_bb, Px.sc_ss, Px.atI0, Px.atI1, Px.atI2, Px.atI3, Px.atI4, Px.atI5, Px.atI6, Px.atI7, Px.kb_NoneType_int, Px.kb_NoneType_bool, Px.kb_NoneType_str, Px.kb_NoneType_list, Px.kb_NoneType_tuple, Px.kb_NoneType_dict, Px.kb_bool_int, Px.kb_bool_bool, Px.kb_bool_str, Px.kb_bool_list, Px.kb_bool_tuple, Px.kb_bool_dict, Px.kb_int_int, Px.kb_int_bool, Px.kb_int_str, Px.kb_int_list, Px.kb_int_tuple, Px.kb_int_dict, Px.kb_str_int, Px.kb_str_bool, Px.kb_str_str, Px.kb_str_list, Px.kb_str_tuple, Px.kb_str_dict, Px.kb_list_int, Px.kb_list_bool, Px.kb_list_str, Px.kb_list_list, Px.kb_list_tuple, Px.kb_list_dict, Px.kb_tuple_int, Px.kb_tuple_bool, Px.kb_tuple_str, Px.kb_tuple_list, Px.kb_tuple_tuple, Px.kb_tuple_dict, Px.kb_dict_int, Px.kb_dict_bool, Px.kb_dict_str, Px.kb_dict_list, Px.kb_dict_tuple, Px.kb_dict_dict, L2.upd_same, Px.updI, L2.ixN, List.set_cons_zero, List.set_cons_succ, List.length_cons, List.length_nil, Nat.reduceAdd, Nat.zero_add, L2.HO.lst.injEq, L2.HO.tup.injEq, L2.upd_upd, L2.V.int.injEq, L2.V.ref.injEq, L2.V.bl.injEq, L2.V.str.injEq, L2.V.ty.injEq, List.cons.injEq, and_true, true_and, and_false, false_and, or_false, false_or, exists_eq_left', exists_eq_left, exists_and_left, exists_const, exists_false, Option.some.injEq, decide_eq_true_eq, List.append_nil, List.cons_append, List.nil_append, Option.isSome_some, Bool.not_true, Bool.not_false, Bool.not_eq_true', Bool.not_eq_true, Bool.false_eq_true, decide_eq_false_iff_not, if_true, if_false, ite_true, ite_false, Int.reduceLE, Int.reduceLT, Int.reduceToNat, Int.cast_ofNat_Int, Bool.true_eq_false, eq_self, ↓reduceIte, reduceCtorEq, Px.aug, Px.ipi, Px.tri, Px.rcatth, Px.rixs, Px.rsls, Px.tm1, Px.glst, Px.nstr, Px.txI, Px.txC, Px.txL, Px.txA, Px.rsgn, Px.txf, Px.tost, Px.tmko, Px.risxd, *, spTake]
    refine go_if (fun _ v H3 v0 v1 hp3 b3 _ => ⟨_, _, rfl, by omega, hp3, b2'.trans b3⟩) (fun _ => ⟨_, _, rfl, by omega, hp2, b2'⟩)
  rintro σ' H3 ⟨t, x, rfl, ht, hp3, b3⟩
  refine go_cut (MSized p n size H) ?_ ?_
  · simp only [decide_true, decide_false, List.map_cons, List.map_nil, Option.map_none, Option.map_some, Option.getD_none, Option.getD_some, Px.dg2, Px.dg1, Px.dg, Px.din, Px.dnotin, Px.dnew, Px.dput, Px.isD_is, Px.dget_i, Px.dget_s, Px.dput_i, Px.dput_s, Px.dOf_d, Px.rtup, Px.rlist, Px.rsl, Px.rsort, Px.rcat, Px.rapp, Px.rrev, Px.sl_ap, Px.nop, Px.part, Px.yes, Px.tyl, Px.isL_l, Px.isT_t, Px.isL_t, Px.isT_l, Px.isD_d, Px.isT_d, Px.inV_ints, Px.flat_ints, Px.flatV_i, Px.wipe_cons, Px.wipe_nil, Px.gtup, Px.gcons, Px.gnil, gt_iff_lt, ge_iff_le, Px.we, Px.wonly, Px.was, Px.cxK, not_true_eq_false, and_self, true_implies, false_implies, implies_true, Px.e0, and_assoc, imp_false, not_false_eq_true, ne_eq, Px.rgcd, Px.rixl, Px.rixt, Px.v0, Px.v1, Px.v2, Px.v3, Px.v4, Px.v5, Px.v6, Px.v7, Px.v8, Px.v9, Px.v10, Px.v11, Px.v12, Px.v13, Px.v14, Px.v15, Px.v16, Px.v17, Px.v18, Px.v19, Px.v20, Px.v21, Px.v22, Px.v23, Px.c0, Px.asg, Px.gnm, Px.ret, Px.retN, Px.drop, Px.nxt, Px.brk, Px.cnt, Px.ifs, Px.op, Px.un, Px.tst, Px.tbl, Px.tand, Px.tor, Px.tnot, Px.andv, Px.orv, Px.notv, Px.tif, Px.tup, Px.lst, Px.nil, Px.cons, Px.cal, Px.calS, Px.cb, Px.par, Px.gsub, Px.bits, Px.bm, Px.bm0, Px.ri, Px.ri0, Px.ru, Px.req, Px.rne, Px.rix, Px.rlen, Px.rin, Px.rsetl, Px.risi, Px.tyH_n, Px.tyH_b, Px.tyH_i, Px.tyH_s, Px.tyH_r, Px.seqH_t, Px.seqH_l, Px.seqH_fl, Px.sc_ii, Px.sc_bb, Px.sc_ss, Px.atI0, Px.atI1, Px.atI2, Px.atI3, Px.atI4, Px.atI5, Px.atI6, Px.atI7, Px.kb_NoneType_int, Px.kb_NoneType_bool, Px.kb_NoneType_str, Px.kb_NoneType_list, Px.kb_NoneType_tuple, Px.kb_NoneType_dict, Px.kb_bool_int, Px.kb_bool_bool, Px.kb_bool_str, Px.kb_bool_list, Px.kb_bool_tuple, Px.kb_bool_dict, Px.kb_int_int, Px.kb_int_bool, Px.kb_int_str, Px.kb_int_list, Px.kb_int_tuple, Px.kb_int_dict, Px.kb_str_int, Px.kb_str_bool, Px.kb_str_str, Px.kb_str_list, Px.kb_str_tuple, Px.kb_str_dict, Px.kb_list_int, Px.kb_list_bool, Px.kb_list_str, Px.kb_list_list, Px.kb_list_tuple, Px.kb_list_dict, Px.kb_tuple_int, Px.kb_tuple_bool, Px.kb_tuple_str, Px.kb_tuple_list, Px.kb_tuple_tuple, Px.kb_tuple_dict, Px.kb_dict_int, Px.kb_dict_bool, Px.kb_dict_str, Px.kb_dict_list, Px.kb_dict_tuple, Px.kb_dict_dict, L2.upd_same, Px.updI, L2.ixN, List.set_cons_zero, List.set_cons_succ, List.length_cons, List.length_nil, Nat.reduceAdd, Nat.zero_add, L2.HO.lst.injEq, L2.HO.tup.injEq, L2.upd_upd, L2.V.int.injEq, L2.V.ref.injEq, L2.V.bl.injEq, L2.V.str.injEq, L2.V.ty.injEq, List.cons.injEq, and_true, true_and, and_false, false_and, or_false, false_or, exists_eq_left', exists_eq_left, exists_and_left, exists_const, exists_false, Option.some.injEq, decide_eq_true_eq, List.append_nil, List.cons_append, List.nil_append, Option.isSome_some, Bool.not_true, Bool.not_false, Bool.not_eq_true', Bool.not_eq_true, Bool.false_eq_true, decide_eq_false_iff_not, if_true, if_false, ite_true, ite_false, Int.reduceLE, Int.reduceLT, Int.reduceToNat, Int.cast_ofNat_Int, Bool.true_eq_false, eq_self, ↓reduceIte, reduceCtorEq, Px.aug, Px.ipi, Px.tri, Px.rcatth, Px.rixs, Px.rsls, Px.tm1, Px.glst, Px.nstr, Px.txI, Px.txC, Px.txL, Px.txA, Px.rsgn, Px.txf, Px.tost, Px.tmko, Px.risxd, *, spTake]
    refine go_if (fun _ v H4 v0 v1 hp4 b4 _ => ⟨_, _, rfl, by omega, hp4, b3.trans b4⟩) (fun _ => ⟨_, _, rfl, by omega, hp3, b3⟩)
  rintro σ' H4 ⟨t, x, rfl, ht, hp4, b4⟩
  refine go_cut (MSized p n size H) ?_ ?_
  · simp only [decide_true, decide_false, List.map_cons, List.map_nil, Option.map_none, Option.map_some, Option.getD_none, Option.getD_some, Px.dg2, Px.dg1, Px.dg, Px.din, Px.dnotin, Px.dnew, Px.dput, Px.isD_is, Px.dget_i, Px.dget_s, Px.dput_i, Px.dput_s, Px.dOf_d, Px.rtup, Px.rlist, Px.rsl, Px.rsort, Px.rcat, Px.rapp, Px.rrev, Px.sl_ap, Px.nop, Px.part, Px.yes, Px.tyl, Px.isL_l, Px.isT_t, Px.isL_t, Px.isT_l, Px.isD_d, Px.isT_d, Px.inV_ints, Px.flat_ints, Px.flatV_i, Px.wipe_cons, Px.wipe_nil, Px.gtup, Px.gcons, Px.gnil, gt_iff_lt, ge_iff_le, Px.we, Px.wonly, Px.was, Px.cxK, not_true_eq_false, and_self, true_implies, false_implies, implies_true, Px.e0, and_assoc, imp_false, not_false_eq_true, ne_eq, Px.rgcd, Px.rixl, Px.rixt, Px.v0, Px.v1, Px.v2, Px.v3, Px.v4, Px.v5, Px.v6, Px.v7, Px.v8, Px.v9, Px.v10, Px.v11, Px.v12, Px.v13, Px.v14, Px.v15, Px.v16, Px.v17, Px.v18, Px.v19, Px.v20, Px.v21, Px.v22, Px.v23, Px.c0, Px.asg, Px.gnm, Px.ret, Px.retN, Px.drop, Px.nxt, Px.brk, Px.cnt, Px.ifs, Px.op, Px.un, Px.tst, Px.tbl, Px.tand, Px.tor, Px.tnot, Px.andv, Px.orv, Px.notv, Px.tif, Px.tup, Px.lst, Px.nil, Px.cons, Px.cal, Px.calS, Px.cb, Px.par, Px.gsub, Px.bits, Px.bm, Px.bm0, Px.ri, Px.ri0, Px.ru, Px.req, Px.rne, Px.rix, Px.rlen, Px.rin, Px.rsetl, Px.risi, Px.tyH_n, Px.tyH_b, Px.tyH_i, Px.tyH_s, Px.tyH_r, Px.seqH_t, Px.seqH_l, Px.seqH_fl, Px.sc_ii, Px.sc_bb, Px.sc_ss, Px.atI0, Px.atI1, Px.atI2, Px.atI3, Px.atI4, Px.atI5, Px.atI6, Px.atI7, Px.kb_NoneType_int, Px.kb_NoneType_bool, Px.kb_NoneType_str, Px.kb_NoneType_list, Px.kb_NoneType_tuple, Px.kb_NoneType_dict, Px.kb_bool_int, Px.kb_bool_bool, Px.kb_bool_str, Px.kb_bool_list, Px.kb_bool_tuple, Px.kb_bool_dict, Px.kb_int_int, Px.kb_int_bool, Px.kb_int_str, Px.kb_int_list, Px.kb_int_tuple, Px.kb_int_dict, Px.kb_str_int, Px.kb_str_bool, Px.kb_str_str, Px.kb_str_list, Px.kb_str_tuple, Px.kb_str_dict, Px.kb_list_int, Px.kb_list_bool, Px.kb_list_str, Px.kb_list_list, Px.kb_list_tuple, Px.kb_list_dict, Px.kb_tuple_int, Px.kb_tuple_bool, Px.kb_tuple_str, Px.kb_tuple_list, Px.kb_tuple_tuple, Px.kb_tuple_dict, Px.kb_dict_int, Px.kb_dict_bool, Px.kb_dict_str, Px.kb_dict_list, Px.kb_dict_tuple, Px.kb_dict_dict, L2.upd_same, Px.updI, L2.ixN, List.set_cons_zero, List.set_cons_succ, List.length_cons, List.length_nil, Nat.reduceAdd, Nat.zero_add, L2.HO.lst.injEq, L2.HO.tup.injEq, L2.upd_upd, L2.V.int.injEq, L2.V.ref.injEq, L2.V.bl.injEq, L2.V.str.injEq, L2.V.ty.injEq, List.cons.injEq, and_true, true_and, and_false, false_and, or_false, false_or, exists_eq_left', exists_eq_left, exists_and_left, exists_const, exists_false, Option.some.injEq, decide_eq_true_eq, List.append_nil, List.cons_append, List.nil_append, Option.isSome_some, Bool.not_true, Bool.not_false, Bool.not_eq_true', Bool.not_eq_true, Bool.false_eq_true, decide_eq_false_iff_not, if_true, if_false, ite_true, ite_false, Int.reduceLE, Int.reduceLT, Int.reduceToNat, Int.cast_ofNat_Int, Bool.true_eq_false, eq_self, ↓reduceIte, reduceCtorEq, Px.aug, Px.ipi, Px.tri, Px.rcatth, Px.rixs, Px.rsls, Px.tm1, Px.glst, Px.nstr, Px.txI, Px.txC, Px.txL, Px.txA, Px.rsgn, Px.txf, Px.tost, Px.tmko, Px.risxd, *, spTake]
    refine go_if (fun e => ?_) (fun _ => ⟨_, _, rfl, by omega, hp4, b4⟩)
    subst e
    refine go_seq ?_
    simp only [decide_true, decide_false, List.map_cons, List.map_nil, Option.map_none, Option.map_some, Option.getD_none, Option.getD_some, Px.dg2, Px.dg1, Px.dg, Px.din, Px.dnotin, Px.dnew, Px.dput, Px.isD_is, Px.dget_i, Px.dget_s, Px.dput_i, Px.dput_s, Px.dOf_d, Px.rtup, Px.rlist, Px.rsl, Px.rsort, Px.rcat, Px.rapp, Px.rrev, Px.sl_ap, Px.nop, Px.part, Px.yes, Px.tyl, Px.isL_l, Px.isT_t, Px.isL_t, Px.isT_l, Px.isD_d, Px.isT_d, Px.inV_ints, Px.flat_ints, Px.flatV_i, Px.wipe_cons, Px.wipe_nil, Px.gtup, Px.gcons, Px.gnil, gt_iff_lt, ge_iff_le, Px.we, Px.wonly, Px.was, Px.cxK, not_true_eq_false, and_self, true_implies, false_implies, implies_true, Px.e0, and_assoc, imp_false, not_false_eq_true, ne_eq, Px.rgcd, Px.rixl, Px.rixt, Px.v0, Px.v1, Px.v2, Px.v3, Px.v4, Px.v5, Px.v6, Px.v7, Px.v8, Px.v9, Px.v10, Px.v11, Px.v12, Px.v13, Px.v14, Px.v15, Px.v16, Px.v17, Px.v18, Px.v19, Px.v20, Px.v21, Px.v22, Px.v23, Px.c0, Px.asg, Px.gnm, Px.ret, Px.retN, Px.drop, Px.nxt, Px.brk, Px.cnt, Px.ifs, Px.op, Px.un, Px.tst, Px.tbl, Px.tand, Px.tor, Px.tnot, Px.andv, Px.orv, Px.notv, Px.tif, Px.tup, Px.lst, Px.nil, Px.cons, Px.cal, Px.calS, Px.cb, Px.par, Px.gsub, Px.bits, Px.bm, Px.bm0, Px.ri, Px.ri0, Px.ru, Px.req, Px.rne, Px.rix, Px.rlen, Px.rin, Px.rsetl, Px.risi, Px.tyH_n, Px.tyH_b, Px.tyH_i, Px.tyH_s, Px.tyH_r, Px.seqH_t, Px.seqH_l, Px.seqH_fl, Px.sc_ii, Px.sc_bb, Px.sc_ss, Px.atI0, Px.atI1, Px.atI2, Px.atI3, Px.atI4, Px.atI5, Px.atI6, Px.atI7, Px.kb_NoneType_int, Px.kb_NoneType_bool, Px.kb_NoneType_str, Px.kb_NoneType_list, Px.kb_NoneType_tuple, Px.kb_NoneType_dict, Px.kb_bool_int, Px.kb_bool_bool, Px.kb_bool_str, Px.kb_bool_list, Px.kb_bool_tuple, Px.kb_bool_dict, Px.kb_int_int, Px.kb_int_bool, Px.kb_int_str, Px.kb_int_list, Px.kb_int_tuple, Px.kb_int_dict, Px.kb_str_int, Px.kb_str_bool, Px.kb_str_str, Px.kb_str_list, Px.kb_str_tuple, Px.kb_str_dict, Px.kb_list_int, Px.kb_list_bool, Px.kb_list_str, Px.kb_list_list, Px.kb_list_tuple, Px.kb_list_dict, Px.kb_tuple_int, Px.kb_tuple_bool, Px.kb_tuple_str, Px.kb_tuple_list, Px.kb_tuple_tuple, Px.kb_tuple_dict, Px.kb_dict_int, Px.kb_dict_bool, Px.kb_dict_str, Px.kb_dict_list, Px.kb_dict_tuple, Px.kb_dict_dict, L2.upd_same, Px.updI, L2.ixN, List.set_cons_zero, List.set_cons_succ, List.length_cons, List.length_nil, Nat.reduceAdd, Nat.zero_add, L2.HO.lst.injEq, L2.HO.tup.injEq, L2.upd_upd, L2.V.int.injEq, L2.V.ref.injEq, L2.V.bl.injEq, L2.V.str.injEq, L2.V.ty.injEq, List.cons.injEq, and_true, true_and, and_false, false_and, or_false, false_or, exists_eq_left', exists_eq_left, exists_and_left, exists_const, exists_false, Option.some.injEq, decide_eq_true_eq, List.append_nil, List.cons_append, List.nil_append, Option.isSome_some, Bool.not_true, Bool.not_false, Bool.not_eq_true', Bool.not_eq_true, Bool.false_eq_true, decide_eq_false_iff_not, if_true, if_false, ite_true, ite_false, Int.reduceLE, Int.reduceLT, Int.reduceToNat, Int.cast_ofNat_Int, Bool.true_eq_false, eq_self, ↓reduceIte, reduceCtorEq, Px.aug, Px.ipi, Px.tri, Px.rcatth, Px.rixs, Px.rsls, Px.tm1, Px.glst, Px.nstr, Px.txI, Px.txC, Px.txL, Px.txA, Px.rsgn, Px.txf, Px.tost, Px.tmko, Px.risxd, *]
    refine for_r1 (fun i σ' H' => ∃ (t : Int) (v : Option V), σ' = [some (.ref p), some (.int n), some (.int 3), some (.int t), v] ∧ (0 ≤ t ∧ t < 1000000 ^ i) ∧ Pool H' p ∧ Px.But p H H') n ?_ ⟨by omega, by omega⟩ ⟨0, _, rfl, ⟨by decide, by decide⟩, hp4, b4⟩ ?_ ?_
    · intro Q hQ
      simp only [decide_true, decide_false, List.map_cons, List.map_nil, Option.map_none, Option.map_some, Option.getD_none, Option.getD_some, Px.dg2, Px.dg1, Px.dg, Px.din, Px.dnotin, Px.dnew, Px.dput, Px.isD_is, Px.dget_i, Px.dget_s, Px.dput_i, Px.dput_s, Px.dOf_d, Px.rtup, Px.rlist, Px.rsl, Px.rsort, Px.rcat, Px.rapp, Px.rrev, Px.sl_ap, Px.nop, Px.part, Px.yes, Px.tyl, Px.isL_l, Px.isT_t, Px.isL_t, Px.isT_l, Px.isD_d, Px.isT_d, Px.inV_ints, Px.flat_ints, Px.flatV_i, Px.wipe_cons, Px.wipe_nil, Px.gtup, Px.gcons, Px.gnil, gt_iff_lt, ge_iff_le, Px.we, Px.wonly, Px.was, Px.cxK, not_true_eq_false, and_self, true_implies, false_implies, implies_true, Px.e0, and_assoc, imp_false, not_false_eq_true, ne_eq, Px.rgcd, Px.rixl, Px.rixt, Px.v0, Px.v1, Px.v2, Px.v3, Px.v4, Px.v5, Px.v6, Px.v7, Px.v8, Px.v9, Px.v10, Px.v11, Px.v12, Px.v13, Px.v14, Px.v15, Px.v16, Px.v17, Px.v18, Px.v19, Px.v20, Px.v21, Px.v22, Px.v23, Px.c0, Px.asg, Px.gnm, Px.ret, Px.retN, Px.drop, Px.nxt, Px.brk, Px.cnt, Px.ifs, Px.op, Px.un, Px.tst, Px.tbl, Px.tand, Px.tor, Px.tnot, Px.andv, Px.orv, Px.notv, Px.tif, Px.tup, Px.lst, Px.nil, Px.cons, Px.cal, Px.calS, Px.cb, Px.par, Px.gsub, Px.bits, Px.bm, Px.bm0, Px.ri, Px.ri0, Px.ru, Px.req, Px.rne, Px.rix, Px.rlen, Px.rin, Px.rsetl, Px.risi, Px.tyH_n, Px.tyH_b, Px.tyH_i, Px.tyH_s, Px.tyH_r, Px.seqH_t, Px.seqH_l, Px.seqH_fl, Px.sc_ii, Px.sc_bb, Px.sc_ss, Px.atI0, Px.atI1, Px.atI2, Px.atI3, Px.atI4, Px.atI5, Px.atI6, Px.atI7, Px.kb_NoneType_int, Px.kb_NoneType_bool, Px.kb_NoneType_str, Px.kb_NoneType_list, Px.kb_NoneType_tuple, Px.kb_NoneType_dict, Px.kb_bool_int, Px.kb_bool_bool, Px.kb_bool_str, Px.kb_bool_list, Px.kb_bool_tuple, Px.kb_bool_dict, Px.kb_int_int, Px.kb_int_bool, Px.kb_int_str, Px.kb_int_list, Px.kb_int_tuple, Px.kb_int_dict, Px.kb_str_int, Px.kb_str_bool, Px.kb_str_str, Px.kb_str_list, Px.kb_str_tuple, Px.kb_str_dict, Px.kb_list_int, Px.kb_list_bool, Px.kb_list_str, Px.kb_list_list, Px.kb_list_tuple, Px.kb_list_dict, Px.kb_tuple_int, Px.kb_tuple_bool, Px.kb_tuple_str, Px.kb_tuple_list, Px.kb_tuple_tuple, Px.kb_tuple_dict, Px.kb_dict_int, Px.kb_dict_bool, Px.kb_dict_str, Px.kb_dict_list, Px.kb_dict_tuple, Px.kb_dict_dict, L2.upd_same, Px.updI, L2.ixN, List.set_cons_zero, List.set_cons_succ, List.length_cons, List.length_nil, Nat.reduceAdd, Nat.zero_add, L2.HO.lst.injEq, L2.HO.tup.injEq, L2.upd_upd, L2.V.int.injEq, L2.V.ref.injEq, L2.V.bl.injEq, L2.V.str.injEq, L2.V.ty.injEq, List.cons.injEq, and_true, true_and, and_false, false_and, or_false, false_or, exists_eq_left', exists_eq_left, exists_and_left, exists_const, exists_false, Option.some.injEq, decide_eq_true_eq, List.append_nil, List.cons_append, List.nil_append, Option.isSome_some, Bool.not_true, Bool.not_false, Bool.not_eq_true', Bool.not_eq_true, Bool.false_eq_true, decide_eq_false_iff_not, if_true, if_false, ite_true, ite_false, Int.reduceLE, Int.reduceLT, Int.reduceToNat, Int.cast_ofNat_Int, Bool.true_eq_false, eq_self, ↓reduceIte, reduceCtorEq, Px.aug, Px.ipi, Px.tri, Px.rcatth, Px.rixs, Px.rsls, Px.tm1, Px.glst, Px.nstr, Px.txI, Px.txC, Px.txL, Px.txA, Px.rsgn, Px.txf, Px.tost, Px.tmko, Px.risxd, *]
    · rintro i σ' H' hi ⟨t, v, rfl, ht, hp5, b5⟩
      simp only [decide_true, decide_false, List.map_cons, List.map_nil, Option.map_none, Option.map_some, Option.getD_none, Option.getD_some, Px.dg2, Px.dg1, Px.dg, Px.din, Px.dnotin, Px.dnew, Px.dput, Px.isD_is, Px.dget_i, Px.dget_s, Px.dput_i, Px.dput_s, Px.dOf_d, Px.rtup, Px.rlist, Px.rsl, Px.rsort, Px.rcat, Px.rapp, Px.rrev, Px.sl_ap, Px.nop, Px.part, Px.yes, Px.tyl, Px.isL_l, Px.isT_t, Px.isL_t, Px.isT_l, Px.isD_d, Px.isT_d, Px.inV_ints, Px.flat_ints, Px.flatV_i, Px.wipe_cons, Px.wipe_nil, Px.gtup, Px.gcons, Px.gnil, gt_iff_lt, ge_iff_le, Px.we, Px.wonly, Px.was, Px.cxK, not_true_eq_false, and_self, true_implies, false_implies, implies_true, Px.e0, and_assoc, imp_false, not_false_eq_true, ne_eq, Px.rgcd, Px.rixl, Px.rixt, Px.v0, Px.v1, Px.v2, Px.v3, Px.v4, Px.v5, Px.v6, Px.v7, Px.v8, Px.v9, Px.v10, Px.v11, Px.v12, Px.v13, Px.v14, Px.v15, Px.v16, Px.v17, Px.v18, Px.v19, Px.v20, Px.v21, Px.v22, Px.v23, Px.c0, Px.asg, Px.gnm, Px.ret, Px.retN, Px.drop, Px.nxt, Px.brk, Px.cnt, Px.ifs, Px.op, Px.un, Px.tst, Px.tbl, Px.tand, Px.tor, Px.tnot, Px.andv, Px.orv, Px.notv, Px.tif, Px.tup, Px.lst, Px.nil, Px.cons, Px.cal, Px.calS, Px.cb, Px.par, Px.gsub, Px.bits, Px.bm, Px.bm0, Px.ri, Px.ri0, Px.ru, Px.req, Px.rne, Px.rix, Px.rlen, Px.rin, Px.rsetl, Px.risi, Px.tyH_n, Px.tyH_b, Px.tyH_i, Px.tyH_s, Px.tyH_r, Px.seqH_t, Px.seqH_l, Px.seqH_fl, Px.sc_ii, Px.sc_bb, Px.sc_ss, Px.atI0, Px.atI1, Px.atI2, Px.atI3, Px.atI4, Px.atI5, Px.atI6, Px.atI7, Px.kb_NoneType_int, Px.kb_NoneType_bool, Px.kb_NoneType_str, Px.kb_NoneType_list, Px.kb_NoneType_tuple, Px.kb_NoneType_dict, Px.kb_bool_int, Px.kb_bool_bool, Px.kb_bool_str, Px.kb_bool_list, Px.kb_bool_tuple, Px.kb_bool_dict, Px.kb_int_int, Px.kb_int_bool, Px.kb_int_str, Px.kb_int_list, Px.kb_int_tuple, Px.kb_int_dict, Px.kb_str_int, Px.kb_str_bool, Px.kb_str_str, Px.kb_str_list, Px.kb_str_tuple, Px.kb_str_dict, Px.kb_list_int, Px.kb_list_bool, Px.kb_list_str, Px.kb_list_list, Px.kb_list_tuple, Px.kb_list_dict, Px.kb_tuple_int, Px.kb_tuple_bool, Px.kb_tuple_str, Px.kb_tuple_list, Px.kb_tuple_tuple, Px.kb_tuple_dict, Px.kb_dict_int, Px.kb_dict_bool, Px.kb_dict_str, Px.kb_dict_list, Px.kb_dict_tuple, Px.kb_dict_dict, L2.upd_same, Px.updI, L2.ixN, List.set_cons_zero, List.set_cons_succ, List.length_cons, List.length_nil, Nat.reduceAdd, Nat.zero_add, L2.HO.lst.injEq, L2.HO.tup.injEq, L2.upd_upd, L2.V.int.injEq, L2.V.ref.injEq, L2.V.bl.injEq, L2.V.str.injEq, L2.V.ty.injEq, List.cons.injEq, and_true, true_and, and_false, false_and, or_false, false_or, exists_eq_left', exists_eq_left, exists_and_left, exists_const, exists_false, Option.some.injEq, decide_eq_true_eq, List.append_nil, List.cons_append, List.nil_append, Option.isSome_some, Bool.not_true, Bool.not_false, Bool.not_eq_true', Bool.not_eq_true, Bool.false_eq_true, decide_eq_false_iff_not, if_true, if_false, ite_true, ite_false, Int.reduceLE, Int.reduceLT, Int.reduceToNat, Int.cast_ofNat_Int, Bool.true_eq_false, eq_self, ↓reduceIte, reduceCtorEq, Px.aug, Px.ipi, Px.tri, Px.rcatth, Px.rixs, Px.rsls, Px.tm1, Px.glst, Px.nstr, Px.txI, Px.txC, Px.txL, Px.txA, Px.rsgn, Px.txf, Px.tost, Px.tmko, Px.risxd, *, spTake]
      refine ⟨.inr ⟨by decide, by decide⟩, fun u H6 u0 u1 hp6 b6 _ => ⟨by omega, ?_, hp6, b5.trans b6⟩⟩
      rw [Int.pow_succ]
      omega
    · rintro σ' H' ⟨t, v, rfl, ht, hp5, b5⟩
      refine ⟨_, _, rfl, ⟨ht.1, Int.lt_of_lt_of_le ht.2 ?_⟩, hp5, b5⟩
      have h7 : 1000000 ^ n.toNat ≤ 1000000 ^ 7 := Nat.pow_le_pow_right (by decide) (show n.toNat ≤ 7 by omega)
      have h8 : (1000000 : Int) ^ n.toNat = ((1000000 ^ n.toNat : Nat) : Int) := by rw [Int.natCast_pow]; rfl
      rw [h8]
      exact Int.ofNat_le.mpr h7
  rintro σ' H4 ⟨t, x, rfl, ht, hp4, b4⟩
  refine go_seq ?_
  simp only [decide_true, decide_false, List.map_cons, List.map_nil, Option.map_none, Option.map_some, Option.getD_none, Option.getD_some, Px.dg2, Px.dg1, Px.dg, Px.din, Px.dnotin, Px.dnew, Px.dput, Px.isD_is, Px.dget_i, Px.dget_s, Px.dput_i, Px.dput_s, Px.dOf_d, Px.rtup, Px.rlist, Px.rsl, Px.rsort, Px.rcat, Px.rapp, Px.rrev, Px.sl_ap, Px.nop, Px.part, Px.yes, Px.tyl, Px.isL_l, Px.isT_t, Px.isL_t, Px.isT_l, Px.isD_d, Px.isT_d, Px.inV_ints, Px.flat_ints, Px.flatV_i, Px.wipe_cons, Px.wipe_nil, Px.gtup, Px.gcons, Px.gnil, gt_iff_lt, ge_iff_le, Px.we, Px.wonly, Px.was, Px.cxK, not_true_eq_false, and_self, true_implies, false_implies, implies_true, Px.e0, and_assoc, imp_false, not_false_eq_true, ne_eq, Px.rgcd, Px.rixl, Px.rixt, Px.v0, Px.v1, Px.v2, Px.v3, Px.v4, Px.v5, Px.v6, Px.v7, Px.v8, Px.v9, Px.v10, Px.v11, Px.v12, Px.v13, Px.v14, Px.v15, Px.v16, Px.v17, Px.v18, Px.v19, Px.v20, Px.v21, Px.v22, Px.v23, Px.c0, Px.asg, Px.gnm, Px.ret, Px.retN, Px.drop, Px.nxt, Px.brk, Px.cnt, Px.ifs, Px.op, Px.un, Px.tst, Px.tbl, Px.tand, Px.tor, Px.tnot, Px.andv, Px.orv, Px.notv, Px.tif, Px.tup, Px.lst, Px.nil, Px.cons, Px.cal, Px.calS, Px.cb, Px.par, Px.gsub, Px.bits, Px.bm, Px.bm0, Px.ri, Px.ri0, Px.ru, Px.req, Px.rne, Px.rix, Px.rlen, Px.rin, Px.rsetl, Px.risi, Px.tyH_n, Px.tyH_b, Px.tyH_i, Px.tyH_s, Px.tyH_r, Px.seqH_t, Px.seqH_l, Px.seqH_fl, Px.sc_ii, Px.sc_bb, Px.sc_ss, Px.atI0, Px.atI1, Px.atI2, Px.atI3, Px.atI4, Px.atI5, Px.atI6, Px.atI7, Px.kb_NoneType_int, Px.kb_NoneType_bool, Px.kb_NoneType_str, Px.kb_NoneType_list, Px.kb_NoneType_tuple, Px.kb_NoneType_dict, Px.kb_bool_int, Px.kb_bool_bool, Px.kb_bool_str, Px.kb_bool_list, Px.kb_bool_tuple, Px.kb_bool_dict, Px.kb_int_int, Px.kb_int_bool, Px.kb_int_str, Px.kb_int_list, Px.kb_int_tuple, Px.kb_int_dict, Px.kb_str_int, Px.kb_str_bool, Px.kb_str_str, Px.kb_str_list, Px.kb_str_tuple, Px.kb_str_dict, Px.kb_list_int, Px.kb_list_bool, Px.kb_list_str, Px.kb_list_list, Px.kb_list_tuple, Px.kb_list_dict, Px.kb_tuple_int, Px.kb_tuple_bool, Px.kb_tuple_str, Px.kb_tuple_list, Px.kb_tuple_tuple, Px.kb_tuple_dict, Px.kb_dict_int, Px.kb_dict_bool, Px.kb_dict_str, Px.kb_dict_list, Px.kb_dict_tuple, Px.kb_dict_dict, L2.upd_same, Px.updI, L2.ixN, List.set_cons_zero, List.set_cons_succ, List.length_cons, List.length_nil, Nat.reduceAdd, Nat.zero_add, L2.HO.lst.injEq, L2.HO.tup.injEq, L2.upd_upd, L2.V.int.injEq, L2.V.ref.injEq, L2.V.bl.injEq, L2.V.str.injEq, L2.V.ty.injEq, List.cons.injEq, and_true, true_and, and_false, false_and, or_false, false_or, exists_eq_left', exists_eq_left, exists_and_left, exists_const, exists_false, Option.some.injEq, decide_eq_true_eq, List.append_nil, List.cons_append, List.nil_append, Option.isSome_some, Bool.not_true, Bool.not_false, Bool.not_eq_true', Bool.not_eq_true, Bool.false_eq_true, decide_eq_false_iff_not, if_true, if_false, ite_true, ite_false, Int.reduceLE, Int.reduceLT, Int.reduceToNat, Int.cast_ofNat_Int, Bool.true_eq_false, eq_self, ↓reduceIte, reduceCtorEq, Px.aug, Px.ipi, Px.tri, Px.rcatth, Px.rixs, Px.rsls, Px.tm1, Px.glst, Px.nstr, Px.txI, Px.txC, Px.txL, Px.txA, Px.rsgn, Px.txf, Px.tost, Px.tmko, Px.risxd, *, spTake]
  refine fun v H5 v0 v1 hp5 b5 _ => ?_
  have b5' := b4.trans b5
  have z : t.natAbs < 2 ^ 140 := by omega
  refine go_if (fun e => ?_) (fun e => ?_)
  · exact k _ _ (by rw [Int.natAbs_neg]; exact z) hp5 b5'
  · exact k _ _ z hp5 b5'
/-! ### what is asked -/
theorem dp2 {K : PySem.W.Frag} {H : Hp} {c : Addr} {x y : Int} (h : H c = some (.tup [.int x, .int y])) : Dp K H (.ref c) (.tuple [.int x, .int y]) := .tup (.inl (.inl h)) (.cons (.int x) (.cons (.int y) .nil))
theorem eqv2 (x y : Int) : PyData.eqv (.tuple [.int x, .int y]) (.tuple [.int x, .int y]) = true := by simp [PyData.eqv, PyData.eqvAll]
def Md (x : Int) : Prop := x.natAbs < 2 ^ 1000
def spIs (vs : List V) (H : Hp) (Q : VK) (_ : XK) : Prop := ∃ (a : Addr) (t b x y : Int), vs = [.ref a, .int t, .int b] ∧ H a = some (.tup [.int x, .int y]) ∧ (Rt 1000 x y ∧ Md t ∧ Md b ∧ x * b = t * y) ∧ ∀ H', Px.Ext H H' → Q (.bl true) H'
theorem ok_is (B : Bn mg) (F : FunAt K mg "_law_is" s_law_is) (D_law_whole : Def P w K mg base CX0 1 "_law_whole" ["value"] spWhole) (D_law_lowest : Def P w K mg base CX0 1 "_law_lowest" ["p", "q"] spLowest) :
    Def P w K mg base CX0 2 "_law_is" ["told", "top", "bottom"] spIs := by
  refine F.ok sc_law_is (fun _ _ _ _ _ _ us hl => match us, hl with | [_, _, _], _ => rfl) (fun vs H Q E h => by obtain ⟨p, n, i, x, y, rfl, _⟩ := h; rfl) (fun f cdv A outer s H vs Q E hr h => ?_)
  obtain ⟨a, t, b, x, y, rfl, ha, ⟨hxy, ht, hb, e⟩, k⟩ := h
  refine ⟨_, pss_cons (ps_if (PW.pt (pw_or (pt_not (pt_val (pe_callB isi_H rfl B.isinstance (by decide +kernel) (pa_cons (pv 0) (pa_cons (pe_bltn (v := .ty "tuple") rfl B.tuple_ (by decide +kernel) rfl) pa_nil))))) (pw_or1 (pt_cmpR op_ne (pe_callB len_H rfl B.len (by decide +kernel) (pa_cons (pv 0) pa_nil)) pe_int (nomark _))))) (pss_one (ps_ret pe_bl)) (pss_nil)) (
  pss_cons (ps_if (PW.pt (pw_or (pt_not (pt_val (pe_fn D_law_whole hr pass0 (pa_cons (pe_ix ix_H (pv 0) pe_int (fun _ _ => rfl)) pa_nil)))) (pw_or (pt_not (pt_val (pe_fn D_law_whole hr pass0 (pa_cons (pe_ix ix_H (pv 0) pe_int (fun _ _ => rfl)) pa_nil)))) (pw_or1 (pt_cmpR op_lt (pe_ix ix_H (pv 0) pe_int (fun _ _ => rfl)) pe_int (nomark _)))))) (pss_one (ps_ret pe_bl)) (pss_nil)) (
  pss_one (ps_ret (pe_and (pe_cmpR (op_eqD hr.units) (pe_fn D_law_lowest hr pass0 (pa_cons (pe_ix ix_H (pv 0) pe_int (fun _ _ => rfl)) (pa_cons (pe_ix ix_H (pv 0) pe_int (fun _ _ => rfl)) pa_nil))) (pv 0) (nomark _)) (pe_one (pe_cmpR op_eq (pe_op op_mulW (pe_ix ix_H (pv 0) pe_int (fun _ _ => rfl)) (pv 2)) (pe_op op_mulW (pv 1) (pe_ix ix_H (pv 0) pe_int (fun _ _ => rfl))) (nomark _))))))), ?_⟩
  show tSeq _ _ _ [some (.ref a), some (.int t), some (.int b)] H
  refine go_seq ?_
  simp only [decide_true, decide_false, List.map_cons, List.map_nil, Option.map_none, Option.map_some, Option.getD_none, Option.getD_some, Px.dg2, Px.dg1, Px.dg, Px.din, Px.dnotin, Px.dnew, Px.dput, Px.isD_is, Px.dget_i, Px.dget_s, Px.dput_i, Px.dput_s, Px.dOf_d, Px.rtup, Px.rlist, Px.rsl, Px.rsort, Px.rcat, Px.rapp, Px.rrev, Px.sl_ap, Px.nop, Px.part, Px.yes, Px.tyl, Px.isL_l, Px.isT_t, Px.isL_t, Px.isT_l, Px.isD_d, Px.isT_d, Px.inV_ints, Px.flat_ints, Px.flatV_i, Px.wipe_cons, Px.wipe_nil, Px.gtup, Px.gcons, Px.gnil, gt_iff_lt, ge_iff_le, Px.we, Px.wonly, Px.was, Px.cxK, not_true_eq_false, and_self, true_implies, false_implies, implies_true, Px.e0, and_assoc, imp_false, not_false_eq_true, ne_eq, Px.rgcd, Px.rixl, Px.rixt, Px.v0, Px.v1, Px.v2, Px.v3, Px.v4, Px.v5, Px.v6, Px.v7, Px.v8, Px.v9, Px.v10, Px.v11, Px.v12, Px.v13, Px.v14, Px.v15, Px.v16, Px.v17, Px.v18, Px.v19, Px.v20, Px.v21, Px.v22, Px.v23, Px.c0, Px.asg, Px.gnm, Px.ret, Px.retN, Px.drop, Px.nxt, Px.brk, Px.cnt, Px.ifs, Px.op, Px.un, Px.tst, Px.tbl, Px.tand, Px.tor, Px.tnot, Px.andv, Px.orv, Px.notv, Px.tif, Px.tup, Px.lst, Px.nil, Px.cons, Px.cal, Px.calS, Px.cb, Px.par, Px.gsub, Px.bits, Px.bm, Px.bm0, Px.ri, Px.ri0, Px.ru, Px.req, Px.rne, Px.rix, Px.rlen, Px.rin, Px.rsetl, Px.risi, Px.tyH_n, Px.tyH_b, Px.tyH_i, Px.tyH_s, Px.tyH_r, Px.seqH_t, Px.seqH_l, Px.seqH_fl, Px.sc_ii, Px.sc_bb, Px.sc_ss, Px.atI0, Px.atI1, Px.atI2, Px.atI3, Px.atI4, Px.atI5, Px.atI6, Px.atI7, Px.kb_NoneType_int, Px.kb_NoneType_bool, Px.kb_NoneType_str, Px.kb_NoneType_list, Px.kb_NoneType_tuple, Px.kb_NoneType_dict, Px.kb_bool_int, Px.kb_bool_bool, Px.kb_bool_str, Px.kb_bool_list, Px.kb_bool_tuple, Px.kb_bool_dict, Px.kb_int_int, Px.kb_int_bool, Px.kb_int_str, Px.kb_int_list, Px.kb_int_tuple, Px.kb_int_dict, Px.kb_str_int, Px.kb_str_bool, Px.kb_str_str, Px.kb_str_list, Px.kb_str_tuple, Px.kb_str_dict, Px.kb_list_int, Px.kb_list_bool, Px.kb_list_str, Px.kb_list_list, Px.kb_list_tuple, Px.kb_list_dict, Px.kb_tuple_int, Px.kb_tuple_bool, Px.kb_tuple_str, Px.kb_tuple_list, Px.kb_tuple_tuple, Px.kb_tuple_dict, Px.kb_dict_int, Px.kb_dict_bool, Px.kb_dict_str, Px.kb_dict_list, Px.kb_dict_tuple, Px.kb_dict_dict, L2.upd_same, Px.updI, L2.ixN, List.set_cons_zero, List.set_cons_succ, List.length_cons, List.length_nil, Nat.reduceAdd, Nat.zero_add, L2.HO.lst.injEq, L2.HO.tup.injEq, L2.upd_upd, L2.V.int.injEq, L2.V.ref.injEq, L2.V.bl.injEq, L2.V.str.injEq, L2.V.ty.injEq, List.cons.injEq, and_true, true_and, and_false, false_and, or_false, false_or, exists_eq_left', exists_eq_left, exists_and_left, exists_const, exists_false, Option.some.injEq, decide_eq_true_eq, List.append_nil, List.cons_append, List.nil_append, Option.isSome_some, Bool.not_true, Bool.not_false, Bool.not_eq_true', Bool.not_eq_true, Bool.false_eq_true, decide_eq_false_iff_not, if_true, if_false, ite_true, ite_false, Int.reduceLE, Int.reduceLT, Int.reduceToNat, Int.cast_ofNat_Int, Bool.true_eq_false, eq_self, ↓reduceIte, reduceCtorEq, Px.aug, Px.ipi, Px.tri, Px.rcatth, Px.rixs, Px.rsls, Px.tm1, Px.glst, Px.nstr, Px.txI, Px.txC, Px.txL, Px.txA, Px.rsgn, Px.txf, Px.tost, Px.tmko, Px.risxd, *, spWhole]
  refine go_seq ?_
  simp only [decide_true, decide_false, List.map_cons, List.map_nil, Option.map_none, Option.map_some, Option.getD_none, Option.getD_some, Px.dg2, Px.dg1, Px.dg, Px.din, Px.dnotin, Px.dnew, Px.dput, Px.isD_is, Px.dget_i, Px.dget_s, Px.dput_i, Px.dput_s, Px.dOf_d, Px.rtup, Px.rlist, Px.rsl, Px.rsort, Px.rcat, Px.rapp, Px.rrev, Px.sl_ap, Px.nop, Px.part, Px.yes, Px.tyl, Px.isL_l, Px.isT_t, Px.isL_t, Px.isT_l, Px.isD_d, Px.isT_d, Px.inV_ints, Px.flat_ints, Px.flatV_i, Px.wipe_cons, Px.wipe_nil, Px.gtup, Px.gcons, Px.gnil, gt_iff_lt, ge_iff_le, Px.we, Px.wonly, Px.was, Px.cxK, not_true_eq_false, and_self, true_implies, false_implies, implies_true, Px.e0, and_assoc, imp_false, not_false_eq_true, ne_eq, Px.rgcd, Px.rixl, Px.rixt, Px.v0, Px.v1, Px.v2, Px.v3, Px.v4, Px.v5, Px.v6, Px.v7, Px.v8, Px.v9, Px.v10, Px.v11, Px.v12, Px.v13, Px.v14, Px.v15, Px.v16, Px.v17, Px.v18, Px.v19, Px.v20, Px.v21, Px.v22, Px.v23, Px.c0, Px.asg, Px.gnm, Px.ret, Px.retN, Px.drop, Px.nxt, Px.brk, Px.cnt, Px.ifs, Px.op, Px.un, Px.tst, Px.tbl, Px.tand, Px.tor, Px.tnot, Px.andv, Px.orv, Px.notv, Px.tif, Px.tup, Px.lst, Px.nil, Px.cons, Px.cal, Px.calS, Px.cb, Px.par, Px.gsub, Px.bits, Px.bm, Px.bm0, Px.ri, Px.ri0, Px.ru, Px.req, Px.rne, Px.rix, Px.rlen, Px.rin, Px.rsetl, Px.risi, Px.tyH_n, Px.tyH_b, Px.tyH_i, Px.tyH_s, Px.tyH_r, Px.seqH_t, Px.seqH_l, Px.seqH_fl, Px.sc_ii, Px.sc_bb, Px.sc_ss, Px.atI0, Px.atI1, Px.atI2, Px.atI3, Px.atI4, Px.atI5, Px.atI6, Px.atI7, Px.kb_NoneType_int, Px.kb_NoneType_bool, Px.kb_NoneType_str, Px.kb_NoneType_list, Px.kb_NoneType_tuple, Px.kb_NoneType_dict, Px.kb_bool_int, Px.kb_bool_bool, Px.kb_bool_str, Px.kb_bool_list, Px.kb_bool_tuple, Px.kb_bool_dict, Px.kb_int_int, Px.kb_int_bool, Px.kb_int_str, Px.kb_int_list, Px.kb_int_tuple, Px.kb_int_dict, Px.kb_str_int, Px.kb_str_bool, Px.kb_str_str, Px.kb_str_list, Px.kb_str_tuple, Px.kb_str_dict, Px.kb_list_int, Px.kb_list_bool, Px.kb_list_str, Px.kb_list_list, Px.kb_list_tuple, Px.kb_list_dict, Px.kb_tuple_int, Px.kb_tuple_bool, Px.kb_tuple_str, Px.kb_tuple_list, Px.kb_tuple_tuple, Px.kb_tuple_dict, Px.kb_dict_int, Px.kb_dict_bool, Px.kb_dict_str, Px.kb_dict_list, Px.kb_dict_tuple, Px.kb_dict_dict, L2.upd_same, Px.updI, L2.ixN, List.set_cons_zero, List.set_cons_succ, List.length_cons, List.length_nil, Nat.reduceAdd, Nat.zero_add, L2.HO.lst.injEq, L2.HO.tup.injEq, L2.upd_upd, L2.V.int.injEq, L2.V.ref.injEq, L2.V.bl.injEq, L2.V.str.injEq, L2.V.ty.injEq, List.cons.injEq, and_true, true_and, and_false, false_and, or_false, false_or, exists_eq_left', exists_eq_left, exists_and_left, exists_const, exists_false, Option.some.injEq, decide_eq_true_eq, List.append_nil, List.cons_append, List.nil_append, Option.isSome_some, Bool.not_true, Bool.not_false, Bool.not_eq_true', Bool.not_eq_true, Bool.false_eq_true, decide_eq_false_iff_not, if_true, if_false, ite_true, ite_false, Int.reduceLE, Int.reduceLT, Int.reduceToNat, Int.cast_ofNat_Int, Bool.true_eq_false, eq_self, ↓reduceIte, reduceCtorEq, Px.aug, Px.ipi, Px.tri, Px.rcatth, Px.rixs, Px.rsls, Px.tm1, Px.glst, Px.nstr, Px.txI, Px.txC, Px.txL, Px.txA, Px.rsgn, Px.txf, Px.tost, Px.tmko, Px.risxd, *, spWhole]
  rw [if_neg (show ¬ y < 1 from by have := hxy.1; omega)]
  have g1 : gg x y = 1 := by
    unfold gg
    rw [hxy.2.1]
    rfl
  simp only [decide_true, decide_false, List.map_cons, List.map_nil, Option.map_none, Option.map_some, Option.getD_none, Option.getD_some, Px.dg2, Px.dg1, Px.dg, Px.din, Px.dnotin, Px.dnew, Px.dput, Px.isD_is, Px.dget_i, Px.dget_s, Px.dput_i, Px.dput_s, Px.dOf_d, Px.rtup, Px.rlist, Px.rsl, Px.rsort, Px.rcat, Px.rapp, Px.rrev, Px.sl_ap, Px.nop, Px.part, Px.yes, Px.tyl, Px.isL_l, Px.isT_t, Px.isL_t, Px.isT_l, Px.isD_d, Px.isT_d, Px.inV_ints, Px.flat_ints, Px.flatV_i, Px.wipe_cons, Px.wipe_nil, Px.gtup, Px.gcons, Px.gnil, gt_iff_lt, ge_iff_le, Px.we, Px.wonly, Px.was, Px.cxK, not_true_eq_false, and_self, true_implies, false_implies, implies_true, Px.e0, and_assoc, imp_false, not_false_eq_true, ne_eq, Px.rgcd, Px.rixl, Px.rixt, Px.v0, Px.v1, Px.v2, Px.v3, Px.v4, Px.v5, Px.v6, Px.v7, Px.v8, Px.v9, Px.v10, Px.v11, Px.v12, Px.v13, Px.v14, Px.v15, Px.v16, Px.v17, Px.v18, Px.v19, Px.v20, Px.v21, Px.v22, Px.v23, Px.c0, Px.asg, Px.gnm, Px.ret, Px.retN, Px.drop, Px.nxt, Px.brk, Px.cnt, Px.ifs, Px.op, Px.un, Px.tst, Px.tbl, Px.tand, Px.tor, Px.tnot, Px.andv, Px.orv, Px.notv, Px.tif, Px.tup, Px.lst, Px.nil, Px.cons, Px.cal, Px.calS, Px.cb, Px.par, Px.gsub, Px.bits, Px.bm, Px.bm0, Px.ri, Px.ri0, Px.ru, Px.req, Px.rne, Px.rix, Px.rlen, Px.rin, Px.rsetl, Px.risi, Px.tyH_n, Px.tyH_b, Px.tyH_i, Px.tyH_s, Px.tyH_r, Px.seqH_t, Px.seqH_l, Px.seqH_fl, Px.sc_ii, Px.sc_bb, Px.sc_ss, Px.atI0, Px.atI1, Px.atI2, Px.atI3, Px.atI4, Px.atI5, Px.atI6, Px.atI7, Px.kb_NoneType_int, Px.kb_NoneType_bool, Px.kb_NoneType_str, Px.kb_NoneType_list, Px.kb_NoneType_tuple, Px.kb_NoneType_dict, Px.kb_bool_int, Px.kb_bool_bool, Px.kb_bool_str, Px.kb_bool_list, Px.kb_bool_tuple, Px.kb_bool_dict, Px.kb_int_int, Px.kb_int_bool, Px.kb_int_str, Px.kb_int_list, Px.kb_int_tuple, Px.kb_int_dict, Px.kb_str_int, Px.kb_str_bool, Px.kb_str_str, Px.kb_str_list, Px.kb_str_tuple, Px.kb_str_dict, Px.kb_list_int, Px.kb_list_bool, Px.kb_list_str, Px.kb_list_list, Px.kb_list_tuple, Px.kb_list_dict, Px.kb_tuple_int, Px.kb_tuple_bool, Px.kb_tuple_str, Px.kb_tuple_list, Px.kb_tuple_tuple, Px.kb_tuple_dict, Px.kb_dict_int, Px.kb_dict_bool, Px.kb_dict_str, Px.kb_dict_list, Px.kb_dict_tuple, Px.kb_dict_dict, L2.upd_same, Px.updI, L2.ixN, List.set_cons_zero, List.set_cons_succ, List.length_cons, List.length_nil, Nat.reduceAdd, Nat.zero_add, L2.HO.lst.injEq, L2.HO.tup.injEq, L2.upd_upd, L2.V.int.injEq, L2.V.ref.injEq, L2.V.bl.injEq, L2.V.str.injEq, L2.V.ty.injEq, List.cons.injEq, and_true, true_and, and_false, false_and, or_false, false_or, exists_eq_left', exists_eq_left, exists_and_left, exists_const, exists_false, Option.some.injEq, decide_eq_true_eq, List.append_nil, List.cons_append, List.nil_append, Option.isSome_some, Bool.not_true, Bool.not_false, Bool.not_eq_true', Bool.not_eq_true, Bool.false_eq_true, decide_eq_false_iff_not, if_true, if_false, ite_true, ite_false, Int.reduceLE, Int.reduceLT, Int.reduceToNat, Int.cast_ofNat_Int, Bool.true_eq_false, eq_self, ↓reduceIte, reduceCtorEq, Px.aug, Px.ipi, Px.tri, Px.rcatth, Px.rixs, Px.rsls, Px.tm1, Px.glst, Px.nstr, Px.txI, Px.txC, Px.txL, Px.txA, Px.rsgn, Px.txf, Px.tost, Px.tmko, Px.risxd, *, spLowest]
  refine ⟨hxy.1, lt_up hxy.2.2.2 (by decide), fun c hc => ?_⟩
  have hca : upd H c (.tup [.int x, .int y]) a = some (.tup [.int x, .int y]) := by simp only [decide_true, decide_false, List.map_cons, List.map_nil, Option.map_none, Option.map_some, Option.getD_none, Option.getD_some, Px.dg2, Px.dg1, Px.dg, Px.din, Px.dnotin, Px.dnew, Px.dput, Px.isD_is, Px.dget_i, Px.dget_s, Px.dput_i, Px.dput_s, Px.dOf_d, Px.rtup, Px.rlist, Px.rsl, Px.rsort, Px.rcat, Px.rapp, Px.rrev, Px.sl_ap, Px.nop, Px.part, Px.yes, Px.tyl, Px.isL_l, Px.isT_t, Px.isL_t, Px.isT_l, Px.isD_d, Px.isT_d, Px.inV_ints, Px.flat_ints, Px.flatV_i, Px.wipe_cons, Px.wipe_nil, Px.gtup, Px.gcons, Px.gnil, gt_iff_lt, ge_iff_le, Px.we, Px.wonly, Px.was, Px.cxK, not_true_eq_false, and_self, true_implies, false_implies, implies_true, Px.e0, and_assoc, imp_false, not_false_eq_true, ne_eq, Px.rgcd, Px.rixl, Px.rixt, Px.v0, Px.v1, Px.v2, Px.v3, Px.v4, Px.v5, Px.v6, Px.v7, Px.v8, Px.v9, Px.v10, Px.v11, Px.v12, Px.v13, Px.v14, Px.v15, Px.v16, Px.v17, Px.v18, Px.v19, Px.v20, Px.v21, Px.v22, Px.v23, Px.c0, Px.asg, Px.gnm, Px.ret, Px.retN, Px.drop, Px.nxt, Px.brk, Px.cnt, Px.ifs, Px.op, Px.un, Px.tst, Px.tbl, Px.tand, Px.tor, Px.tnot, Px.andv, Px.orv, Px.notv, Px.tif, Px.tup, Px.lst, Px.nil, Px.cons, Px.cal, Px.calS, Px.cb, Px.par, Px.gsub, Px.bits, Px.bm, Px.bm0, Px.ri, Px.ri0, Px.ru, Px.req, Px.rne, Px.rix, Px.rlen, Px.rin, Px.rsetl, Px.risi, Px.tyH_n, Px.tyH_b, Px.tyH_i, Px.tyH_s, Px.tyH_r, Px.seqH_t, Px.seqH_l, Px.seqH_fl, Px.sc_ii, Px.sc_bb, Px.sc_ss, Px.atI0, Px.atI1, Px.atI2, Px.atI3, Px.atI4, Px.atI5, Px.atI6, Px.atI7, Px.kb_NoneType_int, Px.kb_NoneType_bool, Px.kb_NoneType_str, Px.kb_NoneType_list, Px.kb_NoneType_tuple, Px.kb_NoneType_dict, Px.kb_bool_int, Px.kb_bool_bool, Px.kb_bool_str, Px.kb_bool_list, Px.kb_bool_tuple, Px.kb_bool_dict, Px.kb_int_int, Px.kb_int_bool, Px.kb_int_str, Px.kb_int_list, Px.kb_int_tuple, Px.kb_int_dict, Px.kb_str_int, Px.kb_str_bool, Px.kb_str_str, Px.kb_str_list, Px.kb_str_tuple, Px.kb_str_dict, Px.kb_list_int, Px.kb_list_bool, Px.kb_list_str, Px.kb_list_list, Px.kb_list_tuple, Px.kb_list_dict, Px.kb_tuple_int, Px.kb_tuple_bool, Px.kb_tuple_str, Px.kb_tuple_list, Px.kb_tuple_tuple, Px.kb_tuple_dict, Px.kb_dict_int, Px.kb_dict_bool, Px.kb_dict_str, Px.kb_dict_list, Px.kb_dict_tuple, Px.kb_dict_dict, L2.upd_same, Px.updI, L2.ixN, List.set_cons_zero, List.set_cons_succ, List.length_cons, List.length_nil, Nat.reduceAdd, Nat.zero_add, L2.HO.lst.injEq, L2.HO.tup.injEq, L2.upd_upd, L2.V.int.injEq, L2.V.ref.injEq, L2.V.bl.injEq, L2.V.str.injEq, L2.V.ty.injEq, List.cons.injEq, and_true, true_and, and_false, false_and, or_false, false_or, exists_eq_left', exists_eq_left, exists_and_left, exists_const, exists_false, Option.some.injEq, decide_eq_true_eq, List.append_nil, List.cons_append, List.nil_append, Option.isSome_some, Bool.not_true, Bool.not_false, Bool.not_eq_true', Bool.not_eq_true, Bool.false_eq_true, decide_eq_false_iff_not, if_true, if_false, ite_true, ite_false, Int.reduceLE, Int.reduceLT, Int.reduceToNat, Int.cast_ofNat_Int, Bool.true_eq_false, eq_self, ↓reduceIte, reduceCtorEq, Px.aug, Px.ipi, Px.tri, Px.rcatth, Px.rixs, Px.rsls, Px.tm1, Px.glst, Px.nstr, Px.txI, Px.txC, Px.txL, Px.txA, Px.rsgn, Px.txf, Px.tost, Px.tmko, Px.risxd, *]
  have q := k _ ((Px.Ext.rfl' H).new (o := .tup [.int x, .int y]) hc)
  rw [Int.ediv_one, Int.ediv_one]
  refine ⟨_, _, dp2 upd_same, dp2 hca, rfl, rfl, ?_⟩
  rw [eqv2]
  simp only [decide_true, decide_false, List.map_cons, List.map_nil, Option.map_none, Option.map_some, Option.getD_none, Option.getD_some, Px.dg2, Px.dg1, Px.dg, Px.din, Px.dnotin, Px.dnew, Px.dput, Px.isD_is, Px.dget_i, Px.dget_s, Px.dput_i, Px.dput_s, Px.dOf_d, Px.rtup, Px.rlist, Px.rsl, Px.rsort, Px.rcat, Px.rapp, Px.rrev, Px.sl_ap, Px.nop, Px.part, Px.yes, Px.tyl, Px.isL_l, Px.isT_t, Px.isL_t, Px.isT_l, Px.isD_d, Px.isT_d, Px.inV_ints, Px.flat_ints, Px.flatV_i, Px.wipe_cons, Px.wipe_nil, Px.gtup, Px.gcons, Px.gnil, gt_iff_lt, ge_iff_le, Px.we, Px.wonly, Px.was, Px.cxK, not_true_eq_false, and_self, true_implies, false_implies, implies_true, Px.e0, and_assoc, imp_false, not_false_eq_true, ne_eq, Px.rgcd, Px.rixl, Px.rixt, Px.v0, Px.v1, Px.v2, Px.v3, Px.v4, Px.v5, Px.v6, Px.v7, Px.v8, Px.v9, Px.v10, Px.v11, Px.v12, Px.v13, Px.v14, Px.v15, Px.v16, Px.v17, Px.v18, Px.v19, Px.v20, Px.v21, Px.v22, Px.v23, Px.c0, Px.asg, Px.gnm, Px.ret, Px.retN, Px.drop, Px.nxt, Px.brk, Px.cnt, Px.ifs, Px.op, Px.un, Px.tst, Px.tbl, Px.tand, Px.tor, Px.tnot, Px.andv, Px.orv, Px.notv, Px.tif, Px.tup, Px.lst, Px.nil, Px.cons, Px.cal, Px.calS, Px.cb, Px.par, Px.gsub, Px.bits, Px.bm, Px.bm0, Px.ri, Px.ri0, Px.ru, Px.req, Px.rne, Px.rix, Px.rlen, Px.rin, Px.rsetl, Px.risi, Px.tyH_n, Px.tyH_b, Px.tyH_i, Px.tyH_s, Px.tyH_r, Px.seqH_t, Px.seqH_l, Px.seqH_fl, Px.sc_ii, Px.sc_bb, Px.sc_ss, Px.atI0, Px.atI1, Px.atI2, Px.atI3, Px.atI4, Px.atI5, Px.atI6, Px.atI7, Px.kb_NoneType_int, Px.kb_NoneType_bool, Px.kb_NoneType_str, Px.kb_NoneType_list, Px.kb_NoneType_tuple, Px.kb_NoneType_dict, Px.kb_bool_int, Px.kb_bool_bool, Px.kb_bool_str, Px.kb_bool_list, Px.kb_bool_tuple, Px.kb_bool_dict, Px.kb_int_int, Px.kb_int_bool, Px.kb_int_str, Px.kb_int_list, Px.kb_int_tuple, Px.kb_int_dict, Px.kb_str_int, Px.kb_str_bool, Px.kb_str_str, Px.kb_str_list, Px.kb_str_tuple, Px.kb_str_dict, Px.kb_list_int, Px.kb_list_bool, Px.kb_list_str, Px.kb_list_list, Px.kb_list_tuple, Px.kb_list_dict, Px.kb_tuple_int, Px.kb_tuple_bool, Px.kb_tuple_str, Px.kb_tuple_list, Px.kb_tuple_tuple, Px.kb_tuple_dict, Px.kb_dict_int, Px.kb_dict_bool, Px.kb_dict_str, Px.kb_dict_list, Px.kb_dict_tuple, Px.kb_dict_dict, L2.upd_same, Px.updI, L2.ixN, List.set_cons_zero, List.set_cons_succ, List.length_cons, List.length_nil, Nat.reduceAdd, Nat.zero_add, L2.HO.lst.injEq, L2.HO.tup.injEq, L2.upd_upd, L2.V.int.injEq, L2.V.ref.injEq, L2.V.bl.injEq, L2.V.str.injEq, L2.V.ty.injEq, List.cons.injEq, and_true, true_and, and_false, false_and, or_false, false_or, exists_eq_left', exists_eq_left, exists_and_left, exists_const, exists_false, Option.some.injEq, decide_eq_true_eq, List.append_nil, List.cons_append, List.nil_append, Option.isSome_some, Bool.not_true, Bool.not_false, Bool.not_eq_true', Bool.not_eq_true, Bool.false_eq_true, decide_eq_false_iff_not, if_true, if_false, ite_true, ite_false, Int.reduceLE, Int.reduceLT, Int.reduceToNat, Int.cast_ofNat_Int, Bool.true_eq_false, eq_self, ↓reduceIte, reduceCtorEq, Px.aug, Px.ipi, Px.tri, Px.rcatth, Px.rixs, Px.rsls, Px.tm1, Px.glst, Px.nstr, Px.txI, Px.txC, Px.txL, Px.txA, Px.rsgn, Px.txf, Px.tost, Px.tmko, Px.risxd, *]
  exact ⟨wide_mul hxy.2.2.1 hb (by decide) (by decide) (by decide), wide_mul ht hxy.2.2.2 (by decide) (by decide) (by decide)⟩
end
end K96

namespace K96
open PySem PySem.Spec PyProof.Rows L2 Px
/-! ### the law's reader -/
theorem nat_or {x y : Nat} : ((x : Int) = (y : Int)) = (x = y) := propext Int.ofNat_inj
section
variable {P : Program} {w : World} {K : PySem.W.Frag} {mg : Str → Option Value} {base : Heap} {CB CT : Addr}
def spStp (vs : List V) (H : Hp) (Q : VK) (_ : XK) : Prop := ∃ (s c : Nat), vs = [.int (s : Int), .str (Tx [c])] ∧ Q (.int ((stp s c : Nat) : Int)) H
theorem ok_stp (B : Bn mg) (F : FunAt K mg "_law_step" s_law_step) : Def P w K mg base CX0 1 "_law_step" ["state", "sign"] spStp := by
  refine F.ok sc_law_step (fun _ _ _ _ _ _ us hl => match us, hl with | [_, _], _ => rfl) (fun vs H Q E h => by obtain ⟨_, _, rfl, _⟩ := h; rfl) (fun f cdv A outer s H vs Q E hr h => ?_)
  obtain ⟨st, c, rfl, k⟩ := h
  refine ⟨_, pss_cons (ps_if (PW.pt (pw_and (pt_cmpR op_eq (pv 0) pe_int (nomark _)) (pw_and1 (pt_cmpR op_eq (pv 1) pe_str (nomark _))))) (pss_one (ps_ret pe_int)) (pss_nil)) (
  pss_cons (ps_if (PW.pt (pw_and (pt_cmpR op_eq (pv 0) pe_int (nomark _)) (pw_and1 (pt_cmpR op_eq (pv 1) pe_str (nomark _))))) (pss_one (ps_ret pe_int)) (pss_nil)) (
  pss_cons (ps_if (PW.pt (pw_and (PW.pt (pw_or (pt_cmpR op_eq (pv 0) pe_int (nomark _)) (pw_or1 (pt_cmpR op_eq (pv 0) pe_int (nomark _))))) (pw_and1 (pt_cmpR in_sg (pv 1) pe_str rfl)))) (pss_one (ps_ret pe_int)) (pss_nil)) (
  pss_cons (ps_if (PW.pt (pw_and (pt_cmpR op_eq (pv 0) pe_int (nomark _)) (pw_and1 (pt_cmpR in_sg (pv 1) pe_str rfl)))) (pss_one (ps_ret pe_int)) (pss_nil)) (
  pss_cons (ps_if (PW.pt (pw_and (PW.pt (pw_or (pt_cmpR op_eq (pv 0) pe_int (nomark _)) (pw_or1 (pt_cmpR op_eq (pv 0) pe_int (nomark _))))) (pw_and1 (pt_cmpR op_eq (pv 1) pe_str (nomark _))))) (pss_one (ps_ret pe_int)) (pss_nil)) (
  pss_cons (ps_if (PW.pt (pw_and (pt_cmpR op_eq (pv 0) pe_int (nomark _)) (pw_and1 (pt_cmpR in_sg (pv 1) pe_str rfl)))) (pss_one (ps_ret pe_int)) (pss_nil)) (
  pss_cons (ps_if (PW.pt (pw_and (pt_cmpR op_eq (pv 0) pe_int (nomark _)) (pw_and1 (pt_cmpR in_sg (pv 1) pe_str rfl)))) (pss_one (ps_ret pe_int)) (pss_nil)) (
  pss_one (ps_ret pe_int)))))))), ?_⟩
  show tSeq _ _ _ [some (.int (st : Int)), some (.str (Tx [c]))] H
  refine go_seq ?_
  simp only [decide_true, decide_false, List.map_cons, List.map_nil, Option.map_none, Option.map_some, Option.getD_none, Option.getD_some, Px.dg2, Px.dg1, Px.dg, Px.din, Px.dnotin, Px.dnew, Px.dput, Px.isD_is, Px.dget_i, Px.dget_s, Px.dput_i, Px.dput_s, Px.dOf_d, Px.rtup, Px.rlist, Px.rsl, Px.rsort, Px.rcat, Px.rapp, Px.rrev, Px.sl_ap, Px.nop, Px.part, Px.yes, Px.tyl, Px.isL_l, Px.isT_t, Px.isL_t, Px.isT_l, Px.isD_d, Px.isT_d, Px.inV_ints, Px.flat_ints, Px.flatV_i, Px.wipe_cons, Px.wipe_nil, Px.gtup, Px.gcons, Px.gnil, gt_iff_lt, ge_iff_le, Px.we, Px.wonly, Px.was, Px.cxK, not_true_eq_false, and_self, true_implies, false_implies, implies_true, Px.e0, and_assoc, imp_false, not_false_eq_true, ne_eq, Px.rgcd, Px.rixl, Px.rixt, Px.v0, Px.v1, Px.v2, Px.v3, Px.v4, Px.v5, Px.v6, Px.v7, Px.v8, Px.v9, Px.v10, Px.v11, Px.v12, Px.v13, Px.v14, Px.v15, Px.v16, Px.v17, Px.v18, Px.v19, Px.v20, Px.v21, Px.v22, Px.v23, Px.c0, Px.asg, Px.gnm, Px.ret, Px.retN, Px.drop, Px.nxt, Px.brk, Px.cnt, Px.ifs, Px.op, Px.un, Px.tst, Px.tbl, Px.tand, Px.tor, Px.tnot, Px.andv, Px.orv, Px.notv, Px.tif, Px.tup, Px.lst, Px.nil, Px.cons, Px.cal, Px.calS, Px.cb, Px.par, Px.gsub, Px.bits, Px.bm, Px.bm0, Px.ri, Px.ri0, Px.ru, Px.req, Px.rne, Px.rix, Px.rlen, Px.rin, Px.rsetl, Px.risi, Px.tyH_n, Px.tyH_b, Px.tyH_i, Px.tyH_s, Px.tyH_r, Px.seqH_t, Px.seqH_l, Px.seqH_fl, Px.sc_ii, Px.sc_bb, Px.sc_ss, Px.atI0, Px.atI1, Px.atI2, Px.atI3, Px.atI4, Px.atI5, Px.atI6, Px.atI7, Px.kb_NoneType_int, Px.kb_NoneType_bool, Px.kb_NoneType_str, Px.kb_NoneType_list, Px.kb_NoneType_tuple, Px.kb_NoneType_dict, Px.kb_bool_int, Px.kb_bool_bool, Px.kb_bool_str, Px.kb_bool_list, Px.kb_bool_tuple, Px.kb_bool_dict, Px.kb_int_int, Px.kb_int_bool, Px.kb_int_str, Px.kb_int_list, Px.kb_int_tuple, Px.kb_int_dict, Px.kb_str_int, Px.kb_str_bool, Px.kb_str_str, Px.kb_str_list, Px.kb_str_tuple, Px.kb_str_dict, Px.kb_list_int, Px.kb_list_bool, Px.kb_list_str, Px.kb_list_list, Px.kb_list_tuple, Px.kb_list_dict, Px.kb_tuple_int, Px.kb_tuple_bool, Px.kb_tuple_str, Px.kb_tuple_list, Px.kb_tuple_tuple, Px.kb_tuple_dict, Px.kb_dict_int, Px.kb_dict_bool, Px.kb_dict_str, Px.kb_dict_list, Px.kb_dict_tuple, Px.kb_dict_dict, L2.upd_same, Px.updI, L2.ixN, List.set_cons_zero, List.set_cons_succ, List.length_cons, List.length_nil, Nat.reduceAdd, Nat.zero_add, L2.HO.lst.injEq, L2.HO.tup.injEq, L2.upd_upd, L2.V.int.injEq, L2.V.ref.injEq, L2.V.bl.injEq, L2.V.str.injEq, L2.V.ty.injEq, List.cons.injEq, and_true, true_and, and_false, false_and, or_false, false_or, exists_eq_left', exists_eq_left, exists_and_left, exists_const, exists_false, Option.some.injEq, decide_eq_true_eq, List.append_nil, List.cons_append, List.nil_append, Option.isSome_some, Bool.not_true, Bool.not_false, Bool.not_eq_true', Bool.not_eq_true, Bool.false_eq_true, decide_eq_false_iff_not, if_true, if_false, ite_true, ite_false, Int.reduceLE, Int.reduceLT, Int.reduceToNat, Int.cast_ofNat_Int, Bool.true_eq_false, eq_self, ↓reduceIte, reduceCtorEq, Px.aug, Px.ipi, Px.tri, Px.rcatth, Px.rixs, Px.rsls, Px.tm1, Px.glst, Px.nstr, Px.txI, Px.txC, Px.txL, Px.txA, Px.rsgn, Px.txf, Px.tost, Px.tmko, Px.risxd, *, l_m, l_0, l_1, l_d, l_s, in_d, in_1, Px.seq]
  have e0 : ((st : Int) = 0) = (st = 0) := propext (by omega)
  have e1 : ((st : Int) = 1) = (st = 1) := propext (by omega)
  have e2 : ((st : Int) = 2) = (st = 2) := propext (by omega)
  have e3 : ((st : Int) = 3) = (st = 3) := propext (by omega)
  have e4 : ((st : Int) = 4) = (st = 4) := propext (by omega)
  have e5 : ((st : Int) = 5) = (st = 5) := propext (by omega)
  simp only [e0, e1, e2, e3, e4, e5]
  clear e0 e1 e2 e3 e4 e5
  by_cases h0 : st = 0
  · subst h0
    rw [stp0] at k
    simp only [reduceCtorEq, if_true, if_false]
    by_cases a1 : c = 45
    · simp_all
    by_cases a2 : c = 48
    · simp_all
    by_cases a3 : 49 ≤ c ∧ c ≤ 57
    · simp_all
    · simp_all
      intro u v
      omega
  by_cases h1 : st = 1
  · subst h1
    rw [stp1] at k
    by_cases a3 : 49 ≤ c ∧ c ≤ 57
    · simp_all
    · simp_all
      intro u v
      omega
  by_cases h2 : st = 2
  · subst h2
    rw [stp2] at k
    by_cases a3 : c = 47
    · simp_all
    · simp_all
  by_cases h3 : st = 3
  · subst h3
    rw [stp3] at k
    by_cases a1 : dg c = true
    · simp_all
    by_cases a3 : c = 47
    · simp_all
    · simp_all
  by_cases h4 : st = 4
  · subst h4
    rw [stp4] at k
    by_cases a3 : 49 ≤ c ∧ c ≤ 57
    · simp_all
    · simp_all
      intro u v
      omega
  by_cases h5 : st = 5
  · subst h5
    rw [stp5] at k
    by_cases a1 : dg c = true
    · simp_all
    · simp_all
  have e : stp st c = 6 := by
    unfold stp
    simp only [h0, h1, h2, h3, h4, h5, false_and, or_self, if_false]
  rw [e] at k
  simp only [h0, h1, h2, h3, h4, h5, if_false]
  exact k
theorem find_d {c : Nat} (h : dg c = true) : Txt.find (Tx [48, 49, 50, 51, 52, 53, 54, 55, 56, 57]) (Tx [c]) = ((c - 48 : Nat) : Int) := by
  have hc := dg_iff.mp h
  have : c = 48 ∨ c = 49 ∨ c = 50 ∨ c = 51 ∨ c = 52 ∨ c = 53 ∨ c = 54 ∨ c = 55 ∨ c = 56 ∨ c = 57 := by omega
  rcases this with rfl | rfl | rfl | rfl | rfl | rfl | rfl | rfl | rfl | rfl <;> decide +kernel
/-- what the reader tells: the state, the numbers -/
def spRead (vs : List V) (H : Hp) (Q : VK) (_ : XK) : Prop := ∃ a : List Nat, vs = [.str (Tx a)] ∧ a.length ≤ 600 ∧ ∀ c H', Px.Ext H H' → H' c = some (.tup [.int (((rdl (0, 0, 0) a).1 : Nat) : Int), .int (if a.head? = some 45 then -(((rdl (0, 0, 0) a).2.1 : Nat) : Int) else (((rdl (0, 0, 0) a).2.1 : Nat) : Int)), .int (((rdl (0, 0, 0) a).2.2 : Nat) : Int)]) → Q (.ref c) H'
def IRe (a : List Nat) (H : Hp) (i : Nat) (σ' : L2.St) (H' : Hp) : Prop := (∃ v, σ' = [some (.str (Tx a)), some (.int (((rdl (0, 0, 0) (a.take i)).1 : Nat) : Int)), some (.int (((rdl (0, 0, 0) (a.take i)).2.1 : Nat) : Int)), some (.int (((rdl (0, 0, 0) (a.take i)).2.2 : Nat) : Int)), v]) ∧ H' = H ∧ (rdl (0, 0, 0) (a.take i)).2.1 < 10 ^ i ∧ (rdl (0, 0, 0) (a.take i)).2.2 < 10 ^ i
theorem stp_3 {s c : Nat} (h : stp s c = 3) : dg c = true := by
  unfold stp at h
  refine dg_iff.mpr ?_
  split at h <;> (try split at h) <;> (try split at h) <;> (try split at h) <;> (try split at h) <;> (try split at h) <;> (try split at h) <;> (try (first | omega | (rename_i q; exact dg_iff.mp q.2) | cases h))
theorem stp_5 {s c : Nat} (h : stp s c = 5) : dg c = true := by
  unfold stp at h
  refine dg_iff.mpr ?_
  split at h <;> (try split at h) <;> (try split at h) <;> (try split at h) <;> (try split at h) <;> (try split at h) <;> (try split at h) <;> (try (first | omega | (rename_i q; exact dg_iff.mp q.2) | cases h))
theorem ok_read (B : Bn mg) (F : FunAt K mg "_law_read" s_law_read) (D_law_step : Def P w K mg base CX0 1 "_law_step" ["state", "sign"] spStp) : Def P w K mg base CX0 2 "_law_read" ["text"] spRead := by
  refine F.ok sc_law_read (fun _ _ _ _ _ _ us hl => match us, hl with | [_], _ => rfl) (fun vs H Q E h => by obtain ⟨_, rfl, _⟩ := h; rfl) (fun f cdv A outer s H vs Q E hr h => ?_)
  obtain ⟨a, rfl, hl, k⟩ := h
  refine ⟨_, pss_cons (ps_set (i := 1) sc_law_read.nd rfl (Or.inl rfl) pe_int) (
  pss_cons (ps_set (i := 2) sc_law_read.nd rfl (Or.inl rfl) pe_int) (
  pss_cons (ps_set (i := 3) sc_law_read.nd rfl (Or.inl rfl) pe_int) (
  pss_cons (ps_for PassesOwn.never rfl (pi_str (pv 0)) (pg_name (i := 4) sc_law_read.nd rfl (Or.inl rfl)) (
  pss_cons (ps_set (i := 1) sc_law_read.nd rfl (Or.inl rfl) (pe_fn D_law_step hr pass0 (pa_cons (pv 1) (pa_cons (pv 4) pa_nil)))) (
  pss_cons (ps_if (pt_cmpR op_eq (pv 1) pe_int (nomark _)) (pss_one (ps_set (i := 2) sc_law_read.nd rfl (Or.inl rfl) (pe_op op_add (pe_op op_mulW pe_int (pv 2)) (pe_m1 PySem.F.slot_str_find PySem.F.type_str_find mt_find pe_str (pv 4))))) (pss_nil)) (
  pss_one (ps_if (pt_cmpR op_eq (pv 1) pe_int (nomark _)) (pss_one (ps_set (i := 3) sc_law_read.nd rfl (Or.inl rfl) (pe_op op_add (pe_op op_mulW pe_int (pv 3)) (pe_m1 PySem.F.slot_str_find PySem.F.type_str_find mt_find pe_str (pv 4))))) (pss_nil)))))) (
  pss_cons (ps_if (pt_cmpR op_eq (pe_slice sl_str (pv 0) po_none (po_some pe_int)) pe_str (nomark _)) (pss_one (ps_set (i := 2) sc_law_read.nd rfl (Or.inl rfl) (pe_un un_neg (pv 2)))) (pss_nil)) (
  pss_one (ps_ret (pe_tup (pa_cons (pv 1) (pa_cons (pv 2) (pa_cons (pv 3) pa_nil)))))))))), ?_⟩
  show tSeq _ _ _ [some (.str (Tx a)), none, none, none, none] H
  refine go_seq ?_
  simp only [decide_true, decide_false, List.map_cons, List.map_nil, Option.map_none, Option.map_some, Option.getD_none, Option.getD_some, Px.dg2, Px.dg1, Px.dg, Px.din, Px.dnotin, Px.dnew, Px.dput, Px.isD_is, Px.dget_i, Px.dget_s, Px.dput_i, Px.dput_s, Px.dOf_d, Px.rtup, Px.rlist, Px.rsl, Px.rsort, Px.rcat, Px.rapp, Px.rrev, Px.sl_ap, Px.nop, Px.part, Px.yes, Px.tyl, Px.isL_l, Px.isT_t, Px.isL_t, Px.isT_l, Px.isD_d, Px.isT_d, Px.inV_ints, Px.flat_ints, Px.flatV_i, Px.wipe_cons, Px.wipe_nil, Px.gtup, Px.gcons, Px.gnil, gt_iff_lt, ge_iff_le, Px.we, Px.wonly, Px.was, Px.cxK, not_true_eq_false, and_self, true_implies, false_implies, implies_true, Px.e0, and_assoc, imp_false, not_false_eq_true, ne_eq, Px.rgcd, Px.rixl, Px.rixt, Px.v0, Px.v1, Px.v2, Px.v3, Px.v4, Px.v5, Px.v6, Px.v7, Px.v8, Px.v9, Px.v10, Px.v11, Px.v12, Px.v13, Px.v14, Px.v15, Px.v16, Px.v17, Px.v18, Px.v19, Px.v20, Px.v21, Px.v22, Px.v23, Px.c0, Px.asg, Px.gnm, Px.ret, Px.retN, Px.drop, Px.nxt, Px.brk, Px.cnt, Px.ifs, Px.op, Px.un, Px.tst, Px.tbl, Px.tand, Px.tor, Px.tnot, Px.andv, Px.orv, Px.notv, Px.tif, Px.tup, Px.lst, Px.nil, Px.cons, Px.cal, Px.calS, Px.cb, Px.par, Px.gsub, Px.bits, Px.bm, Px.bm0, Px.ri, Px.ri0, Px.ru, Px.req, Px.rne, Px.rix, Px.rlen, Px.rin, Px.rsetl, Px.risi, Px.tyH_n, Px.tyH_b, Px.tyH_i, Px.tyH_s, Px.tyH_r, Px.seqH_t, Px.seqH_l, Px.seqH_fl, Px.sc_ii, Px.sc_bb, Px.sc_ss, Px.atI0, Px.atI1, Px.atI2, Px.atI3, Px.atI4, Px.atI5, Px.atI6, Px.atI7, Px.kb_NoneType_int, Px.kb_NoneType_bool, Px.kb_NoneType_str, Px.kb_NoneType_list, Px.kb_NoneType_tuple, Px.kb_NoneType_dict, Px.kb_bool_int, Px.kb_bool_bool, Px.kb_bool_str, Px.kb_bool_list, Px.kb_bool_tuple, Px.kb_bool_dict, Px.kb_int_int, Px.kb_int_bool, Px.kb_int_str, Px.kb_int_list, Px.kb_int_tuple, Px.kb_int_dict, Px.kb_str_int, Px.kb_str_bool, Px.kb_str_str, Px.kb_str_list, Px.kb_str_tuple, Px.kb_str_dict, Px.kb_list_int, Px.kb_list_bool, Px.kb_list_str, Px.kb_list_list, Px.kb_list_tuple, Px.kb_list_dict, Px.kb_tuple_int, Px.kb_tuple_bool, Px.kb_tuple_str, Px.kb_tuple_list, Px.kb_tuple_tuple, Px.kb_tuple_dict, Px.kb_dict_int, Px.kb_dict_bool, Px.kb_dict_str, Px.kb_dict_list, Px.kb_dict_tuple, Px.kb_dict_dict, L2.upd_same, Px.updI, L2.ixN, List.set_cons_zero, List.set_cons_succ, List.length_cons, List.length_nil, Nat.reduceAdd, Nat.zero_add, L2.HO.lst.injEq, L2.HO.tup.injEq, L2.upd_upd, L2.V.int.injEq, L2.V.ref.injEq, L2.V.bl.injEq, L2.V.str.injEq, L2.V.ty.injEq, List.cons.injEq, and_true, true_and, and_false, false_and, or_false, false_or, exists_eq_left', exists_eq_left, exists_and_left, exists_const, exists_false, Option.some.injEq, decide_eq_true_eq, List.append_nil, List.cons_append, List.nil_append, Option.isSome_some, Bool.not_true, Bool.not_false, Bool.not_eq_true', Bool.not_eq_true, Bool.false_eq_true, decide_eq_false_iff_not, if_true, if_false, ite_true, ite_false, Int.reduceLE, Int.reduceLT, Int.reduceToNat, Int.cast_ofNat_Int, Bool.true_eq_false, eq_self, ↓reduceIte, reduceCtorEq, Px.aug, Px.ipi, Px.tri, Px.rcatth, Px.rixs, Px.rsls, Px.tm1, Px.glst, Px.nstr, Px.txI, Px.txC, Px.txL, Px.txA, Px.rsgn, Px.txf, Px.tost, Px.tmko, Px.risxd, *]
  refine go_seq ?_
  simp only [decide_true, decide_false, List.map_cons, List.map_nil, Option.map_none, Option.map_some, Option.getD_none, Option.getD_some, Px.dg2, Px.dg1, Px.dg, Px.din, Px.dnotin, Px.dnew, Px.dput, Px.isD_is, Px.dget_i, Px.dget_s, Px.dput_i, Px.dput_s, Px.dOf_d, Px.rtup, Px.rlist, Px.rsl, Px.rsort, Px.rcat, Px.rapp, Px.rrev, Px.sl_ap, Px.nop, Px.part, Px.yes, Px.tyl, Px.isL_l, Px.isT_t, Px.isL_t, Px.isT_l, Px.isD_d, Px.isT_d, Px.inV_ints, Px.flat_ints, Px.flatV_i, Px.wipe_cons, Px.wipe_nil, Px.gtup, Px.gcons, Px.gnil, gt_iff_lt, ge_iff_le, Px.we, Px.wonly, Px.was, Px.cxK, not_true_eq_false, and_self, true_implies, false_implies, implies_true, Px.e0, and_assoc, imp_false, not_false_eq_true, ne_eq, Px.rgcd, Px.rixl, Px.rixt, Px.v0, Px.v1, Px.v2, Px.v3, Px.v4, Px.v5, Px.v6, Px.v7, Px.v8, Px.v9, Px.v10, Px.v11, Px.v12, Px.v13, Px.v14, Px.v15, Px.v16, Px.v17, Px.v18, Px.v19, Px.v20, Px.v21, Px.v22, Px.v23, Px.c0, Px.asg, Px.gnm, Px.ret, Px.retN, Px.drop, Px.nxt, Px.brk, Px.cnt, Px.ifs, Px.op, Px.un, Px.tst, Px.tbl, Px.tand, Px.tor, Px.tnot, Px.andv, Px.orv, Px.notv, Px.tif, Px.tup, Px.lst, Px.nil, Px.cons, Px.cal, Px.calS, Px.cb, Px.par, Px.gsub, Px.bits, Px.bm, Px.bm0, Px.ri, Px.ri0, Px.ru, Px.req, Px.rne, Px.rix, Px.rlen, Px.rin, Px.rsetl, Px.risi, Px.tyH_n, Px.tyH_b, Px.tyH_i, Px.tyH_s, Px.tyH_r, Px.seqH_t, Px.seqH_l, Px.seqH_fl, Px.sc_ii, Px.sc_bb, Px.sc_ss, Px.atI0, Px.atI1, Px.atI2, Px.atI3, Px.atI4, Px.atI5, Px.atI6, Px.atI7, Px.kb_NoneType_int, Px.kb_NoneType_bool, Px.kb_NoneType_str, Px.kb_NoneType_list, Px.kb_NoneType_tuple, Px.kb_NoneType_dict, Px.kb_bool_int, Px.kb_bool_bool, Px.kb_bool_str, Px.kb_bool_list, Px.kb_bool_tuple, Px.kb_bool_dict, Px.kb_int_int, Px.kb_int_bool, Px.kb_int_str, Px.kb_int_list, Px.kb_int_tuple, Px.kb_int_dict, Px.kb_str_int, Px.kb_str_bool, Px.kb_str_str, Px.kb_str_list, Px.kb_str_tuple, Px.kb_str_dict, Px.kb_list_int, Px.kb_list_bool, Px.kb_list_str, Px.kb_list_list, Px.kb_list_tuple, Px.kb_list_dict, Px.kb_tuple_int, Px.kb_tuple_bool, Px.kb_tuple_str, Px.kb_tuple_list, Px.kb_tuple_tuple, Px.kb_tuple_dict, Px.kb_dict_int, Px.kb_dict_bool, Px.kb_dict_str, Px.kb_dict_list, Px.kb_dict_tuple, Px.kb_dict_dict, L2.upd_same, Px.updI, L2.ixN, List.set_cons_zero, List.set_cons_succ, List.length_cons, List.length_nil, Nat.reduceAdd, Nat.zero_add, L2.HO.lst.injEq, L2.HO.tup.injEq, L2.upd_upd, L2.V.int.injEq, L2.V.ref.injEq, L2.V.bl.injEq, L2.V.str.injEq, L2.V.ty.injEq, List.cons.injEq, and_true, true_and, and_false, false_and, or_false, false_or, exists_eq_left', exists_eq_left, exists_and_left, exists_const, exists_false, Option.some.injEq, decide_eq_true_eq, List.append_nil, List.cons_append, List.nil_append, Option.isSome_some, Bool.not_true, Bool.not_false, Bool.not_eq_true', Bool.not_eq_true, Bool.false_eq_true, decide_eq_false_iff_not, if_true, if_false, ite_true, ite_false, Int.reduceLE, Int.reduceLT, Int.reduceToNat, Int.cast_ofNat_Int, Bool.true_eq_false, eq_self, ↓reduceIte, reduceCtorEq, Px.aug, Px.ipi, Px.tri, Px.rcatth, Px.rixs, Px.rsls, Px.tm1, Px.glst, Px.nstr, Px.txI, Px.txC, Px.txL, Px.txA, Px.rsgn, Px.txf, Px.tost, Px.tmko, Px.risxd, *]
  refine go_seq ?_
  simp only [decide_true, decide_false, List.map_cons, List.map_nil, Option.map_none, Option.map_some, Option.getD_none, Option.getD_some, Px.dg2, Px.dg1, Px.dg, Px.din, Px.dnotin, Px.dnew, Px.dput, Px.isD_is, Px.dget_i, Px.dget_s, Px.dput_i, Px.dput_s, Px.dOf_d, Px.rtup, Px.rlist, Px.rsl, Px.rsort, Px.rcat, Px.rapp, Px.rrev, Px.sl_ap, Px.nop, Px.part, Px.yes, Px.tyl, Px.isL_l, Px.isT_t, Px.isL_t, Px.isT_l, Px.isD_d, Px.isT_d, Px.inV_ints, Px.flat_ints, Px.flatV_i, Px.wipe_cons, Px.wipe_nil, Px.gtup, Px.gcons, Px.gnil, gt_iff_lt, ge_iff_le, Px.we, Px.wonly, Px.was, Px.cxK, not_true_eq_false, and_self, true_implies, false_implies, implies_true, Px.e0, and_assoc, imp_false, not_false_eq_true, ne_eq, Px.rgcd, Px.rixl, Px.rixt, Px.v0, Px.v1, Px.v2, Px.v3, Px.v4, Px.v5, Px.v6, Px.v7, Px.v8, Px.v9, Px.v10, Px.v11, Px.v12, Px.v13, Px.v14, Px.v15, Px.v16, Px.v17, Px.v18, Px.v19, Px.v20, Px.v21, Px.v22, Px.v23, Px.c0, Px.asg, Px.gnm, Px.ret, Px.retN, Px.drop, Px.nxt, Px.brk, Px.cnt, Px.ifs, Px.op, Px.un, Px.tst, Px.tbl, Px.tand, Px.tor, Px.tnot, Px.andv, Px.orv, Px.notv, Px.tif, Px.tup, Px.lst, Px.nil, Px.cons, Px.cal, Px.calS, Px.cb, Px.par, Px.gsub, Px.bits, Px.bm, Px.bm0, Px.ri, Px.ri0, Px.ru, Px.req, Px.rne, Px.rix, Px.rlen, Px.rin, Px.rsetl, Px.risi, Px.tyH_n, Px.tyH_b, Px.tyH_i, Px.tyH_s, Px.tyH_r, Px.seqH_t, Px.seqH_l, Px.seqH_fl, Px.sc_ii, Px.sc_bb, Px.sc_ss, Px.atI0, Px.atI1, Px.atI2, Px.atI3, Px.atI4, Px.atI5, Px.atI6, Px.atI7, Px.kb_NoneType_int, Px.kb_NoneType_bool, Px.kb_NoneType_str, Px.kb_NoneType_list, Px.kb_NoneType_tuple, Px.kb_NoneType_dict, Px.kb_bool_int, Px.kb_bool_bool, Px.kb_bool_str, Px.kb_bool_list, Px.kb_bool_tuple, Px.kb_bool_dict, Px.kb_int_int, Px.kb_int_bool, Px.kb_int_str, Px.kb_int_list, Px.kb_int_tuple, Px.kb_int_dict, Px.kb_str_int, Px.kb_str_bool, Px.kb_str_str, Px.kb_str_list, Px.kb_str_tuple, Px.kb_str_dict, Px.kb_list_int, Px.kb_list_bool, Px.kb_list_str, Px.kb_list_list, Px.kb_list_tuple, Px.kb_list_dict, Px.kb_tuple_int, Px.kb_tuple_bool, Px.kb_tuple_str, Px.kb_tuple_list, Px.kb_tuple_tuple, Px.kb_tuple_dict, Px.kb_dict_int, Px.kb_dict_bool, Px.kb_dict_str, Px.kb_dict_list, Px.kb_dict_tuple, Px.kb_dict_dict, L2.upd_same, Px.updI, L2.ixN, List.set_cons_zero, List.set_cons_succ, List.length_cons, List.length_nil, Nat.reduceAdd, Nat.zero_add, L2.HO.lst.injEq, L2.HO.tup.injEq, L2.upd_upd, L2.V.int.injEq, L2.V.ref.injEq, L2.V.bl.injEq, L2.V.str.injEq, L2.V.ty.injEq, List.cons.injEq, and_true, true_and, and_false, false_and, or_false, false_or, exists_eq_left', exists_eq_left, exists_and_left, exists_const, exists_false, Option.some.injEq, decide_eq_true_eq, List.append_nil, List.cons_append, List.nil_append, Option.isSome_some, Bool.not_true, Bool.not_false, Bool.not_eq_true', Bool.not_eq_true, Bool.false_eq_true, decide_eq_false_iff_not, if_true, if_false, ite_true, ite_false, Int.reduceLE, Int.reduceLT, Int.reduceToNat, Int.cast_ofNat_Int, Bool.true_eq_false, eq_self, ↓reduceIte, reduceCtorEq, Px.aug, Px.ipi, Px.tri, Px.rcatth, Px.rixs, Px.rsls, Px.tm1, Px.glst, Px.nstr, Px.txI, Px.txC, Px.txL, Px.txA, Px.rsgn, Px.txf, Px.tost, Px.tmko, Px.risxd, *]
  refine go_seq ?_
  refine for_str (a := a) (IRe a H) (fun R q => by simp only [decide_true, decide_false, List.map_cons, List.map_nil, Option.map_none, Option.map_some, Option.getD_none, Option.getD_some, Px.dg2, Px.dg1, Px.dg, Px.din, Px.dnotin, Px.dnew, Px.dput, Px.isD_is, Px.dget_i, Px.dget_s, Px.dput_i, Px.dput_s, Px.dOf_d, Px.rtup, Px.rlist, Px.rsl, Px.rsort, Px.rcat, Px.rapp, Px.rrev, Px.sl_ap, Px.nop, Px.part, Px.yes, Px.tyl, Px.isL_l, Px.isT_t, Px.isL_t, Px.isT_l, Px.isD_d, Px.isT_d, Px.inV_ints, Px.flat_ints, Px.flatV_i, Px.wipe_cons, Px.wipe_nil, Px.gtup, Px.gcons, Px.gnil, gt_iff_lt, ge_iff_le, Px.we, Px.wonly, Px.was, Px.cxK, not_true_eq_false, and_self, true_implies, false_implies, implies_true, Px.e0, and_assoc, imp_false, not_false_eq_true, ne_eq, Px.rgcd, Px.rixl, Px.rixt, Px.v0, Px.v1, Px.v2, Px.v3, Px.v4, Px.v5, Px.v6, Px.v7, Px.v8, Px.v9, Px.v10, Px.v11, Px.v12, Px.v13, Px.v14, Px.v15, Px.v16, Px.v17, Px.v18, Px.v19, Px.v20, Px.v21, Px.v22, Px.v23, Px.c0, Px.asg, Px.gnm, Px.ret, Px.retN, Px.drop, Px.nxt, Px.brk, Px.cnt, Px.ifs, Px.op, Px.un, Px.tst, Px.tbl, Px.tand, Px.tor, Px.tnot, Px.andv, Px.orv, Px.notv, Px.tif, Px.tup, Px.lst, Px.nil, Px.cons, Px.cal, Px.calS, Px.cb, Px.par, Px.gsub, Px.bits, Px.bm, Px.bm0, Px.ri, Px.ri0, Px.ru, Px.req, Px.rne, Px.rix, Px.rlen, Px.rin, Px.rsetl, Px.risi, Px.tyH_n, Px.tyH_b, Px.tyH_i, Px.tyH_s, Px.tyH_r, Px.seqH_t, Px.seqH_l, Px.seqH_fl, Px.sc_ii, Px.sc_bb, Px.sc_ss, Px.atI0, Px.atI1, Px.atI2, Px.atI3, Px.atI4, Px.atI5, Px.atI6, Px.atI7, Px.kb_NoneType_int, Px.kb_NoneType_bool, Px.kb_NoneType_str, Px.kb_NoneType_list, Px.kb_NoneType_tuple, Px.kb_NoneType_dict, Px.kb_bool_int, Px.kb_bool_bool, Px.kb_bool_str, Px.kb_bool_list, Px.kb_bool_tuple, Px.kb_bool_dict, Px.kb_int_int, Px.kb_int_bool, Px.kb_int_str, Px.kb_int_list, Px.kb_int_tuple, Px.kb_int_dict, Px.kb_str_int, Px.kb_str_bool, Px.kb_str_str, Px.kb_str_list, Px.kb_str_tuple, Px.kb_str_dict, Px.kb_list_int, Px.kb_list_bool, Px.kb_list_str, Px.kb_list_list, Px.kb_list_tuple, Px.kb_list_dict, Px.kb_tuple_int, Px.kb_tuple_bool, Px.kb_tuple_str, Px.kb_tuple_list, Px.kb_tuple_tuple, Px.kb_tuple_dict, Px.kb_dict_int, Px.kb_dict_bool, Px.kb_dict_str, Px.kb_dict_list, Px.kb_dict_tuple, Px.kb_dict_dict, L2.upd_same, Px.updI, L2.ixN, List.set_cons_zero, List.set_cons_succ, List.length_cons, List.length_nil, Nat.reduceAdd, Nat.zero_add, L2.HO.lst.injEq, L2.HO.tup.injEq, L2.upd_upd, L2.V.int.injEq, L2.V.ref.injEq, L2.V.bl.injEq, L2.V.str.injEq, L2.V.ty.injEq, List.cons.injEq, and_true, true_and, and_false, false_and, or_false, false_or, exists_eq_left', exists_eq_left, exists_and_left, exists_const, exists_false, Option.some.injEq, decide_eq_true_eq, List.append_nil, List.cons_append, List.nil_append, Option.isSome_some, Bool.not_true, Bool.not_false, Bool.not_eq_true', Bool.not_eq_true, Bool.false_eq_true, decide_eq_false_iff_not, if_true, if_false, ite_true, ite_false, Int.reduceLE, Int.reduceLT, Int.reduceToNat, Int.cast_ofNat_Int, Bool.true_eq_false, eq_self, ↓reduceIte, reduceCtorEq, Px.aug, Px.ipi, Px.tri, Px.rcatth, Px.rixs, Px.rsls, Px.tm1, Px.glst, Px.nstr, Px.txI, Px.txC, Px.txL, Px.txA, Px.rsgn, Px.txf, Px.tost, Px.tmko, Px.risxd]; exact q) ⟨⟨_, rfl⟩, rfl, by rw [List.take_zero]; decide, by rw [List.take_zero]; decide⟩ ?_ ?_
  · rintro i c σ' H1 hi ⟨⟨v, rfl⟩, rfl, b1, b2⟩
    have tk : a.take (i + 1) = a.take i ++ [c] := by rw [List.take_succ, hi]; rfl
    have er : rdl (0, 0, 0) (a.take (i + 1)) = rd (rdl (0, 0, 0) (a.take i)) c := by rw [tk, rdl_app]; rfl
    have li := (List.getElem?_eq_some_iff.mp hi).1
    generalize rdl (0, 0, 0) (a.take i) = x at *
    obtain ⟨s0, t0, u0⟩ := x
    refine go_seq ?_
    simp only [decide_true, decide_false, List.map_cons, List.map_nil, Option.map_none, Option.map_some, Option.getD_none, Option.getD_some, Px.dg2, Px.dg1, Px.dg, Px.din, Px.dnotin, Px.dnew, Px.dput, Px.isD_is, Px.dget_i, Px.dget_s, Px.dput_i, Px.dput_s, Px.dOf_d, Px.rtup, Px.rlist, Px.rsl, Px.rsort, Px.rcat, Px.rapp, Px.rrev, Px.sl_ap, Px.nop, Px.part, Px.yes, Px.tyl, Px.isL_l, Px.isT_t, Px.isL_t, Px.isT_l, Px.isD_d, Px.isT_d, Px.inV_ints, Px.flat_ints, Px.flatV_i, Px.wipe_cons, Px.wipe_nil, Px.gtup, Px.gcons, Px.gnil, gt_iff_lt, ge_iff_le, Px.we, Px.wonly, Px.was, Px.cxK, not_true_eq_false, and_self, true_implies, false_implies, implies_true, Px.e0, and_assoc, imp_false, not_false_eq_true, ne_eq, Px.rgcd, Px.rixl, Px.rixt, Px.v0, Px.v1, Px.v2, Px.v3, Px.v4, Px.v5, Px.v6, Px.v7, Px.v8, Px.v9, Px.v10, Px.v11, Px.v12, Px.v13, Px.v14, Px.v15, Px.v16, Px.v17, Px.v18, Px.v19, Px.v20, Px.v21, Px.v22, Px.v23, Px.c0, Px.asg, Px.gnm, Px.ret, Px.retN, Px.drop, Px.nxt, Px.brk, Px.cnt, Px.ifs, Px.op, Px.un, Px.tst, Px.tbl, Px.tand, Px.tor, Px.tnot, Px.andv, Px.orv, Px.notv, Px.tif, Px.tup, Px.lst, Px.nil, Px.cons, Px.cal, Px.calS, Px.cb, Px.par, Px.gsub, Px.bits, Px.bm, Px.bm0, Px.ri, Px.ri0, Px.ru, Px.req, Px.rne, Px.rix, Px.rlen, Px.rin, Px.rsetl, Px.risi, Px.tyH_n, Px.tyH_b, Px.tyH_i, Px.tyH_s, Px.tyH_r, Px.seqH_t, Px.seqH_l, Px.seqH_fl, Px.sc_ii, Px.sc_bb, Px.sc_ss, Px.atI0, Px.atI1, Px.atI2, Px.atI3, Px.atI4, Px.atI5, Px.atI6, Px.atI7, Px.kb_NoneType_int, Px.kb_NoneType_bool, Px.kb_NoneType_str, Px.kb_NoneType_list, Px.kb_NoneType_tuple, Px.kb_NoneType_dict, Px.kb_bool_int, Px.kb_bool_bool, Px.kb_bool_str, Px.kb_bool_list, Px.kb_bool_tuple, Px.kb_bool_dict, Px.kb_int_int, Px.kb_int_bool, Px.kb_int_str, Px.kb_int_list, Px.kb_int_tuple, Px.kb_int_dict, Px.kb_str_int, Px.kb_str_bool, Px.kb_str_str, Px.kb_str_list, Px.kb_str_tuple, Px.kb_str_dict, Px.kb_list_int, Px.kb_list_bool, Px.kb_list_str, Px.kb_list_list, Px.kb_list_tuple, Px.kb_list_dict, Px.kb_tuple_int, Px.kb_tuple_bool, Px.kb_tuple_str, Px.kb_tuple_list, Px.kb_tuple_tuple, Px.kb_tuple_dict, Px.kb_dict_int, Px.kb_dict_bool, Px.kb_dict_str, Px.kb_dict_list, Px.kb_dict_tuple, Px.kb_dict_dict, L2.upd_same, Px.updI, L2.ixN, List.set_cons_zero, List.set_cons_succ, List.length_cons, List.length_nil, Nat.reduceAdd, Nat.zero_add, L2.HO.lst.injEq, L2.HO.tup.injEq, L2.upd_upd, L2.V.int.injEq, L2.V.ref.injEq, L2.V.bl.injEq, L2.V.str.injEq, L2.V.ty.injEq, List.cons.injEq, and_true, true_and, and_false, false_and, or_false, false_or, exists_eq_left', exists_eq_left, exists_and_left, exists_const, exists_false, Option.some.injEq, decide_eq_true_eq, List.append_nil, List.cons_append, List.nil_append, Option.isSome_some, Bool.not_true, Bool.not_false, Bool.not_eq_true', Bool.not_eq_true, Bool.false_eq_true, decide_eq_false_iff_not, if_true, if_false, ite_true, ite_false, Int.reduceLE, Int.reduceLT, Int.reduceToNat, Int.cast_ofNat_Int, Bool.true_eq_false, eq_self, ↓reduceIte, reduceCtorEq, Px.aug, Px.ipi, Px.tri, Px.rcatth, Px.rixs, Px.rsls, Px.tm1, Px.glst, Px.nstr, Px.txI, Px.txC, Px.txL, Px.txA, Px.rsgn, Px.txf, Px.tost, Px.tmko, Px.risxd, *, spStp]
    refine ⟨s0, rfl, ?_⟩
    have wd : ∀ x : Nat, x < 10 ^ i → CMulW 10 (x : Int) := fun x hx => wide_mul (a := 4) (b := 2000) (by decide) (by
      rw [Int.natAbs_natCast]
      exact Nat.lt_of_lt_of_le (Nat.lt_of_lt_of_le hx (Nat.pow_le_pow_right (by decide) (show i ≤ 600 by omega))) (by decide +kernel)) (by decide) (by decide) (by decide)
    have p1 : (10 : Nat) ^ (i + 1) = 10 * 10 ^ i := by rw [Nat.pow_succ, Nat.mul_comm]
    have p0 : 0 < (10 : Nat) ^ i := Nat.pow_pos (by decide)
    have b1 : t0 < 10 ^ i := b1
    have b2 : u0 < 10 ^ i := b2
    have fin : ∀ (n t u : Nat), rd (s0, t0, u0) c = (n, t, u) → t < 10 ^ (i + 1) → u < 10 ^ (i + 1) → IRe a H1 (i + 1) [some (.str (Tx a)), some (.int (n : Int)), some (.int (t : Int)), some (.int (u : Int)), some (.str (Tx [c]))] H1 := fun n t u e h1 h2 => by
      unfold IRe
      rw [er, e]
      exact ⟨⟨_, rfl⟩, rfl, h1, h2⟩
    have er0 : rd (s0, t0, u0) c = (stp s0 c, if stp s0 c = 3 then 10 * t0 + (c - 48) else t0, if stp s0 c = 5 then 10 * u0 + (c - 48) else u0) := rfl
    clear er
    have e3 : ((stp s0 c : Nat) : Int) = 3 ↔ stp s0 c = 3 := by omega
    have e5 : ((stp s0 c : Nat) : Int) = 5 ↔ stp s0 c = 5 := by omega
    by_cases h3 : stp s0 c = 3
    · have hd := stp_3 h3
      have fd := find_d hd
      have hc := dg_iff.mp hd
      have w1 := wd t0 b1
      have e35 : ¬ ((stp s0 c : Nat) : Int) = 5 := by omega
      have e33 : ((stp s0 c : Nat) : Int) = 3 := by omega
      rw [if_pos h3, if_neg (by omega)] at er0
      have k2 := fin _ _ _ er0 (by omega) (by omega)
      have ec : ((10 * t0 + (c - 48) : Nat) : Int) = 10 * (t0 : Int) + ((c - 48 : Nat) : Int) := by omega
      rw [ec] at k2
      refine go_seq ?_
      generalize ((stp s0 c : Nat) : Int) = z at *
      subst e33
      simp only [decide_true, decide_false, List.map_cons, List.map_nil, Option.map_none, Option.map_some, Option.getD_none, Option.getD_some, Px.dg2, Px.dg1, Px.dg, Px.din, Px.dnotin, Px.dnew, Px.dput, Px.isD_is, Px.dget_i, Px.dget_s, Px.dput_i, Px.dput_s, Px.dOf_d, Px.rtup, Px.rlist, Px.rsl, Px.rsort, Px.rcat, Px.rapp, Px.rrev, Px.sl_ap, Px.nop, Px.part, Px.yes, Px.tyl, Px.isL_l, Px.isT_t, Px.isL_t, Px.isT_l, Px.isD_d, Px.isT_d, Px.inV_ints, Px.flat_ints, Px.flatV_i, Px.wipe_cons, Px.wipe_nil, Px.gtup, Px.gcons, Px.gnil, gt_iff_lt, ge_iff_le, Px.we, Px.wonly, Px.was, Px.cxK, not_true_eq_false, and_self, true_implies, false_implies, implies_true, Px.e0, and_assoc, imp_false, not_false_eq_true, ne_eq, Px.rgcd, Px.rixl, Px.rixt, Px.v0, Px.v1, Px.v2, Px.v3, Px.v4, Px.v5, Px.v6, Px.v7, Px.v8, Px.v9, Px.v10, Px.v11, Px.v12, Px.v13, Px.v14, Px.v15, Px.v16, Px.v17, Px.v18, Px.v19, Px.v20, Px.v21, Px.v22, Px.v23, Px.c0, Px.asg, Px.gnm, Px.ret, Px.retN, Px.drop, Px.nxt, Px.brk, Px.cnt, Px.ifs, Px.op, Px.un, Px.tst, Px.tbl, Px.tand, Px.tor, Px.tnot, Px.andv, Px.orv, Px.notv, Px.tif, Px.tup, Px.lst, Px.nil, Px.cons, Px.cal, Px.calS, Px.cb, Px.par, Px.gsub, Px.bits, Px.bm, Px.bm0, Px.ri, Px.ri0, Px.ru, Px.req, Px.rne, Px.rix, Px.rlen, Px.rin, Px.rsetl, Px.risi, Px.tyH_n, Px.tyH_b, Px.tyH_i, Px.tyH_s, Px.tyH_r, Px.seqH_t, Px.seqH_l, Px.seqH_fl, Px.sc_ii, Px.sc_bb, Px.sc_ss, Px.atI0, Px.atI1, Px.atI2, Px.atI3, Px.atI4, Px.atI5, Px.atI6, Px.atI7, Px.kb_NoneType_int, Px.kb_NoneType_bool, Px.kb_NoneType_str, Px.kb_NoneType_list, Px.kb_NoneType_tuple, Px.kb_NoneType_dict, Px.kb_bool_int, Px.kb_bool_bool, Px.kb_bool_str, Px.kb_bool_list, Px.kb_bool_tuple, Px.kb_bool_dict, Px.kb_int_int, Px.kb_int_bool, Px.kb_int_str, Px.kb_int_list, Px.kb_int_tuple, Px.kb_int_dict, Px.kb_str_int, Px.kb_str_bool, Px.kb_str_str, Px.kb_str_list, Px.kb_str_tuple, Px.kb_str_dict, Px.kb_list_int, Px.kb_list_bool, Px.kb_list_str, Px.kb_list_list, Px.kb_list_tuple, Px.kb_list_dict, Px.kb_tuple_int, Px.kb_tuple_bool, Px.kb_tuple_str, Px.kb_tuple_list, Px.kb_tuple_tuple, Px.kb_tuple_dict, Px.kb_dict_int, Px.kb_dict_bool, Px.kb_dict_str, Px.kb_dict_list, Px.kb_dict_tuple, Px.kb_dict_dict, L2.upd_same, Px.updI, L2.ixN, List.set_cons_zero, List.set_cons_succ, List.length_cons, List.length_nil, Nat.reduceAdd, Nat.zero_add, L2.HO.lst.injEq, L2.HO.tup.injEq, L2.upd_upd, L2.V.int.injEq, L2.V.ref.injEq, L2.V.bl.injEq, L2.V.str.injEq, L2.V.ty.injEq, List.cons.injEq, and_true, true_and, and_false, false_and, or_false, false_or, exists_eq_left', exists_eq_left, exists_and_left, exists_const, exists_false, Option.some.injEq, decide_eq_true_eq, List.append_nil, List.cons_append, List.nil_append, Option.isSome_some, Bool.not_true, Bool.not_false, Bool.not_eq_true', Bool.not_eq_true, Bool.false_eq_true, decide_eq_false_iff_not, if_true, if_false, ite_true, ite_false, Int.reduceLE, Int.reduceLT, Int.reduceToNat, Int.cast_ofNat_Int, Bool.true_eq_false, eq_self, ↓reduceIte, reduceCtorEq, Px.aug, Px.ipi, Px.tri, Px.rcatth, Px.rixs, Px.rsls, Px.tm1, Px.glst, Px.nstr, Px.txI, Px.txC, Px.txL, Px.txA, Px.rsgn, Px.txf, Px.tost, Px.tmko, Px.risxd, *, l_d]
      exact ⟨⟨_, rfl⟩, by rw [if_neg (by decide)]; trivial⟩
    by_cases h5 : stp s0 c = 5
    · have hd := stp_5 h5
      have fd := find_d hd
      have hc := dg_iff.mp hd
      have w1 := wd u0 b2
      have e35 : ¬ ((stp s0 c : Nat) : Int) = 3 := by omega
      have e33 : ((stp s0 c : Nat) : Int) = 5 := by omega
      rw [if_neg h3, if_pos h5] at er0
      have k2 := fin _ _ _ er0 (by omega) (by omega)
      have ec : ((10 * u0 + (c - 48) : Nat) : Int) = 10 * (u0 : Int) + ((c - 48 : Nat) : Int) := by omega
      rw [ec] at k2
      refine go_seq ?_
      generalize ((stp s0 c : Nat) : Int) = z at *
      subst e33
      simp only [decide_true, decide_false, List.map_cons, List.map_nil, Option.map_none, Option.map_some, Option.getD_none, Option.getD_some, Px.dg2, Px.dg1, Px.dg, Px.din, Px.dnotin, Px.dnew, Px.dput, Px.isD_is, Px.dget_i, Px.dget_s, Px.dput_i, Px.dput_s, Px.dOf_d, Px.rtup, Px.rlist, Px.rsl, Px.rsort, Px.rcat, Px.rapp, Px.rrev, Px.sl_ap, Px.nop, Px.part, Px.yes, Px.tyl, Px.isL_l, Px.isT_t, Px.isL_t, Px.isT_l, Px.isD_d, Px.isT_d, Px.inV_ints, Px.flat_ints, Px.flatV_i, Px.wipe_cons, Px.wipe_nil, Px.gtup, Px.gcons, Px.gnil, gt_iff_lt, ge_iff_le, Px.we, Px.wonly, Px.was, Px.cxK, not_true_eq_false, and_self, true_implies, false_implies, implies_true, Px.e0, and_assoc, imp_false, not_false_eq_true, ne_eq, Px.rgcd, Px.rixl, Px.rixt, Px.v0, Px.v1, Px.v2, Px.v3, Px.v4, Px.v5, Px.v6, Px.v7, Px.v8, Px.v9, Px.v10, Px.v11, Px.v12, Px.v13, Px.v14, Px.v15, Px.v16, Px.v17, Px.v18, Px.v19, Px.v20, Px.v21, Px.v22, Px.v23, Px.c0, Px.asg, Px.gnm, Px.ret, Px.retN, Px.drop, Px.nxt, Px.brk, Px.cnt, Px.ifs, Px.op, Px.un, Px.tst, Px.tbl, Px.tand, Px.tor, Px.tnot, Px.andv, Px.orv, Px.notv, Px.tif, Px.tup, Px.lst, Px.nil, Px.cons, Px.cal, Px.calS, Px.cb, Px.par, Px.gsub, Px.bits, Px.bm, Px.bm0, Px.ri, Px.ri0, Px.ru, Px.req, Px.rne, Px.rix, Px.rlen, Px.rin, Px.rsetl, Px.risi, Px.tyH_n, Px.tyH_b, Px.tyH_i, Px.tyH_s, Px.tyH_r, Px.seqH_t, Px.seqH_l, Px.seqH_fl, Px.sc_ii, Px.sc_bb, Px.sc_ss, Px.atI0, Px.atI1, Px.atI2, Px.atI3, Px.atI4, Px.atI5, Px.atI6, Px.atI7, Px.kb_NoneType_int, Px.kb_NoneType_bool, Px.kb_NoneType_str, Px.kb_NoneType_list, Px.kb_NoneType_tuple, Px.kb_NoneType_dict, Px.kb_bool_int, Px.kb_bool_bool, Px.kb_bool_str, Px.kb_bool_list, Px.kb_bool_tuple, Px.kb_bool_dict, Px.kb_int_int, Px.kb_int_bool, Px.kb_int_str, Px.kb_int_list, Px.kb_int_tuple, Px.kb_int_dict, Px.kb_str_int, Px.kb_str_bool, Px.kb_str_str, Px.kb_str_list, Px.kb_str_tuple, Px.kb_str_dict, Px.kb_list_int, Px.kb_list_bool, Px.kb_list_str, Px.kb_list_list, Px.kb_list_tuple, Px.kb_list_dict, Px.kb_tuple_int, Px.kb_tuple_bool, Px.kb_tuple_str, Px.kb_tuple_list, Px.kb_tuple_tuple, Px.kb_tuple_dict, Px.kb_dict_int, Px.kb_dict_bool, Px.kb_dict_str, Px.kb_dict_list, Px.kb_dict_tuple, Px.kb_dict_dict, L2.upd_same, Px.updI, L2.ixN, List.set_cons_zero, List.set_cons_succ, List.length_cons, List.length_nil, Nat.reduceAdd, Nat.zero_add, L2.HO.lst.injEq, L2.HO.tup.injEq, L2.upd_upd, L2.V.int.injEq, L2.V.ref.injEq, L2.V.bl.injEq, L2.V.str.injEq, L2.V.ty.injEq, List.cons.injEq, and_true, true_and, and_false, false_and, or_false, false_or, exists_eq_left', exists_eq_left, exists_and_left, exists_const, exists_false, Option.some.injEq, decide_eq_true_eq, List.append_nil, List.cons_append, List.nil_append, Option.isSome_some, Bool.not_true, Bool.not_false, Bool.not_eq_true', Bool.not_eq_true, Bool.false_eq_true, decide_eq_false_iff_not, if_true, if_false, ite_true, ite_false, Int.reduceLE, Int.reduceLT, Int.reduceToNat, Int.cast_ofNat_Int, Bool.true_eq_false, eq_self, ↓reduceIte, reduceCtorEq, Px.aug, Px.ipi, Px.tri, Px.rcatth, Px.rixs, Px.rsls, Px.tm1, Px.glst, Px.nstr, Px.txI, Px.txC, Px.txL, Px.txA, Px.rsgn, Px.txf, Px.tost, Px.tmko, Px.risxd, *, l_d]
      rw [if_neg (by decide)]
      exact ⟨_, rfl⟩
    · have e35 : ¬ ((stp s0 c : Nat) : Int) = 3 := by omega
      have e33 : ¬ ((stp s0 c : Nat) : Int) = 5 := by omega
      rw [if_neg h3, if_neg h5] at er0
      have k2 := fin _ _ _ er0 (by omega) (by omega)
      refine go_seq ?_
      generalize ((stp s0 c : Nat) : Int) = z at *
      simp only [decide_true, decide_false, List.map_cons, List.map_nil, Option.map_none, Option.map_some, Option.getD_none, Option.getD_some, Px.dg2, Px.dg1, Px.dg, Px.din, Px.dnotin, Px.dnew, Px.dput, Px.isD_is, Px.dget_i, Px.dget_s, Px.dput_i, Px.dput_s, Px.dOf_d, Px.rtup, Px.rlist, Px.rsl, Px.rsort, Px.rcat, Px.rapp, Px.rrev, Px.sl_ap, Px.nop, Px.part, Px.yes, Px.tyl, Px.isL_l, Px.isT_t, Px.isL_t, Px.isT_l, Px.isD_d, Px.isT_d, Px.inV_ints, Px.flat_ints, Px.flatV_i, Px.wipe_cons, Px.wipe_nil, Px.gtup, Px.gcons, Px.gnil, gt_iff_lt, ge_iff_le, Px.we, Px.wonly, Px.was, Px.cxK, not_true_eq_false, and_self, true_implies, false_implies, implies_true, Px.e0, and_assoc, imp_false, not_false_eq_true, ne_eq, Px.rgcd, Px.rixl, Px.rixt, Px.v0, Px.v1, Px.v2, Px.v3, Px.v4, Px.v5, Px.v6, Px.v7, Px.v8, Px.v9, Px.v10, Px.v11, Px.v12, Px.v13, Px.v14, Px.v15, Px.v16, Px.v17, Px.v18, Px.v19, Px.v20, Px.v21, Px.v22, Px.v23, Px.c0, Px.asg, Px.gnm, Px.ret, Px.retN, Px.drop, Px.nxt, Px.brk, Px.cnt, Px.ifs, Px.op, Px.un, Px.tst, Px.tbl, Px.tand, Px.tor, Px.tnot, Px.andv, Px.orv, Px.notv, Px.tif, Px.tup, Px.lst, Px.nil, Px.cons, Px.cal, Px.calS, Px.cb, Px.par, Px.gsub, Px.bits, Px.bm, Px.bm0, Px.ri, Px.ri0, Px.ru, Px.req, Px.rne, Px.rix, Px.rlen, Px.rin, Px.rsetl, Px.risi, Px.tyH_n, Px.tyH_b, Px.tyH_i, Px.tyH_s, Px.tyH_r, Px.seqH_t, Px.seqH_l, Px.seqH_fl, Px.sc_ii, Px.sc_bb, Px.sc_ss, Px.atI0, Px.atI1, Px.atI2, Px.atI3, Px.atI4, Px.atI5, Px.atI6, Px.atI7, Px.kb_NoneType_int, Px.kb_NoneType_bool, Px.kb_NoneType_str, Px.kb_NoneType_list, Px.kb_NoneType_tuple, Px.kb_NoneType_dict, Px.kb_bool_int, Px.kb_bool_bool, Px.kb_bool_str, Px.kb_bool_list, Px.kb_bool_tuple, Px.kb_bool_dict, Px.kb_int_int, Px.kb_int_bool, Px.kb_int_str, Px.kb_int_list, Px.kb_int_tuple, Px.kb_int_dict, Px.kb_str_int, Px.kb_str_bool, Px.kb_str_str, Px.kb_str_list, Px.kb_str_tuple, Px.kb_str_dict, Px.kb_list_int, Px.kb_list_bool, Px.kb_list_str, Px.kb_list_list, Px.kb_list_tuple, Px.kb_list_dict, Px.kb_tuple_int, Px.kb_tuple_bool, Px.kb_tuple_str, Px.kb_tuple_list, Px.kb_tuple_tuple, Px.kb_tuple_dict, Px.kb_dict_int, Px.kb_dict_bool, Px.kb_dict_str, Px.kb_dict_list, Px.kb_dict_tuple, Px.kb_dict_dict, L2.upd_same, Px.updI, L2.ixN, List.set_cons_zero, List.set_cons_succ, List.length_cons, List.length_nil, Nat.reduceAdd, Nat.zero_add, L2.HO.lst.injEq, L2.HO.tup.injEq, L2.upd_upd, L2.V.int.injEq, L2.V.ref.injEq, L2.V.bl.injEq, L2.V.str.injEq, L2.V.ty.injEq, List.cons.injEq, and_true, true_and, and_false, false_and, or_false, false_or, exists_eq_left', exists_eq_left, exists_and_left, exists_const, exists_false, Option.some.injEq, decide_eq_true_eq, List.append_nil, List.cons_append, List.nil_append, Option.isSome_some, Bool.not_true, Bool.not_false, Bool.not_eq_true', Bool.not_eq_true, Bool.false_eq_true, decide_eq_false_iff_not, if_true, if_false, ite_true, ite_false, Int.reduceLE, Int.reduceLT, Int.reduceToNat, Int.cast_ofNat_Int, Bool.true_eq_false, eq_self, ↓reduceIte, reduceCtorEq, Px.aug, Px.ipi, Px.tri, Px.rcatth, Px.rixs, Px.rsls, Px.tm1, Px.glst, Px.nstr, Px.txI, Px.txC, Px.txL, Px.txA, Px.rsgn, Px.txf, Px.tost, Px.tmko, Px.risxd, *]
  · rintro σ' H1 ⟨⟨v, rfl⟩, rfl, b1, b2⟩
    rw [List.take_length]
    have hz := line_ok (show a.length ≤ 10000 by omega)
    simp only [decide_true, decide_false, List.map_cons, List.map_nil, Option.map_none, Option.map_some, Option.getD_none, Option.getD_some, Px.dg2, Px.dg1, Px.dg, Px.din, Px.dnotin, Px.dnew, Px.dput, Px.isD_is, Px.dget_i, Px.dget_s, Px.dput_i, Px.dput_s, Px.dOf_d, Px.rtup, Px.rlist, Px.rsl, Px.rsort, Px.rcat, Px.rapp, Px.rrev, Px.sl_ap, Px.nop, Px.part, Px.yes, Px.tyl, Px.isL_l, Px.isT_t, Px.isL_t, Px.isT_l, Px.isD_d, Px.isT_d, Px.inV_ints, Px.flat_ints, Px.flatV_i, Px.wipe_cons, Px.wipe_nil, Px.gtup, Px.gcons, Px.gnil, gt_iff_lt, ge_iff_le, Px.we, Px.wonly, Px.was, Px.cxK, not_true_eq_false, and_self, true_implies, false_implies, implies_true, Px.e0, and_assoc, imp_false, not_false_eq_true, ne_eq, Px.rgcd, Px.rixl, Px.rixt, Px.v0, Px.v1, Px.v2, Px.v3, Px.v4, Px.v5, Px.v6, Px.v7, Px.v8, Px.v9, Px.v10, Px.v11, Px.v12, Px.v13, Px.v14, Px.v15, Px.v16, Px.v17, Px.v18, Px.v19, Px.v20, Px.v21, Px.v22, Px.v23, Px.c0, Px.asg, Px.gnm, Px.ret, Px.retN, Px.drop, Px.nxt, Px.brk, Px.cnt, Px.ifs, Px.op, Px.un, Px.tst, Px.tbl, Px.tand, Px.tor, Px.tnot, Px.andv, Px.orv, Px.notv, Px.tif, Px.tup, Px.lst, Px.nil, Px.cons, Px.cal, Px.calS, Px.cb, Px.par, Px.gsub, Px.bits, Px.bm, Px.bm0, Px.ri, Px.ri0, Px.ru, Px.req, Px.rne, Px.rix, Px.rlen, Px.rin, Px.rsetl, Px.risi, Px.tyH_n, Px.tyH_b, Px.tyH_i, Px.tyH_s, Px.tyH_r, Px.seqH_t, Px.seqH_l, Px.seqH_fl, Px.sc_ii, Px.sc_bb, Px.sc_ss, Px.atI0, Px.atI1, Px.atI2, Px.atI3, Px.atI4, Px.atI5, Px.atI6, Px.atI7, Px.kb_NoneType_int, Px.kb_NoneType_bool, Px.kb_NoneType_str, Px.kb_NoneType_list, Px.kb_NoneType_tuple, Px.kb_NoneType_dict, Px.kb_bool_int, Px.kb_bool_bool, Px.kb_bool_str, Px.kb_bool_list, Px.kb_bool_tuple, Px.kb_bool_dict, Px.kb_int_int, Px.kb_int_bool, Px.kb_int_str, Px.kb_int_list, Px.kb_int_tuple, Px.kb_int_dict, Px.kb_str_int, Px.kb_str_bool, Px.kb_str_str, Px.kb_str_list, Px.kb_str_tuple, Px.kb_str_dict, Px.kb_list_int, Px.kb_list_bool, Px.kb_list_str, Px.kb_list_list, Px.kb_list_tuple, Px.kb_list_dict, Px.kb_tuple_int, Px.kb_tuple_bool, Px.kb_tuple_str, Px.kb_tuple_list, Px.kb_tuple_tuple, Px.kb_tuple_dict, Px.kb_dict_int, Px.kb_dict_bool, Px.kb_dict_str, Px.kb_dict_list, Px.kb_dict_tuple, Px.kb_dict_dict, L2.upd_same, Px.updI, L2.ixN, List.set_cons_zero, List.set_cons_succ, List.length_cons, List.length_nil, Nat.reduceAdd, Nat.zero_add, L2.HO.lst.injEq, L2.HO.tup.injEq, L2.upd_upd, L2.V.int.injEq, L2.V.ref.injEq, L2.V.bl.injEq, L2.V.str.injEq, L2.V.ty.injEq, List.cons.injEq, and_true, true_and, and_false, false_and, or_false, false_or, exists_eq_left', exists_eq_left, exists_and_left, exists_const, exists_false, Option.some.injEq, decide_eq_true_eq, List.append_nil, List.cons_append, List.nil_append, Option.isSome_some, Bool.not_true, Bool.not_false, Bool.not_eq_true', Bool.not_eq_true, Bool.false_eq_true, decide_eq_false_iff_not, if_true, if_false, ite_true, ite_false, Int.reduceLE, Int.reduceLT, Int.reduceToNat, Int.cast_ofNat_Int, Bool.true_eq_false, eq_self, ↓reduceIte, reduceCtorEq, Px.aug, Px.ipi, Px.tri, Px.rcatth, Px.rixs, Px.rsls, Px.tm1, Px.glst, Px.nstr, Px.txI, Px.txC, Px.txL, Px.txA, Px.rsgn, Px.txf, Px.tost, Px.tmko, Px.risxd]
    refine go_seq ?_
    simp only [decide_true, decide_false, List.map_cons, List.map_nil, Option.map_none, Option.map_some, Option.getD_none, Option.getD_some, Px.dg2, Px.dg1, Px.dg, Px.din, Px.dnotin, Px.dnew, Px.dput, Px.isD_is, Px.dget_i, Px.dget_s, Px.dput_i, Px.dput_s, Px.dOf_d, Px.rtup, Px.rlist, Px.rsl, Px.rsort, Px.rcat, Px.rapp, Px.rrev, Px.sl_ap, Px.nop, Px.part, Px.yes, Px.tyl, Px.isL_l, Px.isT_t, Px.isL_t, Px.isT_l, Px.isD_d, Px.isT_d, Px.inV_ints, Px.flat_ints, Px.flatV_i, Px.wipe_cons, Px.wipe_nil, Px.gtup, Px.gcons, Px.gnil, gt_iff_lt, ge_iff_le, Px.we, Px.wonly, Px.was, Px.cxK, not_true_eq_false, and_self, true_implies, false_implies, implies_true, Px.e0, and_assoc, imp_false, not_false_eq_true, ne_eq, Px.rgcd, Px.rixl, Px.rixt, Px.v0, Px.v1, Px.v2, Px.v3, Px.v4, Px.v5, Px.v6, Px.v7, Px.v8, Px.v9, Px.v10, Px.v11, Px.v12, Px.v13, Px.v14, Px.v15, Px.v16, Px.v17, Px.v18, Px.v19, Px.v20, Px.v21, Px.v22, Px.v23, Px.c0, Px.asg, Px.gnm, Px.ret, Px.retN, Px.drop, Px.nxt, Px.brk, Px.cnt, Px.ifs, Px.op, Px.un, Px.tst, Px.tbl, Px.tand, Px.tor, Px.tnot, Px.andv, Px.orv, Px.notv, Px.tif, Px.tup, Px.lst, Px.nil, Px.cons, Px.cal, Px.calS, Px.cb, Px.par, Px.gsub, Px.bits, Px.bm, Px.bm0, Px.ri, Px.ri0, Px.ru, Px.req, Px.rne, Px.rix, Px.rlen, Px.rin, Px.rsetl, Px.risi, Px.tyH_n, Px.tyH_b, Px.tyH_i, Px.tyH_s, Px.tyH_r, Px.seqH_t, Px.seqH_l, Px.seqH_fl, Px.sc_ii, Px.sc_bb, Px.sc_ss, Px.atI0, Px.atI1, Px.atI2, Px.atI3, Px.atI4, Px.atI5, Px.atI6, Px.atI7, Px.kb_NoneType_int, Px.kb_NoneType_bool, Px.kb_NoneType_str, Px.kb_NoneType_list, Px.kb_NoneType_tuple, Px.kb_NoneType_dict, Px.kb_bool_int, Px.kb_bool_bool, Px.kb_bool_str, Px.kb_bool_list, Px.kb_bool_tuple, Px.kb_bool_dict, Px.kb_int_int, Px.kb_int_bool, Px.kb_int_str, Px.kb_int_list, Px.kb_int_tuple, Px.kb_int_dict, Px.kb_str_int, Px.kb_str_bool, Px.kb_str_str, Px.kb_str_list, Px.kb_str_tuple, Px.kb_str_dict, Px.kb_list_int, Px.kb_list_bool, Px.kb_list_str, Px.kb_list_list, Px.kb_list_tuple, Px.kb_list_dict, Px.kb_tuple_int, Px.kb_tuple_bool, Px.kb_tuple_str, Px.kb_tuple_list, Px.kb_tuple_tuple, Px.kb_tuple_dict, Px.kb_dict_int, Px.kb_dict_bool, Px.kb_dict_str, Px.kb_dict_list, Px.kb_dict_tuple, Px.kb_dict_dict, L2.upd_same, Px.updI, L2.ixN, List.set_cons_zero, List.set_cons_succ, List.length_cons, List.length_nil, Nat.reduceAdd, Nat.zero_add, L2.HO.lst.injEq, L2.HO.tup.injEq, L2.upd_upd, L2.V.int.injEq, L2.V.ref.injEq, L2.V.bl.injEq, L2.V.str.injEq, L2.V.ty.injEq, List.cons.injEq, and_true, true_and, and_false, false_and, or_false, false_or, exists_eq_left', exists_eq_left, exists_and_left, exists_const, exists_false, Option.some.injEq, decide_eq_true_eq, List.append_nil, List.cons_append, List.nil_append, Option.isSome_some, Bool.not_true, Bool.not_false, Bool.not_eq_true', Bool.not_eq_true, Bool.false_eq_true, decide_eq_false_iff_not, if_true, if_false, ite_true, ite_false, Int.reduceLE, Int.reduceLT, Int.reduceToNat, Int.cast_ofNat_Int, Bool.true_eq_false, eq_self, ↓reduceIte, reduceCtorEq, Px.aug, Px.ipi, Px.tri, Px.rcatth, Px.rixs, Px.rsls, Px.tm1, Px.glst, Px.nstr, Px.txI, Px.txC, Px.txL, Px.txA, Px.rsgn, Px.txf, Px.tost, Px.tmko, Px.risxd, *, l_m, cut_1, tk1]
    refine go_if (fun h => ?_) (fun h => ?_)
    · rw [if_pos h] at k
      exact ⟨by decide, fun p hp => k p _ ((Px.Ext.rfl' H1).new hp) upd_same⟩
    · rw [if_neg h] at k
      exact ⟨by decide, fun p hp => k p _ ((Px.Ext.rfl' H1).new hp) upd_same⟩
end
end K96

namespace K96
open PySem PySem.Spec PyProof.Rows L2 Px
/-! ### drawn texts -/
theorem z_app (x y : Str) : (x ++ y).length = x.length + y.length := by
  show (x.cps ++ y.cps).size = x.cps.size + y.cps.size
  exact Array.size_append
theorem z_one (c : Nat) : (Tx [c]).length = 1 := rfl
theorem z_tx (z : Str) : z = Tx z.cps.toList := (SX.S_tl z).symm
theorem z_len (z : Str) : z.cps.toList.length = z.length := by simp [Str.length]
/-- a sign of a text -/
theorem z_at {z : Str} {v : Int} (h0 : 0 ≤ v) (h1 : v < (z.length : Int)) : ∃ c, atI z.cps.toList v = some c := by
  obtain ⟨j, rfl⟩ : ∃ j : Nat, v = (j : Int) := ⟨v.toNat, by omega⟩
  exact ⟨_, atI_nat (List.getElem?_eq_getElem (by rw [z_len]; omega))⟩
section
variable {P : Program} {w : World} {K : PySem.W.Frag} {mg : Str → Option Value} {base : Heap}
/-- a text of at most n signs is drawn -/
def spZ (n : Nat) (vs : List V) (H : Hp) (Q : VK) (_ : XK) : Prop := ∃ p : Addr, vs = [.ref p] ∧ Pool H p ∧ ∀ (z : Str) H', z.length ≤ n → Pool H' p → Px.But p H H' → Q (.str z) H'
def spZm (n : Nat) (vs : List V) (H : Hp) (Q : VK) (_ : XK) : Prop := ∃ (p : Addr) (m : Int), vs = [.ref p, .int m] ∧ (0 < m ∧ m ≤ 24) ∧ Pool H p ∧ ∀ (z : Str) H', z.length ≤ n → Pool H' p → Px.But p H H' → Q (.str z) H'
def IDg (p : Addr) (m n : Int) (H : Hp) (i : Nat) (σ' : L2.St) (H' : Hp) : Prop := ∃ (z : Str) (v : Option V), σ' = [some (.ref p), some (.int m), some (.str z), some (.int n), v] ∧ z.length ≤ 1 + i ∧ Pool H' p ∧ Px.But p H H'
theorem ok_digits (B : Bn mg) (F : FunAt K mg "_law_digits" s_law_digits) (D_law_take : Def P w K mg base CX0 1 "_law_take" ["pool", "size"] spTake) : Def P w K mg base CX0 2 "_law_digits" ["pool", "most"] (spZm 25) := by
  refine F.ok sc_law_digits (fun _ _ _ _ _ _ us hl => match us, hl with | [_, _], _ => rfl) (fun vs H Q E h => by obtain ⟨_, _, rfl, _⟩ := h; rfl) (fun f cdv A outer s H vs Q E hr h => ?_)
  obtain ⟨p, m, rfl, hm, hp, k⟩ := h
  refine ⟨_, pss_cons (ps_set (i := 2) sc_law_digits.nd rfl (Or.inl rfl) (pe_ix ix_str pe_str (pe_fn D_law_take hr pass0 (pa_cons (pv 0) (pa_cons pe_int pa_nil))) (fun _ _ => rfl))) (
  pss_cons (ps_set (i := 3) sc_law_digits.nd rfl (Or.inl rfl) (pe_fn D_law_take hr pass0 (pa_cons (pv 0) (pa_cons pe_int pa_nil)))) (
  pcut (ps_if (pt_cmpR op_eq (pv 3) pe_int (nomark _)) (pss_one (ps_set (i := 3) sc_law_digits.nd rfl (Or.inl rfl) (pe_fn D_law_take hr pass0 (pa_cons (pv 0) (pa_cons (pv 1) pa_nil))))) (pss_nil)) (
  pss_cons (ps_for PassesOwn.never rfl (pi_range1 rfl B.range (pa_cons (pv 3) pa_nil)) (pg_name (i := 4) sc_law_digits.nd rfl (Or.inl rfl)) (
  pss_one (ps_set (i := 2) sc_law_digits.nd rfl (Or.inl rfl) (pe_op op_add_str (pv 2) (pe_ix ix_str pe_str (pe_fn D_law_take hr pass0 (pa_cons (pv 0) (pa_cons pe_int pa_nil))) (fun _ _ => rfl)))))) (
  pss_one (ps_ret (pv 2)))))), ?_⟩
  show tSeq _ _ _ [some (.ref p), some (.int m), none, none, none] H
  refine go_seq ?_
  simp only [decide_true, decide_false, List.map_cons, List.map_nil, Option.map_none, Option.map_some, Option.getD_none, Option.getD_some, Px.dg2, Px.dg1, Px.dg, Px.din, Px.dnotin, Px.dnew, Px.dput, Px.isD_is, Px.dget_i, Px.dget_s, Px.dput_i, Px.dput_s, Px.dOf_d, Px.rtup, Px.rlist, Px.rsl, Px.rsort, Px.rcat, Px.rapp, Px.rrev, Px.sl_ap, Px.nop, Px.part, Px.yes, Px.tyl, Px.isL_l, Px.isT_t, Px.isL_t, Px.isT_l, Px.isD_d, Px.isT_d, Px.inV_ints, Px.flat_ints, Px.flatV_i, Px.wipe_cons, Px.wipe_nil, Px.gtup, Px.gcons, Px.gnil, gt_iff_lt, ge_iff_le, Px.we, Px.wonly, Px.was, Px.cxK, not_true_eq_false, and_self, true_implies, false_implies, implies_true, Px.e0, and_assoc, imp_false, not_false_eq_true, ne_eq, Px.rgcd, Px.rixl, Px.rixt, Px.v0, Px.v1, Px.v2, Px.v3, Px.v4, Px.v5, Px.v6, Px.v7, Px.v8, Px.v9, Px.v10, Px.v11, Px.v12, Px.v13, Px.v14, Px.v15, Px.v16, Px.v17, Px.v18, Px.v19, Px.v20, Px.v21, Px.v22, Px.v23, Px.c0, Px.asg, Px.gnm, Px.ret, Px.retN, Px.drop, Px.nxt, Px.brk, Px.cnt, Px.ifs, Px.op, Px.un, Px.tst, Px.tbl, Px.tand, Px.tor, Px.tnot, Px.andv, Px.orv, Px.notv, Px.tif, Px.tup, Px.lst, Px.nil, Px.cons, Px.cal, Px.calS, Px.cb, Px.par, Px.gsub, Px.bits, Px.bm, Px.bm0, Px.ri, Px.ri0, Px.ru, Px.req, Px.rne, Px.rix, Px.rlen, Px.rin, Px.rsetl, Px.risi, Px.tyH_n, Px.tyH_b, Px.tyH_i, Px.tyH_s, Px.tyH_r, Px.seqH_t, Px.seqH_l, Px.seqH_fl, Px.sc_ii, Px.sc_bb, Px.sc_ss, Px.atI0, Px.atI1, Px.atI2, Px.atI3, Px.atI4, Px.atI5, Px.atI6, Px.atI7, Px.kb_NoneType_int, Px.kb_NoneType_bool, Px.kb_NoneType_str, Px.kb_NoneType_list, Px.kb_NoneType_tuple, Px.kb_NoneType_dict, Px.kb_bool_int, Px.kb_bool_bool, Px.kb_bool_str, Px.kb_bool_list, Px.kb_bool_tuple, Px.kb_bool_dict, Px.kb_int_int, Px.kb_int_bool, Px.kb_int_str, Px.kb_int_list, Px.kb_int_tuple, Px.kb_int_dict, Px.kb_str_int, Px.kb_str_bool, Px.kb_str_str, Px.kb_str_list, Px.kb_str_tuple, Px.kb_str_dict, Px.kb_list_int, Px.kb_list_bool, Px.kb_list_str, Px.kb_list_list, Px.kb_list_tuple, Px.kb_list_dict, Px.kb_tuple_int, Px.kb_tuple_bool, Px.kb_tuple_str, Px.kb_tuple_list, Px.kb_tuple_tuple, Px.kb_tuple_dict, Px.kb_dict_int, Px.kb_dict_bool, Px.kb_dict_str, Px.kb_dict_list, Px.kb_dict_tuple, Px.kb_dict_dict, L2.upd_same, Px.updI, L2.ixN, List.set_cons_zero, List.set_cons_succ, List.length_cons, List.length_nil, Nat.reduceAdd, Nat.zero_add, L2.HO.lst.injEq, L2.HO.tup.injEq, L2.upd_upd, L2.V.int.injEq, L2.V.ref.injEq, L2.V.bl.injEq, L2.V.str.injEq, L2.V.ty.injEq, List.cons.injEq, and_true, true_and, and_false, false_and, or_false, false_or, exists_eq_left', exists_eq_left, exists_and_left, exists_const, exists_false, Option.some.injEq, decide_eq_true_eq, List.append_nil, List.cons_append, List.nil_append, Option.isSome_some, Bool.not_true, Bool.not_false, Bool.not_eq_true', Bool.not_eq_true, Bool.false_eq_true, decide_eq_false_iff_not, if_true, if_false, ite_true, ite_false, Int.reduceLE, Int.reduceLT, Int.reduceToNat, Int.cast_ofNat_Int, Bool.true_eq_false, eq_self, ↓reduceIte, reduceCtorEq, Px.aug, Px.ipi, Px.tri, Px.rcatth, Px.rixs, Px.rsls, Px.tm1, Px.glst, Px.nstr, Px.txI, Px.txC, Px.txL, Px.txA, Px.rsgn, Px.txf, Px.tost, Px.tmko, Px.risxd, *, spTake]
  intro v H1 v0 v1 hp1 b1 _
  obtain ⟨c0, hc0⟩ := z_at (z := Str.ofString "123456789") v0 v1
  refine ⟨by decide +kernel, c0, hc0, ?_⟩
  refine go_seq ?_
  simp only [decide_true, decide_false, List.map_cons, List.map_nil, Option.map_none, Option.map_some, Option.getD_none, Option.getD_some, Px.dg2, Px.dg1, Px.dg, Px.din, Px.dnotin, Px.dnew, Px.dput, Px.isD_is, Px.dget_i, Px.dget_s, Px.dput_i, Px.dput_s, Px.dOf_d, Px.rtup, Px.rlist, Px.rsl, Px.rsort, Px.rcat, Px.rapp, Px.rrev, Px.sl_ap, Px.nop, Px.part, Px.yes, Px.tyl, Px.isL_l, Px.isT_t, Px.isL_t, Px.isT_l, Px.isD_d, Px.isT_d, Px.inV_ints, Px.flat_ints, Px.flatV_i, Px.wipe_cons, Px.wipe_nil, Px.gtup, Px.gcons, Px.gnil, gt_iff_lt, ge_iff_le, Px.we, Px.wonly, Px.was, Px.cxK, not_true_eq_false, and_self, true_implies, false_implies, implies_true, Px.e0, and_assoc, imp_false, not_false_eq_true, ne_eq, Px.rgcd, Px.rixl, Px.rixt, Px.v0, Px.v1, Px.v2, Px.v3, Px.v4, Px.v5, Px.v6, Px.v7, Px.v8, Px.v9, Px.v10, Px.v11, Px.v12, Px.v13, Px.v14, Px.v15, Px.v16, Px.v17, Px.v18, Px.v19, Px.v20, Px.v21, Px.v22, Px.v23, Px.c0, Px.asg, Px.gnm, Px.ret, Px.retN, Px.drop, Px.nxt, Px.brk, Px.cnt, Px.ifs, Px.op, Px.un, Px.tst, Px.tbl, Px.tand, Px.tor, Px.tnot, Px.andv, Px.orv, Px.notv, Px.tif, Px.tup, Px.lst, Px.nil, Px.cons, Px.cal, Px.calS, Px.cb, Px.par, Px.gsub, Px.bits, Px.bm, Px.bm0, Px.ri, Px.ri0, Px.ru, Px.req, Px.rne, Px.rix, Px.rlen, Px.rin, Px.rsetl, Px.risi, Px.tyH_n, Px.tyH_b, Px.tyH_i, Px.tyH_s, Px.tyH_r, Px.seqH_t, Px.seqH_l, Px.seqH_fl, Px.sc_ii, Px.sc_bb, Px.sc_ss, Px.atI0, Px.atI1, Px.atI2, Px.atI3, Px.atI4, Px.atI5, Px.atI6, Px.atI7, Px.kb_NoneType_int, Px.kb_NoneType_bool, Px.kb_NoneType_str, Px.kb_NoneType_list, Px.kb_NoneType_tuple, Px.kb_NoneType_dict, Px.kb_bool_int, Px.kb_bool_bool, Px.kb_bool_str, Px.kb_bool_list, Px.kb_bool_tuple, Px.kb_bool_dict, Px.kb_int_int, Px.kb_int_bool, Px.kb_int_str, Px.kb_int_list, Px.kb_int_tuple, Px.kb_int_dict, Px.kb_str_int, Px.kb_str_bool, Px.kb_str_str, Px.kb_str_list, Px.kb_str_tuple, Px.kb_str_dict, Px.kb_list_int, Px.kb_list_bool, Px.kb_list_str, Px.kb_list_list, Px.kb_list_tuple, Px.kb_list_dict, Px.kb_tuple_int, Px.kb_tuple_bool, Px.kb_tuple_str, Px.kb_tuple_list, Px.kb_tuple_tuple, Px.kb_tuple_dict, Px.kb_dict_int, Px.kb_dict_bool, Px.kb_dict_str, Px.kb_dict_list, Px.kb_dict_tuple, Px.kb_dict_dict, L2.upd_same, Px.updI, L2.ixN, List.set_cons_zero, List.set_cons_succ, List.length_cons, List.length_nil, Nat.reduceAdd, Nat.zero_add, L2.HO.lst.injEq, L2.HO.tup.injEq, L2.upd_upd, L2.V.int.injEq, L2.V.ref.injEq, L2.V.bl.injEq, L2.V.str.injEq, L2.V.ty.injEq, List.cons.injEq, and_true, true_and, and_false, false_and, or_false, false_or, exists_eq_left', exists_eq_left, exists_and_left, exists_const, exists_false, Option.some.injEq, decide_eq_true_eq, List.append_nil, List.cons_append, List.nil_append, Option.isSome_some, Bool.not_true, Bool.not_false, Bool.not_eq_true', Bool.not_eq_true, Bool.false_eq_true, decide_eq_false_iff_not, if_true, if_false, ite_true, ite_false, Int.reduceLE, Int.reduceLT, Int.reduceToNat, Int.cast_ofNat_Int, Bool.true_eq_false, eq_self, ↓reduceIte, reduceCtorEq, Px.aug, Px.ipi, Px.tri, Px.rcatth, Px.rixs, Px.rsls, Px.tm1, Px.glst, Px.nstr, Px.txI, Px.txC, Px.txL, Px.txA, Px.rsgn, Px.txf, Px.tost, Px.tmko, Px.risxd, *, spTake]
  intro n0 H2 w0 w1 hp2 b2 _
  have b02 := b1.trans b2
  refine go_cut (fun σ' H' => ∃ n, σ' = [some (.ref p), some (.int m), some (.str (Tx [c0])), some (.int n), none] ∧ (0 ≤ n ∧ n ≤ 24) ∧ Pool H' p ∧ Px.But p H H') ?_ ?_
  · simp only [decide_true, decide_false, List.map_cons, List.map_nil, Option.map_none, Option.map_some, Option.getD_none, Option.getD_some, Px.dg2, Px.dg1, Px.dg, Px.din, Px.dnotin, Px.dnew, Px.dput, Px.isD_is, Px.dget_i, Px.dget_s, Px.dput_i, Px.dput_s, Px.dOf_d, Px.rtup, Px.rlist, Px.rsl, Px.rsort, Px.rcat, Px.rapp, Px.rrev, Px.sl_ap, Px.nop, Px.part, Px.yes, Px.tyl, Px.isL_l, Px.isT_t, Px.isL_t, Px.isT_l, Px.isD_d, Px.isT_d, Px.inV_ints, Px.flat_ints, Px.flatV_i, Px.wipe_cons, Px.wipe_nil, Px.gtup, Px.gcons, Px.gnil, gt_iff_lt, ge_iff_le, Px.we, Px.wonly, Px.was, Px.cxK, not_true_eq_false, and_self, true_implies, false_implies, implies_true, Px.e0, and_assoc, imp_false, not_false_eq_true, ne_eq, Px.rgcd, Px.rixl, Px.rixt, Px.v0, Px.v1, Px.v2, Px.v3, Px.v4, Px.v5, Px.v6, Px.v7, Px.v8, Px.v9, Px.v10, Px.v11, Px.v12, Px.v13, Px.v14, Px.v15, Px.v16, Px.v17, Px.v18, Px.v19, Px.v20, Px.v21, Px.v22, Px.v23, Px.c0, Px.asg, Px.gnm, Px.ret, Px.retN, Px.drop, Px.nxt, Px.brk, Px.cnt, Px.ifs, Px.op, Px.un, Px.tst, Px.tbl, Px.tand, Px.tor, Px.tnot, Px.andv, Px.orv, Px.notv, Px.tif, Px.tup, Px.lst, Px.nil, Px.cons, Px.cal, Px.calS, Px.cb, Px.par, Px.gsub, Px.bits, Px.bm, Px.bm0, Px.ri, Px.ri0, Px.ru, Px.req, Px.rne, Px.rix, Px.rlen, Px.rin, Px.rsetl, Px.risi, Px.tyH_n, Px.tyH_b, Px.tyH_i, Px.tyH_s, Px.tyH_r, Px.seqH_t, Px.seqH_l, Px.seqH_fl, Px.sc_ii, Px.sc_bb, Px.sc_ss, Px.atI0, Px.atI1, Px.atI2, Px.atI3, Px.atI4, Px.atI5, Px.atI6, Px.atI7, Px.kb_NoneType_int, Px.kb_NoneType_bool, Px.kb_NoneType_str, Px.kb_NoneType_list, Px.kb_NoneType_tuple, Px.kb_NoneType_dict, Px.kb_bool_int, Px.kb_bool_bool, Px.kb_bool_str, Px.kb_bool_list, Px.kb_bool_tuple, Px.kb_bool_dict, Px.kb_int_int, Px.kb_int_bool, Px.kb_int_str, Px.kb_int_list, Px.kb_int_tuple, Px.kb_int_dict, Px.kb_str_int, Px.kb_str_bool, Px.kb_str_str, Px.kb_str_list, Px.kb_str_tuple, Px.kb_str_dict, Px.kb_list_int, Px.kb_list_bool, Px.kb_list_str, Px.kb_list_list, Px.kb_list_tuple, Px.kb_list_dict, Px.kb_tuple_int, Px.kb_tuple_bool, Px.kb_tuple_str, Px.kb_tuple_list, Px.kb_tuple_tuple, Px.kb_tuple_dict, Px.kb_dict_int, Px.kb_dict_bool, Px.kb_dict_str, Px.kb_dict_list, Px.kb_dict_tuple, Px.kb_dict_dict, L2.upd_same, Px.updI, L2.ixN, List.set_cons_zero, List.set_cons_succ, List.length_cons, List.length_nil, Nat.reduceAdd, Nat.zero_add, L2.HO.lst.injEq, L2.HO.tup.injEq, L2.upd_upd, L2.V.int.injEq, L2.V.ref.injEq, L2.V.bl.injEq, L2.V.str.injEq, L2.V.ty.injEq, List.cons.injEq, and_true, true_and, and_false, false_and, or_false, false_or, exists_eq_left', exists_eq_left, exists_and_left, exists_const, exists_false, Option.some.injEq, decide_eq_true_eq, List.append_nil, List.cons_append, List.nil_append, Option.isSome_some, Bool.not_true, Bool.not_false, Bool.not_eq_true', Bool.not_eq_true, Bool.false_eq_true, decide_eq_false_iff_not, if_true, if_false, ite_true, ite_false, Int.reduceLE, Int.reduceLT, Int.reduceToNat, Int.cast_ofNat_Int, Bool.true_eq_false, eq_self, ↓reduceIte, reduceCtorEq, Px.aug, Px.ipi, Px.tri, Px.rcatth, Px.rixs, Px.rsls, Px.tm1, Px.glst, Px.nstr, Px.txI, Px.txC, Px.txL, Px.txA, Px.rsgn, Px.txf, Px.tost, Px.tmko, Px.risxd, *, spTake]
    refine go_if (fun h => ?_) (fun h => ⟨by omega, b02⟩)
    exact ⟨by omega, fun v H3 v0 v1 hp3 b3 _ => ⟨by omega, by omega, hp3, b02.trans b3⟩⟩
  rintro σ' H3 ⟨n, rfl, hn, hp3, b3⟩
  refine go_seq ?_
  refine for_r1 (IDg p m n H) n ?_ ⟨by omega, by omega⟩ ⟨_, _, rfl, by rw [z_one]; exact Nat.le_refl _, hp3, b3⟩ ?_ ?_
  · intro R hR
    simp only [decide_true, decide_false, List.map_cons, List.map_nil, Option.map_none, Option.map_some, Option.getD_none, Option.getD_some, Px.dg2, Px.dg1, Px.dg, Px.din, Px.dnotin, Px.dnew, Px.dput, Px.isD_is, Px.dget_i, Px.dget_s, Px.dput_i, Px.dput_s, Px.dOf_d, Px.rtup, Px.rlist, Px.rsl, Px.rsort, Px.rcat, Px.rapp, Px.rrev, Px.sl_ap, Px.nop, Px.part, Px.yes, Px.tyl, Px.isL_l, Px.isT_t, Px.isL_t, Px.isT_l, Px.isD_d, Px.isT_d, Px.inV_ints, Px.flat_ints, Px.flatV_i, Px.wipe_cons, Px.wipe_nil, Px.gtup, Px.gcons, Px.gnil, gt_iff_lt, ge_iff_le, Px.we, Px.wonly, Px.was, Px.cxK, not_true_eq_false, and_self, true_implies, false_implies, implies_true, Px.e0, and_assoc, imp_false, not_false_eq_true, ne_eq, Px.rgcd, Px.rixl, Px.rixt, Px.v0, Px.v1, Px.v2, Px.v3, Px.v4, Px.v5, Px.v6, Px.v7, Px.v8, Px.v9, Px.v10, Px.v11, Px.v12, Px.v13, Px.v14, Px.v15, Px.v16, Px.v17, Px.v18, Px.v19, Px.v20, Px.v21, Px.v22, Px.v23, Px.c0, Px.asg, Px.gnm, Px.ret, Px.retN, Px.drop, Px.nxt, Px.brk, Px.cnt, Px.ifs, Px.op, Px.un, Px.tst, Px.tbl, Px.tand, Px.tor, Px.tnot, Px.andv, Px.orv, Px.notv, Px.tif, Px.tup, Px.lst, Px.nil, Px.cons, Px.cal, Px.calS, Px.cb, Px.par, Px.gsub, Px.bits, Px.bm, Px.bm0, Px.ri, Px.ri0, Px.ru, Px.req, Px.rne, Px.rix, Px.rlen, Px.rin, Px.rsetl, Px.risi, Px.tyH_n, Px.tyH_b, Px.tyH_i, Px.tyH_s, Px.tyH_r, Px.seqH_t, Px.seqH_l, Px.seqH_fl, Px.sc_ii, Px.sc_bb, Px.sc_ss, Px.atI0, Px.atI1, Px.atI2, Px.atI3, Px.atI4, Px.atI5, Px.atI6, Px.atI7, Px.kb_NoneType_int, Px.kb_NoneType_bool, Px.kb_NoneType_str, Px.kb_NoneType_list, Px.kb_NoneType_tuple, Px.kb_NoneType_dict, Px.kb_bool_int, Px.kb_bool_bool, Px.kb_bool_str, Px.kb_bool_list, Px.kb_bool_tuple, Px.kb_bool_dict, Px.kb_int_int, Px.kb_int_bool, Px.kb_int_str, Px.kb_int_list, Px.kb_int_tuple, Px.kb_int_dict, Px.kb_str_int, Px.kb_str_bool, Px.kb_str_str, Px.kb_str_list, Px.kb_str_tuple, Px.kb_str_dict, Px.kb_list_int, Px.kb_list_bool, Px.kb_list_str, Px.kb_list_list, Px.kb_list_tuple, Px.kb_list_dict, Px.kb_tuple_int, Px.kb_tuple_bool, Px.kb_tuple_str, Px.kb_tuple_list, Px.kb_tuple_tuple, Px.kb_tuple_dict, Px.kb_dict_int, Px.kb_dict_bool, Px.kb_dict_str, Px.kb_dict_list, Px.kb_dict_tuple, Px.kb_dict_dict, L2.upd_same, Px.updI, L2.ixN, List.set_cons_zero, List.set_cons_succ, List.length_cons, List.length_nil, Nat.reduceAdd, Nat.zero_add, L2.HO.lst.injEq, L2.HO.tup.injEq, L2.upd_upd, L2.V.int.injEq, L2.V.ref.injEq, L2.V.bl.injEq, L2.V.str.injEq, L2.V.ty.injEq, List.cons.injEq, and_true, true_and, and_false, false_and, or_false, false_or, exists_eq_left', exists_eq_left, exists_and_left, exists_const, exists_false, Option.some.injEq, decide_eq_true_eq, List.append_nil, List.cons_append, List.nil_append, Option.isSome_some, Bool.not_true, Bool.not_false, Bool.not_eq_true', Bool.not_eq_true, Bool.false_eq_true, decide_eq_false_iff_not, if_true, if_false, ite_true, ite_false, Int.reduceLE, Int.reduceLT, Int.reduceToNat, Int.cast_ofNat_Int, Bool.true_eq_false, eq_self, ↓reduceIte, reduceCtorEq, Px.aug, Px.ipi, Px.tri, Px.rcatth, Px.rixs, Px.rsls, Px.tm1, Px.glst, Px.nstr, Px.txI, Px.txC, Px.txL, Px.txA, Px.rsgn, Px.txf, Px.tost, Px.tmko, Px.risxd, *]
  · rintro i σ' H4 hi ⟨z, v, rfl, hz, hp4, b4⟩
    simp only [decide_true, decide_false, List.map_cons, List.map_nil, Option.map_none, Option.map_some, Option.getD_none, Option.getD_some, Px.dg2, Px.dg1, Px.dg, Px.din, Px.dnotin, Px.dnew, Px.dput, Px.isD_is, Px.dget_i, Px.dget_s, Px.dput_i, Px.dput_s, Px.dOf_d, Px.rtup, Px.rlist, Px.rsl, Px.rsort, Px.rcat, Px.rapp, Px.rrev, Px.sl_ap, Px.nop, Px.part, Px.yes, Px.tyl, Px.isL_l, Px.isT_t, Px.isL_t, Px.isT_l, Px.isD_d, Px.isT_d, Px.inV_ints, Px.flat_ints, Px.flatV_i, Px.wipe_cons, Px.wipe_nil, Px.gtup, Px.gcons, Px.gnil, gt_iff_lt, ge_iff_le, Px.we, Px.wonly, Px.was, Px.cxK, not_true_eq_false, and_self, true_implies, false_implies, implies_true, Px.e0, and_assoc, imp_false, not_false_eq_true, ne_eq, Px.rgcd, Px.rixl, Px.rixt, Px.v0, Px.v1, Px.v2, Px.v3, Px.v4, Px.v5, Px.v6, Px.v7, Px.v8, Px.v9, Px.v10, Px.v11, Px.v12, Px.v13, Px.v14, Px.v15, Px.v16, Px.v17, Px.v18, Px.v19, Px.v20, Px.v21, Px.v22, Px.v23, Px.c0, Px.asg, Px.gnm, Px.ret, Px.retN, Px.drop, Px.nxt, Px.brk, Px.cnt, Px.ifs, Px.op, Px.un, Px.tst, Px.tbl, Px.tand, Px.tor, Px.tnot, Px.andv, Px.orv, Px.notv, Px.tif, Px.tup, Px.lst, Px.nil, Px.cons, Px.cal, Px.calS, Px.cb, Px.par, Px.gsub, Px.bits, Px.bm, Px.bm0, Px.ri, Px.ri0, Px.ru, Px.req, Px.rne, Px.rix, Px.rlen, Px.rin, Px.rsetl, Px.risi, Px.tyH_n, Px.tyH_b, Px.tyH_i, Px.tyH_s, Px.tyH_r, Px.seqH_t, Px.seqH_l, Px.seqH_fl, Px.sc_ii, Px.sc_bb, Px.sc_ss, Px.atI0, Px.atI1, Px.atI2, Px.atI3, Px.atI4, Px.atI5, Px.atI6, Px.atI7, Px.kb_NoneType_int, Px.kb_NoneType_bool, Px.kb_NoneType_str, Px.kb_NoneType_list, Px.kb_NoneType_tuple, Px.kb_NoneType_dict, Px.kb_bool_int, Px.kb_bool_bool, Px.kb_bool_str, Px.kb_bool_list, Px.kb_bool_tuple, Px.kb_bool_dict, Px.kb_int_int, Px.kb_int_bool, Px.kb_int_str, Px.kb_int_list, Px.kb_int_tuple, Px.kb_int_dict, Px.kb_str_int, Px.kb_str_bool, Px.kb_str_str, Px.kb_str_list, Px.kb_str_tuple, Px.kb_str_dict, Px.kb_list_int, Px.kb_list_bool, Px.kb_list_str, Px.kb_list_list, Px.kb_list_tuple, Px.kb_list_dict, Px.kb_tuple_int, Px.kb_tuple_bool, Px.kb_tuple_str, Px.kb_tuple_list, Px.kb_tuple_tuple, Px.kb_tuple_dict, Px.kb_dict_int, Px.kb_dict_bool, Px.kb_dict_str, Px.kb_dict_list, Px.kb_dict_tuple, Px.kb_dict_dict, L2.upd_same, Px.updI, L2.ixN, List.set_cons_zero, List.set_cons_succ, List.length_cons, List.length_nil, Nat.reduceAdd, Nat.zero_add, L2.HO.lst.injEq, L2.HO.tup.injEq, L2.upd_upd, L2.V.int.injEq, L2.V.ref.injEq, L2.V.bl.injEq, L2.V.str.injEq, L2.V.ty.injEq, List.cons.injEq, and_true, true_and, and_false, false_and, or_false, false_or, exists_eq_left', exists_eq_left, exists_and_left, exists_const, exists_false, Option.some.injEq, decide_eq_true_eq, List.append_nil, List.cons_append, List.nil_append, Option.isSome_some, Bool.not_true, Bool.not_false, Bool.not_eq_true', Bool.not_eq_true, Bool.false_eq_true, decide_eq_false_iff_not, if_true, if_false, ite_true, ite_false, Int.reduceLE, Int.reduceLT, Int.reduceToNat, Int.cast_ofNat_Int, Bool.true_eq_false, eq_self, ↓reduceIte, reduceCtorEq, Px.aug, Px.ipi, Px.tri, Px.rcatth, Px.rixs, Px.rsls, Px.tm1, Px.glst, Px.nstr, Px.txI, Px.txC, Px.txL, Px.txA, Px.rsgn, Px.txf, Px.tost, Px.tmko, Px.risxd, *, spTake]
    intro u H5 u0 u1 hp5 b5 _
    obtain ⟨c, hc⟩ := z_at (z := Str.ofString "0123456789") u0 u1
    refine ⟨by decide +kernel, c, hc, line_ok (show _ ≤ 10000 by omega), _, _, rfl, ?_, hp5, b4.trans b5⟩
    rw [z_app, z_one]
    omega
  · rintro σ' H4 ⟨z, v, rfl, hz, hp4, b4⟩
    simp only [decide_true, decide_false, List.map_cons, List.map_nil, Option.map_none, Option.map_some, Option.getD_none, Option.getD_some, Px.dg2, Px.dg1, Px.dg, Px.din, Px.dnotin, Px.dnew, Px.dput, Px.isD_is, Px.dget_i, Px.dget_s, Px.dput_i, Px.dput_s, Px.dOf_d, Px.rtup, Px.rlist, Px.rsl, Px.rsort, Px.rcat, Px.rapp, Px.rrev, Px.sl_ap, Px.nop, Px.part, Px.yes, Px.tyl, Px.isL_l, Px.isT_t, Px.isL_t, Px.isT_l, Px.isD_d, Px.isT_d, Px.inV_ints, Px.flat_ints, Px.flatV_i, Px.wipe_cons, Px.wipe_nil, Px.gtup, Px.gcons, Px.gnil, gt_iff_lt, ge_iff_le, Px.we, Px.wonly, Px.was, Px.cxK, not_true_eq_false, and_self, true_implies, false_implies, implies_true, Px.e0, and_assoc, imp_false, not_false_eq_true, ne_eq, Px.rgcd, Px.rixl, Px.rixt, Px.v0, Px.v1, Px.v2, Px.v3, Px.v4, Px.v5, Px.v6, Px.v7, Px.v8, Px.v9, Px.v10, Px.v11, Px.v12, Px.v13, Px.v14, Px.v15, Px.v16, Px.v17, Px.v18, Px.v19, Px.v20, Px.v21, Px.v22, Px.v23, Px.c0, Px.asg, Px.gnm, Px.ret, Px.retN, Px.drop, Px.nxt, Px.brk, Px.cnt, Px.ifs, Px.op, Px.un, Px.tst, Px.tbl, Px.tand, Px.tor, Px.tnot, Px.andv, Px.orv, Px.notv, Px.tif, Px.tup, Px.lst, Px.nil, Px.cons, Px.cal, Px.calS, Px.cb, Px.par, Px.gsub, Px.bits, Px.bm, Px.bm0, Px.ri, Px.ri0, Px.ru, Px.req, Px.rne, Px.rix, Px.rlen, Px.rin, Px.rsetl, Px.risi, Px.tyH_n, Px.tyH_b, Px.tyH_i, Px.tyH_s, Px.tyH_r, Px.seqH_t, Px.seqH_l, Px.seqH_fl, Px.sc_ii, Px.sc_bb, Px.sc_ss, Px.atI0, Px.atI1, Px.atI2, Px.atI3, Px.atI4, Px.atI5, Px.atI6, Px.atI7, Px.kb_NoneType_int, Px.kb_NoneType_bool, Px.kb_NoneType_str, Px.kb_NoneType_list, Px.kb_NoneType_tuple, Px.kb_NoneType_dict, Px.kb_bool_int, Px.kb_bool_bool, Px.kb_bool_str, Px.kb_bool_list, Px.kb_bool_tuple, Px.kb_bool_dict, Px.kb_int_int, Px.kb_int_bool, Px.kb_int_str, Px.kb_int_list, Px.kb_int_tuple, Px.kb_int_dict, Px.kb_str_int, Px.kb_str_bool, Px.kb_str_str, Px.kb_str_list, Px.kb_str_tuple, Px.kb_str_dict, Px.kb_list_int, Px.kb_list_bool, Px.kb_list_str, Px.kb_list_list, Px.kb_list_tuple, Px.kb_list_dict, Px.kb_tuple_int, Px.kb_tuple_bool, Px.kb_tuple_str, Px.kb_tuple_list, Px.kb_tuple_tuple, Px.kb_tuple_dict, Px.kb_dict_int, Px.kb_dict_bool, Px.kb_dict_str, Px.kb_dict_list, Px.kb_dict_tuple, Px.kb_dict_dict, L2.upd_same, Px.updI, L2.ixN, List.set_cons_zero, List.set_cons_succ, List.length_cons, List.length_nil, Nat.reduceAdd, Nat.zero_add, L2.HO.lst.injEq, L2.HO.tup.injEq, L2.upd_upd, L2.V.int.injEq, L2.V.ref.injEq, L2.V.bl.injEq, L2.V.str.injEq, L2.V.ty.injEq, List.cons.injEq, and_true, true_and, and_false, false_and, or_false, false_or, exists_eq_left', exists_eq_left, exists_and_left, exists_const, exists_false, Option.some.injEq, decide_eq_true_eq, List.append_nil, List.cons_append, List.nil_append, Option.isSome_some, Bool.not_true, Bool.not_false, Bool.not_eq_true', Bool.not_eq_true, Bool.false_eq_true, decide_eq_false_iff_not, if_true, if_false, ite_true, ite_false, Int.reduceLE, Int.reduceLT, Int.reduceToNat, Int.cast_ofNat_Int, Bool.true_eq_false, eq_self, ↓reduceIte, reduceCtorEq, Px.aug, Px.ipi, Px.tri, Px.rcatth, Px.rixs, Px.rsls, Px.tm1, Px.glst, Px.nstr, Px.txI, Px.txC, Px.txL, Px.txA, Px.rsgn, Px.txf, Px.tost, Px.tmko, Px.risxd]
    exact k z H4 (by omega) hp4 b4
theorem ok_word (B : Bn mg) (F : FunAt K mg "_law_word" s_law_word) (D_law_take : Def P w K mg base CX0 1 "_law_take" ["pool", "size"] spTake) (D_law_digits : Def P w K mg base CX0 2 "_law_digits" ["pool", "most"] (spZm 25)) : Def P w K mg base CX0 3 "_law_word" ["pool", "most"] (spZm 26) := by
  refine F.ok sc_law_word (fun _ _ _ _ _ _ us hl => match us, hl with | [_, _], _ => rfl) (fun vs H Q E h => by obtain ⟨_, _, rfl, _⟩ := h; rfl) (fun f cdv A outer s H vs Q E hr h => ?_)
  obtain ⟨p, m, rfl, hm, hp, k⟩ := h
  refine ⟨_, pss_cons (ps_set (i := 2) sc_law_word.nd rfl (Or.inl rfl) (pe_fn D_law_take (hr.mono (by decide)) pass0 (pa_cons (pv 0) (pa_cons pe_int pa_nil)))) (
  pss_cons (ps_if (pt_cmpR op_eq (pv 2) pe_int (nomark _)) (pss_one (ps_ret pe_str)) (pss_nil)) (
  pss_cons (ps_if (pt_cmpR op_eq (pv 2) pe_int (nomark _)) (pss_one (ps_ret (pe_op op_add_str pe_str (pe_fn D_law_digits hr pass0 (pa_cons (pv 0) (pa_cons (pv 1) pa_nil)))))) (pss_nil)) (
  pss_one (ps_ret (pe_fn D_law_digits hr pass0 (pa_cons (pv 0) (pa_cons (pv 1) pa_nil))))))), ?_⟩
  show tSeq _ _ _ [some (.ref p), some (.int m), none] H
  refine go_seq ?_
  simp only [decide_true, decide_false, List.map_cons, List.map_nil, Option.map_none, Option.map_some, Option.getD_none, Option.getD_some, Px.dg2, Px.dg1, Px.dg, Px.din, Px.dnotin, Px.dnew, Px.dput, Px.isD_is, Px.dget_i, Px.dget_s, Px.dput_i, Px.dput_s, Px.dOf_d, Px.rtup, Px.rlist, Px.rsl, Px.rsort, Px.rcat, Px.rapp, Px.rrev, Px.sl_ap, Px.nop, Px.part, Px.yes, Px.tyl, Px.isL_l, Px.isT_t, Px.isL_t, Px.isT_l, Px.isD_d, Px.isT_d, Px.inV_ints, Px.flat_ints, Px.flatV_i, Px.wipe_cons, Px.wipe_nil, Px.gtup, Px.gcons, Px.gnil, gt_iff_lt, ge_iff_le, Px.we, Px.wonly, Px.was, Px.cxK, not_true_eq_false, and_self, true_implies, false_implies, implies_true, Px.e0, and_assoc, imp_false, not_false_eq_true, ne_eq, Px.rgcd, Px.rixl, Px.rixt, Px.v0, Px.v1, Px.v2, Px.v3, Px.v4, Px.v5, Px.v6, Px.v7, Px.v8, Px.v9, Px.v10, Px.v11, Px.v12, Px.v13, Px.v14, Px.v15, Px.v16, Px.v17, Px.v18, Px.v19, Px.v20, Px.v21, Px.v22, Px.v23, Px.c0, Px.asg, Px.gnm, Px.ret, Px.retN, Px.drop, Px.nxt, Px.brk, Px.cnt, Px.ifs, Px.op, Px.un, Px.tst, Px.tbl, Px.tand, Px.tor, Px.tnot, Px.andv, Px.orv, Px.notv, Px.tif, Px.tup, Px.lst, Px.nil, Px.cons, Px.cal, Px.calS, Px.cb, Px.par, Px.gsub, Px.bits, Px.bm, Px.bm0, Px.ri, Px.ri0, Px.ru, Px.req, Px.rne, Px.rix, Px.rlen, Px.rin, Px.rsetl, Px.risi, Px.tyH_n, Px.tyH_b, Px.tyH_i, Px.tyH_s, Px.tyH_r, Px.seqH_t, Px.seqH_l, Px.seqH_fl, Px.sc_ii, Px.sc_bb, Px.sc_ss, Px.atI0, Px.atI1, Px.atI2, Px.atI3, Px.atI4, Px.atI5, Px.atI6, Px.atI7, Px.kb_NoneType_int, Px.kb_NoneType_bool, Px.kb_NoneType_str, Px.kb_NoneType_list, Px.kb_NoneType_tuple, Px.kb_NoneType_dict, Px.kb_bool_int, Px.kb_bool_bool, Px.kb_bool_str, Px.kb_bool_list, Px.kb_bool_tuple, Px.kb_bool_dict, Px.kb_int_int, Px.kb_int_bool, Px.kb_int_str, Px.kb_int_list, Px.kb_int_tuple, Px.kb_int_dict, Px.kb_str_int, Px.kb_str_bool, Px.kb_str_str, Px.kb_str_list, Px.kb_str_tuple, Px.kb_str_dict, Px.kb_list_int, Px.kb_list_bool, Px.kb_list_str, Px.kb_list_list, Px.kb_list_tuple, Px.kb_list_dict, Px.kb_tuple_int, Px.kb_tuple_bool, Px.kb_tuple_str, Px.kb_tuple_list, Px.kb_tuple_tuple, Px.kb_tuple_dict, Px.kb_dict_int, Px.kb_dict_bool, Px.kb_dict_str, Px.kb_dict_list, Px.kb_dict_tuple, Px.kb_dict_dict, L2.upd_same, Px.updI, L2.ixN, List.set_cons_zero, List.set_cons_succ, List.length_cons, List.length_nil, Nat.reduceAdd, Nat.zero_add, L2.HO.lst.injEq, L2.HO.tup.injEq, L2.upd_upd, L2.V.int.injEq, L2.V.ref.injEq, L2.V.bl.injEq, L2.V.str.injEq, L2.V.ty.injEq, List.cons.injEq, and_true, true_and, and_false, false_and, or_false, false_or, exists_eq_left', exists_eq_left, exists_and_left, exists_const, exists_false, Option.some.injEq, decide_eq_true_eq, List.append_nil, List.cons_append, List.nil_append, Option.isSome_some, Bool.not_true, Bool.not_false, Bool.not_eq_true', Bool.not_eq_true, Bool.false_eq_true, decide_eq_false_iff_not, if_true, if_false, ite_true, ite_false, Int.reduceLE, Int.reduceLT, Int.reduceToNat, Int.cast_ofNat_Int, Bool.true_eq_false, eq_self, ↓reduceIte, reduceCtorEq, Px.aug, Px.ipi, Px.tri, Px.rcatth, Px.rixs, Px.rsls, Px.tm1, Px.glst, Px.nstr, Px.txI, Px.txC, Px.txL, Px.txA, Px.rsgn, Px.txf, Px.tost, Px.tmko, Px.risxd, *, spTake]
  intro v H1 v0 v1 hp1 b1 _
  refine go_seq ?_
  simp only [decide_true, decide_false, List.map_cons, List.map_nil, Option.map_none, Option.map_some, Option.getD_none, Option.getD_some, Px.dg2, Px.dg1, Px.dg, Px.din, Px.dnotin, Px.dnew, Px.dput, Px.isD_is, Px.dget_i, Px.dget_s, Px.dput_i, Px.dput_s, Px.dOf_d, Px.rtup, Px.rlist, Px.rsl, Px.rsort, Px.rcat, Px.rapp, Px.rrev, Px.sl_ap, Px.nop, Px.part, Px.yes, Px.tyl, Px.isL_l, Px.isT_t, Px.isL_t, Px.isT_l, Px.isD_d, Px.isT_d, Px.inV_ints, Px.flat_ints, Px.flatV_i, Px.wipe_cons, Px.wipe_nil, Px.gtup, Px.gcons, Px.gnil, gt_iff_lt, ge_iff_le, Px.we, Px.wonly, Px.was, Px.cxK, not_true_eq_false, and_self, true_implies, false_implies, implies_true, Px.e0, and_assoc, imp_false, not_false_eq_true, ne_eq, Px.rgcd, Px.rixl, Px.rixt, Px.v0, Px.v1, Px.v2, Px.v3, Px.v4, Px.v5, Px.v6, Px.v7, Px.v8, Px.v9, Px.v10, Px.v11, Px.v12, Px.v13, Px.v14, Px.v15, Px.v16, Px.v17, Px.v18, Px.v19, Px.v20, Px.v21, Px.v22, Px.v23, Px.c0, Px.asg, Px.gnm, Px.ret, Px.retN, Px.drop, Px.nxt, Px.brk, Px.cnt, Px.ifs, Px.op, Px.un, Px.tst, Px.tbl, Px.tand, Px.tor, Px.tnot, Px.andv, Px.orv, Px.notv, Px.tif, Px.tup, Px.lst, Px.nil, Px.cons, Px.cal, Px.calS, Px.cb, Px.par, Px.gsub, Px.bits, Px.bm, Px.bm0, Px.ri, Px.ri0, Px.ru, Px.req, Px.rne, Px.rix, Px.rlen, Px.rin, Px.rsetl, Px.risi, Px.tyH_n, Px.tyH_b, Px.tyH_i, Px.tyH_s, Px.tyH_r, Px.seqH_t, Px.seqH_l, Px.seqH_fl, Px.sc_ii, Px.sc_bb, Px.sc_ss, Px.atI0, Px.atI1, Px.atI2, Px.atI3, Px.atI4, Px.atI5, Px.atI6, Px.atI7, Px.kb_NoneType_int, Px.kb_NoneType_bool, Px.kb_NoneType_str, Px.kb_NoneType_list, Px.kb_NoneType_tuple, Px.kb_NoneType_dict, Px.kb_bool_int, Px.kb_bool_bool, Px.kb_bool_str, Px.kb_bool_list, Px.kb_bool_tuple, Px.kb_bool_dict, Px.kb_int_int, Px.kb_int_bool, Px.kb_int_str, Px.kb_int_list, Px.kb_int_tuple, Px.kb_int_dict, Px.kb_str_int, Px.kb_str_bool, Px.kb_str_str, Px.kb_str_list, Px.kb_str_tuple, Px.kb_str_dict, Px.kb_list_int, Px.kb_list_bool, Px.kb_list_str, Px.kb_list_list, Px.kb_list_tuple, Px.kb_list_dict, Px.kb_tuple_int, Px.kb_tuple_bool, Px.kb_tuple_str, Px.kb_tuple_list, Px.kb_tuple_tuple, Px.kb_tuple_dict, Px.kb_dict_int, Px.kb_dict_bool, Px.kb_dict_str, Px.kb_dict_list, Px.kb_dict_tuple, Px.kb_dict_dict, L2.upd_same, Px.updI, L2.ixN, List.set_cons_zero, List.set_cons_succ, List.length_cons, List.length_nil, Nat.reduceAdd, Nat.zero_add, L2.HO.lst.injEq, L2.HO.tup.injEq, L2.upd_upd, L2.V.int.injEq, L2.V.ref.injEq, L2.V.bl.injEq, L2.V.str.injEq, L2.V.ty.injEq, List.cons.injEq, and_true, true_and, and_false, false_and, or_false, false_or, exists_eq_left', exists_eq_left, exists_and_left, exists_const, exists_false, Option.some.injEq, decide_eq_true_eq, List.append_nil, List.cons_append, List.nil_append, Option.isSome_some, Bool.not_true, Bool.not_false, Bool.not_eq_true', Bool.not_eq_true, Bool.false_eq_true, decide_eq_false_iff_not, if_true, if_false, ite_true, ite_false, Int.reduceLE, Int.reduceLT, Int.reduceToNat, Int.cast_ofNat_Int, Bool.true_eq_false, eq_self, ↓reduceIte, reduceCtorEq, Px.aug, Px.ipi, Px.tri, Px.rcatth, Px.rixs, Px.rsls, Px.tm1, Px.glst, Px.nstr, Px.txI, Px.txC, Px.txL, Px.txA, Px.rsgn, Px.txf, Px.tost, Px.tmko, Px.risxd, *, spZm]
  refine go_if (fun _ => k _ H1 (by decide) hp1 b1) (fun _ => ?_)
  refine go_seq ?_
  simp only [decide_true, decide_false, List.map_cons, List.map_nil, Option.map_none, Option.map_some, Option.getD_none, Option.getD_some, Px.dg2, Px.dg1, Px.dg, Px.din, Px.dnotin, Px.dnew, Px.dput, Px.isD_is, Px.dget_i, Px.dget_s, Px.dput_i, Px.dput_s, Px.dOf_d, Px.rtup, Px.rlist, Px.rsl, Px.rsort, Px.rcat, Px.rapp, Px.rrev, Px.sl_ap, Px.nop, Px.part, Px.yes, Px.tyl, Px.isL_l, Px.isT_t, Px.isL_t, Px.isT_l, Px.isD_d, Px.isT_d, Px.inV_ints, Px.flat_ints, Px.flatV_i, Px.wipe_cons, Px.wipe_nil, Px.gtup, Px.gcons, Px.gnil, gt_iff_lt, ge_iff_le, Px.we, Px.wonly, Px.was, Px.cxK, not_true_eq_false, and_self, true_implies, false_implies, implies_true, Px.e0, and_assoc, imp_false, not_false_eq_true, ne_eq, Px.rgcd, Px.rixl, Px.rixt, Px.v0, Px.v1, Px.v2, Px.v3, Px.v4, Px.v5, Px.v6, Px.v7, Px.v8, Px.v9, Px.v10, Px.v11, Px.v12, Px.v13, Px.v14, Px.v15, Px.v16, Px.v17, Px.v18, Px.v19, Px.v20, Px.v21, Px.v22, Px.v23, Px.c0, Px.asg, Px.gnm, Px.ret, Px.retN, Px.drop, Px.nxt, Px.brk, Px.cnt, Px.ifs, Px.op, Px.un, Px.tst, Px.tbl, Px.tand, Px.tor, Px.tnot, Px.andv, Px.orv, Px.notv, Px.tif, Px.tup, Px.lst, Px.nil, Px.cons, Px.cal, Px.calS, Px.cb, Px.par, Px.gsub, Px.bits, Px.bm, Px.bm0, Px.ri, Px.ri0, Px.ru, Px.req, Px.rne, Px.rix, Px.rlen, Px.rin, Px.rsetl, Px.risi, Px.tyH_n, Px.tyH_b, Px.tyH_i, Px.tyH_s, Px.tyH_r, Px.seqH_t, Px.seqH_l, Px.seqH_fl, Px.sc_ii, Px.sc_bb, Px.sc_ss, Px.atI0, Px.atI1, Px.atI2, Px.atI3, Px.atI4, Px.atI5, Px.atI6, Px.atI7, Px.kb_NoneType_int, Px.kb_NoneType_bool, Px.kb_NoneType_str, Px.kb_NoneType_list, Px.kb_NoneType_tuple, Px.kb_NoneType_dict, Px.kb_bool_int, Px.kb_bool_bool, Px.kb_bool_str, Px.kb_bool_list, Px.kb_bool_tuple, Px.kb_bool_dict, Px.kb_int_int, Px.kb_int_bool, Px.kb_int_str, Px.kb_int_list, Px.kb_int_tuple, Px.kb_int_dict, Px.kb_str_int, Px.kb_str_bool, Px.kb_str_str, Px.kb_str_list, Px.kb_str_tuple, Px.kb_str_dict, Px.kb_list_int, Px.kb_list_bool, Px.kb_list_str, Px.kb_list_list, Px.kb_list_tuple, Px.kb_list_dict, Px.kb_tuple_int, Px.kb_tuple_bool, Px.kb_tuple_str, Px.kb_tuple_list, Px.kb_tuple_tuple, Px.kb_tuple_dict, Px.kb_dict_int, Px.kb_dict_bool, Px.kb_dict_str, Px.kb_dict_list, Px.kb_dict_tuple, Px.kb_dict_dict, L2.upd_same, Px.updI, L2.ixN, List.set_cons_zero, List.set_cons_succ, List.length_cons, List.length_nil, Nat.reduceAdd, Nat.zero_add, L2.HO.lst.injEq, L2.HO.tup.injEq, L2.upd_upd, L2.V.int.injEq, L2.V.ref.injEq, L2.V.bl.injEq, L2.V.str.injEq, L2.V.ty.injEq, List.cons.injEq, and_true, true_and, and_false, false_and, or_false, false_or, exists_eq_left', exists_eq_left, exists_and_left, exists_const, exists_false, Option.some.injEq, decide_eq_true_eq, List.append_nil, List.cons_append, List.nil_append, Option.isSome_some, Bool.not_true, Bool.not_false, Bool.not_eq_true', Bool.not_eq_true, Bool.false_eq_true, decide_eq_false_iff_not, if_true, if_false, ite_true, ite_false, Int.reduceLE, Int.reduceLT, Int.reduceToNat, Int.cast_ofNat_Int, Bool.true_eq_false, eq_self, ↓reduceIte, reduceCtorEq, Px.aug, Px.ipi, Px.tri, Px.rcatth, Px.rixs, Px.rsls, Px.tm1, Px.glst, Px.nstr, Px.txI, Px.txC, Px.txL, Px.txA, Px.rsgn, Px.txf, Px.tost, Px.tmko, Px.risxd, *, spZm]
  refine go_if (fun _ => ?_) (fun _ => ?_)
  · intro z H2 hz hp2 b2
    refine ⟨line_ok (show _ ≤ 10000 by have : (Str.ofString "-").length = 1 := rfl; omega), k _ H2 ?_ hp2 (b1.trans b2)⟩
    rw [z_app]
    have : (Str.ofString "-").length = 1 := rfl
    omega
  · exact fun z H2 hz hp2 b2 => k z H2 (by omega) hp2 (b1.trans b2)
def spSigns (vs : List V) (H : Hp) (Q : VK) (_ : XK) : Prop := vs = [] ∧ ∀ z : Str, 0 < z.length → z.length ≤ 120 → Q (.str z) H
theorem ok_signs (B : Bn mg) (F : FunAt K mg "_law_signs" s_law_signs) : Def P w K mg base CX0 1 "_law_signs" [] spSigns := by
  refine F.ok sc_law_signs (fun _ _ _ _ _ _ us hl => match us, hl with | [], _ => rfl) (fun vs H Q E h => by obtain ⟨rfl, _⟩ := h; rfl) (fun f cdv A outer s H vs Q E hr h => ?_)
  obtain ⟨rfl, k⟩ := h
  refine ⟨_, pss_cons (ps_set (i := 0) sc_law_signs.nd rfl (Or.inl rfl) pe_str) (
  pss_one (ps_ret (pe_op op_add_str (pv 0) pe_str))), ?_⟩
  show tSeq _ _ _ [none] H
  refine go_seq ?_
  simp only [decide_true, decide_false, List.map_cons, List.map_nil, Option.map_none, Option.map_some, Option.getD_none, Option.getD_some, Px.dg2, Px.dg1, Px.dg, Px.din, Px.dnotin, Px.dnew, Px.dput, Px.isD_is, Px.dget_i, Px.dget_s, Px.dput_i, Px.dput_s, Px.dOf_d, Px.rtup, Px.rlist, Px.rsl, Px.rsort, Px.rcat, Px.rapp, Px.rrev, Px.sl_ap, Px.nop, Px.part, Px.yes, Px.tyl, Px.isL_l, Px.isT_t, Px.isL_t, Px.isT_l, Px.isD_d, Px.isT_d, Px.inV_ints, Px.flat_ints, Px.flatV_i, Px.wipe_cons, Px.wipe_nil, Px.gtup, Px.gcons, Px.gnil, gt_iff_lt, ge_iff_le, Px.we, Px.wonly, Px.was, Px.cxK, not_true_eq_false, and_self, true_implies, false_implies, implies_true, Px.e0, and_assoc, imp_false, not_false_eq_true, ne_eq, Px.rgcd, Px.rixl, Px.rixt, Px.v0, Px.v1, Px.v2, Px.v3, Px.v4, Px.v5, Px.v6, Px.v7, Px.v8, Px.v9, Px.v10, Px.v11, Px.v12, Px.v13, Px.v14, Px.v15, Px.v16, Px.v17, Px.v18, Px.v19, Px.v20, Px.v21, Px.v22, Px.v23, Px.c0, Px.asg, Px.gnm, Px.ret, Px.retN, Px.drop, Px.nxt, Px.brk, Px.cnt, Px.ifs, Px.op, Px.un, Px.tst, Px.tbl, Px.tand, Px.tor, Px.tnot, Px.andv, Px.orv, Px.notv, Px.tif, Px.tup, Px.lst, Px.nil, Px.cons, Px.cal, Px.calS, Px.cb, Px.par, Px.gsub, Px.bits, Px.bm, Px.bm0, Px.ri, Px.ri0, Px.ru, Px.req, Px.rne, Px.rix, Px.rlen, Px.rin, Px.rsetl, Px.risi, Px.tyH_n, Px.tyH_b, Px.tyH_i, Px.tyH_s, Px.tyH_r, Px.seqH_t, Px.seqH_l, Px.seqH_fl, Px.sc_ii, Px.sc_bb, Px.sc_ss, Px.atI0, Px.atI1, Px.atI2, Px.atI3, Px.atI4, Px.atI5, Px.atI6, Px.atI7, Px.kb_NoneType_int, Px.kb_NoneType_bool, Px.kb_NoneType_str, Px.kb_NoneType_list, Px.kb_NoneType_tuple, Px.kb_NoneType_dict, Px.kb_bool_int, Px.kb_bool_bool, Px.kb_bool_str, Px.kb_bool_list, Px.kb_bool_tuple, Px.kb_bool_dict, Px.kb_int_int, Px.kb_int_bool, Px.kb_int_str, Px.kb_int_list, Px.kb_int_tuple, Px.kb_int_dict, Px.kb_str_int, Px.kb_str_bool, Px.kb_str_str, Px.kb_str_list, Px.kb_str_tuple, Px.kb_str_dict, Px.kb_list_int, Px.kb_list_bool, Px.kb_list_str, Px.kb_list_list, Px.kb_list_tuple, Px.kb_list_dict, Px.kb_tuple_int, Px.kb_tuple_bool, Px.kb_tuple_str, Px.kb_tuple_list, Px.kb_tuple_tuple, Px.kb_tuple_dict, Px.kb_dict_int, Px.kb_dict_bool, Px.kb_dict_str, Px.kb_dict_list, Px.kb_dict_tuple, Px.kb_dict_dict, L2.upd_same, Px.updI, L2.ixN, List.set_cons_zero, List.set_cons_succ, List.length_cons, List.length_nil, Nat.reduceAdd, Nat.zero_add, L2.HO.lst.injEq, L2.HO.tup.injEq, L2.upd_upd, L2.V.int.injEq, L2.V.ref.injEq, L2.V.bl.injEq, L2.V.str.injEq, L2.V.ty.injEq, List.cons.injEq, and_true, true_and, and_false, false_and, or_false, false_or, exists_eq_left', exists_eq_left, exists_and_left, exists_const, exists_false, Option.some.injEq, decide_eq_true_eq, List.append_nil, List.cons_append, List.nil_append, Option.isSome_some, Bool.not_true, Bool.not_false, Bool.not_eq_true', Bool.not_eq_true, Bool.false_eq_true, decide_eq_false_iff_not, if_true, if_false, ite_true, ite_false, Int.reduceLE, Int.reduceLT, Int.reduceToNat, Int.cast_ofNat_Int, Bool.true_eq_false, eq_self, ↓reduceIte, reduceCtorEq, Px.aug, Px.ipi, Px.tri, Px.rcatth, Px.rixs, Px.rsls, Px.tm1, Px.glst, Px.nstr, Px.txI, Px.txC, Px.txL, Px.txA, Px.rsgn, Px.txf, Px.tost, Px.tmko, Px.risxd, *]
  exact ⟨by decide +kernel, k _ (by rw [z_app]; decide +kernel) (by rw [z_app]; decide +kernel)⟩
theorem ok_sign (B : Bn mg) (F : FunAt K mg "_law_sign" s_law_sign) (D_law_take : Def P w K mg base CX0 1 "_law_take" ["pool", "size"] spTake) (D_law_signs : Def P w K mg base CX0 1 "_law_signs" [] spSigns) : Def P w K mg base CX0 2 "_law_sign" ["pool"] (spZ 1) := by
  refine F.ok sc_law_sign (fun _ _ _ _ _ _ us hl => match us, hl with | [_], _ => rfl) (fun vs H Q E h => by obtain ⟨_, rfl, _⟩ := h; rfl) (fun f cdv A outer s H vs Q E hr h => ?_)
  obtain ⟨p, rfl, hp, k⟩ := h
  refine ⟨_, pss_cons (ps_set (i := 1) sc_law_sign.nd rfl (Or.inl rfl) pe_str) (
  pcut (ps_if (pt_cmpR op_eq (pe_fn D_law_take hr pass0 (pa_cons (pv 0) (pa_cons pe_int pa_nil))) pe_int (nomark _)) (pss_one (ps_set (i := 1) sc_law_sign.nd rfl (Or.inl rfl) (pe_fn0 D_law_signs hr pass0))) (pss_nil)) (
  pss_one (ps_ret (pe_ix ix_str (pv 1) (pe_fn D_law_take hr pass0 (pa_cons (pv 0) (pa_cons (pe_callB call_len_str rfl B.len (by decide +kernel) (pa_cons (pv 1) pa_nil)) pa_nil))) (fun _ _ => rfl))))), ?_⟩
  show tSeq _ _ _ [some (.ref p), none] H
  refine go_seq ?_
  simp only [decide_true, decide_false, List.map_cons, List.map_nil, Option.map_none, Option.map_some, Option.getD_none, Option.getD_some, Px.dg2, Px.dg1, Px.dg, Px.din, Px.dnotin, Px.dnew, Px.dput, Px.isD_is, Px.dget_i, Px.dget_s, Px.dput_i, Px.dput_s, Px.dOf_d, Px.rtup, Px.rlist, Px.rsl, Px.rsort, Px.rcat, Px.rapp, Px.rrev, Px.sl_ap, Px.nop, Px.part, Px.yes, Px.tyl, Px.isL_l, Px.isT_t, Px.isL_t, Px.isT_l, Px.isD_d, Px.isT_d, Px.inV_ints, Px.flat_ints, Px.flatV_i, Px.wipe_cons, Px.wipe_nil, Px.gtup, Px.gcons, Px.gnil, gt_iff_lt, ge_iff_le, Px.we, Px.wonly, Px.was, Px.cxK, not_true_eq_false, and_self, true_implies, false_implies, implies_true, Px.e0, and_assoc, imp_false, not_false_eq_true, ne_eq, Px.rgcd, Px.rixl, Px.rixt, Px.v0, Px.v1, Px.v2, Px.v3, Px.v4, Px.v5, Px.v6, Px.v7, Px.v8, Px.v9, Px.v10, Px.v11, Px.v12, Px.v13, Px.v14, Px.v15, Px.v16, Px.v17, Px.v18, Px.v19, Px.v20, Px.v21, Px.v22, Px.v23, Px.c0, Px.asg, Px.gnm, Px.ret, Px.retN, Px.drop, Px.nxt, Px.brk, Px.cnt, Px.ifs, Px.op, Px.un, Px.tst, Px.tbl, Px.tand, Px.tor, Px.tnot, Px.andv, Px.orv, Px.notv, Px.tif, Px.tup, Px.lst, Px.nil, Px.cons, Px.cal, Px.calS, Px.cb, Px.par, Px.gsub, Px.bits, Px.bm, Px.bm0, Px.ri, Px.ri0, Px.ru, Px.req, Px.rne, Px.rix, Px.rlen, Px.rin, Px.rsetl, Px.risi, Px.tyH_n, Px.tyH_b, Px.tyH_i, Px.tyH_s, Px.tyH_r, Px.seqH_t, Px.seqH_l, Px.seqH_fl, Px.sc_ii, Px.sc_bb, Px.sc_ss, Px.atI0, Px.atI1, Px.atI2, Px.atI3, Px.atI4, Px.atI5, Px.atI6, Px.atI7, Px.kb_NoneType_int, Px.kb_NoneType_bool, Px.kb_NoneType_str, Px.kb_NoneType_list, Px.kb_NoneType_tuple, Px.kb_NoneType_dict, Px.kb_bool_int, Px.kb_bool_bool, Px.kb_bool_str, Px.kb_bool_list, Px.kb_bool_tuple, Px.kb_bool_dict, Px.kb_int_int, Px.kb_int_bool, Px.kb_int_str, Px.kb_int_list, Px.kb_int_tuple, Px.kb_int_dict, Px.kb_str_int, Px.kb_str_bool, Px.kb_str_str, Px.kb_str_list, Px.kb_str_tuple, Px.kb_str_dict, Px.kb_list_int, Px.kb_list_bool, Px.kb_list_str, Px.kb_list_list, Px.kb_list_tuple, Px.kb_list_dict, Px.kb_tuple_int, Px.kb_tuple_bool, Px.kb_tuple_str, Px.kb_tuple_list, Px.kb_tuple_tuple, Px.kb_tuple_dict, Px.kb_dict_int, Px.kb_dict_bool, Px.kb_dict_str, Px.kb_dict_list, Px.kb_dict_tuple, Px.kb_dict_dict, L2.upd_same, Px.updI, L2.ixN, List.set_cons_zero, List.set_cons_succ, List.length_cons, List.length_nil, Nat.reduceAdd, Nat.zero_add, L2.HO.lst.injEq, L2.HO.tup.injEq, L2.upd_upd, L2.V.int.injEq, L2.V.ref.injEq, L2.V.bl.injEq, L2.V.str.injEq, L2.V.ty.injEq, List.cons.injEq, and_true, true_and, and_false, false_and, or_false, false_or, exists_eq_left', exists_eq_left, exists_and_left, exists_const, exists_false, Option.some.injEq, decide_eq_true_eq, List.append_nil, List.cons_append, List.nil_append, Option.isSome_some, Bool.not_true, Bool.not_false, Bool.not_eq_true', Bool.not_eq_true, Bool.false_eq_true, decide_eq_false_iff_not, if_true, if_false, ite_true, ite_false, Int.reduceLE, Int.reduceLT, Int.reduceToNat, Int.cast_ofNat_Int, Bool.true_eq_false, eq_self, ↓reduceIte, reduceCtorEq, Px.aug, Px.ipi, Px.tri, Px.rcatth, Px.rixs, Px.rsls, Px.tm1, Px.glst, Px.nstr, Px.txI, Px.txC, Px.txL, Px.txA, Px.rsgn, Px.txf, Px.tost, Px.tmko, Px.risxd, *]
  refine go_cut (fun σ' H' => ∃ z : Str, σ' = [some (.ref p), some (.str z)] ∧ (0 < z.length ∧ z.length ≤ 120) ∧ Pool H' p ∧ Px.But p H H') ?_ ?_
  · simp only [decide_true, decide_false, List.map_cons, List.map_nil, Option.map_none, Option.map_some, Option.getD_none, Option.getD_some, Px.dg2, Px.dg1, Px.dg, Px.din, Px.dnotin, Px.dnew, Px.dput, Px.isD_is, Px.dget_i, Px.dget_s, Px.dput_i, Px.dput_s, Px.dOf_d, Px.rtup, Px.rlist, Px.rsl, Px.rsort, Px.rcat, Px.rapp, Px.rrev, Px.sl_ap, Px.nop, Px.part, Px.yes, Px.tyl, Px.isL_l, Px.isT_t, Px.isL_t, Px.isT_l, Px.isD_d, Px.isT_d, Px.inV_ints, Px.flat_ints, Px.flatV_i, Px.wipe_cons, Px.wipe_nil, Px.gtup, Px.gcons, Px.gnil, gt_iff_lt, ge_iff_le, Px.we, Px.wonly, Px.was, Px.cxK, not_true_eq_false, and_self, true_implies, false_implies, implies_true, Px.e0, and_assoc, imp_false, not_false_eq_true, ne_eq, Px.rgcd, Px.rixl, Px.rixt, Px.v0, Px.v1, Px.v2, Px.v3, Px.v4, Px.v5, Px.v6, Px.v7, Px.v8, Px.v9, Px.v10, Px.v11, Px.v12, Px.v13, Px.v14, Px.v15, Px.v16, Px.v17, Px.v18, Px.v19, Px.v20, Px.v21, Px.v22, Px.v23, Px.c0, Px.asg, Px.gnm, Px.ret, Px.retN, Px.drop, Px.nxt, Px.brk, Px.cnt, Px.ifs, Px.op, Px.un, Px.tst, Px.tbl, Px.tand, Px.tor, Px.tnot, Px.andv, Px.orv, Px.notv, Px.tif, Px.tup, Px.lst, Px.nil, Px.cons, Px.cal, Px.calS, Px.cb, Px.par, Px.gsub, Px.bits, Px.bm, Px.bm0, Px.ri, Px.ri0, Px.ru, Px.req, Px.rne, Px.rix, Px.rlen, Px.rin, Px.rsetl, Px.risi, Px.tyH_n, Px.tyH_b, Px.tyH_i, Px.tyH_s, Px.tyH_r, Px.seqH_t, Px.seqH_l, Px.seqH_fl, Px.sc_ii, Px.sc_bb, Px.sc_ss, Px.atI0, Px.atI1, Px.atI2, Px.atI3, Px.atI4, Px.atI5, Px.atI6, Px.atI7, Px.kb_NoneType_int, Px.kb_NoneType_bool, Px.kb_NoneType_str, Px.kb_NoneType_list, Px.kb_NoneType_tuple, Px.kb_NoneType_dict, Px.kb_bool_int, Px.kb_bool_bool, Px.kb_bool_str, Px.kb_bool_list, Px.kb_bool_tuple, Px.kb_bool_dict, Px.kb_int_int, Px.kb_int_bool, Px.kb_int_str, Px.kb_int_list, Px.kb_int_tuple, Px.kb_int_dict, Px.kb_str_int, Px.kb_str_bool, Px.kb_str_str, Px.kb_str_list, Px.kb_str_tuple, Px.kb_str_dict, Px.kb_list_int, Px.kb_list_bool, Px.kb_list_str, Px.kb_list_list, Px.kb_list_tuple, Px.kb_list_dict, Px.kb_tuple_int, Px.kb_tuple_bool, Px.kb_tuple_str, Px.kb_tuple_list, Px.kb_tuple_tuple, Px.kb_tuple_dict, Px.kb_dict_int, Px.kb_dict_bool, Px.kb_dict_str, Px.kb_dict_list, Px.kb_dict_tuple, Px.kb_dict_dict, L2.upd_same, Px.updI, L2.ixN, List.set_cons_zero, List.set_cons_succ, List.length_cons, List.length_nil, Nat.reduceAdd, Nat.zero_add, L2.HO.lst.injEq, L2.HO.tup.injEq, L2.upd_upd, L2.V.int.injEq, L2.V.ref.injEq, L2.V.bl.injEq, L2.V.str.injEq, L2.V.ty.injEq, List.cons.injEq, and_true, true_and, and_false, false_and, or_false, false_or, exists_eq_left', exists_eq_left, exists_and_left, exists_const, exists_false, Option.some.injEq, decide_eq_true_eq, List.append_nil, List.cons_append, List.nil_append, Option.isSome_some, Bool.not_true, Bool.not_false, Bool.not_eq_true', Bool.not_eq_true, Bool.false_eq_true, decide_eq_false_iff_not, if_true, if_false, ite_true, ite_false, Int.reduceLE, Int.reduceLT, Int.reduceToNat, Int.cast_ofNat_Int, Bool.true_eq_false, eq_self, ↓reduceIte, reduceCtorEq, Px.aug, Px.ipi, Px.tri, Px.rcatth, Px.rixs, Px.rsls, Px.tm1, Px.glst, Px.nstr, Px.txI, Px.txC, Px.txL, Px.txA, Px.rsgn, Px.txf, Px.tost, Px.tmko, Px.risxd, *, spTake, spSigns]
    intro v H1 v0 v1 hp1 b1 _
    refine go_if (fun _ => ?_) (fun _ => ?_)
    · exact fun z z0 z1 => ⟨z0, z1, hp1, b1⟩
    · exact ⟨by decide +kernel, by decide +kernel, hp1, b1⟩
  rintro σ' H1 ⟨z, rfl, ⟨z0, z1⟩, hp1, b1⟩
  simp only [decide_true, decide_false, List.map_cons, List.map_nil, Option.map_none, Option.map_some, Option.getD_none, Option.getD_some, Px.dg2, Px.dg1, Px.dg, Px.din, Px.dnotin, Px.dnew, Px.dput, Px.isD_is, Px.dget_i, Px.dget_s, Px.dput_i, Px.dput_s, Px.dOf_d, Px.rtup, Px.rlist, Px.rsl, Px.rsort, Px.rcat, Px.rapp, Px.rrev, Px.sl_ap, Px.nop, Px.part, Px.yes, Px.tyl, Px.isL_l, Px.isT_t, Px.isL_t, Px.isT_l, Px.isD_d, Px.isT_d, Px.inV_ints, Px.flat_ints, Px.flatV_i, Px.wipe_cons, Px.wipe_nil, Px.gtup, Px.gcons, Px.gnil, gt_iff_lt, ge_iff_le, Px.we, Px.wonly, Px.was, Px.cxK, not_true_eq_false, and_self, true_implies, false_implies, implies_true, Px.e0, and_assoc, imp_false, not_false_eq_true, ne_eq, Px.rgcd, Px.rixl, Px.rixt, Px.v0, Px.v1, Px.v2, Px.v3, Px.v4, Px.v5, Px.v6, Px.v7, Px.v8, Px.v9, Px.v10, Px.v11, Px.v12, Px.v13, Px.v14, Px.v15, Px.v16, Px.v17, Px.v18, Px.v19, Px.v20, Px.v21, Px.v22, Px.v23, Px.c0, Px.asg, Px.gnm, Px.ret, Px.retN, Px.drop, Px.nxt, Px.brk, Px.cnt, Px.ifs, Px.op, Px.un, Px.tst, Px.tbl, Px.tand, Px.tor, Px.tnot, Px.andv, Px.orv, Px.notv, Px.tif, Px.tup, Px.lst, Px.nil, Px.cons, Px.cal, Px.calS, Px.cb, Px.par, Px.gsub, Px.bits, Px.bm, Px.bm0, Px.ri, Px.ri0, Px.ru, Px.req, Px.rne, Px.rix, Px.rlen, Px.rin, Px.rsetl, Px.risi, Px.tyH_n, Px.tyH_b, Px.tyH_i, Px.tyH_s, Px.tyH_r, Px.seqH_t, Px.seqH_l, Px.seqH_fl, Px.sc_ii, Px.sc_bb, Px.sc_ss, Px.atI0, Px.atI1, Px.atI2, Px.atI3, Px.atI4, Px.atI5, Px.atI6, Px.atI7, Px.kb_NoneType_int, Px.kb_NoneType_bool, Px.kb_NoneType_str, Px.kb_NoneType_list, Px.kb_NoneType_tuple, Px.kb_NoneType_dict, Px.kb_bool_int, Px.kb_bool_bool, Px.kb_bool_str, Px.kb_bool_list, Px.kb_bool_tuple, Px.kb_bool_dict, Px.kb_int_int, Px.kb_int_bool, Px.kb_int_str, Px.kb_int_list, Px.kb_int_tuple, Px.kb_int_dict, Px.kb_str_int, Px.kb_str_bool, Px.kb_str_str, Px.kb_str_list, Px.kb_str_tuple, Px.kb_str_dict, Px.kb_list_int, Px.kb_list_bool, Px.kb_list_str, Px.kb_list_list, Px.kb_list_tuple, Px.kb_list_dict, Px.kb_tuple_int, Px.kb_tuple_bool, Px.kb_tuple_str, Px.kb_tuple_list, Px.kb_tuple_tuple, Px.kb_tuple_dict, Px.kb_dict_int, Px.kb_dict_bool, Px.kb_dict_str, Px.kb_dict_list, Px.kb_dict_tuple, Px.kb_dict_dict, L2.upd_same, Px.updI, L2.ixN, List.set_cons_zero, List.set_cons_succ, List.length_cons, List.length_nil, Nat.reduceAdd, Nat.zero_add, L2.HO.lst.injEq, L2.HO.tup.injEq, L2.upd_upd, L2.V.int.injEq, L2.V.ref.injEq, L2.V.bl.injEq, L2.V.str.injEq, L2.V.ty.injEq, List.cons.injEq, and_true, true_and, and_false, false_and, or_false, false_or, exists_eq_left', exists_eq_left, exists_and_left, exists_const, exists_false, Option.some.injEq, decide_eq_true_eq, List.append_nil, List.cons_append, List.nil_append, Option.isSome_some, Bool.not_true, Bool.not_false, Bool.not_eq_true', Bool.not_eq_true, Bool.false_eq_true, decide_eq_false_iff_not, if_true, if_false, ite_true, ite_false, Int.reduceLE, Int.reduceLT, Int.reduceToNat, Int.cast_ofNat_Int, Bool.true_eq_false, eq_self, ↓reduceIte, reduceCtorEq, Px.aug, Px.ipi, Px.tri, Px.rcatth, Px.rixs, Px.rsls, Px.tm1, Px.glst, Px.nstr, Px.txI, Px.txC, Px.txL, Px.txA, Px.rsgn, Px.txf, Px.tost, Px.tmko, Px.risxd, *, spTake]
  refine ⟨line_ok (show z.length ≤ 10000 by omega), by omega, by omega, fun v H2 v0 v1 hp2 b2 _ => ?_⟩
  obtain ⟨c, hc⟩ := z_at v0 v1
  exact ⟨line_ok (show z.length ≤ 10000 by omega), c, hc, k _ H2 (by rw [z_one]; exact Nat.le_refl _) hp2 (b1.trans b2)⟩
def spSpoil (vs : List V) (H : Hp) (Q : VK) (_ : XK) : Prop := ∃ (p : Addr) (y : Str), vs = [.ref p, .str y] ∧ y.length ≤ 100 ∧ Pool H p ∧ ∀ (z : Str) H', z.length ≤ 201 → Pool H' p → Px.But p H H' → Q (.str z) H'
theorem ok_spoilt (B : Bn mg) (F : FunAt K mg "_law_spoilt" s_law_spoilt) (D_law_take : Def P w K mg base CX0 1 "_law_take" ["pool", "size"] spTake) (D_law_sign : Def P w K mg base CX0 2 "_law_sign" ["pool"] (spZ 1)) : Def P w K mg base CX0 3 "_law_spoilt" ["pool", "text"] spSpoil := by
  refine F.ok sc_law_spoilt (fun _ _ _ _ _ _ us hl => match us, hl with | [_, _], _ => rfl) (fun vs H Q E h => by obtain ⟨_, _, rfl, _⟩ := h; rfl) (fun f cdv A outer s H vs Q E hr h => ?_)
  obtain ⟨p, y, rfl, hy, hp, k⟩ := h
  refine ⟨_, pss_cons (ps_set (i := 2) sc_law_spoilt.nd rfl (Or.inl rfl) (pe_fn D_law_take (hr.mono (by decide)) pass0 (pa_cons (pv 0) (pa_cons (pe_op op_add (pe_callB call_len_str rfl B.len (by decide +kernel) (pa_cons (pv 1) pa_nil)) pe_int) pa_nil)))) (
  pss_cons (ps_set (i := 3) sc_law_spoilt.nd rfl (Or.inl rfl) (pe_fn D_law_take (hr.mono (by decide)) pass0 (pa_cons (pv 0) (pa_cons pe_int pa_nil)))) (
  pss_cons (ps_if (pt_cmpR op_eq (pv 3) pe_int (nomark _)) (pss_one (ps_ret (pe_op op_add_str (pe_op op_add_str (pe_slice sl_str (pv 1) po_none (po_some (pv 2))) (pe_fn D_law_sign hr pass0 (pa_cons (pv 0) pa_nil))) (pe_slice sl_str (pv 1) (po_some (pv 2)) po_none)))) (pss_nil)) (
  pss_cons (ps_if (pt_cmpR op_eq (pv 3) pe_int (nomark _)) (pss_one (ps_ret (pe_op op_add_str (pe_op op_add_str (pe_slice sl_str (pv 1) po_none (po_some (pv 2))) (pe_fn D_law_sign hr pass0 (pa_cons (pv 0) pa_nil))) (pe_slice sl_str (pv 1) (po_some (pe_op op_add (pv 2) pe_int)) po_none)))) (pss_nil)) (
  pss_cons (ps_if (pt_cmpR op_eq (pv 3) pe_int (nomark _)) (pss_one (ps_ret (pe_op op_add_str (pe_slice sl_str (pv 1) po_none (po_some (pv 2))) (pe_slice sl_str (pv 1) (po_some (pe_op op_add (pv 2) pe_int)) po_none)))) (pss_nil)) (
  pss_one (ps_ret (pe_op op_add_str (pe_slice sl_str (pv 1) po_none (po_some (pe_op op_add (pv 2) pe_int))) (pe_slice sl_str (pv 1) (po_some (pv 2)) po_none)))))))), ?_⟩
  show tSeq _ _ _ [some (.ref p), some (.str y), none, none] H
  have ly := line_ok (show y.length ≤ 10000 by omega)
  have cl := fun lo hi => cutS_length y lo hi
  have lz : ∀ {x u : Str}, x.length ≤ 200 → u.length ≤ 200 → x.length + u.length ≤ sizeLine := fun {x u} h1 h2 => line_ok (show _ ≤ 10000 by omega)
  refine go_seq ?_
  simp only [decide_true, decide_false, List.map_cons, List.map_nil, Option.map_none, Option.map_some, Option.getD_none, Option.getD_some, Px.dg2, Px.dg1, Px.dg, Px.din, Px.dnotin, Px.dnew, Px.dput, Px.isD_is, Px.dget_i, Px.dget_s, Px.dput_i, Px.dput_s, Px.dOf_d, Px.rtup, Px.rlist, Px.rsl, Px.rsort, Px.rcat, Px.rapp, Px.rrev, Px.sl_ap, Px.nop, Px.part, Px.yes, Px.tyl, Px.isL_l, Px.isT_t, Px.isL_t, Px.isT_l, Px.isD_d, Px.isT_d, Px.inV_ints, Px.flat_ints, Px.flatV_i, Px.wipe_cons, Px.wipe_nil, Px.gtup, Px.gcons, Px.gnil, gt_iff_lt, ge_iff_le, Px.we, Px.wonly, Px.was, Px.cxK, not_true_eq_false, and_self, true_implies, false_implies, implies_true, Px.e0, and_assoc, imp_false, not_false_eq_true, ne_eq, Px.rgcd, Px.rixl, Px.rixt, Px.v0, Px.v1, Px.v2, Px.v3, Px.v4, Px.v5, Px.v6, Px.v7, Px.v8, Px.v9, Px.v10, Px.v11, Px.v12, Px.v13, Px.v14, Px.v15, Px.v16, Px.v17, Px.v18, Px.v19, Px.v20, Px.v21, Px.v22, Px.v23, Px.c0, Px.asg, Px.gnm, Px.ret, Px.retN, Px.drop, Px.nxt, Px.brk, Px.cnt, Px.ifs, Px.op, Px.un, Px.tst, Px.tbl, Px.tand, Px.tor, Px.tnot, Px.andv, Px.orv, Px.notv, Px.tif, Px.tup, Px.lst, Px.nil, Px.cons, Px.cal, Px.calS, Px.cb, Px.par, Px.gsub, Px.bits, Px.bm, Px.bm0, Px.ri, Px.ri0, Px.ru, Px.req, Px.rne, Px.rix, Px.rlen, Px.rin, Px.rsetl, Px.risi, Px.tyH_n, Px.tyH_b, Px.tyH_i, Px.tyH_s, Px.tyH_r, Px.seqH_t, Px.seqH_l, Px.seqH_fl, Px.sc_ii, Px.sc_bb, Px.sc_ss, Px.atI0, Px.atI1, Px.atI2, Px.atI3, Px.atI4, Px.atI5, Px.atI6, Px.atI7, Px.kb_NoneType_int, Px.kb_NoneType_bool, Px.kb_NoneType_str, Px.kb_NoneType_list, Px.kb_NoneType_tuple, Px.kb_NoneType_dict, Px.kb_bool_int, Px.kb_bool_bool, Px.kb_bool_str, Px.kb_bool_list, Px.kb_bool_tuple, Px.kb_bool_dict, Px.kb_int_int, Px.kb_int_bool, Px.kb_int_str, Px.kb_int_list, Px.kb_int_tuple, Px.kb_int_dict, Px.kb_str_int, Px.kb_str_bool, Px.kb_str_str, Px.kb_str_list, Px.kb_str_tuple, Px.kb_str_dict, Px.kb_list_int, Px.kb_list_bool, Px.kb_list_str, Px.kb_list_list, Px.kb_list_tuple, Px.kb_list_dict, Px.kb_tuple_int, Px.kb_tuple_bool, Px.kb_tuple_str, Px.kb_tuple_list, Px.kb_tuple_tuple, Px.kb_tuple_dict, Px.kb_dict_int, Px.kb_dict_bool, Px.kb_dict_str, Px.kb_dict_list, Px.kb_dict_tuple, Px.kb_dict_dict, L2.upd_same, Px.updI, L2.ixN, List.set_cons_zero, List.set_cons_succ, List.length_cons, List.length_nil, Nat.reduceAdd, Nat.zero_add, L2.HO.lst.injEq, L2.HO.tup.injEq, L2.upd_upd, L2.V.int.injEq, L2.V.ref.injEq, L2.V.bl.injEq, L2.V.str.injEq, L2.V.ty.injEq, List.cons.injEq, and_true, true_and, and_false, false_and, or_false, false_or, exists_eq_left', exists_eq_left, exists_and_left, exists_const, exists_false, Option.some.injEq, decide_eq_true_eq, List.append_nil, List.cons_append, List.nil_append, Option.isSome_some, Bool.not_true, Bool.not_false, Bool.not_eq_true', Bool.not_eq_true, Bool.false_eq_true, decide_eq_false_iff_not, if_true, if_false, ite_true, ite_false, Int.reduceLE, Int.reduceLT, Int.reduceToNat, Int.cast_ofNat_Int, Bool.true_eq_false, eq_self, ↓reduceIte, reduceCtorEq, Px.aug, Px.ipi, Px.tri, Px.rcatth, Px.rixs, Px.rsls, Px.tm1, Px.glst, Px.nstr, Px.txI, Px.txC, Px.txL, Px.txA, Px.rsgn, Px.txf, Px.tost, Px.tmko, Px.risxd, *, spTake]
  refine ⟨by omega, by omega, fun at_ H1 _ _ hp1 b1 _ => ?_⟩
  refine go_seq ?_
  simp only [decide_true, decide_false, List.map_cons, List.map_nil, Option.map_none, Option.map_some, Option.getD_none, Option.getD_some, Px.dg2, Px.dg1, Px.dg, Px.din, Px.dnotin, Px.dnew, Px.dput, Px.isD_is, Px.dget_i, Px.dget_s, Px.dput_i, Px.dput_s, Px.dOf_d, Px.rtup, Px.rlist, Px.rsl, Px.rsort, Px.rcat, Px.rapp, Px.rrev, Px.sl_ap, Px.nop, Px.part, Px.yes, Px.tyl, Px.isL_l, Px.isT_t, Px.isL_t, Px.isT_l, Px.isD_d, Px.isT_d, Px.inV_ints, Px.flat_ints, Px.flatV_i, Px.wipe_cons, Px.wipe_nil, Px.gtup, Px.gcons, Px.gnil, gt_iff_lt, ge_iff_le, Px.we, Px.wonly, Px.was, Px.cxK, not_true_eq_false, and_self, true_implies, false_implies, implies_true, Px.e0, and_assoc, imp_false, not_false_eq_true, ne_eq, Px.rgcd, Px.rixl, Px.rixt, Px.v0, Px.v1, Px.v2, Px.v3, Px.v4, Px.v5, Px.v6, Px.v7, Px.v8, Px.v9, Px.v10, Px.v11, Px.v12, Px.v13, Px.v14, Px.v15, Px.v16, Px.v17, Px.v18, Px.v19, Px.v20, Px.v21, Px.v22, Px.v23, Px.c0, Px.asg, Px.gnm, Px.ret, Px.retN, Px.drop, Px.nxt, Px.brk, Px.cnt, Px.ifs, Px.op, Px.un, Px.tst, Px.tbl, Px.tand, Px.tor, Px.tnot, Px.andv, Px.orv, Px.notv, Px.tif, Px.tup, Px.lst, Px.nil, Px.cons, Px.cal, Px.calS, Px.cb, Px.par, Px.gsub, Px.bits, Px.bm, Px.bm0, Px.ri, Px.ri0, Px.ru, Px.req, Px.rne, Px.rix, Px.rlen, Px.rin, Px.rsetl, Px.risi, Px.tyH_n, Px.tyH_b, Px.tyH_i, Px.tyH_s, Px.tyH_r, Px.seqH_t, Px.seqH_l, Px.seqH_fl, Px.sc_ii, Px.sc_bb, Px.sc_ss, Px.atI0, Px.atI1, Px.atI2, Px.atI3, Px.atI4, Px.atI5, Px.atI6, Px.atI7, Px.kb_NoneType_int, Px.kb_NoneType_bool, Px.kb_NoneType_str, Px.kb_NoneType_list, Px.kb_NoneType_tuple, Px.kb_NoneType_dict, Px.kb_bool_int, Px.kb_bool_bool, Px.kb_bool_str, Px.kb_bool_list, Px.kb_bool_tuple, Px.kb_bool_dict, Px.kb_int_int, Px.kb_int_bool, Px.kb_int_str, Px.kb_int_list, Px.kb_int_tuple, Px.kb_int_dict, Px.kb_str_int, Px.kb_str_bool, Px.kb_str_str, Px.kb_str_list, Px.kb_str_tuple, Px.kb_str_dict, Px.kb_list_int, Px.kb_list_bool, Px.kb_list_str, Px.kb_list_list, Px.kb_list_tuple, Px.kb_list_dict, Px.kb_tuple_int, Px.kb_tuple_bool, Px.kb_tuple_str, Px.kb_tuple_list, Px.kb_tuple_tuple, Px.kb_tuple_dict, Px.kb_dict_int, Px.kb_dict_bool, Px.kb_dict_str, Px.kb_dict_list, Px.kb_dict_tuple, Px.kb_dict_dict, L2.upd_same, Px.updI, L2.ixN, List.set_cons_zero, List.set_cons_succ, List.length_cons, List.length_nil, Nat.reduceAdd, Nat.zero_add, L2.HO.lst.injEq, L2.HO.tup.injEq, L2.upd_upd, L2.V.int.injEq, L2.V.ref.injEq, L2.V.bl.injEq, L2.V.str.injEq, L2.V.ty.injEq, List.cons.injEq, and_true, true_and, and_false, false_and, or_false, false_or, exists_eq_left', exists_eq_left, exists_and_left, exists_const, exists_false, Option.some.injEq, decide_eq_true_eq, List.append_nil, List.cons_append, List.nil_append, Option.isSome_some, Bool.not_true, Bool.not_false, Bool.not_eq_true', Bool.not_eq_true, Bool.false_eq_true, decide_eq_false_iff_not, if_true, if_false, ite_true, ite_false, Int.reduceLE, Int.reduceLT, Int.reduceToNat, Int.cast_ofNat_Int, Bool.true_eq_false, eq_self, ↓reduceIte, reduceCtorEq, Px.aug, Px.ipi, Px.tri, Px.rcatth, Px.rixs, Px.rsls, Px.tm1, Px.glst, Px.nstr, Px.txI, Px.txC, Px.txL, Px.txA, Px.rsgn, Px.txf, Px.tost, Px.tmko, Px.risxd, *, spTake]
  intro way H2 _ _ hp2 b2 _
  have b02 := b1.trans b2
  refine go_seq ?_
  simp only [decide_true, decide_false, List.map_cons, List.map_nil, Option.map_none, Option.map_some, Option.getD_none, Option.getD_some, Px.dg2, Px.dg1, Px.dg, Px.din, Px.dnotin, Px.dnew, Px.dput, Px.isD_is, Px.dget_i, Px.dget_s, Px.dput_i, Px.dput_s, Px.dOf_d, Px.rtup, Px.rlist, Px.rsl, Px.rsort, Px.rcat, Px.rapp, Px.rrev, Px.sl_ap, Px.nop, Px.part, Px.yes, Px.tyl, Px.isL_l, Px.isT_t, Px.isL_t, Px.isT_l, Px.isD_d, Px.isT_d, Px.inV_ints, Px.flat_ints, Px.flatV_i, Px.wipe_cons, Px.wipe_nil, Px.gtup, Px.gcons, Px.gnil, gt_iff_lt, ge_iff_le, Px.we, Px.wonly, Px.was, Px.cxK, not_true_eq_false, and_self, true_implies, false_implies, implies_true, Px.e0, and_assoc, imp_false, not_false_eq_true, ne_eq, Px.rgcd, Px.rixl, Px.rixt, Px.v0, Px.v1, Px.v2, Px.v3, Px.v4, Px.v5, Px.v6, Px.v7, Px.v8, Px.v9, Px.v10, Px.v11, Px.v12, Px.v13, Px.v14, Px.v15, Px.v16, Px.v17, Px.v18, Px.v19, Px.v20, Px.v21, Px.v22, Px.v23, Px.c0, Px.asg, Px.gnm, Px.ret, Px.retN, Px.drop, Px.nxt, Px.brk, Px.cnt, Px.ifs, Px.op, Px.un, Px.tst, Px.tbl, Px.tand, Px.tor, Px.tnot, Px.andv, Px.orv, Px.notv, Px.tif, Px.tup, Px.lst, Px.nil, Px.cons, Px.cal, Px.calS, Px.cb, Px.par, Px.gsub, Px.bits, Px.bm, Px.bm0, Px.ri, Px.ri0, Px.ru, Px.req, Px.rne, Px.rix, Px.rlen, Px.rin, Px.rsetl, Px.risi, Px.tyH_n, Px.tyH_b, Px.tyH_i, Px.tyH_s, Px.tyH_r, Px.seqH_t, Px.seqH_l, Px.seqH_fl, Px.sc_ii, Px.sc_bb, Px.sc_ss, Px.atI0, Px.atI1, Px.atI2, Px.atI3, Px.atI4, Px.atI5, Px.atI6, Px.atI7, Px.kb_NoneType_int, Px.kb_NoneType_bool, Px.kb_NoneType_str, Px.kb_NoneType_list, Px.kb_NoneType_tuple, Px.kb_NoneType_dict, Px.kb_bool_int, Px.kb_bool_bool, Px.kb_bool_str, Px.kb_bool_list, Px.kb_bool_tuple, Px.kb_bool_dict, Px.kb_int_int, Px.kb_int_bool, Px.kb_int_str, Px.kb_int_list, Px.kb_int_tuple, Px.kb_int_dict, Px.kb_str_int, Px.kb_str_bool, Px.kb_str_str, Px.kb_str_list, Px.kb_str_tuple, Px.kb_str_dict, Px.kb_list_int, Px.kb_list_bool, Px.kb_list_str, Px.kb_list_list, Px.kb_list_tuple, Px.kb_list_dict, Px.kb_tuple_int, Px.kb_tuple_bool, Px.kb_tuple_str, Px.kb_tuple_list, Px.kb_tuple_tuple, Px.kb_tuple_dict, Px.kb_dict_int, Px.kb_dict_bool, Px.kb_dict_str, Px.kb_dict_list, Px.kb_dict_tuple, Px.kb_dict_dict, L2.upd_same, Px.updI, L2.ixN, List.set_cons_zero, List.set_cons_succ, List.length_cons, List.length_nil, Nat.reduceAdd, Nat.zero_add, L2.HO.lst.injEq, L2.HO.tup.injEq, L2.upd_upd, L2.V.int.injEq, L2.V.ref.injEq, L2.V.bl.injEq, L2.V.str.injEq, L2.V.ty.injEq, List.cons.injEq, and_true, true_and, and_false, false_and, or_false, false_or, exists_eq_left', exists_eq_left, exists_and_left, exists_const, exists_false, Option.some.injEq, decide_eq_true_eq, List.append_nil, List.cons_append, List.nil_append, Option.isSome_some, Bool.not_true, Bool.not_false, Bool.not_eq_true', Bool.not_eq_true, Bool.false_eq_true, decide_eq_false_iff_not, if_true, if_false, ite_true, ite_false, Int.reduceLE, Int.reduceLT, Int.reduceToNat, Int.cast_ofNat_Int, Bool.true_eq_false, eq_self, ↓reduceIte, reduceCtorEq, Px.aug, Px.ipi, Px.tri, Px.rcatth, Px.rixs, Px.rsls, Px.tm1, Px.glst, Px.nstr, Px.txI, Px.txC, Px.txL, Px.txA, Px.rsgn, Px.txf, Px.tost, Px.tmko, Px.risxd, *, spZ]
  refine go_if (fun _ => ?_) (fun _ => ?_)
  · intro z H3 hz hp3 b3
    have l1 := cl none (some at_)
    have l2 := cl (some at_) none
    refine ⟨lz (by omega) (by omega), lz (by rw [z_app]; omega) (by omega), k _ H3 (by rw [z_app, z_app]; omega) hp3 (b02.trans b3)⟩
  refine go_seq ?_
  simp only [decide_true, decide_false, List.map_cons, List.map_nil, Option.map_none, Option.map_some, Option.getD_none, Option.getD_some, Px.dg2, Px.dg1, Px.dg, Px.din, Px.dnotin, Px.dnew, Px.dput, Px.isD_is, Px.dget_i, Px.dget_s, Px.dput_i, Px.dput_s, Px.dOf_d, Px.rtup, Px.rlist, Px.rsl, Px.rsort, Px.rcat, Px.rapp, Px.rrev, Px.sl_ap, Px.nop, Px.part, Px.yes, Px.tyl, Px.isL_l, Px.isT_t, Px.isL_t, Px.isT_l, Px.isD_d, Px.isT_d, Px.inV_ints, Px.flat_ints, Px.flatV_i, Px.wipe_cons, Px.wipe_nil, Px.gtup, Px.gcons, Px.gnil, gt_iff_lt, ge_iff_le, Px.we, Px.wonly, Px.was, Px.cxK, not_true_eq_false, and_self, true_implies, false_implies, implies_true, Px.e0, and_assoc, imp_false, not_false_eq_true, ne_eq, Px.rgcd, Px.rixl, Px.rixt, Px.v0, Px.v1, Px.v2, Px.v3, Px.v4, Px.v5, Px.v6, Px.v7, Px.v8, Px.v9, Px.v10, Px.v11, Px.v12, Px.v13, Px.v14, Px.v15, Px.v16, Px.v17, Px.v18, Px.v19, Px.v20, Px.v21, Px.v22, Px.v23, Px.c0, Px.asg, Px.gnm, Px.ret, Px.retN, Px.drop, Px.nxt, Px.brk, Px.cnt, Px.ifs, Px.op, Px.un, Px.tst, Px.tbl, Px.tand, Px.tor, Px.tnot, Px.andv, Px.orv, Px.notv, Px.tif, Px.tup, Px.lst, Px.nil, Px.cons, Px.cal, Px.calS, Px.cb, Px.par, Px.gsub, Px.bits, Px.bm, Px.bm0, Px.ri, Px.ri0, Px.ru, Px.req, Px.rne, Px.rix, Px.rlen, Px.rin, Px.rsetl, Px.risi, Px.tyH_n, Px.tyH_b, Px.tyH_i, Px.tyH_s, Px.tyH_r, Px.seqH_t, Px.seqH_l, Px.seqH_fl, Px.sc_ii, Px.sc_bb, Px.sc_ss, Px.atI0, Px.atI1, Px.atI2, Px.atI3, Px.atI4, Px.atI5, Px.atI6, Px.atI7, Px.kb_NoneType_int, Px.kb_NoneType_bool, Px.kb_NoneType_str, Px.kb_NoneType_list, Px.kb_NoneType_tuple, Px.kb_NoneType_dict, Px.kb_bool_int, Px.kb_bool_bool, Px.kb_bool_str, Px.kb_bool_list, Px.kb_bool_tuple, Px.kb_bool_dict, Px.kb_int_int, Px.kb_int_bool, Px.kb_int_str, Px.kb_int_list, Px.kb_int_tuple, Px.kb_int_dict, Px.kb_str_int, Px.kb_str_bool, Px.kb_str_str, Px.kb_str_list, Px.kb_str_tuple, Px.kb_str_dict, Px.kb_list_int, Px.kb_list_bool, Px.kb_list_str, Px.kb_list_list, Px.kb_list_tuple, Px.kb_list_dict, Px.kb_tuple_int, Px.kb_tuple_bool, Px.kb_tuple_str, Px.kb_tuple_list, Px.kb_tuple_tuple, Px.kb_tuple_dict, Px.kb_dict_int, Px.kb_dict_bool, Px.kb_dict_str, Px.kb_dict_list, Px.kb_dict_tuple, Px.kb_dict_dict, L2.upd_same, Px.updI, L2.ixN, List.set_cons_zero, List.set_cons_succ, List.length_cons, List.length_nil, Nat.reduceAdd, Nat.zero_add, L2.HO.lst.injEq, L2.HO.tup.injEq, L2.upd_upd, L2.V.int.injEq, L2.V.ref.injEq, L2.V.bl.injEq, L2.V.str.injEq, L2.V.ty.injEq, List.cons.injEq, and_true, true_and, and_false, false_and, or_false, false_or, exists_eq_left', exists_eq_left, exists_and_left, exists_const, exists_false, Option.some.injEq, decide_eq_true_eq, List.append_nil, List.cons_append, List.nil_append, Option.isSome_some, Bool.not_true, Bool.not_false, Bool.not_eq_true', Bool.not_eq_true, Bool.false_eq_true, decide_eq_false_iff_not, if_true, if_false, ite_true, ite_false, Int.reduceLE, Int.reduceLT, Int.reduceToNat, Int.cast_ofNat_Int, Bool.true_eq_false, eq_self, ↓reduceIte, reduceCtorEq, Px.aug, Px.ipi, Px.tri, Px.rcatth, Px.rixs, Px.rsls, Px.tm1, Px.glst, Px.nstr, Px.txI, Px.txC, Px.txL, Px.txA, Px.rsgn, Px.txf, Px.tost, Px.tmko, Px.risxd, *, spZ]
  refine go_if (fun _ => ?_) (fun _ => ?_)
  · intro z H3 hz hp3 b3
    have l1 := cl none (some at_)
    have l2 := cl (some (at_ + 1)) none
    refine ⟨lz (by omega) (by omega), lz (by rw [z_app]; omega) (by omega), k _ H3 (by rw [z_app, z_app]; omega) hp3 (b02.trans b3)⟩
  refine go_seq ?_
  simp only [decide_true, decide_false, List.map_cons, List.map_nil, Option.map_none, Option.map_some, Option.getD_none, Option.getD_some, Px.dg2, Px.dg1, Px.dg, Px.din, Px.dnotin, Px.dnew, Px.dput, Px.isD_is, Px.dget_i, Px.dget_s, Px.dput_i, Px.dput_s, Px.dOf_d, Px.rtup, Px.rlist, Px.rsl, Px.rsort, Px.rcat, Px.rapp, Px.rrev, Px.sl_ap, Px.nop, Px.part, Px.yes, Px.tyl, Px.isL_l, Px.isT_t, Px.isL_t, Px.isT_l, Px.isD_d, Px.isT_d, Px.inV_ints, Px.flat_ints, Px.flatV_i, Px.wipe_cons, Px.wipe_nil, Px.gtup, Px.gcons, Px.gnil, gt_iff_lt, ge_iff_le, Px.we, Px.wonly, Px.was, Px.cxK, not_true_eq_false, and_self, true_implies, false_implies, implies_true, Px.e0, and_assoc, imp_false, not_false_eq_true, ne_eq, Px.rgcd, Px.rixl, Px.rixt, Px.v0, Px.v1, Px.v2, Px.v3, Px.v4, Px.v5, Px.v6, Px.v7, Px.v8, Px.v9, Px.v10, Px.v11, Px.v12, Px.v13, Px.v14, Px.v15, Px.v16, Px.v17, Px.v18, Px.v19, Px.v20, Px.v21, Px.v22, Px.v23, Px.c0, Px.asg, Px.gnm, Px.ret, Px.retN, Px.drop, Px.nxt, Px.brk, Px.cnt, Px.ifs, Px.op, Px.un, Px.tst, Px.tbl, Px.tand, Px.tor, Px.tnot, Px.andv, Px.orv, Px.notv, Px.tif, Px.tup, Px.lst, Px.nil, Px.cons, Px.cal, Px.calS, Px.cb, Px.par, Px.gsub, Px.bits, Px.bm, Px.bm0, Px.ri, Px.ri0, Px.ru, Px.req, Px.rne, Px.rix, Px.rlen, Px.rin, Px.rsetl, Px.risi, Px.tyH_n, Px.tyH_b, Px.tyH_i, Px.tyH_s, Px.tyH_r, Px.seqH_t, Px.seqH_l, Px.seqH_fl, Px.sc_ii, Px.sc_bb, Px.sc_ss, Px.atI0, Px.atI1, Px.atI2, Px.atI3, Px.atI4, Px.atI5, Px.atI6, Px.atI7, Px.kb_NoneType_int, Px.kb_NoneType_bool, Px.kb_NoneType_str, Px.kb_NoneType_list, Px.kb_NoneType_tuple, Px.kb_NoneType_dict, Px.kb_bool_int, Px.kb_bool_bool, Px.kb_bool_str, Px.kb_bool_list, Px.kb_bool_tuple, Px.kb_bool_dict, Px.kb_int_int, Px.kb_int_bool, Px.kb_int_str, Px.kb_int_list, Px.kb_int_tuple, Px.kb_int_dict, Px.kb_str_int, Px.kb_str_bool, Px.kb_str_str, Px.kb_str_list, Px.kb_str_tuple, Px.kb_str_dict, Px.kb_list_int, Px.kb_list_bool, Px.kb_list_str, Px.kb_list_list, Px.kb_list_tuple, Px.kb_list_dict, Px.kb_tuple_int, Px.kb_tuple_bool, Px.kb_tuple_str, Px.kb_tuple_list, Px.kb_tuple_tuple, Px.kb_tuple_dict, Px.kb_dict_int, Px.kb_dict_bool, Px.kb_dict_str, Px.kb_dict_list, Px.kb_dict_tuple, Px.kb_dict_dict, L2.upd_same, Px.updI, L2.ixN, List.set_cons_zero, List.set_cons_succ, List.length_cons, List.length_nil, Nat.reduceAdd, Nat.zero_add, L2.HO.lst.injEq, L2.HO.tup.injEq, L2.upd_upd, L2.V.int.injEq, L2.V.ref.injEq, L2.V.bl.injEq, L2.V.str.injEq, L2.V.ty.injEq, List.cons.injEq, and_true, true_and, and_false, false_and, or_false, false_or, exists_eq_left', exists_eq_left, exists_and_left, exists_const, exists_false, Option.some.injEq, decide_eq_true_eq, List.append_nil, List.cons_append, List.nil_append, Option.isSome_some, Bool.not_true, Bool.not_false, Bool.not_eq_true', Bool.not_eq_true, Bool.false_eq_true, decide_eq_false_iff_not, if_true, if_false, ite_true, ite_false, Int.reduceLE, Int.reduceLT, Int.reduceToNat, Int.cast_ofNat_Int, Bool.true_eq_false, eq_self, ↓reduceIte, reduceCtorEq, Px.aug, Px.ipi, Px.tri, Px.rcatth, Px.rixs, Px.rsls, Px.tm1, Px.glst, Px.nstr, Px.txI, Px.txC, Px.txL, Px.txA, Px.rsgn, Px.txf, Px.tost, Px.tmko, Px.risxd, *, spZ]
  refine go_if (fun _ => ?_) (fun _ => ?_)
  · have l1 := cl none (some at_)
    have l2 := cl (some (at_ + 1)) none
    exact ⟨lz (by omega) (by omega), k _ H2 (by rw [z_app]; omega) hp2 b02⟩
  · have l1 := cl none (some (at_ + 1))
    have l2 := cl (some at_) none
    exact ⟨lz (by omega) (by omega), k _ H2 (by rw [z_app]; omega) hp2 b02⟩
/-- a text of at most n signs -/
def isZ (n : Nat) : V → Bool
  | .str z => decide (z.length ≤ n)
  | _ => false
theorem isZ_at {n : Nat} {xs : List V} {v : Int} (h : xs.all (isZ n) = true) (h0 : 0 ≤ v) (h1 : v < (xs.length : Int)) : ∃ z : Str, atI xs v = some (.str z) ∧ z.length ≤ n := by
  obtain ⟨j, rfl⟩ : ∃ j : Nat, v = (j : Int) := ⟨v.toNat, by omega⟩
  have lj : j < xs.length := by omega
  have e := List.all_eq_true.mp h _ (List.getElem_mem lj)
  cases q : xs[j] with
  | str z =>
    rw [q] at e
    exact ⟨z, atI_nat (by rw [List.getElem?_eq_getElem lj, q]), of_decide_eq_true e⟩
  | _ => rw [q] at e; cases e
/-- signs that were drawn so far -/
def IFr (p : Addr) (H : Hp) (i : Nat) (ds : List PyData) (H' : Hp) : Prop := (∃ zs : List Str, ds = zs.map PyData.str ∧ zs.length = i ∧ ∀ z, z ∈ zs → z.length = 1) ∧ Pool H' p ∧ Px.But p H H'
theorem join_len : ∀ (zs : List Str), (∀ z, z ∈ zs → z.length = 1) → (Txt.join (Tx []) zs).length = zs.length := by
  intro zs h
  have e : Txt.join (Tx []) zs = Tx (TL.joinL [] (zs.map TL.tl)) := by
    have := SX.join_S [] (zs.map TL.tl)
    rw [List.map_map] at this
    have i : (zs.map (SX.S ∘ TL.tl)) = zs := by
      refine (List.map_congr_left (g := id) fun z _ => ?_).trans (List.map_id _)
      exact SX.S_tl z
    rw [i] at this
    exact this
  rw [e, SX.S_len]
  have key : ∀ (ps : List (List Nat)), (∀ q, q ∈ ps → q.length = 1) → (TL.joinL [] ps).length = ps.length := by
    intro ps
    induction ps with
    | nil => intro _; rfl
    | cons x r ih =>
      intro hq
      cases r with
      | nil => exact hq x List.mem_cons_self
      | cons y r =>
        show (x ++ ([] ++ TL.joinL [] (y :: r))).length = _
        rw [List.nil_append, List.length_append, ih (fun q hq' => hq q (List.mem_cons_of_mem _ hq')), hq x List.mem_cons_self]
        simp only [List.length_cons]
        omega
  rw [key _ (fun q hq => ?_), List.length_map]
  obtain ⟨z, hz, rfl⟩ := List.mem_map.mp hq
  show z.cps.toList.length = 1
  rw [z_len]
  exact h z hz
theorem of_strs {H : Hp} : ∀ {vs : List V} {zs : List Str}, DtAll H vs (zs.map PyData.str) → vs = zs.map V.str
  | _, [], h => by cases h; rfl
  | _, z :: zs, h => by
    cases h with
    | cons a b =>
      cases a
      rw [of_strs b]
      rfl
theorem sum_one : ∀ zs : List Str, (∀ z, z ∈ zs → z.length = 1) → (zs.map (·.length)).sum = zs.length
  | [], _ => rfl
  | z :: zs, h => by
    rw [List.map_cons, List.sum_cons, sum_one zs (fun y hy => h y (List.mem_cons_of_mem _ hy)), h z List.mem_cons_self, List.length_cons]
    omega
theorem ok_free (B : Bn mg) (F : FunAt K mg "_law_free" s_law_free) (D_law_take : Def P w K mg base CX0 1 "_law_take" ["pool", "size"] spTake) (D_law_signs : Def P w K mg base CX0 1 "_law_signs" [] spSigns) : Def P w K mg base CX0 2 "_law_free" ["pool"] (spZ 201) := by
  refine F.ok sc_law_free (fun _ _ _ _ _ _ us hl => match us, hl with | [_], _ => rfl) (fun vs H Q E h => by obtain ⟨_, rfl, _⟩ := h; rfl) (fun f cdv A outer s H vs Q E hr h => ?_)
  obtain ⟨p, rfl, hp, k⟩ := h
  refine ⟨_, pss_cons (ps_set (i := 1) sc_law_free.nd rfl (Or.inr rfl) pe_str) (
  pss_cons (ps_set (i := 2) sc_law_free.nd rfl (Or.inl rfl) (pe_fn D_law_take hr pass0 (pa_cons (pv 0) (pa_cons pe_int pa_nil)))) (
  pcut (ps_if (pt_cmpR op_eq (pe_fn D_law_take hr pass0 (pa_cons (pv 0) (pa_cons pe_int pa_nil))) pe_int (nomark _)) (pss_cons (ps_set (i := 1) sc_law_free.nd rfl (Or.inr rfl) (pe_fn0 D_law_signs hr pass0)) (
  pss_one (ps_set (i := 2) sc_law_free.nd rfl (Or.inl rfl) (pe_op op_add (pv 2) (pe_fn D_law_take hr pass0 (pa_cons (pv 0) (pa_cons pe_int pa_nil))))))) (pss_nil)) (
  pss_one (ps_ret (pe_join pe_str (pe_lc (own := [("k", 3)]) (g := gName 3) rfl sc_law_free.nd (pi_range1 rfl B.range (pa_cons (pv 2) pa_nil)) (blkOk_by (own := [("k", 3)]) (N := ["pool", "signs", "many", "k"]) (sc := defScope s_law_free) (by decide +kernel)) (fun _ _ _ _ _ => (pg_name (i := 3) sc_law_free.nd rfl (Or.inl rfl))) (fun _ _ _ _ _ => pts_nil) (fun _ _ _ _ _ => (pe_ix ix_str (pv 1) (pe_fn D_law_take hr pass0 (pa_cons (pv 0) (pa_cons (pe_callB call_len_str rfl B.len (by decide +kernel) (pa_cons (pv 1) pa_nil)) pa_nil))) (fun _ _ => rfl))))))))), ?_⟩
  show tSeq _ _ _ [some (.ref p), none, none, none] H
  refine go_seq ?_
  simp only [decide_true, decide_false, List.map_cons, List.map_nil, Option.map_none, Option.map_some, Option.getD_none, Option.getD_some, Px.dg2, Px.dg1, Px.dg, Px.din, Px.dnotin, Px.dnew, Px.dput, Px.isD_is, Px.dget_i, Px.dget_s, Px.dput_i, Px.dput_s, Px.dOf_d, Px.rtup, Px.rlist, Px.rsl, Px.rsort, Px.rcat, Px.rapp, Px.rrev, Px.sl_ap, Px.nop, Px.part, Px.yes, Px.tyl, Px.isL_l, Px.isT_t, Px.isL_t, Px.isT_l, Px.isD_d, Px.isT_d, Px.inV_ints, Px.flat_ints, Px.flatV_i, Px.wipe_cons, Px.wipe_nil, Px.gtup, Px.gcons, Px.gnil, gt_iff_lt, ge_iff_le, Px.we, Px.wonly, Px.was, Px.cxK, not_true_eq_false, and_self, true_implies, false_implies, implies_true, Px.e0, and_assoc, imp_false, not_false_eq_true, ne_eq, Px.rgcd, Px.rixl, Px.rixt, Px.v0, Px.v1, Px.v2, Px.v3, Px.v4, Px.v5, Px.v6, Px.v7, Px.v8, Px.v9, Px.v10, Px.v11, Px.v12, Px.v13, Px.v14, Px.v15, Px.v16, Px.v17, Px.v18, Px.v19, Px.v20, Px.v21, Px.v22, Px.v23, Px.c0, Px.asg, Px.gnm, Px.ret, Px.retN, Px.drop, Px.nxt, Px.brk, Px.cnt, Px.ifs, Px.op, Px.un, Px.tst, Px.tbl, Px.tand, Px.tor, Px.tnot, Px.andv, Px.orv, Px.notv, Px.tif, Px.tup, Px.lst, Px.nil, Px.cons, Px.cal, Px.calS, Px.cb, Px.par, Px.gsub, Px.bits, Px.bm, Px.bm0, Px.ri, Px.ri0, Px.ru, Px.req, Px.rne, Px.rix, Px.rlen, Px.rin, Px.rsetl, Px.risi, Px.tyH_n, Px.tyH_b, Px.tyH_i, Px.tyH_s, Px.tyH_r, Px.seqH_t, Px.seqH_l, Px.seqH_fl, Px.sc_ii, Px.sc_bb, Px.sc_ss, Px.atI0, Px.atI1, Px.atI2, Px.atI3, Px.atI4, Px.atI5, Px.atI6, Px.atI7, Px.kb_NoneType_int, Px.kb_NoneType_bool, Px.kb_NoneType_str, Px.kb_NoneType_list, Px.kb_NoneType_tuple, Px.kb_NoneType_dict, Px.kb_bool_int, Px.kb_bool_bool, Px.kb_bool_str, Px.kb_bool_list, Px.kb_bool_tuple, Px.kb_bool_dict, Px.kb_int_int, Px.kb_int_bool, Px.kb_int_str, Px.kb_int_list, Px.kb_int_tuple, Px.kb_int_dict, Px.kb_str_int, Px.kb_str_bool, Px.kb_str_str, Px.kb_str_list, Px.kb_str_tuple, Px.kb_str_dict, Px.kb_list_int, Px.kb_list_bool, Px.kb_list_str, Px.kb_list_list, Px.kb_list_tuple, Px.kb_list_dict, Px.kb_tuple_int, Px.kb_tuple_bool, Px.kb_tuple_str, Px.kb_tuple_list, Px.kb_tuple_tuple, Px.kb_tuple_dict, Px.kb_dict_int, Px.kb_dict_bool, Px.kb_dict_str, Px.kb_dict_list, Px.kb_dict_tuple, Px.kb_dict_dict, L2.upd_same, Px.updI, L2.ixN, List.set_cons_zero, List.set_cons_succ, List.length_cons, List.length_nil, Nat.reduceAdd, Nat.zero_add, L2.HO.lst.injEq, L2.HO.tup.injEq, L2.upd_upd, L2.V.int.injEq, L2.V.ref.injEq, L2.V.bl.injEq, L2.V.str.injEq, L2.V.ty.injEq, List.cons.injEq, and_true, true_and, and_false, false_and, or_false, false_or, exists_eq_left', exists_eq_left, exists_and_left, exists_const, exists_false, Option.some.injEq, decide_eq_true_eq, List.append_nil, List.cons_append, List.nil_append, Option.isSome_some, Bool.not_true, Bool.not_false, Bool.not_eq_true', Bool.not_eq_true, Bool.false_eq_true, decide_eq_false_iff_not, if_true, if_false, ite_true, ite_false, Int.reduceLE, Int.reduceLT, Int.reduceToNat, Int.cast_ofNat_Int, Bool.true_eq_false, eq_self, ↓reduceIte, reduceCtorEq, Px.aug, Px.ipi, Px.tri, Px.rcatth, Px.rixs, Px.rsls, Px.tm1, Px.glst, Px.nstr, Px.txI, Px.txC, Px.txL, Px.txA, Px.rsgn, Px.txf, Px.tost, Px.tmko, Px.risxd, *]
  refine go_seq ?_
  simp only [decide_true, decide_false, List.map_cons, List.map_nil, Option.map_none, Option.map_some, Option.getD_none, Option.getD_some, Px.dg2, Px.dg1, Px.dg, Px.din, Px.dnotin, Px.dnew, Px.dput, Px.isD_is, Px.dget_i, Px.dget_s, Px.dput_i, Px.dput_s, Px.dOf_d, Px.rtup, Px.rlist, Px.rsl, Px.rsort, Px.rcat, Px.rapp, Px.rrev, Px.sl_ap, Px.nop, Px.part, Px.yes, Px.tyl, Px.isL_l, Px.isT_t, Px.isL_t, Px.isT_l, Px.isD_d, Px.isT_d, Px.inV_ints, Px.flat_ints, Px.flatV_i, Px.wipe_cons, Px.wipe_nil, Px.gtup, Px.gcons, Px.gnil, gt_iff_lt, ge_iff_le, Px.we, Px.wonly, Px.was, Px.cxK, not_true_eq_false, and_self, true_implies, false_implies, implies_true, Px.e0, and_assoc, imp_false, not_false_eq_true, ne_eq, Px.rgcd, Px.rixl, Px.rixt, Px.v0, Px.v1, Px.v2, Px.v3, Px.v4, Px.v5, Px.v6, Px.v7, Px.v8, Px.v9, Px.v10, Px.v11, Px.v12, Px.v13, Px.v14, Px.v15, Px.v16, Px.v17, Px.v18, Px.v19, Px.v20, Px.v21, Px.v22, Px.v23, Px.c0, Px.asg, Px.gnm, Px.ret, Px.retN, Px.drop, Px.nxt, Px.brk, Px.cnt, Px.ifs, Px.op, Px.un, Px.tst, Px.tbl, Px.tand, Px.tor, Px.tnot, Px.andv, Px.orv, Px.notv, Px.tif, Px.tup, Px.lst, Px.nil, Px.cons, Px.cal, Px.calS, Px.cb, Px.par, Px.gsub, Px.bits, Px.bm, Px.bm0, Px.ri, Px.ri0, Px.ru, Px.req, Px.rne, Px.rix, Px.rlen, Px.rin, Px.rsetl, Px.risi, Px.tyH_n, Px.tyH_b, Px.tyH_i, Px.tyH_s, Px.tyH_r, Px.seqH_t, Px.seqH_l, Px.seqH_fl, Px.sc_ii, Px.sc_bb, Px.sc_ss, Px.atI0, Px.atI1, Px.atI2, Px.atI3, Px.atI4, Px.atI5, Px.atI6, Px.atI7, Px.kb_NoneType_int, Px.kb_NoneType_bool, Px.kb_NoneType_str, Px.kb_NoneType_list, Px.kb_NoneType_tuple, Px.kb_NoneType_dict, Px.kb_bool_int, Px.kb_bool_bool, Px.kb_bool_str, Px.kb_bool_list, Px.kb_bool_tuple, Px.kb_bool_dict, Px.kb_int_int, Px.kb_int_bool, Px.kb_int_str, Px.kb_int_list, Px.kb_int_tuple, Px.kb_int_dict, Px.kb_str_int, Px.kb_str_bool, Px.kb_str_str, Px.kb_str_list, Px.kb_str_tuple, Px.kb_str_dict, Px.kb_list_int, Px.kb_list_bool, Px.kb_list_str, Px.kb_list_list, Px.kb_list_tuple, Px.kb_list_dict, Px.kb_tuple_int, Px.kb_tuple_bool, Px.kb_tuple_str, Px.kb_tuple_list, Px.kb_tuple_tuple, Px.kb_tuple_dict, Px.kb_dict_int, Px.kb_dict_bool, Px.kb_dict_str, Px.kb_dict_list, Px.kb_dict_tuple, Px.kb_dict_dict, L2.upd_same, Px.updI, L2.ixN, List.set_cons_zero, List.set_cons_succ, List.length_cons, List.length_nil, Nat.reduceAdd, Nat.zero_add, L2.HO.lst.injEq, L2.HO.tup.injEq, L2.upd_upd, L2.V.int.injEq, L2.V.ref.injEq, L2.V.bl.injEq, L2.V.str.injEq, L2.V.ty.injEq, List.cons.injEq, and_true, true_and, and_false, false_and, or_false, false_or, exists_eq_left', exists_eq_left, exists_and_left, exists_const, exists_false, Option.some.injEq, decide_eq_true_eq, List.append_nil, List.cons_append, List.nil_append, Option.isSome_some, Bool.not_true, Bool.not_false, Bool.not_eq_true', Bool.not_eq_true, Bool.false_eq_true, decide_eq_false_iff_not, if_true, if_false, ite_true, ite_false, Int.reduceLE, Int.reduceLT, Int.reduceToNat, Int.cast_ofNat_Int, Bool.true_eq_false, eq_self, ↓reduceIte, reduceCtorEq, Px.aug, Px.ipi, Px.tri, Px.rcatth, Px.rixs, Px.rsls, Px.tm1, Px.glst, Px.nstr, Px.txI, Px.txC, Px.txL, Px.txA, Px.rsgn, Px.txf, Px.tost, Px.tmko, Px.risxd, *, spTake]
  intro m0 H1 v0 v1 hp1 b1 _
  refine go_cut (fun σ' H' => ∃ (z : Str) (m : Int), σ' = [some (.ref p), some (.str z), some (.int m), none] ∧ (0 < z.length ∧ z.length ≤ 120) ∧ (0 ≤ m ∧ m ≤ 30) ∧ Pool H' p ∧ Px.But p H H') ?_ ?_
  · simp only [decide_true, decide_false, List.map_cons, List.map_nil, Option.map_none, Option.map_some, Option.getD_none, Option.getD_some, Px.dg2, Px.dg1, Px.dg, Px.din, Px.dnotin, Px.dnew, Px.dput, Px.isD_is, Px.dget_i, Px.dget_s, Px.dput_i, Px.dput_s, Px.dOf_d, Px.rtup, Px.rlist, Px.rsl, Px.rsort, Px.rcat, Px.rapp, Px.rrev, Px.sl_ap, Px.nop, Px.part, Px.yes, Px.tyl, Px.isL_l, Px.isT_t, Px.isL_t, Px.isT_l, Px.isD_d, Px.isT_d, Px.inV_ints, Px.flat_ints, Px.flatV_i, Px.wipe_cons, Px.wipe_nil, Px.gtup, Px.gcons, Px.gnil, gt_iff_lt, ge_iff_le, Px.we, Px.wonly, Px.was, Px.cxK, not_true_eq_false, and_self, true_implies, false_implies, implies_true, Px.e0, and_assoc, imp_false, not_false_eq_true, ne_eq, Px.rgcd, Px.rixl, Px.rixt, Px.v0, Px.v1, Px.v2, Px.v3, Px.v4, Px.v5, Px.v6, Px.v7, Px.v8, Px.v9, Px.v10, Px.v11, Px.v12, Px.v13, Px.v14, Px.v15, Px.v16, Px.v17, Px.v18, Px.v19, Px.v20, Px.v21, Px.v22, Px.v23, Px.c0, Px.asg, Px.gnm, Px.ret, Px.retN, Px.drop, Px.nxt, Px.brk, Px.cnt, Px.ifs, Px.op, Px.un, Px.tst, Px.tbl, Px.tand, Px.tor, Px.tnot, Px.andv, Px.orv, Px.notv, Px.tif, Px.tup, Px.lst, Px.nil, Px.cons, Px.cal, Px.calS, Px.cb, Px.par, Px.gsub, Px.bits, Px.bm, Px.bm0, Px.ri, Px.ri0, Px.ru, Px.req, Px.rne, Px.rix, Px.rlen, Px.rin, Px.rsetl, Px.risi, Px.tyH_n, Px.tyH_b, Px.tyH_i, Px.tyH_s, Px.tyH_r, Px.seqH_t, Px.seqH_l, Px.seqH_fl, Px.sc_ii, Px.sc_bb, Px.sc_ss, Px.atI0, Px.atI1, Px.atI2, Px.atI3, Px.atI4, Px.atI5, Px.atI6, Px.atI7, Px.kb_NoneType_int, Px.kb_NoneType_bool, Px.kb_NoneType_str, Px.kb_NoneType_list, Px.kb_NoneType_tuple, Px.kb_NoneType_dict, Px.kb_bool_int, Px.kb_bool_bool, Px.kb_bool_str, Px.kb_bool_list, Px.kb_bool_tuple, Px.kb_bool_dict, Px.kb_int_int, Px.kb_int_bool, Px.kb_int_str, Px.kb_int_list, Px.kb_int_tuple, Px.kb_int_dict, Px.kb_str_int, Px.kb_str_bool, Px.kb_str_str, Px.kb_str_list, Px.kb_str_tuple, Px.kb_str_dict, Px.kb_list_int, Px.kb_list_bool, Px.kb_list_str, Px.kb_list_list, Px.kb_list_tuple, Px.kb_list_dict, Px.kb_tuple_int, Px.kb_tuple_bool, Px.kb_tuple_str, Px.kb_tuple_list, Px.kb_tuple_tuple, Px.kb_tuple_dict, Px.kb_dict_int, Px.kb_dict_bool, Px.kb_dict_str, Px.kb_dict_list, Px.kb_dict_tuple, Px.kb_dict_dict, L2.upd_same, Px.updI, L2.ixN, List.set_cons_zero, List.set_cons_succ, List.length_cons, List.length_nil, Nat.reduceAdd, Nat.zero_add, L2.HO.lst.injEq, L2.HO.tup.injEq, L2.upd_upd, L2.V.int.injEq, L2.V.ref.injEq, L2.V.bl.injEq, L2.V.str.injEq, L2.V.ty.injEq, List.cons.injEq, and_true, true_and, and_false, false_and, or_false, false_or, exists_eq_left', exists_eq_left, exists_and_left, exists_const, exists_false, Option.some.injEq, decide_eq_true_eq, List.append_nil, List.cons_append, List.nil_append, Option.isSome_some, Bool.not_true, Bool.not_false, Bool.not_eq_true', Bool.not_eq_true, Bool.false_eq_true, decide_eq_false_iff_not, if_true, if_false, ite_true, ite_false, Int.reduceLE, Int.reduceLT, Int.reduceToNat, Int.cast_ofNat_Int, Bool.true_eq_false, eq_self, ↓reduceIte, reduceCtorEq, Px.aug, Px.ipi, Px.tri, Px.rcatth, Px.rixs, Px.rsls, Px.tm1, Px.glst, Px.nstr, Px.txI, Px.txC, Px.txL, Px.txA, Px.rsgn, Px.txf, Px.tost, Px.tmko, Px.risxd, *, spTake, spSigns]
    intro v H2 _ _ hp2 b2 _
    refine go_if (fun _ => ?_) (fun _ => ?_)
    · refine go_seq ?_
      simp only [decide_true, decide_false, List.map_cons, List.map_nil, Option.map_none, Option.map_some, Option.getD_none, Option.getD_some, Px.dg2, Px.dg1, Px.dg, Px.din, Px.dnotin, Px.dnew, Px.dput, Px.isD_is, Px.dget_i, Px.dget_s, Px.dput_i, Px.dput_s, Px.dOf_d, Px.rtup, Px.rlist, Px.rsl, Px.rsort, Px.rcat, Px.rapp, Px.rrev, Px.sl_ap, Px.nop, Px.part, Px.yes, Px.tyl, Px.isL_l, Px.isT_t, Px.isL_t, Px.isT_l, Px.isD_d, Px.isT_d, Px.inV_ints, Px.flat_ints, Px.flatV_i, Px.wipe_cons, Px.wipe_nil, Px.gtup, Px.gcons, Px.gnil, gt_iff_lt, ge_iff_le, Px.we, Px.wonly, Px.was, Px.cxK, not_true_eq_false, and_self, true_implies, false_implies, implies_true, Px.e0, and_assoc, imp_false, not_false_eq_true, ne_eq, Px.rgcd, Px.rixl, Px.rixt, Px.v0, Px.v1, Px.v2, Px.v3, Px.v4, Px.v5, Px.v6, Px.v7, Px.v8, Px.v9, Px.v10, Px.v11, Px.v12, Px.v13, Px.v14, Px.v15, Px.v16, Px.v17, Px.v18, Px.v19, Px.v20, Px.v21, Px.v22, Px.v23, Px.c0, Px.asg, Px.gnm, Px.ret, Px.retN, Px.drop, Px.nxt, Px.brk, Px.cnt, Px.ifs, Px.op, Px.un, Px.tst, Px.tbl, Px.tand, Px.tor, Px.tnot, Px.andv, Px.orv, Px.notv, Px.tif, Px.tup, Px.lst, Px.nil, Px.cons, Px.cal, Px.calS, Px.cb, Px.par, Px.gsub, Px.bits, Px.bm, Px.bm0, Px.ri, Px.ri0, Px.ru, Px.req, Px.rne, Px.rix, Px.rlen, Px.rin, Px.rsetl, Px.risi, Px.tyH_n, Px.tyH_b, Px.tyH_i, Px.tyH_s, Px.tyH_r, Px.seqH_t, Px.seqH_l, Px.seqH_fl, Px.sc_ii, Px.sc_bb, Px.sc_ss, Px.atI0, Px.atI1, Px.atI2, Px.atI3, Px.atI4, Px.atI5, Px.atI6, Px.atI7, Px.kb_NoneType_int, Px.kb_NoneType_bool, Px.kb_NoneType_str, Px.kb_NoneType_list, Px.kb_NoneType_tuple, Px.kb_NoneType_dict, Px.kb_bool_int, Px.kb_bool_bool, Px.kb_bool_str, Px.kb_bool_list, Px.kb_bool_tuple, Px.kb_bool_dict, Px.kb_int_int, Px.kb_int_bool, Px.kb_int_str, Px.kb_int_list, Px.kb_int_tuple, Px.kb_int_dict, Px.kb_str_int, Px.kb_str_bool, Px.kb_str_str, Px.kb_str_list, Px.kb_str_tuple, Px.kb_str_dict, Px.kb_list_int, Px.kb_list_bool, Px.kb_list_str, Px.kb_list_list, Px.kb_list_tuple, Px.kb_list_dict, Px.kb_tuple_int, Px.kb_tuple_bool, Px.kb_tuple_str, Px.kb_tuple_list, Px.kb_tuple_tuple, Px.kb_tuple_dict, Px.kb_dict_int, Px.kb_dict_bool, Px.kb_dict_str, Px.kb_dict_list, Px.kb_dict_tuple, Px.kb_dict_dict, L2.upd_same, Px.updI, L2.ixN, List.set_cons_zero, List.set_cons_succ, List.length_cons, List.length_nil, Nat.reduceAdd, Nat.zero_add, L2.HO.lst.injEq, L2.HO.tup.injEq, L2.upd_upd, L2.V.int.injEq, L2.V.ref.injEq, L2.V.bl.injEq, L2.V.str.injEq, L2.V.ty.injEq, List.cons.injEq, and_true, true_and, and_false, false_and, or_false, false_or, exists_eq_left', exists_eq_left, exists_and_left, exists_const, exists_false, Option.some.injEq, decide_eq_true_eq, List.append_nil, List.cons_append, List.nil_append, Option.isSome_some, Bool.not_true, Bool.not_false, Bool.not_eq_true', Bool.not_eq_true, Bool.false_eq_true, decide_eq_false_iff_not, if_true, if_false, ite_true, ite_false, Int.reduceLE, Int.reduceLT, Int.reduceToNat, Int.cast_ofNat_Int, Bool.true_eq_false, eq_self, ↓reduceIte, reduceCtorEq, Px.aug, Px.ipi, Px.tri, Px.rcatth, Px.rixs, Px.rsls, Px.tm1, Px.glst, Px.nstr, Px.txI, Px.txC, Px.txL, Px.txA, Px.rsgn, Px.txf, Px.tost, Px.tmko, Px.risxd, *, spTake, spSigns]
      exact fun z z0 z1 u H3 u0 u1 hp3 b3 _ => ⟨z0, z1, by omega, by omega, hp3, (b1.trans b2).trans b3⟩
    · exact ⟨by decide +kernel, by decide +kernel, by omega, hp2, b1.trans b2⟩
  rintro σ' H2 ⟨z, m, rfl, ⟨z0, z1⟩, ⟨m0, m1⟩, hp2, b2⟩
  simp only [decide_true, decide_false, List.map_cons, List.map_nil, Option.map_none, Option.map_some, Option.getD_none, Option.getD_some, Px.dg2, Px.dg1, Px.dg, Px.din, Px.dnotin, Px.dnew, Px.dput, Px.isD_is, Px.dget_i, Px.dget_s, Px.dput_i, Px.dput_s, Px.dOf_d, Px.rtup, Px.rlist, Px.rsl, Px.rsort, Px.rcat, Px.rapp, Px.rrev, Px.sl_ap, Px.nop, Px.part, Px.yes, Px.tyl, Px.isL_l, Px.isT_t, Px.isL_t, Px.isT_l, Px.isD_d, Px.isT_d, Px.inV_ints, Px.flat_ints, Px.flatV_i, Px.wipe_cons, Px.wipe_nil, Px.gtup, Px.gcons, Px.gnil, gt_iff_lt, ge_iff_le, Px.we, Px.wonly, Px.was, Px.cxK, not_true_eq_false, and_self, true_implies, false_implies, implies_true, Px.e0, and_assoc, imp_false, not_false_eq_true, ne_eq, Px.rgcd, Px.rixl, Px.rixt, Px.v0, Px.v1, Px.v2, Px.v3, Px.v4, Px.v5, Px.v6, Px.v7, Px.v8, Px.v9, Px.v10, Px.v11, Px.v12, Px.v13, Px.v14, Px.v15, Px.v16, Px.v17, Px.v18, Px.v19, Px.v20, Px.v21, Px.v22, Px.v23, Px.c0, Px.asg, Px.gnm, Px.ret, Px.retN, Px.drop, Px.nxt, Px.brk, Px.cnt, Px.ifs, Px.op, Px.un, Px.tst, Px.tbl, Px.tand, Px.tor, Px.tnot, Px.andv, Px.orv, Px.notv, Px.tif, Px.tup, Px.lst, Px.nil, Px.cons, Px.cal, Px.calS, Px.cb, Px.par, Px.gsub, Px.bits, Px.bm, Px.bm0, Px.ri, Px.ri0, Px.ru, Px.req, Px.rne, Px.rix, Px.rlen, Px.rin, Px.rsetl, Px.risi, Px.tyH_n, Px.tyH_b, Px.tyH_i, Px.tyH_s, Px.tyH_r, Px.seqH_t, Px.seqH_l, Px.seqH_fl, Px.sc_ii, Px.sc_bb, Px.sc_ss, Px.atI0, Px.atI1, Px.atI2, Px.atI3, Px.atI4, Px.atI5, Px.atI6, Px.atI7, Px.kb_NoneType_int, Px.kb_NoneType_bool, Px.kb_NoneType_str, Px.kb_NoneType_list, Px.kb_NoneType_tuple, Px.kb_NoneType_dict, Px.kb_bool_int, Px.kb_bool_bool, Px.kb_bool_str, Px.kb_bool_list, Px.kb_bool_tuple, Px.kb_bool_dict, Px.kb_int_int, Px.kb_int_bool, Px.kb_int_str, Px.kb_int_list, Px.kb_int_tuple, Px.kb_int_dict, Px.kb_str_int, Px.kb_str_bool, Px.kb_str_str, Px.kb_str_list, Px.kb_str_tuple, Px.kb_str_dict, Px.kb_list_int, Px.kb_list_bool, Px.kb_list_str, Px.kb_list_list, Px.kb_list_tuple, Px.kb_list_dict, Px.kb_tuple_int, Px.kb_tuple_bool, Px.kb_tuple_str, Px.kb_tuple_list, Px.kb_tuple_tuple, Px.kb_tuple_dict, Px.kb_dict_int, Px.kb_dict_bool, Px.kb_dict_str, Px.kb_dict_list, Px.kb_dict_tuple, Px.kb_dict_dict, L2.upd_same, Px.updI, L2.ixN, List.set_cons_zero, List.set_cons_succ, List.length_cons, List.length_nil, Nat.reduceAdd, Nat.zero_add, L2.HO.lst.injEq, L2.HO.tup.injEq, L2.upd_upd, L2.V.int.injEq, L2.V.ref.injEq, L2.V.bl.injEq, L2.V.str.injEq, L2.V.ty.injEq, List.cons.injEq, and_true, true_and, and_false, false_and, or_false, false_or, exists_eq_left', exists_eq_left, exists_and_left, exists_const, exists_false, Option.some.injEq, decide_eq_true_eq, List.append_nil, List.cons_append, List.nil_append, Option.isSome_some, Bool.not_true, Bool.not_false, Bool.not_eq_true', Bool.not_eq_true, Bool.false_eq_true, decide_eq_false_iff_not, if_true, if_false, ite_true, ite_false, Int.reduceLE, Int.reduceLT, Int.reduceToNat, Int.cast_ofNat_Int, Bool.true_eq_false, eq_self, ↓reduceIte, reduceCtorEq, Px.aug, Px.ipi, Px.tri, Px.rcatth, Px.rixs, Px.rsls, Px.tm1, Px.glst, Px.nstr, Px.txI, Px.txC, Px.txL, Px.txA, Px.rsgn, Px.txf, Px.tost, Px.tmko, Px.risxd, *, l_e]
  refine ⟨⟨_, rfl⟩, ?_⟩
  have hpI : ∀ (D : Addr) (i : Nat) (ds : List PyData) (H' : Hp) (ys : List V), H2 D = none → IFr p H2 i ds H' → IFr p H2 i ds (upd H' D (.lst ys)) := fun D i ds H' ys hD h => by
    obtain ⟨a, ⟨c1, c2, c3, c4, b⟩, c⟩ := h
    exact ⟨a, ⟨c1, c2, c3, c4, by rw [upd_ne (ne_some_none hp2.isSome hD), b]⟩, c.mut0 hD⟩
  refine lcg_rng (IFr p H2) m (fun R q => by simp only [decide_true, decide_false, List.map_cons, List.map_nil, Option.map_none, Option.map_some, Option.getD_none, Option.getD_some, Px.dg2, Px.dg1, Px.dg, Px.din, Px.dnotin, Px.dnew, Px.dput, Px.isD_is, Px.dget_i, Px.dget_s, Px.dput_i, Px.dput_s, Px.dOf_d, Px.rtup, Px.rlist, Px.rsl, Px.rsort, Px.rcat, Px.rapp, Px.rrev, Px.sl_ap, Px.nop, Px.part, Px.yes, Px.tyl, Px.isL_l, Px.isT_t, Px.isL_t, Px.isT_l, Px.isD_d, Px.isT_d, Px.inV_ints, Px.flat_ints, Px.flatV_i, Px.wipe_cons, Px.wipe_nil, Px.gtup, Px.gcons, Px.gnil, gt_iff_lt, ge_iff_le, Px.we, Px.wonly, Px.was, Px.cxK, not_true_eq_false, and_self, true_implies, false_implies, implies_true, Px.e0, and_assoc, imp_false, not_false_eq_true, ne_eq, Px.rgcd, Px.rixl, Px.rixt, Px.v0, Px.v1, Px.v2, Px.v3, Px.v4, Px.v5, Px.v6, Px.v7, Px.v8, Px.v9, Px.v10, Px.v11, Px.v12, Px.v13, Px.v14, Px.v15, Px.v16, Px.v17, Px.v18, Px.v19, Px.v20, Px.v21, Px.v22, Px.v23, Px.c0, Px.asg, Px.gnm, Px.ret, Px.retN, Px.drop, Px.nxt, Px.brk, Px.cnt, Px.ifs, Px.op, Px.un, Px.tst, Px.tbl, Px.tand, Px.tor, Px.tnot, Px.andv, Px.orv, Px.notv, Px.tif, Px.tup, Px.lst, Px.nil, Px.cons, Px.cal, Px.calS, Px.cb, Px.par, Px.gsub, Px.bits, Px.bm, Px.bm0, Px.ri, Px.ri0, Px.ru, Px.req, Px.rne, Px.rix, Px.rlen, Px.rin, Px.rsetl, Px.risi, Px.tyH_n, Px.tyH_b, Px.tyH_i, Px.tyH_s, Px.tyH_r, Px.seqH_t, Px.seqH_l, Px.seqH_fl, Px.sc_ii, Px.sc_bb, Px.sc_ss, Px.atI0, Px.atI1, Px.atI2, Px.atI3, Px.atI4, Px.atI5, Px.atI6, Px.atI7, Px.kb_NoneType_int, Px.kb_NoneType_bool, Px.kb_NoneType_str, Px.kb_NoneType_list, Px.kb_NoneType_tuple, Px.kb_NoneType_dict, Px.kb_bool_int, Px.kb_bool_bool, Px.kb_bool_str, Px.kb_bool_list, Px.kb_bool_tuple, Px.kb_bool_dict, Px.kb_int_int, Px.kb_int_bool, Px.kb_int_str, Px.kb_int_list, Px.kb_int_tuple, Px.kb_int_dict, Px.kb_str_int, Px.kb_str_bool, Px.kb_str_str, Px.kb_str_list, Px.kb_str_tuple, Px.kb_str_dict, Px.kb_list_int, Px.kb_list_bool, Px.kb_list_str, Px.kb_list_list, Px.kb_list_tuple, Px.kb_list_dict, Px.kb_tuple_int, Px.kb_tuple_bool, Px.kb_tuple_str, Px.kb_tuple_list, Px.kb_tuple_tuple, Px.kb_tuple_dict, Px.kb_dict_int, Px.kb_dict_bool, Px.kb_dict_str, Px.kb_dict_list, Px.kb_dict_tuple, Px.kb_dict_dict, L2.upd_same, Px.updI, L2.ixN, List.set_cons_zero, List.set_cons_succ, List.length_cons, List.length_nil, Nat.reduceAdd, Nat.zero_add, L2.HO.lst.injEq, L2.HO.tup.injEq, L2.upd_upd, L2.V.int.injEq, L2.V.ref.injEq, L2.V.bl.injEq, L2.V.str.injEq, L2.V.ty.injEq, List.cons.injEq, and_true, true_and, and_false, false_and, or_false, false_or, exists_eq_left', exists_eq_left, exists_and_left, exists_const, exists_false, Option.some.injEq, decide_eq_true_eq, List.append_nil, List.cons_append, List.nil_append, Option.isSome_some, Bool.not_true, Bool.not_false, Bool.not_eq_true', Bool.not_eq_true, Bool.false_eq_true, decide_eq_false_iff_not, if_true, if_false, ite_true, ite_false, Int.reduceLE, Int.reduceLT, Int.reduceToNat, Int.cast_ofNat_Int, Bool.true_eq_false, eq_self, ↓reduceIte, reduceCtorEq, Px.aug, Px.ipi, Px.tri, Px.rcatth, Px.rixs, Px.rsls, Px.tm1, Px.glst, Px.nstr, Px.txI, Px.txC, Px.txL, Px.txA, Px.rsgn, Px.txf, Px.tost, Px.tmko, Px.risxd]; exact q) ⟨m0, by omega⟩ hpI ⟨⟨[], rfl, rfl, fun z h => (by cases h)⟩, hp2, Px.But.rfl' p H2⟩ ?_ ?_
  · intro i hi D ds H3 R E hD hl ⟨⟨zs, ez, lz, hz⟩, hp3, b3⟩ _ k3
    have hDp : D ≠ p := hp2.ne0 hD
    simp only [decide_true, decide_false, List.map_cons, List.map_nil, Option.map_none, Option.map_some, Option.getD_none, Option.getD_some, Px.dg2, Px.dg1, Px.dg, Px.din, Px.dnotin, Px.dnew, Px.dput, Px.isD_is, Px.dget_i, Px.dget_s, Px.dput_i, Px.dput_s, Px.dOf_d, Px.rtup, Px.rlist, Px.rsl, Px.rsort, Px.rcat, Px.rapp, Px.rrev, Px.sl_ap, Px.nop, Px.part, Px.yes, Px.tyl, Px.isL_l, Px.isT_t, Px.isL_t, Px.isT_l, Px.isD_d, Px.isT_d, Px.inV_ints, Px.flat_ints, Px.flatV_i, Px.wipe_cons, Px.wipe_nil, Px.gtup, Px.gcons, Px.gnil, gt_iff_lt, ge_iff_le, Px.we, Px.wonly, Px.was, Px.cxK, not_true_eq_false, and_self, true_implies, false_implies, implies_true, Px.e0, and_assoc, imp_false, not_false_eq_true, ne_eq, Px.rgcd, Px.rixl, Px.rixt, Px.v0, Px.v1, Px.v2, Px.v3, Px.v4, Px.v5, Px.v6, Px.v7, Px.v8, Px.v9, Px.v10, Px.v11, Px.v12, Px.v13, Px.v14, Px.v15, Px.v16, Px.v17, Px.v18, Px.v19, Px.v20, Px.v21, Px.v22, Px.v23, Px.c0, Px.asg, Px.gnm, Px.ret, Px.retN, Px.drop, Px.nxt, Px.brk, Px.cnt, Px.ifs, Px.op, Px.un, Px.tst, Px.tbl, Px.tand, Px.tor, Px.tnot, Px.andv, Px.orv, Px.notv, Px.tif, Px.tup, Px.lst, Px.nil, Px.cons, Px.cal, Px.calS, Px.cb, Px.par, Px.gsub, Px.bits, Px.bm, Px.bm0, Px.ri, Px.ri0, Px.ru, Px.req, Px.rne, Px.rix, Px.rlen, Px.rin, Px.rsetl, Px.risi, Px.tyH_n, Px.tyH_b, Px.tyH_i, Px.tyH_s, Px.tyH_r, Px.seqH_t, Px.seqH_l, Px.seqH_fl, Px.sc_ii, Px.sc_bb, Px.sc_ss, Px.atI0, Px.atI1, Px.atI2, Px.atI3, Px.atI4, Px.atI5, Px.atI6, Px.atI7, Px.kb_NoneType_int, Px.kb_NoneType_bool, Px.kb_NoneType_str, Px.kb_NoneType_list, Px.kb_NoneType_tuple, Px.kb_NoneType_dict, Px.kb_bool_int, Px.kb_bool_bool, Px.kb_bool_str, Px.kb_bool_list, Px.kb_bool_tuple, Px.kb_bool_dict, Px.kb_int_int, Px.kb_int_bool, Px.kb_int_str, Px.kb_int_list, Px.kb_int_tuple, Px.kb_int_dict, Px.kb_str_int, Px.kb_str_bool, Px.kb_str_str, Px.kb_str_list, Px.kb_str_tuple, Px.kb_str_dict, Px.kb_list_int, Px.kb_list_bool, Px.kb_list_str, Px.kb_list_list, Px.kb_list_tuple, Px.kb_list_dict, Px.kb_tuple_int, Px.kb_tuple_bool, Px.kb_tuple_str, Px.kb_tuple_list, Px.kb_tuple_tuple, Px.kb_tuple_dict, Px.kb_dict_int, Px.kb_dict_bool, Px.kb_dict_str, Px.kb_dict_list, Px.kb_dict_tuple, Px.kb_dict_dict, L2.upd_same, Px.updI, L2.ixN, List.set_cons_zero, List.set_cons_succ, List.length_cons, List.length_nil, Nat.reduceAdd, Nat.zero_add, L2.HO.lst.injEq, L2.HO.tup.injEq, L2.upd_upd, L2.V.int.injEq, L2.V.ref.injEq, L2.V.bl.injEq, L2.V.str.injEq, L2.V.ty.injEq, List.cons.injEq, and_true, true_and, and_false, false_and, or_false, false_or, exists_eq_left', exists_eq_left, exists_and_left, exists_const, exists_false, Option.some.injEq, decide_eq_true_eq, List.append_nil, List.cons_append, List.nil_append, Option.isSome_some, Bool.not_true, Bool.not_false, Bool.not_eq_true', Bool.not_eq_true, Bool.false_eq_true, decide_eq_false_iff_not, if_true, if_false, ite_true, ite_false, Int.reduceLE, Int.reduceLT, Int.reduceToNat, Int.cast_ofNat_Int, Bool.true_eq_false, eq_self, ↓reduceIte, reduceCtorEq, Px.aug, Px.ipi, Px.tri, Px.rcatth, Px.rixs, Px.rsls, Px.tm1, Px.glst, Px.nstr, Px.txI, Px.txC, Px.txL, Px.txA, Px.rsgn, Px.txf, Px.tost, Px.tmko, Px.risxd, *, spTake]
    refine ⟨line_ok (show z.length ≤ 10000 by omega), by omega, by omega, fun v H4 v0 v1 hp4 b4 t4 => ?_⟩
    obtain ⟨c, hc⟩ := z_at v0 v1
    refine ⟨line_ok (show z.length ≤ 10000 by omega), c, hc, k3 _ (.str (Tx [c])) H4 (b4 D hDp (by
      cases e : H3 D with
      | none => rw [e] at hl; cases hl
      | some o => rfl)) t4 (.str _) ⟨⟨zs ++ [Tx [c]], by rw [ez, List.map_append]; rfl, by rw [List.length_append, lz]; rfl, fun y hy => ?_⟩, hp4, b3.trans b4⟩⟩
    rcases List.mem_append.mp hy with hy | hy
    · exact hz y hy
    · rw [List.mem_singleton.mp hy]
      rfl
  · rintro D ys ds H3 hD hy hall ⟨⟨zs, rfl, lz, hz⟩, hp3, b3⟩
    have ey := of_strs hall
    subst ey
    refine ⟨D, rfl, zs, .inl (.inl (.inl hy)), ?_, k _ H3 ?_ hp3 (b2.trans b3)⟩
    · rw [sum_one zs hz]
      omega
    · rw [join_len zs hz]
      omega
def spText2 (vs : List V) (H : Hp) (Q : VK) (E : XK) : Prop := spZ 201 vs H Q E
theorem ok_ltext (B : Bn mg) (F : FunAt K mg "_law_text" s_law_text) (D_law_take : Def P w K mg base CX0 1 "_law_take" ["pool", "size"] spTake) (D_law_word : Def P w K mg base CX0 3 "_law_word" ["pool", "most"] (spZm 26)) (D_law_digits : Def P w K mg base CX0 2 "_law_digits" ["pool", "most"] (spZm 25))
    (D_law_spoilt : Def P w K mg base CX0 3 "_law_spoilt" ["pool", "text"] spSpoil) (D_law_odd : Def P w K mg base CX0 2 "_law_odd" ["pool"] (spZ 201)) (D_law_free : Def P w K mg base CX0 2 "_law_free" ["pool"] (spZ 201)) : Def P w K mg base CX0 4 "_law_text" ["pool"] (spZ 201) := by
  refine F.ok sc_law_text (fun _ _ _ _ _ _ us hl => match us, hl with | [_], _ => rfl) (fun vs H Q E h => by obtain ⟨_, rfl, _⟩ := h; rfl) (fun f cdv A outer s H vs Q E hr h => ?_)
  obtain ⟨p, rfl, hp, k⟩ := h
  refine ⟨_, pss_cons (ps_set (i := 1) sc_law_text.nd rfl (Or.inl rfl) (pe_fn D_law_take (hr.mono (by decide)) pass0 (pa_cons (pv 0) (pa_cons pe_int pa_nil)))) (
  pss_cons (ps_if (pt_cmpR op_eq (pv 1) pe_int (nomark _)) (pss_one (ps_ret (pe_fn D_law_word hr pass0 (pa_cons (pv 0) (pa_cons pe_int pa_nil))))) (pss_nil)) (
  pcut (ps_if (PW.pt (pw_or (pt_cmpR op_eq (pv 1) pe_int (nomark _)) (pw_or1 (pt_cmpR op_eq (pv 1) pe_int (nomark _))))) (pss_one (ps_ret (pe_op op_add_str (pe_op op_add_str (pe_fn D_law_word hr pass0 (pa_cons (pv 0) (pa_cons pe_int pa_nil))) pe_str) (pe_fn D_law_digits (hr.mono (by decide)) pass0 (pa_cons (pv 0) (pa_cons pe_int pa_nil)))))) (pss_nil)) (
  pss_cons (ps_if (pt_cmpR op_eq (pv 1) pe_int (nomark _)) (pss_one (ps_ret (pe_fn D_law_spoilt hr pass0 (pa_cons (pv 0) (pa_cons (pe_fn D_law_word hr pass0 (pa_cons (pv 0) (pa_cons pe_int pa_nil))) pa_nil))))) (pss_nil)) (
  pcut (ps_if (PW.pt (pw_or (pt_cmpR op_eq (pv 1) pe_int (nomark _)) (pw_or1 (pt_cmpR op_eq (pv 1) pe_int (nomark _))))) (pss_cons (ps_set (i := 2) sc_law_text.nd rfl (Or.inl rfl) (pe_fn D_law_word hr pass0 (pa_cons (pv 0) (pa_cons pe_int pa_nil)))) (
  pss_one (ps_ret (pe_fn D_law_spoilt hr pass0 (pa_cons (pv 0) (pa_cons (pe_op op_add_str (pe_op op_add_str (pv 2) pe_str) (pe_fn D_law_digits (hr.mono (by decide)) pass0 (pa_cons (pv 0) (pa_cons pe_int pa_nil)))) pa_nil)))))) (pss_nil)) (
  pss_cons (ps_if (pt_cmpR op_eq (pv 1) pe_int (nomark _)) (pss_one (ps_ret (pe_fn D_law_odd (hr.mono (by decide)) pass0 (pa_cons (pv 0) pa_nil)))) (pss_nil)) (
  pss_one (ps_ret (pe_fn D_law_free (hr.mono (by decide)) pass0 (pa_cons (pv 0) pa_nil))))))))), ?_⟩
  show tSeq _ _ _ [some (.ref p), none, none] H
  have l1 : (Str.ofString "/").length = 1 := rfl
  have lz : ∀ {x u : Str}, x.length ≤ 200 → u.length ≤ 200 → x.length + u.length ≤ sizeLine := fun {x u} h1 h2 => line_ok (show _ ≤ 10000 by omega)
  refine go_seq ?_
  simp only [decide_true, decide_false, List.map_cons, List.map_nil, Option.map_none, Option.map_some, Option.getD_none, Option.getD_some, Px.dg2, Px.dg1, Px.dg, Px.din, Px.dnotin, Px.dnew, Px.dput, Px.isD_is, Px.dget_i, Px.dget_s, Px.dput_i, Px.dput_s, Px.dOf_d, Px.rtup, Px.rlist, Px.rsl, Px.rsort, Px.rcat, Px.rapp, Px.rrev, Px.sl_ap, Px.nop, Px.part, Px.yes, Px.tyl, Px.isL_l, Px.isT_t, Px.isL_t, Px.isT_l, Px.isD_d, Px.isT_d, Px.inV_ints, Px.flat_ints, Px.flatV_i, Px.wipe_cons, Px.wipe_nil, Px.gtup, Px.gcons, Px.gnil, gt_iff_lt, ge_iff_le, Px.we, Px.wonly, Px.was, Px.cxK, not_true_eq_false, and_self, true_implies, false_implies, implies_true, Px.e0, and_assoc, imp_false, not_false_eq_true, ne_eq, Px.rgcd, Px.rixl, Px.rixt, Px.v0, Px.v1, Px.v2, Px.v3, Px.v4, Px.v5, Px.v6, Px.v7, Px.v8, Px.v9, Px.v10, Px.v11, Px.v12, Px.v13, Px.v14, Px.v15, Px.v16, Px.v17, Px.v18, Px.v19, Px.v20, Px.v21, Px.v22, Px.v23, Px.c0, Px.asg, Px.gnm, Px.ret, Px.retN, Px.drop, Px.nxt, Px.brk, Px.cnt, Px.ifs, Px.op, Px.un, Px.tst, Px.tbl, Px.tand, Px.tor, Px.tnot, Px.andv, Px.orv, Px.notv, Px.tif, Px.tup, Px.lst, Px.nil, Px.cons, Px.cal, Px.calS, Px.cb, Px.par, Px.gsub, Px.bits, Px.bm, Px.bm0, Px.ri, Px.ri0, Px.ru, Px.req, Px.rne, Px.rix, Px.rlen, Px.rin, Px.rsetl, Px.risi, Px.tyH_n, Px.tyH_b, Px.tyH_i, Px.tyH_s, Px.tyH_r, Px.seqH_t, Px.seqH_l, Px.seqH_fl, Px.sc_ii, Px.sc_bb, Px.sc_ss, Px.atI0, Px.atI1, Px.atI2, Px.atI3, Px.atI4, Px.atI5, Px.atI6, Px.atI7, Px.kb_NoneType_int, Px.kb_NoneType_bool, Px.kb_NoneType_str, Px.kb_NoneType_list, Px.kb_NoneType_tuple, Px.kb_NoneType_dict, Px.kb_bool_int, Px.kb_bool_bool, Px.kb_bool_str, Px.kb_bool_list, Px.kb_bool_tuple, Px.kb_bool_dict, Px.kb_int_int, Px.kb_int_bool, Px.kb_int_str, Px.kb_int_list, Px.kb_int_tuple, Px.kb_int_dict, Px.kb_str_int, Px.kb_str_bool, Px.kb_str_str, Px.kb_str_list, Px.kb_str_tuple, Px.kb_str_dict, Px.kb_list_int, Px.kb_list_bool, Px.kb_list_str, Px.kb_list_list, Px.kb_list_tuple, Px.kb_list_dict, Px.kb_tuple_int, Px.kb_tuple_bool, Px.kb_tuple_str, Px.kb_tuple_list, Px.kb_tuple_tuple, Px.kb_tuple_dict, Px.kb_dict_int, Px.kb_dict_bool, Px.kb_dict_str, Px.kb_dict_list, Px.kb_dict_tuple, Px.kb_dict_dict, L2.upd_same, Px.updI, L2.ixN, List.set_cons_zero, List.set_cons_succ, List.length_cons, List.length_nil, Nat.reduceAdd, Nat.zero_add, L2.HO.lst.injEq, L2.HO.tup.injEq, L2.upd_upd, L2.V.int.injEq, L2.V.ref.injEq, L2.V.bl.injEq, L2.V.str.injEq, L2.V.ty.injEq, List.cons.injEq, and_true, true_and, and_false, false_and, or_false, false_or, exists_eq_left', exists_eq_left, exists_and_left, exists_const, exists_false, Option.some.injEq, decide_eq_true_eq, List.append_nil, List.cons_append, List.nil_append, Option.isSome_some, Bool.not_true, Bool.not_false, Bool.not_eq_true', Bool.not_eq_true, Bool.false_eq_true, decide_eq_false_iff_not, if_true, if_false, ite_true, ite_false, Int.reduceLE, Int.reduceLT, Int.reduceToNat, Int.cast_ofNat_Int, Bool.true_eq_false, eq_self, ↓reduceIte, reduceCtorEq, Px.aug, Px.ipi, Px.tri, Px.rcatth, Px.rixs, Px.rsls, Px.tm1, Px.glst, Px.nstr, Px.txI, Px.txC, Px.txL, Px.txA, Px.rsgn, Px.txf, Px.tost, Px.tmko, Px.risxd, *, spTake]
  intro way H1 _ _ hp1 b1 _
  refine go_seq ?_
  simp only [decide_true, decide_false, List.map_cons, List.map_nil, Option.map_none, Option.map_some, Option.getD_none, Option.getD_some, Px.dg2, Px.dg1, Px.dg, Px.din, Px.dnotin, Px.dnew, Px.dput, Px.isD_is, Px.dget_i, Px.dget_s, Px.dput_i, Px.dput_s, Px.dOf_d, Px.rtup, Px.rlist, Px.rsl, Px.rsort, Px.rcat, Px.rapp, Px.rrev, Px.sl_ap, Px.nop, Px.part, Px.yes, Px.tyl, Px.isL_l, Px.isT_t, Px.isL_t, Px.isT_l, Px.isD_d, Px.isT_d, Px.inV_ints, Px.flat_ints, Px.flatV_i, Px.wipe_cons, Px.wipe_nil, Px.gtup, Px.gcons, Px.gnil, gt_iff_lt, ge_iff_le, Px.we, Px.wonly, Px.was, Px.cxK, not_true_eq_false, and_self, true_implies, false_implies, implies_true, Px.e0, and_assoc, imp_false, not_false_eq_true, ne_eq, Px.rgcd, Px.rixl, Px.rixt, Px.v0, Px.v1, Px.v2, Px.v3, Px.v4, Px.v5, Px.v6, Px.v7, Px.v8, Px.v9, Px.v10, Px.v11, Px.v12, Px.v13, Px.v14, Px.v15, Px.v16, Px.v17, Px.v18, Px.v19, Px.v20, Px.v21, Px.v22, Px.v23, Px.c0, Px.asg, Px.gnm, Px.ret, Px.retN, Px.drop, Px.nxt, Px.brk, Px.cnt, Px.ifs, Px.op, Px.un, Px.tst, Px.tbl, Px.tand, Px.tor, Px.tnot, Px.andv, Px.orv, Px.notv, Px.tif, Px.tup, Px.lst, Px.nil, Px.cons, Px.cal, Px.calS, Px.cb, Px.par, Px.gsub, Px.bits, Px.bm, Px.bm0, Px.ri, Px.ri0, Px.ru, Px.req, Px.rne, Px.rix, Px.rlen, Px.rin, Px.rsetl, Px.risi, Px.tyH_n, Px.tyH_b, Px.tyH_i, Px.tyH_s, Px.tyH_r, Px.seqH_t, Px.seqH_l, Px.seqH_fl, Px.sc_ii, Px.sc_bb, Px.sc_ss, Px.atI0, Px.atI1, Px.atI2, Px.atI3, Px.atI4, Px.atI5, Px.atI6, Px.atI7, Px.kb_NoneType_int, Px.kb_NoneType_bool, Px.kb_NoneType_str, Px.kb_NoneType_list, Px.kb_NoneType_tuple, Px.kb_NoneType_dict, Px.kb_bool_int, Px.kb_bool_bool, Px.kb_bool_str, Px.kb_bool_list, Px.kb_bool_tuple, Px.kb_bool_dict, Px.kb_int_int, Px.kb_int_bool, Px.kb_int_str, Px.kb_int_list, Px.kb_int_tuple, Px.kb_int_dict, Px.kb_str_int, Px.kb_str_bool, Px.kb_str_str, Px.kb_str_list, Px.kb_str_tuple, Px.kb_str_dict, Px.kb_list_int, Px.kb_list_bool, Px.kb_list_str, Px.kb_list_list, Px.kb_list_tuple, Px.kb_list_dict, Px.kb_tuple_int, Px.kb_tuple_bool, Px.kb_tuple_str, Px.kb_tuple_list, Px.kb_tuple_tuple, Px.kb_tuple_dict, Px.kb_dict_int, Px.kb_dict_bool, Px.kb_dict_str, Px.kb_dict_list, Px.kb_dict_tuple, Px.kb_dict_dict, L2.upd_same, Px.updI, L2.ixN, List.set_cons_zero, List.set_cons_succ, List.length_cons, List.length_nil, Nat.reduceAdd, Nat.zero_add, L2.HO.lst.injEq, L2.HO.tup.injEq, L2.upd_upd, L2.V.int.injEq, L2.V.ref.injEq, L2.V.bl.injEq, L2.V.str.injEq, L2.V.ty.injEq, List.cons.injEq, and_true, true_and, and_false, false_and, or_false, false_or, exists_eq_left', exists_eq_left, exists_and_left, exists_const, exists_false, Option.some.injEq, decide_eq_true_eq, List.append_nil, List.cons_append, List.nil_append, Option.isSome_some, Bool.not_true, Bool.not_false, Bool.not_eq_true', Bool.not_eq_true, Bool.false_eq_true, decide_eq_false_iff_not, if_true, if_false, ite_true, ite_false, Int.reduceLE, Int.reduceLT, Int.reduceToNat, Int.cast_ofNat_Int, Bool.true_eq_false, eq_self, ↓reduceIte, reduceCtorEq, Px.aug, Px.ipi, Px.tri, Px.rcatth, Px.rixs, Px.rsls, Px.tm1, Px.glst, Px.nstr, Px.txI, Px.txC, Px.txL, Px.txA, Px.rsgn, Px.txf, Px.tost, Px.tmko, Px.risxd, *, spZm]
  refine go_if (fun _ => ?_) (fun _ => ?_)
  · exact fun z H2 hz hp2 b2 => k z H2 (by omega) hp2 (b1.trans b2)
  refine go_cut (fun σ' H' => σ' = [some (.ref p), some (.int way), none] ∧ H' = H1) ?_ ?_
  · simp only [decide_true, decide_false, List.map_cons, List.map_nil, Option.map_none, Option.map_some, Option.getD_none, Option.getD_some, Px.dg2, Px.dg1, Px.dg, Px.din, Px.dnotin, Px.dnew, Px.dput, Px.isD_is, Px.dget_i, Px.dget_s, Px.dput_i, Px.dput_s, Px.dOf_d, Px.rtup, Px.rlist, Px.rsl, Px.rsort, Px.rcat, Px.rapp, Px.rrev, Px.sl_ap, Px.nop, Px.part, Px.yes, Px.tyl, Px.isL_l, Px.isT_t, Px.isL_t, Px.isT_l, Px.isD_d, Px.isT_d, Px.inV_ints, Px.flat_ints, Px.flatV_i, Px.wipe_cons, Px.wipe_nil, Px.gtup, Px.gcons, Px.gnil, gt_iff_lt, ge_iff_le, Px.we, Px.wonly, Px.was, Px.cxK, not_true_eq_false, and_self, true_implies, false_implies, implies_true, Px.e0, and_assoc, imp_false, not_false_eq_true, ne_eq, Px.rgcd, Px.rixl, Px.rixt, Px.v0, Px.v1, Px.v2, Px.v3, Px.v4, Px.v5, Px.v6, Px.v7, Px.v8, Px.v9, Px.v10, Px.v11, Px.v12, Px.v13, Px.v14, Px.v15, Px.v16, Px.v17, Px.v18, Px.v19, Px.v20, Px.v21, Px.v22, Px.v23, Px.c0, Px.asg, Px.gnm, Px.ret, Px.retN, Px.drop, Px.nxt, Px.brk, Px.cnt, Px.ifs, Px.op, Px.un, Px.tst, Px.tbl, Px.tand, Px.tor, Px.tnot, Px.andv, Px.orv, Px.notv, Px.tif, Px.tup, Px.lst, Px.nil, Px.cons, Px.cal, Px.calS, Px.cb, Px.par, Px.gsub, Px.bits, Px.bm, Px.bm0, Px.ri, Px.ri0, Px.ru, Px.req, Px.rne, Px.rix, Px.rlen, Px.rin, Px.rsetl, Px.risi, Px.tyH_n, Px.tyH_b, Px.tyH_i, Px.tyH_s, Px.tyH_r, Px.seqH_t, Px.seqH_l, Px.seqH_fl, Px.sc_ii, Px.sc_bb, Px.sc_ss, Px.atI0, Px.atI1, Px.atI2, Px.atI3, Px.atI4, Px.atI5, Px.atI6, Px.atI7, Px.kb_NoneType_int, Px.kb_NoneType_bool, Px.kb_NoneType_str, Px.kb_NoneType_list, Px.kb_NoneType_tuple, Px.kb_NoneType_dict, Px.kb_bool_int, Px.kb_bool_bool, Px.kb_bool_str, Px.kb_bool_list, Px.kb_bool_tuple, Px.kb_bool_dict, Px.kb_int_int, Px.kb_int_bool, Px.kb_int_str, Px.kb_int_list, Px.kb_int_tuple, Px.kb_int_dict, Px.kb_str_int, Px.kb_str_bool, Px.kb_str_str, Px.kb_str_list, Px.kb_str_tuple, Px.kb_str_dict, Px.kb_list_int, Px.kb_list_bool, Px.kb_list_str, Px.kb_list_list, Px.kb_list_tuple, Px.kb_list_dict, Px.kb_tuple_int, Px.kb_tuple_bool, Px.kb_tuple_str, Px.kb_tuple_list, Px.kb_tuple_tuple, Px.kb_tuple_dict, Px.kb_dict_int, Px.kb_dict_bool, Px.kb_dict_str, Px.kb_dict_list, Px.kb_dict_tuple, Px.kb_dict_dict, L2.upd_same, Px.updI, L2.ixN, List.set_cons_zero, List.set_cons_succ, List.length_cons, List.length_nil, Nat.reduceAdd, Nat.zero_add, L2.HO.lst.injEq, L2.HO.tup.injEq, L2.upd_upd, L2.V.int.injEq, L2.V.ref.injEq, L2.V.bl.injEq, L2.V.str.injEq, L2.V.ty.injEq, List.cons.injEq, and_true, true_and, and_false, false_and, or_false, false_or, exists_eq_left', exists_eq_left, exists_and_left, exists_const, exists_false, Option.some.injEq, decide_eq_true_eq, List.append_nil, List.cons_append, List.nil_append, Option.isSome_some, Bool.not_true, Bool.not_false, Bool.not_eq_true', Bool.not_eq_true, Bool.false_eq_true, decide_eq_false_iff_not, if_true, if_false, ite_true, ite_false, Int.reduceLE, Int.reduceLT, Int.reduceToNat, Int.cast_ofNat_Int, Bool.true_eq_false, eq_self, ↓reduceIte, reduceCtorEq, Px.aug, Px.ipi, Px.tri, Px.rcatth, Px.rixs, Px.rsls, Px.tm1, Px.glst, Px.nstr, Px.txI, Px.txC, Px.txL, Px.txA, Px.rsgn, Px.txf, Px.tost, Px.tmko, Px.risxd, *, spZm]
    have two : ∀ (z : Str) (H2 : Hp), z.length ≤ 26 → Pool H2 p → Px.But p H1 H2 → z.length + (Str.ofString "/").length ≤ sizeLine ∧ ∀ (y : Str) (H3 : Hp), y.length ≤ 25 → Pool H3 p → Px.But p H2 H3 → (z ++ Str.ofString "/").length + y.length ≤ sizeLine ∧ Q (.str (z ++ Str.ofString "/" ++ y)) H3 := fun z H2 hz hp2 b2 =>
      ⟨lz (by omega) (by omega), fun y H3 hy hp3 b3 => ⟨lz (by rw [z_app]; omega) (by omega), k _ H3 (by rw [z_app, z_app]; omega) hp3 ((b1.trans b2).trans b3)⟩⟩
    refine go_if (fun _ => ?_) (fun _ => go_if (fun _ => ?_) (fun _ => trivial))
    · exact fun z H2 hz hp2 b2 => ⟨(two z H2 hz hp2 b2).1, hp2, (two z H2 hz hp2 b2).2⟩
    · exact fun z H2 hz hp2 b2 => ⟨(two z H2 hz hp2 b2).1, hp2, (two z H2 hz hp2 b2).2⟩
  rintro σ' H' ⟨rfl, rfl⟩
  refine go_seq ?_
  simp only [decide_true, decide_false, List.map_cons, List.map_nil, Option.map_none, Option.map_some, Option.getD_none, Option.getD_some, Px.dg2, Px.dg1, Px.dg, Px.din, Px.dnotin, Px.dnew, Px.dput, Px.isD_is, Px.dget_i, Px.dget_s, Px.dput_i, Px.dput_s, Px.dOf_d, Px.rtup, Px.rlist, Px.rsl, Px.rsort, Px.rcat, Px.rapp, Px.rrev, Px.sl_ap, Px.nop, Px.part, Px.yes, Px.tyl, Px.isL_l, Px.isT_t, Px.isL_t, Px.isT_l, Px.isD_d, Px.isT_d, Px.inV_ints, Px.flat_ints, Px.flatV_i, Px.wipe_cons, Px.wipe_nil, Px.gtup, Px.gcons, Px.gnil, gt_iff_lt, ge_iff_le, Px.we, Px.wonly, Px.was, Px.cxK, not_true_eq_false, and_self, true_implies, false_implies, implies_true, Px.e0, and_assoc, imp_false, not_false_eq_true, ne_eq, Px.rgcd, Px.rixl, Px.rixt, Px.v0, Px.v1, Px.v2, Px.v3, Px.v4, Px.v5, Px.v6, Px.v7, Px.v8, Px.v9, Px.v10, Px.v11, Px.v12, Px.v13, Px.v14, Px.v15, Px.v16, Px.v17, Px.v18, Px.v19, Px.v20, Px.v21, Px.v22, Px.v23, Px.c0, Px.asg, Px.gnm, Px.ret, Px.retN, Px.drop, Px.nxt, Px.brk, Px.cnt, Px.ifs, Px.op, Px.un, Px.tst, Px.tbl, Px.tand, Px.tor, Px.tnot, Px.andv, Px.orv, Px.notv, Px.tif, Px.tup, Px.lst, Px.nil, Px.cons, Px.cal, Px.calS, Px.cb, Px.par, Px.gsub, Px.bits, Px.bm, Px.bm0, Px.ri, Px.ri0, Px.ru, Px.req, Px.rne, Px.rix, Px.rlen, Px.rin, Px.rsetl, Px.risi, Px.tyH_n, Px.tyH_b, Px.tyH_i, Px.tyH_s, Px.tyH_r, Px.seqH_t, Px.seqH_l, Px.seqH_fl, Px.sc_ii, Px.sc_bb, Px.sc_ss, Px.atI0, Px.atI1, Px.atI2, Px.atI3, Px.atI4, Px.atI5, Px.atI6, Px.atI7, Px.kb_NoneType_int, Px.kb_NoneType_bool, Px.kb_NoneType_str, Px.kb_NoneType_list, Px.kb_NoneType_tuple, Px.kb_NoneType_dict, Px.kb_bool_int, Px.kb_bool_bool, Px.kb_bool_str, Px.kb_bool_list, Px.kb_bool_tuple, Px.kb_bool_dict, Px.kb_int_int, Px.kb_int_bool, Px.kb_int_str, Px.kb_int_list, Px.kb_int_tuple, Px.kb_int_dict, Px.kb_str_int, Px.kb_str_bool, Px.kb_str_str, Px.kb_str_list, Px.kb_str_tuple, Px.kb_str_dict, Px.kb_list_int, Px.kb_list_bool, Px.kb_list_str, Px.kb_list_list, Px.kb_list_tuple, Px.kb_list_dict, Px.kb_tuple_int, Px.kb_tuple_bool, Px.kb_tuple_str, Px.kb_tuple_list, Px.kb_tuple_tuple, Px.kb_tuple_dict, Px.kb_dict_int, Px.kb_dict_bool, Px.kb_dict_str, Px.kb_dict_list, Px.kb_dict_tuple, Px.kb_dict_dict, L2.upd_same, Px.updI, L2.ixN, List.set_cons_zero, List.set_cons_succ, List.length_cons, List.length_nil, Nat.reduceAdd, Nat.zero_add, L2.HO.lst.injEq, L2.HO.tup.injEq, L2.upd_upd, L2.V.int.injEq, L2.V.ref.injEq, L2.V.bl.injEq, L2.V.str.injEq, L2.V.ty.injEq, List.cons.injEq, and_true, true_and, and_false, false_and, or_false, false_or, exists_eq_left', exists_eq_left, exists_and_left, exists_const, exists_false, Option.some.injEq, decide_eq_true_eq, List.append_nil, List.cons_append, List.nil_append, Option.isSome_some, Bool.not_true, Bool.not_false, Bool.not_eq_true', Bool.not_eq_true, Bool.false_eq_true, decide_eq_false_iff_not, if_true, if_false, ite_true, ite_false, Int.reduceLE, Int.reduceLT, Int.reduceToNat, Int.cast_ofNat_Int, Bool.true_eq_false, eq_self, ↓reduceIte, reduceCtorEq, Px.aug, Px.ipi, Px.tri, Px.rcatth, Px.rixs, Px.rsls, Px.tm1, Px.glst, Px.nstr, Px.txI, Px.txC, Px.txL, Px.txA, Px.rsgn, Px.txf, Px.tost, Px.tmko, Px.risxd, *, spZm, spSpoil]
  refine go_if (fun _ => ?_) (fun _ => ?_)
  · exact fun z H2 hz hp2 b2 => ⟨by omega, hp2, fun y H3 hy hp3 b3 => k y H3 hy hp3 ((b1.trans b2).trans b3)⟩
  refine go_cut (fun σ' H2 => σ' = [some (.ref p), some (.int way), none] ∧ H2 = H') ?_ ?_
  · simp only [decide_true, decide_false, List.map_cons, List.map_nil, Option.map_none, Option.map_some, Option.getD_none, Option.getD_some, Px.dg2, Px.dg1, Px.dg, Px.din, Px.dnotin, Px.dnew, Px.dput, Px.isD_is, Px.dget_i, Px.dget_s, Px.dput_i, Px.dput_s, Px.dOf_d, Px.rtup, Px.rlist, Px.rsl, Px.rsort, Px.rcat, Px.rapp, Px.rrev, Px.sl_ap, Px.nop, Px.part, Px.yes, Px.tyl, Px.isL_l, Px.isT_t, Px.isL_t, Px.isT_l, Px.isD_d, Px.isT_d, Px.inV_ints, Px.flat_ints, Px.flatV_i, Px.wipe_cons, Px.wipe_nil, Px.gtup, Px.gcons, Px.gnil, gt_iff_lt, ge_iff_le, Px.we, Px.wonly, Px.was, Px.cxK, not_true_eq_false, and_self, true_implies, false_implies, implies_true, Px.e0, and_assoc, imp_false, not_false_eq_true, ne_eq, Px.rgcd, Px.rixl, Px.rixt, Px.v0, Px.v1, Px.v2, Px.v3, Px.v4, Px.v5, Px.v6, Px.v7, Px.v8, Px.v9, Px.v10, Px.v11, Px.v12, Px.v13, Px.v14, Px.v15, Px.v16, Px.v17, Px.v18, Px.v19, Px.v20, Px.v21, Px.v22, Px.v23, Px.c0, Px.asg, Px.gnm, Px.ret, Px.retN, Px.drop, Px.nxt, Px.brk, Px.cnt, Px.ifs, Px.op, Px.un, Px.tst, Px.tbl, Px.tand, Px.tor, Px.tnot, Px.andv, Px.orv, Px.notv, Px.tif, Px.tup, Px.lst, Px.nil, Px.cons, Px.cal, Px.calS, Px.cb, Px.par, Px.gsub, Px.bits, Px.bm, Px.bm0, Px.ri, Px.ri0, Px.ru, Px.req, Px.rne, Px.rix, Px.rlen, Px.rin, Px.rsetl, Px.risi, Px.tyH_n, Px.tyH_b, Px.tyH_i, Px.tyH_s, Px.tyH_r, Px.seqH_t, Px.seqH_l, Px.seqH_fl, Px.sc_ii, Px.sc_bb, Px.sc_ss, Px.atI0, Px.atI1, Px.atI2, Px.atI3, Px.atI4, Px.atI5, Px.atI6, Px.atI7, Px.kb_NoneType_int, Px.kb_NoneType_bool, Px.kb_NoneType_str, Px.kb_NoneType_list, Px.kb_NoneType_tuple, Px.kb_NoneType_dict, Px.kb_bool_int, Px.kb_bool_bool, Px.kb_bool_str, Px.kb_bool_list, Px.kb_bool_tuple, Px.kb_bool_dict, Px.kb_int_int, Px.kb_int_bool, Px.kb_int_str, Px.kb_int_list, Px.kb_int_tuple, Px.kb_int_dict, Px.kb_str_int, Px.kb_str_bool, Px.kb_str_str, Px.kb_str_list, Px.kb_str_tuple, Px.kb_str_dict, Px.kb_list_int, Px.kb_list_bool, Px.kb_list_str, Px.kb_list_list, Px.kb_list_tuple, Px.kb_list_dict, Px.kb_tuple_int, Px.kb_tuple_bool, Px.kb_tuple_str, Px.kb_tuple_list, Px.kb_tuple_tuple, Px.kb_tuple_dict, Px.kb_dict_int, Px.kb_dict_bool, Px.kb_dict_str, Px.kb_dict_list, Px.kb_dict_tuple, Px.kb_dict_dict, L2.upd_same, Px.updI, L2.ixN, List.set_cons_zero, List.set_cons_succ, List.length_cons, List.length_nil, Nat.reduceAdd, Nat.zero_add, L2.HO.lst.injEq, L2.HO.tup.injEq, L2.upd_upd, L2.V.int.injEq, L2.V.ref.injEq, L2.V.bl.injEq, L2.V.str.injEq, L2.V.ty.injEq, List.cons.injEq, and_true, true_and, and_false, false_and, or_false, false_or, exists_eq_left', exists_eq_left, exists_and_left, exists_const, exists_false, Option.some.injEq, decide_eq_true_eq, List.append_nil, List.cons_append, List.nil_append, Option.isSome_some, Bool.not_true, Bool.not_false, Bool.not_eq_true', Bool.not_eq_true, Bool.false_eq_true, decide_eq_false_iff_not, if_true, if_false, ite_true, ite_false, Int.reduceLE, Int.reduceLT, Int.reduceToNat, Int.cast_ofNat_Int, Bool.true_eq_false, eq_self, ↓reduceIte, reduceCtorEq, Px.aug, Px.ipi, Px.tri, Px.rcatth, Px.rixs, Px.rsls, Px.tm1, Px.glst, Px.nstr, Px.txI, Px.txC, Px.txL, Px.txA, Px.rsgn, Px.txf, Px.tost, Px.tmko, Px.risxd, *]
    refine go_if (fun _ => ?_) (fun _ => go_if (fun _ => ?_) (fun _ => trivial))
    · refine go_seq ?_
      simp only [decide_true, decide_false, List.map_cons, List.map_nil, Option.map_none, Option.map_some, Option.getD_none, Option.getD_some, Px.dg2, Px.dg1, Px.dg, Px.din, Px.dnotin, Px.dnew, Px.dput, Px.isD_is, Px.dget_i, Px.dget_s, Px.dput_i, Px.dput_s, Px.dOf_d, Px.rtup, Px.rlist, Px.rsl, Px.rsort, Px.rcat, Px.rapp, Px.rrev, Px.sl_ap, Px.nop, Px.part, Px.yes, Px.tyl, Px.isL_l, Px.isT_t, Px.isL_t, Px.isT_l, Px.isD_d, Px.isT_d, Px.inV_ints, Px.flat_ints, Px.flatV_i, Px.wipe_cons, Px.wipe_nil, Px.gtup, Px.gcons, Px.gnil, gt_iff_lt, ge_iff_le, Px.we, Px.wonly, Px.was, Px.cxK, not_true_eq_false, and_self, true_implies, false_implies, implies_true, Px.e0, and_assoc, imp_false, not_false_eq_true, ne_eq, Px.rgcd, Px.rixl, Px.rixt, Px.v0, Px.v1, Px.v2, Px.v3, Px.v4, Px.v5, Px.v6, Px.v7, Px.v8, Px.v9, Px.v10, Px.v11, Px.v12, Px.v13, Px.v14, Px.v15, Px.v16, Px.v17, Px.v18, Px.v19, Px.v20, Px.v21, Px.v22, Px.v23, Px.c0, Px.asg, Px.gnm, Px.ret, Px.retN, Px.drop, Px.nxt, Px.brk, Px.cnt, Px.ifs, Px.op, Px.un, Px.tst, Px.tbl, Px.tand, Px.tor, Px.tnot, Px.andv, Px.orv, Px.notv, Px.tif, Px.tup, Px.lst, Px.nil, Px.cons, Px.cal, Px.calS, Px.cb, Px.par, Px.gsub, Px.bits, Px.bm, Px.bm0, Px.ri, Px.ri0, Px.ru, Px.req, Px.rne, Px.rix, Px.rlen, Px.rin, Px.rsetl, Px.risi, Px.tyH_n, Px.tyH_b, Px.tyH_i, Px.tyH_s, Px.tyH_r, Px.seqH_t, Px.seqH_l, Px.seqH_fl, Px.sc_ii, Px.sc_bb, Px.sc_ss, Px.atI0, Px.atI1, Px.atI2, Px.atI3, Px.atI4, Px.atI5, Px.atI6, Px.atI7, Px.kb_NoneType_int, Px.kb_NoneType_bool, Px.kb_NoneType_str, Px.kb_NoneType_list, Px.kb_NoneType_tuple, Px.kb_NoneType_dict, Px.kb_bool_int, Px.kb_bool_bool, Px.kb_bool_str, Px.kb_bool_list, Px.kb_bool_tuple, Px.kb_bool_dict, Px.kb_int_int, Px.kb_int_bool, Px.kb_int_str, Px.kb_int_list, Px.kb_int_tuple, Px.kb_int_dict, Px.kb_str_int, Px.kb_str_bool, Px.kb_str_str, Px.kb_str_list, Px.kb_str_tuple, Px.kb_str_dict, Px.kb_list_int, Px.kb_list_bool, Px.kb_list_str, Px.kb_list_list, Px.kb_list_tuple, Px.kb_list_dict, Px.kb_tuple_int, Px.kb_tuple_bool, Px.kb_tuple_str, Px.kb_tuple_list, Px.kb_tuple_tuple, Px.kb_tuple_dict, Px.kb_dict_int, Px.kb_dict_bool, Px.kb_dict_str, Px.kb_dict_list, Px.kb_dict_tuple, Px.kb_dict_dict, L2.upd_same, Px.updI, L2.ixN, List.set_cons_zero, List.set_cons_succ, List.length_cons, List.length_nil, Nat.reduceAdd, Nat.zero_add, L2.HO.lst.injEq, L2.HO.tup.injEq, L2.upd_upd, L2.V.int.injEq, L2.V.ref.injEq, L2.V.bl.injEq, L2.V.str.injEq, L2.V.ty.injEq, List.cons.injEq, and_true, true_and, and_false, false_and, or_false, false_or, exists_eq_left', exists_eq_left, exists_and_left, exists_const, exists_false, Option.some.injEq, decide_eq_true_eq, List.append_nil, List.cons_append, List.nil_append, Option.isSome_some, Bool.not_true, Bool.not_false, Bool.not_eq_true', Bool.not_eq_true, Bool.false_eq_true, decide_eq_false_iff_not, if_true, if_false, ite_true, ite_false, Int.reduceLE, Int.reduceLT, Int.reduceToNat, Int.cast_ofNat_Int, Bool.true_eq_false, eq_self, ↓reduceIte, reduceCtorEq, Px.aug, Px.ipi, Px.tri, Px.rcatth, Px.rixs, Px.rsls, Px.tm1, Px.glst, Px.nstr, Px.txI, Px.txC, Px.txL, Px.txA, Px.rsgn, Px.txf, Px.tost, Px.tmko, Px.risxd, *, spZm]
      intro z H2 hz hp2 b2
      simp only [decide_true, decide_false, List.map_cons, List.map_nil, Option.map_none, Option.map_some, Option.getD_none, Option.getD_some, Px.dg2, Px.dg1, Px.dg, Px.din, Px.dnotin, Px.dnew, Px.dput, Px.isD_is, Px.dget_i, Px.dget_s, Px.dput_i, Px.dput_s, Px.dOf_d, Px.rtup, Px.rlist, Px.rsl, Px.rsort, Px.rcat, Px.rapp, Px.rrev, Px.sl_ap, Px.nop, Px.part, Px.yes, Px.tyl, Px.isL_l, Px.isT_t, Px.isL_t, Px.isT_l, Px.isD_d, Px.isT_d, Px.inV_ints, Px.flat_ints, Px.flatV_i, Px.wipe_cons, Px.wipe_nil, Px.gtup, Px.gcons, Px.gnil, gt_iff_lt, ge_iff_le, Px.we, Px.wonly, Px.was, Px.cxK, not_true_eq_false, and_self, true_implies, false_implies, implies_true, Px.e0, and_assoc, imp_false, not_false_eq_true, ne_eq, Px.rgcd, Px.rixl, Px.rixt, Px.v0, Px.v1, Px.v2, Px.v3, Px.v4, Px.v5, Px.v6, Px.v7, Px.v8, Px.v9, Px.v10, Px.v11, Px.v12, Px.v13, Px.v14, Px.v15, Px.v16, Px.v17, Px.v18, Px.v19, Px.v20, Px.v21, Px.v22, Px.v23, Px.c0, Px.asg, Px.gnm, Px.ret, Px.retN, Px.drop, Px.nxt, Px.brk, Px.cnt, Px.ifs, Px.op, Px.un, Px.tst, Px.tbl, Px.tand, Px.tor, Px.tnot, Px.andv, Px.orv, Px.notv, Px.tif, Px.tup, Px.lst, Px.nil, Px.cons, Px.cal, Px.calS, Px.cb, Px.par, Px.gsub, Px.bits, Px.bm, Px.bm0, Px.ri, Px.ri0, Px.ru, Px.req, Px.rne, Px.rix, Px.rlen, Px.rin, Px.rsetl, Px.risi, Px.tyH_n, Px.tyH_b, Px.tyH_i, Px.tyH_s, Px.tyH_r, Px.seqH_t, Px.seqH_l, Px.seqH_fl, Px.sc_ii, Px.sc_bb, Px.sc_ss, Px.atI0, Px.atI1, Px.atI2, Px.atI3, Px.atI4, Px.atI5, Px.atI6, Px.atI7, Px.kb_NoneType_int, Px.kb_NoneType_bool, Px.kb_NoneType_str, Px.kb_NoneType_list, Px.kb_NoneType_tuple, Px.kb_NoneType_dict, Px.kb_bool_int, Px.kb_bool_bool, Px.kb_bool_str, Px.kb_bool_list, Px.kb_bool_tuple, Px.kb_bool_dict, Px.kb_int_int, Px.kb_int_bool, Px.kb_int_str, Px.kb_int_list, Px.kb_int_tuple, Px.kb_int_dict, Px.kb_str_int, Px.kb_str_bool, Px.kb_str_str, Px.kb_str_list, Px.kb_str_tuple, Px.kb_str_dict, Px.kb_list_int, Px.kb_list_bool, Px.kb_list_str, Px.kb_list_list, Px.kb_list_tuple, Px.kb_list_dict, Px.kb_tuple_int, Px.kb_tuple_bool, Px.kb_tuple_str, Px.kb_tuple_list, Px.kb_tuple_tuple, Px.kb_tuple_dict, Px.kb_dict_int, Px.kb_dict_bool, Px.kb_dict_str, Px.kb_dict_list, Px.kb_dict_tuple, Px.kb_dict_dict, L2.upd_same, Px.updI, L2.ixN, List.set_cons_zero, List.set_cons_succ, List.length_cons, List.length_nil, Nat.reduceAdd, Nat.zero_add, L2.HO.lst.injEq, L2.HO.tup.injEq, L2.upd_upd, L2.V.int.injEq, L2.V.ref.injEq, L2.V.bl.injEq, L2.V.str.injEq, L2.V.ty.injEq, List.cons.injEq, and_true, true_and, and_false, false_and, or_false, false_or, exists_eq_left', exists_eq_left, exists_and_left, exists_const, exists_false, Option.some.injEq, decide_eq_true_eq, List.append_nil, List.cons_append, List.nil_append, Option.isSome_some, Bool.not_true, Bool.not_false, Bool.not_eq_true', Bool.not_eq_true, Bool.false_eq_true, decide_eq_false_iff_not, if_true, if_false, ite_true, ite_false, Int.reduceLE, Int.reduceLT, Int.reduceToNat, Int.cast_ofNat_Int, Bool.true_eq_false, eq_self, ↓reduceIte, reduceCtorEq, Px.aug, Px.ipi, Px.tri, Px.rcatth, Px.rixs, Px.rsls, Px.tm1, Px.glst, Px.nstr, Px.txI, Px.txC, Px.txL, Px.txA, Px.rsgn, Px.txf, Px.tost, Px.tmko, Px.risxd, *, spZm, spSpoil]
      exact ⟨lz (u := Str.ofString "/") (by omega) (by omega), fun y H3 hy hp3 b3 => ⟨lz (by rw [z_app]; omega) (by omega), by rw [z_app, z_app]; omega, hp3, fun u H4 hu hp4 b4 => k u H4 hu hp4 (((b1.trans b2).trans b3).trans b4)⟩⟩
    · refine go_seq ?_
      simp only [decide_true, decide_false, List.map_cons, List.map_nil, Option.map_none, Option.map_some, Option.getD_none, Option.getD_some, Px.dg2, Px.dg1, Px.dg, Px.din, Px.dnotin, Px.dnew, Px.dput, Px.isD_is, Px.dget_i, Px.dget_s, Px.dput_i, Px.dput_s, Px.dOf_d, Px.rtup, Px.rlist, Px.rsl, Px.rsort, Px.rcat, Px.rapp, Px.rrev, Px.sl_ap, Px.nop, Px.part, Px.yes, Px.tyl, Px.isL_l, Px.isT_t, Px.isL_t, Px.isT_l, Px.isD_d, Px.isT_d, Px.inV_ints, Px.flat_ints, Px.flatV_i, Px.wipe_cons, Px.wipe_nil, Px.gtup, Px.gcons, Px.gnil, gt_iff_lt, ge_iff_le, Px.we, Px.wonly, Px.was, Px.cxK, not_true_eq_false, and_self, true_implies, false_implies, implies_true, Px.e0, and_assoc, imp_false, not_false_eq_true, ne_eq, Px.rgcd, Px.rixl, Px.rixt, Px.v0, Px.v1, Px.v2, Px.v3, Px.v4, Px.v5, Px.v6, Px.v7, Px.v8, Px.v9, Px.v10, Px.v11, Px.v12, Px.v13, Px.v14, Px.v15, Px.v16, Px.v17, Px.v18, Px.v19, Px.v20, Px.v21, Px.v22, Px.v23, Px.c0, Px.asg, Px.gnm, Px.ret, Px.retN, Px.drop, Px.nxt, Px.brk, Px.cnt, Px.ifs, Px.op, Px.un, Px.tst, Px.tbl, Px.tand, Px.tor, Px.tnot, Px.andv, Px.orv, Px.notv, Px.tif, Px.tup, Px.lst, Px.nil, Px.cons, Px.cal, Px.calS, Px.cb, Px.par, Px.gsub, Px.bits, Px.bm, Px.bm0, Px.ri, Px.ri0, Px.ru, Px.req, Px.rne, Px.rix, Px.rlen, Px.rin, Px.rsetl, Px.risi, Px.tyH_n, Px.tyH_b, Px.tyH_i, Px.tyH_s, Px.tyH_r, Px.seqH_t, Px.seqH_l, Px.seqH_fl, Px.sc_ii, Px.sc_bb, Px.sc_ss, Px.atI0, Px.atI1, Px.atI2, Px.atI3, Px.atI4, Px.atI5, Px.atI6, Px.atI7, Px.kb_NoneType_int, Px.kb_NoneType_bool, Px.kb_NoneType_str, Px.kb_NoneType_list, Px.kb_NoneType_tuple, Px.kb_NoneType_dict, Px.kb_bool_int, Px.kb_bool_bool, Px.kb_bool_str, Px.kb_bool_list, Px.kb_bool_tuple, Px.kb_bool_dict, Px.kb_int_int, Px.kb_int_bool, Px.kb_int_str, Px.kb_int_list, Px.kb_int_tuple, Px.kb_int_dict, Px.kb_str_int, Px.kb_str_bool, Px.kb_str_str, Px.kb_str_list, Px.kb_str_tuple, Px.kb_str_dict, Px.kb_list_int, Px.kb_list_bool, Px.kb_list_str, Px.kb_list_list, Px.kb_list_tuple, Px.kb_list_dict, Px.kb_tuple_int, Px.kb_tuple_bool, Px.kb_tuple_str, Px.kb_tuple_list, Px.kb_tuple_tuple, Px.kb_tuple_dict, Px.kb_dict_int, Px.kb_dict_bool, Px.kb_dict_str, Px.kb_dict_list, Px.kb_dict_tuple, Px.kb_dict_dict, L2.upd_same, Px.updI, L2.ixN, List.set_cons_zero, List.set_cons_succ, List.length_cons, List.length_nil, Nat.reduceAdd, Nat.zero_add, L2.HO.lst.injEq, L2.HO.tup.injEq, L2.upd_upd, L2.V.int.injEq, L2.V.ref.injEq, L2.V.bl.injEq, L2.V.str.injEq, L2.V.ty.injEq, List.cons.injEq, and_true, true_and, and_false, false_and, or_false, false_or, exists_eq_left', exists_eq_left, exists_and_left, exists_const, exists_false, Option.some.injEq, decide_eq_true_eq, List.append_nil, List.cons_append, List.nil_append, Option.isSome_some, Bool.not_true, Bool.not_false, Bool.not_eq_true', Bool.not_eq_true, Bool.false_eq_true, decide_eq_false_iff_not, if_true, if_false, ite_true, ite_false, Int.reduceLE, Int.reduceLT, Int.reduceToNat, Int.cast_ofNat_Int, Bool.true_eq_false, eq_self, ↓reduceIte, reduceCtorEq, Px.aug, Px.ipi, Px.tri, Px.rcatth, Px.rixs, Px.rsls, Px.tm1, Px.glst, Px.nstr, Px.txI, Px.txC, Px.txL, Px.txA, Px.rsgn, Px.txf, Px.tost, Px.tmko, Px.risxd, *, spZm]
      intro z H2 hz hp2 b2
      simp only [decide_true, decide_false, List.map_cons, List.map_nil, Option.map_none, Option.map_some, Option.getD_none, Option.getD_some, Px.dg2, Px.dg1, Px.dg, Px.din, Px.dnotin, Px.dnew, Px.dput, Px.isD_is, Px.dget_i, Px.dget_s, Px.dput_i, Px.dput_s, Px.dOf_d, Px.rtup, Px.rlist, Px.rsl, Px.rsort, Px.rcat, Px.rapp, Px.rrev, Px.sl_ap, Px.nop, Px.part, Px.yes, Px.tyl, Px.isL_l, Px.isT_t, Px.isL_t, Px.isT_l, Px.isD_d, Px.isT_d, Px.inV_ints, Px.flat_ints, Px.flatV_i, Px.wipe_cons, Px.wipe_nil, Px.gtup, Px.gcons, Px.gnil, gt_iff_lt, ge_iff_le, Px.we, Px.wonly, Px.was, Px.cxK, not_true_eq_false, and_self, true_implies, false_implies, implies_true, Px.e0, and_assoc, imp_false, not_false_eq_true, ne_eq, Px.rgcd, Px.rixl, Px.rixt, Px.v0, Px.v1, Px.v2, Px.v3, Px.v4, Px.v5, Px.v6, Px.v7, Px.v8, Px.v9, Px.v10, Px.v11, Px.v12, Px.v13, Px.v14, Px.v15, Px.v16, Px.v17, Px.v18, Px.v19, Px.v20, Px.v21, Px.v22, Px.v23, Px.c0, Px.asg, Px.gnm, Px.ret, Px.retN, Px.drop, Px.nxt, Px.brk, Px.cnt, Px.ifs, Px.op, Px.un, Px.tst, Px.tbl, Px.tand, Px.tor, Px.tnot, Px.andv, Px.orv, Px.notv, Px.tif, Px.tup, Px.lst, Px.nil, Px.cons, Px.cal, Px.calS, Px.cb, Px.par, Px.gsub, Px.bits, Px.bm, Px.bm0, Px.ri, Px.ri0, Px.ru, Px.req, Px.rne, Px.rix, Px.rlen, Px.rin, Px.rsetl, Px.risi, Px.tyH_n, Px.tyH_b, Px.tyH_i, Px.tyH_s, Px.tyH_r, Px.seqH_t, Px.seqH_l, Px.seqH_fl, Px.sc_ii, Px.sc_bb, Px.sc_ss, Px.atI0, Px.atI1, Px.atI2, Px.atI3, Px.atI4, Px.atI5, Px.atI6, Px.atI7, Px.kb_NoneType_int, Px.kb_NoneType_bool, Px.kb_NoneType_str, Px.kb_NoneType_list, Px.kb_NoneType_tuple, Px.kb_NoneType_dict, Px.kb_bool_int, Px.kb_bool_bool, Px.kb_bool_str, Px.kb_bool_list, Px.kb_bool_tuple, Px.kb_bool_dict, Px.kb_int_int, Px.kb_int_bool, Px.kb_int_str, Px.kb_int_list, Px.kb_int_tuple, Px.kb_int_dict, Px.kb_str_int, Px.kb_str_bool, Px.kb_str_str, Px.kb_str_list, Px.kb_str_tuple, Px.kb_str_dict, Px.kb_list_int, Px.kb_list_bool, Px.kb_list_str, Px.kb_list_list, Px.kb_list_tuple, Px.kb_list_dict, Px.kb_tuple_int, Px.kb_tuple_bool, Px.kb_tuple_str, Px.kb_tuple_list, Px.kb_tuple_tuple, Px.kb_tuple_dict, Px.kb_dict_int, Px.kb_dict_bool, Px.kb_dict_str, Px.kb_dict_list, Px.kb_dict_tuple, Px.kb_dict_dict, L2.upd_same, Px.updI, L2.ixN, List.set_cons_zero, List.set_cons_succ, List.length_cons, List.length_nil, Nat.reduceAdd, Nat.zero_add, L2.HO.lst.injEq, L2.HO.tup.injEq, L2.upd_upd, L2.V.int.injEq, L2.V.ref.injEq, L2.V.bl.injEq, L2.V.str.injEq, L2.V.ty.injEq, List.cons.injEq, and_true, true_and, and_false, false_and, or_false, false_or, exists_eq_left', exists_eq_left, exists_and_left, exists_const, exists_false, Option.some.injEq, decide_eq_true_eq, List.append_nil, List.cons_append, List.nil_append, Option.isSome_some, Bool.not_true, Bool.not_false, Bool.not_eq_true', Bool.not_eq_true, Bool.false_eq_true, decide_eq_false_iff_not, if_true, if_false, ite_true, ite_false, Int.reduceLE, Int.reduceLT, Int.reduceToNat, Int.cast_ofNat_Int, Bool.true_eq_false, eq_self, ↓reduceIte, reduceCtorEq, Px.aug, Px.ipi, Px.tri, Px.rcatth, Px.rixs, Px.rsls, Px.tm1, Px.glst, Px.nstr, Px.txI, Px.txC, Px.txL, Px.txA, Px.rsgn, Px.txf, Px.tost, Px.tmko, Px.risxd, *, spZm, spSpoil]
      exact ⟨lz (u := Str.ofString "/") (by omega) (by omega), fun y H3 hy hp3 b3 => ⟨lz (by rw [z_app]; omega) (by omega), by rw [z_app, z_app]; omega, hp3, fun u H4 hu hp4 b4 => k u H4 hu hp4 (((b1.trans b2).trans b3).trans b4)⟩⟩
  rintro σ' H' ⟨rfl, rfl⟩
  refine go_seq ?_
  simp only [decide_true, decide_false, List.map_cons, List.map_nil, Option.map_none, Option.map_some, Option.getD_none, Option.getD_some, Px.dg2, Px.dg1, Px.dg, Px.din, Px.dnotin, Px.dnew, Px.dput, Px.isD_is, Px.dget_i, Px.dget_s, Px.dput_i, Px.dput_s, Px.dOf_d, Px.rtup, Px.rlist, Px.rsl, Px.rsort, Px.rcat, Px.rapp, Px.rrev, Px.sl_ap, Px.nop, Px.part, Px.yes, Px.tyl, Px.isL_l, Px.isT_t, Px.isL_t, Px.isT_l, Px.isD_d, Px.isT_d, Px.inV_ints, Px.flat_ints, Px.flatV_i, Px.wipe_cons, Px.wipe_nil, Px.gtup, Px.gcons, Px.gnil, gt_iff_lt, ge_iff_le, Px.we, Px.wonly, Px.was, Px.cxK, not_true_eq_false, and_self, true_implies, false_implies, implies_true, Px.e0, and_assoc, imp_false, not_false_eq_true, ne_eq, Px.rgcd, Px.rixl, Px.rixt, Px.v0, Px.v1, Px.v2, Px.v3, Px.v4, Px.v5, Px.v6, Px.v7, Px.v8, Px.v9, Px.v10, Px.v11, Px.v12, Px.v13, Px.v14, Px.v15, Px.v16, Px.v17, Px.v18, Px.v19, Px.v20, Px.v21, Px.v22, Px.v23, Px.c0, Px.asg, Px.gnm, Px.ret, Px.retN, Px.drop, Px.nxt, Px.brk, Px.cnt, Px.ifs, Px.op, Px.un, Px.tst, Px.tbl, Px.tand, Px.tor, Px.tnot, Px.andv, Px.orv, Px.notv, Px.tif, Px.tup, Px.lst, Px.nil, Px.cons, Px.cal, Px.calS, Px.cb, Px.par, Px.gsub, Px.bits, Px.bm, Px.bm0, Px.ri, Px.ri0, Px.ru, Px.req, Px.rne, Px.rix, Px.rlen, Px.rin, Px.rsetl, Px.risi, Px.tyH_n, Px.tyH_b, Px.tyH_i, Px.tyH_s, Px.tyH_r, Px.seqH_t, Px.seqH_l, Px.seqH_fl, Px.sc_ii, Px.sc_bb, Px.sc_ss, Px.atI0, Px.atI1, Px.atI2, Px.atI3, Px.atI4, Px.atI5, Px.atI6, Px.atI7, Px.kb_NoneType_int, Px.kb_NoneType_bool, Px.kb_NoneType_str, Px.kb_NoneType_list, Px.kb_NoneType_tuple, Px.kb_NoneType_dict, Px.kb_bool_int, Px.kb_bool_bool, Px.kb_bool_str, Px.kb_bool_list, Px.kb_bool_tuple, Px.kb_bool_dict, Px.kb_int_int, Px.kb_int_bool, Px.kb_int_str, Px.kb_int_list, Px.kb_int_tuple, Px.kb_int_dict, Px.kb_str_int, Px.kb_str_bool, Px.kb_str_str, Px.kb_str_list, Px.kb_str_tuple, Px.kb_str_dict, Px.kb_list_int, Px.kb_list_bool, Px.kb_list_str, Px.kb_list_list, Px.kb_list_tuple, Px.kb_list_dict, Px.kb_tuple_int, Px.kb_tuple_bool, Px.kb_tuple_str, Px.kb_tuple_list, Px.kb_tuple_tuple, Px.kb_tuple_dict, Px.kb_dict_int, Px.kb_dict_bool, Px.kb_dict_str, Px.kb_dict_list, Px.kb_dict_tuple, Px.kb_dict_dict, L2.upd_same, Px.updI, L2.ixN, List.set_cons_zero, List.set_cons_succ, List.length_cons, List.length_nil, Nat.reduceAdd, Nat.zero_add, L2.HO.lst.injEq, L2.HO.tup.injEq, L2.upd_upd, L2.V.int.injEq, L2.V.ref.injEq, L2.V.bl.injEq, L2.V.str.injEq, L2.V.ty.injEq, List.cons.injEq, and_true, true_and, and_false, false_and, or_false, false_or, exists_eq_left', exists_eq_left, exists_and_left, exists_const, exists_false, Option.some.injEq, decide_eq_true_eq, List.append_nil, List.cons_append, List.nil_append, Option.isSome_some, Bool.not_true, Bool.not_false, Bool.not_eq_true', Bool.not_eq_true, Bool.false_eq_true, decide_eq_false_iff_not, if_true, if_false, ite_true, ite_false, Int.reduceLE, Int.reduceLT, Int.reduceToNat, Int.cast_ofNat_Int, Bool.true_eq_false, eq_self, ↓reduceIte, reduceCtorEq, Px.aug, Px.ipi, Px.tri, Px.rcatth, Px.rixs, Px.rsls, Px.tm1, Px.glst, Px.nstr, Px.txI, Px.txC, Px.txL, Px.txA, Px.rsgn, Px.txf, Px.tost, Px.tmko, Px.risxd, *, spZ]
  refine go_if (fun _ => ?_) (fun _ => ?_)
  · exact fun z H2 hz hp2 b2 => k z H2 hz hp2 (b1.trans b2)
  · exact fun z H2 hz hp2 b2 => k z H2 hz hp2 (b1.trans b2)
end
end K96

namespace K96
open PySem PySem.Spec PyProof.Rows L2 Px
section
variable {P : Program} {w : World} {K : PySem.W.Frag} {mg : Str → Option Value} {base : Heap}
def odd1 : List V := [.str "", .str "-", .str "/", .str "0", .str "-0", .str "00", .str "007", .str "-07", .str "10", .str "--1", .str "1-", .str "-/", .str "0/0", .str "0/1", .str "-0/1", .str "00/1", .str "01/2"]
def odd2 : List V := [.str "-01/2", .str "1/0", .str "1/00", .str "1/02", .str "1//2", .str "/2", .str "1/", .str "-/2", .str "1/-2", .str "+1/2", .str "1/+2", .str " 1/2", .str "1/2 "]
def odd3 : List V := [.str "1/2\n", .str "1 /2", .str "1/ 2", .str "1_0/3", .str "3/1_0", .str "1.0/2", .str "1/2/3", .str "2/4", .str "-6/4", .str "10/10", .str "0/10", .str "- 1/2"]
/-- arguments that are constants -/
def consts : List V → TA
  | [] => tNil
  | x :: xs => tCons (tC x) (consts xs)
theorem consts_run {σ : L2.St} : ∀ (xs : List V) (H : Hp) (Q : List V → Hp → Prop), consts xs σ H Q = Q xs H
  | [], _, _ => rfl
  | x :: xs, H, Q => consts_run xs H fun vs H1 => Q (x :: vs) H1
theorem lst_consts {σ : L2.St} (xs : List V) (H : Hp) (Q : VK) : tLst (consts xs) σ H Q = (xs.length ≤ sizeLine ∧ ∀ p, H p = none → Q (.ref p) (upd H p (.lst xs))) := by
  rw [Px.lst, consts_run]
theorem odd_ok : (odd1 ++ odd2 ++ odd3).all (isZ 10) = true ∧ (odd1 ++ odd2 ++ odd3).length = 42 ∧ odd1.length = 17 ∧ odd2.length = 13 ∧ odd3.length = 12 := by decide +kernel
theorem ok_odd (B : Bn mg) (F : FunAt K mg "_law_odd" s_law_odd) (D_law_take : Def P w K mg base CX0 1 "_law_take" ["pool", "size"] spTake) : Def P w K mg base CX0 2 "_law_odd" ["pool"] (spZ 201) := by
  refine F.ok sc_law_odd (fun _ _ _ _ _ _ us hl => match us, hl with | [_], _ => rfl) (fun vs H Q E h => by obtain ⟨_, rfl, _⟩ := h; rfl) (fun f cdv A outer s H vs Q E hr h => ?_)
  obtain ⟨p, rfl, hp, k⟩ := h
  refine ⟨_, pss_cons (ps_set (i := 1) sc_law_odd.nd rfl (Or.inl rfl) (pe_lst (pa_cons pe_str (pa_cons pe_str (pa_cons pe_str (pa_cons pe_str (pa_cons pe_str (pa_cons pe_str (pa_cons pe_str (pa_cons pe_str (pa_cons pe_str (pa_cons pe_str (pa_cons pe_str (pa_cons pe_str (pa_cons pe_str (pa_cons pe_str (pa_cons pe_str (pa_cons pe_str (pa_cons pe_str pa_nil))))))))))))))))))) (
  pss_cons (ps_set (i := 1) sc_law_odd.nd rfl (Or.inl rfl) (pe_op op_cat (pv 1) (pe_lst (pa_cons pe_str (pa_cons pe_str (pa_cons pe_str (pa_cons pe_str (pa_cons pe_str (pa_cons pe_str (pa_cons pe_str (pa_cons pe_str (pa_cons pe_str (pa_cons pe_str (pa_cons pe_str (pa_cons pe_str (pa_cons pe_str pa_nil)))))))))))))))) (
  pss_cons (ps_set (i := 1) sc_law_odd.nd rfl (Or.inl rfl) (pe_op op_cat (pv 1) (pe_lst (pa_cons pe_str (pa_cons pe_str (pa_cons pe_str (pa_cons pe_str (pa_cons pe_str (pa_cons pe_str (pa_cons pe_str (pa_cons pe_str (pa_cons pe_str (pa_cons pe_str (pa_cons pe_str (pa_cons pe_str pa_nil))))))))))))))) (
  pss_one (ps_ret (pe_ix ix_H (pv 1) (pe_fn D_law_take hr pass0 (pa_cons (pv 0) (pa_cons (pe_callB len_H rfl B.len (by decide +kernel) (pa_cons (pv 1) pa_nil)) pa_nil))) (fun _ _ => rfl)))))), ?_⟩
  show tSeq (tAsg (tLst (consts odd1)) (gName 1)) (tSeq (tAsg (tOp rCat (tVar 1) (tLst (consts odd2))) (gName 1)) (tSeq (tAsg (tOp rCat (tVar 1) (tLst (consts odd3))) (gName 1)) _)) _ [some (.ref p), none] H
  obtain ⟨z1, z2, z3, z4, z5⟩ := odd_ok
  generalize odd1 = o1 at *
  generalize odd2 = o2 at *
  generalize odd3 = o3 at *
  refine go_seq ?_
  simp only [Px.asg, Px.gnm, lst_consts, Px.c0, List.set_cons_succ, List.set_cons_zero]
  refine ⟨line_ok (by omega), fun q1 n1 => ?_⟩
  have hp1 := hp.new (o := .lst o1) n1
  have b1 : Px.But p H (upd H q1 (.lst o1)) := (Px.But.rfl' p H).new n1
  have x1 : (upd H q1 (.lst o1)) q1 = some (.lst o1) := upd_same
  generalize upd H q1 (.lst o1) = H1 at *
  refine go_seq ?_
  simp only [decide_true, decide_false, List.map_cons, List.map_nil, Option.map_none, Option.map_some, Option.getD_none, Option.getD_some, Px.dg2, Px.dg1, Px.dg, Px.din, Px.dnotin, Px.dnew, Px.dput, Px.isD_is, Px.dget_i, Px.dget_s, Px.dput_i, Px.dput_s, Px.dOf_d, Px.rtup, Px.rlist, Px.rsl, Px.rsort, Px.rcat, Px.rapp, Px.rrev, Px.sl_ap, Px.nop, Px.part, Px.yes, Px.tyl, Px.isL_l, Px.isT_t, Px.isL_t, Px.isT_l, Px.isD_d, Px.isT_d, Px.inV_ints, Px.flat_ints, Px.flatV_i, Px.wipe_cons, Px.wipe_nil, Px.gtup, Px.gcons, Px.gnil, gt_iff_lt, ge_iff_le, Px.we, Px.wonly, Px.was, Px.cxK, not_true_eq_false, and_self, true_implies, false_implies, implies_true, Px.e0, and_assoc, imp_false, not_false_eq_true, ne_eq, Px.rgcd, Px.rixl, Px.rixt, Px.v0, Px.v1, Px.v2, Px.v3, Px.v4, Px.v5, Px.v6, Px.v7, Px.v8, Px.v9, Px.v10, Px.v11, Px.v12, Px.v13, Px.v14, Px.v15, Px.v16, Px.v17, Px.v18, Px.v19, Px.v20, Px.v21, Px.v22, Px.v23, Px.c0, Px.asg, Px.gnm, Px.ret, Px.retN, Px.drop, Px.nxt, Px.brk, Px.cnt, Px.ifs, Px.op, Px.un, Px.tst, Px.tbl, Px.tand, Px.tor, Px.tnot, Px.andv, Px.orv, Px.notv, Px.tif, Px.tup, Px.lst, Px.nil, Px.cons, Px.cal, Px.calS, Px.cb, Px.par, Px.gsub, Px.bits, Px.bm, Px.bm0, Px.ri, Px.ri0, Px.ru, Px.req, Px.rne, Px.rix, Px.rlen, Px.rin, Px.rsetl, Px.risi, Px.tyH_n, Px.tyH_b, Px.tyH_i, Px.tyH_s, Px.tyH_r, Px.seqH_t, Px.seqH_l, Px.seqH_fl, Px.sc_ii, Px.sc_bb, Px.sc_ss, Px.atI0, Px.atI1, Px.atI2, Px.atI3, Px.atI4, Px.atI5, Px.atI6, Px.atI7, Px.kb_NoneType_int, Px.kb_NoneType_bool, Px.kb_NoneType_str, Px.kb_NoneType_list, Px.kb_NoneType_tuple, Px.kb_NoneType_dict, Px.kb_bool_int, Px.kb_bool_bool, Px.kb_bool_str, Px.kb_bool_list, Px.kb_bool_tuple, Px.kb_bool_dict, Px.kb_int_int, Px.kb_int_bool, Px.kb_int_str, Px.kb_int_list, Px.kb_int_tuple, Px.kb_int_dict, Px.kb_str_int, Px.kb_str_bool, Px.kb_str_str, Px.kb_str_list, Px.kb_str_tuple, Px.kb_str_dict, Px.kb_list_int, Px.kb_list_bool, Px.kb_list_str, Px.kb_list_list, Px.kb_list_tuple, Px.kb_list_dict, Px.kb_tuple_int, Px.kb_tuple_bool, Px.kb_tuple_str, Px.kb_tuple_list, Px.kb_tuple_tuple, Px.kb_tuple_dict, Px.kb_dict_int, Px.kb_dict_bool, Px.kb_dict_str, Px.kb_dict_list, Px.kb_dict_tuple, Px.kb_dict_dict, L2.upd_same, Px.updI, L2.ixN, List.set_cons_zero, List.set_cons_succ, List.length_cons, List.length_nil, Nat.reduceAdd, Nat.zero_add, L2.HO.lst.injEq, L2.HO.tup.injEq, L2.upd_upd, L2.V.int.injEq, L2.V.ref.injEq, L2.V.bl.injEq, L2.V.str.injEq, L2.V.ty.injEq, List.cons.injEq, and_true, true_and, and_false, false_and, or_false, false_or, exists_eq_left', exists_eq_left, exists_and_left, exists_const, exists_false, Option.some.injEq, decide_eq_true_eq, List.append_nil, List.cons_append, List.nil_append, Option.isSome_some, Bool.not_true, Bool.not_false, Bool.not_eq_true', Bool.not_eq_true, Bool.false_eq_true, decide_eq_false_iff_not, if_true, if_false, ite_true, ite_false, Int.reduceLE, Int.reduceLT, Int.reduceToNat, Int.cast_ofNat_Int, Bool.true_eq_false, eq_self, ↓reduceIte, reduceCtorEq, Px.aug, Px.ipi, Px.tri, Px.rcatth, Px.rixs, Px.rsls, Px.tm1, Px.glst, Px.nstr, Px.txI, Px.txC, Px.txL, Px.txA, Px.rsgn, Px.txf, Px.tost, Px.tmko, Px.risxd, *, consts_run]
  refine ⟨line_ok (by omega), fun q2 n2 => ?_⟩
  have x12 : (upd H1 q2 (.lst o2)) q1 = some (.lst o1) := by rw [updI n2 (by rw [x1]; rfl), x1]
  have x2 : (upd H1 q2 (.lst o2)) q2 = some (.lst o2) := upd_same
  have hp2 := hp1.new (o := .lst o2) n2
  have b2 : Px.But p H (upd H1 q2 (.lst o2)) := b1.new n2
  generalize upd H1 q2 (.lst o2) = H2 at *
  refine ⟨o1, x12, line_ok (by omega), fun q3 n3 => ?_⟩
  have x3 : (upd H2 q3 (.lst (o1 ++ o2))) q3 = some (.lst (o1 ++ o2)) := upd_same
  have hp3 := hp2.new (o := .lst (o1 ++ o2)) n3
  have b3 : Px.But p H (upd H2 q3 (.lst (o1 ++ o2))) := b2.new n3
  generalize upd H2 q3 (.lst (o1 ++ o2)) = H3 at *
  refine go_seq ?_
  simp only [decide_true, decide_false, List.map_cons, List.map_nil, Option.map_none, Option.map_some, Option.getD_none, Option.getD_some, Px.dg2, Px.dg1, Px.dg, Px.din, Px.dnotin, Px.dnew, Px.dput, Px.isD_is, Px.dget_i, Px.dget_s, Px.dput_i, Px.dput_s, Px.dOf_d, Px.rtup, Px.rlist, Px.rsl, Px.rsort, Px.rcat, Px.rapp, Px.rrev, Px.sl_ap, Px.nop, Px.part, Px.yes, Px.tyl, Px.isL_l, Px.isT_t, Px.isL_t, Px.isT_l, Px.isD_d, Px.isT_d, Px.inV_ints, Px.flat_ints, Px.flatV_i, Px.wipe_cons, Px.wipe_nil, Px.gtup, Px.gcons, Px.gnil, gt_iff_lt, ge_iff_le, Px.we, Px.wonly, Px.was, Px.cxK, not_true_eq_false, and_self, true_implies, false_implies, implies_true, Px.e0, and_assoc, imp_false, not_false_eq_true, ne_eq, Px.rgcd, Px.rixl, Px.rixt, Px.v0, Px.v1, Px.v2, Px.v3, Px.v4, Px.v5, Px.v6, Px.v7, Px.v8, Px.v9, Px.v10, Px.v11, Px.v12, Px.v13, Px.v14, Px.v15, Px.v16, Px.v17, Px.v18, Px.v19, Px.v20, Px.v21, Px.v22, Px.v23, Px.c0, Px.asg, Px.gnm, Px.ret, Px.retN, Px.drop, Px.nxt, Px.brk, Px.cnt, Px.ifs, Px.op, Px.un, Px.tst, Px.tbl, Px.tand, Px.tor, Px.tnot, Px.andv, Px.orv, Px.notv, Px.tif, Px.tup, Px.lst, Px.nil, Px.cons, Px.cal, Px.calS, Px.cb, Px.par, Px.gsub, Px.bits, Px.bm, Px.bm0, Px.ri, Px.ri0, Px.ru, Px.req, Px.rne, Px.rix, Px.rlen, Px.rin, Px.rsetl, Px.risi, Px.tyH_n, Px.tyH_b, Px.tyH_i, Px.tyH_s, Px.tyH_r, Px.seqH_t, Px.seqH_l, Px.seqH_fl, Px.sc_ii, Px.sc_bb, Px.sc_ss, Px.atI0, Px.atI1, Px.atI2, Px.atI3, Px.atI4, Px.atI5, Px.atI6, Px.atI7, Px.kb_NoneType_int, Px.kb_NoneType_bool, Px.kb_NoneType_str, Px.kb_NoneType_list, Px.kb_NoneType_tuple, Px.kb_NoneType_dict, Px.kb_bool_int, Px.kb_bool_bool, Px.kb_bool_str, Px.kb_bool_list, Px.kb_bool_tuple, Px.kb_bool_dict, Px.kb_int_int, Px.kb_int_bool, Px.kb_int_str, Px.kb_int_list, Px.kb_int_tuple, Px.kb_int_dict, Px.kb_str_int, Px.kb_str_bool, Px.kb_str_str, Px.kb_str_list, Px.kb_str_tuple, Px.kb_str_dict, Px.kb_list_int, Px.kb_list_bool, Px.kb_list_str, Px.kb_list_list, Px.kb_list_tuple, Px.kb_list_dict, Px.kb_tuple_int, Px.kb_tuple_bool, Px.kb_tuple_str, Px.kb_tuple_list, Px.kb_tuple_tuple, Px.kb_tuple_dict, Px.kb_dict_int, Px.kb_dict_bool, Px.kb_dict_str, Px.kb_dict_list, Px.kb_dict_tuple, Px.kb_dict_dict, L2.upd_same, Px.updI, L2.ixN, List.set_cons_zero, List.set_cons_succ, List.length_cons, List.length_nil, Nat.reduceAdd, Nat.zero_add, L2.HO.lst.injEq, L2.HO.tup.injEq, L2.upd_upd, L2.V.int.injEq, L2.V.ref.injEq, L2.V.bl.injEq, L2.V.str.injEq, L2.V.ty.injEq, List.cons.injEq, and_true, true_and, and_false, false_and, or_false, false_or, exists_eq_left', exists_eq_left, exists_and_left, exists_const, exists_false, Option.some.injEq, decide_eq_true_eq, List.append_nil, List.cons_append, List.nil_append, Option.isSome_some, Bool.not_true, Bool.not_false, Bool.not_eq_true', Bool.not_eq_true, Bool.false_eq_true, decide_eq_false_iff_not, if_true, if_false, ite_true, ite_false, Int.reduceLE, Int.reduceLT, Int.reduceToNat, Int.cast_ofNat_Int, Bool.true_eq_false, eq_self, ↓reduceIte, reduceCtorEq, Px.aug, Px.ipi, Px.tri, Px.rcatth, Px.rixs, Px.rsls, Px.tm1, Px.glst, Px.nstr, Px.txI, Px.txC, Px.txL, Px.txA, Px.rsgn, Px.txf, Px.tost, Px.tmko, Px.risxd, *, consts_run]
  refine ⟨line_ok (by omega), fun q4 n4 => ?_⟩
  have x34 : (upd H3 q4 (.lst o3)) q3 = some (.lst (o1 ++ o2)) := by rw [updI n4 (by rw [x3]; rfl), x3]
  have hp4 := hp3.new (o := .lst o3) n4
  have b4 : Px.But p H (upd H3 q4 (.lst o3)) := b3.new n4
  generalize upd H3 q4 (.lst o3) = H4 at *
  refine ⟨o1 ++ o2, x34, line_ok (show _ ≤ 10000 by rw [List.length_append]; omega), fun q5 n5 => ?_⟩
  have x5 : (upd H4 q5 (.lst (o1 ++ o2 ++ o3))) q5 = some (.lst (o1 ++ o2 ++ o3)) := upd_same
  have hp5 := hp4.new (o := .lst (o1 ++ o2 ++ o3)) n5
  have b5 : Px.But p H (upd H4 q5 (.lst (o1 ++ o2 ++ o3))) := b4.new n5
  have nqp : q5 ≠ p := hp4.ne0 n5
  generalize upd H4 q5 (.lst (o1 ++ o2 ++ o3)) = H5 at *
  generalize o1 ++ o2 ++ o3 = os at *
  simp only [decide_true, decide_false, List.map_cons, List.map_nil, Option.map_none, Option.map_some, Option.getD_none, Option.getD_some, Px.dg2, Px.dg1, Px.dg, Px.din, Px.dnotin, Px.dnew, Px.dput, Px.isD_is, Px.dget_i, Px.dget_s, Px.dput_i, Px.dput_s, Px.dOf_d, Px.rtup, Px.rlist, Px.rsl, Px.rsort, Px.rcat, Px.rapp, Px.rrev, Px.sl_ap, Px.nop, Px.part, Px.yes, Px.tyl, Px.isL_l, Px.isT_t, Px.isL_t, Px.isT_l, Px.isD_d, Px.isT_d, Px.inV_ints, Px.flat_ints, Px.flatV_i, Px.wipe_cons, Px.wipe_nil, Px.gtup, Px.gcons, Px.gnil, gt_iff_lt, ge_iff_le, Px.we, Px.wonly, Px.was, Px.cxK, not_true_eq_false, and_self, true_implies, false_implies, implies_true, Px.e0, and_assoc, imp_false, not_false_eq_true, ne_eq, Px.rgcd, Px.rixl, Px.rixt, Px.v0, Px.v1, Px.v2, Px.v3, Px.v4, Px.v5, Px.v6, Px.v7, Px.v8, Px.v9, Px.v10, Px.v11, Px.v12, Px.v13, Px.v14, Px.v15, Px.v16, Px.v17, Px.v18, Px.v19, Px.v20, Px.v21, Px.v22, Px.v23, Px.c0, Px.asg, Px.gnm, Px.ret, Px.retN, Px.drop, Px.nxt, Px.brk, Px.cnt, Px.ifs, Px.op, Px.un, Px.tst, Px.tbl, Px.tand, Px.tor, Px.tnot, Px.andv, Px.orv, Px.notv, Px.tif, Px.tup, Px.lst, Px.nil, Px.cons, Px.cal, Px.calS, Px.cb, Px.par, Px.gsub, Px.bits, Px.bm, Px.bm0, Px.ri, Px.ri0, Px.ru, Px.req, Px.rne, Px.rix, Px.rlen, Px.rin, Px.rsetl, Px.risi, Px.tyH_n, Px.tyH_b, Px.tyH_i, Px.tyH_s, Px.tyH_r, Px.seqH_t, Px.seqH_l, Px.seqH_fl, Px.sc_ii, Px.sc_bb, Px.sc_ss, Px.atI0, Px.atI1, Px.atI2, Px.atI3, Px.atI4, Px.atI5, Px.atI6, Px.atI7, Px.kb_NoneType_int, Px.kb_NoneType_bool, Px.kb_NoneType_str, Px.kb_NoneType_list, Px.kb_NoneType_tuple, Px.kb_NoneType_dict, Px.kb_bool_int, Px.kb_bool_bool, Px.kb_bool_str, Px.kb_bool_list, Px.kb_bool_tuple, Px.kb_bool_dict, Px.kb_int_int, Px.kb_int_bool, Px.kb_int_str, Px.kb_int_list, Px.kb_int_tuple, Px.kb_int_dict, Px.kb_str_int, Px.kb_str_bool, Px.kb_str_str, Px.kb_str_list, Px.kb_str_tuple, Px.kb_str_dict, Px.kb_list_int, Px.kb_list_bool, Px.kb_list_str, Px.kb_list_list, Px.kb_list_tuple, Px.kb_list_dict, Px.kb_tuple_int, Px.kb_tuple_bool, Px.kb_tuple_str, Px.kb_tuple_list, Px.kb_tuple_tuple, Px.kb_tuple_dict, Px.kb_dict_int, Px.kb_dict_bool, Px.kb_dict_str, Px.kb_dict_list, Px.kb_dict_tuple, Px.kb_dict_dict, L2.upd_same, Px.updI, L2.ixN, List.set_cons_zero, List.set_cons_succ, List.length_cons, List.length_nil, Nat.reduceAdd, Nat.zero_add, L2.HO.lst.injEq, L2.HO.tup.injEq, L2.upd_upd, L2.V.int.injEq, L2.V.ref.injEq, L2.V.bl.injEq, L2.V.str.injEq, L2.V.ty.injEq, List.cons.injEq, and_true, true_and, and_false, false_and, or_false, false_or, exists_eq_left', exists_eq_left, exists_and_left, exists_const, exists_false, Option.some.injEq, decide_eq_true_eq, List.append_nil, List.cons_append, List.nil_append, Option.isSome_some, Bool.not_true, Bool.not_false, Bool.not_eq_true', Bool.not_eq_true, Bool.false_eq_true, decide_eq_false_iff_not, if_true, if_false, ite_true, ite_false, Int.reduceLE, Int.reduceLT, Int.reduceToNat, Int.cast_ofNat_Int, Bool.true_eq_false, eq_self, ↓reduceIte, reduceCtorEq, Px.aug, Px.ipi, Px.tri, Px.rcatth, Px.rixs, Px.rsls, Px.tm1, Px.glst, Px.nstr, Px.txI, Px.txC, Px.txL, Px.txA, Px.rsgn, Px.txf, Px.tost, Px.tmko, Px.risxd, *, spTake]
  intro v H6 v0 v1 hp6 b6 _
  obtain ⟨z, hz, lz⟩ := isZ_at z1 v0 (by omega)
  exact ⟨os, by rw [b6.get nqp x5]; rfl, _, hz, k z H6 (by omega) hp6 (b5.trans b6)⟩
end
end K96

namespace K96
open PySem PySem.Spec PyProof.Rows L2 Px
/-! ### what ratio gives, plain -/
theorem fdiv_mul {a b : Int} (h : b ∣ a) : a.fdiv b * b = a := Int.fdiv_mul_cancel h
theorem rat_ok {n : Nat} {p q : Int} (h : q ≠ 0) (hp : p.natAbs < 2 ^ n) (hq : q.natAbs < 2 ^ n) : Rt n (top' p q) (bot p q) ∧ top' p q * q = p * bot p q := by
  have d0 := dv_ne (p := p) h
  have da := dv_abs (p := p) (q := q)
  have dp : dv p q ∣ p := Int.natAbs_dvd_natAbs.mp (by rw [da]; exact Nat.gcd_dvd_left _ _)
  have dq : dv p q ∣ q := Int.natAbs_dvd_natAbs.mp (by rw [da]; exact Nat.gcd_dvd_right _ _)
  have e1 : top' p q * dv p q = p := fdiv_mul dp
  have e2 : bot p q * dv p q = q := fdiv_mul dq
  have n1 : (top' p q).natAbs * (dv p q).natAbs = p.natAbs := by rw [← Int.natAbs_mul, e1]
  have n2 : (bot p q).natAbs * (dv p q).natAbs = q.natAbs := by rw [← Int.natAbs_mul, e2]
  have dpos : 0 < (dv p q).natAbs := by omega
  have b1 : (top' p q).natAbs ≤ p.natAbs := by rw [← n1]; exact Nat.le_mul_of_pos_right _ dpos
  have b2 : (bot p q).natAbs ≤ q.natAbs := by rw [← n2]; exact Nat.le_mul_of_pos_right _ dpos
  refine ⟨⟨?_, ?_, by omega, by omega⟩, ?_⟩
  · by_cases hn : q < 0
    · have d1 : dv p q < 0 := by
        unfold dv at d0 ⊢
        rw [if_pos hn] at d0 ⊢
        omega
      have := e2
      refine Int.lt_of_not_ge fun c => ?_
      have := Int.mul_nonneg_of_nonpos_of_nonpos c (Int.le_of_lt d1)
      omega
    · have d1 : 0 < dv p q := by
        unfold dv at d0 ⊢
        rw [if_neg hn] at d0 ⊢
        omega
      refine Int.lt_of_not_ge fun c => ?_
      have := Int.mul_nonneg (show 0 ≤ - bot p q by omega) (Int.le_of_lt d1)
      rw [Int.neg_mul] at this
      omega
  · have g : Nat.gcd ((top' p q).natAbs * (dv p q).natAbs) ((bot p q).natAbs * (dv p q).natAbs) = (dv p q).natAbs := by rw [n1, n2, da]
    rw [Nat.gcd_mul_right] at g
    exact Nat.eq_of_mul_eq_mul_right dpos (by rw [g, Nat.one_mul])
  · calc top' p q * q = top' p q * (bot p q * dv p q) := by rw [e2]
      _ = (top' p q * dv p q) * bot p q := by rw [Int.mul_comm (bot p q), Int.mul_assoc]
      _ = p * bot p q := by rw [e1]
section
variable {P : Program} {w : World} {K : PySem.W.Frag} {mg : Str → Option Value} {base : Heap} {CB CT : Addr}
theorem is_ok {H : Hp} {c : Addr} {t b : Int} {Q : VK} {E : XK} (h : H c = some (.tup [.int (top' t b), .int (bot t b)])) (b0 : b ≠ 0) (ht : Md t) (hb : Md b) (k : ∀ H', Px.Ext H H' → Q (.bl true) H') : spIs [.ref c, .int t, .int b] H Q E := by
  obtain ⟨r, e⟩ := rat_ok (n := 1000) b0 ht hb
  exact ⟨c, t, b, _, _, rfl, h, ⟨r, ht, hb, e⟩, k⟩
theorem small {n : Nat} (h : n < 10 ^ 201) : n < 2 ^ 1000 := Nat.lt_trans h (by decide +kernel)
/-- what is read of a ratio word, and what its parts say -/
theorem rat_read {a : List Nat} (h : rat a = true) (hl : a.length ≤ 201) : rdl (0, 0, 0) a = (5, (rdl (0, 0, 0) a).2.1, (rdl (0, 0, 0) a).2.2) ∧
    (if a.head? = some 45 then -(((rdl (0, 0, 0) a).2.1 : Nat) : Int) else (((rdl (0, 0, 0) a).2.1 : Nat) : Int)) = (rdT a).1 ∧ (((rdl (0, 0, 0) a).2.2 : Nat) : Int) = (rdT a).2 ∧ (rdT a).2 ≠ 0 ∧ Md (rdT a).1 ∧ Md (rdT a).2 := by
  obtain ⟨p, q, ea, n1, n2, hp, hq, h0, hpr⟩ := rat_cut h
  have l1 := prt_len _ a (Nat.le_refl _) p (by rw [hpr]; exact List.mem_cons_self)
  have l2 := prt_len _ a (Nat.le_refl _) q (by rw [hpr]; exact List.mem_cons_of_mem _ List.mem_cons_self)
  have e2 : rdT a = (wv p, ((NumText.digitsVal q : Nat) : Int)) := by unfold rdT; rw [hpr]; rfl
  have er : rdl (0, 0, 0) a = (5, NumText.digitsVal (ab p), NumText.digitsVal q) := by rw [ea]; exact rat_rd hp hq h0
  have hh : a.head? = p.head? := by
    rw [ea]
    cases p with
    | nil => cases hp
    | cons c r => rfl
  have v0 := val_pos hq h0
  have v1 := val_lt q (cnt_all hq).1
  have v2 := wv_abs hp
  have up : ∀ {x n : Nat}, x < 10 ^ n → n ≤ 201 → x < 2 ^ 1000 := fun h1 h2 => small (Nat.lt_of_lt_of_le h1 (Nat.pow_le_pow_right (by decide) h2))
  rw [e2, er, hh]
  refine ⟨rfl, rfl, rfl, ?_, up v2 (by omega), ?_⟩
  · show ((NumText.digitsVal q : Nat) : Int) ≠ 0
    omega
  · show (((NumText.digitsVal q : Nat) : Int)).natAbs < _
    rw [Int.natAbs_natCast]
    exact up v1 (by omega)
def spAsked (vs : List V) (H : Hp) (Q : VK) (_ : XK) : Prop := ∃ (a : List Nat) (how : Int), vs = [.str (Tx a), .int how] ∧ a.length ≤ 201 ∧ ∀ H', Px.Ext H H' → Q (.bl true) H'
theorem ok_asked (B : Bn mg) (F : FunAt K mg "_law_asked" s_law_asked) (D_law_read : Def P w K mg base CX0 2 "_law_read" ["text"] spRead) (D_is_whole_word : Def P w K mg base CX0 2 "is_whole_word" ["text"] spWholeW) (D_is_ratio_word : Def P w K mg base CX0 3 "is_ratio_word" ["text"] spRatW)
    (D_parse_ratio : Def P w K mg base (L2.CX P w) 4 "parse_ratio" ["text"] (spParse CT)) (D_law_is : Def P w K mg base CX0 2 "_law_is" ["told", "top", "bottom"] spIs)
    (D_law_refused : Def P w K mg base CX0 5 "_law_refused" ["text"] spRefused) (D_law_refused_by_base : Def P w K mg base CX0 5 "_law_refused_by_base" ["text"] spRefused) : Def P w K mg base CX0 6 "_law_asked" ["text", "how"] spAsked := by
  refine F.ok sc_law_asked (fun _ _ _ _ _ _ us hl => match us, hl with | [_, _], _ => rfl) (fun vs H Q E h => by obtain ⟨_, _, rfl, _⟩ := h; rfl) (fun f cdv A outer s H vs Q E hr h => ?_)
  obtain ⟨a, how, rfl, hl, k⟩ := h
  refine ⟨_, pss_cons (ps_asg (pe_fn D_law_read (hr.mono (by decide)) pass0 (pa_cons (pv 0) pa_nil)) (pg_tupH (n := 3) rfl (pgs_cons (pg_name (i := 2) sc_law_asked.nd rfl (Or.inl rfl)) (pgs_cons (pg_name (i := 3) sc_law_asked.nd rfl (Or.inl rfl)) (pgs_cons (pg_name (i := 4) sc_law_asked.nd rfl (Or.inl rfl)) pgs_nil))))) (
  pss_cons (ps_set (i := 5) sc_law_asked.nd rfl (Or.inl rfl) (pe_fn D_is_whole_word (hr.mono (by decide)) pass0 (pa_cons (pv 0) pa_nil))) (
  pcut (ps_if (PW.pt (pw_or (pt_not (pt_val (pe_callB isi_H rfl B.isinstance (by decide +kernel) (pa_cons (pv 5) (pa_cons (pe_bltn (v := .ty "bool") rfl B.bool_ (by decide +kernel) rfl) pa_nil))))) (pw_or1 (pt_cmpR op_ne (pv 5) (pe_or (pe_cmpR op_eq (pv 2) pe_int (nomark _)) (pe_one (pe_cmpR op_eq (pv 2) pe_int (nomark _)))) (nomark _))))) (pss_one (ps_ret pe_bl)) (pss_nil)) (
  pss_cons (ps_set (i := 5) sc_law_asked.nd rfl (Or.inl rfl) (pe_fn D_is_ratio_word (hr.mono (by decide)) pass0 (pa_cons (pv 0) pa_nil))) (
  pss_cons (ps_if (PW.pt (pw_or (pt_not (pt_val (pe_callB isi_H rfl B.isinstance (by decide +kernel) (pa_cons (pv 5) (pa_cons (pe_bltn (v := .ty "bool") rfl B.bool_ (by decide +kernel) rfl) pa_nil))))) (pw_or1 (pt_cmpR op_ne (pv 5) (pe_cmpR op_eq (pv 2) pe_int (nomark _)) (nomark _))))) (pss_one (ps_ret pe_bl)) (pss_nil)) (
  pss_cons (ps_if (pt_cmpR op_eq (pv 2) pe_int (nomark _)) (pss_one (ps_ret (pe_fn D_law_is (hr.mono (by decide)) pass0 (pa_cons (pe_fn D_parse_ratio (hr.mono (by decide)) passL (pa_cons (pv 0) pa_nil)) (pa_cons (pv 3) (pa_cons (pv 4) pa_nil)))))) (pss_nil)) (
  pss_cons (ps_if (pt_cmpR op_eq (pv 1) pe_int (nomark _)) (pss_one (ps_ret (pe_fn D_law_refused hr pass0 (pa_cons (pv 0) pa_nil)))) (pss_nil)) (
  pss_one (ps_ret (pe_fn D_law_refused_by_base hr pass0 (pa_cons (pv 0) pa_nil)))))))))), ?_⟩
  show tSeq _ _ _ [some (.str (Tx a)), some (.int how), none, none, none, none] H
  obtain ⟨r1, r2⟩ := reads a
  have er : (rdl (0, 0, 0) a).1 = run 0 a := rdl_st a (0, 0, 0)
  have l6 : a.length ≤ 600 := by omega
  have c2 : ((run 0 a : Nat) : Int) = 2 ↔ run 0 a = 2 := by omega
  have c3 : ((run 0 a : Nat) : Int) = 3 ↔ run 0 a = 3 := by omega
  have c5 : ((run 0 a : Nat) : Int) = 5 ↔ run 0 a = 5 := by omega
  refine go_seq ?_
  simp only [decide_true, decide_false, List.map_cons, List.map_nil, Option.map_none, Option.map_some, Option.getD_none, Option.getD_some, Px.dg2, Px.dg1, Px.dg, Px.din, Px.dnotin, Px.dnew, Px.dput, Px.isD_is, Px.dget_i, Px.dget_s, Px.dput_i, Px.dput_s, Px.dOf_d, Px.rtup, Px.rlist, Px.rsl, Px.rsort, Px.rcat, Px.rapp, Px.rrev, Px.sl_ap, Px.nop, Px.part, Px.yes, Px.tyl, Px.isL_l, Px.isT_t, Px.isL_t, Px.isT_l, Px.isD_d, Px.isT_d, Px.inV_ints, Px.flat_ints, Px.flatV_i, Px.wipe_cons, Px.wipe_nil, Px.gtup, Px.gcons, Px.gnil, gt_iff_lt, ge_iff_le, Px.we, Px.wonly, Px.was, Px.cxK, not_true_eq_false, and_self, true_implies, false_implies, implies_true, Px.e0, and_assoc, imp_false, not_false_eq_true, ne_eq, Px.rgcd, Px.rixl, Px.rixt, Px.v0, Px.v1, Px.v2, Px.v3, Px.v4, Px.v5, Px.v6, Px.v7, Px.v8, Px.v9, Px.v10, Px.v11, Px.v12, Px.v13, Px.v14, Px.v15, Px.v16, Px.v17, Px.v18, Px.v19, Px.v20, Px.v21, Px.v22, Px.v23, Px.c0, Px.asg, Px.gnm, Px.ret, Px.retN, Px.drop, Px.nxt, Px.brk, Px.cnt, Px.ifs, Px.op, Px.un, Px.tst, Px.tbl, Px.tand, Px.tor, Px.tnot, Px.andv, Px.orv, Px.notv, Px.tif, Px.tup, Px.lst, Px.nil, Px.cons, Px.cal, Px.calS, Px.cb, Px.par, Px.gsub, Px.bits, Px.bm, Px.bm0, Px.ri, Px.ri0, Px.ru, Px.req, Px.rne, Px.rix, Px.rlen, Px.rin, Px.rsetl, Px.risi, Px.tyH_n, Px.tyH_b, Px.tyH_i, Px.tyH_s, Px.tyH_r, Px.seqH_t, Px.seqH_l, Px.seqH_fl, Px.sc_ii, Px.sc_bb, Px.sc_ss, Px.atI0, Px.atI1, Px.atI2, Px.atI3, Px.atI4, Px.atI5, Px.atI6, Px.atI7, Px.kb_NoneType_int, Px.kb_NoneType_bool, Px.kb_NoneType_str, Px.kb_NoneType_list, Px.kb_NoneType_tuple, Px.kb_NoneType_dict, Px.kb_bool_int, Px.kb_bool_bool, Px.kb_bool_str, Px.kb_bool_list, Px.kb_bool_tuple, Px.kb_bool_dict, Px.kb_int_int, Px.kb_int_bool, Px.kb_int_str, Px.kb_int_list, Px.kb_int_tuple, Px.kb_int_dict, Px.kb_str_int, Px.kb_str_bool, Px.kb_str_str, Px.kb_str_list, Px.kb_str_tuple, Px.kb_str_dict, Px.kb_list_int, Px.kb_list_bool, Px.kb_list_str, Px.kb_list_list, Px.kb_list_tuple, Px.kb_list_dict, Px.kb_tuple_int, Px.kb_tuple_bool, Px.kb_tuple_str, Px.kb_tuple_list, Px.kb_tuple_tuple, Px.kb_tuple_dict, Px.kb_dict_int, Px.kb_dict_bool, Px.kb_dict_str, Px.kb_dict_list, Px.kb_dict_tuple, Px.kb_dict_dict, L2.upd_same, Px.updI, L2.ixN, List.set_cons_zero, List.set_cons_succ, List.length_cons, List.length_nil, Nat.reduceAdd, Nat.zero_add, L2.HO.lst.injEq, L2.HO.tup.injEq, L2.upd_upd, L2.V.int.injEq, L2.V.ref.injEq, L2.V.bl.injEq, L2.V.str.injEq, L2.V.ty.injEq, List.cons.injEq, and_true, true_and, and_false, false_and, or_false, false_or, exists_eq_left', exists_eq_left, exists_and_left, exists_const, exists_false, Option.some.injEq, decide_eq_true_eq, List.append_nil, List.cons_append, List.nil_append, Option.isSome_some, Bool.not_true, Bool.not_false, Bool.not_eq_true', Bool.not_eq_true, Bool.false_eq_true, decide_eq_false_iff_not, if_true, if_false, ite_true, ite_false, Int.reduceLE, Int.reduceLT, Int.reduceToNat, Int.cast_ofNat_Int, Bool.true_eq_false, eq_self, ↓reduceIte, reduceCtorEq, Px.aug, Px.ipi, Px.tri, Px.rcatth, Px.rixs, Px.rsls, Px.tm1, Px.glst, Px.nstr, Px.txI, Px.txC, Px.txL, Px.txA, Px.rsgn, Px.txf, Px.tost, Px.tmko, Px.risxd, *, spRead]
  intro c H1 e1 hc
  refine ⟨_, hc, rfl, _, _, rfl, _, _, rfl, _, _, rfl, rfl, ?_⟩
  have rr := fun h => rat_read (a := a) h hl
  generalize (if a.head? = some 45 then -(((rdl (0, 0, 0) a).2.1 : Nat) : Int) else (((rdl (0, 0, 0) a).2.1 : Nat) : Int)) = t at *
  generalize (((rdl (0, 0, 0) a).2.2 : Nat) : Int) = u at *
  refine go_seq ?_
  simp only [decide_true, decide_false, List.map_cons, List.map_nil, Option.map_none, Option.map_some, Option.getD_none, Option.getD_some, Px.dg2, Px.dg1, Px.dg, Px.din, Px.dnotin, Px.dnew, Px.dput, Px.isD_is, Px.dget_i, Px.dget_s, Px.dput_i, Px.dput_s, Px.dOf_d, Px.rtup, Px.rlist, Px.rsl, Px.rsort, Px.rcat, Px.rapp, Px.rrev, Px.sl_ap, Px.nop, Px.part, Px.yes, Px.tyl, Px.isL_l, Px.isT_t, Px.isL_t, Px.isT_l, Px.isD_d, Px.isT_d, Px.inV_ints, Px.flat_ints, Px.flatV_i, Px.wipe_cons, Px.wipe_nil, Px.gtup, Px.gcons, Px.gnil, gt_iff_lt, ge_iff_le, Px.we, Px.wonly, Px.was, Px.cxK, not_true_eq_false, and_self, true_implies, false_implies, implies_true, Px.e0, and_assoc, imp_false, not_false_eq_true, ne_eq, Px.rgcd, Px.rixl, Px.rixt, Px.v0, Px.v1, Px.v2, Px.v3, Px.v4, Px.v5, Px.v6, Px.v7, Px.v8, Px.v9, Px.v10, Px.v11, Px.v12, Px.v13, Px.v14, Px.v15, Px.v16, Px.v17, Px.v18, Px.v19, Px.v20, Px.v21, Px.v22, Px.v23, Px.c0, Px.asg, Px.gnm, Px.ret, Px.retN, Px.drop, Px.nxt, Px.brk, Px.cnt, Px.ifs, Px.op, Px.un, Px.tst, Px.tbl, Px.tand, Px.tor, Px.tnot, Px.andv, Px.orv, Px.notv, Px.tif, Px.tup, Px.lst, Px.nil, Px.cons, Px.cal, Px.calS, Px.cb, Px.par, Px.gsub, Px.bits, Px.bm, Px.bm0, Px.ri, Px.ri0, Px.ru, Px.req, Px.rne, Px.rix, Px.rlen, Px.rin, Px.rsetl, Px.risi, Px.tyH_n, Px.tyH_b, Px.tyH_i, Px.tyH_s, Px.tyH_r, Px.seqH_t, Px.seqH_l, Px.seqH_fl, Px.sc_ii, Px.sc_bb, Px.sc_ss, Px.atI0, Px.atI1, Px.atI2, Px.atI3, Px.atI4, Px.atI5, Px.atI6, Px.atI7, Px.kb_NoneType_int, Px.kb_NoneType_bool, Px.kb_NoneType_str, Px.kb_NoneType_list, Px.kb_NoneType_tuple, Px.kb_NoneType_dict, Px.kb_bool_int, Px.kb_bool_bool, Px.kb_bool_str, Px.kb_bool_list, Px.kb_bool_tuple, Px.kb_bool_dict, Px.kb_int_int, Px.kb_int_bool, Px.kb_int_str, Px.kb_int_list, Px.kb_int_tuple, Px.kb_int_dict, Px.kb_str_int, Px.kb_str_bool, Px.kb_str_str, Px.kb_str_list, Px.kb_str_tuple, Px.kb_str_dict, Px.kb_list_int, Px.kb_list_bool, Px.kb_list_str, Px.kb_list_list, Px.kb_list_tuple, Px.kb_list_dict, Px.kb_tuple_int, Px.kb_tuple_bool, Px.kb_tuple_str, Px.kb_tuple_list, Px.kb_tuple_tuple, Px.kb_tuple_dict, Px.kb_dict_int, Px.kb_dict_bool, Px.kb_dict_str, Px.kb_dict_list, Px.kb_dict_tuple, Px.kb_dict_dict, L2.upd_same, Px.updI, L2.ixN, List.set_cons_zero, List.set_cons_succ, List.length_cons, List.length_nil, Nat.reduceAdd, Nat.zero_add, L2.HO.lst.injEq, L2.HO.tup.injEq, L2.upd_upd, L2.V.int.injEq, L2.V.ref.injEq, L2.V.bl.injEq, L2.V.str.injEq, L2.V.ty.injEq, List.cons.injEq, and_true, true_and, and_false, false_and, or_false, false_or, exists_eq_left', exists_eq_left, exists_and_left, exists_const, exists_false, Option.some.injEq, decide_eq_true_eq, List.append_nil, List.cons_append, List.nil_append, Option.isSome_some, Bool.not_true, Bool.not_false, Bool.not_eq_true', Bool.not_eq_true, Bool.false_eq_true, decide_eq_false_iff_not, if_true, if_false, ite_true, ite_false, Int.reduceLE, Int.reduceLT, Int.reduceToNat, Int.cast_ofNat_Int, Bool.true_eq_false, eq_self, ↓reduceIte, reduceCtorEq, Px.aug, Px.ipi, Px.tri, Px.rcatth, Px.rixs, Px.rsls, Px.tm1, Px.glst, Px.nstr, Px.txI, Px.txC, Px.txL, Px.txA, Px.rsgn, Px.txf, Px.tost, Px.tmko, Px.risxd]
  refine ⟨a, rfl, l6, ?_⟩
  refine go_cut (fun σ' H' => σ' = [some (.str (Tx a)), some (.int how), some (.int ((run 0 a : Nat) : Int)), some (.int t), some (.int u), some (.bl (whl a))] ∧ H' = H1) ?_ ?_
  · simp only [decide_true, decide_false, List.map_cons, List.map_nil, Option.map_none, Option.map_some, Option.getD_none, Option.getD_some, Px.dg2, Px.dg1, Px.dg, Px.din, Px.dnotin, Px.dnew, Px.dput, Px.isD_is, Px.dget_i, Px.dget_s, Px.dput_i, Px.dput_s, Px.dOf_d, Px.rtup, Px.rlist, Px.rsl, Px.rsort, Px.rcat, Px.rapp, Px.rrev, Px.sl_ap, Px.nop, Px.part, Px.yes, Px.tyl, Px.isL_l, Px.isT_t, Px.isL_t, Px.isT_l, Px.isD_d, Px.isT_d, Px.inV_ints, Px.flat_ints, Px.flatV_i, Px.wipe_cons, Px.wipe_nil, Px.gtup, Px.gcons, Px.gnil, gt_iff_lt, ge_iff_le, Px.we, Px.wonly, Px.was, Px.cxK, not_true_eq_false, and_self, true_implies, false_implies, implies_true, Px.e0, and_assoc, imp_false, not_false_eq_true, ne_eq, Px.rgcd, Px.rixl, Px.rixt, Px.v0, Px.v1, Px.v2, Px.v3, Px.v4, Px.v5, Px.v6, Px.v7, Px.v8, Px.v9, Px.v10, Px.v11, Px.v12, Px.v13, Px.v14, Px.v15, Px.v16, Px.v17, Px.v18, Px.v19, Px.v20, Px.v21, Px.v22, Px.v23, Px.c0, Px.asg, Px.gnm, Px.ret, Px.retN, Px.drop, Px.nxt, Px.brk, Px.cnt, Px.ifs, Px.op, Px.un, Px.tst, Px.tbl, Px.tand, Px.tor, Px.tnot, Px.andv, Px.orv, Px.notv, Px.tif, Px.tup, Px.lst, Px.nil, Px.cons, Px.cal, Px.calS, Px.cb, Px.par, Px.gsub, Px.bits, Px.bm, Px.bm0, Px.ri, Px.ri0, Px.ru, Px.req, Px.rne, Px.rix, Px.rlen, Px.rin, Px.rsetl, Px.risi, Px.tyH_n, Px.tyH_b, Px.tyH_i, Px.tyH_s, Px.tyH_r, Px.seqH_t, Px.seqH_l, Px.seqH_fl, Px.sc_ii, Px.sc_bb, Px.sc_ss, Px.atI0, Px.atI1, Px.atI2, Px.atI3, Px.atI4, Px.atI5, Px.atI6, Px.atI7, Px.kb_NoneType_int, Px.kb_NoneType_bool, Px.kb_NoneType_str, Px.kb_NoneType_list, Px.kb_NoneType_tuple, Px.kb_NoneType_dict, Px.kb_bool_int, Px.kb_bool_bool, Px.kb_bool_str, Px.kb_bool_list, Px.kb_bool_tuple, Px.kb_bool_dict, Px.kb_int_int, Px.kb_int_bool, Px.kb_int_str, Px.kb_int_list, Px.kb_int_tuple, Px.kb_int_dict, Px.kb_str_int, Px.kb_str_bool, Px.kb_str_str, Px.kb_str_list, Px.kb_str_tuple, Px.kb_str_dict, Px.kb_list_int, Px.kb_list_bool, Px.kb_list_str, Px.kb_list_list, Px.kb_list_tuple, Px.kb_list_dict, Px.kb_tuple_int, Px.kb_tuple_bool, Px.kb_tuple_str, Px.kb_tuple_list, Px.kb_tuple_tuple, Px.kb_tuple_dict, Px.kb_dict_int, Px.kb_dict_bool, Px.kb_dict_str, Px.kb_dict_list, Px.kb_dict_tuple, Px.kb_dict_dict, L2.upd_same, Px.updI, L2.ixN, List.set_cons_zero, List.set_cons_succ, List.length_cons, List.length_nil, Nat.reduceAdd, Nat.zero_add, L2.HO.lst.injEq, L2.HO.tup.injEq, L2.upd_upd, L2.V.int.injEq, L2.V.ref.injEq, L2.V.bl.injEq, L2.V.str.injEq, L2.V.ty.injEq, List.cons.injEq, and_true, true_and, and_false, false_and, or_false, false_or, exists_eq_left', exists_eq_left, exists_and_left, exists_const, exists_false, Option.some.injEq, decide_eq_true_eq, List.append_nil, List.cons_append, List.nil_append, Option.isSome_some, Bool.not_true, Bool.not_false, Bool.not_eq_true', Bool.not_eq_true, Bool.false_eq_true, decide_eq_false_iff_not, if_true, if_false, ite_true, ite_false, Int.reduceLE, Int.reduceLT, Int.reduceToNat, Int.cast_ofNat_Int, Bool.true_eq_false, eq_self, ↓reduceIte, reduceCtorEq, Px.aug, Px.ipi, Px.tri, Px.rcatth, Px.rixs, Px.rsls, Px.tm1, Px.glst, Px.nstr, Px.txI, Px.txC, Px.txL, Px.txA, Px.rsgn, Px.txf, Px.tost, Px.tmko, Px.risxd, *]
    refine go_if (fun h => ?_) (fun h => ?_)
    · have hw := r1.mp (.inl h)
      rw [hw]
      trivial
    · refine go_if (fun h' => ?_) (fun _ => trivial)
      exfalso
      by_cases z : run 0 a = 3
      · rw [r1.mp (.inr z), decide_eq_true z] at h'
        exact h' rfl
      · rw [decide_eq_false z] at h'
        have : whl a = false := Bool.eq_false_iff.mpr fun q => by
          rcases r1.mpr q with q | q
          · exact h q
          · exact z q
        exact h' this
  rintro σ' H' ⟨rfl, rfl⟩
  refine go_seq ?_
  simp only [decide_true, decide_false, List.map_cons, List.map_nil, Option.map_none, Option.map_some, Option.getD_none, Option.getD_some, Px.dg2, Px.dg1, Px.dg, Px.din, Px.dnotin, Px.dnew, Px.dput, Px.isD_is, Px.dget_i, Px.dget_s, Px.dput_i, Px.dput_s, Px.dOf_d, Px.rtup, Px.rlist, Px.rsl, Px.rsort, Px.rcat, Px.rapp, Px.rrev, Px.sl_ap, Px.nop, Px.part, Px.yes, Px.tyl, Px.isL_l, Px.isT_t, Px.isL_t, Px.isT_l, Px.isD_d, Px.isT_d, Px.inV_ints, Px.flat_ints, Px.flatV_i, Px.wipe_cons, Px.wipe_nil, Px.gtup, Px.gcons, Px.gnil, gt_iff_lt, ge_iff_le, Px.we, Px.wonly, Px.was, Px.cxK, not_true_eq_false, and_self, true_implies, false_implies, implies_true, Px.e0, and_assoc, imp_false, not_false_eq_true, ne_eq, Px.rgcd, Px.rixl, Px.rixt, Px.v0, Px.v1, Px.v2, Px.v3, Px.v4, Px.v5, Px.v6, Px.v7, Px.v8, Px.v9, Px.v10, Px.v11, Px.v12, Px.v13, Px.v14, Px.v15, Px.v16, Px.v17, Px.v18, Px.v19, Px.v20, Px.v21, Px.v22, Px.v23, Px.c0, Px.asg, Px.gnm, Px.ret, Px.retN, Px.drop, Px.nxt, Px.brk, Px.cnt, Px.ifs, Px.op, Px.un, Px.tst, Px.tbl, Px.tand, Px.tor, Px.tnot, Px.andv, Px.orv, Px.notv, Px.tif, Px.tup, Px.lst, Px.nil, Px.cons, Px.cal, Px.calS, Px.cb, Px.par, Px.gsub, Px.bits, Px.bm, Px.bm0, Px.ri, Px.ri0, Px.ru, Px.req, Px.rne, Px.rix, Px.rlen, Px.rin, Px.rsetl, Px.risi, Px.tyH_n, Px.tyH_b, Px.tyH_i, Px.tyH_s, Px.tyH_r, Px.seqH_t, Px.seqH_l, Px.seqH_fl, Px.sc_ii, Px.sc_bb, Px.sc_ss, Px.atI0, Px.atI1, Px.atI2, Px.atI3, Px.atI4, Px.atI5, Px.atI6, Px.atI7, Px.kb_NoneType_int, Px.kb_NoneType_bool, Px.kb_NoneType_str, Px.kb_NoneType_list, Px.kb_NoneType_tuple, Px.kb_NoneType_dict, Px.kb_bool_int, Px.kb_bool_bool, Px.kb_bool_str, Px.kb_bool_list, Px.kb_bool_tuple, Px.kb_bool_dict, Px.kb_int_int, Px.kb_int_bool, Px.kb_int_str, Px.kb_int_list, Px.kb_int_tuple, Px.kb_int_dict, Px.kb_str_int, Px.kb_str_bool, Px.kb_str_str, Px.kb_str_list, Px.kb_str_tuple, Px.kb_str_dict, Px.kb_list_int, Px.kb_list_bool, Px.kb_list_str, Px.kb_list_list, Px.kb_list_tuple, Px.kb_list_dict, Px.kb_tuple_int, Px.kb_tuple_bool, Px.kb_tuple_str, Px.kb_tuple_list, Px.kb_tuple_tuple, Px.kb_tuple_dict, Px.kb_dict_int, Px.kb_dict_bool, Px.kb_dict_str, Px.kb_dict_list, Px.kb_dict_tuple, Px.kb_dict_dict, L2.upd_same, Px.updI, L2.ixN, List.set_cons_zero, List.set_cons_succ, List.length_cons, List.length_nil, Nat.reduceAdd, Nat.zero_add, L2.HO.lst.injEq, L2.HO.tup.injEq, L2.upd_upd, L2.V.int.injEq, L2.V.ref.injEq, L2.V.bl.injEq, L2.V.str.injEq, L2.V.ty.injEq, List.cons.injEq, and_true, true_and, and_false, false_and, or_false, false_or, exists_eq_left', exists_eq_left, exists_and_left, exists_const, exists_false, Option.some.injEq, decide_eq_true_eq, List.append_nil, List.cons_append, List.nil_append, Option.isSome_some, Bool.not_true, Bool.not_false, Bool.not_eq_true', Bool.not_eq_true, Bool.false_eq_true, decide_eq_false_iff_not, if_true, if_false, ite_true, ite_false, Int.reduceLE, Int.reduceLT, Int.reduceToNat, Int.cast_ofNat_Int, Bool.true_eq_false, eq_self, ↓reduceIte, reduceCtorEq, Px.aug, Px.ipi, Px.tri, Px.rcatth, Px.rixs, Px.rsls, Px.tm1, Px.glst, Px.nstr, Px.txI, Px.txC, Px.txL, Px.txA, Px.rsgn, Px.txf, Px.tost, Px.tmko, Px.risxd, *, spRatW]
  intro H2 e2
  have e02 := e1.trans e2
  refine go_seq ?_
  simp only [decide_true, decide_false, List.map_cons, List.map_nil, Option.map_none, Option.map_some, Option.getD_none, Option.getD_some, Px.dg2, Px.dg1, Px.dg, Px.din, Px.dnotin, Px.dnew, Px.dput, Px.isD_is, Px.dget_i, Px.dget_s, Px.dput_i, Px.dput_s, Px.dOf_d, Px.rtup, Px.rlist, Px.rsl, Px.rsort, Px.rcat, Px.rapp, Px.rrev, Px.sl_ap, Px.nop, Px.part, Px.yes, Px.tyl, Px.isL_l, Px.isT_t, Px.isL_t, Px.isT_l, Px.isD_d, Px.isT_d, Px.inV_ints, Px.flat_ints, Px.flatV_i, Px.wipe_cons, Px.wipe_nil, Px.gtup, Px.gcons, Px.gnil, gt_iff_lt, ge_iff_le, Px.we, Px.wonly, Px.was, Px.cxK, not_true_eq_false, and_self, true_implies, false_implies, implies_true, Px.e0, and_assoc, imp_false, not_false_eq_true, ne_eq, Px.rgcd, Px.rixl, Px.rixt, Px.v0, Px.v1, Px.v2, Px.v3, Px.v4, Px.v5, Px.v6, Px.v7, Px.v8, Px.v9, Px.v10, Px.v11, Px.v12, Px.v13, Px.v14, Px.v15, Px.v16, Px.v17, Px.v18, Px.v19, Px.v20, Px.v21, Px.v22, Px.v23, Px.c0, Px.asg, Px.gnm, Px.ret, Px.retN, Px.drop, Px.nxt, Px.brk, Px.cnt, Px.ifs, Px.op, Px.un, Px.tst, Px.tbl, Px.tand, Px.tor, Px.tnot, Px.andv, Px.orv, Px.notv, Px.tif, Px.tup, Px.lst, Px.nil, Px.cons, Px.cal, Px.calS, Px.cb, Px.par, Px.gsub, Px.bits, Px.bm, Px.bm0, Px.ri, Px.ri0, Px.ru, Px.req, Px.rne, Px.rix, Px.rlen, Px.rin, Px.rsetl, Px.risi, Px.tyH_n, Px.tyH_b, Px.tyH_i, Px.tyH_s, Px.tyH_r, Px.seqH_t, Px.seqH_l, Px.seqH_fl, Px.sc_ii, Px.sc_bb, Px.sc_ss, Px.atI0, Px.atI1, Px.atI2, Px.atI3, Px.atI4, Px.atI5, Px.atI6, Px.atI7, Px.kb_NoneType_int, Px.kb_NoneType_bool, Px.kb_NoneType_str, Px.kb_NoneType_list, Px.kb_NoneType_tuple, Px.kb_NoneType_dict, Px.kb_bool_int, Px.kb_bool_bool, Px.kb_bool_str, Px.kb_bool_list, Px.kb_bool_tuple, Px.kb_bool_dict, Px.kb_int_int, Px.kb_int_bool, Px.kb_int_str, Px.kb_int_list, Px.kb_int_tuple, Px.kb_int_dict, Px.kb_str_int, Px.kb_str_bool, Px.kb_str_str, Px.kb_str_list, Px.kb_str_tuple, Px.kb_str_dict, Px.kb_list_int, Px.kb_list_bool, Px.kb_list_str, Px.kb_list_list, Px.kb_list_tuple, Px.kb_list_dict, Px.kb_tuple_int, Px.kb_tuple_bool, Px.kb_tuple_str, Px.kb_tuple_list, Px.kb_tuple_tuple, Px.kb_tuple_dict, Px.kb_dict_int, Px.kb_dict_bool, Px.kb_dict_str, Px.kb_dict_list, Px.kb_dict_tuple, Px.kb_dict_dict, L2.upd_same, Px.updI, L2.ixN, List.set_cons_zero, List.set_cons_succ, List.length_cons, List.length_nil, Nat.reduceAdd, Nat.zero_add, L2.HO.lst.injEq, L2.HO.tup.injEq, L2.upd_upd, L2.V.int.injEq, L2.V.ref.injEq, L2.V.bl.injEq, L2.V.str.injEq, L2.V.ty.injEq, List.cons.injEq, and_true, true_and, and_false, false_and, or_false, false_or, exists_eq_left', exists_eq_left, exists_and_left, exists_const, exists_false, Option.some.injEq, decide_eq_true_eq, List.append_nil, List.cons_append, List.nil_append, Option.isSome_some, Bool.not_true, Bool.not_false, Bool.not_eq_true', Bool.not_eq_true, Bool.false_eq_true, decide_eq_false_iff_not, if_true, if_false, ite_true, ite_false, Int.reduceLE, Int.reduceLT, Int.reduceToNat, Int.cast_ofNat_Int, Bool.true_eq_false, eq_self, ↓reduceIte, reduceCtorEq, Px.aug, Px.ipi, Px.tri, Px.rcatth, Px.rixs, Px.rsls, Px.tm1, Px.glst, Px.nstr, Px.txI, Px.txC, Px.txL, Px.txA, Px.rsgn, Px.txf, Px.tost, Px.tmko, Px.risxd, *]
  refine go_if (fun h' => ?_) (fun _ => ?_)
  · exact absurd (Bool.decide_eq_true (b := rat a)).symm h'
  refine go_seq ?_
  simp only [decide_true, decide_false, List.map_cons, List.map_nil, Option.map_none, Option.map_some, Option.getD_none, Option.getD_some, Px.dg2, Px.dg1, Px.dg, Px.din, Px.dnotin, Px.dnew, Px.dput, Px.isD_is, Px.dget_i, Px.dget_s, Px.dput_i, Px.dput_s, Px.dOf_d, Px.rtup, Px.rlist, Px.rsl, Px.rsort, Px.rcat, Px.rapp, Px.rrev, Px.sl_ap, Px.nop, Px.part, Px.yes, Px.tyl, Px.isL_l, Px.isT_t, Px.isL_t, Px.isT_l, Px.isD_d, Px.isT_d, Px.inV_ints, Px.flat_ints, Px.flatV_i, Px.wipe_cons, Px.wipe_nil, Px.gtup, Px.gcons, Px.gnil, gt_iff_lt, ge_iff_le, Px.we, Px.wonly, Px.was, Px.cxK, not_true_eq_false, and_self, true_implies, false_implies, implies_true, Px.e0, and_assoc, imp_false, not_false_eq_true, ne_eq, Px.rgcd, Px.rixl, Px.rixt, Px.v0, Px.v1, Px.v2, Px.v3, Px.v4, Px.v5, Px.v6, Px.v7, Px.v8, Px.v9, Px.v10, Px.v11, Px.v12, Px.v13, Px.v14, Px.v15, Px.v16, Px.v17, Px.v18, Px.v19, Px.v20, Px.v21, Px.v22, Px.v23, Px.c0, Px.asg, Px.gnm, Px.ret, Px.retN, Px.drop, Px.nxt, Px.brk, Px.cnt, Px.ifs, Px.op, Px.un, Px.tst, Px.tbl, Px.tand, Px.tor, Px.tnot, Px.andv, Px.orv, Px.notv, Px.tif, Px.tup, Px.lst, Px.nil, Px.cons, Px.cal, Px.calS, Px.cb, Px.par, Px.gsub, Px.bits, Px.bm, Px.bm0, Px.ri, Px.ri0, Px.ru, Px.req, Px.rne, Px.rix, Px.rlen, Px.rin, Px.rsetl, Px.risi, Px.tyH_n, Px.tyH_b, Px.tyH_i, Px.tyH_s, Px.tyH_r, Px.seqH_t, Px.seqH_l, Px.seqH_fl, Px.sc_ii, Px.sc_bb, Px.sc_ss, Px.atI0, Px.atI1, Px.atI2, Px.atI3, Px.atI4, Px.atI5, Px.atI6, Px.atI7, Px.kb_NoneType_int, Px.kb_NoneType_bool, Px.kb_NoneType_str, Px.kb_NoneType_list, Px.kb_NoneType_tuple, Px.kb_NoneType_dict, Px.kb_bool_int, Px.kb_bool_bool, Px.kb_bool_str, Px.kb_bool_list, Px.kb_bool_tuple, Px.kb_bool_dict, Px.kb_int_int, Px.kb_int_bool, Px.kb_int_str, Px.kb_int_list, Px.kb_int_tuple, Px.kb_int_dict, Px.kb_str_int, Px.kb_str_bool, Px.kb_str_str, Px.kb_str_list, Px.kb_str_tuple, Px.kb_str_dict, Px.kb_list_int, Px.kb_list_bool, Px.kb_list_str, Px.kb_list_list, Px.kb_list_tuple, Px.kb_list_dict, Px.kb_tuple_int, Px.kb_tuple_bool, Px.kb_tuple_str, Px.kb_tuple_list, Px.kb_tuple_tuple, Px.kb_tuple_dict, Px.kb_dict_int, Px.kb_dict_bool, Px.kb_dict_str, Px.kb_dict_list, Px.kb_dict_tuple, Px.kb_dict_dict, L2.upd_same, Px.updI, L2.ixN, List.set_cons_zero, List.set_cons_succ, List.length_cons, List.length_nil, Nat.reduceAdd, Nat.zero_add, L2.HO.lst.injEq, L2.HO.tup.injEq, L2.upd_upd, L2.V.int.injEq, L2.V.ref.injEq, L2.V.bl.injEq, L2.V.str.injEq, L2.V.ty.injEq, List.cons.injEq, and_true, true_and, and_false, false_and, or_false, false_or, exists_eq_left', exists_eq_left, exists_and_left, exists_const, exists_false, Option.some.injEq, decide_eq_true_eq, List.append_nil, List.cons_append, List.nil_append, Option.isSome_some, Bool.not_true, Bool.not_false, Bool.not_eq_true', Bool.not_eq_true, Bool.false_eq_true, decide_eq_false_iff_not, if_true, if_false, ite_true, ite_false, Int.reduceLE, Int.reduceLT, Int.reduceToNat, Int.cast_ofNat_Int, Bool.true_eq_false, eq_self, ↓reduceIte, reduceCtorEq, Px.aug, Px.ipi, Px.tri, Px.rcatth, Px.rixs, Px.rsls, Px.tm1, Px.glst, Px.nstr, Px.txI, Px.txC, Px.txL, Px.txA, Px.rsgn, Px.txf, Px.tost, Px.tmko, Px.risxd, *, spParse]
  refine go_if (fun z => ?_) (fun z => ?_)
  · have hra : rat a = true := z
    obtain ⟨g1, g2, g3, g4, g5, g6⟩ := rr hra
    rw [hra]
    refine ⟨fun _ d H3 e3 hd => ?_, fun q => nomatch q⟩
    rw [g2, g3]
    exact is_ok hd g4 g5 g6 fun H4 e4 => k H4 ((e02.trans e3).trans e4)
  · have hra : rat a = false := Bool.eq_false_iff.mpr z
    refine go_seq ?_
    simp only [decide_true, decide_false, List.map_cons, List.map_nil, Option.map_none, Option.map_some, Option.getD_none, Option.getD_some, Px.dg2, Px.dg1, Px.dg, Px.din, Px.dnotin, Px.dnew, Px.dput, Px.isD_is, Px.dget_i, Px.dget_s, Px.dput_i, Px.dput_s, Px.dOf_d, Px.rtup, Px.rlist, Px.rsl, Px.rsort, Px.rcat, Px.rapp, Px.rrev, Px.sl_ap, Px.nop, Px.part, Px.yes, Px.tyl, Px.isL_l, Px.isT_t, Px.isL_t, Px.isT_l, Px.isD_d, Px.isT_d, Px.inV_ints, Px.flat_ints, Px.flatV_i, Px.wipe_cons, Px.wipe_nil, Px.gtup, Px.gcons, Px.gnil, gt_iff_lt, ge_iff_le, Px.we, Px.wonly, Px.was, Px.cxK, not_true_eq_false, and_self, true_implies, false_implies, implies_true, Px.e0, and_assoc, imp_false, not_false_eq_true, ne_eq, Px.rgcd, Px.rixl, Px.rixt, Px.v0, Px.v1, Px.v2, Px.v3, Px.v4, Px.v5, Px.v6, Px.v7, Px.v8, Px.v9, Px.v10, Px.v11, Px.v12, Px.v13, Px.v14, Px.v15, Px.v16, Px.v17, Px.v18, Px.v19, Px.v20, Px.v21, Px.v22, Px.v23, Px.c0, Px.asg, Px.gnm, Px.ret, Px.retN, Px.drop, Px.nxt, Px.brk, Px.cnt, Px.ifs, Px.op, Px.un, Px.tst, Px.tbl, Px.tand, Px.tor, Px.tnot, Px.andv, Px.orv, Px.notv, Px.tif, Px.tup, Px.lst, Px.nil, Px.cons, Px.cal, Px.calS, Px.cb, Px.par, Px.gsub, Px.bits, Px.bm, Px.bm0, Px.ri, Px.ri0, Px.ru, Px.req, Px.rne, Px.rix, Px.rlen, Px.rin, Px.rsetl, Px.risi, Px.tyH_n, Px.tyH_b, Px.tyH_i, Px.tyH_s, Px.tyH_r, Px.seqH_t, Px.seqH_l, Px.seqH_fl, Px.sc_ii, Px.sc_bb, Px.sc_ss, Px.atI0, Px.atI1, Px.atI2, Px.atI3, Px.atI4, Px.atI5, Px.atI6, Px.atI7, Px.kb_NoneType_int, Px.kb_NoneType_bool, Px.kb_NoneType_str, Px.kb_NoneType_list, Px.kb_NoneType_tuple, Px.kb_NoneType_dict, Px.kb_bool_int, Px.kb_bool_bool, Px.kb_bool_str, Px.kb_bool_list, Px.kb_bool_tuple, Px.kb_bool_dict, Px.kb_int_int, Px.kb_int_bool, Px.kb_int_str, Px.kb_int_list, Px.kb_int_tuple, Px.kb_int_dict, Px.kb_str_int, Px.kb_str_bool, Px.kb_str_str, Px.kb_str_list, Px.kb_str_tuple, Px.kb_str_dict, Px.kb_list_int, Px.kb_list_bool, Px.kb_list_str, Px.kb_list_list, Px.kb_list_tuple, Px.kb_list_dict, Px.kb_tuple_int, Px.kb_tuple_bool, Px.kb_tuple_str, Px.kb_tuple_list, Px.kb_tuple_tuple, Px.kb_tuple_dict, Px.kb_dict_int, Px.kb_dict_bool, Px.kb_dict_str, Px.kb_dict_list, Px.kb_dict_tuple, Px.kb_dict_dict, L2.upd_same, Px.updI, L2.ixN, List.set_cons_zero, List.set_cons_succ, List.length_cons, List.length_nil, Nat.reduceAdd, Nat.zero_add, L2.HO.lst.injEq, L2.HO.tup.injEq, L2.upd_upd, L2.V.int.injEq, L2.V.ref.injEq, L2.V.bl.injEq, L2.V.str.injEq, L2.V.ty.injEq, List.cons.injEq, and_true, true_and, and_false, false_and, or_false, false_or, exists_eq_left', exists_eq_left, exists_and_left, exists_const, exists_false, Option.some.injEq, decide_eq_true_eq, List.append_nil, List.cons_append, List.nil_append, Option.isSome_some, Bool.not_true, Bool.not_false, Bool.not_eq_true', Bool.not_eq_true, Bool.false_eq_true, decide_eq_false_iff_not, if_true, if_false, ite_true, ite_false, Int.reduceLE, Int.reduceLT, Int.reduceToNat, Int.cast_ofNat_Int, Bool.true_eq_false, eq_self, ↓reduceIte, reduceCtorEq, Px.aug, Px.ipi, Px.tri, Px.rcatth, Px.rixs, Px.rsls, Px.tm1, Px.glst, Px.nstr, Px.txI, Px.txC, Px.txL, Px.txA, Px.rsgn, Px.txf, Px.tost, Px.tmko, Px.risxd, *, spRefused]
    exact go_if (fun _ H3 e3 => k H3 (e02.trans e3)) (fun _ H3 e3 => k H3 (e02.trans e3))
theorem rat_wt {p q : Int} (hq : 0 < q) : rat (wt p ++ 47 :: wt q) = true ∧ rdT (wt p ++ 47 :: wt q) = (p, q) := by
  obtain ⟨h1, h2⟩ := whl_wt p
  have e : wt q = TL.numL q.natAbs := if_neg (by omega)
  obtain ⟨c1, c2⟩ := cnt_num q.natAbs
  have f1 := wt_free p
  have f2 := wt_free q
  refine ⟨?_, ?_⟩
  · rw [rat_two f1 f2, h1, e, c1, decide_eq_true (c2 (by omega))]
    rfl
  · unfold rdT
    rw [prt_cut f1, prt_no f2]
    show (wv (wt p), ((NumText.digitsVal (wt q) : Nat) : Int)) = _
    rw [h2, e, TL.numL_val]
    have : ((q.natAbs : Nat) : Int) = q := by omega
    rw [this]
theorem md_of {p : Int} (h : p.natAbs < 2 ^ 140) : p.natAbs < 10 ^ 100 ∧ Md p := ⟨Nat.lt_trans h (by decide +kernel), lt_up h (by decide)⟩
def spWritten (vs : List V) (H : Hp) (Q : VK) (_ : XK) : Prop := ∃ (c : Addr) (p q : Int), vs = [.ref c] ∧ H c = some (.tup [.int p, .int q]) ∧ Rt 140 p q ∧ ∀ H', Px.Ext H H' → Q (.bl true) H'
theorem ok_written (B : Bn mg) (F : FunAt K mg "_law_written" s_law_written) (D_ratio_text : Def P w K mg base CX0 1 "ratio_text" ["a"] spText) (D_is_ratio_word : Def P w K mg base CX0 3 "is_ratio_word" ["text"] spRatW)
    (D_parse_ratio : Def P w K mg base (L2.CX P w) 4 "parse_ratio" ["text"] (spParse CT)) (D_law_is : Def P w K mg base CX0 2 "_law_is" ["told", "top", "bottom"] spIs) : Def P w K mg base CX0 5 "_law_written" ["pair"] spWritten := by
  refine F.ok sc_law_written (fun _ _ _ _ _ _ us hl => match us, hl with | [_], _ => rfl) (fun vs H Q E h => by obtain ⟨_, _, _, rfl, _⟩ := h; rfl) (fun f cdv A outer s H vs Q E hr h => ?_)
  obtain ⟨c, p, q, rfl, hc, hr', k⟩ := h
  refine ⟨_, pss_cons (ps_set (i := 1) sc_law_written.nd rfl (Or.inl rfl) (pe_op op_add_str (pe_op op_add_str (pe_callTy call_str_int rfl B.str_ (by decide +kernel) (pa_cons (pe_ix ix_H (pv 0) pe_int (fun _ _ => rfl)) pa_nil)) pe_str) (pe_callTy call_str_int rfl B.str_ (by decide +kernel) (pa_cons (pe_ix ix_H (pv 0) pe_int (fun _ _ => rfl)) pa_nil)))) (
  pss_cons (ps_set (i := 2) sc_law_written.nd rfl (Or.inl rfl) (pe_fn D_ratio_text (hr.mono (by decide)) pass0 (pa_cons (pv 0) pa_nil))) (
  pss_cons (ps_if (PW.pt (pw_or (pt_not (pt_val (pe_callB isi_H rfl B.isinstance (by decide +kernel) (pa_cons (pv 2) (pa_cons (pe_bltn (v := .ty "str") rfl B.str_ (by decide +kernel) rfl) pa_nil))))) (pw_or1 (pt_cmpR op_ne (pv 2) (pv 1) (nomark _))))) (pss_one (ps_ret pe_bl)) (pss_nil)) (
  pss_one (ps_ret (pe_and (pe_cmpR op_is_bl (pe_fn D_is_ratio_word (hr.mono (by decide)) pass0 (pa_cons (pv 1) pa_nil)) pe_bl (nomark _)) (pe_one (pe_fn D_law_is (hr.mono (by decide)) pass0 (pa_cons (pe_fn D_parse_ratio hr passL (pa_cons (pv 1) pa_nil)) (pa_cons (pe_ix ix_H (pv 0) pe_int (fun _ _ => rfl)) (pa_cons (pe_ix ix_H (pv 0) pe_int (fun _ _ => rfl)) pa_nil)))))))))), ?_⟩
  show tSeq _ _ _ [some (.ref c), none, none] H
  obtain ⟨b1, m1⟩ := md_of hr'.2.2.1
  obtain ⟨b2, m2⟩ := md_of hr'.2.2.2
  have l1 := log_ok b1
  have l2 := log_ok b2
  have w1 := wt_len b1
  have w2 := wt_len b2
  obtain ⟨g1, g2⟩ := rat_wt (p := p) hr'.1
  have la : (wt p ++ 47 :: wt q).length ≤ 600 := by rw [List.length_append, List.length_cons]; omega
  refine go_seq ?_
  simp only [decide_true, decide_false, List.map_cons, List.map_nil, Option.map_none, Option.map_some, Option.getD_none, Option.getD_some, Px.dg2, Px.dg1, Px.dg, Px.din, Px.dnotin, Px.dnew, Px.dput, Px.isD_is, Px.dget_i, Px.dget_s, Px.dput_i, Px.dput_s, Px.dOf_d, Px.rtup, Px.rlist, Px.rsl, Px.rsort, Px.rcat, Px.rapp, Px.rrev, Px.sl_ap, Px.nop, Px.part, Px.yes, Px.tyl, Px.isL_l, Px.isT_t, Px.isL_t, Px.isT_l, Px.isD_d, Px.isT_d, Px.inV_ints, Px.flat_ints, Px.flatV_i, Px.wipe_cons, Px.wipe_nil, Px.gtup, Px.gcons, Px.gnil, gt_iff_lt, ge_iff_le, Px.we, Px.wonly, Px.was, Px.cxK, not_true_eq_false, and_self, true_implies, false_implies, implies_true, Px.e0, and_assoc, imp_false, not_false_eq_true, ne_eq, Px.rgcd, Px.rixl, Px.rixt, Px.v0, Px.v1, Px.v2, Px.v3, Px.v4, Px.v5, Px.v6, Px.v7, Px.v8, Px.v9, Px.v10, Px.v11, Px.v12, Px.v13, Px.v14, Px.v15, Px.v16, Px.v17, Px.v18, Px.v19, Px.v20, Px.v21, Px.v22, Px.v23, Px.c0, Px.asg, Px.gnm, Px.ret, Px.retN, Px.drop, Px.nxt, Px.brk, Px.cnt, Px.ifs, Px.op, Px.un, Px.tst, Px.tbl, Px.tand, Px.tor, Px.tnot, Px.andv, Px.orv, Px.notv, Px.tif, Px.tup, Px.lst, Px.nil, Px.cons, Px.cal, Px.calS, Px.cb, Px.par, Px.gsub, Px.bits, Px.bm, Px.bm0, Px.ri, Px.ri0, Px.ru, Px.req, Px.rne, Px.rix, Px.rlen, Px.rin, Px.rsetl, Px.risi, Px.tyH_n, Px.tyH_b, Px.tyH_i, Px.tyH_s, Px.tyH_r, Px.seqH_t, Px.seqH_l, Px.seqH_fl, Px.sc_ii, Px.sc_bb, Px.sc_ss, Px.atI0, Px.atI1, Px.atI2, Px.atI3, Px.atI4, Px.atI5, Px.atI6, Px.atI7, Px.kb_NoneType_int, Px.kb_NoneType_bool, Px.kb_NoneType_str, Px.kb_NoneType_list, Px.kb_NoneType_tuple, Px.kb_NoneType_dict, Px.kb_bool_int, Px.kb_bool_bool, Px.kb_bool_str, Px.kb_bool_list, Px.kb_bool_tuple, Px.kb_bool_dict, Px.kb_int_int, Px.kb_int_bool, Px.kb_int_str, Px.kb_int_list, Px.kb_int_tuple, Px.kb_int_dict, Px.kb_str_int, Px.kb_str_bool, Px.kb_str_str, Px.kb_str_list, Px.kb_str_tuple, Px.kb_str_dict, Px.kb_list_int, Px.kb_list_bool, Px.kb_list_str, Px.kb_list_list, Px.kb_list_tuple, Px.kb_list_dict, Px.kb_tuple_int, Px.kb_tuple_bool, Px.kb_tuple_str, Px.kb_tuple_list, Px.kb_tuple_tuple, Px.kb_tuple_dict, Px.kb_dict_int, Px.kb_dict_bool, Px.kb_dict_str, Px.kb_dict_list, Px.kb_dict_tuple, Px.kb_dict_dict, L2.upd_same, Px.updI, L2.ixN, List.set_cons_zero, List.set_cons_succ, List.length_cons, List.length_nil, Nat.reduceAdd, Nat.zero_add, L2.HO.lst.injEq, L2.HO.tup.injEq, L2.upd_upd, L2.V.int.injEq, L2.V.ref.injEq, L2.V.bl.injEq, L2.V.str.injEq, L2.V.ty.injEq, List.cons.injEq, and_true, true_and, and_false, false_and, or_false, false_or, exists_eq_left', exists_eq_left, exists_and_left, exists_const, exists_false, Option.some.injEq, decide_eq_true_eq, List.append_nil, List.cons_append, List.nil_append, Option.isSome_some, Bool.not_true, Bool.not_false, Bool.not_eq_true', Bool.not_eq_true, Bool.false_eq_true, decide_eq_false_iff_not, if_true, if_false, ite_true, ite_false, Int.reduceLE, Int.reduceLT, Int.reduceToNat, Int.cast_ofNat_Int, Bool.true_eq_false, eq_self, ↓reduceIte, reduceCtorEq, Px.aug, Px.ipi, Px.tri, Px.rcatth, Px.rixs, Px.rsls, Px.tm1, Px.glst, Px.nstr, Px.txI, Px.txC, Px.txL, Px.txA, Px.rsgn, Px.txf, Px.tost, Px.tmko, Px.risxd, *, str_wt, l_s]
  refine ⟨line_ok (show _ ≤ 10000 by omega), line_ok (show _ ≤ 10000 by rw [List.length_append, List.length_singleton]; omega), ?_⟩
  have ea : wt p ++ [47] ++ wt q = wt p ++ 47 :: wt q := by rw [List.append_assoc]; rfl
  rw [ea]
  generalize ew : wt p ++ 47 :: wt q = a at *
  refine go_seq ?_
  simp only [decide_true, decide_false, List.map_cons, List.map_nil, Option.map_none, Option.map_some, Option.getD_none, Option.getD_some, Px.dg2, Px.dg1, Px.dg, Px.din, Px.dnotin, Px.dnew, Px.dput, Px.isD_is, Px.dget_i, Px.dget_s, Px.dput_i, Px.dput_s, Px.dOf_d, Px.rtup, Px.rlist, Px.rsl, Px.rsort, Px.rcat, Px.rapp, Px.rrev, Px.sl_ap, Px.nop, Px.part, Px.yes, Px.tyl, Px.isL_l, Px.isT_t, Px.isL_t, Px.isT_l, Px.isD_d, Px.isT_d, Px.inV_ints, Px.flat_ints, Px.flatV_i, Px.wipe_cons, Px.wipe_nil, Px.gtup, Px.gcons, Px.gnil, gt_iff_lt, ge_iff_le, Px.we, Px.wonly, Px.was, Px.cxK, not_true_eq_false, and_self, true_implies, false_implies, implies_true, Px.e0, and_assoc, imp_false, not_false_eq_true, ne_eq, Px.rgcd, Px.rixl, Px.rixt, Px.v0, Px.v1, Px.v2, Px.v3, Px.v4, Px.v5, Px.v6, Px.v7, Px.v8, Px.v9, Px.v10, Px.v11, Px.v12, Px.v13, Px.v14, Px.v15, Px.v16, Px.v17, Px.v18, Px.v19, Px.v20, Px.v21, Px.v22, Px.v23, Px.c0, Px.asg, Px.gnm, Px.ret, Px.retN, Px.drop, Px.nxt, Px.brk, Px.cnt, Px.ifs, Px.op, Px.un, Px.tst, Px.tbl, Px.tand, Px.tor, Px.tnot, Px.andv, Px.orv, Px.notv, Px.tif, Px.tup, Px.lst, Px.nil, Px.cons, Px.cal, Px.calS, Px.cb, Px.par, Px.gsub, Px.bits, Px.bm, Px.bm0, Px.ri, Px.ri0, Px.ru, Px.req, Px.rne, Px.rix, Px.rlen, Px.rin, Px.rsetl, Px.risi, Px.tyH_n, Px.tyH_b, Px.tyH_i, Px.tyH_s, Px.tyH_r, Px.seqH_t, Px.seqH_l, Px.seqH_fl, Px.sc_ii, Px.sc_bb, Px.sc_ss, Px.atI0, Px.atI1, Px.atI2, Px.atI3, Px.atI4, Px.atI5, Px.atI6, Px.atI7, Px.kb_NoneType_int, Px.kb_NoneType_bool, Px.kb_NoneType_str, Px.kb_NoneType_list, Px.kb_NoneType_tuple, Px.kb_NoneType_dict, Px.kb_bool_int, Px.kb_bool_bool, Px.kb_bool_str, Px.kb_bool_list, Px.kb_bool_tuple, Px.kb_bool_dict, Px.kb_int_int, Px.kb_int_bool, Px.kb_int_str, Px.kb_int_list, Px.kb_int_tuple, Px.kb_int_dict, Px.kb_str_int, Px.kb_str_bool, Px.kb_str_str, Px.kb_str_list, Px.kb_str_tuple, Px.kb_str_dict, Px.kb_list_int, Px.kb_list_bool, Px.kb_list_str, Px.kb_list_list, Px.kb_list_tuple, Px.kb_list_dict, Px.kb_tuple_int, Px.kb_tuple_bool, Px.kb_tuple_str, Px.kb_tuple_list, Px.kb_tuple_tuple, Px.kb_tuple_dict, Px.kb_dict_int, Px.kb_dict_bool, Px.kb_dict_str, Px.kb_dict_list, Px.kb_dict_tuple, Px.kb_dict_dict, L2.upd_same, Px.updI, L2.ixN, List.set_cons_zero, List.set_cons_succ, List.length_cons, List.length_nil, Nat.reduceAdd, Nat.zero_add, L2.HO.lst.injEq, L2.HO.tup.injEq, L2.upd_upd, L2.V.int.injEq, L2.V.ref.injEq, L2.V.bl.injEq, L2.V.str.injEq, L2.V.ty.injEq, List.cons.injEq, and_true, true_and, and_false, false_and, or_false, false_or, exists_eq_left', exists_eq_left, exists_and_left, exists_const, exists_false, Option.some.injEq, decide_eq_true_eq, List.append_nil, List.cons_append, List.nil_append, Option.isSome_some, Bool.not_true, Bool.not_false, Bool.not_eq_true', Bool.not_eq_true, Bool.false_eq_true, decide_eq_false_iff_not, if_true, if_false, ite_true, ite_false, Int.reduceLE, Int.reduceLT, Int.reduceToNat, Int.cast_ofNat_Int, Bool.true_eq_false, eq_self, ↓reduceIte, reduceCtorEq, Px.aug, Px.ipi, Px.tri, Px.rcatth, Px.rixs, Px.rsls, Px.tm1, Px.glst, Px.nstr, Px.txI, Px.txC, Px.txL, Px.txA, Px.rsgn, Px.txf, Px.tost, Px.tmko, Px.risxd]
  refine ⟨c, p, q, rfl, hc, b1, b2, ?_⟩
  rw [ew]
  refine go_seq ?_
  simp only [decide_true, decide_false, List.map_cons, List.map_nil, Option.map_none, Option.map_some, Option.getD_none, Option.getD_some, Px.dg2, Px.dg1, Px.dg, Px.din, Px.dnotin, Px.dnew, Px.dput, Px.isD_is, Px.dget_i, Px.dget_s, Px.dput_i, Px.dput_s, Px.dOf_d, Px.rtup, Px.rlist, Px.rsl, Px.rsort, Px.rcat, Px.rapp, Px.rrev, Px.sl_ap, Px.nop, Px.part, Px.yes, Px.tyl, Px.isL_l, Px.isT_t, Px.isL_t, Px.isT_l, Px.isD_d, Px.isT_d, Px.inV_ints, Px.flat_ints, Px.flatV_i, Px.wipe_cons, Px.wipe_nil, Px.gtup, Px.gcons, Px.gnil, gt_iff_lt, ge_iff_le, Px.we, Px.wonly, Px.was, Px.cxK, not_true_eq_false, and_self, true_implies, false_implies, implies_true, Px.e0, and_assoc, imp_false, not_false_eq_true, ne_eq, Px.rgcd, Px.rixl, Px.rixt, Px.v0, Px.v1, Px.v2, Px.v3, Px.v4, Px.v5, Px.v6, Px.v7, Px.v8, Px.v9, Px.v10, Px.v11, Px.v12, Px.v13, Px.v14, Px.v15, Px.v16, Px.v17, Px.v18, Px.v19, Px.v20, Px.v21, Px.v22, Px.v23, Px.c0, Px.asg, Px.gnm, Px.ret, Px.retN, Px.drop, Px.nxt, Px.brk, Px.cnt, Px.ifs, Px.op, Px.un, Px.tst, Px.tbl, Px.tand, Px.tor, Px.tnot, Px.andv, Px.orv, Px.notv, Px.tif, Px.tup, Px.lst, Px.nil, Px.cons, Px.cal, Px.calS, Px.cb, Px.par, Px.gsub, Px.bits, Px.bm, Px.bm0, Px.ri, Px.ri0, Px.ru, Px.req, Px.rne, Px.rix, Px.rlen, Px.rin, Px.rsetl, Px.risi, Px.tyH_n, Px.tyH_b, Px.tyH_i, Px.tyH_s, Px.tyH_r, Px.seqH_t, Px.seqH_l, Px.seqH_fl, Px.sc_ii, Px.sc_bb, Px.sc_ss, Px.atI0, Px.atI1, Px.atI2, Px.atI3, Px.atI4, Px.atI5, Px.atI6, Px.atI7, Px.kb_NoneType_int, Px.kb_NoneType_bool, Px.kb_NoneType_str, Px.kb_NoneType_list, Px.kb_NoneType_tuple, Px.kb_NoneType_dict, Px.kb_bool_int, Px.kb_bool_bool, Px.kb_bool_str, Px.kb_bool_list, Px.kb_bool_tuple, Px.kb_bool_dict, Px.kb_int_int, Px.kb_int_bool, Px.kb_int_str, Px.kb_int_list, Px.kb_int_tuple, Px.kb_int_dict, Px.kb_str_int, Px.kb_str_bool, Px.kb_str_str, Px.kb_str_list, Px.kb_str_tuple, Px.kb_str_dict, Px.kb_list_int, Px.kb_list_bool, Px.kb_list_str, Px.kb_list_list, Px.kb_list_tuple, Px.kb_list_dict, Px.kb_tuple_int, Px.kb_tuple_bool, Px.kb_tuple_str, Px.kb_tuple_list, Px.kb_tuple_tuple, Px.kb_tuple_dict, Px.kb_dict_int, Px.kb_dict_bool, Px.kb_dict_str, Px.kb_dict_list, Px.kb_dict_tuple, Px.kb_dict_dict, L2.upd_same, Px.updI, L2.ixN, List.set_cons_zero, List.set_cons_succ, List.length_cons, List.length_nil, Nat.reduceAdd, Nat.zero_add, L2.HO.lst.injEq, L2.HO.tup.injEq, L2.upd_upd, L2.V.int.injEq, L2.V.ref.injEq, L2.V.bl.injEq, L2.V.str.injEq, L2.V.ty.injEq, List.cons.injEq, and_true, true_and, and_false, false_and, or_false, false_or, exists_eq_left', exists_eq_left, exists_and_left, exists_const, exists_false, Option.some.injEq, decide_eq_true_eq, List.append_nil, List.cons_append, List.nil_append, Option.isSome_some, Bool.not_true, Bool.not_false, Bool.not_eq_true', Bool.not_eq_true, Bool.false_eq_true, decide_eq_false_iff_not, if_true, if_false, ite_true, ite_false, Int.reduceLE, Int.reduceLT, Int.reduceToNat, Int.cast_ofNat_Int, Bool.true_eq_false, eq_self, ↓reduceIte, reduceCtorEq, Px.aug, Px.ipi, Px.tri, Px.rcatth, Px.rixs, Px.rsls, Px.tm1, Px.glst, Px.nstr, Px.txI, Px.txC, Px.txL, Px.txA, Px.rsgn, Px.txf, Px.tost, Px.tmko, Px.risxd, *, spRatW]
  intro H1 e1
  have hc1 := e1.get hc
  simp only [decide_true, decide_false, List.map_cons, List.map_nil, Option.map_none, Option.map_some, Option.getD_none, Option.getD_some, Px.dg2, Px.dg1, Px.dg, Px.din, Px.dnotin, Px.dnew, Px.dput, Px.isD_is, Px.dget_i, Px.dget_s, Px.dput_i, Px.dput_s, Px.dOf_d, Px.rtup, Px.rlist, Px.rsl, Px.rsort, Px.rcat, Px.rapp, Px.rrev, Px.sl_ap, Px.nop, Px.part, Px.yes, Px.tyl, Px.isL_l, Px.isT_t, Px.isL_t, Px.isT_l, Px.isD_d, Px.isT_d, Px.inV_ints, Px.flat_ints, Px.flatV_i, Px.wipe_cons, Px.wipe_nil, Px.gtup, Px.gcons, Px.gnil, gt_iff_lt, ge_iff_le, Px.we, Px.wonly, Px.was, Px.cxK, not_true_eq_false, and_self, true_implies, false_implies, implies_true, Px.e0, and_assoc, imp_false, not_false_eq_true, ne_eq, Px.rgcd, Px.rixl, Px.rixt, Px.v0, Px.v1, Px.v2, Px.v3, Px.v4, Px.v5, Px.v6, Px.v7, Px.v8, Px.v9, Px.v10, Px.v11, Px.v12, Px.v13, Px.v14, Px.v15, Px.v16, Px.v17, Px.v18, Px.v19, Px.v20, Px.v21, Px.v22, Px.v23, Px.c0, Px.asg, Px.gnm, Px.ret, Px.retN, Px.drop, Px.nxt, Px.brk, Px.cnt, Px.ifs, Px.op, Px.un, Px.tst, Px.tbl, Px.tand, Px.tor, Px.tnot, Px.andv, Px.orv, Px.notv, Px.tif, Px.tup, Px.lst, Px.nil, Px.cons, Px.cal, Px.calS, Px.cb, Px.par, Px.gsub, Px.bits, Px.bm, Px.bm0, Px.ri, Px.ri0, Px.ru, Px.req, Px.rne, Px.rix, Px.rlen, Px.rin, Px.rsetl, Px.risi, Px.tyH_n, Px.tyH_b, Px.tyH_i, Px.tyH_s, Px.tyH_r, Px.seqH_t, Px.seqH_l, Px.seqH_fl, Px.sc_ii, Px.sc_bb, Px.sc_ss, Px.atI0, Px.atI1, Px.atI2, Px.atI3, Px.atI4, Px.atI5, Px.atI6, Px.atI7, Px.kb_NoneType_int, Px.kb_NoneType_bool, Px.kb_NoneType_str, Px.kb_NoneType_list, Px.kb_NoneType_tuple, Px.kb_NoneType_dict, Px.kb_bool_int, Px.kb_bool_bool, Px.kb_bool_str, Px.kb_bool_list, Px.kb_bool_tuple, Px.kb_bool_dict, Px.kb_int_int, Px.kb_int_bool, Px.kb_int_str, Px.kb_int_list, Px.kb_int_tuple, Px.kb_int_dict, Px.kb_str_int, Px.kb_str_bool, Px.kb_str_str, Px.kb_str_list, Px.kb_str_tuple, Px.kb_str_dict, Px.kb_list_int, Px.kb_list_bool, Px.kb_list_str, Px.kb_list_list, Px.kb_list_tuple, Px.kb_list_dict, Px.kb_tuple_int, Px.kb_tuple_bool, Px.kb_tuple_str, Px.kb_tuple_list, Px.kb_tuple_tuple, Px.kb_tuple_dict, Px.kb_dict_int, Px.kb_dict_bool, Px.kb_dict_str, Px.kb_dict_list, Px.kb_dict_tuple, Px.kb_dict_dict, L2.upd_same, Px.updI, L2.ixN, List.set_cons_zero, List.set_cons_succ, List.length_cons, List.length_nil, Nat.reduceAdd, Nat.zero_add, L2.HO.lst.injEq, L2.HO.tup.injEq, L2.upd_upd, L2.V.int.injEq, L2.V.ref.injEq, L2.V.bl.injEq, L2.V.str.injEq, L2.V.ty.injEq, List.cons.injEq, and_true, true_and, and_false, false_and, or_false, false_or, exists_eq_left', exists_eq_left, exists_and_left, exists_const, exists_false, Option.some.injEq, decide_eq_true_eq, List.append_nil, List.cons_append, List.nil_append, Option.isSome_some, Bool.not_true, Bool.not_false, Bool.not_eq_true', Bool.not_eq_true, Bool.false_eq_true, decide_eq_false_iff_not, if_true, if_false, ite_true, ite_false, Int.reduceLE, Int.reduceLT, Int.reduceToNat, Int.cast_ofNat_Int, Bool.true_eq_false, eq_self, ↓reduceIte, reduceCtorEq, Px.aug, Px.ipi, Px.tri, Px.rcatth, Px.rixs, Px.rsls, Px.tm1, Px.glst, Px.nstr, Px.txI, Px.txC, Px.txL, Px.txA, Px.rsgn, Px.txf, Px.tost, Px.tmko, Px.risxd, *, spParse]
  intro d H2 e2 hd
  have hc2 := e2.get hc1
  refine ⟨_, by rw [hc2]; rfl, _, atI0, _, by rw [hc2]; rfl, _, atI1, ?_⟩
  exact is_ok hd (show q ≠ 0 by have := hr'.1; omega) m1 m2 fun H3 e3 => k H3 ((e1.trans e2).trans e3)
def spLaw (K : PySem.W.Frag) (vs : List V) (H : Hp) (Q : VK) (_ : XK) : Prop := ∃ (a : Addr) (ns : List Int), vs = [.ref a] ∧ SqL K H a (ns.map V.int) ∧ ns.length ≤ 63 ∧ ∀ H', Q (.bl true) H'
def ILw (a : Addr) (H : Hp) (i : Nat) (σ' : L2.St) (H' : Hp) : Prop := ∃ (v1 v2 v3 v4 v5 v6 : Option V), σ' = [some (.ref a), v1, v2, v3, v4, v5, v6] ∧ Px.Ext H H'
theorem ok_law (B : Bn mg) {f : Addr} {fd : FuncData} (F : Fun K "law" "law" s_law f fd) (D_law_pool : Def P w K mg base CX0 1 "_law_pool" ["script", "k"] (spPool K)) (D_law_take : Def P w K mg base CX0 1 "_law_take" ["pool", "size"] spTake) (D_law_text : Def P w K mg base CX0 4 "_law_text" ["pool"] (spZ 201))
    (D_law_sized : Def P w K mg base CX0 2 "_law_sized" ["pool", "pieces"] spSized) (D_law_lowest : Def P w K mg base CX0 1 "_law_lowest" ["p", "q"] spLowest) (D_law_asked : Def P w K mg base CX0 6 "_law_asked" ["text", "how"] spAsked) (D_law_written : Def P w K mg base CX0 5 "_law_written" ["pair"] spWritten) : FnOk P w K mg base CX0 7 f fd ["script"] (spLaw K) := by
  refine F.ok sc_law (fun vs H Q E h => by obtain ⟨p, n, rfl, _⟩ := h; rfl) (fun cdv A outer s H vs Q E hr h => ?_)
  obtain ⟨a, ns, rfl, hS, hl, k⟩ := h
  refine ⟨_, pss_cons (ps_for PassesOwn.never rfl (pi_range1 rfl B.range (pa_cons (pe_callB (call_max2 rfl) rfl B.max_ (by decide +kernel) (pa_cons pe_int (pa_cons (pe_callB (call_min2 rfl) rfl B.min_ (by decide +kernel) (pa_cons pe_int (pa_cons (pe_callB call_len_seq rfl B.len (by decide +kernel) (pa_cons (pv 0) pa_nil)) pa_nil))) pa_nil))) pa_nil)) (pg_name (i := 1) sc_law.nd rfl (Or.inl rfl)) (
  pss_cons (ps_set (i := 2) sc_law.nd rfl (Or.inl rfl) (pe_fn D_law_pool (hr.mono (by decide)) pass0 (pa_cons (pv 0) (pa_cons (pv 1) pa_nil)))) (
  pss_cons (ps_set (i := 3) sc_law.nd rfl (Or.inl rfl) (pe_fn D_law_text (hr.mono (by decide)) pass0 (pa_cons (pv 2) pa_nil))) (
  pss_cons (ps_set (i := 4) sc_law.nd rfl (Or.inl rfl) (pe_fn D_law_take (hr.mono (by decide)) pass0 (pa_cons (pv 2) (pa_cons pe_int pa_nil)))) (
  pss_cons (ps_set (i := 5) sc_law.nd rfl (Or.inl rfl) (pe_fn D_law_sized (hr.mono (by decide)) pass0 (pa_cons (pv 2) (pa_cons pe_int pa_nil)))) (
  pss_cons (ps_set (i := 6) sc_law.nd rfl (Or.inl rfl) (pe_fn D_law_lowest (hr.mono (by decide)) pass0 (pa_cons (pv 5) (pa_cons (pe_callB (call_max2 rfl) rfl B.max_ (by decide +kernel) (pa_cons pe_int (pa_cons (pe_callB call_abs rfl B.abs (by decide +kernel) (pa_cons (pe_fn D_law_sized (hr.mono (by decide)) pass0 (pa_cons (pv 2) (pa_cons pe_int pa_nil))) pa_nil)) pa_nil))) pa_nil)))) (
  pss_one (ps_if (PW.pt (pw_or (pt_not (pt_val (pe_fn D_law_asked hr pass0 (pa_cons (pv 3) (pa_cons (pv 4) pa_nil))))) (pw_or (pt_not (pt_val (pe_fn D_law_written (hr.mono (by decide)) pass0 (pa_cons (pv 6) pa_nil)))) (pw_or1 (pt_not (pt_val (pe_fn D_law_asked hr pass0 (pa_cons (pv 3) (pa_cons (pe_op op_sub pe_int (pv 4)) pa_nil))))))))) (pss_one (ps_ret pe_bl)) (pss_nil))))))))) (
  pss_one (ps_ret pe_bl)), ?_⟩
  show tSeq _ _ _ [some (.ref a), none, none, none, none, none, none] H
  refine go_seq ?_
  obtain ⟨n, en, hn⟩ : ∃ n : Int, (if 2 < (if (ns.length : Int) < 8 then (ns.length : Int) else 8) then (if (ns.length : Int) < 8 then (ns.length : Int) else 8) else 2) = n ∧ (2 ≤ n ∧ n ≤ 8) := ⟨_, rfl, by split <;> (try split) <;> omega, by split <;> (try split) <;> omega⟩
  refine for_r1 (ILw a H) n ?_ ⟨by omega, by omega⟩ ⟨_, _, _, _, _, _, rfl, Px.Ext.rfl' H⟩ ?_ ?_
  · intro R hR
    simp only [decide_true, decide_false, List.map_cons, List.map_nil, Option.map_none, Option.map_some, Option.getD_none, Option.getD_some, Px.dg2, Px.dg1, Px.dg, Px.din, Px.dnotin, Px.dnew, Px.dput, Px.isD_is, Px.dget_i, Px.dget_s, Px.dput_i, Px.dput_s, Px.dOf_d, Px.rtup, Px.rlist, Px.rsl, Px.rsort, Px.rcat, Px.rapp, Px.rrev, Px.sl_ap, Px.nop, Px.part, Px.yes, Px.tyl, Px.isL_l, Px.isT_t, Px.isL_t, Px.isT_l, Px.isD_d, Px.isT_d, Px.inV_ints, Px.flat_ints, Px.flatV_i, Px.wipe_cons, Px.wipe_nil, Px.gtup, Px.gcons, Px.gnil, gt_iff_lt, ge_iff_le, Px.we, Px.wonly, Px.was, Px.cxK, not_true_eq_false, and_self, true_implies, false_implies, implies_true, Px.e0, and_assoc, imp_false, not_false_eq_true, ne_eq, Px.rgcd, Px.rixl, Px.rixt, Px.v0, Px.v1, Px.v2, Px.v3, Px.v4, Px.v5, Px.v6, Px.v7, Px.v8, Px.v9, Px.v10, Px.v11, Px.v12, Px.v13, Px.v14, Px.v15, Px.v16, Px.v17, Px.v18, Px.v19, Px.v20, Px.v21, Px.v22, Px.v23, Px.c0, Px.asg, Px.gnm, Px.ret, Px.retN, Px.drop, Px.nxt, Px.brk, Px.cnt, Px.ifs, Px.op, Px.un, Px.tst, Px.tbl, Px.tand, Px.tor, Px.tnot, Px.andv, Px.orv, Px.notv, Px.tif, Px.tup, Px.lst, Px.nil, Px.cons, Px.cal, Px.calS, Px.cb, Px.par, Px.gsub, Px.bits, Px.bm, Px.bm0, Px.ri, Px.ri0, Px.ru, Px.req, Px.rne, Px.rix, Px.rlen, Px.rin, Px.rsetl, Px.risi, Px.tyH_n, Px.tyH_b, Px.tyH_i, Px.tyH_s, Px.tyH_r, Px.seqH_t, Px.seqH_l, Px.seqH_fl, Px.sc_ii, Px.sc_bb, Px.sc_ss, Px.atI0, Px.atI1, Px.atI2, Px.atI3, Px.atI4, Px.atI5, Px.atI6, Px.atI7, Px.kb_NoneType_int, Px.kb_NoneType_bool, Px.kb_NoneType_str, Px.kb_NoneType_list, Px.kb_NoneType_tuple, Px.kb_NoneType_dict, Px.kb_bool_int, Px.kb_bool_bool, Px.kb_bool_str, Px.kb_bool_list, Px.kb_bool_tuple, Px.kb_bool_dict, Px.kb_int_int, Px.kb_int_bool, Px.kb_int_str, Px.kb_int_list, Px.kb_int_tuple, Px.kb_int_dict, Px.kb_str_int, Px.kb_str_bool, Px.kb_str_str, Px.kb_str_list, Px.kb_str_tuple, Px.kb_str_dict, Px.kb_list_int, Px.kb_list_bool, Px.kb_list_str, Px.kb_list_list, Px.kb_list_tuple, Px.kb_list_dict, Px.kb_tuple_int, Px.kb_tuple_bool, Px.kb_tuple_str, Px.kb_tuple_list, Px.kb_tuple_tuple, Px.kb_tuple_dict, Px.kb_dict_int, Px.kb_dict_bool, Px.kb_dict_str, Px.kb_dict_list, Px.kb_dict_tuple, Px.kb_dict_dict, L2.upd_same, Px.updI, L2.ixN, List.set_cons_zero, List.set_cons_succ, List.length_cons, List.length_nil, Nat.reduceAdd, Nat.zero_add, L2.HO.lst.injEq, L2.HO.tup.injEq, L2.upd_upd, L2.V.int.injEq, L2.V.ref.injEq, L2.V.bl.injEq, L2.V.str.injEq, L2.V.ty.injEq, List.cons.injEq, and_true, true_and, and_false, false_and, or_false, false_or, exists_eq_left', exists_eq_left, exists_and_left, exists_const, exists_false, Option.some.injEq, decide_eq_true_eq, List.append_nil, List.cons_append, List.nil_append, Option.isSome_some, Bool.not_true, Bool.not_false, Bool.not_eq_true', Bool.not_eq_true, Bool.false_eq_true, decide_eq_false_iff_not, if_true, if_false, ite_true, ite_false, Int.reduceLE, Int.reduceLT, Int.reduceToNat, Int.cast_ofNat_Int, Bool.true_eq_false, eq_self, ↓reduceIte, reduceCtorEq, Px.aug, Px.ipi, Px.tri, Px.rcatth, Px.rixs, Px.rsls, Px.tm1, Px.glst, Px.nstr, Px.txI, Px.txC, Px.txL, Px.txA, Px.rsgn, Px.txf, Px.tost, Px.tmko, Px.risxd, *]
    refine ⟨ns.map V.int, .inl hS, ?_⟩
    rw [List.length_map]
    simp only [decide_true, decide_false, List.map_cons, List.map_nil, Option.map_none, Option.map_some, Option.getD_none, Option.getD_some, Px.dg2, Px.dg1, Px.dg, Px.din, Px.dnotin, Px.dnew, Px.dput, Px.isD_is, Px.dget_i, Px.dget_s, Px.dput_i, Px.dput_s, Px.dOf_d, Px.rtup, Px.rlist, Px.rsl, Px.rsort, Px.rcat, Px.rapp, Px.rrev, Px.sl_ap, Px.nop, Px.part, Px.yes, Px.tyl, Px.isL_l, Px.isT_t, Px.isL_t, Px.isT_l, Px.isD_d, Px.isT_d, Px.inV_ints, Px.flat_ints, Px.flatV_i, Px.wipe_cons, Px.wipe_nil, Px.gtup, Px.gcons, Px.gnil, gt_iff_lt, ge_iff_le, Px.we, Px.wonly, Px.was, Px.cxK, not_true_eq_false, and_self, true_implies, false_implies, implies_true, Px.e0, and_assoc, imp_false, not_false_eq_true, ne_eq, Px.rgcd, Px.rixl, Px.rixt, Px.v0, Px.v1, Px.v2, Px.v3, Px.v4, Px.v5, Px.v6, Px.v7, Px.v8, Px.v9, Px.v10, Px.v11, Px.v12, Px.v13, Px.v14, Px.v15, Px.v16, Px.v17, Px.v18, Px.v19, Px.v20, Px.v21, Px.v22, Px.v23, Px.c0, Px.asg, Px.gnm, Px.ret, Px.retN, Px.drop, Px.nxt, Px.brk, Px.cnt, Px.ifs, Px.op, Px.un, Px.tst, Px.tbl, Px.tand, Px.tor, Px.tnot, Px.andv, Px.orv, Px.notv, Px.tif, Px.tup, Px.lst, Px.nil, Px.cons, Px.cal, Px.calS, Px.cb, Px.par, Px.gsub, Px.bits, Px.bm, Px.bm0, Px.ri, Px.ri0, Px.ru, Px.req, Px.rne, Px.rix, Px.rlen, Px.rin, Px.rsetl, Px.risi, Px.tyH_n, Px.tyH_b, Px.tyH_i, Px.tyH_s, Px.tyH_r, Px.seqH_t, Px.seqH_l, Px.seqH_fl, Px.sc_ii, Px.sc_bb, Px.sc_ss, Px.atI0, Px.atI1, Px.atI2, Px.atI3, Px.atI4, Px.atI5, Px.atI6, Px.atI7, Px.kb_NoneType_int, Px.kb_NoneType_bool, Px.kb_NoneType_str, Px.kb_NoneType_list, Px.kb_NoneType_tuple, Px.kb_NoneType_dict, Px.kb_bool_int, Px.kb_bool_bool, Px.kb_bool_str, Px.kb_bool_list, Px.kb_bool_tuple, Px.kb_bool_dict, Px.kb_int_int, Px.kb_int_bool, Px.kb_int_str, Px.kb_int_list, Px.kb_int_tuple, Px.kb_int_dict, Px.kb_str_int, Px.kb_str_bool, Px.kb_str_str, Px.kb_str_list, Px.kb_str_tuple, Px.kb_str_dict, Px.kb_list_int, Px.kb_list_bool, Px.kb_list_str, Px.kb_list_list, Px.kb_list_tuple, Px.kb_list_dict, Px.kb_tuple_int, Px.kb_tuple_bool, Px.kb_tuple_str, Px.kb_tuple_list, Px.kb_tuple_tuple, Px.kb_tuple_dict, Px.kb_dict_int, Px.kb_dict_bool, Px.kb_dict_str, Px.kb_dict_list, Px.kb_dict_tuple, Px.kb_dict_dict, L2.upd_same, Px.updI, L2.ixN, List.set_cons_zero, List.set_cons_succ, List.length_cons, List.length_nil, Nat.reduceAdd, Nat.zero_add, L2.HO.lst.injEq, L2.HO.tup.injEq, L2.upd_upd, L2.V.int.injEq, L2.V.ref.injEq, L2.V.bl.injEq, L2.V.str.injEq, L2.V.ty.injEq, List.cons.injEq, and_true, true_and, and_false, false_and, or_false, false_or, exists_eq_left', exists_eq_left, exists_and_left, exists_const, exists_false, Option.some.injEq, decide_eq_true_eq, List.append_nil, List.cons_append, List.nil_append, Option.isSome_some, Bool.not_true, Bool.not_false, Bool.not_eq_true', Bool.not_eq_true, Bool.false_eq_true, decide_eq_false_iff_not, if_true, if_false, ite_true, ite_false, Int.reduceLE, Int.reduceLT, Int.reduceToNat, Int.cast_ofNat_Int, Bool.true_eq_false, eq_self, ↓reduceIte, reduceCtorEq, Px.aug, Px.ipi, Px.tri, Px.rcatth, Px.rixs, Px.rsls, Px.tm1, Px.glst, Px.nstr, Px.txI, Px.txC, Px.txL, Px.txA, Px.rsgn, Px.txf, Px.tost, Px.tmko, Px.risxd, *]
  · rintro i σ' H1 hi ⟨v1, v2, v3, v4, v5, v6, rfl, e1⟩
    have hS1 := SqLext e1 hS
    refine go_seq ?_
    simp only [decide_true, decide_false, List.map_cons, List.map_nil, Option.map_none, Option.map_some, Option.getD_none, Option.getD_some, Px.dg2, Px.dg1, Px.dg, Px.din, Px.dnotin, Px.dnew, Px.dput, Px.isD_is, Px.dget_i, Px.dget_s, Px.dput_i, Px.dput_s, Px.dOf_d, Px.rtup, Px.rlist, Px.rsl, Px.rsort, Px.rcat, Px.rapp, Px.rrev, Px.sl_ap, Px.nop, Px.part, Px.yes, Px.tyl, Px.isL_l, Px.isT_t, Px.isL_t, Px.isT_l, Px.isD_d, Px.isT_d, Px.inV_ints, Px.flat_ints, Px.flatV_i, Px.wipe_cons, Px.wipe_nil, Px.gtup, Px.gcons, Px.gnil, gt_iff_lt, ge_iff_le, Px.we, Px.wonly, Px.was, Px.cxK, not_true_eq_false, and_self, true_implies, false_implies, implies_true, Px.e0, and_assoc, imp_false, not_false_eq_true, ne_eq, Px.rgcd, Px.rixl, Px.rixt, Px.v0, Px.v1, Px.v2, Px.v3, Px.v4, Px.v5, Px.v6, Px.v7, Px.v8, Px.v9, Px.v10, Px.v11, Px.v12, Px.v13, Px.v14, Px.v15, Px.v16, Px.v17, Px.v18, Px.v19, Px.v20, Px.v21, Px.v22, Px.v23, Px.c0, Px.asg, Px.gnm, Px.ret, Px.retN, Px.drop, Px.nxt, Px.brk, Px.cnt, Px.ifs, Px.op, Px.un, Px.tst, Px.tbl, Px.tand, Px.tor, Px.tnot, Px.andv, Px.orv, Px.notv, Px.tif, Px.tup, Px.lst, Px.nil, Px.cons, Px.cal, Px.calS, Px.cb, Px.par, Px.gsub, Px.bits, Px.bm, Px.bm0, Px.ri, Px.ri0, Px.ru, Px.req, Px.rne, Px.rix, Px.rlen, Px.rin, Px.rsetl, Px.risi, Px.tyH_n, Px.tyH_b, Px.tyH_i, Px.tyH_s, Px.tyH_r, Px.seqH_t, Px.seqH_l, Px.seqH_fl, Px.sc_ii, Px.sc_bb, Px.sc_ss, Px.atI0, Px.atI1, Px.atI2, Px.atI3, Px.atI4, Px.atI5, Px.atI6, Px.atI7, Px.kb_NoneType_int, Px.kb_NoneType_bool, Px.kb_NoneType_str, Px.kb_NoneType_list, Px.kb_NoneType_tuple, Px.kb_NoneType_dict, Px.kb_bool_int, Px.kb_bool_bool, Px.kb_bool_str, Px.kb_bool_list, Px.kb_bool_tuple, Px.kb_bool_dict, Px.kb_int_int, Px.kb_int_bool, Px.kb_int_str, Px.kb_int_list, Px.kb_int_tuple, Px.kb_int_dict, Px.kb_str_int, Px.kb_str_bool, Px.kb_str_str, Px.kb_str_list, Px.kb_str_tuple, Px.kb_str_dict, Px.kb_list_int, Px.kb_list_bool, Px.kb_list_str, Px.kb_list_list, Px.kb_list_tuple, Px.kb_list_dict, Px.kb_tuple_int, Px.kb_tuple_bool, Px.kb_tuple_str, Px.kb_tuple_list, Px.kb_tuple_tuple, Px.kb_tuple_dict, Px.kb_dict_int, Px.kb_dict_bool, Px.kb_dict_str, Px.kb_dict_list, Px.kb_dict_tuple, Px.kb_dict_dict, L2.upd_same, Px.updI, L2.ixN, List.set_cons_zero, List.set_cons_succ, List.length_cons, List.length_nil, Nat.reduceAdd, Nat.zero_add, L2.HO.lst.injEq, L2.HO.tup.injEq, L2.upd_upd, L2.V.int.injEq, L2.V.ref.injEq, L2.V.bl.injEq, L2.V.str.injEq, L2.V.ty.injEq, List.cons.injEq, and_true, true_and, and_false, false_and, or_false, false_or, exists_eq_left', exists_eq_left, exists_and_left, exists_const, exists_false, Option.some.injEq, decide_eq_true_eq, List.append_nil, List.cons_append, List.nil_append, Option.isSome_some, Bool.not_true, Bool.not_false, Bool.not_eq_true', Bool.not_eq_true, Bool.false_eq_true, decide_eq_false_iff_not, if_true, if_false, ite_true, ite_false, Int.reduceLE, Int.reduceLT, Int.reduceToNat, Int.cast_ofNat_Int, Bool.true_eq_false, eq_self, ↓reduceIte, reduceCtorEq, Px.aug, Px.ipi, Px.tri, Px.rcatth, Px.rixs, Px.rsls, Px.tm1, Px.glst, Px.nstr, Px.txI, Px.txC, Px.txL, Px.txA, Px.rsgn, Px.txf, Px.tost, Px.tmko, Px.risxd, *, spPool]
    refine ⟨ns, i, rfl, hS1, by omega, fun p H2 np hp2 e2 => ?_⟩
    have e02 := e1.trans e2
    have npH := e1.no np
    refine go_seq ?_
    simp only [decide_true, decide_false, List.map_cons, List.map_nil, Option.map_none, Option.map_some, Option.getD_none, Option.getD_some, Px.dg2, Px.dg1, Px.dg, Px.din, Px.dnotin, Px.dnew, Px.dput, Px.isD_is, Px.dget_i, Px.dget_s, Px.dput_i, Px.dput_s, Px.dOf_d, Px.rtup, Px.rlist, Px.rsl, Px.rsort, Px.rcat, Px.rapp, Px.rrev, Px.sl_ap, Px.nop, Px.part, Px.yes, Px.tyl, Px.isL_l, Px.isT_t, Px.isL_t, Px.isT_l, Px.isD_d, Px.isT_d, Px.inV_ints, Px.flat_ints, Px.flatV_i, Px.wipe_cons, Px.wipe_nil, Px.gtup, Px.gcons, Px.gnil, gt_iff_lt, ge_iff_le, Px.we, Px.wonly, Px.was, Px.cxK, not_true_eq_false, and_self, true_implies, false_implies, implies_true, Px.e0, and_assoc, imp_false, not_false_eq_true, ne_eq, Px.rgcd, Px.rixl, Px.rixt, Px.v0, Px.v1, Px.v2, Px.v3, Px.v4, Px.v5, Px.v6, Px.v7, Px.v8, Px.v9, Px.v10, Px.v11, Px.v12, Px.v13, Px.v14, Px.v15, Px.v16, Px.v17, Px.v18, Px.v19, Px.v20, Px.v21, Px.v22, Px.v23, Px.c0, Px.asg, Px.gnm, Px.ret, Px.retN, Px.drop, Px.nxt, Px.brk, Px.cnt, Px.ifs, Px.op, Px.un, Px.tst, Px.tbl, Px.tand, Px.tor, Px.tnot, Px.andv, Px.orv, Px.notv, Px.tif, Px.tup, Px.lst, Px.nil, Px.cons, Px.cal, Px.calS, Px.cb, Px.par, Px.gsub, Px.bits, Px.bm, Px.bm0, Px.ri, Px.ri0, Px.ru, Px.req, Px.rne, Px.rix, Px.rlen, Px.rin, Px.rsetl, Px.risi, Px.tyH_n, Px.tyH_b, Px.tyH_i, Px.tyH_s, Px.tyH_r, Px.seqH_t, Px.seqH_l, Px.seqH_fl, Px.sc_ii, Px.sc_bb, Px.sc_ss, Px.atI0, Px.atI1, Px.atI2, Px.atI3, Px.atI4, Px.atI5, Px.atI6, Px.atI7, Px.kb_NoneType_int, Px.kb_NoneType_bool, Px.kb_NoneType_str, Px.kb_NoneType_list, Px.kb_NoneType_tuple, Px.kb_NoneType_dict, Px.kb_bool_int, Px.kb_bool_bool, Px.kb_bool_str, Px.kb_bool_list, Px.kb_bool_tuple, Px.kb_bool_dict, Px.kb_int_int, Px.kb_int_bool, Px.kb_int_str, Px.kb_int_list, Px.kb_int_tuple, Px.kb_int_dict, Px.kb_str_int, Px.kb_str_bool, Px.kb_str_str, Px.kb_str_list, Px.kb_str_tuple, Px.kb_str_dict, Px.kb_list_int, Px.kb_list_bool, Px.kb_list_str, Px.kb_list_list, Px.kb_list_tuple, Px.kb_list_dict, Px.kb_tuple_int, Px.kb_tuple_bool, Px.kb_tuple_str, Px.kb_tuple_list, Px.kb_tuple_tuple, Px.kb_tuple_dict, Px.kb_dict_int, Px.kb_dict_bool, Px.kb_dict_str, Px.kb_dict_list, Px.kb_dict_tuple, Px.kb_dict_dict, L2.upd_same, Px.updI, L2.ixN, List.set_cons_zero, List.set_cons_succ, List.length_cons, List.length_nil, Nat.reduceAdd, Nat.zero_add, L2.HO.lst.injEq, L2.HO.tup.injEq, L2.upd_upd, L2.V.int.injEq, L2.V.ref.injEq, L2.V.bl.injEq, L2.V.str.injEq, L2.V.ty.injEq, List.cons.injEq, and_true, true_and, and_false, false_and, or_false, false_or, exists_eq_left', exists_eq_left, exists_and_left, exists_const, exists_false, Option.some.injEq, decide_eq_true_eq, List.append_nil, List.cons_append, List.nil_append, Option.isSome_some, Bool.not_true, Bool.not_false, Bool.not_eq_true', Bool.not_eq_true, Bool.false_eq_true, decide_eq_false_iff_not, if_true, if_false, ite_true, ite_false, Int.reduceLE, Int.reduceLT, Int.reduceToNat, Int.cast_ofNat_Int, Bool.true_eq_false, eq_self, ↓reduceIte, reduceCtorEq, Px.aug, Px.ipi, Px.tri, Px.rcatth, Px.rixs, Px.rsls, Px.tm1, Px.glst, Px.nstr, Px.txI, Px.txC, Px.txL, Px.txA, Px.rsgn, Px.txf, Px.tost, Px.tmko, Px.risxd, *, spZ]
    intro z H3 hz hp3 b3
    obtain ⟨t, rfl⟩ : ∃ t, z = Tx t := ⟨_, z_tx z⟩
    rw [txL] at hz
    refine go_seq ?_
    simp only [decide_true, decide_false, List.map_cons, List.map_nil, Option.map_none, Option.map_some, Option.getD_none, Option.getD_some, Px.dg2, Px.dg1, Px.dg, Px.din, Px.dnotin, Px.dnew, Px.dput, Px.isD_is, Px.dget_i, Px.dget_s, Px.dput_i, Px.dput_s, Px.dOf_d, Px.rtup, Px.rlist, Px.rsl, Px.rsort, Px.rcat, Px.rapp, Px.rrev, Px.sl_ap, Px.nop, Px.part, Px.yes, Px.tyl, Px.isL_l, Px.isT_t, Px.isL_t, Px.isT_l, Px.isD_d, Px.isT_d, Px.inV_ints, Px.flat_ints, Px.flatV_i, Px.wipe_cons, Px.wipe_nil, Px.gtup, Px.gcons, Px.gnil, gt_iff_lt, ge_iff_le, Px.we, Px.wonly, Px.was, Px.cxK, not_true_eq_false, and_self, true_implies, false_implies, implies_true, Px.e0, and_assoc, imp_false, not_false_eq_true, ne_eq, Px.rgcd, Px.rixl, Px.rixt, Px.v0, Px.v1, Px.v2, Px.v3, Px.v4, Px.v5, Px.v6, Px.v7, Px.v8, Px.v9, Px.v10, Px.v11, Px.v12, Px.v13, Px.v14, Px.v15, Px.v16, Px.v17, Px.v18, Px.v19, Px.v20, Px.v21, Px.v22, Px.v23, Px.c0, Px.asg, Px.gnm, Px.ret, Px.retN, Px.drop, Px.nxt, Px.brk, Px.cnt, Px.ifs, Px.op, Px.un, Px.tst, Px.tbl, Px.tand, Px.tor, Px.tnot, Px.andv, Px.orv, Px.notv, Px.tif, Px.tup, Px.lst, Px.nil, Px.cons, Px.cal, Px.calS, Px.cb, Px.par, Px.gsub, Px.bits, Px.bm, Px.bm0, Px.ri, Px.ri0, Px.ru, Px.req, Px.rne, Px.rix, Px.rlen, Px.rin, Px.rsetl, Px.risi, Px.tyH_n, Px.tyH_b, Px.tyH_i, Px.tyH_s, Px.tyH_r, Px.seqH_t, Px.seqH_l, Px.seqH_fl, Px.sc_ii, Px.sc_bb, Px.sc_ss, Px.atI0, Px.atI1, Px.atI2, Px.atI3, Px.atI4, Px.atI5, Px.atI6, Px.atI7, Px.kb_NoneType_int, Px.kb_NoneType_bool, Px.kb_NoneType_str, Px.kb_NoneType_list, Px.kb_NoneType_tuple, Px.kb_NoneType_dict, Px.kb_bool_int, Px.kb_bool_bool, Px.kb_bool_str, Px.kb_bool_list, Px.kb_bool_tuple, Px.kb_bool_dict, Px.kb_int_int, Px.kb_int_bool, Px.kb_int_str, Px.kb_int_list, Px.kb_int_tuple, Px.kb_int_dict, Px.kb_str_int, Px.kb_str_bool, Px.kb_str_str, Px.kb_str_list, Px.kb_str_tuple, Px.kb_str_dict, Px.kb_list_int, Px.kb_list_bool, Px.kb_list_str, Px.kb_list_list, Px.kb_list_tuple, Px.kb_list_dict, Px.kb_tuple_int, Px.kb_tuple_bool, Px.kb_tuple_str, Px.kb_tuple_list, Px.kb_tuple_tuple, Px.kb_tuple_dict, Px.kb_dict_int, Px.kb_dict_bool, Px.kb_dict_str, Px.kb_dict_list, Px.kb_dict_tuple, Px.kb_dict_dict, L2.upd_same, Px.updI, L2.ixN, List.set_cons_zero, List.set_cons_succ, List.length_cons, List.length_nil, Nat.reduceAdd, Nat.zero_add, L2.HO.lst.injEq, L2.HO.tup.injEq, L2.upd_upd, L2.V.int.injEq, L2.V.ref.injEq, L2.V.bl.injEq, L2.V.str.injEq, L2.V.ty.injEq, List.cons.injEq, and_true, true_and, and_false, false_and, or_false, false_or, exists_eq_left', exists_eq_left, exists_and_left, exists_const, exists_false, Option.some.injEq, decide_eq_true_eq, List.append_nil, List.cons_append, List.nil_append, Option.isSome_some, Bool.not_true, Bool.not_false, Bool.not_eq_true', Bool.not_eq_true, Bool.false_eq_true, decide_eq_false_iff_not, if_true, if_false, ite_true, ite_false, Int.reduceLE, Int.reduceLT, Int.reduceToNat, Int.cast_ofNat_Int, Bool.true_eq_false, eq_self, ↓reduceIte, reduceCtorEq, Px.aug, Px.ipi, Px.tri, Px.rcatth, Px.rixs, Px.rsls, Px.tm1, Px.glst, Px.nstr, Px.txI, Px.txC, Px.txL, Px.txA, Px.rsgn, Px.txf, Px.tost, Px.tmko, Px.risxd, *, spTake]
    intro how H4 _ _ hp4 b4 _
    refine go_seq ?_
    simp only [decide_true, decide_false, List.map_cons, List.map_nil, Option.map_none, Option.map_some, Option.getD_none, Option.getD_some, Px.dg2, Px.dg1, Px.dg, Px.din, Px.dnotin, Px.dnew, Px.dput, Px.isD_is, Px.dget_i, Px.dget_s, Px.dput_i, Px.dput_s, Px.dOf_d, Px.rtup, Px.rlist, Px.rsl, Px.rsort, Px.rcat, Px.rapp, Px.rrev, Px.sl_ap, Px.nop, Px.part, Px.yes, Px.tyl, Px.isL_l, Px.isT_t, Px.isL_t, Px.isT_l, Px.isD_d, Px.isT_d, Px.inV_ints, Px.flat_ints, Px.flatV_i, Px.wipe_cons, Px.wipe_nil, Px.gtup, Px.gcons, Px.gnil, gt_iff_lt, ge_iff_le, Px.we, Px.wonly, Px.was, Px.cxK, not_true_eq_false, and_self, true_implies, false_implies, implies_true, Px.e0, and_assoc, imp_false, not_false_eq_true, ne_eq, Px.rgcd, Px.rixl, Px.rixt, Px.v0, Px.v1, Px.v2, Px.v3, Px.v4, Px.v5, Px.v6, Px.v7, Px.v8, Px.v9, Px.v10, Px.v11, Px.v12, Px.v13, Px.v14, Px.v15, Px.v16, Px.v17, Px.v18, Px.v19, Px.v20, Px.v21, Px.v22, Px.v23, Px.c0, Px.asg, Px.gnm, Px.ret, Px.retN, Px.drop, Px.nxt, Px.brk, Px.cnt, Px.ifs, Px.op, Px.un, Px.tst, Px.tbl, Px.tand, Px.tor, Px.tnot, Px.andv, Px.orv, Px.notv, Px.tif, Px.tup, Px.lst, Px.nil, Px.cons, Px.cal, Px.calS, Px.cb, Px.par, Px.gsub, Px.bits, Px.bm, Px.bm0, Px.ri, Px.ri0, Px.ru, Px.req, Px.rne, Px.rix, Px.rlen, Px.rin, Px.rsetl, Px.risi, Px.tyH_n, Px.tyH_b, Px.tyH_i, Px.tyH_s, Px.tyH_r, Px.seqH_t, Px.seqH_l, Px.seqH_fl, Px.sc_ii, Px.sc_bb, Px.sc_ss, Px.atI0, Px.atI1, Px.atI2, Px.atI3, Px.atI4, Px.atI5, Px.atI6, Px.atI7, Px.kb_NoneType_int, Px.kb_NoneType_bool, Px.kb_NoneType_str, Px.kb_NoneType_list, Px.kb_NoneType_tuple, Px.kb_NoneType_dict, Px.kb_bool_int, Px.kb_bool_bool, Px.kb_bool_str, Px.kb_bool_list, Px.kb_bool_tuple, Px.kb_bool_dict, Px.kb_int_int, Px.kb_int_bool, Px.kb_int_str, Px.kb_int_list, Px.kb_int_tuple, Px.kb_int_dict, Px.kb_str_int, Px.kb_str_bool, Px.kb_str_str, Px.kb_str_list, Px.kb_str_tuple, Px.kb_str_dict, Px.kb_list_int, Px.kb_list_bool, Px.kb_list_str, Px.kb_list_list, Px.kb_list_tuple, Px.kb_list_dict, Px.kb_tuple_int, Px.kb_tuple_bool, Px.kb_tuple_str, Px.kb_tuple_list, Px.kb_tuple_tuple, Px.kb_tuple_dict, Px.kb_dict_int, Px.kb_dict_bool, Px.kb_dict_str, Px.kb_dict_list, Px.kb_dict_tuple, Px.kb_dict_dict, L2.upd_same, Px.updI, L2.ixN, List.set_cons_zero, List.set_cons_succ, List.length_cons, List.length_nil, Nat.reduceAdd, Nat.zero_add, L2.HO.lst.injEq, L2.HO.tup.injEq, L2.upd_upd, L2.V.int.injEq, L2.V.ref.injEq, L2.V.bl.injEq, L2.V.str.injEq, L2.V.ty.injEq, List.cons.injEq, and_true, true_and, and_false, false_and, or_false, false_or, exists_eq_left', exists_eq_left, exists_and_left, exists_const, exists_false, Option.some.injEq, decide_eq_true_eq, List.append_nil, List.cons_append, List.nil_append, Option.isSome_some, Bool.not_true, Bool.not_false, Bool.not_eq_true', Bool.not_eq_true, Bool.false_eq_true, decide_eq_false_iff_not, if_true, if_false, ite_true, ite_false, Int.reduceLE, Int.reduceLT, Int.reduceToNat, Int.cast_ofNat_Int, Bool.true_eq_false, eq_self, ↓reduceIte, reduceCtorEq, Px.aug, Px.ipi, Px.tri, Px.rcatth, Px.rixs, Px.rsls, Px.tm1, Px.glst, Px.nstr, Px.txI, Px.txC, Px.txL, Px.txA, Px.rsgn, Px.txf, Px.tost, Px.tmko, Px.risxd, *, spSized]
    intro top0 H5 ht hp5 b5
    refine go_seq ?_
    simp only [decide_true, decide_false, List.map_cons, List.map_nil, Option.map_none, Option.map_some, Option.getD_none, Option.getD_some, Px.dg2, Px.dg1, Px.dg, Px.din, Px.dnotin, Px.dnew, Px.dput, Px.isD_is, Px.dget_i, Px.dget_s, Px.dput_i, Px.dput_s, Px.dOf_d, Px.rtup, Px.rlist, Px.rsl, Px.rsort, Px.rcat, Px.rapp, Px.rrev, Px.sl_ap, Px.nop, Px.part, Px.yes, Px.tyl, Px.isL_l, Px.isT_t, Px.isL_t, Px.isT_l, Px.isD_d, Px.isT_d, Px.inV_ints, Px.flat_ints, Px.flatV_i, Px.wipe_cons, Px.wipe_nil, Px.gtup, Px.gcons, Px.gnil, gt_iff_lt, ge_iff_le, Px.we, Px.wonly, Px.was, Px.cxK, not_true_eq_false, and_self, true_implies, false_implies, implies_true, Px.e0, and_assoc, imp_false, not_false_eq_true, ne_eq, Px.rgcd, Px.rixl, Px.rixt, Px.v0, Px.v1, Px.v2, Px.v3, Px.v4, Px.v5, Px.v6, Px.v7, Px.v8, Px.v9, Px.v10, Px.v11, Px.v12, Px.v13, Px.v14, Px.v15, Px.v16, Px.v17, Px.v18, Px.v19, Px.v20, Px.v21, Px.v22, Px.v23, Px.c0, Px.asg, Px.gnm, Px.ret, Px.retN, Px.drop, Px.nxt, Px.brk, Px.cnt, Px.ifs, Px.op, Px.un, Px.tst, Px.tbl, Px.tand, Px.tor, Px.tnot, Px.andv, Px.orv, Px.notv, Px.tif, Px.tup, Px.lst, Px.nil, Px.cons, Px.cal, Px.calS, Px.cb, Px.par, Px.gsub, Px.bits, Px.bm, Px.bm0, Px.ri, Px.ri0, Px.ru, Px.req, Px.rne, Px.rix, Px.rlen, Px.rin, Px.rsetl, Px.risi, Px.tyH_n, Px.tyH_b, Px.tyH_i, Px.tyH_s, Px.tyH_r, Px.seqH_t, Px.seqH_l, Px.seqH_fl, Px.sc_ii, Px.sc_bb, Px.sc_ss, Px.atI0, Px.atI1, Px.atI2, Px.atI3, Px.atI4, Px.atI5, Px.atI6, Px.atI7, Px.kb_NoneType_int, Px.kb_NoneType_bool, Px.kb_NoneType_str, Px.kb_NoneType_list, Px.kb_NoneType_tuple, Px.kb_NoneType_dict, Px.kb_bool_int, Px.kb_bool_bool, Px.kb_bool_str, Px.kb_bool_list, Px.kb_bool_tuple, Px.kb_bool_dict, Px.kb_int_int, Px.kb_int_bool, Px.kb_int_str, Px.kb_int_list, Px.kb_int_tuple, Px.kb_int_dict, Px.kb_str_int, Px.kb_str_bool, Px.kb_str_str, Px.kb_str_list, Px.kb_str_tuple, Px.kb_str_dict, Px.kb_list_int, Px.kb_list_bool, Px.kb_list_str, Px.kb_list_list, Px.kb_list_tuple, Px.kb_list_dict, Px.kb_tuple_int, Px.kb_tuple_bool, Px.kb_tuple_str, Px.kb_tuple_list, Px.kb_tuple_tuple, Px.kb_tuple_dict, Px.kb_dict_int, Px.kb_dict_bool, Px.kb_dict_str, Px.kb_dict_list, Px.kb_dict_tuple, Px.kb_dict_dict, L2.upd_same, Px.updI, L2.ixN, List.set_cons_zero, List.set_cons_succ, List.length_cons, List.length_nil, Nat.reduceAdd, Nat.zero_add, L2.HO.lst.injEq, L2.HO.tup.injEq, L2.upd_upd, L2.V.int.injEq, L2.V.ref.injEq, L2.V.bl.injEq, L2.V.str.injEq, L2.V.ty.injEq, List.cons.injEq, and_true, true_and, and_false, false_and, or_false, false_or, exists_eq_left', exists_eq_left, exists_and_left, exists_const, exists_false, Option.some.injEq, decide_eq_true_eq, List.append_nil, List.cons_append, List.nil_append, Option.isSome_some, Bool.not_true, Bool.not_false, Bool.not_eq_true', Bool.not_eq_true, Bool.false_eq_true, decide_eq_false_iff_not, if_true, if_false, ite_true, ite_false, Int.reduceLE, Int.reduceLT, Int.reduceToNat, Int.cast_ofNat_Int, Bool.true_eq_false, eq_self, ↓reduceIte, reduceCtorEq, Px.aug, Px.ipi, Px.tri, Px.rcatth, Px.rixs, Px.rsls, Px.tm1, Px.glst, Px.nstr, Px.txI, Px.txC, Px.txL, Px.txA, Px.rsgn, Px.txf, Px.tost, Px.tmko, Px.risxd, *, spSized]
    intro y H6 hy hp6 b6
    have e06 := e02.but npH (((b3.trans b4).trans b5).trans b6)
    obtain ⟨m, em, hm0, hm⟩ : ∃ m : Int, (if (if y < 0 then -y else y) > 1 then if y < 0 then -y else y else 1) = m ∧ 0 < m ∧ m.natAbs < 2 ^ 140 := ⟨_, rfl, by split <;> (try split) <;> omega, by split <;> (try split) <;> omega⟩
    rw [em]
    simp only [decide_true, decide_false, List.map_cons, List.map_nil, Option.map_none, Option.map_some, Option.getD_none, Option.getD_some, Px.dg2, Px.dg1, Px.dg, Px.din, Px.dnotin, Px.dnew, Px.dput, Px.isD_is, Px.dget_i, Px.dget_s, Px.dput_i, Px.dput_s, Px.dOf_d, Px.rtup, Px.rlist, Px.rsl, Px.rsort, Px.rcat, Px.rapp, Px.rrev, Px.sl_ap, Px.nop, Px.part, Px.yes, Px.tyl, Px.isL_l, Px.isT_t, Px.isL_t, Px.isT_l, Px.isD_d, Px.isT_d, Px.inV_ints, Px.flat_ints, Px.flatV_i, Px.wipe_cons, Px.wipe_nil, Px.gtup, Px.gcons, Px.gnil, gt_iff_lt, ge_iff_le, Px.we, Px.wonly, Px.was, Px.cxK, not_true_eq_false, and_self, true_implies, false_implies, implies_true, Px.e0, and_assoc, imp_false, not_false_eq_true, ne_eq, Px.rgcd, Px.rixl, Px.rixt, Px.v0, Px.v1, Px.v2, Px.v3, Px.v4, Px.v5, Px.v6, Px.v7, Px.v8, Px.v9, Px.v10, Px.v11, Px.v12, Px.v13, Px.v14, Px.v15, Px.v16, Px.v17, Px.v18, Px.v19, Px.v20, Px.v21, Px.v22, Px.v23, Px.c0, Px.asg, Px.gnm, Px.ret, Px.retN, Px.drop, Px.nxt, Px.brk, Px.cnt, Px.ifs, Px.op, Px.un, Px.tst, Px.tbl, Px.tand, Px.tor, Px.tnot, Px.andv, Px.orv, Px.notv, Px.tif, Px.tup, Px.lst, Px.nil, Px.cons, Px.cal, Px.calS, Px.cb, Px.par, Px.gsub, Px.bits, Px.bm, Px.bm0, Px.ri, Px.ri0, Px.ru, Px.req, Px.rne, Px.rix, Px.rlen, Px.rin, Px.rsetl, Px.risi, Px.tyH_n, Px.tyH_b, Px.tyH_i, Px.tyH_s, Px.tyH_r, Px.seqH_t, Px.seqH_l, Px.seqH_fl, Px.sc_ii, Px.sc_bb, Px.sc_ss, Px.atI0, Px.atI1, Px.atI2, Px.atI3, Px.atI4, Px.atI5, Px.atI6, Px.atI7, Px.kb_NoneType_int, Px.kb_NoneType_bool, Px.kb_NoneType_str, Px.kb_NoneType_list, Px.kb_NoneType_tuple, Px.kb_NoneType_dict, Px.kb_bool_int, Px.kb_bool_bool, Px.kb_bool_str, Px.kb_bool_list, Px.kb_bool_tuple, Px.kb_bool_dict, Px.kb_int_int, Px.kb_int_bool, Px.kb_int_str, Px.kb_int_list, Px.kb_int_tuple, Px.kb_int_dict, Px.kb_str_int, Px.kb_str_bool, Px.kb_str_str, Px.kb_str_list, Px.kb_str_tuple, Px.kb_str_dict, Px.kb_list_int, Px.kb_list_bool, Px.kb_list_str, Px.kb_list_list, Px.kb_list_tuple, Px.kb_list_dict, Px.kb_tuple_int, Px.kb_tuple_bool, Px.kb_tuple_str, Px.kb_tuple_list, Px.kb_tuple_tuple, Px.kb_tuple_dict, Px.kb_dict_int, Px.kb_dict_bool, Px.kb_dict_str, Px.kb_dict_list, Px.kb_dict_tuple, Px.kb_dict_dict, L2.upd_same, Px.updI, L2.ixN, List.set_cons_zero, List.set_cons_succ, List.length_cons, List.length_nil, Nat.reduceAdd, Nat.zero_add, L2.HO.lst.injEq, L2.HO.tup.injEq, L2.upd_upd, L2.V.int.injEq, L2.V.ref.injEq, L2.V.bl.injEq, L2.V.str.injEq, L2.V.ty.injEq, List.cons.injEq, and_true, true_and, and_false, false_and, or_false, false_or, exists_eq_left', exists_eq_left, exists_and_left, exists_const, exists_false, Option.some.injEq, decide_eq_true_eq, List.append_nil, List.cons_append, List.nil_append, Option.isSome_some, Bool.not_true, Bool.not_false, Bool.not_eq_true', Bool.not_eq_true, Bool.false_eq_true, decide_eq_false_iff_not, if_true, if_false, ite_true, ite_false, Int.reduceLE, Int.reduceLT, Int.reduceToNat, Int.cast_ofNat_Int, Bool.true_eq_false, eq_self, ↓reduceIte, reduceCtorEq, Px.aug, Px.ipi, Px.tri, Px.rcatth, Px.rixs, Px.rsls, Px.tm1, Px.glst, Px.nstr, Px.txI, Px.txC, Px.txL, Px.txA, Px.rsgn, Px.txf, Px.tost, Px.tmko, Px.risxd, *, spLowest]
    refine ⟨lt_up hm (by decide), fun c hc => ?_⟩
    have rt := rt_low hm0 ht hm
    have hcc : (upd H6 c (.tup [.int (top0 / gg top0 m), .int (m / gg top0 m)])) c = some (.tup [.int (top0 / gg top0 m), .int (m / gg top0 m)]) := upd_same
    have e07 := e06.new (o := .tup [.int (top0 / gg top0 m), .int (m / gg top0 m)]) hc
    generalize upd H6 c (.tup [.int (top0 / gg top0 m), .int (m / gg top0 m)]) = H7 at *
    refine ⟨t, how, rfl, hz, fun H8 e8 => ⟨true, rfl, ?_⟩⟩
    rw [if_neg (by decide)]
    refine ⟨c, _, _, rfl, e8.get hcc, rt, fun H9 e9 => ⟨true, rfl, ?_⟩⟩
    rw [if_neg (by decide)]
    refine ⟨t, _, rfl, hz, fun H10 e10 => ⟨true, rfl, ?_⟩⟩
    rw [if_neg (by decide)]
    exact ⟨_, _, _, _, _, _, rfl, ((e07.trans e8).trans e9).trans e10⟩
  · rintro σ' H1 ⟨v1, v2, v3, v4, v5, v6, rfl, e1⟩
    simp only [decide_true, decide_false, List.map_cons, List.map_nil, Option.map_none, Option.map_some, Option.getD_none, Option.getD_some, Px.dg2, Px.dg1, Px.dg, Px.din, Px.dnotin, Px.dnew, Px.dput, Px.isD_is, Px.dget_i, Px.dget_s, Px.dput_i, Px.dput_s, Px.dOf_d, Px.rtup, Px.rlist, Px.rsl, Px.rsort, Px.rcat, Px.rapp, Px.rrev, Px.sl_ap, Px.nop, Px.part, Px.yes, Px.tyl, Px.isL_l, Px.isT_t, Px.isL_t, Px.isT_l, Px.isD_d, Px.isT_d, Px.inV_ints, Px.flat_ints, Px.flatV_i, Px.wipe_cons, Px.wipe_nil, Px.gtup, Px.gcons, Px.gnil, gt_iff_lt, ge_iff_le, Px.we, Px.wonly, Px.was, Px.cxK, not_true_eq_false, and_self, true_implies, false_implies, implies_true, Px.e0, and_assoc, imp_false, not_false_eq_true, ne_eq, Px.rgcd, Px.rixl, Px.rixt, Px.v0, Px.v1, Px.v2, Px.v3, Px.v4, Px.v5, Px.v6, Px.v7, Px.v8, Px.v9, Px.v10, Px.v11, Px.v12, Px.v13, Px.v14, Px.v15, Px.v16, Px.v17, Px.v18, Px.v19, Px.v20, Px.v21, Px.v22, Px.v23, Px.c0, Px.asg, Px.gnm, Px.ret, Px.retN, Px.drop, Px.nxt, Px.brk, Px.cnt, Px.ifs, Px.op, Px.un, Px.tst, Px.tbl, Px.tand, Px.tor, Px.tnot, Px.andv, Px.orv, Px.notv, Px.tif, Px.tup, Px.lst, Px.nil, Px.cons, Px.cal, Px.calS, Px.cb, Px.par, Px.gsub, Px.bits, Px.bm, Px.bm0, Px.ri, Px.ri0, Px.ru, Px.req, Px.rne, Px.rix, Px.rlen, Px.rin, Px.rsetl, Px.risi, Px.tyH_n, Px.tyH_b, Px.tyH_i, Px.tyH_s, Px.tyH_r, Px.seqH_t, Px.seqH_l, Px.seqH_fl, Px.sc_ii, Px.sc_bb, Px.sc_ss, Px.atI0, Px.atI1, Px.atI2, Px.atI3, Px.atI4, Px.atI5, Px.atI6, Px.atI7, Px.kb_NoneType_int, Px.kb_NoneType_bool, Px.kb_NoneType_str, Px.kb_NoneType_list, Px.kb_NoneType_tuple, Px.kb_NoneType_dict, Px.kb_bool_int, Px.kb_bool_bool, Px.kb_bool_str, Px.kb_bool_list, Px.kb_bool_tuple, Px.kb_bool_dict, Px.kb_int_int, Px.kb_int_bool, Px.kb_int_str, Px.kb_int_list, Px.kb_int_tuple, Px.kb_int_dict, Px.kb_str_int, Px.kb_str_bool, Px.kb_str_str, Px.kb_str_list, Px.kb_str_tuple, Px.kb_str_dict, Px.kb_list_int, Px.kb_list_bool, Px.kb_list_str, Px.kb_list_list, Px.kb_list_tuple, Px.kb_list_dict, Px.kb_tuple_int, Px.kb_tuple_bool, Px.kb_tuple_str, Px.kb_tuple_list, Px.kb_tuple_tuple, Px.kb_tuple_dict, Px.kb_dict_int, Px.kb_dict_bool, Px.kb_dict_str, Px.kb_dict_list, Px.kb_dict_tuple, Px.kb_dict_dict, L2.upd_same, Px.updI, L2.ixN, List.set_cons_zero, List.set_cons_succ, List.length_cons, List.length_nil, Nat.reduceAdd, Nat.zero_add, L2.HO.lst.injEq, L2.HO.tup.injEq, L2.upd_upd, L2.V.int.injEq, L2.V.ref.injEq, L2.V.bl.injEq, L2.V.str.injEq, L2.V.ty.injEq, List.cons.injEq, and_true, true_and, and_false, false_and, or_false, false_or, exists_eq_left', exists_eq_left, exists_and_left, exists_const, exists_false, Option.some.injEq, decide_eq_true_eq, List.append_nil, List.cons_append, List.nil_append, Option.isSome_some, Bool.not_true, Bool.not_false, Bool.not_eq_true', Bool.not_eq_true, Bool.false_eq_true, decide_eq_false_iff_not, if_true, if_false, ite_true, ite_false, Int.reduceLE, Int.reduceLT, Int.reduceToNat, Int.cast_ofNat_Int, Bool.true_eq_false, eq_self, ↓reduceIte, reduceCtorEq, Px.aug, Px.ipi, Px.tri, Px.rcatth, Px.rixs, Px.rsls, Px.tm1, Px.glst, Px.nstr, Px.txI, Px.txC, Px.txL, Px.txA, Px.rsgn, Px.txf, Px.tost, Px.tmko, Px.risxd, *]
end
end K96

namespace K96
open PySem PySem.Spec PyProof.Rows L2 Px
/-! ### what the top has written -/
theorem all_mk {l : PySem.W.OpenLaw} {w : World} {K : PySem.W.Frag} {h : Heap} {mg : Str → Option Value} {fa : Addr} (X : K.In h) (G : h.Ns mainGlobals mg) (hfa : mg "law" = some (.ref fa))
    {dT_ratio : Addr} {tk_ratio0 : Tok} {ocT_ratio : Value} {odT_ratio : Option Addr} {nT_ratio : Nat} {slT_ratio : Array (Option Value)} {f_is_count : Addr} {od_is_count an_is_count : Option Addr} {sl_is_count : Array (Option Value)} {oc_is_count kV_is_count dc_is_count pm_is_count cd_is_count ct_is_count : Value} {f_is_whole_word : Addr} {od_is_whole_word an_is_whole_word : Option Addr} {sl_is_whole_word : Array (Option Value)} {oc_is_whole_word kV_is_whole_word dc_is_whole_word pm_is_whole_word cd_is_whole_word ct_is_whole_word : Value} {f_is_ratio_word : Addr} {od_is_ratio_word an_is_ratio_word : Option Addr} {sl_is_ratio_word : Array (Option Value)} {oc_is_ratio_word kV_is_ratio_word dc_is_ratio_word pm_is_ratio_word cd_is_ratio_word ct_is_ratio_word : Value} {f_ratio : Addr} {od_ratio an_ratio : Option Addr} {sl_ratio : Array (Option Value)} {oc_ratio kV_ratio dc_ratio pm_ratio cd_ratio ct_ratio : Value} {f_ratio_text : Addr} {od_ratio_text an_ratio_text : Option Addr} {sl_ratio_text : Array (Option Value)} {oc_ratio_text kV_ratio_text dc_ratio_text pm_ratio_text cd_ratio_text ct_ratio_text : Value} {f_parse_ratio : Addr} {od_parse_ratio an_parse_ratio : Option Addr} {sl_parse_ratio : Array (Option Value)} {oc_parse_ratio kV_parse_ratio dc_parse_ratio pm_parse_ratio cd_parse_ratio ct_parse_ratio : Value} {f_law_pool : Addr} {od_law_pool an_law_pool : Option Addr} {sl_law_pool : Array (Option Value)} {oc_law_pool kV_law_pool dc_law_pool pm_law_pool cd_law_pool ct_law_pool : Value} {f_law_take : Addr} {od_law_take an_law_take : Option Addr} {sl_law_take : Array (Option Value)} {oc_law_take kV_law_take dc_law_take pm_law_take cd_law_take ct_law_take : Value} {f_law_whole : Addr} {od_law_whole an_law_whole : Option Addr} {sl_law_whole : Array (Option Value)} {oc_law_whole kV_law_whole dc_law_whole pm_law_whole cd_law_whole ct_law_whole : Value} {f_law_sized : Addr} {od_law_sized an_law_sized : Option Addr} {sl_law_sized : Array (Option Value)} {oc_law_sized kV_law_sized dc_law_sized pm_law_sized cd_law_sized ct_law_sized : Value} {f_law_lowest : Addr} {od_law_lowest an_law_lowest : Option Addr} {sl_law_lowest : Array (Option Value)} {oc_law_lowest kV_law_lowest dc_law_lowest pm_law_lowest cd_law_lowest ct_law_lowest : Value} {f_law_digits : Addr} {od_law_digits an_law_digits : Option Addr} {sl_law_digits : Array (Option Value)} {oc_law_digits kV_law_digits dc_law_digits pm_law_digits cd_law_digits ct_law_digits : Value} {f_law_word : Addr} {od_law_word an_law_word : Option Addr} {sl_law_word : Array (Option Value)} {oc_law_word kV_law_word dc_law_word pm_law_word cd_law_word ct_law_word : Value} {f_law_signs : Addr} {od_law_signs an_law_signs : Option Addr} {sl_law_signs : Array (Option Value)} {oc_law_signs kV_law_signs dc_law_signs pm_law_signs cd_law_signs ct_law_signs : Value} {f_law_sign : Addr} {od_law_sign an_law_sign : Option Addr} {sl_law_sign : Array (Option Value)} {oc_law_sign kV_law_sign dc_law_sign pm_law_sign cd_law_sign ct_law_sign : Value} {f_law_spoilt : Addr} {od_law_spoilt an_law_spoilt : Option Addr} {sl_law_spoilt : Array (Option Value)} {oc_law_spoilt kV_law_spoilt dc_law_spoilt pm_law_spoilt cd_law_spoilt ct_law_spoilt : Value} {f_law_odd : Addr} {od_law_odd an_law_odd : Option Addr} {sl_law_odd : Array (Option Value)} {oc_law_odd kV_law_odd dc_law_odd pm_law_odd cd_law_odd ct_law_odd : Value} {f_law_free : Addr} {od_law_free an_law_free : Option Addr} {sl_law_free : Array (Option Value)} {oc_law_free kV_law_free dc_law_free pm_law_free cd_law_free ct_law_free : Value} {f_law_text : Addr} {od_law_text an_law_text : Option Addr} {sl_law_text : Array (Option Value)} {oc_law_text kV_law_text dc_law_text pm_law_text cd_law_text ct_law_text : Value} {f_law_step : Addr} {od_law_step an_law_step : Option Addr} {sl_law_step : Array (Option Value)} {oc_law_step kV_law_step dc_law_step pm_law_step cd_law_step ct_law_step : Value} {f_law_read : Addr} {od_law_read an_law_read : Option Addr} {sl_law_read : Array (Option Value)} {oc_law_read kV_law_read dc_law_read pm_law_read cd_law_read ct_law_read : Value} {f_law_is : Addr} {od_law_is an_law_is : Option Addr} {sl_law_is : Array (Option Value)} {oc_law_is kV_law_is dc_law_is pm_law_is cd_law_is ct_law_is : Value} {f_law_refused : Addr} {od_law_refused an_law_refused : Option Addr} {sl_law_refused : Array (Option Value)} {oc_law_refused kV_law_refused dc_law_refused pm_law_refused cd_law_refused ct_law_refused : Value} {f_law_refused_by_base : Addr} {od_law_refused_by_base an_law_refused_by_base : Option Addr} {sl_law_refused_by_base : Array (Option Value)} {oc_law_refused_by_base kV_law_refused_by_base dc_law_refused_by_base pm_law_refused_by_base cd_law_refused_by_base ct_law_refused_by_base : Value} {f_law_asked : Addr} {od_law_asked an_law_asked : Option Addr} {sl_law_asked : Array (Option Value)} {oc_law_asked kV_law_asked dc_law_asked pm_law_asked cd_law_asked ct_law_asked : Value} {f_law_written : Addr} {od_law_written an_law_written : Option Addr} {sl_law_written : Array (Option Value)} {oc_law_written kV_law_written dc_law_written pm_law_written cd_law_written ct_law_written : Value} {f_law : Addr} {od_law an_law : Option Addr} {sl_law : Array (Option Value)} {oc_law kV_law dc_law pm_law cd_law ct_law : Value} {tkD : Tok} {CT CP c1 c2 c3 c4 c5 c6 d1 d2 d3 d4 : Addr} {nmT qT : Str} {nsT : Addr} {bsT bmT subT : List Value} {snT : List Str} {abT : Bool} {colT : Option Bool} {ddT : Option Addr} {k0T k1T k2T k3T k5T : Option Value} {f_BadText___init__ : Addr} {od_BadText___init__ an_BadText___init__ : Option Addr} {sl_BadText___init__ : Array (Option Value)} {oc_BadText___init__ kV_BadText___init__ dc_BadText___init__ pm_BadText___init__ cd_BadText___init__ ct_BadText___init__ : Value}
    (a_is_count : PySem.W.nsIn K mainGlobals "is_count" = some (some (.ref f_is_count)))
    (l_is_count : K.lookup f_is_count = some ⟨oc_is_count, od_is_count, .func (PySem.W.fnOf "is_count" "is_count" (defArgs s_is_count) (defBody s_is_count) (defScope s_is_count) .none kV_is_count dc_is_count pm_is_count an_is_count cd_is_count ct_is_count), sl_is_count⟩)
    (c_is_count : PySem.W.codeIn K cd_is_count "is_count" = true)
    (k_is_count : PySem.W.keepIn K (.ref f_is_count) = true)
    (a_is_whole_word : PySem.W.nsIn K mainGlobals "is_whole_word" = some (some (.ref f_is_whole_word)))
    (l_is_whole_word : K.lookup f_is_whole_word = some ⟨oc_is_whole_word, od_is_whole_word, .func (PySem.W.fnOf "is_whole_word" "is_whole_word" (defArgs s_is_whole_word) (defBody s_is_whole_word) (defScope s_is_whole_word) .none kV_is_whole_word dc_is_whole_word pm_is_whole_word an_is_whole_word cd_is_whole_word ct_is_whole_word), sl_is_whole_word⟩)
    (c_is_whole_word : PySem.W.codeIn K cd_is_whole_word "is_whole_word" = true)
    (k_is_whole_word : PySem.W.keepIn K (.ref f_is_whole_word) = true)
    (a_is_ratio_word : PySem.W.nsIn K mainGlobals "is_ratio_word" = some (some (.ref f_is_ratio_word)))
    (l_is_ratio_word : K.lookup f_is_ratio_word = some ⟨oc_is_ratio_word, od_is_ratio_word, .func (PySem.W.fnOf "is_ratio_word" "is_ratio_word" (defArgs s_is_ratio_word) (defBody s_is_ratio_word) (defScope s_is_ratio_word) .none kV_is_ratio_word dc_is_ratio_word pm_is_ratio_word an_is_ratio_word cd_is_ratio_word ct_is_ratio_word), sl_is_ratio_word⟩)
    (c_is_ratio_word : PySem.W.codeIn K cd_is_ratio_word "is_ratio_word" = true)
    (k_is_ratio_word : PySem.W.keepIn K (.ref f_is_ratio_word) = true)
    (a_ratio : PySem.W.nsIn K mainGlobals "ratio" = some (some (.ref f_ratio)))
    (l_ratio : K.lookup f_ratio = some ⟨oc_ratio, od_ratio, .func (PySem.W.fnOf "ratio" "ratio" (defArgs s_ratio) (defBody s_ratio) (defScope s_ratio) (.ref dT_ratio) kV_ratio dc_ratio pm_ratio an_ratio cd_ratio ct_ratio), sl_ratio⟩)
    (c_ratio : PySem.W.codeIn K cd_ratio "ratio" = true)
    (k_ratio : PySem.W.keepIn K (.ref f_ratio) = true)
    (a_ratio_text : PySem.W.nsIn K mainGlobals "ratio_text" = some (some (.ref f_ratio_text)))
    (l_ratio_text : K.lookup f_ratio_text = some ⟨oc_ratio_text, od_ratio_text, .func (PySem.W.fnOf "ratio_text" "ratio_text" (defArgs s_ratio_text) (defBody s_ratio_text) (defScope s_ratio_text) .none kV_ratio_text dc_ratio_text pm_ratio_text an_ratio_text cd_ratio_text ct_ratio_text), sl_ratio_text⟩)
    (c_ratio_text : PySem.W.codeIn K cd_ratio_text "ratio_text" = true)
    (k_ratio_text : PySem.W.keepIn K (.ref f_ratio_text) = true)
    (a_parse_ratio : PySem.W.nsIn K mainGlobals "parse_ratio" = some (some (.ref f_parse_ratio)))
    (l_parse_ratio : K.lookup f_parse_ratio = some ⟨oc_parse_ratio, od_parse_ratio, .func (PySem.W.fnOf "parse_ratio" "parse_ratio" (defArgs s_parse_ratio) (defBody s_parse_ratio) (defScope s_parse_ratio) .none kV_parse_ratio dc_parse_ratio pm_parse_ratio an_parse_ratio cd_parse_ratio ct_parse_ratio), sl_parse_ratio⟩)
    (c_parse_ratio : PySem.W.codeIn K cd_parse_ratio "parse_ratio" = true)
    (k_parse_ratio : PySem.W.keepIn K (.ref f_parse_ratio) = true)
    (a_law_pool : PySem.W.nsIn K mainGlobals "_law_pool" = some (some (.ref f_law_pool)))
    (l_law_pool : K.lookup f_law_pool = some ⟨oc_law_pool, od_law_pool, .func (PySem.W.fnOf "_law_pool" "_law_pool" (defArgs s_law_pool) (defBody s_law_pool) (defScope s_law_pool) .none kV_law_pool dc_law_pool pm_law_pool an_law_pool cd_law_pool ct_law_pool), sl_law_pool⟩)
    (c_law_pool : PySem.W.codeIn K cd_law_pool "_law_pool" = true)
    (k_law_pool : PySem.W.keepIn K (.ref f_law_pool) = true)
    (a_law_take : PySem.W.nsIn K mainGlobals "_law_take" = some (some (.ref f_law_take)))
    (l_law_take : K.lookup f_law_take = some ⟨oc_law_take, od_law_take, .func (PySem.W.fnOf "_law_take" "_law_take" (defArgs s_law_take) (defBody s_law_take) (defScope s_law_take) .none kV_law_take dc_law_take pm_law_take an_law_take cd_law_take ct_law_take), sl_law_take⟩)
    (c_law_take : PySem.W.codeIn K cd_law_take "_law_take" = true)
    (k_law_take : PySem.W.keepIn K (.ref f_law_take) = true)
    (a_law_whole : PySem.W.nsIn K mainGlobals "_law_whole" = some (some (.ref f_law_whole)))
    (l_law_whole : K.lookup f_law_whole = some ⟨oc_law_whole, od_law_whole, .func (PySem.W.fnOf "_law_whole" "_law_whole" (defArgs s_law_whole) (defBody s_law_whole) (defScope s_law_whole) .none kV_law_whole dc_law_whole pm_law_whole an_law_whole cd_law_whole ct_law_whole), sl_law_whole⟩)
    (c_law_whole : PySem.W.codeIn K cd_law_whole "_law_whole" = true)
    (k_law_whole : PySem.W.keepIn K (.ref f_law_whole) = true)
    (a_law_sized : PySem.W.nsIn K mainGlobals "_law_sized" = some (some (.ref f_law_sized)))
    (l_law_sized : K.lookup f_law_sized = some ⟨oc_law_sized, od_law_sized, .func (PySem.W.fnOf "_law_sized" "_law_sized" (defArgs s_law_sized) (defBody s_law_sized) (defScope s_law_sized) .none kV_law_sized dc_law_sized pm_law_sized an_law_sized cd_law_sized ct_law_sized), sl_law_sized⟩)
    (c_law_sized : PySem.W.codeIn K cd_law_sized "_law_sized" = true)
    (k_law_sized : PySem.W.keepIn K (.ref f_law_sized) = true)
    (a_law_lowest : PySem.W.nsIn K mainGlobals "_law_lowest" = some (some (.ref f_law_lowest)))
    (l_law_lowest : K.lookup f_law_lowest = some ⟨oc_law_lowest, od_law_lowest, .func (PySem.W.fnOf "_law_lowest" "_law_lowest" (defArgs s_law_lowest) (defBody s_law_lowest) (defScope s_law_lowest) .none kV_law_lowest dc_law_lowest pm_law_lowest an_law_lowest cd_law_lowest ct_law_lowest), sl_law_lowest⟩)
    (c_law_lowest : PySem.W.codeIn K cd_law_lowest "_law_lowest" = true)
    (k_law_lowest : PySem.W.keepIn K (.ref f_law_lowest) = true)
    (a_law_digits : PySem.W.nsIn K mainGlobals "_law_digits" = some (some (.ref f_law_digits)))
    (l_law_digits : K.lookup f_law_digits = some ⟨oc_law_digits, od_law_digits, .func (PySem.W.fnOf "_law_digits" "_law_digits" (defArgs s_law_digits) (defBody s_law_digits) (defScope s_law_digits) .none kV_law_digits dc_law_digits pm_law_digits an_law_digits cd_law_digits ct_law_digits), sl_law_digits⟩)
    (c_law_digits : PySem.W.codeIn K cd_law_digits "_law_digits" = true)
    (k_law_digits : PySem.W.keepIn K (.ref f_law_digits) = true)
    (a_law_word : PySem.W.nsIn K mainGlobals "_law_word" = some (some (.ref f_law_word)))
    (l_law_word : K.lookup f_law_word = some ⟨oc_law_word, od_law_word, .func (PySem.W.fnOf "_law_word" "_law_word" (defArgs s_law_word) (defBody s_law_word) (defScope s_law_word) .none kV_law_word dc_law_word pm_law_word an_law_word cd_law_word ct_law_word), sl_law_word⟩)
    (c_law_word : PySem.W.codeIn K cd_law_word "_law_word" = true)
    (k_law_word : PySem.W.keepIn K (.ref f_law_word) = true)
    (a_law_signs : PySem.W.nsIn K mainGlobals "_law_signs" = some (some (.ref f_law_signs)))
    (l_law_signs : K.lookup f_law_signs = some ⟨oc_law_signs, od_law_signs, .func (PySem.W.fnOf "_law_signs" "_law_signs" (defArgs s_law_signs) (defBody s_law_signs) (defScope s_law_signs) .none kV_law_signs dc_law_signs pm_law_signs an_law_signs cd_law_signs ct_law_signs), sl_law_signs⟩)
    (c_law_signs : PySem.W.codeIn K cd_law_signs "_law_signs" = true)
    (k_law_signs : PySem.W.keepIn K (.ref f_law_signs) = true)
    (a_law_sign : PySem.W.nsIn K mainGlobals "_law_sign" = some (some (.ref f_law_sign)))
    (l_law_sign : K.lookup f_law_sign = some ⟨oc_law_sign, od_law_sign, .func (PySem.W.fnOf "_law_sign" "_law_sign" (defArgs s_law_sign) (defBody s_law_sign) (defScope s_law_sign) .none kV_law_sign dc_law_sign pm_law_sign an_law_sign cd_law_sign ct_law_sign), sl_law_sign⟩)
    (c_law_sign : PySem.W.codeIn K cd_law_sign "_law_sign" = true)
    (k_law_sign : PySem.W.keepIn K (.ref f_law_sign) = true)
    (a_law_spoilt : PySem.W.nsIn K mainGlobals "_law_spoilt" = some (some (.ref f_law_spoilt)))
    (l_law_spoilt : K.lookup f_law_spoilt = some ⟨oc_law_spoilt, od_law_spoilt, .func (PySem.W.fnOf "_law_spoilt" "_law_spoilt" (defArgs s_law_spoilt) (defBody s_law_spoilt) (defScope s_law_spoilt) .none kV_law_spoilt dc_law_spoilt pm_law_spoilt an_law_spoilt cd_law_spoilt ct_law_spoilt), sl_law_spoilt⟩)
    (c_law_spoilt : PySem.W.codeIn K cd_law_spoilt "_law_spoilt" = true)
    (k_law_spoilt : PySem.W.keepIn K (.ref f_law_spoilt) = true)
    (a_law_odd : PySem.W.nsIn K mainGlobals "_law_odd" = some (some (.ref f_law_odd)))
    (l_law_odd : K.lookup f_law_odd = some ⟨oc_law_odd, od_law_odd, .func (PySem.W.fnOf "_law_odd" "_law_odd" (defArgs s_law_odd) (defBody s_law_odd) (defScope s_law_odd) .none kV_law_odd dc_law_odd pm_law_odd an_law_odd cd_law_odd ct_law_odd), sl_law_odd⟩)
    (c_law_odd : PySem.W.codeIn K cd_law_odd "_law_odd" = true)
    (k_law_odd : PySem.W.keepIn K (.ref f_law_odd) = true)
    (a_law_free : PySem.W.nsIn K mainGlobals "_law_free" = some (some (.ref f_law_free)))
    (l_law_free : K.lookup f_law_free = some ⟨oc_law_free, od_law_free, .func (PySem.W.fnOf "_law_free" "_law_free" (defArgs s_law_free) (defBody s_law_free) (defScope s_law_free) .none kV_law_free dc_law_free pm_law_free an_law_free cd_law_free ct_law_free), sl_law_free⟩)
    (c_law_free : PySem.W.codeIn K cd_law_free "_law_free" = true)
    (k_law_free : PySem.W.keepIn K (.ref f_law_free) = true)
    (a_law_text : PySem.W.nsIn K mainGlobals "_law_text" = some (some (.ref f_law_text)))
    (l_law_text : K.lookup f_law_text = some ⟨oc_law_text, od_law_text, .func (PySem.W.fnOf "_law_text" "_law_text" (defArgs s_law_text) (defBody s_law_text) (defScope s_law_text) .none kV_law_text dc_law_text pm_law_text an_law_text cd_law_text ct_law_text), sl_law_text⟩)
    (c_law_text : PySem.W.codeIn K cd_law_text "_law_text" = true)
    (k_law_text : PySem.W.keepIn K (.ref f_law_text) = true)
    (a_law_step : PySem.W.nsIn K mainGlobals "_law_step" = some (some (.ref f_law_step)))
    (l_law_step : K.lookup f_law_step = some ⟨oc_law_step, od_law_step, .func (PySem.W.fnOf "_law_step" "_law_step" (defArgs s_law_step) (defBody s_law_step) (defScope s_law_step) .none kV_law_step dc_law_step pm_law_step an_law_step cd_law_step ct_law_step), sl_law_step⟩)
    (c_law_step : PySem.W.codeIn K cd_law_step "_law_step" = true)
    (k_law_step : PySem.W.keepIn K (.ref f_law_step) = true)
    (a_law_read : PySem.W.nsIn K mainGlobals "_law_read" = some (some (.ref f_law_read)))
    (l_law_read : K.lookup f_law_read = some ⟨oc_law_read, od_law_read, .func (PySem.W.fnOf "_law_read" "_law_read" (defArgs s_law_read) (defBody s_law_read) (defScope s_law_read) .none kV_law_read dc_law_read pm_law_read an_law_read cd_law_read ct_law_read), sl_law_read⟩)
    (c_law_read : PySem.W.codeIn K cd_law_read "_law_read" = true)
    (k_law_read : PySem.W.keepIn K (.ref f_law_read) = true)
    (a_law_is : PySem.W.nsIn K mainGlobals "_law_is" = some (some (.ref f_law_is)))
    (l_law_is : K.lookup f_law_is = some ⟨oc_law_is, od_law_is, .func (PySem.W.fnOf "_law_is" "_law_is" (defArgs s_law_is) (defBody s_law_is) (defScope s_law_is) .none kV_law_is dc_law_is pm_law_is an_law_is cd_law_is ct_law_is), sl_law_is⟩)
    (c_law_is : PySem.W.codeIn K cd_law_is "_law_is" = true)
    (k_law_is : PySem.W.keepIn K (.ref f_law_is) = true)
    (a_law_refused : PySem.W.nsIn K mainGlobals "_law_refused" = some (some (.ref f_law_refused)))
    (l_law_refused : K.lookup f_law_refused = some ⟨oc_law_refused, od_law_refused, .func (PySem.W.fnOf "_law_refused" "_law_refused" (defArgs s_law_refused) (defBody s_law_refused) (defScope s_law_refused) .none kV_law_refused dc_law_refused pm_law_refused an_law_refused cd_law_refused ct_law_refused), sl_law_refused⟩)
    (c_law_refused : PySem.W.codeIn K cd_law_refused "_law_refused" = true)
    (k_law_refused : PySem.W.keepIn K (.ref f_law_refused) = true)
    (a_law_refused_by_base : PySem.W.nsIn K mainGlobals "_law_refused_by_base" = some (some (.ref f_law_refused_by_base)))
    (l_law_refused_by_base : K.lookup f_law_refused_by_base = some ⟨oc_law_refused_by_base, od_law_refused_by_base, .func (PySem.W.fnOf "_law_refused_by_base" "_law_refused_by_base" (defArgs s_law_refused_by_base) (defBody s_law_refused_by_base) (defScope s_law_refused_by_base) .none kV_law_refused_by_base dc_law_refused_by_base pm_law_refused_by_base an_law_refused_by_base cd_law_refused_by_base ct_law_refused_by_base), sl_law_refused_by_base⟩)
    (c_law_refused_by_base : PySem.W.codeIn K cd_law_refused_by_base "_law_refused_by_base" = true)
    (k_law_refused_by_base : PySem.W.keepIn K (.ref f_law_refused_by_base) = true)
    (a_law_asked : PySem.W.nsIn K mainGlobals "_law_asked" = some (some (.ref f_law_asked)))
    (l_law_asked : K.lookup f_law_asked = some ⟨oc_law_asked, od_law_asked, .func (PySem.W.fnOf "_law_asked" "_law_asked" (defArgs s_law_asked) (defBody s_law_asked) (defScope s_law_asked) .none kV_law_asked dc_law_asked pm_law_asked an_law_asked cd_law_asked ct_law_asked), sl_law_asked⟩)
    (c_law_asked : PySem.W.codeIn K cd_law_asked "_law_asked" = true)
    (k_law_asked : PySem.W.keepIn K (.ref f_law_asked) = true)
    (a_law_written : PySem.W.nsIn K mainGlobals "_law_written" = some (some (.ref f_law_written)))
    (l_law_written : K.lookup f_law_written = some ⟨oc_law_written, od_law_written, .func (PySem.W.fnOf "_law_written" "_law_written" (defArgs s_law_written) (defBody s_law_written) (defScope s_law_written) .none kV_law_written dc_law_written pm_law_written an_law_written cd_law_written ct_law_written), sl_law_written⟩)
    (c_law_written : PySem.W.codeIn K cd_law_written "_law_written" = true)
    (k_law_written : PySem.W.keepIn K (.ref f_law_written) = true)
    (a_law : PySem.W.nsIn K mainGlobals "law" = some (some (.ref f_law)))
    (l_law : K.lookup f_law = some ⟨oc_law, od_law, .func (PySem.W.fnOf "law" "law" (defArgs s_law) (defBody s_law) (defScope s_law) .none kV_law dc_law pm_law an_law cd_law ct_law), sl_law⟩)
    (c_law : PySem.W.codeIn K cd_law "law" = true)
    (k_law : PySem.W.keepIn K (.ref f_law) = true)
    (z_ValueError : PySem.W.nsIn K mainGlobals "ValueError" = some none)
    (z_abs : PySem.W.nsIn K mainGlobals "abs" = some none)
    (z_bool_ : PySem.W.nsIn K mainGlobals "bool" = some none)
    (z_int_ : PySem.W.nsIn K mainGlobals "int" = some none)
    (z_isinstance : PySem.W.nsIn K mainGlobals "isinstance" = some none)
    (z_len : PySem.W.nsIn K mainGlobals "len" = some none)
    (z_max_ : PySem.W.nsIn K mainGlobals "max" = some none)
    (z_min_ : PySem.W.nsIn K mainGlobals "min" = some none)
    (z_range : PySem.W.nsIn K mainGlobals "range" = some none)
    (z_str_ : PySem.W.nsIn K mainGlobals "str" = some none)
    (z_tuple_ : PySem.W.nsIn K mainGlobals "tuple" = some none)
    (z_gcd : PySem.W.nsIn K mainGlobals "gcd" = some (some (.builtin "math.gcd")))
    (z_DIGITS : PySem.W.nsIn K mainGlobals "DIGITS" = some (some (.str "0123456789" tkD)))
    (e_gT : PySem.W.nsIn K mainGlobals "BadText" = some (some (.ref CT)))
    (e_gP : PySem.W.nsIn K mainGlobals "PaperError" = some (some (.ref CP)))
    (e_c1 : PySem.W.nsIn K mainGlobals "BadLiteral" = some (some (.ref c1)))
    (i_c1 : PySem.W.isClsIn K c1 = true)
    (y_c1 : PySem.W.typeIn K (.ref c1) = some (.type "type"))
    (s_c1 : PySem.W.subIn K (.ref CT) (.ref c1) = some false)
    (n_c1 : ¬ CT = c1)
    (e_c2 : PySem.W.nsIn K mainGlobals "BadModel" = some (some (.ref c2)))
    (i_c2 : PySem.W.isClsIn K c2 = true)
    (y_c2 : PySem.W.typeIn K (.ref c2) = some (.type "type"))
    (s_c2 : PySem.W.subIn K (.ref CT) (.ref c2) = some false)
    (n_c2 : ¬ CT = c2)
    (e_c3 : PySem.W.nsIn K mainGlobals "BadName" = some (some (.ref c3)))
    (i_c3 : PySem.W.isClsIn K c3 = true)
    (y_c3 : PySem.W.typeIn K (.ref c3) = some (.type "type"))
    (s_c3 : PySem.W.subIn K (.ref CT) (.ref c3) = some false)
    (n_c3 : ¬ CT = c3)
    (e_c4 : PySem.W.nsIn K mainGlobals "BadNode" = some (some (.ref c4)))
    (i_c4 : PySem.W.isClsIn K c4 = true)
    (y_c4 : PySem.W.typeIn K (.ref c4) = some (.type "type"))
    (s_c4 : PySem.W.subIn K (.ref CT) (.ref c4) = some false)
    (n_c4 : ¬ CT = c4)
    (e_c5 : PySem.W.nsIn K mainGlobals "BadRatio" = some (some (.ref c5)))
    (i_c5 : PySem.W.isClsIn K c5 = true)
    (y_c5 : PySem.W.typeIn K (.ref c5) = some (.type "type"))
    (s_c5 : PySem.W.subIn K (.ref CT) (.ref c5) = some false)
    (n_c5 : ¬ CT = c5)
    (e_c6 : PySem.W.nsIn K mainGlobals "BadSort" = some (some (.ref c6)))
    (i_c6 : PySem.W.isClsIn K c6 = true)
    (y_c6 : PySem.W.typeIn K (.ref c6) = some (.type "type"))
    (s_c6 : PySem.W.subIn K (.ref CT) (.ref c6) = some false)
    (n_c6 : ¬ CT = c6)
    (e_d1 : PySem.W.nsIn K mainGlobals "NameTaken" = some (some (.ref d1)))
    (i_d1 : PySem.W.isClsIn K d1 = true)
    (y_d1 : PySem.W.typeIn K (.ref d1) = some (.type "type"))
    (s_d1 : PySem.W.subIn K (.ref CT) (.ref d1) = some false)
    (n_d1 : ¬ CT = d1)
    (e_d2 : PySem.W.nsIn K mainGlobals "NoAnswer" = some (some (.ref d2)))
    (i_d2 : PySem.W.isClsIn K d2 = true)
    (y_d2 : PySem.W.typeIn K (.ref d2) = some (.type "type"))
    (s_d2 : PySem.W.subIn K (.ref CT) (.ref d2) = some false)
    (n_d2 : ¬ CT = d2)
    (e_d3 : PySem.W.nsIn K mainGlobals "NoLevel" = some (some (.ref d3)))
    (i_d3 : PySem.W.isClsIn K d3 = true)
    (y_d3 : PySem.W.typeIn K (.ref d3) = some (.type "type"))
    (s_d3 : PySem.W.subIn K (.ref CT) (.ref d3) = some false)
    (n_d3 : ¬ CT = d3)
    (e_d4 : PySem.W.nsIn K mainGlobals "UnknownName" = some (some (.ref d4)))
    (i_d4 : PySem.W.isClsIn K d4 = true)
    (y_d4 : PySem.W.typeIn K (.ref d4) = some (.type "type"))
    (s_d4 : PySem.W.subIn K (.ref CT) (.ref d4) = some false)
    (n_d4 : ¬ CT = d4)
    (r_q : PySem.W.excIn K c5 [.type "ValueError", .type "Exception", .type "BaseException", .type "object"] "ValueError.__new__" = true)
    (r_k : PySem.W.keepIn K (.ref c5) = true)
    (r_b : PySem.W.subIn K (.ref c5) (.type "BaseException") = some true)
    (o_l : K.lookup CT = some (excClassObj nmT qT CT nsT bsT bmT true snT subT abT colT ddT k0T k1T k2T k3T k5T "ValueError.__new__"))
    (o_r : PySem.HandSPX.refsVE bmT = true)
    (o_sa : PySem.W.findIn K (.ref CT) "__setattr__" = some (some (.builtin "object.__setattr__")))
    (o_nf : PySem.W.findIn K (.ref CT) "place" = some none)
    (x_k : PySem.W.keepIn K (.ref CT) = true)
    (x_b : PySem.W.subIn K (.ref CT) (.type "BaseException") = some true)
    (x_t : PySem.W.typeIn K (.ref CT) = some (.type "type"))
    (x_i : PySem.W.isClsIn K CT = true)
    (x_s : PySem.W.subIn K (.ref CT) (.ref CT) = some true)
    (x_sp : PySem.W.subIn K (.ref CT) (.ref CP) = some true)
    (x_v : PySem.W.subIn K (.ref CT) (.type "ValueError") = some true)
    (p_b : PySem.W.subIn K (.ref CP) (.type "BaseException") = some true)
    (p_t : PySem.W.typeIn K (.ref CP) = some (.type "type"))
    (p_i : PySem.W.isClsIn K CP = true)
    (x_hg : PySem.W.findIn K (.ref CT) "__getattribute__" = some (some (.builtin "BaseException.__getattribute__")))
    (x_hk : PySem.W.findIn K (.ref CT) "__getattr__" = some none)
    (x_hd : PySem.W.hasDictIn K CT = true)
    (x_ha : PySem.W.findIn K (.ref CT) "__class__" = some (some (.builtin "object.__class__")))
    (x_hn : PySem.W.specialIn K (.builtin "object.__class__") "__get__" = some (some (.builtin "getset_descriptor.__get__")))
    (x_ht : PySem.W.takesIn K (.builtin "object.__class__") = some true)
    (x_hm : PySem.W.mroIn K CT (.type "object") = some true)
    (a_BadText___init__ : PySem.W.findIn K (.ref CT) "__init__" = some (some (.ref f_BadText___init__)))
    (i_BadText___init__ : PySem.W.typeIn K (.ref f_BadText___init__) = some (.type "function"))
    (l_BadText___init__ : K.lookup f_BadText___init__ = some ⟨oc_BadText___init__, od_BadText___init__, .func (PySem.W.fnOf "__init__" "BadText.__init__" (defArgs s_BadText___init__) (defBody s_BadText___init__) (defScope s_BadText___init__) .none kV_BadText___init__ dc_BadText___init__ pm_BadText___init__ an_BadText___init__ cd_BadText___init__ ct_BadText___init__), sl_BadText___init__⟩)
    (c_BadText___init__ : PySem.W.codeIn K cd_BadText___init__ "BadText.__init__" = true)
    (k_BadText___init__ : PySem.W.keepIn K (.ref f_BadText___init__) = true)
    (t_ratio : K.lookup dT_ratio = some ⟨ocT_ratio, odT_ratio, .seq (#[.int 1 tk_ratio0]) nT_ratio, slT_ratio⟩) :
    ∃ fd : FuncData, (∀ (s : Shared) (v : Value), BindsTo s fd ⟨[v], []⟩ [("script", v)]) ∧ ∀ base : Heap, K.In base → base.Ns mainGlobals mg → FnOk l.prog w K mg base CX0 7 fa fd ["script"] (spLaw K) := by
  have e := hfa.symm.trans (PySem.W.mg_of X G a_law)
  cases e
  have B : Bn mg := ⟨PySem.W.mg_none_of X G z_ValueError, PySem.W.mg_none_of X G z_abs, PySem.W.mg_none_of X G z_bool_, PySem.W.mg_none_of X G z_int_, PySem.W.mg_none_of X G z_isinstance, PySem.W.mg_none_of X G z_len, PySem.W.mg_none_of X G z_max_, PySem.W.mg_none_of X G z_min_, PySem.W.mg_none_of X G z_range, PySem.W.mg_none_of X G z_str_, PySem.W.mg_none_of X G z_tuple_, mg_at X G z_gcd, ⟨_, mg_at X G z_DIGITS, ⟨_, rfl⟩⟩⟩
  have F_is_count := funAt_mk (st := s_is_count) X G a_is_count l_is_count c_is_count k_is_count
  have F_is_whole_word := funAt_mk (st := s_is_whole_word) X G a_is_whole_word l_is_whole_word c_is_whole_word k_is_whole_word
  have F_is_ratio_word := funAt_mk (st := s_is_ratio_word) X G a_is_ratio_word l_is_ratio_word c_is_ratio_word k_is_ratio_word
  have F_ratio_text := funAt_mk (st := s_ratio_text) X G a_ratio_text l_ratio_text c_ratio_text k_ratio_text
  have F_parse_ratio := funAt_mk (st := s_parse_ratio) X G a_parse_ratio l_parse_ratio c_parse_ratio k_parse_ratio
  have F_law_pool := funAt_mk (st := s_law_pool) X G a_law_pool l_law_pool c_law_pool k_law_pool
  have F_law_take := funAt_mk (st := s_law_take) X G a_law_take l_law_take c_law_take k_law_take
  have F_law_whole := funAt_mk (st := s_law_whole) X G a_law_whole l_law_whole c_law_whole k_law_whole
  have F_law_sized := funAt_mk (st := s_law_sized) X G a_law_sized l_law_sized c_law_sized k_law_sized
  have F_law_lowest := funAt_mk (st := s_law_lowest) X G a_law_lowest l_law_lowest c_law_lowest k_law_lowest
  have F_law_digits := funAt_mk (st := s_law_digits) X G a_law_digits l_law_digits c_law_digits k_law_digits
  have F_law_word := funAt_mk (st := s_law_word) X G a_law_word l_law_word c_law_word k_law_word
  have F_law_signs := funAt_mk (st := s_law_signs) X G a_law_signs l_law_signs c_law_signs k_law_signs
  have F_law_sign := funAt_mk (st := s_law_sign) X G a_law_sign l_law_sign c_law_sign k_law_sign
  have F_law_spoilt := funAt_mk (st := s_law_spoilt) X G a_law_spoilt l_law_spoilt c_law_spoilt k_law_spoilt
  have F_law_odd := funAt_mk (st := s_law_odd) X G a_law_odd l_law_odd c_law_odd k_law_odd
  have F_law_free := funAt_mk (st := s_law_free) X G a_law_free l_law_free c_law_free k_law_free
  have F_law_text := funAt_mk (st := s_law_text) X G a_law_text l_law_text c_law_text k_law_text
  have F_law_step := funAt_mk (st := s_law_step) X G a_law_step l_law_step c_law_step k_law_step
  have F_law_read := funAt_mk (st := s_law_read) X G a_law_read l_law_read c_law_read k_law_read
  have F_law_is := funAt_mk (st := s_law_is) X G a_law_is l_law_is c_law_is k_law_is
  have F_law_refused := funAt_mk (st := s_law_refused) X G a_law_refused l_law_refused c_law_refused k_law_refused
  have F_law_refused_by_base := funAt_mk (st := s_law_refused_by_base) X G a_law_refused_by_base l_law_refused_by_base c_law_refused_by_base k_law_refused_by_base
  have F_law_asked := funAt_mk (st := s_law_asked) X G a_law_asked l_law_asked c_law_asked k_law_asked
  have F_law_written := funAt_mk (st := s_law_written) X G a_law_written l_law_written c_law_written k_law_written
  have F_law := funAt_mk (st := s_law) X G a_law l_law c_law k_law
  have F_BadText___init__ := fun_mk (st := s_BadText___init__) l_BadText___init__ c_BadText___init__ k_BadText___init__
  have bd_BadText___init__ := F_BadText___init__.binds (ps := ["self", "place"]) fun _ _ _ _ _ _ us hl => match us, hl with | [_, _], _ => rfl
  refine ⟨PySem.W.fnOf "law" "law" (defArgs s_law) (defBody s_law) (defScope s_law) .none kV_law dc_law pm_law an_law cd_law ct_law, fun s v => .of_eq rfl, fun base _ _ => ?_⟩
  have C0 : Exc0 K mg "BadRatio" c5 := ⟨PySem.W.mg_of X G e_c5, r_q, r_k, r_b, y_c5⟩
  have ox : OexC K CT := ⟨⟨_, _, _, _, _, _, _, _, _, _, _, _, _, _, _, o_l, o_r⟩, o_sa, x_b, x_t, x_k⟩
  have XE : Errs K mg CT CP c1 c2 c3 c4 c5 c6 d1 d2 d3 d4 := ⟨PySem.W.mg_of X G e_gT, PySem.W.mg_of X G e_gP, exm_of x_b x_i x_t x_s, exm_of p_b p_i p_t x_sp, ⟨x_hg, x_hk, x_b, x_hd, x_ha, x_hn, x_ht, x_hm⟩, ⟨x_hg, x_hk, x_b, x_hd⟩, ox, o_nf,
    PySem.W.mg_of X G e_c1, PySem.W.mg_of X G e_c2, PySem.W.mg_of X G e_c3, PySem.W.mg_of X G e_c4, PySem.W.mg_of X G e_c5, PySem.W.mg_of X G e_c6, PySem.W.mg_of X G e_d1, PySem.W.mg_of X G e_d2, PySem.W.mg_of X G e_d3, PySem.W.mg_of X G e_d4,
    kits_no (kit_ref i_c1 y_c1 s_c1 n_c1) (kits_no (kit_ref i_c2 y_c2 s_c2 n_c2) (kits_no (kit_ref i_c3 y_c3 s_c3 n_c3) (kits_no (kit_ref i_c4 y_c4 s_c4 n_c4) (kits_no (kit_ref i_c5 y_c5 s_c5 n_c5) (kits_no (kit_ref i_c6 y_c6 s_c6 n_c6) kits_nil))))),
    kits_no (kit_ref i_d1 y_d1 s_d1 n_d1) (kits_no (kit_ref i_d2 y_d2 s_d2 n_d2) (kits_no (kit_ref i_d3 y_d3 s_d3 n_d3) (kits_no (kit_ref i_d4 y_d4 s_d4 n_d4) kits_nil))), kits_yes kit_self, kits_yes (kit_type (by decide +kernel) x_v)⟩
  have FR : FunD K "ratio" "ratio" (defArgs s_ratio) (defBody s_ratio) (defScope s_ratio) [.int 1] [] f_ratio (PySem.W.fnOf "ratio" "ratio" (defArgs s_ratio) (defBody s_ratio) (defScope s_ratio) (.ref dT_ratio) kV_ratio dc_ratio pm_ratio an_ratio cd_ratio ct_ratio) :=
    ⟨⟨_, _, _, _, _, _, _, _, _, _, rfl, l_ratio, c_ratio, .inr ⟨by simp, dT_ratio, _, _, _, rfl, t_ratio, rfl, .cons ⟨_, rfl⟩ .nil⟩, .inl rfl⟩, k_ratio⟩
  have D_ratio := ok_ratio (P := l.prog) (w := w) (base := base) B C0 (PySem.W.mg_of X G a_ratio) FR
  have D_take := ok_take (P := l.prog) (w := w) (base := base) B F_law_take
  have D_count := ok_count (P := l.prog) (w := w) (base := base) B F_is_count
  have D_whl := ok_whl B F_is_whole_word D_count
  have D_ratw := ok_ratw B F_is_ratio_word D_count D_whl
  have D_BadText : ExD l.prog w K mg base 1 "BadText" CT ["self", "place"] (spBInit CT) := ⟨_, _, ox, a_BadText___init__, i_BadText___init__, PySem.W.mg_of X G e_gT, bd_BadText___init__, ok_binit B XE F_BadText___init__⟩
  have D_parse := ok_parse B XE F_parse_ratio D_BadText D_ratw D_ratio
  have bq := (funAt_mk (st := s_law_whole) X G a_law_whole l_law_whole c_law_whole k_law_whole)
  have DQ : DefQ l.prog w K mg base 1 "_law_whole" ["value"] spWhole := ⟨_, _, PySem.W.mg_of X G a_law_whole, k_law_whole, (fun_mk (st := s_law_whole) l_law_whole c_law_whole k_law_whole).binds (ps := ["value"]) (fun _ _ _ _ _ _ us hl => match us, hl with | [_], _ => rfl), okq_whole B l_law_whole c_law_whole⟩
  have D_ref := ok_refused B XE F_law_refused D_parse DQ
  have D_base := ok_base B XE F_law_refused_by_base D_parse DQ
  have D_whole := ok_whole (P := l.prog) (w := w) (base := base) B F_law_whole
  have D_lowest := ok_lowest (P := l.prog) (w := w) (base := base) B F_law_lowest
  have D_sized := ok_sized B F_law_sized D_take
  have D_is := ok_is B F_law_is D_whole D_lowest
  have D_read := ok_read B F_law_read (ok_stp (P := l.prog) (w := w) (base := base) B F_law_step)
  have D_asked := ok_asked B F_law_asked D_read D_whl D_ratw D_parse D_is D_ref D_base
  have D_written := ok_written B F_law_written (ok_text (P := l.prog) (w := w) (base := base) B F_ratio_text) D_ratw D_parse D_is
  have D_digits := ok_digits B F_law_digits D_take
  have D_word := ok_word B F_law_word D_take D_digits
  have D_signs := ok_signs (P := l.prog) (w := w) (base := base) B F_law_signs
  have D_text := ok_ltext B F_law_text D_take D_word D_digits (ok_spoilt B F_law_spoilt D_take (ok_sign B F_law_sign D_take D_signs)) (ok_odd B F_law_odd D_take) (ok_free B F_law_free D_take D_signs)
  exact ok_law B (fun_mk (st := s_law) l_law c_law k_law) (ok_pool B F_law_pool) D_take D_text D_sized D_lowest D_asked D_written
theorem walk {l : PySem.W.OpenLaw} {q : Program} {loose : List Str} {XP : (Str → Option Value) → Heap → Prop} {YP : World → Heap → Prop} {d : DefRec} {K : Params → PySem.W.Frag} (hn : l.most = some 63) (hdf : d.params.defaults = [])
    (hY : ∀ (w : World) (h : Heap), YP w h → (K w.params).In h)
    (F : ∀ (w : World) (mg : Str → Option Value) (fa : Addr) (h : Heap), (K w.params).In h → h.Ns mainGlobals mg → mg d.name = some (.ref fa) →
      ∃ fd : FuncData, (∀ (s : Shared) (u : Value), BindsTo s fd ⟨[u], []⟩ [("script", u)]) ∧ ∀ base : Heap, (K w.params).In base → base.Ns mainGlobals mg → FnOk l.prog w (K w.params) mg base CX0 7 fa fd ["script"] (spLaw (K w.params))) :
    PySem.W.WalkO q loose XP YP l.row.toRowW d [] (fun f vs => PySem.call f vs) :=
  L2.walk_of (n := 63) (k := 7) (x := "script") (CX := fun _ => CX0) (sp := fun w => spLaw (K w.params)) hn (by decide) hdf ⟨rfl, by decide, by decide⟩ hY F (fun _ _ a ns hl _ hS => ⟨a, ns, rfl, hS, hl, fun _ => rfl⟩) fun _ _ _ _ _ z => z
end K96

open PySem PySem.W PyProof.Rows in
set_option maxRecDepth 100000 in
set_option maxHeartbeats 0 in
theorem PySem.Challenge.cw_solvedpapers_k96_ratio_words_holds : PySem.Challenge.rw_solvedpapers_k96_ratio_words.Holds := by
  w_on; o_law; k_head; (case hw => w_witness2)
  k_fill
  refine K96.walk (l := PySem.Challenge.rw_solvedpapers_k96_ratio_words) rfl rfl (fun w h Y => PySem.W.kIn_of Y) ?F
  case F =>
    intro w mg fa h KX G hmg
    refine' K96.all_mk KX G hmg ?a_is_count ?l_is_count ?c_is_count ?k_is_count ?a_is_whole_word ?l_is_whole_word ?c_is_whole_word ?k_is_whole_word ?a_is_ratio_word ?l_is_ratio_word ?c_is_ratio_word ?k_is_ratio_word ?a_ratio ?l_ratio ?c_ratio ?k_ratio ?a_ratio_text ?l_ratio_text ?c_ratio_text ?k_ratio_text ?a_parse_ratio ?l_parse_ratio ?c_parse_ratio ?k_parse_ratio ?a_law_pool ?l_law_pool ?c_law_pool ?k_law_pool ?a_law_take ?l_law_take ?c_law_take ?k_law_take ?a_law_whole ?l_law_whole ?c_law_whole ?k_law_whole ?a_law_sized ?l_law_sized ?c_law_sized ?k_law_sized ?a_law_lowest ?l_law_lowest ?c_law_lowest ?k_law_lowest ?a_law_digits ?l_law_digits ?c_law_digits ?k_law_digits ?a_law_word ?l_law_word ?c_law_word ?k_law_word ?a_law_signs ?l_law_signs ?c_law_signs ?k_law_signs ?a_law_sign ?l_law_sign ?c_law_sign ?k_law_sign ?a_law_spoilt ?l_law_spoilt ?c_law_spoilt ?k_law_spoilt ?a_law_odd ?l_law_odd ?c_law_odd ?k_law_odd ?a_law_free ?l_law_free ?c_law_free ?k_law_free ?a_law_text ?l_law_text ?c_law_text ?k_law_text ?a_law_step ?l_law_step ?c_law_step ?k_law_step ?a_law_read ?l_law_read ?c_law_read ?k_law_read ?a_law_is ?l_law_is ?c_law_is ?k_law_is ?a_law_refused ?l_law_refused ?c_law_refused ?k_law_refused ?a_law_refused_by_base ?l_law_refused_by_base ?c_law_refused_by_base ?k_law_refused_by_base ?a_law_asked ?l_law_asked ?c_law_asked ?k_law_asked ?a_law_written ?l_law_written ?c_law_written ?k_law_written ?a_law ?l_law ?c_law ?k_law ?z_ValueError ?z_abs ?z_bool_ ?z_int_ ?z_isinstance ?z_len ?z_max_ ?z_min_ ?z_range ?z_str_ ?z_tuple_ ?z_gcd ?z_DIGITS ?e_gT ?e_gP ?e_c1 ?i_c1 ?y_c1 ?s_c1 ?n_c1 ?e_c2 ?i_c2 ?y_c2 ?s_c2 ?n_c2 ?e_c3 ?i_c3 ?y_c3 ?s_c3 ?n_c3 ?e_c4 ?i_c4 ?y_c4 ?s_c4 ?n_c4 ?e_c5 ?i_c5 ?y_c5 ?s_c5 ?n_c5 ?e_c6 ?i_c6 ?y_c6 ?s_c6 ?n_c6 ?e_d1 ?i_d1 ?y_d1 ?s_d1 ?n_d1 ?e_d2 ?i_d2 ?y_d2 ?s_d2 ?n_d2 ?e_d3 ?i_d3 ?y_d3 ?s_d3 ?n_d3 ?e_d4 ?i_d4 ?y_d4 ?s_d4 ?n_d4 ?r_q ?r_k ?r_b ?o_l ?o_r ?o_sa ?o_nf ?x_k ?x_b ?x_t ?x_i ?x_s ?x_sp ?x_v ?p_b ?p_t ?p_i ?x_hg ?x_hk ?x_hd ?x_ha ?x_hn ?x_ht ?x_hm ?a_BadText___init__ ?i_BadText___init__ ?l_BadText___init__ ?c_BadText___init__ ?k_BadText___init__ ?t_ratio
    (case a_is_count => k_is)
    (case l_is_count => k_is)
    (case c_is_count => k_is)
    (case k_is_count => k_is)
    (case a_is_whole_word => k_is)
    (case l_is_whole_word => k_is)
    (case c_is_whole_word => k_is)
    (case k_is_whole_word => k_is)
    (case a_is_ratio_word => k_is)
    (case l_is_ratio_word => k_is)
    (case c_is_ratio_word => k_is)
    (case k_is_ratio_word => k_is)
    (case a_ratio => k_is)
    (case l_ratio => k_is)
    (case c_ratio => k_is)
    (case k_ratio => k_is)
    (case a_ratio_text => k_is)
    (case l_ratio_text => k_is)
    (case c_ratio_text => k_is)
    (case k_ratio_text => k_is)
    (case a_parse_ratio => k_is)
    (case l_parse_ratio => k_is)
    (case c_parse_ratio => k_is)
    (case k_parse_ratio => k_is)
    (case a_law_pool => k_is)
    (case l_law_pool => k_is)
    (case c_law_pool => k_is)
    (case k_law_pool => k_is)
    (case a_law_take => k_is)
    (case l_law_take => k_is)
    (case c_law_take => k_is)
    (case k_law_take => k_is)
    (case a_law_whole => k_is)
    (case l_law_whole => k_is)
    (case c_law_whole => k_is)
    (case k_law_whole => k_is)
    (case a_law_sized => k_is)
    (case l_law_sized => k_is)
    (case c_law_sized => k_is)
    (case k_law_sized => k_is)
    (case a_law_lowest => k_is)
    (case l_law_lowest => k_is)
    (case c_law_lowest => k_is)
    (case k_law_lowest => k_is)
    (case a_law_digits => k_is)
    (case l_law_digits => k_is)
    (case c_law_digits => k_is)
    (case k_law_digits => k_is)
    (case a_law_word => k_is)
    (case l_law_word => k_is)
    (case c_law_word => k_is)
    (case k_law_word => k_is)
    (case a_law_signs => k_is)
    (case l_law_signs => k_is)
    (case c_law_signs => k_is)
    (case k_law_signs => k_is)
    (case a_law_sign => k_is)
    (case l_law_sign => k_is)
    (case c_law_sign => k_is)
    (case k_law_sign => k_is)
    (case a_law_spoilt => k_is)
    (case l_law_spoilt => k_is)
    (case c_law_spoilt => k_is)
    (case k_law_spoilt => k_is)
    (case a_law_odd => k_is)
    (case l_law_odd => k_is)
    (case c_law_odd => k_is)
    (case k_law_odd => k_is)
    (case a_law_free => k_is)
    (case l_law_free => k_is)
    (case c_law_free => k_is)
    (case k_law_free => k_is)
    (case a_law_text => k_is)
    (case l_law_text => k_is)
    (case c_law_text => k_is)
    (case k_law_text => k_is)
    (case a_law_step => k_is)
    (case l_law_step => k_is)
    (case c_law_step => k_is)
    (case k_law_step => k_is)
    (case a_law_read => k_is)
    (case l_law_read => k_is)
    (case c_law_read => k_is)
    (case k_law_read => k_is)
    (case a_law_is => k_is)
    (case l_law_is => k_is)
    (case c_law_is => k_is)
    (case k_law_is => k_is)
    (case a_law_refused => k_is)
    (case l_law_refused => k_is)
    (case c_law_refused => k_is)
    (case k_law_refused => k_is)
    (case a_law_refused_by_base => k_is)
    (case l_law_refused_by_base => k_is)
    (case c_law_refused_by_base => k_is)
    (case k_law_refused_by_base => k_is)
    (case a_law_asked => k_is)
    (case l_law_asked => k_is)
    (case c_law_asked => k_is)
    (case k_law_asked => k_is)
    (case a_law_written => k_is)
    (case l_law_written => k_is)
    (case c_law_written => k_is)
    (case k_law_written => k_is)
    (case a_law => k_is)
    (case l_law => k_is)
    (case c_law => k_is)
    (case k_law => k_is)
    (case z_ValueError => k_is)
    (case z_abs => k_is)
    (case z_bool_ => k_is)
    (case z_int_ => k_is)
    (case z_isinstance => k_is)
    (case z_len => k_is)
    (case z_max_ => k_is)
    (case z_min_ => k_is)
    (case z_range => k_is)
    (case z_str_ => k_is)
    (case z_tuple_ => k_is)
    (case z_gcd => k_is)
    (case z_DIGITS => k_is)
    (case e_gT => k_is)
    (case e_gP => k_is)
    (case e_c1 => k_is)
    (case i_c1 => k_is)
    (case y_c1 => k_is)
    (case s_c1 => k_is)
    (case n_c1 => decide)
    (case e_c2 => k_is)
    (case i_c2 => k_is)
    (case y_c2 => k_is)
    (case s_c2 => k_is)
    (case n_c2 => decide)
    (case e_c3 => k_is)
    (case i_c3 => k_is)
    (case y_c3 => k_is)
    (case s_c3 => k_is)
    (case n_c3 => decide)
    (case e_c4 => k_is)
    (case i_c4 => k_is)
    (case y_c4 => k_is)
    (case s_c4 => k_is)
    (case n_c4 => decide)
    (case e_c5 => k_is)
    (case i_c5 => k_is)
    (case y_c5 => k_is)
    (case s_c5 => k_is)
    (case n_c5 => decide)
    (case e_c6 => k_is)
    (case i_c6 => k_is)
    (case y_c6 => k_is)
    (case s_c6 => k_is)
    (case n_c6 => decide)
    (case e_d1 => k_is)
    (case i_d1 => k_is)
    (case y_d1 => k_is)
    (case s_d1 => k_is)
    (case n_d1 => decide)
    (case e_d2 => k_is)
    (case i_d2 => k_is)
    (case y_d2 => k_is)
    (case s_d2 => k_is)
    (case n_d2 => decide)
    (case e_d3 => k_is)
    (case i_d3 => k_is)
    (case y_d3 => k_is)
    (case s_d3 => k_is)
    (case n_d3 => decide)
    (case e_d4 => k_is)
    (case i_d4 => k_is)
    (case y_d4 => k_is)
    (case s_d4 => k_is)
    (case n_d4 => decide)
    (case r_q => k_exc)
    (case r_k => k_is)
    (case r_b => k_is)
    (case o_l => k_is)
    (case o_r => decide)
    (case o_sa => k_is)
    (case o_nf => k_is)
    (case x_k => k_is)
    (case x_b => k_is)
    (case x_t => k_is)
    (case x_i => k_is)
    (case x_s => k_is)
    (case x_sp => k_is)
    (case x_v => k_is)
    (case p_b => k_is)
    (case p_t => k_is)
    (case p_i => k_is)
    (case x_hg => k_is)
    (case x_hk => k_is)
    (case x_hd => k_is)
    (case x_ha => k_is)
    (case x_hn => k_is)
    (case x_ht => k_is)
    (case x_hm => k_is)
    (case a_BadText___init__ => k_is)
    (case i_BadText___init__ => k_is)
    (case l_BadText___init__ => k_is)
    (case c_BadText___init__ => k_is)
    (case k_BadText___init__ => k_is)
    (case t_ratio => k_is)
#print axioms PySem.Challenge.cw_solvedpapers_k96_ratio_words_holds

