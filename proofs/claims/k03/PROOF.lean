import PyProof.Rows.All
import Wide.All
import OpenK.AllK
import Wide.FinOn
import HandS.ForMost
import HandS.Exc
import HandS.TryOnly
import HandS.ExcOwn
import HandS.WordsExc
import HandS.Wide
import HandS.WideBits
import HandS.Gcd
import HandS.IsInst
import HandS.ExcIs
import HandS.Defaults
import HandS.Flow
import HandS.Small
import HandS.More
import HandS.SortInts
import HandS.TupAny
import HandS.DeepEq
import HandS.Conv
import HandS.OwnIter
import HandS.IterNext
import HandS.ExcValue
import HandS.RevRange
import PySem.Challenge.RW_solvedpapers_k03_trimmed_lists
set_option Elab.async false
set_option linter.all false
set_option maxRecDepth 100000
set_option maxHeartbeats 4000000
namespace Px
open PySem PySem.Spec PyProof.Rows L2
/-! ### applied readings -/
section
variable {K : PySem.W.Frag} {σ : L2.St} {H : Hp} {D : Ends} {Q : VK} {QA : List V → Hp → Prop} {QB : Bool → Hp → Prop} {ta tb te : TE} {t u : TS} {c d : TT} {tl tr : TA} {g : TG} {v : V} {r : R2}

theorem v0 {r : L2.St} : (tVar 0 (some v :: r) H Q) = (Q v H) := propext ⟨fun ⟨_, e, q⟩ => by cases e; exact q, fun q => ⟨v, rfl, q⟩⟩
theorem v1 {a0 : Option V} {r : L2.St} : (tVar 1 (a0 :: some v :: r) H Q) = (Q v H) := propext ⟨fun ⟨_, e, q⟩ => by cases e; exact q, fun q => ⟨v, rfl, q⟩⟩
theorem v2 {a0 a1 : Option V} {r : L2.St} : (tVar 2 (a0 :: a1 :: some v :: r) H Q) = (Q v H) := propext ⟨fun ⟨_, e, q⟩ => by cases e; exact q, fun q => ⟨v, rfl, q⟩⟩
theorem v3 {a0 a1 a2 : Option V} {r : L2.St} : (tVar 3 (a0 :: a1 :: a2 :: some v :: r) H Q) = (Q v H) := propext ⟨fun ⟨_, e, q⟩ => by cases e; exact q, fun q => ⟨v, rfl, q⟩⟩
theorem v4 {a0 a1 a2 a3 : Option V} {r : L2.St} : (tVar 4 (a0 :: a1 :: a2 :: a3 :: some v :: r) H Q) = (Q v H) := propext ⟨fun ⟨_, e, q⟩ => by cases e; exact q, fun q => ⟨v, rfl, q⟩⟩
theorem v5 {a0 a1 a2 a3 a4 : Option V} {r : L2.St} : (tVar 5 (a0 :: a1 :: a2 :: a3 :: a4 :: some v :: r) H Q) = (Q v H) := propext ⟨fun ⟨_, e, q⟩ => by cases e; exact q, fun q => ⟨v, rfl, q⟩⟩
theorem v6 {a0 a1 a2 a3 a4 a5 : Option V} {r : L2.St} : (tVar 6 (a0 :: a1 :: a2 :: a3 :: a4 :: a5 :: some v :: r) H Q) = (Q v H) := propext ⟨fun ⟨_, e, q⟩ => by cases e; exact q, fun q => ⟨v, rfl, q⟩⟩
theorem v7 {a0 a1 a2 a3 a4 a5 a6 : Option V} {r : L2.St} : (tVar 7 (a0 :: a1 :: a2 :: a3 :: a4 :: a5 :: a6 :: some v :: r) H Q) = (Q v H) := propext ⟨fun ⟨_, e, q⟩ => by cases e; exact q, fun q => ⟨v, rfl, q⟩⟩
theorem v8 {a0 a1 a2 a3 a4 a5 a6 a7 : Option V} {r : L2.St} : (tVar 8 (a0 :: a1 :: a2 :: a3 :: a4 :: a5 :: a6 :: a7 :: some v :: r) H Q) = (Q v H) := propext ⟨fun ⟨_, e, q⟩ => by cases e; exact q, fun q => ⟨v, rfl, q⟩⟩
theorem v9 {a0 a1 a2 a3 a4 a5 a6 a7 a8 : Option V} {r : L2.St} : (tVar 9 (a0 :: a1 :: a2 :: a3 :: a4 :: a5 :: a6 :: a7 :: a8 :: some v :: r) H Q) = (Q v H) := propext ⟨fun ⟨_, e, q⟩ => by cases e; exact q, fun q => ⟨v, rfl, q⟩⟩
theorem v10 {a0 a1 a2 a3 a4 a5 a6 a7 a8 a9 : Option V} {r : L2.St} : (tVar 10 (a0 :: a1 :: a2 :: a3 :: a4 :: a5 :: a6 :: a7 :: a8 :: a9 :: some v :: r) H Q) = (Q v H) := propext ⟨fun ⟨_, e, q⟩ => by cases e; exact q, fun q => ⟨v, rfl, q⟩⟩
theorem v11 {a0 a1 a2 a3 a4 a5 a6 a7 a8 a9 a10 : Option V} {r : L2.St} : (tVar 11 (a0 :: a1 :: a2 :: a3 :: a4 :: a5 :: a6 :: a7 :: a8 :: a9 :: a10 :: some v :: r) H Q) = (Q v H) := propext ⟨fun ⟨_, e, q⟩ => by cases e; exact q, fun q => ⟨v, rfl, q⟩⟩
theorem v12 {a0 a1 a2 a3 a4 a5 a6 a7 a8 a9 a10 a11 : Option V} {r : L2.St} : (tVar 12 (a0 :: a1 :: a2 :: a3 :: a4 :: a5 :: a6 :: a7 :: a8 :: a9 :: a10 :: a11 :: some v :: r) H Q) = (Q v H) := propext ⟨fun ⟨_, e, q⟩ => by cases e; exact q, fun q => ⟨v, rfl, q⟩⟩
theorem v13 {a0 a1 a2 a3 a4 a5 a6 a7 a8 a9 a10 a11 a12 : Option V} {r : L2.St} : (tVar 13 (a0 :: a1 :: a2 :: a3 :: a4 :: a5 :: a6 :: a7 :: a8 :: a9 :: a10 :: a11 :: a12 :: some v :: r) H Q) = (Q v H) := propext ⟨fun ⟨_, e, q⟩ => by cases e; exact q, fun q => ⟨v, rfl, q⟩⟩
theorem v14 {a0 a1 a2 a3 a4 a5 a6 a7 a8 a9 a10 a11 a12 a13 : Option V} {r : L2.St} : (tVar 14 (a0 :: a1 :: a2 :: a3 :: a4 :: a5 :: a6 :: a7 :: a8 :: a9 :: a10 :: a11 :: a12 :: a13 :: some v :: r) H Q) = (Q v H) := propext ⟨fun ⟨_, e, q⟩ => by cases e; exact q, fun q => ⟨v, rfl, q⟩⟩
theorem v15 {a0 a1 a2 a3 a4 a5 a6 a7 a8 a9 a10 a11 a12 a13 a14 : Option V} {r : L2.St} : (tVar 15 (a0 :: a1 :: a2 :: a3 :: a4 :: a5 :: a6 :: a7 :: a8 :: a9 :: a10 :: a11 :: a12 :: a13 :: a14 :: some v :: r) H Q) = (Q v H) := propext ⟨fun ⟨_, e, q⟩ => by cases e; exact q, fun q => ⟨v, rfl, q⟩⟩
theorem v16 {a0 a1 a2 a3 a4 a5 a6 a7 a8 a9 a10 a11 a12 a13 a14 a15 : Option V} {r : L2.St} : (tVar 16 (a0 :: a1 :: a2 :: a3 :: a4 :: a5 :: a6 :: a7 :: a8 :: a9 :: a10 :: a11 :: a12 :: a13 :: a14 :: a15 :: some v :: r) H Q) = (Q v H) := propext ⟨fun ⟨_, e, q⟩ => by cases e; exact q, fun q => ⟨v, rfl, q⟩⟩
theorem v17 {a0 a1 a2 a3 a4 a5 a6 a7 a8 a9 a10 a11 a12 a13 a14 a15 a16 : Option V} {r : L2.St} : (tVar 17 (a0 :: a1 :: a2 :: a3 :: a4 :: a5 :: a6 :: a7 :: a8 :: a9 :: a10 :: a11 :: a12 :: a13 :: a14 :: a15 :: a16 :: some v :: r) H Q) = (Q v H) := propext ⟨fun ⟨_, e, q⟩ => by cases e; exact q, fun q => ⟨v, rfl, q⟩⟩
theorem v18 {a0 a1 a2 a3 a4 a5 a6 a7 a8 a9 a10 a11 a12 a13 a14 a15 a16 a17 : Option V} {r : L2.St} : (tVar 18 (a0 :: a1 :: a2 :: a3 :: a4 :: a5 :: a6 :: a7 :: a8 :: a9 :: a10 :: a11 :: a12 :: a13 :: a14 :: a15 :: a16 :: a17 :: some v :: r) H Q) = (Q v H) := propext ⟨fun ⟨_, e, q⟩ => by cases e; exact q, fun q => ⟨v, rfl, q⟩⟩
theorem v19 {a0 a1 a2 a3 a4 a5 a6 a7 a8 a9 a10 a11 a12 a13 a14 a15 a16 a17 a18 : Option V} {r : L2.St} : (tVar 19 (a0 :: a1 :: a2 :: a3 :: a4 :: a5 :: a6 :: a7 :: a8 :: a9 :: a10 :: a11 :: a12 :: a13 :: a14 :: a15 :: a16 :: a17 :: a18 :: some v :: r) H Q) = (Q v H) := propext ⟨fun ⟨_, e, q⟩ => by cases e; exact q, fun q => ⟨v, rfl, q⟩⟩
theorem v20 {a0 a1 a2 a3 a4 a5 a6 a7 a8 a9 a10 a11 a12 a13 a14 a15 a16 a17 a18 a19 : Option V} {r : L2.St} : (tVar 20 (a0 :: a1 :: a2 :: a3 :: a4 :: a5 :: a6 :: a7 :: a8 :: a9 :: a10 :: a11 :: a12 :: a13 :: a14 :: a15 :: a16 :: a17 :: a18 :: a19 :: some v :: r) H Q) = (Q v H) := propext ⟨fun ⟨_, e, q⟩ => by cases e; exact q, fun q => ⟨v, rfl, q⟩⟩
theorem v21 {a0 a1 a2 a3 a4 a5 a6 a7 a8 a9 a10 a11 a12 a13 a14 a15 a16 a17 a18 a19 a20 : Option V} {r : L2.St} : (tVar 21 (a0 :: a1 :: a2 :: a3 :: a4 :: a5 :: a6 :: a7 :: a8 :: a9 :: a10 :: a11 :: a12 :: a13 :: a14 :: a15 :: a16 :: a17 :: a18 :: a19 :: a20 :: some v :: r) H Q) = (Q v H) := propext ⟨fun ⟨_, e, q⟩ => by cases e; exact q, fun q => ⟨v, rfl, q⟩⟩
theorem v22 {a0 a1 a2 a3 a4 a5 a6 a7 a8 a9 a10 a11 a12 a13 a14 a15 a16 a17 a18 a19 a20 a21 : Option V} {r : L2.St} : (tVar 22 (a0 :: a1 :: a2 :: a3 :: a4 :: a5 :: a6 :: a7 :: a8 :: a9 :: a10 :: a11 :: a12 :: a13 :: a14 :: a15 :: a16 :: a17 :: a18 :: a19 :: a20 :: a21 :: some v :: r) H Q) = (Q v H) := propext ⟨fun ⟨_, e, q⟩ => by cases e; exact q, fun q => ⟨v, rfl, q⟩⟩
theorem v23 {a0 a1 a2 a3 a4 a5 a6 a7 a8 a9 a10 a11 a12 a13 a14 a15 a16 a17 a18 a19 a20 a21 a22 : Option V} {r : L2.St} : (tVar 23 (a0 :: a1 :: a2 :: a3 :: a4 :: a5 :: a6 :: a7 :: a8 :: a9 :: a10 :: a11 :: a12 :: a13 :: a14 :: a15 :: a16 :: a17 :: a18 :: a19 :: a20 :: a21 :: a22 :: some v :: r) H Q) = (Q v H) := propext ⟨fun ⟨_, e, q⟩ => by cases e; exact q, fun q => ⟨v, rfl, q⟩⟩
theorem c0  : (tC v σ H Q) = (Q v H) := rfl
theorem seq  : (tSeq t u D σ H) = (t { D with nx := u D } σ H) := rfl
theorem asg  : (tAsg te g D σ H) = (te σ H fun x H1 => g x σ H1 D.nx) := rfl
theorem gnm {i : Nat} {QS : L2.St → Hp → Prop} : (gName i v σ H QS) = (QS (σ.set i (some v)) H) := rfl
theorem ret  : (tRet te D σ H) = (te σ H D.rt) := rfl
theorem retN  : (tRetN D σ H) = (D.rt .non H) := rfl
theorem drop  : (tDrop te D σ H) = (te σ H fun _ H1 => D.nx σ H1) := rfl
theorem nxt  : (tNext D σ H) = (D.nx σ H) := rfl
theorem brk  : (tBreak D σ H) = (D.bk σ H) := rfl
theorem cnt  : (tCont D σ H) = (D.ct σ H) := rfl
theorem ifs  : (tIfS c t u D σ H) = (c σ H fun b H1 => if b = true then t D σ H1 else u D σ H1) := rfl
theorem op  : (tOp r ta tb σ H Q) = (ta σ H fun x H1 => tb σ H1 fun y H2 => r x y H2 Q) := rfl
theorem un {f : V → Hp → VK → Prop} : (tUn f ta σ H Q) = (ta σ H fun x H1 => f x H1 Q) := rfl
theorem tst  : (tTest te σ H QB) = (te σ H fun x H1 => ∃ k, x = .bl k ∧ QB k H1) := rfl
theorem tbl  : (tB te σ H QB) = (te σ H fun x H1 => ∃ k, x = .bl k ∧ QB k H1) := rfl
theorem tand  : (tAnd c d σ H QB) = (c σ H fun b H1 => if b = true then d σ H1 QB else QB false H1) := rfl
theorem tor  : (tOr c d σ H QB) = (c σ H fun b H1 => if b = true then QB true H1 else d σ H1 QB) := rfl
theorem tnot  : (tNot c σ H QB) = (c σ H fun b H1 => QB (!b) H1) := rfl
theorem andv  : (tAndV ta tb σ H Q) = (ta σ H fun x H1 => ∃ b, x = .bl b ∧ if b = true then tb σ H1 Q else Q (.bl false) H1) := rfl
theorem orv  : (tOrV ta tb σ H Q) = (ta σ H fun x H1 => ∃ b, x = .bl b ∧ if b = true then Q (.bl true) H1 else tb σ H1 Q) := rfl
theorem notv  : (tNotV ta σ H Q) = (ta σ H fun x H1 => ∃ b, x = .bl b ∧ Q (.bl (!b)) H1) := rfl
theorem tif  : (tIf c ta tb σ H Q) = (c σ H fun b H1 => if b = true then ta σ H1 Q else tb σ H1 Q) := rfl
theorem tup  : (tTup tl σ H Q) = (tl σ H fun xs H1 => xs.length ≤ sizeLine ∧ ∀ p, H1 p = none → Q (.ref p) (upd H1 p (.tup xs))) := rfl
theorem lst  : (tLst tl σ H Q) = (tl σ H fun xs H1 => xs.length ≤ sizeLine ∧ ∀ p, H1 p = none → Q (.ref p) (upd H1 p (.lst xs))) := rfl
theorem nil  : (tNil σ H QA) = (QA [] H) := rfl
theorem cons  : (tCons ta tl σ H QA) = (ta σ H fun x H1 => tl σ H1 fun xs H2 => QA (x :: xs) H2) := rfl
theorem cal {sp : Sp} {dvs : List V} {E : XK} : (tCall sp dvs E tl σ H Q) = (tl σ H fun vs H1 => sp (vs ++ dvs) H1 Q E) := rfl
theorem calS {sp : Sp} {E : L2.St → XK} : (tCallS sp E tl σ H Q) = (tl σ H fun vs H1 => sp vs H1 Q (E σ)) := rfl
theorem cb {f : List V → Hp → VK → Prop} : (tCB f tl σ H Q) = (tl σ H fun vs H1 => f vs H1 Q) := rfl
theorem par {i j : Nat} : (tPar i j tl D σ H) = (tl σ H fun vs H1 => ∃ v w, vs = [v, w] ∧ D.nx ((σ.set i (some v)).set j (some w)) H1) := rfl
theorem gsub {ts : TSet} {QS : L2.St → Hp → Prop} : (gSub ta tb ts v σ H QS) = (ta σ H fun o H1 => tb σ H1 fun i H2 => ts o i v H2 fun H3 => QS σ H3) := rfl
theorem bits  : (tBits ta σ H Q) = (ta σ H fun x H1 => ∃ i, x = .int i ∧ Q (.int (Builtin.Int.intBits i : Nat)) H1) := rfl
theorem bm {T : String} {f : V → List V → Hp → VK → Prop} : (tBM K T f ta tl σ H Q) = (ta σ H fun x H1 => tyV K T x H1 ∧ tl σ H1 fun xs H2 => f x xs H2 Q) := rfl
theorem bm0 {T : String} {f : V → List V → Hp → VK → Prop} : (tBM0 K T f ta σ H Q) = (ta σ H fun x H1 => tyV K T x H1 ∧ f x [] H1 Q) := rfl
theorem ri {C : Int → Int → Prop} {f : Int → Int → V} {x y : V} : (rI C f x y H Q) = (∃ i j, x = .int i ∧ y = .int j ∧ C i j ∧ Q (f i j) H) := rfl
theorem ri0 {f : Int → Int → V} {x y : V} : (rI0 f x y H Q) = (∃ i j, x = .int i ∧ y = .int j ∧ Q (f i j) H) := rfl
theorem ru {f : Int → V} {x : V} : (rU f x H Q) = (∃ i, x = .int i ∧ Q (f i) H) := rfl
theorem req {x y : V} : (rEq x y H Q) = (scal x y = true ∧ Q (.bl (decide (x = y))) H) := rfl
theorem rne {x y : V} : (rNe x y H Q) = (scal x y = true ∧ Q (.bl (!decide (x = y))) H) := rfl
end

theorem sc_ii {i j : Int} : scal (.int i) (.int j) = true := rfl
theorem sc_bb {i j : Bool} : scal (.bl i) (.bl j) = true := rfl
theorem sc_ss {i j : Str} : scal (.str i) (.str j) = true := rfl
theorem atI0 {α : Type} {a0 : α} {r : List α} : atI (a0 :: r) 0 = some a0 := atI_nat (j := 0) rfl
theorem ixN0 {m : Nat} : ixN (m + 1) 0 = some 0 := by unfold ixN; rw [if_pos (by omega), if_pos (by omega)]; rfl
theorem atI1 {α : Type} {a0 a1 : α} {r : List α} : atI (a0 :: a1 :: r) 1 = some a1 := atI_nat (j := 1) rfl
theorem ixN1 {m : Nat} : ixN (m + 2) 1 = some 1 := by unfold ixN; rw [if_pos (by omega), if_pos (by omega)]; rfl
theorem atI2 {α : Type} {a0 a1 a2 : α} {r : List α} : atI (a0 :: a1 :: a2 :: r) 2 = some a2 := atI_nat (j := 2) rfl
theorem ixN2 {m : Nat} : ixN (m + 3) 2 = some 2 := by unfold ixN; rw [if_pos (by omega), if_pos (by omega)]; rfl
theorem atI3 {α : Type} {a0 a1 a2 a3 : α} {r : List α} : atI (a0 :: a1 :: a2 :: a3 :: r) 3 = some a3 := atI_nat (j := 3) rfl
theorem ixN3 {m : Nat} : ixN (m + 4) 3 = some 3 := by unfold ixN; rw [if_pos (by omega), if_pos (by omega)]; rfl
theorem atI4 {α : Type} {a0 a1 a2 a3 a4 : α} {r : List α} : atI (a0 :: a1 :: a2 :: a3 :: a4 :: r) 4 = some a4 := atI_nat (j := 4) rfl
theorem ixN4 {m : Nat} : ixN (m + 5) 4 = some 4 := by unfold ixN; rw [if_pos (by omega), if_pos (by omega)]; rfl
theorem atI5 {α : Type} {a0 a1 a2 a3 a4 a5 : α} {r : List α} : atI (a0 :: a1 :: a2 :: a3 :: a4 :: a5 :: r) 5 = some a5 := atI_nat (j := 5) rfl
theorem ixN5 {m : Nat} : ixN (m + 6) 5 = some 5 := by unfold ixN; rw [if_pos (by omega), if_pos (by omega)]; rfl
theorem atI6 {α : Type} {a0 a1 a2 a3 a4 a5 a6 : α} {r : List α} : atI (a0 :: a1 :: a2 :: a3 :: a4 :: a5 :: a6 :: r) 6 = some a6 := atI_nat (j := 6) rfl
theorem ixN6 {m : Nat} : ixN (m + 7) 6 = some 6 := by unfold ixN; rw [if_pos (by omega), if_pos (by omega)]; rfl
theorem atI7 {α : Type} {a0 a1 a2 a3 a4 a5 a6 a7 : α} {r : List α} : atI (a0 :: a1 :: a2 :: a3 :: a4 :: a5 :: a6 :: a7 :: r) 7 = some a7 := atI_nat (j := 7) rfl
theorem ixN7 {m : Nat} : ixN (m + 8) 7 = some 7 := by unfold ixN; rw [if_pos (by omega), if_pos (by omega)]; rfl
/-! ### heaps -/
theorem updI {H : Hp} {p q : Addr} {o : HO} (hp : H p = none) (hq : (H q).isSome = true) : upd H p o q = H q := by
  refine upd_ne fun e => ?_
  rw [e, hp] at hq
  cases hq
/-- the sequence at an address -/
def seqH : Option HO → Option (List V)
  | some (.tup xs) => some xs
  | some (.lst xs) => some xs
  | some (.frz _ (.lst xs)) => some xs
  | some (.frz _ (.tup xs)) => some xs
  | _ => none
theorem seqH_t {xs : List V} : seqH (some (.tup xs)) = some xs := rfl
theorem seqH_l {xs : List V} : seqH (some (.lst xs)) = some xs := rfl
theorem seqH_fl {o : Obj} {xs : List V} : seqH (some (.frz o (.lst xs))) = some xs := rfl
theorem seqH_or {K : PySem.W.Frag} {H : Hp} {a : Addr} {xs : List V} (h : seqH (H a) = some xs) : SqL K H a xs ∨ SqT K H a xs := by
  unfold seqH at h
  split at h
  · rename_i e
    cases h
    exact .inr (.inl (.inl e))
  · rename_i e
    cases h
    exact .inl (.inl (.inl e))
  · rename_i e
    cases h
    exact .inl (.inl (.inr ⟨_, e⟩))
  · rename_i e
    cases h
    exact .inr (.inl (.inr ⟨_, e⟩))
  · cases h
/-- x[i], a list or a tuple that H knows -/
def rIxH : R2 := fun x y H Q => ∃ p i xs v, x = .ref p ∧ y = .int i ∧ seqH (H p) = some xs ∧ atI xs i = some v ∧ Q v H
def rLenH : List V → Hp → VK → Prop := fun vs H Q => ∃ p xs, vs = [.ref p] ∧ seqH (H p) = some xs ∧ Q (.int xs.length) H
def rInH (neg : Bool) : R2 := fun x y H Q => ∃ p xs, y = .ref p ∧ seqH (H p) = some xs ∧ flatV x = true ∧ xs.all flatV = true ∧ Q (.bl (if neg then !inV x xs else inV x xs)) H
section
variable {X : Cx}
theorem ix_H : IxR X rIxH := by
  intro value slice pins s σ H x y v u Q I rx ry q hs
  obtain ⟨p, i, xs, w, e1, e2, h, a, q⟩ := q
  rcases seqH_or (K := X.K) h with h | h
  · exact ix_list value slice pins s σ H x y v u Q I rx ry ⟨p, xs, i, w, e1, e2, h, a, q⟩ hs
  · exact ix_tup value slice pins s σ H x y v u Q I rx ry ⟨p, xs, i, w, e1, e2, h, a, q⟩ hs
theorem len_H : CallR X (.builtin "len") rLenH := by
  intro pins s σ H xs us Q I r q
  obtain ⟨p, ys, e, h, q⟩ := q
  exact call_len_seq pins s σ H xs us Q I r ⟨p, ys, e, seqH_or h, q⟩
theorem in_H : OpR X (compareOp .In) (rInH false) := by
  intro pins s σ H x y v u Q I rx ry q
  obtain ⟨p, xs, e, h, a, b, q⟩ := q
  exact op_in_seq pins s σ H x y v u Q I rx ry ⟨p, xs, e, seqH_or h, a, b, q⟩
theorem notIn_H : OpR X (compareOp .NotIn) (rInH true) := by
  intro pins s σ H x y v u Q I rx ry q
  obtain ⟨p, xs, e, h, a, b, q⟩ := q
  exact op_notIn_seq pins s σ H x y v u Q I rx ry ⟨p, xs, e, seqH_or h, a, b, q⟩
end
section
variable {H : Hp} {Q : VK}
theorem rix {x y : V} : rIxH x y H Q = ∃ p i xs v, x = .ref p ∧ y = .int i ∧ seqH (H p) = some xs ∧ atI xs i = some v ∧ Q v H := rfl
theorem rixl {K : PySem.W.Frag} {x y : V} : rIxL K x y H Q = ∃ p xs i v, x = .ref p ∧ y = .int i ∧ SqL K H p xs ∧ atI xs i = some v ∧ Q v H := rfl
theorem rixt {K : PySem.W.Frag} {x y : V} : rIxT K x y H Q = ∃ p xs i v, x = .ref p ∧ y = .int i ∧ SqT K H p xs ∧ atI xs i = some v ∧ Q v H := rfl
theorem rlen {vs : List V} : rLenH vs H Q = ∃ p xs, vs = [.ref p] ∧ seqH (H p) = some xs ∧ Q (.int xs.length) H := rfl
theorem rin {b : Bool} {x y : V} : rInH b x y H Q = ∃ p xs, y = .ref p ∧ seqH (H p) = some xs ∧ flatV x = true ∧ xs.all flatV = true ∧ Q (.bl (if b then !inV x xs else inV x xs)) H := rfl
theorem rsetl {o i v : V} {QS : Hp → Prop} : rSetL o i v H QS = ∃ p xs k j, o = .ref p ∧ i = .int k ∧ H p = some (.lst xs) ∧ ixN xs.length k = some j ∧ QS (upd H p (.lst (xs.set j v))) := rfl
end
/-! ### a, b = a tuple -/
def gTupH (n : Nat) (t : TGs) : TG := fun v σ H Q => ∃ a xs, v = .ref a ∧ H a = some (.tup xs) ∧ xs.length = n ∧ t xs σ H Q
theorem pg_tupH {X : Cx} {pos : Pos} {es : List Expr} {k : Nat} {t : TGs} {n : Nat} (hc : X.calm = true) (h : PGs X es t) (hn : (assignEach es X.env).length = n := by rfl) (hst : (assignEach es X.env).findIdx? (·.1) = none := by rfl) : PG X (.Tuple es k pos) (gTupH n t) :=
  ⟨fun pins s σ H v u Q I r ⟨a, xs, e, ha, hl, q⟩ => (pg_tup hc h hn hst).run pins s σ H v u Q I r ⟨a, xs, e, .inl (.inl ha), hl, q⟩⟩
section
variable {n : Nat} {t : TG} {u : TGs} {v : V} {vs : List V} {σ : L2.St} {H : Hp} {Q : L2.St → Hp → Prop}
theorem gtup : gTupH n u v σ H Q = ∃ a xs, v = .ref a ∧ H a = some (.tup xs) ∧ xs.length = n ∧ u xs σ H Q := rfl
theorem gcons : gCons t u vs σ H Q = ∃ v r, vs = v :: r ∧ t v σ H fun σ' H' => u r σ' H' Q := rfl
theorem gnil : gNil vs σ H Q = (vs = [] ∧ Q σ H) := rfl
end
/-! ### isinstance -/
/-- the name of a value's type, where H tells it -/
def tyH (H : Hp) : V → Option String
  | .non => some "NoneType"
  | .bl _ => some "bool"
  | .int _ => some "int"
  | .str _ => some "str"
  | .ref a => match H a with
    | some (.lst _) => some "list"
    | some (.tup _) => some "tuple"
    | some (.dK _) => some "dict"
    | _ => none
  | _ => none
theorem tyH_ok {K : PySem.W.Frag} {H : Hp} {x : V} {t : String} (h : tyH H x = some t) : TyX K H x (.type t) := by
  cases x with
  | non => cases h; exact .base .non
  | bl b => cases h; exact .base (.bl b)
  | int i => cases h; exact .base (.int i)
  | str z => cases h; exact .base (.str z)
  | byt b => cases h
  | flt b => cases h
  | ty n => cases h
  | ref a =>
    unfold tyH at h
    dsimp only at h
    split at h
    · rename_i e; cases h; exact .base (.lst e)
    · rename_i e; cases h; exact .base (.tup e)
    · rename_i e; cases h; exact .base (.dK e)
    · cases h
def rIsiH : List V → Hp → VK → Prop := fun xs H Q => ∃ x T t b, xs = [x, .ty T] ∧ tyH H x = some t ∧ kitB t T = some b ∧ Q (.bl b) H
theorem isi_H {X : Cx} : CallR X (.builtin "isinstance") rIsiH := by
  intro pins s σ H xs us Q I r q
  obtain ⟨x, T, t, b, e, h, k, q⟩ := q
  exact call_isi pins s σ H xs us Q I r ⟨x, .ty T, .type t, .type T, b, e, .ty T, tyH_ok h, kit_ty k, q⟩
theorem risi {xs : List V} {H : Hp} {Q : VK} : rIsiH xs H Q = ∃ x T t b, xs = [x, .ty T] ∧ tyH H x = some t ∧ kitB t T = some b ∧ Q (.bl b) H := rfl
theorem tyH_n {H : Hp} : tyH H .non = some "NoneType" := rfl
theorem tyH_b {H : Hp} {b : Bool} : tyH H (.bl b) = some "bool" := rfl
theorem tyH_i {H : Hp} {i : Int} : tyH H (.int i) = some "int" := rfl
theorem tyH_s {H : Hp} {z : Str} : tyH H (.str z) = some "str" := rfl
theorem tyH_r {H : Hp} {a : Addr} : tyH H (.ref a) = (match H a with | some (.lst _) => some "list" | some (.tup _) => some "tuple" | some (.dK _) => some "dict" | _ => none) := rfl
theorem kb_NoneType_int : kitB "NoneType" "int" = some false := by decide +kernel
theorem kb_NoneType_bool : kitB "NoneType" "bool" = some false := by decide +kernel
theorem kb_NoneType_str : kitB "NoneType" "str" = some false := by decide +kernel
theorem kb_NoneType_list : kitB "NoneType" "list" = some false := by decide +kernel
theorem kb_NoneType_tuple : kitB "NoneType" "tuple" = some false := by decide +kernel
theorem kb_NoneType_dict : kitB "NoneType" "dict" = some false := by decide +kernel
theorem kb_bool_int : kitB "bool" "int" = some true := by decide +kernel
theorem kb_bool_bool : kitB "bool" "bool" = some true := by decide +kernel
theorem kb_bool_str : kitB "bool" "str" = some false := by decide +kernel
theorem kb_bool_list : kitB "bool" "list" = some false := by decide +kernel
theorem kb_bool_tuple : kitB "bool" "tuple" = some false := by decide +kernel
theorem kb_bool_dict : kitB "bool" "dict" = some false := by decide +kernel
theorem kb_int_int : kitB "int" "int" = some true := by decide +kernel
theorem kb_int_bool : kitB "int" "bool" = some false := by decide +kernel
theorem kb_int_str : kitB "int" "str" = some false := by decide +kernel
theorem kb_int_list : kitB "int" "list" = some false := by decide +kernel
theorem kb_int_tuple : kitB "int" "tuple" = some false := by decide +kernel
theorem kb_int_dict : kitB "int" "dict" = some false := by decide +kernel
theorem kb_str_int : kitB "str" "int" = some false := by decide +kernel
theorem kb_str_bool : kitB "str" "bool" = some false := by decide +kernel
theorem kb_str_str : kitB "str" "str" = some true := by decide +kernel
theorem kb_str_list : kitB "str" "list" = some false := by decide +kernel
theorem kb_str_tuple : kitB "str" "tuple" = some false := by decide +kernel
theorem kb_str_dict : kitB "str" "dict" = some false := by decide +kernel
theorem kb_list_int : kitB "list" "int" = some false := by decide +kernel
theorem kb_list_bool : kitB "list" "bool" = some false := by decide +kernel
theorem kb_list_str : kitB "list" "str" = some false := by decide +kernel
theorem kb_list_list : kitB "list" "list" = some true := by decide +kernel
theorem kb_list_tuple : kitB "list" "tuple" = some false := by decide +kernel
theorem kb_list_dict : kitB "list" "dict" = some false := by decide +kernel
theorem kb_tuple_int : kitB "tuple" "int" = some false := by decide +kernel
theorem kb_tuple_bool : kitB "tuple" "bool" = some false := by decide +kernel
theorem kb_tuple_str : kitB "tuple" "str" = some false := by decide +kernel
theorem kb_tuple_list : kitB "tuple" "list" = some false := by decide +kernel
theorem kb_tuple_tuple : kitB "tuple" "tuple" = some true := by decide +kernel
theorem kb_tuple_dict : kitB "tuple" "dict" = some false := by decide +kernel
theorem kb_dict_int : kitB "dict" "int" = some false := by decide +kernel
theorem kb_dict_bool : kitB "dict" "bool" = some false := by decide +kernel
theorem kb_dict_str : kitB "dict" "str" = some false := by decide +kernel
theorem kb_dict_list : kitB "dict" "list" = some false := by decide +kernel
theorem kb_dict_tuple : kitB "dict" "tuple" = some false := by decide +kernel
theorem kb_dict_dict : kitB "dict" "dict" = some true := by decide +kernel
/-! ### built-in calls in short -/
section
variable {X : Cx}
theorem call_intI : CallR X (.type "int") (fun xs H Q => ∃ i, xs = [.int i] ∧ Q (.int i) H) := by
  intro pins s σ H xs us Q I r q
  exact call_int1 pins s σ H xs us Q I r (.inl q)
theorem call_intB : CallR X (.type "int") (fun xs H Q => ∃ k, xs = [.bl k] ∧ Q (.int (if k then 1 else 0)) H) := by
  intro pins s σ H xs us Q I r q
  exact call_int1 pins s σ H xs us Q I r (.inr q)
/-- // by a divisor that is not 0 and below 2 ^ 9000 -/
def CDivWN (_ j : Int) : Prop := j ≠ 0 ∧ j.natAbs.log2 < 9000
theorem op_fdivWN : OpR X (binaryOp .FloorDiv) (rI CDivWN fun i j => .int (i.fdiv j)) := opI fun i j _ _ _ _ _ hc q =>
  PyProof.Rows.floordiv_int hc.1 q (.inl (PyProof.noPylong_of_log2 hc.2))
end
theorem cdivwn {i j : Int} {b : Nat} (h : j ≠ 0) (hb : j.natAbs < 2 ^ b) (h0 : 0 < b) (h9 : b ≤ 9000) : CDivWN i j := ⟨h, Nat.lt_of_lt_of_le (PySem.Flt.log2_lt_of h0 hb) h9⟩
theorem e0 {c : Value} {d : Option Addr} {H : Hp} : E0 c d H = False := rfl
theorem rgcd {vs : List V} {H : Hp} {Q : VK} : rGcd vs H Q = ∃ a b : Int, vs = [.int a, .int b] ∧ Q (.int ((Nat.gcd a.natAbs b.natAbs : Nat) : Int)) H := rfl
/-! ### defs by name -/
/-- the def st stands at the module's name x -/
def FunAt (K : PySem.W.Frag) (mg : Str → Option Value) (x : Str) (st : Stmt) : Prop := ∃ f fd, mg x = some (.ref f) ∧ Fun K x x st f fd
/-- the def at the module's name x keeps the promise sp -/
def Def (P : Program) (w : World) (K : PySem.W.Frag) (mg : Str → Option Value) (base : Heap) (CX : CXT) (k : Nat) (x : Str) (ps : List Str) (sp : Sp) : Prop :=
  ∃ f fd, mg x = some (.ref f) ∧ PySem.W.keepIn K (.ref f) = true ∧ Binds K fd ps [] ∧ FnOk P w K mg base CX k f fd ps sp
theorem Def.mono {P : Program} {w : World} {K : PySem.W.Frag} {mg : Str → Option Value} {base : Heap} {CX : CXT} {k j : Nat} {x : Str} {ps : List Str} {sp : Sp} (d : Def P w K mg base CX k x ps sp) (h : k ≤ j) : Def P w K mg base CX j x ps sp := by
  obtain ⟨f, fd, a, b, c, d⟩ := d
  exact ⟨f, fd, a, b, c, d.mono h⟩
section
variable {X : Cx} {CX : CXT} {k : Nat} {x : Str} {ps : List Str} {sp : Sp} {E : XK} {ES : L2.St → XK} {p pos : Pos} {e : Expr} {es : List Expr} {t : TA}
theorem pe_fn (F : Def X.prog X.w X.K X.mg X.base CX k x ps sp) (hr : Room k X.A) (hx : Passes CX X E) (ha : PA X (e :: es) t) (hg : Gl X x := by rfl)
    (hdb : (x == ("__debug__" : Str)) = false := by decide) (he : starEach (e :: es) X.env = (false, eval e X.env) :: starEach es X.env := by rfl) (hpl : (backTo pos (starEach es X.env)).any (·.1) = false := by rfl) :
    PE X (.Call (.Name x p) (e :: es) [] pos) (tCall sp [] E t) := by
  obtain ⟨f, fd, a, b, c, d⟩ := F
  exact pe_call d hr hg a b c .nil hx ha hdb he hpl
theorem pe_fn0 (F : Def X.prog X.w X.K X.mg X.base CX k x ps sp) (hr : Room k X.A) (hx : Passes CX X E) (hg : Gl X x := by rfl) (hdb : (x == ("__debug__" : Str)) = false := by decide) : PE X (.Call (.Name x p) [] [] pos) (tCall sp [] E tNil) := by
  obtain ⟨f, fd, a, b, c, d⟩ := F
  exact pe_call0 d hr hg a b c .nil hx hdb
theorem pe_fnS (F : Def X.prog X.w X.K X.mg X.base CX k x ps sp) (hr : Room k X.A) (hx : ∀ σ, PassesAt CX X σ (ES σ)) (ha : PA X (e :: es) t) (hg : Gl X x := by rfl)
    (hdb : (x == ("__debug__" : Str)) = false := by decide) (he : starEach (e :: es) X.env = (false, eval e X.env) :: starEach es X.env := by rfl) (hpl : (backTo pos (starEach es X.env)).any (·.1) = false := by rfl) :
    PE X (.Call (.Name x p) (e :: es) [] pos) (tCallS sp ES t) := by
  obtain ⟨f, fd, a, b, c, d⟩ := F
  exact pe_callS d hr hg a b c hx ha hdb he hpl
end
section
variable {P : Program} {w : World} {K : PySem.W.Frag} {mg : Str → Option Value} {base : Heap}
theorem FunAt.ok {x : Str} {st : Stmt} {N ps : List Str} {k : Nat} {sp : Sp} (F : FunAt K mg x st) (S : FnScope N ps (defScope st))
    (hb : ∀ (kV doc pm : Value) (an : Option Addr) (cdv ct : Value) (us : List Value), us.length = ps.length → bindArgs (PySem.W.fnOf x x (defArgs st) (defBody st) (defScope st) .none kV doc pm an cdv ct) ⟨us, []⟩ = pure (ps.zip us))
    (len : ∀ vs H Q E, sp vs H Q E → vs.length = ps.length)
    (hbody : ∀ (f : Addr) (cdv : Value) (A : Around) (outer : List Env) (s : Shared) (H : Hp) (vs : List V) (Q : VK) (E : XK), Room k (A.deeper (envOfC x (defScope st) s.heap.objs.size f cdv)) → sp vs H Q E →
      ∃ t, PSs (cxOf CX0 P w K mg base N x (defScope st) f cdv A outer s H E).nox (defBody st) t ∧ t { nx := fun _ H' => Q .non H', rt := Q } (start N vs) H) : Def P w K mg base CX0 (k + 1) x ps sp := by
  obtain ⟨f, fd, a, F⟩ := F
  exact ⟨f, fd, a, F.kp, F.binds hb, F.ok S len fun cdv A outer s H vs Q E hr h => hbody f cdv A outer s H vs Q E hr h⟩
theorem FunAt.okX {x : Str} {st : Stmt} {N ps : List Str} {k : Nat} {sp : Sp} (F : FunAt K mg x st) (S : FnScope N ps (defScope st))
    (hb : ∀ (kV doc pm : Value) (an : Option Addr) (cdv ct : Value) (us : List Value), us.length = ps.length → bindArgs (PySem.W.fnOf x x (defArgs st) (defBody st) (defScope st) .none kV doc pm an cdv ct) ⟨us, []⟩ = pure (ps.zip us))
    (len : ∀ vs H Q E, sp vs H Q E → vs.length = ps.length)
    (hbody : ∀ (f : Addr) (cdv : Value) (A : Around) (outer : List Env) (s : Shared) (H : Hp) (vs : List V) (Q : VK) (E : XK), Room k (A.deeper (envOfC x (defScope st) s.heap.objs.size f cdv)) → sp vs H Q E →
      ∃ t, PSs (cxOf (L2.CX P w) P w K mg base N x (defScope st) f cdv A outer s H E) (defBody st) t ∧ t { nx := fun _ H' => Q .non H', rt := Q } (start N vs) H) : Def P w K mg base (L2.CX P w) (k + 1) x ps sp := by
  obtain ⟨f, fd, a, F⟩ := F
  exact ⟨f, fd, a, F.kp, F.binds hb, F.okX S len fun cdv A outer s H vs Q E hr h => hbody f cdv A outer s H vs Q E hr h⟩
theorem funAt_mk {x : Str} {st : Stmt} {h : Heap} {f : Addr} {oc : Value} {od an : Option Addr} {osl : Array (Option Value)} {kV doc pm cdv ct : Value} (X : K.In h) (G : h.Ns mainGlobals mg) (a : PySem.W.nsIn K mainGlobals x = some (some (.ref f)))
    (l : K.lookup f = some ⟨oc, od, .func (PySem.W.fnOf x x (defArgs st) (defBody st) (defScope st) .none kV doc pm an cdv ct), osl⟩)
    (c : PySem.W.codeIn K cdv x = true) (k : PySem.W.keepIn K (.ref f) = true) : FunAt K mg x st := ⟨f, _, PySem.W.mg_of X G a, fun_mk (st := st) l c k⟩
end
/-! ### joining of ways -/
section
variable {X : Cx}
/-- a statement, then the rest, with a word between them: what follows is shown once, from Mid -/
def tCut (t u : TS) : TS := fun D σ H => ∃ Mid : L2.St → Hp → Prop, t { D with nx := Mid } σ H ∧ ∀ σ' H', Mid σ' H' → u D σ' H'
theorem pcut {st : Stmt} {rest : List Stmt} {t u : TS} (h1 : PS X st t) (h2 : PSs X rest u) : PSs X (st :: rest) (tCut t u) := by
  refine ⟨fun pins s σ H D I h => ?_⟩
  obtain ⟨Mid, hm, hu⟩ := h
  refine wpAny_execs_cons (thn (h1.run pins s σ H { D with nx := Mid } I hm) fun f s1 q => ?_)
  cases f with
  | next =>
    obtain ⟨σ', H', I', q⟩ := q
    exact h2.run pins s1 σ' H' D I' (hu σ' H' q)
  | ret v => exact q
  | brk => exact q
  | cont => exact q
theorem go_cut {t u : TS} {D : Ends} {σ : L2.St} {H : Hp} (Mid : L2.St → Hp → Prop) (h : t { D with nx := Mid } σ H) (k : ∀ σ' H', Mid σ' H' → u D σ' H') : tCut t u D σ H := ⟨Mid, h, k⟩
end
theorem mg_at {K : PySem.W.Frag} {h : Heap} {mg : Str → Option Value} {x : Str} {v : Value} (X : K.In h) (G : h.Ns mainGlobals mg) (a : PySem.W.nsIn K mainGlobals x = some (some v)) : mg x = some v := PySem.W.mg_of X G a
/-! ### loops -/
section
variable {σ : L2.St} {H : Hp} {D : Ends} {ta : TA} {tb : TS} {j : Nat}
theorem go_seq {t u : TS} (h : t { D with nx := u D } σ H) : tSeq t u D σ H := h
/-- an if: both ways from the same place -/
theorem go_if {c : Prop} [Decidable c] {A B : Prop} (h1 : c → A) (h2 : ¬ c → B) : if c then A else B := by
  by_cases h : c
  · rw [if_pos h]
    exact h1 h
  · rw [if_neg h]
    exact h2 h
/-- for x in range(n) -/
theorem for_r1 (Pv : Nat → L2.St → Hp → Prop) (n : Int) (e : ∀ Q : List V → Hp → Prop, Q [.int n] H → ta σ H Q) (hn : -(2 ^ 62) ≤ n ∧ n < 2 ^ 62) (h0 : Pv 0 σ H)
    (hs : ∀ (i : Nat) σ H, (i : Int) < n → Pv i σ H → tb { D with nx := Pv (i + 1), ct := Pv (i + 1), bk := D.nx } (σ.set j (some (.int (i : Int)))) H) (hd : ∀ σ H, Pv n.toNat σ H → D.nx σ H) : tFor (iRng1 ta) (gName j) tb D σ H := by
  refine e _ ?_
  refine ⟨n, rfl, hn.1, hn.2, for_range (lo := 0) (n := n.toNat) Pv h0 (fun i σ' H' hi p => ?_) hd⟩
  have q := hs i σ' H' (by omega) p
  have e0 : (0 : Int) + (i : Int) = (i : Int) := Int.zero_add _
  show tb _ (σ'.set j (some (.int ((0 : Int) + (i : Int))))) H'
  rw [e0]
  exact q
end
section
variable {K : PySem.W.Frag} {c cls : Value} {d : Option Addr} {ts : Addr → Value → Option Addr → TS} {Wout W : WX} {D : Ends} {σ : L2.St} {H : Hp} {i : Nat}
theorem we : WE W σ cls d H = W cls d σ H := rfl
theorem wonly : wOnly K c ts Wout D cls d σ H = ∃ b, PySem.W.exmOne K cls c = some b ∧ (b = true → ∀ a, H a = none → ts a cls d D σ H) ∧ (b = false → Wout cls d σ H) := rfl
theorem was : wAs K c i ts Wout D cls d σ H = ∃ b, PySem.W.exmOne K cls c = some b ∧ (b = true → ∀ a, H a = none → ts a cls d { nx := fun σ' H' => D.nx (σ'.set i none) H', rt := D.rt, bk := fun σ' H' => D.bk (σ'.set i none) H', ct := fun σ' H' => D.ct (σ'.set i none) H' } (σ.set i (some (.ref a))) H) ∧ (b = false → Wout cls d σ H) := rfl
end
theorem cxK {CX : CXT} {P : Program} {w : World} {K : PySem.W.Frag} {mg : Str → Option Value} {base : Heap} {N : List Str} {qual : Str} {scope : Scope} {f : Addr} {cd : Value} {A : Around} {outer : List Env} {s : Shared} {H : Hp} {E : XK} :
  (cxOf CX P w K mg base N qual scope f cd A outer s H E).K = K := rfl
/-! ### which class is which -/
section
variable {K : PySem.W.Frag} {D C : Addr} {t : Value} {b : Bool}
theorem kcls_ref (h1 : PySem.W.isClsIn K C = true) (h2 : PySem.W.typeIn K (.ref C) = some (.type "type")) (h3 : PySem.W.subIn K t (.ref C) = some b) : PySem.W.kitCls K t (.ref C) = some b := by
  have h1' : (PySem.W.clsIn K C).isSome = true := h1
  have e : ((PySem.W.clsIn K C).isSome && PySem.W.typeIn K (.ref C) == some (.type "type")) = true := by rw [h1', h2] <;> rfl
  show (if ((PySem.W.clsIn K C).isSome && PySem.W.typeIn K (.ref C) == some (.type "type")) = true then PySem.W.subIn K t (.ref C) else none) = some b
  rw [if_pos e]
  exact h3
theorem kit_ref (h1 : PySem.W.isClsIn K C = true) (h2 : PySem.W.typeIn K (.ref C) = some (.type "type")) (h3 : PySem.W.subIn K (.ref D) (.ref C) = some b) (hn : ¬ D = C) : PySem.W.kitOne K (.ref D) (.ref C) = some b := by
  have e : (Value.ref D == Value.ref C) = false := by
    refine beq_eq_false_iff_ne.mpr fun q => hn ?_
    injection q
  show (if (Value.ref D == Value.ref C) = true then some true else PySem.W.kitCls K (.ref D) (.ref C)) = some b
  rw [e, if_neg Bool.false_ne_true]
  exact kcls_ref h1 h2 h3
theorem kit_self : PySem.W.kitOne K (.ref D) (.ref D) = some true := by
  show (if (Value.ref D == Value.ref D) = true then some true else PySem.W.kitCls K (.ref D) (.ref D)) = some true
  rw [if_pos (beq_self_eq_true _)]
theorem kit_type {T : String} (h1 : PySem.W.kitMeta T = true) (h3 : PySem.W.subIn K (.ref D) (.type T) = some b) : PySem.W.kitOne K (.ref D) (.type T) = some b := by
  show (if PySem.W.kitMeta T = true then PySem.W.subIn K (.ref D) (.type T) else none) = some b
  rw [if_pos h1]
  exact h3
theorem kits_nil : PySem.W.kitAny K t [] = some false := rfl
theorem kits_no {c : Value} {r : List Value} (h : PySem.W.kitOne K t c = some false) (k : PySem.W.kitAny K t r = some b) : PySem.W.kitAny K t (c :: r) = some b := by
  unfold PySem.W.kitAny
  rw [h]
  exact k
theorem kits_yes {c : Value} {r : List Value} (h : PySem.W.kitOne K t c = some true) : PySem.W.kitAny K t (c :: r) = some true := by
  unfold PySem.W.kitAny
  rw [h]
theorem exm_of (hb : PySem.W.subIn K (.ref C) (.type "BaseException") = some true) (h1 : PySem.W.isClsIn K C = true) (h2 : PySem.W.typeIn K (.ref C) = some (.type "type")) (h3 : PySem.W.subIn K t (.ref C) = some b) : PySem.W.exmOne K t (.ref C) = some b := by
  have e : (PySem.W.subIn K (.ref C) (.type "BaseException") == some true) = true := by rw [hb] <;> rfl
  show (if (PySem.W.subIn K (.ref C) (.type "BaseException") == some true) = true then PySem.W.kitCls K t (.ref C) else none) = some b
  rw [if_pos e]
  exact kcls_ref h1 h2 h3
end
/-! ### exceptions of the program's own, without an __init__ -/
/-- what K says of the class at the module's name x -/
structure Exc0 (K : PySem.W.Frag) (mg : Str → Option Value) (x : Str) (C : Addr) : Prop where
  g : mg x = some (.ref C)
  q : PySem.W.excIn K C [.type "ValueError", .type "Exception", .type "BaseException", .type "object"] "ValueError.__new__" = true
  k : PySem.W.keepIn K (.ref C) = true
  b : PySem.W.subIn K (.ref C) (.type "BaseException") = some true
  t : PySem.W.typeIn K (.ref C) = some (.type "type")
section
variable {X : Cx} {C : Addr} {x : Str} {p pos : Pos}
theorem pe_globR (hg : Gl X x) (hm : X.mg x = some (.ref C)) (hdb : (x == ("__debug__" : Str)) = false := by decide) : PE X (.Name x pos) (tC (.ref C)) := pe_glob (u := .ref C) (v := .ref C) hg hm (show Value.ref C = Value.ref C from rfl) hdb
/-- X() -/
theorem pmk_own0 (c : Exc0 X.K X.mg x C) (hg : Gl X x := by rfl) (hdb : (x == ("__debug__" : Str)) = false := by decide) : PMk X (.Call (.Name x p) [] [] pos) (fun _ H Q => Q (.ref C) none H) := by
  intro pins s σ H Q I h
  refine wpAny_Call_Name_kw (ld_glob I hg c.g ?_ hdb)
  refine PySem.W.callWith_K0 I.kIn c.k ?_
  show wpAny _ _ (call (.ref C) []) _ _ _
  obtain ⟨bm, N, nm, qn, bs, hdct, sn, sub, ab, col, dd, k0, k1, k2, k3, k5, mN, hC, hN, hni, T⟩ := exc_obj I.kIn c.q
  obtain ⟨hp1, g1, d1, tk1, os1⟩ := s
  exact wpAny_call_exc_subT PySem.F.excBase_ValueError T hC hN hni (fun h' e hm => mk_of I hm (raises_own c.b c.t) h (I.hok.gone hm.new)) (Nat.zero_le _)
/-- isinstance(e, c) and isinstance(e, (c, ..)), e the exception that the suite holds, of an own class -/
def rIsEx (K : PySem.W.Frag) (cls : Value) (d : Option Addr) (a : Addr) : List V → Hp → VK → Prop := fun xs H Q => ∃ (D : Addr) (us : List Value) (b : Bool), cls = .ref D ∧ d = none ∧ ExcC K D ∧ PySem.W.kitAny K (.ref D) us = some b ∧
  ((∃ c u, xs = [.ref a, c] ∧ us = [u] ∧ ClsV c u) ∨ ∃ tp cs, xs = [.ref a, .ref tp] ∧ H tp = some (.tup cs) ∧ Paired ClsV cs us) ∧ Q (.bl b) H
theorem call_isEx {a : Addr} {oe : Obj} {cls : Value} {d : Option Addr} {pn : List (Addr × Obj)} (hz : Zc cls d oe) (hf : ∃ vs, oe.data = .fields vs) : CallR (X.suite a ((a, oe) :: pn)) (.builtin "isinstance") (rIsEx X.K cls d a) := by
  intro pins s σ H xs us Q I r h
  obtain ⟨D, ws, b, rfl, rfl, C, e, h, q⟩ := h
  obtain ⟨hget, _⟩ := I.pin (a, oe) (List.mem_append.mpr (.inl List.mem_cons_self))
  obtain ⟨vs, hv⟩ := hf
  have J : PySem.W.InstAt s.heap a oe D none := by
    obtain ⟨oc, od, oda, osl⟩ := oe
    obtain ⟨h1, h2⟩ := hz
    dsimp only at h1 h2 hv
    subst h1 h2 hv
    exact ⟨hget, rfl, rfl, trivial⟩
  have Z := PySem.W.handS_kitx_exc (x := a) (ox := oe) C.hg C.hk C.hs C.hd C.ha C.hn C.ht C.hm
  rcases h with ⟨c, u, rfl, rfl, k⟩ | ⟨tp, cs, rfl, hT, k⟩
  · obtain ⟨u1, u2, rfl, r1, r2⟩ := vals2 r
    cases (show u1 = Value.ref a from r1)
    have e2 := k.eq r2
    subst e2
    have e3 : PySem.W.kitOne X.K (.ref D) u2 = some b := by
      unfold PySem.W.kitAny at e
      cases e4 : PySem.W.kitOne X.K (.ref D) u2 with
      | none => rw [e4] at e; cases e
      | some b' =>
        rw [e4] at e
        cases b' with
        | true => exact e
        | false => exact e
    exact PySem.W.kia_one Z I.kIn J e3 (fun z => nomatch z) fun tk => ⟨.bl b, H, I.kept (t' := tk) fun _ _ z => z, rfl, q⟩
  · obtain ⟨u1, u2, rfl, r1, r2⟩ := vals2 r
    cases (show u1 = Value.ref a from r1)
    cases (show u2 = Value.ref tp from r2)
    obtain ⟨_, its, rv, o, h1, h2, n, h3⟩ := (show ObjOk X.prog X.w H s.heap tp (.tup cs) from I.hok tp _ hT)
    have e3 := ClsV.all k rv
    subst e3
    obtain ⟨oc, od, dt, sl⟩ := o
    simp only at h2 h3
    subst h2 h3
    exact PySem.W.kia_tup Z I.kIn J h1 e (fun z => nomatch z) fun tk => ⟨.bl b, H, I.kept (t' := tk) fun _ _ z => z, rfl, q⟩
end
theorem ris {K : PySem.W.Frag} {cls : Value} {d : Option Addr} {a : Addr} {xs : List V} {H : Hp} {Q : VK} : rIsEx K cls d a xs H Q = ∃ (D : Addr) (us : List Value) (b : Bool), cls = .ref D ∧ d = none ∧ ExcC K D ∧ PySem.W.kitAny K (.ref D) us = some b ∧
  ((∃ c u, xs = [.ref a, c] ∧ us = [u] ∧ ClsV c u) ∨ ∃ tp cs, xs = [.ref a, .ref tp] ∧ H tp = some (.tup cs) ∧ Paired ClsV cs us) ∧ Q (.bl b) H := rfl
end Px

namespace Px
open PySem PySem.Spec PyProof.Rows L2
/-! ### heaps -/
/-- all that is known stands -/
abbrev Ext (H H' : Hp) : Prop := ∀ q, (H q).isSome = true → H' q = H q
/-- all but p stands -/
abbrev But (p : Addr) (H H' : Hp) : Prop := ∀ q, q ≠ p → (H q).isSome = true → H' q = H q
def isT : Option HO → Bool
  | some (.tup _) => true
  | _ => false
def isL : Option HO → Bool
  | some (.lst _) => true
  | _ => false
def isD : Option HO → Bool
  | some (.dK _) => true
  | _ => false
theorem isT_t {xs : List V} : isT (some (.tup xs)) = true := rfl
theorem isL_l {xs : List V} : isL (some (.lst xs)) = true := rfl
theorem isD_d {xs : List (Key × V)} : isD (some (.dK xs)) = true := rfl
theorem isT_l {xs : List V} : isT (some (.lst xs)) = false := rfl
theorem isL_t {xs : List V} : isL (some (.tup xs)) = false := rfl
theorem isT_d {xs : List (Key × V)} : isT (some (.dK xs)) = false := rfl
theorem isT_some {o : Option HO} (h : isT o = true) : ∃ xs, o = some (.tup xs) := by
  unfold isT at h
  split at h
  · exact ⟨_, rfl⟩
  · cases h
/-- tuples stand -/
abbrev Tu (H H' : Hp) : Prop := ∀ q, isT (H q) = true → H' q = H q
theorem isT_isSome {o : Option HO} (h : isT o = true) : o.isSome = true := by
  obtain ⟨xs, rfl⟩ := isT_some h
  rfl
theorem Ext.tu {H H' : Hp} (e : Ext H H') : Tu H H' := fun q h => e q (isT_isSome h)
theorem Tu.rfl' (H : Hp) : Tu H H := fun _ _ => rfl
theorem Tu.trans {H H1 H2 : Hp} (a : Tu H H1) (b : Tu H1 H2) : Tu H H2 := fun q hq => by
  have h1 := a q hq
  rw [b q (by rw [h1]; exact hq), h1]
theorem Tu.get {H H1 : Hp} {a : Addr} {xs : List V} (e : Tu H H1) (h : H a = some (.tup xs)) : H1 a = some (.tup xs) := by rw [e a (by rw [h]; rfl), h]
theorem Tu.new {H H' : Hp} {p : Addr} {o : HO} (e : Tu H H') (hp : H' p = none) : Tu H (upd H' p o) := fun q hq => by
  have h1 := e q hq
  rw [updI hp (by rw [h1]; exact isT_isSome hq), h1]
theorem Tu.mut {H H' : Hp} {p : Addr} {o : HO} (e : Tu H H') (hp : isT (H' p) = false) : Tu H (upd H' p o) := fun q hq => by
  have h1 := e q hq
  have hn : q ≠ p := fun z => by
    rw [← z, h1, hq] at hp
    cases hp
  rw [upd_ne hn, h1]
theorem But.tu {p : Addr} {H H' : Hp} (e : But p H H') (hp : isT (H p) = false) : Tu H H' := fun q h => e q (fun z => by rw [z, hp] at h; cases h) (isT_isSome h)
theorem Ext.new {H H' : Hp} {p : Addr} {o : HO} (e : Ext H H') (hp : H' p = none) : Ext H (upd H' p o) := fun q hq => by
  have h1 := e q hq
  rw [updI hp (by rw [h1]; exact hq), h1]
theorem But.new {a : Addr} {H H' : Hp} {p : Addr} {o : HO} (e : But a H H') (hp : H' p = none) : But a H (upd H' p o) := fun q ha hq => by
  have h1 := e q ha hq
  rw [updI hp (by rw [h1]; exact hq), h1]
theorem But.mut {a : Addr} {H H' : Hp} {o : HO} (e : But a H H') : But a H (upd H' a o) := fun q ha hq => by
  rw [upd_ne ha]
  exact e q ha hq
/-- what H does not know may change -/
theorem Ext.mut {H H' : Hp} {p : Addr} {o : HO} (e : Ext H H') (hp : H p = none) : Ext H (upd H' p o) := fun q hq => by
  have hn : q ≠ p := fun z => by rw [z, hp] at hq; cases hq
  rw [upd_ne hn]
  exact e q hq
theorem Ext.trans {H H1 H2 : Hp} (a : Ext H H1) (b : Ext H1 H2) : Ext H H2 := fun q hq => by
  have h1 := a q hq
  rw [b q (by rw [h1]; exact hq), h1]
theorem But.trans {p : Addr} {H H1 H2 : Hp} (a : But p H H1) (b : But p H1 H2) : But p H H2 := fun q hp hq => by
  have h1 := a q hp hq
  rw [b q hp (by rw [h1]; exact hq), h1]
theorem But.of {p : Addr} {H H1 : Hp} (a : Ext H H1) : But p H H1 := fun q _ hq => a q hq
theorem Ext.get {H H1 : Hp} {a : Addr} {o : HO} (e : Ext H H1) (h : H a = some o) : H1 a = some o := by rw [e a (by rw [h]; rfl), h]
theorem But.get {p : Addr} {H H1 : Hp} {a : Addr} {o : HO} (e : But p H H1) (n : a ≠ p) (h : H a = some o) : H1 a = some o := by rw [e a n (by rw [h]; rfl), h]
theorem Ext.rfl' (H : Hp) : Ext H H := fun _ _ => rfl
theorem But.rfl' (p : Addr) (H : Hp) : But p H H := fun _ _ _ => rfl
theorem Ext.no {H H1 : Hp} {a : Addr} (e : Ext H H1) (h : H1 a = none) : H a = none := by
  cases q : H a with
  | none => rfl
  | some o => rw [e.get q] at h; cases h
theorem But.no {p : Addr} {H H1 : Hp} {a : Addr} (e : But p H H1) (n : a ≠ p) (h : H1 a = none) : H a = none := by
  cases q : H a with
  | none => rfl
  | some o => rw [e.get n q] at h; cases h
theorem Ext.but {p : Addr} {H H1 H2 : Hp} (a : Ext H H1) (hp : H p = none) (b : But p H1 H2) : Ext H H2 := fun q hq => by
  have h1 := a q hq
  rw [b q (fun e => by rw [e, hp] at hq; cases hq) (by rw [h1]; exact hq), h1]
theorem But.mut0 {a p : Addr} {H H' : Hp} {o : HO} (e : But a H H') (hp : H p = none) : But a H (upd H' p o) := fun q ha hq => by
  have hn : q ≠ p := fun z => by rw [z, hp] at hq; cases hq
  rw [upd_ne hn]
  exact e q ha hq
theorem SqLext {K : PySem.W.Frag} {H H' : Hp} {a : Addr} {xs : List V} (e : Ext H H') (h : SqL K H a xs) : SqL K H' a xs := by
  rcases h with (h | ⟨o, h⟩) | h
  · exact .inl (.inl (e.get h))
  · exact .inl (.inr ⟨o, e.get h⟩)
  · exact .inr h
theorem ne_nt {H : Hp} {a p : Addr} {xs : List V} (h : H a = some (.tup xs)) (hp : isT (H p) = false) : a ≠ p := fun e => by
  rw [e] at h
  rw [h] at hp
  cases hp
theorem ne_some_none {H : Hp} {a p : Addr} (h : (H a).isSome = true) (hp : H p = none) : a ≠ p := fun e => by
  rw [e, hp] at h
  cases h
/-- a pool at p -/
def Pool (H : Hp) (p : Addr) : Prop := ∃ (c k : Int) (b : Bool) (s : Int), H p = some (.lst [.int c, .int k, .bl b, .int s])
theorem Pool.new {H : Hp} {p q : Addr} {o : HO} (h : Pool H p) (hq : H q = none) : Pool (upd H q o) p := by
  obtain ⟨c, k, b, s, h⟩ := h
  exact ⟨c, k, b, s, by rw [updI hq (by rw [h]; rfl), h]⟩
theorem Pool.ext {H H' : Hp} {p : Addr} (h : Pool H p) (e : Ext H H') : Pool H' p := by
  obtain ⟨c, k, b, s, h⟩ := h
  exact ⟨c, k, b, s, e.get h⟩
theorem Pool.but {H H' : Hp} {p q : Addr} (h : Pool H p) (e : But q H H') (n : p ≠ q) : Pool H' p := by
  obtain ⟨c, k, b, s, h⟩ := h
  exact ⟨c, k, b, s, e.get n h⟩
theorem Pool.nt {H : Hp} {p : Addr} (h : Pool H p) : isT (H p) = false := by
  obtain ⟨c, k, b, s, h⟩ := h
  rw [h]
  rfl
theorem Pool.isSome {H : Hp} {p : Addr} (h : Pool H p) : (H p).isSome = true := by
  obtain ⟨c, k, b, s, h⟩ := h
  rw [h]
  rfl
theorem Pool.ne {H : Hp} {p q : Addr} {xs : List V} (h : Pool H p) (hq : H q = some (.tup xs)) : q ≠ p := ne_nt hq h.nt
theorem Pool.ne0 {H : Hp} {p q : Addr} (h : Pool H p) (hq : H q = none) : q ≠ p := fun e => by
  have := h.isSome
  rw [← e, hq] at this
  cases this
def spTake (vs : List V) (H : Hp) (Q : VK) (_ : XK) : Prop := ∃ (p : Addr) (n : Int), vs = [.ref p, .int n] ∧ Pool H p ∧ (0 < n ∧ n < 1000000000) ∧ ∀ v H', 0 ≤ v → v < n → Pool H' p → But p H H' → Tu H H' → Q (.int v) H'
def spPool (K : PySem.W.Frag) (vs : List V) (H : Hp) (Q : VK) (_ : XK) : Prop := ∃ (a : Addr) (ns : List Int) (k : Nat), vs = [.ref a, .int (k : Int)] ∧ SqL K H a (ns.map V.int) ∧ k < 1000 ∧ ∀ p H', H p = none → Pool H' p → Ext H H' → Q (.ref p) H'
theorem cmul_mod {x y m : Int} (h0 : 0 < m) (h1 : m ≤ 2 ^ 64) : CMul (x % m) y := by
  have a := Int.emod_nonneg x (Int.ne_of_gt h0)
  have b := Int.emod_lt_of_pos x h0
  exact .inl ⟨by omega, by omega⟩
theorem cmul_lit {x y : Int} (h0 : 0 ≤ x) (h1 : x < 2 ^ 64) : CMul x y := .inl ⟨by omega, by omega⟩
theorem cmul_sm {x y : Int} (h0 : -(2 ^ 64) < x) (h1 : x < 2 ^ 64) : CMul x y := .inl ⟨h0, h1⟩
theorem cmul_sm2 {x y : Int} (h0 : -(2 ^ 64) < y) (h1 : y < 2 ^ 64) : CMul x y := .inr ⟨h0, h1⟩
/-! ### data that never changes: numbers, texts, tuples of such -/
mutual
inductive Dt (H : Hp) : V → PyData → Prop
  | non : Dt H .non .none
  | bl (b : Bool) : Dt H (.bl b) (.bool b)
  | int (i : Int) : Dt H (.int i) (.int i)
  | str (x : Str) : Dt H (.str x) (.str x)
  | tup {a : Addr} {xs : List V} {ds : List PyData} : H a = some (.tup xs) → DtAll H xs ds → Dt H (.ref a) (.tuple ds)
inductive DtAll (H : Hp) : List V → List PyData → Prop
  | nil : DtAll H [] []
  | cons {v : V} {vs : List V} {d : PyData} {ds : List PyData} : Dt H v d → DtAll H vs ds → DtAll H (v :: vs) (d :: ds)
end
mutual
theorem Dt.mono {H H' : Hp} (e : Tu H H') : ∀ {v : V} {d : PyData}, Dt H v d → Dt H' v d
  | _, _, .non => .non
  | _, _, .bl b => .bl b
  | _, _, .int i => .int i
  | _, _, .str x => .str x
  | _, _, .tup h a => .tup (e.get h) (DtAll.mono e a)
theorem DtAll.mono {H H' : Hp} (e : Tu H H') : ∀ {vs : List V} {ds : List PyData}, DtAll H vs ds → DtAll H' vs ds
  | _, _, .nil => .nil
  | _, _, .cons h a => .cons (Dt.mono e h) (DtAll.mono e a)
end
mutual
theorem Dt.dp {K : PySem.W.Frag} {H : Hp} : ∀ {v : V} {d : PyData}, Dt H v d → Dp K H v d
  | _, _, .non => .non
  | _, _, .bl b => .bl b
  | _, _, .int i => .int i
  | _, _, .str x => .str x
  | _, _, .tup h a => .tup (.inl (.inl h)) (DtAll.dp a)
theorem DtAll.dp {K : PySem.W.Frag} {H : Hp} : ∀ {vs : List V} {ds : List PyData}, DtAll H vs ds → DpAll K H vs ds
  | _, _, .nil => .nil
  | _, _, .cons h a => .cons (Dt.dp h) (DtAll.dp a)
end
theorem DtAll.len {H : Hp} : ∀ {vs : List V} {ds : List PyData}, DtAll H vs ds → vs.length = ds.length
  | _, _, .nil => rfl
  | _, _, .cons _ a => by rw [List.length_cons, List.length_cons, a.len]
theorem DtAll.get {H : Hp} : ∀ {vs : List V} {ds : List PyData} {i : Nat} {v : V}, DtAll H vs ds → vs[i]? = some v → ∃ d, ds[i]? = some d ∧ Dt H v d
  | _, _, 0, _, .cons h _, e => by cases e; exact ⟨_, rfl, h⟩
  | _, _, i + 1, _, .cons _ a, e => DtAll.get (i := i) a e
  | _, _, _, _, .nil, e => by simp at e
theorem DtAll.get' {H : Hp} : ∀ {vs : List V} {ds : List PyData} {i : Nat} {d : PyData}, DtAll H vs ds → ds[i]? = some d → ∃ v, vs[i]? = some v ∧ Dt H v d
  | _, _, 0, _, .cons h _, e => by cases e; exact ⟨_, rfl, h⟩
  | _, _, i + 1, _, .cons _ a, e => DtAll.get' (i := i) a e
  | _, _, _, _, .nil, e => by simp at e
theorem DtAll.app {H : Hp} : ∀ {vs ws : List V} {ds es : List PyData}, DtAll H vs ds → DtAll H ws es → DtAll H (vs ++ ws) (ds ++ es)
  | _, _, _, _, .nil, b => b
  | _, _, _, _, .cons h a, b => .cons h (DtAll.app a b)
theorem DtAll.ints {H : Hp} : ∀ ns : List Int, DtAll H (ns.map V.int) (ns.map PyData.int)
  | [] => .nil
  | n :: ns => .cons (.int n) (DtAll.ints ns)
theorem DtAll.of_ints {H : Hp} : ∀ {vs : List V} {ns : List Int}, DtAll H vs (ns.map PyData.int) → vs = ns.map V.int
  | _, [], h => by cases h; rfl
  | _, n :: ns, h => by
    cases h with
    | cons a b =>
      cases a
      rw [DtAll.of_ints b]
      rfl
/-! ### loops over a list or a tuple -/
/-- what is walked: either -/
def iSeq (K : PySem.W.Frag) (tl : TE) : TI := fun σ H R => iList K tl σ H R ∨ iTup K tl σ H R
theorem pi_seq {X : Cx} {tg l : Expr} {tl : TE} (hl : PE X l tl) : PI X tg l (iSeq X.K tl) := ⟨fun pins s σ H R I h => by
  rcases h with h | h
  · exact (pi_list hl).run pins s σ H R I h
  · exact (pi_tup hl).run pins s σ H R I h⟩
theorem seqH_cases {o : Option HO} {xs : List V} (h : seqH o = some xs) : (o = some (.lst xs) ∨ ∃ u, o = some (.frz u (.lst xs))) ∨ (o = some (.tup xs) ∨ ∃ u, o = some (.frz u (.tup xs))) := by
  unfold seqH at h
  split at h <;> first
    | (cases h; exact .inr (.inl rfl))
    | (cases h; exact .inl (.inl rfl))
    | (cases h; exact .inl (.inr ⟨_, rfl⟩))
    | (cases h; exact .inr (.inr ⟨_, rfl⟩))
    | cases h
theorem for_seq {K : PySem.W.Frag} {tl : TE} {a : Addr} {xs : List V} {g : TG} {tb : TS} {D : Ends} {σ : L2.St} {H : Hp} (Pv : Nat → L2.St → Hp → Prop) (e : ∀ Q : VK, Q (.ref a) H → tl σ H Q) (hx : seqH (H a) = some xs) (h0 : Pv 0 σ H) (hl : ∀ i σ' H', Pv i σ' H' → H' a = H a)
    (hs : ∀ i x σ' H', xs[i]? = some x → Pv i σ' H' → g x σ' H' fun σ2 H2 => tb { D with nx := Pv (i + 1), ct := Pv (i + 1), bk := D.nx } σ2 H2) (hd : ∀ σ' H', Pv xs.length σ' H' → D.nx σ' H') : tFor (iSeq K tl) g tb D σ H := by
  rcases seqH_cases hx with h | h
  · have hq : ∀ H' : Hp, H' a = H a → SqL K H' a xs := fun H' q => by
      rcases h with h | ⟨u, h⟩
      · exact .inl (.inl (by rw [q, h]))
      · exact .inl (.inr ⟨u, by rw [q, h]⟩)
    exact .inl (e _ ⟨a, rfl, ⟨xs, hq H rfl⟩, for_list Pv h0 (fun i σ' H' _ p => hq H' (hl i σ' H' p)) hs hd⟩)
  · have hq : ∀ H' : Hp, H' a = H a → SqT K H' a xs := fun H' q => by
      rcases h with h | ⟨u, h⟩
      · exact .inl (.inl (by rw [q, h]))
      · exact .inl (.inr ⟨u, by rw [q, h]⟩)
    exact .inr (e _ ⟨a, rfl, ⟨xs, hq H rfl⟩, for_tup Pv h0 (fun i σ' H' _ p => hq H' (hl i σ' H' p)) hs hd⟩)
/-! ### comprehensions: a list of data -/
/-- the i's below n that f takes, in order, by v -/
def given {α : Type} (n : Nat) (f : Nat → Bool) (v : Nat → α) : List α := ((List.range n).filter f).map v
theorem given_yes {α : Type} {n : Nat} {f : Nat → Bool} {v : Nat → α} (h : f n = true) : given (n + 1) f v = given n f v ++ [v n] := by
  unfold given
  rw [List.range_succ, List.filter_append, List.map_append, List.filter_cons, if_pos h]
  rfl
theorem given_no {α : Type} {n : Nat} {f : Nat → Bool} {v : Nat → α} (h : f n = false) : given (n + 1) f v = given n f v := by
  unfold given
  rw [List.range_succ, List.filter_append, List.map_append, List.filter_cons, if_neg (by rw [h]; decide)]
  show _ ++ [] = _
  rw [List.append_nil]
theorem given_len {α : Type} (n : Nat) (f : Nat → Bool) (v : Nat → α) : (given n f v).length ≤ n := by
  unfold given
  rw [List.length_map]
  have h := List.length_filter_le f (List.range n)
  rw [List.length_range] at h
  exact h
theorem given_all {α : Type} (n : Nat) (v : Nat → α) : given n (fun _ => true) v = (List.range n).map v := by
  unfold given
  rw [List.filter_eq_self.mpr (fun _ _ => rfl)]
theorem given_eq {α β : Type} (ys : List α) (d : α) (p : α → Bool) (g : α → β) : given ys.length (fun i => p (ys.getD i d)) (fun i => g (ys.getD i d)) = (ys.filter p).map g := by
  have e : (List.range ys.length).map (fun i => ys.getD i d) = ys := by
    refine List.ext_getElem (by simp) fun i h1 h2 => ?_
    simp only [List.getElem_map, List.getElem_range]
    rw [List.getD_eq_getElem?_getD, List.getElem?_eq_getElem h2]
    rfl
  have q : ((((List.range ys.length).map fun i => ys.getD i d).filter p).map g) = (ys.filter p).map g := by rw [e]
  rw [← q, List.filter_map, List.map_map]
  rfl
theorem given_ints {H : Hp} {zs : List V} (ys : List Int) (p : Int → Bool) (f : Int → Int) (h : DtAll H zs (given ys.length (fun i => p (ys.getD i 0)) fun i => .int (f (ys.getD i 0)))) : zs = ((ys.filter p).map f).map V.int := by
  refine DtAll.of_ints (H := H) ?_
  have e := given_eq ys 0 p fun y => PyData.int (f y)
  rw [e] at h
  rw [List.map_map]
  exact h
/-- the i-th of ints -/
theorem int_at {ls : List Int} {i : Nat} {x : V} (h : (ls.map V.int)[i]? = some x) : ∃ l, ls[i]? = some l ∧ x = .int l ∧ ls.getD i 0 = l ∧ l ∈ ls := by
  rw [List.getElem?_map] at h
  cases q : ls[i]? with
  | none => rw [q] at h; cases h
  | some l =>
    rw [q] at h
    exact ⟨l, rfl, (Option.some.inj h).symm, by rw [List.getD_eq_getElem?_getD, q]; rfl, List.mem_of_getElem? q⟩
section
variable {K : PySem.W.Frag} {g : TG} {tt : TT} {te : TE} {vs : List Nat} {σ : L2.St} {H : Hp} {Q : VK} {n : Nat} (ks : Nat → Bool) (ds : Nat → PyData)
/-- behind i turns -/
def Cv (H : Hp) (ks : Nat → Bool) (ds : Nat → PyData) (D : Addr) (i : Nat) (H' : Hp) : Prop := H D = none ∧ Ext H H' ∧ ∃ ys, H' D = some (.lst ys) ∧ DtAll H' ys (given i ks ds)
/-- one turn: from any later heap the test gives ks i, the element a value of the datum ds i -/
def Ct (H : Hp) (g : TG) (tt : TT) (te : TE) (vs : List Nat) (σ : L2.St) (k : Bool) (d : PyData) (x : V) : Prop :=
  ∀ (H' : Hp) (R : Hp → Prop) (E : VK), Ext H H' → (k = false → ∀ H3, Ext H' H3 → R H3) → (k = true → ∀ y H4, Ext H' H4 → Dt H4 y d → E y H4) →
    g x (wipe σ vs) H' fun σ2 H2 => wipe σ2 vs = wipe σ vs ∧ tt σ2 H2 fun b H3 => if b = true then te σ2 H3 E else R H3
theorem cv_start {D : Addr} (hD : H D = none) : Cv H ks ds D 0 (upd H D (.lst [])) := ⟨hD, (Ext.rfl' H).new hD, [], upd_same, .nil⟩
theorem cv_turn {D : Addr} {i : Nat} {x : V} {H' : Hp} (hi : i < 100000) (ht : Ct H g tt te vs σ (ks i) (ds i) x) (p : Cv H ks ds D i H') :
    g x (wipe σ vs) H' fun σ2 H2 => wipe σ2 vs = wipe σ vs ∧ tt σ2 H2 fun b H3 => if b = true then te σ2 H3 fun y H4 => ∃ acc, H4 D = some (.lst acc) ∧ acc.length < sizeLine ∧ Cv H ks ds D (i + 1) (upd H4 D (.lst (acc ++ [y]))) else Cv H ks ds D (i + 1) H3 := by
  obtain ⟨hD, e, ys, hy, ha⟩ := p
  refine ht H' _ _ e (fun hk H3 e3 => ⟨hD, e.trans e3, ys, e3.get hy, ?_⟩) (fun hk y H4 e4 hd => ⟨ys, e4.get hy, ?_, hD, (e.trans e4).mut hD, _, upd_same, ?_⟩)
  · rw [given_no hk]
    exact ha.mono e3.tu
  · have := ha.len
    have := given_len i ks ds
    exact Nat.lt_of_lt_of_le (show ys.length < 100001 by omega) (by decide)
  · rw [given_yes hk]
    have nt : isT (H4 D) = false := by rw [e4.get hy]; rfl
    exact ((ha.mono e4.tu).mono ((Tu.rfl' H4).mut nt)).app (.cons (hd.mono ((Tu.rfl' H4).mut nt)) .nil)
theorem lc_seq {tl : TE} {a : Addr} {xs : List V} (e : ∀ Q : VK, Q (.ref a) H → tl σ H Q) (hx : seqH (H a) = some xs) (hn : xs.length ≤ 100000) (ht : ∀ (i : Nat) (x : V), xs[i]? = some x → Ct H g tt te vs σ (ks i) (ds i) x)
    (hd : ∀ D ys H', H D = none → Ext H H' → H' D = some (.lst ys) → DtAll H' ys (given xs.length ks ds) → Q (.ref D) H') : tLc (iSeq K tl) g tt te vs σ H Q := by
  have fin : ∀ D H', Cv H ks ds D xs.length H' → Q (.ref D) H' := fun D H' ⟨h0, h1, ys, h2, h3⟩ => hd D ys H' h0 h1 h2 h3
  have turn : ∀ D (i : Nat) (x : V) (H' : Hp), xs[i]? = some x → Cv H ks ds D i H' → g x (wipe σ vs) H' fun σ2 H2 => wipe σ2 vs = wipe σ vs ∧ tt σ2 H2 fun b H3 =>
      if b = true then te σ2 H3 fun y H4 => ∃ acc, H4 D = some (.lst acc) ∧ acc.length < sizeLine ∧ Cv H ks ds D (i + 1) (upd H4 D (.lst (acc ++ [y]))) else Cv H ks ds D (i + 1) H3 := fun D i x H' hi p =>
    cv_turn ks ds (by have := (List.getElem?_eq_some_iff.mp hi).1; omega) (ht i x hi) p
  rcases seqH_cases hx with h | h
  · have hq : ∀ H' : Hp, H' a = H a → SqL K H' a xs := fun H' q => by
      rcases h with h | ⟨u, h⟩
      · exact .inl (.inl (by rw [q, h]))
      · exact .inl (.inr ⟨u, by rw [q, h]⟩)
    have hs : (H a).isSome = true := by rcases h with h | ⟨u, h⟩ <;> rw [h] <;> rfl
    show iSeq K tl σ H _
    exact .inl (e _ ⟨a, rfl, ⟨xs, hq H rfl⟩, fun D hD => lc_list (Cv H ks ds D) (cv_start ks ds hD) (fun i H' _ p => hq H' (p.2.1 a hs)) (turn D) (fin D)⟩)
  · have hq : ∀ H' : Hp, H' a = H a → SqT K H' a xs := fun H' q => by
      rcases h with h | ⟨u, h⟩
      · exact .inl (.inl (by rw [q, h]))
      · exact .inl (.inr ⟨u, by rw [q, h]⟩)
    have hs : (H a).isSome = true := by rcases h with h | ⟨u, h⟩ <;> rw [h] <;> rfl
    show iSeq K tl σ H _
    exact .inr (e _ ⟨a, rfl, ⟨xs, hq H rfl⟩, fun D hD => lc_tup (Cv H ks ds D) (cv_start ks ds hD) (fun i H' _ p => hq H' (p.2.1 a hs)) (turn D) (fin D)⟩)
theorem lc_rng {ta : TA} (n : Int) (e : ∀ Q : List V → Hp → Prop, Q [.int n] H → ta σ H Q) (hn : 0 ≤ n ∧ n ≤ 100000) (ht : ∀ i : Nat, (i : Int) < n → Ct H g tt te vs σ (ks i) (ds i) (.int (i : Int)))
    (hd : ∀ D ys H', H D = none → Ext H H' → H' D = some (.lst ys) → DtAll H' ys (given n.toNat ks ds) → Q (.ref D) H') : tLc (iRng1 ta) g tt te vs σ H Q := by
  show iRng1 ta σ H _
  refine e _ ⟨n, rfl, by omega, by omega, fun D hD => lc_range (lo := 0) (n := n.toNat) (Cv H ks ds D) (cv_start ks ds hD) (fun i H' hi p => ?_) (fun H' ⟨h0, h1, ys, h2, h3⟩ => hd D ys H' h0 h1 h2 h3)⟩
  have e0 : (0 : Int) + (i : Int) = (i : Int) := Int.zero_add _
  rw [e0]
  exact cv_turn ks ds (by omega) (ht i (by omega)) p
end
/-! the same where what is walked is made on the way: a new list (M: what is known of it) -/
section
variable {K : PySem.W.Frag} {g : TG} {tt : TT} {te : TE} {vs : List Nat} {σ : L2.St} {H : Hp} {Q : VK} {tl : TE} {tb : TS} {D : Ends}
theorem lc_seqL (M : Addr → List V → Hp → Prop) (e : ∀ R : VK, (∀ a xs H1, M a xs H1 → R (.ref a) H1) → tl σ H R)
    (hm : ∀ a xs H1, M a xs H1 → H1 a = some (.lst xs) ∧ xs.length ≤ 100000 ∧ ∃ ks ds, (∀ (i : Nat) (x : V), xs[i]? = some x → Ct H1 g tt te vs σ (ks i) (ds i) x) ∧
      ∀ D ys H', H1 D = none → Ext H1 H' → H' D = some (.lst ys) → DtAll H' ys (given xs.length ks ds) → Q (.ref D) H') : tLc (iSeq K tl) g tt te vs σ H Q := by
  show iSeq K tl σ H _
  refine .inl (e _ fun a xs H1 m => ?_)
  obtain ⟨ha, hn, ks, ds, ht, hd⟩ := hm a xs H1 m
  have hs : (H1 a).isSome = true := by rw [ha]; rfl
  exact ⟨a, rfl, ⟨xs, .inl (.inl ha)⟩, fun D hD => lc_list (Cv H1 ks ds D) (cv_start ks ds hD) (fun i H' _ p => .inl (.inl (p.2.1.get ha))) (fun i x H' hi p => cv_turn ks ds (by have := (List.getElem?_eq_some_iff.mp hi).1; omega) (ht i x hi) p)
    (fun H' ⟨h0, h1, ys, h2, h3⟩ => hd D ys H' h0 h1 h2 h3)⟩
theorem for_seqL (M : Addr → List V → Hp → Prop) (e : ∀ R : VK, (∀ a xs H1, M a xs H1 → R (.ref a) H1) → tl σ H R)
    (hm : ∀ a xs H1, M a xs H1 → H1 a = some (.lst xs) ∧ ∃ Pv : Nat → L2.St → Hp → Prop, Pv 0 σ H1 ∧ (∀ i σ' H', Pv i σ' H' → H' a = H1 a) ∧
      (∀ i x σ' H', xs[i]? = some x → Pv i σ' H' → g x σ' H' fun σ2 H2 => tb { D with nx := Pv (i + 1), ct := Pv (i + 1), bk := D.nx } σ2 H2) ∧ ∀ σ' H', Pv xs.length σ' H' → D.nx σ' H') : tFor (iSeq K tl) g tb D σ H := by
  refine .inl (e _ fun a xs H1 m => ?_)
  obtain ⟨ha, Pv, h0, hl, hs, hd⟩ := hm a xs H1 m
  exact ⟨a, rfl, ⟨xs, .inl (.inl ha)⟩, for_list Pv h0 (fun i σ' H' _ p => .inl (.inl ((hl i σ' H' p).trans ha))) hs hd⟩
theorem for_seqT (M : Addr → List V → Hp → Prop) (e : ∀ R : VK, (∀ a xs H1, M a xs H1 → R (.ref a) H1) → tl σ H R)
    (hm : ∀ a xs H1, M a xs H1 → H1 a = some (.tup xs) ∧ ∃ Pv : Nat → L2.St → Hp → Prop, Pv 0 σ H1 ∧ (∀ i σ' H', Pv i σ' H' → H' a = H1 a) ∧
      (∀ i x σ' H', xs[i]? = some x → Pv i σ' H' → g x σ' H' fun σ2 H2 => tb { D with nx := Pv (i + 1), ct := Pv (i + 1), bk := D.nx } σ2 H2) ∧ ∀ σ' H', Pv xs.length σ' H' → D.nx σ' H') : tFor (iSeq K tl) g tb D σ H := by
  refine .inr (e _ fun a xs H1 m => ?_)
  obtain ⟨ha, Pv, h0, hl, hs, hd⟩ := hm a xs H1 m
  exact ⟨a, rfl, ⟨xs, .inl (.inl ha)⟩, for_tup Pv h0 (fun i σ' H' _ p => .inl (.inl ((hl i σ' H' p).trans ha))) hs hd⟩
end
/-! comprehensions whose elements may change what stands (a pool): I i ds H' holds behind i turns that made the data ds -/
section
variable {K : PySem.W.Frag} {g : TG} {tt : TT} {te : TE} {vs : List Nat} {σ : L2.St} {H : Hp} {Q : VK} (I : Nat → List PyData → Hp → Prop)
def Cg (H : Hp) (I : Nat → List PyData → Hp → Prop) (D : Addr) (i : Nat) (H' : Hp) : Prop := H D = none ∧ ∃ ys ds, H' D = some (.lst ys) ∧ ys.length ≤ i ∧ DtAll H' ys ds ∧ I i ds H'
/-- one turn of such -/
def Cgt (H : Hp) (I : Nat → List PyData → Hp → Prop) (g : TG) (tt : TT) (te : TE) (vs : List Nat) (σ : L2.St) (i : Nat) (x : V) : Prop :=
  ∀ (D : Addr) (ds : List PyData) (H' : Hp) (R : Hp → Prop) (E : VK), H D = none → isL (H' D) = true → I i ds H' → (∀ H3, H3 D = H' D → Tu H' H3 → I (i + 1) ds H3 → R H3) → (∀ y d H4, H4 D = H' D → Tu H' H4 → Dt H4 y d → I (i + 1) (ds ++ [d]) H4 → E y H4) →
    g x (wipe σ vs) H' fun σ2 H2 => wipe σ2 vs = wipe σ vs ∧ tt σ2 H2 fun b H3 => if b = true then te σ2 H3 E else R H3
theorem cg_start {D : Addr} (hD : H D = none) (hI : ∀ D i ds H' ys, H D = none → I i ds H' → I i ds (upd H' D (.lst ys))) (h0 : I 0 [] H) : Cg H I D 0 (upd H D (.lst [])) := ⟨hD, [], [], upd_same, Nat.le_refl _, .nil, hI _ _ _ _ _ hD h0⟩
theorem cg_turn {D : Addr} {i : Nat} {x : V} {H' : Hp} (hi : i < 100000) (hI : ∀ D i ds H' ys, H D = none → I i ds H' → I i ds (upd H' D (.lst ys))) (ht : Cgt H I g tt te vs σ i x) (p : Cg H I D i H') :
    g x (wipe σ vs) H' fun σ2 H2 => wipe σ2 vs = wipe σ vs ∧ tt σ2 H2 fun b H3 => if b = true then te σ2 H3 fun y H4 => ∃ acc, H4 D = some (.lst acc) ∧ acc.length < sizeLine ∧ Cg H I D (i + 1) (upd H4 D (.lst (acc ++ [y]))) else Cg H I D (i + 1) H3 := by
  obtain ⟨hD, ys, ds, hy, hl, ha, hp⟩ := p
  refine ht D ds H' _ _ hD (by rw [hy]; rfl) hp (fun H3 e3 t3 p3 => ⟨hD, ys, ds, e3.trans hy, Nat.le_succ_of_le hl, ha.mono t3, p3⟩) (fun y d H4 e4 t4 hd p4 => ?_)
  have hy4 := e4.trans hy
  have nt : isT (H4 D) = false := by rw [hy4]; rfl
  refine ⟨ys, hy4, Nat.lt_of_lt_of_le (show ys.length < 100001 by omega) (by decide), hD, _, _, upd_same, by rw [List.length_append, List.length_singleton]; omega, ?_, hI _ _ _ _ _ hD p4⟩
  exact ((ha.mono t4).mono ((Tu.rfl' H4).mut nt)).app (.cons (hd.mono ((Tu.rfl' H4).mut nt)) .nil)
theorem lcg_rng {ta : TA} (n : Int) (e : ∀ Q : List V → Hp → Prop, Q [.int n] H → ta σ H Q) (hn : 0 ≤ n ∧ n ≤ 100000) (hI : ∀ D i ds H' ys, H D = none → I i ds H' → I i ds (upd H' D (.lst ys))) (h0 : I 0 [] H)
    (ht : ∀ i : Nat, (i : Int) < n → Cgt H I g tt te vs σ i (.int (i : Int))) (hd : ∀ D ys ds H', H D = none → H' D = some (.lst ys) → DtAll H' ys ds → I n.toNat ds H' → Q (.ref D) H') : tLc (iRng1 ta) g tt te vs σ H Q := by
  show iRng1 ta σ H _
  refine e _ ⟨n, rfl, by omega, by omega, fun D hD => lc_range (lo := 0) (n := n.toNat) (Cg H I D) (cg_start I hD hI h0) (fun i H' hi p => ?_) (fun H' ⟨h0, ys, ds, h2, _, h3, h4⟩ => hd D ys ds H' h0 h2 h3 h4)⟩
  have e0 : (0 : Int) + (i : Int) = (i : Int) := Int.zero_add _
  rw [e0]
  exact cg_turn I (by omega) hI (ht i (by omega)) p
end
/-! ### more operations by what H knows -/
def rTupH : List V → Hp → VK → Prop := fun vs H Q => ∃ p, vs = [.ref p] ∧ ((∃ ys, H p = some (.lst ys) ∧ ∀ l, H l = none → Q (.ref l) (upd H l (.tup ys))) ∨ ∃ ys, H p = some (.tup ys) ∧ Q (.ref p) H)
def rListH : List V → Hp → VK → Prop := fun vs H Q => ∃ p ys, vs = [.ref p] ∧ seqH (H p) = some ys ∧ ∀ l, H l = none → Q (.ref l) (upd H l (.lst ys))
def rSlH : V → Option Int → Option Int → Hp → VK → Prop := fun x lo hi H Q => ∃ a xs, x = .ref a ∧ H a = some (.lst xs) ∧ ∀ p, H p = none → Q (.ref p) (upd H p (.lst (cutV xs lo hi)))
def rSortH : List V → Hp → VK → Prop := fun vs H Q => ∃ a ns, vs = [.ref a] ∧ seqH (H a) = some (ns.map V.int) ∧ isL (H a) = true ∧ ∀ (ns' : List Int) p, ns'.Perm ns → ns'.Pairwise (· ≤ ·) → H p = none → Q (.ref p) (upd H p (.lst (ns'.map V.int)))
section
variable {X : Cx}
theorem tup_H : CallR X (.type "tuple") rTupH := by
  intro pins s σ H xs us Q I r q
  obtain ⟨p, e, q⟩ := q
  rcases q with ⟨ys, h, q⟩ | ⟨ys, h, q⟩
  · exact call_tuple_of pins s σ H xs us Q I r ⟨p, ys, e, .inl ⟨.inl (.inl h), q⟩⟩
  · exact call_tuple_of pins s σ H xs us Q I r ⟨p, ys, e, .inr ⟨.inl (.inl h), q⟩⟩
theorem list_H : CallR X (.type "list") rListH := by
  intro pins s σ H xs us Q I r q
  obtain ⟨p, ys, e, h, q⟩ := q
  exact call_list_of pins s σ H xs us Q I r ⟨p, ys, e, seqH_or h, q⟩
theorem sl_H : SlR X rSlH := by
  intro pins s σ H x v vl vu lo hi sl Q I rx hs pl pu q
  obtain ⟨a, xs, e, h, q⟩ := q
  exact sl_list pins s σ H x v vl vu lo hi sl Q I rx hs pl pu ⟨a, xs, e, .inl (.inl h), q⟩
theorem sort_H : CallR X (.builtin "sorted") rSortH := by
  intro pins s σ H xs us Q I r q
  obtain ⟨a, ns, e, h, hl, q⟩ := q
  refine cr_sortedI pins s σ H xs us Q I r ⟨a, ns, e, ?_, q⟩
  rcases seqH_cases h with (h | ⟨u, h⟩) | (h | ⟨u, h⟩)
  · exact .inl (.inl h)
  · exact .inl (.inr ⟨u, h⟩)
  · rw [h] at hl; cases hl
  · rw [h] at hl; cases hl
end
section
variable {H : Hp} {Q : VK} {vs : List V} {x y : V} {K : PySem.W.Frag} {σ : L2.St} {te : TE} {tl th : TO} {a : Addr}
theorem rtup : rTupH vs H Q = ∃ p, vs = [.ref p] ∧ ((∃ ys, H p = some (.lst ys) ∧ ∀ l, H l = none → Q (.ref l) (upd H l (.tup ys))) ∨ ∃ ys, H p = some (.tup ys) ∧ Q (.ref p) H) := rfl
theorem rlist : rListH vs H Q = ∃ p ys, vs = [.ref p] ∧ seqH (H p) = some ys ∧ ∀ l, H l = none → Q (.ref l) (upd H l (.lst ys)) := rfl
theorem rsl {lo hi : Option Int} : rSlH x lo hi H Q = ∃ a xs, x = .ref a ∧ H a = some (.lst xs) ∧ ∀ p, H p = none → Q (.ref p) (upd H p (.lst (cutV xs lo hi))) := rfl
theorem rsort : rSortH vs H Q = ∃ a ns, vs = [.ref a] ∧ seqH (H a) = some (ns.map V.int) ∧ isL (H a) = true ∧ ∀ (ns' : List Int) p, ns'.Perm ns → ns'.Pairwise (· ≤ ·) → H p = none → Q (.ref p) (upd H p (.lst (ns'.map V.int))) := rfl
theorem rcat : rCat x y H Q = ∃ l b xs zs, x = .ref l ∧ y = .ref b ∧ H l = some (.lst xs) ∧ H b = some (.lst zs) ∧ xs.length + zs.length ≤ sizeLine ∧ ∀ p, H p = none → Q (.ref p) (upd H p (.lst (xs ++ zs))) := rfl
theorem rapp : rAppend x vs H Q = ∃ l xs y, x = .ref l ∧ vs = [y] ∧ H l = some (.lst xs) ∧ xs.length < sizeLine ∧ Q .non (upd H l (.lst (xs ++ [y]))) := rfl
theorem rrev : rReverse x vs H Q = ∃ l xs, x = .ref l ∧ vs = [] ∧ H l = some (.lst xs) ∧ Q .non (upd H l (.lst xs.reverse)) := rfl
theorem sl_ap {r : V → Option Int → Option Int → Hp → VK → Prop} : tSl r te tl th σ H Q = te σ H fun x H1 => tl σ H1 fun l H2 => th σ H2 fun u H3 => r x l u H3 Q := rfl
theorem nop {QO : Option Int → Hp → Prop} : tNoPart σ H QO = QO none H := rfl
theorem part {QO : Option Int → Hp → Prop} : tPart te σ H QO = te σ H fun x H1 => ∃ i, x = .int i ∧ QO (some i) H1 := rfl
theorem yes {QB : Bool → Hp → Prop} : tYes σ H QB = QB true H := rfl
theorem tyl (h : isL (H a) = true) : tyV K "list" (.ref a) H = True := by
  refine eq_true ?_
  unfold isL at h
  split at h
  · rename_i xs e
    exact Or.inl ⟨rfl, _, .inl (.inl e)⟩
  · cases h
theorem reqd : rEqD K x y H Q = ∃ d e, Dp K H x d ∧ Dp K H y e ∧ SeqAt.shaped d = true ∧ SeqAt.shaped e = true ∧ Q (.bl (PyData.eqv d e)) H := rfl
theorem inV_ints {k : Int} : ∀ ns : List Int, inV (.int k) (ns.map V.int) = decide (k ∈ ns)
  | [] => rfl
  | n :: ns => by
    have ih := inV_ints (k := k) ns
    unfold inV at ih ⊢
    rw [List.map_cons, List.any_cons, ih]
    have : eqV (.int n) (.int k) = decide (n = k) := by
      show (n == k) = decide (n = k)
      by_cases h : n = k
      · rw [decide_eq_true h, h]
        exact beq_self_eq_true _
      · rw [decide_eq_false h]
        exact beq_eq_false_iff_ne.mpr h
    rw [this]
    by_cases h : n = k
    · subst h
      simp
    · have h' : ¬ k = n := fun e => h e.symm
      simp [h, h']
theorem flat_ints : ∀ ns : List Int, (ns.map V.int).all flatV = true
  | [] => rfl
  | n :: ns => by rw [List.map_cons, List.all_cons, flat_ints ns]; rfl
theorem flatV_i {k : Int} : flatV (.int k) = true := rfl
theorem wipe_cons {v : Nat} {vs : List Nat} : wipe σ (v :: vs) = (wipe σ vs).set v none := rfl
theorem wipe_nil : wipe σ [] = σ := rfl
theorem ints_inj {xs ys : List Int} : (xs.map V.int = ys.map V.int) = (xs = ys) := by
  refine propext ⟨fun h => ?_, fun h => by rw [h]⟩
  induction xs generalizing ys with
  | nil => cases ys with
    | nil => rfl
    | cons => cases h
  | cons x xs ih => cases ys with
    | nil => cases h
    | cons y ys =>
      rw [List.map_cons, List.map_cons] at h
      injection h with h1 h2
      injection h1 with h3
      rw [h3, ih h2]
end
/-! ### dicts with number and text keys -/
def dOf : Option HO → List (Key × V)
  | some (.dK kvs) => kvs
  | _ => []
theorem dOf_d {kvs : List (Key × V)} : dOf (some (.dK kvs)) = kvs := rfl
theorem isD_some {o : Option HO} (h : isD o = true) : o = some (.dK (dOf o)) := by
  unfold isD at h
  split at h
  · rfl
  · cases h
section
variable {H H' : Hp} {a : Addr} {i : Int} {z : Str} {o : Option V} {v : V} {σ : L2.St} {Q : VK} {td ty tx : TE} {D : Ends}
theorem dg2 : tDGet2 td ty tx σ H Q = td σ H fun x H1 => ∃ a, x = .ref a ∧ IsD H1 a ∧ ty σ H1 fun y H2 => tx σ H2 fun z H3 => ∃ o, DGet H3 a y o ∧ Q (o.getD z) H3 := rfl
theorem dg1 : tDGet1 td ty σ H Q = td σ H fun x H1 => ∃ a, x = .ref a ∧ IsD H1 a ∧ ty σ H1 fun y H2 => ∃ o, DGet H2 a y o ∧ Q (o.getD .non) H2 := rfl
theorem dg : tDGet td ty σ H Q = td σ H fun x H1 => ty σ H1 fun y H2 => ∃ a v, x = .ref a ∧ DGet H2 a y (some v) ∧ Q v H2 := rfl
theorem din : tDIn ty td σ H Q = ty σ H fun y H1 => td σ H1 fun x H2 => ∃ a o, x = .ref a ∧ DGet H2 a y o ∧ Q (.bl o.isSome) H2 := rfl
theorem dnotin : tDNotIn ty td σ H Q = ty σ H fun y H1 => td σ H1 fun x H2 => ∃ a o, x = .ref a ∧ DGet H2 a y o ∧ Q (.bl (!o.isSome)) H2 := rfl
theorem dnew : tDNewK σ H Q = ∀ p, H p = none → Q (.ref p) (upd H p (.dK [])) := rfl
theorem dput : sDPut td ty tx D σ H = tx σ H fun v H1 => td σ H1 fun x H2 => ty σ H2 fun y H3 => ∃ a H4, x = .ref a ∧ DPut H3 a y v H4 ∧ D.nx σ H4 := rfl
theorem isD_is (h : isD (H a) = true) : IsD H a = True := eq_true (.inl ⟨_, .inl (isD_some h)⟩)
theorem dget_k (h : isD (H a) = true) (k : Key) : DGet H a (kV k) o = (o = valV (dOf (H a)) k) := by
  have e := isD_some h
  refine propext ⟨fun q => ?_, fun q => .inl ⟨_, k, .inl e, rfl, q⟩⟩
  rcases q with ⟨kvs, k', r, ek, q⟩ | ⟨kvs, k', b, r, ek, _⟩
  · have ek' := kV_inj ek
    subst ek'
    rcases r with r | ⟨u, r⟩
    · rw [r]
      exact q
    · rw [e] at r
      cases r
  · cases k <;> cases ek
theorem dget_i (h : isD (H a) = true) : DGet H a (.int i) o = (o = valV (dOf (H a)) (Sum.inl i)) := dget_k h (Sum.inl i)
theorem dget_s (h : isD (H a) = true) : DGet H a (.str z) o = (o = valV (dOf (H a)) (Sum.inr z)) := dget_k h (Sum.inr z)
theorem dput_k (h : isD (H a) = true) (k : Key) : DPut H a (kV k) v H' = ((dOf (H a)).length < sizeLine ∧ H' = upd H a (.dK (putK (dOf (H a)) k v))) := by
  have e := isD_some h
  refine propext ⟨fun q => ?_, fun q => .inl ⟨_, k, e, rfl, q.1, q.2⟩⟩
  rcases q with ⟨kvs, k', r, ek, q⟩ | ⟨kvs, k', b, r, ek, _⟩
  · have ek' := kV_inj ek
    subst ek'
    rw [r]
    exact q
  · cases k <;> cases ek
theorem dput_i (h : isD (H a) = true) : DPut H a (.int i) v H' = ((dOf (H a)).length < sizeLine ∧ H' = upd H a (.dK (putK (dOf (H a)) (Sum.inl i) v))) := dput_k h (Sum.inl i)
theorem dput_s (h : isD (H a) = true) : DPut H a (.str z) v H' = ((dOf (H a)).length < sizeLine ∧ H' = upd H a (.dK (putK (dOf (H a)) (Sum.inr z) v))) := dput_k h (Sum.inr z)
end
/-! ### == of data -/
theorem eqd_ok {K : PySem.W.Frag} {H : Hp} {x y : V} {d : PyData} {Q : VK} (hx : Dt H x d) (hy : Dt H y d) (hs : SeqAt.shaped d = true) (q : Q (.bl true) H) : rEqD K x y H Q := by
  refine ⟨d, d, hx.dp, hy.dp, hs, hs, ?_⟩
  rw [SeqAt.eqv_refl d (SeqAt.canLay_of_shaped hs)]
  exact q
end Px

namespace Px
open PySem PySem.Spec PyProof.Rows L2
/-! ### augmented assignments, while, truth of numbers, dicts made of dicts -/
section
variable {σ : L2.St} {H : Hp} {Q : VK} {D : Ends} {te : TE} {ti : TIp} {x y : V} {vs : List V} {K : PySem.W.Frag}
theorem aug {i : Nat} : tAug i te ti D σ H = tVar i σ H fun x _ => te σ H fun y H1 => ti x y H1 fun z H2 => D.nx (σ.set i (some z)) H2 := rfl
theorem ipi {f : Int → Int → Int} : ipI f x y H Q = ∃ i j, x = .int i ∧ y = .int j ∧ Q (.int (f i j)) H := rfl
def tTrI (te : TE) : TT := fun σ H Q => te σ H fun x H' => ∃ i, x = .int i ∧ Q (decide (i ≠ 0)) H'
theorem tri {QB : Bool → Hp → Prop} : tTrI te σ H QB = te σ H fun x H' => ∃ i, x = .int i ∧ QB (decide (i ≠ 0)) H' := rfl
theorem pt_int {X : Cx} {a : Expr} {ta : TE} (ha : PE X a ta) (he : ∀ (whole : Sem Value), PySem.isTrue a X.env whole = do
          let v ← whole
          standAt a.pos
          holding [v] (truthy v)) : PT X a (tTrI ta) := ⟨fun pins s σ H Q I h => isTrue_plain (thn (ha.run pins s σ H (fun x H' => ∃ i, x = .int i ∧ Q (decide (i ≠ 0)) H') I h) fun v s1 x => by
  obtain ⟨x, H1, I1, r1, i, rfl, q⟩ := x
  refine tru_ok pins s1 σ H1 (.int i) v Q I1 r1 ⟨decide (i ≠ 0), ?_, q⟩
  show decide (i ≠ 0) = (i != 0)
  by_cases z : i = 0
  · subst z; rfl
  · rw [decide_eq_true z]; exact (bne_iff_ne.mpr z).symm) (he (eval a X.env))⟩
/-- two tuples put together -/
def rCatTH : V → V → Hp → VK → Prop := fun x y H Q => ∃ a b xs ys, x = .ref a ∧ y = .ref b ∧ H a = some (.tup xs) ∧ H b = some (.tup ys) ∧ xs.length + ys.length ≤ sizeLine ∧ ∀ p H', H' p = some (.tup (xs ++ ys)) → (H' = H ∨ ∃ q o, H q = none ∧ H' = upd H q o) → Q (.ref p) H'
theorem rcatth : rCatTH x y H Q = ∃ a b xs ys, x = .ref a ∧ y = .ref b ∧ H a = some (.tup xs) ∧ H b = some (.tup ys) ∧ xs.length + ys.length ≤ sizeLine ∧ ∀ p H', H' p = some (.tup (xs ++ ys)) → (H' = H ∨ ∃ q o, H q = none ∧ H' = upd H q o) → Q (.ref p) H' := rfl
theorem catT_H {X : Cx} : OpR X (binaryOp .Add) rCatTH := by
  intro pins s σ H x y u v Q I rx ry q
  refine op_catA pins s σ H x y u v Q I rx ry ?_
  obtain ⟨a, b, xs, ys, ex, ey, h1, h2, l, q⟩ := q
  refine ⟨a, b, xs, ys, ex, ey, .inl (.inl h1), .inl (.inl h2), l, fun e => q b H (by rw [h2, e]; rfl) (.inl rfl), fun e e' => q a H (by rw [h1, e', List.append_nil]) (.inl rfl), fun _ _ p hp => q p _ upd_same (.inr ⟨p, _, hp, rfl⟩)⟩
end
end Px

namespace Px
open PySem PySem.Spec PyProof.Rows L2
section
variable {X : Cx} {C f : Addr} {fd : FuncData} {ps : List Str} {sp : Sp} {E : XK} {CX : CXT} {n : Nat}
/-- len(o) by an own __len__ -/
def rLenO (C : Addr) (sp : Sp) (E : XK) : List V → Hp → VK → Prop := fun xs H Q => ∃ a dx fs, xs = [.ref a] ∧ H a = some (.ins C dx fs) ∧ sp [.ref a] H (fun v H' => ∃ i : Int, v = .int i ∧ (0 ≤ i ∧ i < 2 ^ 62) ∧ Q (.int i) H') E
theorem call_lenOwn (hl : PySem.W.findIn X.K (.ref C) "__len__" = some (some (.ref f))) (hf : PySem.W.isFn X.K (.ref f) = true) (F : FnOk X.prog X.w X.K X.mg X.base CX n f fd ps sp) (b : Binds X.K fd ps []) (hx : Passes CX X E) (hr : Room (n + 1) X.A) : CallR X (.builtin "len") (rLenO C sp E) := by
  intro pins s σ H xs us Q I rv h
  obtain ⟨a, dx, fs, rfl, ha, hsp⟩ := h
  obtain ⟨u, rfl, ru⟩ := rv.one
  cases ru
  obtain ⟨mA, J, _⟩ := ins_get I.hok ha
  obtain ⟨od, J, _⟩ := J.look
  obtain ⟨m, hF⟩ := I.fr
  have sb : Sub X n X.A.in1 := Sub.in1 (⟨hr, rfl⟩ : Sub X (n + 1) X.A)
  refine PySem.W.len_K hF I.ok.mod.kin J hl hf ?_
  have e0 : Env0 X.prog X.w X.K X.mg X.base X.A.in1 X.stack s H := by
    have e := I.env0
    exact ⟨by rw [sb.fr]; exact e.frames, e.mod, e.bs, e.bsz, e.funs, e.frf, e.hok, e.bare⟩
  have hlen := F.len _ _ _ _ hsp
  have r2 : Vals [V.ref a] [Value.ref a] := .cons rfl .nil
  refine wpAny_call (codeAny_mono (F.run X.A.in1 X.stack s H ⟨[.ref a], []⟩ [.ref a] [.ref a] _ E sb.room e0 (by
    have := b s [.ref a] I.kIn (by simpa using hlen)
    simpa using this) r2 hsp) fun r s' hq => ?_)
  cases r with
  | error e => exact hx pins σ H s e s' I hq
  | ok fl =>
    cases fl with
    | next => exact False.elim hq
    | brk => exact False.elim hq
    | cont => exact False.elim hq
    | ret u =>
      obtain ⟨v, H', I', rv, i, rfl, ⟨h0, h1⟩, q⟩ := I.after hq
      obtain ⟨t, rfl⟩ := rv
      refine ⟨⟨h0, by omega⟩, ?_⟩
      exact ⟨.int i, H', I'.tok _, ⟨_, rfl⟩, q⟩
end
end Px

namespace Px
open PySem PySem.Spec PyProof.Rows L2
/-- at it an iterator over the list at l, whatever else it holds -/
def LIt (l it : Addr) (i : Nat) : HO := .ext fun h => h.IsListIter it l i
theorem li_ok {P : Program} {w : World} {H : Hp} {h : Heap} {l it : Addr} {i : Nat} (e : h.IsListIter it l i) : ObjOk P w H h it (LIt l it i) := by
  obtain ⟨o, h1, h2, h3⟩ := id e
  exact ⟨e, ⟨o, h1⟩, fun g1 g2 q k => by
    obtain ⟨o, h1, h2, h3⟩ := q
    exact ⟨o, k _ h1, h2, h3⟩⟩
section
variable {X : Cx} {C fi fl a q it l : Addr} {fd fdL : FuncData} {ps psL : List Str} {spI spL : Sp} {EI EL : XK} {CI CL : CXT} {n : Nat} {pins : List (Addr × Obj)} {σ : L2.St} {H : Hp} {s : Shared} {A1 : Around}
/-- a walk over the list at l that fills the list at q: i places are done -/
theorem it_loop {zs : List V} {H1 : Hp} {Rs : Result → Shared → Prop} (hh : A1.handled = none) (hx : X.ex = []) (h0 : X.H_0 it = none) (hz : zs.length < sizeLine) (hlq : l ≠ q) (hiq : it ≠ q) (hil : it ≠ l)
    (hdone : ∀ H s, Inv X pins σ H s → (∀ b, b ≠ it → b ≠ q → H b = H1 b) → H q = some (.lst zs) → Rs (.ok (.ret .none)) s) :
    ∀ (m i : Nat) (H : Hp) (s : Shared), m + i = zs.length → Inv X pins σ H s → H it = some (LIt l it i) → H l = some (.lst zs) → H q = some (.lst (zs.take i)) → (∀ b, b ≠ it → b ≠ q → H b = H1 b) →
      codeAny (model X.prog X.w) A1 (.builtin "list.extend.loop" ⟨[.ref q, .ref it, .none], []⟩) Rs s := by
  intro m
  induction m with
  | zero =>
    intro i H s hm I hit hl hq hk
    refine codeAny_builtin PySem.F.entry_extend_loop ?_
    rw [Around.under_plainId PySem.F.plain_extend_loop _]
    show wpAny _ A1.in1 (pyNext (.ref it) >>= _) _ _ s
    obtain ⟨its, rv, pl, hz'⟩ := I.list (.inl (.inl hl))
    refine wpAny_bind (wpAny_pyNext_list_end (by exact hh) ((I.hok it _ hit).1) pl.isList (by rw [List.getElem?_toArray]; exact rv.none_of (by rw [List.getElem?_eq_none]; omega)) fun h' eb => ?_)
    obtain ⟨G, gs, ga, IG⟩ := I.untrack hit (fr0_none h0) hx
    have I2 : Inv X pins σ (delH H it) { s with heap := h' } := IG.kept (t' := s.toks) fun b u hb => eb b u (fun z => by rw [z, ga] at hb; cases hb) (gs b u hb)
    have ei : zs.take i = zs := List.take_of_length_le (by omega)
    rw [ei] at hq
    refine wpAny_pure (hdone (delH H it) _ I2 (fun b h1 h2 => ?_) ?_)
    · rw [← hk b h1 h2]
      exact if_neg h1
    · rw [← hq]
      exact if_neg hiq.symm
  | succ m ih =>
    intro i H s hm I hit hl hq hk
    refine codeAny_builtin PySem.F.entry_extend_loop ?_
    rw [Around.under_plainId PySem.F.plain_extend_loop _]
    show wpAny _ A1.in1 (pyNext (.ref it) >>= _) _ _ s
    obtain ⟨its, rv, pl, hz'⟩ := I.list (.inl (.inl hl))
    obtain ⟨v, hv⟩ : ∃ v, zs[i]? = some v := ⟨_, List.getElem?_eq_getElem (by omega)⟩
    obtain ⟨u, hu, ru⟩ := rv.get hv
    have mu : Mut (H it) := by rw [hit]; exact True.intro
    refine wpAny_bind (wpAny_pyNext_list_item ((I.hok it _ hit).1) pl.isList (by rw [List.getElem?_toArray]; exact hu) fun h' e' sb' => ?_)
    have I2 : Inv X pins σ (upd H it (LIt l it (i + 1))) { s with heap := h' } := I.write (x := it) (e := it) (t' := s.toks) mu (.inl rfl) (fun b o nb z => (sb'.2 b nb).trans z) (by obtain ⟨o, h1, _⟩ := e'; exact ⟨o, h1⟩) (li_ok e')
    have hq2 : upd H it (LIt l it (i + 1)) q = some (.lst (zs.take i)) := by rw [upd_ne hiq.symm, hq]
    obtain ⟨g1, its2, g2, r2, g3, e⟩ := I2.lstM hq2
    have tk : zs.take (i + 1) = zs.take i ++ [v] := by rw [List.take_add_one, hv]; rfl
    have ln : (zs.take i).length < sizeLine := by rw [List.length_take]; omega
    have le := r2.length
    have I3 := I2.lset (f := (·.push u)) (its' := its2 ++ [u]) (ys := zs.take (i + 1)) (t' := s.toks) hq2 e (by simp) (by rw [tk]; exact r2.append (.cons ru .nil)) (by rw [List.length_take]; omega)
    show wpAny _ A1.in1 (updateSeq q (·.push u) >>= _) _ _ _
    refine wpAny_bind (wpAny_updateSeq e rfl (wpAny_pure ⟨plainId_quiet PySem.F.plain_extend_loop _, ih (i + 1) _ _ (by omega) I3 ?_ ?_ upd_same ?_⟩) (by rw [List.size_toArray]; omega) ?_)
    · rw [upd_ne hiq, upd_same]
    · rw [upd_ne hlq, upd_ne hil.symm, hl]
    · intro b h1 h2
      rw [upd_ne h2, upd_ne h1, hk b h1 h2]
    · show (its2.toArray.push u).size ≤ sizeLine + 1
      rw [Array.size_push, List.size_toArray]
      omega
end
end Px

namespace Px
open PySem PySem.Spec PyProof.Rows L2
/-- a class with an own __iter__ and an own __len__ -/
structure LgC (K : PySem.W.Frag) (C fi fl : Addr) : Prop where
  it : PySem.W.findIn K (.ref C) "__iter__" = some (some (.ref fi))
  itF : PySem.W.isFn K (.ref fi) = true
  ln : PySem.W.findIn K (.ref C) "__len__" = some (some (.ref fl))
  lnF : PySem.W.isFn K (.ref fl) = true
section
variable {X : Cx} {C fi fl a q it l : Addr} {fd fdL : FuncData} {ps psL : List Str} {spI spL : Sp} {EI EL : XK} {CI CL : CXT} {n : Nat} {pins : List (Addr × Obj)} {σ : L2.St} {H : Hp} {s : Shared} {A1 : Around}
theorem lg_len {fs : List (Str × V)} {dx : Addr} {Q : Value → Shared → Prop} {Ep : Value → Shared → Prop} (sb : Sub X n A1.in1) (hc : LgC X.K C fi fl) (FL : FnOk X.prog X.w X.K X.mg X.base CX0 n fl fdL psL spL) (bL : Binds X.K fdL psL []) (I : Inv X pins σ H s) (ha : H a = some (.ins C dx fs))
    (hsp : spL [.ref a] H (fun v H' => ∃ i : Int, v = .int i ∧ (0 ≤ i ∧ i < 1000) ∧ H' = H) EL) (hQ : ∀ (i : Int) t s', (0 ≤ i ∧ i < 1000) → Inv X pins σ H s' → Q (.int i t) s') :
    wpAny (model X.prog X.w) A1 (call (.builtin "len") [.ref a]) Q Ep s := by
  obtain ⟨mA, J, _⟩ := ins_get I.hok ha
  obtain ⟨od, J, _⟩ := J.look
  obtain ⟨m, hF⟩ := I.fr
  refine PySem.W.len_K hF I.ok.mod.kin J hc.ln hc.lnF ?_
  have ev : Env0 X.prog X.w X.K X.mg X.base A1.in1 X.stack s H := ⟨by rw [sb.fr]; exact I.env0.frames, I.env0.mod, I.env0.bs, I.env0.bsz, I.env0.funs, I.env0.frf, I.env0.hok, I.env0.bare⟩
  have hlen := FL.len _ _ _ _ hsp
  have vv : Vals [V.ref a] [Value.ref a] := .cons rfl .nil
  have bb := bL s [.ref a] I.kIn (by simpa using hlen)
  refine wpAny_call (codeAny_mono (FL.run A1.in1 X.stack s H ⟨[.ref a], []⟩ [.ref a] [.ref a] _ EL sb.room ev (by simpa using bb) vv hsp) fun r s' hq => ?_)
  match r, hq with
  | .error e, hq => exact False.elim hq
  | .ok .next, hq => exact False.elim hq
  | .ok .brk, hq => exact False.elim hq
  | .ok .cont, hq => exact False.elim hq
  | .ok (.ret u), hq =>
    obtain ⟨v, H', I', rv, i, rfl, hi, rfl⟩ := I.after hq
    obtain ⟨t, rfl⟩ := rv
    exact ⟨⟨hi.1, by omega⟩, hQ i _ _ hi (I'.tok _)⟩
theorem lg_hint {fs : List (Str × V)} {dx : Addr} {Q : Bool → Shared → Prop} (sb : Sub X n A1.in1) (hc : LgC X.K C fi fl) (FL : FnOk X.prog X.w X.K X.mg X.base CX0 n fl fdL psL spL) (bL : Binds X.K fdL psL []) (I : Inv X pins σ H s) (ha : H a = some (.ins C dx fs))
    (hsp : spL [.ref a] H (fun v H' => ∃ i : Int, v = .int i ∧ (0 ≤ i ∧ i < 1000) ∧ H' = H) EL) (hQ : ∀ b s', Inv X pins σ H s' → Q b s') :
    wpAny (model X.prog X.w) A1 (Builtin.List.listLengthHint (.ref a)) Q X.xe s := by
  obtain ⟨mA, J, _⟩ := ins_get I.hok ha
  obtain ⟨od, J, _⟩ := J.look
  unfold Builtin.List.listLengthHint
  refine wpAny_bind (wpAny_bind (J.type.here ((PySem.W.looks_findIn I.kIn hc.ln).here ?_)))
  refine PySem.W.KFB.if_not rfl ?_
  show wpAny _ _ (if (some (Value.ref fl)).isSome = true then _ else _) _ _ _
  rw [if_pos (show (some (Value.ref fl)).isSome = true from rfl)]
  refine wpAny_bind (wpAny_rule ?_)
  refine wpAny_bind (wpAny_attempt (lg_len sb hc FL bL I ha hsp fun i t s' hi I' => ?_))
  refine wpAny_bind (m := asInt? _) (wpAny_of_eq (a := some i) (by first | rfl | kernel_rfl!) ?_)
  have tl : Builtin.List.listTooLong i.toNat = false := by
    unfold Builtin.List.listTooLong
    exact decide_eq_false (Nat.not_lt.mpr (Nat.le_trans (show i.toNat ≤ 1000 by omega) (by decide)))
  show wpAny _ _ (if Builtin.List.listTooLong i.toNat = true then _ else _) _ _ _
  rw [if_neg (show ¬ (Builtin.List.listTooLong i.toNat = true) from by rw [tl]; decide)]
  exact wpAny_pure (hQ _ _ I')
end
end Px

namespace Px
open PySem PySem.Spec PyProof.Rows L2
theorem look_li : typeLookup (.type "list_iterator") "__next__" = pure (some (.builtin "list_iterator.__next__")) := by rw [typeLookup_type, builtinLookup_eq_fast]; kernel_rfl
section
variable {X : Cx} {C fi fl a q it l : Addr} {fd fdL : FuncData} {ps psL : List Str} {spI spL : Sp} {n : Nat} {pins : List (Addr × Obj)} {σ : L2.St} {H : Hp} {s : Shared} {A1 : Around}
def EN : XK := fun _ _ _ => False
/-- what the own __iter__ is to give, the new list stands at q -/
def LgGot (H0 : Hp) (C : Addr) (spL : Sp) (a q : Addr) (R : Hp → Prop) : VK := fun v H1 => ∃ it l zs dx fs, v = .ref it ∧ H1 it = some (ItO l it 0) ∧ H0 it = none ∧ H1 l = some (.lst zs) ∧ l ≠ q ∧ zs.length < sizeLine ∧ H1 q = some (.lst []) ∧ H1 a = some (.ins C dx fs) ∧
  spL [.ref a] H1 (fun v H2 => ∃ i : Int, v = .int i ∧ (0 ≤ i ∧ i < 1000) ∧ H2 = H1) EN ∧ ∀ H2, (∀ b, b ≠ it → b ≠ q → H2 b = H1 b) → H2 q = some (.lst zs) → R H2
/-- list(o) by an own __iter__ that gives the iterator of a list -/
def rListIt (H0 : Hp) (C : Addr) (spI spL : Sp) : List V → Hp → VK → Prop := fun xs H Q => ∃ a dx fs, xs = [.ref a] ∧ H a = some (.ins C dx fs) ∧ ∀ q, H q = none → spI [.ref a] (upd H q (.lst [])) (LgGot H0 C spL a q fun H2 => Q (.ref q) H2) EN
theorem lg_extend {dx : Addr} {fs : List (Str × V)} {Rs : Result → Shared → Prop} {R : Hp → Prop} (hh : A1.handled = none) (hx : X.ex = []) (sb : Sub X (n + 1) A1.in1) (hc : LgC X.K C fi fl) (FI : FnOk X.prog X.w X.K X.mg X.base CX0 n fi fd ps spI) (bI : Binds X.K fd ps [])
    (FL : FnOk X.prog X.w X.K X.mg X.base CX0 n fl fdL psL spL) (bL : Binds X.K fdL psL []) (hdone : ∀ H s, Inv X pins σ H s → R H → Rs (.ok (.ret .none)) s)
    (I : Inv X pins σ H s) (ha : H a = some (.ins C dx fs)) (haq : a ≠ q) (hsp : spI [.ref a] H (LgGot X.H_0 C spL a q R) EN) :
    wpAny (model X.prog X.w) A1.in1 (Builtin.List.listExtendWith (.ref q) (.ref a) .none) (fun fin s' => match fin with | .done f => Rs (.ok f) s' | .again c' => c'.quiet = true ∧ codeAny (model X.prog X.w) A1 c' Rs s') X.xe s := by
  obtain ⟨mA, J, _⟩ := ins_get I.hok ha
  obtain ⟨od, J, _⟩ := J.look
  obtain ⟨m0, hF⟩ := I.fr
  unfold Builtin.List.listExtendWith
  refine wpAny_bind (J.type.here ?_)
  have h1 : Builtin.List.listSameRef (.ref q) (.ref a) = false := by simp [Builtin.List.listSameRef, haq.symm]
  have h2 : (Value.ref C == Value.type "list") = false ∧ (Value.ref C == Value.type "tuple") = false := ⟨rfl, rfl⟩
  simp only [h1, h2.1, h2.2, Bool.or_false, Bool.false_eq_true, if_false]
  refine wpAny_bind (PySem.W.owit_iter hF I.ok.mod.kin J hc.it hc.itF ?_)
  have ev : Env0 X.prog X.w X.K X.mg X.base A1.in1 X.stack s H := ⟨by rw [sb.fr]; exact I.env0.frames, I.env0.mod, I.env0.bs, I.env0.bsz, I.env0.funs, I.env0.frf, I.env0.hok, I.env0.bare⟩
  have hlen := FI.len _ _ _ _ hsp
  have vv : Vals [V.ref a] [Value.ref a] := .cons rfl .nil
  have bb := bI s [.ref a] I.kIn (by simpa using hlen)
  refine wpAny_call (codeAny_mono (FI.run A1.in1 X.stack s H ⟨[.ref a], []⟩ [.ref a] [.ref a] _ EN (sb.mono (Nat.le_succ n)).room ev (by simpa using bb) vv hsp) fun r s' hq => ?_)
  match r, hq with
  | .error e, hq => exact False.elim hq
  | .ok .next, hq => exact False.elim hq
  | .ok .brk, hq => exact False.elim hq
  | .ok .cont, hq => exact False.elim hq
  | .ok (.ret u), hq =>
    obtain ⟨v, H1, I1, rv, it, l, zs, dx1, fs1, rfl, hit, h0, hl, hlq, hz, hq1, ha1, hs1, hR⟩ := I.after hq
    cases rv
    have go := itO_get I1 hit
    have hiq : it ≠ q := fun z => by rw [z, hq1] at hit; cases hit
    have hil : it ≠ l := fun z => by rw [z, hl] at hit; cases hit
    unfold PySem.W.OwitIt
    refine wpAny_specialOf (T := "list_iterator") ⟨_, go, rfl⟩ look_li ?_
    refine wpAny_bind (wpAny_holding (lg_hint (sb.in1) hc FL bL I1 ha1 hs1 fun b s2 I2 => ?_))
    have lp : ∀ s3, Inv X pins σ H1 s3 → codeAny (model X.prog X.w) A1 (.builtin "list.extend.loop" ⟨[.ref q, .ref it, .none], []⟩) Rs s3 := fun s3 I3 => by
      have g3 := itO_get I3 hit
      have mu : Mut (H1 it) := by rw [hit]; exact True.intro
      have I4 : Inv X pins σ (upd H1 it (LIt l it 0)) s3 := I3.write (x := it) (e := it) (t' := s3.toks) mu (.inl rfl) (fun b o nb z => z) ⟨_, g3⟩ (li_ok ⟨_, g3, rfl, rfl⟩)
      exact it_loop hh hx h0 hz hlq hiq hil (fun H s' J1 k1 k2 => hdone H s' J1 (hR H k1 k2)) zs.length 0 (upd H1 it (LIt l it 0)) s3 rfl I4 upd_same (by rw [upd_ne hil.symm, hl]) (by rw [upd_ne hiq.symm, hq1]; rfl) (fun b h1 _ => upd_ne h1)
    obtain ⟨g1, its2, g2, r3, g3, e3⟩ := I2.lstM hq1
    cases r3
    refine wpAny_ite_split (fun _ => wpAny_bind (wpAny_rule (wpAny_bind ?_))) (fun _ => wpAny_pure ⟨plainId_quiet PySem.F.plain_extend_loop _, lp s2 I2⟩)
    have I5 := I2.lset (f := (·.push Value.none)) (its' := [Value.none]) (ys := [.non]) (t' := s2.toks) hq1 e3 (by simp) (.cons rfl .nil) (by rw [List.length_singleton, sizeLine_eq]; decide)
    obtain ⟨z5, its5, k5, r5, l5, e5⟩ := I5.lstM upd_same
    obtain ⟨u5, rfl, ru5⟩ := r5.one
    have I6 := I5.lset (f := (·.pop)) (its := [u5]) (its' := []) (ys := []) (t' := s2.toks) upd_same e5 (by rfl) .nil (Nat.zero_le _)
    have eH : upd (upd H1 q (.lst [.non])) q (.lst []) = H1 := by
      rw [upd_upd]
      funext b
      by_cases hb : b = q
      · rw [hb, upd_same, hq1]
      · exact upd_ne hb
    rw [eH] at I6
    show wpAny _ _ (updateSeq q (·.push .none) >>= fun _ => updateSeq q (·.pop)) _ _ s2
    refine wpAny_bind (wpAny_updateSeq e3 rfl (wpAny_updateSeq e5 rfl (wpAny_pure ⟨plainId_quiet PySem.F.plain_extend_loop _, lp _ I6⟩) ?_ ?_) ?_ ?_)
    all_goals first
      | exact Nat.zero_le _
      | (show 1 ≤ _; rw [sizeLine_eq]; decide)
      | (show 0 ≤ _; exact Nat.zero_le _)
theorem call_listIt (hc : LgC X.K C fi fl) (FI : FnOk X.prog X.w X.K X.mg X.base CX0 n fi fd ps spI) (bI : Binds X.K fd ps []) (FL : FnOk X.prog X.w X.K X.mg X.base CX0 n fl fdL psL spL) (bL : Binds X.K fdL psL []) (hr : Room (n + 3) X.A) (hcalm : X.calm = true) (hx : X.ex = []) :
    CallR X (.type "list") (rListIt X.H_0 C spI spL) := by
  intro pins s σ H xs us Q I rv h
  obtain ⟨a, dx, fs, rfl, ha, hq⟩ := h
  obtain ⟨u, rfl, ru⟩ := rv.one
  cases ru
  have sb : Sub X (n + 1) X.A.in1.in1 := ((⟨hr, rfl⟩ : Sub X (n + 3) X.A).in1).in1
  have hh : X.A.in1.handled = none := I.ok.hd hcalm
  refine callType_codes (Q₁ := fun o s1 => o = .ref s.heap.objs.size ∧ s1 = { s with heap := s.heap.push { cls := .type "list", data := .seq #[] } }) PySem.F.called_list (PySem.F.typeCall_list_1 _) PySem.F.entry_list_init (code_list_new _ ⟨rfl, rfl⟩) fun o s1 e => ?_
  obtain ⟨rfl, rfl⟩ := e
  have at1 : (s.heap.push { cls := .type "list", data := .seq #[] }).get? s.heap.objs.size = some { cls := .type "list", data := .seq #[] } := Heap.get?_push_size _ rfl
  refine ⟨⟨_, at1, rfl⟩, PySem.F.args_list_init_2 _ _, ?_⟩
  have hn : H s.heap.objs.size = none := I.hok.fresh (Nat.le_refl _)
  have I1 : Inv X pins σ (upd H s.heap.objs.size (.lst [])) { s with heap := s.heap.push { cls := .type "list", data := .seq #[] } } := I.lnew (its := []) (t' := s.toks) .nil (Nat.zero_le _)
  have I2 := I1.lset (f := fun _ => #[]) (its := []) (its' := []) (ys := []) (t' := s.toks) upd_same at1 rfl .nil (Nat.zero_le _)
  rw [upd_upd] at I2
  have ha2 : upd H s.heap.objs.size (.lst []) a = some (.ins C dx fs) := by rw [updI hn (by rw [ha]; rfl)]; exact ha
  have haq : a ≠ s.heap.objs.size := fun z => by rw [z, hn] at ha; cases ha
  have fin := lg_extend (A1 := X.A.in1) (Rs := wants (fun r s2 => r = .none ∧ EP X pins σ Q (.ref s.heap.objs.size) s2) X.xe) hh hx sb hc FI bI FL bL (fun H' s' J1 k => ⟨rfl, .ref s.heap.objs.size, H', J1, rfl, k⟩) I2 ha2 haq (hq _ hn)
  show wpAny _ _ (do let old ← Builtin.List.listItems (.ref s.heap.objs.size); Builtin.List.listUpdate (.ref s.heap.objs.size) (fun _ => #[]); letGo old.toList.reverse; Builtin.List.listExtendWith (.ref s.heap.objs.size) (.ref a) .none) _ _ _
  refine wpAny_bind ?_
  unfold Builtin.List.listItems
  refine wpAny_bind (wpAny_seqItems at1 rfl (wpAny_pure ?_))
  show wpAny _ _ (updateSeq s.heap.objs.size (fun _ => #[]) >>= fun _ => letGo (#[] : Array Value).toList.reverse >>= fun _ => Builtin.List.listExtendWith (.ref s.heap.objs.size) (.ref a) .none) _ _ _
  exact wpAny_bind (wpAny_updateSeq at1 rfl (wpAny_bind (wpAny_letGo fin)))
end
end Px

namespace Px
open PySem PySem.Spec PyProof.Rows L2
/-! ### fields by what the heap knows -/
/-- the field f of the instance at a -/
def fldV (H : Hp) (a : Addr) (f : Str) : Option V := match H a with
  | some (.ins _ _ fs) => fs.lookup f
  | _ => none
/-- the class of the instance at a lets its field f be read and stored -/
def FOk (K : PySem.W.Frag) (H : Hp) (a : Addr) (f : Str) : Prop := ∃ C dx fs, H a = some (.ins C dx fs) ∧ Cls K C ∧ NoAttr K C f ∧ fs.length < 900
def tFldH (K : PySem.W.Frag) (ta : TE) (f : Str) : TE := fun σ H Q => ta σ H fun x H1 => ∃ a v, x = .ref a ∧ FOk K H1 a f ∧ fldV H1 a f = some v ∧ Q v H1
section
variable {X : Cx} {o e value : Expr} {f : Str} {pos pos' : Pos} {ta tv : TE} {σ : L2.St} {H : Hp} {Q : VK} {K : PySem.W.Frag} {D : Ends} {a C dx : Addr} {fs : List (Str × V)} {v : V}
theorem fldV_ins (h : H a = some (.ins C dx fs)) : fldV H a f = fs.lookup f := by
  unfold fldV
  rw [h]
theorem flh : tFldH K ta f σ H Q = ta σ H fun x H1 => ∃ a v, x = .ref a ∧ FOk K H1 a f ∧ fldV H1 a f = some v ∧ Q v H1 := rfl
theorem sfl : sFld K ta tv f D σ H = tv σ H fun y H1 => ta σ H1 fun x H2 => ∃ a C dx fs, x = .ref a ∧ H2 a = some (.ins C dx fs) ∧ Cls K C ∧ NoAttr K C f ∧ fs.length < 1000 ∧ D.nx σ (upd H2 a (.ins C dx (putF f y fs))) := rfl
theorem met {m : Str} {sp : Sp} {dvs : List V} {E : XK} {t : TA} : tMeth C m sp dvs E ta t σ H Q = ta σ H fun x H1 => ∃ a dx fs, x = .ref a ∧ H1 a = some (.ins C dx fs) ∧ fs.lookup m = none ∧ t σ H1 fun vs H2 => sp (x :: (vs ++ dvs)) H2 Q E := rfl
theorem mak {sp : Sp} {dvs : List V} {E : XK} {t : TA} : tMake C sp dvs E t σ H Q = t σ H fun vs H1 => ∀ x dx, H1 x = none → H1 dx = none → dx ≠ x → sp (.ref x :: (vs ++ dvs)) (upd (upd H1 dx (.own x)) x (.ins C dx [])) (fun v H2 => v = .non ∧ Q (.ref x) H2) E := rfl
theorem pe_fldH (he : PE X e ta) (hb : attributeBase e f X.env (eval e X.env) = eval e X.env) : PE X (.Attribute e f pos) (tFldH X.K ta f) := by
  constructor
  intro pins s σ H Q I h
  refine attr_of hb (thn (he.run pins s σ H _ I h) fun u s1 ⟨x, H1, I1, rx, a, v, ex, ⟨C, dx, fs, ea, cc, nn, _⟩, l, q⟩ => ?_)
  subst ex
  cases rx
  rw [fldV_ins ea] at l
  exact getattr_ok I1 ea cc nn l fun w s2 I2 rw' => ⟨v, H1, I2, rw', q⟩
/-- a stored field -/
theorem fldV_put (h : H a = some (.ins C dx fs)) (g : Str) : fldV (upd H a (.ins C dx (putF f v fs))) a g = if g = f then some v else fldV H a g := by
  rw [fldV_ins upd_same, fldV_ins h, lookup_putF]
end
end Px

namespace Px
open PySem PySem.Spec PyProof.Rows L2
/-! ### methods and the making of objects, bundled -/
/-- the method m of the class at C keeps sp -/
def MDef (P : Program) (w : World) (K : PySem.W.Frag) (mg : Str → Option Value) (base : Heap) (CX : CXT) (k : Nat) (C : Addr) (m : Str) (ps : List Str) (sp : Sp) : Prop :=
  ∃ f fd, Cls K C ∧ Meth K C m f ∧ Binds K fd ps [] ∧ FnOk P w K mg base CX k f fd ps sp
/-- the class called x stands at C, its __init__ keeps sp -/
def MkDef (P : Program) (w : World) (K : PySem.W.Frag) (mg : Str → Option Value) (base : Heap) (CX : CXT) (k : Nat) (x : Str) (C : Addr) (ps : List Str) (sp : Sp) : Prop :=
  ∃ f fd, mg x = some (.ref C) ∧ Mk K C f ∧ Binds K fd ps [] ∧ FnOk P w K mg base CX k f fd ps sp
section
variable {X : Cx} {CX : CXT} {k : Nat} {C : Addr} {x m : Str} {ps : List Str} {sp : Sp} {E : XK} {p apos pos : Pos} {o e : Expr} {es : List Expr} {ta : TE} {t : TA}
theorem pe_mm0 {pl : Sem Bool} (D : MDef X.prog X.w X.K X.mg X.base CX k C m ps sp) (hr : Room k X.A) (hx : Passes CX X E) (he : PE X o ta)
    (ht : eval (.Call (.Attribute o m apos) [] [] pos) X.env = (do
      let v ← eval o X.env
      standAt apos.atName
      let (g, us) ← holding [v] (getMethod v m pl)
      callWith pos g us (backTo pos (starEach [] X.env)) (backToKw pos (keywordEach [] X.env))) := by rfl) : PE X (.Call (.Attribute o m apos) [] [] pos) (tMeth C m sp [] E ta tNil) := by
  obtain ⟨f, fd, a, b, c, d⟩ := D
  exact pe_meth0 he a b d hr c .nil hx ht
theorem pe_mm1 {pl : Sem Bool} (D : MDef X.prog X.w X.K X.mg X.base CX k C m ps sp) (hr : Room k X.A) (hx : Passes CX X E) (he : PE X o ta) (ha : PA X (e :: es) t)
    (hs : starEach (e :: es) X.env = (false, eval e X.env) :: starEach es X.env := by rfl) (hpl : (backTo pos (starEach es X.env)).any (·.1) = false := by rfl)
    (ht : eval (.Call (.Attribute o m apos) (e :: es) [] pos) X.env = (do
      let v ← eval o X.env
      standAt apos.atName
      let (g, us) ← holding [v] (getMethod v m pl)
      callWith pos g us (backTo pos (starEach (e :: es) X.env)) (backToKw pos (keywordEach [] X.env))) := by rfl) : PE X (.Call (.Attribute o m apos) (e :: es) [] pos) (tMeth C m sp [] E ta t) := by
  obtain ⟨f, fd, a, b, c, d⟩ := D
  exact pe_meth he a b d hr c .nil hx ha hs hpl ht
theorem pe_mk0 (D : MkDef X.prog X.w X.K X.mg X.base CX k x C ps sp) (hr : Room (k + 1) X.A) (hx : Passes CX X E) (hg : Gl X x := by rfl) (hdb : (x == ("__debug__" : Str)) = false := by decide) : PE X (.Call (.Name x p) [] [] pos) (tMake C sp [] E tNil) := by
  obtain ⟨f, fd, a, b, c, d⟩ := D
  exact pe_make0 b d hr hg a c .nil hx hdb
theorem pe_mk1 (D : MkDef X.prog X.w X.K X.mg X.base CX k x C ps sp) (hr : Room (k + 1) X.A) (hx : Passes CX X E) (ha : PA X (e :: es) t) (hg : Gl X x := by rfl) (hdb : (x == ("__debug__" : Str)) = false := by decide)
    (he : starEach (e :: es) X.env = (false, eval e X.env) :: starEach es X.env := by rfl) (hpl : (backTo pos (starEach es X.env)).any (·.1) = false := by rfl) : PE X (.Call (.Name x p) (e :: es) [] pos) (tMake C sp [] E t) := by
  obtain ⟨f, fd, a, b, c, d⟩ := D
  exact pe_make b d hr hg a c .nil hx ha hdb he hpl
theorem call_lenD {n : Nat} (D : MDef X.prog X.w X.K X.mg X.base CX0 n C "__len__" ps sp) (hr : Room (n + 1) X.A) : CallR X (.builtin "len") (rLenO C sp EN) := by
  obtain ⟨f, fd, a, b, c, d⟩ := D
  exact call_lenOwn b.at_ b.fn d c pass0 hr
theorem call_listD2 {n : Nat} {psL : List Str} {spI spL : Sp} (DI : MDef X.prog X.w X.K X.mg X.base CX0 n C "__iter__" ps spI) (DL : MDef X.prog X.w X.K X.mg X.base CX0 n C "__len__" psL spL) (hr : Room (n + 3) X.A) (hc : X.calm = true) (hx : X.ex = []) : CallR X (.type "list") (rListIt X.H_0 C spI spL) := by
  obtain ⟨f, fd, a, b, c, d⟩ := DI
  obtain ⟨f2, fd2, a2, b2, c2, d2⟩ := DL
  exact call_listIt ⟨b.at_, b.fn, b2.at_, b2.fn⟩ d c d2 c2 hr hc hx
end
end Px

namespace K03
open PySem PySem.Spec PyProof.Rows L2 Px
def top (i : Nat) : Stmt := PySem.Challenge.pw_solvedpapers_k03_trimmed_lists.main.body.getD i (.Pass ⟨0, 0, 0, 0⟩)
abbrev s_used_numbers : Stmt := top 1
theorem sc_used_numbers : FnScope ["step", "kind", "_", "details", "first", "strikes", "number"] ["step"] (defScope s_used_numbers) := ⟨rfl, rfl, rfl, by decide +kernel, rfl, by decide +kernel, by decide +kernel⟩
abbrev s_kept_marks : Stmt := top 2
theorem sc_kept_marks : FnScope ["steps", "last", "marks", "k", "number"] ["steps"] (defScope s_kept_marks) := ⟨rfl, rfl, rfl, by decide +kernel, rfl, by decide +kernel, by decide +kernel⟩
abbrev s_renumbered : Stmt := top 3
theorem sc_renumbered : FnScope ["step", "numbers", "kind", "clause", "details", "first", "strikes", "moved", "literal", "number"] ["step", "numbers"] (defScope s_renumbered) := ⟨rfl, rfl, rfl, by decide +kernel, rfl, by decide +kernel, by decide +kernel⟩
abbrev s_trim : Stmt := top 4
theorem sc_trim : FnScope ["steps", "marks", "numbers", "result", "k"] ["steps"] (defScope s_trim) := ⟨rfl, rfl, rfl, by decide +kernel, rfl, by decide +kernel, by decide +kernel⟩
abbrev s_moved_details : Stmt := top 7
theorem sc_moved_details : FnScope ["details", "start", "first", "strikes", "literal", "number"] ["details", "start"] (defScope s_moved_details) := ⟨rfl, rfl, rfl, by decide +kernel, rfl, by decide +kernel, by decide +kernel⟩
abbrev s_law_pool : Stmt := top 9
theorem sc_law_pool : FnScope ["script", "k", "cell", "spare"] ["script", "k"] (defScope s_law_pool) := ⟨rfl, rfl, rfl, by decide +kernel, rfl, by decide +kernel, by decide +kernel⟩
abbrev s_law_take : Stmt := top 10
theorem sc_law_take : FnScope ["pool", "size", "k", "cell", "mixed"] ["pool", "size"] (defScope s_law_take) := ⟨rfl, rfl, rfl, by decide +kernel, rfl, by decide +kernel, by decide +kernel⟩
abbrev s_law_whole : Stmt := top 11
theorem sc_law_whole : FnScope ["value"] ["value"] (defScope s_law_whole) := ⟨rfl, rfl, rfl, by decide +kernel, rfl, by decide +kernel, by decide +kernel⟩
abbrev s_law_alike : Stmt := top 12
theorem sc_law_alike : FnScope ["told", "due", "k"] ["told", "due"] (defScope s_law_alike) := ⟨rfl, rfl, rfl, by decide +kernel, rfl, by decide +kernel, by decide +kernel⟩
abbrev s_law_alike_lists : Stmt := top 13
theorem sc_law_alike_lists : FnScope ["told", "due"] ["told", "due"] (defScope s_law_alike_lists) := ⟨rfl, rfl, rfl, by decide +kernel, rfl, by decide +kernel, by decide +kernel⟩
abbrev s_law_literal : Stmt := top 14
theorem sc_law_literal : FnScope ["pool"] ["pool"] (defScope s_law_literal) := ⟨rfl, rfl, rfl, by decide +kernel, rfl, by decide +kernel, by decide +kernel⟩
abbrev s_law_literals : Stmt := top 15
theorem sc_law_literals : FnScope ["pool", "found", "k", "literal", "n"] ["pool"] (defScope s_law_literals) := ⟨rfl, rfl, rfl, by decide +kernel, rfl, by decide +kernel, by decide +kernel⟩
abbrev s_law_step : Stmt := top 16
theorem sc_law_step : FnScope ["pool", "steps", "k", "pick", "line", "first", "strikes", "j", "one", "two", "others"] ["pool", "steps"] (defScope s_law_step) := ⟨rfl, rfl, rfl, by decide +kernel, rfl, by decide +kernel, by decide +kernel⟩
abbrev s_law_due : Stmt := top 17
theorem sc_law_due : FnScope ["steps", "last", "wanted", "k", "details", "pair", "kept", "out", "kind", "clause"] ["steps"] (defScope s_law_due) := ⟨rfl, rfl, rfl, by decide +kernel, rfl, by decide +kernel, by decide +kernel⟩
abbrev s_law_moved : Stmt := top 18
theorem sc_law_moved : FnScope ["step", "start", "pair"] ["step", "start"] (defScope s_law_moved) := ⟨rfl, rfl, rfl, by decide +kernel, rfl, by decide +kernel, by decide +kernel⟩
abbrev s_law_trims : Stmt := top 19
theorem sc_law_trims : FnScope ["steps", "due", "passed", "told", "again"] ["steps"] (defScope s_law_trims) := ⟨rfl, rfl, rfl, by decide +kernel, rfl, by decide +kernel, by decide +kernel⟩
abbrev s_law_keeps : Stmt := top 20
theorem sc_law_keeps : FnScope ["log", "steps", "told", "k"] ["log", "steps"] (defScope s_law_keeps) := ⟨rfl, rfl, rfl, by decide +kernel, rfl, by decide +kernel, by decide +kernel⟩
abbrev s_law_takes : Stmt := top 21
theorem sc_law_takes : FnScope ["log", "before", "steps", "passed", "told", "step"] ["log", "before", "steps"] (defScope s_law_takes) := ⟨rfl, rfl, rfl, by decide +kernel, rfl, by decide +kernel, by decide +kernel⟩
abbrev s_law : Stmt := top 22
theorem sc_law : FnScope ["script", "pool", "steps", "k", "mine", "some", "log", "twin", "told", "due", "step"] ["script"] (defScope s_law) := ⟨rfl, rfl, rfl, by decide +kernel, rfl, by decide +kernel, by decide +kernel⟩
abbrev s_Log___init__ : Stmt := inClass (top 6) 0
theorem sc_Log___init__ : FnScope ["self"] ["self"] (defScope s_Log___init__) := ⟨rfl, rfl, rfl, by decide +kernel, rfl, by decide +kernel, by decide +kernel⟩
abbrev s_Log___len__ : Stmt := inClass (top 6) 1
theorem sc_Log___len__ : FnScope ["self"] ["self"] (defScope s_Log___len__) := ⟨rfl, rfl, rfl, by decide +kernel, rfl, by decide +kernel, by decide +kernel⟩
abbrev s_Log___iter__ : Stmt := inClass (top 6) 2
theorem sc_Log___iter__ : FnScope ["self"] ["self"] (defScope s_Log___iter__) := ⟨rfl, rfl, rfl, by decide +kernel, rfl, by decide +kernel, by decide +kernel⟩
abbrev s_Log_write : Stmt := inClass (top 6) 3
theorem sc_Log_write : FnScope ["self", "kind", "clause", "details"] ["self", "kind", "clause", "details"] (defScope s_Log_write) := ⟨rfl, rfl, rfl, by decide +kernel, rfl, by decide +kernel, by decide +kernel⟩
abbrev s_Log_take : Stmt := inClass (top 6) 4
theorem sc_Log_take : FnScope ["self", "steps", "start", "kind", "clause", "details"] ["self", "steps"] (defScope s_Log_take) := ⟨rfl, rfl, rfl, by decide +kernel, rfl, by decide +kernel, by decide +kernel⟩
abbrev s_Log_step : Stmt := inClass (top 6) 5
theorem sc_Log_step : FnScope ["self", "number"] ["self", "number"] (defScope s_Log_step) := ⟨rfl, rfl, rfl, by decide +kernel, rfl, by decide +kernel, by decide +kernel⟩
abbrev s_Log_clause_at : Stmt := inClass (top 6) 6
theorem sc_Log_clause_at : FnScope ["self", "number"] ["self", "number"] (defScope s_Log_clause_at) := ⟨rfl, rfl, rfl, by decide +kernel, rfl, by decide +kernel, by decide +kernel⟩
abbrev s_Log_all_steps : Stmt := inClass (top 6) 7
theorem sc_Log_all_steps : FnScope ["self"] ["self"] (defScope s_Log_all_steps) := ⟨rfl, rfl, rfl, by decide +kernel, rfl, by decide +kernel, by decide +kernel⟩
structure Bn (mg : Str → Option Value) : Prop where
  abs : mg "abs" = none
  bool_ : mg "bool" = none
  int_ : mg "int" = none
  isinstance : mg "isinstance" = none
  iter : mg "iter" = none
  len : mg "len" = none
  list_ : mg "list" = none
  range : mg "range" = none
  reversed : mg "reversed" = none
  sorted : mg "sorted" = none
  str_ : mg "str" = none
  tuple_ : mg "tuple" = none
/-- the names of the class -/
structure LogC (K : PySem.W.Frag) (C : Addr) : Prop where
  cl : Cls K C
  na : NoAttr K C "_steps"
section
variable {P : Program} {w : World} {K : PySem.W.Frag} {mg : Str → Option Value} {base : Heap} {C : Addr}
theorem ok_take (B : Bn mg) (F : FunAt K mg "_law_take" s_law_take) : Def P w K mg base CX0 1 "_law_take" ["pool", "size"] spTake := by
  refine F.ok sc_law_take (fun _ _ _ _ _ _ us hl => match us, hl with | [_, _], _ => rfl) (fun vs H Q E h => by obtain ⟨p, n, rfl, _⟩ := h; rfl) (fun f cdv A outer s H vs Q E hr h => ?_)
  obtain ⟨p, n, rfl, ⟨c, k, b, s0, hp⟩, hn, q⟩ := h
  refine ⟨_, pss_cons (ps_set (i := 2) sc_law_take.nd rfl (Or.inl rfl) (pe_ix ix_H (pv 0) pe_int (fun _ _ => rfl))) (
  pss_cons (ps_asg (pe_op op_add (pv 2) pe_int) (pg_sub (pv 0) pe_int set_list)) (
  pss_cons (ps_set (i := 3) sc_law_take.nd rfl (Or.inl rfl) (pe_ix ix_H (pv 0) pe_int (fun _ _ => rfl))) (
  pss_cons (ps_if (PW.pt (pw_and (pt_val (pe_ix ix_H (pv 0) pe_int (fun _ _ => rfl))) (pw_and1 (pt_cmpR op_gt (pv 3) pe_int (nomark _))))) (pss_cons (ps_asg (pe_op op_fdiv (pv 3) (pv 1)) (pg_sub (pv 0) pe_int set_list)) (
  pss_one (ps_ret (pe_op op_mod (pe_callTy call_intI rfl B.int_ (by decide +kernel) (pa_cons (pv 3) pa_nil)) (pv 1))))) (pss_nil)) (
  pss_cons (ps_if (pt_val (pe_ix ix_H (pv 0) pe_int (fun _ _ => rfl))) (pss_one (ps_set (i := 3) sc_law_take.nd rfl (Or.inl rfl) (pe_ix ix_H (pv 0) pe_int (fun _ _ => rfl)))) (pss_nil)) (
  pss_cons (ps_set (i := 4) sc_law_take.nd rfl (Or.inl rfl) (pe_op op_mod (pe_callTy call_intI rfl B.int_ (by decide +kernel) (pa_cons (pe_op op_add (pe_op op_add (pv 3) (pe_op op_mul pe_int (pv 2))) pe_int) pa_nil)) pe_int)) (
  pss_cons (ps_set (i := 4) sc_law_take.nd rfl (Or.inl rfl) (pe_op op_mod (pe_callTy call_intI rfl B.int_ (by decide +kernel) (pa_cons (pe_op op_mul (pv 4) (pe_op op_add (pv 4) pe_int)) pa_nil)) pe_int)) (
  pss_cons (ps_set (i := 4) sc_law_take.nd rfl (Or.inl rfl) (pe_op op_mod (pe_callTy call_intI rfl B.int_ (by decide +kernel) (pa_cons (pe_op op_add (pe_op op_mul (pv 4) (pe_op op_add (pv 4) pe_int)) (pe_op op_mul pe_int (pv 2))) pa_nil)) pe_int)) (
  pss_one (ps_ret (pe_op op_mod (pe_callTy call_intI rfl B.int_ (by decide +kernel) (pa_cons (pe_op op_fdiv (pv 4) pe_int) pa_nil)) (pv 1))))))))))), ?_⟩
  show tSeq _ _ _ [some (.ref p), some (.int n), none, none, none] H
  refine go_seq ?_
  simp only [decide_true, decide_false, List.map_cons, List.map_nil, Option.map_none, Option.map_some, Option.getD_none, Option.getD_some, Px.dg2, Px.dg1, Px.dg, Px.din, Px.dnotin, Px.dnew, Px.dput, Px.isD_is, Px.dget_i, Px.dget_s, Px.dput_i, Px.dput_s, Px.dOf_d, Px.rtup, Px.rlist, Px.rsl, Px.rsort, Px.rcat, Px.rapp, Px.rrev, Px.sl_ap, Px.nop, Px.part, Px.yes, Px.tyl, Px.isL_l, Px.isT_t, Px.isL_t, Px.isT_l, Px.isD_d, Px.isT_d, Px.inV_ints, Px.flat_ints, Px.flatV_i, Px.wipe_cons, Px.wipe_nil, Px.gtup, Px.gcons, Px.gnil, gt_iff_lt, ge_iff_le, Px.we, Px.wonly, Px.was, Px.cxK, not_true_eq_false, and_self, true_implies, false_implies, implies_true, Px.e0, and_assoc, imp_false, not_false_eq_true, ne_eq, Px.rgcd, Px.rixl, Px.rixt, Px.v0, Px.v1, Px.v2, Px.v3, Px.v4, Px.v5, Px.v6, Px.v7, Px.v8, Px.v9, Px.v10, Px.v11, Px.v12, Px.v13, Px.v14, Px.v15, Px.v16, Px.v17, Px.v18, Px.v19, Px.v20, Px.v21, Px.v22, Px.v23, Px.c0, Px.asg, Px.gnm, Px.ret, Px.retN, Px.drop, Px.nxt, Px.brk, Px.cnt, Px.ifs, Px.op, Px.un, Px.tst, Px.tbl, Px.tand, Px.tor, Px.tnot, Px.andv, Px.orv, Px.notv, Px.tif, Px.tup, Px.lst, Px.nil, Px.cons, Px.cal, Px.calS, Px.cb, Px.par, Px.gsub, Px.bits, Px.bm, Px.bm0, Px.ri, Px.ri0, Px.ru, Px.req, Px.rne, Px.rix, Px.rlen, Px.rin, Px.rsetl, Px.risi, Px.tyH_n, Px.tyH_b, Px.tyH_i, Px.tyH_s, Px.tyH_r, Px.seqH_t, Px.seqH_l, Px.seqH_fl, Px.sc_ii, Px.sc_bb, Px.sc_ss, Px.atI0, Px.atI1, Px.atI2, Px.atI3, Px.atI4, Px.atI5, Px.atI6, Px.atI7, Px.kb_NoneType_int, Px.kb_NoneType_bool, Px.kb_NoneType_str, Px.kb_NoneType_list, Px.kb_NoneType_tuple, Px.kb_NoneType_dict, Px.kb_bool_int, Px.kb_bool_bool, Px.kb_bool_str, Px.kb_bool_list, Px.kb_bool_tuple, Px.kb_bool_dict, Px.kb_int_int, Px.kb_int_bool, Px.kb_int_str, Px.kb_int_list, Px.kb_int_tuple, Px.kb_int_dict, Px.kb_str_int, Px.kb_str_bool, Px.kb_str_str, Px.kb_str_list, Px.kb_str_tuple, Px.kb_str_dict, Px.kb_list_int, Px.kb_list_bool, Px.kb_list_str, Px.kb_list_list, Px.kb_list_tuple, Px.kb_list_dict, Px.kb_tuple_int, Px.kb_tuple_bool, Px.kb_tuple_str, Px.kb_tuple_list, Px.kb_tuple_tuple, Px.kb_tuple_dict, Px.kb_dict_int, Px.kb_dict_bool, Px.kb_dict_str, Px.kb_dict_list, Px.kb_dict_tuple, Px.kb_dict_dict, L2.upd_same, Px.updI, L2.ixN, List.set_cons_zero, List.set_cons_succ, List.length_cons, List.length_nil, Nat.reduceAdd, Nat.zero_add, L2.HO.lst.injEq, L2.HO.tup.injEq, L2.upd_upd, L2.V.int.injEq, L2.V.ref.injEq, L2.V.bl.injEq, L2.V.str.injEq, L2.V.ty.injEq, List.cons.injEq, and_true, true_and, and_false, false_and, or_false, false_or, exists_eq_left', exists_eq_left, exists_and_left, exists_const, exists_false, Option.some.injEq, decide_eq_true_eq, List.append_nil, List.cons_append, List.nil_append, Option.isSome_some, Bool.not_true, Bool.not_false, Bool.not_eq_true', Bool.not_eq_true, Bool.false_eq_true, decide_eq_false_iff_not, if_true, if_false, ite_true, ite_false, Int.reduceLE, Int.reduceLT, Int.reduceToNat, Int.cast_ofNat_Int, Bool.true_eq_false, eq_self, ↓reduceIte, reduceCtorEq, Px.aug, Px.ipi, Px.tri, Px.rcatth, Px.flh, Px.sfl, Px.met, Px.mak, *, Px.seq]
  have nt : isT (H p) = false := by rw [hp]; rfl
  have fin : ∀ (x : Int) (c' k' : Int) (b' : Bool) (s' : Int), Q (.int (x % n)) (upd H p (.lst [.int c', .int k', .bl b', .int s'])) := fun x c' k' b' s' =>
    q _ _ (Int.emod_nonneg x (by omega)) (Int.emod_lt_of_pos x (by omega)) ⟨_, _, _, _, upd_same⟩ (But.mut (But.rfl' p H)) ((Tu.rfl' H).mut nt)
  have d1 : CDiv c n := ⟨hn.1, by omega⟩
  have d2 : ∀ x, CDiv x 9 := fun x => ⟨by decide, by decide⟩
  have m1 : CMul 7919 k := cmul_lit (by decide) (by decide)
  have m2 : CMul 31 k := cmul_lit (by decide) (by decide)
  have m3 : ∀ x y, CMul (x % 2147483647) y := fun x y => cmul_mod (by decide) (by decide)
  have m4 : ∀ x y, CMul (x % 2147483629) y := fun x y => cmul_mod (by decide) (by decide)
  split <;> (try split) <;> (try split) <;> first
    | exact ⟨d1, fin _ _ _ _ _⟩
    | exact ⟨m1, m3 _ _, m4 _ _, m2, d2 _, fin _ _ _ _ _⟩
theorem ok_pool (B : Bn mg) (F : FunAt K mg "_law_pool" s_law_pool) : Def P w K mg base CX0 1 "_law_pool" ["script", "k"] (spPool K) := by
  refine F.ok sc_law_pool (fun _ _ _ _ _ _ us hl => match us, hl with | [_, _], _ => rfl) (fun vs H Q E h => by obtain ⟨p, n, k, rfl, _⟩ := h; rfl) (fun f cdv A outer s H vs Q E hr h => ?_)
  obtain ⟨a, ns, k, rfl, hS, hk, q⟩ := h
  refine ⟨_, pss_cons (ps_set (i := 2) sc_law_pool.nd rfl (Or.inl rfl) (pe_op op_add (pe_op op_mul pe_int (pv 1)) pe_int)) (
  pss_cons (ps_set (i := 3) sc_law_pool.nd rfl (Or.inl rfl) (pe_op op_add (pe_op op_mul pe_int (pv 1)) pe_int)) (
  pcut (ps_if (pt_cmpR op_lt (pv 1) (pe_callB call_len_seq rfl B.len (by decide +kernel) (pa_cons (pv 0) pa_nil)) (nomark _)) (pss_one (ps_set (i := 2) sc_law_pool.nd rfl (Or.inl rfl) (pe_ix ix_list (pv 0) (pv 1) (fun _ _ => rfl)))) (pss_nil)) (
  pcut (ps_if (pt_cmpR op_lt (pe_op op_add (pv 1) pe_int) (pe_callB call_len_seq rfl B.len (by decide +kernel) (pa_cons (pv 0) pa_nil)) (nomark _)) (pss_one (ps_set (i := 3) sc_law_pool.nd rfl (Or.inl rfl) (pe_ix ix_list (pv 0) (pe_op op_add (pv 1) pe_int) (fun _ _ => rfl)))) (pss_nil)) (
  pss_one (ps_ret (pe_lst (pa_cons (pv 2) (pa_cons pe_int (pa_cons (pe_cmpR op_ge (pv 2) (pe_op op_pow pe_int pe_int) (nomark _)) (pa_cons (pv 3) pa_nil)))))))))), ?_⟩
  show tSeq _ _ _ [some (.ref a), some (.int k), none, none] H
  have fin : ∀ x y : V, ∀ c k' b s, x = .int c → y = .int s → ∀ p, H p = none → Q (.ref p) (upd H p (.lst [x, .int k', .bl b, y])) := fun x y c k' b s e1 e2 p hp => by
    subst e1 e2
    exact q p _ hp ⟨_, _, _, _, upd_same⟩ (Ext.new (Ext.rfl' H) hp)
  refine go_seq ?_
  simp only [decide_true, decide_false, List.map_cons, List.map_nil, Option.map_none, Option.map_some, Option.getD_none, Option.getD_some, Px.dg2, Px.dg1, Px.dg, Px.din, Px.dnotin, Px.dnew, Px.dput, Px.isD_is, Px.dget_i, Px.dget_s, Px.dput_i, Px.dput_s, Px.dOf_d, Px.rtup, Px.rlist, Px.rsl, Px.rsort, Px.rcat, Px.rapp, Px.rrev, Px.sl_ap, Px.nop, Px.part, Px.yes, Px.tyl, Px.isL_l, Px.isT_t, Px.isL_t, Px.isT_l, Px.isD_d, Px.isT_d, Px.inV_ints, Px.flat_ints, Px.flatV_i, Px.wipe_cons, Px.wipe_nil, Px.gtup, Px.gcons, Px.gnil, gt_iff_lt, ge_iff_le, Px.we, Px.wonly, Px.was, Px.cxK, not_true_eq_false, and_self, true_implies, false_implies, implies_true, Px.e0, and_assoc, imp_false, not_false_eq_true, ne_eq, Px.rgcd, Px.rixl, Px.rixt, Px.v0, Px.v1, Px.v2, Px.v3, Px.v4, Px.v5, Px.v6, Px.v7, Px.v8, Px.v9, Px.v10, Px.v11, Px.v12, Px.v13, Px.v14, Px.v15, Px.v16, Px.v17, Px.v18, Px.v19, Px.v20, Px.v21, Px.v22, Px.v23, Px.c0, Px.asg, Px.gnm, Px.ret, Px.retN, Px.drop, Px.nxt, Px.brk, Px.cnt, Px.ifs, Px.op, Px.un, Px.tst, Px.tbl, Px.tand, Px.tor, Px.tnot, Px.andv, Px.orv, Px.notv, Px.tif, Px.tup, Px.lst, Px.nil, Px.cons, Px.cal, Px.calS, Px.cb, Px.par, Px.gsub, Px.bits, Px.bm, Px.bm0, Px.ri, Px.ri0, Px.ru, Px.req, Px.rne, Px.rix, Px.rlen, Px.rin, Px.rsetl, Px.risi, Px.tyH_n, Px.tyH_b, Px.tyH_i, Px.tyH_s, Px.tyH_r, Px.seqH_t, Px.seqH_l, Px.seqH_fl, Px.sc_ii, Px.sc_bb, Px.sc_ss, Px.atI0, Px.atI1, Px.atI2, Px.atI3, Px.atI4, Px.atI5, Px.atI6, Px.atI7, Px.kb_NoneType_int, Px.kb_NoneType_bool, Px.kb_NoneType_str, Px.kb_NoneType_list, Px.kb_NoneType_tuple, Px.kb_NoneType_dict, Px.kb_bool_int, Px.kb_bool_bool, Px.kb_bool_str, Px.kb_bool_list, Px.kb_bool_tuple, Px.kb_bool_dict, Px.kb_int_int, Px.kb_int_bool, Px.kb_int_str, Px.kb_int_list, Px.kb_int_tuple, Px.kb_int_dict, Px.kb_str_int, Px.kb_str_bool, Px.kb_str_str, Px.kb_str_list, Px.kb_str_tuple, Px.kb_str_dict, Px.kb_list_int, Px.kb_list_bool, Px.kb_list_str, Px.kb_list_list, Px.kb_list_tuple, Px.kb_list_dict, Px.kb_tuple_int, Px.kb_tuple_bool, Px.kb_tuple_str, Px.kb_tuple_list, Px.kb_tuple_tuple, Px.kb_tuple_dict, Px.kb_dict_int, Px.kb_dict_bool, Px.kb_dict_str, Px.kb_dict_list, Px.kb_dict_tuple, Px.kb_dict_dict, L2.upd_same, Px.updI, L2.ixN, List.set_cons_zero, List.set_cons_succ, List.length_cons, List.length_nil, Nat.reduceAdd, Nat.zero_add, L2.HO.lst.injEq, L2.HO.tup.injEq, L2.upd_upd, L2.V.int.injEq, L2.V.ref.injEq, L2.V.bl.injEq, L2.V.str.injEq, L2.V.ty.injEq, List.cons.injEq, and_true, true_and, and_false, false_and, or_false, false_or, exists_eq_left', exists_eq_left, exists_and_left, exists_const, exists_false, Option.some.injEq, decide_eq_true_eq, List.append_nil, List.cons_append, List.nil_append, Option.isSome_some, Bool.not_true, Bool.not_false, Bool.not_eq_true', Bool.not_eq_true, Bool.false_eq_true, decide_eq_false_iff_not, if_true, if_false, ite_true, ite_false, Int.reduceLE, Int.reduceLT, Int.reduceToNat, Int.cast_ofNat_Int, Bool.true_eq_false, eq_self, ↓reduceIte, reduceCtorEq, Px.aug, Px.ipi, Px.tri, Px.rcatth, Px.flh, Px.sfl, Px.met, Px.mak, *]
  refine ⟨cmul_lit (by decide) (by decide), go_seq ?_⟩
  simp only [decide_true, decide_false, List.map_cons, List.map_nil, Option.map_none, Option.map_some, Option.getD_none, Option.getD_some, Px.dg2, Px.dg1, Px.dg, Px.din, Px.dnotin, Px.dnew, Px.dput, Px.isD_is, Px.dget_i, Px.dget_s, Px.dput_i, Px.dput_s, Px.dOf_d, Px.rtup, Px.rlist, Px.rsl, Px.rsort, Px.rcat, Px.rapp, Px.rrev, Px.sl_ap, Px.nop, Px.part, Px.yes, Px.tyl, Px.isL_l, Px.isT_t, Px.isL_t, Px.isT_l, Px.isD_d, Px.isT_d, Px.inV_ints, Px.flat_ints, Px.flatV_i, Px.wipe_cons, Px.wipe_nil, Px.gtup, Px.gcons, Px.gnil, gt_iff_lt, ge_iff_le, Px.we, Px.wonly, Px.was, Px.cxK, not_true_eq_false, and_self, true_implies, false_implies, implies_true, Px.e0, and_assoc, imp_false, not_false_eq_true, ne_eq, Px.rgcd, Px.rixl, Px.rixt, Px.v0, Px.v1, Px.v2, Px.v3, Px.v4, Px.v5, Px.v6, Px.v7, Px.v8, Px.v9, Px.v10, Px.v11, Px.v12, Px.v13, Px.v14, Px.v15, Px.v16, Px.v17, Px.v18, Px.v19, Px.v20, Px.v21, Px.v22, Px.v23, Px.c0, Px.asg, Px.gnm, Px.ret, Px.retN, Px.drop, Px.nxt, Px.brk, Px.cnt, Px.ifs, Px.op, Px.un, Px.tst, Px.tbl, Px.tand, Px.tor, Px.tnot, Px.andv, Px.orv, Px.notv, Px.tif, Px.tup, Px.lst, Px.nil, Px.cons, Px.cal, Px.calS, Px.cb, Px.par, Px.gsub, Px.bits, Px.bm, Px.bm0, Px.ri, Px.ri0, Px.ru, Px.req, Px.rne, Px.rix, Px.rlen, Px.rin, Px.rsetl, Px.risi, Px.tyH_n, Px.tyH_b, Px.tyH_i, Px.tyH_s, Px.tyH_r, Px.seqH_t, Px.seqH_l, Px.seqH_fl, Px.sc_ii, Px.sc_bb, Px.sc_ss, Px.atI0, Px.atI1, Px.atI2, Px.atI3, Px.atI4, Px.atI5, Px.atI6, Px.atI7, Px.kb_NoneType_int, Px.kb_NoneType_bool, Px.kb_NoneType_str, Px.kb_NoneType_list, Px.kb_NoneType_tuple, Px.kb_NoneType_dict, Px.kb_bool_int, Px.kb_bool_bool, Px.kb_bool_str, Px.kb_bool_list, Px.kb_bool_tuple, Px.kb_bool_dict, Px.kb_int_int, Px.kb_int_bool, Px.kb_int_str, Px.kb_int_list, Px.kb_int_tuple, Px.kb_int_dict, Px.kb_str_int, Px.kb_str_bool, Px.kb_str_str, Px.kb_str_list, Px.kb_str_tuple, Px.kb_str_dict, Px.kb_list_int, Px.kb_list_bool, Px.kb_list_str, Px.kb_list_list, Px.kb_list_tuple, Px.kb_list_dict, Px.kb_tuple_int, Px.kb_tuple_bool, Px.kb_tuple_str, Px.kb_tuple_list, Px.kb_tuple_tuple, Px.kb_tuple_dict, Px.kb_dict_int, Px.kb_dict_bool, Px.kb_dict_str, Px.kb_dict_list, Px.kb_dict_tuple, Px.kb_dict_dict, L2.upd_same, Px.updI, L2.ixN, List.set_cons_zero, List.set_cons_succ, List.length_cons, List.length_nil, Nat.reduceAdd, Nat.zero_add, L2.HO.lst.injEq, L2.HO.tup.injEq, L2.upd_upd, L2.V.int.injEq, L2.V.ref.injEq, L2.V.bl.injEq, L2.V.str.injEq, L2.V.ty.injEq, List.cons.injEq, and_true, true_and, and_false, false_and, or_false, false_or, exists_eq_left', exists_eq_left, exists_and_left, exists_const, exists_false, Option.some.injEq, decide_eq_true_eq, List.append_nil, List.cons_append, List.nil_append, Option.isSome_some, Bool.not_true, Bool.not_false, Bool.not_eq_true', Bool.not_eq_true, Bool.false_eq_true, decide_eq_false_iff_not, if_true, if_false, ite_true, ite_false, Int.reduceLE, Int.reduceLT, Int.reduceToNat, Int.cast_ofNat_Int, Bool.true_eq_false, eq_self, ↓reduceIte, reduceCtorEq, Px.aug, Px.ipi, Px.tri, Px.rcatth, Px.flh, Px.sfl, Px.met, Px.mak, *]
  refine ⟨cmul_lit (by decide) (by decide), ?_⟩
  refine go_cut (fun σ' H' => ∃ c s, σ' = [some (.ref a), some (.int k), some (.int c), some (.int s)] ∧ H' = H) ?_ ?_
  · simp only [decide_true, decide_false, List.map_cons, List.map_nil, Option.map_none, Option.map_some, Option.getD_none, Option.getD_some, Px.dg2, Px.dg1, Px.dg, Px.din, Px.dnotin, Px.dnew, Px.dput, Px.isD_is, Px.dget_i, Px.dget_s, Px.dput_i, Px.dput_s, Px.dOf_d, Px.rtup, Px.rlist, Px.rsl, Px.rsort, Px.rcat, Px.rapp, Px.rrev, Px.sl_ap, Px.nop, Px.part, Px.yes, Px.tyl, Px.isL_l, Px.isT_t, Px.isL_t, Px.isT_l, Px.isD_d, Px.isT_d, Px.inV_ints, Px.flat_ints, Px.flatV_i, Px.wipe_cons, Px.wipe_nil, Px.gtup, Px.gcons, Px.gnil, gt_iff_lt, ge_iff_le, Px.we, Px.wonly, Px.was, Px.cxK, not_true_eq_false, and_self, true_implies, false_implies, implies_true, Px.e0, and_assoc, imp_false, not_false_eq_true, ne_eq, Px.rgcd, Px.rixl, Px.rixt, Px.v0, Px.v1, Px.v2, Px.v3, Px.v4, Px.v5, Px.v6, Px.v7, Px.v8, Px.v9, Px.v10, Px.v11, Px.v12, Px.v13, Px.v14, Px.v15, Px.v16, Px.v17, Px.v18, Px.v19, Px.v20, Px.v21, Px.v22, Px.v23, Px.c0, Px.asg, Px.gnm, Px.ret, Px.retN, Px.drop, Px.nxt, Px.brk, Px.cnt, Px.ifs, Px.op, Px.un, Px.tst, Px.tbl, Px.tand, Px.tor, Px.tnot, Px.andv, Px.orv, Px.notv, Px.tif, Px.tup, Px.lst, Px.nil, Px.cons, Px.cal, Px.calS, Px.cb, Px.par, Px.gsub, Px.bits, Px.bm, Px.bm0, Px.ri, Px.ri0, Px.ru, Px.req, Px.rne, Px.rix, Px.rlen, Px.rin, Px.rsetl, Px.risi, Px.tyH_n, Px.tyH_b, Px.tyH_i, Px.tyH_s, Px.tyH_r, Px.seqH_t, Px.seqH_l, Px.seqH_fl, Px.sc_ii, Px.sc_bb, Px.sc_ss, Px.atI0, Px.atI1, Px.atI2, Px.atI3, Px.atI4, Px.atI5, Px.atI6, Px.atI7, Px.kb_NoneType_int, Px.kb_NoneType_bool, Px.kb_NoneType_str, Px.kb_NoneType_list, Px.kb_NoneType_tuple, Px.kb_NoneType_dict, Px.kb_bool_int, Px.kb_bool_bool, Px.kb_bool_str, Px.kb_bool_list, Px.kb_bool_tuple, Px.kb_bool_dict, Px.kb_int_int, Px.kb_int_bool, Px.kb_int_str, Px.kb_int_list, Px.kb_int_tuple, Px.kb_int_dict, Px.kb_str_int, Px.kb_str_bool, Px.kb_str_str, Px.kb_str_list, Px.kb_str_tuple, Px.kb_str_dict, Px.kb_list_int, Px.kb_list_bool, Px.kb_list_str, Px.kb_list_list, Px.kb_list_tuple, Px.kb_list_dict, Px.kb_tuple_int, Px.kb_tuple_bool, Px.kb_tuple_str, Px.kb_tuple_list, Px.kb_tuple_tuple, Px.kb_tuple_dict, Px.kb_dict_int, Px.kb_dict_bool, Px.kb_dict_str, Px.kb_dict_list, Px.kb_dict_tuple, Px.kb_dict_dict, L2.upd_same, Px.updI, L2.ixN, List.set_cons_zero, List.set_cons_succ, List.length_cons, List.length_nil, Nat.reduceAdd, Nat.zero_add, L2.HO.lst.injEq, L2.HO.tup.injEq, L2.upd_upd, L2.V.int.injEq, L2.V.ref.injEq, L2.V.bl.injEq, L2.V.str.injEq, L2.V.ty.injEq, List.cons.injEq, and_true, true_and, and_false, false_and, or_false, false_or, exists_eq_left', exists_eq_left, exists_and_left, exists_const, exists_false, Option.some.injEq, decide_eq_true_eq, List.append_nil, List.cons_append, List.nil_append, Option.isSome_some, Bool.not_true, Bool.not_false, Bool.not_eq_true', Bool.not_eq_true, Bool.false_eq_true, decide_eq_false_iff_not, if_true, if_false, ite_true, ite_false, Int.reduceLE, Int.reduceLT, Int.reduceToNat, Int.cast_ofNat_Int, Bool.true_eq_false, eq_self, ↓reduceIte, reduceCtorEq, Px.aug, Px.ipi, Px.tri, Px.rcatth, Px.flh, Px.sfl, Px.met, Px.mak, *]
    refine ⟨ns.map V.int, .inl hS, ?_⟩
    rw [List.length_map]
    refine go_if (fun h => ?_) (fun h => ?_)
    · refine ⟨ns.map V.int, hS, .int (ns.getD k 0), ?_, _, rfl⟩
      refine atI_nat ?_
      rw [List.getElem?_map, List.getD_eq_getElem?_getD, List.getElem?_eq_getElem (by omega)]
      rfl
    · trivial
  · rintro σ' H' ⟨c, s, rfl, rfl⟩
    refine go_cut (fun σ' H'' => ∃ c s, σ' = [some (.ref a), some (.int k), some (.int c), some (.int s)] ∧ H'' = H') ?_ ?_
    · simp only [decide_true, decide_false, List.map_cons, List.map_nil, Option.map_none, Option.map_some, Option.getD_none, Option.getD_some, Px.dg2, Px.dg1, Px.dg, Px.din, Px.dnotin, Px.dnew, Px.dput, Px.isD_is, Px.dget_i, Px.dget_s, Px.dput_i, Px.dput_s, Px.dOf_d, Px.rtup, Px.rlist, Px.rsl, Px.rsort, Px.rcat, Px.rapp, Px.rrev, Px.sl_ap, Px.nop, Px.part, Px.yes, Px.tyl, Px.isL_l, Px.isT_t, Px.isL_t, Px.isT_l, Px.isD_d, Px.isT_d, Px.inV_ints, Px.flat_ints, Px.flatV_i, Px.wipe_cons, Px.wipe_nil, Px.gtup, Px.gcons, Px.gnil, gt_iff_lt, ge_iff_le, Px.we, Px.wonly, Px.was, Px.cxK, not_true_eq_false, and_self, true_implies, false_implies, implies_true, Px.e0, and_assoc, imp_false, not_false_eq_true, ne_eq, Px.rgcd, Px.rixl, Px.rixt, Px.v0, Px.v1, Px.v2, Px.v3, Px.v4, Px.v5, Px.v6, Px.v7, Px.v8, Px.v9, Px.v10, Px.v11, Px.v12, Px.v13, Px.v14, Px.v15, Px.v16, Px.v17, Px.v18, Px.v19, Px.v20, Px.v21, Px.v22, Px.v23, Px.c0, Px.asg, Px.gnm, Px.ret, Px.retN, Px.drop, Px.nxt, Px.brk, Px.cnt, Px.ifs, Px.op, Px.un, Px.tst, Px.tbl, Px.tand, Px.tor, Px.tnot, Px.andv, Px.orv, Px.notv, Px.tif, Px.tup, Px.lst, Px.nil, Px.cons, Px.cal, Px.calS, Px.cb, Px.par, Px.gsub, Px.bits, Px.bm, Px.bm0, Px.ri, Px.ri0, Px.ru, Px.req, Px.rne, Px.rix, Px.rlen, Px.rin, Px.rsetl, Px.risi, Px.tyH_n, Px.tyH_b, Px.tyH_i, Px.tyH_s, Px.tyH_r, Px.seqH_t, Px.seqH_l, Px.seqH_fl, Px.sc_ii, Px.sc_bb, Px.sc_ss, Px.atI0, Px.atI1, Px.atI2, Px.atI3, Px.atI4, Px.atI5, Px.atI6, Px.atI7, Px.kb_NoneType_int, Px.kb_NoneType_bool, Px.kb_NoneType_str, Px.kb_NoneType_list, Px.kb_NoneType_tuple, Px.kb_NoneType_dict, Px.kb_bool_int, Px.kb_bool_bool, Px.kb_bool_str, Px.kb_bool_list, Px.kb_bool_tuple, Px.kb_bool_dict, Px.kb_int_int, Px.kb_int_bool, Px.kb_int_str, Px.kb_int_list, Px.kb_int_tuple, Px.kb_int_dict, Px.kb_str_int, Px.kb_str_bool, Px.kb_str_str, Px.kb_str_list, Px.kb_str_tuple, Px.kb_str_dict, Px.kb_list_int, Px.kb_list_bool, Px.kb_list_str, Px.kb_list_list, Px.kb_list_tuple, Px.kb_list_dict, Px.kb_tuple_int, Px.kb_tuple_bool, Px.kb_tuple_str, Px.kb_tuple_list, Px.kb_tuple_tuple, Px.kb_tuple_dict, Px.kb_dict_int, Px.kb_dict_bool, Px.kb_dict_str, Px.kb_dict_list, Px.kb_dict_tuple, Px.kb_dict_dict, L2.upd_same, Px.updI, L2.ixN, List.set_cons_zero, List.set_cons_succ, List.length_cons, List.length_nil, Nat.reduceAdd, Nat.zero_add, L2.HO.lst.injEq, L2.HO.tup.injEq, L2.upd_upd, L2.V.int.injEq, L2.V.ref.injEq, L2.V.bl.injEq, L2.V.str.injEq, L2.V.ty.injEq, List.cons.injEq, and_true, true_and, and_false, false_and, or_false, false_or, exists_eq_left', exists_eq_left, exists_and_left, exists_const, exists_false, Option.some.injEq, decide_eq_true_eq, List.append_nil, List.cons_append, List.nil_append, Option.isSome_some, Bool.not_true, Bool.not_false, Bool.not_eq_true', Bool.not_eq_true, Bool.false_eq_true, decide_eq_false_iff_not, if_true, if_false, ite_true, ite_false, Int.reduceLE, Int.reduceLT, Int.reduceToNat, Int.cast_ofNat_Int, Bool.true_eq_false, eq_self, ↓reduceIte, reduceCtorEq, Px.aug, Px.ipi, Px.tri, Px.rcatth, Px.flh, Px.sfl, Px.met, Px.mak, *]
      refine ⟨ns.map V.int, .inl hS, ?_⟩
      rw [List.length_map]
      refine go_if (fun h => ?_) (fun h => ?_)
      · refine ⟨ns.map V.int, hS, .int (ns.getD (k + 1) 0), ?_, _, rfl⟩
        refine atI_nat (j := k + 1) ?_
        rw [List.getElem?_map, List.getD_eq_getElem?_getD, List.getElem?_eq_getElem (by omega)]
        rfl
      · trivial
    · rintro σ' H' ⟨c, s, rfl, rfl⟩
      simp only [decide_true, decide_false, List.map_cons, List.map_nil, Option.map_none, Option.map_some, Option.getD_none, Option.getD_some, Px.dg2, Px.dg1, Px.dg, Px.din, Px.dnotin, Px.dnew, Px.dput, Px.isD_is, Px.dget_i, Px.dget_s, Px.dput_i, Px.dput_s, Px.dOf_d, Px.rtup, Px.rlist, Px.rsl, Px.rsort, Px.rcat, Px.rapp, Px.rrev, Px.sl_ap, Px.nop, Px.part, Px.yes, Px.tyl, Px.isL_l, Px.isT_t, Px.isL_t, Px.isT_l, Px.isD_d, Px.isT_d, Px.inV_ints, Px.flat_ints, Px.flatV_i, Px.wipe_cons, Px.wipe_nil, Px.gtup, Px.gcons, Px.gnil, gt_iff_lt, ge_iff_le, Px.we, Px.wonly, Px.was, Px.cxK, not_true_eq_false, and_self, true_implies, false_implies, implies_true, Px.e0, and_assoc, imp_false, not_false_eq_true, ne_eq, Px.rgcd, Px.rixl, Px.rixt, Px.v0, Px.v1, Px.v2, Px.v3, Px.v4, Px.v5, Px.v6, Px.v7, Px.v8, Px.v9, Px.v10, Px.v11, Px.v12, Px.v13, Px.v14, Px.v15, Px.v16, Px.v17, Px.v18, Px.v19, Px.v20, Px.v21, Px.v22, Px.v23, Px.c0, Px.asg, Px.gnm, Px.ret, Px.retN, Px.drop, Px.nxt, Px.brk, Px.cnt, Px.ifs, Px.op, Px.un, Px.tst, Px.tbl, Px.tand, Px.tor, Px.tnot, Px.andv, Px.orv, Px.notv, Px.tif, Px.tup, Px.lst, Px.nil, Px.cons, Px.cal, Px.calS, Px.cb, Px.par, Px.gsub, Px.bits, Px.bm, Px.bm0, Px.ri, Px.ri0, Px.ru, Px.req, Px.rne, Px.rix, Px.rlen, Px.rin, Px.rsetl, Px.risi, Px.tyH_n, Px.tyH_b, Px.tyH_i, Px.tyH_s, Px.tyH_r, Px.seqH_t, Px.seqH_l, Px.seqH_fl, Px.sc_ii, Px.sc_bb, Px.sc_ss, Px.atI0, Px.atI1, Px.atI2, Px.atI3, Px.atI4, Px.atI5, Px.atI6, Px.atI7, Px.kb_NoneType_int, Px.kb_NoneType_bool, Px.kb_NoneType_str, Px.kb_NoneType_list, Px.kb_NoneType_tuple, Px.kb_NoneType_dict, Px.kb_bool_int, Px.kb_bool_bool, Px.kb_bool_str, Px.kb_bool_list, Px.kb_bool_tuple, Px.kb_bool_dict, Px.kb_int_int, Px.kb_int_bool, Px.kb_int_str, Px.kb_int_list, Px.kb_int_tuple, Px.kb_int_dict, Px.kb_str_int, Px.kb_str_bool, Px.kb_str_str, Px.kb_str_list, Px.kb_str_tuple, Px.kb_str_dict, Px.kb_list_int, Px.kb_list_bool, Px.kb_list_str, Px.kb_list_list, Px.kb_list_tuple, Px.kb_list_dict, Px.kb_tuple_int, Px.kb_tuple_bool, Px.kb_tuple_str, Px.kb_tuple_list, Px.kb_tuple_tuple, Px.kb_tuple_dict, Px.kb_dict_int, Px.kb_dict_bool, Px.kb_dict_str, Px.kb_dict_list, Px.kb_dict_tuple, Px.kb_dict_dict, L2.upd_same, Px.updI, L2.ixN, List.set_cons_zero, List.set_cons_succ, List.length_cons, List.length_nil, Nat.reduceAdd, Nat.zero_add, L2.HO.lst.injEq, L2.HO.tup.injEq, L2.upd_upd, L2.V.int.injEq, L2.V.ref.injEq, L2.V.bl.injEq, L2.V.str.injEq, L2.V.ty.injEq, List.cons.injEq, and_true, true_and, and_false, false_and, or_false, false_or, exists_eq_left', exists_eq_left, exists_and_left, exists_const, exists_false, Option.some.injEq, decide_eq_true_eq, List.append_nil, List.cons_append, List.nil_append, Option.isSome_some, Bool.not_true, Bool.not_false, Bool.not_eq_true', Bool.not_eq_true, Bool.false_eq_true, decide_eq_false_iff_not, if_true, if_false, ite_true, ite_false, Int.reduceLE, Int.reduceLT, Int.reduceToNat, Int.cast_ofNat_Int, Bool.true_eq_false, eq_self, ↓reduceIte, reduceCtorEq, Px.aug, Px.ipi, Px.tri, Px.rcatth, Px.flh, Px.sfl, Px.met, Px.mak, *]
      exact ⟨⟨by decide, by decide, by decide⟩, by decide, fun p hp => fin _ _ _ _ _ _ rfl rfl p hp⟩

/-- at p a log of the steps xs, which stand at l -/
def LogAt (C : Addr) (H : Hp) (p l : Addr) (xs : List V) : Prop := ∃ dx, H p = some (.ins C dx [("_steps", .ref l)]) ∧ H l = some (.lst xs)
def spLen (C : Addr) (vs : List V) (H : Hp) (Q : VK) (_ : XK) : Prop := ∃ (p l : Addr) (xs : List V), vs = [.ref p] ∧ LogAt C H p l xs ∧ Q (.int xs.length) H
theorem log_fld {H : Hp} {p l : Addr} {xs : List V} (h : LogAt C H p l xs) (c : LogC K C) : FOk K H p "_steps" ∧ fldV H p "_steps" = some (.ref l) ∧ H l = some (.lst xs) := by
  obtain ⟨dx, h1, h2⟩ := h
  exact ⟨⟨C, dx, _, h1, c.cl, c.na, (by show 1 < 900; decide)⟩, by rw [fldV_ins h1]; rfl, h2⟩
theorem ok_len {f : Addr} {fd : FuncData} (B : Bn mg) (L : LogC K C) (F : Fun K "__len__" "Log.__len__" s_Log___len__ f fd) : FnOk P w K mg base CX0 1 f fd ["self"] (spLen C) := by
  refine F.ok sc_Log___len__ (fun vs H Q E h => by obtain ⟨_, _, _, rfl, _⟩ := h; rfl) (fun cdv A outer s H vs Q E hr h => ?_)
  obtain ⟨p, l, xs, rfl, hp, k⟩ := h
  obtain ⟨h1, h2, h3⟩ := log_fld (K := K) hp L
  refine ⟨_, pss_one (ps_ret (pe_callB len_H rfl B.len (by decide +kernel) (pa_cons (pe_fldH (pv 0) rfl) pa_nil))), ?_⟩
  show tRet _ _ [some (.ref p)] H
  simp only [decide_true, decide_false, List.map_cons, List.map_nil, Option.map_none, Option.map_some, Option.getD_none, Option.getD_some, Px.dg2, Px.dg1, Px.dg, Px.din, Px.dnotin, Px.dnew, Px.dput, Px.isD_is, Px.dget_i, Px.dget_s, Px.dput_i, Px.dput_s, Px.dOf_d, Px.rtup, Px.rlist, Px.rsl, Px.rsort, Px.rcat, Px.rapp, Px.rrev, Px.sl_ap, Px.nop, Px.part, Px.yes, Px.tyl, Px.isL_l, Px.isT_t, Px.isL_t, Px.isT_l, Px.isD_d, Px.isT_d, Px.inV_ints, Px.flat_ints, Px.flatV_i, Px.wipe_cons, Px.wipe_nil, Px.gtup, Px.gcons, Px.gnil, gt_iff_lt, ge_iff_le, Px.we, Px.wonly, Px.was, Px.cxK, not_true_eq_false, and_self, true_implies, false_implies, implies_true, Px.e0, and_assoc, imp_false, not_false_eq_true, ne_eq, Px.rgcd, Px.rixl, Px.rixt, Px.v0, Px.v1, Px.v2, Px.v3, Px.v4, Px.v5, Px.v6, Px.v7, Px.v8, Px.v9, Px.v10, Px.v11, Px.v12, Px.v13, Px.v14, Px.v15, Px.v16, Px.v17, Px.v18, Px.v19, Px.v20, Px.v21, Px.v22, Px.v23, Px.c0, Px.asg, Px.gnm, Px.ret, Px.retN, Px.drop, Px.nxt, Px.brk, Px.cnt, Px.ifs, Px.op, Px.un, Px.tst, Px.tbl, Px.tand, Px.tor, Px.tnot, Px.andv, Px.orv, Px.notv, Px.tif, Px.tup, Px.lst, Px.nil, Px.cons, Px.cal, Px.calS, Px.cb, Px.par, Px.gsub, Px.bits, Px.bm, Px.bm0, Px.ri, Px.ri0, Px.ru, Px.req, Px.rne, Px.rix, Px.rlen, Px.rin, Px.rsetl, Px.risi, Px.tyH_n, Px.tyH_b, Px.tyH_i, Px.tyH_s, Px.tyH_r, Px.seqH_t, Px.seqH_l, Px.seqH_fl, Px.sc_ii, Px.sc_bb, Px.sc_ss, Px.atI0, Px.atI1, Px.atI2, Px.atI3, Px.atI4, Px.atI5, Px.atI6, Px.atI7, Px.kb_NoneType_int, Px.kb_NoneType_bool, Px.kb_NoneType_str, Px.kb_NoneType_list, Px.kb_NoneType_tuple, Px.kb_NoneType_dict, Px.kb_bool_int, Px.kb_bool_bool, Px.kb_bool_str, Px.kb_bool_list, Px.kb_bool_tuple, Px.kb_bool_dict, Px.kb_int_int, Px.kb_int_bool, Px.kb_int_str, Px.kb_int_list, Px.kb_int_tuple, Px.kb_int_dict, Px.kb_str_int, Px.kb_str_bool, Px.kb_str_str, Px.kb_str_list, Px.kb_str_tuple, Px.kb_str_dict, Px.kb_list_int, Px.kb_list_bool, Px.kb_list_str, Px.kb_list_list, Px.kb_list_tuple, Px.kb_list_dict, Px.kb_tuple_int, Px.kb_tuple_bool, Px.kb_tuple_str, Px.kb_tuple_list, Px.kb_tuple_tuple, Px.kb_tuple_dict, Px.kb_dict_int, Px.kb_dict_bool, Px.kb_dict_str, Px.kb_dict_list, Px.kb_dict_tuple, Px.kb_dict_dict, L2.upd_same, Px.updI, L2.ixN, List.set_cons_zero, List.set_cons_succ, List.length_cons, List.length_nil, Nat.reduceAdd, Nat.zero_add, L2.HO.lst.injEq, L2.HO.tup.injEq, L2.upd_upd, L2.V.int.injEq, L2.V.ref.injEq, L2.V.bl.injEq, L2.V.str.injEq, L2.V.ty.injEq, List.cons.injEq, and_true, true_and, and_false, false_and, or_false, false_or, exists_eq_left', exists_eq_left, exists_and_left, exists_const, exists_false, Option.some.injEq, decide_eq_true_eq, List.append_nil, List.cons_append, List.nil_append, Option.isSome_some, Bool.not_true, Bool.not_false, Bool.not_eq_true', Bool.not_eq_true, Bool.false_eq_true, decide_eq_false_iff_not, if_true, if_false, ite_true, ite_false, Int.reduceLE, Int.reduceLT, Int.reduceToNat, Int.cast_ofNat_Int, Bool.true_eq_false, eq_self, ↓reduceIte, reduceCtorEq, Px.aug, Px.ipi, Px.tri, Px.rcatth, Px.flh, Px.sfl, Px.met, Px.mak, *]
def spInit (C : Addr) (vs : List V) (H : Hp) (Q : VK) (_ : XK) : Prop := ∃ p dx : Addr, vs = [.ref p] ∧ H p = some (.ins C dx []) ∧ ∀ l H', LogAt C H' p l [] → H l = none → (∀ b, b ≠ p → b ≠ l → H' b = H b) → Q .non H'
theorem ok_init {f : Addr} {fd : FuncData} (B : Bn mg) (L : LogC K C) (F : Fun K "__init__" "Log.__init__" s_Log___init__ f fd) : FnOk P w K mg base CX0 1 f fd ["self"] (spInit C) := by
  refine F.ok sc_Log___init__ (fun vs H Q E h => by obtain ⟨_, _, rfl, _⟩ := h; rfl) (fun cdv A outer s H vs Q E hr h => ?_)
  obtain ⟨p, dx, rfl, hp, k⟩ := h
  refine ⟨_, pss_one (ps_fld (pv 0) (pe_lst pa_nil) rfl), ?_⟩
  show sFld _ _ _ _ _ [some (.ref p)] H
  simp only [decide_true, decide_false, List.map_cons, List.map_nil, Option.map_none, Option.map_some, Option.getD_none, Option.getD_some, Px.dg2, Px.dg1, Px.dg, Px.din, Px.dnotin, Px.dnew, Px.dput, Px.isD_is, Px.dget_i, Px.dget_s, Px.dput_i, Px.dput_s, Px.dOf_d, Px.rtup, Px.rlist, Px.rsl, Px.rsort, Px.rcat, Px.rapp, Px.rrev, Px.sl_ap, Px.nop, Px.part, Px.yes, Px.tyl, Px.isL_l, Px.isT_t, Px.isL_t, Px.isT_l, Px.isD_d, Px.isT_d, Px.inV_ints, Px.flat_ints, Px.flatV_i, Px.wipe_cons, Px.wipe_nil, Px.gtup, Px.gcons, Px.gnil, gt_iff_lt, ge_iff_le, Px.we, Px.wonly, Px.was, Px.cxK, not_true_eq_false, and_self, true_implies, false_implies, implies_true, Px.e0, and_assoc, imp_false, not_false_eq_true, ne_eq, Px.rgcd, Px.rixl, Px.rixt, Px.v0, Px.v1, Px.v2, Px.v3, Px.v4, Px.v5, Px.v6, Px.v7, Px.v8, Px.v9, Px.v10, Px.v11, Px.v12, Px.v13, Px.v14, Px.v15, Px.v16, Px.v17, Px.v18, Px.v19, Px.v20, Px.v21, Px.v22, Px.v23, Px.c0, Px.asg, Px.gnm, Px.ret, Px.retN, Px.drop, Px.nxt, Px.brk, Px.cnt, Px.ifs, Px.op, Px.un, Px.tst, Px.tbl, Px.tand, Px.tor, Px.tnot, Px.andv, Px.orv, Px.notv, Px.tif, Px.tup, Px.lst, Px.nil, Px.cons, Px.cal, Px.calS, Px.cb, Px.par, Px.gsub, Px.bits, Px.bm, Px.bm0, Px.ri, Px.ri0, Px.ru, Px.req, Px.rne, Px.rix, Px.rlen, Px.rin, Px.rsetl, Px.risi, Px.tyH_n, Px.tyH_b, Px.tyH_i, Px.tyH_s, Px.tyH_r, Px.seqH_t, Px.seqH_l, Px.seqH_fl, Px.sc_ii, Px.sc_bb, Px.sc_ss, Px.atI0, Px.atI1, Px.atI2, Px.atI3, Px.atI4, Px.atI5, Px.atI6, Px.atI7, Px.kb_NoneType_int, Px.kb_NoneType_bool, Px.kb_NoneType_str, Px.kb_NoneType_list, Px.kb_NoneType_tuple, Px.kb_NoneType_dict, Px.kb_bool_int, Px.kb_bool_bool, Px.kb_bool_str, Px.kb_bool_list, Px.kb_bool_tuple, Px.kb_bool_dict, Px.kb_int_int, Px.kb_int_bool, Px.kb_int_str, Px.kb_int_list, Px.kb_int_tuple, Px.kb_int_dict, Px.kb_str_int, Px.kb_str_bool, Px.kb_str_str, Px.kb_str_list, Px.kb_str_tuple, Px.kb_str_dict, Px.kb_list_int, Px.kb_list_bool, Px.kb_list_str, Px.kb_list_list, Px.kb_list_tuple, Px.kb_list_dict, Px.kb_tuple_int, Px.kb_tuple_bool, Px.kb_tuple_str, Px.kb_tuple_list, Px.kb_tuple_tuple, Px.kb_tuple_dict, Px.kb_dict_int, Px.kb_dict_bool, Px.kb_dict_str, Px.kb_dict_list, Px.kb_dict_tuple, Px.kb_dict_dict, L2.upd_same, Px.updI, L2.ixN, List.set_cons_zero, List.set_cons_succ, List.length_cons, List.length_nil, Nat.reduceAdd, Nat.zero_add, L2.HO.lst.injEq, L2.HO.tup.injEq, L2.upd_upd, L2.V.int.injEq, L2.V.ref.injEq, L2.V.bl.injEq, L2.V.str.injEq, L2.V.ty.injEq, List.cons.injEq, and_true, true_and, and_false, false_and, or_false, false_or, exists_eq_left', exists_eq_left, exists_and_left, exists_const, exists_false, Option.some.injEq, decide_eq_true_eq, List.append_nil, List.cons_append, List.nil_append, Option.isSome_some, Bool.not_true, Bool.not_false, Bool.not_eq_true', Bool.not_eq_true, Bool.false_eq_true, decide_eq_false_iff_not, if_true, if_false, ite_true, ite_false, Int.reduceLE, Int.reduceLT, Int.reduceToNat, Int.cast_ofNat_Int, Bool.true_eq_false, eq_self, ↓reduceIte, reduceCtorEq, Px.aug, Px.ipi, Px.tri, Px.rcatth, Px.flh, Px.sfl, Px.met, Px.mak]
  refine ⟨Nat.zero_le _, fun l hl => ?_⟩
  have hpl : p ≠ l := ne_some_none (by rw [hp]; rfl) hl
  refine ⟨C, dx, [], by rw [upd_ne hpl, hp], L.cl, L.na, by decide, ?_⟩
  exact k l _ ⟨dx, upd_same, by rw [upd_ne hpl.symm, upd_same]⟩ hl fun b h1 h2 => by rw [upd_ne h1, upd_ne h2]
def spIter (C : Addr) (vs : List V) (H : Hp) (Q : VK) (_ : XK) : Prop := ∃ (p l : Addr) (xs : List V), vs = [.ref p] ∧ LogAt C H p l xs ∧ ∀ it, H it = none → Q (.ref it) (upd H it (ItO l it 0))
theorem ok_iter {f : Addr} {fd : FuncData} (B : Bn mg) (L : LogC K C) (F : Fun K "__iter__" "Log.__iter__" s_Log___iter__ f fd) : FnOk P w K mg base CX0 1 f fd ["self"] (spIter C) := by
  refine F.ok sc_Log___iter__ (fun vs H Q E h => by obtain ⟨_, _, _, rfl, _⟩ := h; rfl) (fun cdv A outer s H vs Q E hr h => ?_)
  obtain ⟨p, l, xs, rfl, hp, k⟩ := h
  obtain ⟨h1, h2, h3⟩ := log_fld (K := K) hp L
  refine ⟨_, pss_one (ps_ret (pe_callB call_iterL rfl B.iter (by decide +kernel) (pa_cons (pe_fldH (pv 0) rfl) pa_nil))), ?_⟩
  show tRet _ _ [some (.ref p)] H
  simp only [decide_true, decide_false, List.map_cons, List.map_nil, Option.map_none, Option.map_some, Option.getD_none, Option.getD_some, Px.dg2, Px.dg1, Px.dg, Px.din, Px.dnotin, Px.dnew, Px.dput, Px.isD_is, Px.dget_i, Px.dget_s, Px.dput_i, Px.dput_s, Px.dOf_d, Px.rtup, Px.rlist, Px.rsl, Px.rsort, Px.rcat, Px.rapp, Px.rrev, Px.sl_ap, Px.nop, Px.part, Px.yes, Px.tyl, Px.isL_l, Px.isT_t, Px.isL_t, Px.isT_l, Px.isD_d, Px.isT_d, Px.inV_ints, Px.flat_ints, Px.flatV_i, Px.wipe_cons, Px.wipe_nil, Px.gtup, Px.gcons, Px.gnil, gt_iff_lt, ge_iff_le, Px.we, Px.wonly, Px.was, Px.cxK, not_true_eq_false, and_self, true_implies, false_implies, implies_true, Px.e0, and_assoc, imp_false, not_false_eq_true, ne_eq, Px.rgcd, Px.rixl, Px.rixt, Px.v0, Px.v1, Px.v2, Px.v3, Px.v4, Px.v5, Px.v6, Px.v7, Px.v8, Px.v9, Px.v10, Px.v11, Px.v12, Px.v13, Px.v14, Px.v15, Px.v16, Px.v17, Px.v18, Px.v19, Px.v20, Px.v21, Px.v22, Px.v23, Px.c0, Px.asg, Px.gnm, Px.ret, Px.retN, Px.drop, Px.nxt, Px.brk, Px.cnt, Px.ifs, Px.op, Px.un, Px.tst, Px.tbl, Px.tand, Px.tor, Px.tnot, Px.andv, Px.orv, Px.notv, Px.tif, Px.tup, Px.lst, Px.nil, Px.cons, Px.cal, Px.calS, Px.cb, Px.par, Px.gsub, Px.bits, Px.bm, Px.bm0, Px.ri, Px.ri0, Px.ru, Px.req, Px.rne, Px.rix, Px.rlen, Px.rin, Px.rsetl, Px.risi, Px.tyH_n, Px.tyH_b, Px.tyH_i, Px.tyH_s, Px.tyH_r, Px.seqH_t, Px.seqH_l, Px.seqH_fl, Px.sc_ii, Px.sc_bb, Px.sc_ss, Px.atI0, Px.atI1, Px.atI2, Px.atI3, Px.atI4, Px.atI5, Px.atI6, Px.atI7, Px.kb_NoneType_int, Px.kb_NoneType_bool, Px.kb_NoneType_str, Px.kb_NoneType_list, Px.kb_NoneType_tuple, Px.kb_NoneType_dict, Px.kb_bool_int, Px.kb_bool_bool, Px.kb_bool_str, Px.kb_bool_list, Px.kb_bool_tuple, Px.kb_bool_dict, Px.kb_int_int, Px.kb_int_bool, Px.kb_int_str, Px.kb_int_list, Px.kb_int_tuple, Px.kb_int_dict, Px.kb_str_int, Px.kb_str_bool, Px.kb_str_str, Px.kb_str_list, Px.kb_str_tuple, Px.kb_str_dict, Px.kb_list_int, Px.kb_list_bool, Px.kb_list_str, Px.kb_list_list, Px.kb_list_tuple, Px.kb_list_dict, Px.kb_tuple_int, Px.kb_tuple_bool, Px.kb_tuple_str, Px.kb_tuple_list, Px.kb_tuple_tuple, Px.kb_tuple_dict, Px.kb_dict_int, Px.kb_dict_bool, Px.kb_dict_str, Px.kb_dict_list, Px.kb_dict_tuple, Px.kb_dict_dict, L2.upd_same, Px.updI, L2.ixN, List.set_cons_zero, List.set_cons_succ, List.length_cons, List.length_nil, Nat.reduceAdd, Nat.zero_add, L2.HO.lst.injEq, L2.HO.tup.injEq, L2.upd_upd, L2.V.int.injEq, L2.V.ref.injEq, L2.V.bl.injEq, L2.V.str.injEq, L2.V.ty.injEq, List.cons.injEq, and_true, true_and, and_false, false_and, or_false, false_or, exists_eq_left', exists_eq_left, exists_and_left, exists_const, exists_false, Option.some.injEq, decide_eq_true_eq, List.append_nil, List.cons_append, List.nil_append, Option.isSome_some, Bool.not_true, Bool.not_false, Bool.not_eq_true', Bool.not_eq_true, Bool.false_eq_true, decide_eq_false_iff_not, if_true, if_false, ite_true, ite_false, Int.reduceLE, Int.reduceLT, Int.reduceToNat, Int.cast_ofNat_Int, Bool.true_eq_false, eq_self, ↓reduceIte, reduceCtorEq, Px.aug, Px.ipi, Px.tri, Px.rcatth, Px.flh, Px.sfl, Px.met, Px.mak, *]
  exact ⟨l, xs, rfl, .inl (.inl h3), k⟩
def spStep (C : Addr) (vs : List V) (H : Hp) (Q : VK) (_ : XK) : Prop := ∃ (p l : Addr) (xs : List V) (i : Nat) (x : V), vs = [.ref p, .int (i : Int)] ∧ LogAt C H p l xs ∧ xs[i]? = some x ∧ Q x H
theorem ok_step {f : Addr} {fd : FuncData} (B : Bn mg) (L : LogC K C) (F : Fun K "step" "Log.step" s_Log_step f fd) : FnOk P w K mg base CX0 1 f fd ["self", "number"] (spStep C) := by
  refine F.ok sc_Log_step (fun vs H Q E h => by obtain ⟨_, _, _, _, _, rfl, _⟩ := h; rfl) (fun cdv A outer s H vs Q E hr h => ?_)
  obtain ⟨p, l, xs, i, x, rfl, hp, hx, k⟩ := h
  obtain ⟨h1, h2, h3⟩ := log_fld (K := K) hp L
  have ax := atI_nat hx
  refine ⟨_, pss_one (ps_ret (pe_ix ix_H (pe_fldH (pv 0) rfl) (pv 1) (fun _ _ => rfl))), ?_⟩
  show tRet _ _ [some (.ref p), some (.int (i : Int))] H
  simp only [decide_true, decide_false, List.map_cons, List.map_nil, Option.map_none, Option.map_some, Option.getD_none, Option.getD_some, Px.dg2, Px.dg1, Px.dg, Px.din, Px.dnotin, Px.dnew, Px.dput, Px.isD_is, Px.dget_i, Px.dget_s, Px.dput_i, Px.dput_s, Px.dOf_d, Px.rtup, Px.rlist, Px.rsl, Px.rsort, Px.rcat, Px.rapp, Px.rrev, Px.sl_ap, Px.nop, Px.part, Px.yes, Px.tyl, Px.isL_l, Px.isT_t, Px.isL_t, Px.isT_l, Px.isD_d, Px.isT_d, Px.inV_ints, Px.flat_ints, Px.flatV_i, Px.wipe_cons, Px.wipe_nil, Px.gtup, Px.gcons, Px.gnil, gt_iff_lt, ge_iff_le, Px.we, Px.wonly, Px.was, Px.cxK, not_true_eq_false, and_self, true_implies, false_implies, implies_true, Px.e0, and_assoc, imp_false, not_false_eq_true, ne_eq, Px.rgcd, Px.rixl, Px.rixt, Px.v0, Px.v1, Px.v2, Px.v3, Px.v4, Px.v5, Px.v6, Px.v7, Px.v8, Px.v9, Px.v10, Px.v11, Px.v12, Px.v13, Px.v14, Px.v15, Px.v16, Px.v17, Px.v18, Px.v19, Px.v20, Px.v21, Px.v22, Px.v23, Px.c0, Px.asg, Px.gnm, Px.ret, Px.retN, Px.drop, Px.nxt, Px.brk, Px.cnt, Px.ifs, Px.op, Px.un, Px.tst, Px.tbl, Px.tand, Px.tor, Px.tnot, Px.andv, Px.orv, Px.notv, Px.tif, Px.tup, Px.lst, Px.nil, Px.cons, Px.cal, Px.calS, Px.cb, Px.par, Px.gsub, Px.bits, Px.bm, Px.bm0, Px.ri, Px.ri0, Px.ru, Px.req, Px.rne, Px.rix, Px.rlen, Px.rin, Px.rsetl, Px.risi, Px.tyH_n, Px.tyH_b, Px.tyH_i, Px.tyH_s, Px.tyH_r, Px.seqH_t, Px.seqH_l, Px.seqH_fl, Px.sc_ii, Px.sc_bb, Px.sc_ss, Px.atI0, Px.atI1, Px.atI2, Px.atI3, Px.atI4, Px.atI5, Px.atI6, Px.atI7, Px.kb_NoneType_int, Px.kb_NoneType_bool, Px.kb_NoneType_str, Px.kb_NoneType_list, Px.kb_NoneType_tuple, Px.kb_NoneType_dict, Px.kb_bool_int, Px.kb_bool_bool, Px.kb_bool_str, Px.kb_bool_list, Px.kb_bool_tuple, Px.kb_bool_dict, Px.kb_int_int, Px.kb_int_bool, Px.kb_int_str, Px.kb_int_list, Px.kb_int_tuple, Px.kb_int_dict, Px.kb_str_int, Px.kb_str_bool, Px.kb_str_str, Px.kb_str_list, Px.kb_str_tuple, Px.kb_str_dict, Px.kb_list_int, Px.kb_list_bool, Px.kb_list_str, Px.kb_list_list, Px.kb_list_tuple, Px.kb_list_dict, Px.kb_tuple_int, Px.kb_tuple_bool, Px.kb_tuple_str, Px.kb_tuple_list, Px.kb_tuple_tuple, Px.kb_tuple_dict, Px.kb_dict_int, Px.kb_dict_bool, Px.kb_dict_str, Px.kb_dict_list, Px.kb_dict_tuple, Px.kb_dict_dict, L2.upd_same, Px.updI, L2.ixN, List.set_cons_zero, List.set_cons_succ, List.length_cons, List.length_nil, Nat.reduceAdd, Nat.zero_add, L2.HO.lst.injEq, L2.HO.tup.injEq, L2.upd_upd, L2.V.int.injEq, L2.V.ref.injEq, L2.V.bl.injEq, L2.V.str.injEq, L2.V.ty.injEq, List.cons.injEq, and_true, true_and, and_false, false_and, or_false, false_or, exists_eq_left', exists_eq_left, exists_and_left, exists_const, exists_false, Option.some.injEq, decide_eq_true_eq, List.append_nil, List.cons_append, List.nil_append, Option.isSome_some, Bool.not_true, Bool.not_false, Bool.not_eq_true', Bool.not_eq_true, Bool.false_eq_true, decide_eq_false_iff_not, if_true, if_false, ite_true, ite_false, Int.reduceLE, Int.reduceLT, Int.reduceToNat, Int.cast_ofNat_Int, Bool.true_eq_false, eq_self, ↓reduceIte, reduceCtorEq, Px.aug, Px.ipi, Px.tri, Px.rcatth, Px.flh, Px.sfl, Px.met, Px.mak, *]
def spAllS (C : Addr) (vs : List V) (H : Hp) (Q : VK) (_ : XK) : Prop := ∃ (p l : Addr) (xs : List V), vs = [.ref p] ∧ LogAt C H p l xs ∧ ∀ q, H q = none → Q (.ref q) (upd H q (.lst xs))
theorem ok_allS {f : Addr} {fd : FuncData} (B : Bn mg) (L : LogC K C) (F : Fun K "all_steps" "Log.all_steps" s_Log_all_steps f fd) : FnOk P w K mg base CX0 1 f fd ["self"] (spAllS C) := by
  refine F.ok sc_Log_all_steps (fun vs H Q E h => by obtain ⟨_, _, _, rfl, _⟩ := h; rfl) (fun cdv A outer s H vs Q E hr h => ?_)
  obtain ⟨p, l, xs, rfl, hp, k⟩ := h
  obtain ⟨h1, h2, h3⟩ := log_fld (K := K) hp L
  refine ⟨_, pss_one (ps_ret (pe_callTy list_H rfl B.list_ (by decide +kernel) (pa_cons (pe_fldH (pv 0) rfl) pa_nil))), ?_⟩
  show tRet _ _ [some (.ref p)] H
  simp only [decide_true, decide_false, List.map_cons, List.map_nil, Option.map_none, Option.map_some, Option.getD_none, Option.getD_some, Px.dg2, Px.dg1, Px.dg, Px.din, Px.dnotin, Px.dnew, Px.dput, Px.isD_is, Px.dget_i, Px.dget_s, Px.dput_i, Px.dput_s, Px.dOf_d, Px.rtup, Px.rlist, Px.rsl, Px.rsort, Px.rcat, Px.rapp, Px.rrev, Px.sl_ap, Px.nop, Px.part, Px.yes, Px.tyl, Px.isL_l, Px.isT_t, Px.isL_t, Px.isT_l, Px.isD_d, Px.isT_d, Px.inV_ints, Px.flat_ints, Px.flatV_i, Px.wipe_cons, Px.wipe_nil, Px.gtup, Px.gcons, Px.gnil, gt_iff_lt, ge_iff_le, Px.we, Px.wonly, Px.was, Px.cxK, not_true_eq_false, and_self, true_implies, false_implies, implies_true, Px.e0, and_assoc, imp_false, not_false_eq_true, ne_eq, Px.rgcd, Px.rixl, Px.rixt, Px.v0, Px.v1, Px.v2, Px.v3, Px.v4, Px.v5, Px.v6, Px.v7, Px.v8, Px.v9, Px.v10, Px.v11, Px.v12, Px.v13, Px.v14, Px.v15, Px.v16, Px.v17, Px.v18, Px.v19, Px.v20, Px.v21, Px.v22, Px.v23, Px.c0, Px.asg, Px.gnm, Px.ret, Px.retN, Px.drop, Px.nxt, Px.brk, Px.cnt, Px.ifs, Px.op, Px.un, Px.tst, Px.tbl, Px.tand, Px.tor, Px.tnot, Px.andv, Px.orv, Px.notv, Px.tif, Px.tup, Px.lst, Px.nil, Px.cons, Px.cal, Px.calS, Px.cb, Px.par, Px.gsub, Px.bits, Px.bm, Px.bm0, Px.ri, Px.ri0, Px.ru, Px.req, Px.rne, Px.rix, Px.rlen, Px.rin, Px.rsetl, Px.risi, Px.tyH_n, Px.tyH_b, Px.tyH_i, Px.tyH_s, Px.tyH_r, Px.seqH_t, Px.seqH_l, Px.seqH_fl, Px.sc_ii, Px.sc_bb, Px.sc_ss, Px.atI0, Px.atI1, Px.atI2, Px.atI3, Px.atI4, Px.atI5, Px.atI6, Px.atI7, Px.kb_NoneType_int, Px.kb_NoneType_bool, Px.kb_NoneType_str, Px.kb_NoneType_list, Px.kb_NoneType_tuple, Px.kb_NoneType_dict, Px.kb_bool_int, Px.kb_bool_bool, Px.kb_bool_str, Px.kb_bool_list, Px.kb_bool_tuple, Px.kb_bool_dict, Px.kb_int_int, Px.kb_int_bool, Px.kb_int_str, Px.kb_int_list, Px.kb_int_tuple, Px.kb_int_dict, Px.kb_str_int, Px.kb_str_bool, Px.kb_str_str, Px.kb_str_list, Px.kb_str_tuple, Px.kb_str_dict, Px.kb_list_int, Px.kb_list_bool, Px.kb_list_str, Px.kb_list_list, Px.kb_list_tuple, Px.kb_list_dict, Px.kb_tuple_int, Px.kb_tuple_bool, Px.kb_tuple_str, Px.kb_tuple_list, Px.kb_tuple_tuple, Px.kb_tuple_dict, Px.kb_dict_int, Px.kb_dict_bool, Px.kb_dict_str, Px.kb_dict_list, Px.kb_dict_tuple, Px.kb_dict_dict, L2.upd_same, Px.updI, L2.ixN, List.set_cons_zero, List.set_cons_succ, List.length_cons, List.length_nil, Nat.reduceAdd, Nat.zero_add, L2.HO.lst.injEq, L2.HO.tup.injEq, L2.upd_upd, L2.V.int.injEq, L2.V.ref.injEq, L2.V.bl.injEq, L2.V.str.injEq, L2.V.ty.injEq, List.cons.injEq, and_true, true_and, and_false, false_and, or_false, false_or, exists_eq_left', exists_eq_left, exists_and_left, exists_const, exists_false, Option.some.injEq, decide_eq_true_eq, List.append_nil, List.cons_append, List.nil_append, Option.isSome_some, Bool.not_true, Bool.not_false, Bool.not_eq_true', Bool.not_eq_true, Bool.false_eq_true, decide_eq_false_iff_not, if_true, if_false, ite_true, ite_false, Int.reduceLE, Int.reduceLT, Int.reduceToNat, Int.cast_ofNat_Int, Bool.true_eq_false, eq_self, ↓reduceIte, reduceCtorEq, Px.aug, Px.ipi, Px.tri, Px.rcatth, Px.flh, Px.sfl, Px.met, Px.mak, *]
  exact k
theorem LogAt.new {H : Hp} {p l q : Addr} {xs : List V} {o : HO} (h : LogAt C H p l xs) (hq : H q = none) : LogAt C (upd H q o) p l xs := by
  obtain ⟨dx, h1, h2⟩ := h
  exact ⟨dx, by rw [updI hq (by rw [h1]; rfl), h1], by rw [updI hq (by rw [h2]; rfl), h2]⟩
theorem LogAt.put {H : Hp} {p l : Addr} {xs ys : List V} (h : LogAt C H p l xs) : LogAt C (upd H l (.lst ys)) p l ys := by
  obtain ⟨dx, h1, h2⟩ := h
  have n : p ≠ l := fun z => by rw [z, h2] at h1; cases h1
  exact ⟨dx, by rw [upd_ne n, h1], upd_same⟩
def spWrite (C : Addr) (vs : List V) (H : Hp) (Q : VK) (_ : XK) : Prop := ∃ (p l : Addr) (xs : List V) (x y z : V), vs = [.ref p, x, y, z] ∧ LogAt C H p l xs ∧ xs.length < 1000 ∧ ∀ t H', H' t = some (.tup [x, y, z]) → H t = none → LogAt C H' p l (xs ++ [.ref t]) → But l H H' → Q (.int xs.length) H'
theorem ok_write {f : Addr} {fd : FuncData} (B : Bn mg) (L : LogC K C) (F : Fun K "write" "Log.write" s_Log_write f fd) : FnOk P w K mg base CX0 1 f fd ["self", "kind", "clause", "details"] (spWrite C) := by
  refine F.ok sc_Log_write (fun vs H Q E h => by obtain ⟨_, _, _, _, _, _, rfl, _⟩ := h; rfl) (fun cdv A outer s H vs Q E hr h => ?_)
  obtain ⟨p, l, xs, x, y, z, rfl, hp, hl, k⟩ := h
  obtain ⟨h1, h2, h3⟩ := log_fld (K := K) hp L
  refine ⟨_, pss_cons (ps_expr (pe_bm PySem.F.plainAttrs_list PySem.F.slot_list_append PySem.F.type_list_append mt_append (pe_fldH (pv 0) rfl) (pa_cons (pe_tup (pa_cons (pv 1) (pa_cons (pv 2) (pa_cons (pv 3) pa_nil)))) pa_nil))) (
  pss_one (ps_ret (pe_op op_sub (pe_callB len_H rfl B.len (by decide +kernel) (pa_cons (pe_fldH (pv 0) rfl) pa_nil)) pe_int))), ?_⟩
  show tSeq _ _ _ [some (.ref p), some x, some y, some z] H
  refine go_seq ?_
  simp only [decide_true, decide_false, List.map_cons, List.map_nil, Option.map_none, Option.map_some, Option.getD_none, Option.getD_some, Px.dg2, Px.dg1, Px.dg, Px.din, Px.dnotin, Px.dnew, Px.dput, Px.isD_is, Px.dget_i, Px.dget_s, Px.dput_i, Px.dput_s, Px.dOf_d, Px.rtup, Px.rlist, Px.rsl, Px.rsort, Px.rcat, Px.rapp, Px.rrev, Px.sl_ap, Px.nop, Px.part, Px.yes, Px.tyl, Px.isL_l, Px.isT_t, Px.isL_t, Px.isT_l, Px.isD_d, Px.isT_d, Px.inV_ints, Px.flat_ints, Px.flatV_i, Px.wipe_cons, Px.wipe_nil, Px.gtup, Px.gcons, Px.gnil, gt_iff_lt, ge_iff_le, Px.we, Px.wonly, Px.was, Px.cxK, not_true_eq_false, and_self, true_implies, false_implies, implies_true, Px.e0, and_assoc, imp_false, not_false_eq_true, ne_eq, Px.rgcd, Px.rixl, Px.rixt, Px.v0, Px.v1, Px.v2, Px.v3, Px.v4, Px.v5, Px.v6, Px.v7, Px.v8, Px.v9, Px.v10, Px.v11, Px.v12, Px.v13, Px.v14, Px.v15, Px.v16, Px.v17, Px.v18, Px.v19, Px.v20, Px.v21, Px.v22, Px.v23, Px.c0, Px.asg, Px.gnm, Px.ret, Px.retN, Px.drop, Px.nxt, Px.brk, Px.cnt, Px.ifs, Px.op, Px.un, Px.tst, Px.tbl, Px.tand, Px.tor, Px.tnot, Px.andv, Px.orv, Px.notv, Px.tif, Px.tup, Px.lst, Px.nil, Px.cons, Px.cal, Px.calS, Px.cb, Px.par, Px.gsub, Px.bits, Px.bm, Px.bm0, Px.ri, Px.ri0, Px.ru, Px.req, Px.rne, Px.rix, Px.rlen, Px.rin, Px.rsetl, Px.risi, Px.tyH_n, Px.tyH_b, Px.tyH_i, Px.tyH_s, Px.tyH_r, Px.seqH_t, Px.seqH_l, Px.seqH_fl, Px.sc_ii, Px.sc_bb, Px.sc_ss, Px.atI0, Px.atI1, Px.atI2, Px.atI3, Px.atI4, Px.atI5, Px.atI6, Px.atI7, Px.kb_NoneType_int, Px.kb_NoneType_bool, Px.kb_NoneType_str, Px.kb_NoneType_list, Px.kb_NoneType_tuple, Px.kb_NoneType_dict, Px.kb_bool_int, Px.kb_bool_bool, Px.kb_bool_str, Px.kb_bool_list, Px.kb_bool_tuple, Px.kb_bool_dict, Px.kb_int_int, Px.kb_int_bool, Px.kb_int_str, Px.kb_int_list, Px.kb_int_tuple, Px.kb_int_dict, Px.kb_str_int, Px.kb_str_bool, Px.kb_str_str, Px.kb_str_list, Px.kb_str_tuple, Px.kb_str_dict, Px.kb_list_int, Px.kb_list_bool, Px.kb_list_str, Px.kb_list_list, Px.kb_list_tuple, Px.kb_list_dict, Px.kb_tuple_int, Px.kb_tuple_bool, Px.kb_tuple_str, Px.kb_tuple_list, Px.kb_tuple_tuple, Px.kb_tuple_dict, Px.kb_dict_int, Px.kb_dict_bool, Px.kb_dict_str, Px.kb_dict_list, Px.kb_dict_tuple, Px.kb_dict_dict, L2.upd_same, Px.updI, L2.ixN, List.set_cons_zero, List.set_cons_succ, List.length_cons, List.length_nil, Nat.reduceAdd, Nat.zero_add, L2.HO.lst.injEq, L2.HO.tup.injEq, L2.upd_upd, L2.V.int.injEq, L2.V.ref.injEq, L2.V.bl.injEq, L2.V.str.injEq, L2.V.ty.injEq, List.cons.injEq, and_true, true_and, and_false, false_and, or_false, false_or, exists_eq_left', exists_eq_left, exists_and_left, exists_const, exists_false, Option.some.injEq, decide_eq_true_eq, List.append_nil, List.cons_append, List.nil_append, Option.isSome_some, Bool.not_true, Bool.not_false, Bool.not_eq_true', Bool.not_eq_true, Bool.false_eq_true, decide_eq_false_iff_not, if_true, if_false, ite_true, ite_false, Int.reduceLE, Int.reduceLT, Int.reduceToNat, Int.cast_ofNat_Int, Bool.true_eq_false, eq_self, ↓reduceIte, reduceCtorEq, Px.aug, Px.ipi, Px.tri, Px.rcatth, Px.flh, Px.sfl, Px.met, Px.mak, *]
  refine ⟨by decide, fun t ht => ?_⟩
  have hp1 := hp.new (o := .tup [x, y, z]) ht
  have hp2 := hp1.put (ys := xs ++ [.ref t])
  obtain ⟨g1, g2, g3⟩ := log_fld (K := K) hp2 L
  obtain ⟨_, _, f3⟩ := log_fld (K := K) hp1 L
  have htl : t ≠ l := fun z => by rw [z, h3] at ht; cases ht
  refine ⟨xs, f3, Nat.lt_of_lt_of_le hl (by decide), g1, _, g2, l, rfl, _, by rw [g3]; rfl, ?_⟩
  have e : (((xs ++ [V.ref t]).length : Nat) : Int) - 1 = (xs.length : Int) := by rw [List.length_append, List.length_singleton]; omega
  rw [e]
  exact k t _ (by rw [upd_ne htl, upd_same]) ht hp2 (((But.rfl' l H).new ht).mut)
def spClAt (C : Addr) (vs : List V) (H : Hp) (Q : VK) (_ : XK) : Prop := ∃ (p l t : Addr) (xs : List V) (i : Nat) (x y z : V), vs = [.ref p, .int (i : Int)] ∧ LogAt C H p l xs ∧ xs[i]? = some (.ref t) ∧ H t = some (.tup [x, y, z]) ∧ Q y H
theorem ok_clAt {f : Addr} {fd : FuncData} (B : Bn mg) (L : LogC K C) (F : Fun K "clause_at" "Log.clause_at" s_Log_clause_at f fd) : FnOk P w K mg base CX0 1 f fd ["self", "number"] (spClAt C) := by
  refine F.ok sc_Log_clause_at (fun vs H Q E h => by obtain ⟨_, _, _, _, _, _, _, _, rfl, _⟩ := h; rfl) (fun cdv A outer s H vs Q E hr h => ?_)
  obtain ⟨p, l, t, xs, i, x, y, z, rfl, hp, hx, ht, k⟩ := h
  obtain ⟨h1, h2, h3⟩ := log_fld (K := K) hp L
  have ax := atI_nat hx
  refine ⟨_, pss_one (ps_ret (pe_ix ix_H (pe_ix ix_H (pe_fldH (pv 0) rfl) (pv 1) (fun _ _ => rfl)) pe_int (fun _ _ => rfl))), ?_⟩
  show tRet _ _ [some (.ref p), some (.int (i : Int))] H
  simp only [decide_true, decide_false, List.map_cons, List.map_nil, Option.map_none, Option.map_some, Option.getD_none, Option.getD_some, Px.dg2, Px.dg1, Px.dg, Px.din, Px.dnotin, Px.dnew, Px.dput, Px.isD_is, Px.dget_i, Px.dget_s, Px.dput_i, Px.dput_s, Px.dOf_d, Px.rtup, Px.rlist, Px.rsl, Px.rsort, Px.rcat, Px.rapp, Px.rrev, Px.sl_ap, Px.nop, Px.part, Px.yes, Px.tyl, Px.isL_l, Px.isT_t, Px.isL_t, Px.isT_l, Px.isD_d, Px.isT_d, Px.inV_ints, Px.flat_ints, Px.flatV_i, Px.wipe_cons, Px.wipe_nil, Px.gtup, Px.gcons, Px.gnil, gt_iff_lt, ge_iff_le, Px.we, Px.wonly, Px.was, Px.cxK, not_true_eq_false, and_self, true_implies, false_implies, implies_true, Px.e0, and_assoc, imp_false, not_false_eq_true, ne_eq, Px.rgcd, Px.rixl, Px.rixt, Px.v0, Px.v1, Px.v2, Px.v3, Px.v4, Px.v5, Px.v6, Px.v7, Px.v8, Px.v9, Px.v10, Px.v11, Px.v12, Px.v13, Px.v14, Px.v15, Px.v16, Px.v17, Px.v18, Px.v19, Px.v20, Px.v21, Px.v22, Px.v23, Px.c0, Px.asg, Px.gnm, Px.ret, Px.retN, Px.drop, Px.nxt, Px.brk, Px.cnt, Px.ifs, Px.op, Px.un, Px.tst, Px.tbl, Px.tand, Px.tor, Px.tnot, Px.andv, Px.orv, Px.notv, Px.tif, Px.tup, Px.lst, Px.nil, Px.cons, Px.cal, Px.calS, Px.cb, Px.par, Px.gsub, Px.bits, Px.bm, Px.bm0, Px.ri, Px.ri0, Px.ru, Px.req, Px.rne, Px.rix, Px.rlen, Px.rin, Px.rsetl, Px.risi, Px.tyH_n, Px.tyH_b, Px.tyH_i, Px.tyH_s, Px.tyH_r, Px.seqH_t, Px.seqH_l, Px.seqH_fl, Px.sc_ii, Px.sc_bb, Px.sc_ss, Px.atI0, Px.atI1, Px.atI2, Px.atI3, Px.atI4, Px.atI5, Px.atI6, Px.atI7, Px.kb_NoneType_int, Px.kb_NoneType_bool, Px.kb_NoneType_str, Px.kb_NoneType_list, Px.kb_NoneType_tuple, Px.kb_NoneType_dict, Px.kb_bool_int, Px.kb_bool_bool, Px.kb_bool_str, Px.kb_bool_list, Px.kb_bool_tuple, Px.kb_bool_dict, Px.kb_int_int, Px.kb_int_bool, Px.kb_int_str, Px.kb_int_list, Px.kb_int_tuple, Px.kb_int_dict, Px.kb_str_int, Px.kb_str_bool, Px.kb_str_str, Px.kb_str_list, Px.kb_str_tuple, Px.kb_str_dict, Px.kb_list_int, Px.kb_list_bool, Px.kb_list_str, Px.kb_list_list, Px.kb_list_tuple, Px.kb_list_dict, Px.kb_tuple_int, Px.kb_tuple_bool, Px.kb_tuple_str, Px.kb_tuple_list, Px.kb_tuple_tuple, Px.kb_tuple_dict, Px.kb_dict_int, Px.kb_dict_bool, Px.kb_dict_str, Px.kb_dict_list, Px.kb_dict_tuple, Px.kb_dict_dict, L2.upd_same, Px.updI, L2.ixN, List.set_cons_zero, List.set_cons_succ, List.length_cons, List.length_nil, Nat.reduceAdd, Nat.zero_add, L2.HO.lst.injEq, L2.HO.tup.injEq, L2.upd_upd, L2.V.int.injEq, L2.V.ref.injEq, L2.V.bl.injEq, L2.V.str.injEq, L2.V.ty.injEq, List.cons.injEq, and_true, true_and, and_false, false_and, or_false, false_or, exists_eq_left', exists_eq_left, exists_and_left, exists_const, exists_false, Option.some.injEq, decide_eq_true_eq, List.append_nil, List.cons_append, List.nil_append, Option.isSome_some, Bool.not_true, Bool.not_false, Bool.not_eq_true', Bool.not_eq_true, Bool.false_eq_true, decide_eq_false_iff_not, if_true, if_false, ite_true, ite_false, Int.reduceLE, Int.reduceLT, Int.reduceToNat, Int.cast_ofNat_Int, Bool.true_eq_false, eq_self, ↓reduceIte, reduceCtorEq, Px.aug, Px.ipi, Px.tri, Px.rcatth, Px.flh, Px.sfl, Px.met, Px.mak, *]
end
end K03

namespace K03
open PySem PySem.Spec PyProof.Rows L2 Px
/-- a strike's and a resolve step's data -/
def prd (p : Int × Int) : PyData := .tuple [.int p.1, .int p.2]
def dtd (f : Int) (ss : List (Int × Int)) : PyData := .tuple [.int f, .tuple (ss.map prd)]
theorem pr_inv {H : Hp} {v : V} {p : Int × Int} (h : Dt H v (prd p)) : ∃ a, v = .ref a ∧ H a = some (.tup [.int p.1, .int p.2]) := by
  cases h with
  | tup h a =>
    cases a with
    | cons x a =>
      cases a with
      | cons y a =>
        cases a
        cases x
        cases y
        exact ⟨_, rfl, h⟩
theorem prt {H : Hp} {a : Addr} {p : Int × Int} (h : H a = some (.tup [.int p.1, .int p.2])) : Dt H (.ref a) (prd p) := .tup h (.cons (.int _) (.cons (.int _) .nil))
theorem dt_inv {H : Hp} {v : V} {f : Int} {ss : List (Int × Int)} (h : Dt H v (dtd f ss)) : ∃ a y vs, v = .ref a ∧ H a = some (.tup [.int f, .ref y]) ∧ H y = some (.tup vs) ∧ DtAll H vs (ss.map prd) := by
  cases h with
  | tup h a =>
    cases a with
    | cons x a =>
      cases a with
      | cons y a =>
        cases a
        cases x
        cases y with
        | tup h' a' => exact ⟨_, _, _, rfl, h, h', a'⟩
section
variable {P : Program} {w : World} {K : PySem.W.Frag} {mg : Str → Option Value} {base : Heap} {C : Addr}
def mov (s : Int) (ss : List (Int × Int)) : List (Int × Int) := ss.map fun p => (p.1, p.2 + s)
def spMoved (vs : List V) (H : Hp) (Q : VK) (_ : XK) : Prop := ∃ (vd : V) (s f : Int) (ss : List (Int × Int)), vs = [vd, .int s] ∧ Dt H vd (dtd f ss) ∧ ss.length ≤ 1000 ∧ ∀ v H', Dt H' v (dtd (f + s) (mov s ss)) → Px.Ext H H' → Q v H'
theorem ok_moved (B : Bn mg) (F : FunAt K mg "moved_details" s_moved_details) : Def P w K mg base CX0 1 "moved_details" ["details", "start"] spMoved := by
  refine F.ok sc_moved_details (fun _ _ _ _ _ _ us hl => match us, hl with | [_, _], _ => rfl) (fun vs H Q E h => by obtain ⟨_, _, _, _, rfl, _⟩ := h; rfl) (fun f cdv A outer s H vs Q E hr h => ?_)
  obtain ⟨vd, st, f0, ss, rfl, hd, hl, k⟩ := h
  obtain ⟨a, y, ws, rfl, h1, h2, h3⟩ := dt_inv hd
  have lw : ws.length = ss.length := by rw [h3.len, List.length_map]
  refine ⟨_, pss_cons (ps_asg (pv 0) (pg_tupH (n := 2) rfl (pgs_cons (pg_name (i := 2) sc_moved_details.nd rfl (Or.inl rfl)) (pgs_cons (pg_name (i := 3) sc_moved_details.nd rfl (Or.inl rfl)) pgs_nil)))) (
  pss_one (ps_ret (pe_tup (pa_cons (pe_op op_add (pv 2) (pv 1)) (pa_cons (pe_callTy tup_H rfl B.tuple_ (by decide +kernel) (pa_cons (pe_lc (own := [("literal", 4), ("number", 5)]) (g := gTupH 2 (gCons (gName 4) (gCons (gName 5) (gNil)))) rfl sc_moved_details.nd (pi_seq (pv 3)) (blkOk_by (own := [("literal", 4), ("number", 5)]) (N := ["details", "start", "first", "strikes", "literal", "number"]) (sc := defScope s_moved_details) (by decide +kernel)) (fun _ _ _ _ _ => (pg_tupH (n := 2) rfl (pgs_cons (pg_name (i := 4) sc_moved_details.nd rfl (Or.inl rfl)) (pgs_cons (pg_name (i := 5) sc_moved_details.nd rfl (Or.inl rfl)) pgs_nil)))) (fun _ _ _ _ _ => pts_nil) (fun _ _ _ _ _ => (pe_tup (pa_cons (pv 4) (pa_cons (pe_op op_add (pv 5) (pv 1)) pa_nil))))) pa_nil)) pa_nil))))), ?_⟩
  show tSeq _ _ _ [some (.ref a), some (.int st), none, none, none, none] H
  refine go_seq ?_
  simp only [decide_true, decide_false, List.map_cons, List.map_nil, Option.map_none, Option.map_some, Option.getD_none, Option.getD_some, Px.dg2, Px.dg1, Px.dg, Px.din, Px.dnotin, Px.dnew, Px.dput, Px.isD_is, Px.dget_i, Px.dget_s, Px.dput_i, Px.dput_s, Px.dOf_d, Px.rtup, Px.rlist, Px.rsl, Px.rsort, Px.rcat, Px.rapp, Px.rrev, Px.sl_ap, Px.nop, Px.part, Px.yes, Px.tyl, Px.isL_l, Px.isT_t, Px.isL_t, Px.isT_l, Px.isD_d, Px.isT_d, Px.inV_ints, Px.flat_ints, Px.flatV_i, Px.wipe_cons, Px.wipe_nil, Px.gtup, Px.gcons, Px.gnil, gt_iff_lt, ge_iff_le, Px.we, Px.wonly, Px.was, Px.cxK, not_true_eq_false, and_self, true_implies, false_implies, implies_true, Px.e0, and_assoc, imp_false, not_false_eq_true, ne_eq, Px.rgcd, Px.rixl, Px.rixt, Px.v0, Px.v1, Px.v2, Px.v3, Px.v4, Px.v5, Px.v6, Px.v7, Px.v8, Px.v9, Px.v10, Px.v11, Px.v12, Px.v13, Px.v14, Px.v15, Px.v16, Px.v17, Px.v18, Px.v19, Px.v20, Px.v21, Px.v22, Px.v23, Px.c0, Px.asg, Px.gnm, Px.ret, Px.retN, Px.drop, Px.nxt, Px.brk, Px.cnt, Px.ifs, Px.op, Px.un, Px.tst, Px.tbl, Px.tand, Px.tor, Px.tnot, Px.andv, Px.orv, Px.notv, Px.tif, Px.tup, Px.lst, Px.nil, Px.cons, Px.cal, Px.calS, Px.cb, Px.par, Px.gsub, Px.bits, Px.bm, Px.bm0, Px.ri, Px.ri0, Px.ru, Px.req, Px.rne, Px.rix, Px.rlen, Px.rin, Px.rsetl, Px.risi, Px.tyH_n, Px.tyH_b, Px.tyH_i, Px.tyH_s, Px.tyH_r, Px.seqH_t, Px.seqH_l, Px.seqH_fl, Px.sc_ii, Px.sc_bb, Px.sc_ss, Px.atI0, Px.atI1, Px.atI2, Px.atI3, Px.atI4, Px.atI5, Px.atI6, Px.atI7, Px.kb_NoneType_int, Px.kb_NoneType_bool, Px.kb_NoneType_str, Px.kb_NoneType_list, Px.kb_NoneType_tuple, Px.kb_NoneType_dict, Px.kb_bool_int, Px.kb_bool_bool, Px.kb_bool_str, Px.kb_bool_list, Px.kb_bool_tuple, Px.kb_bool_dict, Px.kb_int_int, Px.kb_int_bool, Px.kb_int_str, Px.kb_int_list, Px.kb_int_tuple, Px.kb_int_dict, Px.kb_str_int, Px.kb_str_bool, Px.kb_str_str, Px.kb_str_list, Px.kb_str_tuple, Px.kb_str_dict, Px.kb_list_int, Px.kb_list_bool, Px.kb_list_str, Px.kb_list_list, Px.kb_list_tuple, Px.kb_list_dict, Px.kb_tuple_int, Px.kb_tuple_bool, Px.kb_tuple_str, Px.kb_tuple_list, Px.kb_tuple_tuple, Px.kb_tuple_dict, Px.kb_dict_int, Px.kb_dict_bool, Px.kb_dict_str, Px.kb_dict_list, Px.kb_dict_tuple, Px.kb_dict_dict, L2.upd_same, Px.updI, L2.ixN, List.set_cons_zero, List.set_cons_succ, List.length_cons, List.length_nil, Nat.reduceAdd, Nat.zero_add, L2.HO.lst.injEq, L2.HO.tup.injEq, L2.upd_upd, L2.V.int.injEq, L2.V.ref.injEq, L2.V.bl.injEq, L2.V.str.injEq, L2.V.ty.injEq, List.cons.injEq, and_true, true_and, and_false, false_and, or_false, false_or, exists_eq_left', exists_eq_left, exists_and_left, exists_const, exists_false, Option.some.injEq, decide_eq_true_eq, List.append_nil, List.cons_append, List.nil_append, Option.isSome_some, Bool.not_true, Bool.not_false, Bool.not_eq_true', Bool.not_eq_true, Bool.false_eq_true, decide_eq_false_iff_not, if_true, if_false, ite_true, ite_false, Int.reduceLE, Int.reduceLT, Int.reduceToNat, Int.cast_ofNat_Int, Bool.true_eq_false, eq_self, ↓reduceIte, reduceCtorEq, Px.aug, Px.ipi, Px.tri, Px.rcatth, Px.flh, Px.sfl, Px.met, Px.mak, *]
  refine lc_seq (xs := ws) (fun _ => true) (fun i => prd ((ss.getD i (0, 0)).1, (ss.getD i (0, 0)).2 + st)) (fun Q q => by simp only [decide_true, decide_false, List.map_cons, List.map_nil, Option.map_none, Option.map_some, Option.getD_none, Option.getD_some, Px.dg2, Px.dg1, Px.dg, Px.din, Px.dnotin, Px.dnew, Px.dput, Px.isD_is, Px.dget_i, Px.dget_s, Px.dput_i, Px.dput_s, Px.dOf_d, Px.rtup, Px.rlist, Px.rsl, Px.rsort, Px.rcat, Px.rapp, Px.rrev, Px.sl_ap, Px.nop, Px.part, Px.yes, Px.tyl, Px.isL_l, Px.isT_t, Px.isL_t, Px.isT_l, Px.isD_d, Px.isT_d, Px.inV_ints, Px.flat_ints, Px.flatV_i, Px.wipe_cons, Px.wipe_nil, Px.gtup, Px.gcons, Px.gnil, gt_iff_lt, ge_iff_le, Px.we, Px.wonly, Px.was, Px.cxK, not_true_eq_false, and_self, true_implies, false_implies, implies_true, Px.e0, and_assoc, imp_false, not_false_eq_true, ne_eq, Px.rgcd, Px.rixl, Px.rixt, Px.v0, Px.v1, Px.v2, Px.v3, Px.v4, Px.v5, Px.v6, Px.v7, Px.v8, Px.v9, Px.v10, Px.v11, Px.v12, Px.v13, Px.v14, Px.v15, Px.v16, Px.v17, Px.v18, Px.v19, Px.v20, Px.v21, Px.v22, Px.v23, Px.c0, Px.asg, Px.gnm, Px.ret, Px.retN, Px.drop, Px.nxt, Px.brk, Px.cnt, Px.ifs, Px.op, Px.un, Px.tst, Px.tbl, Px.tand, Px.tor, Px.tnot, Px.andv, Px.orv, Px.notv, Px.tif, Px.tup, Px.lst, Px.nil, Px.cons, Px.cal, Px.calS, Px.cb, Px.par, Px.gsub, Px.bits, Px.bm, Px.bm0, Px.ri, Px.ri0, Px.ru, Px.req, Px.rne, Px.rix, Px.rlen, Px.rin, Px.rsetl, Px.risi, Px.tyH_n, Px.tyH_b, Px.tyH_i, Px.tyH_s, Px.tyH_r, Px.seqH_t, Px.seqH_l, Px.seqH_fl, Px.sc_ii, Px.sc_bb, Px.sc_ss, Px.atI0, Px.atI1, Px.atI2, Px.atI3, Px.atI4, Px.atI5, Px.atI6, Px.atI7, Px.kb_NoneType_int, Px.kb_NoneType_bool, Px.kb_NoneType_str, Px.kb_NoneType_list, Px.kb_NoneType_tuple, Px.kb_NoneType_dict, Px.kb_bool_int, Px.kb_bool_bool, Px.kb_bool_str, Px.kb_bool_list, Px.kb_bool_tuple, Px.kb_bool_dict, Px.kb_int_int, Px.kb_int_bool, Px.kb_int_str, Px.kb_int_list, Px.kb_int_tuple, Px.kb_int_dict, Px.kb_str_int, Px.kb_str_bool, Px.kb_str_str, Px.kb_str_list, Px.kb_str_tuple, Px.kb_str_dict, Px.kb_list_int, Px.kb_list_bool, Px.kb_list_str, Px.kb_list_list, Px.kb_list_tuple, Px.kb_list_dict, Px.kb_tuple_int, Px.kb_tuple_bool, Px.kb_tuple_str, Px.kb_tuple_list, Px.kb_tuple_tuple, Px.kb_tuple_dict, Px.kb_dict_int, Px.kb_dict_bool, Px.kb_dict_str, Px.kb_dict_list, Px.kb_dict_tuple, Px.kb_dict_dict, L2.upd_same, Px.updI, L2.ixN, List.set_cons_zero, List.set_cons_succ, List.length_cons, List.length_nil, Nat.reduceAdd, Nat.zero_add, L2.HO.lst.injEq, L2.HO.tup.injEq, L2.upd_upd, L2.V.int.injEq, L2.V.ref.injEq, L2.V.bl.injEq, L2.V.str.injEq, L2.V.ty.injEq, List.cons.injEq, and_true, true_and, and_false, false_and, or_false, false_or, exists_eq_left', exists_eq_left, exists_and_left, exists_const, exists_false, Option.some.injEq, decide_eq_true_eq, List.append_nil, List.cons_append, List.nil_append, Option.isSome_some, Bool.not_true, Bool.not_false, Bool.not_eq_true', Bool.not_eq_true, Bool.false_eq_true, decide_eq_false_iff_not, if_true, if_false, ite_true, ite_false, Int.reduceLE, Int.reduceLT, Int.reduceToNat, Int.cast_ofNat_Int, Bool.true_eq_false, eq_self, ↓reduceIte, reduceCtorEq, Px.aug, Px.ipi, Px.tri, Px.rcatth, Px.flh, Px.sfl, Px.met, Px.mak, *]; exact q) (by rw [h2]; rfl) (by omega) (fun i x hi => ?_) (fun D ys H2 hD e2 hy hall => ?_)
  · have li : i < ss.length := by rw [← lw]; exact (List.getElem?_eq_some_iff.mp hi).1
    obtain ⟨p, hp⟩ : ∃ p, ss[i]? = some p := ⟨_, List.getElem?_eq_getElem li⟩
    have ep : ss.getD i (0, 0) = p := by rw [List.getD_eq_getElem?_getD, hp]; rfl
    intro H2 R' E' e2 _ k2
    simp only [ep] at k2
    obtain ⟨v, hv, dv⟩ := (h3.mono e2.tu).get' (show (ss.map prd)[i]? = some (prd p) by rw [List.getElem?_map, hp]; rfl)
    rw [hi] at hv
    cases hv
    obtain ⟨b, rfl, hb⟩ := pr_inv dv
    simp only [decide_true, decide_false, List.map_cons, List.map_nil, Option.map_none, Option.map_some, Option.getD_none, Option.getD_some, Px.dg2, Px.dg1, Px.dg, Px.din, Px.dnotin, Px.dnew, Px.dput, Px.isD_is, Px.dget_i, Px.dget_s, Px.dput_i, Px.dput_s, Px.dOf_d, Px.rtup, Px.rlist, Px.rsl, Px.rsort, Px.rcat, Px.rapp, Px.rrev, Px.sl_ap, Px.nop, Px.part, Px.yes, Px.tyl, Px.isL_l, Px.isT_t, Px.isL_t, Px.isT_l, Px.isD_d, Px.isT_d, Px.inV_ints, Px.flat_ints, Px.flatV_i, Px.wipe_cons, Px.wipe_nil, Px.gtup, Px.gcons, Px.gnil, gt_iff_lt, ge_iff_le, Px.we, Px.wonly, Px.was, Px.cxK, not_true_eq_false, and_self, true_implies, false_implies, implies_true, Px.e0, and_assoc, imp_false, not_false_eq_true, ne_eq, Px.rgcd, Px.rixl, Px.rixt, Px.v0, Px.v1, Px.v2, Px.v3, Px.v4, Px.v5, Px.v6, Px.v7, Px.v8, Px.v9, Px.v10, Px.v11, Px.v12, Px.v13, Px.v14, Px.v15, Px.v16, Px.v17, Px.v18, Px.v19, Px.v20, Px.v21, Px.v22, Px.v23, Px.c0, Px.asg, Px.gnm, Px.ret, Px.retN, Px.drop, Px.nxt, Px.brk, Px.cnt, Px.ifs, Px.op, Px.un, Px.tst, Px.tbl, Px.tand, Px.tor, Px.tnot, Px.andv, Px.orv, Px.notv, Px.tif, Px.tup, Px.lst, Px.nil, Px.cons, Px.cal, Px.calS, Px.cb, Px.par, Px.gsub, Px.bits, Px.bm, Px.bm0, Px.ri, Px.ri0, Px.ru, Px.req, Px.rne, Px.rix, Px.rlen, Px.rin, Px.rsetl, Px.risi, Px.tyH_n, Px.tyH_b, Px.tyH_i, Px.tyH_s, Px.tyH_r, Px.seqH_t, Px.seqH_l, Px.seqH_fl, Px.sc_ii, Px.sc_bb, Px.sc_ss, Px.atI0, Px.atI1, Px.atI2, Px.atI3, Px.atI4, Px.atI5, Px.atI6, Px.atI7, Px.kb_NoneType_int, Px.kb_NoneType_bool, Px.kb_NoneType_str, Px.kb_NoneType_list, Px.kb_NoneType_tuple, Px.kb_NoneType_dict, Px.kb_bool_int, Px.kb_bool_bool, Px.kb_bool_str, Px.kb_bool_list, Px.kb_bool_tuple, Px.kb_bool_dict, Px.kb_int_int, Px.kb_int_bool, Px.kb_int_str, Px.kb_int_list, Px.kb_int_tuple, Px.kb_int_dict, Px.kb_str_int, Px.kb_str_bool, Px.kb_str_str, Px.kb_str_list, Px.kb_str_tuple, Px.kb_str_dict, Px.kb_list_int, Px.kb_list_bool, Px.kb_list_str, Px.kb_list_list, Px.kb_list_tuple, Px.kb_list_dict, Px.kb_tuple_int, Px.kb_tuple_bool, Px.kb_tuple_str, Px.kb_tuple_list, Px.kb_tuple_tuple, Px.kb_tuple_dict, Px.kb_dict_int, Px.kb_dict_bool, Px.kb_dict_str, Px.kb_dict_list, Px.kb_dict_tuple, Px.kb_dict_dict, L2.upd_same, Px.updI, L2.ixN, List.set_cons_zero, List.set_cons_succ, List.length_cons, List.length_nil, Nat.reduceAdd, Nat.zero_add, L2.HO.lst.injEq, L2.HO.tup.injEq, L2.upd_upd, L2.V.int.injEq, L2.V.ref.injEq, L2.V.bl.injEq, L2.V.str.injEq, L2.V.ty.injEq, List.cons.injEq, and_true, true_and, and_false, false_and, or_false, false_or, exists_eq_left', exists_eq_left, exists_and_left, exists_const, exists_false, Option.some.injEq, decide_eq_true_eq, List.append_nil, List.cons_append, List.nil_append, Option.isSome_some, Bool.not_true, Bool.not_false, Bool.not_eq_true', Bool.not_eq_true, Bool.false_eq_true, decide_eq_false_iff_not, if_true, if_false, ite_true, ite_false, Int.reduceLE, Int.reduceLT, Int.reduceToNat, Int.cast_ofNat_Int, Bool.true_eq_false, eq_self, ↓reduceIte, reduceCtorEq, Px.aug, Px.ipi, Px.tri, Px.rcatth, Px.flh, Px.sfl, Px.met, Px.mak, *]
    exact ⟨by decide, fun u hu => k2 trivial _ _ ((Px.Ext.rfl' H2).new hu) (prt (p := (p.1, p.2 + st)) upd_same)⟩
  · rw [lw, given_eq ss (0, 0) (fun _ => true) (fun p => prd (p.1, p.2 + st)), List.filter_eq_self.mpr (fun _ _ => rfl)] at hall
    have e4 : ss.map (fun p => prd (p.1, p.2 + st)) = (mov st ss).map prd := by
      unfold mov
      rw [List.map_map]
      rfl
    rw [e4] at hall
    refine ⟨D, rfl, .inl ⟨ys, hy, fun l hl => ⟨by decide, fun p hp => k _ _ (.tup upd_same (.cons (.int _) (.cons (.tup (xs := ys) ?_ (hall.mono ?_)) .nil))) ((e2.new hl).new hp)⟩⟩⟩
    · rw [updI hp (by rw [upd_same]; rfl), upd_same]
    · exact (((Px.Ext.rfl' H2).new hl).new hp).tu
end
end K03

namespace K03
open PySem PySem.Spec PyProof.Rows L2 Px
/-! ### steps, plainly -/
/-- a step: a resolve step, or another one -/
inductive St
  | res (line : List Int) (first : Nat) (ss : List (Int × Nat))
  | oth (kind : Str) (line : List Int) (d : PyData)
def zi (ss : List (Int × Nat)) : List (Int × Int) := ss.map fun p => (p.1, (p.2 : Int))
def enc : St → PyData
  | .res l f ss => .tuple [.str "resolve", .tuple (l.map .int), dtd (f : Int) (zi ss)]
  | .oth k l d => .tuple [.str k, .tuple (l.map .int), d]
/-- the numbers that a step names -/
def refs : St → List Nat
  | .res _ f ss => f :: ss.map (·.2)
  | .oth _ _ _ => []
/-- data of at most n levels -/
def Dep : Nat → PyData → Prop
  | _, .none => True
  | _, .int _ => True
  | _, .str z => SeqAt.shaped (.str z) = true
  | n + 1, .tuple ds => ds.length ≤ 100 ∧ ∀ d, d ∈ ds → Dep n d
  | _, _ => False
/-- a step as the law draws it, all its numbers below n -/
def Ok (n : Nat) : St → Prop
  | .res l f ss => l.length ≤ 4 ∧ f < n ∧ ss.length ≤ 4 ∧ ∀ p, p ∈ ss → p.2 < n
  | .oth k l d => l.length ≤ 4 ∧ k ≠ "resolve" ∧ SeqAt.shaped (.str k) = true ∧ Dep 3 d
def Wf (xs : List St) : Prop := xs.length ≤ 40 ∧ ∀ i x, xs[i]? = some x → Ok i x
theorem Ok.refs {n : Nat} {x : St} (h : Ok n x) : ∀ r, r ∈ refs x → r < n := by
  cases x with
  | res l f ss =>
    intro r hr
    rcases List.mem_cons.mp hr with e | hr
    · rw [e]
      exact h.2.1
    · obtain ⟨p, hp, rfl⟩ := List.mem_map.mp hr
      exact h.2.2.2 p hp
  | oth k l d => intro r hr; cases hr
theorem Ok.mono {n m : Nat} {x : St} (h : Ok n x) (q : n ≤ m) : Ok m x := by
  cases x with
  | res l f ss => exact ⟨h.1, by have := h.2.1; omega, h.2.2.1, fun p hp => by have := h.2.2.2 p hp; omega⟩
  | oth k l d => exact h
theorem Wf.take {xs : List St} (h : Wf xs) (n : Nat) : Wf (xs.take n) := ⟨by have := h.1; rw [List.length_take]; omega, fun i x hi => by
  rw [List.getElem?_take] at hi
  split at hi
  · exact h.2 i x hi
  · cases hi⟩
/-! ### what is wanted -/
def at_ (xs : List St) (i : Nat) : St := xs.getD i (.oth "" [] .none)
theorem at_some {xs : List St} {i : Nat} {x : St} (h : xs[i]? = some x) : at_ xs i = x := by
  unfold at_
  rw [List.getD_eq_getElem?_getD, h]
  rfl
theorem at_get {xs : List St} {i : Nat} (h : i < xs.length) : xs[i]? = some (at_ xs i) := by
  unfold at_
  rw [List.getD_eq_getElem?_getD, List.getElem?_eq_getElem h]
  rfl
/-- wanted behind t turns of the walk down -/
def wants (xs : List St) : Nat → List Int
  | 0 => [(xs.length : Int) - 1]
  | t + 1 => if (xs.length : Int) - 1 - (t : Int) ∈ wants xs t then wants xs t ++ (refs (at_ xs (xs.length - 1 - t))).map (fun r => ((r : Nat) : Int)) else wants xs t
/-- k is wanted at the end -/
def W (xs : List St) (k : Nat) : Bool := decide ((k : Int) ∈ wants xs xs.length)
theorem wants_up {xs : List St} {t u : Nat} (h : t ≤ u) {z : Int} (hz : z ∈ wants xs t) : z ∈ wants xs u := by
  induction h with
  | refl => exact hz
  | step _ ih =>
    unfold wants
    split
    · exact List.mem_append_left _ ih
    · exact ih
/-- what is wanted late is small -/
theorem wants_new {xs : List St} (w : Wf xs) {t u : Nat} (h : t ≤ u) (hu : u ≤ xs.length) {z : Int} (hz : z ∈ wants xs u) : z ∈ wants xs t ∨ z < (xs.length : Int) - 1 - (t : Int) := by
  induction h with
  | refl => exact .inl hz
  | @step m hm ih =>
    unfold wants at hz
    split at hz
    · rcases List.mem_append.mp hz with hz | hz
      · exact ih (by omega) hz
      · obtain ⟨r, hr, rfl⟩ := List.mem_map.mp hz
        have hm' : t ≤ m := hm
        have := (w.2 _ _ (at_get (xs := xs) (i := xs.length - 1 - m) (by omega))).refs r hr
        right
        omega
    · exact ih (by omega) hz
theorem W_at {xs : List St} (w : Wf xs) {k : Nat} (hk : k < xs.length) : W xs k = decide ((k : Int) ∈ wants xs (xs.length - 1 - k)) := by
  unfold W
  refine decide_eq_decide.mpr ⟨fun h => ?_, fun h => wants_up (by omega) h⟩
  rcases wants_new w (t := xs.length - 1 - k) (by omega) (Nat.le_refl _) h with h | h
  · exact h
  · omega
theorem W_last {xs : List St} (h : 0 < xs.length) : W xs (xs.length - 1) = true := by
  refine decide_eq_true (wants_up (Nat.zero_le _) ?_)
  have e : (((xs.length - 1 : Nat)) : Int) = (xs.length : Int) - 1 := by omega
  rw [e]
  exact List.mem_cons_self
theorem W_refs {xs : List St} (w : Wf xs) {k r : Nat} (hk : k < xs.length) (h : W xs k = true) (hr : r ∈ refs (at_ xs k)) : W xs r = true := by
  rw [W_at w hk] at h
  have h := of_decide_eq_true h
  refine decide_eq_true (wants_up (t := xs.length - 1 - k + 1) (by omega) ?_)
  unfold wants
  have e1 : (xs.length : Int) - 1 - ((xs.length - 1 - k : Nat) : Int) = (k : Int) := by omega
  have e2 : xs.length - 1 - (xs.length - 1 - k) = k := by omega
  rw [e1, e2, if_pos h]
  exact List.mem_append_right _ (List.mem_map.mpr ⟨r, hr, rfl⟩)
theorem wants_of {xs : List St} {t : Nat} (ht : t ≤ xs.length) {z : Int} (hz : z ∈ wants xs t) : z = (xs.length : Int) - 1 ∨ ∃ k r, k < xs.length ∧ W xs k = true ∧ r ∈ refs (at_ xs k) ∧ z = (r : Int) := by
  induction t with
  | zero => exact .inl (List.mem_singleton.mp hz)
  | succ t ih =>
    unfold wants at hz
    split at hz
    · rename_i q
      rcases List.mem_append.mp hz with hz | hz
      · exact ih (by omega) hz
      · obtain ⟨r, hr, rfl⟩ := List.mem_map.mp hz
        refine .inr ⟨xs.length - 1 - t, r, by omega, decide_eq_true (wants_up (t := t) (by omega) ?_), hr, rfl⟩
        have e : ((xs.length - 1 - t : Nat) : Int) = (xs.length : Int) - 1 - (t : Int) := by omega
        rw [e]
        exact q
    · exact ih (by omega) hz
theorem W_of {xs : List St} {r : Nat} (h : W xs r = true) : (r : Int) = (xs.length : Int) - 1 ∨ ∃ k, k < xs.length ∧ W xs k = true ∧ r ∈ refs (at_ xs k) := by
  rcases wants_of (Nat.le_refl _) (of_decide_eq_true h) with h | ⟨k, r', a, b, c, d⟩
  · exact .inl h
  · have : r = r' := by omega
    subst this
    exact .inr ⟨k, a, b, c⟩
/-! ### the trimmed list -/
/-- how many below k are wanted -/
def rank (xs : List St) (k : Nat) : Nat := ((List.range k).filter (W xs)).length
theorem rank_yes {xs : List St} {k : Nat} (h : W xs k = true) : rank xs (k + 1) = rank xs k + 1 := by
  unfold rank
  rw [List.range_succ, List.filter_append, List.filter_cons, if_pos h, List.length_append]
  rfl
theorem rank_no {xs : List St} {k : Nat} (h : W xs k = false) : rank xs (k + 1) = rank xs k := by
  unfold rank
  rw [List.range_succ, List.filter_append, List.filter_cons, if_neg (by rw [h]; decide), List.length_append]
  rfl
theorem rank_le {xs : List St} {j k : Nat} (h : j ≤ k) : rank xs j ≤ rank xs k := by
  induction h with
  | refl => exact Nat.le_refl _
  | @step m _ ih =>
    cases q : W xs m with
    | true => rw [rank_yes q]; omega
    | false => rw [rank_no q]; exact ih
theorem rank_lt {xs : List St} {j k : Nat} (h : j < k) (q : W xs j = true) : rank xs j < rank xs k := by
  have := rank_le (xs := xs) (show j + 1 ≤ k from h)
  rw [rank_yes q] at this
  omega
theorem rank_self (xs : List St) (k : Nat) : rank xs k ≤ k := by
  unfold rank
  have := List.length_filter_le (W xs) (List.range k)
  rw [List.length_range] at this
  exact this
def kept (xs : List St) : List Nat := (List.range xs.length).filter (W xs)
theorem kept_len (xs : List St) : (kept xs).length = rank xs xs.length := rfl
theorem kept_mem {xs : List St} {k : Nat} : k ∈ kept xs ↔ k < xs.length ∧ W xs k = true := by
  unfold kept
  rw [List.mem_filter, List.mem_range]
/-- the wanted one k is at its rank -/
theorem filt_at (p : Nat → Bool) {n k : Nat} (h : k < n) (q : p k = true) : ((List.range n).filter p)[((List.range k).filter p).length]? = some k := by
  induction n with
  | zero => omega
  | succ n ih =>
    rw [List.range_succ, List.filter_append]
    by_cases e : k = n
    · subst e
      rw [List.filter_cons, if_pos q, List.getElem?_append_right (Nat.le_refl _), Nat.sub_self]
      rfl
    · have := ih (by omega)
      rw [List.getElem?_append_left (List.getElem?_eq_some_iff.mp this).1]
      exact this
theorem kept_at {xs : List St} {k : Nat} (h : k < xs.length) (q : W xs k = true) : (kept xs)[rank xs k]? = some k := filt_at _ h q
theorem kept_inv {xs : List St} {j k : Nat} (h : (kept xs)[j]? = some k) : k < xs.length ∧ W xs k = true ∧ rank xs k = j := by
  obtain ⟨a, b⟩ := kept_mem.mp (List.mem_of_getElem? h)
  refine ⟨a, b, ?_⟩
  have h2 := kept_at a b
  have nd : (kept xs).Nodup := List.nodup_range.sublist List.filter_sublist
  have l1 := (List.getElem?_eq_some_iff.mp h)
  have l2 := (List.getElem?_eq_some_iff.mp h2)
  obtain ⟨l1, e1⟩ := l1
  obtain ⟨l2, e2⟩ := l2
  exact (List.getElem_inj nd).mp (e2.trans e1.symm)
/-- a step with new numbers -/
def ren (f : Nat → Nat) : St → St
  | .res l a ss => .res l (f a) (ss.map fun p => (p.1, f p.2))
  | .oth k l d => .oth k l d
theorem refs_ren (f : Nat → Nat) (x : St) : refs (ren f x) = (refs x).map f := by
  cases x with
  | res l a ss =>
    show f a :: (ss.map fun p => (p.1, f p.2)).map (·.2) = f a :: (ss.map (·.2)).map f
    rw [List.map_map, List.map_map]
    rfl
  | oth k l d => rfl
theorem ren_id {f : Nat → Nat} {x : St} (h : ∀ r, r ∈ refs x → f r = r) : ren f x = x := by
  cases x with
  | res l a ss =>
    have h1 : f a = a := h a List.mem_cons_self
    have h2 : (ss.map fun p => (p.1, f p.2)) = ss := by
      rw [List.map_congr_left (g := id), List.map_id]
      intro p hp
      show (p.1, f p.2) = p
      rw [h p.2 (List.mem_cons_of_mem _ (List.mem_map.mpr ⟨p, hp, rfl⟩))]
    show St.res l (f a) _ = _
    rw [h1, h2]
  | oth k l d => rfl
def due (xs : List St) : List St := (kept xs).map fun k => ren (rank xs) (at_ xs k)
theorem due_len (xs : List St) : (due xs).length = rank xs xs.length := by
  unfold due
  rw [List.length_map]
  rfl
theorem due_at {xs : List St} {k : Nat} (h : k < xs.length) (q : W xs k = true) : (due xs)[rank xs k]? = some (ren (rank xs) (at_ xs k)) := by
  unfold due
  rw [List.getElem?_map, kept_at h q]
  rfl
theorem due_inv {xs : List St} {j : Nat} {y : St} (h : (due xs)[j]? = some y) : ∃ k, k < xs.length ∧ W xs k = true ∧ rank xs k = j ∧ y = ren (rank xs) (at_ xs k) := by
  unfold due at h
  rw [List.getElem?_map] at h
  cases e : (kept xs)[j]? with
  | none => rw [e] at h; cases h
  | some k =>
    rw [e] at h
    obtain ⟨a, b, c⟩ := kept_inv e
    exact ⟨k, a, b, c, (Option.some.inj h).symm⟩
theorem due_wf {xs : List St} (w : Wf xs) : Wf (due xs) := by
  refine ⟨by rw [due_len]; have := rank_self xs xs.length; have := w.1; omega, fun j y hy => ?_⟩
  obtain ⟨k, hk, hW, rfl, rfl⟩ := due_inv hy
  have ok := w.2 _ _ (at_get hk)
  have cl := fun r hr => W_refs (r := r) w hk hW hr
  have lt := ok.refs
  cases e : at_ xs k with
  | res l f ss =>
    rw [e] at ok cl lt
    refine ⟨ok.1, rank_lt (lt f List.mem_cons_self) (cl f List.mem_cons_self), by rw [List.length_map]; exact ok.2.2.1, fun p hp => ?_⟩
    obtain ⟨p', hp', rfl⟩ := List.mem_map.mp hp
    have hm : p'.2 ∈ refs (.res l f ss) := List.mem_cons_of_mem _ (List.mem_map.mpr ⟨p', hp', rfl⟩)
    exact rank_lt (lt _ hm) (cl _ hm)
  | oth k l d =>
    rw [e] at ok
    exact ok
theorem due_all {xs : List St} (w : Wf xs) : ∀ t j, j < (due xs).length → (due xs).length - j ≤ t → W (due xs) j = true
  | 0, j, h, q => by omega
  | t + 1, j, h, q => by
    obtain ⟨y, hy⟩ : ∃ y, (due xs)[j]? = some y := ⟨_, List.getElem?_eq_getElem h⟩
    obtain ⟨k, hk, hW, rfl, rfl⟩ := due_inv hy
    rcases W_of hW with e | ⟨k', h1, h2, h3⟩
    · have ek : xs.length = k + 1 := by omega
      have el : (due xs).length = rank xs k + 1 := by rw [due_len, ek, rank_yes hW]
      have := W_last (xs := due xs) (by omega)
      rw [el] at this
      exact this
    · have lt := (w.2 _ _ (at_get h1)).refs k h3
      have hr := rank_lt lt hW
      have hd := due_at h1 h2
      have hl := (List.getElem?_eq_some_iff.mp hd).1
      have := due_all w t (rank xs k') hl (by omega)
      refine W_refs (due_wf w) hl this ?_
      rw [at_some hd, refs_ren]
      exact List.mem_map.mpr ⟨k, h3, rfl⟩
theorem rank_id {xs : List St} {k : Nat} (h : ∀ j, j < k → W xs j = true) : rank xs k = k := by
  unfold rank
  rw [List.filter_eq_self.mpr (fun j hj => h j (List.mem_range.mp hj)), List.length_range]
theorem due_due {xs : List St} (w : Wf xs) : due (due xs) = due xs := by
  have hW : ∀ j, j < (due xs).length → W (due xs) j = true := fun j hj => due_all w _ j hj (Nat.le_refl _)
  have hr : ∀ k, k ≤ (due xs).length → rank (due xs) k = k := fun k hk => rank_id fun j hj => hW j (by omega)
  refine List.ext_getElem? fun j => ?_
  by_cases hj : j < (due xs).length
  · have h1 := due_at hj (hW j hj)
    rw [hr j (by omega)] at h1
    rw [h1, at_get hj]
    refine congrArg some (ren_id fun r hr' => hr r ?_)
    have := ((due_wf w).2 _ _ (at_get hj)).refs r hr'
    omega
  · have : (due (due xs)).length ≤ j := by rw [due_len, hr _ (Nat.le_refl _)]; omega
    rw [List.getElem?_eq_none this, List.getElem?_eq_none (by omega)]
/-! ### moved steps -/
def shift (n : Nat) (x : St) : St := ren (fun r => r + n) x
theorem shift_ok {n i : Nat} {x : St} (h : Ok i x) : Ok (i + n) (shift n x) := by
  cases x with
  | res l f ss =>
    refine ⟨h.1, by have := h.2.1; show f + n < i + n; omega, by rw [List.length_map]; exact h.2.2.1, fun p hp => ?_⟩
    obtain ⟨p', hp', rfl⟩ := List.mem_map.mp hp
    have := h.2.2.2 p' hp'
    show p'.2 + n < i + n
    omega
  | oth k l d => exact h
theorem app_wf {xs ys : List St} (h1 : Wf xs) (h2 : Wf ys) (hl : xs.length + ys.length ≤ 40) : Wf (xs ++ ys.map (shift xs.length)) := by
  refine ⟨by rw [List.length_append, List.length_map]; exact hl, fun i x hi => ?_⟩
  by_cases q : i < xs.length
  · rw [List.getElem?_append_left q] at hi
    exact h1.2 i x hi
  · rw [List.getElem?_append_right (by omega), List.getElem?_map] at hi
    cases e : ys[i - xs.length]? with
    | none => rw [e] at hi; cases hi
    | some y =>
      rw [e] at hi
      cases hi
      have := shift_ok (n := xs.length) (h2.2 _ _ e)
      have e2 : i - xs.length + xs.length = i := by omega
      rw [e2] at this
      exact this
theorem Dep.mono : ∀ {n m : Nat} {d : PyData}, Dep n d → n ≤ m → Dep m d := by
  intro n
  induction n with
  | zero =>
    intro m d h q
    cases d <;> first | (cases m <;> exact h) | exact h.elim
  | succ n ih =>
    intro m d h q
    cases m with
    | zero => omega
    | succ m =>
      cases d <;> first | exact h | skip
      exact ⟨h.1, fun d hd => ih (h.2 d hd) (by omega)⟩
theorem dep_ints {l : List Int} (h : l.length ≤ 100) (n : Nat) : Dep (n + 1) (.tuple (l.map .int)) := ⟨by rw [List.length_map]; exact h, fun d hd => by
  obtain ⟨i, _, rfl⟩ := List.mem_map.mp hd
  cases n <;> trivial⟩
theorem dep_dtd {f : Int} {ss : List (Int × Int)} (h : ss.length ≤ 100) : Dep 3 (dtd f ss) := by
  refine ⟨by show 2 ≤ 100; decide, fun d hd => ?_⟩
  rcases List.mem_cons.mp hd with e | hd
  · rw [e]; trivial
  · rw [List.mem_singleton.mp hd]
    refine ⟨by rw [List.length_map]; exact h, fun d hd => ?_⟩
    obtain ⟨p, _, rfl⟩ := List.mem_map.mp hd
    refine ⟨by show 2 ≤ 100; decide, fun d hd => ?_⟩
    rcases List.mem_cons.mp hd with e | hd
    · rw [e]; trivial
    · rw [List.mem_singleton.mp hd]; trivial
theorem dep_enc {n : Nat} {x : St} (h : Ok n x) : Dep 4 (enc x) := by
  cases x with
  | res l f ss =>
    refine ⟨by show 3 ≤ 100; decide, fun d hd => ?_⟩
    rcases List.mem_cons.mp hd with e | hd
    · rw [e]; show SeqAt.shaped _ = true; decide +kernel
    rcases List.mem_cons.mp hd with e | hd
    · rw [e]; exact dep_ints (by have := h.1; omega) 2
    · rw [List.mem_singleton.mp hd]
      exact dep_dtd (by unfold zi; rw [List.length_map]; have := h.2.2.1; omega)
  | oth k l d =>
    refine ⟨by show 3 ≤ 100; decide, fun d hd => ?_⟩
    rcases List.mem_cons.mp hd with e | hd
    · rw [e]; exact h.2.2.1
    rcases List.mem_cons.mp hd with e | hd
    · rw [e]; exact dep_ints (by have := h.1; omega) 2
    · rw [List.mem_singleton.mp hd]
      exact h.2.2.2
theorem dep_all {xs : List St} (w : Wf xs) : Dep 5 (.tuple (xs.map enc)) := ⟨by have := w.1; rw [List.length_map]; omega, fun d hd => by
  obtain ⟨x, hx, rfl⟩ := List.mem_map.mp hd
  obtain ⟨i, hi⟩ := List.getElem?_of_mem hx
  exact dep_enc (w.2 i x hi)⟩
end K03

namespace K03
open PySem PySem.Spec PyProof.Rows L2 Px
/-! ### for k in reversed(range(n)) -/
theorem for_rev {σ : L2.St} {H : Hp} {D : Ends} {te : TE} {tb : TS} {j : Nat} (Pv : Nat → L2.St → Hp → Prop) (n : Nat) (e : ∀ R : VK, R (.int (n : Int)) H → te σ H R) (hn : n < 1000000) (h0 : Pv 0 σ H)
    (hs : ∀ (i : Nat) σ' H', i < n → Pv i σ' H' → tb { D with nx := Pv (i + 1), ct := Pv (i + 1), bk := D.nx } (σ'.set j (some (.int ((n - 1 - i : Nat) : Int)))) H') (hd : ∀ σ' H', Pv n σ' H' → D.nx σ' H') : tFor (iRevR (tRg1 te)) (gName j) tb D σ H := by
  refine e _ ?_
  have en : ((n : Int) - 0).toNat = n := by omega
  refine ⟨n, rfl, by omega, by omega, by omega, by omega, for_rangeC Pv h0 (fun i σ' H' hi p => ?_) (fun σ' H' p => hd σ' H' (by rw [en] at p; exact p))⟩
  rw [en] at hi
  have q := hs i σ' H' hi p
  have e0 : (0 : Int) + ((((n : Int) - 0).toNat : Nat) : Int) - 1 + (i : Int) * (-1) = ((n - 1 - i : Nat) : Int) := by omega
  show tb _ (σ'.set j (some (.int ((0 : Int) + ((((n : Int) - 0).toNat : Nat) : Int) - 1 + (i : Int) * (-1))))) H'
  rw [e0]
  exact q
/-! ### steps in the heap -/
def kd : St → Str
  | .res _ _ _ => "resolve"
  | .oth k _ _ => k
def ln : St → List Int
  | .res l _ _ => l
  | .oth _ l _ => l
def det : St → PyData
  | .res _ f ss => dtd (f : Int) (zi ss)
  | .oth _ _ d => d
theorem enc_eq (x : St) : enc x = .tuple [.str (kd x), .tuple ((ln x).map .int), det x] := by cases x <;> rfl
theorem enc_inv {H : Hp} {v : V} {x : St} (h : Dt H v (enc x)) : ∃ a c e, v = .ref a ∧ H a = some (.tup [.str (kd x), .ref c, e]) ∧ H c = some (.tup ((ln x).map V.int)) ∧ Dt H e (det x) := by
  rw [enc_eq] at h
  cases h with
  | tup h a =>
    cases a with
    | cons x1 a =>
      cases a with
      | cons x2 a =>
        cases a with
        | cons x3 a =>
          cases a
          cases x1
          cases x2 with
          | tup h2 a2 =>
            rw [a2.of_ints] at h2
            exact ⟨_, _, _, rfl, h, h2, x3⟩
theorem enc_mk {H : Hp} {a c : Addr} {e : V} {x : St} (h1 : H a = some (.tup [.str (kd x), .ref c, e])) (h2 : H c = some (.tup ((ln x).map V.int))) (h3 : Dt H e (det x)) : Dt H (.ref a) (enc x) := by
  rw [enc_eq]
  exact .tup h1 (.cons (.str _) (.cons (.tup h2 (DtAll.ints _)) (.cons h3 .nil)))
section
variable {P : Program} {w : World} {K : PySem.W.Frag} {mg : Str → Option Value} {base : Heap} {C : Addr}
/-! ### alike -/
def spWhole (vs : List V) (H : Hp) (Q : VK) (_ : XK) : Prop := ∃ i, vs = [.int i] ∧ Q (.bl true) H
theorem ok_whole (B : Bn mg) (F : FunAt K mg "_law_whole" s_law_whole) : Def P w K mg base CX0 1 "_law_whole" ["value"] spWhole := by
  refine F.ok sc_law_whole (fun _ _ _ _ _ _ us hl => match us, hl with | [_], _ => rfl) (fun vs H Q E h => by obtain ⟨_, rfl, _⟩ := h; rfl) (fun f cdv A outer s H vs Q E hr h => ?_)
  obtain ⟨i, rfl, k⟩ := h
  refine ⟨_, pss_one (ps_ret (pe_and (pe_callB isi_H rfl B.isinstance (by decide +kernel) (pa_cons (pv 0) (pa_cons (pe_bltn (v := .ty "int") rfl B.int_ (by decide +kernel) rfl) pa_nil))) (pe_one (pe_not (pe_callB isi_H rfl B.isinstance (by decide +kernel) (pa_cons (pv 0) (pa_cons (pe_bltn (v := .ty "bool") rfl B.bool_ (by decide +kernel) rfl) pa_nil))))))), ?_⟩
  show tRet _ _ [some (.int i)] H
  simp only [decide_true, decide_false, List.map_cons, List.map_nil, Option.map_none, Option.map_some, Option.getD_none, Option.getD_some, Px.dg2, Px.dg1, Px.dg, Px.din, Px.dnotin, Px.dnew, Px.dput, Px.isD_is, Px.dget_i, Px.dget_s, Px.dput_i, Px.dput_s, Px.dOf_d, Px.rtup, Px.rlist, Px.rsl, Px.rsort, Px.rcat, Px.rapp, Px.rrev, Px.sl_ap, Px.nop, Px.part, Px.yes, Px.tyl, Px.isL_l, Px.isT_t, Px.isL_t, Px.isT_l, Px.isD_d, Px.isT_d, Px.inV_ints, Px.flat_ints, Px.flatV_i, Px.wipe_cons, Px.wipe_nil, Px.gtup, Px.gcons, Px.gnil, gt_iff_lt, ge_iff_le, Px.we, Px.wonly, Px.was, Px.cxK, not_true_eq_false, and_self, true_implies, false_implies, implies_true, Px.e0, and_assoc, imp_false, not_false_eq_true, ne_eq, Px.rgcd, Px.rixl, Px.rixt, Px.v0, Px.v1, Px.v2, Px.v3, Px.v4, Px.v5, Px.v6, Px.v7, Px.v8, Px.v9, Px.v10, Px.v11, Px.v12, Px.v13, Px.v14, Px.v15, Px.v16, Px.v17, Px.v18, Px.v19, Px.v20, Px.v21, Px.v22, Px.v23, Px.c0, Px.asg, Px.gnm, Px.ret, Px.retN, Px.drop, Px.nxt, Px.brk, Px.cnt, Px.ifs, Px.op, Px.un, Px.tst, Px.tbl, Px.tand, Px.tor, Px.tnot, Px.andv, Px.orv, Px.notv, Px.tif, Px.tup, Px.lst, Px.nil, Px.cons, Px.cal, Px.calS, Px.cb, Px.par, Px.gsub, Px.bits, Px.bm, Px.bm0, Px.ri, Px.ri0, Px.ru, Px.req, Px.rne, Px.rix, Px.rlen, Px.rin, Px.rsetl, Px.risi, Px.tyH_n, Px.tyH_b, Px.tyH_i, Px.tyH_s, Px.tyH_r, Px.seqH_t, Px.seqH_l, Px.seqH_fl, Px.sc_ii, Px.sc_bb, Px.sc_ss, Px.atI0, Px.atI1, Px.atI2, Px.atI3, Px.atI4, Px.atI5, Px.atI6, Px.atI7, Px.kb_NoneType_int, Px.kb_NoneType_bool, Px.kb_NoneType_str, Px.kb_NoneType_list, Px.kb_NoneType_tuple, Px.kb_NoneType_dict, Px.kb_bool_int, Px.kb_bool_bool, Px.kb_bool_str, Px.kb_bool_list, Px.kb_bool_tuple, Px.kb_bool_dict, Px.kb_int_int, Px.kb_int_bool, Px.kb_int_str, Px.kb_int_list, Px.kb_int_tuple, Px.kb_int_dict, Px.kb_str_int, Px.kb_str_bool, Px.kb_str_str, Px.kb_str_list, Px.kb_str_tuple, Px.kb_str_dict, Px.kb_list_int, Px.kb_list_bool, Px.kb_list_str, Px.kb_list_list, Px.kb_list_tuple, Px.kb_list_dict, Px.kb_tuple_int, Px.kb_tuple_bool, Px.kb_tuple_str, Px.kb_tuple_list, Px.kb_tuple_tuple, Px.kb_tuple_dict, Px.kb_dict_int, Px.kb_dict_bool, Px.kb_dict_str, Px.kb_dict_list, Px.kb_dict_tuple, Px.kb_dict_dict, L2.upd_same, Px.updI, L2.ixN, List.set_cons_zero, List.set_cons_succ, List.length_cons, List.length_nil, Nat.reduceAdd, Nat.zero_add, L2.HO.lst.injEq, L2.HO.tup.injEq, L2.upd_upd, L2.V.int.injEq, L2.V.ref.injEq, L2.V.bl.injEq, L2.V.str.injEq, L2.V.ty.injEq, List.cons.injEq, and_true, true_and, and_false, false_and, or_false, false_or, exists_eq_left', exists_eq_left, exists_and_left, exists_const, exists_false, Option.some.injEq, decide_eq_true_eq, List.append_nil, List.cons_append, List.nil_append, Option.isSome_some, Bool.not_true, Bool.not_false, Bool.not_eq_true', Bool.not_eq_true, Bool.false_eq_true, decide_eq_false_iff_not, if_true, if_false, ite_true, ite_false, Int.reduceLE, Int.reduceLT, Int.reduceToNat, Int.cast_ofNat_Int, Bool.true_eq_false, eq_self, ↓reduceIte, reduceCtorEq, Px.aug, Px.ipi, Px.tri, Px.rcatth, Px.flh, Px.sfl, Px.met, Px.mak, *]
def spAl (n : Nat) (vs : List V) (H : Hp) (Q : VK) (_ : XK) : Prop := ∃ (x y : V) (d : PyData), vs = [x, y] ∧ Dep n d ∧ Dt H x d ∧ Dt H y d ∧ ∀ H', Px.Ext H H' → Q (.bl true) H'
def spAl' (n : Nat) (vs : List V) (H : Hp) (Q : VK) (E : XK) : Prop := ∃ m, n = m + 1 ∧ spAl m vs H Q E
theorem al_body (B : Bn mg) (F : FunAt K mg "_law_alike" s_law_alike) (n : Nat) (D_law_whole : Def P w K mg base CX0 1 "_law_whole" ["value"] spWhole) (D_law_alike : Def P w K mg base CX0 (n + 1) "_law_alike" ["told", "due"] (spAl' n)) :
    Def P w K mg base CX0 (n + 2) "_law_alike" ["told", "due"] (spAl n) := by
  refine F.ok sc_law_alike (fun _ _ _ _ _ _ us hl => match us, hl with | [_, _], _ => rfl) (fun vs H Q E h => by obtain ⟨_, _, _, rfl, _⟩ := h; rfl) (fun f cdv A outer s H vs Q E hr h => ?_)
  obtain ⟨x, y, d, rfl, hd, hx, hy, k⟩ := h
  have k0 := k H (Px.Ext.rfl' H)
  refine ⟨_, pss_cons (ps_if (pt_val (pe_callB isi_H rfl B.isinstance (by decide +kernel) (pa_cons (pv 1) (pa_cons (pe_bltn (v := .ty "tuple") rfl B.tuple_ (by decide +kernel) rfl) pa_nil)))) (pss_cons (ps_if (PW.pt (pw_or (pt_not (pt_val (pe_callB isi_H rfl B.isinstance (by decide +kernel) (pa_cons (pv 0) (pa_cons (pe_bltn (v := .ty "tuple") rfl B.tuple_ (by decide +kernel) rfl) pa_nil))))) (pw_or1 (pt_cmpR op_ne (pe_callB len_H rfl B.len (by decide +kernel) (pa_cons (pv 0) pa_nil)) (pe_callB len_H rfl B.len (by decide +kernel) (pa_cons (pv 1) pa_nil)) (nomark _))))) (pss_one (ps_ret pe_bl)) (pss_nil)) (
  pss_one (ps_ret (pe_cmpR op_eq (pe_callB len_H rfl B.len (by decide +kernel) (pa_cons (pe_lc (own := [("k", 2)]) (g := gName 2) rfl sc_law_alike.nd (pi_range1 rfl B.range (pa_cons (pe_callB len_H rfl B.len (by decide +kernel) (pa_cons (pv 1) pa_nil)) pa_nil)) (blkOk_by (own := [("k", 2)]) (N := ["told", "due", "k"]) (sc := defScope s_law_alike) (by decide +kernel)) (fun _ _ _ _ _ => (pg_name (i := 2) sc_law_alike.nd rfl (Or.inl rfl))) (fun _ _ _ _ _ => (pts_one (pt_not (pt_val (pe_fn D_law_alike hr pass0 (pa_cons (pe_ix ix_H (pv 0) (pv 2) (fun _ _ => rfl)) (pa_cons (pe_ix ix_H (pv 1) (pv 2) (fun _ _ => rfl)) pa_nil))))))) (fun _ _ _ _ _ => (pv 2))) pa_nil)) pe_int (nomark _))))) (pss_nil)) (
  pss_cons (ps_if (pt_val (pe_callB isi_H rfl B.isinstance (by decide +kernel) (pa_cons (pv 1) (pa_cons (pe_bltn (v := .ty "str") rfl B.str_ (by decide +kernel) rfl) pa_nil)))) (pss_one (ps_ret (pe_and (pe_callB isi_H rfl B.isinstance (by decide +kernel) (pa_cons (pv 0) (pa_cons (pe_bltn (v := .ty "str") rfl B.str_ (by decide +kernel) rfl) pa_nil))) (pe_one (pe_cmpR (op_eqD hr.units) (pv 0) (pv 1) (nomark _)))))) (pss_nil)) (
  pss_cons (ps_if (pt_cmpR op_isN (pv 1) pe_non (nomark _)) (pss_one (ps_ret (pe_cmpR op_isN (pv 0) pe_non (nomark _)))) (pss_nil)) (
  pss_one (ps_ret (pe_and (pe_fn D_law_whole (hr.mono (by omega)) pass0 (pa_cons (pv 0) pa_nil)) (pe_one (pe_cmpR (op_eqD hr.units) (pv 0) (pv 1) (nomark _)))))))), ?_⟩
  show tSeq _ _ _ [some x, some y, none] H
  cases hx with
  | non =>
    cases hy
    refine go_seq ?_
    simp only [decide_true, decide_false, List.map_cons, List.map_nil, Option.map_none, Option.map_some, Option.getD_none, Option.getD_some, Px.dg2, Px.dg1, Px.dg, Px.din, Px.dnotin, Px.dnew, Px.dput, Px.isD_is, Px.dget_i, Px.dget_s, Px.dput_i, Px.dput_s, Px.dOf_d, Px.rtup, Px.rlist, Px.rsl, Px.rsort, Px.rcat, Px.rapp, Px.rrev, Px.sl_ap, Px.nop, Px.part, Px.yes, Px.tyl, Px.isL_l, Px.isT_t, Px.isL_t, Px.isT_l, Px.isD_d, Px.isT_d, Px.inV_ints, Px.flat_ints, Px.flatV_i, Px.wipe_cons, Px.wipe_nil, Px.gtup, Px.gcons, Px.gnil, gt_iff_lt, ge_iff_le, Px.we, Px.wonly, Px.was, Px.cxK, not_true_eq_false, and_self, true_implies, false_implies, implies_true, Px.e0, and_assoc, imp_false, not_false_eq_true, ne_eq, Px.rgcd, Px.rixl, Px.rixt, Px.v0, Px.v1, Px.v2, Px.v3, Px.v4, Px.v5, Px.v6, Px.v7, Px.v8, Px.v9, Px.v10, Px.v11, Px.v12, Px.v13, Px.v14, Px.v15, Px.v16, Px.v17, Px.v18, Px.v19, Px.v20, Px.v21, Px.v22, Px.v23, Px.c0, Px.asg, Px.gnm, Px.ret, Px.retN, Px.drop, Px.nxt, Px.brk, Px.cnt, Px.ifs, Px.op, Px.un, Px.tst, Px.tbl, Px.tand, Px.tor, Px.tnot, Px.andv, Px.orv, Px.notv, Px.tif, Px.tup, Px.lst, Px.nil, Px.cons, Px.cal, Px.calS, Px.cb, Px.par, Px.gsub, Px.bits, Px.bm, Px.bm0, Px.ri, Px.ri0, Px.ru, Px.req, Px.rne, Px.rix, Px.rlen, Px.rin, Px.rsetl, Px.risi, Px.tyH_n, Px.tyH_b, Px.tyH_i, Px.tyH_s, Px.tyH_r, Px.seqH_t, Px.seqH_l, Px.seqH_fl, Px.sc_ii, Px.sc_bb, Px.sc_ss, Px.atI0, Px.atI1, Px.atI2, Px.atI3, Px.atI4, Px.atI5, Px.atI6, Px.atI7, Px.kb_NoneType_int, Px.kb_NoneType_bool, Px.kb_NoneType_str, Px.kb_NoneType_list, Px.kb_NoneType_tuple, Px.kb_NoneType_dict, Px.kb_bool_int, Px.kb_bool_bool, Px.kb_bool_str, Px.kb_bool_list, Px.kb_bool_tuple, Px.kb_bool_dict, Px.kb_int_int, Px.kb_int_bool, Px.kb_int_str, Px.kb_int_list, Px.kb_int_tuple, Px.kb_int_dict, Px.kb_str_int, Px.kb_str_bool, Px.kb_str_str, Px.kb_str_list, Px.kb_str_tuple, Px.kb_str_dict, Px.kb_list_int, Px.kb_list_bool, Px.kb_list_str, Px.kb_list_list, Px.kb_list_tuple, Px.kb_list_dict, Px.kb_tuple_int, Px.kb_tuple_bool, Px.kb_tuple_str, Px.kb_tuple_list, Px.kb_tuple_tuple, Px.kb_tuple_dict, Px.kb_dict_int, Px.kb_dict_bool, Px.kb_dict_str, Px.kb_dict_list, Px.kb_dict_tuple, Px.kb_dict_dict, L2.upd_same, Px.updI, L2.ixN, List.set_cons_zero, List.set_cons_succ, List.length_cons, List.length_nil, Nat.reduceAdd, Nat.zero_add, L2.HO.lst.injEq, L2.HO.tup.injEq, L2.upd_upd, L2.V.int.injEq, L2.V.ref.injEq, L2.V.bl.injEq, L2.V.str.injEq, L2.V.ty.injEq, List.cons.injEq, and_true, true_and, and_false, false_and, or_false, false_or, exists_eq_left', exists_eq_left, exists_and_left, exists_const, exists_false, Option.some.injEq, decide_eq_true_eq, List.append_nil, List.cons_append, List.nil_append, Option.isSome_some, Bool.not_true, Bool.not_false, Bool.not_eq_true', Bool.not_eq_true, Bool.false_eq_true, decide_eq_false_iff_not, if_true, if_false, ite_true, ite_false, Int.reduceLE, Int.reduceLT, Int.reduceToNat, Int.cast_ofNat_Int, Bool.true_eq_false, eq_self, ↓reduceIte, reduceCtorEq, Px.aug, Px.ipi, Px.tri, Px.rcatth, Px.flh, Px.sfl, Px.met, Px.mak, *, Px.seq]
  | bl b => cases n <;> exact hd.elim
  | int i =>
    cases hy
    refine go_seq ?_
    simp only [decide_true, decide_false, List.map_cons, List.map_nil, Option.map_none, Option.map_some, Option.getD_none, Option.getD_some, Px.dg2, Px.dg1, Px.dg, Px.din, Px.dnotin, Px.dnew, Px.dput, Px.isD_is, Px.dget_i, Px.dget_s, Px.dput_i, Px.dput_s, Px.dOf_d, Px.rtup, Px.rlist, Px.rsl, Px.rsort, Px.rcat, Px.rapp, Px.rrev, Px.sl_ap, Px.nop, Px.part, Px.yes, Px.tyl, Px.isL_l, Px.isT_t, Px.isL_t, Px.isT_l, Px.isD_d, Px.isT_d, Px.inV_ints, Px.flat_ints, Px.flatV_i, Px.wipe_cons, Px.wipe_nil, Px.gtup, Px.gcons, Px.gnil, gt_iff_lt, ge_iff_le, Px.we, Px.wonly, Px.was, Px.cxK, not_true_eq_false, and_self, true_implies, false_implies, implies_true, Px.e0, and_assoc, imp_false, not_false_eq_true, ne_eq, Px.rgcd, Px.rixl, Px.rixt, Px.v0, Px.v1, Px.v2, Px.v3, Px.v4, Px.v5, Px.v6, Px.v7, Px.v8, Px.v9, Px.v10, Px.v11, Px.v12, Px.v13, Px.v14, Px.v15, Px.v16, Px.v17, Px.v18, Px.v19, Px.v20, Px.v21, Px.v22, Px.v23, Px.c0, Px.asg, Px.gnm, Px.ret, Px.retN, Px.drop, Px.nxt, Px.brk, Px.cnt, Px.ifs, Px.op, Px.un, Px.tst, Px.tbl, Px.tand, Px.tor, Px.tnot, Px.andv, Px.orv, Px.notv, Px.tif, Px.tup, Px.lst, Px.nil, Px.cons, Px.cal, Px.calS, Px.cb, Px.par, Px.gsub, Px.bits, Px.bm, Px.bm0, Px.ri, Px.ri0, Px.ru, Px.req, Px.rne, Px.rix, Px.rlen, Px.rin, Px.rsetl, Px.risi, Px.tyH_n, Px.tyH_b, Px.tyH_i, Px.tyH_s, Px.tyH_r, Px.seqH_t, Px.seqH_l, Px.seqH_fl, Px.sc_ii, Px.sc_bb, Px.sc_ss, Px.atI0, Px.atI1, Px.atI2, Px.atI3, Px.atI4, Px.atI5, Px.atI6, Px.atI7, Px.kb_NoneType_int, Px.kb_NoneType_bool, Px.kb_NoneType_str, Px.kb_NoneType_list, Px.kb_NoneType_tuple, Px.kb_NoneType_dict, Px.kb_bool_int, Px.kb_bool_bool, Px.kb_bool_str, Px.kb_bool_list, Px.kb_bool_tuple, Px.kb_bool_dict, Px.kb_int_int, Px.kb_int_bool, Px.kb_int_str, Px.kb_int_list, Px.kb_int_tuple, Px.kb_int_dict, Px.kb_str_int, Px.kb_str_bool, Px.kb_str_str, Px.kb_str_list, Px.kb_str_tuple, Px.kb_str_dict, Px.kb_list_int, Px.kb_list_bool, Px.kb_list_str, Px.kb_list_list, Px.kb_list_tuple, Px.kb_list_dict, Px.kb_tuple_int, Px.kb_tuple_bool, Px.kb_tuple_str, Px.kb_tuple_list, Px.kb_tuple_tuple, Px.kb_tuple_dict, Px.kb_dict_int, Px.kb_dict_bool, Px.kb_dict_str, Px.kb_dict_list, Px.kb_dict_tuple, Px.kb_dict_dict, L2.upd_same, Px.updI, L2.ixN, List.set_cons_zero, List.set_cons_succ, List.length_cons, List.length_nil, Nat.reduceAdd, Nat.zero_add, L2.HO.lst.injEq, L2.HO.tup.injEq, L2.upd_upd, L2.V.int.injEq, L2.V.ref.injEq, L2.V.bl.injEq, L2.V.str.injEq, L2.V.ty.injEq, List.cons.injEq, and_true, true_and, and_false, false_and, or_false, false_or, exists_eq_left', exists_eq_left, exists_and_left, exists_const, exists_false, Option.some.injEq, decide_eq_true_eq, List.append_nil, List.cons_append, List.nil_append, Option.isSome_some, Bool.not_true, Bool.not_false, Bool.not_eq_true', Bool.not_eq_true, Bool.false_eq_true, decide_eq_false_iff_not, if_true, if_false, ite_true, ite_false, Int.reduceLE, Int.reduceLT, Int.reduceToNat, Int.cast_ofNat_Int, Bool.true_eq_false, eq_self, ↓reduceIte, reduceCtorEq, Px.aug, Px.ipi, Px.tri, Px.rcatth, Px.flh, Px.sfl, Px.met, Px.mak, *, Px.seq, spWhole]
    exact eqd_ok (by constructor) (by constructor) rfl k0
  | str z =>
    cases hy
    refine go_seq ?_
    simp only [decide_true, decide_false, List.map_cons, List.map_nil, Option.map_none, Option.map_some, Option.getD_none, Option.getD_some, Px.dg2, Px.dg1, Px.dg, Px.din, Px.dnotin, Px.dnew, Px.dput, Px.isD_is, Px.dget_i, Px.dget_s, Px.dput_i, Px.dput_s, Px.dOf_d, Px.rtup, Px.rlist, Px.rsl, Px.rsort, Px.rcat, Px.rapp, Px.rrev, Px.sl_ap, Px.nop, Px.part, Px.yes, Px.tyl, Px.isL_l, Px.isT_t, Px.isL_t, Px.isT_l, Px.isD_d, Px.isT_d, Px.inV_ints, Px.flat_ints, Px.flatV_i, Px.wipe_cons, Px.wipe_nil, Px.gtup, Px.gcons, Px.gnil, gt_iff_lt, ge_iff_le, Px.we, Px.wonly, Px.was, Px.cxK, not_true_eq_false, and_self, true_implies, false_implies, implies_true, Px.e0, and_assoc, imp_false, not_false_eq_true, ne_eq, Px.rgcd, Px.rixl, Px.rixt, Px.v0, Px.v1, Px.v2, Px.v3, Px.v4, Px.v5, Px.v6, Px.v7, Px.v8, Px.v9, Px.v10, Px.v11, Px.v12, Px.v13, Px.v14, Px.v15, Px.v16, Px.v17, Px.v18, Px.v19, Px.v20, Px.v21, Px.v22, Px.v23, Px.c0, Px.asg, Px.gnm, Px.ret, Px.retN, Px.drop, Px.nxt, Px.brk, Px.cnt, Px.ifs, Px.op, Px.un, Px.tst, Px.tbl, Px.tand, Px.tor, Px.tnot, Px.andv, Px.orv, Px.notv, Px.tif, Px.tup, Px.lst, Px.nil, Px.cons, Px.cal, Px.calS, Px.cb, Px.par, Px.gsub, Px.bits, Px.bm, Px.bm0, Px.ri, Px.ri0, Px.ru, Px.req, Px.rne, Px.rix, Px.rlen, Px.rin, Px.rsetl, Px.risi, Px.tyH_n, Px.tyH_b, Px.tyH_i, Px.tyH_s, Px.tyH_r, Px.seqH_t, Px.seqH_l, Px.seqH_fl, Px.sc_ii, Px.sc_bb, Px.sc_ss, Px.atI0, Px.atI1, Px.atI2, Px.atI3, Px.atI4, Px.atI5, Px.atI6, Px.atI7, Px.kb_NoneType_int, Px.kb_NoneType_bool, Px.kb_NoneType_str, Px.kb_NoneType_list, Px.kb_NoneType_tuple, Px.kb_NoneType_dict, Px.kb_bool_int, Px.kb_bool_bool, Px.kb_bool_str, Px.kb_bool_list, Px.kb_bool_tuple, Px.kb_bool_dict, Px.kb_int_int, Px.kb_int_bool, Px.kb_int_str, Px.kb_int_list, Px.kb_int_tuple, Px.kb_int_dict, Px.kb_str_int, Px.kb_str_bool, Px.kb_str_str, Px.kb_str_list, Px.kb_str_tuple, Px.kb_str_dict, Px.kb_list_int, Px.kb_list_bool, Px.kb_list_str, Px.kb_list_list, Px.kb_list_tuple, Px.kb_list_dict, Px.kb_tuple_int, Px.kb_tuple_bool, Px.kb_tuple_str, Px.kb_tuple_list, Px.kb_tuple_tuple, Px.kb_tuple_dict, Px.kb_dict_int, Px.kb_dict_bool, Px.kb_dict_str, Px.kb_dict_list, Px.kb_dict_tuple, Px.kb_dict_dict, L2.upd_same, Px.updI, L2.ixN, List.set_cons_zero, List.set_cons_succ, List.length_cons, List.length_nil, Nat.reduceAdd, Nat.zero_add, L2.HO.lst.injEq, L2.HO.tup.injEq, L2.upd_upd, L2.V.int.injEq, L2.V.ref.injEq, L2.V.bl.injEq, L2.V.str.injEq, L2.V.ty.injEq, List.cons.injEq, and_true, true_and, and_false, false_and, or_false, false_or, exists_eq_left', exists_eq_left, exists_and_left, exists_const, exists_false, Option.some.injEq, decide_eq_true_eq, List.append_nil, List.cons_append, List.nil_append, Option.isSome_some, Bool.not_true, Bool.not_false, Bool.not_eq_true', Bool.not_eq_true, Bool.false_eq_true, decide_eq_false_iff_not, if_true, if_false, ite_true, ite_false, Int.reduceLE, Int.reduceLT, Int.reduceToNat, Int.cast_ofNat_Int, Bool.true_eq_false, eq_self, ↓reduceIte, reduceCtorEq, Px.aug, Px.ipi, Px.tri, Px.rcatth, Px.flh, Px.sfl, Px.met, Px.mak, *, Px.seq]
    exact eqd_ok (by constructor) (by constructor) (by cases n <;> exact hd) k0
  | @tup a xs ds ha hxs =>
    cases hy with
    | @tup b ys _ hb hys =>
      cases n with
      | zero => exact hd.elim
      | succ m =>
      obtain ⟨hl, hds⟩ := hd
      have lx := hxs.len
      have ly := hys.len
      refine go_seq ?_
      simp only [decide_true, decide_false, List.map_cons, List.map_nil, Option.map_none, Option.map_some, Option.getD_none, Option.getD_some, Px.dg2, Px.dg1, Px.dg, Px.din, Px.dnotin, Px.dnew, Px.dput, Px.isD_is, Px.dget_i, Px.dget_s, Px.dput_i, Px.dput_s, Px.dOf_d, Px.rtup, Px.rlist, Px.rsl, Px.rsort, Px.rcat, Px.rapp, Px.rrev, Px.sl_ap, Px.nop, Px.part, Px.yes, Px.tyl, Px.isL_l, Px.isT_t, Px.isL_t, Px.isT_l, Px.isD_d, Px.isT_d, Px.inV_ints, Px.flat_ints, Px.flatV_i, Px.wipe_cons, Px.wipe_nil, Px.gtup, Px.gcons, Px.gnil, gt_iff_lt, ge_iff_le, Px.we, Px.wonly, Px.was, Px.cxK, not_true_eq_false, and_self, true_implies, false_implies, implies_true, Px.e0, and_assoc, imp_false, not_false_eq_true, ne_eq, Px.rgcd, Px.rixl, Px.rixt, Px.v0, Px.v1, Px.v2, Px.v3, Px.v4, Px.v5, Px.v6, Px.v7, Px.v8, Px.v9, Px.v10, Px.v11, Px.v12, Px.v13, Px.v14, Px.v15, Px.v16, Px.v17, Px.v18, Px.v19, Px.v20, Px.v21, Px.v22, Px.v23, Px.c0, Px.asg, Px.gnm, Px.ret, Px.retN, Px.drop, Px.nxt, Px.brk, Px.cnt, Px.ifs, Px.op, Px.un, Px.tst, Px.tbl, Px.tand, Px.tor, Px.tnot, Px.andv, Px.orv, Px.notv, Px.tif, Px.tup, Px.lst, Px.nil, Px.cons, Px.cal, Px.calS, Px.cb, Px.par, Px.gsub, Px.bits, Px.bm, Px.bm0, Px.ri, Px.ri0, Px.ru, Px.req, Px.rne, Px.rix, Px.rlen, Px.rin, Px.rsetl, Px.risi, Px.tyH_n, Px.tyH_b, Px.tyH_i, Px.tyH_s, Px.tyH_r, Px.seqH_t, Px.seqH_l, Px.seqH_fl, Px.sc_ii, Px.sc_bb, Px.sc_ss, Px.atI0, Px.atI1, Px.atI2, Px.atI3, Px.atI4, Px.atI5, Px.atI6, Px.atI7, Px.kb_NoneType_int, Px.kb_NoneType_bool, Px.kb_NoneType_str, Px.kb_NoneType_list, Px.kb_NoneType_tuple, Px.kb_NoneType_dict, Px.kb_bool_int, Px.kb_bool_bool, Px.kb_bool_str, Px.kb_bool_list, Px.kb_bool_tuple, Px.kb_bool_dict, Px.kb_int_int, Px.kb_int_bool, Px.kb_int_str, Px.kb_int_list, Px.kb_int_tuple, Px.kb_int_dict, Px.kb_str_int, Px.kb_str_bool, Px.kb_str_str, Px.kb_str_list, Px.kb_str_tuple, Px.kb_str_dict, Px.kb_list_int, Px.kb_list_bool, Px.kb_list_str, Px.kb_list_list, Px.kb_list_tuple, Px.kb_list_dict, Px.kb_tuple_int, Px.kb_tuple_bool, Px.kb_tuple_str, Px.kb_tuple_list, Px.kb_tuple_tuple, Px.kb_tuple_dict, Px.kb_dict_int, Px.kb_dict_bool, Px.kb_dict_str, Px.kb_dict_list, Px.kb_dict_tuple, Px.kb_dict_dict, L2.upd_same, Px.updI, L2.ixN, List.set_cons_zero, List.set_cons_succ, List.length_cons, List.length_nil, Nat.reduceAdd, Nat.zero_add, L2.HO.lst.injEq, L2.HO.tup.injEq, L2.upd_upd, L2.V.int.injEq, L2.V.ref.injEq, L2.V.bl.injEq, L2.V.str.injEq, L2.V.ty.injEq, List.cons.injEq, and_true, true_and, and_false, false_and, or_false, false_or, exists_eq_left', exists_eq_left, exists_and_left, exists_const, exists_false, Option.some.injEq, decide_eq_true_eq, List.append_nil, List.cons_append, List.nil_append, Option.isSome_some, Bool.not_true, Bool.not_false, Bool.not_eq_true', Bool.not_eq_true, Bool.false_eq_true, decide_eq_false_iff_not, if_true, if_false, ite_true, ite_false, Int.reduceLE, Int.reduceLT, Int.reduceToNat, Int.cast_ofNat_Int, Bool.true_eq_false, eq_self, ↓reduceIte, reduceCtorEq, Px.aug, Px.ipi, Px.tri, Px.rcatth, Px.flh, Px.sfl, Px.met, Px.mak, *, Px.seq]
      refine lc_rng (fun _ => false) (fun _ => .none) (ds.length : Int) ?_ ⟨by omega, by omega⟩ (fun i hi => ?_) (fun D zs H2 hD e2 hz hall => ?_)
      · intro Q hQ
        simp only [decide_true, decide_false, List.map_cons, List.map_nil, Option.map_none, Option.map_some, Option.getD_none, Option.getD_some, Px.dg2, Px.dg1, Px.dg, Px.din, Px.dnotin, Px.dnew, Px.dput, Px.isD_is, Px.dget_i, Px.dget_s, Px.dput_i, Px.dput_s, Px.dOf_d, Px.rtup, Px.rlist, Px.rsl, Px.rsort, Px.rcat, Px.rapp, Px.rrev, Px.sl_ap, Px.nop, Px.part, Px.yes, Px.tyl, Px.isL_l, Px.isT_t, Px.isL_t, Px.isT_l, Px.isD_d, Px.isT_d, Px.inV_ints, Px.flat_ints, Px.flatV_i, Px.wipe_cons, Px.wipe_nil, Px.gtup, Px.gcons, Px.gnil, gt_iff_lt, ge_iff_le, Px.we, Px.wonly, Px.was, Px.cxK, not_true_eq_false, and_self, true_implies, false_implies, implies_true, Px.e0, and_assoc, imp_false, not_false_eq_true, ne_eq, Px.rgcd, Px.rixl, Px.rixt, Px.v0, Px.v1, Px.v2, Px.v3, Px.v4, Px.v5, Px.v6, Px.v7, Px.v8, Px.v9, Px.v10, Px.v11, Px.v12, Px.v13, Px.v14, Px.v15, Px.v16, Px.v17, Px.v18, Px.v19, Px.v20, Px.v21, Px.v22, Px.v23, Px.c0, Px.asg, Px.gnm, Px.ret, Px.retN, Px.drop, Px.nxt, Px.brk, Px.cnt, Px.ifs, Px.op, Px.un, Px.tst, Px.tbl, Px.tand, Px.tor, Px.tnot, Px.andv, Px.orv, Px.notv, Px.tif, Px.tup, Px.lst, Px.nil, Px.cons, Px.cal, Px.calS, Px.cb, Px.par, Px.gsub, Px.bits, Px.bm, Px.bm0, Px.ri, Px.ri0, Px.ru, Px.req, Px.rne, Px.rix, Px.rlen, Px.rin, Px.rsetl, Px.risi, Px.tyH_n, Px.tyH_b, Px.tyH_i, Px.tyH_s, Px.tyH_r, Px.seqH_t, Px.seqH_l, Px.seqH_fl, Px.sc_ii, Px.sc_bb, Px.sc_ss, Px.atI0, Px.atI1, Px.atI2, Px.atI3, Px.atI4, Px.atI5, Px.atI6, Px.atI7, Px.kb_NoneType_int, Px.kb_NoneType_bool, Px.kb_NoneType_str, Px.kb_NoneType_list, Px.kb_NoneType_tuple, Px.kb_NoneType_dict, Px.kb_bool_int, Px.kb_bool_bool, Px.kb_bool_str, Px.kb_bool_list, Px.kb_bool_tuple, Px.kb_bool_dict, Px.kb_int_int, Px.kb_int_bool, Px.kb_int_str, Px.kb_int_list, Px.kb_int_tuple, Px.kb_int_dict, Px.kb_str_int, Px.kb_str_bool, Px.kb_str_str, Px.kb_str_list, Px.kb_str_tuple, Px.kb_str_dict, Px.kb_list_int, Px.kb_list_bool, Px.kb_list_str, Px.kb_list_list, Px.kb_list_tuple, Px.kb_list_dict, Px.kb_tuple_int, Px.kb_tuple_bool, Px.kb_tuple_str, Px.kb_tuple_list, Px.kb_tuple_tuple, Px.kb_tuple_dict, Px.kb_dict_int, Px.kb_dict_bool, Px.kb_dict_str, Px.kb_dict_list, Px.kb_dict_tuple, Px.kb_dict_dict, L2.upd_same, Px.updI, L2.ixN, List.set_cons_zero, List.set_cons_succ, List.length_cons, List.length_nil, Nat.reduceAdd, Nat.zero_add, L2.HO.lst.injEq, L2.HO.tup.injEq, L2.upd_upd, L2.V.int.injEq, L2.V.ref.injEq, L2.V.bl.injEq, L2.V.str.injEq, L2.V.ty.injEq, List.cons.injEq, and_true, true_and, and_false, false_and, or_false, false_or, exists_eq_left', exists_eq_left, exists_and_left, exists_const, exists_false, Option.some.injEq, decide_eq_true_eq, List.append_nil, List.cons_append, List.nil_append, Option.isSome_some, Bool.not_true, Bool.not_false, Bool.not_eq_true', Bool.not_eq_true, Bool.false_eq_true, decide_eq_false_iff_not, if_true, if_false, ite_true, ite_false, Int.reduceLE, Int.reduceLT, Int.reduceToNat, Int.cast_ofNat_Int, Bool.true_eq_false, eq_self, ↓reduceIte, reduceCtorEq, Px.aug, Px.ipi, Px.tri, Px.rcatth, Px.flh, Px.sfl, Px.met, Px.mak, *]
      · intro H2 R2 E2 e2 k2 _
        obtain ⟨d, hd⟩ : ∃ d, ds[i]? = some d := ⟨_, List.getElem?_eq_getElem (by omega)⟩
        obtain ⟨x, hx, dx⟩ := hxs.get' hd
        obtain ⟨y, hy, dy⟩ := hys.get' hd
        have ax := atI_nat hx
        have ay := atI_nat hy
        have ha2 := e2.get ha
        have hb2 := e2.get hb
        simp only [decide_true, decide_false, List.map_cons, List.map_nil, Option.map_none, Option.map_some, Option.getD_none, Option.getD_some, Px.dg2, Px.dg1, Px.dg, Px.din, Px.dnotin, Px.dnew, Px.dput, Px.isD_is, Px.dget_i, Px.dget_s, Px.dput_i, Px.dput_s, Px.dOf_d, Px.rtup, Px.rlist, Px.rsl, Px.rsort, Px.rcat, Px.rapp, Px.rrev, Px.sl_ap, Px.nop, Px.part, Px.yes, Px.tyl, Px.isL_l, Px.isT_t, Px.isL_t, Px.isT_l, Px.isD_d, Px.isT_d, Px.inV_ints, Px.flat_ints, Px.flatV_i, Px.wipe_cons, Px.wipe_nil, Px.gtup, Px.gcons, Px.gnil, gt_iff_lt, ge_iff_le, Px.we, Px.wonly, Px.was, Px.cxK, not_true_eq_false, and_self, true_implies, false_implies, implies_true, Px.e0, and_assoc, imp_false, not_false_eq_true, ne_eq, Px.rgcd, Px.rixl, Px.rixt, Px.v0, Px.v1, Px.v2, Px.v3, Px.v4, Px.v5, Px.v6, Px.v7, Px.v8, Px.v9, Px.v10, Px.v11, Px.v12, Px.v13, Px.v14, Px.v15, Px.v16, Px.v17, Px.v18, Px.v19, Px.v20, Px.v21, Px.v22, Px.v23, Px.c0, Px.asg, Px.gnm, Px.ret, Px.retN, Px.drop, Px.nxt, Px.brk, Px.cnt, Px.ifs, Px.op, Px.un, Px.tst, Px.tbl, Px.tand, Px.tor, Px.tnot, Px.andv, Px.orv, Px.notv, Px.tif, Px.tup, Px.lst, Px.nil, Px.cons, Px.cal, Px.calS, Px.cb, Px.par, Px.gsub, Px.bits, Px.bm, Px.bm0, Px.ri, Px.ri0, Px.ru, Px.req, Px.rne, Px.rix, Px.rlen, Px.rin, Px.rsetl, Px.risi, Px.tyH_n, Px.tyH_b, Px.tyH_i, Px.tyH_s, Px.tyH_r, Px.seqH_t, Px.seqH_l, Px.seqH_fl, Px.sc_ii, Px.sc_bb, Px.sc_ss, Px.atI0, Px.atI1, Px.atI2, Px.atI3, Px.atI4, Px.atI5, Px.atI6, Px.atI7, Px.kb_NoneType_int, Px.kb_NoneType_bool, Px.kb_NoneType_str, Px.kb_NoneType_list, Px.kb_NoneType_tuple, Px.kb_NoneType_dict, Px.kb_bool_int, Px.kb_bool_bool, Px.kb_bool_str, Px.kb_bool_list, Px.kb_bool_tuple, Px.kb_bool_dict, Px.kb_int_int, Px.kb_int_bool, Px.kb_int_str, Px.kb_int_list, Px.kb_int_tuple, Px.kb_int_dict, Px.kb_str_int, Px.kb_str_bool, Px.kb_str_str, Px.kb_str_list, Px.kb_str_tuple, Px.kb_str_dict, Px.kb_list_int, Px.kb_list_bool, Px.kb_list_str, Px.kb_list_list, Px.kb_list_tuple, Px.kb_list_dict, Px.kb_tuple_int, Px.kb_tuple_bool, Px.kb_tuple_str, Px.kb_tuple_list, Px.kb_tuple_tuple, Px.kb_tuple_dict, Px.kb_dict_int, Px.kb_dict_bool, Px.kb_dict_str, Px.kb_dict_list, Px.kb_dict_tuple, Px.kb_dict_dict, L2.upd_same, Px.updI, L2.ixN, List.set_cons_zero, List.set_cons_succ, List.length_cons, List.length_nil, Nat.reduceAdd, Nat.zero_add, L2.HO.lst.injEq, L2.HO.tup.injEq, L2.upd_upd, L2.V.int.injEq, L2.V.ref.injEq, L2.V.bl.injEq, L2.V.str.injEq, L2.V.ty.injEq, List.cons.injEq, and_true, true_and, and_false, false_and, or_false, false_or, exists_eq_left', exists_eq_left, exists_and_left, exists_const, exists_false, Option.some.injEq, decide_eq_true_eq, List.append_nil, List.cons_append, List.nil_append, Option.isSome_some, Bool.not_true, Bool.not_false, Bool.not_eq_true', Bool.not_eq_true, Bool.false_eq_true, decide_eq_false_iff_not, if_true, if_false, ite_true, ite_false, Int.reduceLE, Int.reduceLT, Int.reduceToNat, Int.cast_ofNat_Int, Bool.true_eq_false, eq_self, ↓reduceIte, reduceCtorEq, Px.aug, Px.ipi, Px.tri, Px.rcatth, Px.flh, Px.sfl, Px.met, Px.mak, *, spAl']
        exact ⟨m, rfl, x, y, d, rfl, hds d (List.mem_of_getElem? hd), dx.mono e2.tu, dy.mono e2.tu, fun H' e' => by simp only [decide_true, decide_false, List.map_cons, List.map_nil, Option.map_none, Option.map_some, Option.getD_none, Option.getD_some, Px.dg2, Px.dg1, Px.dg, Px.din, Px.dnotin, Px.dnew, Px.dput, Px.isD_is, Px.dget_i, Px.dget_s, Px.dput_i, Px.dput_s, Px.dOf_d, Px.rtup, Px.rlist, Px.rsl, Px.rsort, Px.rcat, Px.rapp, Px.rrev, Px.sl_ap, Px.nop, Px.part, Px.yes, Px.tyl, Px.isL_l, Px.isT_t, Px.isL_t, Px.isT_l, Px.isD_d, Px.isT_d, Px.inV_ints, Px.flat_ints, Px.flatV_i, Px.wipe_cons, Px.wipe_nil, Px.gtup, Px.gcons, Px.gnil, gt_iff_lt, ge_iff_le, Px.we, Px.wonly, Px.was, Px.cxK, not_true_eq_false, and_self, true_implies, false_implies, implies_true, Px.e0, and_assoc, imp_false, not_false_eq_true, ne_eq, Px.rgcd, Px.rixl, Px.rixt, Px.v0, Px.v1, Px.v2, Px.v3, Px.v4, Px.v5, Px.v6, Px.v7, Px.v8, Px.v9, Px.v10, Px.v11, Px.v12, Px.v13, Px.v14, Px.v15, Px.v16, Px.v17, Px.v18, Px.v19, Px.v20, Px.v21, Px.v22, Px.v23, Px.c0, Px.asg, Px.gnm, Px.ret, Px.retN, Px.drop, Px.nxt, Px.brk, Px.cnt, Px.ifs, Px.op, Px.un, Px.tst, Px.tbl, Px.tand, Px.tor, Px.tnot, Px.andv, Px.orv, Px.notv, Px.tif, Px.tup, Px.lst, Px.nil, Px.cons, Px.cal, Px.calS, Px.cb, Px.par, Px.gsub, Px.bits, Px.bm, Px.bm0, Px.ri, Px.ri0, Px.ru, Px.req, Px.rne, Px.rix, Px.rlen, Px.rin, Px.rsetl, Px.risi, Px.tyH_n, Px.tyH_b, Px.tyH_i, Px.tyH_s, Px.tyH_r, Px.seqH_t, Px.seqH_l, Px.seqH_fl, Px.sc_ii, Px.sc_bb, Px.sc_ss, Px.atI0, Px.atI1, Px.atI2, Px.atI3, Px.atI4, Px.atI5, Px.atI6, Px.atI7, Px.kb_NoneType_int, Px.kb_NoneType_bool, Px.kb_NoneType_str, Px.kb_NoneType_list, Px.kb_NoneType_tuple, Px.kb_NoneType_dict, Px.kb_bool_int, Px.kb_bool_bool, Px.kb_bool_str, Px.kb_bool_list, Px.kb_bool_tuple, Px.kb_bool_dict, Px.kb_int_int, Px.kb_int_bool, Px.kb_int_str, Px.kb_int_list, Px.kb_int_tuple, Px.kb_int_dict, Px.kb_str_int, Px.kb_str_bool, Px.kb_str_str, Px.kb_str_list, Px.kb_str_tuple, Px.kb_str_dict, Px.kb_list_int, Px.kb_list_bool, Px.kb_list_str, Px.kb_list_list, Px.kb_list_tuple, Px.kb_list_dict, Px.kb_tuple_int, Px.kb_tuple_bool, Px.kb_tuple_str, Px.kb_tuple_list, Px.kb_tuple_tuple, Px.kb_tuple_dict, Px.kb_dict_int, Px.kb_dict_bool, Px.kb_dict_str, Px.kb_dict_list, Px.kb_dict_tuple, Px.kb_dict_dict, L2.upd_same, Px.updI, L2.ixN, List.set_cons_zero, List.set_cons_succ, List.length_cons, List.length_nil, Nat.reduceAdd, Nat.zero_add, L2.HO.lst.injEq, L2.HO.tup.injEq, L2.upd_upd, L2.V.int.injEq, L2.V.ref.injEq, L2.V.bl.injEq, L2.V.str.injEq, L2.V.ty.injEq, List.cons.injEq, and_true, true_and, and_false, false_and, or_false, false_or, exists_eq_left', exists_eq_left, exists_and_left, exists_const, exists_false, Option.some.injEq, decide_eq_true_eq, List.append_nil, List.cons_append, List.nil_append, Option.isSome_some, Bool.not_true, Bool.not_false, Bool.not_eq_true', Bool.not_eq_true, Bool.false_eq_true, decide_eq_false_iff_not, if_true, if_false, ite_true, ite_false, Int.reduceLE, Int.reduceLT, Int.reduceToNat, Int.cast_ofNat_Int, Bool.true_eq_false, eq_self, ↓reduceIte, reduceCtorEq, Px.aug, Px.ipi, Px.tri, Px.rcatth, Px.flh, Px.sfl, Px.met, Px.mak, *]; exact k2 rfl H' e'⟩
      · have ez : zs = [] := by
          have := hall.len
          rw [show given (ds.length : Int).toNat (fun _ => false) (fun _ => PyData.none) = [] by unfold given; rw [List.filter_eq_nil_iff.mpr (fun _ _ => Bool.false_ne_true)]; rfl] at this
          exact List.eq_nil_of_length_eq_zero this
        subst ez
        have kk := k H2 e2
        simp only [decide_true, decide_false, List.map_cons, List.map_nil, Option.map_none, Option.map_some, Option.getD_none, Option.getD_some, Px.dg2, Px.dg1, Px.dg, Px.din, Px.dnotin, Px.dnew, Px.dput, Px.isD_is, Px.dget_i, Px.dget_s, Px.dput_i, Px.dput_s, Px.dOf_d, Px.rtup, Px.rlist, Px.rsl, Px.rsort, Px.rcat, Px.rapp, Px.rrev, Px.sl_ap, Px.nop, Px.part, Px.yes, Px.tyl, Px.isL_l, Px.isT_t, Px.isL_t, Px.isT_l, Px.isD_d, Px.isT_d, Px.inV_ints, Px.flat_ints, Px.flatV_i, Px.wipe_cons, Px.wipe_nil, Px.gtup, Px.gcons, Px.gnil, gt_iff_lt, ge_iff_le, Px.we, Px.wonly, Px.was, Px.cxK, not_true_eq_false, and_self, true_implies, false_implies, implies_true, Px.e0, and_assoc, imp_false, not_false_eq_true, ne_eq, Px.rgcd, Px.rixl, Px.rixt, Px.v0, Px.v1, Px.v2, Px.v3, Px.v4, Px.v5, Px.v6, Px.v7, Px.v8, Px.v9, Px.v10, Px.v11, Px.v12, Px.v13, Px.v14, Px.v15, Px.v16, Px.v17, Px.v18, Px.v19, Px.v20, Px.v21, Px.v22, Px.v23, Px.c0, Px.asg, Px.gnm, Px.ret, Px.retN, Px.drop, Px.nxt, Px.brk, Px.cnt, Px.ifs, Px.op, Px.un, Px.tst, Px.tbl, Px.tand, Px.tor, Px.tnot, Px.andv, Px.orv, Px.notv, Px.tif, Px.tup, Px.lst, Px.nil, Px.cons, Px.cal, Px.calS, Px.cb, Px.par, Px.gsub, Px.bits, Px.bm, Px.bm0, Px.ri, Px.ri0, Px.ru, Px.req, Px.rne, Px.rix, Px.rlen, Px.rin, Px.rsetl, Px.risi, Px.tyH_n, Px.tyH_b, Px.tyH_i, Px.tyH_s, Px.tyH_r, Px.seqH_t, Px.seqH_l, Px.seqH_fl, Px.sc_ii, Px.sc_bb, Px.sc_ss, Px.atI0, Px.atI1, Px.atI2, Px.atI3, Px.atI4, Px.atI5, Px.atI6, Px.atI7, Px.kb_NoneType_int, Px.kb_NoneType_bool, Px.kb_NoneType_str, Px.kb_NoneType_list, Px.kb_NoneType_tuple, Px.kb_NoneType_dict, Px.kb_bool_int, Px.kb_bool_bool, Px.kb_bool_str, Px.kb_bool_list, Px.kb_bool_tuple, Px.kb_bool_dict, Px.kb_int_int, Px.kb_int_bool, Px.kb_int_str, Px.kb_int_list, Px.kb_int_tuple, Px.kb_int_dict, Px.kb_str_int, Px.kb_str_bool, Px.kb_str_str, Px.kb_str_list, Px.kb_str_tuple, Px.kb_str_dict, Px.kb_list_int, Px.kb_list_bool, Px.kb_list_str, Px.kb_list_list, Px.kb_list_tuple, Px.kb_list_dict, Px.kb_tuple_int, Px.kb_tuple_bool, Px.kb_tuple_str, Px.kb_tuple_list, Px.kb_tuple_tuple, Px.kb_tuple_dict, Px.kb_dict_int, Px.kb_dict_bool, Px.kb_dict_str, Px.kb_dict_list, Px.kb_dict_tuple, Px.kb_dict_dict, L2.upd_same, Px.updI, L2.ixN, List.set_cons_zero, List.set_cons_succ, List.length_cons, List.length_nil, Nat.reduceAdd, Nat.zero_add, L2.HO.lst.injEq, L2.HO.tup.injEq, L2.upd_upd, L2.V.int.injEq, L2.V.ref.injEq, L2.V.bl.injEq, L2.V.str.injEq, L2.V.ty.injEq, List.cons.injEq, and_true, true_and, and_false, false_and, or_false, false_or, exists_eq_left', exists_eq_left, exists_and_left, exists_const, exists_false, Option.some.injEq, decide_eq_true_eq, List.append_nil, List.cons_append, List.nil_append, Option.isSome_some, Bool.not_true, Bool.not_false, Bool.not_eq_true', Bool.not_eq_true, Bool.false_eq_true, decide_eq_false_iff_not, if_true, if_false, ite_true, ite_false, Int.reduceLE, Int.reduceLT, Int.reduceToNat, Int.cast_ofNat_Int, Bool.true_eq_false, eq_self, ↓reduceIte, reduceCtorEq, Px.aug, Px.ipi, Px.tri, Px.rcatth, Px.flh, Px.sfl, Px.met, Px.mak, *]
theorem ok_alike (B : Bn mg) (D_law_whole : Def P w K mg base CX0 1 "_law_whole" ["value"] spWhole) (F : FunAt K mg "_law_alike" s_law_alike) (n : Nat) : Def P w K mg base CX0 (n + 2) "_law_alike" ["told", "due"] (spAl n) := by
  induction n with
  | zero =>
    refine al_body B F 0 D_law_whole ?_
    obtain ⟨f, fd, a, F⟩ := F
    exact ⟨f, fd, a, F.kp, F.binds (fun _ _ _ _ _ _ us hl => match us, hl with | [_, _], _ => rfl), ⟨fun vs H Q E h => (by obtain ⟨m, e, _⟩ := h; cases e), fun A outer s H args us vs Q E hr h0 hb hv h => (by obtain ⟨m, e, _⟩ := h; cases e)⟩⟩
  | succ m ih =>
    refine al_body B F (m + 1) D_law_whole ?_
    obtain ⟨f, fd, a, b, c, d⟩ := ih
    exact ⟨f, fd, a, b, c, d.imp fun vs H Q E h => (by obtain ⟨m', e, h⟩ := h; cases e; exact h)⟩
/-! ### trimming -/
def spUsed (vs : List V) (H : Hp) (Q : VK) (_ : XK) : Prop := ∃ (v : V) (n : Nat) (x : St), vs = [v] ∧ Dt H v (enc x) ∧ Ok n x ∧ ∀ p H', H p = none → H' p = some (.lst ((refs x).map fun r => V.int ((r : Nat) : Int))) → Px.Ext H H' → Q (.ref p) H'
theorem ok_used (B : Bn mg) (F : FunAt K mg "used_numbers" s_used_numbers) : Def P w K mg base CX0 1 "used_numbers" ["step"] spUsed := by
  refine F.ok sc_used_numbers (fun _ _ _ _ _ _ us hl => match us, hl with | [_], _ => rfl) (fun vs H Q E h => by obtain ⟨_, _, _, rfl, _⟩ := h; rfl) (fun f cdv A outer s H vs Q E hr h => ?_)
  obtain ⟨v, n, x, rfl, hv, ok, k⟩ := h
  obtain ⟨a, c, e, rfl, h1, h2, h3⟩ := enc_inv hv
  refine ⟨_, pss_cons (ps_asg (pv 0) (pg_tupH (n := 3) rfl (pgs_cons (pg_name (i := 1) sc_used_numbers.nd rfl (Or.inl rfl)) (pgs_cons (pg_name (i := 2) sc_used_numbers.nd rfl (Or.inl rfl)) (pgs_cons (pg_name (i := 3) sc_used_numbers.nd rfl (Or.inl rfl)) pgs_nil))))) (
  pss_cons (ps_if (pt_cmpR op_ne (pv 1) pe_str (nomark _)) (pss_one (ps_ret (pe_lst pa_nil))) (pss_nil)) (
  pss_cons (ps_asg (pv 3) (pg_tupH (n := 2) rfl (pgs_cons (pg_name (i := 4) sc_used_numbers.nd rfl (Or.inl rfl)) (pgs_cons (pg_name (i := 5) sc_used_numbers.nd rfl (Or.inl rfl)) pgs_nil)))) (
  pss_one (ps_ret (pe_op op_cat (pe_lst (pa_cons (pv 4) pa_nil)) (pe_lc (own := [("_", 2), ("number", 6)]) (g := gTupH 2 (gCons (gName 2) (gCons (gName 6) (gNil)))) rfl sc_used_numbers.nd (pi_seq (pv 5)) (blkOk_by (own := [("_", 2), ("number", 6)]) (N := ["step", "kind", "_", "details", "first", "strikes", "number"]) (sc := defScope s_used_numbers) (by decide +kernel)) (fun _ _ _ _ _ => (pg_tupH (n := 2) rfl (pgs_cons (pg_name (i := 2) sc_used_numbers.nd rfl (Or.inl rfl)) (pgs_cons (pg_name (i := 6) sc_used_numbers.nd rfl (Or.inl rfl)) pgs_nil)))) (fun _ _ _ _ _ => pts_nil) (fun _ _ _ _ _ => (pv 6)))))))), ?_⟩
  show tSeq _ _ _ [some (.ref a), none, none, none, none, none, none] H
  refine go_seq ?_
  cases x with
  | oth kk l d =>
    have nk : ¬ kd (.oth kk l d) = "resolve" := ok.2.1
    simp only [decide_true, decide_false, List.map_cons, List.map_nil, Option.map_none, Option.map_some, Option.getD_none, Option.getD_some, Px.dg2, Px.dg1, Px.dg, Px.din, Px.dnotin, Px.dnew, Px.dput, Px.isD_is, Px.dget_i, Px.dget_s, Px.dput_i, Px.dput_s, Px.dOf_d, Px.rtup, Px.rlist, Px.rsl, Px.rsort, Px.rcat, Px.rapp, Px.rrev, Px.sl_ap, Px.nop, Px.part, Px.yes, Px.tyl, Px.isL_l, Px.isT_t, Px.isL_t, Px.isT_l, Px.isD_d, Px.isT_d, Px.inV_ints, Px.flat_ints, Px.flatV_i, Px.wipe_cons, Px.wipe_nil, Px.gtup, Px.gcons, Px.gnil, gt_iff_lt, ge_iff_le, Px.we, Px.wonly, Px.was, Px.cxK, not_true_eq_false, and_self, true_implies, false_implies, implies_true, Px.e0, and_assoc, imp_false, not_false_eq_true, ne_eq, Px.rgcd, Px.rixl, Px.rixt, Px.v0, Px.v1, Px.v2, Px.v3, Px.v4, Px.v5, Px.v6, Px.v7, Px.v8, Px.v9, Px.v10, Px.v11, Px.v12, Px.v13, Px.v14, Px.v15, Px.v16, Px.v17, Px.v18, Px.v19, Px.v20, Px.v21, Px.v22, Px.v23, Px.c0, Px.asg, Px.gnm, Px.ret, Px.retN, Px.drop, Px.nxt, Px.brk, Px.cnt, Px.ifs, Px.op, Px.un, Px.tst, Px.tbl, Px.tand, Px.tor, Px.tnot, Px.andv, Px.orv, Px.notv, Px.tif, Px.tup, Px.lst, Px.nil, Px.cons, Px.cal, Px.calS, Px.cb, Px.par, Px.gsub, Px.bits, Px.bm, Px.bm0, Px.ri, Px.ri0, Px.ru, Px.req, Px.rne, Px.rix, Px.rlen, Px.rin, Px.rsetl, Px.risi, Px.tyH_n, Px.tyH_b, Px.tyH_i, Px.tyH_s, Px.tyH_r, Px.seqH_t, Px.seqH_l, Px.seqH_fl, Px.sc_ii, Px.sc_bb, Px.sc_ss, Px.atI0, Px.atI1, Px.atI2, Px.atI3, Px.atI4, Px.atI5, Px.atI6, Px.atI7, Px.kb_NoneType_int, Px.kb_NoneType_bool, Px.kb_NoneType_str, Px.kb_NoneType_list, Px.kb_NoneType_tuple, Px.kb_NoneType_dict, Px.kb_bool_int, Px.kb_bool_bool, Px.kb_bool_str, Px.kb_bool_list, Px.kb_bool_tuple, Px.kb_bool_dict, Px.kb_int_int, Px.kb_int_bool, Px.kb_int_str, Px.kb_int_list, Px.kb_int_tuple, Px.kb_int_dict, Px.kb_str_int, Px.kb_str_bool, Px.kb_str_str, Px.kb_str_list, Px.kb_str_tuple, Px.kb_str_dict, Px.kb_list_int, Px.kb_list_bool, Px.kb_list_str, Px.kb_list_list, Px.kb_list_tuple, Px.kb_list_dict, Px.kb_tuple_int, Px.kb_tuple_bool, Px.kb_tuple_str, Px.kb_tuple_list, Px.kb_tuple_tuple, Px.kb_tuple_dict, Px.kb_dict_int, Px.kb_dict_bool, Px.kb_dict_str, Px.kb_dict_list, Px.kb_dict_tuple, Px.kb_dict_dict, L2.upd_same, Px.updI, L2.ixN, List.set_cons_zero, List.set_cons_succ, List.length_cons, List.length_nil, Nat.reduceAdd, Nat.zero_add, L2.HO.lst.injEq, L2.HO.tup.injEq, L2.upd_upd, L2.V.int.injEq, L2.V.ref.injEq, L2.V.bl.injEq, L2.V.str.injEq, L2.V.ty.injEq, List.cons.injEq, and_true, true_and, and_false, false_and, or_false, false_or, exists_eq_left', exists_eq_left, exists_and_left, exists_const, exists_false, Option.some.injEq, decide_eq_true_eq, List.append_nil, List.cons_append, List.nil_append, Option.isSome_some, Bool.not_true, Bool.not_false, Bool.not_eq_true', Bool.not_eq_true, Bool.false_eq_true, decide_eq_false_iff_not, if_true, if_false, ite_true, ite_false, Int.reduceLE, Int.reduceLT, Int.reduceToNat, Int.cast_ofNat_Int, Bool.true_eq_false, eq_self, ↓reduceIte, reduceCtorEq, Px.aug, Px.ipi, Px.tri, Px.rcatth, Px.flh, Px.sfl, Px.met, Px.mak, *, Px.seq]
    refine ⟨by decide, fun p hp => ?_⟩
    exact k p _ hp upd_same ((Px.Ext.rfl' H).new hp)
  | res l f0 ss =>
    have nk : kd (.res l f0 ss) = "resolve" := rfl
    obtain ⟨b, y, ws, rfl, g1, g2, g3⟩ := dt_inv h3
    have lw : ws.length = ss.length := by rw [g3.len, List.length_map]; unfold zi; rw [List.length_map]
    simp only [decide_true, decide_false, List.map_cons, List.map_nil, Option.map_none, Option.map_some, Option.getD_none, Option.getD_some, Px.dg2, Px.dg1, Px.dg, Px.din, Px.dnotin, Px.dnew, Px.dput, Px.isD_is, Px.dget_i, Px.dget_s, Px.dput_i, Px.dput_s, Px.dOf_d, Px.rtup, Px.rlist, Px.rsl, Px.rsort, Px.rcat, Px.rapp, Px.rrev, Px.sl_ap, Px.nop, Px.part, Px.yes, Px.tyl, Px.isL_l, Px.isT_t, Px.isL_t, Px.isT_l, Px.isD_d, Px.isT_d, Px.inV_ints, Px.flat_ints, Px.flatV_i, Px.wipe_cons, Px.wipe_nil, Px.gtup, Px.gcons, Px.gnil, gt_iff_lt, ge_iff_le, Px.we, Px.wonly, Px.was, Px.cxK, not_true_eq_false, and_self, true_implies, false_implies, implies_true, Px.e0, and_assoc, imp_false, not_false_eq_true, ne_eq, Px.rgcd, Px.rixl, Px.rixt, Px.v0, Px.v1, Px.v2, Px.v3, Px.v4, Px.v5, Px.v6, Px.v7, Px.v8, Px.v9, Px.v10, Px.v11, Px.v12, Px.v13, Px.v14, Px.v15, Px.v16, Px.v17, Px.v18, Px.v19, Px.v20, Px.v21, Px.v22, Px.v23, Px.c0, Px.asg, Px.gnm, Px.ret, Px.retN, Px.drop, Px.nxt, Px.brk, Px.cnt, Px.ifs, Px.op, Px.un, Px.tst, Px.tbl, Px.tand, Px.tor, Px.tnot, Px.andv, Px.orv, Px.notv, Px.tif, Px.tup, Px.lst, Px.nil, Px.cons, Px.cal, Px.calS, Px.cb, Px.par, Px.gsub, Px.bits, Px.bm, Px.bm0, Px.ri, Px.ri0, Px.ru, Px.req, Px.rne, Px.rix, Px.rlen, Px.rin, Px.rsetl, Px.risi, Px.tyH_n, Px.tyH_b, Px.tyH_i, Px.tyH_s, Px.tyH_r, Px.seqH_t, Px.seqH_l, Px.seqH_fl, Px.sc_ii, Px.sc_bb, Px.sc_ss, Px.atI0, Px.atI1, Px.atI2, Px.atI3, Px.atI4, Px.atI5, Px.atI6, Px.atI7, Px.kb_NoneType_int, Px.kb_NoneType_bool, Px.kb_NoneType_str, Px.kb_NoneType_list, Px.kb_NoneType_tuple, Px.kb_NoneType_dict, Px.kb_bool_int, Px.kb_bool_bool, Px.kb_bool_str, Px.kb_bool_list, Px.kb_bool_tuple, Px.kb_bool_dict, Px.kb_int_int, Px.kb_int_bool, Px.kb_int_str, Px.kb_int_list, Px.kb_int_tuple, Px.kb_int_dict, Px.kb_str_int, Px.kb_str_bool, Px.kb_str_str, Px.kb_str_list, Px.kb_str_tuple, Px.kb_str_dict, Px.kb_list_int, Px.kb_list_bool, Px.kb_list_str, Px.kb_list_list, Px.kb_list_tuple, Px.kb_list_dict, Px.kb_tuple_int, Px.kb_tuple_bool, Px.kb_tuple_str, Px.kb_tuple_list, Px.kb_tuple_tuple, Px.kb_tuple_dict, Px.kb_dict_int, Px.kb_dict_bool, Px.kb_dict_str, Px.kb_dict_list, Px.kb_dict_tuple, Px.kb_dict_dict, L2.upd_same, Px.updI, L2.ixN, List.set_cons_zero, List.set_cons_succ, List.length_cons, List.length_nil, Nat.reduceAdd, Nat.zero_add, L2.HO.lst.injEq, L2.HO.tup.injEq, L2.upd_upd, L2.V.int.injEq, L2.V.ref.injEq, L2.V.bl.injEq, L2.V.str.injEq, L2.V.ty.injEq, List.cons.injEq, and_true, true_and, and_false, false_and, or_false, false_or, exists_eq_left', exists_eq_left, exists_and_left, exists_const, exists_false, Option.some.injEq, decide_eq_true_eq, List.append_nil, List.cons_append, List.nil_append, Option.isSome_some, Bool.not_true, Bool.not_false, Bool.not_eq_true', Bool.not_eq_true, Bool.false_eq_true, decide_eq_false_iff_not, if_true, if_false, ite_true, ite_false, Int.reduceLE, Int.reduceLT, Int.reduceToNat, Int.cast_ofNat_Int, Bool.true_eq_false, eq_self, ↓reduceIte, reduceCtorEq, Px.aug, Px.ipi, Px.tri, Px.rcatth, Px.flh, Px.sfl, Px.met, Px.mak, *, Px.seq]
    refine ⟨by decide, fun q hq => ?_⟩
    have g2' : (upd H q (.lst [.int (f0 : Int)])) y = some (.tup ws) := by rw [updI hq (by rw [g2]; rfl), g2]
    refine lc_seq (xs := ws) (fun _ => true) (fun i => .int (((ss.getD i (0, 0)).2 : Nat) : Int)) (fun Q q => by simp only [decide_true, decide_false, List.map_cons, List.map_nil, Option.map_none, Option.map_some, Option.getD_none, Option.getD_some, Px.dg2, Px.dg1, Px.dg, Px.din, Px.dnotin, Px.dnew, Px.dput, Px.isD_is, Px.dget_i, Px.dget_s, Px.dput_i, Px.dput_s, Px.dOf_d, Px.rtup, Px.rlist, Px.rsl, Px.rsort, Px.rcat, Px.rapp, Px.rrev, Px.sl_ap, Px.nop, Px.part, Px.yes, Px.tyl, Px.isL_l, Px.isT_t, Px.isL_t, Px.isT_l, Px.isD_d, Px.isT_d, Px.inV_ints, Px.flat_ints, Px.flatV_i, Px.wipe_cons, Px.wipe_nil, Px.gtup, Px.gcons, Px.gnil, gt_iff_lt, ge_iff_le, Px.we, Px.wonly, Px.was, Px.cxK, not_true_eq_false, and_self, true_implies, false_implies, implies_true, Px.e0, and_assoc, imp_false, not_false_eq_true, ne_eq, Px.rgcd, Px.rixl, Px.rixt, Px.v0, Px.v1, Px.v2, Px.v3, Px.v4, Px.v5, Px.v6, Px.v7, Px.v8, Px.v9, Px.v10, Px.v11, Px.v12, Px.v13, Px.v14, Px.v15, Px.v16, Px.v17, Px.v18, Px.v19, Px.v20, Px.v21, Px.v22, Px.v23, Px.c0, Px.asg, Px.gnm, Px.ret, Px.retN, Px.drop, Px.nxt, Px.brk, Px.cnt, Px.ifs, Px.op, Px.un, Px.tst, Px.tbl, Px.tand, Px.tor, Px.tnot, Px.andv, Px.orv, Px.notv, Px.tif, Px.tup, Px.lst, Px.nil, Px.cons, Px.cal, Px.calS, Px.cb, Px.par, Px.gsub, Px.bits, Px.bm, Px.bm0, Px.ri, Px.ri0, Px.ru, Px.req, Px.rne, Px.rix, Px.rlen, Px.rin, Px.rsetl, Px.risi, Px.tyH_n, Px.tyH_b, Px.tyH_i, Px.tyH_s, Px.tyH_r, Px.seqH_t, Px.seqH_l, Px.seqH_fl, Px.sc_ii, Px.sc_bb, Px.sc_ss, Px.atI0, Px.atI1, Px.atI2, Px.atI3, Px.atI4, Px.atI5, Px.atI6, Px.atI7, Px.kb_NoneType_int, Px.kb_NoneType_bool, Px.kb_NoneType_str, Px.kb_NoneType_list, Px.kb_NoneType_tuple, Px.kb_NoneType_dict, Px.kb_bool_int, Px.kb_bool_bool, Px.kb_bool_str, Px.kb_bool_list, Px.kb_bool_tuple, Px.kb_bool_dict, Px.kb_int_int, Px.kb_int_bool, Px.kb_int_str, Px.kb_int_list, Px.kb_int_tuple, Px.kb_int_dict, Px.kb_str_int, Px.kb_str_bool, Px.kb_str_str, Px.kb_str_list, Px.kb_str_tuple, Px.kb_str_dict, Px.kb_list_int, Px.kb_list_bool, Px.kb_list_str, Px.kb_list_list, Px.kb_list_tuple, Px.kb_list_dict, Px.kb_tuple_int, Px.kb_tuple_bool, Px.kb_tuple_str, Px.kb_tuple_list, Px.kb_tuple_tuple, Px.kb_tuple_dict, Px.kb_dict_int, Px.kb_dict_bool, Px.kb_dict_str, Px.kb_dict_list, Px.kb_dict_tuple, Px.kb_dict_dict, L2.upd_same, Px.updI, L2.ixN, List.set_cons_zero, List.set_cons_succ, List.length_cons, List.length_nil, Nat.reduceAdd, Nat.zero_add, L2.HO.lst.injEq, L2.HO.tup.injEq, L2.upd_upd, L2.V.int.injEq, L2.V.ref.injEq, L2.V.bl.injEq, L2.V.str.injEq, L2.V.ty.injEq, List.cons.injEq, and_true, true_and, and_false, false_and, or_false, false_or, exists_eq_left', exists_eq_left, exists_and_left, exists_const, exists_false, Option.some.injEq, decide_eq_true_eq, List.append_nil, List.cons_append, List.nil_append, Option.isSome_some, Bool.not_true, Bool.not_false, Bool.not_eq_true', Bool.not_eq_true, Bool.false_eq_true, decide_eq_false_iff_not, if_true, if_false, ite_true, ite_false, Int.reduceLE, Int.reduceLT, Int.reduceToNat, Int.cast_ofNat_Int, Bool.true_eq_false, eq_self, ↓reduceIte, reduceCtorEq, Px.aug, Px.ipi, Px.tri, Px.rcatth, Px.flh, Px.sfl, Px.met, Px.mak, *]; exact q) (by rw [g2']; rfl) (by have := ok.2.2.1; omega) (fun i x hi => ?_) (fun D ys H2 hD e2 hy hall => ?_)
    · have li : i < ss.length := by rw [← lw]; exact (List.getElem?_eq_some_iff.mp hi).1
      obtain ⟨p, hp⟩ : ∃ p, ss[i]? = some p := ⟨_, List.getElem?_eq_getElem li⟩
      have ep : ss.getD i (0, 0) = p := by rw [List.getD_eq_getElem?_getD, hp]; rfl
      intro H2 R' E' e2 _ k2
      simp only [ep] at k2
      obtain ⟨v, hv, dv⟩ := (g3.mono (((Px.Ext.rfl' H).new hq).trans e2).tu).get' (show ((zi ss).map prd)[i]? = some (prd (p.1, (p.2 : Int))) by rw [zi, List.getElem?_map, List.getElem?_map, hp]; rfl)
      rw [hi] at hv
      cases hv
      obtain ⟨b, rfl, hb⟩ := pr_inv dv
      simp only [decide_true, decide_false, List.map_cons, List.map_nil, Option.map_none, Option.map_some, Option.getD_none, Option.getD_some, Px.dg2, Px.dg1, Px.dg, Px.din, Px.dnotin, Px.dnew, Px.dput, Px.isD_is, Px.dget_i, Px.dget_s, Px.dput_i, Px.dput_s, Px.dOf_d, Px.rtup, Px.rlist, Px.rsl, Px.rsort, Px.rcat, Px.rapp, Px.rrev, Px.sl_ap, Px.nop, Px.part, Px.yes, Px.tyl, Px.isL_l, Px.isT_t, Px.isL_t, Px.isT_l, Px.isD_d, Px.isT_d, Px.inV_ints, Px.flat_ints, Px.flatV_i, Px.wipe_cons, Px.wipe_nil, Px.gtup, Px.gcons, Px.gnil, gt_iff_lt, ge_iff_le, Px.we, Px.wonly, Px.was, Px.cxK, not_true_eq_false, and_self, true_implies, false_implies, implies_true, Px.e0, and_assoc, imp_false, not_false_eq_true, ne_eq, Px.rgcd, Px.rixl, Px.rixt, Px.v0, Px.v1, Px.v2, Px.v3, Px.v4, Px.v5, Px.v6, Px.v7, Px.v8, Px.v9, Px.v10, Px.v11, Px.v12, Px.v13, Px.v14, Px.v15, Px.v16, Px.v17, Px.v18, Px.v19, Px.v20, Px.v21, Px.v22, Px.v23, Px.c0, Px.asg, Px.gnm, Px.ret, Px.retN, Px.drop, Px.nxt, Px.brk, Px.cnt, Px.ifs, Px.op, Px.un, Px.tst, Px.tbl, Px.tand, Px.tor, Px.tnot, Px.andv, Px.orv, Px.notv, Px.tif, Px.tup, Px.lst, Px.nil, Px.cons, Px.cal, Px.calS, Px.cb, Px.par, Px.gsub, Px.bits, Px.bm, Px.bm0, Px.ri, Px.ri0, Px.ru, Px.req, Px.rne, Px.rix, Px.rlen, Px.rin, Px.rsetl, Px.risi, Px.tyH_n, Px.tyH_b, Px.tyH_i, Px.tyH_s, Px.tyH_r, Px.seqH_t, Px.seqH_l, Px.seqH_fl, Px.sc_ii, Px.sc_bb, Px.sc_ss, Px.atI0, Px.atI1, Px.atI2, Px.atI3, Px.atI4, Px.atI5, Px.atI6, Px.atI7, Px.kb_NoneType_int, Px.kb_NoneType_bool, Px.kb_NoneType_str, Px.kb_NoneType_list, Px.kb_NoneType_tuple, Px.kb_NoneType_dict, Px.kb_bool_int, Px.kb_bool_bool, Px.kb_bool_str, Px.kb_bool_list, Px.kb_bool_tuple, Px.kb_bool_dict, Px.kb_int_int, Px.kb_int_bool, Px.kb_int_str, Px.kb_int_list, Px.kb_int_tuple, Px.kb_int_dict, Px.kb_str_int, Px.kb_str_bool, Px.kb_str_str, Px.kb_str_list, Px.kb_str_tuple, Px.kb_str_dict, Px.kb_list_int, Px.kb_list_bool, Px.kb_list_str, Px.kb_list_list, Px.kb_list_tuple, Px.kb_list_dict, Px.kb_tuple_int, Px.kb_tuple_bool, Px.kb_tuple_str, Px.kb_tuple_list, Px.kb_tuple_tuple, Px.kb_tuple_dict, Px.kb_dict_int, Px.kb_dict_bool, Px.kb_dict_str, Px.kb_dict_list, Px.kb_dict_tuple, Px.kb_dict_dict, L2.upd_same, Px.updI, L2.ixN, List.set_cons_zero, List.set_cons_succ, List.length_cons, List.length_nil, Nat.reduceAdd, Nat.zero_add, L2.HO.lst.injEq, L2.HO.tup.injEq, L2.upd_upd, L2.V.int.injEq, L2.V.ref.injEq, L2.V.bl.injEq, L2.V.str.injEq, L2.V.ty.injEq, List.cons.injEq, and_true, true_and, and_false, false_and, or_false, false_or, exists_eq_left', exists_eq_left, exists_and_left, exists_const, exists_false, Option.some.injEq, decide_eq_true_eq, List.append_nil, List.cons_append, List.nil_append, Option.isSome_some, Bool.not_true, Bool.not_false, Bool.not_eq_true', Bool.not_eq_true, Bool.false_eq_true, decide_eq_false_iff_not, if_true, if_false, ite_true, ite_false, Int.reduceLE, Int.reduceLT, Int.reduceToNat, Int.cast_ofNat_Int, Bool.true_eq_false, eq_self, ↓reduceIte, reduceCtorEq, Px.aug, Px.ipi, Px.tri, Px.rcatth, Px.flh, Px.sfl, Px.met, Px.mak, *]
      exact k2 trivial _ _ (Px.Ext.rfl' H2) (.int _)
    · rw [lw, given_eq ss (0, 0) (fun _ => true) (fun p => PyData.int ((p.2 : Nat) : Int)), List.filter_eq_self.mpr (fun _ _ => rfl)] at hall
      have e4 : ss.map (fun p => PyData.int ((p.2 : Nat) : Int)) = (ss.map (fun p => ((p.2 : Nat) : Int))).map PyData.int := by rw [List.map_map]; rfl
      rw [e4] at hall
      have ey := hall.of_ints
      subst ey
      have hq2 : H2 q = some (.lst [.int (f0 : Int)]) := e2.get upd_same
      refine ⟨D, rfl, _, hq2, _, hy, ?_, fun p hp => k p _ ?_ ?_ ?_⟩
      · rw [List.length_map, List.length_map]
        have := ok.2.2.1
        exact Nat.le_trans (show 1 + ss.length ≤ 5 by omega) (by decide)
      · exact (((Px.Ext.rfl' H).new hq).trans e2).no hp
      · rw [upd_same]
        show _ = some (HO.lst (V.int ((f0 : Nat) : Int) :: ((ss.map (·.2)).map fun r => V.int ((r : Nat) : Int))))
        rw [List.map_map, List.map_map]
        rfl
      · exact (((Px.Ext.rfl' H).new hq).trans e2).new hp
end
end K03

namespace K03
open PySem PySem.Spec PyProof.Rows L2 Px
/-- the marks behind t turns -/
def mk (xs : List St) (t : Nat) : List V := (List.range xs.length).map fun k : Nat => V.bl (decide ((k : Int) ∈ wants xs t))
theorem mk_len (xs : List St) (t : Nat) : (mk xs t).length = xs.length := by unfold mk; rw [List.length_map, List.length_range]
theorem mk_at {xs : List St} {t k : Nat} (h : k < xs.length) : (mk xs t)[k]? = some (V.bl (decide ((k : Int) ∈ wants xs t))) := by
  unfold mk
  rw [List.getElem?_map, List.getElem?_range h]
  rfl
/-- within a turn, behind i of the numbers rs -/
def mkI (xs : List St) (t : Nat) (rs : List Nat) : List V := (List.range xs.length).map fun k : Nat => V.bl (decide ((k : Int) ∈ wants xs t ∨ k ∈ rs))
theorem mkI_nil (xs : List St) (t : Nat) : mkI xs t [] = mk xs t := by
  unfold mkI mk
  refine List.map_congr_left fun k _ => ?_
  simp
theorem mkI_len (xs : List St) (t : Nat) (rs : List Nat) : (mkI xs t rs).length = xs.length := by unfold mkI; rw [List.length_map, List.length_range]
theorem mkI_snoc (xs : List St) (t : Nat) (rs : List Nat) (r : Nat) : (mkI xs t rs).set r (V.bl true) = mkI xs t (rs ++ [r]) := by
  refine List.ext_getElem? fun i => ?_
  rw [List.getElem?_set, mkI_len]
  unfold mkI
  rw [List.getElem?_map, List.getElem?_map]
  by_cases h : i < xs.length
  · rw [List.getElem?_range h]
    by_cases e : r = i
    · subst e
      simp [h]
    · have e' : ¬ i = r := fun z => e z.symm
      simp [e, e']
  · rw [List.getElem?_eq_none (by rw [List.length_range]; omega)]
    by_cases e : r = i
    · subst e
      simp [h]
    · simp [e]
theorem ixN_n {n j : Nat} (h : j < n) : ixN n (j : Int) = some j := by
  unfold ixN
  rw [if_pos (by omega), if_pos (by omega)]
  rfl
theorem take_succ {α : Type} {ls : List α} {i : Nat} {l : α} (h : ls[i]? = some l) : ls.take (i + 1) = ls.take i ++ [l] := by
  rw [List.take_succ, h]
  rfl
theorem mkI_end {xs : List St} {t k : Nat} (hk : k = xs.length - 1 - t) (ht : t < xs.length) (h : (k : Int) ∈ wants xs t) : mkI xs t (refs (at_ xs k)) = mk xs (t + 1) := by
  unfold mkI mk
  refine List.map_congr_left fun j _ => ?_
  have e : (k : Int) = (xs.length : Int) - 1 - (t : Int) := by omega
  rw [e] at h
  have ew : wants xs (t + 1) = wants xs t ++ (refs (at_ xs k)).map (fun r => ((r : Nat) : Int)) := by
    rw [hk]
    exact if_pos h
  rw [ew]
  refine congrArg V.bl (decide_eq_decide.mpr ?_)
  rw [List.mem_append, List.mem_map]
  refine or_congr Iff.rfl ⟨fun q => ⟨j, q, rfl⟩, fun ⟨r, q, z⟩ => ?_⟩
  have : r = j := by omega
  rw [← this]
  exact q
theorem mk_no {xs : List St} {t k : Nat} (hk : k = xs.length - 1 - t) (ht : t < xs.length) (h : ¬ (k : Int) ∈ wants xs t) : mk xs t = mk xs (t + 1) := by
  have e : (k : Int) = (xs.length : Int) - 1 - (t : Int) := by omega
  rw [e] at h
  have ew : wants xs (t + 1) = wants xs t := if_neg h
  unfold mk
  rw [ew]
theorem of_bools {H : Hp} : ∀ {vs : List V} {bs : List Bool}, DtAll H vs (bs.map PyData.bool) → vs = bs.map V.bl
  | _, [], h => by cases h; rfl
  | _, b :: bs, h => by
    cases h with
    | cons a c =>
      cases a
      rw [of_bools c]
      rfl
/-- the list of steps at a -/
def Steps (H : Hp) (a : Addr) (xs : List St) : Prop := ∃ vs, H a = some (.lst vs) ∧ DtAll H vs (xs.map enc)
theorem Steps.len {H : Hp} {vs : List V} {xs : List St} (h : DtAll H vs (xs.map enc)) : vs.length = xs.length := by rw [h.len, List.length_map]
theorem Steps.at_ {H : Hp} {vs : List V} {xs : List St} {i : Nat} (h : DtAll H vs (xs.map enc)) (hi : i < xs.length) : ∃ v, vs[i]? = some v ∧ Dt H v (enc (at_ xs i)) := h.get' (show (xs.map enc)[i]? = some (enc (K03.at_ xs i)) by rw [List.getElem?_map, at_get hi]; rfl)
theorem Steps.mono {H H' : Hp} {a : Addr} {xs : List St} (h : Steps H a xs) (e : Px.Ext H H') : Steps H' a xs := by
  obtain ⟨vs, h1, h2⟩ := h
  exact ⟨vs, e.get h1, h2.mono e.tu⟩
theorem Steps.isS {H : Hp} {a : Addr} {xs : List St} (h : Steps H a xs) : (H a).isSome = true := by
  obtain ⟨vs, h1, h2⟩ := h
  rw [h1]
  rfl
section
variable {P : Program} {w : World} {K : PySem.W.Frag} {mg : Str → Option Value} {base : Heap} {C : Addr}
def spMarks (vs : List V) (H : Hp) (Q : VK) (_ : XK) : Prop := ∃ (a : Addr) (xs : List St), vs = [.ref a] ∧ Steps H a xs ∧ Wf xs ∧ ∀ p H', H p = none → H' p = some (.lst (mk xs xs.length)) → Px.Ext H H' → Q (.ref p) H'
def IMk (a m : Addr) (xs : List St) (vs : List V) (H : Hp) (t : Nat) (σ' : L2.St) (H' : Hp) : Prop := (∃ v v', σ' = [some (.ref a), some (.int ((xs.length : Int) - 1)), some (.ref m), v, v']) ∧ Px.Ext H H' ∧ H m = none ∧ H' m = some (.lst (mk xs t))
def IMi (a m p : Addr) (xs : List St) (k t : Nat) (H H1 : Hp) (i : Nat) (σ' : L2.St) (H' : Hp) : Prop := (∃ v', σ' = [some (.ref a), some (.int ((xs.length : Int) - 1)), some (.ref m), some (.int (k : Int)), v']) ∧ Px.Ext H H' ∧ H' p = H1 p ∧ H' m = some (.lst (mkI xs t ((refs (at_ xs k)).take i)))
theorem ok_marks (B : Bn mg) (F : FunAt K mg "kept_marks" s_kept_marks) (D_used_numbers : Def P w K mg base CX0 1 "used_numbers" ["step"] spUsed) : Def P w K mg base CX0 2 "kept_marks" ["steps"] spMarks := by
  refine F.ok sc_kept_marks (fun _ _ _ _ _ _ us hl => match us, hl with | [_], _ => rfl) (fun vs H Q E h => by obtain ⟨_, _, rfl, _⟩ := h; rfl) (fun f cdv A outer s H vs Q E hr h => ?_)
  obtain ⟨a, xs, rfl, ⟨ws, ha, hws⟩, wf, k⟩ := h
  have lw := Steps.len hws
  have l40 := wf.1
  refine ⟨_, pss_cons (ps_set (i := 1) sc_kept_marks.nd rfl (Or.inr rfl) (pe_op op_sub (pe_callB len_H rfl B.len (by decide +kernel) (pa_cons (pv 0) pa_nil)) pe_int)) (
  pss_cons (ps_setLc (i := 2) (own := [("k", 3)]) (g := gName 3) rfl sc_kept_marks.nd rfl rfl (sw_true rfl rfl rfl (by decide +kernel)) (pi_range1 rfl B.range (pa_cons (pe_callB len_H rfl B.len (by decide +kernel) (pa_cons (pv 0) pa_nil)) pa_nil)) (blkOk_by (own := [("k", 3)]) (N := ["steps", "last", "marks", "k", "number"]) (sc := defScope s_kept_marks) (by decide +kernel)) (fun _ _ _ _ _ => (pg_name (i := 3) sc_kept_marks.nd rfl (Or.inl rfl))) (fun _ _ _ _ _ => pts_nil) (fun _ _ _ _ _ => (pe_cmpR op_eq (pv 3) (pv 1) (nomark _)))) (
  pss_cons (ps_for PassesOwn.never rfl (pi_revR rfl B.reversed (prg_1 rfl B.range (pe_callB len_H rfl B.len (by decide +kernel) (pa_cons (pv 0) pa_nil)))) (pg_name (i := 3) sc_kept_marks.nd rfl (Or.inl rfl)) (
  pss_one (ps_if (pt_val (pe_ix ix_H (pv 2) (pv 3) (fun _ _ => rfl))) (pss_one (ps_for PassesOwn.never rfl (pi_seq (pe_fn D_used_numbers hr pass0 (pa_cons (pe_ix ix_H (pv 0) (pv 3) (fun _ _ => rfl)) pa_nil))) (pg_name (i := 4) sc_kept_marks.nd rfl (Or.inl rfl)) (
  pss_one (ps_asg pe_bl (pg_sub (pv 2) (pv 4) set_list))))) (pss_nil)))) (
  pss_one (ps_ret (pv 2))))), ?_⟩
  show tSeq _ _ _ [some (.ref a), none, none, none, none] H
  refine go_seq ?_
  simp only [decide_true, decide_false, List.map_cons, List.map_nil, Option.map_none, Option.map_some, Option.getD_none, Option.getD_some, Px.dg2, Px.dg1, Px.dg, Px.din, Px.dnotin, Px.dnew, Px.dput, Px.isD_is, Px.dget_i, Px.dget_s, Px.dput_i, Px.dput_s, Px.dOf_d, Px.rtup, Px.rlist, Px.rsl, Px.rsort, Px.rcat, Px.rapp, Px.rrev, Px.sl_ap, Px.nop, Px.part, Px.yes, Px.tyl, Px.isL_l, Px.isT_t, Px.isL_t, Px.isT_l, Px.isD_d, Px.isT_d, Px.inV_ints, Px.flat_ints, Px.flatV_i, Px.wipe_cons, Px.wipe_nil, Px.gtup, Px.gcons, Px.gnil, gt_iff_lt, ge_iff_le, Px.we, Px.wonly, Px.was, Px.cxK, not_true_eq_false, and_self, true_implies, false_implies, implies_true, Px.e0, and_assoc, imp_false, not_false_eq_true, ne_eq, Px.rgcd, Px.rixl, Px.rixt, Px.v0, Px.v1, Px.v2, Px.v3, Px.v4, Px.v5, Px.v6, Px.v7, Px.v8, Px.v9, Px.v10, Px.v11, Px.v12, Px.v13, Px.v14, Px.v15, Px.v16, Px.v17, Px.v18, Px.v19, Px.v20, Px.v21, Px.v22, Px.v23, Px.c0, Px.asg, Px.gnm, Px.ret, Px.retN, Px.drop, Px.nxt, Px.brk, Px.cnt, Px.ifs, Px.op, Px.un, Px.tst, Px.tbl, Px.tand, Px.tor, Px.tnot, Px.andv, Px.orv, Px.notv, Px.tif, Px.tup, Px.lst, Px.nil, Px.cons, Px.cal, Px.calS, Px.cb, Px.par, Px.gsub, Px.bits, Px.bm, Px.bm0, Px.ri, Px.ri0, Px.ru, Px.req, Px.rne, Px.rix, Px.rlen, Px.rin, Px.rsetl, Px.risi, Px.tyH_n, Px.tyH_b, Px.tyH_i, Px.tyH_s, Px.tyH_r, Px.seqH_t, Px.seqH_l, Px.seqH_fl, Px.sc_ii, Px.sc_bb, Px.sc_ss, Px.atI0, Px.atI1, Px.atI2, Px.atI3, Px.atI4, Px.atI5, Px.atI6, Px.atI7, Px.kb_NoneType_int, Px.kb_NoneType_bool, Px.kb_NoneType_str, Px.kb_NoneType_list, Px.kb_NoneType_tuple, Px.kb_NoneType_dict, Px.kb_bool_int, Px.kb_bool_bool, Px.kb_bool_str, Px.kb_bool_list, Px.kb_bool_tuple, Px.kb_bool_dict, Px.kb_int_int, Px.kb_int_bool, Px.kb_int_str, Px.kb_int_list, Px.kb_int_tuple, Px.kb_int_dict, Px.kb_str_int, Px.kb_str_bool, Px.kb_str_str, Px.kb_str_list, Px.kb_str_tuple, Px.kb_str_dict, Px.kb_list_int, Px.kb_list_bool, Px.kb_list_str, Px.kb_list_list, Px.kb_list_tuple, Px.kb_list_dict, Px.kb_tuple_int, Px.kb_tuple_bool, Px.kb_tuple_str, Px.kb_tuple_list, Px.kb_tuple_tuple, Px.kb_tuple_dict, Px.kb_dict_int, Px.kb_dict_bool, Px.kb_dict_str, Px.kb_dict_list, Px.kb_dict_tuple, Px.kb_dict_dict, L2.upd_same, Px.updI, L2.ixN, List.set_cons_zero, List.set_cons_succ, List.length_cons, List.length_nil, Nat.reduceAdd, Nat.zero_add, L2.HO.lst.injEq, L2.HO.tup.injEq, L2.upd_upd, L2.V.int.injEq, L2.V.ref.injEq, L2.V.bl.injEq, L2.V.str.injEq, L2.V.ty.injEq, List.cons.injEq, and_true, true_and, and_false, false_and, or_false, false_or, exists_eq_left', exists_eq_left, exists_and_left, exists_const, exists_false, Option.some.injEq, decide_eq_true_eq, List.append_nil, List.cons_append, List.nil_append, Option.isSome_some, Bool.not_true, Bool.not_false, Bool.not_eq_true', Bool.not_eq_true, Bool.false_eq_true, decide_eq_false_iff_not, if_true, if_false, ite_true, ite_false, Int.reduceLE, Int.reduceLT, Int.reduceToNat, Int.cast_ofNat_Int, Bool.true_eq_false, eq_self, ↓reduceIte, reduceCtorEq, Px.aug, Px.ipi, Px.tri, Px.rcatth, Px.flh, Px.sfl, Px.met, Px.mak, *]
  refine go_seq ?_
  simp only [decide_true, decide_false, List.map_cons, List.map_nil, Option.map_none, Option.map_some, Option.getD_none, Option.getD_some, Px.dg2, Px.dg1, Px.dg, Px.din, Px.dnotin, Px.dnew, Px.dput, Px.isD_is, Px.dget_i, Px.dget_s, Px.dput_i, Px.dput_s, Px.dOf_d, Px.rtup, Px.rlist, Px.rsl, Px.rsort, Px.rcat, Px.rapp, Px.rrev, Px.sl_ap, Px.nop, Px.part, Px.yes, Px.tyl, Px.isL_l, Px.isT_t, Px.isL_t, Px.isT_l, Px.isD_d, Px.isT_d, Px.inV_ints, Px.flat_ints, Px.flatV_i, Px.wipe_cons, Px.wipe_nil, Px.gtup, Px.gcons, Px.gnil, gt_iff_lt, ge_iff_le, Px.we, Px.wonly, Px.was, Px.cxK, not_true_eq_false, and_self, true_implies, false_implies, implies_true, Px.e0, and_assoc, imp_false, not_false_eq_true, ne_eq, Px.rgcd, Px.rixl, Px.rixt, Px.v0, Px.v1, Px.v2, Px.v3, Px.v4, Px.v5, Px.v6, Px.v7, Px.v8, Px.v9, Px.v10, Px.v11, Px.v12, Px.v13, Px.v14, Px.v15, Px.v16, Px.v17, Px.v18, Px.v19, Px.v20, Px.v21, Px.v22, Px.v23, Px.c0, Px.asg, Px.gnm, Px.ret, Px.retN, Px.drop, Px.nxt, Px.brk, Px.cnt, Px.ifs, Px.op, Px.un, Px.tst, Px.tbl, Px.tand, Px.tor, Px.tnot, Px.andv, Px.orv, Px.notv, Px.tif, Px.tup, Px.lst, Px.nil, Px.cons, Px.cal, Px.calS, Px.cb, Px.par, Px.gsub, Px.bits, Px.bm, Px.bm0, Px.ri, Px.ri0, Px.ru, Px.req, Px.rne, Px.rix, Px.rlen, Px.rin, Px.rsetl, Px.risi, Px.tyH_n, Px.tyH_b, Px.tyH_i, Px.tyH_s, Px.tyH_r, Px.seqH_t, Px.seqH_l, Px.seqH_fl, Px.sc_ii, Px.sc_bb, Px.sc_ss, Px.atI0, Px.atI1, Px.atI2, Px.atI3, Px.atI4, Px.atI5, Px.atI6, Px.atI7, Px.kb_NoneType_int, Px.kb_NoneType_bool, Px.kb_NoneType_str, Px.kb_NoneType_list, Px.kb_NoneType_tuple, Px.kb_NoneType_dict, Px.kb_bool_int, Px.kb_bool_bool, Px.kb_bool_str, Px.kb_bool_list, Px.kb_bool_tuple, Px.kb_bool_dict, Px.kb_int_int, Px.kb_int_bool, Px.kb_int_str, Px.kb_int_list, Px.kb_int_tuple, Px.kb_int_dict, Px.kb_str_int, Px.kb_str_bool, Px.kb_str_str, Px.kb_str_list, Px.kb_str_tuple, Px.kb_str_dict, Px.kb_list_int, Px.kb_list_bool, Px.kb_list_str, Px.kb_list_list, Px.kb_list_tuple, Px.kb_list_dict, Px.kb_tuple_int, Px.kb_tuple_bool, Px.kb_tuple_str, Px.kb_tuple_list, Px.kb_tuple_tuple, Px.kb_tuple_dict, Px.kb_dict_int, Px.kb_dict_bool, Px.kb_dict_str, Px.kb_dict_list, Px.kb_dict_tuple, Px.kb_dict_dict, L2.upd_same, Px.updI, L2.ixN, List.set_cons_zero, List.set_cons_succ, List.length_cons, List.length_nil, Nat.reduceAdd, Nat.zero_add, L2.HO.lst.injEq, L2.HO.tup.injEq, L2.upd_upd, L2.V.int.injEq, L2.V.ref.injEq, L2.V.bl.injEq, L2.V.str.injEq, L2.V.ty.injEq, List.cons.injEq, and_true, true_and, and_false, false_and, or_false, false_or, exists_eq_left', exists_eq_left, exists_and_left, exists_const, exists_false, Option.some.injEq, decide_eq_true_eq, List.append_nil, List.cons_append, List.nil_append, Option.isSome_some, Bool.not_true, Bool.not_false, Bool.not_eq_true', Bool.not_eq_true, Bool.false_eq_true, decide_eq_false_iff_not, if_true, if_false, ite_true, ite_false, Int.reduceLE, Int.reduceLT, Int.reduceToNat, Int.cast_ofNat_Int, Bool.true_eq_false, eq_self, ↓reduceIte, reduceCtorEq, Px.aug, Px.ipi, Px.tri, Px.rcatth, Px.flh, Px.sfl, Px.met, Px.mak]
  refine lc_rng (fun _ => true) (fun i => .bool (decide ((i : Int) = (xs.length : Int) - 1))) (xs.length : Int) ?_ ⟨by omega, by omega⟩ (fun i hi => ?_) (fun D zs H2 hD e2 hz hall => ?_)
  · intro Q hQ
    simp only [decide_true, decide_false, List.map_cons, List.map_nil, Option.map_none, Option.map_some, Option.getD_none, Option.getD_some, Px.dg2, Px.dg1, Px.dg, Px.din, Px.dnotin, Px.dnew, Px.dput, Px.isD_is, Px.dget_i, Px.dget_s, Px.dput_i, Px.dput_s, Px.dOf_d, Px.rtup, Px.rlist, Px.rsl, Px.rsort, Px.rcat, Px.rapp, Px.rrev, Px.sl_ap, Px.nop, Px.part, Px.yes, Px.tyl, Px.isL_l, Px.isT_t, Px.isL_t, Px.isT_l, Px.isD_d, Px.isT_d, Px.inV_ints, Px.flat_ints, Px.flatV_i, Px.wipe_cons, Px.wipe_nil, Px.gtup, Px.gcons, Px.gnil, gt_iff_lt, ge_iff_le, Px.we, Px.wonly, Px.was, Px.cxK, not_true_eq_false, and_self, true_implies, false_implies, implies_true, Px.e0, and_assoc, imp_false, not_false_eq_true, ne_eq, Px.rgcd, Px.rixl, Px.rixt, Px.v0, Px.v1, Px.v2, Px.v3, Px.v4, Px.v5, Px.v6, Px.v7, Px.v8, Px.v9, Px.v10, Px.v11, Px.v12, Px.v13, Px.v14, Px.v15, Px.v16, Px.v17, Px.v18, Px.v19, Px.v20, Px.v21, Px.v22, Px.v23, Px.c0, Px.asg, Px.gnm, Px.ret, Px.retN, Px.drop, Px.nxt, Px.brk, Px.cnt, Px.ifs, Px.op, Px.un, Px.tst, Px.tbl, Px.tand, Px.tor, Px.tnot, Px.andv, Px.orv, Px.notv, Px.tif, Px.tup, Px.lst, Px.nil, Px.cons, Px.cal, Px.calS, Px.cb, Px.par, Px.gsub, Px.bits, Px.bm, Px.bm0, Px.ri, Px.ri0, Px.ru, Px.req, Px.rne, Px.rix, Px.rlen, Px.rin, Px.rsetl, Px.risi, Px.tyH_n, Px.tyH_b, Px.tyH_i, Px.tyH_s, Px.tyH_r, Px.seqH_t, Px.seqH_l, Px.seqH_fl, Px.sc_ii, Px.sc_bb, Px.sc_ss, Px.atI0, Px.atI1, Px.atI2, Px.atI3, Px.atI4, Px.atI5, Px.atI6, Px.atI7, Px.kb_NoneType_int, Px.kb_NoneType_bool, Px.kb_NoneType_str, Px.kb_NoneType_list, Px.kb_NoneType_tuple, Px.kb_NoneType_dict, Px.kb_bool_int, Px.kb_bool_bool, Px.kb_bool_str, Px.kb_bool_list, Px.kb_bool_tuple, Px.kb_bool_dict, Px.kb_int_int, Px.kb_int_bool, Px.kb_int_str, Px.kb_int_list, Px.kb_int_tuple, Px.kb_int_dict, Px.kb_str_int, Px.kb_str_bool, Px.kb_str_str, Px.kb_str_list, Px.kb_str_tuple, Px.kb_str_dict, Px.kb_list_int, Px.kb_list_bool, Px.kb_list_str, Px.kb_list_list, Px.kb_list_tuple, Px.kb_list_dict, Px.kb_tuple_int, Px.kb_tuple_bool, Px.kb_tuple_str, Px.kb_tuple_list, Px.kb_tuple_tuple, Px.kb_tuple_dict, Px.kb_dict_int, Px.kb_dict_bool, Px.kb_dict_str, Px.kb_dict_list, Px.kb_dict_tuple, Px.kb_dict_dict, L2.upd_same, Px.updI, L2.ixN, List.set_cons_zero, List.set_cons_succ, List.length_cons, List.length_nil, Nat.reduceAdd, Nat.zero_add, L2.HO.lst.injEq, L2.HO.tup.injEq, L2.upd_upd, L2.V.int.injEq, L2.V.ref.injEq, L2.V.bl.injEq, L2.V.str.injEq, L2.V.ty.injEq, List.cons.injEq, and_true, true_and, and_false, false_and, or_false, false_or, exists_eq_left', exists_eq_left, exists_and_left, exists_const, exists_false, Option.some.injEq, decide_eq_true_eq, List.append_nil, List.cons_append, List.nil_append, Option.isSome_some, Bool.not_true, Bool.not_false, Bool.not_eq_true', Bool.not_eq_true, Bool.false_eq_true, decide_eq_false_iff_not, if_true, if_false, ite_true, ite_false, Int.reduceLE, Int.reduceLT, Int.reduceToNat, Int.cast_ofNat_Int, Bool.true_eq_false, eq_self, ↓reduceIte, reduceCtorEq, Px.aug, Px.ipi, Px.tri, Px.rcatth, Px.flh, Px.sfl, Px.met, Px.mak, *]
  · intro H2 R2 E2 e2 _ k2
    have ha2 := e2.get ha
    simp only [decide_true, decide_false, List.map_cons, List.map_nil, Option.map_none, Option.map_some, Option.getD_none, Option.getD_some, Px.dg2, Px.dg1, Px.dg, Px.din, Px.dnotin, Px.dnew, Px.dput, Px.isD_is, Px.dget_i, Px.dget_s, Px.dput_i, Px.dput_s, Px.dOf_d, Px.rtup, Px.rlist, Px.rsl, Px.rsort, Px.rcat, Px.rapp, Px.rrev, Px.sl_ap, Px.nop, Px.part, Px.yes, Px.tyl, Px.isL_l, Px.isT_t, Px.isL_t, Px.isT_l, Px.isD_d, Px.isT_d, Px.inV_ints, Px.flat_ints, Px.flatV_i, Px.wipe_cons, Px.wipe_nil, Px.gtup, Px.gcons, Px.gnil, gt_iff_lt, ge_iff_le, Px.we, Px.wonly, Px.was, Px.cxK, not_true_eq_false, and_self, true_implies, false_implies, implies_true, Px.e0, and_assoc, imp_false, not_false_eq_true, ne_eq, Px.rgcd, Px.rixl, Px.rixt, Px.v0, Px.v1, Px.v2, Px.v3, Px.v4, Px.v5, Px.v6, Px.v7, Px.v8, Px.v9, Px.v10, Px.v11, Px.v12, Px.v13, Px.v14, Px.v15, Px.v16, Px.v17, Px.v18, Px.v19, Px.v20, Px.v21, Px.v22, Px.v23, Px.c0, Px.asg, Px.gnm, Px.ret, Px.retN, Px.drop, Px.nxt, Px.brk, Px.cnt, Px.ifs, Px.op, Px.un, Px.tst, Px.tbl, Px.tand, Px.tor, Px.tnot, Px.andv, Px.orv, Px.notv, Px.tif, Px.tup, Px.lst, Px.nil, Px.cons, Px.cal, Px.calS, Px.cb, Px.par, Px.gsub, Px.bits, Px.bm, Px.bm0, Px.ri, Px.ri0, Px.ru, Px.req, Px.rne, Px.rix, Px.rlen, Px.rin, Px.rsetl, Px.risi, Px.tyH_n, Px.tyH_b, Px.tyH_i, Px.tyH_s, Px.tyH_r, Px.seqH_t, Px.seqH_l, Px.seqH_fl, Px.sc_ii, Px.sc_bb, Px.sc_ss, Px.atI0, Px.atI1, Px.atI2, Px.atI3, Px.atI4, Px.atI5, Px.atI6, Px.atI7, Px.kb_NoneType_int, Px.kb_NoneType_bool, Px.kb_NoneType_str, Px.kb_NoneType_list, Px.kb_NoneType_tuple, Px.kb_NoneType_dict, Px.kb_bool_int, Px.kb_bool_bool, Px.kb_bool_str, Px.kb_bool_list, Px.kb_bool_tuple, Px.kb_bool_dict, Px.kb_int_int, Px.kb_int_bool, Px.kb_int_str, Px.kb_int_list, Px.kb_int_tuple, Px.kb_int_dict, Px.kb_str_int, Px.kb_str_bool, Px.kb_str_str, Px.kb_str_list, Px.kb_str_tuple, Px.kb_str_dict, Px.kb_list_int, Px.kb_list_bool, Px.kb_list_str, Px.kb_list_list, Px.kb_list_tuple, Px.kb_list_dict, Px.kb_tuple_int, Px.kb_tuple_bool, Px.kb_tuple_str, Px.kb_tuple_list, Px.kb_tuple_tuple, Px.kb_tuple_dict, Px.kb_dict_int, Px.kb_dict_bool, Px.kb_dict_str, Px.kb_dict_list, Px.kb_dict_tuple, Px.kb_dict_dict, L2.upd_same, Px.updI, L2.ixN, List.set_cons_zero, List.set_cons_succ, List.length_cons, List.length_nil, Nat.reduceAdd, Nat.zero_add, L2.HO.lst.injEq, L2.HO.tup.injEq, L2.upd_upd, L2.V.int.injEq, L2.V.ref.injEq, L2.V.bl.injEq, L2.V.str.injEq, L2.V.ty.injEq, List.cons.injEq, and_true, true_and, and_false, false_and, or_false, false_or, exists_eq_left', exists_eq_left, exists_and_left, exists_const, exists_false, Option.some.injEq, decide_eq_true_eq, List.append_nil, List.cons_append, List.nil_append, Option.isSome_some, Bool.not_true, Bool.not_false, Bool.not_eq_true', Bool.not_eq_true, Bool.false_eq_true, decide_eq_false_iff_not, if_true, if_false, ite_true, ite_false, Int.reduceLE, Int.reduceLT, Int.reduceToNat, Int.cast_ofNat_Int, Bool.true_eq_false, eq_self, ↓reduceIte, reduceCtorEq, Px.aug, Px.ipi, Px.tri, Px.rcatth, Px.flh, Px.sfl, Px.met, Px.mak, *]
    exact k2 rfl _ _ (Px.Ext.rfl' H2) (.bl _)
  · rw [show (xs.length : Int).toNat = xs.length from Int.toNat_natCast _, given_all] at hall
    have e3 : ((List.range xs.length).map fun i : Nat => PyData.bool (decide ((i : Int) = (xs.length : Int) - 1))) = ((List.range xs.length).map fun i : Nat => decide ((i : Int) = (xs.length : Int) - 1)).map PyData.bool := by rw [List.map_map]; rfl
    rw [e3] at hall
    have ez := of_bools hall
    have ez' : zs = mk xs 0 := by
      rw [ez]
      unfold mk wants
      rw [List.map_map]
      refine List.map_congr_left fun k _ => ?_
      show V.bl _ = V.bl _
      refine congrArg V.bl (decide_eq_decide.mpr ?_)
      rw [List.mem_singleton]
    subst ez'
    clear ez hall e3
    have ha2 := e2.get ha
    refine go_seq ?_
    refine for_rev (IMk a D xs ws H) xs.length ?_ (by omega) ⟨⟨_, _, rfl⟩, e2, hD, hz⟩ ?_ ?_
    · intro R hR
      simp only [decide_true, decide_false, List.map_cons, List.map_nil, Option.map_none, Option.map_some, Option.getD_none, Option.getD_some, Px.dg2, Px.dg1, Px.dg, Px.din, Px.dnotin, Px.dnew, Px.dput, Px.isD_is, Px.dget_i, Px.dget_s, Px.dput_i, Px.dput_s, Px.dOf_d, Px.rtup, Px.rlist, Px.rsl, Px.rsort, Px.rcat, Px.rapp, Px.rrev, Px.sl_ap, Px.nop, Px.part, Px.yes, Px.tyl, Px.isL_l, Px.isT_t, Px.isL_t, Px.isT_l, Px.isD_d, Px.isT_d, Px.inV_ints, Px.flat_ints, Px.flatV_i, Px.wipe_cons, Px.wipe_nil, Px.gtup, Px.gcons, Px.gnil, gt_iff_lt, ge_iff_le, Px.we, Px.wonly, Px.was, Px.cxK, not_true_eq_false, and_self, true_implies, false_implies, implies_true, Px.e0, and_assoc, imp_false, not_false_eq_true, ne_eq, Px.rgcd, Px.rixl, Px.rixt, Px.v0, Px.v1, Px.v2, Px.v3, Px.v4, Px.v5, Px.v6, Px.v7, Px.v8, Px.v9, Px.v10, Px.v11, Px.v12, Px.v13, Px.v14, Px.v15, Px.v16, Px.v17, Px.v18, Px.v19, Px.v20, Px.v21, Px.v22, Px.v23, Px.c0, Px.asg, Px.gnm, Px.ret, Px.retN, Px.drop, Px.nxt, Px.brk, Px.cnt, Px.ifs, Px.op, Px.un, Px.tst, Px.tbl, Px.tand, Px.tor, Px.tnot, Px.andv, Px.orv, Px.notv, Px.tif, Px.tup, Px.lst, Px.nil, Px.cons, Px.cal, Px.calS, Px.cb, Px.par, Px.gsub, Px.bits, Px.bm, Px.bm0, Px.ri, Px.ri0, Px.ru, Px.req, Px.rne, Px.rix, Px.rlen, Px.rin, Px.rsetl, Px.risi, Px.tyH_n, Px.tyH_b, Px.tyH_i, Px.tyH_s, Px.tyH_r, Px.seqH_t, Px.seqH_l, Px.seqH_fl, Px.sc_ii, Px.sc_bb, Px.sc_ss, Px.atI0, Px.atI1, Px.atI2, Px.atI3, Px.atI4, Px.atI5, Px.atI6, Px.atI7, Px.kb_NoneType_int, Px.kb_NoneType_bool, Px.kb_NoneType_str, Px.kb_NoneType_list, Px.kb_NoneType_tuple, Px.kb_NoneType_dict, Px.kb_bool_int, Px.kb_bool_bool, Px.kb_bool_str, Px.kb_bool_list, Px.kb_bool_tuple, Px.kb_bool_dict, Px.kb_int_int, Px.kb_int_bool, Px.kb_int_str, Px.kb_int_list, Px.kb_int_tuple, Px.kb_int_dict, Px.kb_str_int, Px.kb_str_bool, Px.kb_str_str, Px.kb_str_list, Px.kb_str_tuple, Px.kb_str_dict, Px.kb_list_int, Px.kb_list_bool, Px.kb_list_str, Px.kb_list_list, Px.kb_list_tuple, Px.kb_list_dict, Px.kb_tuple_int, Px.kb_tuple_bool, Px.kb_tuple_str, Px.kb_tuple_list, Px.kb_tuple_tuple, Px.kb_tuple_dict, Px.kb_dict_int, Px.kb_dict_bool, Px.kb_dict_str, Px.kb_dict_list, Px.kb_dict_tuple, Px.kb_dict_dict, L2.upd_same, Px.updI, L2.ixN, List.set_cons_zero, List.set_cons_succ, List.length_cons, List.length_nil, Nat.reduceAdd, Nat.zero_add, L2.HO.lst.injEq, L2.HO.tup.injEq, L2.upd_upd, L2.V.int.injEq, L2.V.ref.injEq, L2.V.bl.injEq, L2.V.str.injEq, L2.V.ty.injEq, List.cons.injEq, and_true, true_and, and_false, false_and, or_false, false_or, exists_eq_left', exists_eq_left, exists_and_left, exists_const, exists_false, Option.some.injEq, decide_eq_true_eq, List.append_nil, List.cons_append, List.nil_append, Option.isSome_some, Bool.not_true, Bool.not_false, Bool.not_eq_true', Bool.not_eq_true, Bool.false_eq_true, decide_eq_false_iff_not, if_true, if_false, ite_true, ite_false, Int.reduceLE, Int.reduceLT, Int.reduceToNat, Int.cast_ofNat_Int, Bool.true_eq_false, eq_self, ↓reduceIte, reduceCtorEq, Px.aug, Px.ipi, Px.tri, Px.rcatth, Px.flh, Px.sfl, Px.met, Px.mak, *]
    · rintro i σ' H3 hi ⟨⟨v, v', rfl⟩, e3, _, hm⟩
      have ha3 := e3.get ha
      have lk : xs.length - 1 - i < xs.length := by omega
      obtain ⟨y, hy, dy⟩ := Steps.at_ hws lk
      have ay := atI_nat hy
      have am := atI_nat (mk_at (t := i) lk)
      simp only [decide_true, decide_false, List.map_cons, List.map_nil, Option.map_none, Option.map_some, Option.getD_none, Option.getD_some, Px.dg2, Px.dg1, Px.dg, Px.din, Px.dnotin, Px.dnew, Px.dput, Px.isD_is, Px.dget_i, Px.dget_s, Px.dput_i, Px.dput_s, Px.dOf_d, Px.rtup, Px.rlist, Px.rsl, Px.rsort, Px.rcat, Px.rapp, Px.rrev, Px.sl_ap, Px.nop, Px.part, Px.yes, Px.tyl, Px.isL_l, Px.isT_t, Px.isL_t, Px.isT_l, Px.isD_d, Px.isT_d, Px.inV_ints, Px.flat_ints, Px.flatV_i, Px.wipe_cons, Px.wipe_nil, Px.gtup, Px.gcons, Px.gnil, gt_iff_lt, ge_iff_le, Px.we, Px.wonly, Px.was, Px.cxK, not_true_eq_false, and_self, true_implies, false_implies, implies_true, Px.e0, and_assoc, imp_false, not_false_eq_true, ne_eq, Px.rgcd, Px.rixl, Px.rixt, Px.v0, Px.v1, Px.v2, Px.v3, Px.v4, Px.v5, Px.v6, Px.v7, Px.v8, Px.v9, Px.v10, Px.v11, Px.v12, Px.v13, Px.v14, Px.v15, Px.v16, Px.v17, Px.v18, Px.v19, Px.v20, Px.v21, Px.v22, Px.v23, Px.c0, Px.asg, Px.gnm, Px.ret, Px.retN, Px.drop, Px.nxt, Px.brk, Px.cnt, Px.ifs, Px.op, Px.un, Px.tst, Px.tbl, Px.tand, Px.tor, Px.tnot, Px.andv, Px.orv, Px.notv, Px.tif, Px.tup, Px.lst, Px.nil, Px.cons, Px.cal, Px.calS, Px.cb, Px.par, Px.gsub, Px.bits, Px.bm, Px.bm0, Px.ri, Px.ri0, Px.ru, Px.req, Px.rne, Px.rix, Px.rlen, Px.rin, Px.rsetl, Px.risi, Px.tyH_n, Px.tyH_b, Px.tyH_i, Px.tyH_s, Px.tyH_r, Px.seqH_t, Px.seqH_l, Px.seqH_fl, Px.sc_ii, Px.sc_bb, Px.sc_ss, Px.atI0, Px.atI1, Px.atI2, Px.atI3, Px.atI4, Px.atI5, Px.atI6, Px.atI7, Px.kb_NoneType_int, Px.kb_NoneType_bool, Px.kb_NoneType_str, Px.kb_NoneType_list, Px.kb_NoneType_tuple, Px.kb_NoneType_dict, Px.kb_bool_int, Px.kb_bool_bool, Px.kb_bool_str, Px.kb_bool_list, Px.kb_bool_tuple, Px.kb_bool_dict, Px.kb_int_int, Px.kb_int_bool, Px.kb_int_str, Px.kb_int_list, Px.kb_int_tuple, Px.kb_int_dict, Px.kb_str_int, Px.kb_str_bool, Px.kb_str_str, Px.kb_str_list, Px.kb_str_tuple, Px.kb_str_dict, Px.kb_list_int, Px.kb_list_bool, Px.kb_list_str, Px.kb_list_list, Px.kb_list_tuple, Px.kb_list_dict, Px.kb_tuple_int, Px.kb_tuple_bool, Px.kb_tuple_str, Px.kb_tuple_list, Px.kb_tuple_tuple, Px.kb_tuple_dict, Px.kb_dict_int, Px.kb_dict_bool, Px.kb_dict_str, Px.kb_dict_list, Px.kb_dict_tuple, Px.kb_dict_dict, L2.upd_same, Px.updI, L2.ixN, List.set_cons_zero, List.set_cons_succ, List.length_cons, List.length_nil, Nat.reduceAdd, Nat.zero_add, L2.HO.lst.injEq, L2.HO.tup.injEq, L2.upd_upd, L2.V.int.injEq, L2.V.ref.injEq, L2.V.bl.injEq, L2.V.str.injEq, L2.V.ty.injEq, List.cons.injEq, and_true, true_and, and_false, false_and, or_false, false_or, exists_eq_left', exists_eq_left, exists_and_left, exists_const, exists_false, Option.some.injEq, decide_eq_true_eq, List.append_nil, List.cons_append, List.nil_append, Option.isSome_some, Bool.not_true, Bool.not_false, Bool.not_eq_true', Bool.not_eq_true, Bool.false_eq_true, decide_eq_false_iff_not, if_true, if_false, ite_true, ite_false, Int.reduceLE, Int.reduceLT, Int.reduceToNat, Int.cast_ofNat_Int, Bool.true_eq_false, eq_self, ↓reduceIte, reduceCtorEq, Px.aug, Px.ipi, Px.tri, Px.rcatth, Px.flh, Px.sfl, Px.met, Px.mak, *]
      refine go_if (fun hw => ?_) (fun hw => ⟨⟨_, _, rfl⟩, e3, hD, by rw [hm, mk_no rfl hi hw]⟩)
      refine for_seqL (M := fun p rs H4 => rs = (refs (at_ xs (xs.length - 1 - i))).map (fun r => V.int ((r : Nat) : Int)) ∧ H3 p = none ∧ H4 p = some (.lst rs) ∧ Px.Ext H3 H4) ?_ ?_
      · intro R hR
        simp only [decide_true, decide_false, List.map_cons, List.map_nil, Option.map_none, Option.map_some, Option.getD_none, Option.getD_some, Px.dg2, Px.dg1, Px.dg, Px.din, Px.dnotin, Px.dnew, Px.dput, Px.isD_is, Px.dget_i, Px.dget_s, Px.dput_i, Px.dput_s, Px.dOf_d, Px.rtup, Px.rlist, Px.rsl, Px.rsort, Px.rcat, Px.rapp, Px.rrev, Px.sl_ap, Px.nop, Px.part, Px.yes, Px.tyl, Px.isL_l, Px.isT_t, Px.isL_t, Px.isT_l, Px.isD_d, Px.isT_d, Px.inV_ints, Px.flat_ints, Px.flatV_i, Px.wipe_cons, Px.wipe_nil, Px.gtup, Px.gcons, Px.gnil, gt_iff_lt, ge_iff_le, Px.we, Px.wonly, Px.was, Px.cxK, not_true_eq_false, and_self, true_implies, false_implies, implies_true, Px.e0, and_assoc, imp_false, not_false_eq_true, ne_eq, Px.rgcd, Px.rixl, Px.rixt, Px.v0, Px.v1, Px.v2, Px.v3, Px.v4, Px.v5, Px.v6, Px.v7, Px.v8, Px.v9, Px.v10, Px.v11, Px.v12, Px.v13, Px.v14, Px.v15, Px.v16, Px.v17, Px.v18, Px.v19, Px.v20, Px.v21, Px.v22, Px.v23, Px.c0, Px.asg, Px.gnm, Px.ret, Px.retN, Px.drop, Px.nxt, Px.brk, Px.cnt, Px.ifs, Px.op, Px.un, Px.tst, Px.tbl, Px.tand, Px.tor, Px.tnot, Px.andv, Px.orv, Px.notv, Px.tif, Px.tup, Px.lst, Px.nil, Px.cons, Px.cal, Px.calS, Px.cb, Px.par, Px.gsub, Px.bits, Px.bm, Px.bm0, Px.ri, Px.ri0, Px.ru, Px.req, Px.rne, Px.rix, Px.rlen, Px.rin, Px.rsetl, Px.risi, Px.tyH_n, Px.tyH_b, Px.tyH_i, Px.tyH_s, Px.tyH_r, Px.seqH_t, Px.seqH_l, Px.seqH_fl, Px.sc_ii, Px.sc_bb, Px.sc_ss, Px.atI0, Px.atI1, Px.atI2, Px.atI3, Px.atI4, Px.atI5, Px.atI6, Px.atI7, Px.kb_NoneType_int, Px.kb_NoneType_bool, Px.kb_NoneType_str, Px.kb_NoneType_list, Px.kb_NoneType_tuple, Px.kb_NoneType_dict, Px.kb_bool_int, Px.kb_bool_bool, Px.kb_bool_str, Px.kb_bool_list, Px.kb_bool_tuple, Px.kb_bool_dict, Px.kb_int_int, Px.kb_int_bool, Px.kb_int_str, Px.kb_int_list, Px.kb_int_tuple, Px.kb_int_dict, Px.kb_str_int, Px.kb_str_bool, Px.kb_str_str, Px.kb_str_list, Px.kb_str_tuple, Px.kb_str_dict, Px.kb_list_int, Px.kb_list_bool, Px.kb_list_str, Px.kb_list_list, Px.kb_list_tuple, Px.kb_list_dict, Px.kb_tuple_int, Px.kb_tuple_bool, Px.kb_tuple_str, Px.kb_tuple_list, Px.kb_tuple_tuple, Px.kb_tuple_dict, Px.kb_dict_int, Px.kb_dict_bool, Px.kb_dict_str, Px.kb_dict_list, Px.kb_dict_tuple, Px.kb_dict_dict, L2.upd_same, Px.updI, L2.ixN, List.set_cons_zero, List.set_cons_succ, List.length_cons, List.length_nil, Nat.reduceAdd, Nat.zero_add, L2.HO.lst.injEq, L2.HO.tup.injEq, L2.upd_upd, L2.V.int.injEq, L2.V.ref.injEq, L2.V.bl.injEq, L2.V.str.injEq, L2.V.ty.injEq, List.cons.injEq, and_true, true_and, and_false, false_and, or_false, false_or, exists_eq_left', exists_eq_left, exists_and_left, exists_const, exists_false, Option.some.injEq, decide_eq_true_eq, List.append_nil, List.cons_append, List.nil_append, Option.isSome_some, Bool.not_true, Bool.not_false, Bool.not_eq_true', Bool.not_eq_true, Bool.false_eq_true, decide_eq_false_iff_not, if_true, if_false, ite_true, ite_false, Int.reduceLE, Int.reduceLT, Int.reduceToNat, Int.cast_ofNat_Int, Bool.true_eq_false, eq_self, ↓reduceIte, reduceCtorEq, Px.aug, Px.ipi, Px.tri, Px.rcatth, Px.flh, Px.sfl, Px.met, Px.mak, *, spUsed]
        exact ⟨_, at_ xs (xs.length - 1 - i), dy.mono e3.tu, wf.2 _ _ (at_get lk), fun p H4 h1 h2 h3 => hR p _ H4 ⟨rfl, h1, h2, h3⟩⟩
      · rintro p rs H4 ⟨rfl, hp3, hp4, e4⟩
        have npm : p ≠ D := fun z => by rw [z, hm] at hp3; cases hp3
        refine ⟨hp4, IMi a D p xs (xs.length - 1 - i) i H H4, ⟨⟨_, rfl⟩, e3.trans e4, rfl, ?_⟩, ?_, ?_, ?_⟩
        · rw [List.take_zero, mkI_nil]
          exact e4.get hm
        · rintro j σ' H5 ⟨_, _, h, _⟩
          exact h
        · rintro j x σ' H5 hj ⟨⟨v', rfl⟩, e5, h5, m5⟩
          rw [List.getElem?_map] at hj
          cases er : (refs (at_ xs (xs.length - 1 - i)))[j]? with
          | none => rw [er] at hj; cases hj
          | some r =>
            rw [er] at hj
            cases hj
            have lr := (wf.2 _ _ (at_get lk)).refs r (List.mem_of_getElem? er)
            have ix : ixN (mkI xs i ((refs (at_ xs (xs.length - 1 - i))).take j)).length ((r : Nat) : Int) = some r := ixN_n (by rw [mkI_len]; omega)
            simp only [decide_true, decide_false, List.map_cons, List.map_nil, Option.map_none, Option.map_some, Option.getD_none, Option.getD_some, Px.dg2, Px.dg1, Px.dg, Px.din, Px.dnotin, Px.dnew, Px.dput, Px.isD_is, Px.dget_i, Px.dget_s, Px.dput_i, Px.dput_s, Px.dOf_d, Px.rtup, Px.rlist, Px.rsl, Px.rsort, Px.rcat, Px.rapp, Px.rrev, Px.sl_ap, Px.nop, Px.part, Px.yes, Px.tyl, Px.isL_l, Px.isT_t, Px.isL_t, Px.isT_l, Px.isD_d, Px.isT_d, Px.inV_ints, Px.flat_ints, Px.flatV_i, Px.wipe_cons, Px.wipe_nil, Px.gtup, Px.gcons, Px.gnil, gt_iff_lt, ge_iff_le, Px.we, Px.wonly, Px.was, Px.cxK, not_true_eq_false, and_self, true_implies, false_implies, implies_true, Px.e0, and_assoc, imp_false, not_false_eq_true, ne_eq, Px.rgcd, Px.rixl, Px.rixt, Px.v0, Px.v1, Px.v2, Px.v3, Px.v4, Px.v5, Px.v6, Px.v7, Px.v8, Px.v9, Px.v10, Px.v11, Px.v12, Px.v13, Px.v14, Px.v15, Px.v16, Px.v17, Px.v18, Px.v19, Px.v20, Px.v21, Px.v22, Px.v23, Px.c0, Px.asg, Px.gnm, Px.ret, Px.retN, Px.drop, Px.nxt, Px.brk, Px.cnt, Px.ifs, Px.op, Px.un, Px.tst, Px.tbl, Px.tand, Px.tor, Px.tnot, Px.andv, Px.orv, Px.notv, Px.tif, Px.tup, Px.lst, Px.nil, Px.cons, Px.cal, Px.calS, Px.cb, Px.par, Px.gsub, Px.bits, Px.bm, Px.bm0, Px.ri, Px.ri0, Px.ru, Px.req, Px.rne, Px.rix, Px.rlen, Px.rin, Px.rsetl, Px.risi, Px.tyH_n, Px.tyH_b, Px.tyH_i, Px.tyH_s, Px.tyH_r, Px.seqH_t, Px.seqH_l, Px.seqH_fl, Px.sc_ii, Px.sc_bb, Px.sc_ss, Px.atI0, Px.atI1, Px.atI2, Px.atI3, Px.atI4, Px.atI5, Px.atI6, Px.atI7, Px.kb_NoneType_int, Px.kb_NoneType_bool, Px.kb_NoneType_str, Px.kb_NoneType_list, Px.kb_NoneType_tuple, Px.kb_NoneType_dict, Px.kb_bool_int, Px.kb_bool_bool, Px.kb_bool_str, Px.kb_bool_list, Px.kb_bool_tuple, Px.kb_bool_dict, Px.kb_int_int, Px.kb_int_bool, Px.kb_int_str, Px.kb_int_list, Px.kb_int_tuple, Px.kb_int_dict, Px.kb_str_int, Px.kb_str_bool, Px.kb_str_str, Px.kb_str_list, Px.kb_str_tuple, Px.kb_str_dict, Px.kb_list_int, Px.kb_list_bool, Px.kb_list_str, Px.kb_list_list, Px.kb_list_tuple, Px.kb_list_dict, Px.kb_tuple_int, Px.kb_tuple_bool, Px.kb_tuple_str, Px.kb_tuple_list, Px.kb_tuple_tuple, Px.kb_tuple_dict, Px.kb_dict_int, Px.kb_dict_bool, Px.kb_dict_str, Px.kb_dict_list, Px.kb_dict_tuple, Px.kb_dict_dict, L2.upd_same, Px.updI, L2.ixN, List.set_cons_zero, List.set_cons_succ, List.length_cons, List.length_nil, Nat.reduceAdd, Nat.zero_add, L2.HO.lst.injEq, L2.HO.tup.injEq, L2.upd_upd, L2.V.int.injEq, L2.V.ref.injEq, L2.V.bl.injEq, L2.V.str.injEq, L2.V.ty.injEq, List.cons.injEq, and_true, true_and, and_false, false_and, or_false, false_or, exists_eq_left', exists_eq_left, exists_and_left, exists_const, exists_false, Option.some.injEq, decide_eq_true_eq, List.append_nil, List.cons_append, List.nil_append, Option.isSome_some, Bool.not_true, Bool.not_false, Bool.not_eq_true', Bool.not_eq_true, Bool.false_eq_true, decide_eq_false_iff_not, if_true, if_false, ite_true, ite_false, Int.reduceLE, Int.reduceLT, Int.reduceToNat, Int.cast_ofNat_Int, Bool.true_eq_false, eq_self, ↓reduceIte, reduceCtorEq, Px.aug, Px.ipi, Px.tri, Px.rcatth, Px.flh, Px.sfl, Px.met, Px.mak]
            refine ⟨_, m5, _, ix, ⟨_, rfl⟩, e5.mut hD, ?_, ?_⟩
            · rw [upd_ne npm]
              exact h5
            · rw [upd_same, mkI_snoc, take_succ er]
        · rintro σ' H5 ⟨⟨v', rfl⟩, e5, h5, m5⟩
          rw [List.length_map, List.take_length, mkI_end rfl hi hw] at m5
          exact ⟨⟨_, _, rfl⟩, e5, hD, m5⟩
    · rintro σ' H3 ⟨⟨v, v', rfl⟩, e3, _, hm⟩
      simp only [decide_true, decide_false, List.map_cons, List.map_nil, Option.map_none, Option.map_some, Option.getD_none, Option.getD_some, Px.dg2, Px.dg1, Px.dg, Px.din, Px.dnotin, Px.dnew, Px.dput, Px.isD_is, Px.dget_i, Px.dget_s, Px.dput_i, Px.dput_s, Px.dOf_d, Px.rtup, Px.rlist, Px.rsl, Px.rsort, Px.rcat, Px.rapp, Px.rrev, Px.sl_ap, Px.nop, Px.part, Px.yes, Px.tyl, Px.isL_l, Px.isT_t, Px.isL_t, Px.isT_l, Px.isD_d, Px.isT_d, Px.inV_ints, Px.flat_ints, Px.flatV_i, Px.wipe_cons, Px.wipe_nil, Px.gtup, Px.gcons, Px.gnil, gt_iff_lt, ge_iff_le, Px.we, Px.wonly, Px.was, Px.cxK, not_true_eq_false, and_self, true_implies, false_implies, implies_true, Px.e0, and_assoc, imp_false, not_false_eq_true, ne_eq, Px.rgcd, Px.rixl, Px.rixt, Px.v0, Px.v1, Px.v2, Px.v3, Px.v4, Px.v5, Px.v6, Px.v7, Px.v8, Px.v9, Px.v10, Px.v11, Px.v12, Px.v13, Px.v14, Px.v15, Px.v16, Px.v17, Px.v18, Px.v19, Px.v20, Px.v21, Px.v22, Px.v23, Px.c0, Px.asg, Px.gnm, Px.ret, Px.retN, Px.drop, Px.nxt, Px.brk, Px.cnt, Px.ifs, Px.op, Px.un, Px.tst, Px.tbl, Px.tand, Px.tor, Px.tnot, Px.andv, Px.orv, Px.notv, Px.tif, Px.tup, Px.lst, Px.nil, Px.cons, Px.cal, Px.calS, Px.cb, Px.par, Px.gsub, Px.bits, Px.bm, Px.bm0, Px.ri, Px.ri0, Px.ru, Px.req, Px.rne, Px.rix, Px.rlen, Px.rin, Px.rsetl, Px.risi, Px.tyH_n, Px.tyH_b, Px.tyH_i, Px.tyH_s, Px.tyH_r, Px.seqH_t, Px.seqH_l, Px.seqH_fl, Px.sc_ii, Px.sc_bb, Px.sc_ss, Px.atI0, Px.atI1, Px.atI2, Px.atI3, Px.atI4, Px.atI5, Px.atI6, Px.atI7, Px.kb_NoneType_int, Px.kb_NoneType_bool, Px.kb_NoneType_str, Px.kb_NoneType_list, Px.kb_NoneType_tuple, Px.kb_NoneType_dict, Px.kb_bool_int, Px.kb_bool_bool, Px.kb_bool_str, Px.kb_bool_list, Px.kb_bool_tuple, Px.kb_bool_dict, Px.kb_int_int, Px.kb_int_bool, Px.kb_int_str, Px.kb_int_list, Px.kb_int_tuple, Px.kb_int_dict, Px.kb_str_int, Px.kb_str_bool, Px.kb_str_str, Px.kb_str_list, Px.kb_str_tuple, Px.kb_str_dict, Px.kb_list_int, Px.kb_list_bool, Px.kb_list_str, Px.kb_list_list, Px.kb_list_tuple, Px.kb_list_dict, Px.kb_tuple_int, Px.kb_tuple_bool, Px.kb_tuple_str, Px.kb_tuple_list, Px.kb_tuple_tuple, Px.kb_tuple_dict, Px.kb_dict_int, Px.kb_dict_bool, Px.kb_dict_str, Px.kb_dict_list, Px.kb_dict_tuple, Px.kb_dict_dict, L2.upd_same, Px.updI, L2.ixN, List.set_cons_zero, List.set_cons_succ, List.length_cons, List.length_nil, Nat.reduceAdd, Nat.zero_add, L2.HO.lst.injEq, L2.HO.tup.injEq, L2.upd_upd, L2.V.int.injEq, L2.V.ref.injEq, L2.V.bl.injEq, L2.V.str.injEq, L2.V.ty.injEq, List.cons.injEq, and_true, true_and, and_false, false_and, or_false, false_or, exists_eq_left', exists_eq_left, exists_and_left, exists_const, exists_false, Option.some.injEq, decide_eq_true_eq, List.append_nil, List.cons_append, List.nil_append, Option.isSome_some, Bool.not_true, Bool.not_false, Bool.not_eq_true', Bool.not_eq_true, Bool.false_eq_true, decide_eq_false_iff_not, if_true, if_false, ite_true, ite_false, Int.reduceLE, Int.reduceLT, Int.reduceToNat, Int.cast_ofNat_Int, Bool.true_eq_false, eq_self, ↓reduceIte, reduceCtorEq, Px.aug, Px.ipi, Px.tri, Px.rcatth, Px.flh, Px.sfl, Px.met, Px.mak, *]
      exact k _ _ hD hm e3
/-- a dict of new numbers -/
def Nums (H : Hp) (d : Addr) (n : Nat) (p : Nat → Bool) (f : Nat → Nat) : Prop := ∃ kvs, H d = some (.dK kvs) ∧ kvs.length ≤ n ∧ ∀ r, r < n → p r = true → valV kvs (Sum.inl ((r : Nat) : Int)) = some (.int ((f r : Nat) : Int))
def spRen (vs : List V) (H : Hp) (Q : VK) (_ : XK) : Prop := ∃ (v : V) (d : Addr) (n : Nat) (x : St) (f : Nat → Nat) (p : Nat → Bool), vs = [v, .ref d] ∧ Dt H v (enc x) ∧ Ok n x ∧ Nums H d n p f ∧ (∀ r, r ∈ refs x → p r = true) ∧ ∀ v' H', Dt H' v' (enc (ren f x)) → Px.Ext H H' → Q v' H'
theorem ok_ren (B : Bn mg) (F : FunAt K mg "renumbered" s_renumbered) : Def P w K mg base CX0 1 "renumbered" ["step", "numbers"] spRen := by
  refine F.ok sc_renumbered (fun _ _ _ _ _ _ us hl => match us, hl with | [_, _], _ => rfl) (fun vs H Q E h => by obtain ⟨_, _, _, _, _, _, rfl, _⟩ := h; rfl) (fun f cdv A outer s H vs Q E hr h => ?_)
  obtain ⟨v, d, n, x, f', pp, rfl, hv, ok, ⟨kvs, hd, _, hn⟩, hp, k⟩ := h
  have hv0 := hv
  obtain ⟨a, c, e, rfl, h1, h2, h3⟩ := enc_inv hv
  refine ⟨_, pss_cons (ps_asg (pv 0) (pg_tupH (n := 3) rfl (pgs_cons (pg_name (i := 2) sc_renumbered.nd rfl (Or.inl rfl)) (pgs_cons (pg_name (i := 3) sc_renumbered.nd rfl (Or.inl rfl)) (pgs_cons (pg_name (i := 4) sc_renumbered.nd rfl (Or.inl rfl)) pgs_nil))))) (
  pss_cons (ps_if (pt_cmpR op_ne (pv 2) pe_str (nomark _)) (pss_one (ps_ret (pv 0))) (pss_nil)) (
  pss_cons (ps_asg (pv 4) (pg_tupH (n := 2) rfl (pgs_cons (pg_name (i := 5) sc_renumbered.nd rfl (Or.inl rfl)) (pgs_cons (pg_name (i := 6) sc_renumbered.nd rfl (Or.inl rfl)) pgs_nil)))) (
  pss_cons (ps_set (i := 7) sc_renumbered.nd rfl (Or.inl rfl) (pe_callTy tup_H rfl B.tuple_ (by decide +kernel) (pa_cons (pe_lc (own := [("literal", 8), ("number", 9)]) (g := gTupH 2 (gCons (gName 8) (gCons (gName 9) (gNil)))) rfl sc_renumbered.nd (pi_seq (pv 6)) (blkOk_by (own := [("literal", 8), ("number", 9)]) (N := ["step", "numbers", "kind", "clause", "details", "first", "strikes", "moved", "literal", "number"]) (sc := defScope s_renumbered) (by decide +kernel)) (fun _ _ _ _ _ => (pg_tupH (n := 2) rfl (pgs_cons (pg_name (i := 8) sc_renumbered.nd rfl (Or.inl rfl)) (pgs_cons (pg_name (i := 9) sc_renumbered.nd rfl (Or.inl rfl)) pgs_nil)))) (fun _ _ _ _ _ => pts_nil) (fun _ _ _ _ _ => (pe_tup (pa_cons (pv 8) (pa_cons (pe_dget (hu_of hr) (pv 1) (pv 9) (fun _ _ => rfl)) pa_nil))))) pa_nil))) (
  pss_one (ps_ret (pe_tup (pa_cons (pv 2) (pa_cons (pv 3) (pa_cons (pe_tup (pa_cons (pe_dget (hu_of hr) (pv 1) (pv 5) (fun _ _ => rfl)) (pa_cons (pv 7) pa_nil))) pa_nil))))))))), ?_⟩
  show tSeq _ _ _ [some (.ref a), some (.ref d), none, none, none, none, none, none, none, none] H
  refine go_seq ?_
  cases x with
  | oth kk l dd =>
    have nk : ¬ kd (.oth kk l dd) = "resolve" := ok.2.1
    simp only [decide_true, decide_false, List.map_cons, List.map_nil, Option.map_none, Option.map_some, Option.getD_none, Option.getD_some, Px.dg2, Px.dg1, Px.dg, Px.din, Px.dnotin, Px.dnew, Px.dput, Px.isD_is, Px.dget_i, Px.dget_s, Px.dput_i, Px.dput_s, Px.dOf_d, Px.rtup, Px.rlist, Px.rsl, Px.rsort, Px.rcat, Px.rapp, Px.rrev, Px.sl_ap, Px.nop, Px.part, Px.yes, Px.tyl, Px.isL_l, Px.isT_t, Px.isL_t, Px.isT_l, Px.isD_d, Px.isT_d, Px.inV_ints, Px.flat_ints, Px.flatV_i, Px.wipe_cons, Px.wipe_nil, Px.gtup, Px.gcons, Px.gnil, gt_iff_lt, ge_iff_le, Px.we, Px.wonly, Px.was, Px.cxK, not_true_eq_false, and_self, true_implies, false_implies, implies_true, Px.e0, and_assoc, imp_false, not_false_eq_true, ne_eq, Px.rgcd, Px.rixl, Px.rixt, Px.v0, Px.v1, Px.v2, Px.v3, Px.v4, Px.v5, Px.v6, Px.v7, Px.v8, Px.v9, Px.v10, Px.v11, Px.v12, Px.v13, Px.v14, Px.v15, Px.v16, Px.v17, Px.v18, Px.v19, Px.v20, Px.v21, Px.v22, Px.v23, Px.c0, Px.asg, Px.gnm, Px.ret, Px.retN, Px.drop, Px.nxt, Px.brk, Px.cnt, Px.ifs, Px.op, Px.un, Px.tst, Px.tbl, Px.tand, Px.tor, Px.tnot, Px.andv, Px.orv, Px.notv, Px.tif, Px.tup, Px.lst, Px.nil, Px.cons, Px.cal, Px.calS, Px.cb, Px.par, Px.gsub, Px.bits, Px.bm, Px.bm0, Px.ri, Px.ri0, Px.ru, Px.req, Px.rne, Px.rix, Px.rlen, Px.rin, Px.rsetl, Px.risi, Px.tyH_n, Px.tyH_b, Px.tyH_i, Px.tyH_s, Px.tyH_r, Px.seqH_t, Px.seqH_l, Px.seqH_fl, Px.sc_ii, Px.sc_bb, Px.sc_ss, Px.atI0, Px.atI1, Px.atI2, Px.atI3, Px.atI4, Px.atI5, Px.atI6, Px.atI7, Px.kb_NoneType_int, Px.kb_NoneType_bool, Px.kb_NoneType_str, Px.kb_NoneType_list, Px.kb_NoneType_tuple, Px.kb_NoneType_dict, Px.kb_bool_int, Px.kb_bool_bool, Px.kb_bool_str, Px.kb_bool_list, Px.kb_bool_tuple, Px.kb_bool_dict, Px.kb_int_int, Px.kb_int_bool, Px.kb_int_str, Px.kb_int_list, Px.kb_int_tuple, Px.kb_int_dict, Px.kb_str_int, Px.kb_str_bool, Px.kb_str_str, Px.kb_str_list, Px.kb_str_tuple, Px.kb_str_dict, Px.kb_list_int, Px.kb_list_bool, Px.kb_list_str, Px.kb_list_list, Px.kb_list_tuple, Px.kb_list_dict, Px.kb_tuple_int, Px.kb_tuple_bool, Px.kb_tuple_str, Px.kb_tuple_list, Px.kb_tuple_tuple, Px.kb_tuple_dict, Px.kb_dict_int, Px.kb_dict_bool, Px.kb_dict_str, Px.kb_dict_list, Px.kb_dict_tuple, Px.kb_dict_dict, L2.upd_same, Px.updI, L2.ixN, List.set_cons_zero, List.set_cons_succ, List.length_cons, List.length_nil, Nat.reduceAdd, Nat.zero_add, L2.HO.lst.injEq, L2.HO.tup.injEq, L2.upd_upd, L2.V.int.injEq, L2.V.ref.injEq, L2.V.bl.injEq, L2.V.str.injEq, L2.V.ty.injEq, List.cons.injEq, and_true, true_and, and_false, false_and, or_false, false_or, exists_eq_left', exists_eq_left, exists_and_left, exists_const, exists_false, Option.some.injEq, decide_eq_true_eq, List.append_nil, List.cons_append, List.nil_append, Option.isSome_some, Bool.not_true, Bool.not_false, Bool.not_eq_true', Bool.not_eq_true, Bool.false_eq_true, decide_eq_false_iff_not, if_true, if_false, ite_true, ite_false, Int.reduceLE, Int.reduceLT, Int.reduceToNat, Int.cast_ofNat_Int, Bool.true_eq_false, eq_self, ↓reduceIte, reduceCtorEq, Px.aug, Px.ipi, Px.tri, Px.rcatth, Px.flh, Px.sfl, Px.met, Px.mak, *, Px.seq]
    exact k _ _ hv0 (Px.Ext.rfl' H)
  | res l f0 ss =>
    have nk : kd (.res l f0 ss) = "resolve" := rfl
    obtain ⟨b, y, ws, rfl, g1, g2, g3⟩ := dt_inv h3
    have lw : ws.length = ss.length := by rw [g3.len, List.length_map]; unfold zi; rw [List.length_map]
    have num : ∀ r, r ∈ refs (.res l f0 ss) → valV kvs (Sum.inl ((r : Nat) : Int)) = some (.int ((f' r : Nat) : Int)) := fun r hr => hn r (ok.refs r hr) (hp r hr)
    simp only [decide_true, decide_false, List.map_cons, List.map_nil, Option.map_none, Option.map_some, Option.getD_none, Option.getD_some, Px.dg2, Px.dg1, Px.dg, Px.din, Px.dnotin, Px.dnew, Px.dput, Px.isD_is, Px.dget_i, Px.dget_s, Px.dput_i, Px.dput_s, Px.dOf_d, Px.rtup, Px.rlist, Px.rsl, Px.rsort, Px.rcat, Px.rapp, Px.rrev, Px.sl_ap, Px.nop, Px.part, Px.yes, Px.tyl, Px.isL_l, Px.isT_t, Px.isL_t, Px.isT_l, Px.isD_d, Px.isT_d, Px.inV_ints, Px.flat_ints, Px.flatV_i, Px.wipe_cons, Px.wipe_nil, Px.gtup, Px.gcons, Px.gnil, gt_iff_lt, ge_iff_le, Px.we, Px.wonly, Px.was, Px.cxK, not_true_eq_false, and_self, true_implies, false_implies, implies_true, Px.e0, and_assoc, imp_false, not_false_eq_true, ne_eq, Px.rgcd, Px.rixl, Px.rixt, Px.v0, Px.v1, Px.v2, Px.v3, Px.v4, Px.v5, Px.v6, Px.v7, Px.v8, Px.v9, Px.v10, Px.v11, Px.v12, Px.v13, Px.v14, Px.v15, Px.v16, Px.v17, Px.v18, Px.v19, Px.v20, Px.v21, Px.v22, Px.v23, Px.c0, Px.asg, Px.gnm, Px.ret, Px.retN, Px.drop, Px.nxt, Px.brk, Px.cnt, Px.ifs, Px.op, Px.un, Px.tst, Px.tbl, Px.tand, Px.tor, Px.tnot, Px.andv, Px.orv, Px.notv, Px.tif, Px.tup, Px.lst, Px.nil, Px.cons, Px.cal, Px.calS, Px.cb, Px.par, Px.gsub, Px.bits, Px.bm, Px.bm0, Px.ri, Px.ri0, Px.ru, Px.req, Px.rne, Px.rix, Px.rlen, Px.rin, Px.rsetl, Px.risi, Px.tyH_n, Px.tyH_b, Px.tyH_i, Px.tyH_s, Px.tyH_r, Px.seqH_t, Px.seqH_l, Px.seqH_fl, Px.sc_ii, Px.sc_bb, Px.sc_ss, Px.atI0, Px.atI1, Px.atI2, Px.atI3, Px.atI4, Px.atI5, Px.atI6, Px.atI7, Px.kb_NoneType_int, Px.kb_NoneType_bool, Px.kb_NoneType_str, Px.kb_NoneType_list, Px.kb_NoneType_tuple, Px.kb_NoneType_dict, Px.kb_bool_int, Px.kb_bool_bool, Px.kb_bool_str, Px.kb_bool_list, Px.kb_bool_tuple, Px.kb_bool_dict, Px.kb_int_int, Px.kb_int_bool, Px.kb_int_str, Px.kb_int_list, Px.kb_int_tuple, Px.kb_int_dict, Px.kb_str_int, Px.kb_str_bool, Px.kb_str_str, Px.kb_str_list, Px.kb_str_tuple, Px.kb_str_dict, Px.kb_list_int, Px.kb_list_bool, Px.kb_list_str, Px.kb_list_list, Px.kb_list_tuple, Px.kb_list_dict, Px.kb_tuple_int, Px.kb_tuple_bool, Px.kb_tuple_str, Px.kb_tuple_list, Px.kb_tuple_tuple, Px.kb_tuple_dict, Px.kb_dict_int, Px.kb_dict_bool, Px.kb_dict_str, Px.kb_dict_list, Px.kb_dict_tuple, Px.kb_dict_dict, L2.upd_same, Px.updI, L2.ixN, List.set_cons_zero, List.set_cons_succ, List.length_cons, List.length_nil, Nat.reduceAdd, Nat.zero_add, L2.HO.lst.injEq, L2.HO.tup.injEq, L2.upd_upd, L2.V.int.injEq, L2.V.ref.injEq, L2.V.bl.injEq, L2.V.str.injEq, L2.V.ty.injEq, List.cons.injEq, and_true, true_and, and_false, false_and, or_false, false_or, exists_eq_left', exists_eq_left, exists_and_left, exists_const, exists_false, Option.some.injEq, decide_eq_true_eq, List.append_nil, List.cons_append, List.nil_append, Option.isSome_some, Bool.not_true, Bool.not_false, Bool.not_eq_true', Bool.not_eq_true, Bool.false_eq_true, decide_eq_false_iff_not, if_true, if_false, ite_true, ite_false, Int.reduceLE, Int.reduceLT, Int.reduceToNat, Int.cast_ofNat_Int, Bool.true_eq_false, eq_self, ↓reduceIte, reduceCtorEq, Px.aug, Px.ipi, Px.tri, Px.rcatth, Px.flh, Px.sfl, Px.met, Px.mak, *, Px.seq]
    refine lc_seq (xs := ws) (fun _ => true) (fun i => prd ((ss.getD i (0, 0)).1, ((f' (ss.getD i (0, 0)).2 : Nat) : Int))) (fun Q q => by simp only [decide_true, decide_false, List.map_cons, List.map_nil, Option.map_none, Option.map_some, Option.getD_none, Option.getD_some, Px.dg2, Px.dg1, Px.dg, Px.din, Px.dnotin, Px.dnew, Px.dput, Px.isD_is, Px.dget_i, Px.dget_s, Px.dput_i, Px.dput_s, Px.dOf_d, Px.rtup, Px.rlist, Px.rsl, Px.rsort, Px.rcat, Px.rapp, Px.rrev, Px.sl_ap, Px.nop, Px.part, Px.yes, Px.tyl, Px.isL_l, Px.isT_t, Px.isL_t, Px.isT_l, Px.isD_d, Px.isT_d, Px.inV_ints, Px.flat_ints, Px.flatV_i, Px.wipe_cons, Px.wipe_nil, Px.gtup, Px.gcons, Px.gnil, gt_iff_lt, ge_iff_le, Px.we, Px.wonly, Px.was, Px.cxK, not_true_eq_false, and_self, true_implies, false_implies, implies_true, Px.e0, and_assoc, imp_false, not_false_eq_true, ne_eq, Px.rgcd, Px.rixl, Px.rixt, Px.v0, Px.v1, Px.v2, Px.v3, Px.v4, Px.v5, Px.v6, Px.v7, Px.v8, Px.v9, Px.v10, Px.v11, Px.v12, Px.v13, Px.v14, Px.v15, Px.v16, Px.v17, Px.v18, Px.v19, Px.v20, Px.v21, Px.v22, Px.v23, Px.c0, Px.asg, Px.gnm, Px.ret, Px.retN, Px.drop, Px.nxt, Px.brk, Px.cnt, Px.ifs, Px.op, Px.un, Px.tst, Px.tbl, Px.tand, Px.tor, Px.tnot, Px.andv, Px.orv, Px.notv, Px.tif, Px.tup, Px.lst, Px.nil, Px.cons, Px.cal, Px.calS, Px.cb, Px.par, Px.gsub, Px.bits, Px.bm, Px.bm0, Px.ri, Px.ri0, Px.ru, Px.req, Px.rne, Px.rix, Px.rlen, Px.rin, Px.rsetl, Px.risi, Px.tyH_n, Px.tyH_b, Px.tyH_i, Px.tyH_s, Px.tyH_r, Px.seqH_t, Px.seqH_l, Px.seqH_fl, Px.sc_ii, Px.sc_bb, Px.sc_ss, Px.atI0, Px.atI1, Px.atI2, Px.atI3, Px.atI4, Px.atI5, Px.atI6, Px.atI7, Px.kb_NoneType_int, Px.kb_NoneType_bool, Px.kb_NoneType_str, Px.kb_NoneType_list, Px.kb_NoneType_tuple, Px.kb_NoneType_dict, Px.kb_bool_int, Px.kb_bool_bool, Px.kb_bool_str, Px.kb_bool_list, Px.kb_bool_tuple, Px.kb_bool_dict, Px.kb_int_int, Px.kb_int_bool, Px.kb_int_str, Px.kb_int_list, Px.kb_int_tuple, Px.kb_int_dict, Px.kb_str_int, Px.kb_str_bool, Px.kb_str_str, Px.kb_str_list, Px.kb_str_tuple, Px.kb_str_dict, Px.kb_list_int, Px.kb_list_bool, Px.kb_list_str, Px.kb_list_list, Px.kb_list_tuple, Px.kb_list_dict, Px.kb_tuple_int, Px.kb_tuple_bool, Px.kb_tuple_str, Px.kb_tuple_list, Px.kb_tuple_tuple, Px.kb_tuple_dict, Px.kb_dict_int, Px.kb_dict_bool, Px.kb_dict_str, Px.kb_dict_list, Px.kb_dict_tuple, Px.kb_dict_dict, L2.upd_same, Px.updI, L2.ixN, List.set_cons_zero, List.set_cons_succ, List.length_cons, List.length_nil, Nat.reduceAdd, Nat.zero_add, L2.HO.lst.injEq, L2.HO.tup.injEq, L2.upd_upd, L2.V.int.injEq, L2.V.ref.injEq, L2.V.bl.injEq, L2.V.str.injEq, L2.V.ty.injEq, List.cons.injEq, and_true, true_and, and_false, false_and, or_false, false_or, exists_eq_left', exists_eq_left, exists_and_left, exists_const, exists_false, Option.some.injEq, decide_eq_true_eq, List.append_nil, List.cons_append, List.nil_append, Option.isSome_some, Bool.not_true, Bool.not_false, Bool.not_eq_true', Bool.not_eq_true, Bool.false_eq_true, decide_eq_false_iff_not, if_true, if_false, ite_true, ite_false, Int.reduceLE, Int.reduceLT, Int.reduceToNat, Int.cast_ofNat_Int, Bool.true_eq_false, eq_self, ↓reduceIte, reduceCtorEq, Px.aug, Px.ipi, Px.tri, Px.rcatth, Px.flh, Px.sfl, Px.met, Px.mak, *]; exact q) (by rw [g2]; rfl) (by have := ok.2.2.1; omega) (fun i x hi => ?_) (fun D ys H2 hD e2 hy hall => ?_)
    · have li : i < ss.length := by rw [← lw]; exact (List.getElem?_eq_some_iff.mp hi).1
      obtain ⟨p, hp⟩ : ∃ p, ss[i]? = some p := ⟨_, List.getElem?_eq_getElem li⟩
      have ep : ss.getD i (0, 0) = p := by rw [List.getD_eq_getElem?_getD, hp]; rfl
      have np := num p.2 (List.mem_cons_of_mem _ (List.mem_map.mpr ⟨p, List.mem_of_getElem? hp, rfl⟩))
      intro H2 R' E' e2 _ k2
      simp only [ep] at k2
      obtain ⟨v, hv, dv⟩ := (g3.mono e2.tu).get' (show ((zi ss).map prd)[i]? = some (prd (p.1, (p.2 : Int))) by rw [zi, List.getElem?_map, List.getElem?_map, hp]; rfl)
      rw [hi] at hv
      cases hv
      obtain ⟨b, rfl, hb⟩ := pr_inv dv
      have hd2 := e2.get hd
      simp only [decide_true, decide_false, List.map_cons, List.map_nil, Option.map_none, Option.map_some, Option.getD_none, Option.getD_some, Px.dg2, Px.dg1, Px.dg, Px.din, Px.dnotin, Px.dnew, Px.dput, Px.isD_is, Px.dget_i, Px.dget_s, Px.dput_i, Px.dput_s, Px.dOf_d, Px.rtup, Px.rlist, Px.rsl, Px.rsort, Px.rcat, Px.rapp, Px.rrev, Px.sl_ap, Px.nop, Px.part, Px.yes, Px.tyl, Px.isL_l, Px.isT_t, Px.isL_t, Px.isT_l, Px.isD_d, Px.isT_d, Px.inV_ints, Px.flat_ints, Px.flatV_i, Px.wipe_cons, Px.wipe_nil, Px.gtup, Px.gcons, Px.gnil, gt_iff_lt, ge_iff_le, Px.we, Px.wonly, Px.was, Px.cxK, not_true_eq_false, and_self, true_implies, false_implies, implies_true, Px.e0, and_assoc, imp_false, not_false_eq_true, ne_eq, Px.rgcd, Px.rixl, Px.rixt, Px.v0, Px.v1, Px.v2, Px.v3, Px.v4, Px.v5, Px.v6, Px.v7, Px.v8, Px.v9, Px.v10, Px.v11, Px.v12, Px.v13, Px.v14, Px.v15, Px.v16, Px.v17, Px.v18, Px.v19, Px.v20, Px.v21, Px.v22, Px.v23, Px.c0, Px.asg, Px.gnm, Px.ret, Px.retN, Px.drop, Px.nxt, Px.brk, Px.cnt, Px.ifs, Px.op, Px.un, Px.tst, Px.tbl, Px.tand, Px.tor, Px.tnot, Px.andv, Px.orv, Px.notv, Px.tif, Px.tup, Px.lst, Px.nil, Px.cons, Px.cal, Px.calS, Px.cb, Px.par, Px.gsub, Px.bits, Px.bm, Px.bm0, Px.ri, Px.ri0, Px.ru, Px.req, Px.rne, Px.rix, Px.rlen, Px.rin, Px.rsetl, Px.risi, Px.tyH_n, Px.tyH_b, Px.tyH_i, Px.tyH_s, Px.tyH_r, Px.seqH_t, Px.seqH_l, Px.seqH_fl, Px.sc_ii, Px.sc_bb, Px.sc_ss, Px.atI0, Px.atI1, Px.atI2, Px.atI3, Px.atI4, Px.atI5, Px.atI6, Px.atI7, Px.kb_NoneType_int, Px.kb_NoneType_bool, Px.kb_NoneType_str, Px.kb_NoneType_list, Px.kb_NoneType_tuple, Px.kb_NoneType_dict, Px.kb_bool_int, Px.kb_bool_bool, Px.kb_bool_str, Px.kb_bool_list, Px.kb_bool_tuple, Px.kb_bool_dict, Px.kb_int_int, Px.kb_int_bool, Px.kb_int_str, Px.kb_int_list, Px.kb_int_tuple, Px.kb_int_dict, Px.kb_str_int, Px.kb_str_bool, Px.kb_str_str, Px.kb_str_list, Px.kb_str_tuple, Px.kb_str_dict, Px.kb_list_int, Px.kb_list_bool, Px.kb_list_str, Px.kb_list_list, Px.kb_list_tuple, Px.kb_list_dict, Px.kb_tuple_int, Px.kb_tuple_bool, Px.kb_tuple_str, Px.kb_tuple_list, Px.kb_tuple_tuple, Px.kb_tuple_dict, Px.kb_dict_int, Px.kb_dict_bool, Px.kb_dict_str, Px.kb_dict_list, Px.kb_dict_tuple, Px.kb_dict_dict, L2.upd_same, Px.updI, L2.ixN, List.set_cons_zero, List.set_cons_succ, List.length_cons, List.length_nil, Nat.reduceAdd, Nat.zero_add, L2.HO.lst.injEq, L2.HO.tup.injEq, L2.upd_upd, L2.V.int.injEq, L2.V.ref.injEq, L2.V.bl.injEq, L2.V.str.injEq, L2.V.ty.injEq, List.cons.injEq, and_true, true_and, and_false, false_and, or_false, false_or, exists_eq_left', exists_eq_left, exists_and_left, exists_const, exists_false, Option.some.injEq, decide_eq_true_eq, List.append_nil, List.cons_append, List.nil_append, Option.isSome_some, Bool.not_true, Bool.not_false, Bool.not_eq_true', Bool.not_eq_true, Bool.false_eq_true, decide_eq_false_iff_not, if_true, if_false, ite_true, ite_false, Int.reduceLE, Int.reduceLT, Int.reduceToNat, Int.cast_ofNat_Int, Bool.true_eq_false, eq_self, ↓reduceIte, reduceCtorEq, Px.aug, Px.ipi, Px.tri, Px.rcatth, Px.flh, Px.sfl, Px.met, Px.mak, *]
      exact ⟨by decide, fun q hq => k2 trivial _ _ ((Px.Ext.rfl' H2).new hq) (prt (p := (p.1, ((f' p.2 : Nat) : Int))) upd_same)⟩
    · rw [lw, given_eq ss (0, 0) (fun _ => true) (fun p => prd (p.1, ((f' p.2 : Nat) : Int))), List.filter_eq_self.mpr (fun _ _ => rfl)] at hall
      have n0 := num f0 List.mem_cons_self
      have hd2 := e2.get hd
      refine ⟨D, rfl, .inl ⟨ys, hy, fun q hq => ?_⟩⟩
      have hd3 : (upd H2 q (.tup ys)) d = some (.dK kvs) := by rw [updI hq (by rw [hd2]; rfl), hd2]
      simp only [decide_true, decide_false, List.map_cons, List.map_nil, Option.map_none, Option.map_some, Option.getD_none, Option.getD_some, Px.dg2, Px.dg1, Px.dg, Px.din, Px.dnotin, Px.dnew, Px.dput, Px.isD_is, Px.dget_i, Px.dget_s, Px.dput_i, Px.dput_s, Px.dOf_d, Px.rtup, Px.rlist, Px.rsl, Px.rsort, Px.rcat, Px.rapp, Px.rrev, Px.sl_ap, Px.nop, Px.part, Px.yes, Px.tyl, Px.isL_l, Px.isT_t, Px.isL_t, Px.isT_l, Px.isD_d, Px.isT_d, Px.inV_ints, Px.flat_ints, Px.flatV_i, Px.wipe_cons, Px.wipe_nil, Px.gtup, Px.gcons, Px.gnil, gt_iff_lt, ge_iff_le, Px.we, Px.wonly, Px.was, Px.cxK, not_true_eq_false, and_self, true_implies, false_implies, implies_true, Px.e0, and_assoc, imp_false, not_false_eq_true, ne_eq, Px.rgcd, Px.rixl, Px.rixt, Px.v0, Px.v1, Px.v2, Px.v3, Px.v4, Px.v5, Px.v6, Px.v7, Px.v8, Px.v9, Px.v10, Px.v11, Px.v12, Px.v13, Px.v14, Px.v15, Px.v16, Px.v17, Px.v18, Px.v19, Px.v20, Px.v21, Px.v22, Px.v23, Px.c0, Px.asg, Px.gnm, Px.ret, Px.retN, Px.drop, Px.nxt, Px.brk, Px.cnt, Px.ifs, Px.op, Px.un, Px.tst, Px.tbl, Px.tand, Px.tor, Px.tnot, Px.andv, Px.orv, Px.notv, Px.tif, Px.tup, Px.lst, Px.nil, Px.cons, Px.cal, Px.calS, Px.cb, Px.par, Px.gsub, Px.bits, Px.bm, Px.bm0, Px.ri, Px.ri0, Px.ru, Px.req, Px.rne, Px.rix, Px.rlen, Px.rin, Px.rsetl, Px.risi, Px.tyH_n, Px.tyH_b, Px.tyH_i, Px.tyH_s, Px.tyH_r, Px.seqH_t, Px.seqH_l, Px.seqH_fl, Px.sc_ii, Px.sc_bb, Px.sc_ss, Px.atI0, Px.atI1, Px.atI2, Px.atI3, Px.atI4, Px.atI5, Px.atI6, Px.atI7, Px.kb_NoneType_int, Px.kb_NoneType_bool, Px.kb_NoneType_str, Px.kb_NoneType_list, Px.kb_NoneType_tuple, Px.kb_NoneType_dict, Px.kb_bool_int, Px.kb_bool_bool, Px.kb_bool_str, Px.kb_bool_list, Px.kb_bool_tuple, Px.kb_bool_dict, Px.kb_int_int, Px.kb_int_bool, Px.kb_int_str, Px.kb_int_list, Px.kb_int_tuple, Px.kb_int_dict, Px.kb_str_int, Px.kb_str_bool, Px.kb_str_str, Px.kb_str_list, Px.kb_str_tuple, Px.kb_str_dict, Px.kb_list_int, Px.kb_list_bool, Px.kb_list_str, Px.kb_list_list, Px.kb_list_tuple, Px.kb_list_dict, Px.kb_tuple_int, Px.kb_tuple_bool, Px.kb_tuple_str, Px.kb_tuple_list, Px.kb_tuple_tuple, Px.kb_tuple_dict, Px.kb_dict_int, Px.kb_dict_bool, Px.kb_dict_str, Px.kb_dict_list, Px.kb_dict_tuple, Px.kb_dict_dict, L2.upd_same, Px.updI, L2.ixN, List.set_cons_zero, List.set_cons_succ, List.length_cons, List.length_nil, Nat.reduceAdd, Nat.zero_add, L2.HO.lst.injEq, L2.HO.tup.injEq, L2.upd_upd, L2.V.int.injEq, L2.V.ref.injEq, L2.V.bl.injEq, L2.V.str.injEq, L2.V.ty.injEq, List.cons.injEq, and_true, true_and, and_false, false_and, or_false, false_or, exists_eq_left', exists_eq_left, exists_and_left, exists_const, exists_false, Option.some.injEq, decide_eq_true_eq, List.append_nil, List.cons_append, List.nil_append, Option.isSome_some, Bool.not_true, Bool.not_false, Bool.not_eq_true', Bool.not_eq_true, Bool.false_eq_true, decide_eq_false_iff_not, if_true, if_false, ite_true, ite_false, Int.reduceLE, Int.reduceLT, Int.reduceToNat, Int.cast_ofNat_Int, Bool.true_eq_false, eq_self, ↓reduceIte, reduceCtorEq, Px.aug, Px.ipi, Px.tri, Px.rcatth, Px.flh, Px.sfl, Px.met, Px.mak, *]
      refine ⟨by decide, fun q2 hq2 => ⟨by decide, fun q3 hq3 => ?_⟩⟩
      have e3 := ((e2.new (o := .tup ys) hq).new (o := .tup [.int ((f' f0 : Nat) : Int), .ref q]) hq2)
      refine k _ _ (enc_mk (x := ren f' (.res l f0 ss)) (c := c) (e := .ref q2) upd_same ((e3.new hq3).get h2) ?_) (e3.new hq3)
      refine .tup (xs := [.int ((f' f0 : Nat) : Int), .ref q]) ?_ (.cons (.int _) (.cons (.tup (xs := ys) ?_ ?_) .nil))
      · rw [updI hq3 (by rw [upd_same]; rfl), upd_same]
      · exact ((((Px.Ext.rfl' _).new hq2).new hq3).get upd_same)
      · have e4 : ss.map (fun p => prd (p.1, ((f' p.2 : Nat) : Int))) = (zi (ss.map fun p => (p.1, f' p.2))).map prd := by
          unfold zi
          rw [List.map_map, List.map_map]
          rfl
        rw [e4] at hall
        exact hall.mono ((((Px.Ext.rfl' H2).new hq).new hq2).new hq3).tu
def spTrim (vs : List V) (H : Hp) (Q : VK) (_ : XK) : Prop := ∃ (a : Addr) (xs : List St), vs = [.ref a] ∧ Steps H a xs ∧ Wf xs ∧ ∀ p H', H p = none → Steps H' p (due xs) → Px.Ext H H' → Q (.ref p) H'
/-- behind i steps: the list at r, the dict at d -/
def ITr (a m d r : Addr) (xs : List St) (H : Hp) (i : Nat) (σ' : L2.St) (H' : Hp) : Prop := (∃ v, σ' = [some (.ref a), some (.ref m), some (.ref d), some (.ref r), v]) ∧ Px.Ext H H' ∧ H d = none ∧ H r = none ∧ m ≠ d ∧ m ≠ r ∧ d ≠ r ∧ H' m = some (.lst (mk xs xs.length)) ∧ Nums H' d i (W xs) (rank xs) ∧
  ∃ ys, H' r = some (.lst ys) ∧ DtAll H' ys (given i (W xs) fun k => enc (ren (rank xs) (at_ xs k)))
theorem given_rank (xs : List St) (i : Nat) (f : Nat → PyData) : (given i (W xs) f).length = rank xs i := by
  unfold given rank
  rw [List.length_map]
theorem ok_trim (B : Bn mg) (F : FunAt K mg "trim" s_trim) (D_kept_marks : Def P w K mg base CX0 2 "kept_marks" ["steps"] spMarks) (D_renumbered : Def P w K mg base CX0 1 "renumbered" ["step", "numbers"] spRen) : Def P w K mg base CX0 3 "trim" ["steps"] spTrim := by
  refine F.ok sc_trim (fun _ _ _ _ _ _ us hl => match us, hl with | [_], _ => rfl) (fun vs H Q E h => by obtain ⟨_, _, rfl, _⟩ := h; rfl) (fun f cdv A outer s H vs Q E hr h => ?_)
  obtain ⟨a, xs, rfl, ⟨ws, ha, hws⟩, wf, k⟩ := h
  have lw := Steps.len hws
  have l40 := wf.1
  refine ⟨_, pss_cons (ps_set (i := 1) sc_trim.nd rfl (Or.inl rfl) (pe_fn D_kept_marks hr pass0 (pa_cons (pv 0) pa_nil))) (
  pss_cons (ps_set (i := 2) sc_trim.nd rfl (Or.inl rfl) pe_dnewK) (
  pss_cons (ps_set (i := 3) sc_trim.nd rfl (Or.inl rfl) (pe_lst pa_nil)) (
  pss_cons (ps_for PassesOwn.never rfl (pi_range1 rfl B.range (pa_cons (pe_callB len_H rfl B.len (by decide +kernel) (pa_cons (pv 0) pa_nil)) pa_nil)) (pg_name (i := 4) sc_trim.nd rfl (Or.inl rfl)) (
  pss_one (ps_if (pt_val (pe_ix ix_H (pv 1) (pv 4) (fun _ _ => rfl))) (pss_cons (ps_expr (pe_bm PySem.F.plainAttrs_list PySem.F.slot_list_append PySem.F.type_list_append mt_append (pv 3) (pa_cons (pe_fn D_renumbered (hr.mono (by decide)) pass0 (pa_cons (pe_ix ix_H (pv 0) (pv 4) (fun _ _ => rfl)) (pa_cons (pv 2) pa_nil))) pa_nil))) (
  pss_one (ps_dput (hu_of hr) (pv 2) (pv 4) (pe_op op_sub (pe_callB len_H rfl B.len (by decide +kernel) (pa_cons (pv 3) pa_nil)) pe_int) rfl))) (pss_nil)))) (
  pss_one (ps_ret (pv 3)))))), ?_⟩
  show tSeq _ _ _ [some (.ref a), none, none, none, none] H
  refine go_seq ?_
  simp only [decide_true, decide_false, List.map_cons, List.map_nil, Option.map_none, Option.map_some, Option.getD_none, Option.getD_some, Px.dg2, Px.dg1, Px.dg, Px.din, Px.dnotin, Px.dnew, Px.dput, Px.isD_is, Px.dget_i, Px.dget_s, Px.dput_i, Px.dput_s, Px.dOf_d, Px.rtup, Px.rlist, Px.rsl, Px.rsort, Px.rcat, Px.rapp, Px.rrev, Px.sl_ap, Px.nop, Px.part, Px.yes, Px.tyl, Px.isL_l, Px.isT_t, Px.isL_t, Px.isT_l, Px.isD_d, Px.isT_d, Px.inV_ints, Px.flat_ints, Px.flatV_i, Px.wipe_cons, Px.wipe_nil, Px.gtup, Px.gcons, Px.gnil, gt_iff_lt, ge_iff_le, Px.we, Px.wonly, Px.was, Px.cxK, not_true_eq_false, and_self, true_implies, false_implies, implies_true, Px.e0, and_assoc, imp_false, not_false_eq_true, ne_eq, Px.rgcd, Px.rixl, Px.rixt, Px.v0, Px.v1, Px.v2, Px.v3, Px.v4, Px.v5, Px.v6, Px.v7, Px.v8, Px.v9, Px.v10, Px.v11, Px.v12, Px.v13, Px.v14, Px.v15, Px.v16, Px.v17, Px.v18, Px.v19, Px.v20, Px.v21, Px.v22, Px.v23, Px.c0, Px.asg, Px.gnm, Px.ret, Px.retN, Px.drop, Px.nxt, Px.brk, Px.cnt, Px.ifs, Px.op, Px.un, Px.tst, Px.tbl, Px.tand, Px.tor, Px.tnot, Px.andv, Px.orv, Px.notv, Px.tif, Px.tup, Px.lst, Px.nil, Px.cons, Px.cal, Px.calS, Px.cb, Px.par, Px.gsub, Px.bits, Px.bm, Px.bm0, Px.ri, Px.ri0, Px.ru, Px.req, Px.rne, Px.rix, Px.rlen, Px.rin, Px.rsetl, Px.risi, Px.tyH_n, Px.tyH_b, Px.tyH_i, Px.tyH_s, Px.tyH_r, Px.seqH_t, Px.seqH_l, Px.seqH_fl, Px.sc_ii, Px.sc_bb, Px.sc_ss, Px.atI0, Px.atI1, Px.atI2, Px.atI3, Px.atI4, Px.atI5, Px.atI6, Px.atI7, Px.kb_NoneType_int, Px.kb_NoneType_bool, Px.kb_NoneType_str, Px.kb_NoneType_list, Px.kb_NoneType_tuple, Px.kb_NoneType_dict, Px.kb_bool_int, Px.kb_bool_bool, Px.kb_bool_str, Px.kb_bool_list, Px.kb_bool_tuple, Px.kb_bool_dict, Px.kb_int_int, Px.kb_int_bool, Px.kb_int_str, Px.kb_int_list, Px.kb_int_tuple, Px.kb_int_dict, Px.kb_str_int, Px.kb_str_bool, Px.kb_str_str, Px.kb_str_list, Px.kb_str_tuple, Px.kb_str_dict, Px.kb_list_int, Px.kb_list_bool, Px.kb_list_str, Px.kb_list_list, Px.kb_list_tuple, Px.kb_list_dict, Px.kb_tuple_int, Px.kb_tuple_bool, Px.kb_tuple_str, Px.kb_tuple_list, Px.kb_tuple_tuple, Px.kb_tuple_dict, Px.kb_dict_int, Px.kb_dict_bool, Px.kb_dict_str, Px.kb_dict_list, Px.kb_dict_tuple, Px.kb_dict_dict, L2.upd_same, Px.updI, L2.ixN, List.set_cons_zero, List.set_cons_succ, List.length_cons, List.length_nil, Nat.reduceAdd, Nat.zero_add, L2.HO.lst.injEq, L2.HO.tup.injEq, L2.upd_upd, L2.V.int.injEq, L2.V.ref.injEq, L2.V.bl.injEq, L2.V.str.injEq, L2.V.ty.injEq, List.cons.injEq, and_true, true_and, and_false, false_and, or_false, false_or, exists_eq_left', exists_eq_left, exists_and_left, exists_const, exists_false, Option.some.injEq, decide_eq_true_eq, List.append_nil, List.cons_append, List.nil_append, Option.isSome_some, Bool.not_true, Bool.not_false, Bool.not_eq_true', Bool.not_eq_true, Bool.false_eq_true, decide_eq_false_iff_not, if_true, if_false, ite_true, ite_false, Int.reduceLE, Int.reduceLT, Int.reduceToNat, Int.cast_ofNat_Int, Bool.true_eq_false, eq_self, ↓reduceIte, reduceCtorEq, Px.aug, Px.ipi, Px.tri, Px.rcatth, Px.flh, Px.sfl, Px.met, Px.mak, *, spMarks]
  refine ⟨xs, ⟨ws, ha, hws⟩, wf, fun m H1 hm hm1 e1 => ?_⟩
  refine go_seq ?_
  simp only [decide_true, decide_false, List.map_cons, List.map_nil, Option.map_none, Option.map_some, Option.getD_none, Option.getD_some, Px.dg2, Px.dg1, Px.dg, Px.din, Px.dnotin, Px.dnew, Px.dput, Px.isD_is, Px.dget_i, Px.dget_s, Px.dput_i, Px.dput_s, Px.dOf_d, Px.rtup, Px.rlist, Px.rsl, Px.rsort, Px.rcat, Px.rapp, Px.rrev, Px.sl_ap, Px.nop, Px.part, Px.yes, Px.tyl, Px.isL_l, Px.isT_t, Px.isL_t, Px.isT_l, Px.isD_d, Px.isT_d, Px.inV_ints, Px.flat_ints, Px.flatV_i, Px.wipe_cons, Px.wipe_nil, Px.gtup, Px.gcons, Px.gnil, gt_iff_lt, ge_iff_le, Px.we, Px.wonly, Px.was, Px.cxK, not_true_eq_false, and_self, true_implies, false_implies, implies_true, Px.e0, and_assoc, imp_false, not_false_eq_true, ne_eq, Px.rgcd, Px.rixl, Px.rixt, Px.v0, Px.v1, Px.v2, Px.v3, Px.v4, Px.v5, Px.v6, Px.v7, Px.v8, Px.v9, Px.v10, Px.v11, Px.v12, Px.v13, Px.v14, Px.v15, Px.v16, Px.v17, Px.v18, Px.v19, Px.v20, Px.v21, Px.v22, Px.v23, Px.c0, Px.asg, Px.gnm, Px.ret, Px.retN, Px.drop, Px.nxt, Px.brk, Px.cnt, Px.ifs, Px.op, Px.un, Px.tst, Px.tbl, Px.tand, Px.tor, Px.tnot, Px.andv, Px.orv, Px.notv, Px.tif, Px.tup, Px.lst, Px.nil, Px.cons, Px.cal, Px.calS, Px.cb, Px.par, Px.gsub, Px.bits, Px.bm, Px.bm0, Px.ri, Px.ri0, Px.ru, Px.req, Px.rne, Px.rix, Px.rlen, Px.rin, Px.rsetl, Px.risi, Px.tyH_n, Px.tyH_b, Px.tyH_i, Px.tyH_s, Px.tyH_r, Px.seqH_t, Px.seqH_l, Px.seqH_fl, Px.sc_ii, Px.sc_bb, Px.sc_ss, Px.atI0, Px.atI1, Px.atI2, Px.atI3, Px.atI4, Px.atI5, Px.atI6, Px.atI7, Px.kb_NoneType_int, Px.kb_NoneType_bool, Px.kb_NoneType_str, Px.kb_NoneType_list, Px.kb_NoneType_tuple, Px.kb_NoneType_dict, Px.kb_bool_int, Px.kb_bool_bool, Px.kb_bool_str, Px.kb_bool_list, Px.kb_bool_tuple, Px.kb_bool_dict, Px.kb_int_int, Px.kb_int_bool, Px.kb_int_str, Px.kb_int_list, Px.kb_int_tuple, Px.kb_int_dict, Px.kb_str_int, Px.kb_str_bool, Px.kb_str_str, Px.kb_str_list, Px.kb_str_tuple, Px.kb_str_dict, Px.kb_list_int, Px.kb_list_bool, Px.kb_list_str, Px.kb_list_list, Px.kb_list_tuple, Px.kb_list_dict, Px.kb_tuple_int, Px.kb_tuple_bool, Px.kb_tuple_str, Px.kb_tuple_list, Px.kb_tuple_tuple, Px.kb_tuple_dict, Px.kb_dict_int, Px.kb_dict_bool, Px.kb_dict_str, Px.kb_dict_list, Px.kb_dict_tuple, Px.kb_dict_dict, L2.upd_same, Px.updI, L2.ixN, List.set_cons_zero, List.set_cons_succ, List.length_cons, List.length_nil, Nat.reduceAdd, Nat.zero_add, L2.HO.lst.injEq, L2.HO.tup.injEq, L2.upd_upd, L2.V.int.injEq, L2.V.ref.injEq, L2.V.bl.injEq, L2.V.str.injEq, L2.V.ty.injEq, List.cons.injEq, and_true, true_and, and_false, false_and, or_false, false_or, exists_eq_left', exists_eq_left, exists_and_left, exists_const, exists_false, Option.some.injEq, decide_eq_true_eq, List.append_nil, List.cons_append, List.nil_append, Option.isSome_some, Bool.not_true, Bool.not_false, Bool.not_eq_true', Bool.not_eq_true, Bool.false_eq_true, decide_eq_false_iff_not, if_true, if_false, ite_true, ite_false, Int.reduceLE, Int.reduceLT, Int.reduceToNat, Int.cast_ofNat_Int, Bool.true_eq_false, eq_self, ↓reduceIte, reduceCtorEq, Px.aug, Px.ipi, Px.tri, Px.rcatth, Px.flh, Px.sfl, Px.met, Px.mak, *]
  intro d hd
  refine go_seq ?_
  simp only [decide_true, decide_false, List.map_cons, List.map_nil, Option.map_none, Option.map_some, Option.getD_none, Option.getD_some, Px.dg2, Px.dg1, Px.dg, Px.din, Px.dnotin, Px.dnew, Px.dput, Px.isD_is, Px.dget_i, Px.dget_s, Px.dput_i, Px.dput_s, Px.dOf_d, Px.rtup, Px.rlist, Px.rsl, Px.rsort, Px.rcat, Px.rapp, Px.rrev, Px.sl_ap, Px.nop, Px.part, Px.yes, Px.tyl, Px.isL_l, Px.isT_t, Px.isL_t, Px.isT_l, Px.isD_d, Px.isT_d, Px.inV_ints, Px.flat_ints, Px.flatV_i, Px.wipe_cons, Px.wipe_nil, Px.gtup, Px.gcons, Px.gnil, gt_iff_lt, ge_iff_le, Px.we, Px.wonly, Px.was, Px.cxK, not_true_eq_false, and_self, true_implies, false_implies, implies_true, Px.e0, and_assoc, imp_false, not_false_eq_true, ne_eq, Px.rgcd, Px.rixl, Px.rixt, Px.v0, Px.v1, Px.v2, Px.v3, Px.v4, Px.v5, Px.v6, Px.v7, Px.v8, Px.v9, Px.v10, Px.v11, Px.v12, Px.v13, Px.v14, Px.v15, Px.v16, Px.v17, Px.v18, Px.v19, Px.v20, Px.v21, Px.v22, Px.v23, Px.c0, Px.asg, Px.gnm, Px.ret, Px.retN, Px.drop, Px.nxt, Px.brk, Px.cnt, Px.ifs, Px.op, Px.un, Px.tst, Px.tbl, Px.tand, Px.tor, Px.tnot, Px.andv, Px.orv, Px.notv, Px.tif, Px.tup, Px.lst, Px.nil, Px.cons, Px.cal, Px.calS, Px.cb, Px.par, Px.gsub, Px.bits, Px.bm, Px.bm0, Px.ri, Px.ri0, Px.ru, Px.req, Px.rne, Px.rix, Px.rlen, Px.rin, Px.rsetl, Px.risi, Px.tyH_n, Px.tyH_b, Px.tyH_i, Px.tyH_s, Px.tyH_r, Px.seqH_t, Px.seqH_l, Px.seqH_fl, Px.sc_ii, Px.sc_bb, Px.sc_ss, Px.atI0, Px.atI1, Px.atI2, Px.atI3, Px.atI4, Px.atI5, Px.atI6, Px.atI7, Px.kb_NoneType_int, Px.kb_NoneType_bool, Px.kb_NoneType_str, Px.kb_NoneType_list, Px.kb_NoneType_tuple, Px.kb_NoneType_dict, Px.kb_bool_int, Px.kb_bool_bool, Px.kb_bool_str, Px.kb_bool_list, Px.kb_bool_tuple, Px.kb_bool_dict, Px.kb_int_int, Px.kb_int_bool, Px.kb_int_str, Px.kb_int_list, Px.kb_int_tuple, Px.kb_int_dict, Px.kb_str_int, Px.kb_str_bool, Px.kb_str_str, Px.kb_str_list, Px.kb_str_tuple, Px.kb_str_dict, Px.kb_list_int, Px.kb_list_bool, Px.kb_list_str, Px.kb_list_list, Px.kb_list_tuple, Px.kb_list_dict, Px.kb_tuple_int, Px.kb_tuple_bool, Px.kb_tuple_str, Px.kb_tuple_list, Px.kb_tuple_tuple, Px.kb_tuple_dict, Px.kb_dict_int, Px.kb_dict_bool, Px.kb_dict_str, Px.kb_dict_list, Px.kb_dict_tuple, Px.kb_dict_dict, L2.upd_same, Px.updI, L2.ixN, List.set_cons_zero, List.set_cons_succ, List.length_cons, List.length_nil, Nat.reduceAdd, Nat.zero_add, L2.HO.lst.injEq, L2.HO.tup.injEq, L2.upd_upd, L2.V.int.injEq, L2.V.ref.injEq, L2.V.bl.injEq, L2.V.str.injEq, L2.V.ty.injEq, List.cons.injEq, and_true, true_and, and_false, false_and, or_false, false_or, exists_eq_left', exists_eq_left, exists_and_left, exists_const, exists_false, Option.some.injEq, decide_eq_true_eq, List.append_nil, List.cons_append, List.nil_append, Option.isSome_some, Bool.not_true, Bool.not_false, Bool.not_eq_true', Bool.not_eq_true, Bool.false_eq_true, decide_eq_false_iff_not, if_true, if_false, ite_true, ite_false, Int.reduceLE, Int.reduceLT, Int.reduceToNat, Int.cast_ofNat_Int, Bool.true_eq_false, eq_self, ↓reduceIte, reduceCtorEq, Px.aug, Px.ipi, Px.tri, Px.rcatth, Px.flh, Px.sfl, Px.met, Px.mak, *]
  refine ⟨by decide, fun r hrr => ?_⟩
  have m2 : (upd H1 d (.dK [])) m = some (.lst (mk xs xs.length)) := by rw [updI hd (by rw [hm1]; rfl), hm1]
  have ndm : m ≠ d := fun z => by rw [← z, hm1] at hd; cases hd
  have nmr : m ≠ r := fun z => by rw [← z, m2] at hrr; cases hrr
  have ndr : d ≠ r := fun z => by rw [← z, upd_same] at hrr; cases hrr
  have e3 := (e1.new (o := .dK []) hd).new (o := .lst []) hrr
  refine go_seq ?_
  refine for_r1 (ITr a m d r xs H) (xs.length : Int) ?_ ⟨by omega, by omega⟩ ⟨⟨_, rfl⟩, e3, e1.no hd, (e1.new (o := .dK []) hd).no hrr, ndm, nmr, ndr, ?_, ⟨[], ?_, Nat.le_refl _, fun r h => absurd h (by omega)⟩, [], upd_same, .nil⟩ ?_ ?_
  · intro Q hQ
    have ha3 := e3.get ha
    simp only [decide_true, decide_false, List.map_cons, List.map_nil, Option.map_none, Option.map_some, Option.getD_none, Option.getD_some, Px.dg2, Px.dg1, Px.dg, Px.din, Px.dnotin, Px.dnew, Px.dput, Px.isD_is, Px.dget_i, Px.dget_s, Px.dput_i, Px.dput_s, Px.dOf_d, Px.rtup, Px.rlist, Px.rsl, Px.rsort, Px.rcat, Px.rapp, Px.rrev, Px.sl_ap, Px.nop, Px.part, Px.yes, Px.tyl, Px.isL_l, Px.isT_t, Px.isL_t, Px.isT_l, Px.isD_d, Px.isT_d, Px.inV_ints, Px.flat_ints, Px.flatV_i, Px.wipe_cons, Px.wipe_nil, Px.gtup, Px.gcons, Px.gnil, gt_iff_lt, ge_iff_le, Px.we, Px.wonly, Px.was, Px.cxK, not_true_eq_false, and_self, true_implies, false_implies, implies_true, Px.e0, and_assoc, imp_false, not_false_eq_true, ne_eq, Px.rgcd, Px.rixl, Px.rixt, Px.v0, Px.v1, Px.v2, Px.v3, Px.v4, Px.v5, Px.v6, Px.v7, Px.v8, Px.v9, Px.v10, Px.v11, Px.v12, Px.v13, Px.v14, Px.v15, Px.v16, Px.v17, Px.v18, Px.v19, Px.v20, Px.v21, Px.v22, Px.v23, Px.c0, Px.asg, Px.gnm, Px.ret, Px.retN, Px.drop, Px.nxt, Px.brk, Px.cnt, Px.ifs, Px.op, Px.un, Px.tst, Px.tbl, Px.tand, Px.tor, Px.tnot, Px.andv, Px.orv, Px.notv, Px.tif, Px.tup, Px.lst, Px.nil, Px.cons, Px.cal, Px.calS, Px.cb, Px.par, Px.gsub, Px.bits, Px.bm, Px.bm0, Px.ri, Px.ri0, Px.ru, Px.req, Px.rne, Px.rix, Px.rlen, Px.rin, Px.rsetl, Px.risi, Px.tyH_n, Px.tyH_b, Px.tyH_i, Px.tyH_s, Px.tyH_r, Px.seqH_t, Px.seqH_l, Px.seqH_fl, Px.sc_ii, Px.sc_bb, Px.sc_ss, Px.atI0, Px.atI1, Px.atI2, Px.atI3, Px.atI4, Px.atI5, Px.atI6, Px.atI7, Px.kb_NoneType_int, Px.kb_NoneType_bool, Px.kb_NoneType_str, Px.kb_NoneType_list, Px.kb_NoneType_tuple, Px.kb_NoneType_dict, Px.kb_bool_int, Px.kb_bool_bool, Px.kb_bool_str, Px.kb_bool_list, Px.kb_bool_tuple, Px.kb_bool_dict, Px.kb_int_int, Px.kb_int_bool, Px.kb_int_str, Px.kb_int_list, Px.kb_int_tuple, Px.kb_int_dict, Px.kb_str_int, Px.kb_str_bool, Px.kb_str_str, Px.kb_str_list, Px.kb_str_tuple, Px.kb_str_dict, Px.kb_list_int, Px.kb_list_bool, Px.kb_list_str, Px.kb_list_list, Px.kb_list_tuple, Px.kb_list_dict, Px.kb_tuple_int, Px.kb_tuple_bool, Px.kb_tuple_str, Px.kb_tuple_list, Px.kb_tuple_tuple, Px.kb_tuple_dict, Px.kb_dict_int, Px.kb_dict_bool, Px.kb_dict_str, Px.kb_dict_list, Px.kb_dict_tuple, Px.kb_dict_dict, L2.upd_same, Px.updI, L2.ixN, List.set_cons_zero, List.set_cons_succ, List.length_cons, List.length_nil, Nat.reduceAdd, Nat.zero_add, L2.HO.lst.injEq, L2.HO.tup.injEq, L2.upd_upd, L2.V.int.injEq, L2.V.ref.injEq, L2.V.bl.injEq, L2.V.str.injEq, L2.V.ty.injEq, List.cons.injEq, and_true, true_and, and_false, false_and, or_false, false_or, exists_eq_left', exists_eq_left, exists_and_left, exists_const, exists_false, Option.some.injEq, decide_eq_true_eq, List.append_nil, List.cons_append, List.nil_append, Option.isSome_some, Bool.not_true, Bool.not_false, Bool.not_eq_true', Bool.not_eq_true, Bool.false_eq_true, decide_eq_false_iff_not, if_true, if_false, ite_true, ite_false, Int.reduceLE, Int.reduceLT, Int.reduceToNat, Int.cast_ofNat_Int, Bool.true_eq_false, eq_self, ↓reduceIte, reduceCtorEq, Px.aug, Px.ipi, Px.tri, Px.rcatth, Px.flh, Px.sfl, Px.met, Px.mak, *]
  · rw [upd_ne nmr, m2]
  · rw [upd_ne ndr, upd_same]
  · rintro i σ' H' hi ⟨⟨v, rfl⟩, e', hd0, hr0, _, _, _, hm', ⟨kvs, hk1, hk2, hk3⟩, ys, hy, dys⟩
    have li : i < xs.length := by omega
    have ha' := e'.get ha
    obtain ⟨y, hy', dy⟩ := Steps.at_ hws li
    have ay := atI_nat hy'
    have am := atI_nat (mk_at (t := xs.length) li)
    have ew : decide ((i : Int) ∈ wants xs xs.length) = W xs i := rfl
    have ly := dys.len
    rw [given_rank] at ly
    have lr := rank_self xs i
    simp only [decide_true, decide_false, List.map_cons, List.map_nil, Option.map_none, Option.map_some, Option.getD_none, Option.getD_some, Px.dg2, Px.dg1, Px.dg, Px.din, Px.dnotin, Px.dnew, Px.dput, Px.isD_is, Px.dget_i, Px.dget_s, Px.dput_i, Px.dput_s, Px.dOf_d, Px.rtup, Px.rlist, Px.rsl, Px.rsort, Px.rcat, Px.rapp, Px.rrev, Px.sl_ap, Px.nop, Px.part, Px.yes, Px.tyl, Px.isL_l, Px.isT_t, Px.isL_t, Px.isT_l, Px.isD_d, Px.isT_d, Px.inV_ints, Px.flat_ints, Px.flatV_i, Px.wipe_cons, Px.wipe_nil, Px.gtup, Px.gcons, Px.gnil, gt_iff_lt, ge_iff_le, Px.we, Px.wonly, Px.was, Px.cxK, not_true_eq_false, and_self, true_implies, false_implies, implies_true, Px.e0, and_assoc, imp_false, not_false_eq_true, ne_eq, Px.rgcd, Px.rixl, Px.rixt, Px.v0, Px.v1, Px.v2, Px.v3, Px.v4, Px.v5, Px.v6, Px.v7, Px.v8, Px.v9, Px.v10, Px.v11, Px.v12, Px.v13, Px.v14, Px.v15, Px.v16, Px.v17, Px.v18, Px.v19, Px.v20, Px.v21, Px.v22, Px.v23, Px.c0, Px.asg, Px.gnm, Px.ret, Px.retN, Px.drop, Px.nxt, Px.brk, Px.cnt, Px.ifs, Px.op, Px.un, Px.tst, Px.tbl, Px.tand, Px.tor, Px.tnot, Px.andv, Px.orv, Px.notv, Px.tif, Px.tup, Px.lst, Px.nil, Px.cons, Px.cal, Px.calS, Px.cb, Px.par, Px.gsub, Px.bits, Px.bm, Px.bm0, Px.ri, Px.ri0, Px.ru, Px.req, Px.rne, Px.rix, Px.rlen, Px.rin, Px.rsetl, Px.risi, Px.tyH_n, Px.tyH_b, Px.tyH_i, Px.tyH_s, Px.tyH_r, Px.seqH_t, Px.seqH_l, Px.seqH_fl, Px.sc_ii, Px.sc_bb, Px.sc_ss, Px.atI0, Px.atI1, Px.atI2, Px.atI3, Px.atI4, Px.atI5, Px.atI6, Px.atI7, Px.kb_NoneType_int, Px.kb_NoneType_bool, Px.kb_NoneType_str, Px.kb_NoneType_list, Px.kb_NoneType_tuple, Px.kb_NoneType_dict, Px.kb_bool_int, Px.kb_bool_bool, Px.kb_bool_str, Px.kb_bool_list, Px.kb_bool_tuple, Px.kb_bool_dict, Px.kb_int_int, Px.kb_int_bool, Px.kb_int_str, Px.kb_int_list, Px.kb_int_tuple, Px.kb_int_dict, Px.kb_str_int, Px.kb_str_bool, Px.kb_str_str, Px.kb_str_list, Px.kb_str_tuple, Px.kb_str_dict, Px.kb_list_int, Px.kb_list_bool, Px.kb_list_str, Px.kb_list_list, Px.kb_list_tuple, Px.kb_list_dict, Px.kb_tuple_int, Px.kb_tuple_bool, Px.kb_tuple_str, Px.kb_tuple_list, Px.kb_tuple_tuple, Px.kb_tuple_dict, Px.kb_dict_int, Px.kb_dict_bool, Px.kb_dict_str, Px.kb_dict_list, Px.kb_dict_tuple, Px.kb_dict_dict, L2.upd_same, Px.updI, L2.ixN, List.set_cons_zero, List.set_cons_succ, List.length_cons, List.length_nil, Nat.reduceAdd, Nat.zero_add, L2.HO.lst.injEq, L2.HO.tup.injEq, L2.upd_upd, L2.V.int.injEq, L2.V.ref.injEq, L2.V.bl.injEq, L2.V.str.injEq, L2.V.ty.injEq, List.cons.injEq, and_true, true_and, and_false, false_and, or_false, false_or, exists_eq_left', exists_eq_left, exists_and_left, exists_const, exists_false, Option.some.injEq, decide_eq_true_eq, List.append_nil, List.cons_append, List.nil_append, Option.isSome_some, Bool.not_true, Bool.not_false, Bool.not_eq_true', Bool.not_eq_true, Bool.false_eq_true, decide_eq_false_iff_not, if_true, if_false, ite_true, ite_false, Int.reduceLE, Int.reduceLT, Int.reduceToNat, Int.cast_ofNat_Int, Bool.true_eq_false, eq_self, ↓reduceIte, reduceCtorEq, Px.aug, Px.ipi, Px.tri, Px.rcatth, Px.flh, Px.sfl, Px.met, Px.mak, *]
    refine go_if (fun hw => ?_) (fun hw => ?_)
    · have hW : W xs i = true := hw
      refine go_seq ?_
      simp only [decide_true, decide_false, List.map_cons, List.map_nil, Option.map_none, Option.map_some, Option.getD_none, Option.getD_some, Px.dg2, Px.dg1, Px.dg, Px.din, Px.dnotin, Px.dnew, Px.dput, Px.isD_is, Px.dget_i, Px.dget_s, Px.dput_i, Px.dput_s, Px.dOf_d, Px.rtup, Px.rlist, Px.rsl, Px.rsort, Px.rcat, Px.rapp, Px.rrev, Px.sl_ap, Px.nop, Px.part, Px.yes, Px.tyl, Px.isL_l, Px.isT_t, Px.isL_t, Px.isT_l, Px.isD_d, Px.isT_d, Px.inV_ints, Px.flat_ints, Px.flatV_i, Px.wipe_cons, Px.wipe_nil, Px.gtup, Px.gcons, Px.gnil, gt_iff_lt, ge_iff_le, Px.we, Px.wonly, Px.was, Px.cxK, not_true_eq_false, and_self, true_implies, false_implies, implies_true, Px.e0, and_assoc, imp_false, not_false_eq_true, ne_eq, Px.rgcd, Px.rixl, Px.rixt, Px.v0, Px.v1, Px.v2, Px.v3, Px.v4, Px.v5, Px.v6, Px.v7, Px.v8, Px.v9, Px.v10, Px.v11, Px.v12, Px.v13, Px.v14, Px.v15, Px.v16, Px.v17, Px.v18, Px.v19, Px.v20, Px.v21, Px.v22, Px.v23, Px.c0, Px.asg, Px.gnm, Px.ret, Px.retN, Px.drop, Px.nxt, Px.brk, Px.cnt, Px.ifs, Px.op, Px.un, Px.tst, Px.tbl, Px.tand, Px.tor, Px.tnot, Px.andv, Px.orv, Px.notv, Px.tif, Px.tup, Px.lst, Px.nil, Px.cons, Px.cal, Px.calS, Px.cb, Px.par, Px.gsub, Px.bits, Px.bm, Px.bm0, Px.ri, Px.ri0, Px.ru, Px.req, Px.rne, Px.rix, Px.rlen, Px.rin, Px.rsetl, Px.risi, Px.tyH_n, Px.tyH_b, Px.tyH_i, Px.tyH_s, Px.tyH_r, Px.seqH_t, Px.seqH_l, Px.seqH_fl, Px.sc_ii, Px.sc_bb, Px.sc_ss, Px.atI0, Px.atI1, Px.atI2, Px.atI3, Px.atI4, Px.atI5, Px.atI6, Px.atI7, Px.kb_NoneType_int, Px.kb_NoneType_bool, Px.kb_NoneType_str, Px.kb_NoneType_list, Px.kb_NoneType_tuple, Px.kb_NoneType_dict, Px.kb_bool_int, Px.kb_bool_bool, Px.kb_bool_str, Px.kb_bool_list, Px.kb_bool_tuple, Px.kb_bool_dict, Px.kb_int_int, Px.kb_int_bool, Px.kb_int_str, Px.kb_int_list, Px.kb_int_tuple, Px.kb_int_dict, Px.kb_str_int, Px.kb_str_bool, Px.kb_str_str, Px.kb_str_list, Px.kb_str_tuple, Px.kb_str_dict, Px.kb_list_int, Px.kb_list_bool, Px.kb_list_str, Px.kb_list_list, Px.kb_list_tuple, Px.kb_list_dict, Px.kb_tuple_int, Px.kb_tuple_bool, Px.kb_tuple_str, Px.kb_tuple_list, Px.kb_tuple_tuple, Px.kb_tuple_dict, Px.kb_dict_int, Px.kb_dict_bool, Px.kb_dict_str, Px.kb_dict_list, Px.kb_dict_tuple, Px.kb_dict_dict, L2.upd_same, Px.updI, L2.ixN, List.set_cons_zero, List.set_cons_succ, List.length_cons, List.length_nil, Nat.reduceAdd, Nat.zero_add, L2.HO.lst.injEq, L2.HO.tup.injEq, L2.upd_upd, L2.V.int.injEq, L2.V.ref.injEq, L2.V.bl.injEq, L2.V.str.injEq, L2.V.ty.injEq, List.cons.injEq, and_true, true_and, and_false, false_and, or_false, false_or, exists_eq_left', exists_eq_left, exists_and_left, exists_const, exists_false, Option.some.injEq, decide_eq_true_eq, List.append_nil, List.cons_append, List.nil_append, Option.isSome_some, Bool.not_true, Bool.not_false, Bool.not_eq_true', Bool.not_eq_true, Bool.false_eq_true, decide_eq_false_iff_not, if_true, if_false, ite_true, ite_false, Int.reduceLE, Int.reduceLT, Int.reduceToNat, Int.cast_ofNat_Int, Bool.true_eq_false, eq_self, ↓reduceIte, reduceCtorEq, Px.aug, Px.ipi, Px.tri, Px.rcatth, Px.flh, Px.sfl, Px.met, Px.mak, *, spRen]
      refine ⟨i, at_ xs i, dy.mono e'.tu, wf.2 _ _ (at_get li), rank xs, W xs, ⟨kvs, hk1, hk2, hk3⟩, fun r hr => W_refs wf li hW hr, fun v' H4 dv e4 => ?_⟩
      have hy4 := e4.get hy
      have hk4 := e4.get hk1
      have el : (((ys ++ [v']).length : Nat) : Int) - 1 = ((rank xs i : Nat) : Int) := by rw [List.length_append, List.length_singleton, ly]; omega
      have sz : ys.length < sizeLine := Nat.lt_of_lt_of_le (show ys.length < 100 by omega) (by decide)
      refine ⟨ys, hy4, sz, ?_⟩
      rw [el]
      have hd5 : (upd H4 r (.lst (ys ++ [v']))) d = some (.dK kvs) := by rw [upd_ne ndr, hk4]
      have t5 : Tu H4 (upd H4 r (.lst (ys ++ [v']))) := (Tu.rfl' H4).mut (by rw [hy4]; rfl)
      have t6 := fun o => t5.mut (p := d) (o := o) (by rw [hd5]; rfl)
      refine ⟨_, DPut.k (k := Sum.inl ((i : Nat) : Int)) hd5 (Nat.lt_of_lt_of_le (show kvs.length < 100 by omega) (by decide)), ⟨_, rfl⟩, ((e'.trans e4).mut hr0).mut hd0, hd0, hr0, ndm, nmr, ndr, ?_, ⟨_, upd_same, ?_, fun q hq hWq => ?_⟩, ys ++ [v'], ?_, ?_⟩
      · rw [upd_ne ndm, upd_ne nmr]
        exact e4.get hm'
      · have := length_putK kvs (Sum.inl ((i : Nat) : Int)) (V.int ((rank xs i : Nat) : Int))
        omega
      · rw [valV_put]
        by_cases z : q = i
        · rw [z, if_pos rfl]
        · rw [if_neg (fun h => z (by injection h with h; omega))]
          exact hk3 q (by omega) hWq
      · rw [upd_ne ndr.symm, upd_same]
      · rw [given_yes hW]
        exact ((dys.mono e4.tu).mono (t6 _)).app (.cons (dv.mono (t6 _)) .nil)
    · have hW : W xs i = false := Bool.eq_false_iff.mpr hw
      refine ⟨⟨_, rfl⟩, e', hd0, hr0, ndm, nmr, ndr, hm', ⟨kvs, hk1, by omega, fun r hr hWr => ?_⟩, ys, hy, ?_⟩
      · refine hk3 r ?_ hWr
        by_cases z : r = i
        · rw [z, hW] at hWr; cases hWr
        · omega
      · rw [given_no hW]
        exact dys
  · rintro σ' H' ⟨⟨v, rfl⟩, e', hd0, hr0, _, _, _, hm', _, ys, hy, dys⟩
    simp only [decide_true, decide_false, List.map_cons, List.map_nil, Option.map_none, Option.map_some, Option.getD_none, Option.getD_some, Px.dg2, Px.dg1, Px.dg, Px.din, Px.dnotin, Px.dnew, Px.dput, Px.isD_is, Px.dget_i, Px.dget_s, Px.dput_i, Px.dput_s, Px.dOf_d, Px.rtup, Px.rlist, Px.rsl, Px.rsort, Px.rcat, Px.rapp, Px.rrev, Px.sl_ap, Px.nop, Px.part, Px.yes, Px.tyl, Px.isL_l, Px.isT_t, Px.isL_t, Px.isT_l, Px.isD_d, Px.isT_d, Px.inV_ints, Px.flat_ints, Px.flatV_i, Px.wipe_cons, Px.wipe_nil, Px.gtup, Px.gcons, Px.gnil, gt_iff_lt, ge_iff_le, Px.we, Px.wonly, Px.was, Px.cxK, not_true_eq_false, and_self, true_implies, false_implies, implies_true, Px.e0, and_assoc, imp_false, not_false_eq_true, ne_eq, Px.rgcd, Px.rixl, Px.rixt, Px.v0, Px.v1, Px.v2, Px.v3, Px.v4, Px.v5, Px.v6, Px.v7, Px.v8, Px.v9, Px.v10, Px.v11, Px.v12, Px.v13, Px.v14, Px.v15, Px.v16, Px.v17, Px.v18, Px.v19, Px.v20, Px.v21, Px.v22, Px.v23, Px.c0, Px.asg, Px.gnm, Px.ret, Px.retN, Px.drop, Px.nxt, Px.brk, Px.cnt, Px.ifs, Px.op, Px.un, Px.tst, Px.tbl, Px.tand, Px.tor, Px.tnot, Px.andv, Px.orv, Px.notv, Px.tif, Px.tup, Px.lst, Px.nil, Px.cons, Px.cal, Px.calS, Px.cb, Px.par, Px.gsub, Px.bits, Px.bm, Px.bm0, Px.ri, Px.ri0, Px.ru, Px.req, Px.rne, Px.rix, Px.rlen, Px.rin, Px.rsetl, Px.risi, Px.tyH_n, Px.tyH_b, Px.tyH_i, Px.tyH_s, Px.tyH_r, Px.seqH_t, Px.seqH_l, Px.seqH_fl, Px.sc_ii, Px.sc_bb, Px.sc_ss, Px.atI0, Px.atI1, Px.atI2, Px.atI3, Px.atI4, Px.atI5, Px.atI6, Px.atI7, Px.kb_NoneType_int, Px.kb_NoneType_bool, Px.kb_NoneType_str, Px.kb_NoneType_list, Px.kb_NoneType_tuple, Px.kb_NoneType_dict, Px.kb_bool_int, Px.kb_bool_bool, Px.kb_bool_str, Px.kb_bool_list, Px.kb_bool_tuple, Px.kb_bool_dict, Px.kb_int_int, Px.kb_int_bool, Px.kb_int_str, Px.kb_int_list, Px.kb_int_tuple, Px.kb_int_dict, Px.kb_str_int, Px.kb_str_bool, Px.kb_str_str, Px.kb_str_list, Px.kb_str_tuple, Px.kb_str_dict, Px.kb_list_int, Px.kb_list_bool, Px.kb_list_str, Px.kb_list_list, Px.kb_list_tuple, Px.kb_list_dict, Px.kb_tuple_int, Px.kb_tuple_bool, Px.kb_tuple_str, Px.kb_tuple_list, Px.kb_tuple_tuple, Px.kb_tuple_dict, Px.kb_dict_int, Px.kb_dict_bool, Px.kb_dict_str, Px.kb_dict_list, Px.kb_dict_tuple, Px.kb_dict_dict, L2.upd_same, Px.updI, L2.ixN, List.set_cons_zero, List.set_cons_succ, List.length_cons, List.length_nil, Nat.reduceAdd, Nat.zero_add, L2.HO.lst.injEq, L2.HO.tup.injEq, L2.upd_upd, L2.V.int.injEq, L2.V.ref.injEq, L2.V.bl.injEq, L2.V.str.injEq, L2.V.ty.injEq, List.cons.injEq, and_true, true_and, and_false, false_and, or_false, false_or, exists_eq_left', exists_eq_left, exists_and_left, exists_const, exists_false, Option.some.injEq, decide_eq_true_eq, List.append_nil, List.cons_append, List.nil_append, Option.isSome_some, Bool.not_true, Bool.not_false, Bool.not_eq_true', Bool.not_eq_true, Bool.false_eq_true, decide_eq_false_iff_not, if_true, if_false, ite_true, ite_false, Int.reduceLE, Int.reduceLT, Int.reduceToNat, Int.cast_ofNat_Int, Bool.true_eq_false, eq_self, ↓reduceIte, reduceCtorEq, Px.aug, Px.ipi, Px.tri, Px.rcatth, Px.flh, Px.sfl, Px.met, Px.mak, *]
    refine k _ _ hr0 ⟨ys, hy, ?_⟩ e'
    rw [Int.toNat_natCast] at dys
    have e5 : (given xs.length (W xs) fun k => enc (ren (rank xs) (at_ xs k))) = (due xs).map enc := by
      unfold given due kept
      rw [List.map_map]
      rfl
    rw [← e5]
    exact dys
end
end K03

namespace K03
open PySem PySem.Spec PyProof.Rows L2 Px
/-! ### taking a list over -/
theorem kd_shift (n : Nat) (x : St) : kd (shift n x) = kd x := by cases x <;> rfl
theorem ln_shift (n : Nat) (x : St) : ln (shift n x) = ln x := by cases x <;> rfl
theorem zi_shift (n : Nat) (ss : List (Int × Nat)) : zi (ss.map fun p => (p.1, p.2 + n)) = mov (n : Int) (zi ss) := by
  unfold zi mov
  rw [List.map_map, List.map_map]
  refine List.map_congr_left fun p _ => ?_
  show (p.1, ((p.2 + n : Nat) : Int)) = (p.1, (p.2 : Int) + (n : Int))
  rw [Int.natCast_add]
theorem det_shift (n f : Nat) (l : List Int) (ss : List (Int × Nat)) : det (shift n (.res l f ss)) = dtd ((f : Int) + (n : Int)) (mov (n : Int) (zi ss)) := by
  show dtd ((f + n : Nat) : Int) (zi (ss.map fun p => (p.1, p.2 + n))) = _
  rw [zi_shift, Int.natCast_add]
section
variable {P : Program} {w : World} {K : PySem.W.Frag} {mg : Str → Option Value} {base : Heap} {C : Addr}
/-- a log of the steps ss -/
def LogS (C : Addr) (H : Hp) (p l : Addr) (ss : List St) : Prop := ∃ vs, LogAt C H p l vs ∧ DtAll H vs (ss.map enc)
theorem LogS.lst {H : Hp} {p l : Addr} {ss : List St} (h : LogS C H p l ss) : ∃ vs, H l = some (.lst vs) := by
  obtain ⟨vs, ⟨_, _, h⟩, _⟩ := h
  exact ⟨vs, h⟩
theorem _root_.K03.LogAt.ext {H H' : Hp} {p l : Addr} {xs : List V} (h : LogAt C H p l xs) (e : Px.Ext H H') : LogAt C H' p l xs := by
  obtain ⟨dx, h1, h2⟩ := h
  exact ⟨dx, e.get h1, e.get h2⟩
def spTakeL (C : Addr) (vs : List V) (H : Hp) (Q : VK) (_ : XK) : Prop := ∃ (p l a : Addr) (ss xs : List St), vs = [.ref p, .ref a] ∧ LogS C H p l ss ∧ Steps H a xs ∧ Wf ss ∧ Wf xs ∧ ss.length + xs.length ≤ 40 ∧
  ∀ v H', LogS C H' p l (ss ++ xs.map (shift ss.length)) → But l H H' → (v = if xs.length = 0 then .non else .int (((ss.length + xs.length : Nat) : Int) - 1)) → Q v H'
def ITk (C p l a q : Addr) (ss xs : List St) (H H1 : Hp) (i : Nat) (σ' : L2.St) (H' : Hp) : Prop := (∃ v v' v'', σ' = [some (.ref p), some (.ref a), some (.int (ss.length : Int)), v, v', v'']) ∧ H' q = H1 q ∧ But l H H' ∧ LogS C H' p l (ss ++ (xs.take i).map (shift ss.length))
theorem ok_takeL {f : Addr} {fd : FuncData} (B : Bn mg) (L : LogC K C) (F : Fun K "take" "Log.take" s_Log_take f fd) (D_moved_details : Def P w K mg base CX0 1 "moved_details" ["details", "start"] spMoved) : FnOk P w K mg base CX0 2 f fd ["self", "steps"] (spTakeL C) := by
  refine F.ok sc_Log_take (fun vs H Q E h => by obtain ⟨_, _, _, _, _, rfl, _⟩ := h; rfl) (fun cdv A outer s H vs Q E hr h => ?_)
  obtain ⟨p, l, a, ss, xs, rfl, ⟨os, hp, hos⟩, ⟨ws, ha, hws⟩, wf1, wf2, l40, k⟩ := h
  obtain ⟨h1, h2, h3⟩ := log_fld (K := K) hp L
  have lo : os.length = ss.length := Steps.len hos
  have lw := Steps.len hws
  refine ⟨_, pss_cons (ps_set (i := 2) sc_Log_take.nd rfl (Or.inl rfl) (pe_callB len_H rfl B.len (by decide +kernel) (pa_cons (pe_fldH (pv 0) rfl) pa_nil))) (
  pss_cons (ps_for PassesOwn.never rfl (pi_seq (pe_callTy list_H rfl B.list_ (by decide +kernel) (pa_cons (pv 1) pa_nil))) (pg_tupH (n := 3) rfl (pgs_cons (pg_name (i := 3) sc_Log_take.nd rfl (Or.inl rfl)) (pgs_cons (pg_name (i := 4) sc_Log_take.nd rfl (Or.inl rfl)) (pgs_cons (pg_name (i := 5) sc_Log_take.nd rfl (Or.inl rfl)) pgs_nil)))) (
  pss_cons (ps_if (pt_cmpR op_eq (pv 3) pe_str (nomark _)) (pss_one (ps_set (i := 5) sc_Log_take.nd rfl (Or.inl rfl) (pe_fn D_moved_details hr pass0 (pa_cons (pv 5) (pa_cons (pv 2) pa_nil))))) (pss_nil)) (
  pss_one (ps_expr (pe_bm PySem.F.plainAttrs_list PySem.F.slot_list_append PySem.F.type_list_append mt_append (pe_fldH (pv 0) rfl) (pa_cons (pe_tup (pa_cons (pv 3) (pa_cons (pv 4) (pa_cons (pv 5) pa_nil)))) pa_nil)))))) (
  pss_cons (ps_if (pt_cmpR op_eq (pe_callB len_H rfl B.len (by decide +kernel) (pa_cons (pe_fldH (pv 0) rfl) pa_nil)) (pv 2) (nomark _)) (pss_one (ps_ret pe_non)) (pss_nil)) (
  pss_one (ps_ret (pe_op op_sub (pe_callB len_H rfl B.len (by decide +kernel) (pa_cons (pe_fldH (pv 0) rfl) pa_nil)) pe_int))))), ?_⟩
  show tSeq _ _ _ [some (.ref p), some (.ref a), none, none, none, none] H
  refine go_seq ?_
  simp only [decide_true, decide_false, List.map_cons, List.map_nil, Option.map_none, Option.map_some, Option.getD_none, Option.getD_some, Px.dg2, Px.dg1, Px.dg, Px.din, Px.dnotin, Px.dnew, Px.dput, Px.isD_is, Px.dget_i, Px.dget_s, Px.dput_i, Px.dput_s, Px.dOf_d, Px.rtup, Px.rlist, Px.rsl, Px.rsort, Px.rcat, Px.rapp, Px.rrev, Px.sl_ap, Px.nop, Px.part, Px.yes, Px.tyl, Px.isL_l, Px.isT_t, Px.isL_t, Px.isT_l, Px.isD_d, Px.isT_d, Px.inV_ints, Px.flat_ints, Px.flatV_i, Px.wipe_cons, Px.wipe_nil, Px.gtup, Px.gcons, Px.gnil, gt_iff_lt, ge_iff_le, Px.we, Px.wonly, Px.was, Px.cxK, not_true_eq_false, and_self, true_implies, false_implies, implies_true, Px.e0, and_assoc, imp_false, not_false_eq_true, ne_eq, Px.rgcd, Px.rixl, Px.rixt, Px.v0, Px.v1, Px.v2, Px.v3, Px.v4, Px.v5, Px.v6, Px.v7, Px.v8, Px.v9, Px.v10, Px.v11, Px.v12, Px.v13, Px.v14, Px.v15, Px.v16, Px.v17, Px.v18, Px.v19, Px.v20, Px.v21, Px.v22, Px.v23, Px.c0, Px.asg, Px.gnm, Px.ret, Px.retN, Px.drop, Px.nxt, Px.brk, Px.cnt, Px.ifs, Px.op, Px.un, Px.tst, Px.tbl, Px.tand, Px.tor, Px.tnot, Px.andv, Px.orv, Px.notv, Px.tif, Px.tup, Px.lst, Px.nil, Px.cons, Px.cal, Px.calS, Px.cb, Px.par, Px.gsub, Px.bits, Px.bm, Px.bm0, Px.ri, Px.ri0, Px.ru, Px.req, Px.rne, Px.rix, Px.rlen, Px.rin, Px.rsetl, Px.risi, Px.tyH_n, Px.tyH_b, Px.tyH_i, Px.tyH_s, Px.tyH_r, Px.seqH_t, Px.seqH_l, Px.seqH_fl, Px.sc_ii, Px.sc_bb, Px.sc_ss, Px.atI0, Px.atI1, Px.atI2, Px.atI3, Px.atI4, Px.atI5, Px.atI6, Px.atI7, Px.kb_NoneType_int, Px.kb_NoneType_bool, Px.kb_NoneType_str, Px.kb_NoneType_list, Px.kb_NoneType_tuple, Px.kb_NoneType_dict, Px.kb_bool_int, Px.kb_bool_bool, Px.kb_bool_str, Px.kb_bool_list, Px.kb_bool_tuple, Px.kb_bool_dict, Px.kb_int_int, Px.kb_int_bool, Px.kb_int_str, Px.kb_int_list, Px.kb_int_tuple, Px.kb_int_dict, Px.kb_str_int, Px.kb_str_bool, Px.kb_str_str, Px.kb_str_list, Px.kb_str_tuple, Px.kb_str_dict, Px.kb_list_int, Px.kb_list_bool, Px.kb_list_str, Px.kb_list_list, Px.kb_list_tuple, Px.kb_list_dict, Px.kb_tuple_int, Px.kb_tuple_bool, Px.kb_tuple_str, Px.kb_tuple_list, Px.kb_tuple_tuple, Px.kb_tuple_dict, Px.kb_dict_int, Px.kb_dict_bool, Px.kb_dict_str, Px.kb_dict_list, Px.kb_dict_tuple, Px.kb_dict_dict, L2.upd_same, Px.updI, L2.ixN, List.set_cons_zero, List.set_cons_succ, List.length_cons, List.length_nil, Nat.reduceAdd, Nat.zero_add, L2.HO.lst.injEq, L2.HO.tup.injEq, L2.upd_upd, L2.V.int.injEq, L2.V.ref.injEq, L2.V.bl.injEq, L2.V.str.injEq, L2.V.ty.injEq, List.cons.injEq, and_true, true_and, and_false, false_and, or_false, false_or, exists_eq_left', exists_eq_left, exists_and_left, exists_const, exists_false, Option.some.injEq, decide_eq_true_eq, List.append_nil, List.cons_append, List.nil_append, Option.isSome_some, Bool.not_true, Bool.not_false, Bool.not_eq_true', Bool.not_eq_true, Bool.false_eq_true, decide_eq_false_iff_not, if_true, if_false, ite_true, ite_false, Int.reduceLE, Int.reduceLT, Int.reduceToNat, Int.cast_ofNat_Int, Bool.true_eq_false, eq_self, ↓reduceIte, reduceCtorEq, Px.aug, Px.ipi, Px.tri, Px.rcatth, Px.flh, Px.sfl, Px.met, Px.mak, *]
  refine go_seq ?_
  refine for_seqL (M := fun q ys H1 => ys = ws ∧ H q = none ∧ H1 q = some (.lst ws) ∧ Px.Ext H H1) ?_ ?_
  · intro R hR
    simp only [decide_true, decide_false, List.map_cons, List.map_nil, Option.map_none, Option.map_some, Option.getD_none, Option.getD_some, Px.dg2, Px.dg1, Px.dg, Px.din, Px.dnotin, Px.dnew, Px.dput, Px.isD_is, Px.dget_i, Px.dget_s, Px.dput_i, Px.dput_s, Px.dOf_d, Px.rtup, Px.rlist, Px.rsl, Px.rsort, Px.rcat, Px.rapp, Px.rrev, Px.sl_ap, Px.nop, Px.part, Px.yes, Px.tyl, Px.isL_l, Px.isT_t, Px.isL_t, Px.isT_l, Px.isD_d, Px.isT_d, Px.inV_ints, Px.flat_ints, Px.flatV_i, Px.wipe_cons, Px.wipe_nil, Px.gtup, Px.gcons, Px.gnil, gt_iff_lt, ge_iff_le, Px.we, Px.wonly, Px.was, Px.cxK, not_true_eq_false, and_self, true_implies, false_implies, implies_true, Px.e0, and_assoc, imp_false, not_false_eq_true, ne_eq, Px.rgcd, Px.rixl, Px.rixt, Px.v0, Px.v1, Px.v2, Px.v3, Px.v4, Px.v5, Px.v6, Px.v7, Px.v8, Px.v9, Px.v10, Px.v11, Px.v12, Px.v13, Px.v14, Px.v15, Px.v16, Px.v17, Px.v18, Px.v19, Px.v20, Px.v21, Px.v22, Px.v23, Px.c0, Px.asg, Px.gnm, Px.ret, Px.retN, Px.drop, Px.nxt, Px.brk, Px.cnt, Px.ifs, Px.op, Px.un, Px.tst, Px.tbl, Px.tand, Px.tor, Px.tnot, Px.andv, Px.orv, Px.notv, Px.tif, Px.tup, Px.lst, Px.nil, Px.cons, Px.cal, Px.calS, Px.cb, Px.par, Px.gsub, Px.bits, Px.bm, Px.bm0, Px.ri, Px.ri0, Px.ru, Px.req, Px.rne, Px.rix, Px.rlen, Px.rin, Px.rsetl, Px.risi, Px.tyH_n, Px.tyH_b, Px.tyH_i, Px.tyH_s, Px.tyH_r, Px.seqH_t, Px.seqH_l, Px.seqH_fl, Px.sc_ii, Px.sc_bb, Px.sc_ss, Px.atI0, Px.atI1, Px.atI2, Px.atI3, Px.atI4, Px.atI5, Px.atI6, Px.atI7, Px.kb_NoneType_int, Px.kb_NoneType_bool, Px.kb_NoneType_str, Px.kb_NoneType_list, Px.kb_NoneType_tuple, Px.kb_NoneType_dict, Px.kb_bool_int, Px.kb_bool_bool, Px.kb_bool_str, Px.kb_bool_list, Px.kb_bool_tuple, Px.kb_bool_dict, Px.kb_int_int, Px.kb_int_bool, Px.kb_int_str, Px.kb_int_list, Px.kb_int_tuple, Px.kb_int_dict, Px.kb_str_int, Px.kb_str_bool, Px.kb_str_str, Px.kb_str_list, Px.kb_str_tuple, Px.kb_str_dict, Px.kb_list_int, Px.kb_list_bool, Px.kb_list_str, Px.kb_list_list, Px.kb_list_tuple, Px.kb_list_dict, Px.kb_tuple_int, Px.kb_tuple_bool, Px.kb_tuple_str, Px.kb_tuple_list, Px.kb_tuple_tuple, Px.kb_tuple_dict, Px.kb_dict_int, Px.kb_dict_bool, Px.kb_dict_str, Px.kb_dict_list, Px.kb_dict_tuple, Px.kb_dict_dict, L2.upd_same, Px.updI, L2.ixN, List.set_cons_zero, List.set_cons_succ, List.length_cons, List.length_nil, Nat.reduceAdd, Nat.zero_add, L2.HO.lst.injEq, L2.HO.tup.injEq, L2.upd_upd, L2.V.int.injEq, L2.V.ref.injEq, L2.V.bl.injEq, L2.V.str.injEq, L2.V.ty.injEq, List.cons.injEq, and_true, true_and, and_false, false_and, or_false, false_or, exists_eq_left', exists_eq_left, exists_and_left, exists_const, exists_false, Option.some.injEq, decide_eq_true_eq, List.append_nil, List.cons_append, List.nil_append, Option.isSome_some, Bool.not_true, Bool.not_false, Bool.not_eq_true', Bool.not_eq_true, Bool.false_eq_true, decide_eq_false_iff_not, if_true, if_false, ite_true, ite_false, Int.reduceLE, Int.reduceLT, Int.reduceToNat, Int.cast_ofNat_Int, Bool.true_eq_false, eq_self, ↓reduceIte, reduceCtorEq, Px.aug, Px.ipi, Px.tri, Px.rcatth, Px.flh, Px.sfl, Px.met, Px.mak, *]
    exact fun q hq => hR q _ _ ⟨rfl, hq, upd_same, (Px.Ext.rfl' H).new hq⟩
  · rintro q ys H1 ⟨rfl, hq, hq1, e1⟩
    have nql : q ≠ l := fun z => by rw [z, h3] at hq; cases hq
    have npq : p ≠ q := ne_some_none (by obtain ⟨_, h, _⟩ := hp; rw [h]; rfl) hq
    refine ⟨hq1, ITk C p l a q ss xs H H1, ⟨⟨_, _, _, rfl⟩, rfl, But.of e1, os, ?_, ?_⟩, ?_, ?_, ?_⟩
    · obtain ⟨dx, g1, g2⟩ := hp
      exact ⟨dx, e1.get g1, e1.get g2⟩
    · rw [List.take_zero, List.map_nil, List.append_nil]
      exact hos.mono e1.tu
    · rintro i σ' H' ⟨_, h, _⟩
      exact h
    · rintro i x σ' H' hi ⟨⟨v, v', v'', rfl⟩, hq', bt, vs, hlog, dvs⟩
      have li : i < xs.length := by have := (List.getElem?_eq_some_iff.mp hi).1; omega
      obtain ⟨y, hy, dy⟩ := Steps.at_ hws li
      rw [hi] at hy
      cases hy
      have tu' : Tu H H' := bt.tu (by rw [h3]; rfl)
      have dy' := dy.mono tu'
      have ok := wf2.2 _ _ (at_get li)
      have tk := take_succ (at_get li)
      have lv : vs.length = ss.length + i := by rw [Steps.len dvs, List.length_append, List.length_map, List.length_take]; omega
      obtain ⟨b, c, e, rfl, g1, g2, g3⟩ := enc_inv dy'
      obtain ⟨f1, f2, f3⟩ := log_fld (K := K) hlog L
      -- the end of a turn: a step t was made in H3, the log still stands
      have fin : ∀ (e' : V) (H3 : Hp) (t : Addr), LogAt C H3 p l vs → H3 q = H' q → But l H H3 → Tu H' H3 → Dt H3 e' (det (shift ss.length (at_ xs i))) → H3 t = none →
          ∃ z, (upd H3 t (.tup [.str (kd (at_ xs i)), .ref c, e'])) l = some (.lst z) ∧ z.length < sizeLine ∧ ∀ v v' v'', ITk C p l a q ss xs H H1 (i + 1) [some (.ref p), some (.ref a), some (.int (ss.length : Int)), v, v', v''] (upd (upd H3 t (.tup [.str (kd (at_ xs i)), .ref c, e'])) l (.lst (z ++ [.ref t]))) := by
        intro e' H3 t hl3 hq3 bt3 tu3 de ht
        have hl4 := hl3.new (o := .tup [.str (kd (at_ xs i)), .ref c, e']) ht
        obtain ⟨_, _, m3⟩ := log_fld (K := K) hl4 L
        have hq3' : (H3 q).isSome = true := by rw [hq3, hq', hq1]; rfl
        refine ⟨vs, m3, Nat.lt_of_lt_of_le (show vs.length < 100 by omega) (by decide), fun v v' v'' => ⟨⟨_, _, _, rfl⟩, ?_, ?_, vs ++ [.ref t], hl4.put, ?_⟩⟩
        · rw [upd_ne nql, updI ht hq3', hq3, hq']
        · exact (bt3.new ht).mut
        · have nt : isT ((upd H3 t (.tup [.str (kd (at_ xs i)), .ref c, e'])) l) = false := by rw [m3]; rfl
          have t5 : Tu H3 (upd (upd H3 t (.tup [.str (kd (at_ xs i)), .ref c, e'])) l (.lst (vs ++ [.ref t]))) := ((Tu.rfl' H3).new ht).mut nt
          rw [tk, show ss ++ (xs.take i ++ [at_ xs i]).map (shift ss.length) = (ss ++ (xs.take i).map (shift ss.length)) ++ [shift ss.length (at_ xs i)] by rw [List.map_append, ← List.append_assoc]; rfl, List.map_append]
          refine (dvs.mono (tu3.trans t5)).app (.cons ?_ .nil)
          have ntl : t ≠ l := fun z => by
            obtain ⟨_, _, m⟩ := hl3
            rw [z, m] at ht; cases ht
          refine enc_mk (c := c) (e := e') (x := shift ss.length (at_ xs i)) ?_ ?_ (de.mono t5)
          · rw [kd_shift, upd_ne ntl, upd_same]
          · rw [ln_shift]
            exact (tu3.trans t5).get g2
      cases ex : at_ xs i with
      | oth kk ll dd =>
        rw [ex] at g1 g2 g3 ok fin
        have nk : ¬ kd (.oth kk ll dd) = "resolve" := ok.2.1
        have fin' := fun t => fin e H' t hlog rfl bt (Tu.rfl' H') g3
        simp only [decide_true, decide_false, List.map_cons, List.map_nil, Option.map_none, Option.map_some, Option.getD_none, Option.getD_some, Px.dg2, Px.dg1, Px.dg, Px.din, Px.dnotin, Px.dnew, Px.dput, Px.isD_is, Px.dget_i, Px.dget_s, Px.dput_i, Px.dput_s, Px.dOf_d, Px.rtup, Px.rlist, Px.rsl, Px.rsort, Px.rcat, Px.rapp, Px.rrev, Px.sl_ap, Px.nop, Px.part, Px.yes, Px.tyl, Px.isL_l, Px.isT_t, Px.isL_t, Px.isT_l, Px.isD_d, Px.isT_d, Px.inV_ints, Px.flat_ints, Px.flatV_i, Px.wipe_cons, Px.wipe_nil, Px.gtup, Px.gcons, Px.gnil, gt_iff_lt, ge_iff_le, Px.we, Px.wonly, Px.was, Px.cxK, not_true_eq_false, and_self, true_implies, false_implies, implies_true, Px.e0, and_assoc, imp_false, not_false_eq_true, ne_eq, Px.rgcd, Px.rixl, Px.rixt, Px.v0, Px.v1, Px.v2, Px.v3, Px.v4, Px.v5, Px.v6, Px.v7, Px.v8, Px.v9, Px.v10, Px.v11, Px.v12, Px.v13, Px.v14, Px.v15, Px.v16, Px.v17, Px.v18, Px.v19, Px.v20, Px.v21, Px.v22, Px.v23, Px.c0, Px.asg, Px.gnm, Px.ret, Px.retN, Px.drop, Px.nxt, Px.brk, Px.cnt, Px.ifs, Px.op, Px.un, Px.tst, Px.tbl, Px.tand, Px.tor, Px.tnot, Px.andv, Px.orv, Px.notv, Px.tif, Px.tup, Px.lst, Px.nil, Px.cons, Px.cal, Px.calS, Px.cb, Px.par, Px.gsub, Px.bits, Px.bm, Px.bm0, Px.ri, Px.ri0, Px.ru, Px.req, Px.rne, Px.rix, Px.rlen, Px.rin, Px.rsetl, Px.risi, Px.tyH_n, Px.tyH_b, Px.tyH_i, Px.tyH_s, Px.tyH_r, Px.seqH_t, Px.seqH_l, Px.seqH_fl, Px.sc_ii, Px.sc_bb, Px.sc_ss, Px.atI0, Px.atI1, Px.atI2, Px.atI3, Px.atI4, Px.atI5, Px.atI6, Px.atI7, Px.kb_NoneType_int, Px.kb_NoneType_bool, Px.kb_NoneType_str, Px.kb_NoneType_list, Px.kb_NoneType_tuple, Px.kb_NoneType_dict, Px.kb_bool_int, Px.kb_bool_bool, Px.kb_bool_str, Px.kb_bool_list, Px.kb_bool_tuple, Px.kb_bool_dict, Px.kb_int_int, Px.kb_int_bool, Px.kb_int_str, Px.kb_int_list, Px.kb_int_tuple, Px.kb_int_dict, Px.kb_str_int, Px.kb_str_bool, Px.kb_str_str, Px.kb_str_list, Px.kb_str_tuple, Px.kb_str_dict, Px.kb_list_int, Px.kb_list_bool, Px.kb_list_str, Px.kb_list_list, Px.kb_list_tuple, Px.kb_list_dict, Px.kb_tuple_int, Px.kb_tuple_bool, Px.kb_tuple_str, Px.kb_tuple_list, Px.kb_tuple_tuple, Px.kb_tuple_dict, Px.kb_dict_int, Px.kb_dict_bool, Px.kb_dict_str, Px.kb_dict_list, Px.kb_dict_tuple, Px.kb_dict_dict, L2.upd_same, Px.updI, L2.ixN, List.set_cons_zero, List.set_cons_succ, List.length_cons, List.length_nil, Nat.reduceAdd, Nat.zero_add, L2.HO.lst.injEq, L2.HO.tup.injEq, L2.upd_upd, L2.V.int.injEq, L2.V.ref.injEq, L2.V.bl.injEq, L2.V.str.injEq, L2.V.ty.injEq, List.cons.injEq, and_true, true_and, and_false, false_and, or_false, false_or, exists_eq_left', exists_eq_left, exists_and_left, exists_const, exists_false, Option.some.injEq, decide_eq_true_eq, List.append_nil, List.cons_append, List.nil_append, Option.isSome_some, Bool.not_true, Bool.not_false, Bool.not_eq_true', Bool.not_eq_true, Bool.false_eq_true, decide_eq_false_iff_not, if_true, if_false, ite_true, ite_false, Int.reduceLE, Int.reduceLT, Int.reduceToNat, Int.cast_ofNat_Int, Bool.true_eq_false, eq_self, ↓reduceIte, reduceCtorEq, Px.aug, Px.ipi, Px.tri, Px.rcatth, Px.flh, Px.sfl, Px.met, Px.mak, *, Px.seq]
        refine ⟨by decide, fun t ht => ?_⟩
        obtain ⟨z, z1, z2, z3⟩ := fin' t ht
        exact ⟨z, z1, z2, z3 _ _ _⟩
      | res ll f0 zs =>
        rw [ex] at g1 g2 g3 ok fin
        have nk : kd (.res ll f0 zs) = "resolve" := rfl
        simp only [decide_true, decide_false, List.map_cons, List.map_nil, Option.map_none, Option.map_some, Option.getD_none, Option.getD_some, Px.dg2, Px.dg1, Px.dg, Px.din, Px.dnotin, Px.dnew, Px.dput, Px.isD_is, Px.dget_i, Px.dget_s, Px.dput_i, Px.dput_s, Px.dOf_d, Px.rtup, Px.rlist, Px.rsl, Px.rsort, Px.rcat, Px.rapp, Px.rrev, Px.sl_ap, Px.nop, Px.part, Px.yes, Px.tyl, Px.isL_l, Px.isT_t, Px.isL_t, Px.isT_l, Px.isD_d, Px.isT_d, Px.inV_ints, Px.flat_ints, Px.flatV_i, Px.wipe_cons, Px.wipe_nil, Px.gtup, Px.gcons, Px.gnil, gt_iff_lt, ge_iff_le, Px.we, Px.wonly, Px.was, Px.cxK, not_true_eq_false, and_self, true_implies, false_implies, implies_true, Px.e0, and_assoc, imp_false, not_false_eq_true, ne_eq, Px.rgcd, Px.rixl, Px.rixt, Px.v0, Px.v1, Px.v2, Px.v3, Px.v4, Px.v5, Px.v6, Px.v7, Px.v8, Px.v9, Px.v10, Px.v11, Px.v12, Px.v13, Px.v14, Px.v15, Px.v16, Px.v17, Px.v18, Px.v19, Px.v20, Px.v21, Px.v22, Px.v23, Px.c0, Px.asg, Px.gnm, Px.ret, Px.retN, Px.drop, Px.nxt, Px.brk, Px.cnt, Px.ifs, Px.op, Px.un, Px.tst, Px.tbl, Px.tand, Px.tor, Px.tnot, Px.andv, Px.orv, Px.notv, Px.tif, Px.tup, Px.lst, Px.nil, Px.cons, Px.cal, Px.calS, Px.cb, Px.par, Px.gsub, Px.bits, Px.bm, Px.bm0, Px.ri, Px.ri0, Px.ru, Px.req, Px.rne, Px.rix, Px.rlen, Px.rin, Px.rsetl, Px.risi, Px.tyH_n, Px.tyH_b, Px.tyH_i, Px.tyH_s, Px.tyH_r, Px.seqH_t, Px.seqH_l, Px.seqH_fl, Px.sc_ii, Px.sc_bb, Px.sc_ss, Px.atI0, Px.atI1, Px.atI2, Px.atI3, Px.atI4, Px.atI5, Px.atI6, Px.atI7, Px.kb_NoneType_int, Px.kb_NoneType_bool, Px.kb_NoneType_str, Px.kb_NoneType_list, Px.kb_NoneType_tuple, Px.kb_NoneType_dict, Px.kb_bool_int, Px.kb_bool_bool, Px.kb_bool_str, Px.kb_bool_list, Px.kb_bool_tuple, Px.kb_bool_dict, Px.kb_int_int, Px.kb_int_bool, Px.kb_int_str, Px.kb_int_list, Px.kb_int_tuple, Px.kb_int_dict, Px.kb_str_int, Px.kb_str_bool, Px.kb_str_str, Px.kb_str_list, Px.kb_str_tuple, Px.kb_str_dict, Px.kb_list_int, Px.kb_list_bool, Px.kb_list_str, Px.kb_list_list, Px.kb_list_tuple, Px.kb_list_dict, Px.kb_tuple_int, Px.kb_tuple_bool, Px.kb_tuple_str, Px.kb_tuple_list, Px.kb_tuple_tuple, Px.kb_tuple_dict, Px.kb_dict_int, Px.kb_dict_bool, Px.kb_dict_str, Px.kb_dict_list, Px.kb_dict_tuple, Px.kb_dict_dict, L2.upd_same, Px.updI, L2.ixN, List.set_cons_zero, List.set_cons_succ, List.length_cons, List.length_nil, Nat.reduceAdd, Nat.zero_add, L2.HO.lst.injEq, L2.HO.tup.injEq, L2.upd_upd, L2.V.int.injEq, L2.V.ref.injEq, L2.V.bl.injEq, L2.V.str.injEq, L2.V.ty.injEq, List.cons.injEq, and_true, true_and, and_false, false_and, or_false, false_or, exists_eq_left', exists_eq_left, exists_and_left, exists_const, exists_false, Option.some.injEq, decide_eq_true_eq, List.append_nil, List.cons_append, List.nil_append, Option.isSome_some, Bool.not_true, Bool.not_false, Bool.not_eq_true', Bool.not_eq_true, Bool.false_eq_true, decide_eq_false_iff_not, if_true, if_false, ite_true, ite_false, Int.reduceLE, Int.reduceLT, Int.reduceToNat, Int.cast_ofNat_Int, Bool.true_eq_false, eq_self, ↓reduceIte, reduceCtorEq, Px.aug, Px.ipi, Px.tri, Px.rcatth, Px.flh, Px.sfl, Px.met, Px.mak, *, Px.seq, spMoved]
        refine ⟨(f0 : Int), zi zs, g3, by have := ok.2.2.1; unfold zi; rw [List.length_map]; omega, fun v H3 dv e3 => ?_⟩
        have hlog3 := hlog.ext e3
        obtain ⟨m1, m2, m3⟩ := log_fld (K := K) hlog3 L
        refine ⟨m1, _, m2, by rw [tyl (by rw [m3]; rfl)]; trivial, by decide, fun t ht => ⟨l, rfl, ?_⟩⟩
        obtain ⟨z, z1, z2, z3⟩ := fin v H3 t hlog3 (e3 q (by rw [hq', hq1]; rfl)) (bt.trans (But.of e3)) e3.tu (by rw [det_shift]; exact dv) ht
        exact ⟨z, z1, z2, z3 _ _ _⟩
    · rintro σ' H' ⟨⟨v, v', v'', rfl⟩, hq', bt, vs, hlog, dvs⟩
      have lv := Steps.len dvs
      rw [lw, List.take_length] at lv
      rw [lw, List.take_length] at dvs
      obtain ⟨f1, f2, f3⟩ := log_fld (K := K) hlog L
      rw [List.length_append, List.length_map] at lv
      simp only [decide_true, decide_false, List.map_cons, List.map_nil, Option.map_none, Option.map_some, Option.getD_none, Option.getD_some, Px.dg2, Px.dg1, Px.dg, Px.din, Px.dnotin, Px.dnew, Px.dput, Px.isD_is, Px.dget_i, Px.dget_s, Px.dput_i, Px.dput_s, Px.dOf_d, Px.rtup, Px.rlist, Px.rsl, Px.rsort, Px.rcat, Px.rapp, Px.rrev, Px.sl_ap, Px.nop, Px.part, Px.yes, Px.tyl, Px.isL_l, Px.isT_t, Px.isL_t, Px.isT_l, Px.isD_d, Px.isT_d, Px.inV_ints, Px.flat_ints, Px.flatV_i, Px.wipe_cons, Px.wipe_nil, Px.gtup, Px.gcons, Px.gnil, gt_iff_lt, ge_iff_le, Px.we, Px.wonly, Px.was, Px.cxK, not_true_eq_false, and_self, true_implies, false_implies, implies_true, Px.e0, and_assoc, imp_false, not_false_eq_true, ne_eq, Px.rgcd, Px.rixl, Px.rixt, Px.v0, Px.v1, Px.v2, Px.v3, Px.v4, Px.v5, Px.v6, Px.v7, Px.v8, Px.v9, Px.v10, Px.v11, Px.v12, Px.v13, Px.v14, Px.v15, Px.v16, Px.v17, Px.v18, Px.v19, Px.v20, Px.v21, Px.v22, Px.v23, Px.c0, Px.asg, Px.gnm, Px.ret, Px.retN, Px.drop, Px.nxt, Px.brk, Px.cnt, Px.ifs, Px.op, Px.un, Px.tst, Px.tbl, Px.tand, Px.tor, Px.tnot, Px.andv, Px.orv, Px.notv, Px.tif, Px.tup, Px.lst, Px.nil, Px.cons, Px.cal, Px.calS, Px.cb, Px.par, Px.gsub, Px.bits, Px.bm, Px.bm0, Px.ri, Px.ri0, Px.ru, Px.req, Px.rne, Px.rix, Px.rlen, Px.rin, Px.rsetl, Px.risi, Px.tyH_n, Px.tyH_b, Px.tyH_i, Px.tyH_s, Px.tyH_r, Px.seqH_t, Px.seqH_l, Px.seqH_fl, Px.sc_ii, Px.sc_bb, Px.sc_ss, Px.atI0, Px.atI1, Px.atI2, Px.atI3, Px.atI4, Px.atI5, Px.atI6, Px.atI7, Px.kb_NoneType_int, Px.kb_NoneType_bool, Px.kb_NoneType_str, Px.kb_NoneType_list, Px.kb_NoneType_tuple, Px.kb_NoneType_dict, Px.kb_bool_int, Px.kb_bool_bool, Px.kb_bool_str, Px.kb_bool_list, Px.kb_bool_tuple, Px.kb_bool_dict, Px.kb_int_int, Px.kb_int_bool, Px.kb_int_str, Px.kb_int_list, Px.kb_int_tuple, Px.kb_int_dict, Px.kb_str_int, Px.kb_str_bool, Px.kb_str_str, Px.kb_str_list, Px.kb_str_tuple, Px.kb_str_dict, Px.kb_list_int, Px.kb_list_bool, Px.kb_list_str, Px.kb_list_list, Px.kb_list_tuple, Px.kb_list_dict, Px.kb_tuple_int, Px.kb_tuple_bool, Px.kb_tuple_str, Px.kb_tuple_list, Px.kb_tuple_tuple, Px.kb_tuple_dict, Px.kb_dict_int, Px.kb_dict_bool, Px.kb_dict_str, Px.kb_dict_list, Px.kb_dict_tuple, Px.kb_dict_dict, L2.upd_same, Px.updI, L2.ixN, List.set_cons_zero, List.set_cons_succ, List.length_cons, List.length_nil, Nat.reduceAdd, Nat.zero_add, L2.HO.lst.injEq, L2.HO.tup.injEq, L2.upd_upd, L2.V.int.injEq, L2.V.ref.injEq, L2.V.bl.injEq, L2.V.str.injEq, L2.V.ty.injEq, List.cons.injEq, and_true, true_and, and_false, false_and, or_false, false_or, exists_eq_left', exists_eq_left, exists_and_left, exists_const, exists_false, Option.some.injEq, decide_eq_true_eq, List.append_nil, List.cons_append, List.nil_append, Option.isSome_some, Bool.not_true, Bool.not_false, Bool.not_eq_true', Bool.not_eq_true, Bool.false_eq_true, decide_eq_false_iff_not, if_true, if_false, ite_true, ite_false, Int.reduceLE, Int.reduceLT, Int.reduceToNat, Int.cast_ofNat_Int, Bool.true_eq_false, eq_self, ↓reduceIte, reduceCtorEq, Px.aug, Px.ipi, Px.tri, Px.rcatth, Px.flh, Px.sfl, Px.met, Px.mak]
      refine go_seq ?_
      simp only [decide_true, decide_false, List.map_cons, List.map_nil, Option.map_none, Option.map_some, Option.getD_none, Option.getD_some, Px.dg2, Px.dg1, Px.dg, Px.din, Px.dnotin, Px.dnew, Px.dput, Px.isD_is, Px.dget_i, Px.dget_s, Px.dput_i, Px.dput_s, Px.dOf_d, Px.rtup, Px.rlist, Px.rsl, Px.rsort, Px.rcat, Px.rapp, Px.rrev, Px.sl_ap, Px.nop, Px.part, Px.yes, Px.tyl, Px.isL_l, Px.isT_t, Px.isL_t, Px.isT_l, Px.isD_d, Px.isT_d, Px.inV_ints, Px.flat_ints, Px.flatV_i, Px.wipe_cons, Px.wipe_nil, Px.gtup, Px.gcons, Px.gnil, gt_iff_lt, ge_iff_le, Px.we, Px.wonly, Px.was, Px.cxK, not_true_eq_false, and_self, true_implies, false_implies, implies_true, Px.e0, and_assoc, imp_false, not_false_eq_true, ne_eq, Px.rgcd, Px.rixl, Px.rixt, Px.v0, Px.v1, Px.v2, Px.v3, Px.v4, Px.v5, Px.v6, Px.v7, Px.v8, Px.v9, Px.v10, Px.v11, Px.v12, Px.v13, Px.v14, Px.v15, Px.v16, Px.v17, Px.v18, Px.v19, Px.v20, Px.v21, Px.v22, Px.v23, Px.c0, Px.asg, Px.gnm, Px.ret, Px.retN, Px.drop, Px.nxt, Px.brk, Px.cnt, Px.ifs, Px.op, Px.un, Px.tst, Px.tbl, Px.tand, Px.tor, Px.tnot, Px.andv, Px.orv, Px.notv, Px.tif, Px.tup, Px.lst, Px.nil, Px.cons, Px.cal, Px.calS, Px.cb, Px.par, Px.gsub, Px.bits, Px.bm, Px.bm0, Px.ri, Px.ri0, Px.ru, Px.req, Px.rne, Px.rix, Px.rlen, Px.rin, Px.rsetl, Px.risi, Px.tyH_n, Px.tyH_b, Px.tyH_i, Px.tyH_s, Px.tyH_r, Px.seqH_t, Px.seqH_l, Px.seqH_fl, Px.sc_ii, Px.sc_bb, Px.sc_ss, Px.atI0, Px.atI1, Px.atI2, Px.atI3, Px.atI4, Px.atI5, Px.atI6, Px.atI7, Px.kb_NoneType_int, Px.kb_NoneType_bool, Px.kb_NoneType_str, Px.kb_NoneType_list, Px.kb_NoneType_tuple, Px.kb_NoneType_dict, Px.kb_bool_int, Px.kb_bool_bool, Px.kb_bool_str, Px.kb_bool_list, Px.kb_bool_tuple, Px.kb_bool_dict, Px.kb_int_int, Px.kb_int_bool, Px.kb_int_str, Px.kb_int_list, Px.kb_int_tuple, Px.kb_int_dict, Px.kb_str_int, Px.kb_str_bool, Px.kb_str_str, Px.kb_str_list, Px.kb_str_tuple, Px.kb_str_dict, Px.kb_list_int, Px.kb_list_bool, Px.kb_list_str, Px.kb_list_list, Px.kb_list_tuple, Px.kb_list_dict, Px.kb_tuple_int, Px.kb_tuple_bool, Px.kb_tuple_str, Px.kb_tuple_list, Px.kb_tuple_tuple, Px.kb_tuple_dict, Px.kb_dict_int, Px.kb_dict_bool, Px.kb_dict_str, Px.kb_dict_list, Px.kb_dict_tuple, Px.kb_dict_dict, L2.upd_same, Px.updI, L2.ixN, List.set_cons_zero, List.set_cons_succ, List.length_cons, List.length_nil, Nat.reduceAdd, Nat.zero_add, L2.HO.lst.injEq, L2.HO.tup.injEq, L2.upd_upd, L2.V.int.injEq, L2.V.ref.injEq, L2.V.bl.injEq, L2.V.str.injEq, L2.V.ty.injEq, List.cons.injEq, and_true, true_and, and_false, false_and, or_false, false_or, exists_eq_left', exists_eq_left, exists_and_left, exists_const, exists_false, Option.some.injEq, decide_eq_true_eq, List.append_nil, List.cons_append, List.nil_append, Option.isSome_some, Bool.not_true, Bool.not_false, Bool.not_eq_true', Bool.not_eq_true, Bool.false_eq_true, decide_eq_false_iff_not, if_true, if_false, ite_true, ite_false, Int.reduceLE, Int.reduceLT, Int.reduceToNat, Int.cast_ofNat_Int, Bool.true_eq_false, eq_self, ↓reduceIte, reduceCtorEq, Px.aug, Px.ipi, Px.tri, Px.rcatth, Px.flh, Px.sfl, Px.met, Px.mak, *]
      refine go_if (fun h => ?_) (fun h => ?_)
      · refine k _ H' ⟨vs, hlog, dvs⟩ bt ?_
        rw [if_pos (by omega)]
      · refine k _ H' ⟨vs, hlog, dvs⟩ bt ?_
        rw [if_neg (by omega)]
end
end K03

namespace K03
open PySem PySem.Spec PyProof.Rows L2 Px
theorem for_r1g {ta : TA} {j : Nat} {tb : TS} {D : Ends} {σ : L2.St} {H : Hp} (M : Int → Hp → Prop) (e : ∀ Q : List V → Hp → Prop, (∀ n H1, M n H1 → Q [.int n] H1) → ta σ H Q)
    (hm : ∀ n H1, M n H1 → (-(2 ^ 62) ≤ n ∧ n < 2 ^ 62) ∧ ∃ Pv : Nat → L2.St → Hp → Prop, Pv 0 σ H1 ∧ (∀ (i : Nat) σ H, (i : Int) < n → Pv i σ H → tb { D with nx := Pv (i + 1), ct := Pv (i + 1), bk := D.nx } (σ.set j (some (.int (i : Int)))) H) ∧ (∀ σ H, Pv n.toNat σ H → D.nx σ H)) : tFor (iRng1 ta) (gName j) tb D σ H := by
  refine e _ fun n H1 m => ?_
  obtain ⟨hn, Pv, h0, hs, hd⟩ := hm n H1 m
  refine ⟨n, rfl, hn.1, hn.2, for_range (lo := 0) (n := n.toNat) Pv h0 (fun i σ' H' hi p => ?_) hd⟩
  have q := hs i σ' H' (by omega) p
  have e0 : (0 : Int) + (i : Int) = (i : Int) := Int.zero_add _
  show tb _ (σ'.set j (some (.int ((0 : Int) + (i : Int))))) H'
  rw [e0]
  exact q
/-- [.. for x in range(n)], where n, too, is drawn -/
theorem lcg_rngE {ta : TA} {g : TG} {tt : TT} {te : TE} {vs : List Nat} {σ : L2.St} {H : Hp} {Q : VK} (M : Int → Hp → Prop) (e : ∀ Q : List V → Hp → Prop, (∀ n H1, M n H1 → Q [.int n] H1) → ta σ H Q)
    (hm : ∀ n H1, M n H1 → (0 ≤ n ∧ n ≤ 100000) ∧ ∃ I : Nat → List PyData → Hp → Prop, (∀ D i ds H' ys, H1 D = none → I i ds H' → I i ds (upd H' D (.lst ys))) ∧ I 0 [] H1 ∧
      (∀ i : Nat, (i : Int) < n → Cgt H1 I g tt te vs σ i (.int (i : Int))) ∧ (∀ D ys ds H', H1 D = none → H' D = some (.lst ys) → DtAll H' ys ds → I n.toNat ds H' → Q (.ref D) H')) : tLc (iRng1 ta) g tt te vs σ H Q := by
  show iRng1 ta σ H _
  refine e _ fun n H1 m => ?_
  obtain ⟨hn, I, hI, h0, ht, hd⟩ := hm n H1 m
  refine ⟨n, rfl, by omega, by omega, fun D hD => lc_range (lo := 0) (n := n.toNat) (Cg H1 I D) (cg_start I hD hI h0) (fun i H' hi p => ?_) (fun H' ⟨h0, ys, ds, h2, _, h3, h4⟩ => hd D ys ds H' h0 h2 h3 h4)⟩
  have e0 : (0 : Int) + (i : Int) = (i : Int) := Int.zero_add _
  rw [e0]
  exact cg_turn I (by omega) hI (ht i (by omega)) p
/-! ### dicts from ints to ints -/
def IntD (kvs : List (Key × V)) (m : List (Int × Int)) : Prop := kvs = m.map fun p => (Sum.inl p.1, V.int p.2)
theorem intd_put {kvs : List (Key × V)} {m : List (Int × Int)} (h : IntD kvs m) (k v : Int) : ∃ m', IntD (putK kvs (Sum.inl k) (.int v)) m' ∧ m'.length ≤ m.length + 1 := by
  unfold IntD at *
  subst h
  unfold putK
  split
  · refine ⟨m.map fun p => if p.1 = k then (p.1, v) else p, ?_, by rw [List.length_map]; omega⟩
    rw [List.map_map, List.map_map]
    refine List.map_congr_left fun p _ => ?_
    by_cases h : p.1 = k
    · simp [h]
    · simp [h]
  · exact ⟨m ++ [(k, v)], by rw [List.map_append]; rfl, by rw [List.length_append]; exact Nat.le_refl _⟩
theorem intd_len {kvs : List (Key × V)} {m : List (Int × Int)} (h : IntD kvs m) : kvs.length = m.length := by
  unfold IntD at h
  rw [h, List.length_map]
theorem intd_get {n : Int} : ∀ {m : List (Int × Int)}, n ∈ m.map (·.1) → ∃ y, valV (m.map fun p => ((Sum.inl p.1 : Key), V.int p.2)) (Sum.inl n) = some (.int y)
  | p :: m, h => by
    by_cases e : p.1 = n
    · exact ⟨p.2, valV_pos (p := (Sum.inl p.1, V.int p.2)) (by rw [e])⟩
    · rcases List.mem_cons.mp h with h | h
      · exact absurd h.symm e
      · obtain ⟨y, hy⟩ := intd_get h
        exact ⟨y, by rw [← hy]; exact valV_neg (p := (Sum.inl p.1, V.int p.2)) (fun z => e (Sum.inl.inj z))⟩
def iv (kvs : List (Key × V)) (n : Int) : Int := match valV kvs (Sum.inl n) with
  | some (.int y) => y
  | _ => 0
section
variable {P : Program} {w : World} {K : PySem.W.Frag} {mg : Str → Option Value} {base : Heap} {C : Addr}
def spLit (vs : List V) (H : Hp) (Q : VK) (_ : XK) : Prop := ∃ p : Addr, vs = [.ref p] ∧ Pool H p ∧ ∀ (v : Int) H', Pool H' p → But p H H' → Tu H H' → Q (.int v) H'
theorem ok_literal (B : Bn mg) (F : FunAt K mg "_law_literal" s_law_literal) (D_law_take : Def P w K mg base CX0 1 "_law_take" ["pool", "size"] spTake) : Def P w K mg base CX0 2 "_law_literal" ["pool"] spLit := by
  refine F.ok sc_law_literal (fun _ _ _ _ _ _ us hl => match us, hl with | [_], _ => rfl) (fun vs H Q E h => by obtain ⟨_, rfl, _⟩ := h; rfl) (fun f cdv A outer s H vs Q E hr h => ?_)
  obtain ⟨p, rfl, hp, k⟩ := h
  refine ⟨_, pss_one (ps_ret (pe_op op_mul (pe_op op_add pe_int (pe_fn D_law_take hr pass0 (pa_cons (pv 0) (pa_cons pe_int pa_nil)))) (pe_op op_sub pe_int (pe_op op_mul pe_int (pe_fn D_law_take hr pass0 (pa_cons (pv 0) (pa_cons pe_int pa_nil))))))), ?_⟩
  show tRet _ _ [some (.ref p)] H
  simp only [decide_true, decide_false, List.map_cons, List.map_nil, Option.map_none, Option.map_some, Option.getD_none, Option.getD_some, Px.dg2, Px.dg1, Px.dg, Px.din, Px.dnotin, Px.dnew, Px.dput, Px.isD_is, Px.dget_i, Px.dget_s, Px.dput_i, Px.dput_s, Px.dOf_d, Px.rtup, Px.rlist, Px.rsl, Px.rsort, Px.rcat, Px.rapp, Px.rrev, Px.sl_ap, Px.nop, Px.part, Px.yes, Px.tyl, Px.isL_l, Px.isT_t, Px.isL_t, Px.isT_l, Px.isD_d, Px.isT_d, Px.inV_ints, Px.flat_ints, Px.flatV_i, Px.wipe_cons, Px.wipe_nil, Px.gtup, Px.gcons, Px.gnil, gt_iff_lt, ge_iff_le, Px.we, Px.wonly, Px.was, Px.cxK, not_true_eq_false, and_self, true_implies, false_implies, implies_true, Px.e0, and_assoc, imp_false, not_false_eq_true, ne_eq, Px.rgcd, Px.rixl, Px.rixt, Px.v0, Px.v1, Px.v2, Px.v3, Px.v4, Px.v5, Px.v6, Px.v7, Px.v8, Px.v9, Px.v10, Px.v11, Px.v12, Px.v13, Px.v14, Px.v15, Px.v16, Px.v17, Px.v18, Px.v19, Px.v20, Px.v21, Px.v22, Px.v23, Px.c0, Px.asg, Px.gnm, Px.ret, Px.retN, Px.drop, Px.nxt, Px.brk, Px.cnt, Px.ifs, Px.op, Px.un, Px.tst, Px.tbl, Px.tand, Px.tor, Px.tnot, Px.andv, Px.orv, Px.notv, Px.tif, Px.tup, Px.lst, Px.nil, Px.cons, Px.cal, Px.calS, Px.cb, Px.par, Px.gsub, Px.bits, Px.bm, Px.bm0, Px.ri, Px.ri0, Px.ru, Px.req, Px.rne, Px.rix, Px.rlen, Px.rin, Px.rsetl, Px.risi, Px.tyH_n, Px.tyH_b, Px.tyH_i, Px.tyH_s, Px.tyH_r, Px.seqH_t, Px.seqH_l, Px.seqH_fl, Px.sc_ii, Px.sc_bb, Px.sc_ss, Px.atI0, Px.atI1, Px.atI2, Px.atI3, Px.atI4, Px.atI5, Px.atI6, Px.atI7, Px.kb_NoneType_int, Px.kb_NoneType_bool, Px.kb_NoneType_str, Px.kb_NoneType_list, Px.kb_NoneType_tuple, Px.kb_NoneType_dict, Px.kb_bool_int, Px.kb_bool_bool, Px.kb_bool_str, Px.kb_bool_list, Px.kb_bool_tuple, Px.kb_bool_dict, Px.kb_int_int, Px.kb_int_bool, Px.kb_int_str, Px.kb_int_list, Px.kb_int_tuple, Px.kb_int_dict, Px.kb_str_int, Px.kb_str_bool, Px.kb_str_str, Px.kb_str_list, Px.kb_str_tuple, Px.kb_str_dict, Px.kb_list_int, Px.kb_list_bool, Px.kb_list_str, Px.kb_list_list, Px.kb_list_tuple, Px.kb_list_dict, Px.kb_tuple_int, Px.kb_tuple_bool, Px.kb_tuple_str, Px.kb_tuple_list, Px.kb_tuple_tuple, Px.kb_tuple_dict, Px.kb_dict_int, Px.kb_dict_bool, Px.kb_dict_str, Px.kb_dict_list, Px.kb_dict_tuple, Px.kb_dict_dict, L2.upd_same, Px.updI, L2.ixN, List.set_cons_zero, List.set_cons_succ, List.length_cons, List.length_nil, Nat.reduceAdd, Nat.zero_add, L2.HO.lst.injEq, L2.HO.tup.injEq, L2.upd_upd, L2.V.int.injEq, L2.V.ref.injEq, L2.V.bl.injEq, L2.V.str.injEq, L2.V.ty.injEq, List.cons.injEq, and_true, true_and, and_false, false_and, or_false, false_or, exists_eq_left', exists_eq_left, exists_and_left, exists_const, exists_false, Option.some.injEq, decide_eq_true_eq, List.append_nil, List.cons_append, List.nil_append, Option.isSome_some, Bool.not_true, Bool.not_false, Bool.not_eq_true', Bool.not_eq_true, Bool.false_eq_true, decide_eq_false_iff_not, if_true, if_false, ite_true, ite_false, Int.reduceLE, Int.reduceLT, Int.reduceToNat, Int.cast_ofNat_Int, Bool.true_eq_false, eq_self, ↓reduceIte, reduceCtorEq, Px.aug, Px.ipi, Px.tri, Px.rcatth, Px.flh, Px.sfl, Px.met, Px.mak, *, spTake]
  intro v H1 v0 v1 hp1 b1 t1
  refine ⟨hp1, fun u H2 u0 u1 hp2 b2 t2 => ⟨cmul_lit (by decide) (by decide), cmul_sm (by omega) (by omega), ?_⟩⟩
  exact k _ _ hp2 (b1.trans b2) (t1.trans t2)
def spLits (vs : List V) (H : Hp) (Q : VK) (_ : XK) : Prop := ∃ p : Addr, vs = [.ref p] ∧ Pool H p ∧ ∀ v (ls : List Int) H', Dt H' v (.tuple (ls.map .int)) → ls.length ≤ 4 → Pool H' p → But p H H' → Q v H'
def ILs (p d : Addr) (H : Hp) (i : Nat) (σ' : L2.St) (H' : Hp) : Prop := (∃ v v', σ' = [some (.ref p), some (.ref d), v, v', none]) ∧ Pool H' p ∧ But p H H' ∧ ∃ kvs m, H' d = some (.dK kvs) ∧ IntD kvs m ∧ m.length ≤ i
theorem ok_literals (B : Bn mg) (F : FunAt K mg "_law_literals" s_law_literals) (D_law_take : Def P w K mg base CX0 1 "_law_take" ["pool", "size"] spTake) (D_law_literal : Def P w K mg base CX0 2 "_law_literal" ["pool"] spLit) : Def P w K mg base CX0 3 "_law_literals" ["pool"] spLits := by
  refine F.ok sc_law_literals (fun _ _ _ _ _ _ us hl => match us, hl with | [_], _ => rfl) (fun vs H Q E h => by obtain ⟨_, rfl, _⟩ := h; rfl) (fun f cdv A outer s H vs Q E hr h => ?_)
  obtain ⟨p, rfl, hp, k⟩ := h
  refine ⟨_, pss_cons (ps_set (i := 1) sc_law_literals.nd rfl (Or.inr rfl) pe_dnewK) (
  pss_cons (ps_for PassesOwn.never rfl (pi_range1 rfl B.range (pa_cons (pe_fn D_law_take (hr.mono (by decide)) pass0 (pa_cons (pv 0) (pa_cons pe_int pa_nil))) pa_nil)) (pg_name (i := 2) sc_law_literals.nd rfl (Or.inl rfl)) (
  pss_cons (ps_set (i := 3) sc_law_literals.nd rfl (Or.inl rfl) (pe_fn D_law_literal hr pass0 (pa_cons (pv 0) pa_nil))) (
  pss_one (ps_dput (hu_of hr) (pv 1) (pe_callB call_abs rfl B.abs (by decide +kernel) (pa_cons (pv 3) pa_nil)) (pv 3) rfl)))) (
  pss_one (ps_ret (pe_callTy tup_H rfl B.tuple_ (by decide +kernel) (pa_cons (pe_lc (own := [("n", 4)]) (g := gName 4) rfl sc_law_literals.nd (pi_seq (pe_callB sort_H rfl B.sorted (by decide +kernel) (pa_cons (pe_callTy (call_listD rfl) rfl B.list_ (by decide +kernel) (pa_cons (pv 1) pa_nil)) pa_nil))) (blkOk_by (own := [("n", 4)]) (N := ["pool", "found", "k", "literal", "n"]) (sc := defScope s_law_literals) (by decide +kernel)) (fun _ _ _ _ _ => (pg_name (i := 4) sc_law_literals.nd rfl (Or.inl rfl))) (fun _ _ _ _ _ => pts_nil) (fun _ _ _ _ _ => (pe_dget (hu_of hr) (pv 1) (pv 4) (fun _ _ => rfl)))) pa_nil))))), ?_⟩
  show tSeq _ _ _ [some (.ref p), none, none, none, none] H
  refine go_seq fun d hd => go_seq ?_
  simp only [decide_true, decide_false, List.map_cons, List.map_nil, Option.map_none, Option.map_some, Option.getD_none, Option.getD_some, Px.dg2, Px.dg1, Px.dg, Px.din, Px.dnotin, Px.dnew, Px.dput, Px.isD_is, Px.dget_i, Px.dget_s, Px.dput_i, Px.dput_s, Px.dOf_d, Px.rtup, Px.rlist, Px.rsl, Px.rsort, Px.rcat, Px.rapp, Px.rrev, Px.sl_ap, Px.nop, Px.part, Px.yes, Px.tyl, Px.isL_l, Px.isT_t, Px.isL_t, Px.isT_l, Px.isD_d, Px.isT_d, Px.inV_ints, Px.flat_ints, Px.flatV_i, Px.wipe_cons, Px.wipe_nil, Px.gtup, Px.gcons, Px.gnil, gt_iff_lt, ge_iff_le, Px.we, Px.wonly, Px.was, Px.cxK, not_true_eq_false, and_self, true_implies, false_implies, implies_true, Px.e0, and_assoc, imp_false, not_false_eq_true, ne_eq, Px.rgcd, Px.rixl, Px.rixt, Px.v0, Px.v1, Px.v2, Px.v3, Px.v4, Px.v5, Px.v6, Px.v7, Px.v8, Px.v9, Px.v10, Px.v11, Px.v12, Px.v13, Px.v14, Px.v15, Px.v16, Px.v17, Px.v18, Px.v19, Px.v20, Px.v21, Px.v22, Px.v23, Px.c0, Px.asg, Px.gnm, Px.ret, Px.retN, Px.drop, Px.nxt, Px.brk, Px.cnt, Px.ifs, Px.op, Px.un, Px.tst, Px.tbl, Px.tand, Px.tor, Px.tnot, Px.andv, Px.orv, Px.notv, Px.tif, Px.tup, Px.lst, Px.nil, Px.cons, Px.cal, Px.calS, Px.cb, Px.par, Px.gsub, Px.bits, Px.bm, Px.bm0, Px.ri, Px.ri0, Px.ru, Px.req, Px.rne, Px.rix, Px.rlen, Px.rin, Px.rsetl, Px.risi, Px.tyH_n, Px.tyH_b, Px.tyH_i, Px.tyH_s, Px.tyH_r, Px.seqH_t, Px.seqH_l, Px.seqH_fl, Px.sc_ii, Px.sc_bb, Px.sc_ss, Px.atI0, Px.atI1, Px.atI2, Px.atI3, Px.atI4, Px.atI5, Px.atI6, Px.atI7, Px.kb_NoneType_int, Px.kb_NoneType_bool, Px.kb_NoneType_str, Px.kb_NoneType_list, Px.kb_NoneType_tuple, Px.kb_NoneType_dict, Px.kb_bool_int, Px.kb_bool_bool, Px.kb_bool_str, Px.kb_bool_list, Px.kb_bool_tuple, Px.kb_bool_dict, Px.kb_int_int, Px.kb_int_bool, Px.kb_int_str, Px.kb_int_list, Px.kb_int_tuple, Px.kb_int_dict, Px.kb_str_int, Px.kb_str_bool, Px.kb_str_str, Px.kb_str_list, Px.kb_str_tuple, Px.kb_str_dict, Px.kb_list_int, Px.kb_list_bool, Px.kb_list_str, Px.kb_list_list, Px.kb_list_tuple, Px.kb_list_dict, Px.kb_tuple_int, Px.kb_tuple_bool, Px.kb_tuple_str, Px.kb_tuple_list, Px.kb_tuple_tuple, Px.kb_tuple_dict, Px.kb_dict_int, Px.kb_dict_bool, Px.kb_dict_str, Px.kb_dict_list, Px.kb_dict_tuple, Px.kb_dict_dict, L2.upd_same, Px.updI, L2.ixN, List.set_cons_zero, List.set_cons_succ, List.length_cons, List.length_nil, Nat.reduceAdd, Nat.zero_add, L2.HO.lst.injEq, L2.HO.tup.injEq, L2.upd_upd, L2.V.int.injEq, L2.V.ref.injEq, L2.V.bl.injEq, L2.V.str.injEq, L2.V.ty.injEq, List.cons.injEq, and_true, true_and, and_false, false_and, or_false, false_or, exists_eq_left', exists_eq_left, exists_and_left, exists_const, exists_false, Option.some.injEq, decide_eq_true_eq, List.append_nil, List.cons_append, List.nil_append, Option.isSome_some, Bool.not_true, Bool.not_false, Bool.not_eq_true', Bool.not_eq_true, Bool.false_eq_true, decide_eq_false_iff_not, if_true, if_false, ite_true, ite_false, Int.reduceLE, Int.reduceLT, Int.reduceToNat, Int.cast_ofNat_Int, Bool.true_eq_false, eq_self, ↓reduceIte, reduceCtorEq, Px.aug, Px.ipi, Px.tri, Px.rcatth, Px.flh, Px.sfl, Px.met, Px.mak]
  have hdp : d ≠ p := hp.ne0 hd
  have hp1 := hp.new (o := .dK []) hd
  refine for_r1g (M := fun n H1 => (0 ≤ n ∧ n < 5) ∧ Pool H1 p ∧ But p (upd H d (.dK [])) H1) ?_ ?_
  · intro R hR
    simp only [decide_true, decide_false, List.map_cons, List.map_nil, Option.map_none, Option.map_some, Option.getD_none, Option.getD_some, Px.dg2, Px.dg1, Px.dg, Px.din, Px.dnotin, Px.dnew, Px.dput, Px.isD_is, Px.dget_i, Px.dget_s, Px.dput_i, Px.dput_s, Px.dOf_d, Px.rtup, Px.rlist, Px.rsl, Px.rsort, Px.rcat, Px.rapp, Px.rrev, Px.sl_ap, Px.nop, Px.part, Px.yes, Px.tyl, Px.isL_l, Px.isT_t, Px.isL_t, Px.isT_l, Px.isD_d, Px.isT_d, Px.inV_ints, Px.flat_ints, Px.flatV_i, Px.wipe_cons, Px.wipe_nil, Px.gtup, Px.gcons, Px.gnil, gt_iff_lt, ge_iff_le, Px.we, Px.wonly, Px.was, Px.cxK, not_true_eq_false, and_self, true_implies, false_implies, implies_true, Px.e0, and_assoc, imp_false, not_false_eq_true, ne_eq, Px.rgcd, Px.rixl, Px.rixt, Px.v0, Px.v1, Px.v2, Px.v3, Px.v4, Px.v5, Px.v6, Px.v7, Px.v8, Px.v9, Px.v10, Px.v11, Px.v12, Px.v13, Px.v14, Px.v15, Px.v16, Px.v17, Px.v18, Px.v19, Px.v20, Px.v21, Px.v22, Px.v23, Px.c0, Px.asg, Px.gnm, Px.ret, Px.retN, Px.drop, Px.nxt, Px.brk, Px.cnt, Px.ifs, Px.op, Px.un, Px.tst, Px.tbl, Px.tand, Px.tor, Px.tnot, Px.andv, Px.orv, Px.notv, Px.tif, Px.tup, Px.lst, Px.nil, Px.cons, Px.cal, Px.calS, Px.cb, Px.par, Px.gsub, Px.bits, Px.bm, Px.bm0, Px.ri, Px.ri0, Px.ru, Px.req, Px.rne, Px.rix, Px.rlen, Px.rin, Px.rsetl, Px.risi, Px.tyH_n, Px.tyH_b, Px.tyH_i, Px.tyH_s, Px.tyH_r, Px.seqH_t, Px.seqH_l, Px.seqH_fl, Px.sc_ii, Px.sc_bb, Px.sc_ss, Px.atI0, Px.atI1, Px.atI2, Px.atI3, Px.atI4, Px.atI5, Px.atI6, Px.atI7, Px.kb_NoneType_int, Px.kb_NoneType_bool, Px.kb_NoneType_str, Px.kb_NoneType_list, Px.kb_NoneType_tuple, Px.kb_NoneType_dict, Px.kb_bool_int, Px.kb_bool_bool, Px.kb_bool_str, Px.kb_bool_list, Px.kb_bool_tuple, Px.kb_bool_dict, Px.kb_int_int, Px.kb_int_bool, Px.kb_int_str, Px.kb_int_list, Px.kb_int_tuple, Px.kb_int_dict, Px.kb_str_int, Px.kb_str_bool, Px.kb_str_str, Px.kb_str_list, Px.kb_str_tuple, Px.kb_str_dict, Px.kb_list_int, Px.kb_list_bool, Px.kb_list_str, Px.kb_list_list, Px.kb_list_tuple, Px.kb_list_dict, Px.kb_tuple_int, Px.kb_tuple_bool, Px.kb_tuple_str, Px.kb_tuple_list, Px.kb_tuple_tuple, Px.kb_tuple_dict, Px.kb_dict_int, Px.kb_dict_bool, Px.kb_dict_str, Px.kb_dict_list, Px.kb_dict_tuple, Px.kb_dict_dict, L2.upd_same, Px.updI, L2.ixN, List.set_cons_zero, List.set_cons_succ, List.length_cons, List.length_nil, Nat.reduceAdd, Nat.zero_add, L2.HO.lst.injEq, L2.HO.tup.injEq, L2.upd_upd, L2.V.int.injEq, L2.V.ref.injEq, L2.V.bl.injEq, L2.V.str.injEq, L2.V.ty.injEq, List.cons.injEq, and_true, true_and, and_false, false_and, or_false, false_or, exists_eq_left', exists_eq_left, exists_and_left, exists_const, exists_false, Option.some.injEq, decide_eq_true_eq, List.append_nil, List.cons_append, List.nil_append, Option.isSome_some, Bool.not_true, Bool.not_false, Bool.not_eq_true', Bool.not_eq_true, Bool.false_eq_true, decide_eq_false_iff_not, if_true, if_false, ite_true, ite_false, Int.reduceLE, Int.reduceLT, Int.reduceToNat, Int.cast_ofNat_Int, Bool.true_eq_false, eq_self, ↓reduceIte, reduceCtorEq, Px.aug, Px.ipi, Px.tri, Px.rcatth, Px.flh, Px.sfl, Px.met, Px.mak, *, spTake]
    exact fun v H1 v0 v1 h1 b1 _ => hR v H1 ⟨⟨v0, v1⟩, h1, b1⟩
  · rintro n H1 ⟨⟨n0, n1⟩, hp1', b1⟩
    have b1' : But p H H1 := ((But.rfl' p H).new hd).trans b1
    refine ⟨⟨by omega, by omega⟩, ILs p d H, ⟨⟨_, _, rfl⟩, hp1', b1', [], [], b1.get hdp upd_same, rfl, Nat.le_refl _⟩, ?_, ?_⟩
    · rintro i σ' H2 hi ⟨⟨v, v', rfl⟩, hp2, b2, kvs, m, hk, hm, lm⟩
      refine go_seq ?_
      simp only [decide_true, decide_false, List.map_cons, List.map_nil, Option.map_none, Option.map_some, Option.getD_none, Option.getD_some, Px.dg2, Px.dg1, Px.dg, Px.din, Px.dnotin, Px.dnew, Px.dput, Px.isD_is, Px.dget_i, Px.dget_s, Px.dput_i, Px.dput_s, Px.dOf_d, Px.rtup, Px.rlist, Px.rsl, Px.rsort, Px.rcat, Px.rapp, Px.rrev, Px.sl_ap, Px.nop, Px.part, Px.yes, Px.tyl, Px.isL_l, Px.isT_t, Px.isL_t, Px.isT_l, Px.isD_d, Px.isT_d, Px.inV_ints, Px.flat_ints, Px.flatV_i, Px.wipe_cons, Px.wipe_nil, Px.gtup, Px.gcons, Px.gnil, gt_iff_lt, ge_iff_le, Px.we, Px.wonly, Px.was, Px.cxK, not_true_eq_false, and_self, true_implies, false_implies, implies_true, Px.e0, and_assoc, imp_false, not_false_eq_true, ne_eq, Px.rgcd, Px.rixl, Px.rixt, Px.v0, Px.v1, Px.v2, Px.v3, Px.v4, Px.v5, Px.v6, Px.v7, Px.v8, Px.v9, Px.v10, Px.v11, Px.v12, Px.v13, Px.v14, Px.v15, Px.v16, Px.v17, Px.v18, Px.v19, Px.v20, Px.v21, Px.v22, Px.v23, Px.c0, Px.asg, Px.gnm, Px.ret, Px.retN, Px.drop, Px.nxt, Px.brk, Px.cnt, Px.ifs, Px.op, Px.un, Px.tst, Px.tbl, Px.tand, Px.tor, Px.tnot, Px.andv, Px.orv, Px.notv, Px.tif, Px.tup, Px.lst, Px.nil, Px.cons, Px.cal, Px.calS, Px.cb, Px.par, Px.gsub, Px.bits, Px.bm, Px.bm0, Px.ri, Px.ri0, Px.ru, Px.req, Px.rne, Px.rix, Px.rlen, Px.rin, Px.rsetl, Px.risi, Px.tyH_n, Px.tyH_b, Px.tyH_i, Px.tyH_s, Px.tyH_r, Px.seqH_t, Px.seqH_l, Px.seqH_fl, Px.sc_ii, Px.sc_bb, Px.sc_ss, Px.atI0, Px.atI1, Px.atI2, Px.atI3, Px.atI4, Px.atI5, Px.atI6, Px.atI7, Px.kb_NoneType_int, Px.kb_NoneType_bool, Px.kb_NoneType_str, Px.kb_NoneType_list, Px.kb_NoneType_tuple, Px.kb_NoneType_dict, Px.kb_bool_int, Px.kb_bool_bool, Px.kb_bool_str, Px.kb_bool_list, Px.kb_bool_tuple, Px.kb_bool_dict, Px.kb_int_int, Px.kb_int_bool, Px.kb_int_str, Px.kb_int_list, Px.kb_int_tuple, Px.kb_int_dict, Px.kb_str_int, Px.kb_str_bool, Px.kb_str_str, Px.kb_str_list, Px.kb_str_tuple, Px.kb_str_dict, Px.kb_list_int, Px.kb_list_bool, Px.kb_list_str, Px.kb_list_list, Px.kb_list_tuple, Px.kb_list_dict, Px.kb_tuple_int, Px.kb_tuple_bool, Px.kb_tuple_str, Px.kb_tuple_list, Px.kb_tuple_tuple, Px.kb_tuple_dict, Px.kb_dict_int, Px.kb_dict_bool, Px.kb_dict_str, Px.kb_dict_list, Px.kb_dict_tuple, Px.kb_dict_dict, L2.upd_same, Px.updI, L2.ixN, List.set_cons_zero, List.set_cons_succ, List.length_cons, List.length_nil, Nat.reduceAdd, Nat.zero_add, L2.HO.lst.injEq, L2.HO.tup.injEq, L2.upd_upd, L2.V.int.injEq, L2.V.ref.injEq, L2.V.bl.injEq, L2.V.str.injEq, L2.V.ty.injEq, List.cons.injEq, and_true, true_and, and_false, false_and, or_false, false_or, exists_eq_left', exists_eq_left, exists_and_left, exists_const, exists_false, Option.some.injEq, decide_eq_true_eq, List.append_nil, List.cons_append, List.nil_append, Option.isSome_some, Bool.not_true, Bool.not_false, Bool.not_eq_true', Bool.not_eq_true, Bool.false_eq_true, decide_eq_false_iff_not, if_true, if_false, ite_true, ite_false, Int.reduceLE, Int.reduceLT, Int.reduceToNat, Int.cast_ofNat_Int, Bool.true_eq_false, eq_self, ↓reduceIte, reduceCtorEq, Px.aug, Px.ipi, Px.tri, Px.rcatth, Px.flh, Px.sfl, Px.met, Px.mak, *, spLit]
      intro v H3 hp3 b3 t3
      have hk3 := b3.get hdp hk
      have lk := intd_len hm
      obtain ⟨m', h1, h2⟩ := intd_put hm (if v < 0 then -v else v) v
      simp only [decide_true, decide_false, List.map_cons, List.map_nil, Option.map_none, Option.map_some, Option.getD_none, Option.getD_some, Px.dg2, Px.dg1, Px.dg, Px.din, Px.dnotin, Px.dnew, Px.dput, Px.isD_is, Px.dget_i, Px.dget_s, Px.dput_i, Px.dput_s, Px.dOf_d, Px.rtup, Px.rlist, Px.rsl, Px.rsort, Px.rcat, Px.rapp, Px.rrev, Px.sl_ap, Px.nop, Px.part, Px.yes, Px.tyl, Px.isL_l, Px.isT_t, Px.isL_t, Px.isT_l, Px.isD_d, Px.isT_d, Px.inV_ints, Px.flat_ints, Px.flatV_i, Px.wipe_cons, Px.wipe_nil, Px.gtup, Px.gcons, Px.gnil, gt_iff_lt, ge_iff_le, Px.we, Px.wonly, Px.was, Px.cxK, not_true_eq_false, and_self, true_implies, false_implies, implies_true, Px.e0, and_assoc, imp_false, not_false_eq_true, ne_eq, Px.rgcd, Px.rixl, Px.rixt, Px.v0, Px.v1, Px.v2, Px.v3, Px.v4, Px.v5, Px.v6, Px.v7, Px.v8, Px.v9, Px.v10, Px.v11, Px.v12, Px.v13, Px.v14, Px.v15, Px.v16, Px.v17, Px.v18, Px.v19, Px.v20, Px.v21, Px.v22, Px.v23, Px.c0, Px.asg, Px.gnm, Px.ret, Px.retN, Px.drop, Px.nxt, Px.brk, Px.cnt, Px.ifs, Px.op, Px.un, Px.tst, Px.tbl, Px.tand, Px.tor, Px.tnot, Px.andv, Px.orv, Px.notv, Px.tif, Px.tup, Px.lst, Px.nil, Px.cons, Px.cal, Px.calS, Px.cb, Px.par, Px.gsub, Px.bits, Px.bm, Px.bm0, Px.ri, Px.ri0, Px.ru, Px.req, Px.rne, Px.rix, Px.rlen, Px.rin, Px.rsetl, Px.risi, Px.tyH_n, Px.tyH_b, Px.tyH_i, Px.tyH_s, Px.tyH_r, Px.seqH_t, Px.seqH_l, Px.seqH_fl, Px.sc_ii, Px.sc_bb, Px.sc_ss, Px.atI0, Px.atI1, Px.atI2, Px.atI3, Px.atI4, Px.atI5, Px.atI6, Px.atI7, Px.kb_NoneType_int, Px.kb_NoneType_bool, Px.kb_NoneType_str, Px.kb_NoneType_list, Px.kb_NoneType_tuple, Px.kb_NoneType_dict, Px.kb_bool_int, Px.kb_bool_bool, Px.kb_bool_str, Px.kb_bool_list, Px.kb_bool_tuple, Px.kb_bool_dict, Px.kb_int_int, Px.kb_int_bool, Px.kb_int_str, Px.kb_int_list, Px.kb_int_tuple, Px.kb_int_dict, Px.kb_str_int, Px.kb_str_bool, Px.kb_str_str, Px.kb_str_list, Px.kb_str_tuple, Px.kb_str_dict, Px.kb_list_int, Px.kb_list_bool, Px.kb_list_str, Px.kb_list_list, Px.kb_list_tuple, Px.kb_list_dict, Px.kb_tuple_int, Px.kb_tuple_bool, Px.kb_tuple_str, Px.kb_tuple_list, Px.kb_tuple_tuple, Px.kb_tuple_dict, Px.kb_dict_int, Px.kb_dict_bool, Px.kb_dict_str, Px.kb_dict_list, Px.kb_dict_tuple, Px.kb_dict_dict, L2.upd_same, Px.updI, L2.ixN, List.set_cons_zero, List.set_cons_succ, List.length_cons, List.length_nil, Nat.reduceAdd, Nat.zero_add, L2.HO.lst.injEq, L2.HO.tup.injEq, L2.upd_upd, L2.V.int.injEq, L2.V.ref.injEq, L2.V.bl.injEq, L2.V.str.injEq, L2.V.ty.injEq, List.cons.injEq, and_true, true_and, and_false, false_and, or_false, false_or, exists_eq_left', exists_eq_left, exists_and_left, exists_const, exists_false, Option.some.injEq, decide_eq_true_eq, List.append_nil, List.cons_append, List.nil_append, Option.isSome_some, Bool.not_true, Bool.not_false, Bool.not_eq_true', Bool.not_eq_true, Bool.false_eq_true, decide_eq_false_iff_not, if_true, if_false, ite_true, ite_false, Int.reduceLE, Int.reduceLT, Int.reduceToNat, Int.cast_ofNat_Int, Bool.true_eq_false, eq_self, ↓reduceIte, reduceCtorEq, Px.aug, Px.ipi, Px.tri, Px.rcatth, Px.flh, Px.sfl, Px.met, Px.mak, *]
      refine ⟨Nat.lt_of_lt_of_le (show m.length < 100 by omega) (by decide), ⟨_, _, rfl⟩, ?_, (b2.trans b3).mut0 hd, _, m', upd_same, h1, by omega⟩
      obtain ⟨c1, c2, c3, c4, g⟩ := hp3
      exact ⟨c1, c2, c3, c4, by rw [upd_ne hdp.symm, g]⟩
    · rintro σ' H2 ⟨⟨v, v', rfl⟩, hp2, b2, kvs, m, hk, hm, lm⟩
      simp only [decide_true, decide_false, List.map_cons, List.map_nil, Option.map_none, Option.map_some, Option.getD_none, Option.getD_some, Px.dg2, Px.dg1, Px.dg, Px.din, Px.dnotin, Px.dnew, Px.dput, Px.isD_is, Px.dget_i, Px.dget_s, Px.dput_i, Px.dput_s, Px.dOf_d, Px.rtup, Px.rlist, Px.rsl, Px.rsort, Px.rcat, Px.rapp, Px.rrev, Px.sl_ap, Px.nop, Px.part, Px.yes, Px.tyl, Px.isL_l, Px.isT_t, Px.isL_t, Px.isT_l, Px.isD_d, Px.isT_d, Px.inV_ints, Px.flat_ints, Px.flatV_i, Px.wipe_cons, Px.wipe_nil, Px.gtup, Px.gcons, Px.gnil, gt_iff_lt, ge_iff_le, Px.we, Px.wonly, Px.was, Px.cxK, not_true_eq_false, and_self, true_implies, false_implies, implies_true, Px.e0, and_assoc, imp_false, not_false_eq_true, ne_eq, Px.rgcd, Px.rixl, Px.rixt, Px.v0, Px.v1, Px.v2, Px.v3, Px.v4, Px.v5, Px.v6, Px.v7, Px.v8, Px.v9, Px.v10, Px.v11, Px.v12, Px.v13, Px.v14, Px.v15, Px.v16, Px.v17, Px.v18, Px.v19, Px.v20, Px.v21, Px.v22, Px.v23, Px.c0, Px.asg, Px.gnm, Px.ret, Px.retN, Px.drop, Px.nxt, Px.brk, Px.cnt, Px.ifs, Px.op, Px.un, Px.tst, Px.tbl, Px.tand, Px.tor, Px.tnot, Px.andv, Px.orv, Px.notv, Px.tif, Px.tup, Px.lst, Px.nil, Px.cons, Px.cal, Px.calS, Px.cb, Px.par, Px.gsub, Px.bits, Px.bm, Px.bm0, Px.ri, Px.ri0, Px.ru, Px.req, Px.rne, Px.rix, Px.rlen, Px.rin, Px.rsetl, Px.risi, Px.tyH_n, Px.tyH_b, Px.tyH_i, Px.tyH_s, Px.tyH_r, Px.seqH_t, Px.seqH_l, Px.seqH_fl, Px.sc_ii, Px.sc_bb, Px.sc_ss, Px.atI0, Px.atI1, Px.atI2, Px.atI3, Px.atI4, Px.atI5, Px.atI6, Px.atI7, Px.kb_NoneType_int, Px.kb_NoneType_bool, Px.kb_NoneType_str, Px.kb_NoneType_list, Px.kb_NoneType_tuple, Px.kb_NoneType_dict, Px.kb_bool_int, Px.kb_bool_bool, Px.kb_bool_str, Px.kb_bool_list, Px.kb_bool_tuple, Px.kb_bool_dict, Px.kb_int_int, Px.kb_int_bool, Px.kb_int_str, Px.kb_int_list, Px.kb_int_tuple, Px.kb_int_dict, Px.kb_str_int, Px.kb_str_bool, Px.kb_str_str, Px.kb_str_list, Px.kb_str_tuple, Px.kb_str_dict, Px.kb_list_int, Px.kb_list_bool, Px.kb_list_str, Px.kb_list_list, Px.kb_list_tuple, Px.kb_list_dict, Px.kb_tuple_int, Px.kb_tuple_bool, Px.kb_tuple_str, Px.kb_tuple_list, Px.kb_tuple_tuple, Px.kb_tuple_dict, Px.kb_dict_int, Px.kb_dict_bool, Px.kb_dict_str, Px.kb_dict_list, Px.kb_dict_tuple, Px.kb_dict_dict, L2.upd_same, Px.updI, L2.ixN, List.set_cons_zero, List.set_cons_succ, List.length_cons, List.length_nil, Nat.reduceAdd, Nat.zero_add, L2.HO.lst.injEq, L2.HO.tup.injEq, L2.upd_upd, L2.V.int.injEq, L2.V.ref.injEq, L2.V.bl.injEq, L2.V.str.injEq, L2.V.ty.injEq, List.cons.injEq, and_true, true_and, and_false, false_and, or_false, false_or, exists_eq_left', exists_eq_left, exists_and_left, exists_const, exists_false, Option.some.injEq, decide_eq_true_eq, List.append_nil, List.cons_append, List.nil_append, Option.isSome_some, Bool.not_true, Bool.not_false, Bool.not_eq_true', Bool.not_eq_true, Bool.false_eq_true, decide_eq_false_iff_not, if_true, if_false, ite_true, ite_false, Int.reduceLE, Int.reduceLT, Int.reduceToNat, Int.cast_ofNat_Int, Bool.true_eq_false, eq_self, ↓reduceIte, reduceCtorEq, Px.aug, Px.ipi, Px.tri, Px.rcatth, Px.flh, Px.sfl, Px.met, Px.mak, *]
      refine lc_seqL (M := fun a' xs H3 => ∃ ys : List Int, xs = ys.map V.int ∧ ys.Perm (m.map (·.1)) ∧ H3 a' = some (.lst xs) ∧ Px.Ext H2 H3) ?_ ?_
      · intro R hR
        simp only [decide_true, decide_false, List.map_cons, List.map_nil, Option.map_none, Option.map_some, Option.getD_none, Option.getD_some, Px.dg2, Px.dg1, Px.dg, Px.din, Px.dnotin, Px.dnew, Px.dput, Px.isD_is, Px.dget_i, Px.dget_s, Px.dput_i, Px.dput_s, Px.dOf_d, Px.rtup, Px.rlist, Px.rsl, Px.rsort, Px.rcat, Px.rapp, Px.rrev, Px.sl_ap, Px.nop, Px.part, Px.yes, Px.tyl, Px.isL_l, Px.isT_t, Px.isL_t, Px.isT_l, Px.isD_d, Px.isT_d, Px.inV_ints, Px.flat_ints, Px.flatV_i, Px.wipe_cons, Px.wipe_nil, Px.gtup, Px.gcons, Px.gnil, gt_iff_lt, ge_iff_le, Px.we, Px.wonly, Px.was, Px.cxK, not_true_eq_false, and_self, true_implies, false_implies, implies_true, Px.e0, and_assoc, imp_false, not_false_eq_true, ne_eq, Px.rgcd, Px.rixl, Px.rixt, Px.v0, Px.v1, Px.v2, Px.v3, Px.v4, Px.v5, Px.v6, Px.v7, Px.v8, Px.v9, Px.v10, Px.v11, Px.v12, Px.v13, Px.v14, Px.v15, Px.v16, Px.v17, Px.v18, Px.v19, Px.v20, Px.v21, Px.v22, Px.v23, Px.c0, Px.asg, Px.gnm, Px.ret, Px.retN, Px.drop, Px.nxt, Px.brk, Px.cnt, Px.ifs, Px.op, Px.un, Px.tst, Px.tbl, Px.tand, Px.tor, Px.tnot, Px.andv, Px.orv, Px.notv, Px.tif, Px.tup, Px.lst, Px.nil, Px.cons, Px.cal, Px.calS, Px.cb, Px.par, Px.gsub, Px.bits, Px.bm, Px.bm0, Px.ri, Px.ri0, Px.ru, Px.req, Px.rne, Px.rix, Px.rlen, Px.rin, Px.rsetl, Px.risi, Px.tyH_n, Px.tyH_b, Px.tyH_i, Px.tyH_s, Px.tyH_r, Px.seqH_t, Px.seqH_l, Px.seqH_fl, Px.sc_ii, Px.sc_bb, Px.sc_ss, Px.atI0, Px.atI1, Px.atI2, Px.atI3, Px.atI4, Px.atI5, Px.atI6, Px.atI7, Px.kb_NoneType_int, Px.kb_NoneType_bool, Px.kb_NoneType_str, Px.kb_NoneType_list, Px.kb_NoneType_tuple, Px.kb_NoneType_dict, Px.kb_bool_int, Px.kb_bool_bool, Px.kb_bool_str, Px.kb_bool_list, Px.kb_bool_tuple, Px.kb_bool_dict, Px.kb_int_int, Px.kb_int_bool, Px.kb_int_str, Px.kb_int_list, Px.kb_int_tuple, Px.kb_int_dict, Px.kb_str_int, Px.kb_str_bool, Px.kb_str_str, Px.kb_str_list, Px.kb_str_tuple, Px.kb_str_dict, Px.kb_list_int, Px.kb_list_bool, Px.kb_list_str, Px.kb_list_list, Px.kb_list_tuple, Px.kb_list_dict, Px.kb_tuple_int, Px.kb_tuple_bool, Px.kb_tuple_str, Px.kb_tuple_list, Px.kb_tuple_tuple, Px.kb_tuple_dict, Px.kb_dict_int, Px.kb_dict_bool, Px.kb_dict_str, Px.kb_dict_list, Px.kb_dict_tuple, Px.kb_dict_dict, L2.upd_same, Px.updI, L2.ixN, List.set_cons_zero, List.set_cons_succ, List.length_cons, List.length_nil, Nat.reduceAdd, Nat.zero_add, L2.HO.lst.injEq, L2.HO.tup.injEq, L2.upd_upd, L2.V.int.injEq, L2.V.ref.injEq, L2.V.bl.injEq, L2.V.str.injEq, L2.V.ty.injEq, List.cons.injEq, and_true, true_and, and_false, false_and, or_false, false_or, exists_eq_left', exists_eq_left, exists_and_left, exists_const, exists_false, Option.some.injEq, decide_eq_true_eq, List.append_nil, List.cons_append, List.nil_append, Option.isSome_some, Bool.not_true, Bool.not_false, Bool.not_eq_true', Bool.not_eq_true, Bool.false_eq_true, decide_eq_false_iff_not, if_true, if_false, ite_true, ite_false, Int.reduceLE, Int.reduceLT, Int.reduceToNat, Int.cast_ofNat_Int, Bool.true_eq_false, eq_self, ↓reduceIte, reduceCtorEq, Px.aug, Px.ipi, Px.tri, Px.rcatth, Px.flh, Px.sfl, Px.met, Px.mak, *]
        refine ⟨_, .inl hk, fun r hr => ⟨m.map (·.1), ?_, fun ys q h1 h2 hq => hR q _ _ ⟨ys, rfl, h1, upd_same, ((Px.Ext.rfl' H2).new hr).new hq⟩⟩⟩
        rw [hm, List.map_map, List.map_map]
        rfl
      · rintro b xs H3 ⟨ys, rfl, h1, hb, e3⟩
        have ly := h1.length_eq
        rw [List.length_map] at ly
        refine ⟨hb, by rw [List.length_map]; omega, fun _ => true, fun i => .int (iv kvs (ys.getD i 0)), ?_, ?_⟩
        · intro i x hi H4 R E e4 _ k4
          obtain ⟨y, hy, rfl, ey, _⟩ := int_at hi
          obtain ⟨z, hz⟩ := intd_get (h1.mem_iff.mp (List.mem_of_getElem? hy))
          have hk4 := e4.get (e3.get hk)
          simp only [decide_true, decide_false, List.map_cons, List.map_nil, Option.map_none, Option.map_some, Option.getD_none, Option.getD_some, Px.dg2, Px.dg1, Px.dg, Px.din, Px.dnotin, Px.dnew, Px.dput, Px.isD_is, Px.dget_i, Px.dget_s, Px.dput_i, Px.dput_s, Px.dOf_d, Px.rtup, Px.rlist, Px.rsl, Px.rsort, Px.rcat, Px.rapp, Px.rrev, Px.sl_ap, Px.nop, Px.part, Px.yes, Px.tyl, Px.isL_l, Px.isT_t, Px.isL_t, Px.isT_l, Px.isD_d, Px.isT_d, Px.inV_ints, Px.flat_ints, Px.flatV_i, Px.wipe_cons, Px.wipe_nil, Px.gtup, Px.gcons, Px.gnil, gt_iff_lt, ge_iff_le, Px.we, Px.wonly, Px.was, Px.cxK, not_true_eq_false, and_self, true_implies, false_implies, implies_true, Px.e0, and_assoc, imp_false, not_false_eq_true, ne_eq, Px.rgcd, Px.rixl, Px.rixt, Px.v0, Px.v1, Px.v2, Px.v3, Px.v4, Px.v5, Px.v6, Px.v7, Px.v8, Px.v9, Px.v10, Px.v11, Px.v12, Px.v13, Px.v14, Px.v15, Px.v16, Px.v17, Px.v18, Px.v19, Px.v20, Px.v21, Px.v22, Px.v23, Px.c0, Px.asg, Px.gnm, Px.ret, Px.retN, Px.drop, Px.nxt, Px.brk, Px.cnt, Px.ifs, Px.op, Px.un, Px.tst, Px.tbl, Px.tand, Px.tor, Px.tnot, Px.andv, Px.orv, Px.notv, Px.tif, Px.tup, Px.lst, Px.nil, Px.cons, Px.cal, Px.calS, Px.cb, Px.par, Px.gsub, Px.bits, Px.bm, Px.bm0, Px.ri, Px.ri0, Px.ru, Px.req, Px.rne, Px.rix, Px.rlen, Px.rin, Px.rsetl, Px.risi, Px.tyH_n, Px.tyH_b, Px.tyH_i, Px.tyH_s, Px.tyH_r, Px.seqH_t, Px.seqH_l, Px.seqH_fl, Px.sc_ii, Px.sc_bb, Px.sc_ss, Px.atI0, Px.atI1, Px.atI2, Px.atI3, Px.atI4, Px.atI5, Px.atI6, Px.atI7, Px.kb_NoneType_int, Px.kb_NoneType_bool, Px.kb_NoneType_str, Px.kb_NoneType_list, Px.kb_NoneType_tuple, Px.kb_NoneType_dict, Px.kb_bool_int, Px.kb_bool_bool, Px.kb_bool_str, Px.kb_bool_list, Px.kb_bool_tuple, Px.kb_bool_dict, Px.kb_int_int, Px.kb_int_bool, Px.kb_int_str, Px.kb_int_list, Px.kb_int_tuple, Px.kb_int_dict, Px.kb_str_int, Px.kb_str_bool, Px.kb_str_str, Px.kb_str_list, Px.kb_str_tuple, Px.kb_str_dict, Px.kb_list_int, Px.kb_list_bool, Px.kb_list_str, Px.kb_list_list, Px.kb_list_tuple, Px.kb_list_dict, Px.kb_tuple_int, Px.kb_tuple_bool, Px.kb_tuple_str, Px.kb_tuple_list, Px.kb_tuple_tuple, Px.kb_tuple_dict, Px.kb_dict_int, Px.kb_dict_bool, Px.kb_dict_str, Px.kb_dict_list, Px.kb_dict_tuple, Px.kb_dict_dict, L2.upd_same, Px.updI, L2.ixN, List.set_cons_zero, List.set_cons_succ, List.length_cons, List.length_nil, Nat.reduceAdd, Nat.zero_add, L2.HO.lst.injEq, L2.HO.tup.injEq, L2.upd_upd, L2.V.int.injEq, L2.V.ref.injEq, L2.V.bl.injEq, L2.V.str.injEq, L2.V.ty.injEq, List.cons.injEq, and_true, true_and, and_false, false_and, or_false, false_or, exists_eq_left', exists_eq_left, exists_and_left, exists_const, exists_false, Option.some.injEq, decide_eq_true_eq, List.append_nil, List.cons_append, List.nil_append, Option.isSome_some, Bool.not_true, Bool.not_false, Bool.not_eq_true', Bool.not_eq_true, Bool.false_eq_true, decide_eq_false_iff_not, if_true, if_false, ite_true, ite_false, Int.reduceLE, Int.reduceLT, Int.reduceToNat, Int.cast_ofNat_Int, Bool.true_eq_false, eq_self, ↓reduceIte, reduceCtorEq, Px.aug, Px.ipi, Px.tri, Px.rcatth, Px.flh, Px.sfl, Px.met, Px.mak, *]
          have hz2 : valV kvs (Sum.inl y) = some (.int z) := by rw [hm]; exact hz
          refine ⟨.int z, hz2.symm, k4 rfl _ _ (Px.Ext.rfl' H4) ?_⟩
          show Dt H4 (.int z) (.int (iv kvs (ys.getD i 0)))
          rw [ey]
          unfold iv
          rw [hz2]
          exact .int z
        · intro D zs H4 hD e4 hz hall
          simp only [decide_true, decide_false, List.map_cons, List.map_nil, Option.map_none, Option.map_some, Option.getD_none, Option.getD_some, Px.dg2, Px.dg1, Px.dg, Px.din, Px.dnotin, Px.dnew, Px.dput, Px.isD_is, Px.dget_i, Px.dget_s, Px.dput_i, Px.dput_s, Px.dOf_d, Px.rtup, Px.rlist, Px.rsl, Px.rsort, Px.rcat, Px.rapp, Px.rrev, Px.sl_ap, Px.nop, Px.part, Px.yes, Px.tyl, Px.isL_l, Px.isT_t, Px.isL_t, Px.isT_l, Px.isD_d, Px.isT_d, Px.inV_ints, Px.flat_ints, Px.flatV_i, Px.wipe_cons, Px.wipe_nil, Px.gtup, Px.gcons, Px.gnil, gt_iff_lt, ge_iff_le, Px.we, Px.wonly, Px.was, Px.cxK, not_true_eq_false, and_self, true_implies, false_implies, implies_true, Px.e0, and_assoc, imp_false, not_false_eq_true, ne_eq, Px.rgcd, Px.rixl, Px.rixt, Px.v0, Px.v1, Px.v2, Px.v3, Px.v4, Px.v5, Px.v6, Px.v7, Px.v8, Px.v9, Px.v10, Px.v11, Px.v12, Px.v13, Px.v14, Px.v15, Px.v16, Px.v17, Px.v18, Px.v19, Px.v20, Px.v21, Px.v22, Px.v23, Px.c0, Px.asg, Px.gnm, Px.ret, Px.retN, Px.drop, Px.nxt, Px.brk, Px.cnt, Px.ifs, Px.op, Px.un, Px.tst, Px.tbl, Px.tand, Px.tor, Px.tnot, Px.andv, Px.orv, Px.notv, Px.tif, Px.tup, Px.lst, Px.nil, Px.cons, Px.cal, Px.calS, Px.cb, Px.par, Px.gsub, Px.bits, Px.bm, Px.bm0, Px.ri, Px.ri0, Px.ru, Px.req, Px.rne, Px.rix, Px.rlen, Px.rin, Px.rsetl, Px.risi, Px.tyH_n, Px.tyH_b, Px.tyH_i, Px.tyH_s, Px.tyH_r, Px.seqH_t, Px.seqH_l, Px.seqH_fl, Px.sc_ii, Px.sc_bb, Px.sc_ss, Px.atI0, Px.atI1, Px.atI2, Px.atI3, Px.atI4, Px.atI5, Px.atI6, Px.atI7, Px.kb_NoneType_int, Px.kb_NoneType_bool, Px.kb_NoneType_str, Px.kb_NoneType_list, Px.kb_NoneType_tuple, Px.kb_NoneType_dict, Px.kb_bool_int, Px.kb_bool_bool, Px.kb_bool_str, Px.kb_bool_list, Px.kb_bool_tuple, Px.kb_bool_dict, Px.kb_int_int, Px.kb_int_bool, Px.kb_int_str, Px.kb_int_list, Px.kb_int_tuple, Px.kb_int_dict, Px.kb_str_int, Px.kb_str_bool, Px.kb_str_str, Px.kb_str_list, Px.kb_str_tuple, Px.kb_str_dict, Px.kb_list_int, Px.kb_list_bool, Px.kb_list_str, Px.kb_list_list, Px.kb_list_tuple, Px.kb_list_dict, Px.kb_tuple_int, Px.kb_tuple_bool, Px.kb_tuple_str, Px.kb_tuple_list, Px.kb_tuple_tuple, Px.kb_tuple_dict, Px.kb_dict_int, Px.kb_dict_bool, Px.kb_dict_str, Px.kb_dict_list, Px.kb_dict_tuple, Px.kb_dict_dict, L2.upd_same, Px.updI, L2.ixN, List.set_cons_zero, List.set_cons_succ, List.length_cons, List.length_nil, Nat.reduceAdd, Nat.zero_add, L2.HO.lst.injEq, L2.HO.tup.injEq, L2.upd_upd, L2.V.int.injEq, L2.V.ref.injEq, L2.V.bl.injEq, L2.V.str.injEq, L2.V.ty.injEq, List.cons.injEq, and_true, true_and, and_false, false_and, or_false, false_or, exists_eq_left', exists_eq_left, exists_and_left, exists_const, exists_false, Option.some.injEq, decide_eq_true_eq, List.append_nil, List.cons_append, List.nil_append, Option.isSome_some, Bool.not_true, Bool.not_false, Bool.not_eq_true', Bool.not_eq_true, Bool.false_eq_true, decide_eq_false_iff_not, if_true, if_false, ite_true, ite_false, Int.reduceLE, Int.reduceLT, Int.reduceToNat, Int.cast_ofNat_Int, Bool.true_eq_false, eq_self, ↓reduceIte, reduceCtorEq, Px.aug, Px.ipi, Px.tri, Px.rcatth, Px.flh, Px.sfl, Px.met, Px.mak, *]
          intro l hl
          rw [List.length_map, given_all] at hall
          refine k _ ((List.range ys.length).map fun i => iv kvs (ys.getD i 0)) _ (.tup upd_same ?_) (by rw [List.length_map, List.length_range]; omega) (((hp2.ext e3).ext e4).new hl) (((b2.trans (But.of e3)).trans (But.of e4)).new hl)
          rw [List.map_map]
          exact hall.mono ((Px.Ext.rfl' H4).new hl).tu
end
end K03

namespace K03
open PySem PySem.Spec PyProof.Rows L2 Px
theorem steps_ne {H : Hp} {p a : Addr} {xs : List St} (hp : Pool H p) (h : Steps H a xs) : a ≠ p := fun z => by
  obtain ⟨c, k, b, s, hp⟩ := hp
  obtain ⟨vs, h1, h2⟩ := h
  rw [z, hp] at h1
  cases h1
  cases xs with
  | nil => cases h2
  | cons x xs =>
    rw [List.map_cons] at h2
    cases h2 with
    | cons a b =>
      rw [enc_eq] at a
      cases a
theorem Steps.but {H H' : Hp} {p a : Addr} {xs : List St} (h : Steps H a xs) (hp : Pool H p) (b : But p H H') : Steps H' a xs := by
  have n := steps_ne hp h
  obtain ⟨vs, h1, h2⟩ := h
  exact ⟨vs, b.get n h1, h2.mono (b.tu hp.nt)⟩
section
variable {P : Program} {w : World} {K : PySem.W.Frag} {mg : Str → Option Value} {base : Heap} {C : Addr}
def spStepL (vs : List V) (H : Hp) (Q : VK) (_ : XK) : Prop := ∃ (p a : Addr) (xs : List St), vs = [.ref p, .ref a] ∧ Pool H p ∧ Steps H a xs ∧ Wf xs ∧ ∀ v x H', Dt H' v (enc x) → Ok xs.length x → Pool H' p → But p H H' → Q v H'
def IStr (p : Addr) (n : Nat) (H : Hp) (i : Nat) (ds : List PyData) (H' : Hp) : Prop := (∃ zs : List (Int × Nat), ds = (zi zs).map prd ∧ zs.length = i ∧ ∀ q, q ∈ zs → q.2 < n) ∧ Pool H' p ∧ But p H H'
theorem istr_upd {p : Addr} {n : Nat} {H : Hp} (hp : (H p).isSome = true) : ∀ (D : Addr) (i : Nat) (ds : List PyData) (H' : Hp) (ys : List V), H D = none → IStr p n H i ds H' → IStr p n H i ds (upd H' D (.lst ys)) := fun D i ds H' ys hD h => by
  obtain ⟨a, ⟨c1, c2, c3, c4, b⟩, c⟩ := h
  exact ⟨a, ⟨c1, c2, c3, c4, by rw [upd_ne (ne_some_none hp hD), b]⟩, c.mut0 hD⟩
theorem istr_turn {p : Addr} {n : Nat} {H H4 : Hp} {i : Nat} {ds : List PyData} {q : Int × Nat} (hx : q.2 < n) (h : ∃ zs : List (Int × Nat), ds = (zi zs).map prd ∧ zs.length = i ∧ ∀ q, q ∈ zs → q.2 < n) (hp : Pool H4 p) (hb : But p H H4) : IStr p n H (i + 1) (ds ++ [prd (q.1, (q.2 : Int))]) H4 := by
  obtain ⟨zs, rfl, h2, h3⟩ := h
  refine ⟨⟨zs ++ [q], by unfold zi; rw [List.map_append, List.map_append]; rfl, by rw [List.length_append, h2]; rfl, fun y hy => ?_⟩, hp, hb⟩
  rcases List.mem_append.mp hy with hy | hy
  · exact h3 y hy
  · rw [List.mem_singleton.mp hy]
    exact hx
theorem ok_step' (B : Bn mg) (F : FunAt K mg "_law_step" s_law_step) (D_law_take : Def P w K mg base CX0 1 "_law_take" ["pool", "size"] spTake) (D_law_literal : Def P w K mg base CX0 2 "_law_literal" ["pool"] spLit) (D_law_literals : Def P w K mg base CX0 3 "_law_literals" ["pool"] spLits) : Def P w K mg base CX0 4 "_law_step" ["pool", "steps"] spStepL := by
  refine F.ok sc_law_step (fun _ _ _ _ _ _ us hl => match us, hl with | [_, _], _ => rfl) (fun vs H Q E h => by obtain ⟨_, _, _, rfl, _⟩ := h; rfl) (fun f cdv A outer s H vs Q E hr h => ?_)
  obtain ⟨p, a, xs, rfl, hp, hS, wf, k⟩ := h
  refine ⟨_, pss_cons (ps_set (i := 2) sc_law_step.nd rfl (Or.inr rfl) (pe_callB len_H rfl B.len (by decide +kernel) (pa_cons (pv 1) pa_nil))) (
  pss_cons (ps_set (i := 3) sc_law_step.nd rfl (Or.inl rfl) (pe_fn D_law_take (hr.mono (by decide)) pass0 (pa_cons (pv 0) (pa_cons pe_int pa_nil)))) (
  pss_cons (ps_set (i := 4) sc_law_step.nd rfl (Or.inl rfl) (pe_fn D_law_literals hr pass0 (pa_cons (pv 0) pa_nil))) (
  pcut (ps_if (PW.pt (pw_and (pt_cmpR op_gt (pv 2) pe_int (nomark _)) (pw_and1 (pt_cmpR op_eq (pv 3) pe_int (nomark _))))) (pss_one (ps_ret (pe_ix ix_H (pv 1) (pe_op op_sub (pv 2) pe_int) (fun _ _ => rfl)))) (pss_nil)) (
  pcut (ps_if (PW.pt (pw_and (pt_cmpR op_gt (pv 2) pe_int (nomark _)) (pw_and1 (pt_cmpR op_lt (pv 3) pe_int (nomark _))))) (pss_cons (ps_set (i := 5) sc_law_step.nd rfl (Or.inl rfl) (pe_op op_sub (pe_op op_sub (pv 2) pe_int) (pe_fn D_law_take (hr.mono (by decide)) pass0 (pa_cons (pv 0) (pa_cons (pe_op op_add pe_int (pe_fn D_law_take (hr.mono (by decide)) pass0 (pa_cons (pv 0) (pa_cons (pv 2) pa_nil)))) pa_nil))))) (
  pss_cons (ps_setLc (i := 6) (own := [("j", 7)]) (g := gName 7) rfl sc_law_step.nd rfl rfl (sw_true rfl rfl rfl (by decide +kernel)) (pi_range1 rfl B.range (pa_cons (pe_fn D_law_take (hr.mono (by decide)) pass0 (pa_cons (pv 0) (pa_cons pe_int pa_nil))) pa_nil)) (blkOk_by (own := [("j", 7)]) (N := ["pool", "steps", "k", "pick", "line", "first", "strikes", "j", "one", "two", "others"]) (sc := defScope s_law_step) (by decide +kernel)) (fun _ _ _ _ _ => (pg_name (i := 7) sc_law_step.nd rfl (Or.inl rfl))) (fun _ _ _ _ _ => pts_nil) (fun _ _ _ _ _ => (pe_tup (pa_cons (pe_fn D_law_literal (hr.mono (by decide)) pass0 (pa_cons (pv 0) pa_nil)) (pa_cons (pe_op op_sub (pe_op op_sub (pv 2) pe_int) (pe_fn D_law_take (hr.mono (by decide)) pass0 (pa_cons (pv 0) (pa_cons (pv 2) pa_nil)))) pa_nil))))) (
  pss_one (ps_ret (pe_tup (pa_cons pe_str (pa_cons (pv 4) (pa_cons (pe_tup (pa_cons (pv 5) (pa_cons (pe_callTy tup_H rfl B.tuple_ (by decide +kernel) (pa_cons (pv 6) pa_nil)) pa_nil))) pa_nil)))))))) (pss_nil)) (
  pss_cons (ps_set (i := 8) sc_law_step.nd rfl (Or.inl rfl) (pe_op op_add pe_int (pe_fn D_law_take (hr.mono (by decide)) pass0 (pa_cons (pv 0) (pa_cons pe_int pa_nil))))) (
  pss_cons (ps_set (i := 9) sc_law_step.nd rfl (Or.inl rfl) (pe_op op_add pe_int (pe_fn D_law_take (hr.mono (by decide)) pass0 (pa_cons (pv 0) (pa_cons pe_int pa_nil))))) (
  pss_cons (ps_set (i := 10) sc_law_step.nd rfl (Or.inl rfl) (pe_lst (pa_cons (pe_tup (pa_cons pe_str (pa_cons (pv 4) (pa_cons pe_non pa_nil)))) (pa_cons (pe_tup (pa_cons pe_str (pa_cons (pv 4) (pa_cons (pv 8) pa_nil)))) (pa_cons (pe_tup (pa_cons pe_str (pa_cons (pv 4) (pa_cons pe_non pa_nil)))) (pa_cons (pe_tup (pa_cons pe_str (pa_cons (pv 4) (pa_cons (pe_tup (pa_cons (pv 8) (pa_cons (pe_tup (pa_cons (pv 9) (pa_cons (pv 8) pa_nil))) pa_nil))) pa_nil)))) pa_nil)))))) (
  pss_cons (ps_set (i := 10) sc_law_step.nd rfl (Or.inl rfl) (pe_op op_cat (pv 10) (pe_lst (pa_cons (pe_tup (pa_cons pe_str (pa_cons (pv 4) (pa_cons (pe_tup (pa_cons (pv 8) (pa_cons (pv 9) pa_nil))) pa_nil)))) (pa_cons (pe_tup (pa_cons pe_str (pa_cons (pv 4) (pa_cons (pe_tup (pa_cons (pe_tup (pa_cons (pv 8) (pa_cons pe_int pa_nil))) (pa_cons (pe_tup (pa_cons pe_int (pa_cons (pv 9) pa_nil))) pa_nil))) pa_nil)))) pa_nil))))) (
  pss_one (ps_ret (pe_ix ix_H (pv 10) (pe_fn D_law_take (hr.mono (by decide)) pass0 (pa_cons (pv 0) (pa_cons pe_int pa_nil))) (fun _ _ => rfl)))))))))))), ?_⟩
  show tSeq _ _ _ [some (.ref p), some (.ref a), none, none, none, none, none, none, none, none, none] H
  have hap := steps_ne hp hS
  obtain ⟨ws, ha, hws⟩ := id hS
  have lw := Steps.len hws
  have l40 := wf.1
  refine go_seq ?_
  simp only [decide_true, decide_false, List.map_cons, List.map_nil, Option.map_none, Option.map_some, Option.getD_none, Option.getD_some, Px.dg2, Px.dg1, Px.dg, Px.din, Px.dnotin, Px.dnew, Px.dput, Px.isD_is, Px.dget_i, Px.dget_s, Px.dput_i, Px.dput_s, Px.dOf_d, Px.rtup, Px.rlist, Px.rsl, Px.rsort, Px.rcat, Px.rapp, Px.rrev, Px.sl_ap, Px.nop, Px.part, Px.yes, Px.tyl, Px.isL_l, Px.isT_t, Px.isL_t, Px.isT_l, Px.isD_d, Px.isT_d, Px.inV_ints, Px.flat_ints, Px.flatV_i, Px.wipe_cons, Px.wipe_nil, Px.gtup, Px.gcons, Px.gnil, gt_iff_lt, ge_iff_le, Px.we, Px.wonly, Px.was, Px.cxK, not_true_eq_false, and_self, true_implies, false_implies, implies_true, Px.e0, and_assoc, imp_false, not_false_eq_true, ne_eq, Px.rgcd, Px.rixl, Px.rixt, Px.v0, Px.v1, Px.v2, Px.v3, Px.v4, Px.v5, Px.v6, Px.v7, Px.v8, Px.v9, Px.v10, Px.v11, Px.v12, Px.v13, Px.v14, Px.v15, Px.v16, Px.v17, Px.v18, Px.v19, Px.v20, Px.v21, Px.v22, Px.v23, Px.c0, Px.asg, Px.gnm, Px.ret, Px.retN, Px.drop, Px.nxt, Px.brk, Px.cnt, Px.ifs, Px.op, Px.un, Px.tst, Px.tbl, Px.tand, Px.tor, Px.tnot, Px.andv, Px.orv, Px.notv, Px.tif, Px.tup, Px.lst, Px.nil, Px.cons, Px.cal, Px.calS, Px.cb, Px.par, Px.gsub, Px.bits, Px.bm, Px.bm0, Px.ri, Px.ri0, Px.ru, Px.req, Px.rne, Px.rix, Px.rlen, Px.rin, Px.rsetl, Px.risi, Px.tyH_n, Px.tyH_b, Px.tyH_i, Px.tyH_s, Px.tyH_r, Px.seqH_t, Px.seqH_l, Px.seqH_fl, Px.sc_ii, Px.sc_bb, Px.sc_ss, Px.atI0, Px.atI1, Px.atI2, Px.atI3, Px.atI4, Px.atI5, Px.atI6, Px.atI7, Px.kb_NoneType_int, Px.kb_NoneType_bool, Px.kb_NoneType_str, Px.kb_NoneType_list, Px.kb_NoneType_tuple, Px.kb_NoneType_dict, Px.kb_bool_int, Px.kb_bool_bool, Px.kb_bool_str, Px.kb_bool_list, Px.kb_bool_tuple, Px.kb_bool_dict, Px.kb_int_int, Px.kb_int_bool, Px.kb_int_str, Px.kb_int_list, Px.kb_int_tuple, Px.kb_int_dict, Px.kb_str_int, Px.kb_str_bool, Px.kb_str_str, Px.kb_str_list, Px.kb_str_tuple, Px.kb_str_dict, Px.kb_list_int, Px.kb_list_bool, Px.kb_list_str, Px.kb_list_list, Px.kb_list_tuple, Px.kb_list_dict, Px.kb_tuple_int, Px.kb_tuple_bool, Px.kb_tuple_str, Px.kb_tuple_list, Px.kb_tuple_tuple, Px.kb_tuple_dict, Px.kb_dict_int, Px.kb_dict_bool, Px.kb_dict_str, Px.kb_dict_list, Px.kb_dict_tuple, Px.kb_dict_dict, L2.upd_same, Px.updI, L2.ixN, List.set_cons_zero, List.set_cons_succ, List.length_cons, List.length_nil, Nat.reduceAdd, Nat.zero_add, L2.HO.lst.injEq, L2.HO.tup.injEq, L2.upd_upd, L2.V.int.injEq, L2.V.ref.injEq, L2.V.bl.injEq, L2.V.str.injEq, L2.V.ty.injEq, List.cons.injEq, and_true, true_and, and_false, false_and, or_false, false_or, exists_eq_left', exists_eq_left, exists_and_left, exists_const, exists_false, Option.some.injEq, decide_eq_true_eq, List.append_nil, List.cons_append, List.nil_append, Option.isSome_some, Bool.not_true, Bool.not_false, Bool.not_eq_true', Bool.not_eq_true, Bool.false_eq_true, decide_eq_false_iff_not, if_true, if_false, ite_true, ite_false, Int.reduceLE, Int.reduceLT, Int.reduceToNat, Int.cast_ofNat_Int, Bool.true_eq_false, eq_self, ↓reduceIte, reduceCtorEq, Px.aug, Px.ipi, Px.tri, Px.rcatth, Px.flh, Px.sfl, Px.met, Px.mak, *]
  refine go_seq ?_
  simp only [decide_true, decide_false, List.map_cons, List.map_nil, Option.map_none, Option.map_some, Option.getD_none, Option.getD_some, Px.dg2, Px.dg1, Px.dg, Px.din, Px.dnotin, Px.dnew, Px.dput, Px.isD_is, Px.dget_i, Px.dget_s, Px.dput_i, Px.dput_s, Px.dOf_d, Px.rtup, Px.rlist, Px.rsl, Px.rsort, Px.rcat, Px.rapp, Px.rrev, Px.sl_ap, Px.nop, Px.part, Px.yes, Px.tyl, Px.isL_l, Px.isT_t, Px.isL_t, Px.isT_l, Px.isD_d, Px.isT_d, Px.inV_ints, Px.flat_ints, Px.flatV_i, Px.wipe_cons, Px.wipe_nil, Px.gtup, Px.gcons, Px.gnil, gt_iff_lt, ge_iff_le, Px.we, Px.wonly, Px.was, Px.cxK, not_true_eq_false, and_self, true_implies, false_implies, implies_true, Px.e0, and_assoc, imp_false, not_false_eq_true, ne_eq, Px.rgcd, Px.rixl, Px.rixt, Px.v0, Px.v1, Px.v2, Px.v3, Px.v4, Px.v5, Px.v6, Px.v7, Px.v8, Px.v9, Px.v10, Px.v11, Px.v12, Px.v13, Px.v14, Px.v15, Px.v16, Px.v17, Px.v18, Px.v19, Px.v20, Px.v21, Px.v22, Px.v23, Px.c0, Px.asg, Px.gnm, Px.ret, Px.retN, Px.drop, Px.nxt, Px.brk, Px.cnt, Px.ifs, Px.op, Px.un, Px.tst, Px.tbl, Px.tand, Px.tor, Px.tnot, Px.andv, Px.orv, Px.notv, Px.tif, Px.tup, Px.lst, Px.nil, Px.cons, Px.cal, Px.calS, Px.cb, Px.par, Px.gsub, Px.bits, Px.bm, Px.bm0, Px.ri, Px.ri0, Px.ru, Px.req, Px.rne, Px.rix, Px.rlen, Px.rin, Px.rsetl, Px.risi, Px.tyH_n, Px.tyH_b, Px.tyH_i, Px.tyH_s, Px.tyH_r, Px.seqH_t, Px.seqH_l, Px.seqH_fl, Px.sc_ii, Px.sc_bb, Px.sc_ss, Px.atI0, Px.atI1, Px.atI2, Px.atI3, Px.atI4, Px.atI5, Px.atI6, Px.atI7, Px.kb_NoneType_int, Px.kb_NoneType_bool, Px.kb_NoneType_str, Px.kb_NoneType_list, Px.kb_NoneType_tuple, Px.kb_NoneType_dict, Px.kb_bool_int, Px.kb_bool_bool, Px.kb_bool_str, Px.kb_bool_list, Px.kb_bool_tuple, Px.kb_bool_dict, Px.kb_int_int, Px.kb_int_bool, Px.kb_int_str, Px.kb_int_list, Px.kb_int_tuple, Px.kb_int_dict, Px.kb_str_int, Px.kb_str_bool, Px.kb_str_str, Px.kb_str_list, Px.kb_str_tuple, Px.kb_str_dict, Px.kb_list_int, Px.kb_list_bool, Px.kb_list_str, Px.kb_list_list, Px.kb_list_tuple, Px.kb_list_dict, Px.kb_tuple_int, Px.kb_tuple_bool, Px.kb_tuple_str, Px.kb_tuple_list, Px.kb_tuple_tuple, Px.kb_tuple_dict, Px.kb_dict_int, Px.kb_dict_bool, Px.kb_dict_str, Px.kb_dict_list, Px.kb_dict_tuple, Px.kb_dict_dict, L2.upd_same, Px.updI, L2.ixN, List.set_cons_zero, List.set_cons_succ, List.length_cons, List.length_nil, Nat.reduceAdd, Nat.zero_add, L2.HO.lst.injEq, L2.HO.tup.injEq, L2.upd_upd, L2.V.int.injEq, L2.V.ref.injEq, L2.V.bl.injEq, L2.V.str.injEq, L2.V.ty.injEq, List.cons.injEq, and_true, true_and, and_false, false_and, or_false, false_or, exists_eq_left', exists_eq_left, exists_and_left, exists_const, exists_false, Option.some.injEq, decide_eq_true_eq, List.append_nil, List.cons_append, List.nil_append, Option.isSome_some, Bool.not_true, Bool.not_false, Bool.not_eq_true', Bool.not_eq_true, Bool.false_eq_true, decide_eq_false_iff_not, if_true, if_false, ite_true, ite_false, Int.reduceLE, Int.reduceLT, Int.reduceToNat, Int.cast_ofNat_Int, Bool.true_eq_false, eq_self, ↓reduceIte, reduceCtorEq, Px.aug, Px.ipi, Px.tri, Px.rcatth, Px.flh, Px.sfl, Px.met, Px.mak, *, spTake]
  intro pick H1 p0 p1 hp1 b1 t1
  refine go_seq ?_
  simp only [decide_true, decide_false, List.map_cons, List.map_nil, Option.map_none, Option.map_some, Option.getD_none, Option.getD_some, Px.dg2, Px.dg1, Px.dg, Px.din, Px.dnotin, Px.dnew, Px.dput, Px.isD_is, Px.dget_i, Px.dget_s, Px.dput_i, Px.dput_s, Px.dOf_d, Px.rtup, Px.rlist, Px.rsl, Px.rsort, Px.rcat, Px.rapp, Px.rrev, Px.sl_ap, Px.nop, Px.part, Px.yes, Px.tyl, Px.isL_l, Px.isT_t, Px.isL_t, Px.isT_l, Px.isD_d, Px.isT_d, Px.inV_ints, Px.flat_ints, Px.flatV_i, Px.wipe_cons, Px.wipe_nil, Px.gtup, Px.gcons, Px.gnil, gt_iff_lt, ge_iff_le, Px.we, Px.wonly, Px.was, Px.cxK, not_true_eq_false, and_self, true_implies, false_implies, implies_true, Px.e0, and_assoc, imp_false, not_false_eq_true, ne_eq, Px.rgcd, Px.rixl, Px.rixt, Px.v0, Px.v1, Px.v2, Px.v3, Px.v4, Px.v5, Px.v6, Px.v7, Px.v8, Px.v9, Px.v10, Px.v11, Px.v12, Px.v13, Px.v14, Px.v15, Px.v16, Px.v17, Px.v18, Px.v19, Px.v20, Px.v21, Px.v22, Px.v23, Px.c0, Px.asg, Px.gnm, Px.ret, Px.retN, Px.drop, Px.nxt, Px.brk, Px.cnt, Px.ifs, Px.op, Px.un, Px.tst, Px.tbl, Px.tand, Px.tor, Px.tnot, Px.andv, Px.orv, Px.notv, Px.tif, Px.tup, Px.lst, Px.nil, Px.cons, Px.cal, Px.calS, Px.cb, Px.par, Px.gsub, Px.bits, Px.bm, Px.bm0, Px.ri, Px.ri0, Px.ru, Px.req, Px.rne, Px.rix, Px.rlen, Px.rin, Px.rsetl, Px.risi, Px.tyH_n, Px.tyH_b, Px.tyH_i, Px.tyH_s, Px.tyH_r, Px.seqH_t, Px.seqH_l, Px.seqH_fl, Px.sc_ii, Px.sc_bb, Px.sc_ss, Px.atI0, Px.atI1, Px.atI2, Px.atI3, Px.atI4, Px.atI5, Px.atI6, Px.atI7, Px.kb_NoneType_int, Px.kb_NoneType_bool, Px.kb_NoneType_str, Px.kb_NoneType_list, Px.kb_NoneType_tuple, Px.kb_NoneType_dict, Px.kb_bool_int, Px.kb_bool_bool, Px.kb_bool_str, Px.kb_bool_list, Px.kb_bool_tuple, Px.kb_bool_dict, Px.kb_int_int, Px.kb_int_bool, Px.kb_int_str, Px.kb_int_list, Px.kb_int_tuple, Px.kb_int_dict, Px.kb_str_int, Px.kb_str_bool, Px.kb_str_str, Px.kb_str_list, Px.kb_str_tuple, Px.kb_str_dict, Px.kb_list_int, Px.kb_list_bool, Px.kb_list_str, Px.kb_list_list, Px.kb_list_tuple, Px.kb_list_dict, Px.kb_tuple_int, Px.kb_tuple_bool, Px.kb_tuple_str, Px.kb_tuple_list, Px.kb_tuple_tuple, Px.kb_tuple_dict, Px.kb_dict_int, Px.kb_dict_bool, Px.kb_dict_str, Px.kb_dict_list, Px.kb_dict_tuple, Px.kb_dict_dict, L2.upd_same, Px.updI, L2.ixN, List.set_cons_zero, List.set_cons_succ, List.length_cons, List.length_nil, Nat.reduceAdd, Nat.zero_add, L2.HO.lst.injEq, L2.HO.tup.injEq, L2.upd_upd, L2.V.int.injEq, L2.V.ref.injEq, L2.V.bl.injEq, L2.V.str.injEq, L2.V.ty.injEq, List.cons.injEq, and_true, true_and, and_false, false_and, or_false, false_or, exists_eq_left', exists_eq_left, exists_and_left, exists_const, exists_false, Option.some.injEq, decide_eq_true_eq, List.append_nil, List.cons_append, List.nil_append, Option.isSome_some, Bool.not_true, Bool.not_false, Bool.not_eq_true', Bool.not_eq_true, Bool.false_eq_true, decide_eq_false_iff_not, if_true, if_false, ite_true, ite_false, Int.reduceLE, Int.reduceLT, Int.reduceToNat, Int.cast_ofNat_Int, Bool.true_eq_false, eq_self, ↓reduceIte, reduceCtorEq, Px.aug, Px.ipi, Px.tri, Px.rcatth, Px.flh, Px.sfl, Px.met, Px.mak, *, spLits]
  intro line ls H2 dl ll hp2 b2
  have b02 := b1.trans b2
  have ha2 := b02.get hap ha
  have hws2 := hws.mono (b02.tu hp.nt)
  refine go_cut (fun σ' H' => σ' = [some (.ref p), some (.ref a), some (.int (xs.length : Int)), some (.int pick), some line, none, none, none, none, none, none] ∧ H' = H2) ?_ ?_
  · simp only [decide_true, decide_false, List.map_cons, List.map_nil, Option.map_none, Option.map_some, Option.getD_none, Option.getD_some, Px.dg2, Px.dg1, Px.dg, Px.din, Px.dnotin, Px.dnew, Px.dput, Px.isD_is, Px.dget_i, Px.dget_s, Px.dput_i, Px.dput_s, Px.dOf_d, Px.rtup, Px.rlist, Px.rsl, Px.rsort, Px.rcat, Px.rapp, Px.rrev, Px.sl_ap, Px.nop, Px.part, Px.yes, Px.tyl, Px.isL_l, Px.isT_t, Px.isL_t, Px.isT_l, Px.isD_d, Px.isT_d, Px.inV_ints, Px.flat_ints, Px.flatV_i, Px.wipe_cons, Px.wipe_nil, Px.gtup, Px.gcons, Px.gnil, gt_iff_lt, ge_iff_le, Px.we, Px.wonly, Px.was, Px.cxK, not_true_eq_false, and_self, true_implies, false_implies, implies_true, Px.e0, and_assoc, imp_false, not_false_eq_true, ne_eq, Px.rgcd, Px.rixl, Px.rixt, Px.v0, Px.v1, Px.v2, Px.v3, Px.v4, Px.v5, Px.v6, Px.v7, Px.v8, Px.v9, Px.v10, Px.v11, Px.v12, Px.v13, Px.v14, Px.v15, Px.v16, Px.v17, Px.v18, Px.v19, Px.v20, Px.v21, Px.v22, Px.v23, Px.c0, Px.asg, Px.gnm, Px.ret, Px.retN, Px.drop, Px.nxt, Px.brk, Px.cnt, Px.ifs, Px.op, Px.un, Px.tst, Px.tbl, Px.tand, Px.tor, Px.tnot, Px.andv, Px.orv, Px.notv, Px.tif, Px.tup, Px.lst, Px.nil, Px.cons, Px.cal, Px.calS, Px.cb, Px.par, Px.gsub, Px.bits, Px.bm, Px.bm0, Px.ri, Px.ri0, Px.ru, Px.req, Px.rne, Px.rix, Px.rlen, Px.rin, Px.rsetl, Px.risi, Px.tyH_n, Px.tyH_b, Px.tyH_i, Px.tyH_s, Px.tyH_r, Px.seqH_t, Px.seqH_l, Px.seqH_fl, Px.sc_ii, Px.sc_bb, Px.sc_ss, Px.atI0, Px.atI1, Px.atI2, Px.atI3, Px.atI4, Px.atI5, Px.atI6, Px.atI7, Px.kb_NoneType_int, Px.kb_NoneType_bool, Px.kb_NoneType_str, Px.kb_NoneType_list, Px.kb_NoneType_tuple, Px.kb_NoneType_dict, Px.kb_bool_int, Px.kb_bool_bool, Px.kb_bool_str, Px.kb_bool_list, Px.kb_bool_tuple, Px.kb_bool_dict, Px.kb_int_int, Px.kb_int_bool, Px.kb_int_str, Px.kb_int_list, Px.kb_int_tuple, Px.kb_int_dict, Px.kb_str_int, Px.kb_str_bool, Px.kb_str_str, Px.kb_str_list, Px.kb_str_tuple, Px.kb_str_dict, Px.kb_list_int, Px.kb_list_bool, Px.kb_list_str, Px.kb_list_list, Px.kb_list_tuple, Px.kb_list_dict, Px.kb_tuple_int, Px.kb_tuple_bool, Px.kb_tuple_str, Px.kb_tuple_list, Px.kb_tuple_tuple, Px.kb_tuple_dict, Px.kb_dict_int, Px.kb_dict_bool, Px.kb_dict_str, Px.kb_dict_list, Px.kb_dict_tuple, Px.kb_dict_dict, L2.upd_same, Px.updI, L2.ixN, List.set_cons_zero, List.set_cons_succ, List.length_cons, List.length_nil, Nat.reduceAdd, Nat.zero_add, L2.HO.lst.injEq, L2.HO.tup.injEq, L2.upd_upd, L2.V.int.injEq, L2.V.ref.injEq, L2.V.bl.injEq, L2.V.str.injEq, L2.V.ty.injEq, List.cons.injEq, and_true, true_and, and_false, false_and, or_false, false_or, exists_eq_left', exists_eq_left, exists_and_left, exists_const, exists_false, Option.some.injEq, decide_eq_true_eq, List.append_nil, List.cons_append, List.nil_append, Option.isSome_some, Bool.not_true, Bool.not_false, Bool.not_eq_true', Bool.not_eq_true, Bool.false_eq_true, decide_eq_false_iff_not, if_true, if_false, ite_true, ite_false, Int.reduceLE, Int.reduceLT, Int.reduceToNat, Int.cast_ofNat_Int, Bool.true_eq_false, eq_self, ↓reduceIte, reduceCtorEq, Px.aug, Px.ipi, Px.tri, Px.rcatth, Px.flh, Px.sfl, Px.met, Px.mak, *]
    refine go_if (fun hk => ?_) (fun _ => trivial)
    refine go_if (fun hq => ?_) (fun _ => trivial)
    have lk : xs.length - 1 < xs.length := by omega
    obtain ⟨y, hy, dy⟩ := Steps.at_ hws2 lk
    have ay := atI_nat hy
    rw [show ((xs.length - 1 : Nat) : Int) = (xs.length : Int) - 1 by omega] at ay
    exact ⟨y, ay, k _ _ _ dy ((wf.2 _ _ (at_get lk)).mono (by omega)) hp2 b02⟩
  rintro σ' H' ⟨rfl, rfl⟩
  refine go_cut (fun σ' H3 => σ' = [some (.ref p), some (.ref a), some (.int (xs.length : Int)), some (.int pick), some line, none, none, none, none, none, none] ∧ H3 = H') ?_ ?_
  · simp only [decide_true, decide_false, List.map_cons, List.map_nil, Option.map_none, Option.map_some, Option.getD_none, Option.getD_some, Px.dg2, Px.dg1, Px.dg, Px.din, Px.dnotin, Px.dnew, Px.dput, Px.isD_is, Px.dget_i, Px.dget_s, Px.dput_i, Px.dput_s, Px.dOf_d, Px.rtup, Px.rlist, Px.rsl, Px.rsort, Px.rcat, Px.rapp, Px.rrev, Px.sl_ap, Px.nop, Px.part, Px.yes, Px.tyl, Px.isL_l, Px.isT_t, Px.isL_t, Px.isT_l, Px.isD_d, Px.isT_d, Px.inV_ints, Px.flat_ints, Px.flatV_i, Px.wipe_cons, Px.wipe_nil, Px.gtup, Px.gcons, Px.gnil, gt_iff_lt, ge_iff_le, Px.we, Px.wonly, Px.was, Px.cxK, not_true_eq_false, and_self, true_implies, false_implies, implies_true, Px.e0, and_assoc, imp_false, not_false_eq_true, ne_eq, Px.rgcd, Px.rixl, Px.rixt, Px.v0, Px.v1, Px.v2, Px.v3, Px.v4, Px.v5, Px.v6, Px.v7, Px.v8, Px.v9, Px.v10, Px.v11, Px.v12, Px.v13, Px.v14, Px.v15, Px.v16, Px.v17, Px.v18, Px.v19, Px.v20, Px.v21, Px.v22, Px.v23, Px.c0, Px.asg, Px.gnm, Px.ret, Px.retN, Px.drop, Px.nxt, Px.brk, Px.cnt, Px.ifs, Px.op, Px.un, Px.tst, Px.tbl, Px.tand, Px.tor, Px.tnot, Px.andv, Px.orv, Px.notv, Px.tif, Px.tup, Px.lst, Px.nil, Px.cons, Px.cal, Px.calS, Px.cb, Px.par, Px.gsub, Px.bits, Px.bm, Px.bm0, Px.ri, Px.ri0, Px.ru, Px.req, Px.rne, Px.rix, Px.rlen, Px.rin, Px.rsetl, Px.risi, Px.tyH_n, Px.tyH_b, Px.tyH_i, Px.tyH_s, Px.tyH_r, Px.seqH_t, Px.seqH_l, Px.seqH_fl, Px.sc_ii, Px.sc_bb, Px.sc_ss, Px.atI0, Px.atI1, Px.atI2, Px.atI3, Px.atI4, Px.atI5, Px.atI6, Px.atI7, Px.kb_NoneType_int, Px.kb_NoneType_bool, Px.kb_NoneType_str, Px.kb_NoneType_list, Px.kb_NoneType_tuple, Px.kb_NoneType_dict, Px.kb_bool_int, Px.kb_bool_bool, Px.kb_bool_str, Px.kb_bool_list, Px.kb_bool_tuple, Px.kb_bool_dict, Px.kb_int_int, Px.kb_int_bool, Px.kb_int_str, Px.kb_int_list, Px.kb_int_tuple, Px.kb_int_dict, Px.kb_str_int, Px.kb_str_bool, Px.kb_str_str, Px.kb_str_list, Px.kb_str_tuple, Px.kb_str_dict, Px.kb_list_int, Px.kb_list_bool, Px.kb_list_str, Px.kb_list_list, Px.kb_list_tuple, Px.kb_list_dict, Px.kb_tuple_int, Px.kb_tuple_bool, Px.kb_tuple_str, Px.kb_tuple_list, Px.kb_tuple_tuple, Px.kb_tuple_dict, Px.kb_dict_int, Px.kb_dict_bool, Px.kb_dict_str, Px.kb_dict_list, Px.kb_dict_tuple, Px.kb_dict_dict, L2.upd_same, Px.updI, L2.ixN, List.set_cons_zero, List.set_cons_succ, List.length_cons, List.length_nil, Nat.reduceAdd, Nat.zero_add, L2.HO.lst.injEq, L2.HO.tup.injEq, L2.upd_upd, L2.V.int.injEq, L2.V.ref.injEq, L2.V.bl.injEq, L2.V.str.injEq, L2.V.ty.injEq, List.cons.injEq, and_true, true_and, and_false, false_and, or_false, false_or, exists_eq_left', exists_eq_left, exists_and_left, exists_const, exists_false, Option.some.injEq, decide_eq_true_eq, List.append_nil, List.cons_append, List.nil_append, Option.isSome_some, Bool.not_true, Bool.not_false, Bool.not_eq_true', Bool.not_eq_true, Bool.false_eq_true, decide_eq_false_iff_not, if_true, if_false, ite_true, ite_false, Int.reduceLE, Int.reduceLT, Int.reduceToNat, Int.cast_ofNat_Int, Bool.true_eq_false, eq_self, ↓reduceIte, reduceCtorEq, Px.aug, Px.ipi, Px.tri, Px.rcatth, Px.flh, Px.sfl, Px.met, Px.mak, *]
    refine go_if (fun hk => ?_) (fun _ => trivial)
    refine go_if (fun hq => ?_) (fun _ => trivial)
    refine go_seq ?_
    simp only [decide_true, decide_false, List.map_cons, List.map_nil, Option.map_none, Option.map_some, Option.getD_none, Option.getD_some, Px.dg2, Px.dg1, Px.dg, Px.din, Px.dnotin, Px.dnew, Px.dput, Px.isD_is, Px.dget_i, Px.dget_s, Px.dput_i, Px.dput_s, Px.dOf_d, Px.rtup, Px.rlist, Px.rsl, Px.rsort, Px.rcat, Px.rapp, Px.rrev, Px.sl_ap, Px.nop, Px.part, Px.yes, Px.tyl, Px.isL_l, Px.isT_t, Px.isL_t, Px.isT_l, Px.isD_d, Px.isT_d, Px.inV_ints, Px.flat_ints, Px.flatV_i, Px.wipe_cons, Px.wipe_nil, Px.gtup, Px.gcons, Px.gnil, gt_iff_lt, ge_iff_le, Px.we, Px.wonly, Px.was, Px.cxK, not_true_eq_false, and_self, true_implies, false_implies, implies_true, Px.e0, and_assoc, imp_false, not_false_eq_true, ne_eq, Px.rgcd, Px.rixl, Px.rixt, Px.v0, Px.v1, Px.v2, Px.v3, Px.v4, Px.v5, Px.v6, Px.v7, Px.v8, Px.v9, Px.v10, Px.v11, Px.v12, Px.v13, Px.v14, Px.v15, Px.v16, Px.v17, Px.v18, Px.v19, Px.v20, Px.v21, Px.v22, Px.v23, Px.c0, Px.asg, Px.gnm, Px.ret, Px.retN, Px.drop, Px.nxt, Px.brk, Px.cnt, Px.ifs, Px.op, Px.un, Px.tst, Px.tbl, Px.tand, Px.tor, Px.tnot, Px.andv, Px.orv, Px.notv, Px.tif, Px.tup, Px.lst, Px.nil, Px.cons, Px.cal, Px.calS, Px.cb, Px.par, Px.gsub, Px.bits, Px.bm, Px.bm0, Px.ri, Px.ri0, Px.ru, Px.req, Px.rne, Px.rix, Px.rlen, Px.rin, Px.rsetl, Px.risi, Px.tyH_n, Px.tyH_b, Px.tyH_i, Px.tyH_s, Px.tyH_r, Px.seqH_t, Px.seqH_l, Px.seqH_fl, Px.sc_ii, Px.sc_bb, Px.sc_ss, Px.atI0, Px.atI1, Px.atI2, Px.atI3, Px.atI4, Px.atI5, Px.atI6, Px.atI7, Px.kb_NoneType_int, Px.kb_NoneType_bool, Px.kb_NoneType_str, Px.kb_NoneType_list, Px.kb_NoneType_tuple, Px.kb_NoneType_dict, Px.kb_bool_int, Px.kb_bool_bool, Px.kb_bool_str, Px.kb_bool_list, Px.kb_bool_tuple, Px.kb_bool_dict, Px.kb_int_int, Px.kb_int_bool, Px.kb_int_str, Px.kb_int_list, Px.kb_int_tuple, Px.kb_int_dict, Px.kb_str_int, Px.kb_str_bool, Px.kb_str_str, Px.kb_str_list, Px.kb_str_tuple, Px.kb_str_dict, Px.kb_list_int, Px.kb_list_bool, Px.kb_list_str, Px.kb_list_list, Px.kb_list_tuple, Px.kb_list_dict, Px.kb_tuple_int, Px.kb_tuple_bool, Px.kb_tuple_str, Px.kb_tuple_list, Px.kb_tuple_tuple, Px.kb_tuple_dict, Px.kb_dict_int, Px.kb_dict_bool, Px.kb_dict_str, Px.kb_dict_list, Px.kb_dict_tuple, Px.kb_dict_dict, L2.upd_same, Px.updI, L2.ixN, List.set_cons_zero, List.set_cons_succ, List.length_cons, List.length_nil, Nat.reduceAdd, Nat.zero_add, L2.HO.lst.injEq, L2.HO.tup.injEq, L2.upd_upd, L2.V.int.injEq, L2.V.ref.injEq, L2.V.bl.injEq, L2.V.str.injEq, L2.V.ty.injEq, List.cons.injEq, and_true, true_and, and_false, false_and, or_false, false_or, exists_eq_left', exists_eq_left, exists_and_left, exists_const, exists_false, Option.some.injEq, decide_eq_true_eq, List.append_nil, List.cons_append, List.nil_append, Option.isSome_some, Bool.not_true, Bool.not_false, Bool.not_eq_true', Bool.not_eq_true, Bool.false_eq_true, decide_eq_false_iff_not, if_true, if_false, ite_true, ite_false, Int.reduceLE, Int.reduceLT, Int.reduceToNat, Int.cast_ofNat_Int, Bool.true_eq_false, eq_self, ↓reduceIte, reduceCtorEq, Px.aug, Px.ipi, Px.tri, Px.rcatth, Px.flh, Px.sfl, Px.met, Px.mak, *, spTake]
    refine ⟨by omega, fun v H3 v0 v1 hp3 b3 t3 => ⟨hp3, by omega, by omega, fun u H4 u0 u1 hp4 b4 t4 => ?_⟩⟩
    have b04 := (b02.trans b3).trans b4
    have dl4 := dl.mono (t3.trans t4)
    refine go_seq ?_
    simp only [decide_true, decide_false, List.map_cons, List.map_nil, Option.map_none, Option.map_some, Option.getD_none, Option.getD_some, Px.dg2, Px.dg1, Px.dg, Px.din, Px.dnotin, Px.dnew, Px.dput, Px.isD_is, Px.dget_i, Px.dget_s, Px.dput_i, Px.dput_s, Px.dOf_d, Px.rtup, Px.rlist, Px.rsl, Px.rsort, Px.rcat, Px.rapp, Px.rrev, Px.sl_ap, Px.nop, Px.part, Px.yes, Px.tyl, Px.isL_l, Px.isT_t, Px.isL_t, Px.isT_l, Px.isD_d, Px.isT_d, Px.inV_ints, Px.flat_ints, Px.flatV_i, Px.wipe_cons, Px.wipe_nil, Px.gtup, Px.gcons, Px.gnil, gt_iff_lt, ge_iff_le, Px.we, Px.wonly, Px.was, Px.cxK, not_true_eq_false, and_self, true_implies, false_implies, implies_true, Px.e0, and_assoc, imp_false, not_false_eq_true, ne_eq, Px.rgcd, Px.rixl, Px.rixt, Px.v0, Px.v1, Px.v2, Px.v3, Px.v4, Px.v5, Px.v6, Px.v7, Px.v8, Px.v9, Px.v10, Px.v11, Px.v12, Px.v13, Px.v14, Px.v15, Px.v16, Px.v17, Px.v18, Px.v19, Px.v20, Px.v21, Px.v22, Px.v23, Px.c0, Px.asg, Px.gnm, Px.ret, Px.retN, Px.drop, Px.nxt, Px.brk, Px.cnt, Px.ifs, Px.op, Px.un, Px.tst, Px.tbl, Px.tand, Px.tor, Px.tnot, Px.andv, Px.orv, Px.notv, Px.tif, Px.tup, Px.lst, Px.nil, Px.cons, Px.cal, Px.calS, Px.cb, Px.par, Px.gsub, Px.bits, Px.bm, Px.bm0, Px.ri, Px.ri0, Px.ru, Px.req, Px.rne, Px.rix, Px.rlen, Px.rin, Px.rsetl, Px.risi, Px.tyH_n, Px.tyH_b, Px.tyH_i, Px.tyH_s, Px.tyH_r, Px.seqH_t, Px.seqH_l, Px.seqH_fl, Px.sc_ii, Px.sc_bb, Px.sc_ss, Px.atI0, Px.atI1, Px.atI2, Px.atI3, Px.atI4, Px.atI5, Px.atI6, Px.atI7, Px.kb_NoneType_int, Px.kb_NoneType_bool, Px.kb_NoneType_str, Px.kb_NoneType_list, Px.kb_NoneType_tuple, Px.kb_NoneType_dict, Px.kb_bool_int, Px.kb_bool_bool, Px.kb_bool_str, Px.kb_bool_list, Px.kb_bool_tuple, Px.kb_bool_dict, Px.kb_int_int, Px.kb_int_bool, Px.kb_int_str, Px.kb_int_list, Px.kb_int_tuple, Px.kb_int_dict, Px.kb_str_int, Px.kb_str_bool, Px.kb_str_str, Px.kb_str_list, Px.kb_str_tuple, Px.kb_str_dict, Px.kb_list_int, Px.kb_list_bool, Px.kb_list_str, Px.kb_list_list, Px.kb_list_tuple, Px.kb_list_dict, Px.kb_tuple_int, Px.kb_tuple_bool, Px.kb_tuple_str, Px.kb_tuple_list, Px.kb_tuple_tuple, Px.kb_tuple_dict, Px.kb_dict_int, Px.kb_dict_bool, Px.kb_dict_str, Px.kb_dict_list, Px.kb_dict_tuple, Px.kb_dict_dict, L2.upd_same, Px.updI, L2.ixN, List.set_cons_zero, List.set_cons_succ, List.length_cons, List.length_nil, Nat.reduceAdd, Nat.zero_add, L2.HO.lst.injEq, L2.HO.tup.injEq, L2.upd_upd, L2.V.int.injEq, L2.V.ref.injEq, L2.V.bl.injEq, L2.V.str.injEq, L2.V.ty.injEq, List.cons.injEq, and_true, true_and, and_false, false_and, or_false, false_or, exists_eq_left', exists_eq_left, exists_and_left, exists_const, exists_false, Option.some.injEq, decide_eq_true_eq, List.append_nil, List.cons_append, List.nil_append, Option.isSome_some, Bool.not_true, Bool.not_false, Bool.not_eq_true', Bool.not_eq_true, Bool.false_eq_true, decide_eq_false_iff_not, if_true, if_false, ite_true, ite_false, Int.reduceLE, Int.reduceLT, Int.reduceToNat, Int.cast_ofNat_Int, Bool.true_eq_false, eq_self, ↓reduceIte, reduceCtorEq, Px.aug, Px.ipi, Px.tri, Px.rcatth, Px.flh, Px.sfl, Px.met, Px.mak]
    obtain ⟨first, hf⟩ : ∃ n : Nat, (xs.length : Int) - 1 - u = (n : Int) := ⟨((xs.length : Int) - 1 - u).toNat, by omega⟩
    rw [hf]
    refine lcg_rngE (M := fun n H5 => (0 ≤ n ∧ n < 5) ∧ Pool H5 p ∧ But p H4 H5 ∧ Tu H4 H5) ?_ ?_
    · intro R hR
      simp only [decide_true, decide_false, List.map_cons, List.map_nil, Option.map_none, Option.map_some, Option.getD_none, Option.getD_some, Px.dg2, Px.dg1, Px.dg, Px.din, Px.dnotin, Px.dnew, Px.dput, Px.isD_is, Px.dget_i, Px.dget_s, Px.dput_i, Px.dput_s, Px.dOf_d, Px.rtup, Px.rlist, Px.rsl, Px.rsort, Px.rcat, Px.rapp, Px.rrev, Px.sl_ap, Px.nop, Px.part, Px.yes, Px.tyl, Px.isL_l, Px.isT_t, Px.isL_t, Px.isT_l, Px.isD_d, Px.isT_d, Px.inV_ints, Px.flat_ints, Px.flatV_i, Px.wipe_cons, Px.wipe_nil, Px.gtup, Px.gcons, Px.gnil, gt_iff_lt, ge_iff_le, Px.we, Px.wonly, Px.was, Px.cxK, not_true_eq_false, and_self, true_implies, false_implies, implies_true, Px.e0, and_assoc, imp_false, not_false_eq_true, ne_eq, Px.rgcd, Px.rixl, Px.rixt, Px.v0, Px.v1, Px.v2, Px.v3, Px.v4, Px.v5, Px.v6, Px.v7, Px.v8, Px.v9, Px.v10, Px.v11, Px.v12, Px.v13, Px.v14, Px.v15, Px.v16, Px.v17, Px.v18, Px.v19, Px.v20, Px.v21, Px.v22, Px.v23, Px.c0, Px.asg, Px.gnm, Px.ret, Px.retN, Px.drop, Px.nxt, Px.brk, Px.cnt, Px.ifs, Px.op, Px.un, Px.tst, Px.tbl, Px.tand, Px.tor, Px.tnot, Px.andv, Px.orv, Px.notv, Px.tif, Px.tup, Px.lst, Px.nil, Px.cons, Px.cal, Px.calS, Px.cb, Px.par, Px.gsub, Px.bits, Px.bm, Px.bm0, Px.ri, Px.ri0, Px.ru, Px.req, Px.rne, Px.rix, Px.rlen, Px.rin, Px.rsetl, Px.risi, Px.tyH_n, Px.tyH_b, Px.tyH_i, Px.tyH_s, Px.tyH_r, Px.seqH_t, Px.seqH_l, Px.seqH_fl, Px.sc_ii, Px.sc_bb, Px.sc_ss, Px.atI0, Px.atI1, Px.atI2, Px.atI3, Px.atI4, Px.atI5, Px.atI6, Px.atI7, Px.kb_NoneType_int, Px.kb_NoneType_bool, Px.kb_NoneType_str, Px.kb_NoneType_list, Px.kb_NoneType_tuple, Px.kb_NoneType_dict, Px.kb_bool_int, Px.kb_bool_bool, Px.kb_bool_str, Px.kb_bool_list, Px.kb_bool_tuple, Px.kb_bool_dict, Px.kb_int_int, Px.kb_int_bool, Px.kb_int_str, Px.kb_int_list, Px.kb_int_tuple, Px.kb_int_dict, Px.kb_str_int, Px.kb_str_bool, Px.kb_str_str, Px.kb_str_list, Px.kb_str_tuple, Px.kb_str_dict, Px.kb_list_int, Px.kb_list_bool, Px.kb_list_str, Px.kb_list_list, Px.kb_list_tuple, Px.kb_list_dict, Px.kb_tuple_int, Px.kb_tuple_bool, Px.kb_tuple_str, Px.kb_tuple_list, Px.kb_tuple_tuple, Px.kb_tuple_dict, Px.kb_dict_int, Px.kb_dict_bool, Px.kb_dict_str, Px.kb_dict_list, Px.kb_dict_tuple, Px.kb_dict_dict, L2.upd_same, Px.updI, L2.ixN, List.set_cons_zero, List.set_cons_succ, List.length_cons, List.length_nil, Nat.reduceAdd, Nat.zero_add, L2.HO.lst.injEq, L2.HO.tup.injEq, L2.upd_upd, L2.V.int.injEq, L2.V.ref.injEq, L2.V.bl.injEq, L2.V.str.injEq, L2.V.ty.injEq, List.cons.injEq, and_true, true_and, and_false, false_and, or_false, false_or, exists_eq_left', exists_eq_left, exists_and_left, exists_const, exists_false, Option.some.injEq, decide_eq_true_eq, List.append_nil, List.cons_append, List.nil_append, Option.isSome_some, Bool.not_true, Bool.not_false, Bool.not_eq_true', Bool.not_eq_true, Bool.false_eq_true, decide_eq_false_iff_not, if_true, if_false, ite_true, ite_false, Int.reduceLE, Int.reduceLT, Int.reduceToNat, Int.cast_ofNat_Int, Bool.true_eq_false, eq_self, ↓reduceIte, reduceCtorEq, Px.aug, Px.ipi, Px.tri, Px.rcatth, Px.flh, Px.sfl, Px.met, Px.mak, *, spTake]
      exact fun v H5 v0 v1 h1 b1 t1 => hR v H5 ⟨⟨v0, v1⟩, h1, b1, t1⟩
    · rintro n H5 ⟨⟨n0, n1⟩, hp5, b5, t5⟩
      refine ⟨⟨by omega, by omega⟩, IStr p xs.length H5, istr_upd hp5.isSome, ⟨⟨[], rfl, rfl, fun x h => (by cases h)⟩, hp5, But.rfl' p H5⟩, ?_, ?_⟩
      · intro i hi D ds H6 R E hD hl ⟨hds, hp6, b6⟩ _ k6
        have hDp : D ≠ p := hp5.ne0 hD
        have hDs : (H6 D).isSome = true := by
          cases e : H6 D with
          | none => rw [e] at hl; cases hl
          | some o => rfl
        simp only [decide_true, decide_false, List.map_cons, List.map_nil, Option.map_none, Option.map_some, Option.getD_none, Option.getD_some, Px.dg2, Px.dg1, Px.dg, Px.din, Px.dnotin, Px.dnew, Px.dput, Px.isD_is, Px.dget_i, Px.dget_s, Px.dput_i, Px.dput_s, Px.dOf_d, Px.rtup, Px.rlist, Px.rsl, Px.rsort, Px.rcat, Px.rapp, Px.rrev, Px.sl_ap, Px.nop, Px.part, Px.yes, Px.tyl, Px.isL_l, Px.isT_t, Px.isL_t, Px.isT_l, Px.isD_d, Px.isT_d, Px.inV_ints, Px.flat_ints, Px.flatV_i, Px.wipe_cons, Px.wipe_nil, Px.gtup, Px.gcons, Px.gnil, gt_iff_lt, ge_iff_le, Px.we, Px.wonly, Px.was, Px.cxK, not_true_eq_false, and_self, true_implies, false_implies, implies_true, Px.e0, and_assoc, imp_false, not_false_eq_true, ne_eq, Px.rgcd, Px.rixl, Px.rixt, Px.v0, Px.v1, Px.v2, Px.v3, Px.v4, Px.v5, Px.v6, Px.v7, Px.v8, Px.v9, Px.v10, Px.v11, Px.v12, Px.v13, Px.v14, Px.v15, Px.v16, Px.v17, Px.v18, Px.v19, Px.v20, Px.v21, Px.v22, Px.v23, Px.c0, Px.asg, Px.gnm, Px.ret, Px.retN, Px.drop, Px.nxt, Px.brk, Px.cnt, Px.ifs, Px.op, Px.un, Px.tst, Px.tbl, Px.tand, Px.tor, Px.tnot, Px.andv, Px.orv, Px.notv, Px.tif, Px.tup, Px.lst, Px.nil, Px.cons, Px.cal, Px.calS, Px.cb, Px.par, Px.gsub, Px.bits, Px.bm, Px.bm0, Px.ri, Px.ri0, Px.ru, Px.req, Px.rne, Px.rix, Px.rlen, Px.rin, Px.rsetl, Px.risi, Px.tyH_n, Px.tyH_b, Px.tyH_i, Px.tyH_s, Px.tyH_r, Px.seqH_t, Px.seqH_l, Px.seqH_fl, Px.sc_ii, Px.sc_bb, Px.sc_ss, Px.atI0, Px.atI1, Px.atI2, Px.atI3, Px.atI4, Px.atI5, Px.atI6, Px.atI7, Px.kb_NoneType_int, Px.kb_NoneType_bool, Px.kb_NoneType_str, Px.kb_NoneType_list, Px.kb_NoneType_tuple, Px.kb_NoneType_dict, Px.kb_bool_int, Px.kb_bool_bool, Px.kb_bool_str, Px.kb_bool_list, Px.kb_bool_tuple, Px.kb_bool_dict, Px.kb_int_int, Px.kb_int_bool, Px.kb_int_str, Px.kb_int_list, Px.kb_int_tuple, Px.kb_int_dict, Px.kb_str_int, Px.kb_str_bool, Px.kb_str_str, Px.kb_str_list, Px.kb_str_tuple, Px.kb_str_dict, Px.kb_list_int, Px.kb_list_bool, Px.kb_list_str, Px.kb_list_list, Px.kb_list_tuple, Px.kb_list_dict, Px.kb_tuple_int, Px.kb_tuple_bool, Px.kb_tuple_str, Px.kb_tuple_list, Px.kb_tuple_tuple, Px.kb_tuple_dict, Px.kb_dict_int, Px.kb_dict_bool, Px.kb_dict_str, Px.kb_dict_list, Px.kb_dict_tuple, Px.kb_dict_dict, L2.upd_same, Px.updI, L2.ixN, List.set_cons_zero, List.set_cons_succ, List.length_cons, List.length_nil, Nat.reduceAdd, Nat.zero_add, L2.HO.lst.injEq, L2.HO.tup.injEq, L2.upd_upd, L2.V.int.injEq, L2.V.ref.injEq, L2.V.bl.injEq, L2.V.str.injEq, L2.V.ty.injEq, List.cons.injEq, and_true, true_and, and_false, false_and, or_false, false_or, exists_eq_left', exists_eq_left, exists_and_left, exists_const, exists_false, Option.some.injEq, decide_eq_true_eq, List.append_nil, List.cons_append, List.nil_append, Option.isSome_some, Bool.not_true, Bool.not_false, Bool.not_eq_true', Bool.not_eq_true, Bool.false_eq_true, decide_eq_false_iff_not, if_true, if_false, ite_true, ite_false, Int.reduceLE, Int.reduceLT, Int.reduceToNat, Int.cast_ofNat_Int, Bool.true_eq_false, eq_self, ↓reduceIte, reduceCtorEq, Px.aug, Px.ipi, Px.tri, Px.rcatth, Px.flh, Px.sfl, Px.met, Px.mak, *, spTake, spLit]
        intro v H7 hp7 b7 t7
        refine ⟨hp7, by omega, fun u H8 u0 u1 hp8 b8 t8 => ⟨by decide, fun q hq => ?_⟩⟩
        obtain ⟨nu, hnu⟩ : ∃ n : Nat, (xs.length : Int) - 1 - u = (n : Int) := ⟨((xs.length : Int) - 1 - u).toNat, by omega⟩
        rw [hnu]
        have b68 := b7.trans b8
        have hD8 : H8 D = H6 D := b68 D hDp hDs
        refine k6 _ _ _ ?_ ((t7.trans t8).new hq) (prt (p := (v, (nu : Int))) upd_same) (istr_turn (q := (v, nu)) (by show nu < _; omega) hds (hp8.new hq) ((b6.trans b68).new hq))
        rw [updI hq (by rw [hD8]; exact hDs), hD8]
      · intro D ys ds H6 hD hy dys ⟨⟨zs, ez, lz, hz⟩, hp6, b6⟩
        subst ez
        simp only [decide_true, decide_false, List.map_cons, List.map_nil, Option.map_none, Option.map_some, Option.getD_none, Option.getD_some, Px.dg2, Px.dg1, Px.dg, Px.din, Px.dnotin, Px.dnew, Px.dput, Px.isD_is, Px.dget_i, Px.dget_s, Px.dput_i, Px.dput_s, Px.dOf_d, Px.rtup, Px.rlist, Px.rsl, Px.rsort, Px.rcat, Px.rapp, Px.rrev, Px.sl_ap, Px.nop, Px.part, Px.yes, Px.tyl, Px.isL_l, Px.isT_t, Px.isL_t, Px.isT_l, Px.isD_d, Px.isT_d, Px.inV_ints, Px.flat_ints, Px.flatV_i, Px.wipe_cons, Px.wipe_nil, Px.gtup, Px.gcons, Px.gnil, gt_iff_lt, ge_iff_le, Px.we, Px.wonly, Px.was, Px.cxK, not_true_eq_false, and_self, true_implies, false_implies, implies_true, Px.e0, and_assoc, imp_false, not_false_eq_true, ne_eq, Px.rgcd, Px.rixl, Px.rixt, Px.v0, Px.v1, Px.v2, Px.v3, Px.v4, Px.v5, Px.v6, Px.v7, Px.v8, Px.v9, Px.v10, Px.v11, Px.v12, Px.v13, Px.v14, Px.v15, Px.v16, Px.v17, Px.v18, Px.v19, Px.v20, Px.v21, Px.v22, Px.v23, Px.c0, Px.asg, Px.gnm, Px.ret, Px.retN, Px.drop, Px.nxt, Px.brk, Px.cnt, Px.ifs, Px.op, Px.un, Px.tst, Px.tbl, Px.tand, Px.tor, Px.tnot, Px.andv, Px.orv, Px.notv, Px.tif, Px.tup, Px.lst, Px.nil, Px.cons, Px.cal, Px.calS, Px.cb, Px.par, Px.gsub, Px.bits, Px.bm, Px.bm0, Px.ri, Px.ri0, Px.ru, Px.req, Px.rne, Px.rix, Px.rlen, Px.rin, Px.rsetl, Px.risi, Px.tyH_n, Px.tyH_b, Px.tyH_i, Px.tyH_s, Px.tyH_r, Px.seqH_t, Px.seqH_l, Px.seqH_fl, Px.sc_ii, Px.sc_bb, Px.sc_ss, Px.atI0, Px.atI1, Px.atI2, Px.atI3, Px.atI4, Px.atI5, Px.atI6, Px.atI7, Px.kb_NoneType_int, Px.kb_NoneType_bool, Px.kb_NoneType_str, Px.kb_NoneType_list, Px.kb_NoneType_tuple, Px.kb_NoneType_dict, Px.kb_bool_int, Px.kb_bool_bool, Px.kb_bool_str, Px.kb_bool_list, Px.kb_bool_tuple, Px.kb_bool_dict, Px.kb_int_int, Px.kb_int_bool, Px.kb_int_str, Px.kb_int_list, Px.kb_int_tuple, Px.kb_int_dict, Px.kb_str_int, Px.kb_str_bool, Px.kb_str_str, Px.kb_str_list, Px.kb_str_tuple, Px.kb_str_dict, Px.kb_list_int, Px.kb_list_bool, Px.kb_list_str, Px.kb_list_list, Px.kb_list_tuple, Px.kb_list_dict, Px.kb_tuple_int, Px.kb_tuple_bool, Px.kb_tuple_str, Px.kb_tuple_list, Px.kb_tuple_tuple, Px.kb_tuple_dict, Px.kb_dict_int, Px.kb_dict_bool, Px.kb_dict_str, Px.kb_dict_list, Px.kb_dict_tuple, Px.kb_dict_dict, L2.upd_same, Px.updI, L2.ixN, List.set_cons_zero, List.set_cons_succ, List.length_cons, List.length_nil, Nat.reduceAdd, Nat.zero_add, L2.HO.lst.injEq, L2.HO.tup.injEq, L2.upd_upd, L2.V.int.injEq, L2.V.ref.injEq, L2.V.bl.injEq, L2.V.str.injEq, L2.V.ty.injEq, List.cons.injEq, and_true, true_and, and_false, false_and, or_false, false_or, exists_eq_left', exists_eq_left, exists_and_left, exists_const, exists_false, Option.some.injEq, decide_eq_true_eq, List.append_nil, List.cons_append, List.nil_append, Option.isSome_some, Bool.not_true, Bool.not_false, Bool.not_eq_true', Bool.not_eq_true, Bool.false_eq_true, decide_eq_false_iff_not, if_true, if_false, ite_true, ite_false, Int.reduceLE, Int.reduceLT, Int.reduceToNat, Int.cast_ofNat_Int, Bool.true_eq_false, eq_self, ↓reduceIte, reduceCtorEq, Px.aug, Px.ipi, Px.tri, Px.rcatth, Px.flh, Px.sfl, Px.met, Px.mak, *]
        intro l hl
        refine ⟨by decide, fun q hq => ⟨by decide, fun r hr => ?_⟩⟩
        have y1 : Px.Ext H6 (upd H6 l (.tup ys)) := (Px.Ext.rfl' H6).new hl
        have g1 : (upd H6 l (.tup ys)) l = some (.tup ys) := upd_same
        generalize upd H6 l (.tup ys) = G1 at *
        have y2 : Px.Ext G1 (upd G1 q (.tup [.int (first : Int), .ref l])) := (Px.Ext.rfl' G1).new hq
        have g2 : (upd G1 q (.tup [.int (first : Int), .ref l])) q = some (.tup [.int (first : Int), .ref l]) := upd_same
        generalize upd G1 q (.tup [.int (first : Int), .ref l]) = G2 at *
        have y3 : Px.Ext G2 (upd G2 r (.tup [.str "resolve", line, .ref q])) := (Px.Ext.rfl' G2).new hr
        have g3 : (upd G2 r (.tup [.str "resolve", line, .ref q])) r = some (.tup [.str "resolve", line, .ref q]) := upd_same
        have y := (y1.trans y2).trans y3
        have b46 := b5.trans b6
        have dl9 := ((dl4.mono t5).mono (b6.tu hp5.nt)).mono y.tu
        refine k _ (.res ls first zs) _ (.tup g3 (.cons (.str _) (.cons dl9 (.cons (.tup (y3.get g2) (.cons (.int _) (.cons (.tup ((y2.trans y3).get g1) (dys.mono y.tu)) .nil))) .nil)))) ⟨ll, by omega, by omega, hz⟩ (hp6.ext y) ((b04.trans b46).trans (But.of y))
  rintro σ' H' ⟨rfl, rfl⟩
  refine go_seq ?_
  simp only [decide_true, decide_false, List.map_cons, List.map_nil, Option.map_none, Option.map_some, Option.getD_none, Option.getD_some, Px.dg2, Px.dg1, Px.dg, Px.din, Px.dnotin, Px.dnew, Px.dput, Px.isD_is, Px.dget_i, Px.dget_s, Px.dput_i, Px.dput_s, Px.dOf_d, Px.rtup, Px.rlist, Px.rsl, Px.rsort, Px.rcat, Px.rapp, Px.rrev, Px.sl_ap, Px.nop, Px.part, Px.yes, Px.tyl, Px.isL_l, Px.isT_t, Px.isL_t, Px.isT_l, Px.isD_d, Px.isT_d, Px.inV_ints, Px.flat_ints, Px.flatV_i, Px.wipe_cons, Px.wipe_nil, Px.gtup, Px.gcons, Px.gnil, gt_iff_lt, ge_iff_le, Px.we, Px.wonly, Px.was, Px.cxK, not_true_eq_false, and_self, true_implies, false_implies, implies_true, Px.e0, and_assoc, imp_false, not_false_eq_true, ne_eq, Px.rgcd, Px.rixl, Px.rixt, Px.v0, Px.v1, Px.v2, Px.v3, Px.v4, Px.v5, Px.v6, Px.v7, Px.v8, Px.v9, Px.v10, Px.v11, Px.v12, Px.v13, Px.v14, Px.v15, Px.v16, Px.v17, Px.v18, Px.v19, Px.v20, Px.v21, Px.v22, Px.v23, Px.c0, Px.asg, Px.gnm, Px.ret, Px.retN, Px.drop, Px.nxt, Px.brk, Px.cnt, Px.ifs, Px.op, Px.un, Px.tst, Px.tbl, Px.tand, Px.tor, Px.tnot, Px.andv, Px.orv, Px.notv, Px.tif, Px.tup, Px.lst, Px.nil, Px.cons, Px.cal, Px.calS, Px.cb, Px.par, Px.gsub, Px.bits, Px.bm, Px.bm0, Px.ri, Px.ri0, Px.ru, Px.req, Px.rne, Px.rix, Px.rlen, Px.rin, Px.rsetl, Px.risi, Px.tyH_n, Px.tyH_b, Px.tyH_i, Px.tyH_s, Px.tyH_r, Px.seqH_t, Px.seqH_l, Px.seqH_fl, Px.sc_ii, Px.sc_bb, Px.sc_ss, Px.atI0, Px.atI1, Px.atI2, Px.atI3, Px.atI4, Px.atI5, Px.atI6, Px.atI7, Px.kb_NoneType_int, Px.kb_NoneType_bool, Px.kb_NoneType_str, Px.kb_NoneType_list, Px.kb_NoneType_tuple, Px.kb_NoneType_dict, Px.kb_bool_int, Px.kb_bool_bool, Px.kb_bool_str, Px.kb_bool_list, Px.kb_bool_tuple, Px.kb_bool_dict, Px.kb_int_int, Px.kb_int_bool, Px.kb_int_str, Px.kb_int_list, Px.kb_int_tuple, Px.kb_int_dict, Px.kb_str_int, Px.kb_str_bool, Px.kb_str_str, Px.kb_str_list, Px.kb_str_tuple, Px.kb_str_dict, Px.kb_list_int, Px.kb_list_bool, Px.kb_list_str, Px.kb_list_list, Px.kb_list_tuple, Px.kb_list_dict, Px.kb_tuple_int, Px.kb_tuple_bool, Px.kb_tuple_str, Px.kb_tuple_list, Px.kb_tuple_tuple, Px.kb_tuple_dict, Px.kb_dict_int, Px.kb_dict_bool, Px.kb_dict_str, Px.kb_dict_list, Px.kb_dict_tuple, Px.kb_dict_dict, L2.upd_same, Px.updI, L2.ixN, List.set_cons_zero, List.set_cons_succ, List.length_cons, List.length_nil, Nat.reduceAdd, Nat.zero_add, L2.HO.lst.injEq, L2.HO.tup.injEq, L2.upd_upd, L2.V.int.injEq, L2.V.ref.injEq, L2.V.bl.injEq, L2.V.str.injEq, L2.V.ty.injEq, List.cons.injEq, and_true, true_and, and_false, false_and, or_false, false_or, exists_eq_left', exists_eq_left, exists_and_left, exists_const, exists_false, Option.some.injEq, decide_eq_true_eq, List.append_nil, List.cons_append, List.nil_append, Option.isSome_some, Bool.not_true, Bool.not_false, Bool.not_eq_true', Bool.not_eq_true, Bool.false_eq_true, decide_eq_false_iff_not, if_true, if_false, ite_true, ite_false, Int.reduceLE, Int.reduceLT, Int.reduceToNat, Int.cast_ofNat_Int, Bool.true_eq_false, eq_self, ↓reduceIte, reduceCtorEq, Px.aug, Px.ipi, Px.tri, Px.rcatth, Px.flh, Px.sfl, Px.met, Px.mak, *, spTake]
  intro one H3 o0 o1 hp3 b3 t3
  refine go_seq ?_
  simp only [decide_true, decide_false, List.map_cons, List.map_nil, Option.map_none, Option.map_some, Option.getD_none, Option.getD_some, Px.dg2, Px.dg1, Px.dg, Px.din, Px.dnotin, Px.dnew, Px.dput, Px.isD_is, Px.dget_i, Px.dget_s, Px.dput_i, Px.dput_s, Px.dOf_d, Px.rtup, Px.rlist, Px.rsl, Px.rsort, Px.rcat, Px.rapp, Px.rrev, Px.sl_ap, Px.nop, Px.part, Px.yes, Px.tyl, Px.isL_l, Px.isT_t, Px.isL_t, Px.isT_l, Px.isD_d, Px.isT_d, Px.inV_ints, Px.flat_ints, Px.flatV_i, Px.wipe_cons, Px.wipe_nil, Px.gtup, Px.gcons, Px.gnil, gt_iff_lt, ge_iff_le, Px.we, Px.wonly, Px.was, Px.cxK, not_true_eq_false, and_self, true_implies, false_implies, implies_true, Px.e0, and_assoc, imp_false, not_false_eq_true, ne_eq, Px.rgcd, Px.rixl, Px.rixt, Px.v0, Px.v1, Px.v2, Px.v3, Px.v4, Px.v5, Px.v6, Px.v7, Px.v8, Px.v9, Px.v10, Px.v11, Px.v12, Px.v13, Px.v14, Px.v15, Px.v16, Px.v17, Px.v18, Px.v19, Px.v20, Px.v21, Px.v22, Px.v23, Px.c0, Px.asg, Px.gnm, Px.ret, Px.retN, Px.drop, Px.nxt, Px.brk, Px.cnt, Px.ifs, Px.op, Px.un, Px.tst, Px.tbl, Px.tand, Px.tor, Px.tnot, Px.andv, Px.orv, Px.notv, Px.tif, Px.tup, Px.lst, Px.nil, Px.cons, Px.cal, Px.calS, Px.cb, Px.par, Px.gsub, Px.bits, Px.bm, Px.bm0, Px.ri, Px.ri0, Px.ru, Px.req, Px.rne, Px.rix, Px.rlen, Px.rin, Px.rsetl, Px.risi, Px.tyH_n, Px.tyH_b, Px.tyH_i, Px.tyH_s, Px.tyH_r, Px.seqH_t, Px.seqH_l, Px.seqH_fl, Px.sc_ii, Px.sc_bb, Px.sc_ss, Px.atI0, Px.atI1, Px.atI2, Px.atI3, Px.atI4, Px.atI5, Px.atI6, Px.atI7, Px.kb_NoneType_int, Px.kb_NoneType_bool, Px.kb_NoneType_str, Px.kb_NoneType_list, Px.kb_NoneType_tuple, Px.kb_NoneType_dict, Px.kb_bool_int, Px.kb_bool_bool, Px.kb_bool_str, Px.kb_bool_list, Px.kb_bool_tuple, Px.kb_bool_dict, Px.kb_int_int, Px.kb_int_bool, Px.kb_int_str, Px.kb_int_list, Px.kb_int_tuple, Px.kb_int_dict, Px.kb_str_int, Px.kb_str_bool, Px.kb_str_str, Px.kb_str_list, Px.kb_str_tuple, Px.kb_str_dict, Px.kb_list_int, Px.kb_list_bool, Px.kb_list_str, Px.kb_list_list, Px.kb_list_tuple, Px.kb_list_dict, Px.kb_tuple_int, Px.kb_tuple_bool, Px.kb_tuple_str, Px.kb_tuple_list, Px.kb_tuple_tuple, Px.kb_tuple_dict, Px.kb_dict_int, Px.kb_dict_bool, Px.kb_dict_str, Px.kb_dict_list, Px.kb_dict_tuple, Px.kb_dict_dict, L2.upd_same, Px.updI, L2.ixN, List.set_cons_zero, List.set_cons_succ, List.length_cons, List.length_nil, Nat.reduceAdd, Nat.zero_add, L2.HO.lst.injEq, L2.HO.tup.injEq, L2.upd_upd, L2.V.int.injEq, L2.V.ref.injEq, L2.V.bl.injEq, L2.V.str.injEq, L2.V.ty.injEq, List.cons.injEq, and_true, true_and, and_false, false_and, or_false, false_or, exists_eq_left', exists_eq_left, exists_and_left, exists_const, exists_false, Option.some.injEq, decide_eq_true_eq, List.append_nil, List.cons_append, List.nil_append, Option.isSome_some, Bool.not_true, Bool.not_false, Bool.not_eq_true', Bool.not_eq_true, Bool.false_eq_true, decide_eq_false_iff_not, if_true, if_false, ite_true, ite_false, Int.reduceLE, Int.reduceLT, Int.reduceToNat, Int.cast_ofNat_Int, Bool.true_eq_false, eq_self, ↓reduceIte, reduceCtorEq, Px.aug, Px.ipi, Px.tri, Px.rcatth, Px.flh, Px.sfl, Px.met, Px.mak, *, spTake]
  intro two H4 w0 w1 hp4 b4 t4
  have b04 := (b02.trans b3).trans b4
  have dl4 := dl.mono (t3.trans t4)
  refine go_seq ?_
  simp only [decide_true, decide_false, List.map_cons, List.map_nil, Option.map_none, Option.map_some, Option.getD_none, Option.getD_some, Px.dg2, Px.dg1, Px.dg, Px.din, Px.dnotin, Px.dnew, Px.dput, Px.isD_is, Px.dget_i, Px.dget_s, Px.dput_i, Px.dput_s, Px.dOf_d, Px.rtup, Px.rlist, Px.rsl, Px.rsort, Px.rcat, Px.rapp, Px.rrev, Px.sl_ap, Px.nop, Px.part, Px.yes, Px.tyl, Px.isL_l, Px.isT_t, Px.isL_t, Px.isT_l, Px.isD_d, Px.isT_d, Px.inV_ints, Px.flat_ints, Px.flatV_i, Px.wipe_cons, Px.wipe_nil, Px.gtup, Px.gcons, Px.gnil, gt_iff_lt, ge_iff_le, Px.we, Px.wonly, Px.was, Px.cxK, not_true_eq_false, and_self, true_implies, false_implies, implies_true, Px.e0, and_assoc, imp_false, not_false_eq_true, ne_eq, Px.rgcd, Px.rixl, Px.rixt, Px.v0, Px.v1, Px.v2, Px.v3, Px.v4, Px.v5, Px.v6, Px.v7, Px.v8, Px.v9, Px.v10, Px.v11, Px.v12, Px.v13, Px.v14, Px.v15, Px.v16, Px.v17, Px.v18, Px.v19, Px.v20, Px.v21, Px.v22, Px.v23, Px.c0, Px.asg, Px.gnm, Px.ret, Px.retN, Px.drop, Px.nxt, Px.brk, Px.cnt, Px.ifs, Px.op, Px.un, Px.tst, Px.tbl, Px.tand, Px.tor, Px.tnot, Px.andv, Px.orv, Px.notv, Px.tif, Px.tup, Px.lst, Px.nil, Px.cons, Px.cal, Px.calS, Px.cb, Px.par, Px.gsub, Px.bits, Px.bm, Px.bm0, Px.ri, Px.ri0, Px.ru, Px.req, Px.rne, Px.rix, Px.rlen, Px.rin, Px.rsetl, Px.risi, Px.tyH_n, Px.tyH_b, Px.tyH_i, Px.tyH_s, Px.tyH_r, Px.seqH_t, Px.seqH_l, Px.seqH_fl, Px.sc_ii, Px.sc_bb, Px.sc_ss, Px.atI0, Px.atI1, Px.atI2, Px.atI3, Px.atI4, Px.atI5, Px.atI6, Px.atI7, Px.kb_NoneType_int, Px.kb_NoneType_bool, Px.kb_NoneType_str, Px.kb_NoneType_list, Px.kb_NoneType_tuple, Px.kb_NoneType_dict, Px.kb_bool_int, Px.kb_bool_bool, Px.kb_bool_str, Px.kb_bool_list, Px.kb_bool_tuple, Px.kb_bool_dict, Px.kb_int_int, Px.kb_int_bool, Px.kb_int_str, Px.kb_int_list, Px.kb_int_tuple, Px.kb_int_dict, Px.kb_str_int, Px.kb_str_bool, Px.kb_str_str, Px.kb_str_list, Px.kb_str_tuple, Px.kb_str_dict, Px.kb_list_int, Px.kb_list_bool, Px.kb_list_str, Px.kb_list_list, Px.kb_list_tuple, Px.kb_list_dict, Px.kb_tuple_int, Px.kb_tuple_bool, Px.kb_tuple_str, Px.kb_tuple_list, Px.kb_tuple_tuple, Px.kb_tuple_dict, Px.kb_dict_int, Px.kb_dict_bool, Px.kb_dict_str, Px.kb_dict_list, Px.kb_dict_tuple, Px.kb_dict_dict, L2.upd_same, Px.updI, L2.ixN, List.set_cons_zero, List.set_cons_succ, List.length_cons, List.length_nil, Nat.reduceAdd, Nat.zero_add, L2.HO.lst.injEq, L2.HO.tup.injEq, L2.upd_upd, L2.V.int.injEq, L2.V.ref.injEq, L2.V.bl.injEq, L2.V.str.injEq, L2.V.ty.injEq, List.cons.injEq, and_true, true_and, and_false, false_and, or_false, false_or, exists_eq_left', exists_eq_left, exists_and_left, exists_const, exists_false, Option.some.injEq, decide_eq_true_eq, List.append_nil, List.cons_append, List.nil_append, Option.isSome_some, Bool.not_true, Bool.not_false, Bool.not_eq_true', Bool.not_eq_true, Bool.false_eq_true, decide_eq_false_iff_not, if_true, if_false, ite_true, ite_false, Int.reduceLE, Int.reduceLT, Int.reduceToNat, Int.cast_ofNat_Int, Bool.true_eq_false, eq_self, ↓reduceIte, reduceCtorEq, Px.aug, Px.ipi, Px.tri, Px.rcatth, Px.flh, Px.sfl, Px.met, Px.mak, *]
  refine ⟨by decide, fun q1 n1 => ?_⟩
  have e1 : Px.Ext H4 (upd H4 q1 (.tup [.str "given", line, .non])) := (Px.Ext.rfl' H4).new n1
  have g1 : (upd H4 q1 (.tup [.str "given", line, .non])) q1 = some (.tup [.str "given", line, .non]) := upd_same
  generalize upd H4 q1 (.tup [.str "given", line, .non]) = G1 at *
  refine ⟨by decide, fun q2 n2 => ?_⟩
  have e2 : Px.Ext G1 (upd G1 q2 (.tup [.str "part", line, .int (1 + one)])) := (Px.Ext.rfl' G1).new n2
  have g2 : (upd G1 q2 (.tup [.str "part", line, .int (1 + one)])) q2 = some (.tup [.str "part", line, .int (1 + one)]) := upd_same
  generalize upd G1 q2 (.tup [.str "part", line, .int (1 + one)]) = G2 at *
  refine ⟨by decide, fun q3 n3 => ?_⟩
  have e3 : Px.Ext G2 (upd G2 q3 (.tup [.str "same", line, .non])) := (Px.Ext.rfl' G2).new n3
  have g3 : (upd G2 q3 (.tup [.str "same", line, .non])) q3 = some (.tup [.str "same", line, .non]) := upd_same
  generalize upd G2 q3 (.tup [.str "same", line, .non]) = G3 at *
  refine ⟨by decide, fun q4 n4 => ?_⟩
  have e4 : Px.Ext G3 (upd G3 q4 (.tup [.int (1 + two), .int (1 + one)])) := (Px.Ext.rfl' G3).new n4
  have g4 : (upd G3 q4 (.tup [.int (1 + two), .int (1 + one)])) q4 = some (.tup [.int (1 + two), .int (1 + one)]) := upd_same
  generalize upd G3 q4 (.tup [.int (1 + two), .int (1 + one)]) = G4 at *
  refine ⟨by decide, fun q5 n5 => ?_⟩
  have e5 : Px.Ext G4 (upd G4 q5 (.tup [.int (1 + one), .ref q4])) := (Px.Ext.rfl' G4).new n5
  have g5 : (upd G4 q5 (.tup [.int (1 + one), .ref q4])) q5 = some (.tup [.int (1 + one), .ref q4]) := upd_same
  generalize upd G4 q5 (.tup [.int (1 + one), .ref q4]) = G5 at *
  refine ⟨by decide, fun q6 n6 => ?_⟩
  have e6 : Px.Ext G5 (upd G5 q6 (.tup [.str "chain", line, .ref q5])) := (Px.Ext.rfl' G5).new n6
  have g6 : (upd G5 q6 (.tup [.str "chain", line, .ref q5])) q6 = some (.tup [.str "chain", line, .ref q5]) := upd_same
  generalize upd G5 q6 (.tup [.str "chain", line, .ref q5]) = G6 at *
  refine ⟨by decide, fun q7 n7 => ?_⟩
  have e7 : Px.Ext G6 (upd G6 q7 (.lst [.ref q1, .ref q2, .ref q3, .ref q6])) := (Px.Ext.rfl' G6).new n7
  have g7 : (upd G6 q7 (.lst [.ref q1, .ref q2, .ref q3, .ref q6])) q7 = some (.lst [.ref q1, .ref q2, .ref q3, .ref q6]) := upd_same
  generalize upd G6 q7 (.lst [.ref q1, .ref q2, .ref q3, .ref q6]) = G7 at *
  refine go_seq ?_
  have z7 := g7
  simp only [decide_true, decide_false, List.map_cons, List.map_nil, Option.map_none, Option.map_some, Option.getD_none, Option.getD_some, Px.dg2, Px.dg1, Px.dg, Px.din, Px.dnotin, Px.dnew, Px.dput, Px.isD_is, Px.dget_i, Px.dget_s, Px.dput_i, Px.dput_s, Px.dOf_d, Px.rtup, Px.rlist, Px.rsl, Px.rsort, Px.rcat, Px.rapp, Px.rrev, Px.sl_ap, Px.nop, Px.part, Px.yes, Px.tyl, Px.isL_l, Px.isT_t, Px.isL_t, Px.isT_l, Px.isD_d, Px.isT_d, Px.inV_ints, Px.flat_ints, Px.flatV_i, Px.wipe_cons, Px.wipe_nil, Px.gtup, Px.gcons, Px.gnil, gt_iff_lt, ge_iff_le, Px.we, Px.wonly, Px.was, Px.cxK, not_true_eq_false, and_self, true_implies, false_implies, implies_true, Px.e0, and_assoc, imp_false, not_false_eq_true, ne_eq, Px.rgcd, Px.rixl, Px.rixt, Px.v0, Px.v1, Px.v2, Px.v3, Px.v4, Px.v5, Px.v6, Px.v7, Px.v8, Px.v9, Px.v10, Px.v11, Px.v12, Px.v13, Px.v14, Px.v15, Px.v16, Px.v17, Px.v18, Px.v19, Px.v20, Px.v21, Px.v22, Px.v23, Px.c0, Px.asg, Px.gnm, Px.ret, Px.retN, Px.drop, Px.nxt, Px.brk, Px.cnt, Px.ifs, Px.op, Px.un, Px.tst, Px.tbl, Px.tand, Px.tor, Px.tnot, Px.andv, Px.orv, Px.notv, Px.tif, Px.tup, Px.lst, Px.nil, Px.cons, Px.cal, Px.calS, Px.cb, Px.par, Px.gsub, Px.bits, Px.bm, Px.bm0, Px.ri, Px.ri0, Px.ru, Px.req, Px.rne, Px.rix, Px.rlen, Px.rin, Px.rsetl, Px.risi, Px.tyH_n, Px.tyH_b, Px.tyH_i, Px.tyH_s, Px.tyH_r, Px.seqH_t, Px.seqH_l, Px.seqH_fl, Px.sc_ii, Px.sc_bb, Px.sc_ss, Px.atI0, Px.atI1, Px.atI2, Px.atI3, Px.atI4, Px.atI5, Px.atI6, Px.atI7, Px.kb_NoneType_int, Px.kb_NoneType_bool, Px.kb_NoneType_str, Px.kb_NoneType_list, Px.kb_NoneType_tuple, Px.kb_NoneType_dict, Px.kb_bool_int, Px.kb_bool_bool, Px.kb_bool_str, Px.kb_bool_list, Px.kb_bool_tuple, Px.kb_bool_dict, Px.kb_int_int, Px.kb_int_bool, Px.kb_int_str, Px.kb_int_list, Px.kb_int_tuple, Px.kb_int_dict, Px.kb_str_int, Px.kb_str_bool, Px.kb_str_str, Px.kb_str_list, Px.kb_str_tuple, Px.kb_str_dict, Px.kb_list_int, Px.kb_list_bool, Px.kb_list_str, Px.kb_list_list, Px.kb_list_tuple, Px.kb_list_dict, Px.kb_tuple_int, Px.kb_tuple_bool, Px.kb_tuple_str, Px.kb_tuple_list, Px.kb_tuple_tuple, Px.kb_tuple_dict, Px.kb_dict_int, Px.kb_dict_bool, Px.kb_dict_str, Px.kb_dict_list, Px.kb_dict_tuple, Px.kb_dict_dict, L2.upd_same, Px.updI, L2.ixN, List.set_cons_zero, List.set_cons_succ, List.length_cons, List.length_nil, Nat.reduceAdd, Nat.zero_add, L2.HO.lst.injEq, L2.HO.tup.injEq, L2.upd_upd, L2.V.int.injEq, L2.V.ref.injEq, L2.V.bl.injEq, L2.V.str.injEq, L2.V.ty.injEq, List.cons.injEq, and_true, true_and, and_false, false_and, or_false, false_or, exists_eq_left', exists_eq_left, exists_and_left, exists_const, exists_false, Option.some.injEq, decide_eq_true_eq, List.append_nil, List.cons_append, List.nil_append, Option.isSome_some, Bool.not_true, Bool.not_false, Bool.not_eq_true', Bool.not_eq_true, Bool.false_eq_true, decide_eq_false_iff_not, if_true, if_false, ite_true, ite_false, Int.reduceLE, Int.reduceLT, Int.reduceToNat, Int.cast_ofNat_Int, Bool.true_eq_false, eq_self, ↓reduceIte, reduceCtorEq, Px.aug, Px.ipi, Px.tri, Px.rcatth, Px.flh, Px.sfl, Px.met, Px.mak, *]
  refine ⟨by decide, fun q8 n8 => ?_⟩
  have e8 : Px.Ext G7 (upd G7 q8 (.tup [.int (1 + one), .int (1 + two)])) := (Px.Ext.rfl' G7).new n8
  have g8 : (upd G7 q8 (.tup [.int (1 + one), .int (1 + two)])) q8 = some (.tup [.int (1 + one), .int (1 + two)]) := upd_same
  generalize upd G7 q8 (.tup [.int (1 + one), .int (1 + two)]) = G8 at *
  refine ⟨by decide, fun q9 n9 => ?_⟩
  have e9 : Px.Ext G8 (upd G8 q9 (.tup [.str "like", line, .ref q8])) := (Px.Ext.rfl' G8).new n9
  have g9 : (upd G8 q9 (.tup [.str "like", line, .ref q8])) q9 = some (.tup [.str "like", line, .ref q8]) := upd_same
  generalize upd G8 q9 (.tup [.str "like", line, .ref q8]) = G9 at *
  refine ⟨by decide, fun q10 n10 => ?_⟩
  have e10 : Px.Ext G9 (upd G9 q10 (.tup [.int (1 + one), .int 1])) := (Px.Ext.rfl' G9).new n10
  have g10 : (upd G9 q10 (.tup [.int (1 + one), .int 1])) q10 = some (.tup [.int (1 + one), .int 1]) := upd_same
  generalize upd G9 q10 (.tup [.int (1 + one), .int 1]) = G10 at *
  refine ⟨by decide, fun q11 n11 => ?_⟩
  have e11 : Px.Ext G10 (upd G10 q11 (.tup [.int 1, .int (1 + two)])) := (Px.Ext.rfl' G10).new n11
  have g11 : (upd G10 q11 (.tup [.int 1, .int (1 + two)])) q11 = some (.tup [.int 1, .int (1 + two)]) := upd_same
  generalize upd G10 q11 (.tup [.int 1, .int (1 + two)]) = G11 at *
  refine ⟨by decide, fun q12 n12 => ?_⟩
  have e12 : Px.Ext G11 (upd G11 q12 (.tup [.ref q10, .ref q11])) := (Px.Ext.rfl' G11).new n12
  have g12 : (upd G11 q12 (.tup [.ref q10, .ref q11])) q12 = some (.tup [.ref q10, .ref q11]) := upd_same
  generalize upd G11 q12 (.tup [.ref q10, .ref q11]) = G12 at *
  refine ⟨by decide, fun q13 n13 => ?_⟩
  have e13 : Px.Ext G12 (upd G12 q13 (.tup [.str "sum", line, .ref q12])) := (Px.Ext.rfl' G12).new n13
  have g13 : (upd G12 q13 (.tup [.str "sum", line, .ref q12])) q13 = some (.tup [.str "sum", line, .ref q12]) := upd_same
  generalize upd G12 q13 (.tup [.str "sum", line, .ref q12]) = G13 at *
  refine ⟨by decide, fun q14 n14 => ?_⟩
  have e14 : Px.Ext G13 (upd G13 q14 (.lst [.ref q9, .ref q13])) := (Px.Ext.rfl' G13).new n14
  have g14 : (upd G13 q14 (.lst [.ref q9, .ref q13])) q14 = some (.lst [.ref q9, .ref q13]) := upd_same
  generalize upd G13 q14 (.lst [.ref q9, .ref q13]) = G14 at *
  have x14 : Px.Ext G14 G14 := Px.Ext.rfl' G14
  have x13 : Px.Ext G13 G14 := e14.trans x14
  have x12 : Px.Ext G12 G14 := e13.trans x13
  have x11 : Px.Ext G11 G14 := e12.trans x12
  have x10 : Px.Ext G10 G14 := e11.trans x11
  have x9 : Px.Ext G9 G14 := e10.trans x10
  have x8 : Px.Ext G8 G14 := e9.trans x9
  have x7 : Px.Ext G7 G14 := e8.trans x8
  have x6 : Px.Ext G6 G14 := e7.trans x7
  have x5 : Px.Ext G5 G14 := e6.trans x6
  have x4 : Px.Ext G4 G14 := e5.trans x5
  have x3 : Px.Ext G3 G14 := e4.trans x4
  have x2 : Px.Ext G2 G14 := e3.trans x3
  have x1 : Px.Ext G1 G14 := e2.trans x2
  have x0 : Px.Ext H4 G14 := e1.trans x1
  have m1 := x1.get g1
  have m2 := x2.get g2
  have m3 := x3.get g3
  have m4 := x4.get g4
  have m5 := x5.get g5
  have m6 := x6.get g6
  have m7 := x7.get g7
  have m8 := x8.get g8
  have m9 := x9.get g9
  have m10 := x10.get g10
  have m11 := x11.get g11
  have m12 := x12.get g12
  have m13 := x13.get g13
  refine ⟨_, m7, by show 6 ≤ sizeLine; decide, fun q15 n15 => ?_⟩
  have hp14 := hp4.ext x0
  have nqp : q15 ≠ p := hp14.ne0 n15
  have ti (i : Int) : Dt G14 (.int i) (.int i) := .int i
  refine ⟨p, 6, rfl, hp14.new n15, by decide, fun v H15 v0 v1 hp16 b16 t16 => ⟨v, rfl, _, by rw [b16.get nqp upd_same]; rfl, ?_⟩⟩
  have tu : Tu G14 H15 := ((Tu.rfl' G14).new n15).trans t16
  have dl15 := (dl4.mono x0.tu).mono tu
  have fin : ∀ (q : Addr) (kk : Str) (e : V) (d : PyData), G14 q = some (.tup [.str kk, line, e]) → Dt G14 e d → kk ≠ "resolve" → SeqAt.shaped (.str kk) = true → Dep 3 d → Q (.ref q) H15 := fun q kk e d h1 h2 h3 h4 h5 =>
    k _ (.oth kk ls d) H15 (.tup (tu.get h1) (.cons (.str _) (.cons dl15 (.cons (h2.mono tu) .nil)))) ⟨ll, h3, h4, h5⟩ hp16 (b04.trans (((But.of x0).new n15).trans b16))
  have dp2 : ∀ i j : Int, ∀ n, Dep (n + 1) (.tuple [.int i, .int j]) := fun i j n => ⟨by show 2 ≤ 100; decide, fun d hd => by
    rcases List.mem_cons.mp hd with e | hd
    · rw [e]; cases n <;> trivial
    · rw [List.mem_singleton.mp hd]; cases n <;> trivial⟩
  have d4 : Dt G14 (.ref q4) (.tuple [.int (1 + two), .int (1 + one)]) := .tup m4 (.cons (.int _) (.cons (.int _) .nil))
  have d10 : Dt G14 (.ref q10) (.tuple [.int (1 + one), .int 1]) := .tup m10 (.cons (.int _) (.cons (.int _) .nil))
  have d11 : Dt G14 (.ref q11) (.tuple [.int 1, .int (1 + two)]) := .tup m11 (.cons (.int _) (.cons (.int _) .nil))
  obtain h | h | h | h | h | h : v = 0 ∨ v = 1 ∨ v = 2 ∨ v = 3 ∨ v = 4 ∨ v = 5 := by omega
  · subst h
    exact ⟨_, atI_nat (j := 0) rfl, fin q1 "given" .non .none m1 .non (by decide +kernel) (by decide +kernel) trivial⟩
  · subst h
    exact ⟨_, atI_nat (j := 1) rfl, fin q2 "part" _ (.int (1 + one)) m2 (.int _) (by decide +kernel) (by decide +kernel) trivial⟩
  · subst h
    exact ⟨_, atI_nat (j := 2) rfl, fin q3 "same" .non .none m3 .non (by decide +kernel) (by decide +kernel) trivial⟩
  · subst h
    refine ⟨_, atI_nat (j := 3) rfl, fin q6 "chain" _ (.tuple [.int (1 + one), .tuple [.int (1 + two), .int (1 + one)]]) m6 (.tup m5 (.cons (.int _) (.cons d4 .nil))) (by decide +kernel) (by decide +kernel) ⟨by show 2 ≤ 100; decide, fun d hd => ?_⟩⟩
    rcases List.mem_cons.mp hd with e | hd
    · rw [e]; trivial
    · rw [List.mem_singleton.mp hd]; exact dp2 _ _ 1
  · subst h
    exact ⟨_, atI_nat (j := 4) rfl, fin q9 "like" _ (.tuple [.int (1 + one), .int (1 + two)]) m9 (.tup m8 (.cons (.int _) (.cons (.int _) .nil))) (by decide +kernel) (by decide +kernel) (dp2 _ _ 2)⟩
  · subst h
    refine ⟨_, atI_nat (j := 5) rfl, fin q13 "sum" _ (.tuple [.tuple [.int (1 + one), .int 1], .tuple [.int 1, .int (1 + two)]]) m13 (.tup m12 (.cons d10 (.cons d11 .nil))) (by decide +kernel) (by decide +kernel) ⟨by show 2 ≤ 100; decide, fun d hd => ?_⟩⟩
    rcases List.mem_cons.mp hd with e | hd
    · rw [e]; exact dp2 _ _ 1
    · rw [List.mem_singleton.mp hd]; exact dp2 _ _ 1
end
end K03

namespace K03
open PySem PySem.Spec PyProof.Rows L2 Px
section
variable {X : Cx} {K : PySem.W.Frag} {o e : Expr} {es : List Expr} {to : TE} {t : TA} {name : Str} {apos cpos : Pos} {T id : String} {r : V → List V → Hp → VK → Prop}
theorem mt_indexK (hK : X.K = K) : MtR X "list.index" (rIndex K) := by
  subst hK
  exact mt_index
/-- a method of a built-in type within a comprehension: the fragment is named, not read off the context -/
theorem pe_bmK (hK : X.K = K) (pa : PlainAttrs T) (sl : Slot T name id) (hty : typeOf (.builtin id) = pure (.type "method_descriptor")) (hm : MtR X id r) (ho : PE X o to) (ha : PA X (e :: es) t)
    (h1 : attributeBase o name X.env (eval o X.env) = eval o X.env := by rfl)
    (h2 : ((backTo cpos (starEach (e :: es) X.env)).all (fun x => !x.1) && (backToKw cpos (keywordEach [] X.env)).all (fun x => x.1.isSome) && decide ((e :: es).length + ([] : List Keyword).length + (if ([] : List Keyword).isEmpty then 0 else 1) < 30)) = true := by rfl)
    (h3 : (apos.endLine == cpos.line) = true := by rfl) (h4 : starEach (e :: es) X.env = (false, eval e X.env) :: starEach es X.env := by rfl) (h5 : (backTo cpos (starEach es X.env)).any (·.1) = false := by rfl) :
    PE X (.Call (.Attribute o name apos) (e :: es) [] cpos) (tBM K T r to t) := by
  subst hK
  exact pe_bm pa sl hty hm ho ha h1 h2 h3 h4 h5
end
theorem kd_ren (f : Nat → Nat) (x : St) : kd (ren f x) = kd x := by cases x <;> rfl
theorem ln_ren (f : Nat → Nat) (x : St) : ln (ren f x) = ln x := by cases x <;> rfl
theorem refs_len {n : Nat} {x : St} (h : Ok n x) : (refs x).length ≤ 5 := by
  cases x with
  | res l f ss =>
    have := h.2.2.1
    show (ss.map (·.2)).length + 1 ≤ 5
    rw [List.length_map]
    omega
  | oth k l d => exact Nat.zero_le _
theorem wants_len {xs : List St} (w : Wf xs) : ∀ t, t ≤ xs.length → (wants xs t).length ≤ 1 + 5 * t
  | 0, _ => Nat.le_refl _
  | t + 1, h => by
    have ih := wants_len w t (by omega)
    have := refs_len (w.2 _ _ (at_get (xs := xs) (i := xs.length - 1 - t) (by omega)))
    unfold wants
    split
    · rw [List.length_append, List.length_map]
      omega
    · omega
theorem kept_idx {xs : List St} {r : Nat} (h : r < xs.length) (q : W xs r = true) : (kept xs)[rank xs r]? = some r ∧ ∀ m k, m < rank xs r → (kept xs)[m]? = some k → k ≠ r := ⟨kept_at h q, fun m k hm hk e => by
  obtain ⟨_, _, c⟩ := kept_inv hk
  rw [e] at c
  omega⟩
def iks (xs : List St) : List V := (kept xs).map fun k => V.int ((k : Nat) : Int)
theorem flat_iks (xs : List St) : (iks xs).all flatV = true := by
  unfold iks
  rw [List.all_map]
  exact List.all_eq_true.mpr fun _ _ => rfl
theorem eqV_iks {xs : List St} {r j : Nat} (h : ∀ m k, m < j → (kept xs)[m]? = some k → k ≠ r) : ∀ (m : Nat) (z' : V), m < j → (iks xs)[m]? = some z' → eqV z' (.int (r : Int)) = false := fun m z' hm hz => by
  unfold iks at hz
  rw [List.getElem?_map] at hz
  cases e : (kept xs)[m]? with
  | none => rw [e] at hz; cases hz
  | some k =>
    rw [e] at hz
    cases hz
    have := h m k hm e
    show (((k : Nat) : Int) == (r : Int)) = false
    exact beq_eq_false_iff_ne.mpr (by omega)
section
variable {P : Program} {w : World} {K : PySem.W.Frag} {mg : Str → Option Value} {base : Heap} {C : Addr}
theorem idx_ok {Q : VK} {H : Hp} {D : Addr} {xs : List St} {r : Nat} (hD : H D = some (.lst (iks xs))) (h : r < xs.length) (q : W xs r = true) (k : Q (.int ((rank xs r : Nat) : Int)) H) : rIndex K (.ref D) [.int (r : Int)] H Q := by
  obtain ⟨h1, h2⟩ := kept_idx h q
  exact ⟨D, iks xs, .int _, rank xs r, .int (r : Int), rfl, rfl, .inl (.inl hD), rfl, flat_iks xs, by unfold iks; rw [List.getElem?_map, h1]; rfl, beq_self_eq_true _, eqV_iks h2, k⟩
def spMovedL (vs : List V) (H : Hp) (Q : VK) (_ : XK) : Prop := ∃ (v : V) (n i : Nat) (x : St), vs = [v, .int (n : Int)] ∧ Dt H v (enc x) ∧ Ok i x ∧ ∀ v' H', Dt H' v' (enc (shift n x)) → Px.Ext H H' → Q v' H'
theorem ok_movedL (B : Bn mg) (F : FunAt K mg "_law_moved" s_law_moved) : Def P w K mg base CX0 1 "_law_moved" ["step", "start"] spMovedL := by
  refine F.ok sc_law_moved (fun _ _ _ _ _ _ us hl => match us, hl with | [_, _], _ => rfl) (fun vs H Q E h => by obtain ⟨_, _, _, _, rfl, _⟩ := h; rfl) (fun f cdv A outer s H vs Q E hr h => ?_)
  obtain ⟨v, n, i0, x, rfl, hv, ok, k⟩ := h
  have hv0 := hv
  obtain ⟨a, c, e, rfl, h1, h2, h3⟩ := enc_inv hv
  refine ⟨_, pss_cons (ps_if (pt_cmpR op_ne (pe_ix ix_H (pv 0) pe_int (fun _ _ => rfl)) pe_str (nomark _)) (pss_one (ps_ret (pv 0))) (pss_nil)) (
  pss_one (ps_ret (pe_tup (pa_cons (pe_ix ix_H (pv 0) pe_int (fun _ _ => rfl)) (pa_cons (pe_ix ix_H (pv 0) pe_int (fun _ _ => rfl)) (pa_cons (pe_tup (pa_cons (pe_op op_add (pe_ix ix_H (pe_ix ix_H (pv 0) pe_int (fun _ _ => rfl)) pe_int (fun _ _ => rfl)) (pv 1)) (pa_cons (pe_callTy tup_H rfl B.tuple_ (by decide +kernel) (pa_cons (pe_lc (own := [("pair", 2)]) (g := gName 2) rfl sc_law_moved.nd (pi_seq (pe_ix ix_H (pe_ix ix_H (pv 0) pe_int (fun _ _ => rfl)) pe_int (fun _ _ => rfl))) (blkOk_by (own := [("pair", 2)]) (N := ["step", "start", "pair"]) (sc := defScope s_law_moved) (by decide +kernel)) (fun _ _ _ _ _ => (pg_name (i := 2) sc_law_moved.nd rfl (Or.inl rfl))) (fun _ _ _ _ _ => pts_nil) (fun _ _ _ _ _ => (pe_tup (pa_cons (pe_ix ix_H (pv 2) pe_int (fun _ _ => rfl)) (pa_cons (pe_op op_add (pe_ix ix_H (pv 2) pe_int (fun _ _ => rfl)) (pv 1)) pa_nil))))) pa_nil)) pa_nil))) pa_nil)))))), ?_⟩
  show tSeq _ _ _ [some (.ref a), some (.int (n : Int)), none] H
  refine go_seq ?_
  cases x with
  | oth kk l dd =>
    have nk : ¬ kd (.oth kk l dd) = "resolve" := ok.2.1
    simp only [decide_true, decide_false, List.map_cons, List.map_nil, Option.map_none, Option.map_some, Option.getD_none, Option.getD_some, Px.dg2, Px.dg1, Px.dg, Px.din, Px.dnotin, Px.dnew, Px.dput, Px.isD_is, Px.dget_i, Px.dget_s, Px.dput_i, Px.dput_s, Px.dOf_d, Px.rtup, Px.rlist, Px.rsl, Px.rsort, Px.rcat, Px.rapp, Px.rrev, Px.sl_ap, Px.nop, Px.part, Px.yes, Px.tyl, Px.isL_l, Px.isT_t, Px.isL_t, Px.isT_l, Px.isD_d, Px.isT_d, Px.inV_ints, Px.flat_ints, Px.flatV_i, Px.wipe_cons, Px.wipe_nil, Px.gtup, Px.gcons, Px.gnil, gt_iff_lt, ge_iff_le, Px.we, Px.wonly, Px.was, Px.cxK, not_true_eq_false, and_self, true_implies, false_implies, implies_true, Px.e0, and_assoc, imp_false, not_false_eq_true, ne_eq, Px.rgcd, Px.rixl, Px.rixt, Px.v0, Px.v1, Px.v2, Px.v3, Px.v4, Px.v5, Px.v6, Px.v7, Px.v8, Px.v9, Px.v10, Px.v11, Px.v12, Px.v13, Px.v14, Px.v15, Px.v16, Px.v17, Px.v18, Px.v19, Px.v20, Px.v21, Px.v22, Px.v23, Px.c0, Px.asg, Px.gnm, Px.ret, Px.retN, Px.drop, Px.nxt, Px.brk, Px.cnt, Px.ifs, Px.op, Px.un, Px.tst, Px.tbl, Px.tand, Px.tor, Px.tnot, Px.andv, Px.orv, Px.notv, Px.tif, Px.tup, Px.lst, Px.nil, Px.cons, Px.cal, Px.calS, Px.cb, Px.par, Px.gsub, Px.bits, Px.bm, Px.bm0, Px.ri, Px.ri0, Px.ru, Px.req, Px.rne, Px.rix, Px.rlen, Px.rin, Px.rsetl, Px.risi, Px.tyH_n, Px.tyH_b, Px.tyH_i, Px.tyH_s, Px.tyH_r, Px.seqH_t, Px.seqH_l, Px.seqH_fl, Px.sc_ii, Px.sc_bb, Px.sc_ss, Px.atI0, Px.atI1, Px.atI2, Px.atI3, Px.atI4, Px.atI5, Px.atI6, Px.atI7, Px.kb_NoneType_int, Px.kb_NoneType_bool, Px.kb_NoneType_str, Px.kb_NoneType_list, Px.kb_NoneType_tuple, Px.kb_NoneType_dict, Px.kb_bool_int, Px.kb_bool_bool, Px.kb_bool_str, Px.kb_bool_list, Px.kb_bool_tuple, Px.kb_bool_dict, Px.kb_int_int, Px.kb_int_bool, Px.kb_int_str, Px.kb_int_list, Px.kb_int_tuple, Px.kb_int_dict, Px.kb_str_int, Px.kb_str_bool, Px.kb_str_str, Px.kb_str_list, Px.kb_str_tuple, Px.kb_str_dict, Px.kb_list_int, Px.kb_list_bool, Px.kb_list_str, Px.kb_list_list, Px.kb_list_tuple, Px.kb_list_dict, Px.kb_tuple_int, Px.kb_tuple_bool, Px.kb_tuple_str, Px.kb_tuple_list, Px.kb_tuple_tuple, Px.kb_tuple_dict, Px.kb_dict_int, Px.kb_dict_bool, Px.kb_dict_str, Px.kb_dict_list, Px.kb_dict_tuple, Px.kb_dict_dict, L2.upd_same, Px.updI, L2.ixN, List.set_cons_zero, List.set_cons_succ, List.length_cons, List.length_nil, Nat.reduceAdd, Nat.zero_add, L2.HO.lst.injEq, L2.HO.tup.injEq, L2.upd_upd, L2.V.int.injEq, L2.V.ref.injEq, L2.V.bl.injEq, L2.V.str.injEq, L2.V.ty.injEq, List.cons.injEq, and_true, true_and, and_false, false_and, or_false, false_or, exists_eq_left', exists_eq_left, exists_and_left, exists_const, exists_false, Option.some.injEq, decide_eq_true_eq, List.append_nil, List.cons_append, List.nil_append, Option.isSome_some, Bool.not_true, Bool.not_false, Bool.not_eq_true', Bool.not_eq_true, Bool.false_eq_true, decide_eq_false_iff_not, if_true, if_false, ite_true, ite_false, Int.reduceLE, Int.reduceLT, Int.reduceToNat, Int.cast_ofNat_Int, Bool.true_eq_false, eq_self, ↓reduceIte, reduceCtorEq, Px.aug, Px.ipi, Px.tri, Px.rcatth, Px.flh, Px.sfl, Px.met, Px.mak, *, Px.seq]
    exact k _ _ hv0 (Px.Ext.rfl' H)
  | res l_ f0 ss =>
    have nk : kd (.res l_ f0 ss) = "resolve" := rfl
    obtain ⟨b, y, ws, rfl, g1, g2, g3⟩ := dt_inv h3
    have lw : ws.length = ss.length := by rw [g3.len, List.length_map]; unfold zi; rw [List.length_map]
    simp only [decide_true, decide_false, List.map_cons, List.map_nil, Option.map_none, Option.map_some, Option.getD_none, Option.getD_some, Px.dg2, Px.dg1, Px.dg, Px.din, Px.dnotin, Px.dnew, Px.dput, Px.isD_is, Px.dget_i, Px.dget_s, Px.dput_i, Px.dput_s, Px.dOf_d, Px.rtup, Px.rlist, Px.rsl, Px.rsort, Px.rcat, Px.rapp, Px.rrev, Px.sl_ap, Px.nop, Px.part, Px.yes, Px.tyl, Px.isL_l, Px.isT_t, Px.isL_t, Px.isT_l, Px.isD_d, Px.isT_d, Px.inV_ints, Px.flat_ints, Px.flatV_i, Px.wipe_cons, Px.wipe_nil, Px.gtup, Px.gcons, Px.gnil, gt_iff_lt, ge_iff_le, Px.we, Px.wonly, Px.was, Px.cxK, not_true_eq_false, and_self, true_implies, false_implies, implies_true, Px.e0, and_assoc, imp_false, not_false_eq_true, ne_eq, Px.rgcd, Px.rixl, Px.rixt, Px.v0, Px.v1, Px.v2, Px.v3, Px.v4, Px.v5, Px.v6, Px.v7, Px.v8, Px.v9, Px.v10, Px.v11, Px.v12, Px.v13, Px.v14, Px.v15, Px.v16, Px.v17, Px.v18, Px.v19, Px.v20, Px.v21, Px.v22, Px.v23, Px.c0, Px.asg, Px.gnm, Px.ret, Px.retN, Px.drop, Px.nxt, Px.brk, Px.cnt, Px.ifs, Px.op, Px.un, Px.tst, Px.tbl, Px.tand, Px.tor, Px.tnot, Px.andv, Px.orv, Px.notv, Px.tif, Px.tup, Px.lst, Px.nil, Px.cons, Px.cal, Px.calS, Px.cb, Px.par, Px.gsub, Px.bits, Px.bm, Px.bm0, Px.ri, Px.ri0, Px.ru, Px.req, Px.rne, Px.rix, Px.rlen, Px.rin, Px.rsetl, Px.risi, Px.tyH_n, Px.tyH_b, Px.tyH_i, Px.tyH_s, Px.tyH_r, Px.seqH_t, Px.seqH_l, Px.seqH_fl, Px.sc_ii, Px.sc_bb, Px.sc_ss, Px.atI0, Px.atI1, Px.atI2, Px.atI3, Px.atI4, Px.atI5, Px.atI6, Px.atI7, Px.kb_NoneType_int, Px.kb_NoneType_bool, Px.kb_NoneType_str, Px.kb_NoneType_list, Px.kb_NoneType_tuple, Px.kb_NoneType_dict, Px.kb_bool_int, Px.kb_bool_bool, Px.kb_bool_str, Px.kb_bool_list, Px.kb_bool_tuple, Px.kb_bool_dict, Px.kb_int_int, Px.kb_int_bool, Px.kb_int_str, Px.kb_int_list, Px.kb_int_tuple, Px.kb_int_dict, Px.kb_str_int, Px.kb_str_bool, Px.kb_str_str, Px.kb_str_list, Px.kb_str_tuple, Px.kb_str_dict, Px.kb_list_int, Px.kb_list_bool, Px.kb_list_str, Px.kb_list_list, Px.kb_list_tuple, Px.kb_list_dict, Px.kb_tuple_int, Px.kb_tuple_bool, Px.kb_tuple_str, Px.kb_tuple_list, Px.kb_tuple_tuple, Px.kb_tuple_dict, Px.kb_dict_int, Px.kb_dict_bool, Px.kb_dict_str, Px.kb_dict_list, Px.kb_dict_tuple, Px.kb_dict_dict, L2.upd_same, Px.updI, L2.ixN, List.set_cons_zero, List.set_cons_succ, List.length_cons, List.length_nil, Nat.reduceAdd, Nat.zero_add, L2.HO.lst.injEq, L2.HO.tup.injEq, L2.upd_upd, L2.V.int.injEq, L2.V.ref.injEq, L2.V.bl.injEq, L2.V.str.injEq, L2.V.ty.injEq, List.cons.injEq, and_true, true_and, and_false, false_and, or_false, false_or, exists_eq_left', exists_eq_left, exists_and_left, exists_const, exists_false, Option.some.injEq, decide_eq_true_eq, List.append_nil, List.cons_append, List.nil_append, Option.isSome_some, Bool.not_true, Bool.not_false, Bool.not_eq_true', Bool.not_eq_true, Bool.false_eq_true, decide_eq_false_iff_not, if_true, if_false, ite_true, ite_false, Int.reduceLE, Int.reduceLT, Int.reduceToNat, Int.cast_ofNat_Int, Bool.true_eq_false, eq_self, ↓reduceIte, reduceCtorEq, Px.aug, Px.ipi, Px.tri, Px.rcatth, Px.flh, Px.sfl, Px.met, Px.mak, *, Px.seq]
    refine lc_seq (xs := ws) (fun _ => true) (fun i => prd ((ss.getD i (0, 0)).1, (((ss.getD i (0, 0)).2 : Nat) : Int) + (n : Int))) (fun Q q => by simp only [decide_true, decide_false, List.map_cons, List.map_nil, Option.map_none, Option.map_some, Option.getD_none, Option.getD_some, Px.dg2, Px.dg1, Px.dg, Px.din, Px.dnotin, Px.dnew, Px.dput, Px.isD_is, Px.dget_i, Px.dget_s, Px.dput_i, Px.dput_s, Px.dOf_d, Px.rtup, Px.rlist, Px.rsl, Px.rsort, Px.rcat, Px.rapp, Px.rrev, Px.sl_ap, Px.nop, Px.part, Px.yes, Px.tyl, Px.isL_l, Px.isT_t, Px.isL_t, Px.isT_l, Px.isD_d, Px.isT_d, Px.inV_ints, Px.flat_ints, Px.flatV_i, Px.wipe_cons, Px.wipe_nil, Px.gtup, Px.gcons, Px.gnil, gt_iff_lt, ge_iff_le, Px.we, Px.wonly, Px.was, Px.cxK, not_true_eq_false, and_self, true_implies, false_implies, implies_true, Px.e0, and_assoc, imp_false, not_false_eq_true, ne_eq, Px.rgcd, Px.rixl, Px.rixt, Px.v0, Px.v1, Px.v2, Px.v3, Px.v4, Px.v5, Px.v6, Px.v7, Px.v8, Px.v9, Px.v10, Px.v11, Px.v12, Px.v13, Px.v14, Px.v15, Px.v16, Px.v17, Px.v18, Px.v19, Px.v20, Px.v21, Px.v22, Px.v23, Px.c0, Px.asg, Px.gnm, Px.ret, Px.retN, Px.drop, Px.nxt, Px.brk, Px.cnt, Px.ifs, Px.op, Px.un, Px.tst, Px.tbl, Px.tand, Px.tor, Px.tnot, Px.andv, Px.orv, Px.notv, Px.tif, Px.tup, Px.lst, Px.nil, Px.cons, Px.cal, Px.calS, Px.cb, Px.par, Px.gsub, Px.bits, Px.bm, Px.bm0, Px.ri, Px.ri0, Px.ru, Px.req, Px.rne, Px.rix, Px.rlen, Px.rin, Px.rsetl, Px.risi, Px.tyH_n, Px.tyH_b, Px.tyH_i, Px.tyH_s, Px.tyH_r, Px.seqH_t, Px.seqH_l, Px.seqH_fl, Px.sc_ii, Px.sc_bb, Px.sc_ss, Px.atI0, Px.atI1, Px.atI2, Px.atI3, Px.atI4, Px.atI5, Px.atI6, Px.atI7, Px.kb_NoneType_int, Px.kb_NoneType_bool, Px.kb_NoneType_str, Px.kb_NoneType_list, Px.kb_NoneType_tuple, Px.kb_NoneType_dict, Px.kb_bool_int, Px.kb_bool_bool, Px.kb_bool_str, Px.kb_bool_list, Px.kb_bool_tuple, Px.kb_bool_dict, Px.kb_int_int, Px.kb_int_bool, Px.kb_int_str, Px.kb_int_list, Px.kb_int_tuple, Px.kb_int_dict, Px.kb_str_int, Px.kb_str_bool, Px.kb_str_str, Px.kb_str_list, Px.kb_str_tuple, Px.kb_str_dict, Px.kb_list_int, Px.kb_list_bool, Px.kb_list_str, Px.kb_list_list, Px.kb_list_tuple, Px.kb_list_dict, Px.kb_tuple_int, Px.kb_tuple_bool, Px.kb_tuple_str, Px.kb_tuple_list, Px.kb_tuple_tuple, Px.kb_tuple_dict, Px.kb_dict_int, Px.kb_dict_bool, Px.kb_dict_str, Px.kb_dict_list, Px.kb_dict_tuple, Px.kb_dict_dict, L2.upd_same, Px.updI, L2.ixN, List.set_cons_zero, List.set_cons_succ, List.length_cons, List.length_nil, Nat.reduceAdd, Nat.zero_add, L2.HO.lst.injEq, L2.HO.tup.injEq, L2.upd_upd, L2.V.int.injEq, L2.V.ref.injEq, L2.V.bl.injEq, L2.V.str.injEq, L2.V.ty.injEq, List.cons.injEq, and_true, true_and, and_false, false_and, or_false, false_or, exists_eq_left', exists_eq_left, exists_and_left, exists_const, exists_false, Option.some.injEq, decide_eq_true_eq, List.append_nil, List.cons_append, List.nil_append, Option.isSome_some, Bool.not_true, Bool.not_false, Bool.not_eq_true', Bool.not_eq_true, Bool.false_eq_true, decide_eq_false_iff_not, if_true, if_false, ite_true, ite_false, Int.reduceLE, Int.reduceLT, Int.reduceToNat, Int.cast_ofNat_Int, Bool.true_eq_false, eq_self, ↓reduceIte, reduceCtorEq, Px.aug, Px.ipi, Px.tri, Px.rcatth, Px.flh, Px.sfl, Px.met, Px.mak, *]; exact q) (by rw [g2]; rfl) (by have := ok.2.2.1; omega) (fun i x hi => ?_) (fun D ys H2 hD e2 hy hall => ?_)
    · have li : i < ss.length := by rw [← lw]; exact (List.getElem?_eq_some_iff.mp hi).1
      obtain ⟨p, hp⟩ : ∃ p, ss[i]? = some p := ⟨_, List.getElem?_eq_getElem li⟩
      have ep : ss.getD i (0, 0) = p := by rw [List.getD_eq_getElem?_getD, hp]; rfl
      intro H2 R' E' e2 _ k2
      simp only [ep] at k2
      obtain ⟨v, hv, dv⟩ := (g3.mono e2.tu).get' (show ((zi ss).map prd)[i]? = some (prd (p.1, (p.2 : Int))) by rw [zi, List.getElem?_map, List.getElem?_map, hp]; rfl)
      rw [hi] at hv
      cases hv
      obtain ⟨b, rfl, hb⟩ := pr_inv dv
      simp only [decide_true, decide_false, List.map_cons, List.map_nil, Option.map_none, Option.map_some, Option.getD_none, Option.getD_some, Px.dg2, Px.dg1, Px.dg, Px.din, Px.dnotin, Px.dnew, Px.dput, Px.isD_is, Px.dget_i, Px.dget_s, Px.dput_i, Px.dput_s, Px.dOf_d, Px.rtup, Px.rlist, Px.rsl, Px.rsort, Px.rcat, Px.rapp, Px.rrev, Px.sl_ap, Px.nop, Px.part, Px.yes, Px.tyl, Px.isL_l, Px.isT_t, Px.isL_t, Px.isT_l, Px.isD_d, Px.isT_d, Px.inV_ints, Px.flat_ints, Px.flatV_i, Px.wipe_cons, Px.wipe_nil, Px.gtup, Px.gcons, Px.gnil, gt_iff_lt, ge_iff_le, Px.we, Px.wonly, Px.was, Px.cxK, not_true_eq_false, and_self, true_implies, false_implies, implies_true, Px.e0, and_assoc, imp_false, not_false_eq_true, ne_eq, Px.rgcd, Px.rixl, Px.rixt, Px.v0, Px.v1, Px.v2, Px.v3, Px.v4, Px.v5, Px.v6, Px.v7, Px.v8, Px.v9, Px.v10, Px.v11, Px.v12, Px.v13, Px.v14, Px.v15, Px.v16, Px.v17, Px.v18, Px.v19, Px.v20, Px.v21, Px.v22, Px.v23, Px.c0, Px.asg, Px.gnm, Px.ret, Px.retN, Px.drop, Px.nxt, Px.brk, Px.cnt, Px.ifs, Px.op, Px.un, Px.tst, Px.tbl, Px.tand, Px.tor, Px.tnot, Px.andv, Px.orv, Px.notv, Px.tif, Px.tup, Px.lst, Px.nil, Px.cons, Px.cal, Px.calS, Px.cb, Px.par, Px.gsub, Px.bits, Px.bm, Px.bm0, Px.ri, Px.ri0, Px.ru, Px.req, Px.rne, Px.rix, Px.rlen, Px.rin, Px.rsetl, Px.risi, Px.tyH_n, Px.tyH_b, Px.tyH_i, Px.tyH_s, Px.tyH_r, Px.seqH_t, Px.seqH_l, Px.seqH_fl, Px.sc_ii, Px.sc_bb, Px.sc_ss, Px.atI0, Px.atI1, Px.atI2, Px.atI3, Px.atI4, Px.atI5, Px.atI6, Px.atI7, Px.kb_NoneType_int, Px.kb_NoneType_bool, Px.kb_NoneType_str, Px.kb_NoneType_list, Px.kb_NoneType_tuple, Px.kb_NoneType_dict, Px.kb_bool_int, Px.kb_bool_bool, Px.kb_bool_str, Px.kb_bool_list, Px.kb_bool_tuple, Px.kb_bool_dict, Px.kb_int_int, Px.kb_int_bool, Px.kb_int_str, Px.kb_int_list, Px.kb_int_tuple, Px.kb_int_dict, Px.kb_str_int, Px.kb_str_bool, Px.kb_str_str, Px.kb_str_list, Px.kb_str_tuple, Px.kb_str_dict, Px.kb_list_int, Px.kb_list_bool, Px.kb_list_str, Px.kb_list_list, Px.kb_list_tuple, Px.kb_list_dict, Px.kb_tuple_int, Px.kb_tuple_bool, Px.kb_tuple_str, Px.kb_tuple_list, Px.kb_tuple_tuple, Px.kb_tuple_dict, Px.kb_dict_int, Px.kb_dict_bool, Px.kb_dict_str, Px.kb_dict_list, Px.kb_dict_tuple, Px.kb_dict_dict, L2.upd_same, Px.updI, L2.ixN, List.set_cons_zero, List.set_cons_succ, List.length_cons, List.length_nil, Nat.reduceAdd, Nat.zero_add, L2.HO.lst.injEq, L2.HO.tup.injEq, L2.upd_upd, L2.V.int.injEq, L2.V.ref.injEq, L2.V.bl.injEq, L2.V.str.injEq, L2.V.ty.injEq, List.cons.injEq, and_true, true_and, and_false, false_and, or_false, false_or, exists_eq_left', exists_eq_left, exists_and_left, exists_const, exists_false, Option.some.injEq, decide_eq_true_eq, List.append_nil, List.cons_append, List.nil_append, Option.isSome_some, Bool.not_true, Bool.not_false, Bool.not_eq_true', Bool.not_eq_true, Bool.false_eq_true, decide_eq_false_iff_not, if_true, if_false, ite_true, ite_false, Int.reduceLE, Int.reduceLT, Int.reduceToNat, Int.cast_ofNat_Int, Bool.true_eq_false, eq_self, ↓reduceIte, reduceCtorEq, Px.aug, Px.ipi, Px.tri, Px.rcatth, Px.flh, Px.sfl, Px.met, Px.mak, *]
      exact ⟨by decide, fun q hq => k2 trivial _ _ ((Px.Ext.rfl' H2).new hq) (prt (p := (p.1, (p.2 : Int) + (n : Int))) upd_same)⟩
    · rw [lw, given_eq ss (0, 0) (fun _ => true) (fun p => prd (p.1, ((p.2 : Nat) : Int) + (n : Int))), List.filter_eq_self.mpr (fun _ _ => rfl)] at hall
      simp only [decide_true, decide_false, List.map_cons, List.map_nil, Option.map_none, Option.map_some, Option.getD_none, Option.getD_some, Px.dg2, Px.dg1, Px.dg, Px.din, Px.dnotin, Px.dnew, Px.dput, Px.isD_is, Px.dget_i, Px.dget_s, Px.dput_i, Px.dput_s, Px.dOf_d, Px.rtup, Px.rlist, Px.rsl, Px.rsort, Px.rcat, Px.rapp, Px.rrev, Px.sl_ap, Px.nop, Px.part, Px.yes, Px.tyl, Px.isL_l, Px.isT_t, Px.isL_t, Px.isT_l, Px.isD_d, Px.isT_d, Px.inV_ints, Px.flat_ints, Px.flatV_i, Px.wipe_cons, Px.wipe_nil, Px.gtup, Px.gcons, Px.gnil, gt_iff_lt, ge_iff_le, Px.we, Px.wonly, Px.was, Px.cxK, not_true_eq_false, and_self, true_implies, false_implies, implies_true, Px.e0, and_assoc, imp_false, not_false_eq_true, ne_eq, Px.rgcd, Px.rixl, Px.rixt, Px.v0, Px.v1, Px.v2, Px.v3, Px.v4, Px.v5, Px.v6, Px.v7, Px.v8, Px.v9, Px.v10, Px.v11, Px.v12, Px.v13, Px.v14, Px.v15, Px.v16, Px.v17, Px.v18, Px.v19, Px.v20, Px.v21, Px.v22, Px.v23, Px.c0, Px.asg, Px.gnm, Px.ret, Px.retN, Px.drop, Px.nxt, Px.brk, Px.cnt, Px.ifs, Px.op, Px.un, Px.tst, Px.tbl, Px.tand, Px.tor, Px.tnot, Px.andv, Px.orv, Px.notv, Px.tif, Px.tup, Px.lst, Px.nil, Px.cons, Px.cal, Px.calS, Px.cb, Px.par, Px.gsub, Px.bits, Px.bm, Px.bm0, Px.ri, Px.ri0, Px.ru, Px.req, Px.rne, Px.rix, Px.rlen, Px.rin, Px.rsetl, Px.risi, Px.tyH_n, Px.tyH_b, Px.tyH_i, Px.tyH_s, Px.tyH_r, Px.seqH_t, Px.seqH_l, Px.seqH_fl, Px.sc_ii, Px.sc_bb, Px.sc_ss, Px.atI0, Px.atI1, Px.atI2, Px.atI3, Px.atI4, Px.atI5, Px.atI6, Px.atI7, Px.kb_NoneType_int, Px.kb_NoneType_bool, Px.kb_NoneType_str, Px.kb_NoneType_list, Px.kb_NoneType_tuple, Px.kb_NoneType_dict, Px.kb_bool_int, Px.kb_bool_bool, Px.kb_bool_str, Px.kb_bool_list, Px.kb_bool_tuple, Px.kb_bool_dict, Px.kb_int_int, Px.kb_int_bool, Px.kb_int_str, Px.kb_int_list, Px.kb_int_tuple, Px.kb_int_dict, Px.kb_str_int, Px.kb_str_bool, Px.kb_str_str, Px.kb_str_list, Px.kb_str_tuple, Px.kb_str_dict, Px.kb_list_int, Px.kb_list_bool, Px.kb_list_str, Px.kb_list_list, Px.kb_list_tuple, Px.kb_list_dict, Px.kb_tuple_int, Px.kb_tuple_bool, Px.kb_tuple_str, Px.kb_tuple_list, Px.kb_tuple_tuple, Px.kb_tuple_dict, Px.kb_dict_int, Px.kb_dict_bool, Px.kb_dict_str, Px.kb_dict_list, Px.kb_dict_tuple, Px.kb_dict_dict, L2.upd_same, Px.updI, L2.ixN, List.set_cons_zero, List.set_cons_succ, List.length_cons, List.length_nil, Nat.reduceAdd, Nat.zero_add, L2.HO.lst.injEq, L2.HO.tup.injEq, L2.upd_upd, L2.V.int.injEq, L2.V.ref.injEq, L2.V.bl.injEq, L2.V.str.injEq, L2.V.ty.injEq, List.cons.injEq, and_true, true_and, and_false, false_and, or_false, false_or, exists_eq_left', exists_eq_left, exists_and_left, exists_const, exists_false, Option.some.injEq, decide_eq_true_eq, List.append_nil, List.cons_append, List.nil_append, Option.isSome_some, Bool.not_true, Bool.not_false, Bool.not_eq_true', Bool.not_eq_true, Bool.false_eq_true, decide_eq_false_iff_not, if_true, if_false, ite_true, ite_false, Int.reduceLE, Int.reduceLT, Int.reduceToNat, Int.cast_ofNat_Int, Bool.true_eq_false, eq_self, ↓reduceIte, reduceCtorEq, Px.aug, Px.ipi, Px.tri, Px.rcatth, Px.flh, Px.sfl, Px.met, Px.mak, *]
      intro l hl
      refine ⟨by decide, fun q hq => ⟨by decide, fun r hr => ?_⟩⟩
      have y1 : Px.Ext H2 (upd H2 l (.tup ys)) := (Px.Ext.rfl' H2).new hl
      have m1 : (upd H2 l (.tup ys)) l = some (.tup ys) := upd_same
      generalize upd H2 l (.tup ys) = G1 at *
      have y2 : Px.Ext G1 (upd G1 q (.tup [.int ((f0 : Int) + (n : Int)), .ref l])) := (Px.Ext.rfl' G1).new hq
      have m2 : (upd G1 q (.tup [.int ((f0 : Int) + (n : Int)), .ref l])) q = some (.tup [.int ((f0 : Int) + (n : Int)), .ref l]) := upd_same
      generalize upd G1 q (.tup [.int ((f0 : Int) + (n : Int)), .ref l]) = G2 at *
      have y3 : Px.Ext G2 (upd G2 r (.tup [.str "resolve", .ref c, .ref q])) := (Px.Ext.rfl' G2).new hr
      have m3 : (upd G2 r (.tup [.str "resolve", .ref c, .ref q])) r = some (.tup [.str "resolve", .ref c, .ref q]) := upd_same
      have y := (y1.trans y2).trans y3
      refine k _ _ (enc_mk (x := shift n (.res l_ f0 ss)) (c := c) (e := .ref q) m3 ((e2.trans y).get h2) ?_) (e2.trans y)
      rw [det_shift]
      refine .tup (y3.get m2) (.cons (.int _) (.cons (.tup ((y2.trans y3).get m1) ?_) .nil))
      have e4 : ss.map (fun p => prd (p.1, ((p.2 : Nat) : Int) + (n : Int))) = (mov (n : Int) (zi ss)).map prd := by
        unfold zi mov
        rw [List.map_map, List.map_map]
        rfl
      rw [e4] at hall
      exact hall.mono y.tu
def spAlL (vs : List V) (H : Hp) (Q : VK) (_ : XK) : Prop := ∃ (a b : Addr) (xs : List St), vs = [.ref a, .ref b] ∧ Steps H a xs ∧ Steps H b xs ∧ Wf xs ∧ ∀ H', Px.Ext H H' → Q (.bl true) H'
theorem ok_alL (B : Bn mg) (F : FunAt K mg "_law_alike_lists" s_law_alike_lists) (D_law_alike : Def P w K mg base CX0 7 "_law_alike" ["told", "due"] (spAl 5)) : Def P w K mg base CX0 8 "_law_alike_lists" ["told", "due"] spAlL := by
  refine F.ok sc_law_alike_lists (fun _ _ _ _ _ _ us hl => match us, hl with | [_, _], _ => rfl) (fun vs H Q E h => by obtain ⟨_, _, _, rfl, _⟩ := h; rfl) (fun f cdv A outer s H vs Q E hr h => ?_)
  obtain ⟨a, b, xs, rfl, ⟨ws, ha, hws⟩, ⟨us, hb, hus⟩, wf, k⟩ := h
  refine ⟨_, pss_one (ps_ret (pe_and (pe_callB isi_H rfl B.isinstance (by decide +kernel) (pa_cons (pv 0) (pa_cons (pe_bltn (v := .ty "list") rfl B.list_ (by decide +kernel) rfl) pa_nil))) (pe_one (pe_fn D_law_alike hr pass0 (pa_cons (pe_callTy tup_H rfl B.tuple_ (by decide +kernel) (pa_cons (pv 0) pa_nil)) (pa_cons (pe_callTy tup_H rfl B.tuple_ (by decide +kernel) (pa_cons (pv 1) pa_nil)) pa_nil)))))), ?_⟩
  show tRet _ _ [some (.ref a), some (.ref b)] H
  simp only [decide_true, decide_false, List.map_cons, List.map_nil, Option.map_none, Option.map_some, Option.getD_none, Option.getD_some, Px.dg2, Px.dg1, Px.dg, Px.din, Px.dnotin, Px.dnew, Px.dput, Px.isD_is, Px.dget_i, Px.dget_s, Px.dput_i, Px.dput_s, Px.dOf_d, Px.rtup, Px.rlist, Px.rsl, Px.rsort, Px.rcat, Px.rapp, Px.rrev, Px.sl_ap, Px.nop, Px.part, Px.yes, Px.tyl, Px.isL_l, Px.isT_t, Px.isL_t, Px.isT_l, Px.isD_d, Px.isT_d, Px.inV_ints, Px.flat_ints, Px.flatV_i, Px.wipe_cons, Px.wipe_nil, Px.gtup, Px.gcons, Px.gnil, gt_iff_lt, ge_iff_le, Px.we, Px.wonly, Px.was, Px.cxK, not_true_eq_false, and_self, true_implies, false_implies, implies_true, Px.e0, and_assoc, imp_false, not_false_eq_true, ne_eq, Px.rgcd, Px.rixl, Px.rixt, Px.v0, Px.v1, Px.v2, Px.v3, Px.v4, Px.v5, Px.v6, Px.v7, Px.v8, Px.v9, Px.v10, Px.v11, Px.v12, Px.v13, Px.v14, Px.v15, Px.v16, Px.v17, Px.v18, Px.v19, Px.v20, Px.v21, Px.v22, Px.v23, Px.c0, Px.asg, Px.gnm, Px.ret, Px.retN, Px.drop, Px.nxt, Px.brk, Px.cnt, Px.ifs, Px.op, Px.un, Px.tst, Px.tbl, Px.tand, Px.tor, Px.tnot, Px.andv, Px.orv, Px.notv, Px.tif, Px.tup, Px.lst, Px.nil, Px.cons, Px.cal, Px.calS, Px.cb, Px.par, Px.gsub, Px.bits, Px.bm, Px.bm0, Px.ri, Px.ri0, Px.ru, Px.req, Px.rne, Px.rix, Px.rlen, Px.rin, Px.rsetl, Px.risi, Px.tyH_n, Px.tyH_b, Px.tyH_i, Px.tyH_s, Px.tyH_r, Px.seqH_t, Px.seqH_l, Px.seqH_fl, Px.sc_ii, Px.sc_bb, Px.sc_ss, Px.atI0, Px.atI1, Px.atI2, Px.atI3, Px.atI4, Px.atI5, Px.atI6, Px.atI7, Px.kb_NoneType_int, Px.kb_NoneType_bool, Px.kb_NoneType_str, Px.kb_NoneType_list, Px.kb_NoneType_tuple, Px.kb_NoneType_dict, Px.kb_bool_int, Px.kb_bool_bool, Px.kb_bool_str, Px.kb_bool_list, Px.kb_bool_tuple, Px.kb_bool_dict, Px.kb_int_int, Px.kb_int_bool, Px.kb_int_str, Px.kb_int_list, Px.kb_int_tuple, Px.kb_int_dict, Px.kb_str_int, Px.kb_str_bool, Px.kb_str_str, Px.kb_str_list, Px.kb_str_tuple, Px.kb_str_dict, Px.kb_list_int, Px.kb_list_bool, Px.kb_list_str, Px.kb_list_list, Px.kb_list_tuple, Px.kb_list_dict, Px.kb_tuple_int, Px.kb_tuple_bool, Px.kb_tuple_str, Px.kb_tuple_list, Px.kb_tuple_tuple, Px.kb_tuple_dict, Px.kb_dict_int, Px.kb_dict_bool, Px.kb_dict_str, Px.kb_dict_list, Px.kb_dict_tuple, Px.kb_dict_dict, L2.upd_same, Px.updI, L2.ixN, List.set_cons_zero, List.set_cons_succ, List.length_cons, List.length_nil, Nat.reduceAdd, Nat.zero_add, L2.HO.lst.injEq, L2.HO.tup.injEq, L2.upd_upd, L2.V.int.injEq, L2.V.ref.injEq, L2.V.bl.injEq, L2.V.str.injEq, L2.V.ty.injEq, List.cons.injEq, and_true, true_and, and_false, false_and, or_false, false_or, exists_eq_left', exists_eq_left, exists_and_left, exists_const, exists_false, Option.some.injEq, decide_eq_true_eq, List.append_nil, List.cons_append, List.nil_append, Option.isSome_some, Bool.not_true, Bool.not_false, Bool.not_eq_true', Bool.not_eq_true, Bool.false_eq_true, decide_eq_false_iff_not, if_true, if_false, ite_true, ite_false, Int.reduceLE, Int.reduceLT, Int.reduceToNat, Int.cast_ofNat_Int, Bool.true_eq_false, eq_self, ↓reduceIte, reduceCtorEq, Px.aug, Px.ipi, Px.tri, Px.rcatth, Px.flh, Px.sfl, Px.met, Px.mak, *, spAl]
  intro t ht
  have hb2 : (upd H t (.tup ws)) b = some (.lst us) := by rw [updI ht (by rw [hb]; rfl), hb]
  simp only [decide_true, decide_false, List.map_cons, List.map_nil, Option.map_none, Option.map_some, Option.getD_none, Option.getD_some, Px.dg2, Px.dg1, Px.dg, Px.din, Px.dnotin, Px.dnew, Px.dput, Px.isD_is, Px.dget_i, Px.dget_s, Px.dput_i, Px.dput_s, Px.dOf_d, Px.rtup, Px.rlist, Px.rsl, Px.rsort, Px.rcat, Px.rapp, Px.rrev, Px.sl_ap, Px.nop, Px.part, Px.yes, Px.tyl, Px.isL_l, Px.isT_t, Px.isL_t, Px.isT_l, Px.isD_d, Px.isT_d, Px.inV_ints, Px.flat_ints, Px.flatV_i, Px.wipe_cons, Px.wipe_nil, Px.gtup, Px.gcons, Px.gnil, gt_iff_lt, ge_iff_le, Px.we, Px.wonly, Px.was, Px.cxK, not_true_eq_false, and_self, true_implies, false_implies, implies_true, Px.e0, and_assoc, imp_false, not_false_eq_true, ne_eq, Px.rgcd, Px.rixl, Px.rixt, Px.v0, Px.v1, Px.v2, Px.v3, Px.v4, Px.v5, Px.v6, Px.v7, Px.v8, Px.v9, Px.v10, Px.v11, Px.v12, Px.v13, Px.v14, Px.v15, Px.v16, Px.v17, Px.v18, Px.v19, Px.v20, Px.v21, Px.v22, Px.v23, Px.c0, Px.asg, Px.gnm, Px.ret, Px.retN, Px.drop, Px.nxt, Px.brk, Px.cnt, Px.ifs, Px.op, Px.un, Px.tst, Px.tbl, Px.tand, Px.tor, Px.tnot, Px.andv, Px.orv, Px.notv, Px.tif, Px.tup, Px.lst, Px.nil, Px.cons, Px.cal, Px.calS, Px.cb, Px.par, Px.gsub, Px.bits, Px.bm, Px.bm0, Px.ri, Px.ri0, Px.ru, Px.req, Px.rne, Px.rix, Px.rlen, Px.rin, Px.rsetl, Px.risi, Px.tyH_n, Px.tyH_b, Px.tyH_i, Px.tyH_s, Px.tyH_r, Px.seqH_t, Px.seqH_l, Px.seqH_fl, Px.sc_ii, Px.sc_bb, Px.sc_ss, Px.atI0, Px.atI1, Px.atI2, Px.atI3, Px.atI4, Px.atI5, Px.atI6, Px.atI7, Px.kb_NoneType_int, Px.kb_NoneType_bool, Px.kb_NoneType_str, Px.kb_NoneType_list, Px.kb_NoneType_tuple, Px.kb_NoneType_dict, Px.kb_bool_int, Px.kb_bool_bool, Px.kb_bool_str, Px.kb_bool_list, Px.kb_bool_tuple, Px.kb_bool_dict, Px.kb_int_int, Px.kb_int_bool, Px.kb_int_str, Px.kb_int_list, Px.kb_int_tuple, Px.kb_int_dict, Px.kb_str_int, Px.kb_str_bool, Px.kb_str_str, Px.kb_str_list, Px.kb_str_tuple, Px.kb_str_dict, Px.kb_list_int, Px.kb_list_bool, Px.kb_list_str, Px.kb_list_list, Px.kb_list_tuple, Px.kb_list_dict, Px.kb_tuple_int, Px.kb_tuple_bool, Px.kb_tuple_str, Px.kb_tuple_list, Px.kb_tuple_tuple, Px.kb_tuple_dict, Px.kb_dict_int, Px.kb_dict_bool, Px.kb_dict_str, Px.kb_dict_list, Px.kb_dict_tuple, Px.kb_dict_dict, L2.upd_same, Px.updI, L2.ixN, List.set_cons_zero, List.set_cons_succ, List.length_cons, List.length_nil, Nat.reduceAdd, Nat.zero_add, L2.HO.lst.injEq, L2.HO.tup.injEq, L2.upd_upd, L2.V.int.injEq, L2.V.ref.injEq, L2.V.bl.injEq, L2.V.str.injEq, L2.V.ty.injEq, List.cons.injEq, and_true, true_and, and_false, false_and, or_false, false_or, exists_eq_left', exists_eq_left, exists_and_left, exists_const, exists_false, Option.some.injEq, decide_eq_true_eq, List.append_nil, List.cons_append, List.nil_append, Option.isSome_some, Bool.not_true, Bool.not_false, Bool.not_eq_true', Bool.not_eq_true, Bool.false_eq_true, decide_eq_false_iff_not, if_true, if_false, ite_true, ite_false, Int.reduceLE, Int.reduceLT, Int.reduceToNat, Int.cast_ofNat_Int, Bool.true_eq_false, eq_self, ↓reduceIte, reduceCtorEq, Px.aug, Px.ipi, Px.tri, Px.rcatth, Px.flh, Px.sfl, Px.met, Px.mak, *]
  intro u hu
  have e : Px.Ext H (upd (upd H t (.tup ws)) u (.tup us)) := ((Px.Ext.rfl' H).new ht).new hu
  refine ⟨_, dep_all wf, .tup (xs := ws) ?_ (hws.mono e.tu), .tup upd_same (hus.mono e.tu), fun H' e' => k H' (e.trans e')⟩
  rw [updI hu (by rw [upd_same]; rfl), upd_same]
def spDue (vs : List V) (H : Hp) (Q : VK) (_ : XK) : Prop := ∃ (a : Addr) (xs : List St), vs = [.ref a] ∧ Steps H a xs ∧ Wf xs ∧ ∀ p H', H p = none → Steps H' p (due xs) → Px.Ext H H' → Q (.ref p) H'
def IDu1 (a : Addr) (xs : List St) (H : Hp) (t : Nat) (σ' : L2.St) (H' : Hp) : Prop := (∃ q v v', σ' = [some (.ref a), some (.int ((xs.length : Int) - 1)), some (.ref q), v, v', none, none, none, none, none] ∧ H' q = some (.lst ((wants xs t).map V.int))) ∧ Px.Ext H H'
def IDu2 (a q D r : Addr) (xs : List St) (H H1 : Hp) (i : Nat) (σ' : L2.St) (H' : Hp) : Prop := (∃ v v' v'' v3, σ' = [some (.ref a), some (.int ((xs.length : Int) - 1)), some (.ref q), v, v', none, some (.ref D), some (.ref r), v'', v3]) ∧ Px.Ext H H' ∧ H' D = H1 D ∧ ∃ ys, H' r = some (.lst ys) ∧ DtAll H' ys (((kept xs).take i).map fun k => enc (ren (rank xs) (at_ xs k)))
theorem ok_due (B : Bn mg) (F : FunAt K mg "_law_due" s_law_due) : Def P w K mg base CX0 1 "_law_due" ["steps"] spDue := by
  refine F.ok sc_law_due (fun _ _ _ _ _ _ us hl => match us, hl with | [_], _ => rfl) (fun vs H Q E h => by obtain ⟨_, _, rfl, _⟩ := h; rfl) (fun f cdv A outer s H vs Q E hr h => ?_)
  obtain ⟨a, xs, rfl, ⟨ws, ha, hws⟩, wf, k⟩ := h
  have lw := Steps.len hws
  have l40 := wf.1
  refine ⟨_, pss_cons (ps_set (i := 1) sc_law_due.nd rfl (Or.inl rfl) (pe_op op_sub (pe_callB len_H rfl B.len (by decide +kernel) (pa_cons (pv 0) pa_nil)) pe_int)) (
  pss_cons (ps_set (i := 2) sc_law_due.nd rfl (Or.inr rfl) (pe_lst (pa_cons (pv 1) pa_nil))) (
  pss_cons (ps_for PassesOwn.never rfl (pi_range1 rfl B.range (pa_cons (pe_callB len_H rfl B.len (by decide +kernel) (pa_cons (pv 0) pa_nil)) pa_nil)) (pg_name (i := 3) sc_law_due.nd rfl (Or.inl rfl)) (
  pss_one (ps_if (PW.pt (pw_and (pt_cmpR in_H (pe_op op_sub (pv 1) (pv 3)) (pv 2) rfl) (pw_and1 (pt_cmpR op_eq (pe_ix ix_H (pe_ix ix_H (pv 0) (pe_op op_sub (pv 1) (pv 3)) (fun _ _ => rfl)) pe_int (fun _ _ => rfl)) pe_str (nomark _))))) (pss_cons (ps_set (i := 4) sc_law_due.nd rfl (Or.inl rfl) (pe_ix ix_H (pe_ix ix_H (pv 0) (pe_op op_sub (pv 1) (pv 3)) (fun _ _ => rfl)) pe_int (fun _ _ => rfl))) (
  pss_one (ps_set (i := 2) sc_law_due.nd rfl (Or.inr rfl) (pe_op op_cat (pe_op op_cat (pv 2) (pe_lst (pa_cons (pe_ix ix_H (pv 4) pe_int (fun _ _ => rfl)) pa_nil))) (pe_lc (own := [("pair", 5)]) (g := gName 5) rfl sc_law_due.nd (pi_seq (pe_ix ix_H (pv 4) pe_int (fun _ _ => rfl))) (blkOk_by (own := [("pair", 5)]) (N := ["steps", "last", "wanted", "k", "details", "pair", "kept", "out", "kind", "clause"]) (sc := defScope s_law_due) (by decide +kernel)) (fun _ _ _ _ _ => (pg_name (i := 5) sc_law_due.nd rfl (Or.inl rfl))) (fun _ _ _ _ _ => pts_nil) (fun _ _ _ _ _ => (pe_ix ix_H (pv 5) pe_int (fun _ _ => rfl)))))))) (pss_nil)))) (
  pss_cons (ps_set (i := 6) sc_law_due.nd rfl (Or.inr rfl) (pe_lc (own := [("k", 3)]) (g := gName 3) rfl sc_law_due.nd (pi_range1 rfl B.range (pa_cons (pe_callB len_H rfl B.len (by decide +kernel) (pa_cons (pv 0) pa_nil)) pa_nil)) (blkOk_by (own := [("k", 3)]) (N := ["steps", "last", "wanted", "k", "details", "pair", "kept", "out", "kind", "clause"]) (sc := defScope s_law_due) (by decide +kernel)) (fun _ _ _ _ _ => (pg_name (i := 3) sc_law_due.nd rfl (Or.inl rfl))) (fun _ _ _ _ _ => (pts_one (pt_cmpR in_H (pv 3) (pv 2) rfl))) (fun _ _ _ _ _ => (pv 3)))) (
  pss_cons (ps_set (i := 7) sc_law_due.nd rfl (Or.inl rfl) (pe_lst pa_nil)) (
  pss_cons (ps_for PassesOwn.never rfl (pi_seq (pv 6)) (pg_name (i := 3) sc_law_due.nd rfl (Or.inl rfl)) (
  pss_cons (ps_asg (pe_ix ix_H (pv 0) (pv 3) (fun _ _ => rfl)) (pg_tupH (n := 3) rfl (pgs_cons (pg_name (i := 8) sc_law_due.nd rfl (Or.inl rfl)) (pgs_cons (pg_name (i := 9) sc_law_due.nd rfl (Or.inl rfl)) (pgs_cons (pg_name (i := 4) sc_law_due.nd rfl (Or.inl rfl)) pgs_nil))))) (
  pss_cons (ps_if (pt_cmpR op_eq (pv 8) pe_str (nomark _)) (pss_one (ps_set (i := 4) sc_law_due.nd rfl (Or.inl rfl) (pe_tup (pa_cons (pe_bm PySem.F.plainAttrs_list PySem.F.slot_list_index PySem.F.type_list_index mt_index (pv 6) (pa_cons (pe_ix ix_H (pv 4) pe_int (fun _ _ => rfl)) pa_nil)) (pa_cons (pe_callTy tup_H rfl B.tuple_ (by decide +kernel) (pa_cons (pe_lc (own := [("pair", 5)]) (g := gName 5) rfl sc_law_due.nd (pi_seq (pe_ix ix_H (pv 4) pe_int (fun _ _ => rfl))) (blkOk_by (own := [("pair", 5)]) (N := ["steps", "last", "wanted", "k", "details", "pair", "kept", "out", "kind", "clause"]) (sc := defScope s_law_due) (by decide +kernel)) (fun _ _ _ _ _ => (pg_name (i := 5) sc_law_due.nd rfl (Or.inl rfl))) (fun _ _ _ _ _ => pts_nil) (fun _ _ _ _ _ => (pe_tup (pa_cons (pe_ix ix_H (pv 5) pe_int (fun _ _ => rfl)) (pa_cons (pe_bmK (K := K) rfl PySem.F.plainAttrs_list PySem.F.slot_list_index PySem.F.type_list_index (mt_indexK (K := K) rfl) (pv 6) (pa_cons (pe_ix ix_H (pv 5) pe_int (fun _ _ => rfl)) pa_nil)) pa_nil))))) pa_nil)) pa_nil))))) (pss_nil)) (
  pss_one (ps_expr (pe_bm PySem.F.plainAttrs_list PySem.F.slot_list_append PySem.F.type_list_append mt_append (pv 7) (pa_cons (pe_tup (pa_cons (pv 8) (pa_cons (pv 9) (pa_cons (pv 4) pa_nil)))) pa_nil))))))) (
  pss_one (ps_ret (pv 7)))))))), ?_⟩
  show tSeq _ _ _ [some (.ref a), none, none, none, none, none, none, none, none, none] H
  refine go_seq ?_
  simp only [decide_true, decide_false, List.map_cons, List.map_nil, Option.map_none, Option.map_some, Option.getD_none, Option.getD_some, Px.dg2, Px.dg1, Px.dg, Px.din, Px.dnotin, Px.dnew, Px.dput, Px.isD_is, Px.dget_i, Px.dget_s, Px.dput_i, Px.dput_s, Px.dOf_d, Px.rtup, Px.rlist, Px.rsl, Px.rsort, Px.rcat, Px.rapp, Px.rrev, Px.sl_ap, Px.nop, Px.part, Px.yes, Px.tyl, Px.isL_l, Px.isT_t, Px.isL_t, Px.isT_l, Px.isD_d, Px.isT_d, Px.inV_ints, Px.flat_ints, Px.flatV_i, Px.wipe_cons, Px.wipe_nil, Px.gtup, Px.gcons, Px.gnil, gt_iff_lt, ge_iff_le, Px.we, Px.wonly, Px.was, Px.cxK, not_true_eq_false, and_self, true_implies, false_implies, implies_true, Px.e0, and_assoc, imp_false, not_false_eq_true, ne_eq, Px.rgcd, Px.rixl, Px.rixt, Px.v0, Px.v1, Px.v2, Px.v3, Px.v4, Px.v5, Px.v6, Px.v7, Px.v8, Px.v9, Px.v10, Px.v11, Px.v12, Px.v13, Px.v14, Px.v15, Px.v16, Px.v17, Px.v18, Px.v19, Px.v20, Px.v21, Px.v22, Px.v23, Px.c0, Px.asg, Px.gnm, Px.ret, Px.retN, Px.drop, Px.nxt, Px.brk, Px.cnt, Px.ifs, Px.op, Px.un, Px.tst, Px.tbl, Px.tand, Px.tor, Px.tnot, Px.andv, Px.orv, Px.notv, Px.tif, Px.tup, Px.lst, Px.nil, Px.cons, Px.cal, Px.calS, Px.cb, Px.par, Px.gsub, Px.bits, Px.bm, Px.bm0, Px.ri, Px.ri0, Px.ru, Px.req, Px.rne, Px.rix, Px.rlen, Px.rin, Px.rsetl, Px.risi, Px.tyH_n, Px.tyH_b, Px.tyH_i, Px.tyH_s, Px.tyH_r, Px.seqH_t, Px.seqH_l, Px.seqH_fl, Px.sc_ii, Px.sc_bb, Px.sc_ss, Px.atI0, Px.atI1, Px.atI2, Px.atI3, Px.atI4, Px.atI5, Px.atI6, Px.atI7, Px.kb_NoneType_int, Px.kb_NoneType_bool, Px.kb_NoneType_str, Px.kb_NoneType_list, Px.kb_NoneType_tuple, Px.kb_NoneType_dict, Px.kb_bool_int, Px.kb_bool_bool, Px.kb_bool_str, Px.kb_bool_list, Px.kb_bool_tuple, Px.kb_bool_dict, Px.kb_int_int, Px.kb_int_bool, Px.kb_int_str, Px.kb_int_list, Px.kb_int_tuple, Px.kb_int_dict, Px.kb_str_int, Px.kb_str_bool, Px.kb_str_str, Px.kb_str_list, Px.kb_str_tuple, Px.kb_str_dict, Px.kb_list_int, Px.kb_list_bool, Px.kb_list_str, Px.kb_list_list, Px.kb_list_tuple, Px.kb_list_dict, Px.kb_tuple_int, Px.kb_tuple_bool, Px.kb_tuple_str, Px.kb_tuple_list, Px.kb_tuple_tuple, Px.kb_tuple_dict, Px.kb_dict_int, Px.kb_dict_bool, Px.kb_dict_str, Px.kb_dict_list, Px.kb_dict_tuple, Px.kb_dict_dict, L2.upd_same, Px.updI, L2.ixN, List.set_cons_zero, List.set_cons_succ, List.length_cons, List.length_nil, Nat.reduceAdd, Nat.zero_add, L2.HO.lst.injEq, L2.HO.tup.injEq, L2.upd_upd, L2.V.int.injEq, L2.V.ref.injEq, L2.V.bl.injEq, L2.V.str.injEq, L2.V.ty.injEq, List.cons.injEq, and_true, true_and, and_false, false_and, or_false, false_or, exists_eq_left', exists_eq_left, exists_and_left, exists_const, exists_false, Option.some.injEq, decide_eq_true_eq, List.append_nil, List.cons_append, List.nil_append, Option.isSome_some, Bool.not_true, Bool.not_false, Bool.not_eq_true', Bool.not_eq_true, Bool.false_eq_true, decide_eq_false_iff_not, if_true, if_false, ite_true, ite_false, Int.reduceLE, Int.reduceLT, Int.reduceToNat, Int.cast_ofNat_Int, Bool.true_eq_false, eq_self, ↓reduceIte, reduceCtorEq, Px.aug, Px.ipi, Px.tri, Px.rcatth, Px.flh, Px.sfl, Px.met, Px.mak, *]
  refine go_seq ?_
  simp only [decide_true, decide_false, List.map_cons, List.map_nil, Option.map_none, Option.map_some, Option.getD_none, Option.getD_some, Px.dg2, Px.dg1, Px.dg, Px.din, Px.dnotin, Px.dnew, Px.dput, Px.isD_is, Px.dget_i, Px.dget_s, Px.dput_i, Px.dput_s, Px.dOf_d, Px.rtup, Px.rlist, Px.rsl, Px.rsort, Px.rcat, Px.rapp, Px.rrev, Px.sl_ap, Px.nop, Px.part, Px.yes, Px.tyl, Px.isL_l, Px.isT_t, Px.isL_t, Px.isT_l, Px.isD_d, Px.isT_d, Px.inV_ints, Px.flat_ints, Px.flatV_i, Px.wipe_cons, Px.wipe_nil, Px.gtup, Px.gcons, Px.gnil, gt_iff_lt, ge_iff_le, Px.we, Px.wonly, Px.was, Px.cxK, not_true_eq_false, and_self, true_implies, false_implies, implies_true, Px.e0, and_assoc, imp_false, not_false_eq_true, ne_eq, Px.rgcd, Px.rixl, Px.rixt, Px.v0, Px.v1, Px.v2, Px.v3, Px.v4, Px.v5, Px.v6, Px.v7, Px.v8, Px.v9, Px.v10, Px.v11, Px.v12, Px.v13, Px.v14, Px.v15, Px.v16, Px.v17, Px.v18, Px.v19, Px.v20, Px.v21, Px.v22, Px.v23, Px.c0, Px.asg, Px.gnm, Px.ret, Px.retN, Px.drop, Px.nxt, Px.brk, Px.cnt, Px.ifs, Px.op, Px.un, Px.tst, Px.tbl, Px.tand, Px.tor, Px.tnot, Px.andv, Px.orv, Px.notv, Px.tif, Px.tup, Px.lst, Px.nil, Px.cons, Px.cal, Px.calS, Px.cb, Px.par, Px.gsub, Px.bits, Px.bm, Px.bm0, Px.ri, Px.ri0, Px.ru, Px.req, Px.rne, Px.rix, Px.rlen, Px.rin, Px.rsetl, Px.risi, Px.tyH_n, Px.tyH_b, Px.tyH_i, Px.tyH_s, Px.tyH_r, Px.seqH_t, Px.seqH_l, Px.seqH_fl, Px.sc_ii, Px.sc_bb, Px.sc_ss, Px.atI0, Px.atI1, Px.atI2, Px.atI3, Px.atI4, Px.atI5, Px.atI6, Px.atI7, Px.kb_NoneType_int, Px.kb_NoneType_bool, Px.kb_NoneType_str, Px.kb_NoneType_list, Px.kb_NoneType_tuple, Px.kb_NoneType_dict, Px.kb_bool_int, Px.kb_bool_bool, Px.kb_bool_str, Px.kb_bool_list, Px.kb_bool_tuple, Px.kb_bool_dict, Px.kb_int_int, Px.kb_int_bool, Px.kb_int_str, Px.kb_int_list, Px.kb_int_tuple, Px.kb_int_dict, Px.kb_str_int, Px.kb_str_bool, Px.kb_str_str, Px.kb_str_list, Px.kb_str_tuple, Px.kb_str_dict, Px.kb_list_int, Px.kb_list_bool, Px.kb_list_str, Px.kb_list_list, Px.kb_list_tuple, Px.kb_list_dict, Px.kb_tuple_int, Px.kb_tuple_bool, Px.kb_tuple_str, Px.kb_tuple_list, Px.kb_tuple_tuple, Px.kb_tuple_dict, Px.kb_dict_int, Px.kb_dict_bool, Px.kb_dict_str, Px.kb_dict_list, Px.kb_dict_tuple, Px.kb_dict_dict, L2.upd_same, Px.updI, L2.ixN, List.set_cons_zero, List.set_cons_succ, List.length_cons, List.length_nil, Nat.reduceAdd, Nat.zero_add, L2.HO.lst.injEq, L2.HO.tup.injEq, L2.upd_upd, L2.V.int.injEq, L2.V.ref.injEq, L2.V.bl.injEq, L2.V.str.injEq, L2.V.ty.injEq, List.cons.injEq, and_true, true_and, and_false, false_and, or_false, false_or, exists_eq_left', exists_eq_left, exists_and_left, exists_const, exists_false, Option.some.injEq, decide_eq_true_eq, List.append_nil, List.cons_append, List.nil_append, Option.isSome_some, Bool.not_true, Bool.not_false, Bool.not_eq_true', Bool.not_eq_true, Bool.false_eq_true, decide_eq_false_iff_not, if_true, if_false, ite_true, ite_false, Int.reduceLE, Int.reduceLT, Int.reduceToNat, Int.cast_ofNat_Int, Bool.true_eq_false, eq_self, ↓reduceIte, reduceCtorEq, Px.aug, Px.ipi, Px.tri, Px.rcatth, Px.flh, Px.sfl, Px.met, Px.mak, *]
  refine ⟨by decide, fun q0 hq0 => ?_⟩
  refine go_seq ?_
  have e0 : Px.Ext H (upd H q0 (.lst [.int ((xs.length : Int) - 1)])) := (Px.Ext.rfl' H).new hq0
  have g0 : (upd H q0 (.lst [.int ((xs.length : Int) - 1)])) q0 = some (.lst ((wants xs 0).map V.int)) := upd_same
  generalize upd H q0 (.lst [.int ((xs.length : Int) - 1)]) = G0 at *
  refine for_r1 (IDu1 a xs H) (xs.length : Int) ?_ ⟨by omega, by omega⟩ ⟨⟨_, _, _, rfl, g0⟩, e0⟩ ?_ ?_
  · intro Q hQ
    have ha0 := e0.get ha
    simp only [decide_true, decide_false, List.map_cons, List.map_nil, Option.map_none, Option.map_some, Option.getD_none, Option.getD_some, Px.dg2, Px.dg1, Px.dg, Px.din, Px.dnotin, Px.dnew, Px.dput, Px.isD_is, Px.dget_i, Px.dget_s, Px.dput_i, Px.dput_s, Px.dOf_d, Px.rtup, Px.rlist, Px.rsl, Px.rsort, Px.rcat, Px.rapp, Px.rrev, Px.sl_ap, Px.nop, Px.part, Px.yes, Px.tyl, Px.isL_l, Px.isT_t, Px.isL_t, Px.isT_l, Px.isD_d, Px.isT_d, Px.inV_ints, Px.flat_ints, Px.flatV_i, Px.wipe_cons, Px.wipe_nil, Px.gtup, Px.gcons, Px.gnil, gt_iff_lt, ge_iff_le, Px.we, Px.wonly, Px.was, Px.cxK, not_true_eq_false, and_self, true_implies, false_implies, implies_true, Px.e0, and_assoc, imp_false, not_false_eq_true, ne_eq, Px.rgcd, Px.rixl, Px.rixt, Px.v0, Px.v1, Px.v2, Px.v3, Px.v4, Px.v5, Px.v6, Px.v7, Px.v8, Px.v9, Px.v10, Px.v11, Px.v12, Px.v13, Px.v14, Px.v15, Px.v16, Px.v17, Px.v18, Px.v19, Px.v20, Px.v21, Px.v22, Px.v23, Px.c0, Px.asg, Px.gnm, Px.ret, Px.retN, Px.drop, Px.nxt, Px.brk, Px.cnt, Px.ifs, Px.op, Px.un, Px.tst, Px.tbl, Px.tand, Px.tor, Px.tnot, Px.andv, Px.orv, Px.notv, Px.tif, Px.tup, Px.lst, Px.nil, Px.cons, Px.cal, Px.calS, Px.cb, Px.par, Px.gsub, Px.bits, Px.bm, Px.bm0, Px.ri, Px.ri0, Px.ru, Px.req, Px.rne, Px.rix, Px.rlen, Px.rin, Px.rsetl, Px.risi, Px.tyH_n, Px.tyH_b, Px.tyH_i, Px.tyH_s, Px.tyH_r, Px.seqH_t, Px.seqH_l, Px.seqH_fl, Px.sc_ii, Px.sc_bb, Px.sc_ss, Px.atI0, Px.atI1, Px.atI2, Px.atI3, Px.atI4, Px.atI5, Px.atI6, Px.atI7, Px.kb_NoneType_int, Px.kb_NoneType_bool, Px.kb_NoneType_str, Px.kb_NoneType_list, Px.kb_NoneType_tuple, Px.kb_NoneType_dict, Px.kb_bool_int, Px.kb_bool_bool, Px.kb_bool_str, Px.kb_bool_list, Px.kb_bool_tuple, Px.kb_bool_dict, Px.kb_int_int, Px.kb_int_bool, Px.kb_int_str, Px.kb_int_list, Px.kb_int_tuple, Px.kb_int_dict, Px.kb_str_int, Px.kb_str_bool, Px.kb_str_str, Px.kb_str_list, Px.kb_str_tuple, Px.kb_str_dict, Px.kb_list_int, Px.kb_list_bool, Px.kb_list_str, Px.kb_list_list, Px.kb_list_tuple, Px.kb_list_dict, Px.kb_tuple_int, Px.kb_tuple_bool, Px.kb_tuple_str, Px.kb_tuple_list, Px.kb_tuple_tuple, Px.kb_tuple_dict, Px.kb_dict_int, Px.kb_dict_bool, Px.kb_dict_str, Px.kb_dict_list, Px.kb_dict_tuple, Px.kb_dict_dict, L2.upd_same, Px.updI, L2.ixN, List.set_cons_zero, List.set_cons_succ, List.length_cons, List.length_nil, Nat.reduceAdd, Nat.zero_add, L2.HO.lst.injEq, L2.HO.tup.injEq, L2.upd_upd, L2.V.int.injEq, L2.V.ref.injEq, L2.V.bl.injEq, L2.V.str.injEq, L2.V.ty.injEq, List.cons.injEq, and_true, true_and, and_false, false_and, or_false, false_or, exists_eq_left', exists_eq_left, exists_and_left, exists_const, exists_false, Option.some.injEq, decide_eq_true_eq, List.append_nil, List.cons_append, List.nil_append, Option.isSome_some, Bool.not_true, Bool.not_false, Bool.not_eq_true', Bool.not_eq_true, Bool.false_eq_true, decide_eq_false_iff_not, if_true, if_false, ite_true, ite_false, Int.reduceLE, Int.reduceLT, Int.reduceToNat, Int.cast_ofNat_Int, Bool.true_eq_false, eq_self, ↓reduceIte, reduceCtorEq, Px.aug, Px.ipi, Px.tri, Px.rcatth, Px.flh, Px.sfl, Px.met, Px.mak, *]
  · rintro i σ' H1 hi ⟨⟨q, v, v', rfl, hq⟩, e1⟩
    have li : i < xs.length := by omega
    have lj : xs.length - 1 - i < xs.length := by omega
    obtain ⟨y, hy, dy⟩ := Steps.at_ hws lj
    have ay := atI_nat hy
    rw [show ((xs.length - 1 - i : Nat) : Int) = (xs.length : Int) - 1 - (i : Int) by omega] at ay
    have dy1 := dy.mono e1.tu
    obtain ⟨b, c, e, rfl, g1, g2, g3⟩ := enc_inv dy1
    have ha1 := e1.get ha
    have ok := wf.2 _ _ (at_get lj)
    have wl := wants_len wf i (by omega)
    have rl := refs_len ok
    have wt : wants xs (i + 1) = if (xs.length : Int) - 1 - (i : Int) ∈ wants xs i then wants xs i ++ (refs (at_ xs (xs.length - 1 - i))).map (fun r => ((r : Nat) : Int)) else wants xs i := rfl
    simp only [decide_true, decide_false, List.map_cons, List.map_nil, Option.map_none, Option.map_some, Option.getD_none, Option.getD_some, Px.dg2, Px.dg1, Px.dg, Px.din, Px.dnotin, Px.dnew, Px.dput, Px.isD_is, Px.dget_i, Px.dget_s, Px.dput_i, Px.dput_s, Px.dOf_d, Px.rtup, Px.rlist, Px.rsl, Px.rsort, Px.rcat, Px.rapp, Px.rrev, Px.sl_ap, Px.nop, Px.part, Px.yes, Px.tyl, Px.isL_l, Px.isT_t, Px.isL_t, Px.isT_l, Px.isD_d, Px.isT_d, Px.inV_ints, Px.flat_ints, Px.flatV_i, Px.wipe_cons, Px.wipe_nil, Px.gtup, Px.gcons, Px.gnil, gt_iff_lt, ge_iff_le, Px.we, Px.wonly, Px.was, Px.cxK, not_true_eq_false, and_self, true_implies, false_implies, implies_true, Px.e0, and_assoc, imp_false, not_false_eq_true, ne_eq, Px.rgcd, Px.rixl, Px.rixt, Px.v0, Px.v1, Px.v2, Px.v3, Px.v4, Px.v5, Px.v6, Px.v7, Px.v8, Px.v9, Px.v10, Px.v11, Px.v12, Px.v13, Px.v14, Px.v15, Px.v16, Px.v17, Px.v18, Px.v19, Px.v20, Px.v21, Px.v22, Px.v23, Px.c0, Px.asg, Px.gnm, Px.ret, Px.retN, Px.drop, Px.nxt, Px.brk, Px.cnt, Px.ifs, Px.op, Px.un, Px.tst, Px.tbl, Px.tand, Px.tor, Px.tnot, Px.andv, Px.orv, Px.notv, Px.tif, Px.tup, Px.lst, Px.nil, Px.cons, Px.cal, Px.calS, Px.cb, Px.par, Px.gsub, Px.bits, Px.bm, Px.bm0, Px.ri, Px.ri0, Px.ru, Px.req, Px.rne, Px.rix, Px.rlen, Px.rin, Px.rsetl, Px.risi, Px.tyH_n, Px.tyH_b, Px.tyH_i, Px.tyH_s, Px.tyH_r, Px.seqH_t, Px.seqH_l, Px.seqH_fl, Px.sc_ii, Px.sc_bb, Px.sc_ss, Px.atI0, Px.atI1, Px.atI2, Px.atI3, Px.atI4, Px.atI5, Px.atI6, Px.atI7, Px.kb_NoneType_int, Px.kb_NoneType_bool, Px.kb_NoneType_str, Px.kb_NoneType_list, Px.kb_NoneType_tuple, Px.kb_NoneType_dict, Px.kb_bool_int, Px.kb_bool_bool, Px.kb_bool_str, Px.kb_bool_list, Px.kb_bool_tuple, Px.kb_bool_dict, Px.kb_int_int, Px.kb_int_bool, Px.kb_int_str, Px.kb_int_list, Px.kb_int_tuple, Px.kb_int_dict, Px.kb_str_int, Px.kb_str_bool, Px.kb_str_str, Px.kb_str_list, Px.kb_str_tuple, Px.kb_str_dict, Px.kb_list_int, Px.kb_list_bool, Px.kb_list_str, Px.kb_list_list, Px.kb_list_tuple, Px.kb_list_dict, Px.kb_tuple_int, Px.kb_tuple_bool, Px.kb_tuple_str, Px.kb_tuple_list, Px.kb_tuple_tuple, Px.kb_tuple_dict, Px.kb_dict_int, Px.kb_dict_bool, Px.kb_dict_str, Px.kb_dict_list, Px.kb_dict_tuple, Px.kb_dict_dict, L2.upd_same, Px.updI, L2.ixN, List.set_cons_zero, List.set_cons_succ, List.length_cons, List.length_nil, Nat.reduceAdd, Nat.zero_add, L2.HO.lst.injEq, L2.HO.tup.injEq, L2.upd_upd, L2.V.int.injEq, L2.V.ref.injEq, L2.V.bl.injEq, L2.V.str.injEq, L2.V.ty.injEq, List.cons.injEq, and_true, true_and, and_false, false_and, or_false, false_or, exists_eq_left', exists_eq_left, exists_and_left, exists_const, exists_false, Option.some.injEq, decide_eq_true_eq, List.append_nil, List.cons_append, List.nil_append, Option.isSome_some, Bool.not_true, Bool.not_false, Bool.not_eq_true', Bool.not_eq_true, Bool.false_eq_true, decide_eq_false_iff_not, if_true, if_false, ite_true, ite_false, Int.reduceLE, Int.reduceLT, Int.reduceToNat, Int.cast_ofNat_Int, Bool.true_eq_false, eq_self, ↓reduceIte, reduceCtorEq, Px.aug, Px.ipi, Px.tri, Px.rcatth, Px.flh, Px.sfl, Px.met, Px.mak, *]
    refine go_if (fun hw => ?_) (fun hw => ?_)
    · rw [if_pos hw] at wt
      cases ex : at_ xs (xs.length - 1 - i) with
      | oth kk ll dd =>
        rw [ex] at ok wt
        have nk : ¬ kd (.oth kk ll dd) = "resolve" := ok.2.1
        rw [if_neg nk]
        refine ⟨⟨_, _, _, rfl, ?_⟩, e1⟩
        rw [wt, hq]
        show _ = some (HO.lst ((wants xs i ++ []).map V.int))
        rw [List.append_nil]
      | res ll f0 ss =>
        rw [ex] at g1 g2 g3 ok wt rl
        rw [if_pos (show kd (.res ll f0 ss) = "resolve" from rfl)]
        obtain ⟨b2, y2, us, rfl, m1, m2, m3⟩ := dt_inv g3
        have lu : us.length = ss.length := by rw [m3.len, List.length_map]; unfold zi; rw [List.length_map]
        refine go_seq ?_
        simp only [decide_true, decide_false, List.map_cons, List.map_nil, Option.map_none, Option.map_some, Option.getD_none, Option.getD_some, Px.dg2, Px.dg1, Px.dg, Px.din, Px.dnotin, Px.dnew, Px.dput, Px.isD_is, Px.dget_i, Px.dget_s, Px.dput_i, Px.dput_s, Px.dOf_d, Px.rtup, Px.rlist, Px.rsl, Px.rsort, Px.rcat, Px.rapp, Px.rrev, Px.sl_ap, Px.nop, Px.part, Px.yes, Px.tyl, Px.isL_l, Px.isT_t, Px.isL_t, Px.isT_l, Px.isD_d, Px.isT_d, Px.inV_ints, Px.flat_ints, Px.flatV_i, Px.wipe_cons, Px.wipe_nil, Px.gtup, Px.gcons, Px.gnil, gt_iff_lt, ge_iff_le, Px.we, Px.wonly, Px.was, Px.cxK, not_true_eq_false, and_self, true_implies, false_implies, implies_true, Px.e0, and_assoc, imp_false, not_false_eq_true, ne_eq, Px.rgcd, Px.rixl, Px.rixt, Px.v0, Px.v1, Px.v2, Px.v3, Px.v4, Px.v5, Px.v6, Px.v7, Px.v8, Px.v9, Px.v10, Px.v11, Px.v12, Px.v13, Px.v14, Px.v15, Px.v16, Px.v17, Px.v18, Px.v19, Px.v20, Px.v21, Px.v22, Px.v23, Px.c0, Px.asg, Px.gnm, Px.ret, Px.retN, Px.drop, Px.nxt, Px.brk, Px.cnt, Px.ifs, Px.op, Px.un, Px.tst, Px.tbl, Px.tand, Px.tor, Px.tnot, Px.andv, Px.orv, Px.notv, Px.tif, Px.tup, Px.lst, Px.nil, Px.cons, Px.cal, Px.calS, Px.cb, Px.par, Px.gsub, Px.bits, Px.bm, Px.bm0, Px.ri, Px.ri0, Px.ru, Px.req, Px.rne, Px.rix, Px.rlen, Px.rin, Px.rsetl, Px.risi, Px.tyH_n, Px.tyH_b, Px.tyH_i, Px.tyH_s, Px.tyH_r, Px.seqH_t, Px.seqH_l, Px.seqH_fl, Px.sc_ii, Px.sc_bb, Px.sc_ss, Px.atI0, Px.atI1, Px.atI2, Px.atI3, Px.atI4, Px.atI5, Px.atI6, Px.atI7, Px.kb_NoneType_int, Px.kb_NoneType_bool, Px.kb_NoneType_str, Px.kb_NoneType_list, Px.kb_NoneType_tuple, Px.kb_NoneType_dict, Px.kb_bool_int, Px.kb_bool_bool, Px.kb_bool_str, Px.kb_bool_list, Px.kb_bool_tuple, Px.kb_bool_dict, Px.kb_int_int, Px.kb_int_bool, Px.kb_int_str, Px.kb_int_list, Px.kb_int_tuple, Px.kb_int_dict, Px.kb_str_int, Px.kb_str_bool, Px.kb_str_str, Px.kb_str_list, Px.kb_str_tuple, Px.kb_str_dict, Px.kb_list_int, Px.kb_list_bool, Px.kb_list_str, Px.kb_list_list, Px.kb_list_tuple, Px.kb_list_dict, Px.kb_tuple_int, Px.kb_tuple_bool, Px.kb_tuple_str, Px.kb_tuple_list, Px.kb_tuple_tuple, Px.kb_tuple_dict, Px.kb_dict_int, Px.kb_dict_bool, Px.kb_dict_str, Px.kb_dict_list, Px.kb_dict_tuple, Px.kb_dict_dict, L2.upd_same, Px.updI, L2.ixN, List.set_cons_zero, List.set_cons_succ, List.length_cons, List.length_nil, Nat.reduceAdd, Nat.zero_add, L2.HO.lst.injEq, L2.HO.tup.injEq, L2.upd_upd, L2.V.int.injEq, L2.V.ref.injEq, L2.V.bl.injEq, L2.V.str.injEq, L2.V.ty.injEq, List.cons.injEq, and_true, true_and, and_false, false_and, or_false, false_or, exists_eq_left', exists_eq_left, exists_and_left, exists_const, exists_false, Option.some.injEq, decide_eq_true_eq, List.append_nil, List.cons_append, List.nil_append, Option.isSome_some, Bool.not_true, Bool.not_false, Bool.not_eq_true', Bool.not_eq_true, Bool.false_eq_true, decide_eq_false_iff_not, if_true, if_false, ite_true, ite_false, Int.reduceLE, Int.reduceLT, Int.reduceToNat, Int.cast_ofNat_Int, Bool.true_eq_false, eq_self, ↓reduceIte, reduceCtorEq, Px.aug, Px.ipi, Px.tri, Px.rcatth, Px.flh, Px.sfl, Px.met, Px.mak, *]
        refine ⟨by decide, fun q1 n1 => ?_⟩
        have y1 : Px.Ext H1 (upd H1 q1 (.lst [.int (f0 : Int)])) := (Px.Ext.rfl' H1).new n1
        generalize upd H1 q1 (.lst [.int (f0 : Int)]) = G1 at *
        refine ⟨_, y1.get hq, by rw [List.length_map]; exact Nat.le_trans (show (wants xs i).length + 1 ≤ 300 by omega) (by decide), fun q2 n2 => ?_⟩
        have y2 : Px.Ext G1 (upd G1 q2 (.lst ((wants xs i).map V.int ++ [.int (f0 : Int)]))) := (Px.Ext.rfl' G1).new n2
        have x2 : (upd G1 q2 (.lst ((wants xs i).map V.int ++ [.int (f0 : Int)]))) q2 = some (.lst ((wants xs i).map V.int ++ [.int (f0 : Int)])) := upd_same
        generalize upd G1 q2 (.lst ((wants xs i).map V.int ++ [.int (f0 : Int)])) = G2 at *
        have y12 := y1.trans y2
        have m1' := y12.get m1
        have m2' := y12.get m2
        refine lc_seq (xs := us) (fun _ => true) (fun j => .int (((ss.getD j (0, 0)).2 : Nat) : Int)) (fun Q q => by simp only [decide_true, decide_false, List.map_cons, List.map_nil, Option.map_none, Option.map_some, Option.getD_none, Option.getD_some, Px.dg2, Px.dg1, Px.dg, Px.din, Px.dnotin, Px.dnew, Px.dput, Px.isD_is, Px.dget_i, Px.dget_s, Px.dput_i, Px.dput_s, Px.dOf_d, Px.rtup, Px.rlist, Px.rsl, Px.rsort, Px.rcat, Px.rapp, Px.rrev, Px.sl_ap, Px.nop, Px.part, Px.yes, Px.tyl, Px.isL_l, Px.isT_t, Px.isL_t, Px.isT_l, Px.isD_d, Px.isT_d, Px.inV_ints, Px.flat_ints, Px.flatV_i, Px.wipe_cons, Px.wipe_nil, Px.gtup, Px.gcons, Px.gnil, gt_iff_lt, ge_iff_le, Px.we, Px.wonly, Px.was, Px.cxK, not_true_eq_false, and_self, true_implies, false_implies, implies_true, Px.e0, and_assoc, imp_false, not_false_eq_true, ne_eq, Px.rgcd, Px.rixl, Px.rixt, Px.v0, Px.v1, Px.v2, Px.v3, Px.v4, Px.v5, Px.v6, Px.v7, Px.v8, Px.v9, Px.v10, Px.v11, Px.v12, Px.v13, Px.v14, Px.v15, Px.v16, Px.v17, Px.v18, Px.v19, Px.v20, Px.v21, Px.v22, Px.v23, Px.c0, Px.asg, Px.gnm, Px.ret, Px.retN, Px.drop, Px.nxt, Px.brk, Px.cnt, Px.ifs, Px.op, Px.un, Px.tst, Px.tbl, Px.tand, Px.tor, Px.tnot, Px.andv, Px.orv, Px.notv, Px.tif, Px.tup, Px.lst, Px.nil, Px.cons, Px.cal, Px.calS, Px.cb, Px.par, Px.gsub, Px.bits, Px.bm, Px.bm0, Px.ri, Px.ri0, Px.ru, Px.req, Px.rne, Px.rix, Px.rlen, Px.rin, Px.rsetl, Px.risi, Px.tyH_n, Px.tyH_b, Px.tyH_i, Px.tyH_s, Px.tyH_r, Px.seqH_t, Px.seqH_l, Px.seqH_fl, Px.sc_ii, Px.sc_bb, Px.sc_ss, Px.atI0, Px.atI1, Px.atI2, Px.atI3, Px.atI4, Px.atI5, Px.atI6, Px.atI7, Px.kb_NoneType_int, Px.kb_NoneType_bool, Px.kb_NoneType_str, Px.kb_NoneType_list, Px.kb_NoneType_tuple, Px.kb_NoneType_dict, Px.kb_bool_int, Px.kb_bool_bool, Px.kb_bool_str, Px.kb_bool_list, Px.kb_bool_tuple, Px.kb_bool_dict, Px.kb_int_int, Px.kb_int_bool, Px.kb_int_str, Px.kb_int_list, Px.kb_int_tuple, Px.kb_int_dict, Px.kb_str_int, Px.kb_str_bool, Px.kb_str_str, Px.kb_str_list, Px.kb_str_tuple, Px.kb_str_dict, Px.kb_list_int, Px.kb_list_bool, Px.kb_list_str, Px.kb_list_list, Px.kb_list_tuple, Px.kb_list_dict, Px.kb_tuple_int, Px.kb_tuple_bool, Px.kb_tuple_str, Px.kb_tuple_list, Px.kb_tuple_tuple, Px.kb_tuple_dict, Px.kb_dict_int, Px.kb_dict_bool, Px.kb_dict_str, Px.kb_dict_list, Px.kb_dict_tuple, Px.kb_dict_dict, L2.upd_same, Px.updI, L2.ixN, List.set_cons_zero, List.set_cons_succ, List.length_cons, List.length_nil, Nat.reduceAdd, Nat.zero_add, L2.HO.lst.injEq, L2.HO.tup.injEq, L2.upd_upd, L2.V.int.injEq, L2.V.ref.injEq, L2.V.bl.injEq, L2.V.str.injEq, L2.V.ty.injEq, List.cons.injEq, and_true, true_and, and_false, false_and, or_false, false_or, exists_eq_left', exists_eq_left, exists_and_left, exists_const, exists_false, Option.some.injEq, decide_eq_true_eq, List.append_nil, List.cons_append, List.nil_append, Option.isSome_some, Bool.not_true, Bool.not_false, Bool.not_eq_true', Bool.not_eq_true, Bool.false_eq_true, decide_eq_false_iff_not, if_true, if_false, ite_true, ite_false, Int.reduceLE, Int.reduceLT, Int.reduceToNat, Int.cast_ofNat_Int, Bool.true_eq_false, eq_self, ↓reduceIte, reduceCtorEq, Px.aug, Px.ipi, Px.tri, Px.rcatth, Px.flh, Px.sfl, Px.met, Px.mak, *]; exact q) (by rw [m2']; rfl) (by have := ok.2.2.1; omega) (fun j x hj => ?_) (fun D ys H2 hD e2 hy hall => ?_)
        · have lj : j < ss.length := by rw [← lu]; exact (List.getElem?_eq_some_iff.mp hj).1
          obtain ⟨p, hp⟩ : ∃ p, ss[j]? = some p := ⟨_, List.getElem?_eq_getElem lj⟩
          have ep : ss.getD j (0, 0) = p := by rw [List.getD_eq_getElem?_getD, hp]; rfl
          intro H2 R' E' e2 _ k2
          simp only [ep] at k2
          obtain ⟨v, hv, dv⟩ := (m3.mono (y12.trans e2).tu).get' (show ((zi ss).map prd)[j]? = some (prd (p.1, (p.2 : Int))) by rw [zi, List.getElem?_map, List.getElem?_map, hp]; rfl)
          rw [hj] at hv
          cases hv
          obtain ⟨b, rfl, hb⟩ := pr_inv dv
          simp only [decide_true, decide_false, List.map_cons, List.map_nil, Option.map_none, Option.map_some, Option.getD_none, Option.getD_some, Px.dg2, Px.dg1, Px.dg, Px.din, Px.dnotin, Px.dnew, Px.dput, Px.isD_is, Px.dget_i, Px.dget_s, Px.dput_i, Px.dput_s, Px.dOf_d, Px.rtup, Px.rlist, Px.rsl, Px.rsort, Px.rcat, Px.rapp, Px.rrev, Px.sl_ap, Px.nop, Px.part, Px.yes, Px.tyl, Px.isL_l, Px.isT_t, Px.isL_t, Px.isT_l, Px.isD_d, Px.isT_d, Px.inV_ints, Px.flat_ints, Px.flatV_i, Px.wipe_cons, Px.wipe_nil, Px.gtup, Px.gcons, Px.gnil, gt_iff_lt, ge_iff_le, Px.we, Px.wonly, Px.was, Px.cxK, not_true_eq_false, and_self, true_implies, false_implies, implies_true, Px.e0, and_assoc, imp_false, not_false_eq_true, ne_eq, Px.rgcd, Px.rixl, Px.rixt, Px.v0, Px.v1, Px.v2, Px.v3, Px.v4, Px.v5, Px.v6, Px.v7, Px.v8, Px.v9, Px.v10, Px.v11, Px.v12, Px.v13, Px.v14, Px.v15, Px.v16, Px.v17, Px.v18, Px.v19, Px.v20, Px.v21, Px.v22, Px.v23, Px.c0, Px.asg, Px.gnm, Px.ret, Px.retN, Px.drop, Px.nxt, Px.brk, Px.cnt, Px.ifs, Px.op, Px.un, Px.tst, Px.tbl, Px.tand, Px.tor, Px.tnot, Px.andv, Px.orv, Px.notv, Px.tif, Px.tup, Px.lst, Px.nil, Px.cons, Px.cal, Px.calS, Px.cb, Px.par, Px.gsub, Px.bits, Px.bm, Px.bm0, Px.ri, Px.ri0, Px.ru, Px.req, Px.rne, Px.rix, Px.rlen, Px.rin, Px.rsetl, Px.risi, Px.tyH_n, Px.tyH_b, Px.tyH_i, Px.tyH_s, Px.tyH_r, Px.seqH_t, Px.seqH_l, Px.seqH_fl, Px.sc_ii, Px.sc_bb, Px.sc_ss, Px.atI0, Px.atI1, Px.atI2, Px.atI3, Px.atI4, Px.atI5, Px.atI6, Px.atI7, Px.kb_NoneType_int, Px.kb_NoneType_bool, Px.kb_NoneType_str, Px.kb_NoneType_list, Px.kb_NoneType_tuple, Px.kb_NoneType_dict, Px.kb_bool_int, Px.kb_bool_bool, Px.kb_bool_str, Px.kb_bool_list, Px.kb_bool_tuple, Px.kb_bool_dict, Px.kb_int_int, Px.kb_int_bool, Px.kb_int_str, Px.kb_int_list, Px.kb_int_tuple, Px.kb_int_dict, Px.kb_str_int, Px.kb_str_bool, Px.kb_str_str, Px.kb_str_list, Px.kb_str_tuple, Px.kb_str_dict, Px.kb_list_int, Px.kb_list_bool, Px.kb_list_str, Px.kb_list_list, Px.kb_list_tuple, Px.kb_list_dict, Px.kb_tuple_int, Px.kb_tuple_bool, Px.kb_tuple_str, Px.kb_tuple_list, Px.kb_tuple_tuple, Px.kb_tuple_dict, Px.kb_dict_int, Px.kb_dict_bool, Px.kb_dict_str, Px.kb_dict_list, Px.kb_dict_tuple, Px.kb_dict_dict, L2.upd_same, Px.updI, L2.ixN, List.set_cons_zero, List.set_cons_succ, List.length_cons, List.length_nil, Nat.reduceAdd, Nat.zero_add, L2.HO.lst.injEq, L2.HO.tup.injEq, L2.upd_upd, L2.V.int.injEq, L2.V.ref.injEq, L2.V.bl.injEq, L2.V.str.injEq, L2.V.ty.injEq, List.cons.injEq, and_true, true_and, and_false, false_and, or_false, false_or, exists_eq_left', exists_eq_left, exists_and_left, exists_const, exists_false, Option.some.injEq, decide_eq_true_eq, List.append_nil, List.cons_append, List.nil_append, Option.isSome_some, Bool.not_true, Bool.not_false, Bool.not_eq_true', Bool.not_eq_true, Bool.false_eq_true, decide_eq_false_iff_not, if_true, if_false, ite_true, ite_false, Int.reduceLE, Int.reduceLT, Int.reduceToNat, Int.cast_ofNat_Int, Bool.true_eq_false, eq_self, ↓reduceIte, reduceCtorEq, Px.aug, Px.ipi, Px.tri, Px.rcatth, Px.flh, Px.sfl, Px.met, Px.mak, *]
          exact k2 trivial _ _ (Px.Ext.rfl' H2) (.int _)
        · rw [lu, given_eq ss (0, 0) (fun _ => true) (fun p => PyData.int ((p.2 : Nat) : Int)), List.filter_eq_self.mpr (fun _ _ => rfl)] at hall
          have e4 : ss.map (fun p => PyData.int ((p.2 : Nat) : Int)) = (ss.map (fun p => ((p.2 : Nat) : Int))).map PyData.int := by rw [List.map_map]; rfl
          rw [e4] at hall
          have ey := hall.of_ints
          subst ey
          refine ⟨D, rfl, _, e2.get x2, _, hy, ?_, fun q3 n3 => ⟨⟨_, _, _, rfl, ?_⟩, ((e1.trans y12).trans e2).new n3⟩⟩
          · rw [List.length_append, List.length_map, List.length_map, List.length_map, List.length_singleton]
            have := ok.2.2.1
            exact Nat.le_trans (show (wants xs i).length + 1 + ss.length ≤ 300 by omega) (by decide)
          · rw [upd_same, wt]
            show some (HO.lst (((wants xs i).map V.int ++ [.int (f0 : Int)]) ++ _)) = some (HO.lst ((wants xs i ++ (f0 :: ss.map (·.2)).map (fun r => ((r : Nat) : Int))).map V.int))
            simp only [List.append_assoc, List.map_append, List.map_cons, List.map_map]
            rfl
    · rw [if_neg hw] at wt
      exact ⟨⟨_, _, _, rfl, by rw [wt]; exact hq⟩, e1⟩
  · rintro σ' H1 ⟨⟨q, v, v', rfl, hq⟩, e1⟩
    rw [Int.toNat_natCast] at hq
    have ha1 := e1.get ha
    have hws1 := hws.mono e1.tu
    simp only [decide_true, decide_false, List.map_cons, List.map_nil, Option.map_none, Option.map_some, Option.getD_none, Option.getD_some, Px.dg2, Px.dg1, Px.dg, Px.din, Px.dnotin, Px.dnew, Px.dput, Px.isD_is, Px.dget_i, Px.dget_s, Px.dput_i, Px.dput_s, Px.dOf_d, Px.rtup, Px.rlist, Px.rsl, Px.rsort, Px.rcat, Px.rapp, Px.rrev, Px.sl_ap, Px.nop, Px.part, Px.yes, Px.tyl, Px.isL_l, Px.isT_t, Px.isL_t, Px.isT_l, Px.isD_d, Px.isT_d, Px.inV_ints, Px.flat_ints, Px.flatV_i, Px.wipe_cons, Px.wipe_nil, Px.gtup, Px.gcons, Px.gnil, gt_iff_lt, ge_iff_le, Px.we, Px.wonly, Px.was, Px.cxK, not_true_eq_false, and_self, true_implies, false_implies, implies_true, Px.e0, and_assoc, imp_false, not_false_eq_true, ne_eq, Px.rgcd, Px.rixl, Px.rixt, Px.v0, Px.v1, Px.v2, Px.v3, Px.v4, Px.v5, Px.v6, Px.v7, Px.v8, Px.v9, Px.v10, Px.v11, Px.v12, Px.v13, Px.v14, Px.v15, Px.v16, Px.v17, Px.v18, Px.v19, Px.v20, Px.v21, Px.v22, Px.v23, Px.c0, Px.asg, Px.gnm, Px.ret, Px.retN, Px.drop, Px.nxt, Px.brk, Px.cnt, Px.ifs, Px.op, Px.un, Px.tst, Px.tbl, Px.tand, Px.tor, Px.tnot, Px.andv, Px.orv, Px.notv, Px.tif, Px.tup, Px.lst, Px.nil, Px.cons, Px.cal, Px.calS, Px.cb, Px.par, Px.gsub, Px.bits, Px.bm, Px.bm0, Px.ri, Px.ri0, Px.ru, Px.req, Px.rne, Px.rix, Px.rlen, Px.rin, Px.rsetl, Px.risi, Px.tyH_n, Px.tyH_b, Px.tyH_i, Px.tyH_s, Px.tyH_r, Px.seqH_t, Px.seqH_l, Px.seqH_fl, Px.sc_ii, Px.sc_bb, Px.sc_ss, Px.atI0, Px.atI1, Px.atI2, Px.atI3, Px.atI4, Px.atI5, Px.atI6, Px.atI7, Px.kb_NoneType_int, Px.kb_NoneType_bool, Px.kb_NoneType_str, Px.kb_NoneType_list, Px.kb_NoneType_tuple, Px.kb_NoneType_dict, Px.kb_bool_int, Px.kb_bool_bool, Px.kb_bool_str, Px.kb_bool_list, Px.kb_bool_tuple, Px.kb_bool_dict, Px.kb_int_int, Px.kb_int_bool, Px.kb_int_str, Px.kb_int_list, Px.kb_int_tuple, Px.kb_int_dict, Px.kb_str_int, Px.kb_str_bool, Px.kb_str_str, Px.kb_str_list, Px.kb_str_tuple, Px.kb_str_dict, Px.kb_list_int, Px.kb_list_bool, Px.kb_list_str, Px.kb_list_list, Px.kb_list_tuple, Px.kb_list_dict, Px.kb_tuple_int, Px.kb_tuple_bool, Px.kb_tuple_str, Px.kb_tuple_list, Px.kb_tuple_tuple, Px.kb_tuple_dict, Px.kb_dict_int, Px.kb_dict_bool, Px.kb_dict_str, Px.kb_dict_list, Px.kb_dict_tuple, Px.kb_dict_dict, L2.upd_same, Px.updI, L2.ixN, List.set_cons_zero, List.set_cons_succ, List.length_cons, List.length_nil, Nat.reduceAdd, Nat.zero_add, L2.HO.lst.injEq, L2.HO.tup.injEq, L2.upd_upd, L2.V.int.injEq, L2.V.ref.injEq, L2.V.bl.injEq, L2.V.str.injEq, L2.V.ty.injEq, List.cons.injEq, and_true, true_and, and_false, false_and, or_false, false_or, exists_eq_left', exists_eq_left, exists_and_left, exists_const, exists_false, Option.some.injEq, decide_eq_true_eq, List.append_nil, List.cons_append, List.nil_append, Option.isSome_some, Bool.not_true, Bool.not_false, Bool.not_eq_true', Bool.not_eq_true, Bool.false_eq_true, decide_eq_false_iff_not, if_true, if_false, ite_true, ite_false, Int.reduceLE, Int.reduceLT, Int.reduceToNat, Int.cast_ofNat_Int, Bool.true_eq_false, eq_self, ↓reduceIte, reduceCtorEq, Px.aug, Px.ipi, Px.tri, Px.rcatth, Px.flh, Px.sfl, Px.met, Px.mak]
    refine go_seq ?_
    simp only [decide_true, decide_false, List.map_cons, List.map_nil, Option.map_none, Option.map_some, Option.getD_none, Option.getD_some, Px.dg2, Px.dg1, Px.dg, Px.din, Px.dnotin, Px.dnew, Px.dput, Px.isD_is, Px.dget_i, Px.dget_s, Px.dput_i, Px.dput_s, Px.dOf_d, Px.rtup, Px.rlist, Px.rsl, Px.rsort, Px.rcat, Px.rapp, Px.rrev, Px.sl_ap, Px.nop, Px.part, Px.yes, Px.tyl, Px.isL_l, Px.isT_t, Px.isL_t, Px.isT_l, Px.isD_d, Px.isT_d, Px.inV_ints, Px.flat_ints, Px.flatV_i, Px.wipe_cons, Px.wipe_nil, Px.gtup, Px.gcons, Px.gnil, gt_iff_lt, ge_iff_le, Px.we, Px.wonly, Px.was, Px.cxK, not_true_eq_false, and_self, true_implies, false_implies, implies_true, Px.e0, and_assoc, imp_false, not_false_eq_true, ne_eq, Px.rgcd, Px.rixl, Px.rixt, Px.v0, Px.v1, Px.v2, Px.v3, Px.v4, Px.v5, Px.v6, Px.v7, Px.v8, Px.v9, Px.v10, Px.v11, Px.v12, Px.v13, Px.v14, Px.v15, Px.v16, Px.v17, Px.v18, Px.v19, Px.v20, Px.v21, Px.v22, Px.v23, Px.c0, Px.asg, Px.gnm, Px.ret, Px.retN, Px.drop, Px.nxt, Px.brk, Px.cnt, Px.ifs, Px.op, Px.un, Px.tst, Px.tbl, Px.tand, Px.tor, Px.tnot, Px.andv, Px.orv, Px.notv, Px.tif, Px.tup, Px.lst, Px.nil, Px.cons, Px.cal, Px.calS, Px.cb, Px.par, Px.gsub, Px.bits, Px.bm, Px.bm0, Px.ri, Px.ri0, Px.ru, Px.req, Px.rne, Px.rix, Px.rlen, Px.rin, Px.rsetl, Px.risi, Px.tyH_n, Px.tyH_b, Px.tyH_i, Px.tyH_s, Px.tyH_r, Px.seqH_t, Px.seqH_l, Px.seqH_fl, Px.sc_ii, Px.sc_bb, Px.sc_ss, Px.atI0, Px.atI1, Px.atI2, Px.atI3, Px.atI4, Px.atI5, Px.atI6, Px.atI7, Px.kb_NoneType_int, Px.kb_NoneType_bool, Px.kb_NoneType_str, Px.kb_NoneType_list, Px.kb_NoneType_tuple, Px.kb_NoneType_dict, Px.kb_bool_int, Px.kb_bool_bool, Px.kb_bool_str, Px.kb_bool_list, Px.kb_bool_tuple, Px.kb_bool_dict, Px.kb_int_int, Px.kb_int_bool, Px.kb_int_str, Px.kb_int_list, Px.kb_int_tuple, Px.kb_int_dict, Px.kb_str_int, Px.kb_str_bool, Px.kb_str_str, Px.kb_str_list, Px.kb_str_tuple, Px.kb_str_dict, Px.kb_list_int, Px.kb_list_bool, Px.kb_list_str, Px.kb_list_list, Px.kb_list_tuple, Px.kb_list_dict, Px.kb_tuple_int, Px.kb_tuple_bool, Px.kb_tuple_str, Px.kb_tuple_list, Px.kb_tuple_tuple, Px.kb_tuple_dict, Px.kb_dict_int, Px.kb_dict_bool, Px.kb_dict_str, Px.kb_dict_list, Px.kb_dict_tuple, Px.kb_dict_dict, L2.upd_same, Px.updI, L2.ixN, List.set_cons_zero, List.set_cons_succ, List.length_cons, List.length_nil, Nat.reduceAdd, Nat.zero_add, L2.HO.lst.injEq, L2.HO.tup.injEq, L2.upd_upd, L2.V.int.injEq, L2.V.ref.injEq, L2.V.bl.injEq, L2.V.str.injEq, L2.V.ty.injEq, List.cons.injEq, and_true, true_and, and_false, false_and, or_false, false_or, exists_eq_left', exists_eq_left, exists_and_left, exists_const, exists_false, Option.some.injEq, decide_eq_true_eq, List.append_nil, List.cons_append, List.nil_append, Option.isSome_some, Bool.not_true, Bool.not_false, Bool.not_eq_true', Bool.not_eq_true, Bool.false_eq_true, decide_eq_false_iff_not, if_true, if_false, ite_true, ite_false, Int.reduceLE, Int.reduceLT, Int.reduceToNat, Int.cast_ofNat_Int, Bool.true_eq_false, eq_self, ↓reduceIte, reduceCtorEq, Px.aug, Px.ipi, Px.tri, Px.rcatth, Px.flh, Px.sfl, Px.met, Px.mak]
    refine lc_rng (W xs) (fun i => .int (i : Int)) (xs.length : Int) ?_ ⟨by omega, by omega⟩ (fun i hi => ?_) (fun D zs H2 hD e2 hz hall => ?_)
    · intro R hR
      simp only [decide_true, decide_false, List.map_cons, List.map_nil, Option.map_none, Option.map_some, Option.getD_none, Option.getD_some, Px.dg2, Px.dg1, Px.dg, Px.din, Px.dnotin, Px.dnew, Px.dput, Px.isD_is, Px.dget_i, Px.dget_s, Px.dput_i, Px.dput_s, Px.dOf_d, Px.rtup, Px.rlist, Px.rsl, Px.rsort, Px.rcat, Px.rapp, Px.rrev, Px.sl_ap, Px.nop, Px.part, Px.yes, Px.tyl, Px.isL_l, Px.isT_t, Px.isL_t, Px.isT_l, Px.isD_d, Px.isT_d, Px.inV_ints, Px.flat_ints, Px.flatV_i, Px.wipe_cons, Px.wipe_nil, Px.gtup, Px.gcons, Px.gnil, gt_iff_lt, ge_iff_le, Px.we, Px.wonly, Px.was, Px.cxK, not_true_eq_false, and_self, true_implies, false_implies, implies_true, Px.e0, and_assoc, imp_false, not_false_eq_true, ne_eq, Px.rgcd, Px.rixl, Px.rixt, Px.v0, Px.v1, Px.v2, Px.v3, Px.v4, Px.v5, Px.v6, Px.v7, Px.v8, Px.v9, Px.v10, Px.v11, Px.v12, Px.v13, Px.v14, Px.v15, Px.v16, Px.v17, Px.v18, Px.v19, Px.v20, Px.v21, Px.v22, Px.v23, Px.c0, Px.asg, Px.gnm, Px.ret, Px.retN, Px.drop, Px.nxt, Px.brk, Px.cnt, Px.ifs, Px.op, Px.un, Px.tst, Px.tbl, Px.tand, Px.tor, Px.tnot, Px.andv, Px.orv, Px.notv, Px.tif, Px.tup, Px.lst, Px.nil, Px.cons, Px.cal, Px.calS, Px.cb, Px.par, Px.gsub, Px.bits, Px.bm, Px.bm0, Px.ri, Px.ri0, Px.ru, Px.req, Px.rne, Px.rix, Px.rlen, Px.rin, Px.rsetl, Px.risi, Px.tyH_n, Px.tyH_b, Px.tyH_i, Px.tyH_s, Px.tyH_r, Px.seqH_t, Px.seqH_l, Px.seqH_fl, Px.sc_ii, Px.sc_bb, Px.sc_ss, Px.atI0, Px.atI1, Px.atI2, Px.atI3, Px.atI4, Px.atI5, Px.atI6, Px.atI7, Px.kb_NoneType_int, Px.kb_NoneType_bool, Px.kb_NoneType_str, Px.kb_NoneType_list, Px.kb_NoneType_tuple, Px.kb_NoneType_dict, Px.kb_bool_int, Px.kb_bool_bool, Px.kb_bool_str, Px.kb_bool_list, Px.kb_bool_tuple, Px.kb_bool_dict, Px.kb_int_int, Px.kb_int_bool, Px.kb_int_str, Px.kb_int_list, Px.kb_int_tuple, Px.kb_int_dict, Px.kb_str_int, Px.kb_str_bool, Px.kb_str_str, Px.kb_str_list, Px.kb_str_tuple, Px.kb_str_dict, Px.kb_list_int, Px.kb_list_bool, Px.kb_list_str, Px.kb_list_list, Px.kb_list_tuple, Px.kb_list_dict, Px.kb_tuple_int, Px.kb_tuple_bool, Px.kb_tuple_str, Px.kb_tuple_list, Px.kb_tuple_tuple, Px.kb_tuple_dict, Px.kb_dict_int, Px.kb_dict_bool, Px.kb_dict_str, Px.kb_dict_list, Px.kb_dict_tuple, Px.kb_dict_dict, L2.upd_same, Px.updI, L2.ixN, List.set_cons_zero, List.set_cons_succ, List.length_cons, List.length_nil, Nat.reduceAdd, Nat.zero_add, L2.HO.lst.injEq, L2.HO.tup.injEq, L2.upd_upd, L2.V.int.injEq, L2.V.ref.injEq, L2.V.bl.injEq, L2.V.str.injEq, L2.V.ty.injEq, List.cons.injEq, and_true, true_and, and_false, false_and, or_false, false_or, exists_eq_left', exists_eq_left, exists_and_left, exists_const, exists_false, Option.some.injEq, decide_eq_true_eq, List.append_nil, List.cons_append, List.nil_append, Option.isSome_some, Bool.not_true, Bool.not_false, Bool.not_eq_true', Bool.not_eq_true, Bool.false_eq_true, decide_eq_false_iff_not, if_true, if_false, ite_true, ite_false, Int.reduceLE, Int.reduceLT, Int.reduceToNat, Int.cast_ofNat_Int, Bool.true_eq_false, eq_self, ↓reduceIte, reduceCtorEq, Px.aug, Px.ipi, Px.tri, Px.rcatth, Px.flh, Px.sfl, Px.met, Px.mak, *]
    · intro H2 R2 E2 e2 k1 k2
      have hq2 := e2.get hq
      simp only [decide_true, decide_false, List.map_cons, List.map_nil, Option.map_none, Option.map_some, Option.getD_none, Option.getD_some, Px.dg2, Px.dg1, Px.dg, Px.din, Px.dnotin, Px.dnew, Px.dput, Px.isD_is, Px.dget_i, Px.dget_s, Px.dput_i, Px.dput_s, Px.dOf_d, Px.rtup, Px.rlist, Px.rsl, Px.rsort, Px.rcat, Px.rapp, Px.rrev, Px.sl_ap, Px.nop, Px.part, Px.yes, Px.tyl, Px.isL_l, Px.isT_t, Px.isL_t, Px.isT_l, Px.isD_d, Px.isT_d, Px.inV_ints, Px.flat_ints, Px.flatV_i, Px.wipe_cons, Px.wipe_nil, Px.gtup, Px.gcons, Px.gnil, gt_iff_lt, ge_iff_le, Px.we, Px.wonly, Px.was, Px.cxK, not_true_eq_false, and_self, true_implies, false_implies, implies_true, Px.e0, and_assoc, imp_false, not_false_eq_true, ne_eq, Px.rgcd, Px.rixl, Px.rixt, Px.v0, Px.v1, Px.v2, Px.v3, Px.v4, Px.v5, Px.v6, Px.v7, Px.v8, Px.v9, Px.v10, Px.v11, Px.v12, Px.v13, Px.v14, Px.v15, Px.v16, Px.v17, Px.v18, Px.v19, Px.v20, Px.v21, Px.v22, Px.v23, Px.c0, Px.asg, Px.gnm, Px.ret, Px.retN, Px.drop, Px.nxt, Px.brk, Px.cnt, Px.ifs, Px.op, Px.un, Px.tst, Px.tbl, Px.tand, Px.tor, Px.tnot, Px.andv, Px.orv, Px.notv, Px.tif, Px.tup, Px.lst, Px.nil, Px.cons, Px.cal, Px.calS, Px.cb, Px.par, Px.gsub, Px.bits, Px.bm, Px.bm0, Px.ri, Px.ri0, Px.ru, Px.req, Px.rne, Px.rix, Px.rlen, Px.rin, Px.rsetl, Px.risi, Px.tyH_n, Px.tyH_b, Px.tyH_i, Px.tyH_s, Px.tyH_r, Px.seqH_t, Px.seqH_l, Px.seqH_fl, Px.sc_ii, Px.sc_bb, Px.sc_ss, Px.atI0, Px.atI1, Px.atI2, Px.atI3, Px.atI4, Px.atI5, Px.atI6, Px.atI7, Px.kb_NoneType_int, Px.kb_NoneType_bool, Px.kb_NoneType_str, Px.kb_NoneType_list, Px.kb_NoneType_tuple, Px.kb_NoneType_dict, Px.kb_bool_int, Px.kb_bool_bool, Px.kb_bool_str, Px.kb_bool_list, Px.kb_bool_tuple, Px.kb_bool_dict, Px.kb_int_int, Px.kb_int_bool, Px.kb_int_str, Px.kb_int_list, Px.kb_int_tuple, Px.kb_int_dict, Px.kb_str_int, Px.kb_str_bool, Px.kb_str_str, Px.kb_str_list, Px.kb_str_tuple, Px.kb_str_dict, Px.kb_list_int, Px.kb_list_bool, Px.kb_list_str, Px.kb_list_list, Px.kb_list_tuple, Px.kb_list_dict, Px.kb_tuple_int, Px.kb_tuple_bool, Px.kb_tuple_str, Px.kb_tuple_list, Px.kb_tuple_tuple, Px.kb_tuple_dict, Px.kb_dict_int, Px.kb_dict_bool, Px.kb_dict_str, Px.kb_dict_list, Px.kb_dict_tuple, Px.kb_dict_dict, L2.upd_same, Px.updI, L2.ixN, List.set_cons_zero, List.set_cons_succ, List.length_cons, List.length_nil, Nat.reduceAdd, Nat.zero_add, L2.HO.lst.injEq, L2.HO.tup.injEq, L2.upd_upd, L2.V.int.injEq, L2.V.ref.injEq, L2.V.bl.injEq, L2.V.str.injEq, L2.V.ty.injEq, List.cons.injEq, and_true, true_and, and_false, false_and, or_false, false_or, exists_eq_left', exists_eq_left, exists_and_left, exists_const, exists_false, Option.some.injEq, decide_eq_true_eq, List.append_nil, List.cons_append, List.nil_append, Option.isSome_some, Bool.not_true, Bool.not_false, Bool.not_eq_true', Bool.not_eq_true, Bool.false_eq_true, decide_eq_false_iff_not, if_true, if_false, ite_true, ite_false, Int.reduceLE, Int.reduceLT, Int.reduceToNat, Int.cast_ofNat_Int, Bool.true_eq_false, eq_self, ↓reduceIte, reduceCtorEq, Px.aug, Px.ipi, Px.tri, Px.rcatth, Px.flh, Px.sfl, Px.met, Px.mak, *]
      refine go_if (fun h => ?_) (fun h => ?_)
      · exact k2 (decide_eq_true h) _ _ (Px.Ext.rfl' H2) (.int _)
      · exact k1 (decide_eq_false h) _ (Px.Ext.rfl' H2)
    · rw [Int.toNat_natCast] at hall
      have ez : zs = iks xs := by
        have e5 : given xs.length (W xs) (fun i => PyData.int (i : Int)) = ((kept xs).map fun k => ((k : Nat) : Int)).map PyData.int := by
          unfold given kept
          rw [List.map_map]
          rfl
        rw [e5] at hall
        rw [hall.of_ints]
        unfold iks
        rw [List.map_map]
        rfl
      subst ez
      clear hall
      have e12 := e1.trans e2
      refine go_seq ?_
      simp only [decide_true, decide_false, List.map_cons, List.map_nil, Option.map_none, Option.map_some, Option.getD_none, Option.getD_some, Px.dg2, Px.dg1, Px.dg, Px.din, Px.dnotin, Px.dnew, Px.dput, Px.isD_is, Px.dget_i, Px.dget_s, Px.dput_i, Px.dput_s, Px.dOf_d, Px.rtup, Px.rlist, Px.rsl, Px.rsort, Px.rcat, Px.rapp, Px.rrev, Px.sl_ap, Px.nop, Px.part, Px.yes, Px.tyl, Px.isL_l, Px.isT_t, Px.isL_t, Px.isT_l, Px.isD_d, Px.isT_d, Px.inV_ints, Px.flat_ints, Px.flatV_i, Px.wipe_cons, Px.wipe_nil, Px.gtup, Px.gcons, Px.gnil, gt_iff_lt, ge_iff_le, Px.we, Px.wonly, Px.was, Px.cxK, not_true_eq_false, and_self, true_implies, false_implies, implies_true, Px.e0, and_assoc, imp_false, not_false_eq_true, ne_eq, Px.rgcd, Px.rixl, Px.rixt, Px.v0, Px.v1, Px.v2, Px.v3, Px.v4, Px.v5, Px.v6, Px.v7, Px.v8, Px.v9, Px.v10, Px.v11, Px.v12, Px.v13, Px.v14, Px.v15, Px.v16, Px.v17, Px.v18, Px.v19, Px.v20, Px.v21, Px.v22, Px.v23, Px.c0, Px.asg, Px.gnm, Px.ret, Px.retN, Px.drop, Px.nxt, Px.brk, Px.cnt, Px.ifs, Px.op, Px.un, Px.tst, Px.tbl, Px.tand, Px.tor, Px.tnot, Px.andv, Px.orv, Px.notv, Px.tif, Px.tup, Px.lst, Px.nil, Px.cons, Px.cal, Px.calS, Px.cb, Px.par, Px.gsub, Px.bits, Px.bm, Px.bm0, Px.ri, Px.ri0, Px.ru, Px.req, Px.rne, Px.rix, Px.rlen, Px.rin, Px.rsetl, Px.risi, Px.tyH_n, Px.tyH_b, Px.tyH_i, Px.tyH_s, Px.tyH_r, Px.seqH_t, Px.seqH_l, Px.seqH_fl, Px.sc_ii, Px.sc_bb, Px.sc_ss, Px.atI0, Px.atI1, Px.atI2, Px.atI3, Px.atI4, Px.atI5, Px.atI6, Px.atI7, Px.kb_NoneType_int, Px.kb_NoneType_bool, Px.kb_NoneType_str, Px.kb_NoneType_list, Px.kb_NoneType_tuple, Px.kb_NoneType_dict, Px.kb_bool_int, Px.kb_bool_bool, Px.kb_bool_str, Px.kb_bool_list, Px.kb_bool_tuple, Px.kb_bool_dict, Px.kb_int_int, Px.kb_int_bool, Px.kb_int_str, Px.kb_int_list, Px.kb_int_tuple, Px.kb_int_dict, Px.kb_str_int, Px.kb_str_bool, Px.kb_str_str, Px.kb_str_list, Px.kb_str_tuple, Px.kb_str_dict, Px.kb_list_int, Px.kb_list_bool, Px.kb_list_str, Px.kb_list_list, Px.kb_list_tuple, Px.kb_list_dict, Px.kb_tuple_int, Px.kb_tuple_bool, Px.kb_tuple_str, Px.kb_tuple_list, Px.kb_tuple_tuple, Px.kb_tuple_dict, Px.kb_dict_int, Px.kb_dict_bool, Px.kb_dict_str, Px.kb_dict_list, Px.kb_dict_tuple, Px.kb_dict_dict, L2.upd_same, Px.updI, L2.ixN, List.set_cons_zero, List.set_cons_succ, List.length_cons, List.length_nil, Nat.reduceAdd, Nat.zero_add, L2.HO.lst.injEq, L2.HO.tup.injEq, L2.upd_upd, L2.V.int.injEq, L2.V.ref.injEq, L2.V.bl.injEq, L2.V.str.injEq, L2.V.ty.injEq, List.cons.injEq, and_true, true_and, and_false, false_and, or_false, false_or, exists_eq_left', exists_eq_left, exists_and_left, exists_const, exists_false, Option.some.injEq, decide_eq_true_eq, List.append_nil, List.cons_append, List.nil_append, Option.isSome_some, Bool.not_true, Bool.not_false, Bool.not_eq_true', Bool.not_eq_true, Bool.false_eq_true, decide_eq_false_iff_not, if_true, if_false, ite_true, ite_false, Int.reduceLE, Int.reduceLT, Int.reduceToNat, Int.cast_ofNat_Int, Bool.true_eq_false, eq_self, ↓reduceIte, reduceCtorEq, Px.aug, Px.ipi, Px.tri, Px.rcatth, Px.flh, Px.sfl, Px.met, Px.mak, *]
      refine ⟨by decide, fun r nr => ?_⟩
      have nrD : r ≠ D := fun z => by rw [z, hz] at nr; cases nr
      have y1 : Px.Ext H2 (upd H2 r (.lst [])) := (Px.Ext.rfl' H2).new nr
      have x1 : (upd H2 r (.lst [])) r = some (.lst []) := upd_same
      generalize upd H2 r (.lst []) = G1 at *
      have hrH : H r = none := e12.no nr
      have hz1 := y1.get hz
      refine go_seq ?_
      refine for_seq (xs := iks xs) (IDu2 a q D r xs H G1) (fun Q q => ⟨_, rfl, q⟩) (by rw [hz1]; rfl) ⟨⟨_, _, _, _, rfl⟩, e12.trans y1, rfl, [], x1, .nil⟩ ?_ ?_ ?_
      · rintro i σ' H' ⟨_, _, h, _⟩
        exact h
      · rintro i x σ' H3 hi ⟨⟨w1, w2, w3, w4, rfl⟩, e3, hD3, ys, hy, dys⟩
        unfold iks at hi
        rw [List.getElem?_map] at hi
        cases ei : (kept xs)[i]? with
        | none => rw [ei] at hi; cases hi
        | some kk =>
          rw [ei] at hi
          cases hi
          obtain ⟨k1, k2, k3⟩ := kept_inv ei
          have tk := take_succ ei
          obtain ⟨y, hy', dy⟩ := Steps.at_ hws k1
          have ay := atI_nat hy'
          have dy3 := dy.mono e3.tu
          obtain ⟨b, c, e, rfl, g1, g2, g3⟩ := enc_inv dy3
          have ha3 := e3.get ha
          have ok := wf.2 _ _ (at_get k1)
          have hDk : H3 D = some (.lst (iks xs)) := hD3.trans hz1
          have ly := dys.len
          rw [List.length_map, List.length_take] at ly
          refine go_seq ?_
          simp only [decide_true, decide_false, List.map_cons, List.map_nil, Option.map_none, Option.map_some, Option.getD_none, Option.getD_some, Px.dg2, Px.dg1, Px.dg, Px.din, Px.dnotin, Px.dnew, Px.dput, Px.isD_is, Px.dget_i, Px.dget_s, Px.dput_i, Px.dput_s, Px.dOf_d, Px.rtup, Px.rlist, Px.rsl, Px.rsort, Px.rcat, Px.rapp, Px.rrev, Px.sl_ap, Px.nop, Px.part, Px.yes, Px.tyl, Px.isL_l, Px.isT_t, Px.isL_t, Px.isT_l, Px.isD_d, Px.isT_d, Px.inV_ints, Px.flat_ints, Px.flatV_i, Px.wipe_cons, Px.wipe_nil, Px.gtup, Px.gcons, Px.gnil, gt_iff_lt, ge_iff_le, Px.we, Px.wonly, Px.was, Px.cxK, not_true_eq_false, and_self, true_implies, false_implies, implies_true, Px.e0, and_assoc, imp_false, not_false_eq_true, ne_eq, Px.rgcd, Px.rixl, Px.rixt, Px.v0, Px.v1, Px.v2, Px.v3, Px.v4, Px.v5, Px.v6, Px.v7, Px.v8, Px.v9, Px.v10, Px.v11, Px.v12, Px.v13, Px.v14, Px.v15, Px.v16, Px.v17, Px.v18, Px.v19, Px.v20, Px.v21, Px.v22, Px.v23, Px.c0, Px.asg, Px.gnm, Px.ret, Px.retN, Px.drop, Px.nxt, Px.brk, Px.cnt, Px.ifs, Px.op, Px.un, Px.tst, Px.tbl, Px.tand, Px.tor, Px.tnot, Px.andv, Px.orv, Px.notv, Px.tif, Px.tup, Px.lst, Px.nil, Px.cons, Px.cal, Px.calS, Px.cb, Px.par, Px.gsub, Px.bits, Px.bm, Px.bm0, Px.ri, Px.ri0, Px.ru, Px.req, Px.rne, Px.rix, Px.rlen, Px.rin, Px.rsetl, Px.risi, Px.tyH_n, Px.tyH_b, Px.tyH_i, Px.tyH_s, Px.tyH_r, Px.seqH_t, Px.seqH_l, Px.seqH_fl, Px.sc_ii, Px.sc_bb, Px.sc_ss, Px.atI0, Px.atI1, Px.atI2, Px.atI3, Px.atI4, Px.atI5, Px.atI6, Px.atI7, Px.kb_NoneType_int, Px.kb_NoneType_bool, Px.kb_NoneType_str, Px.kb_NoneType_list, Px.kb_NoneType_tuple, Px.kb_NoneType_dict, Px.kb_bool_int, Px.kb_bool_bool, Px.kb_bool_str, Px.kb_bool_list, Px.kb_bool_tuple, Px.kb_bool_dict, Px.kb_int_int, Px.kb_int_bool, Px.kb_int_str, Px.kb_int_list, Px.kb_int_tuple, Px.kb_int_dict, Px.kb_str_int, Px.kb_str_bool, Px.kb_str_str, Px.kb_str_list, Px.kb_str_tuple, Px.kb_str_dict, Px.kb_list_int, Px.kb_list_bool, Px.kb_list_str, Px.kb_list_list, Px.kb_list_tuple, Px.kb_list_dict, Px.kb_tuple_int, Px.kb_tuple_bool, Px.kb_tuple_str, Px.kb_tuple_list, Px.kb_tuple_tuple, Px.kb_tuple_dict, Px.kb_dict_int, Px.kb_dict_bool, Px.kb_dict_str, Px.kb_dict_list, Px.kb_dict_tuple, Px.kb_dict_dict, L2.upd_same, Px.updI, L2.ixN, List.set_cons_zero, List.set_cons_succ, List.length_cons, List.length_nil, Nat.reduceAdd, Nat.zero_add, L2.HO.lst.injEq, L2.HO.tup.injEq, L2.upd_upd, L2.V.int.injEq, L2.V.ref.injEq, L2.V.bl.injEq, L2.V.str.injEq, L2.V.ty.injEq, List.cons.injEq, and_true, true_and, and_false, false_and, or_false, false_or, exists_eq_left', exists_eq_left, exists_and_left, exists_const, exists_false, Option.some.injEq, decide_eq_true_eq, List.append_nil, List.cons_append, List.nil_append, Option.isSome_some, Bool.not_true, Bool.not_false, Bool.not_eq_true', Bool.not_eq_true, Bool.false_eq_true, decide_eq_false_iff_not, if_true, if_false, ite_true, ite_false, Int.reduceLE, Int.reduceLT, Int.reduceToNat, Int.cast_ofNat_Int, Bool.true_eq_false, eq_self, ↓reduceIte, reduceCtorEq, Px.aug, Px.ipi, Px.tri, Px.rcatth, Px.flh, Px.sfl, Px.met, Px.mak, *]
          -- the end of a turn
          have fin : ∀ (e' : V) (H4 : Hp) (t : Addr), Px.Ext H3 H4 → Dt H4 e' (det (ren (rank xs) (at_ xs kk))) → H4 t = none → ∃ z, (upd H4 t (.tup [.str (kd (at_ xs kk)), .ref c, e'])) r = some (.lst z) ∧ z.length < sizeLine ∧
              IDu2 a q D r xs H G1 (i + 1) [some (.ref a), some (.int ((xs.length : Int) - 1)), some (.ref q), some (.int (kk : Int)), some e', none, some (.ref D), some (.ref r), some (.str (kd (at_ xs kk))), some (.ref c)] (upd (upd H4 t (.tup [.str (kd (at_ xs kk)), .ref c, e'])) r (.lst (z ++ [.ref t]))) := by
            intro e' H4 t e4 de nt
            have yt : Px.Ext H4 (upd H4 t (.tup [.str (kd (at_ xs kk)), .ref c, e'])) := (Px.Ext.rfl' H4).new nt
            have xt : (upd H4 t (.tup [.str (kd (at_ xs kk)), .ref c, e'])) t = some (.tup [.str (kd (at_ xs kk)), .ref c, e']) := upd_same
            generalize upd H4 t (.tup [.str (kd (at_ xs kk)), .ref c, e']) = H5 at *
            have e35 := e4.trans yt
            have tu6 : Tu H5 (upd H5 r (.lst (ys ++ [.ref t]))) := (Tu.rfl' H5).mut (by rw [e35.get hy]; rfl)
            refine ⟨ys, e35.get hy, Nat.lt_of_lt_of_le (show ys.length < 100 by have := rank_self xs xs.length; have : (kept xs).length = rank xs xs.length := rfl; omega) (by decide), ⟨_, _, _, _, rfl⟩, (e3.trans e35).mut hrH, ?_, _, upd_same, ?_⟩
            · rw [upd_ne nrD.symm, e35.get hDk, hz1]
            · rw [tk, List.map_append]
              refine (dys.mono (e35.tu.trans tu6)).app (.cons ?_ .nil)
              refine enc_mk (c := c) (e := e') ?_ ?_ ((de.mono yt.tu).mono tu6)
              · rw [kd_ren]
                exact tu6.get xt
              · rw [ln_ren]
                exact tu6.get (e35.get g2)
          cases ex : at_ xs kk with
          | oth k9 ll dd =>
            rw [ex] at g1 g2 g3 ok fin
            have nk : ¬ kd (.oth k9 ll dd) = "resolve" := ok.2.1
            simp only [decide_true, decide_false, List.map_cons, List.map_nil, Option.map_none, Option.map_some, Option.getD_none, Option.getD_some, Px.dg2, Px.dg1, Px.dg, Px.din, Px.dnotin, Px.dnew, Px.dput, Px.isD_is, Px.dget_i, Px.dget_s, Px.dput_i, Px.dput_s, Px.dOf_d, Px.rtup, Px.rlist, Px.rsl, Px.rsort, Px.rcat, Px.rapp, Px.rrev, Px.sl_ap, Px.nop, Px.part, Px.yes, Px.tyl, Px.isL_l, Px.isT_t, Px.isL_t, Px.isT_l, Px.isD_d, Px.isT_d, Px.inV_ints, Px.flat_ints, Px.flatV_i, Px.wipe_cons, Px.wipe_nil, Px.gtup, Px.gcons, Px.gnil, gt_iff_lt, ge_iff_le, Px.we, Px.wonly, Px.was, Px.cxK, not_true_eq_false, and_self, true_implies, false_implies, implies_true, Px.e0, and_assoc, imp_false, not_false_eq_true, ne_eq, Px.rgcd, Px.rixl, Px.rixt, Px.v0, Px.v1, Px.v2, Px.v3, Px.v4, Px.v5, Px.v6, Px.v7, Px.v8, Px.v9, Px.v10, Px.v11, Px.v12, Px.v13, Px.v14, Px.v15, Px.v16, Px.v17, Px.v18, Px.v19, Px.v20, Px.v21, Px.v22, Px.v23, Px.c0, Px.asg, Px.gnm, Px.ret, Px.retN, Px.drop, Px.nxt, Px.brk, Px.cnt, Px.ifs, Px.op, Px.un, Px.tst, Px.tbl, Px.tand, Px.tor, Px.tnot, Px.andv, Px.orv, Px.notv, Px.tif, Px.tup, Px.lst, Px.nil, Px.cons, Px.cal, Px.calS, Px.cb, Px.par, Px.gsub, Px.bits, Px.bm, Px.bm0, Px.ri, Px.ri0, Px.ru, Px.req, Px.rne, Px.rix, Px.rlen, Px.rin, Px.rsetl, Px.risi, Px.tyH_n, Px.tyH_b, Px.tyH_i, Px.tyH_s, Px.tyH_r, Px.seqH_t, Px.seqH_l, Px.seqH_fl, Px.sc_ii, Px.sc_bb, Px.sc_ss, Px.atI0, Px.atI1, Px.atI2, Px.atI3, Px.atI4, Px.atI5, Px.atI6, Px.atI7, Px.kb_NoneType_int, Px.kb_NoneType_bool, Px.kb_NoneType_str, Px.kb_NoneType_list, Px.kb_NoneType_tuple, Px.kb_NoneType_dict, Px.kb_bool_int, Px.kb_bool_bool, Px.kb_bool_str, Px.kb_bool_list, Px.kb_bool_tuple, Px.kb_bool_dict, Px.kb_int_int, Px.kb_int_bool, Px.kb_int_str, Px.kb_int_list, Px.kb_int_tuple, Px.kb_int_dict, Px.kb_str_int, Px.kb_str_bool, Px.kb_str_str, Px.kb_str_list, Px.kb_str_tuple, Px.kb_str_dict, Px.kb_list_int, Px.kb_list_bool, Px.kb_list_str, Px.kb_list_list, Px.kb_list_tuple, Px.kb_list_dict, Px.kb_tuple_int, Px.kb_tuple_bool, Px.kb_tuple_str, Px.kb_tuple_list, Px.kb_tuple_tuple, Px.kb_tuple_dict, Px.kb_dict_int, Px.kb_dict_bool, Px.kb_dict_str, Px.kb_dict_list, Px.kb_dict_tuple, Px.kb_dict_dict, L2.upd_same, Px.updI, L2.ixN, List.set_cons_zero, List.set_cons_succ, List.length_cons, List.length_nil, Nat.reduceAdd, Nat.zero_add, L2.HO.lst.injEq, L2.HO.tup.injEq, L2.upd_upd, L2.V.int.injEq, L2.V.ref.injEq, L2.V.bl.injEq, L2.V.str.injEq, L2.V.ty.injEq, List.cons.injEq, and_true, true_and, and_false, false_and, or_false, false_or, exists_eq_left', exists_eq_left, exists_and_left, exists_const, exists_false, Option.some.injEq, decide_eq_true_eq, List.append_nil, List.cons_append, List.nil_append, Option.isSome_some, Bool.not_true, Bool.not_false, Bool.not_eq_true', Bool.not_eq_true, Bool.false_eq_true, decide_eq_false_iff_not, if_true, if_false, ite_true, ite_false, Int.reduceLE, Int.reduceLT, Int.reduceToNat, Int.cast_ofNat_Int, Bool.true_eq_false, eq_self, ↓reduceIte, reduceCtorEq, Px.aug, Px.ipi, Px.tri, Px.rcatth, Px.flh, Px.sfl, Px.met, Px.mak, *, Px.seq]
            exact ⟨by decide, fun t nt => fin e H3 t (Px.Ext.rfl' H3) g3 nt⟩
          | res ll f0 ss =>
            have num : ∀ z, z ∈ refs (at_ xs kk) → z < xs.length ∧ W xs z = true := fun z hz => ⟨by have := (wf.2 _ _ (at_get k1)).refs z hz; omega, W_refs wf k1 k2 hz⟩
            rw [ex] at g1 g2 g3 ok fin num
            have nk : kd (.res ll f0 ss) = "resolve" := rfl
            obtain ⟨b2, y2, us, rfl, m1, m2, m3⟩ := dt_inv g3
            have lu : us.length = ss.length := by rw [m3.len, List.length_map]; unfold zi; rw [List.length_map]
            obtain ⟨nf1, nf2⟩ := num f0 List.mem_cons_self
            simp only [decide_true, decide_false, List.map_cons, List.map_nil, Option.map_none, Option.map_some, Option.getD_none, Option.getD_some, Px.dg2, Px.dg1, Px.dg, Px.din, Px.dnotin, Px.dnew, Px.dput, Px.isD_is, Px.dget_i, Px.dget_s, Px.dput_i, Px.dput_s, Px.dOf_d, Px.rtup, Px.rlist, Px.rsl, Px.rsort, Px.rcat, Px.rapp, Px.rrev, Px.sl_ap, Px.nop, Px.part, Px.yes, Px.tyl, Px.isL_l, Px.isT_t, Px.isL_t, Px.isT_l, Px.isD_d, Px.isT_d, Px.inV_ints, Px.flat_ints, Px.flatV_i, Px.wipe_cons, Px.wipe_nil, Px.gtup, Px.gcons, Px.gnil, gt_iff_lt, ge_iff_le, Px.we, Px.wonly, Px.was, Px.cxK, not_true_eq_false, and_self, true_implies, false_implies, implies_true, Px.e0, and_assoc, imp_false, not_false_eq_true, ne_eq, Px.rgcd, Px.rixl, Px.rixt, Px.v0, Px.v1, Px.v2, Px.v3, Px.v4, Px.v5, Px.v6, Px.v7, Px.v8, Px.v9, Px.v10, Px.v11, Px.v12, Px.v13, Px.v14, Px.v15, Px.v16, Px.v17, Px.v18, Px.v19, Px.v20, Px.v21, Px.v22, Px.v23, Px.c0, Px.asg, Px.gnm, Px.ret, Px.retN, Px.drop, Px.nxt, Px.brk, Px.cnt, Px.ifs, Px.op, Px.un, Px.tst, Px.tbl, Px.tand, Px.tor, Px.tnot, Px.andv, Px.orv, Px.notv, Px.tif, Px.tup, Px.lst, Px.nil, Px.cons, Px.cal, Px.calS, Px.cb, Px.par, Px.gsub, Px.bits, Px.bm, Px.bm0, Px.ri, Px.ri0, Px.ru, Px.req, Px.rne, Px.rix, Px.rlen, Px.rin, Px.rsetl, Px.risi, Px.tyH_n, Px.tyH_b, Px.tyH_i, Px.tyH_s, Px.tyH_r, Px.seqH_t, Px.seqH_l, Px.seqH_fl, Px.sc_ii, Px.sc_bb, Px.sc_ss, Px.atI0, Px.atI1, Px.atI2, Px.atI3, Px.atI4, Px.atI5, Px.atI6, Px.atI7, Px.kb_NoneType_int, Px.kb_NoneType_bool, Px.kb_NoneType_str, Px.kb_NoneType_list, Px.kb_NoneType_tuple, Px.kb_NoneType_dict, Px.kb_bool_int, Px.kb_bool_bool, Px.kb_bool_str, Px.kb_bool_list, Px.kb_bool_tuple, Px.kb_bool_dict, Px.kb_int_int, Px.kb_int_bool, Px.kb_int_str, Px.kb_int_list, Px.kb_int_tuple, Px.kb_int_dict, Px.kb_str_int, Px.kb_str_bool, Px.kb_str_str, Px.kb_str_list, Px.kb_str_tuple, Px.kb_str_dict, Px.kb_list_int, Px.kb_list_bool, Px.kb_list_str, Px.kb_list_list, Px.kb_list_tuple, Px.kb_list_dict, Px.kb_tuple_int, Px.kb_tuple_bool, Px.kb_tuple_str, Px.kb_tuple_list, Px.kb_tuple_tuple, Px.kb_tuple_dict, Px.kb_dict_int, Px.kb_dict_bool, Px.kb_dict_str, Px.kb_dict_list, Px.kb_dict_tuple, Px.kb_dict_dict, L2.upd_same, Px.updI, L2.ixN, List.set_cons_zero, List.set_cons_succ, List.length_cons, List.length_nil, Nat.reduceAdd, Nat.zero_add, L2.HO.lst.injEq, L2.HO.tup.injEq, L2.upd_upd, L2.V.int.injEq, L2.V.ref.injEq, L2.V.bl.injEq, L2.V.str.injEq, L2.V.ty.injEq, List.cons.injEq, and_true, true_and, and_false, false_and, or_false, false_or, exists_eq_left', exists_eq_left, exists_and_left, exists_const, exists_false, Option.some.injEq, decide_eq_true_eq, List.append_nil, List.cons_append, List.nil_append, Option.isSome_some, Bool.not_true, Bool.not_false, Bool.not_eq_true', Bool.not_eq_true, Bool.false_eq_true, decide_eq_false_iff_not, if_true, if_false, ite_true, ite_false, Int.reduceLE, Int.reduceLT, Int.reduceToNat, Int.cast_ofNat_Int, Bool.true_eq_false, eq_self, ↓reduceIte, reduceCtorEq, Px.aug, Px.ipi, Px.tri, Px.rcatth, Px.flh, Px.sfl, Px.met, Px.mak, *, Px.seq]
            refine idx_ok hDk nf1 nf2 ?_
            refine lc_seq (xs := us) (fun _ => true) (fun i => prd ((ss.getD i (0, 0)).1, ((rank xs (ss.getD i (0, 0)).2 : Nat) : Int))) (fun Q q => by simp only [decide_true, decide_false, List.map_cons, List.map_nil, Option.map_none, Option.map_some, Option.getD_none, Option.getD_some, Px.dg2, Px.dg1, Px.dg, Px.din, Px.dnotin, Px.dnew, Px.dput, Px.isD_is, Px.dget_i, Px.dget_s, Px.dput_i, Px.dput_s, Px.dOf_d, Px.rtup, Px.rlist, Px.rsl, Px.rsort, Px.rcat, Px.rapp, Px.rrev, Px.sl_ap, Px.nop, Px.part, Px.yes, Px.tyl, Px.isL_l, Px.isT_t, Px.isL_t, Px.isT_l, Px.isD_d, Px.isT_d, Px.inV_ints, Px.flat_ints, Px.flatV_i, Px.wipe_cons, Px.wipe_nil, Px.gtup, Px.gcons, Px.gnil, gt_iff_lt, ge_iff_le, Px.we, Px.wonly, Px.was, Px.cxK, not_true_eq_false, and_self, true_implies, false_implies, implies_true, Px.e0, and_assoc, imp_false, not_false_eq_true, ne_eq, Px.rgcd, Px.rixl, Px.rixt, Px.v0, Px.v1, Px.v2, Px.v3, Px.v4, Px.v5, Px.v6, Px.v7, Px.v8, Px.v9, Px.v10, Px.v11, Px.v12, Px.v13, Px.v14, Px.v15, Px.v16, Px.v17, Px.v18, Px.v19, Px.v20, Px.v21, Px.v22, Px.v23, Px.c0, Px.asg, Px.gnm, Px.ret, Px.retN, Px.drop, Px.nxt, Px.brk, Px.cnt, Px.ifs, Px.op, Px.un, Px.tst, Px.tbl, Px.tand, Px.tor, Px.tnot, Px.andv, Px.orv, Px.notv, Px.tif, Px.tup, Px.lst, Px.nil, Px.cons, Px.cal, Px.calS, Px.cb, Px.par, Px.gsub, Px.bits, Px.bm, Px.bm0, Px.ri, Px.ri0, Px.ru, Px.req, Px.rne, Px.rix, Px.rlen, Px.rin, Px.rsetl, Px.risi, Px.tyH_n, Px.tyH_b, Px.tyH_i, Px.tyH_s, Px.tyH_r, Px.seqH_t, Px.seqH_l, Px.seqH_fl, Px.sc_ii, Px.sc_bb, Px.sc_ss, Px.atI0, Px.atI1, Px.atI2, Px.atI3, Px.atI4, Px.atI5, Px.atI6, Px.atI7, Px.kb_NoneType_int, Px.kb_NoneType_bool, Px.kb_NoneType_str, Px.kb_NoneType_list, Px.kb_NoneType_tuple, Px.kb_NoneType_dict, Px.kb_bool_int, Px.kb_bool_bool, Px.kb_bool_str, Px.kb_bool_list, Px.kb_bool_tuple, Px.kb_bool_dict, Px.kb_int_int, Px.kb_int_bool, Px.kb_int_str, Px.kb_int_list, Px.kb_int_tuple, Px.kb_int_dict, Px.kb_str_int, Px.kb_str_bool, Px.kb_str_str, Px.kb_str_list, Px.kb_str_tuple, Px.kb_str_dict, Px.kb_list_int, Px.kb_list_bool, Px.kb_list_str, Px.kb_list_list, Px.kb_list_tuple, Px.kb_list_dict, Px.kb_tuple_int, Px.kb_tuple_bool, Px.kb_tuple_str, Px.kb_tuple_list, Px.kb_tuple_tuple, Px.kb_tuple_dict, Px.kb_dict_int, Px.kb_dict_bool, Px.kb_dict_str, Px.kb_dict_list, Px.kb_dict_tuple, Px.kb_dict_dict, L2.upd_same, Px.updI, L2.ixN, List.set_cons_zero, List.set_cons_succ, List.length_cons, List.length_nil, Nat.reduceAdd, Nat.zero_add, L2.HO.lst.injEq, L2.HO.tup.injEq, L2.upd_upd, L2.V.int.injEq, L2.V.ref.injEq, L2.V.bl.injEq, L2.V.str.injEq, L2.V.ty.injEq, List.cons.injEq, and_true, true_and, and_false, false_and, or_false, false_or, exists_eq_left', exists_eq_left, exists_and_left, exists_const, exists_false, Option.some.injEq, decide_eq_true_eq, List.append_nil, List.cons_append, List.nil_append, Option.isSome_some, Bool.not_true, Bool.not_false, Bool.not_eq_true', Bool.not_eq_true, Bool.false_eq_true, decide_eq_false_iff_not, if_true, if_false, ite_true, ite_false, Int.reduceLE, Int.reduceLT, Int.reduceToNat, Int.cast_ofNat_Int, Bool.true_eq_false, eq_self, ↓reduceIte, reduceCtorEq, Px.aug, Px.ipi, Px.tri, Px.rcatth, Px.flh, Px.sfl, Px.met, Px.mak, *]; exact q) (by rw [m2]; rfl) (by have := ok.2.2.1; omega) (fun i x hi => ?_) (fun D2 ys2 H4 hD2 e4 hy4 hall => ?_)
            · have li : i < ss.length := by rw [← lu]; exact (List.getElem?_eq_some_iff.mp hi).1
              obtain ⟨p, hp⟩ : ∃ p, ss[i]? = some p := ⟨_, List.getElem?_eq_getElem li⟩
              have ep : ss.getD i (0, 0) = p := by rw [List.getD_eq_getElem?_getD, hp]; rfl
              obtain ⟨np1, np2⟩ := num p.2 (List.mem_cons_of_mem _ (List.mem_map.mpr ⟨p, List.mem_of_getElem? hp, rfl⟩))
              intro H4 R' E' e4 _ k4
              simp only [ep] at k4
              obtain ⟨v, hv, dv⟩ := (m3.mono e4.tu).get' (show ((zi ss).map prd)[i]? = some (prd (p.1, (p.2 : Int))) by rw [zi, List.getElem?_map, List.getElem?_map, hp]; rfl)
              rw [hi] at hv
              cases hv
              obtain ⟨b9, rfl, hb⟩ := pr_inv dv
              have hD4 := e4.get hDk
              simp only [decide_true, decide_false, List.map_cons, List.map_nil, Option.map_none, Option.map_some, Option.getD_none, Option.getD_some, Px.dg2, Px.dg1, Px.dg, Px.din, Px.dnotin, Px.dnew, Px.dput, Px.isD_is, Px.dget_i, Px.dget_s, Px.dput_i, Px.dput_s, Px.dOf_d, Px.rtup, Px.rlist, Px.rsl, Px.rsort, Px.rcat, Px.rapp, Px.rrev, Px.sl_ap, Px.nop, Px.part, Px.yes, Px.tyl, Px.isL_l, Px.isT_t, Px.isL_t, Px.isT_l, Px.isD_d, Px.isT_d, Px.inV_ints, Px.flat_ints, Px.flatV_i, Px.wipe_cons, Px.wipe_nil, Px.gtup, Px.gcons, Px.gnil, gt_iff_lt, ge_iff_le, Px.we, Px.wonly, Px.was, Px.cxK, not_true_eq_false, and_self, true_implies, false_implies, implies_true, Px.e0, and_assoc, imp_false, not_false_eq_true, ne_eq, Px.rgcd, Px.rixl, Px.rixt, Px.v0, Px.v1, Px.v2, Px.v3, Px.v4, Px.v5, Px.v6, Px.v7, Px.v8, Px.v9, Px.v10, Px.v11, Px.v12, Px.v13, Px.v14, Px.v15, Px.v16, Px.v17, Px.v18, Px.v19, Px.v20, Px.v21, Px.v22, Px.v23, Px.c0, Px.asg, Px.gnm, Px.ret, Px.retN, Px.drop, Px.nxt, Px.brk, Px.cnt, Px.ifs, Px.op, Px.un, Px.tst, Px.tbl, Px.tand, Px.tor, Px.tnot, Px.andv, Px.orv, Px.notv, Px.tif, Px.tup, Px.lst, Px.nil, Px.cons, Px.cal, Px.calS, Px.cb, Px.par, Px.gsub, Px.bits, Px.bm, Px.bm0, Px.ri, Px.ri0, Px.ru, Px.req, Px.rne, Px.rix, Px.rlen, Px.rin, Px.rsetl, Px.risi, Px.tyH_n, Px.tyH_b, Px.tyH_i, Px.tyH_s, Px.tyH_r, Px.seqH_t, Px.seqH_l, Px.seqH_fl, Px.sc_ii, Px.sc_bb, Px.sc_ss, Px.atI0, Px.atI1, Px.atI2, Px.atI3, Px.atI4, Px.atI5, Px.atI6, Px.atI7, Px.kb_NoneType_int, Px.kb_NoneType_bool, Px.kb_NoneType_str, Px.kb_NoneType_list, Px.kb_NoneType_tuple, Px.kb_NoneType_dict, Px.kb_bool_int, Px.kb_bool_bool, Px.kb_bool_str, Px.kb_bool_list, Px.kb_bool_tuple, Px.kb_bool_dict, Px.kb_int_int, Px.kb_int_bool, Px.kb_int_str, Px.kb_int_list, Px.kb_int_tuple, Px.kb_int_dict, Px.kb_str_int, Px.kb_str_bool, Px.kb_str_str, Px.kb_str_list, Px.kb_str_tuple, Px.kb_str_dict, Px.kb_list_int, Px.kb_list_bool, Px.kb_list_str, Px.kb_list_list, Px.kb_list_tuple, Px.kb_list_dict, Px.kb_tuple_int, Px.kb_tuple_bool, Px.kb_tuple_str, Px.kb_tuple_list, Px.kb_tuple_tuple, Px.kb_tuple_dict, Px.kb_dict_int, Px.kb_dict_bool, Px.kb_dict_str, Px.kb_dict_list, Px.kb_dict_tuple, Px.kb_dict_dict, L2.upd_same, Px.updI, L2.ixN, List.set_cons_zero, List.set_cons_succ, List.length_cons, List.length_nil, Nat.reduceAdd, Nat.zero_add, L2.HO.lst.injEq, L2.HO.tup.injEq, L2.upd_upd, L2.V.int.injEq, L2.V.ref.injEq, L2.V.bl.injEq, L2.V.str.injEq, L2.V.ty.injEq, List.cons.injEq, and_true, true_and, and_false, false_and, or_false, false_or, exists_eq_left', exists_eq_left, exists_and_left, exists_const, exists_false, Option.some.injEq, decide_eq_true_eq, List.append_nil, List.cons_append, List.nil_append, Option.isSome_some, Bool.not_true, Bool.not_false, Bool.not_eq_true', Bool.not_eq_true, Bool.false_eq_true, decide_eq_false_iff_not, if_true, if_false, ite_true, ite_false, Int.reduceLE, Int.reduceLT, Int.reduceToNat, Int.cast_ofNat_Int, Bool.true_eq_false, eq_self, ↓reduceIte, reduceCtorEq, Px.aug, Px.ipi, Px.tri, Px.rcatth, Px.flh, Px.sfl, Px.met, Px.mak, *]
              refine idx_ok hD4 np1 np2 ⟨by decide, fun q9 hq9 => ?_⟩
              exact k4 trivial _ _ ((Px.Ext.rfl' H4).new hq9) (prt (p := (p.1, ((rank xs p.2 : Nat) : Int))) upd_same)
            · rw [lu, given_eq ss (0, 0) (fun _ => true) (fun p => prd (p.1, ((rank xs p.2 : Nat) : Int))), List.filter_eq_self.mpr (fun _ _ => rfl)] at hall
              simp only [decide_true, decide_false, List.map_cons, List.map_nil, Option.map_none, Option.map_some, Option.getD_none, Option.getD_some, Px.dg2, Px.dg1, Px.dg, Px.din, Px.dnotin, Px.dnew, Px.dput, Px.isD_is, Px.dget_i, Px.dget_s, Px.dput_i, Px.dput_s, Px.dOf_d, Px.rtup, Px.rlist, Px.rsl, Px.rsort, Px.rcat, Px.rapp, Px.rrev, Px.sl_ap, Px.nop, Px.part, Px.yes, Px.tyl, Px.isL_l, Px.isT_t, Px.isL_t, Px.isT_l, Px.isD_d, Px.isT_d, Px.inV_ints, Px.flat_ints, Px.flatV_i, Px.wipe_cons, Px.wipe_nil, Px.gtup, Px.gcons, Px.gnil, gt_iff_lt, ge_iff_le, Px.we, Px.wonly, Px.was, Px.cxK, not_true_eq_false, and_self, true_implies, false_implies, implies_true, Px.e0, and_assoc, imp_false, not_false_eq_true, ne_eq, Px.rgcd, Px.rixl, Px.rixt, Px.v0, Px.v1, Px.v2, Px.v3, Px.v4, Px.v5, Px.v6, Px.v7, Px.v8, Px.v9, Px.v10, Px.v11, Px.v12, Px.v13, Px.v14, Px.v15, Px.v16, Px.v17, Px.v18, Px.v19, Px.v20, Px.v21, Px.v22, Px.v23, Px.c0, Px.asg, Px.gnm, Px.ret, Px.retN, Px.drop, Px.nxt, Px.brk, Px.cnt, Px.ifs, Px.op, Px.un, Px.tst, Px.tbl, Px.tand, Px.tor, Px.tnot, Px.andv, Px.orv, Px.notv, Px.tif, Px.tup, Px.lst, Px.nil, Px.cons, Px.cal, Px.calS, Px.cb, Px.par, Px.gsub, Px.bits, Px.bm, Px.bm0, Px.ri, Px.ri0, Px.ru, Px.req, Px.rne, Px.rix, Px.rlen, Px.rin, Px.rsetl, Px.risi, Px.tyH_n, Px.tyH_b, Px.tyH_i, Px.tyH_s, Px.tyH_r, Px.seqH_t, Px.seqH_l, Px.seqH_fl, Px.sc_ii, Px.sc_bb, Px.sc_ss, Px.atI0, Px.atI1, Px.atI2, Px.atI3, Px.atI4, Px.atI5, Px.atI6, Px.atI7, Px.kb_NoneType_int, Px.kb_NoneType_bool, Px.kb_NoneType_str, Px.kb_NoneType_list, Px.kb_NoneType_tuple, Px.kb_NoneType_dict, Px.kb_bool_int, Px.kb_bool_bool, Px.kb_bool_str, Px.kb_bool_list, Px.kb_bool_tuple, Px.kb_bool_dict, Px.kb_int_int, Px.kb_int_bool, Px.kb_int_str, Px.kb_int_list, Px.kb_int_tuple, Px.kb_int_dict, Px.kb_str_int, Px.kb_str_bool, Px.kb_str_str, Px.kb_str_list, Px.kb_str_tuple, Px.kb_str_dict, Px.kb_list_int, Px.kb_list_bool, Px.kb_list_str, Px.kb_list_list, Px.kb_list_tuple, Px.kb_list_dict, Px.kb_tuple_int, Px.kb_tuple_bool, Px.kb_tuple_str, Px.kb_tuple_list, Px.kb_tuple_tuple, Px.kb_tuple_dict, Px.kb_dict_int, Px.kb_dict_bool, Px.kb_dict_str, Px.kb_dict_list, Px.kb_dict_tuple, Px.kb_dict_dict, L2.upd_same, Px.updI, L2.ixN, List.set_cons_zero, List.set_cons_succ, List.length_cons, List.length_nil, Nat.reduceAdd, Nat.zero_add, L2.HO.lst.injEq, L2.HO.tup.injEq, L2.upd_upd, L2.V.int.injEq, L2.V.ref.injEq, L2.V.bl.injEq, L2.V.str.injEq, L2.V.ty.injEq, List.cons.injEq, and_true, true_and, and_false, false_and, or_false, false_or, exists_eq_left', exists_eq_left, exists_and_left, exists_const, exists_false, Option.some.injEq, decide_eq_true_eq, List.append_nil, List.cons_append, List.nil_append, Option.isSome_some, Bool.not_true, Bool.not_false, Bool.not_eq_true', Bool.not_eq_true, Bool.false_eq_true, decide_eq_false_iff_not, if_true, if_false, ite_true, ite_false, Int.reduceLE, Int.reduceLT, Int.reduceToNat, Int.cast_ofNat_Int, Bool.true_eq_false, eq_self, ↓reduceIte, reduceCtorEq, Px.aug, Px.ipi, Px.tri, Px.rcatth, Px.flh, Px.sfl, Px.met, Px.mak, *]
              intro l nl
              refine ⟨by decide, fun p np => ?_⟩
              have y1 : Px.Ext H4 (upd H4 l (.tup ys2)) := (Px.Ext.rfl' H4).new nl
              have x1 : (upd H4 l (.tup ys2)) l = some (.tup ys2) := upd_same
              generalize upd H4 l (.tup ys2) = G2 at *
              have y2 : Px.Ext G2 (upd G2 p (.tup [.int ((rank xs f0 : Nat) : Int), .ref l])) := (Px.Ext.rfl' G2).new np
              have x2 : (upd G2 p (.tup [.int ((rank xs f0 : Nat) : Int), .ref l])) p = some (.tup [.int ((rank xs f0 : Nat) : Int), .ref l]) := upd_same
              generalize upd G2 p (.tup [.int ((rank xs f0 : Nat) : Int), .ref l]) = G3 at *
              have y := (e4.trans y1).trans y2
              refine ⟨by rw [tyl (by rw [y.get hy]; rfl)]; trivial, by decide, fun t nt => fin (.ref p) G3 t y ?_ nt⟩
              have e6 : ss.map (fun p => prd (p.1, ((rank xs p.2 : Nat) : Int))) = (zi (ss.map fun p => (p.1, rank xs p.2))).map prd := by
                unfold zi
                rw [List.map_map, List.map_map]
                rfl
              rw [e6] at hall
              exact .tup x2 (.cons (.int _) (.cons (.tup (y2.get x1) (hall.mono (y1.trans y2).tu)) .nil))
      · rintro σ' H3 ⟨⟨w1, w2, w3, w4, rfl⟩, e3, hD3, ys, hy, dys⟩
        simp only [decide_true, decide_false, List.map_cons, List.map_nil, Option.map_none, Option.map_some, Option.getD_none, Option.getD_some, Px.dg2, Px.dg1, Px.dg, Px.din, Px.dnotin, Px.dnew, Px.dput, Px.isD_is, Px.dget_i, Px.dget_s, Px.dput_i, Px.dput_s, Px.dOf_d, Px.rtup, Px.rlist, Px.rsl, Px.rsort, Px.rcat, Px.rapp, Px.rrev, Px.sl_ap, Px.nop, Px.part, Px.yes, Px.tyl, Px.isL_l, Px.isT_t, Px.isL_t, Px.isT_l, Px.isD_d, Px.isT_d, Px.inV_ints, Px.flat_ints, Px.flatV_i, Px.wipe_cons, Px.wipe_nil, Px.gtup, Px.gcons, Px.gnil, gt_iff_lt, ge_iff_le, Px.we, Px.wonly, Px.was, Px.cxK, not_true_eq_false, and_self, true_implies, false_implies, implies_true, Px.e0, and_assoc, imp_false, not_false_eq_true, ne_eq, Px.rgcd, Px.rixl, Px.rixt, Px.v0, Px.v1, Px.v2, Px.v3, Px.v4, Px.v5, Px.v6, Px.v7, Px.v8, Px.v9, Px.v10, Px.v11, Px.v12, Px.v13, Px.v14, Px.v15, Px.v16, Px.v17, Px.v18, Px.v19, Px.v20, Px.v21, Px.v22, Px.v23, Px.c0, Px.asg, Px.gnm, Px.ret, Px.retN, Px.drop, Px.nxt, Px.brk, Px.cnt, Px.ifs, Px.op, Px.un, Px.tst, Px.tbl, Px.tand, Px.tor, Px.tnot, Px.andv, Px.orv, Px.notv, Px.tif, Px.tup, Px.lst, Px.nil, Px.cons, Px.cal, Px.calS, Px.cb, Px.par, Px.gsub, Px.bits, Px.bm, Px.bm0, Px.ri, Px.ri0, Px.ru, Px.req, Px.rne, Px.rix, Px.rlen, Px.rin, Px.rsetl, Px.risi, Px.tyH_n, Px.tyH_b, Px.tyH_i, Px.tyH_s, Px.tyH_r, Px.seqH_t, Px.seqH_l, Px.seqH_fl, Px.sc_ii, Px.sc_bb, Px.sc_ss, Px.atI0, Px.atI1, Px.atI2, Px.atI3, Px.atI4, Px.atI5, Px.atI6, Px.atI7, Px.kb_NoneType_int, Px.kb_NoneType_bool, Px.kb_NoneType_str, Px.kb_NoneType_list, Px.kb_NoneType_tuple, Px.kb_NoneType_dict, Px.kb_bool_int, Px.kb_bool_bool, Px.kb_bool_str, Px.kb_bool_list, Px.kb_bool_tuple, Px.kb_bool_dict, Px.kb_int_int, Px.kb_int_bool, Px.kb_int_str, Px.kb_int_list, Px.kb_int_tuple, Px.kb_int_dict, Px.kb_str_int, Px.kb_str_bool, Px.kb_str_str, Px.kb_str_list, Px.kb_str_tuple, Px.kb_str_dict, Px.kb_list_int, Px.kb_list_bool, Px.kb_list_str, Px.kb_list_list, Px.kb_list_tuple, Px.kb_list_dict, Px.kb_tuple_int, Px.kb_tuple_bool, Px.kb_tuple_str, Px.kb_tuple_list, Px.kb_tuple_tuple, Px.kb_tuple_dict, Px.kb_dict_int, Px.kb_dict_bool, Px.kb_dict_str, Px.kb_dict_list, Px.kb_dict_tuple, Px.kb_dict_dict, L2.upd_same, Px.updI, L2.ixN, List.set_cons_zero, List.set_cons_succ, List.length_cons, List.length_nil, Nat.reduceAdd, Nat.zero_add, L2.HO.lst.injEq, L2.HO.tup.injEq, L2.upd_upd, L2.V.int.injEq, L2.V.ref.injEq, L2.V.bl.injEq, L2.V.str.injEq, L2.V.ty.injEq, List.cons.injEq, and_true, true_and, and_false, false_and, or_false, false_or, exists_eq_left', exists_eq_left, exists_and_left, exists_const, exists_false, Option.some.injEq, decide_eq_true_eq, List.append_nil, List.cons_append, List.nil_append, Option.isSome_some, Bool.not_true, Bool.not_false, Bool.not_eq_true', Bool.not_eq_true, Bool.false_eq_true, decide_eq_false_iff_not, if_true, if_false, ite_true, ite_false, Int.reduceLE, Int.reduceLT, Int.reduceToNat, Int.cast_ofNat_Int, Bool.true_eq_false, eq_self, ↓reduceIte, reduceCtorEq, Px.aug, Px.ipi, Px.tri, Px.rcatth, Px.flh, Px.sfl, Px.met, Px.mak]
        refine k _ _ hrH ⟨ys, hy, ?_⟩ e3
        rw [show (iks xs).length = (kept xs).length by unfold iks; rw [List.length_map], List.take_length] at dys
        unfold due
        rw [List.map_map]
        exact dys
end
end K03

namespace K03
open PySem PySem.Spec PyProof.Rows L2 Px
section
variable {P : Program} {w : World} {K : PySem.W.Frag} {mg : Str → Option Value} {base : Heap} {C : Addr}
def spTrims (vs : List V) (H : Hp) (Q : VK) (_ : XK) : Prop := ∃ (a : Addr) (xs : List St), vs = [.ref a] ∧ Steps H a xs ∧ Wf xs ∧ ∀ H', Px.Ext H H' → Q (.bl true) H'
theorem Steps.but1 {H H' : Hp} {p a : Addr} {xs : List St} (h : Steps H a xs) (n : a ≠ p) (nt : isT (H p) = false) (b : But p H H') : Steps H' a xs := by
  obtain ⟨vs, h1, h2⟩ := h
  exact ⟨vs, b.get n h1, h2.mono (b.tu nt)⟩
theorem Steps.nt {H : Hp} {a : Addr} {xs : List St} (h : Steps H a xs) : isT (H a) = false := by
  obtain ⟨vs, h1, h2⟩ := h
  rw [h1]
  rfl
theorem ok_trims (B : Bn mg) (F : FunAt K mg "_law_trims" s_law_trims) (D_law_due : Def P w K mg base CX0 1 "_law_due" ["steps"] spDue) (D_trim : Def P w K mg base CX0 3 "trim" ["steps"] spTrim) (D_law_alike_lists : Def P w K mg base CX0 8 "_law_alike_lists" ["told", "due"] spAlL) : Def P w K mg base CX0 9 "_law_trims" ["steps"] spTrims := by
  refine F.ok sc_law_trims (fun _ _ _ _ _ _ us hl => match us, hl with | [_], _ => rfl) (fun vs H Q E h => by obtain ⟨_, _, rfl, _⟩ := h; rfl) (fun f cdv A outer s H vs Q E hr h => ?_)
  obtain ⟨a, xs, rfl, hS, wf, k⟩ := h
  refine ⟨_, pss_cons (ps_set (i := 1) sc_law_trims.nd rfl (Or.inl rfl) (pe_fn D_law_due (hr.mono (by decide)) pass0 (pa_cons (pv 0) pa_nil))) (
  pss_cons (ps_set (i := 2) sc_law_trims.nd rfl (Or.inl rfl) (pe_callTy list_H rfl B.list_ (by decide +kernel) (pa_cons (pv 0) pa_nil))) (
  pss_cons (ps_set (i := 3) sc_law_trims.nd rfl (Or.inl rfl) (pe_fn D_trim (hr.mono (by decide)) pass0 (pa_cons (pv 2) pa_nil))) (
  pss_cons (ps_set (i := 4) sc_law_trims.nd rfl (Or.inl rfl) (pe_fn D_trim (hr.mono (by decide)) pass0 (pa_cons (pv 2) pa_nil))) (
  pss_cons (ps_if (pt_not (pt_val (pe_fn D_law_alike_lists hr pass0 (pa_cons (pv 2) (pa_cons (pv 0) pa_nil))))) (pss_one (ps_ret pe_bl)) (pss_nil)) (
  pss_cons (ps_expr (pe_bm PySem.F.plainAttrs_list PySem.F.slot_list_append PySem.F.type_list_append mt_append (pv 2) (pa_cons (pe_tup (pa_cons pe_str (pa_cons (pe_tup pa_nil) (pa_cons pe_non pa_nil)))) pa_nil))) (
  pss_cons (ps_if (PW.pt (pw_or (pt_not (pt_val (pe_fn D_law_alike_lists hr pass0 (pa_cons (pv 3) (pa_cons (pv 1) pa_nil))))) (pw_or1 (pt_not (pt_val (pe_fn D_law_alike_lists hr pass0 (pa_cons (pv 4) (pa_cons (pv 1) pa_nil)))))))) (pss_one (ps_ret pe_bl)) (pss_nil)) (
  pss_cons (ps_expr (pe_bm PySem.F.plainAttrs_list PySem.F.slot_list_append PySem.F.type_list_append mt_append (pv 3) (pa_cons (pe_tup (pa_cons pe_str (pa_cons (pe_tup pa_nil) (pa_cons pe_non pa_nil)))) pa_nil))) (
  pss_one (ps_ret (pe_and (pe_fn D_law_alike_lists hr pass0 (pa_cons (pv 4) (pa_cons (pv 1) pa_nil))) (pe_one (pe_fn D_law_alike_lists hr pass0 (pa_cons (pe_fn D_trim (hr.mono (by decide)) pass0 (pa_cons (pv 4) pa_nil)) (pa_cons (pv 1) pa_nil)))))))))))))), ?_⟩
  show tSeq _ _ _ [some (.ref a), none, none, none, none] H
  refine go_seq ?_
  simp only [decide_true, decide_false, List.map_cons, List.map_nil, Option.map_none, Option.map_some, Option.getD_none, Option.getD_some, Px.dg2, Px.dg1, Px.dg, Px.din, Px.dnotin, Px.dnew, Px.dput, Px.isD_is, Px.dget_i, Px.dget_s, Px.dput_i, Px.dput_s, Px.dOf_d, Px.rtup, Px.rlist, Px.rsl, Px.rsort, Px.rcat, Px.rapp, Px.rrev, Px.sl_ap, Px.nop, Px.part, Px.yes, Px.tyl, Px.isL_l, Px.isT_t, Px.isL_t, Px.isT_l, Px.isD_d, Px.isT_d, Px.inV_ints, Px.flat_ints, Px.flatV_i, Px.wipe_cons, Px.wipe_nil, Px.gtup, Px.gcons, Px.gnil, gt_iff_lt, ge_iff_le, Px.we, Px.wonly, Px.was, Px.cxK, not_true_eq_false, and_self, true_implies, false_implies, implies_true, Px.e0, and_assoc, imp_false, not_false_eq_true, ne_eq, Px.rgcd, Px.rixl, Px.rixt, Px.v0, Px.v1, Px.v2, Px.v3, Px.v4, Px.v5, Px.v6, Px.v7, Px.v8, Px.v9, Px.v10, Px.v11, Px.v12, Px.v13, Px.v14, Px.v15, Px.v16, Px.v17, Px.v18, Px.v19, Px.v20, Px.v21, Px.v22, Px.v23, Px.c0, Px.asg, Px.gnm, Px.ret, Px.retN, Px.drop, Px.nxt, Px.brk, Px.cnt, Px.ifs, Px.op, Px.un, Px.tst, Px.tbl, Px.tand, Px.tor, Px.tnot, Px.andv, Px.orv, Px.notv, Px.tif, Px.tup, Px.lst, Px.nil, Px.cons, Px.cal, Px.calS, Px.cb, Px.par, Px.gsub, Px.bits, Px.bm, Px.bm0, Px.ri, Px.ri0, Px.ru, Px.req, Px.rne, Px.rix, Px.rlen, Px.rin, Px.rsetl, Px.risi, Px.tyH_n, Px.tyH_b, Px.tyH_i, Px.tyH_s, Px.tyH_r, Px.seqH_t, Px.seqH_l, Px.seqH_fl, Px.sc_ii, Px.sc_bb, Px.sc_ss, Px.atI0, Px.atI1, Px.atI2, Px.atI3, Px.atI4, Px.atI5, Px.atI6, Px.atI7, Px.kb_NoneType_int, Px.kb_NoneType_bool, Px.kb_NoneType_str, Px.kb_NoneType_list, Px.kb_NoneType_tuple, Px.kb_NoneType_dict, Px.kb_bool_int, Px.kb_bool_bool, Px.kb_bool_str, Px.kb_bool_list, Px.kb_bool_tuple, Px.kb_bool_dict, Px.kb_int_int, Px.kb_int_bool, Px.kb_int_str, Px.kb_int_list, Px.kb_int_tuple, Px.kb_int_dict, Px.kb_str_int, Px.kb_str_bool, Px.kb_str_str, Px.kb_str_list, Px.kb_str_tuple, Px.kb_str_dict, Px.kb_list_int, Px.kb_list_bool, Px.kb_list_str, Px.kb_list_list, Px.kb_list_tuple, Px.kb_list_dict, Px.kb_tuple_int, Px.kb_tuple_bool, Px.kb_tuple_str, Px.kb_tuple_list, Px.kb_tuple_tuple, Px.kb_tuple_dict, Px.kb_dict_int, Px.kb_dict_bool, Px.kb_dict_str, Px.kb_dict_list, Px.kb_dict_tuple, Px.kb_dict_dict, L2.upd_same, Px.updI, L2.ixN, List.set_cons_zero, List.set_cons_succ, List.length_cons, List.length_nil, Nat.reduceAdd, Nat.zero_add, L2.HO.lst.injEq, L2.HO.tup.injEq, L2.upd_upd, L2.V.int.injEq, L2.V.ref.injEq, L2.V.bl.injEq, L2.V.str.injEq, L2.V.ty.injEq, List.cons.injEq, and_true, true_and, and_false, false_and, or_false, false_or, exists_eq_left', exists_eq_left, exists_and_left, exists_const, exists_false, Option.some.injEq, decide_eq_true_eq, List.append_nil, List.cons_append, List.nil_append, Option.isSome_some, Bool.not_true, Bool.not_false, Bool.not_eq_true', Bool.not_eq_true, Bool.false_eq_true, decide_eq_false_iff_not, if_true, if_false, ite_true, ite_false, Int.reduceLE, Int.reduceLT, Int.reduceToNat, Int.cast_ofNat_Int, Bool.true_eq_false, eq_self, ↓reduceIte, reduceCtorEq, Px.aug, Px.ipi, Px.tri, Px.rcatth, Px.flh, Px.sfl, Px.met, Px.mak, *, spDue]
  refine ⟨_, hS, wf, fun d H1 hd dS e1 => ?_⟩
  refine go_seq ?_
  obtain ⟨ws, ha, hws⟩ := hS.mono e1
  simp only [decide_true, decide_false, List.map_cons, List.map_nil, Option.map_none, Option.map_some, Option.getD_none, Option.getD_some, Px.dg2, Px.dg1, Px.dg, Px.din, Px.dnotin, Px.dnew, Px.dput, Px.isD_is, Px.dget_i, Px.dget_s, Px.dput_i, Px.dput_s, Px.dOf_d, Px.rtup, Px.rlist, Px.rsl, Px.rsort, Px.rcat, Px.rapp, Px.rrev, Px.sl_ap, Px.nop, Px.part, Px.yes, Px.tyl, Px.isL_l, Px.isT_t, Px.isL_t, Px.isT_l, Px.isD_d, Px.isT_d, Px.inV_ints, Px.flat_ints, Px.flatV_i, Px.wipe_cons, Px.wipe_nil, Px.gtup, Px.gcons, Px.gnil, gt_iff_lt, ge_iff_le, Px.we, Px.wonly, Px.was, Px.cxK, not_true_eq_false, and_self, true_implies, false_implies, implies_true, Px.e0, and_assoc, imp_false, not_false_eq_true, ne_eq, Px.rgcd, Px.rixl, Px.rixt, Px.v0, Px.v1, Px.v2, Px.v3, Px.v4, Px.v5, Px.v6, Px.v7, Px.v8, Px.v9, Px.v10, Px.v11, Px.v12, Px.v13, Px.v14, Px.v15, Px.v16, Px.v17, Px.v18, Px.v19, Px.v20, Px.v21, Px.v22, Px.v23, Px.c0, Px.asg, Px.gnm, Px.ret, Px.retN, Px.drop, Px.nxt, Px.brk, Px.cnt, Px.ifs, Px.op, Px.un, Px.tst, Px.tbl, Px.tand, Px.tor, Px.tnot, Px.andv, Px.orv, Px.notv, Px.tif, Px.tup, Px.lst, Px.nil, Px.cons, Px.cal, Px.calS, Px.cb, Px.par, Px.gsub, Px.bits, Px.bm, Px.bm0, Px.ri, Px.ri0, Px.ru, Px.req, Px.rne, Px.rix, Px.rlen, Px.rin, Px.rsetl, Px.risi, Px.tyH_n, Px.tyH_b, Px.tyH_i, Px.tyH_s, Px.tyH_r, Px.seqH_t, Px.seqH_l, Px.seqH_fl, Px.sc_ii, Px.sc_bb, Px.sc_ss, Px.atI0, Px.atI1, Px.atI2, Px.atI3, Px.atI4, Px.atI5, Px.atI6, Px.atI7, Px.kb_NoneType_int, Px.kb_NoneType_bool, Px.kb_NoneType_str, Px.kb_NoneType_list, Px.kb_NoneType_tuple, Px.kb_NoneType_dict, Px.kb_bool_int, Px.kb_bool_bool, Px.kb_bool_str, Px.kb_bool_list, Px.kb_bool_tuple, Px.kb_bool_dict, Px.kb_int_int, Px.kb_int_bool, Px.kb_int_str, Px.kb_int_list, Px.kb_int_tuple, Px.kb_int_dict, Px.kb_str_int, Px.kb_str_bool, Px.kb_str_str, Px.kb_str_list, Px.kb_str_tuple, Px.kb_str_dict, Px.kb_list_int, Px.kb_list_bool, Px.kb_list_str, Px.kb_list_list, Px.kb_list_tuple, Px.kb_list_dict, Px.kb_tuple_int, Px.kb_tuple_bool, Px.kb_tuple_str, Px.kb_tuple_list, Px.kb_tuple_tuple, Px.kb_tuple_dict, Px.kb_dict_int, Px.kb_dict_bool, Px.kb_dict_str, Px.kb_dict_list, Px.kb_dict_tuple, Px.kb_dict_dict, L2.upd_same, Px.updI, L2.ixN, List.set_cons_zero, List.set_cons_succ, List.length_cons, List.length_nil, Nat.reduceAdd, Nat.zero_add, L2.HO.lst.injEq, L2.HO.tup.injEq, L2.upd_upd, L2.V.int.injEq, L2.V.ref.injEq, L2.V.bl.injEq, L2.V.str.injEq, L2.V.ty.injEq, List.cons.injEq, and_true, true_and, and_false, false_and, or_false, false_or, exists_eq_left', exists_eq_left, exists_and_left, exists_const, exists_false, Option.some.injEq, decide_eq_true_eq, List.append_nil, List.cons_append, List.nil_append, Option.isSome_some, Bool.not_true, Bool.not_false, Bool.not_eq_true', Bool.not_eq_true, Bool.false_eq_true, decide_eq_false_iff_not, if_true, if_false, ite_true, ite_false, Int.reduceLE, Int.reduceLT, Int.reduceToNat, Int.cast_ofNat_Int, Bool.true_eq_false, eq_self, ↓reduceIte, reduceCtorEq, Px.aug, Px.ipi, Px.tri, Px.rcatth, Px.flh, Px.sfl, Px.met, Px.mak, *]
  intro q nq
  have y1 : Px.Ext H1 (upd H1 q (.lst ws)) := (Px.Ext.rfl' H1).new nq
  have q1 : Steps (upd H1 q (.lst ws)) q xs := ⟨ws, upd_same, hws.mono y1.tu⟩
  generalize upd H1 q (.lst ws) = H2 at *
  have hqH := e1.no nq
  refine go_seq ?_
  simp only [decide_true, decide_false, List.map_cons, List.map_nil, Option.map_none, Option.map_some, Option.getD_none, Option.getD_some, Px.dg2, Px.dg1, Px.dg, Px.din, Px.dnotin, Px.dnew, Px.dput, Px.isD_is, Px.dget_i, Px.dget_s, Px.dput_i, Px.dput_s, Px.dOf_d, Px.rtup, Px.rlist, Px.rsl, Px.rsort, Px.rcat, Px.rapp, Px.rrev, Px.sl_ap, Px.nop, Px.part, Px.yes, Px.tyl, Px.isL_l, Px.isT_t, Px.isL_t, Px.isT_l, Px.isD_d, Px.isT_d, Px.inV_ints, Px.flat_ints, Px.flatV_i, Px.wipe_cons, Px.wipe_nil, Px.gtup, Px.gcons, Px.gnil, gt_iff_lt, ge_iff_le, Px.we, Px.wonly, Px.was, Px.cxK, not_true_eq_false, and_self, true_implies, false_implies, implies_true, Px.e0, and_assoc, imp_false, not_false_eq_true, ne_eq, Px.rgcd, Px.rixl, Px.rixt, Px.v0, Px.v1, Px.v2, Px.v3, Px.v4, Px.v5, Px.v6, Px.v7, Px.v8, Px.v9, Px.v10, Px.v11, Px.v12, Px.v13, Px.v14, Px.v15, Px.v16, Px.v17, Px.v18, Px.v19, Px.v20, Px.v21, Px.v22, Px.v23, Px.c0, Px.asg, Px.gnm, Px.ret, Px.retN, Px.drop, Px.nxt, Px.brk, Px.cnt, Px.ifs, Px.op, Px.un, Px.tst, Px.tbl, Px.tand, Px.tor, Px.tnot, Px.andv, Px.orv, Px.notv, Px.tif, Px.tup, Px.lst, Px.nil, Px.cons, Px.cal, Px.calS, Px.cb, Px.par, Px.gsub, Px.bits, Px.bm, Px.bm0, Px.ri, Px.ri0, Px.ru, Px.req, Px.rne, Px.rix, Px.rlen, Px.rin, Px.rsetl, Px.risi, Px.tyH_n, Px.tyH_b, Px.tyH_i, Px.tyH_s, Px.tyH_r, Px.seqH_t, Px.seqH_l, Px.seqH_fl, Px.sc_ii, Px.sc_bb, Px.sc_ss, Px.atI0, Px.atI1, Px.atI2, Px.atI3, Px.atI4, Px.atI5, Px.atI6, Px.atI7, Px.kb_NoneType_int, Px.kb_NoneType_bool, Px.kb_NoneType_str, Px.kb_NoneType_list, Px.kb_NoneType_tuple, Px.kb_NoneType_dict, Px.kb_bool_int, Px.kb_bool_bool, Px.kb_bool_str, Px.kb_bool_list, Px.kb_bool_tuple, Px.kb_bool_dict, Px.kb_int_int, Px.kb_int_bool, Px.kb_int_str, Px.kb_int_list, Px.kb_int_tuple, Px.kb_int_dict, Px.kb_str_int, Px.kb_str_bool, Px.kb_str_str, Px.kb_str_list, Px.kb_str_tuple, Px.kb_str_dict, Px.kb_list_int, Px.kb_list_bool, Px.kb_list_str, Px.kb_list_list, Px.kb_list_tuple, Px.kb_list_dict, Px.kb_tuple_int, Px.kb_tuple_bool, Px.kb_tuple_str, Px.kb_tuple_list, Px.kb_tuple_tuple, Px.kb_tuple_dict, Px.kb_dict_int, Px.kb_dict_bool, Px.kb_dict_str, Px.kb_dict_list, Px.kb_dict_tuple, Px.kb_dict_dict, L2.upd_same, Px.updI, L2.ixN, List.set_cons_zero, List.set_cons_succ, List.length_cons, List.length_nil, Nat.reduceAdd, Nat.zero_add, L2.HO.lst.injEq, L2.HO.tup.injEq, L2.upd_upd, L2.V.int.injEq, L2.V.ref.injEq, L2.V.bl.injEq, L2.V.str.injEq, L2.V.ty.injEq, List.cons.injEq, and_true, true_and, and_false, false_and, or_false, false_or, exists_eq_left', exists_eq_left, exists_and_left, exists_const, exists_false, Option.some.injEq, decide_eq_true_eq, List.append_nil, List.cons_append, List.nil_append, Option.isSome_some, Bool.not_true, Bool.not_false, Bool.not_eq_true', Bool.not_eq_true, Bool.false_eq_true, decide_eq_false_iff_not, if_true, if_false, ite_true, ite_false, Int.reduceLE, Int.reduceLT, Int.reduceToNat, Int.cast_ofNat_Int, Bool.true_eq_false, eq_self, ↓reduceIte, reduceCtorEq, Px.aug, Px.ipi, Px.tri, Px.rcatth, Px.flh, Px.sfl, Px.met, Px.mak, *, spTrim]
  refine ⟨xs, q1, wf, fun t H3 ht tS e3 => ?_⟩
  refine go_seq ?_
  simp only [decide_true, decide_false, List.map_cons, List.map_nil, Option.map_none, Option.map_some, Option.getD_none, Option.getD_some, Px.dg2, Px.dg1, Px.dg, Px.din, Px.dnotin, Px.dnew, Px.dput, Px.isD_is, Px.dget_i, Px.dget_s, Px.dput_i, Px.dput_s, Px.dOf_d, Px.rtup, Px.rlist, Px.rsl, Px.rsort, Px.rcat, Px.rapp, Px.rrev, Px.sl_ap, Px.nop, Px.part, Px.yes, Px.tyl, Px.isL_l, Px.isT_t, Px.isL_t, Px.isT_l, Px.isD_d, Px.isT_d, Px.inV_ints, Px.flat_ints, Px.flatV_i, Px.wipe_cons, Px.wipe_nil, Px.gtup, Px.gcons, Px.gnil, gt_iff_lt, ge_iff_le, Px.we, Px.wonly, Px.was, Px.cxK, not_true_eq_false, and_self, true_implies, false_implies, implies_true, Px.e0, and_assoc, imp_false, not_false_eq_true, ne_eq, Px.rgcd, Px.rixl, Px.rixt, Px.v0, Px.v1, Px.v2, Px.v3, Px.v4, Px.v5, Px.v6, Px.v7, Px.v8, Px.v9, Px.v10, Px.v11, Px.v12, Px.v13, Px.v14, Px.v15, Px.v16, Px.v17, Px.v18, Px.v19, Px.v20, Px.v21, Px.v22, Px.v23, Px.c0, Px.asg, Px.gnm, Px.ret, Px.retN, Px.drop, Px.nxt, Px.brk, Px.cnt, Px.ifs, Px.op, Px.un, Px.tst, Px.tbl, Px.tand, Px.tor, Px.tnot, Px.andv, Px.orv, Px.notv, Px.tif, Px.tup, Px.lst, Px.nil, Px.cons, Px.cal, Px.calS, Px.cb, Px.par, Px.gsub, Px.bits, Px.bm, Px.bm0, Px.ri, Px.ri0, Px.ru, Px.req, Px.rne, Px.rix, Px.rlen, Px.rin, Px.rsetl, Px.risi, Px.tyH_n, Px.tyH_b, Px.tyH_i, Px.tyH_s, Px.tyH_r, Px.seqH_t, Px.seqH_l, Px.seqH_fl, Px.sc_ii, Px.sc_bb, Px.sc_ss, Px.atI0, Px.atI1, Px.atI2, Px.atI3, Px.atI4, Px.atI5, Px.atI6, Px.atI7, Px.kb_NoneType_int, Px.kb_NoneType_bool, Px.kb_NoneType_str, Px.kb_NoneType_list, Px.kb_NoneType_tuple, Px.kb_NoneType_dict, Px.kb_bool_int, Px.kb_bool_bool, Px.kb_bool_str, Px.kb_bool_list, Px.kb_bool_tuple, Px.kb_bool_dict, Px.kb_int_int, Px.kb_int_bool, Px.kb_int_str, Px.kb_int_list, Px.kb_int_tuple, Px.kb_int_dict, Px.kb_str_int, Px.kb_str_bool, Px.kb_str_str, Px.kb_str_list, Px.kb_str_tuple, Px.kb_str_dict, Px.kb_list_int, Px.kb_list_bool, Px.kb_list_str, Px.kb_list_list, Px.kb_list_tuple, Px.kb_list_dict, Px.kb_tuple_int, Px.kb_tuple_bool, Px.kb_tuple_str, Px.kb_tuple_list, Px.kb_tuple_tuple, Px.kb_tuple_dict, Px.kb_dict_int, Px.kb_dict_bool, Px.kb_dict_str, Px.kb_dict_list, Px.kb_dict_tuple, Px.kb_dict_dict, L2.upd_same, Px.updI, L2.ixN, List.set_cons_zero, List.set_cons_succ, List.length_cons, List.length_nil, Nat.reduceAdd, Nat.zero_add, L2.HO.lst.injEq, L2.HO.tup.injEq, L2.upd_upd, L2.V.int.injEq, L2.V.ref.injEq, L2.V.bl.injEq, L2.V.str.injEq, L2.V.ty.injEq, List.cons.injEq, and_true, true_and, and_false, false_and, or_false, false_or, exists_eq_left', exists_eq_left, exists_and_left, exists_const, exists_false, Option.some.injEq, decide_eq_true_eq, List.append_nil, List.cons_append, List.nil_append, Option.isSome_some, Bool.not_true, Bool.not_false, Bool.not_eq_true', Bool.not_eq_true, Bool.false_eq_true, decide_eq_false_iff_not, if_true, if_false, ite_true, ite_false, Int.reduceLE, Int.reduceLT, Int.reduceToNat, Int.cast_ofNat_Int, Bool.true_eq_false, eq_self, ↓reduceIte, reduceCtorEq, Px.aug, Px.ipi, Px.tri, Px.rcatth, Px.flh, Px.sfl, Px.met, Px.mak, *, spTrim]
  refine ⟨xs, q1.mono e3, wf, fun u H4 hu uS e4 => ?_⟩
  have tqn : t ≠ q := (ne_some_none q1.isS ht).symm
  have uqn : u ≠ q := (ne_some_none (q1.mono e3).isS hu).symm
  have utn : u ≠ t := (ne_some_none tS.isS hu).symm
  have y14 := (y1.trans e3).trans e4
  have dS4 := dS.mono y14
  have tS4 := tS.mono e4
  have q4 := q1.mono (e3.trans e4)
  have htH : H t = none := (e1.trans y1).no ht
  have hdq : d ≠ q := ne_some_none dS.isS nq
  have hdt : d ≠ t := ne_some_none (dS.mono y1).isS ht
  refine go_seq ?_
  simp only [decide_true, decide_false, List.map_cons, List.map_nil, Option.map_none, Option.map_some, Option.getD_none, Option.getD_some, Px.dg2, Px.dg1, Px.dg, Px.din, Px.dnotin, Px.dnew, Px.dput, Px.isD_is, Px.dget_i, Px.dget_s, Px.dput_i, Px.dput_s, Px.dOf_d, Px.rtup, Px.rlist, Px.rsl, Px.rsort, Px.rcat, Px.rapp, Px.rrev, Px.sl_ap, Px.nop, Px.part, Px.yes, Px.tyl, Px.isL_l, Px.isT_t, Px.isL_t, Px.isT_l, Px.isD_d, Px.isT_d, Px.inV_ints, Px.flat_ints, Px.flatV_i, Px.wipe_cons, Px.wipe_nil, Px.gtup, Px.gcons, Px.gnil, gt_iff_lt, ge_iff_le, Px.we, Px.wonly, Px.was, Px.cxK, not_true_eq_false, and_self, true_implies, false_implies, implies_true, Px.e0, and_assoc, imp_false, not_false_eq_true, ne_eq, Px.rgcd, Px.rixl, Px.rixt, Px.v0, Px.v1, Px.v2, Px.v3, Px.v4, Px.v5, Px.v6, Px.v7, Px.v8, Px.v9, Px.v10, Px.v11, Px.v12, Px.v13, Px.v14, Px.v15, Px.v16, Px.v17, Px.v18, Px.v19, Px.v20, Px.v21, Px.v22, Px.v23, Px.c0, Px.asg, Px.gnm, Px.ret, Px.retN, Px.drop, Px.nxt, Px.brk, Px.cnt, Px.ifs, Px.op, Px.un, Px.tst, Px.tbl, Px.tand, Px.tor, Px.tnot, Px.andv, Px.orv, Px.notv, Px.tif, Px.tup, Px.lst, Px.nil, Px.cons, Px.cal, Px.calS, Px.cb, Px.par, Px.gsub, Px.bits, Px.bm, Px.bm0, Px.ri, Px.ri0, Px.ru, Px.req, Px.rne, Px.rix, Px.rlen, Px.rin, Px.rsetl, Px.risi, Px.tyH_n, Px.tyH_b, Px.tyH_i, Px.tyH_s, Px.tyH_r, Px.seqH_t, Px.seqH_l, Px.seqH_fl, Px.sc_ii, Px.sc_bb, Px.sc_ss, Px.atI0, Px.atI1, Px.atI2, Px.atI3, Px.atI4, Px.atI5, Px.atI6, Px.atI7, Px.kb_NoneType_int, Px.kb_NoneType_bool, Px.kb_NoneType_str, Px.kb_NoneType_list, Px.kb_NoneType_tuple, Px.kb_NoneType_dict, Px.kb_bool_int, Px.kb_bool_bool, Px.kb_bool_str, Px.kb_bool_list, Px.kb_bool_tuple, Px.kb_bool_dict, Px.kb_int_int, Px.kb_int_bool, Px.kb_int_str, Px.kb_int_list, Px.kb_int_tuple, Px.kb_int_dict, Px.kb_str_int, Px.kb_str_bool, Px.kb_str_str, Px.kb_str_list, Px.kb_str_tuple, Px.kb_str_dict, Px.kb_list_int, Px.kb_list_bool, Px.kb_list_str, Px.kb_list_list, Px.kb_list_tuple, Px.kb_list_dict, Px.kb_tuple_int, Px.kb_tuple_bool, Px.kb_tuple_str, Px.kb_tuple_list, Px.kb_tuple_tuple, Px.kb_tuple_dict, Px.kb_dict_int, Px.kb_dict_bool, Px.kb_dict_str, Px.kb_dict_list, Px.kb_dict_tuple, Px.kb_dict_dict, L2.upd_same, Px.updI, L2.ixN, List.set_cons_zero, List.set_cons_succ, List.length_cons, List.length_nil, Nat.reduceAdd, Nat.zero_add, L2.HO.lst.injEq, L2.HO.tup.injEq, L2.upd_upd, L2.V.int.injEq, L2.V.ref.injEq, L2.V.bl.injEq, L2.V.str.injEq, L2.V.ty.injEq, List.cons.injEq, and_true, true_and, and_false, false_and, or_false, false_or, exists_eq_left', exists_eq_left, exists_and_left, exists_const, exists_false, Option.some.injEq, decide_eq_true_eq, List.append_nil, List.cons_append, List.nil_append, Option.isSome_some, Bool.not_true, Bool.not_false, Bool.not_eq_true', Bool.not_eq_true, Bool.false_eq_true, decide_eq_false_iff_not, if_true, if_false, ite_true, ite_false, Int.reduceLE, Int.reduceLT, Int.reduceToNat, Int.cast_ofNat_Int, Bool.true_eq_false, eq_self, ↓reduceIte, reduceCtorEq, Px.aug, Px.ipi, Px.tri, Px.rcatth, Px.flh, Px.sfl, Px.met, Px.mak, *, spAlL]
  refine ⟨xs, q4, ⟨ws, (y14.get ha), hws.mono y14.tu⟩, wf, fun H5 e5 => ?_⟩
  refine go_seq ?_
  have q5 := q4.mono e5
  obtain ⟨vq, hq5, dq5⟩ := id q5
  have lq := Steps.len dq5
  have l40 := wf.1
  simp only [decide_true, decide_false, List.map_cons, List.map_nil, Option.map_none, Option.map_some, Option.getD_none, Option.getD_some, Px.dg2, Px.dg1, Px.dg, Px.din, Px.dnotin, Px.dnew, Px.dput, Px.isD_is, Px.dget_i, Px.dget_s, Px.dput_i, Px.dput_s, Px.dOf_d, Px.rtup, Px.rlist, Px.rsl, Px.rsort, Px.rcat, Px.rapp, Px.rrev, Px.sl_ap, Px.nop, Px.part, Px.yes, Px.tyl, Px.isL_l, Px.isT_t, Px.isL_t, Px.isT_l, Px.isD_d, Px.isT_d, Px.inV_ints, Px.flat_ints, Px.flatV_i, Px.wipe_cons, Px.wipe_nil, Px.gtup, Px.gcons, Px.gnil, gt_iff_lt, ge_iff_le, Px.we, Px.wonly, Px.was, Px.cxK, not_true_eq_false, and_self, true_implies, false_implies, implies_true, Px.e0, and_assoc, imp_false, not_false_eq_true, ne_eq, Px.rgcd, Px.rixl, Px.rixt, Px.v0, Px.v1, Px.v2, Px.v3, Px.v4, Px.v5, Px.v6, Px.v7, Px.v8, Px.v9, Px.v10, Px.v11, Px.v12, Px.v13, Px.v14, Px.v15, Px.v16, Px.v17, Px.v18, Px.v19, Px.v20, Px.v21, Px.v22, Px.v23, Px.c0, Px.asg, Px.gnm, Px.ret, Px.retN, Px.drop, Px.nxt, Px.brk, Px.cnt, Px.ifs, Px.op, Px.un, Px.tst, Px.tbl, Px.tand, Px.tor, Px.tnot, Px.andv, Px.orv, Px.notv, Px.tif, Px.tup, Px.lst, Px.nil, Px.cons, Px.cal, Px.calS, Px.cb, Px.par, Px.gsub, Px.bits, Px.bm, Px.bm0, Px.ri, Px.ri0, Px.ru, Px.req, Px.rne, Px.rix, Px.rlen, Px.rin, Px.rsetl, Px.risi, Px.tyH_n, Px.tyH_b, Px.tyH_i, Px.tyH_s, Px.tyH_r, Px.seqH_t, Px.seqH_l, Px.seqH_fl, Px.sc_ii, Px.sc_bb, Px.sc_ss, Px.atI0, Px.atI1, Px.atI2, Px.atI3, Px.atI4, Px.atI5, Px.atI6, Px.atI7, Px.kb_NoneType_int, Px.kb_NoneType_bool, Px.kb_NoneType_str, Px.kb_NoneType_list, Px.kb_NoneType_tuple, Px.kb_NoneType_dict, Px.kb_bool_int, Px.kb_bool_bool, Px.kb_bool_str, Px.kb_bool_list, Px.kb_bool_tuple, Px.kb_bool_dict, Px.kb_int_int, Px.kb_int_bool, Px.kb_int_str, Px.kb_int_list, Px.kb_int_tuple, Px.kb_int_dict, Px.kb_str_int, Px.kb_str_bool, Px.kb_str_str, Px.kb_str_list, Px.kb_str_tuple, Px.kb_str_dict, Px.kb_list_int, Px.kb_list_bool, Px.kb_list_str, Px.kb_list_list, Px.kb_list_tuple, Px.kb_list_dict, Px.kb_tuple_int, Px.kb_tuple_bool, Px.kb_tuple_str, Px.kb_tuple_list, Px.kb_tuple_tuple, Px.kb_tuple_dict, Px.kb_dict_int, Px.kb_dict_bool, Px.kb_dict_str, Px.kb_dict_list, Px.kb_dict_tuple, Px.kb_dict_dict, L2.upd_same, Px.updI, L2.ixN, List.set_cons_zero, List.set_cons_succ, List.length_cons, List.length_nil, Nat.reduceAdd, Nat.zero_add, L2.HO.lst.injEq, L2.HO.tup.injEq, L2.upd_upd, L2.V.int.injEq, L2.V.ref.injEq, L2.V.bl.injEq, L2.V.str.injEq, L2.V.ty.injEq, List.cons.injEq, and_true, true_and, and_false, false_and, or_false, false_or, exists_eq_left', exists_eq_left, exists_and_left, exists_const, exists_false, Option.some.injEq, decide_eq_true_eq, List.append_nil, List.cons_append, List.nil_append, Option.isSome_some, Bool.not_true, Bool.not_false, Bool.not_eq_true', Bool.not_eq_true, Bool.false_eq_true, decide_eq_false_iff_not, if_true, if_false, ite_true, ite_false, Int.reduceLE, Int.reduceLT, Int.reduceToNat, Int.cast_ofNat_Int, Bool.true_eq_false, eq_self, ↓reduceIte, reduceCtorEq, Px.aug, Px.ipi, Px.tri, Px.rcatth, Px.flh, Px.sfl, Px.met, Px.mak, *]
  refine ⟨by decide, fun r nr => ?_⟩
  have y5 : Px.Ext H5 (upd H5 r (.tup [])) := (Px.Ext.rfl' H5).new nr
  generalize upd H5 r (.tup []) = H6 at *
  refine ⟨by decide, fun r2 nr2 => ?_⟩
  have y6 : Px.Ext H6 (upd H6 r2 (.tup [.str "given", .ref r, .non])) := (Px.Ext.rfl' H6).new nr2
  generalize upd H6 r2 (.tup [.str "given", .ref r, .non]) = H7 at *
  have y57 := y5.trans y6
  refine ⟨vq, y57.get hq5, Nat.lt_of_lt_of_le (show vq.length < 100 by omega) (by decide), ?_⟩
  have y47 := e5.trans y57
  have q7 := q5.mono y57
  have b7 : But q H7 (upd H7 q (.lst (vq ++ [.ref r2]))) := (But.rfl' q H7).mut
  have dS8 := (dS4.mono y47).but1 hdq q7.nt b7
  have tS8 := (tS4.mono y47).but1 tqn q7.nt b7
  have uS8 := (uS.mono y47).but1 uqn q7.nt b7
  have eH8 : Px.Ext H (upd H7 q (.lst (vq ++ [.ref r2]))) := ((e1.trans y14).trans y47).but hqH b7
  generalize upd H7 q (.lst (vq ++ [.ref r2])) = H8 at *
  have wfd := due_wf wf
  refine go_seq ?_
  simp only [decide_true, decide_false, List.map_cons, List.map_nil, Option.map_none, Option.map_some, Option.getD_none, Option.getD_some, Px.dg2, Px.dg1, Px.dg, Px.din, Px.dnotin, Px.dnew, Px.dput, Px.isD_is, Px.dget_i, Px.dget_s, Px.dput_i, Px.dput_s, Px.dOf_d, Px.rtup, Px.rlist, Px.rsl, Px.rsort, Px.rcat, Px.rapp, Px.rrev, Px.sl_ap, Px.nop, Px.part, Px.yes, Px.tyl, Px.isL_l, Px.isT_t, Px.isL_t, Px.isT_l, Px.isD_d, Px.isT_d, Px.inV_ints, Px.flat_ints, Px.flatV_i, Px.wipe_cons, Px.wipe_nil, Px.gtup, Px.gcons, Px.gnil, gt_iff_lt, ge_iff_le, Px.we, Px.wonly, Px.was, Px.cxK, not_true_eq_false, and_self, true_implies, false_implies, implies_true, Px.e0, and_assoc, imp_false, not_false_eq_true, ne_eq, Px.rgcd, Px.rixl, Px.rixt, Px.v0, Px.v1, Px.v2, Px.v3, Px.v4, Px.v5, Px.v6, Px.v7, Px.v8, Px.v9, Px.v10, Px.v11, Px.v12, Px.v13, Px.v14, Px.v15, Px.v16, Px.v17, Px.v18, Px.v19, Px.v20, Px.v21, Px.v22, Px.v23, Px.c0, Px.asg, Px.gnm, Px.ret, Px.retN, Px.drop, Px.nxt, Px.brk, Px.cnt, Px.ifs, Px.op, Px.un, Px.tst, Px.tbl, Px.tand, Px.tor, Px.tnot, Px.andv, Px.orv, Px.notv, Px.tif, Px.tup, Px.lst, Px.nil, Px.cons, Px.cal, Px.calS, Px.cb, Px.par, Px.gsub, Px.bits, Px.bm, Px.bm0, Px.ri, Px.ri0, Px.ru, Px.req, Px.rne, Px.rix, Px.rlen, Px.rin, Px.rsetl, Px.risi, Px.tyH_n, Px.tyH_b, Px.tyH_i, Px.tyH_s, Px.tyH_r, Px.seqH_t, Px.seqH_l, Px.seqH_fl, Px.sc_ii, Px.sc_bb, Px.sc_ss, Px.atI0, Px.atI1, Px.atI2, Px.atI3, Px.atI4, Px.atI5, Px.atI6, Px.atI7, Px.kb_NoneType_int, Px.kb_NoneType_bool, Px.kb_NoneType_str, Px.kb_NoneType_list, Px.kb_NoneType_tuple, Px.kb_NoneType_dict, Px.kb_bool_int, Px.kb_bool_bool, Px.kb_bool_str, Px.kb_bool_list, Px.kb_bool_tuple, Px.kb_bool_dict, Px.kb_int_int, Px.kb_int_bool, Px.kb_int_str, Px.kb_int_list, Px.kb_int_tuple, Px.kb_int_dict, Px.kb_str_int, Px.kb_str_bool, Px.kb_str_str, Px.kb_str_list, Px.kb_str_tuple, Px.kb_str_dict, Px.kb_list_int, Px.kb_list_bool, Px.kb_list_str, Px.kb_list_list, Px.kb_list_tuple, Px.kb_list_dict, Px.kb_tuple_int, Px.kb_tuple_bool, Px.kb_tuple_str, Px.kb_tuple_list, Px.kb_tuple_tuple, Px.kb_tuple_dict, Px.kb_dict_int, Px.kb_dict_bool, Px.kb_dict_str, Px.kb_dict_list, Px.kb_dict_tuple, Px.kb_dict_dict, L2.upd_same, Px.updI, L2.ixN, List.set_cons_zero, List.set_cons_succ, List.length_cons, List.length_nil, Nat.reduceAdd, Nat.zero_add, L2.HO.lst.injEq, L2.HO.tup.injEq, L2.upd_upd, L2.V.int.injEq, L2.V.ref.injEq, L2.V.bl.injEq, L2.V.str.injEq, L2.V.ty.injEq, List.cons.injEq, and_true, true_and, and_false, false_and, or_false, false_or, exists_eq_left', exists_eq_left, exists_and_left, exists_const, exists_false, Option.some.injEq, decide_eq_true_eq, List.append_nil, List.cons_append, List.nil_append, Option.isSome_some, Bool.not_true, Bool.not_false, Bool.not_eq_true', Bool.not_eq_true, Bool.false_eq_true, decide_eq_false_iff_not, if_true, if_false, ite_true, ite_false, Int.reduceLE, Int.reduceLT, Int.reduceToNat, Int.cast_ofNat_Int, Bool.true_eq_false, eq_self, ↓reduceIte, reduceCtorEq, Px.aug, Px.ipi, Px.tri, Px.rcatth, Px.flh, Px.sfl, Px.met, Px.mak, *, spAlL]
  refine ⟨due xs, tS8, dS8, wfd, fun H9 e9 => ?_⟩
  refine ⟨due xs, uS8.mono e9, dS8.mono e9, wfd, fun H10 e10 => ?_⟩
  have e810 := e9.trans e10
  have tS10 := tS8.mono e810
  obtain ⟨vt, ht10, dt10⟩ := id tS10
  have lt := Steps.len dt10
  have ld := wfd.1
  refine go_seq ?_
  simp only [decide_true, decide_false, List.map_cons, List.map_nil, Option.map_none, Option.map_some, Option.getD_none, Option.getD_some, Px.dg2, Px.dg1, Px.dg, Px.din, Px.dnotin, Px.dnew, Px.dput, Px.isD_is, Px.dget_i, Px.dget_s, Px.dput_i, Px.dput_s, Px.dOf_d, Px.rtup, Px.rlist, Px.rsl, Px.rsort, Px.rcat, Px.rapp, Px.rrev, Px.sl_ap, Px.nop, Px.part, Px.yes, Px.tyl, Px.isL_l, Px.isT_t, Px.isL_t, Px.isT_l, Px.isD_d, Px.isT_d, Px.inV_ints, Px.flat_ints, Px.flatV_i, Px.wipe_cons, Px.wipe_nil, Px.gtup, Px.gcons, Px.gnil, gt_iff_lt, ge_iff_le, Px.we, Px.wonly, Px.was, Px.cxK, not_true_eq_false, and_self, true_implies, false_implies, implies_true, Px.e0, and_assoc, imp_false, not_false_eq_true, ne_eq, Px.rgcd, Px.rixl, Px.rixt, Px.v0, Px.v1, Px.v2, Px.v3, Px.v4, Px.v5, Px.v6, Px.v7, Px.v8, Px.v9, Px.v10, Px.v11, Px.v12, Px.v13, Px.v14, Px.v15, Px.v16, Px.v17, Px.v18, Px.v19, Px.v20, Px.v21, Px.v22, Px.v23, Px.c0, Px.asg, Px.gnm, Px.ret, Px.retN, Px.drop, Px.nxt, Px.brk, Px.cnt, Px.ifs, Px.op, Px.un, Px.tst, Px.tbl, Px.tand, Px.tor, Px.tnot, Px.andv, Px.orv, Px.notv, Px.tif, Px.tup, Px.lst, Px.nil, Px.cons, Px.cal, Px.calS, Px.cb, Px.par, Px.gsub, Px.bits, Px.bm, Px.bm0, Px.ri, Px.ri0, Px.ru, Px.req, Px.rne, Px.rix, Px.rlen, Px.rin, Px.rsetl, Px.risi, Px.tyH_n, Px.tyH_b, Px.tyH_i, Px.tyH_s, Px.tyH_r, Px.seqH_t, Px.seqH_l, Px.seqH_fl, Px.sc_ii, Px.sc_bb, Px.sc_ss, Px.atI0, Px.atI1, Px.atI2, Px.atI3, Px.atI4, Px.atI5, Px.atI6, Px.atI7, Px.kb_NoneType_int, Px.kb_NoneType_bool, Px.kb_NoneType_str, Px.kb_NoneType_list, Px.kb_NoneType_tuple, Px.kb_NoneType_dict, Px.kb_bool_int, Px.kb_bool_bool, Px.kb_bool_str, Px.kb_bool_list, Px.kb_bool_tuple, Px.kb_bool_dict, Px.kb_int_int, Px.kb_int_bool, Px.kb_int_str, Px.kb_int_list, Px.kb_int_tuple, Px.kb_int_dict, Px.kb_str_int, Px.kb_str_bool, Px.kb_str_str, Px.kb_str_list, Px.kb_str_tuple, Px.kb_str_dict, Px.kb_list_int, Px.kb_list_bool, Px.kb_list_str, Px.kb_list_list, Px.kb_list_tuple, Px.kb_list_dict, Px.kb_tuple_int, Px.kb_tuple_bool, Px.kb_tuple_str, Px.kb_tuple_list, Px.kb_tuple_tuple, Px.kb_tuple_dict, Px.kb_dict_int, Px.kb_dict_bool, Px.kb_dict_str, Px.kb_dict_list, Px.kb_dict_tuple, Px.kb_dict_dict, L2.upd_same, Px.updI, L2.ixN, List.set_cons_zero, List.set_cons_succ, List.length_cons, List.length_nil, Nat.reduceAdd, Nat.zero_add, L2.HO.lst.injEq, L2.HO.tup.injEq, L2.upd_upd, L2.V.int.injEq, L2.V.ref.injEq, L2.V.bl.injEq, L2.V.str.injEq, L2.V.ty.injEq, List.cons.injEq, and_true, true_and, and_false, false_and, or_false, false_or, exists_eq_left', exists_eq_left, exists_and_left, exists_const, exists_false, Option.some.injEq, decide_eq_true_eq, List.append_nil, List.cons_append, List.nil_append, Option.isSome_some, Bool.not_true, Bool.not_false, Bool.not_eq_true', Bool.not_eq_true, Bool.false_eq_true, decide_eq_false_iff_not, if_true, if_false, ite_true, ite_false, Int.reduceLE, Int.reduceLT, Int.reduceToNat, Int.cast_ofNat_Int, Bool.true_eq_false, eq_self, ↓reduceIte, reduceCtorEq, Px.aug, Px.ipi, Px.tri, Px.rcatth, Px.flh, Px.sfl, Px.met, Px.mak, *]
  refine ⟨by decide, fun r3 nr3 => ?_⟩
  have y10 : Px.Ext H10 (upd H10 r3 (.tup [])) := (Px.Ext.rfl' H10).new nr3
  generalize upd H10 r3 (.tup []) = H11 at *
  refine ⟨by decide, fun r4 nr4 => ?_⟩
  have y11 : Px.Ext H11 (upd H11 r4 (.tup [.str "given", .ref r3, .non])) := (Px.Ext.rfl' H11).new nr4
  generalize upd H11 r4 (.tup [.str "given", .ref r3, .non]) = H12 at *
  have y1012 := y10.trans y11
  refine ⟨vt, y1012.get ht10, Nat.lt_of_lt_of_le (show vt.length < 100 by omega) (by decide), ?_⟩
  have b12 : But t H12 (upd H12 t (.lst (vt ++ [.ref r4]))) := (But.rfl' t H12).mut
  have nt12 := (tS10.mono y1012).nt
  have dS13 := (dS8.mono (e810.trans y1012)).but1 hdt nt12 b12
  have uS13 := (uS8.mono (e810.trans y1012)).but1 utn nt12 b12
  have eH13 : Px.Ext H (upd H12 t (.lst (vt ++ [.ref r4]))) := ((eH8.trans e810).trans y1012).but htH b12
  generalize upd H12 t (.lst (vt ++ [.ref r4])) = H13 at *
  simp only [decide_true, decide_false, List.map_cons, List.map_nil, Option.map_none, Option.map_some, Option.getD_none, Option.getD_some, Px.dg2, Px.dg1, Px.dg, Px.din, Px.dnotin, Px.dnew, Px.dput, Px.isD_is, Px.dget_i, Px.dget_s, Px.dput_i, Px.dput_s, Px.dOf_d, Px.rtup, Px.rlist, Px.rsl, Px.rsort, Px.rcat, Px.rapp, Px.rrev, Px.sl_ap, Px.nop, Px.part, Px.yes, Px.tyl, Px.isL_l, Px.isT_t, Px.isL_t, Px.isT_l, Px.isD_d, Px.isT_d, Px.inV_ints, Px.flat_ints, Px.flatV_i, Px.wipe_cons, Px.wipe_nil, Px.gtup, Px.gcons, Px.gnil, gt_iff_lt, ge_iff_le, Px.we, Px.wonly, Px.was, Px.cxK, not_true_eq_false, and_self, true_implies, false_implies, implies_true, Px.e0, and_assoc, imp_false, not_false_eq_true, ne_eq, Px.rgcd, Px.rixl, Px.rixt, Px.v0, Px.v1, Px.v2, Px.v3, Px.v4, Px.v5, Px.v6, Px.v7, Px.v8, Px.v9, Px.v10, Px.v11, Px.v12, Px.v13, Px.v14, Px.v15, Px.v16, Px.v17, Px.v18, Px.v19, Px.v20, Px.v21, Px.v22, Px.v23, Px.c0, Px.asg, Px.gnm, Px.ret, Px.retN, Px.drop, Px.nxt, Px.brk, Px.cnt, Px.ifs, Px.op, Px.un, Px.tst, Px.tbl, Px.tand, Px.tor, Px.tnot, Px.andv, Px.orv, Px.notv, Px.tif, Px.tup, Px.lst, Px.nil, Px.cons, Px.cal, Px.calS, Px.cb, Px.par, Px.gsub, Px.bits, Px.bm, Px.bm0, Px.ri, Px.ri0, Px.ru, Px.req, Px.rne, Px.rix, Px.rlen, Px.rin, Px.rsetl, Px.risi, Px.tyH_n, Px.tyH_b, Px.tyH_i, Px.tyH_s, Px.tyH_r, Px.seqH_t, Px.seqH_l, Px.seqH_fl, Px.sc_ii, Px.sc_bb, Px.sc_ss, Px.atI0, Px.atI1, Px.atI2, Px.atI3, Px.atI4, Px.atI5, Px.atI6, Px.atI7, Px.kb_NoneType_int, Px.kb_NoneType_bool, Px.kb_NoneType_str, Px.kb_NoneType_list, Px.kb_NoneType_tuple, Px.kb_NoneType_dict, Px.kb_bool_int, Px.kb_bool_bool, Px.kb_bool_str, Px.kb_bool_list, Px.kb_bool_tuple, Px.kb_bool_dict, Px.kb_int_int, Px.kb_int_bool, Px.kb_int_str, Px.kb_int_list, Px.kb_int_tuple, Px.kb_int_dict, Px.kb_str_int, Px.kb_str_bool, Px.kb_str_str, Px.kb_str_list, Px.kb_str_tuple, Px.kb_str_dict, Px.kb_list_int, Px.kb_list_bool, Px.kb_list_str, Px.kb_list_list, Px.kb_list_tuple, Px.kb_list_dict, Px.kb_tuple_int, Px.kb_tuple_bool, Px.kb_tuple_str, Px.kb_tuple_list, Px.kb_tuple_tuple, Px.kb_tuple_dict, Px.kb_dict_int, Px.kb_dict_bool, Px.kb_dict_str, Px.kb_dict_list, Px.kb_dict_tuple, Px.kb_dict_dict, L2.upd_same, Px.updI, L2.ixN, List.set_cons_zero, List.set_cons_succ, List.length_cons, List.length_nil, Nat.reduceAdd, Nat.zero_add, L2.HO.lst.injEq, L2.HO.tup.injEq, L2.upd_upd, L2.V.int.injEq, L2.V.ref.injEq, L2.V.bl.injEq, L2.V.str.injEq, L2.V.ty.injEq, List.cons.injEq, and_true, true_and, and_false, false_and, or_false, false_or, exists_eq_left', exists_eq_left, exists_and_left, exists_const, exists_false, Option.some.injEq, decide_eq_true_eq, List.append_nil, List.cons_append, List.nil_append, Option.isSome_some, Bool.not_true, Bool.not_false, Bool.not_eq_true', Bool.not_eq_true, Bool.false_eq_true, decide_eq_false_iff_not, if_true, if_false, ite_true, ite_false, Int.reduceLE, Int.reduceLT, Int.reduceToNat, Int.cast_ofNat_Int, Bool.true_eq_false, eq_self, ↓reduceIte, reduceCtorEq, Px.aug, Px.ipi, Px.tri, Px.rcatth, Px.flh, Px.sfl, Px.met, Px.mak, *, spAlL]
  refine ⟨due xs, uS13, dS13, wfd, fun H14 e14 => ?_⟩
  refine ⟨u, due xs, rfl, uS13.mono e14, wfd, fun v H15 hv vS e15 => ?_⟩
  rw [due_due wf] at vS
  exact ⟨v, rfl, due xs, vS, (dS13.mono e14).mono e15, wfd, fun H16 e16 => k H16 (((eH13.trans e14).trans e15).trans e16)⟩
end
end K03

namespace K03
open PySem PySem.Spec PyProof.Rows L2 Px
section
variable {P : Program} {w : World} {K : PySem.W.Frag} {mg : Str → Option Value} {base : Heap} {C : Addr}
theorem LogS.ext {H H' : Hp} {p l : Addr} {xs : List St} (h : LogS C H p l xs) (e : Px.Ext H H') : LogS C H' p l xs := by
  obtain ⟨vs, h1, h2⟩ := h
  exact ⟨vs, h1.ext e, h2.mono e.tu⟩
theorem lenO_ok {H : Hp} {p l : Addr} {xs : List St} {Q : VK} (h : LogS C H p l xs) (hx : xs.length ≤ 40) (k : Q (.int (xs.length : Int)) H) : rLenO C (spLen C) EN [.ref p] H Q := by
  obtain ⟨vs, hl, h2⟩ := h
  have lv := Steps.len h2
  obtain ⟨dx, g1, g2⟩ := id hl
  exact ⟨p, dx, _, rfl, g1, p, l, vs, rfl, hl, (vs.length : Int), rfl, ⟨by omega, by omega⟩, by rw [lv]; exact k⟩
theorem listIt_ok {H0 H : Hp} {p l : Addr} {xs : List St} {Q : VK} (h : LogS C H p l xs) (hx : xs.length ≤ 40) (e : Px.Ext H0 H) (k : ∀ q H', H q = none → Steps H' q xs → Px.Ext H H' → Q (.ref q) H') : rListIt H0 C (spIter C) (spLen C) [.ref p] H Q := by
  obtain ⟨vs, hl, h2⟩ := h
  have lv := Steps.len h2
  obtain ⟨dx, g1, g2⟩ := id hl
  refine ⟨p, dx, _, rfl, g1, fun q hq => ⟨p, l, vs, rfl, hl.new hq, fun it hit => ?_⟩⟩
  have y1 : Px.Ext H (upd H q (.lst [])) := (Px.Ext.rfl' H).new hq
  have x1 : (upd H q (.lst [])) q = some (.lst []) := upd_same
  generalize upd H q (.lst []) = H1 at *
  have y2 : Px.Ext H1 (upd H1 it (ItO l it 0)) := (Px.Ext.rfl' H1).new hit
  have x2 : (upd H1 it (ItO l it 0)) it = some (ItO l it 0) := upd_same
  generalize upd H1 it (ItO l it 0) = H2 at *
  have y := y1.trans y2
  have lq : l ≠ q := ne_some_none (by rw [g2]; rfl) hq
  refine ⟨it, l, vs, dx, _, rfl, x2, (e.trans y1).no hit, y.get g2, lq, Nat.lt_of_lt_of_le (show vs.length < 100 by omega) (by decide), y2.get x1, y.get g1, ⟨p, l, vs, rfl, hl.ext y, (vs.length : Int), rfl, ⟨by omega, by omega⟩, rfl⟩, fun H3 h3 h4 => ?_⟩
  have y3 : Px.Ext H H3 := fun b hb => by
    have n1 : b ≠ it := ne_some_none hb (y1.no hit)
    have n2 : b ≠ q := ne_some_none hb hq
    rw [h3 b n1 n2, y b hb]
  exact k q H3 hq ⟨vs, h4, h2.mono y3.tu⟩ y3
theorem step_ok {H : Hp} {p l : Addr} {xs : List St} {i : Nat} {Q : VK} {E : XK} (h : LogS C H p l xs) (hi : i < xs.length) (k : ∀ v, Dt H v (enc (at_ xs i)) → Q v H) : spStep C [.ref p, .int (i : Int)] H Q E := by
  obtain ⟨vs, hl, h2⟩ := h
  obtain ⟨v, hv, dv⟩ := Steps.at_ h2 hi
  exact ⟨p, l, vs, i, v, rfl, hl, hv, k v dv⟩
theorem clAt_ok {H : Hp} {p l : Addr} {xs : List St} {i : Nat} {Q : VK} {E : XK} (h : LogS C H p l xs) (hi : i < xs.length) (k : ∀ v, Dt H v (.tuple ((ln (at_ xs i)).map .int)) → Q v H) : spClAt C [.ref p, .int (i : Int)] H Q E := by
  obtain ⟨vs, hl, h2⟩ := h
  obtain ⟨v, hv, dv⟩ := Steps.at_ h2 hi
  obtain ⟨t, c, e, rfl, g1, g2, g3⟩ := enc_inv dv
  exact ⟨p, l, t, vs, i, _, _, _, rfl, hl, hv, g1, k _ (.tup g2 (DtAll.ints _))⟩
theorem allS_ok {H : Hp} {p l : Addr} {xs : List St} {Q : VK} {E : XK} (h : LogS C H p l xs) (k : ∀ q H', H q = none → Steps H' q xs → Px.Ext H H' → Q (.ref q) H') : spAllS C [.ref p] H Q E := by
  obtain ⟨vs, hl, h2⟩ := h
  exact ⟨p, l, vs, rfl, hl, fun q hq => k q _ hq ⟨vs, upd_same, h2.mono ((Px.Ext.rfl' H).new hq).tu⟩ ((Px.Ext.rfl' H).new hq)⟩
theorem lk1 {m : Str} {v : V} (h : (m == ("_steps" : Str)) = false) : List.lookup m [(("_steps" : Str), v)] = none := by simp [List.lookup, h]
theorem met_ok {H : Hp} {p l : Addr} {xs : List St} (h : LogS C H p l xs) : ∃ dx, H p = some (.ins C dx [("_steps", .ref l)]) := by
  obtain ⟨vs, ⟨dx, h1, _⟩, _⟩ := h
  exact ⟨dx, h1⟩
def spKeeps (C : Addr) (vs : List V) (H : Hp) (Q : VK) (_ : XK) : Prop := ∃ (p l a : Addr) (xs : List St), vs = [.ref p, .ref a] ∧ LogS C H p l xs ∧ Steps H a xs ∧ Wf xs ∧ ∀ H', Px.Ext H H' → Q (.bl true) H'
def IKe (p a q : Addr) (H : Hp) (i : Nat) (σ' : L2.St) (H' : Hp) : Prop := (∃ v, σ' = [some (.ref p), some (.ref a), some (.ref q), v]) ∧ Px.Ext H H'
theorem ok_keeps (B : Bn mg) (F : FunAt K mg "_law_keeps" s_law_keeps) (D_law_alike : Def P w K mg base CX0 7 "_law_alike" ["told", "due"] (spAl 5)) (D_law_alike_lists : Def P w K mg base CX0 8 "_law_alike_lists" ["told", "due"] spAlL)
    (D_Log___len__ : MDef P w K mg base CX0 1 C "__len__" ["self"] (spLen C)) (D_Log___iter__ : MDef P w K mg base CX0 1 C "__iter__" ["self"] (spIter C)) (D_Log_all_steps : MDef P w K mg base CX0 1 C "all_steps" ["self"] (spAllS C))
    (D_Log_step : MDef P w K mg base CX0 1 C "step" ["self", "number"] (spStep C)) (D_Log_clause_at : MDef P w K mg base CX0 1 C "clause_at" ["self", "number"] (spClAt C)) : Def P w K mg base CX0 9 "_law_keeps" ["log", "steps"] (spKeeps C) := by
  refine F.ok sc_law_keeps (fun _ _ _ _ _ _ us hl => match us, hl with | [_, _], _ => rfl) (fun vs H Q E h => by obtain ⟨_, _, _, _, rfl, _⟩ := h; rfl) (fun f cdv A outer s H vs Q E hr h => ?_)
  obtain ⟨p, l, a, xs, rfl, hL, hS, wf, k⟩ := h
  refine ⟨_, pss_cons (ps_if (PW.pt (pw_or (pt_cmpR op_ne (pe_callB (call_lenD D_Log___len__ (hr.mono (by decide))) rfl B.len (by decide +kernel) (pa_cons (pv 0) pa_nil)) (pe_callB len_H rfl B.len (by decide +kernel) (pa_cons (pv 1) pa_nil)) (nomark _)) (pw_or1 (pt_not (pt_val (pe_fn D_law_alike_lists hr pass0 (pa_cons (pe_callTy (call_listD2 D_Log___iter__ D_Log___len__ (hr.mono (by decide)) rfl rfl) rfl B.list_ (by decide +kernel) (pa_cons (pv 0) pa_nil)) (pa_cons (pv 1) pa_nil)))))))) (pss_one (ps_ret pe_bl)) (pss_nil)) (
  pss_cons (ps_set (i := 2) sc_law_keeps.nd rfl (Or.inl rfl) (pe_mm0 D_Log_all_steps (hr.mono (by decide)) pass0 (pv 0))) (
  pss_cons (ps_if (pt_not (pt_val (pe_fn D_law_alike_lists hr pass0 (pa_cons (pv 2) (pa_cons (pv 1) pa_nil))))) (pss_one (ps_ret pe_bl)) (pss_nil)) (
  pss_cons (ps_expr (pe_bm PySem.F.plainAttrs_list PySem.F.slot_list_append PySem.F.type_list_append mt_append (pv 2) (pa_cons (pe_tup (pa_cons pe_str (pa_cons (pe_tup pa_nil) (pa_cons pe_non pa_nil)))) pa_nil))) (
  pss_cons (ps_for PassesOwn.never rfl (pi_range1 rfl B.range (pa_cons (pe_callB len_H rfl B.len (by decide +kernel) (pa_cons (pv 1) pa_nil)) pa_nil)) (pg_name (i := 3) sc_law_keeps.nd rfl (Or.inl rfl)) (
  pss_one (ps_if (PW.pt (pw_or (pt_not (pt_val (pe_fn D_law_alike (hr.mono (by decide)) pass0 (pa_cons (pe_mm1 D_Log_step (hr.mono (by decide)) pass0 (pv 0) (pa_cons (pv 3) pa_nil)) (pa_cons (pe_ix ix_H (pv 1) (pv 3) (fun _ _ => rfl)) pa_nil))))) (pw_or1 (pt_not (pt_val (pe_fn D_law_alike (hr.mono (by decide)) pass0 (pa_cons (pe_mm1 D_Log_clause_at (hr.mono (by decide)) pass0 (pv 0) (pa_cons (pv 3) pa_nil)) (pa_cons (pe_ix ix_H (pe_ix ix_H (pv 1) (pv 3) (fun _ _ => rfl)) pe_int (fun _ _ => rfl)) pa_nil)))))))) (pss_one (ps_ret pe_bl)) (pss_nil)))) (
  pss_one (ps_ret (pe_and (pe_cmpR op_eq (pe_callB (call_lenD D_Log___len__ (hr.mono (by decide))) rfl B.len (by decide +kernel) (pa_cons (pv 0) pa_nil)) (pe_callB len_H rfl B.len (by decide +kernel) (pa_cons (pv 1) pa_nil)) (nomark _)) (pe_one (pe_fn D_law_alike_lists hr pass0 (pa_cons (pe_mm0 D_Log_all_steps (hr.mono (by decide)) pass0 (pv 0)) (pa_cons (pv 1) pa_nil))))))))))), ?_⟩
  show tSeq _ _ _ [some (.ref p), some (.ref a), none, none] H
  have l40 := wf.1
  obtain ⟨ws, ha, hws⟩ := id hS
  have lw := Steps.len hws
  refine go_seq ?_
  simp only [decide_true, decide_false, List.map_cons, List.map_nil, Option.map_none, Option.map_some, Option.getD_none, Option.getD_some, Px.dg2, Px.dg1, Px.dg, Px.din, Px.dnotin, Px.dnew, Px.dput, Px.isD_is, Px.dget_i, Px.dget_s, Px.dput_i, Px.dput_s, Px.dOf_d, Px.rtup, Px.rlist, Px.rsl, Px.rsort, Px.rcat, Px.rapp, Px.rrev, Px.sl_ap, Px.nop, Px.part, Px.yes, Px.tyl, Px.isL_l, Px.isT_t, Px.isL_t, Px.isT_l, Px.isD_d, Px.isT_d, Px.inV_ints, Px.flat_ints, Px.flatV_i, Px.wipe_cons, Px.wipe_nil, Px.gtup, Px.gcons, Px.gnil, gt_iff_lt, ge_iff_le, Px.we, Px.wonly, Px.was, Px.cxK, not_true_eq_false, and_self, true_implies, false_implies, implies_true, Px.e0, and_assoc, imp_false, not_false_eq_true, ne_eq, Px.rgcd, Px.rixl, Px.rixt, Px.v0, Px.v1, Px.v2, Px.v3, Px.v4, Px.v5, Px.v6, Px.v7, Px.v8, Px.v9, Px.v10, Px.v11, Px.v12, Px.v13, Px.v14, Px.v15, Px.v16, Px.v17, Px.v18, Px.v19, Px.v20, Px.v21, Px.v22, Px.v23, Px.c0, Px.asg, Px.gnm, Px.ret, Px.retN, Px.drop, Px.nxt, Px.brk, Px.cnt, Px.ifs, Px.op, Px.un, Px.tst, Px.tbl, Px.tand, Px.tor, Px.tnot, Px.andv, Px.orv, Px.notv, Px.tif, Px.tup, Px.lst, Px.nil, Px.cons, Px.cal, Px.calS, Px.cb, Px.par, Px.gsub, Px.bits, Px.bm, Px.bm0, Px.ri, Px.ri0, Px.ru, Px.req, Px.rne, Px.rix, Px.rlen, Px.rin, Px.rsetl, Px.risi, Px.tyH_n, Px.tyH_b, Px.tyH_i, Px.tyH_s, Px.tyH_r, Px.seqH_t, Px.seqH_l, Px.seqH_fl, Px.sc_ii, Px.sc_bb, Px.sc_ss, Px.atI0, Px.atI1, Px.atI2, Px.atI3, Px.atI4, Px.atI5, Px.atI6, Px.atI7, Px.kb_NoneType_int, Px.kb_NoneType_bool, Px.kb_NoneType_str, Px.kb_NoneType_list, Px.kb_NoneType_tuple, Px.kb_NoneType_dict, Px.kb_bool_int, Px.kb_bool_bool, Px.kb_bool_str, Px.kb_bool_list, Px.kb_bool_tuple, Px.kb_bool_dict, Px.kb_int_int, Px.kb_int_bool, Px.kb_int_str, Px.kb_int_list, Px.kb_int_tuple, Px.kb_int_dict, Px.kb_str_int, Px.kb_str_bool, Px.kb_str_str, Px.kb_str_list, Px.kb_str_tuple, Px.kb_str_dict, Px.kb_list_int, Px.kb_list_bool, Px.kb_list_str, Px.kb_list_list, Px.kb_list_tuple, Px.kb_list_dict, Px.kb_tuple_int, Px.kb_tuple_bool, Px.kb_tuple_str, Px.kb_tuple_list, Px.kb_tuple_tuple, Px.kb_tuple_dict, Px.kb_dict_int, Px.kb_dict_bool, Px.kb_dict_str, Px.kb_dict_list, Px.kb_dict_tuple, Px.kb_dict_dict, L2.upd_same, Px.updI, L2.ixN, List.set_cons_zero, List.set_cons_succ, List.length_cons, List.length_nil, Nat.reduceAdd, Nat.zero_add, L2.HO.lst.injEq, L2.HO.tup.injEq, L2.upd_upd, L2.V.int.injEq, L2.V.ref.injEq, L2.V.bl.injEq, L2.V.str.injEq, L2.V.ty.injEq, List.cons.injEq, and_true, true_and, and_false, false_and, or_false, false_or, exists_eq_left', exists_eq_left, exists_and_left, exists_const, exists_false, Option.some.injEq, decide_eq_true_eq, List.append_nil, List.cons_append, List.nil_append, Option.isSome_some, Bool.not_true, Bool.not_false, Bool.not_eq_true', Bool.not_eq_true, Bool.false_eq_true, decide_eq_false_iff_not, if_true, if_false, ite_true, ite_false, Int.reduceLE, Int.reduceLT, Int.reduceToNat, Int.cast_ofNat_Int, Bool.true_eq_false, eq_self, ↓reduceIte, reduceCtorEq, Px.aug, Px.ipi, Px.tri, Px.rcatth, Px.flh, Px.sfl, Px.met, Px.mak, *]
  refine lenO_ok hL l40 ?_
  have hal : seqH (H a) = some ws := by rw [ha]; rfl
  simp only [decide_true, decide_false, List.map_cons, List.map_nil, Option.map_none, Option.map_some, Option.getD_none, Option.getD_some, Px.dg2, Px.dg1, Px.dg, Px.din, Px.dnotin, Px.dnew, Px.dput, Px.isD_is, Px.dget_i, Px.dget_s, Px.dput_i, Px.dput_s, Px.dOf_d, Px.rtup, Px.rlist, Px.rsl, Px.rsort, Px.rcat, Px.rapp, Px.rrev, Px.sl_ap, Px.nop, Px.part, Px.yes, Px.tyl, Px.isL_l, Px.isT_t, Px.isL_t, Px.isT_l, Px.isD_d, Px.isT_d, Px.inV_ints, Px.flat_ints, Px.flatV_i, Px.wipe_cons, Px.wipe_nil, Px.gtup, Px.gcons, Px.gnil, gt_iff_lt, ge_iff_le, Px.we, Px.wonly, Px.was, Px.cxK, not_true_eq_false, and_self, true_implies, false_implies, implies_true, Px.e0, and_assoc, imp_false, not_false_eq_true, ne_eq, Px.rgcd, Px.rixl, Px.rixt, Px.v0, Px.v1, Px.v2, Px.v3, Px.v4, Px.v5, Px.v6, Px.v7, Px.v8, Px.v9, Px.v10, Px.v11, Px.v12, Px.v13, Px.v14, Px.v15, Px.v16, Px.v17, Px.v18, Px.v19, Px.v20, Px.v21, Px.v22, Px.v23, Px.c0, Px.asg, Px.gnm, Px.ret, Px.retN, Px.drop, Px.nxt, Px.brk, Px.cnt, Px.ifs, Px.op, Px.un, Px.tst, Px.tbl, Px.tand, Px.tor, Px.tnot, Px.andv, Px.orv, Px.notv, Px.tif, Px.tup, Px.lst, Px.nil, Px.cons, Px.cal, Px.calS, Px.cb, Px.par, Px.gsub, Px.bits, Px.bm, Px.bm0, Px.ri, Px.ri0, Px.ru, Px.req, Px.rne, Px.rix, Px.rlen, Px.rin, Px.rsetl, Px.risi, Px.tyH_n, Px.tyH_b, Px.tyH_i, Px.tyH_s, Px.tyH_r, Px.seqH_t, Px.seqH_l, Px.seqH_fl, Px.sc_ii, Px.sc_bb, Px.sc_ss, Px.atI0, Px.atI1, Px.atI2, Px.atI3, Px.atI4, Px.atI5, Px.atI6, Px.atI7, Px.kb_NoneType_int, Px.kb_NoneType_bool, Px.kb_NoneType_str, Px.kb_NoneType_list, Px.kb_NoneType_tuple, Px.kb_NoneType_dict, Px.kb_bool_int, Px.kb_bool_bool, Px.kb_bool_str, Px.kb_bool_list, Px.kb_bool_tuple, Px.kb_bool_dict, Px.kb_int_int, Px.kb_int_bool, Px.kb_int_str, Px.kb_int_list, Px.kb_int_tuple, Px.kb_int_dict, Px.kb_str_int, Px.kb_str_bool, Px.kb_str_str, Px.kb_str_list, Px.kb_str_tuple, Px.kb_str_dict, Px.kb_list_int, Px.kb_list_bool, Px.kb_list_str, Px.kb_list_list, Px.kb_list_tuple, Px.kb_list_dict, Px.kb_tuple_int, Px.kb_tuple_bool, Px.kb_tuple_str, Px.kb_tuple_list, Px.kb_tuple_tuple, Px.kb_tuple_dict, Px.kb_dict_int, Px.kb_dict_bool, Px.kb_dict_str, Px.kb_dict_list, Px.kb_dict_tuple, Px.kb_dict_dict, L2.upd_same, Px.updI, L2.ixN, List.set_cons_zero, List.set_cons_succ, List.length_cons, List.length_nil, Nat.reduceAdd, Nat.zero_add, L2.HO.lst.injEq, L2.HO.tup.injEq, L2.upd_upd, L2.V.int.injEq, L2.V.ref.injEq, L2.V.bl.injEq, L2.V.str.injEq, L2.V.ty.injEq, List.cons.injEq, and_true, true_and, and_false, false_and, or_false, false_or, exists_eq_left', exists_eq_left, exists_and_left, exists_const, exists_false, Option.some.injEq, decide_eq_true_eq, List.append_nil, List.cons_append, List.nil_append, Option.isSome_some, Bool.not_true, Bool.not_false, Bool.not_eq_true', Bool.not_eq_true, Bool.false_eq_true, decide_eq_false_iff_not, if_true, if_false, ite_true, ite_false, Int.reduceLE, Int.reduceLT, Int.reduceToNat, Int.cast_ofNat_Int, Bool.true_eq_false, eq_self, ↓reduceIte, reduceCtorEq, Px.aug, Px.ipi, Px.tri, Px.rcatth, Px.flh, Px.sfl, Px.met, Px.mak, *]
  refine listIt_ok hL l40 (Px.Ext.rfl' H) fun q1 H1 n1 s1 e1 => ⟨q1, a, xs, rfl, s1, hS.mono e1, wf, fun H2 e2 => ⟨true, rfl, ?_⟩⟩
  simp only [decide_true, decide_false, List.map_cons, List.map_nil, Option.map_none, Option.map_some, Option.getD_none, Option.getD_some, Px.dg2, Px.dg1, Px.dg, Px.din, Px.dnotin, Px.dnew, Px.dput, Px.isD_is, Px.dget_i, Px.dget_s, Px.dput_i, Px.dput_s, Px.dOf_d, Px.rtup, Px.rlist, Px.rsl, Px.rsort, Px.rcat, Px.rapp, Px.rrev, Px.sl_ap, Px.nop, Px.part, Px.yes, Px.tyl, Px.isL_l, Px.isT_t, Px.isL_t, Px.isT_l, Px.isD_d, Px.isT_d, Px.inV_ints, Px.flat_ints, Px.flatV_i, Px.wipe_cons, Px.wipe_nil, Px.gtup, Px.gcons, Px.gnil, gt_iff_lt, ge_iff_le, Px.we, Px.wonly, Px.was, Px.cxK, not_true_eq_false, and_self, true_implies, false_implies, implies_true, Px.e0, and_assoc, imp_false, not_false_eq_true, ne_eq, Px.rgcd, Px.rixl, Px.rixt, Px.v0, Px.v1, Px.v2, Px.v3, Px.v4, Px.v5, Px.v6, Px.v7, Px.v8, Px.v9, Px.v10, Px.v11, Px.v12, Px.v13, Px.v14, Px.v15, Px.v16, Px.v17, Px.v18, Px.v19, Px.v20, Px.v21, Px.v22, Px.v23, Px.c0, Px.asg, Px.gnm, Px.ret, Px.retN, Px.drop, Px.nxt, Px.brk, Px.cnt, Px.ifs, Px.op, Px.un, Px.tst, Px.tbl, Px.tand, Px.tor, Px.tnot, Px.andv, Px.orv, Px.notv, Px.tif, Px.tup, Px.lst, Px.nil, Px.cons, Px.cal, Px.calS, Px.cb, Px.par, Px.gsub, Px.bits, Px.bm, Px.bm0, Px.ri, Px.ri0, Px.ru, Px.req, Px.rne, Px.rix, Px.rlen, Px.rin, Px.rsetl, Px.risi, Px.tyH_n, Px.tyH_b, Px.tyH_i, Px.tyH_s, Px.tyH_r, Px.seqH_t, Px.seqH_l, Px.seqH_fl, Px.sc_ii, Px.sc_bb, Px.sc_ss, Px.atI0, Px.atI1, Px.atI2, Px.atI3, Px.atI4, Px.atI5, Px.atI6, Px.atI7, Px.kb_NoneType_int, Px.kb_NoneType_bool, Px.kb_NoneType_str, Px.kb_NoneType_list, Px.kb_NoneType_tuple, Px.kb_NoneType_dict, Px.kb_bool_int, Px.kb_bool_bool, Px.kb_bool_str, Px.kb_bool_list, Px.kb_bool_tuple, Px.kb_bool_dict, Px.kb_int_int, Px.kb_int_bool, Px.kb_int_str, Px.kb_int_list, Px.kb_int_tuple, Px.kb_int_dict, Px.kb_str_int, Px.kb_str_bool, Px.kb_str_str, Px.kb_str_list, Px.kb_str_tuple, Px.kb_str_dict, Px.kb_list_int, Px.kb_list_bool, Px.kb_list_str, Px.kb_list_list, Px.kb_list_tuple, Px.kb_list_dict, Px.kb_tuple_int, Px.kb_tuple_bool, Px.kb_tuple_str, Px.kb_tuple_list, Px.kb_tuple_tuple, Px.kb_tuple_dict, Px.kb_dict_int, Px.kb_dict_bool, Px.kb_dict_str, Px.kb_dict_list, Px.kb_dict_tuple, Px.kb_dict_dict, L2.upd_same, Px.updI, L2.ixN, List.set_cons_zero, List.set_cons_succ, List.length_cons, List.length_nil, Nat.reduceAdd, Nat.zero_add, L2.HO.lst.injEq, L2.HO.tup.injEq, L2.upd_upd, L2.V.int.injEq, L2.V.ref.injEq, L2.V.bl.injEq, L2.V.str.injEq, L2.V.ty.injEq, List.cons.injEq, and_true, true_and, and_false, false_and, or_false, false_or, exists_eq_left', exists_eq_left, exists_and_left, exists_const, exists_false, Option.some.injEq, decide_eq_true_eq, List.append_nil, List.cons_append, List.nil_append, Option.isSome_some, Bool.not_true, Bool.not_false, Bool.not_eq_true', Bool.not_eq_true, Bool.false_eq_true, decide_eq_false_iff_not, if_true, if_false, ite_true, ite_false, Int.reduceLE, Int.reduceLT, Int.reduceToNat, Int.cast_ofNat_Int, Bool.true_eq_false, eq_self, ↓reduceIte, reduceCtorEq, Px.aug, Px.ipi, Px.tri, Px.rcatth, Px.flh, Px.sfl, Px.met, Px.mak]
  have e02 := e1.trans e2
  have hL2 := hL.ext e02
  obtain ⟨dx, hp2⟩ := met_ok hL2
  refine go_seq ?_
  simp only [decide_true, decide_false, List.map_cons, List.map_nil, Option.map_none, Option.map_some, Option.getD_none, Option.getD_some, Px.dg2, Px.dg1, Px.dg, Px.din, Px.dnotin, Px.dnew, Px.dput, Px.isD_is, Px.dget_i, Px.dget_s, Px.dput_i, Px.dput_s, Px.dOf_d, Px.rtup, Px.rlist, Px.rsl, Px.rsort, Px.rcat, Px.rapp, Px.rrev, Px.sl_ap, Px.nop, Px.part, Px.yes, Px.tyl, Px.isL_l, Px.isT_t, Px.isL_t, Px.isT_l, Px.isD_d, Px.isT_d, Px.inV_ints, Px.flat_ints, Px.flatV_i, Px.wipe_cons, Px.wipe_nil, Px.gtup, Px.gcons, Px.gnil, gt_iff_lt, ge_iff_le, Px.we, Px.wonly, Px.was, Px.cxK, not_true_eq_false, and_self, true_implies, false_implies, implies_true, Px.e0, and_assoc, imp_false, not_false_eq_true, ne_eq, Px.rgcd, Px.rixl, Px.rixt, Px.v0, Px.v1, Px.v2, Px.v3, Px.v4, Px.v5, Px.v6, Px.v7, Px.v8, Px.v9, Px.v10, Px.v11, Px.v12, Px.v13, Px.v14, Px.v15, Px.v16, Px.v17, Px.v18, Px.v19, Px.v20, Px.v21, Px.v22, Px.v23, Px.c0, Px.asg, Px.gnm, Px.ret, Px.retN, Px.drop, Px.nxt, Px.brk, Px.cnt, Px.ifs, Px.op, Px.un, Px.tst, Px.tbl, Px.tand, Px.tor, Px.tnot, Px.andv, Px.orv, Px.notv, Px.tif, Px.tup, Px.lst, Px.nil, Px.cons, Px.cal, Px.calS, Px.cb, Px.par, Px.gsub, Px.bits, Px.bm, Px.bm0, Px.ri, Px.ri0, Px.ru, Px.req, Px.rne, Px.rix, Px.rlen, Px.rin, Px.rsetl, Px.risi, Px.tyH_n, Px.tyH_b, Px.tyH_i, Px.tyH_s, Px.tyH_r, Px.seqH_t, Px.seqH_l, Px.seqH_fl, Px.sc_ii, Px.sc_bb, Px.sc_ss, Px.atI0, Px.atI1, Px.atI2, Px.atI3, Px.atI4, Px.atI5, Px.atI6, Px.atI7, Px.kb_NoneType_int, Px.kb_NoneType_bool, Px.kb_NoneType_str, Px.kb_NoneType_list, Px.kb_NoneType_tuple, Px.kb_NoneType_dict, Px.kb_bool_int, Px.kb_bool_bool, Px.kb_bool_str, Px.kb_bool_list, Px.kb_bool_tuple, Px.kb_bool_dict, Px.kb_int_int, Px.kb_int_bool, Px.kb_int_str, Px.kb_int_list, Px.kb_int_tuple, Px.kb_int_dict, Px.kb_str_int, Px.kb_str_bool, Px.kb_str_str, Px.kb_str_list, Px.kb_str_tuple, Px.kb_str_dict, Px.kb_list_int, Px.kb_list_bool, Px.kb_list_str, Px.kb_list_list, Px.kb_list_tuple, Px.kb_list_dict, Px.kb_tuple_int, Px.kb_tuple_bool, Px.kb_tuple_str, Px.kb_tuple_list, Px.kb_tuple_tuple, Px.kb_tuple_dict, Px.kb_dict_int, Px.kb_dict_bool, Px.kb_dict_str, Px.kb_dict_list, Px.kb_dict_tuple, Px.kb_dict_dict, L2.upd_same, Px.updI, L2.ixN, List.set_cons_zero, List.set_cons_succ, List.length_cons, List.length_nil, Nat.reduceAdd, Nat.zero_add, L2.HO.lst.injEq, L2.HO.tup.injEq, L2.upd_upd, L2.V.int.injEq, L2.V.ref.injEq, L2.V.bl.injEq, L2.V.str.injEq, L2.V.ty.injEq, List.cons.injEq, and_true, true_and, and_false, false_and, or_false, false_or, exists_eq_left', exists_eq_left, exists_and_left, exists_const, exists_false, Option.some.injEq, decide_eq_true_eq, List.append_nil, List.cons_append, List.nil_append, Option.isSome_some, Bool.not_true, Bool.not_false, Bool.not_eq_true', Bool.not_eq_true, Bool.false_eq_true, decide_eq_false_iff_not, if_true, if_false, ite_true, ite_false, Int.reduceLE, Int.reduceLT, Int.reduceToNat, Int.cast_ofNat_Int, Bool.true_eq_false, eq_self, ↓reduceIte, reduceCtorEq, Px.aug, Px.ipi, Px.tri, Px.rcatth, Px.flh, Px.sfl, Px.met, Px.mak, *]
  refine ⟨dx, _, rfl, lk1 (by decide +kernel), allS_ok hL2 fun q3 H3 n3 s3 e3 => ?_⟩
  have e03 := e02.trans e3
  have n3' := e02.no n3
  refine go_seq ?_
  simp only [decide_true, decide_false, List.map_cons, List.map_nil, Option.map_none, Option.map_some, Option.getD_none, Option.getD_some, Px.dg2, Px.dg1, Px.dg, Px.din, Px.dnotin, Px.dnew, Px.dput, Px.isD_is, Px.dget_i, Px.dget_s, Px.dput_i, Px.dput_s, Px.dOf_d, Px.rtup, Px.rlist, Px.rsl, Px.rsort, Px.rcat, Px.rapp, Px.rrev, Px.sl_ap, Px.nop, Px.part, Px.yes, Px.tyl, Px.isL_l, Px.isT_t, Px.isL_t, Px.isT_l, Px.isD_d, Px.isT_d, Px.inV_ints, Px.flat_ints, Px.flatV_i, Px.wipe_cons, Px.wipe_nil, Px.gtup, Px.gcons, Px.gnil, gt_iff_lt, ge_iff_le, Px.we, Px.wonly, Px.was, Px.cxK, not_true_eq_false, and_self, true_implies, false_implies, implies_true, Px.e0, and_assoc, imp_false, not_false_eq_true, ne_eq, Px.rgcd, Px.rixl, Px.rixt, Px.v0, Px.v1, Px.v2, Px.v3, Px.v4, Px.v5, Px.v6, Px.v7, Px.v8, Px.v9, Px.v10, Px.v11, Px.v12, Px.v13, Px.v14, Px.v15, Px.v16, Px.v17, Px.v18, Px.v19, Px.v20, Px.v21, Px.v22, Px.v23, Px.c0, Px.asg, Px.gnm, Px.ret, Px.retN, Px.drop, Px.nxt, Px.brk, Px.cnt, Px.ifs, Px.op, Px.un, Px.tst, Px.tbl, Px.tand, Px.tor, Px.tnot, Px.andv, Px.orv, Px.notv, Px.tif, Px.tup, Px.lst, Px.nil, Px.cons, Px.cal, Px.calS, Px.cb, Px.par, Px.gsub, Px.bits, Px.bm, Px.bm0, Px.ri, Px.ri0, Px.ru, Px.req, Px.rne, Px.rix, Px.rlen, Px.rin, Px.rsetl, Px.risi, Px.tyH_n, Px.tyH_b, Px.tyH_i, Px.tyH_s, Px.tyH_r, Px.seqH_t, Px.seqH_l, Px.seqH_fl, Px.sc_ii, Px.sc_bb, Px.sc_ss, Px.atI0, Px.atI1, Px.atI2, Px.atI3, Px.atI4, Px.atI5, Px.atI6, Px.atI7, Px.kb_NoneType_int, Px.kb_NoneType_bool, Px.kb_NoneType_str, Px.kb_NoneType_list, Px.kb_NoneType_tuple, Px.kb_NoneType_dict, Px.kb_bool_int, Px.kb_bool_bool, Px.kb_bool_str, Px.kb_bool_list, Px.kb_bool_tuple, Px.kb_bool_dict, Px.kb_int_int, Px.kb_int_bool, Px.kb_int_str, Px.kb_int_list, Px.kb_int_tuple, Px.kb_int_dict, Px.kb_str_int, Px.kb_str_bool, Px.kb_str_str, Px.kb_str_list, Px.kb_str_tuple, Px.kb_str_dict, Px.kb_list_int, Px.kb_list_bool, Px.kb_list_str, Px.kb_list_list, Px.kb_list_tuple, Px.kb_list_dict, Px.kb_tuple_int, Px.kb_tuple_bool, Px.kb_tuple_str, Px.kb_tuple_list, Px.kb_tuple_tuple, Px.kb_tuple_dict, Px.kb_dict_int, Px.kb_dict_bool, Px.kb_dict_str, Px.kb_dict_list, Px.kb_dict_tuple, Px.kb_dict_dict, L2.upd_same, Px.updI, L2.ixN, List.set_cons_zero, List.set_cons_succ, List.length_cons, List.length_nil, Nat.reduceAdd, Nat.zero_add, L2.HO.lst.injEq, L2.HO.tup.injEq, L2.upd_upd, L2.V.int.injEq, L2.V.ref.injEq, L2.V.bl.injEq, L2.V.str.injEq, L2.V.ty.injEq, List.cons.injEq, and_true, true_and, and_false, false_and, or_false, false_or, exists_eq_left', exists_eq_left, exists_and_left, exists_const, exists_false, Option.some.injEq, decide_eq_true_eq, List.append_nil, List.cons_append, List.nil_append, Option.isSome_some, Bool.not_true, Bool.not_false, Bool.not_eq_true', Bool.not_eq_true, Bool.false_eq_true, decide_eq_false_iff_not, if_true, if_false, ite_true, ite_false, Int.reduceLE, Int.reduceLT, Int.reduceToNat, Int.cast_ofNat_Int, Bool.true_eq_false, eq_self, ↓reduceIte, reduceCtorEq, Px.aug, Px.ipi, Px.tri, Px.rcatth, Px.flh, Px.sfl, Px.met, Px.mak, *, spAlL]
  refine ⟨xs, s3, hS.mono e03, wf, fun H4 e4 => ?_⟩
  have e04 := e03.trans e4
  obtain ⟨v3, h34, d34⟩ := s3.mono e4
  have l34 := Steps.len d34
  refine go_seq ?_
  simp only [decide_true, decide_false, List.map_cons, List.map_nil, Option.map_none, Option.map_some, Option.getD_none, Option.getD_some, Px.dg2, Px.dg1, Px.dg, Px.din, Px.dnotin, Px.dnew, Px.dput, Px.isD_is, Px.dget_i, Px.dget_s, Px.dput_i, Px.dput_s, Px.dOf_d, Px.rtup, Px.rlist, Px.rsl, Px.rsort, Px.rcat, Px.rapp, Px.rrev, Px.sl_ap, Px.nop, Px.part, Px.yes, Px.tyl, Px.isL_l, Px.isT_t, Px.isL_t, Px.isT_l, Px.isD_d, Px.isT_d, Px.inV_ints, Px.flat_ints, Px.flatV_i, Px.wipe_cons, Px.wipe_nil, Px.gtup, Px.gcons, Px.gnil, gt_iff_lt, ge_iff_le, Px.we, Px.wonly, Px.was, Px.cxK, not_true_eq_false, and_self, true_implies, false_implies, implies_true, Px.e0, and_assoc, imp_false, not_false_eq_true, ne_eq, Px.rgcd, Px.rixl, Px.rixt, Px.v0, Px.v1, Px.v2, Px.v3, Px.v4, Px.v5, Px.v6, Px.v7, Px.v8, Px.v9, Px.v10, Px.v11, Px.v12, Px.v13, Px.v14, Px.v15, Px.v16, Px.v17, Px.v18, Px.v19, Px.v20, Px.v21, Px.v22, Px.v23, Px.c0, Px.asg, Px.gnm, Px.ret, Px.retN, Px.drop, Px.nxt, Px.brk, Px.cnt, Px.ifs, Px.op, Px.un, Px.tst, Px.tbl, Px.tand, Px.tor, Px.tnot, Px.andv, Px.orv, Px.notv, Px.tif, Px.tup, Px.lst, Px.nil, Px.cons, Px.cal, Px.calS, Px.cb, Px.par, Px.gsub, Px.bits, Px.bm, Px.bm0, Px.ri, Px.ri0, Px.ru, Px.req, Px.rne, Px.rix, Px.rlen, Px.rin, Px.rsetl, Px.risi, Px.tyH_n, Px.tyH_b, Px.tyH_i, Px.tyH_s, Px.tyH_r, Px.seqH_t, Px.seqH_l, Px.seqH_fl, Px.sc_ii, Px.sc_bb, Px.sc_ss, Px.atI0, Px.atI1, Px.atI2, Px.atI3, Px.atI4, Px.atI5, Px.atI6, Px.atI7, Px.kb_NoneType_int, Px.kb_NoneType_bool, Px.kb_NoneType_str, Px.kb_NoneType_list, Px.kb_NoneType_tuple, Px.kb_NoneType_dict, Px.kb_bool_int, Px.kb_bool_bool, Px.kb_bool_str, Px.kb_bool_list, Px.kb_bool_tuple, Px.kb_bool_dict, Px.kb_int_int, Px.kb_int_bool, Px.kb_int_str, Px.kb_int_list, Px.kb_int_tuple, Px.kb_int_dict, Px.kb_str_int, Px.kb_str_bool, Px.kb_str_str, Px.kb_str_list, Px.kb_str_tuple, Px.kb_str_dict, Px.kb_list_int, Px.kb_list_bool, Px.kb_list_str, Px.kb_list_list, Px.kb_list_tuple, Px.kb_list_dict, Px.kb_tuple_int, Px.kb_tuple_bool, Px.kb_tuple_str, Px.kb_tuple_list, Px.kb_tuple_tuple, Px.kb_tuple_dict, Px.kb_dict_int, Px.kb_dict_bool, Px.kb_dict_str, Px.kb_dict_list, Px.kb_dict_tuple, Px.kb_dict_dict, L2.upd_same, Px.updI, L2.ixN, List.set_cons_zero, List.set_cons_succ, List.length_cons, List.length_nil, Nat.reduceAdd, Nat.zero_add, L2.HO.lst.injEq, L2.HO.tup.injEq, L2.upd_upd, L2.V.int.injEq, L2.V.ref.injEq, L2.V.bl.injEq, L2.V.str.injEq, L2.V.ty.injEq, List.cons.injEq, and_true, true_and, and_false, false_and, or_false, false_or, exists_eq_left', exists_eq_left, exists_and_left, exists_const, exists_false, Option.some.injEq, decide_eq_true_eq, List.append_nil, List.cons_append, List.nil_append, Option.isSome_some, Bool.not_true, Bool.not_false, Bool.not_eq_true', Bool.not_eq_true, Bool.false_eq_true, decide_eq_false_iff_not, if_true, if_false, ite_true, ite_false, Int.reduceLE, Int.reduceLT, Int.reduceToNat, Int.cast_ofNat_Int, Bool.true_eq_false, eq_self, ↓reduceIte, reduceCtorEq, Px.aug, Px.ipi, Px.tri, Px.rcatth, Px.flh, Px.sfl, Px.met, Px.mak, *]
  refine ⟨by decide, fun r nr => ?_⟩
  have y5 : Px.Ext H4 (upd H4 r (.tup [])) := (Px.Ext.rfl' H4).new nr
  generalize upd H4 r (.tup []) = H5 at *
  refine ⟨by decide, fun r2 nr2 => ?_⟩
  have y6 : Px.Ext H5 (upd H5 r2 (.tup [.str "given", .ref r, .non])) := (Px.Ext.rfl' H5).new nr2
  generalize upd H5 r2 (.tup [.str "given", .ref r, .non]) = H6 at *
  refine ⟨v3, (y5.trans y6).get h34, Nat.lt_of_lt_of_le (show v3.length < 100 by omega) (by decide), ?_⟩
  have e07 : Px.Ext H (upd H6 q3 (.lst (v3 ++ [.ref r2]))) := ((e04.trans y5).trans y6).mut n3'
  generalize upd H6 q3 (.lst (v3 ++ [.ref r2])) = H7 at *
  refine go_seq ?_
  refine for_r1 (IKe p a q3 H) (xs.length : Int) ?_ ⟨by omega, by omega⟩ ⟨⟨_, rfl⟩, e07⟩ ?_ ?_
  · intro R hR
    have ha7 := e07.get ha
    simp only [decide_true, decide_false, List.map_cons, List.map_nil, Option.map_none, Option.map_some, Option.getD_none, Option.getD_some, Px.dg2, Px.dg1, Px.dg, Px.din, Px.dnotin, Px.dnew, Px.dput, Px.isD_is, Px.dget_i, Px.dget_s, Px.dput_i, Px.dput_s, Px.dOf_d, Px.rtup, Px.rlist, Px.rsl, Px.rsort, Px.rcat, Px.rapp, Px.rrev, Px.sl_ap, Px.nop, Px.part, Px.yes, Px.tyl, Px.isL_l, Px.isT_t, Px.isL_t, Px.isT_l, Px.isD_d, Px.isT_d, Px.inV_ints, Px.flat_ints, Px.flatV_i, Px.wipe_cons, Px.wipe_nil, Px.gtup, Px.gcons, Px.gnil, gt_iff_lt, ge_iff_le, Px.we, Px.wonly, Px.was, Px.cxK, not_true_eq_false, and_self, true_implies, false_implies, implies_true, Px.e0, and_assoc, imp_false, not_false_eq_true, ne_eq, Px.rgcd, Px.rixl, Px.rixt, Px.v0, Px.v1, Px.v2, Px.v3, Px.v4, Px.v5, Px.v6, Px.v7, Px.v8, Px.v9, Px.v10, Px.v11, Px.v12, Px.v13, Px.v14, Px.v15, Px.v16, Px.v17, Px.v18, Px.v19, Px.v20, Px.v21, Px.v22, Px.v23, Px.c0, Px.asg, Px.gnm, Px.ret, Px.retN, Px.drop, Px.nxt, Px.brk, Px.cnt, Px.ifs, Px.op, Px.un, Px.tst, Px.tbl, Px.tand, Px.tor, Px.tnot, Px.andv, Px.orv, Px.notv, Px.tif, Px.tup, Px.lst, Px.nil, Px.cons, Px.cal, Px.calS, Px.cb, Px.par, Px.gsub, Px.bits, Px.bm, Px.bm0, Px.ri, Px.ri0, Px.ru, Px.req, Px.rne, Px.rix, Px.rlen, Px.rin, Px.rsetl, Px.risi, Px.tyH_n, Px.tyH_b, Px.tyH_i, Px.tyH_s, Px.tyH_r, Px.seqH_t, Px.seqH_l, Px.seqH_fl, Px.sc_ii, Px.sc_bb, Px.sc_ss, Px.atI0, Px.atI1, Px.atI2, Px.atI3, Px.atI4, Px.atI5, Px.atI6, Px.atI7, Px.kb_NoneType_int, Px.kb_NoneType_bool, Px.kb_NoneType_str, Px.kb_NoneType_list, Px.kb_NoneType_tuple, Px.kb_NoneType_dict, Px.kb_bool_int, Px.kb_bool_bool, Px.kb_bool_str, Px.kb_bool_list, Px.kb_bool_tuple, Px.kb_bool_dict, Px.kb_int_int, Px.kb_int_bool, Px.kb_int_str, Px.kb_int_list, Px.kb_int_tuple, Px.kb_int_dict, Px.kb_str_int, Px.kb_str_bool, Px.kb_str_str, Px.kb_str_list, Px.kb_str_tuple, Px.kb_str_dict, Px.kb_list_int, Px.kb_list_bool, Px.kb_list_str, Px.kb_list_list, Px.kb_list_tuple, Px.kb_list_dict, Px.kb_tuple_int, Px.kb_tuple_bool, Px.kb_tuple_str, Px.kb_tuple_list, Px.kb_tuple_tuple, Px.kb_tuple_dict, Px.kb_dict_int, Px.kb_dict_bool, Px.kb_dict_str, Px.kb_dict_list, Px.kb_dict_tuple, Px.kb_dict_dict, L2.upd_same, Px.updI, L2.ixN, List.set_cons_zero, List.set_cons_succ, List.length_cons, List.length_nil, Nat.reduceAdd, Nat.zero_add, L2.HO.lst.injEq, L2.HO.tup.injEq, L2.upd_upd, L2.V.int.injEq, L2.V.ref.injEq, L2.V.bl.injEq, L2.V.str.injEq, L2.V.ty.injEq, List.cons.injEq, and_true, true_and, and_false, false_and, or_false, false_or, exists_eq_left', exists_eq_left, exists_and_left, exists_const, exists_false, Option.some.injEq, decide_eq_true_eq, List.append_nil, List.cons_append, List.nil_append, Option.isSome_some, Bool.not_true, Bool.not_false, Bool.not_eq_true', Bool.not_eq_true, Bool.false_eq_true, decide_eq_false_iff_not, if_true, if_false, ite_true, ite_false, Int.reduceLE, Int.reduceLT, Int.reduceToNat, Int.cast_ofNat_Int, Bool.true_eq_false, eq_self, ↓reduceIte, reduceCtorEq, Px.aug, Px.ipi, Px.tri, Px.rcatth, Px.flh, Px.sfl, Px.met, Px.mak, *]
  · rintro i σ' H8 hi ⟨⟨v, rfl⟩, e8⟩
    have li : i < xs.length := by omega
    obtain ⟨y, hy, dy⟩ := Steps.at_ hws li
    have ay := atI_nat hy
    have hL8 := hL.ext e8
    have ha8 := e8.get ha
    obtain ⟨dx8, hp8⟩ := met_ok hL8
    obtain ⟨b, c, e, rfl, g1, g2, g3⟩ := enc_inv dy
    have ok := wf.2 _ _ (at_get li)
    have dp := dep_enc ok
    simp only [decide_true, decide_false, List.map_cons, List.map_nil, Option.map_none, Option.map_some, Option.getD_none, Option.getD_some, Px.dg2, Px.dg1, Px.dg, Px.din, Px.dnotin, Px.dnew, Px.dput, Px.isD_is, Px.dget_i, Px.dget_s, Px.dput_i, Px.dput_s, Px.dOf_d, Px.rtup, Px.rlist, Px.rsl, Px.rsort, Px.rcat, Px.rapp, Px.rrev, Px.sl_ap, Px.nop, Px.part, Px.yes, Px.tyl, Px.isL_l, Px.isT_t, Px.isL_t, Px.isT_l, Px.isD_d, Px.isT_d, Px.inV_ints, Px.flat_ints, Px.flatV_i, Px.wipe_cons, Px.wipe_nil, Px.gtup, Px.gcons, Px.gnil, gt_iff_lt, ge_iff_le, Px.we, Px.wonly, Px.was, Px.cxK, not_true_eq_false, and_self, true_implies, false_implies, implies_true, Px.e0, and_assoc, imp_false, not_false_eq_true, ne_eq, Px.rgcd, Px.rixl, Px.rixt, Px.v0, Px.v1, Px.v2, Px.v3, Px.v4, Px.v5, Px.v6, Px.v7, Px.v8, Px.v9, Px.v10, Px.v11, Px.v12, Px.v13, Px.v14, Px.v15, Px.v16, Px.v17, Px.v18, Px.v19, Px.v20, Px.v21, Px.v22, Px.v23, Px.c0, Px.asg, Px.gnm, Px.ret, Px.retN, Px.drop, Px.nxt, Px.brk, Px.cnt, Px.ifs, Px.op, Px.un, Px.tst, Px.tbl, Px.tand, Px.tor, Px.tnot, Px.andv, Px.orv, Px.notv, Px.tif, Px.tup, Px.lst, Px.nil, Px.cons, Px.cal, Px.calS, Px.cb, Px.par, Px.gsub, Px.bits, Px.bm, Px.bm0, Px.ri, Px.ri0, Px.ru, Px.req, Px.rne, Px.rix, Px.rlen, Px.rin, Px.rsetl, Px.risi, Px.tyH_n, Px.tyH_b, Px.tyH_i, Px.tyH_s, Px.tyH_r, Px.seqH_t, Px.seqH_l, Px.seqH_fl, Px.sc_ii, Px.sc_bb, Px.sc_ss, Px.atI0, Px.atI1, Px.atI2, Px.atI3, Px.atI4, Px.atI5, Px.atI6, Px.atI7, Px.kb_NoneType_int, Px.kb_NoneType_bool, Px.kb_NoneType_str, Px.kb_NoneType_list, Px.kb_NoneType_tuple, Px.kb_NoneType_dict, Px.kb_bool_int, Px.kb_bool_bool, Px.kb_bool_str, Px.kb_bool_list, Px.kb_bool_tuple, Px.kb_bool_dict, Px.kb_int_int, Px.kb_int_bool, Px.kb_int_str, Px.kb_int_list, Px.kb_int_tuple, Px.kb_int_dict, Px.kb_str_int, Px.kb_str_bool, Px.kb_str_str, Px.kb_str_list, Px.kb_str_tuple, Px.kb_str_dict, Px.kb_list_int, Px.kb_list_bool, Px.kb_list_str, Px.kb_list_list, Px.kb_list_tuple, Px.kb_list_dict, Px.kb_tuple_int, Px.kb_tuple_bool, Px.kb_tuple_str, Px.kb_tuple_list, Px.kb_tuple_tuple, Px.kb_tuple_dict, Px.kb_dict_int, Px.kb_dict_bool, Px.kb_dict_str, Px.kb_dict_list, Px.kb_dict_tuple, Px.kb_dict_dict, L2.upd_same, Px.updI, L2.ixN, List.set_cons_zero, List.set_cons_succ, List.length_cons, List.length_nil, Nat.reduceAdd, Nat.zero_add, L2.HO.lst.injEq, L2.HO.tup.injEq, L2.upd_upd, L2.V.int.injEq, L2.V.ref.injEq, L2.V.bl.injEq, L2.V.str.injEq, L2.V.ty.injEq, List.cons.injEq, and_true, true_and, and_false, false_and, or_false, false_or, exists_eq_left', exists_eq_left, exists_and_left, exists_const, exists_false, Option.some.injEq, decide_eq_true_eq, List.append_nil, List.cons_append, List.nil_append, Option.isSome_some, Bool.not_true, Bool.not_false, Bool.not_eq_true', Bool.not_eq_true, Bool.false_eq_true, decide_eq_false_iff_not, if_true, if_false, ite_true, ite_false, Int.reduceLE, Int.reduceLT, Int.reduceToNat, Int.cast_ofNat_Int, Bool.true_eq_false, eq_self, ↓reduceIte, reduceCtorEq, Px.aug, Px.ipi, Px.tri, Px.rcatth, Px.flh, Px.sfl, Px.met, Px.mak, *]
    refine ⟨dx8, _, rfl, lk1 (by decide +kernel), step_ok hL8 li fun x dx => ⟨ws, by rw [ha8]; rfl, .ref b, ay, x, .ref b, enc (at_ xs i), rfl, dp.mono (by decide), dx, dy.mono e8.tu, fun H9 e9 => ⟨true, rfl, ?_⟩⟩⟩
    rw [if_neg (by decide)]
    have e09 := e8.trans e9
    have hL9 := hL.ext e09
    obtain ⟨dx9, hp9⟩ := met_ok hL9
    refine ⟨dx9, _, hp9, lk1 (by decide +kernel), clAt_ok hL9 li fun x dx => ⟨ws, by rw [e09.get ha]; rfl, .ref b, ay, b, rfl, _, by rw [e09.get g1]; rfl, _, atI1, x, .ref c, _, rfl, dep_ints (by have := dep_enc ok; have : (ln (at_ xs i)).length ≤ 4 := by { cases ex : at_ xs i <;> (rw [ex] at ok; exact ok.1) }; omega) 4, dx, .tup (e09.get g2) (DtAll.ints _), fun H10 e10 => ⟨true, rfl, ?_⟩⟩⟩
    rw [if_neg (by decide)]
    exact ⟨⟨_, rfl⟩, e09.trans e10⟩
  · rintro σ' H8 ⟨⟨v, rfl⟩, e8⟩
    have hL8 := hL.ext e8
    have ha8 := e8.get ha
    have hal8 : seqH (H8 a) = some ws := by rw [ha8]; rfl
    obtain ⟨dx8, hp8⟩ := met_ok hL8
    simp only [decide_true, decide_false, List.map_cons, List.map_nil, Option.map_none, Option.map_some, Option.getD_none, Option.getD_some, Px.dg2, Px.dg1, Px.dg, Px.din, Px.dnotin, Px.dnew, Px.dput, Px.isD_is, Px.dget_i, Px.dget_s, Px.dput_i, Px.dput_s, Px.dOf_d, Px.rtup, Px.rlist, Px.rsl, Px.rsort, Px.rcat, Px.rapp, Px.rrev, Px.sl_ap, Px.nop, Px.part, Px.yes, Px.tyl, Px.isL_l, Px.isT_t, Px.isL_t, Px.isT_l, Px.isD_d, Px.isT_d, Px.inV_ints, Px.flat_ints, Px.flatV_i, Px.wipe_cons, Px.wipe_nil, Px.gtup, Px.gcons, Px.gnil, gt_iff_lt, ge_iff_le, Px.we, Px.wonly, Px.was, Px.cxK, not_true_eq_false, and_self, true_implies, false_implies, implies_true, Px.e0, and_assoc, imp_false, not_false_eq_true, ne_eq, Px.rgcd, Px.rixl, Px.rixt, Px.v0, Px.v1, Px.v2, Px.v3, Px.v4, Px.v5, Px.v6, Px.v7, Px.v8, Px.v9, Px.v10, Px.v11, Px.v12, Px.v13, Px.v14, Px.v15, Px.v16, Px.v17, Px.v18, Px.v19, Px.v20, Px.v21, Px.v22, Px.v23, Px.c0, Px.asg, Px.gnm, Px.ret, Px.retN, Px.drop, Px.nxt, Px.brk, Px.cnt, Px.ifs, Px.op, Px.un, Px.tst, Px.tbl, Px.tand, Px.tor, Px.tnot, Px.andv, Px.orv, Px.notv, Px.tif, Px.tup, Px.lst, Px.nil, Px.cons, Px.cal, Px.calS, Px.cb, Px.par, Px.gsub, Px.bits, Px.bm, Px.bm0, Px.ri, Px.ri0, Px.ru, Px.req, Px.rne, Px.rix, Px.rlen, Px.rin, Px.rsetl, Px.risi, Px.tyH_n, Px.tyH_b, Px.tyH_i, Px.tyH_s, Px.tyH_r, Px.seqH_t, Px.seqH_l, Px.seqH_fl, Px.sc_ii, Px.sc_bb, Px.sc_ss, Px.atI0, Px.atI1, Px.atI2, Px.atI3, Px.atI4, Px.atI5, Px.atI6, Px.atI7, Px.kb_NoneType_int, Px.kb_NoneType_bool, Px.kb_NoneType_str, Px.kb_NoneType_list, Px.kb_NoneType_tuple, Px.kb_NoneType_dict, Px.kb_bool_int, Px.kb_bool_bool, Px.kb_bool_str, Px.kb_bool_list, Px.kb_bool_tuple, Px.kb_bool_dict, Px.kb_int_int, Px.kb_int_bool, Px.kb_int_str, Px.kb_int_list, Px.kb_int_tuple, Px.kb_int_dict, Px.kb_str_int, Px.kb_str_bool, Px.kb_str_str, Px.kb_str_list, Px.kb_str_tuple, Px.kb_str_dict, Px.kb_list_int, Px.kb_list_bool, Px.kb_list_str, Px.kb_list_list, Px.kb_list_tuple, Px.kb_list_dict, Px.kb_tuple_int, Px.kb_tuple_bool, Px.kb_tuple_str, Px.kb_tuple_list, Px.kb_tuple_tuple, Px.kb_tuple_dict, Px.kb_dict_int, Px.kb_dict_bool, Px.kb_dict_str, Px.kb_dict_list, Px.kb_dict_tuple, Px.kb_dict_dict, L2.upd_same, Px.updI, L2.ixN, List.set_cons_zero, List.set_cons_succ, List.length_cons, List.length_nil, Nat.reduceAdd, Nat.zero_add, L2.HO.lst.injEq, L2.HO.tup.injEq, L2.upd_upd, L2.V.int.injEq, L2.V.ref.injEq, L2.V.bl.injEq, L2.V.str.injEq, L2.V.ty.injEq, List.cons.injEq, and_true, true_and, and_false, false_and, or_false, false_or, exists_eq_left', exists_eq_left, exists_and_left, exists_const, exists_false, Option.some.injEq, decide_eq_true_eq, List.append_nil, List.cons_append, List.nil_append, Option.isSome_some, Bool.not_true, Bool.not_false, Bool.not_eq_true', Bool.not_eq_true, Bool.false_eq_true, decide_eq_false_iff_not, if_true, if_false, ite_true, ite_false, Int.reduceLE, Int.reduceLT, Int.reduceToNat, Int.cast_ofNat_Int, Bool.true_eq_false, eq_self, ↓reduceIte, reduceCtorEq, Px.aug, Px.ipi, Px.tri, Px.rcatth, Px.flh, Px.sfl, Px.met, Px.mak]
    refine lenO_ok hL8 l40 ?_
    simp only [decide_true, decide_false, List.map_cons, List.map_nil, Option.map_none, Option.map_some, Option.getD_none, Option.getD_some, Px.dg2, Px.dg1, Px.dg, Px.din, Px.dnotin, Px.dnew, Px.dput, Px.isD_is, Px.dget_i, Px.dget_s, Px.dput_i, Px.dput_s, Px.dOf_d, Px.rtup, Px.rlist, Px.rsl, Px.rsort, Px.rcat, Px.rapp, Px.rrev, Px.sl_ap, Px.nop, Px.part, Px.yes, Px.tyl, Px.isL_l, Px.isT_t, Px.isL_t, Px.isT_l, Px.isD_d, Px.isT_d, Px.inV_ints, Px.flat_ints, Px.flatV_i, Px.wipe_cons, Px.wipe_nil, Px.gtup, Px.gcons, Px.gnil, gt_iff_lt, ge_iff_le, Px.we, Px.wonly, Px.was, Px.cxK, not_true_eq_false, and_self, true_implies, false_implies, implies_true, Px.e0, and_assoc, imp_false, not_false_eq_true, ne_eq, Px.rgcd, Px.rixl, Px.rixt, Px.v0, Px.v1, Px.v2, Px.v3, Px.v4, Px.v5, Px.v6, Px.v7, Px.v8, Px.v9, Px.v10, Px.v11, Px.v12, Px.v13, Px.v14, Px.v15, Px.v16, Px.v17, Px.v18, Px.v19, Px.v20, Px.v21, Px.v22, Px.v23, Px.c0, Px.asg, Px.gnm, Px.ret, Px.retN, Px.drop, Px.nxt, Px.brk, Px.cnt, Px.ifs, Px.op, Px.un, Px.tst, Px.tbl, Px.tand, Px.tor, Px.tnot, Px.andv, Px.orv, Px.notv, Px.tif, Px.tup, Px.lst, Px.nil, Px.cons, Px.cal, Px.calS, Px.cb, Px.par, Px.gsub, Px.bits, Px.bm, Px.bm0, Px.ri, Px.ri0, Px.ru, Px.req, Px.rne, Px.rix, Px.rlen, Px.rin, Px.rsetl, Px.risi, Px.tyH_n, Px.tyH_b, Px.tyH_i, Px.tyH_s, Px.tyH_r, Px.seqH_t, Px.seqH_l, Px.seqH_fl, Px.sc_ii, Px.sc_bb, Px.sc_ss, Px.atI0, Px.atI1, Px.atI2, Px.atI3, Px.atI4, Px.atI5, Px.atI6, Px.atI7, Px.kb_NoneType_int, Px.kb_NoneType_bool, Px.kb_NoneType_str, Px.kb_NoneType_list, Px.kb_NoneType_tuple, Px.kb_NoneType_dict, Px.kb_bool_int, Px.kb_bool_bool, Px.kb_bool_str, Px.kb_bool_list, Px.kb_bool_tuple, Px.kb_bool_dict, Px.kb_int_int, Px.kb_int_bool, Px.kb_int_str, Px.kb_int_list, Px.kb_int_tuple, Px.kb_int_dict, Px.kb_str_int, Px.kb_str_bool, Px.kb_str_str, Px.kb_str_list, Px.kb_str_tuple, Px.kb_str_dict, Px.kb_list_int, Px.kb_list_bool, Px.kb_list_str, Px.kb_list_list, Px.kb_list_tuple, Px.kb_list_dict, Px.kb_tuple_int, Px.kb_tuple_bool, Px.kb_tuple_str, Px.kb_tuple_list, Px.kb_tuple_tuple, Px.kb_tuple_dict, Px.kb_dict_int, Px.kb_dict_bool, Px.kb_dict_str, Px.kb_dict_list, Px.kb_dict_tuple, Px.kb_dict_dict, L2.upd_same, Px.updI, L2.ixN, List.set_cons_zero, List.set_cons_succ, List.length_cons, List.length_nil, Nat.reduceAdd, Nat.zero_add, L2.HO.lst.injEq, L2.HO.tup.injEq, L2.upd_upd, L2.V.int.injEq, L2.V.ref.injEq, L2.V.bl.injEq, L2.V.str.injEq, L2.V.ty.injEq, List.cons.injEq, and_true, true_and, and_false, false_and, or_false, false_or, exists_eq_left', exists_eq_left, exists_and_left, exists_const, exists_false, Option.some.injEq, decide_eq_true_eq, List.append_nil, List.cons_append, List.nil_append, Option.isSome_some, Bool.not_true, Bool.not_false, Bool.not_eq_true', Bool.not_eq_true, Bool.false_eq_true, decide_eq_false_iff_not, if_true, if_false, ite_true, ite_false, Int.reduceLE, Int.reduceLT, Int.reduceToNat, Int.cast_ofNat_Int, Bool.true_eq_false, eq_self, ↓reduceIte, reduceCtorEq, Px.aug, Px.ipi, Px.tri, Px.rcatth, Px.flh, Px.sfl, Px.met, Px.mak, *]
    exact ⟨dx8, _, rfl, lk1 (by decide +kernel), allS_ok hL8 fun q H9 n9 s9 e9 => ⟨q, a, xs, rfl, s9, hS.mono (e8.trans e9), wf, fun H10 e10 => k H10 ((e8.trans e9).trans e10)⟩⟩
def spTakes (C : Addr) (vs : List V) (H : Hp) (Q : VK) (_ : XK) : Prop := ∃ (p l b a : Addr) (ys xs : List St), vs = [.ref p, .ref b, .ref a] ∧ LogS C H p l ys ∧ Steps H b ys ∧ Steps H a xs ∧ l ≠ b ∧ l ≠ a ∧ Wf ys ∧ Wf xs ∧ ys.length + xs.length ≤ 40 ∧
  ∀ H', LogS C H' p l (ys ++ xs.map (shift ys.length)) → But l H H' → Q (.bl true) H'
theorem ok_takes (B : Bn mg) (F : FunAt K mg "_law_takes" s_law_takes) (D_law_whole : Def P w K mg base CX0 1 "_law_whole" ["value"] spWhole) (D_law_alike_lists : Def P w K mg base CX0 8 "_law_alike_lists" ["told", "due"] spAlL) (D_law_moved : Def P w K mg base CX0 1 "_law_moved" ["step", "start"] spMovedL)
    (D_law_keeps : Def P w K mg base CX0 9 "_law_keeps" ["log", "steps"] (spKeeps C)) (D_Log_take : MDef P w K mg base CX0 2 C "take" ["self", "steps"] (spTakeL C)) : Def P w K mg base CX0 10 "_law_takes" ["log", "before", "steps"] (spTakes C) := by
  refine F.ok sc_law_takes (fun _ _ _ _ _ _ us hl => match us, hl with | [_, _, _], _ => rfl) (fun vs H Q E h => by obtain ⟨_, _, _, _, _, _, rfl, _⟩ := h; rfl) (fun f cdv A outer s H vs Q E hr h => ?_)
  obtain ⟨p, l, b, a, ys, xs, rfl, hL, hB, hS, hlb, hla, wf1, wf2, l40, k⟩ := h
  refine ⟨_, pss_cons (ps_set (i := 3) sc_law_takes.nd rfl (Or.inl rfl) (pe_callTy list_H rfl B.list_ (by decide +kernel) (pa_cons (pv 2) pa_nil))) (
  pss_cons (ps_set (i := 4) sc_law_takes.nd rfl (Or.inl rfl) (pe_mm1 D_Log_take (hr.mono (by decide)) pass0 (pv 0) (pa_cons (pv 3) pa_nil))) (
  pss_cons (ps_if (pt_not (pt_val (pe_fn D_law_alike_lists (hr.mono (by decide)) pass0 (pa_cons (pv 3) (pa_cons (pv 2) pa_nil))))) (pss_one (ps_ret pe_bl)) (pss_nil)) (
  pss_cons (ps_expr (pe_bm PySem.F.plainAttrs_list PySem.F.slot_list_append PySem.F.type_list_append mt_append (pv 3) (pa_cons (pe_tup (pa_cons pe_str (pa_cons (pe_tup pa_nil) (pa_cons pe_non pa_nil)))) pa_nil))) (
  pcut (ps_if (PW.pt (pw_and (pt_cmpR op_eq (pe_callB len_H rfl B.len (by decide +kernel) (pa_cons (pv 2) pa_nil)) pe_int (nomark _)) (pw_and1 (pt_cmpR op_notN (pv 4) pe_non (nomark _))))) (pss_one (ps_ret pe_bl)) (pss_nil)) (
  pcut (ps_if (PW.pt (pw_and (pt_cmpR op_gt (pe_callB len_H rfl B.len (by decide +kernel) (pa_cons (pv 2) pa_nil)) pe_int (nomark _)) (pw_and1 (PW.pt (pw_or (pt_not (pt_val (pe_fn D_law_whole (hr.mono (by decide)) pass0 (pa_cons (pv 4) pa_nil)))) (pw_or1 (pt_cmpR op_ne (pv 4) (pe_op op_sub (pe_op op_add (pe_callB len_H rfl B.len (by decide +kernel) (pa_cons (pv 1) pa_nil)) (pe_callB len_H rfl B.len (by decide +kernel) (pa_cons (pv 2) pa_nil))) pe_int) (nomark _)))))))) (pss_one (ps_ret pe_bl)) (pss_nil)) (
  pss_one (ps_ret (pe_fn D_law_keeps hr pass0 (pa_cons (pv 0) (pa_cons (pe_op op_cat (pv 1) (pe_lc (own := [("step", 5)]) (g := gName 5) rfl sc_law_takes.nd (pi_seq (pv 2)) (blkOk_by (own := [("step", 5)]) (N := ["log", "before", "steps", "passed", "told", "step"]) (sc := defScope s_law_takes) (by decide +kernel)) (fun _ _ _ _ _ => (pg_name (i := 5) sc_law_takes.nd rfl (Or.inl rfl))) (fun _ _ _ _ _ => pts_nil) (fun _ _ _ _ _ => (pe_fn D_law_moved (hr.mono (by decide)) pass0 (pa_cons (pv 5) (pa_cons (pe_callB len_H rfl B.len (by decide +kernel) (pa_cons (pv 1) pa_nil)) pa_nil)))))) pa_nil)))))))))), ?_⟩
  show tSeq _ _ _ [some (.ref p), some (.ref b), some (.ref a), none, none, none] H
  obtain ⟨ws, ha, hws⟩ := id hS
  obtain ⟨us, hb, hus⟩ := id hB
  have lw := Steps.len hws
  have lu := Steps.len hus
  obtain ⟨vl, hl⟩ := hL.lst
  refine go_seq ?_
  simp only [decide_true, decide_false, List.map_cons, List.map_nil, Option.map_none, Option.map_some, Option.getD_none, Option.getD_some, Px.dg2, Px.dg1, Px.dg, Px.din, Px.dnotin, Px.dnew, Px.dput, Px.isD_is, Px.dget_i, Px.dget_s, Px.dput_i, Px.dput_s, Px.dOf_d, Px.rtup, Px.rlist, Px.rsl, Px.rsort, Px.rcat, Px.rapp, Px.rrev, Px.sl_ap, Px.nop, Px.part, Px.yes, Px.tyl, Px.isL_l, Px.isT_t, Px.isL_t, Px.isT_l, Px.isD_d, Px.isT_d, Px.inV_ints, Px.flat_ints, Px.flatV_i, Px.wipe_cons, Px.wipe_nil, Px.gtup, Px.gcons, Px.gnil, gt_iff_lt, ge_iff_le, Px.we, Px.wonly, Px.was, Px.cxK, not_true_eq_false, and_self, true_implies, false_implies, implies_true, Px.e0, and_assoc, imp_false, not_false_eq_true, ne_eq, Px.rgcd, Px.rixl, Px.rixt, Px.v0, Px.v1, Px.v2, Px.v3, Px.v4, Px.v5, Px.v6, Px.v7, Px.v8, Px.v9, Px.v10, Px.v11, Px.v12, Px.v13, Px.v14, Px.v15, Px.v16, Px.v17, Px.v18, Px.v19, Px.v20, Px.v21, Px.v22, Px.v23, Px.c0, Px.asg, Px.gnm, Px.ret, Px.retN, Px.drop, Px.nxt, Px.brk, Px.cnt, Px.ifs, Px.op, Px.un, Px.tst, Px.tbl, Px.tand, Px.tor, Px.tnot, Px.andv, Px.orv, Px.notv, Px.tif, Px.tup, Px.lst, Px.nil, Px.cons, Px.cal, Px.calS, Px.cb, Px.par, Px.gsub, Px.bits, Px.bm, Px.bm0, Px.ri, Px.ri0, Px.ru, Px.req, Px.rne, Px.rix, Px.rlen, Px.rin, Px.rsetl, Px.risi, Px.tyH_n, Px.tyH_b, Px.tyH_i, Px.tyH_s, Px.tyH_r, Px.seqH_t, Px.seqH_l, Px.seqH_fl, Px.sc_ii, Px.sc_bb, Px.sc_ss, Px.atI0, Px.atI1, Px.atI2, Px.atI3, Px.atI4, Px.atI5, Px.atI6, Px.atI7, Px.kb_NoneType_int, Px.kb_NoneType_bool, Px.kb_NoneType_str, Px.kb_NoneType_list, Px.kb_NoneType_tuple, Px.kb_NoneType_dict, Px.kb_bool_int, Px.kb_bool_bool, Px.kb_bool_str, Px.kb_bool_list, Px.kb_bool_tuple, Px.kb_bool_dict, Px.kb_int_int, Px.kb_int_bool, Px.kb_int_str, Px.kb_int_list, Px.kb_int_tuple, Px.kb_int_dict, Px.kb_str_int, Px.kb_str_bool, Px.kb_str_str, Px.kb_str_list, Px.kb_str_tuple, Px.kb_str_dict, Px.kb_list_int, Px.kb_list_bool, Px.kb_list_str, Px.kb_list_list, Px.kb_list_tuple, Px.kb_list_dict, Px.kb_tuple_int, Px.kb_tuple_bool, Px.kb_tuple_str, Px.kb_tuple_list, Px.kb_tuple_tuple, Px.kb_tuple_dict, Px.kb_dict_int, Px.kb_dict_bool, Px.kb_dict_str, Px.kb_dict_list, Px.kb_dict_tuple, Px.kb_dict_dict, L2.upd_same, Px.updI, L2.ixN, List.set_cons_zero, List.set_cons_succ, List.length_cons, List.length_nil, Nat.reduceAdd, Nat.zero_add, L2.HO.lst.injEq, L2.HO.tup.injEq, L2.upd_upd, L2.V.int.injEq, L2.V.ref.injEq, L2.V.bl.injEq, L2.V.str.injEq, L2.V.ty.injEq, List.cons.injEq, and_true, true_and, and_false, false_and, or_false, false_or, exists_eq_left', exists_eq_left, exists_and_left, exists_const, exists_false, Option.some.injEq, decide_eq_true_eq, List.append_nil, List.cons_append, List.nil_append, Option.isSome_some, Bool.not_true, Bool.not_false, Bool.not_eq_true', Bool.not_eq_true, Bool.false_eq_true, decide_eq_false_iff_not, if_true, if_false, ite_true, ite_false, Int.reduceLE, Int.reduceLT, Int.reduceToNat, Int.cast_ofNat_Int, Bool.true_eq_false, eq_self, ↓reduceIte, reduceCtorEq, Px.aug, Px.ipi, Px.tri, Px.rcatth, Px.flh, Px.sfl, Px.met, Px.mak, *]
  intro q nq
  have y1 : Px.Ext H (upd H q (.lst ws)) := (Px.Ext.rfl' H).new nq
  have x1 : (upd H q (.lst ws)) q = some (.lst ws) := upd_same
  generalize upd H q (.lst ws) = H1 at *
  have sq1 : Steps H1 q xs := ⟨ws, x1, hws.mono y1.tu⟩
  have nlq : l ≠ q := ne_some_none (by rw [hl]; rfl) nq
  have hL1 := hL.ext y1
  obtain ⟨dx1, hp1⟩ := met_ok hL1
  refine go_seq ?_
  simp only [decide_true, decide_false, List.map_cons, List.map_nil, Option.map_none, Option.map_some, Option.getD_none, Option.getD_some, Px.dg2, Px.dg1, Px.dg, Px.din, Px.dnotin, Px.dnew, Px.dput, Px.isD_is, Px.dget_i, Px.dget_s, Px.dput_i, Px.dput_s, Px.dOf_d, Px.rtup, Px.rlist, Px.rsl, Px.rsort, Px.rcat, Px.rapp, Px.rrev, Px.sl_ap, Px.nop, Px.part, Px.yes, Px.tyl, Px.isL_l, Px.isT_t, Px.isL_t, Px.isT_l, Px.isD_d, Px.isT_d, Px.inV_ints, Px.flat_ints, Px.flatV_i, Px.wipe_cons, Px.wipe_nil, Px.gtup, Px.gcons, Px.gnil, gt_iff_lt, ge_iff_le, Px.we, Px.wonly, Px.was, Px.cxK, not_true_eq_false, and_self, true_implies, false_implies, implies_true, Px.e0, and_assoc, imp_false, not_false_eq_true, ne_eq, Px.rgcd, Px.rixl, Px.rixt, Px.v0, Px.v1, Px.v2, Px.v3, Px.v4, Px.v5, Px.v6, Px.v7, Px.v8, Px.v9, Px.v10, Px.v11, Px.v12, Px.v13, Px.v14, Px.v15, Px.v16, Px.v17, Px.v18, Px.v19, Px.v20, Px.v21, Px.v22, Px.v23, Px.c0, Px.asg, Px.gnm, Px.ret, Px.retN, Px.drop, Px.nxt, Px.brk, Px.cnt, Px.ifs, Px.op, Px.un, Px.tst, Px.tbl, Px.tand, Px.tor, Px.tnot, Px.andv, Px.orv, Px.notv, Px.tif, Px.tup, Px.lst, Px.nil, Px.cons, Px.cal, Px.calS, Px.cb, Px.par, Px.gsub, Px.bits, Px.bm, Px.bm0, Px.ri, Px.ri0, Px.ru, Px.req, Px.rne, Px.rix, Px.rlen, Px.rin, Px.rsetl, Px.risi, Px.tyH_n, Px.tyH_b, Px.tyH_i, Px.tyH_s, Px.tyH_r, Px.seqH_t, Px.seqH_l, Px.seqH_fl, Px.sc_ii, Px.sc_bb, Px.sc_ss, Px.atI0, Px.atI1, Px.atI2, Px.atI3, Px.atI4, Px.atI5, Px.atI6, Px.atI7, Px.kb_NoneType_int, Px.kb_NoneType_bool, Px.kb_NoneType_str, Px.kb_NoneType_list, Px.kb_NoneType_tuple, Px.kb_NoneType_dict, Px.kb_bool_int, Px.kb_bool_bool, Px.kb_bool_str, Px.kb_bool_list, Px.kb_bool_tuple, Px.kb_bool_dict, Px.kb_int_int, Px.kb_int_bool, Px.kb_int_str, Px.kb_int_list, Px.kb_int_tuple, Px.kb_int_dict, Px.kb_str_int, Px.kb_str_bool, Px.kb_str_str, Px.kb_str_list, Px.kb_str_tuple, Px.kb_str_dict, Px.kb_list_int, Px.kb_list_bool, Px.kb_list_str, Px.kb_list_list, Px.kb_list_tuple, Px.kb_list_dict, Px.kb_tuple_int, Px.kb_tuple_bool, Px.kb_tuple_str, Px.kb_tuple_list, Px.kb_tuple_tuple, Px.kb_tuple_dict, Px.kb_dict_int, Px.kb_dict_bool, Px.kb_dict_str, Px.kb_dict_list, Px.kb_dict_tuple, Px.kb_dict_dict, L2.upd_same, Px.updI, L2.ixN, List.set_cons_zero, List.set_cons_succ, List.length_cons, List.length_nil, Nat.reduceAdd, Nat.zero_add, L2.HO.lst.injEq, L2.HO.tup.injEq, L2.upd_upd, L2.V.int.injEq, L2.V.ref.injEq, L2.V.bl.injEq, L2.V.str.injEq, L2.V.ty.injEq, List.cons.injEq, and_true, true_and, and_false, false_and, or_false, false_or, exists_eq_left', exists_eq_left, exists_and_left, exists_const, exists_false, Option.some.injEq, decide_eq_true_eq, List.append_nil, List.cons_append, List.nil_append, Option.isSome_some, Bool.not_true, Bool.not_false, Bool.not_eq_true', Bool.not_eq_true, Bool.false_eq_true, decide_eq_false_iff_not, if_true, if_false, ite_true, ite_false, Int.reduceLE, Int.reduceLT, Int.reduceToNat, Int.cast_ofNat_Int, Bool.true_eq_false, eq_self, ↓reduceIte, reduceCtorEq, Px.aug, Px.ipi, Px.tri, Px.rcatth, Px.flh, Px.sfl, Px.met, Px.mak, *]
  refine ⟨dx1, _, rfl, lk1 (by decide +kernel), p, l, q, ys, xs, rfl, hL1, sq1, wf1, wf2, l40, fun v H2 hL2 b2 hv => ?_⟩
  have nt1 : isT (H1 l) = false := by rw [y1.get hl]; rfl
  have sa2 := (hS.mono y1).but1 hla.symm nt1 b2
  have sb2 := (hB.mono y1).but1 hlb.symm nt1 b2
  have sq2 := sq1.but1 nlq.symm nt1 b2
  have b02 : But l H H2 := (But.of y1).trans b2
  simp only [decide_true, decide_false, List.map_cons, List.map_nil, Option.map_none, Option.map_some, Option.getD_none, Option.getD_some, Px.dg2, Px.dg1, Px.dg, Px.din, Px.dnotin, Px.dnew, Px.dput, Px.isD_is, Px.dget_i, Px.dget_s, Px.dput_i, Px.dput_s, Px.dOf_d, Px.rtup, Px.rlist, Px.rsl, Px.rsort, Px.rcat, Px.rapp, Px.rrev, Px.sl_ap, Px.nop, Px.part, Px.yes, Px.tyl, Px.isL_l, Px.isT_t, Px.isL_t, Px.isT_l, Px.isD_d, Px.isT_d, Px.inV_ints, Px.flat_ints, Px.flatV_i, Px.wipe_cons, Px.wipe_nil, Px.gtup, Px.gcons, Px.gnil, gt_iff_lt, ge_iff_le, Px.we, Px.wonly, Px.was, Px.cxK, not_true_eq_false, and_self, true_implies, false_implies, implies_true, Px.e0, and_assoc, imp_false, not_false_eq_true, ne_eq, Px.rgcd, Px.rixl, Px.rixt, Px.v0, Px.v1, Px.v2, Px.v3, Px.v4, Px.v5, Px.v6, Px.v7, Px.v8, Px.v9, Px.v10, Px.v11, Px.v12, Px.v13, Px.v14, Px.v15, Px.v16, Px.v17, Px.v18, Px.v19, Px.v20, Px.v21, Px.v22, Px.v23, Px.c0, Px.asg, Px.gnm, Px.ret, Px.retN, Px.drop, Px.nxt, Px.brk, Px.cnt, Px.ifs, Px.op, Px.un, Px.tst, Px.tbl, Px.tand, Px.tor, Px.tnot, Px.andv, Px.orv, Px.notv, Px.tif, Px.tup, Px.lst, Px.nil, Px.cons, Px.cal, Px.calS, Px.cb, Px.par, Px.gsub, Px.bits, Px.bm, Px.bm0, Px.ri, Px.ri0, Px.ru, Px.req, Px.rne, Px.rix, Px.rlen, Px.rin, Px.rsetl, Px.risi, Px.tyH_n, Px.tyH_b, Px.tyH_i, Px.tyH_s, Px.tyH_r, Px.seqH_t, Px.seqH_l, Px.seqH_fl, Px.sc_ii, Px.sc_bb, Px.sc_ss, Px.atI0, Px.atI1, Px.atI2, Px.atI3, Px.atI4, Px.atI5, Px.atI6, Px.atI7, Px.kb_NoneType_int, Px.kb_NoneType_bool, Px.kb_NoneType_str, Px.kb_NoneType_list, Px.kb_NoneType_tuple, Px.kb_NoneType_dict, Px.kb_bool_int, Px.kb_bool_bool, Px.kb_bool_str, Px.kb_bool_list, Px.kb_bool_tuple, Px.kb_bool_dict, Px.kb_int_int, Px.kb_int_bool, Px.kb_int_str, Px.kb_int_list, Px.kb_int_tuple, Px.kb_int_dict, Px.kb_str_int, Px.kb_str_bool, Px.kb_str_str, Px.kb_str_list, Px.kb_str_tuple, Px.kb_str_dict, Px.kb_list_int, Px.kb_list_bool, Px.kb_list_str, Px.kb_list_list, Px.kb_list_tuple, Px.kb_list_dict, Px.kb_tuple_int, Px.kb_tuple_bool, Px.kb_tuple_str, Px.kb_tuple_list, Px.kb_tuple_tuple, Px.kb_tuple_dict, Px.kb_dict_int, Px.kb_dict_bool, Px.kb_dict_str, Px.kb_dict_list, Px.kb_dict_tuple, Px.kb_dict_dict, L2.upd_same, Px.updI, L2.ixN, List.set_cons_zero, List.set_cons_succ, List.length_cons, List.length_nil, Nat.reduceAdd, Nat.zero_add, L2.HO.lst.injEq, L2.HO.tup.injEq, L2.upd_upd, L2.V.int.injEq, L2.V.ref.injEq, L2.V.bl.injEq, L2.V.str.injEq, L2.V.ty.injEq, List.cons.injEq, and_true, true_and, and_false, false_and, or_false, false_or, exists_eq_left', exists_eq_left, exists_and_left, exists_const, exists_false, Option.some.injEq, decide_eq_true_eq, List.append_nil, List.cons_append, List.nil_append, Option.isSome_some, Bool.not_true, Bool.not_false, Bool.not_eq_true', Bool.not_eq_true, Bool.false_eq_true, decide_eq_false_iff_not, if_true, if_false, ite_true, ite_false, Int.reduceLE, Int.reduceLT, Int.reduceToNat, Int.cast_ofNat_Int, Bool.true_eq_false, eq_self, ↓reduceIte, reduceCtorEq, Px.aug, Px.ipi, Px.tri, Px.rcatth, Px.flh, Px.sfl, Px.met, Px.mak]
  refine go_seq ?_
  simp only [decide_true, decide_false, List.map_cons, List.map_nil, Option.map_none, Option.map_some, Option.getD_none, Option.getD_some, Px.dg2, Px.dg1, Px.dg, Px.din, Px.dnotin, Px.dnew, Px.dput, Px.isD_is, Px.dget_i, Px.dget_s, Px.dput_i, Px.dput_s, Px.dOf_d, Px.rtup, Px.rlist, Px.rsl, Px.rsort, Px.rcat, Px.rapp, Px.rrev, Px.sl_ap, Px.nop, Px.part, Px.yes, Px.tyl, Px.isL_l, Px.isT_t, Px.isL_t, Px.isT_l, Px.isD_d, Px.isT_d, Px.inV_ints, Px.flat_ints, Px.flatV_i, Px.wipe_cons, Px.wipe_nil, Px.gtup, Px.gcons, Px.gnil, gt_iff_lt, ge_iff_le, Px.we, Px.wonly, Px.was, Px.cxK, not_true_eq_false, and_self, true_implies, false_implies, implies_true, Px.e0, and_assoc, imp_false, not_false_eq_true, ne_eq, Px.rgcd, Px.rixl, Px.rixt, Px.v0, Px.v1, Px.v2, Px.v3, Px.v4, Px.v5, Px.v6, Px.v7, Px.v8, Px.v9, Px.v10, Px.v11, Px.v12, Px.v13, Px.v14, Px.v15, Px.v16, Px.v17, Px.v18, Px.v19, Px.v20, Px.v21, Px.v22, Px.v23, Px.c0, Px.asg, Px.gnm, Px.ret, Px.retN, Px.drop, Px.nxt, Px.brk, Px.cnt, Px.ifs, Px.op, Px.un, Px.tst, Px.tbl, Px.tand, Px.tor, Px.tnot, Px.andv, Px.orv, Px.notv, Px.tif, Px.tup, Px.lst, Px.nil, Px.cons, Px.cal, Px.calS, Px.cb, Px.par, Px.gsub, Px.bits, Px.bm, Px.bm0, Px.ri, Px.ri0, Px.ru, Px.req, Px.rne, Px.rix, Px.rlen, Px.rin, Px.rsetl, Px.risi, Px.tyH_n, Px.tyH_b, Px.tyH_i, Px.tyH_s, Px.tyH_r, Px.seqH_t, Px.seqH_l, Px.seqH_fl, Px.sc_ii, Px.sc_bb, Px.sc_ss, Px.atI0, Px.atI1, Px.atI2, Px.atI3, Px.atI4, Px.atI5, Px.atI6, Px.atI7, Px.kb_NoneType_int, Px.kb_NoneType_bool, Px.kb_NoneType_str, Px.kb_NoneType_list, Px.kb_NoneType_tuple, Px.kb_NoneType_dict, Px.kb_bool_int, Px.kb_bool_bool, Px.kb_bool_str, Px.kb_bool_list, Px.kb_bool_tuple, Px.kb_bool_dict, Px.kb_int_int, Px.kb_int_bool, Px.kb_int_str, Px.kb_int_list, Px.kb_int_tuple, Px.kb_int_dict, Px.kb_str_int, Px.kb_str_bool, Px.kb_str_str, Px.kb_str_list, Px.kb_str_tuple, Px.kb_str_dict, Px.kb_list_int, Px.kb_list_bool, Px.kb_list_str, Px.kb_list_list, Px.kb_list_tuple, Px.kb_list_dict, Px.kb_tuple_int, Px.kb_tuple_bool, Px.kb_tuple_str, Px.kb_tuple_list, Px.kb_tuple_tuple, Px.kb_tuple_dict, Px.kb_dict_int, Px.kb_dict_bool, Px.kb_dict_str, Px.kb_dict_list, Px.kb_dict_tuple, Px.kb_dict_dict, L2.upd_same, Px.updI, L2.ixN, List.set_cons_zero, List.set_cons_succ, List.length_cons, List.length_nil, Nat.reduceAdd, Nat.zero_add, L2.HO.lst.injEq, L2.HO.tup.injEq, L2.upd_upd, L2.V.int.injEq, L2.V.ref.injEq, L2.V.bl.injEq, L2.V.str.injEq, L2.V.ty.injEq, List.cons.injEq, and_true, true_and, and_false, false_and, or_false, false_or, exists_eq_left', exists_eq_left, exists_and_left, exists_const, exists_false, Option.some.injEq, decide_eq_true_eq, List.append_nil, List.cons_append, List.nil_append, Option.isSome_some, Bool.not_true, Bool.not_false, Bool.not_eq_true', Bool.not_eq_true, Bool.false_eq_true, decide_eq_false_iff_not, if_true, if_false, ite_true, ite_false, Int.reduceLE, Int.reduceLT, Int.reduceToNat, Int.cast_ofNat_Int, Bool.true_eq_false, eq_self, ↓reduceIte, reduceCtorEq, Px.aug, Px.ipi, Px.tri, Px.rcatth, Px.flh, Px.sfl, Px.met, Px.mak, *, spAlL]
  refine ⟨xs, sq2, sa2, wf2, fun H3 e3 => ?_⟩
  obtain ⟨vq, hq3, dq3⟩ := sq2.mono e3
  have lq := Steps.len dq3
  obtain ⟨va, ha3, da3⟩ := sa2.mono e3
  have la3 := Steps.len da3
  obtain ⟨vb, hb3, db3⟩ := sb2.mono e3
  have lb3 := Steps.len db3
  have b03 : But l H H3 := b02.trans (But.of e3)
  have hL3 := hL2.ext e3
  have l40a := wf1.1
  have l40b := wf2.1
  refine go_seq ?_
  simp only [decide_true, decide_false, List.map_cons, List.map_nil, Option.map_none, Option.map_some, Option.getD_none, Option.getD_some, Px.dg2, Px.dg1, Px.dg, Px.din, Px.dnotin, Px.dnew, Px.dput, Px.isD_is, Px.dget_i, Px.dget_s, Px.dput_i, Px.dput_s, Px.dOf_d, Px.rtup, Px.rlist, Px.rsl, Px.rsort, Px.rcat, Px.rapp, Px.rrev, Px.sl_ap, Px.nop, Px.part, Px.yes, Px.tyl, Px.isL_l, Px.isT_t, Px.isL_t, Px.isT_l, Px.isD_d, Px.isT_d, Px.inV_ints, Px.flat_ints, Px.flatV_i, Px.wipe_cons, Px.wipe_nil, Px.gtup, Px.gcons, Px.gnil, gt_iff_lt, ge_iff_le, Px.we, Px.wonly, Px.was, Px.cxK, not_true_eq_false, and_self, true_implies, false_implies, implies_true, Px.e0, and_assoc, imp_false, not_false_eq_true, ne_eq, Px.rgcd, Px.rixl, Px.rixt, Px.v0, Px.v1, Px.v2, Px.v3, Px.v4, Px.v5, Px.v6, Px.v7, Px.v8, Px.v9, Px.v10, Px.v11, Px.v12, Px.v13, Px.v14, Px.v15, Px.v16, Px.v17, Px.v18, Px.v19, Px.v20, Px.v21, Px.v22, Px.v23, Px.c0, Px.asg, Px.gnm, Px.ret, Px.retN, Px.drop, Px.nxt, Px.brk, Px.cnt, Px.ifs, Px.op, Px.un, Px.tst, Px.tbl, Px.tand, Px.tor, Px.tnot, Px.andv, Px.orv, Px.notv, Px.tif, Px.tup, Px.lst, Px.nil, Px.cons, Px.cal, Px.calS, Px.cb, Px.par, Px.gsub, Px.bits, Px.bm, Px.bm0, Px.ri, Px.ri0, Px.ru, Px.req, Px.rne, Px.rix, Px.rlen, Px.rin, Px.rsetl, Px.risi, Px.tyH_n, Px.tyH_b, Px.tyH_i, Px.tyH_s, Px.tyH_r, Px.seqH_t, Px.seqH_l, Px.seqH_fl, Px.sc_ii, Px.sc_bb, Px.sc_ss, Px.atI0, Px.atI1, Px.atI2, Px.atI3, Px.atI4, Px.atI5, Px.atI6, Px.atI7, Px.kb_NoneType_int, Px.kb_NoneType_bool, Px.kb_NoneType_str, Px.kb_NoneType_list, Px.kb_NoneType_tuple, Px.kb_NoneType_dict, Px.kb_bool_int, Px.kb_bool_bool, Px.kb_bool_str, Px.kb_bool_list, Px.kb_bool_tuple, Px.kb_bool_dict, Px.kb_int_int, Px.kb_int_bool, Px.kb_int_str, Px.kb_int_list, Px.kb_int_tuple, Px.kb_int_dict, Px.kb_str_int, Px.kb_str_bool, Px.kb_str_str, Px.kb_str_list, Px.kb_str_tuple, Px.kb_str_dict, Px.kb_list_int, Px.kb_list_bool, Px.kb_list_str, Px.kb_list_list, Px.kb_list_tuple, Px.kb_list_dict, Px.kb_tuple_int, Px.kb_tuple_bool, Px.kb_tuple_str, Px.kb_tuple_list, Px.kb_tuple_tuple, Px.kb_tuple_dict, Px.kb_dict_int, Px.kb_dict_bool, Px.kb_dict_str, Px.kb_dict_list, Px.kb_dict_tuple, Px.kb_dict_dict, L2.upd_same, Px.updI, L2.ixN, List.set_cons_zero, List.set_cons_succ, List.length_cons, List.length_nil, Nat.reduceAdd, Nat.zero_add, L2.HO.lst.injEq, L2.HO.tup.injEq, L2.upd_upd, L2.V.int.injEq, L2.V.ref.injEq, L2.V.bl.injEq, L2.V.str.injEq, L2.V.ty.injEq, List.cons.injEq, and_true, true_and, and_false, false_and, or_false, false_or, exists_eq_left', exists_eq_left, exists_and_left, exists_const, exists_false, Option.some.injEq, decide_eq_true_eq, List.append_nil, List.cons_append, List.nil_append, Option.isSome_some, Bool.not_true, Bool.not_false, Bool.not_eq_true', Bool.not_eq_true, Bool.false_eq_true, decide_eq_false_iff_not, if_true, if_false, ite_true, ite_false, Int.reduceLE, Int.reduceLT, Int.reduceToNat, Int.cast_ofNat_Int, Bool.true_eq_false, eq_self, ↓reduceIte, reduceCtorEq, Px.aug, Px.ipi, Px.tri, Px.rcatth, Px.flh, Px.sfl, Px.met, Px.mak, *]
  refine ⟨by decide, fun r nr => ?_⟩
  have y5 : Px.Ext H3 (upd H3 r (.tup [])) := (Px.Ext.rfl' H3).new nr
  generalize upd H3 r (.tup []) = H5 at *
  refine ⟨by decide, fun r2 nr2 => ?_⟩
  have y6 : Px.Ext H5 (upd H5 r2 (.tup [.str "given", .ref r, .non])) := (Px.Ext.rfl' H5).new nr2
  generalize upd H5 r2 (.tup [.str "given", .ref r, .non]) = H6 at *
  refine ⟨vq, (y5.trans y6).get hq3, Nat.lt_of_lt_of_le (show vq.length < 100 by omega) (by decide), ?_⟩
  have b7 : But q H3 (upd H6 q (.lst (vq ++ [.ref r2]))) := (But.of (y5.trans y6)).mut
  generalize upd H6 q (.lst (vq ++ [.ref r2])) = H7 at *
  have nq3 : isT (H3 q) = false := by rw [hq3]; rfl
  have naq : a ≠ q := ne_some_none hS.isS nq
  have nbq : b ≠ q := ne_some_none hB.isS nq
  have npq : p ≠ q := by
    obtain ⟨dx, h⟩ := met_ok hL
    exact ne_some_none (by rw [h]; rfl) nq
  have sa7 := (sa2.mono e3).but1 naq nq3 b7
  have sb7 := (sb2.mono e3).but1 nbq nq3 b7
  have hL7 : LogS C H7 p l (ys ++ xs.map (shift ys.length)) := by
    obtain ⟨vs, ⟨dx, g1, g2⟩, g3⟩ := hL3
    exact ⟨vs, ⟨dx, b7.get npq g1, b7.get nlq g2⟩, g3.mono (b7.tu nq3)⟩
  have b07 : But l H H7 := fun z h1 h2 => by
    have h3 := b03 z h1 h2
    rw [b7 z (ne_some_none h2 nq) (by rw [h3]; exact h2), h3]
  obtain ⟨wa, ha7, da7⟩ := id sa7
  obtain ⟨wb, hb7, db7⟩ := id sb7
  have la7 := Steps.len da7
  have lb7 := Steps.len db7
  refine go_cut (fun σ' H' => σ' = [some (.ref p), some (.ref b), some (.ref a), some (.ref q), some (if xs.length = 0 then V.non else V.int (((ys.length + xs.length : Nat) : Int) - 1)), none] ∧ H' = H7) ?_ ?_
  · rcases Nat.eq_zero_or_pos xs.length with hx | hx
    · rw [if_pos hx]
      simp only [decide_true, decide_false, List.map_cons, List.map_nil, Option.map_none, Option.map_some, Option.getD_none, Option.getD_some, Px.dg2, Px.dg1, Px.dg, Px.din, Px.dnotin, Px.dnew, Px.dput, Px.isD_is, Px.dget_i, Px.dget_s, Px.dput_i, Px.dput_s, Px.dOf_d, Px.rtup, Px.rlist, Px.rsl, Px.rsort, Px.rcat, Px.rapp, Px.rrev, Px.sl_ap, Px.nop, Px.part, Px.yes, Px.tyl, Px.isL_l, Px.isT_t, Px.isL_t, Px.isT_l, Px.isD_d, Px.isT_d, Px.inV_ints, Px.flat_ints, Px.flatV_i, Px.wipe_cons, Px.wipe_nil, Px.gtup, Px.gcons, Px.gnil, gt_iff_lt, ge_iff_le, Px.we, Px.wonly, Px.was, Px.cxK, not_true_eq_false, and_self, true_implies, false_implies, implies_true, Px.e0, and_assoc, imp_false, not_false_eq_true, ne_eq, Px.rgcd, Px.rixl, Px.rixt, Px.v0, Px.v1, Px.v2, Px.v3, Px.v4, Px.v5, Px.v6, Px.v7, Px.v8, Px.v9, Px.v10, Px.v11, Px.v12, Px.v13, Px.v14, Px.v15, Px.v16, Px.v17, Px.v18, Px.v19, Px.v20, Px.v21, Px.v22, Px.v23, Px.c0, Px.asg, Px.gnm, Px.ret, Px.retN, Px.drop, Px.nxt, Px.brk, Px.cnt, Px.ifs, Px.op, Px.un, Px.tst, Px.tbl, Px.tand, Px.tor, Px.tnot, Px.andv, Px.orv, Px.notv, Px.tif, Px.tup, Px.lst, Px.nil, Px.cons, Px.cal, Px.calS, Px.cb, Px.par, Px.gsub, Px.bits, Px.bm, Px.bm0, Px.ri, Px.ri0, Px.ru, Px.req, Px.rne, Px.rix, Px.rlen, Px.rin, Px.rsetl, Px.risi, Px.tyH_n, Px.tyH_b, Px.tyH_i, Px.tyH_s, Px.tyH_r, Px.seqH_t, Px.seqH_l, Px.seqH_fl, Px.sc_ii, Px.sc_bb, Px.sc_ss, Px.atI0, Px.atI1, Px.atI2, Px.atI3, Px.atI4, Px.atI5, Px.atI6, Px.atI7, Px.kb_NoneType_int, Px.kb_NoneType_bool, Px.kb_NoneType_str, Px.kb_NoneType_list, Px.kb_NoneType_tuple, Px.kb_NoneType_dict, Px.kb_bool_int, Px.kb_bool_bool, Px.kb_bool_str, Px.kb_bool_list, Px.kb_bool_tuple, Px.kb_bool_dict, Px.kb_int_int, Px.kb_int_bool, Px.kb_int_str, Px.kb_int_list, Px.kb_int_tuple, Px.kb_int_dict, Px.kb_str_int, Px.kb_str_bool, Px.kb_str_str, Px.kb_str_list, Px.kb_str_tuple, Px.kb_str_dict, Px.kb_list_int, Px.kb_list_bool, Px.kb_list_str, Px.kb_list_list, Px.kb_list_tuple, Px.kb_list_dict, Px.kb_tuple_int, Px.kb_tuple_bool, Px.kb_tuple_str, Px.kb_tuple_list, Px.kb_tuple_tuple, Px.kb_tuple_dict, Px.kb_dict_int, Px.kb_dict_bool, Px.kb_dict_str, Px.kb_dict_list, Px.kb_dict_tuple, Px.kb_dict_dict, L2.upd_same, Px.updI, L2.ixN, List.set_cons_zero, List.set_cons_succ, List.length_cons, List.length_nil, Nat.reduceAdd, Nat.zero_add, L2.HO.lst.injEq, L2.HO.tup.injEq, L2.upd_upd, L2.V.int.injEq, L2.V.ref.injEq, L2.V.bl.injEq, L2.V.str.injEq, L2.V.ty.injEq, List.cons.injEq, and_true, true_and, and_false, false_and, or_false, false_or, exists_eq_left', exists_eq_left, exists_and_left, exists_const, exists_false, Option.some.injEq, decide_eq_true_eq, List.append_nil, List.cons_append, List.nil_append, Option.isSome_some, Bool.not_true, Bool.not_false, Bool.not_eq_true', Bool.not_eq_true, Bool.false_eq_true, decide_eq_false_iff_not, if_true, if_false, ite_true, ite_false, Int.reduceLE, Int.reduceLT, Int.reduceToNat, Int.cast_ofNat_Int, Bool.true_eq_false, eq_self, ↓reduceIte, reduceCtorEq, Px.aug, Px.ipi, Px.tri, Px.rcatth, Px.flh, Px.sfl, Px.met, Px.mak, *]
    · rw [if_neg (show ¬ xs.length = 0 by omega)]
      have hx' : ¬ ((xs.length : Nat) : Int) = 0 := by omega
      simp only [decide_true, decide_false, List.map_cons, List.map_nil, Option.map_none, Option.map_some, Option.getD_none, Option.getD_some, Px.dg2, Px.dg1, Px.dg, Px.din, Px.dnotin, Px.dnew, Px.dput, Px.isD_is, Px.dget_i, Px.dget_s, Px.dput_i, Px.dput_s, Px.dOf_d, Px.rtup, Px.rlist, Px.rsl, Px.rsort, Px.rcat, Px.rapp, Px.rrev, Px.sl_ap, Px.nop, Px.part, Px.yes, Px.tyl, Px.isL_l, Px.isT_t, Px.isL_t, Px.isT_l, Px.isD_d, Px.isT_d, Px.inV_ints, Px.flat_ints, Px.flatV_i, Px.wipe_cons, Px.wipe_nil, Px.gtup, Px.gcons, Px.gnil, gt_iff_lt, ge_iff_le, Px.we, Px.wonly, Px.was, Px.cxK, not_true_eq_false, and_self, true_implies, false_implies, implies_true, Px.e0, and_assoc, imp_false, not_false_eq_true, ne_eq, Px.rgcd, Px.rixl, Px.rixt, Px.v0, Px.v1, Px.v2, Px.v3, Px.v4, Px.v5, Px.v6, Px.v7, Px.v8, Px.v9, Px.v10, Px.v11, Px.v12, Px.v13, Px.v14, Px.v15, Px.v16, Px.v17, Px.v18, Px.v19, Px.v20, Px.v21, Px.v22, Px.v23, Px.c0, Px.asg, Px.gnm, Px.ret, Px.retN, Px.drop, Px.nxt, Px.brk, Px.cnt, Px.ifs, Px.op, Px.un, Px.tst, Px.tbl, Px.tand, Px.tor, Px.tnot, Px.andv, Px.orv, Px.notv, Px.tif, Px.tup, Px.lst, Px.nil, Px.cons, Px.cal, Px.calS, Px.cb, Px.par, Px.gsub, Px.bits, Px.bm, Px.bm0, Px.ri, Px.ri0, Px.ru, Px.req, Px.rne, Px.rix, Px.rlen, Px.rin, Px.rsetl, Px.risi, Px.tyH_n, Px.tyH_b, Px.tyH_i, Px.tyH_s, Px.tyH_r, Px.seqH_t, Px.seqH_l, Px.seqH_fl, Px.sc_ii, Px.sc_bb, Px.sc_ss, Px.atI0, Px.atI1, Px.atI2, Px.atI3, Px.atI4, Px.atI5, Px.atI6, Px.atI7, Px.kb_NoneType_int, Px.kb_NoneType_bool, Px.kb_NoneType_str, Px.kb_NoneType_list, Px.kb_NoneType_tuple, Px.kb_NoneType_dict, Px.kb_bool_int, Px.kb_bool_bool, Px.kb_bool_str, Px.kb_bool_list, Px.kb_bool_tuple, Px.kb_bool_dict, Px.kb_int_int, Px.kb_int_bool, Px.kb_int_str, Px.kb_int_list, Px.kb_int_tuple, Px.kb_int_dict, Px.kb_str_int, Px.kb_str_bool, Px.kb_str_str, Px.kb_str_list, Px.kb_str_tuple, Px.kb_str_dict, Px.kb_list_int, Px.kb_list_bool, Px.kb_list_str, Px.kb_list_list, Px.kb_list_tuple, Px.kb_list_dict, Px.kb_tuple_int, Px.kb_tuple_bool, Px.kb_tuple_str, Px.kb_tuple_list, Px.kb_tuple_tuple, Px.kb_tuple_dict, Px.kb_dict_int, Px.kb_dict_bool, Px.kb_dict_str, Px.kb_dict_list, Px.kb_dict_tuple, Px.kb_dict_dict, L2.upd_same, Px.updI, L2.ixN, List.set_cons_zero, List.set_cons_succ, List.length_cons, List.length_nil, Nat.reduceAdd, Nat.zero_add, L2.HO.lst.injEq, L2.HO.tup.injEq, L2.upd_upd, L2.V.int.injEq, L2.V.ref.injEq, L2.V.bl.injEq, L2.V.str.injEq, L2.V.ty.injEq, List.cons.injEq, and_true, true_and, and_false, false_and, or_false, false_or, exists_eq_left', exists_eq_left, exists_and_left, exists_const, exists_false, Option.some.injEq, decide_eq_true_eq, List.append_nil, List.cons_append, List.nil_append, Option.isSome_some, Bool.not_true, Bool.not_false, Bool.not_eq_true', Bool.not_eq_true, Bool.false_eq_true, decide_eq_false_iff_not, if_true, if_false, ite_true, ite_false, Int.reduceLE, Int.reduceLT, Int.reduceToNat, Int.cast_ofNat_Int, Bool.true_eq_false, eq_self, ↓reduceIte, reduceCtorEq, Px.aug, Px.ipi, Px.tri, Px.rcatth, Px.flh, Px.sfl, Px.met, Px.mak, *]
  rintro σ' H' ⟨rfl, rfl⟩
  refine go_cut (fun σ' H8 => σ' = [some (.ref p), some (.ref b), some (.ref a), some (.ref q), some (if xs.length = 0 then V.non else V.int (((ys.length + xs.length : Nat) : Int) - 1)), none] ∧ H8 = H') ?_ ?_
  · rcases Nat.eq_zero_or_pos xs.length with hx | hx
    · rw [if_pos hx]
      simp only [decide_true, decide_false, List.map_cons, List.map_nil, Option.map_none, Option.map_some, Option.getD_none, Option.getD_some, Px.dg2, Px.dg1, Px.dg, Px.din, Px.dnotin, Px.dnew, Px.dput, Px.isD_is, Px.dget_i, Px.dget_s, Px.dput_i, Px.dput_s, Px.dOf_d, Px.rtup, Px.rlist, Px.rsl, Px.rsort, Px.rcat, Px.rapp, Px.rrev, Px.sl_ap, Px.nop, Px.part, Px.yes, Px.tyl, Px.isL_l, Px.isT_t, Px.isL_t, Px.isT_l, Px.isD_d, Px.isT_d, Px.inV_ints, Px.flat_ints, Px.flatV_i, Px.wipe_cons, Px.wipe_nil, Px.gtup, Px.gcons, Px.gnil, gt_iff_lt, ge_iff_le, Px.we, Px.wonly, Px.was, Px.cxK, not_true_eq_false, and_self, true_implies, false_implies, implies_true, Px.e0, and_assoc, imp_false, not_false_eq_true, ne_eq, Px.rgcd, Px.rixl, Px.rixt, Px.v0, Px.v1, Px.v2, Px.v3, Px.v4, Px.v5, Px.v6, Px.v7, Px.v8, Px.v9, Px.v10, Px.v11, Px.v12, Px.v13, Px.v14, Px.v15, Px.v16, Px.v17, Px.v18, Px.v19, Px.v20, Px.v21, Px.v22, Px.v23, Px.c0, Px.asg, Px.gnm, Px.ret, Px.retN, Px.drop, Px.nxt, Px.brk, Px.cnt, Px.ifs, Px.op, Px.un, Px.tst, Px.tbl, Px.tand, Px.tor, Px.tnot, Px.andv, Px.orv, Px.notv, Px.tif, Px.tup, Px.lst, Px.nil, Px.cons, Px.cal, Px.calS, Px.cb, Px.par, Px.gsub, Px.bits, Px.bm, Px.bm0, Px.ri, Px.ri0, Px.ru, Px.req, Px.rne, Px.rix, Px.rlen, Px.rin, Px.rsetl, Px.risi, Px.tyH_n, Px.tyH_b, Px.tyH_i, Px.tyH_s, Px.tyH_r, Px.seqH_t, Px.seqH_l, Px.seqH_fl, Px.sc_ii, Px.sc_bb, Px.sc_ss, Px.atI0, Px.atI1, Px.atI2, Px.atI3, Px.atI4, Px.atI5, Px.atI6, Px.atI7, Px.kb_NoneType_int, Px.kb_NoneType_bool, Px.kb_NoneType_str, Px.kb_NoneType_list, Px.kb_NoneType_tuple, Px.kb_NoneType_dict, Px.kb_bool_int, Px.kb_bool_bool, Px.kb_bool_str, Px.kb_bool_list, Px.kb_bool_tuple, Px.kb_bool_dict, Px.kb_int_int, Px.kb_int_bool, Px.kb_int_str, Px.kb_int_list, Px.kb_int_tuple, Px.kb_int_dict, Px.kb_str_int, Px.kb_str_bool, Px.kb_str_str, Px.kb_str_list, Px.kb_str_tuple, Px.kb_str_dict, Px.kb_list_int, Px.kb_list_bool, Px.kb_list_str, Px.kb_list_list, Px.kb_list_tuple, Px.kb_list_dict, Px.kb_tuple_int, Px.kb_tuple_bool, Px.kb_tuple_str, Px.kb_tuple_list, Px.kb_tuple_tuple, Px.kb_tuple_dict, Px.kb_dict_int, Px.kb_dict_bool, Px.kb_dict_str, Px.kb_dict_list, Px.kb_dict_tuple, Px.kb_dict_dict, L2.upd_same, Px.updI, L2.ixN, List.set_cons_zero, List.set_cons_succ, List.length_cons, List.length_nil, Nat.reduceAdd, Nat.zero_add, L2.HO.lst.injEq, L2.HO.tup.injEq, L2.upd_upd, L2.V.int.injEq, L2.V.ref.injEq, L2.V.bl.injEq, L2.V.str.injEq, L2.V.ty.injEq, List.cons.injEq, and_true, true_and, and_false, false_and, or_false, false_or, exists_eq_left', exists_eq_left, exists_and_left, exists_const, exists_false, Option.some.injEq, decide_eq_true_eq, List.append_nil, List.cons_append, List.nil_append, Option.isSome_some, Bool.not_true, Bool.not_false, Bool.not_eq_true', Bool.not_eq_true, Bool.false_eq_true, decide_eq_false_iff_not, if_true, if_false, ite_true, ite_false, Int.reduceLE, Int.reduceLT, Int.reduceToNat, Int.cast_ofNat_Int, Bool.true_eq_false, eq_self, ↓reduceIte, reduceCtorEq, Px.aug, Px.ipi, Px.tri, Px.rcatth, Px.flh, Px.sfl, Px.met, Px.mak, *]
    · rw [if_neg (show ¬ xs.length = 0 by omega)]
      have hx' : 0 < ((xs.length : Nat) : Int) := by omega
      simp only [decide_true, decide_false, List.map_cons, List.map_nil, Option.map_none, Option.map_some, Option.getD_none, Option.getD_some, Px.dg2, Px.dg1, Px.dg, Px.din, Px.dnotin, Px.dnew, Px.dput, Px.isD_is, Px.dget_i, Px.dget_s, Px.dput_i, Px.dput_s, Px.dOf_d, Px.rtup, Px.rlist, Px.rsl, Px.rsort, Px.rcat, Px.rapp, Px.rrev, Px.sl_ap, Px.nop, Px.part, Px.yes, Px.tyl, Px.isL_l, Px.isT_t, Px.isL_t, Px.isT_l, Px.isD_d, Px.isT_d, Px.inV_ints, Px.flat_ints, Px.flatV_i, Px.wipe_cons, Px.wipe_nil, Px.gtup, Px.gcons, Px.gnil, gt_iff_lt, ge_iff_le, Px.we, Px.wonly, Px.was, Px.cxK, not_true_eq_false, and_self, true_implies, false_implies, implies_true, Px.e0, and_assoc, imp_false, not_false_eq_true, ne_eq, Px.rgcd, Px.rixl, Px.rixt, Px.v0, Px.v1, Px.v2, Px.v3, Px.v4, Px.v5, Px.v6, Px.v7, Px.v8, Px.v9, Px.v10, Px.v11, Px.v12, Px.v13, Px.v14, Px.v15, Px.v16, Px.v17, Px.v18, Px.v19, Px.v20, Px.v21, Px.v22, Px.v23, Px.c0, Px.asg, Px.gnm, Px.ret, Px.retN, Px.drop, Px.nxt, Px.brk, Px.cnt, Px.ifs, Px.op, Px.un, Px.tst, Px.tbl, Px.tand, Px.tor, Px.tnot, Px.andv, Px.orv, Px.notv, Px.tif, Px.tup, Px.lst, Px.nil, Px.cons, Px.cal, Px.calS, Px.cb, Px.par, Px.gsub, Px.bits, Px.bm, Px.bm0, Px.ri, Px.ri0, Px.ru, Px.req, Px.rne, Px.rix, Px.rlen, Px.rin, Px.rsetl, Px.risi, Px.tyH_n, Px.tyH_b, Px.tyH_i, Px.tyH_s, Px.tyH_r, Px.seqH_t, Px.seqH_l, Px.seqH_fl, Px.sc_ii, Px.sc_bb, Px.sc_ss, Px.atI0, Px.atI1, Px.atI2, Px.atI3, Px.atI4, Px.atI5, Px.atI6, Px.atI7, Px.kb_NoneType_int, Px.kb_NoneType_bool, Px.kb_NoneType_str, Px.kb_NoneType_list, Px.kb_NoneType_tuple, Px.kb_NoneType_dict, Px.kb_bool_int, Px.kb_bool_bool, Px.kb_bool_str, Px.kb_bool_list, Px.kb_bool_tuple, Px.kb_bool_dict, Px.kb_int_int, Px.kb_int_bool, Px.kb_int_str, Px.kb_int_list, Px.kb_int_tuple, Px.kb_int_dict, Px.kb_str_int, Px.kb_str_bool, Px.kb_str_str, Px.kb_str_list, Px.kb_str_tuple, Px.kb_str_dict, Px.kb_list_int, Px.kb_list_bool, Px.kb_list_str, Px.kb_list_list, Px.kb_list_tuple, Px.kb_list_dict, Px.kb_tuple_int, Px.kb_tuple_bool, Px.kb_tuple_str, Px.kb_tuple_list, Px.kb_tuple_tuple, Px.kb_tuple_dict, Px.kb_dict_int, Px.kb_dict_bool, Px.kb_dict_str, Px.kb_dict_list, Px.kb_dict_tuple, Px.kb_dict_dict, L2.upd_same, Px.updI, L2.ixN, List.set_cons_zero, List.set_cons_succ, List.length_cons, List.length_nil, Nat.reduceAdd, Nat.zero_add, L2.HO.lst.injEq, L2.HO.tup.injEq, L2.upd_upd, L2.V.int.injEq, L2.V.ref.injEq, L2.V.bl.injEq, L2.V.str.injEq, L2.V.ty.injEq, List.cons.injEq, and_true, true_and, and_false, false_and, or_false, false_or, exists_eq_left', exists_eq_left, exists_and_left, exists_const, exists_false, Option.some.injEq, decide_eq_true_eq, List.append_nil, List.cons_append, List.nil_append, Option.isSome_some, Bool.not_true, Bool.not_false, Bool.not_eq_true', Bool.not_eq_true, Bool.false_eq_true, decide_eq_false_iff_not, if_true, if_false, ite_true, ite_false, Int.reduceLE, Int.reduceLT, Int.reduceToNat, Int.cast_ofNat_Int, Bool.true_eq_false, eq_self, ↓reduceIte, reduceCtorEq, Px.aug, Px.ipi, Px.tri, Px.rcatth, Px.flh, Px.sfl, Px.met, Px.mak, *, spWhole]
      rw [if_neg (fun h => h (by omega))]
      trivial
  rintro σ' H' ⟨rfl, rfl⟩
  generalize (if xs.length = 0 then V.non else V.int (((ys.length + xs.length : Nat) : Int) - 1)) = tv
  simp only [decide_true, decide_false, List.map_cons, List.map_nil, Option.map_none, Option.map_some, Option.getD_none, Option.getD_some, Px.dg2, Px.dg1, Px.dg, Px.din, Px.dnotin, Px.dnew, Px.dput, Px.isD_is, Px.dget_i, Px.dget_s, Px.dput_i, Px.dput_s, Px.dOf_d, Px.rtup, Px.rlist, Px.rsl, Px.rsort, Px.rcat, Px.rapp, Px.rrev, Px.sl_ap, Px.nop, Px.part, Px.yes, Px.tyl, Px.isL_l, Px.isT_t, Px.isL_t, Px.isT_l, Px.isD_d, Px.isT_d, Px.inV_ints, Px.flat_ints, Px.flatV_i, Px.wipe_cons, Px.wipe_nil, Px.gtup, Px.gcons, Px.gnil, gt_iff_lt, ge_iff_le, Px.we, Px.wonly, Px.was, Px.cxK, not_true_eq_false, and_self, true_implies, false_implies, implies_true, Px.e0, and_assoc, imp_false, not_false_eq_true, ne_eq, Px.rgcd, Px.rixl, Px.rixt, Px.v0, Px.v1, Px.v2, Px.v3, Px.v4, Px.v5, Px.v6, Px.v7, Px.v8, Px.v9, Px.v10, Px.v11, Px.v12, Px.v13, Px.v14, Px.v15, Px.v16, Px.v17, Px.v18, Px.v19, Px.v20, Px.v21, Px.v22, Px.v23, Px.c0, Px.asg, Px.gnm, Px.ret, Px.retN, Px.drop, Px.nxt, Px.brk, Px.cnt, Px.ifs, Px.op, Px.un, Px.tst, Px.tbl, Px.tand, Px.tor, Px.tnot, Px.andv, Px.orv, Px.notv, Px.tif, Px.tup, Px.lst, Px.nil, Px.cons, Px.cal, Px.calS, Px.cb, Px.par, Px.gsub, Px.bits, Px.bm, Px.bm0, Px.ri, Px.ri0, Px.ru, Px.req, Px.rne, Px.rix, Px.rlen, Px.rin, Px.rsetl, Px.risi, Px.tyH_n, Px.tyH_b, Px.tyH_i, Px.tyH_s, Px.tyH_r, Px.seqH_t, Px.seqH_l, Px.seqH_fl, Px.sc_ii, Px.sc_bb, Px.sc_ss, Px.atI0, Px.atI1, Px.atI2, Px.atI3, Px.atI4, Px.atI5, Px.atI6, Px.atI7, Px.kb_NoneType_int, Px.kb_NoneType_bool, Px.kb_NoneType_str, Px.kb_NoneType_list, Px.kb_NoneType_tuple, Px.kb_NoneType_dict, Px.kb_bool_int, Px.kb_bool_bool, Px.kb_bool_str, Px.kb_bool_list, Px.kb_bool_tuple, Px.kb_bool_dict, Px.kb_int_int, Px.kb_int_bool, Px.kb_int_str, Px.kb_int_list, Px.kb_int_tuple, Px.kb_int_dict, Px.kb_str_int, Px.kb_str_bool, Px.kb_str_str, Px.kb_str_list, Px.kb_str_tuple, Px.kb_str_dict, Px.kb_list_int, Px.kb_list_bool, Px.kb_list_str, Px.kb_list_list, Px.kb_list_tuple, Px.kb_list_dict, Px.kb_tuple_int, Px.kb_tuple_bool, Px.kb_tuple_str, Px.kb_tuple_list, Px.kb_tuple_tuple, Px.kb_tuple_dict, Px.kb_dict_int, Px.kb_dict_bool, Px.kb_dict_str, Px.kb_dict_list, Px.kb_dict_tuple, Px.kb_dict_dict, L2.upd_same, Px.updI, L2.ixN, List.set_cons_zero, List.set_cons_succ, List.length_cons, List.length_nil, Nat.reduceAdd, Nat.zero_add, L2.HO.lst.injEq, L2.HO.tup.injEq, L2.upd_upd, L2.V.int.injEq, L2.V.ref.injEq, L2.V.bl.injEq, L2.V.str.injEq, L2.V.ty.injEq, List.cons.injEq, and_true, true_and, and_false, false_and, or_false, false_or, exists_eq_left', exists_eq_left, exists_and_left, exists_const, exists_false, Option.some.injEq, decide_eq_true_eq, List.append_nil, List.cons_append, List.nil_append, Option.isSome_some, Bool.not_true, Bool.not_false, Bool.not_eq_true', Bool.not_eq_true, Bool.false_eq_true, decide_eq_false_iff_not, if_true, if_false, ite_true, ite_false, Int.reduceLE, Int.reduceLT, Int.reduceToNat, Int.cast_ofNat_Int, Bool.true_eq_false, eq_self, ↓reduceIte, reduceCtorEq, Px.aug, Px.ipi, Px.tri, Px.rcatth, Px.flh, Px.sfl, Px.met, Px.mak, *]
  refine lc_seq (xs := wa) (fun _ => true) (fun i => enc (shift ys.length (at_ xs i))) (fun Q q => ⟨_, rfl, q⟩) (by rw [ha7]; rfl) (by omega) (fun i x hi => ?_) (fun D zs H2 hD e2 hz hall => ?_)
  · have li : i < xs.length := by have := (List.getElem?_eq_some_iff.mp hi).1; omega
    obtain ⟨v, hv, dv⟩ := Steps.at_ da7 li
    rw [hi] at hv
    cases hv
    intro H2 R2 E2 e2 _ k2
    have hb2 := e2.get hb7
    simp only [decide_true, decide_false, List.map_cons, List.map_nil, Option.map_none, Option.map_some, Option.getD_none, Option.getD_some, Px.dg2, Px.dg1, Px.dg, Px.din, Px.dnotin, Px.dnew, Px.dput, Px.isD_is, Px.dget_i, Px.dget_s, Px.dput_i, Px.dput_s, Px.dOf_d, Px.rtup, Px.rlist, Px.rsl, Px.rsort, Px.rcat, Px.rapp, Px.rrev, Px.sl_ap, Px.nop, Px.part, Px.yes, Px.tyl, Px.isL_l, Px.isT_t, Px.isL_t, Px.isT_l, Px.isD_d, Px.isT_d, Px.inV_ints, Px.flat_ints, Px.flatV_i, Px.wipe_cons, Px.wipe_nil, Px.gtup, Px.gcons, Px.gnil, gt_iff_lt, ge_iff_le, Px.we, Px.wonly, Px.was, Px.cxK, not_true_eq_false, and_self, true_implies, false_implies, implies_true, Px.e0, and_assoc, imp_false, not_false_eq_true, ne_eq, Px.rgcd, Px.rixl, Px.rixt, Px.v0, Px.v1, Px.v2, Px.v3, Px.v4, Px.v5, Px.v6, Px.v7, Px.v8, Px.v9, Px.v10, Px.v11, Px.v12, Px.v13, Px.v14, Px.v15, Px.v16, Px.v17, Px.v18, Px.v19, Px.v20, Px.v21, Px.v22, Px.v23, Px.c0, Px.asg, Px.gnm, Px.ret, Px.retN, Px.drop, Px.nxt, Px.brk, Px.cnt, Px.ifs, Px.op, Px.un, Px.tst, Px.tbl, Px.tand, Px.tor, Px.tnot, Px.andv, Px.orv, Px.notv, Px.tif, Px.tup, Px.lst, Px.nil, Px.cons, Px.cal, Px.calS, Px.cb, Px.par, Px.gsub, Px.bits, Px.bm, Px.bm0, Px.ri, Px.ri0, Px.ru, Px.req, Px.rne, Px.rix, Px.rlen, Px.rin, Px.rsetl, Px.risi, Px.tyH_n, Px.tyH_b, Px.tyH_i, Px.tyH_s, Px.tyH_r, Px.seqH_t, Px.seqH_l, Px.seqH_fl, Px.sc_ii, Px.sc_bb, Px.sc_ss, Px.atI0, Px.atI1, Px.atI2, Px.atI3, Px.atI4, Px.atI5, Px.atI6, Px.atI7, Px.kb_NoneType_int, Px.kb_NoneType_bool, Px.kb_NoneType_str, Px.kb_NoneType_list, Px.kb_NoneType_tuple, Px.kb_NoneType_dict, Px.kb_bool_int, Px.kb_bool_bool, Px.kb_bool_str, Px.kb_bool_list, Px.kb_bool_tuple, Px.kb_bool_dict, Px.kb_int_int, Px.kb_int_bool, Px.kb_int_str, Px.kb_int_list, Px.kb_int_tuple, Px.kb_int_dict, Px.kb_str_int, Px.kb_str_bool, Px.kb_str_str, Px.kb_str_list, Px.kb_str_tuple, Px.kb_str_dict, Px.kb_list_int, Px.kb_list_bool, Px.kb_list_str, Px.kb_list_list, Px.kb_list_tuple, Px.kb_list_dict, Px.kb_tuple_int, Px.kb_tuple_bool, Px.kb_tuple_str, Px.kb_tuple_list, Px.kb_tuple_tuple, Px.kb_tuple_dict, Px.kb_dict_int, Px.kb_dict_bool, Px.kb_dict_str, Px.kb_dict_list, Px.kb_dict_tuple, Px.kb_dict_dict, L2.upd_same, Px.updI, L2.ixN, List.set_cons_zero, List.set_cons_succ, List.length_cons, List.length_nil, Nat.reduceAdd, Nat.zero_add, L2.HO.lst.injEq, L2.HO.tup.injEq, L2.upd_upd, L2.V.int.injEq, L2.V.ref.injEq, L2.V.bl.injEq, L2.V.str.injEq, L2.V.ty.injEq, List.cons.injEq, and_true, true_and, and_false, false_and, or_false, false_or, exists_eq_left', exists_eq_left, exists_and_left, exists_const, exists_false, Option.some.injEq, decide_eq_true_eq, List.append_nil, List.cons_append, List.nil_append, Option.isSome_some, Bool.not_true, Bool.not_false, Bool.not_eq_true', Bool.not_eq_true, Bool.false_eq_true, decide_eq_false_iff_not, if_true, if_false, ite_true, ite_false, Int.reduceLE, Int.reduceLT, Int.reduceToNat, Int.cast_ofNat_Int, Bool.true_eq_false, eq_self, ↓reduceIte, reduceCtorEq, Px.aug, Px.ipi, Px.tri, Px.rcatth, Px.flh, Px.sfl, Px.met, Px.mak, *, spMovedL]
    trace_state
    exact ⟨ys.length, rfl, i, at_ xs i, dv.mono e2.tu, wf2.2 _ _ (at_get li), fun v' H4 dv' e4 => k2 rfl _ _ e4 dv'⟩
  · rw [la7, given_all] at hall
    have em : (List.range xs.length).map (fun i => enc (shift ys.length (at_ xs i))) = (xs.map (shift ys.length)).map enc := by
      refine List.ext_getElem (by simp) fun i h1 h2 => ?_
      simp only [List.getElem_map, List.getElem_range]
      have li : i < xs.length := by simpa using h1
      have := at_get li
      rw [List.getElem?_eq_getElem li] at this
      rw [Option.some.inj this]
    rw [em] at hall
    refine ⟨D, rfl, wb, e2.get hb7, zs, hz, ?_, fun r3 nr3 => ?_⟩
    · have := hall.len
      rw [List.length_map, List.length_map] at this
      exact Nat.le_trans (show wb.length + zs.length ≤ 100 by omega) (by decide)
    · have y9 : Px.Ext H2 (upd H2 r3 (.lst (wb ++ zs))) := (Px.Ext.rfl' H2).new nr3
      have e9 := e2.trans y9
      refine ⟨p, l, r3, ys ++ xs.map (shift ys.length), rfl, hL7.ext e9, ⟨_, upd_same, ?_⟩, app_wf wf1 wf2 l40, fun H10 e10 => k H10 (hL7.ext (e9.trans e10)) (b07.trans (But.of (e9.trans e10)))⟩
      rw [List.map_append]
      exact ((db7.mono e9.tu)).app (hall.mono y9.tu)
end
end K03

namespace K03
open PySem PySem.Spec PyProof.Rows L2 Px
section
variable {P : Program} {w : World} {K : PySem.W.Frag} {mg : Str → Option Value} {base : Heap} {C : Addr}
def spLaw (K : PySem.W.Frag) (vs : List V) (H : Hp) (Q : VK) (_ : XK) : Prop := ∃ (a : Addr) (ns : List Int), vs = [.ref a] ∧ SqL K H a (ns.map V.int) ∧ ns.length ≤ 63 ∧ ∀ H', Q (.bl true) H'
theorem sql_but {H H' : Hp} {p a : Addr} {xs : List V} (n : a ≠ p) (b : But p H H') (h : SqL K H a xs) : SqL K H' a xs := by
  rcases h with (h | ⟨o, h⟩) | h
  · exact .inl (.inl (b.get n h))
  · exact .inl (.inr ⟨o, b.get n h⟩)
  · exact .inr h
/-- behind i steps -/
def ILw1 (a p st : Addr) (H : Hp) (i : Nat) (σ' : L2.St) (H' : Hp) : Prop := ∃ (k m : Option V) (xs : List St), σ' = [some (.ref a), some (.ref p), some (.ref st), k, m, none, none, none, none, none, none] ∧ Px.Ext H H' ∧ Pool H' p ∧ Steps H' st xs ∧ Wf xs ∧ xs.length = i
theorem steps_app {H : Hp} {st : Addr} {ys : List V} {v : V} {xs : List St} {x : St} (h : H st = some (.lst ys)) (d : DtAll H ys (xs.map enc)) (dv : Dt H v (enc x)) : Steps (upd H st (.lst (ys ++ [v]))) st (xs ++ [x]) := by
  have t : Tu H (upd H st (.lst (ys ++ [v]))) := (Tu.rfl' H).mut (by rw [h]; rfl)
  exact ⟨_, upd_same, by rw [List.map_append]; exact (d.mono t).app (.cons (dv.mono t) .nil)⟩
theorem wf_app {xs : List St} {x : St} (h : Wf xs) (ok : Ok xs.length x) (hl : xs.length < 40) : Wf (xs ++ [x]) := ⟨by rw [List.length_append, List.length_singleton]; omega, fun i y hi => by
  by_cases q : i < xs.length
  · rw [List.getElem?_append_left q] at hi
    exact h.2 i y hi
  · rw [List.getElem?_append_right (by omega)] at hi
    have e : i - xs.length = 0 := by
      have := (List.getElem?_eq_some_iff.mp hi).1
      rw [List.length_singleton] at this
      omega
    rw [e] at hi
    cases hi
    have : i = xs.length := by omega
    rw [this]
    exact ok⟩
theorem LogS.but {H H' : Hp} {p l r : Addr} {xs : List St} (h : LogS C H p l xs) (b : But r H H') (n : l ≠ r) (hr : isT (H r) = false) (nr : ∀ dx fs, H r ≠ some (.ins C dx fs)) : LogS C H' p l xs := by
  obtain ⟨vs, ⟨dx, h1, h2⟩, h3⟩ := h
  have np : p ≠ r := fun z => nr _ _ (by rw [← z]; exact h1)
  exact ⟨vs, ⟨dx, b.get np h1, b.get n h2⟩, h3.mono (b.tu hr)⟩
theorem LogS.nt {H : Hp} {p l : Addr} {xs : List St} (h : LogS C H p l xs) : isT (H l) = false ∧ ∀ dx fs, H l ≠ some (.ins C dx fs) := by
  obtain ⟨vs, ⟨dx, h1, h2⟩, h3⟩ := h
  rw [h2]
  exact ⟨rfl, fun _ _ z => nomatch z⟩
theorem LogS.isS {H : Hp} {p l : Addr} {xs : List St} (h : LogS C H p l xs) : (H l).isSome = true := by
  obtain ⟨vs, ⟨dx, h1, h2⟩, h3⟩ := h
  rw [h2]
  rfl
theorem take_all {H : Hp} : ∀ {vs : List V} {ds : List PyData} (n : Nat), DtAll H vs ds → DtAll H (vs.take n) (ds.take n)
  | _, _, 0, _ => .nil
  | _, _, _ + 1, .nil => .nil
  | _, _, n + 1, .cons a b => .cons a (take_all n b)
theorem make_ok {H : Hp} {x dx : Addr} {R : Hp → Prop} {E : XK} (nx : H x = none) (nd : H dx = none) (ne : dx ≠ x) (k : ∀ l H', LogS C H' x l [] → H l = none → Px.Ext H H' → R H') : spInit C [.ref x] (upd (upd H dx (.own x)) x (.ins C dx [])) (fun v H2 => v = .non ∧ R H2) E := by
  have ex : Px.Ext H (upd (upd H dx (.own x)) x (.ins C dx [])) := ((Px.Ext.rfl' H).new nd).new (by rw [upd_ne ne.symm, nx])
  refine ⟨x, dx, rfl, upd_same, fun l H' hl nl hb => ⟨rfl, k l H' ⟨[], hl, .nil⟩ (ex.no nl) fun b hs => ?_⟩⟩
  have n1 : b ≠ x := ne_some_none hs nx
  have n2 : b ≠ l := ne_some_none hs (ex.no nl)
  rw [hb b n1 n2, ex b hs]
theorem shift0 (xs : List St) : xs.map (shift 0) = xs := by
  refine (List.map_congr_left (g := id) fun x _ => ?_).trans (List.map_id _)
  exact ren_id fun _ _ => rfl
theorem write_ok {H : Hp} {p l : Addr} {xs : List St} {x : St} {c : Addr} {e : V} {Q : VK} {E : XK} (h : LogS C H p l xs) (hl : xs.length < 40) (h2 : H c = some (.tup ((ln x).map V.int))) (h3 : Dt H e (det x)) (k : ∀ H', LogS C H' p l (xs ++ [x]) → But l H H' → Q (.int (xs.length : Int)) H') : spWrite C [.ref p, .str (kd x), .ref c, e] H Q E := by
  have nt := h.nt.1
  obtain ⟨vs, hl1, hd⟩ := h
  have lv := Steps.len hd
  refine ⟨p, l, vs, _, _, _, rfl, hl1, by omega, fun t H' ht nt' hl2 b => ?_⟩
  have tu := b.tu nt
  have := k H' ⟨_, hl2, by rw [List.map_append]; exact (hd.mono tu).app (.cons (enc_mk ht (tu.get h2) (h3.mono tu)) .nil)⟩ b
  rw [lv]
  exact this
/-- behind i steps that were written -/
def ILw2 (C a p st q lg tw l1 l2 : Addr) (xs ys : List St) (H : Hp) (i : Nat) (σ' : L2.St) (H' : Hp) : Prop := ∃ (k m t : Option V), σ' = [some (.ref a), some (.ref p), some (.ref st), k, m, some (.ref q), some (.ref lg), some (.ref tw), t, none, none] ∧ But l1 H H' ∧ LogS C H' lg l1 (xs.take i)
theorem ok_law (B : Bn mg) {f : Addr} {fd : FuncData} (F : Fun K "law" "law" s_law f fd) (D_law_pool : Def P w K mg base CX0 1 "_law_pool" ["script", "k"] (spPool K)) (D_law_take : Def P w K mg base CX0 1 "_law_take" ["pool", "size"] spTake) (D_law_step : Def P w K mg base CX0 4 "_law_step" ["pool", "steps"] spStepL)
    (D_law_trims : Def P w K mg base CX0 9 "_law_trims" ["steps"] spTrims) (D_Log : MkDef P w K mg base CX0 1 "Log" C ["self"] (spInit C)) (D_Log_write : MDef P w K mg base CX0 1 C "write" ["self", "kind", "clause", "details"] (spWrite C))
    (D_law_whole : Def P w K mg base CX0 1 "_law_whole" ["value"] spWhole) (D_Log___len__ : MDef P w K mg base CX0 1 C "__len__" ["self"] (spLen C)) (D_law_keeps : Def P w K mg base CX0 9 "_law_keeps" ["log", "steps"] (spKeeps C))
    (D_law_due : Def P w K mg base CX0 1 "_law_due" ["steps"] spDue) (D_law_takes : Def P w K mg base CX0 10 "_law_takes" ["log", "before", "steps"] (spTakes C)) (D_law_moved : Def P w K mg base CX0 1 "_law_moved" ["step", "start"] spMovedL) : FnOk P w K mg base CX0 11 f fd ["script"] (spLaw K) := by
  refine F.ok sc_law (fun vs H Q E h => by obtain ⟨p, n, rfl, _⟩ := h; rfl) (fun cdv A outer s H vs Q E hr h => ?_)
  obtain ⟨a, ns, rfl, hS, hl, k⟩ := h
  refine ⟨_, pss_cons (ps_set (i := 1) sc_law.nd rfl (Or.inl rfl) (pe_fn D_law_pool (hr.mono (by decide)) pass0 (pa_cons (pv 0) (pa_cons pe_int pa_nil)))) (
  pss_cons (ps_set (i := 2) sc_law.nd rfl (Or.inr rfl) (pe_lst pa_nil)) (
  pss_cons (ps_for PassesOwn.never rfl (pi_range1 rfl B.range (pa_cons (pe_fn D_law_take (hr.mono (by decide)) pass0 (pa_cons (pv 1) (pa_cons pe_int pa_nil))) pa_nil)) (pg_name (i := 3) sc_law.nd rfl (Or.inl rfl)) (
  pss_cons (ps_set (i := 4) sc_law.nd rfl (Or.inl rfl) (pv 1)) (
  pcut (ps_if (pt_cmpR op_lt (pe_op op_add (pv 3) pe_int) (pe_callB call_len_seq rfl B.len (by decide +kernel) (pa_cons (pv 0) pa_nil)) (nomark _)) (pss_one (ps_set (i := 4) sc_law.nd rfl (Or.inl rfl) (pe_fn D_law_pool (hr.mono (by decide)) pass0 (pa_cons (pv 0) (pa_cons (pe_op op_add (pv 3) pe_int) pa_nil))))) (pss_nil)) (
  pss_one (ps_expr (pe_bm PySem.F.plainAttrs_list PySem.F.slot_list_append PySem.F.type_list_append mt_append (pv 2) (pa_cons (pe_fn D_law_step (hr.mono (by decide)) pass0 (pa_cons (pv 4) (pa_cons (pv 2) pa_nil))) pa_nil))))))) (
  pss_cons (ps_set (i := 5) sc_law.nd rfl (Or.inl rfl) (pe_slice sl_H (pv 2) po_none (po_some (pe_fn D_law_take (hr.mono (by decide)) pass0 (pa_cons (pv 1) (pa_cons (pe_op op_add (pe_callB len_H rfl B.len (by decide +kernel) (pa_cons (pv 2) pa_nil)) pe_int) pa_nil)))))) (
  pss_cons (ps_if (PW.pt (pw_or (pt_not (pt_val (pe_fn D_law_trims (hr.mono (by decide)) pass0 (pa_cons (pv 2) pa_nil)))) (pw_or1 (pt_not (pt_val (pe_fn D_law_trims (hr.mono (by decide)) pass0 (pa_cons (pv 5) pa_nil))))))) (pss_one (ps_ret pe_bl)) (pss_nil)) (
  pss_cons (ps_set (i := 6) sc_law.nd rfl (Or.inl rfl) (pe_mk0 D_Log (hr.mono (by decide)) pass0)) (
  pss_cons (ps_set (i := 7) sc_law.nd rfl (Or.inl rfl) (pe_mk0 D_Log (hr.mono (by decide)) pass0)) (
  pss_cons (ps_for PassesOwn.never rfl (pi_range1 rfl B.range (pa_cons (pe_callB len_H rfl B.len (by decide +kernel) (pa_cons (pv 2) pa_nil)) pa_nil)) (pg_name (i := 3) sc_law.nd rfl (Or.inl rfl)) (
  pss_cons (ps_set (i := 8) sc_law.nd rfl (Or.inl rfl) (pe_mm1 D_Log_write (hr.mono (by decide)) pass0 (pv 6) (pa_cons (pe_ix ix_H (pe_ix ix_H (pv 2) (pv 3) (fun _ _ => rfl)) pe_int (fun _ _ => rfl)) (pa_cons (pe_ix ix_H (pe_ix ix_H (pv 2) (pv 3) (fun _ _ => rfl)) pe_int (fun _ _ => rfl)) (pa_cons (pe_ix ix_H (pe_ix ix_H (pv 2) (pv 3) (fun _ _ => rfl)) pe_int (fun _ _ => rfl)) pa_nil))))) (
  pss_one (ps_if (PW.pt (pw_or (pt_not (pt_val (pe_fn D_law_whole (hr.mono (by decide)) pass0 (pa_cons (pv 8) pa_nil)))) (pw_or (pt_cmpR op_ne (pv 8) (pv 3) (nomark _)) (pw_or1 (pt_cmpR op_ne (pe_callB (call_lenD D_Log___len__ (hr.mono (by decide))) rfl B.len (by decide +kernel) (pa_cons (pv 6) pa_nil)) (pe_op op_add (pv 3) pe_int) (nomark _)))))) (pss_one (ps_ret pe_bl)) (pss_nil))))) (
  pss_cons (ps_if (PW.pt (pw_or (pt_not (pt_val (pe_fn D_law_keeps (hr.mono (by decide)) pass0 (pa_cons (pv 6) (pa_cons (pv 2) pa_nil))))) (pw_or1 (pt_not (pt_val (pe_fn D_law_keeps (hr.mono (by decide)) pass0 (pa_cons (pv 7) (pa_cons (pe_lst pa_nil) pa_nil)))))))) (pss_one (ps_ret pe_bl)) (pss_nil)) (
  pss_cons (ps_set (i := 9) sc_law.nd rfl (Or.inl rfl) (pe_fn D_law_due (hr.mono (by decide)) pass0 (pa_cons (pv 5) pa_nil))) (
  pss_cons (ps_if (PW.pt (pw_or (pt_not (pt_val (pe_fn D_law_takes hr pass0 (pa_cons (pv 7) (pa_cons (pe_lst pa_nil) (pa_cons (pv 9) pa_nil)))))) (pw_or (pt_not (pt_val (pe_fn D_law_takes hr pass0 (pa_cons (pv 6) (pa_cons (pv 2) (pa_cons (pv 9) pa_nil)))))) (pw_or1 (pt_not (pt_val (pe_fn D_law_takes hr pass0 (pa_cons (pv 7) (pa_cons (pv 9) (pa_cons (pv 2) pa_nil)))))))))) (pss_one (ps_ret pe_bl)) (pss_nil)) (
  pss_one (ps_ret (pe_fn D_law_trims (hr.mono (by decide)) pass0 (pa_cons (pe_op op_cat (pv 2) (pe_lc (own := [("step", 10)]) (g := gName 10) rfl sc_law.nd (pi_seq (pv 9)) (blkOk_by (own := [("step", 10)]) (N := ["script", "pool", "steps", "k", "mine", "some", "log", "twin", "told", "due", "step"]) (sc := defScope s_law) (by decide +kernel)) (fun _ _ _ _ _ => (pg_name (i := 10) sc_law.nd rfl (Or.inl rfl))) (fun _ _ _ _ _ => pts_nil) (fun _ _ _ _ _ => (pe_fn D_law_moved (hr.mono (by decide)) pass0 (pa_cons (pv 10) (pa_cons (pe_callB len_H rfl B.len (by decide +kernel) (pa_cons (pv 2) pa_nil)) pa_nil)))))) pa_nil)))))))))))))), ?_⟩
  show tSeq _ _ _ [some (.ref a), none, none, none, none, none, none, none, none, none, none] H
  refine go_seq ?_
  simp only [decide_true, decide_false, List.map_cons, List.map_nil, Option.map_none, Option.map_some, Option.getD_none, Option.getD_some, Px.dg2, Px.dg1, Px.dg, Px.din, Px.dnotin, Px.dnew, Px.dput, Px.isD_is, Px.dget_i, Px.dget_s, Px.dput_i, Px.dput_s, Px.dOf_d, Px.rtup, Px.rlist, Px.rsl, Px.rsort, Px.rcat, Px.rapp, Px.rrev, Px.sl_ap, Px.nop, Px.part, Px.yes, Px.tyl, Px.isL_l, Px.isT_t, Px.isL_t, Px.isT_l, Px.isD_d, Px.isT_d, Px.inV_ints, Px.flat_ints, Px.flatV_i, Px.wipe_cons, Px.wipe_nil, Px.gtup, Px.gcons, Px.gnil, gt_iff_lt, ge_iff_le, Px.we, Px.wonly, Px.was, Px.cxK, not_true_eq_false, and_self, true_implies, false_implies, implies_true, Px.e0, and_assoc, imp_false, not_false_eq_true, ne_eq, Px.rgcd, Px.rixl, Px.rixt, Px.v0, Px.v1, Px.v2, Px.v3, Px.v4, Px.v5, Px.v6, Px.v7, Px.v8, Px.v9, Px.v10, Px.v11, Px.v12, Px.v13, Px.v14, Px.v15, Px.v16, Px.v17, Px.v18, Px.v19, Px.v20, Px.v21, Px.v22, Px.v23, Px.c0, Px.asg, Px.gnm, Px.ret, Px.retN, Px.drop, Px.nxt, Px.brk, Px.cnt, Px.ifs, Px.op, Px.un, Px.tst, Px.tbl, Px.tand, Px.tor, Px.tnot, Px.andv, Px.orv, Px.notv, Px.tif, Px.tup, Px.lst, Px.nil, Px.cons, Px.cal, Px.calS, Px.cb, Px.par, Px.gsub, Px.bits, Px.bm, Px.bm0, Px.ri, Px.ri0, Px.ru, Px.req, Px.rne, Px.rix, Px.rlen, Px.rin, Px.rsetl, Px.risi, Px.tyH_n, Px.tyH_b, Px.tyH_i, Px.tyH_s, Px.tyH_r, Px.seqH_t, Px.seqH_l, Px.seqH_fl, Px.sc_ii, Px.sc_bb, Px.sc_ss, Px.atI0, Px.atI1, Px.atI2, Px.atI3, Px.atI4, Px.atI5, Px.atI6, Px.atI7, Px.kb_NoneType_int, Px.kb_NoneType_bool, Px.kb_NoneType_str, Px.kb_NoneType_list, Px.kb_NoneType_tuple, Px.kb_NoneType_dict, Px.kb_bool_int, Px.kb_bool_bool, Px.kb_bool_str, Px.kb_bool_list, Px.kb_bool_tuple, Px.kb_bool_dict, Px.kb_int_int, Px.kb_int_bool, Px.kb_int_str, Px.kb_int_list, Px.kb_int_tuple, Px.kb_int_dict, Px.kb_str_int, Px.kb_str_bool, Px.kb_str_str, Px.kb_str_list, Px.kb_str_tuple, Px.kb_str_dict, Px.kb_list_int, Px.kb_list_bool, Px.kb_list_str, Px.kb_list_list, Px.kb_list_tuple, Px.kb_list_dict, Px.kb_tuple_int, Px.kb_tuple_bool, Px.kb_tuple_str, Px.kb_tuple_list, Px.kb_tuple_tuple, Px.kb_tuple_dict, Px.kb_dict_int, Px.kb_dict_bool, Px.kb_dict_str, Px.kb_dict_list, Px.kb_dict_tuple, Px.kb_dict_dict, L2.upd_same, Px.updI, L2.ixN, List.set_cons_zero, List.set_cons_succ, List.length_cons, List.length_nil, Nat.reduceAdd, Nat.zero_add, L2.HO.lst.injEq, L2.HO.tup.injEq, L2.upd_upd, L2.V.int.injEq, L2.V.ref.injEq, L2.V.bl.injEq, L2.V.str.injEq, L2.V.ty.injEq, List.cons.injEq, and_true, true_and, and_false, false_and, or_false, false_or, exists_eq_left', exists_eq_left, exists_and_left, exists_const, exists_false, Option.some.injEq, decide_eq_true_eq, List.append_nil, List.cons_append, List.nil_append, Option.isSome_some, Bool.not_true, Bool.not_false, Bool.not_eq_true', Bool.not_eq_true, Bool.false_eq_true, decide_eq_false_iff_not, if_true, if_false, ite_true, ite_false, Int.reduceLE, Int.reduceLT, Int.reduceToNat, Int.cast_ofNat_Int, Bool.true_eq_false, eq_self, ↓reduceIte, reduceCtorEq, Px.aug, Px.ipi, Px.tri, Px.rcatth, Px.flh, Px.sfl, Px.met, Px.mak, *, spPool]
  refine ⟨ns, 0, rfl, hS, by decide, fun p H1 np hp1 e1 => ?_⟩
  refine go_seq ?_
  simp only [decide_true, decide_false, List.map_cons, List.map_nil, Option.map_none, Option.map_some, Option.getD_none, Option.getD_some, Px.dg2, Px.dg1, Px.dg, Px.din, Px.dnotin, Px.dnew, Px.dput, Px.isD_is, Px.dget_i, Px.dget_s, Px.dput_i, Px.dput_s, Px.dOf_d, Px.rtup, Px.rlist, Px.rsl, Px.rsort, Px.rcat, Px.rapp, Px.rrev, Px.sl_ap, Px.nop, Px.part, Px.yes, Px.tyl, Px.isL_l, Px.isT_t, Px.isL_t, Px.isT_l, Px.isD_d, Px.isT_d, Px.inV_ints, Px.flat_ints, Px.flatV_i, Px.wipe_cons, Px.wipe_nil, Px.gtup, Px.gcons, Px.gnil, gt_iff_lt, ge_iff_le, Px.we, Px.wonly, Px.was, Px.cxK, not_true_eq_false, and_self, true_implies, false_implies, implies_true, Px.e0, and_assoc, imp_false, not_false_eq_true, ne_eq, Px.rgcd, Px.rixl, Px.rixt, Px.v0, Px.v1, Px.v2, Px.v3, Px.v4, Px.v5, Px.v6, Px.v7, Px.v8, Px.v9, Px.v10, Px.v11, Px.v12, Px.v13, Px.v14, Px.v15, Px.v16, Px.v17, Px.v18, Px.v19, Px.v20, Px.v21, Px.v22, Px.v23, Px.c0, Px.asg, Px.gnm, Px.ret, Px.retN, Px.drop, Px.nxt, Px.brk, Px.cnt, Px.ifs, Px.op, Px.un, Px.tst, Px.tbl, Px.tand, Px.tor, Px.tnot, Px.andv, Px.orv, Px.notv, Px.tif, Px.tup, Px.lst, Px.nil, Px.cons, Px.cal, Px.calS, Px.cb, Px.par, Px.gsub, Px.bits, Px.bm, Px.bm0, Px.ri, Px.ri0, Px.ru, Px.req, Px.rne, Px.rix, Px.rlen, Px.rin, Px.rsetl, Px.risi, Px.tyH_n, Px.tyH_b, Px.tyH_i, Px.tyH_s, Px.tyH_r, Px.seqH_t, Px.seqH_l, Px.seqH_fl, Px.sc_ii, Px.sc_bb, Px.sc_ss, Px.atI0, Px.atI1, Px.atI2, Px.atI3, Px.atI4, Px.atI5, Px.atI6, Px.atI7, Px.kb_NoneType_int, Px.kb_NoneType_bool, Px.kb_NoneType_str, Px.kb_NoneType_list, Px.kb_NoneType_tuple, Px.kb_NoneType_dict, Px.kb_bool_int, Px.kb_bool_bool, Px.kb_bool_str, Px.kb_bool_list, Px.kb_bool_tuple, Px.kb_bool_dict, Px.kb_int_int, Px.kb_int_bool, Px.kb_int_str, Px.kb_int_list, Px.kb_int_tuple, Px.kb_int_dict, Px.kb_str_int, Px.kb_str_bool, Px.kb_str_str, Px.kb_str_list, Px.kb_str_tuple, Px.kb_str_dict, Px.kb_list_int, Px.kb_list_bool, Px.kb_list_str, Px.kb_list_list, Px.kb_list_tuple, Px.kb_list_dict, Px.kb_tuple_int, Px.kb_tuple_bool, Px.kb_tuple_str, Px.kb_tuple_list, Px.kb_tuple_tuple, Px.kb_tuple_dict, Px.kb_dict_int, Px.kb_dict_bool, Px.kb_dict_str, Px.kb_dict_list, Px.kb_dict_tuple, Px.kb_dict_dict, L2.upd_same, Px.updI, L2.ixN, List.set_cons_zero, List.set_cons_succ, List.length_cons, List.length_nil, Nat.reduceAdd, Nat.zero_add, L2.HO.lst.injEq, L2.HO.tup.injEq, L2.upd_upd, L2.V.int.injEq, L2.V.ref.injEq, L2.V.bl.injEq, L2.V.str.injEq, L2.V.ty.injEq, List.cons.injEq, and_true, true_and, and_false, false_and, or_false, false_or, exists_eq_left', exists_eq_left, exists_and_left, exists_const, exists_false, Option.some.injEq, decide_eq_true_eq, List.append_nil, List.cons_append, List.nil_append, Option.isSome_some, Bool.not_true, Bool.not_false, Bool.not_eq_true', Bool.not_eq_true, Bool.false_eq_true, decide_eq_false_iff_not, if_true, if_false, ite_true, ite_false, Int.reduceLE, Int.reduceLT, Int.reduceToNat, Int.cast_ofNat_Int, Bool.true_eq_false, eq_self, ↓reduceIte, reduceCtorEq, Px.aug, Px.ipi, Px.tri, Px.rcatth, Px.flh, Px.sfl, Px.met, Px.mak, *]
  refine ⟨by decide, fun st nst => ?_⟩
  have e12 : Px.Ext H (upd H1 st (.lst [])) := e1.new nst
  have st2 : Steps (upd H1 st (.lst [])) st [] := ⟨[], upd_same, .nil⟩
  have hp2 := hp1.new (o := .lst []) nst
  have nstH := e1.no nst
  generalize upd H1 st (.lst []) = H2 at *
  refine go_seq ?_
  refine for_r1g (M := fun n H3 => (0 ≤ n ∧ n < 15) ∧ Pool H3 p ∧ But p H2 H3 ∧ Tu H2 H3) ?_ ?_
  · intro R hR
    simp only [decide_true, decide_false, List.map_cons, List.map_nil, Option.map_none, Option.map_some, Option.getD_none, Option.getD_some, Px.dg2, Px.dg1, Px.dg, Px.din, Px.dnotin, Px.dnew, Px.dput, Px.isD_is, Px.dget_i, Px.dget_s, Px.dput_i, Px.dput_s, Px.dOf_d, Px.rtup, Px.rlist, Px.rsl, Px.rsort, Px.rcat, Px.rapp, Px.rrev, Px.sl_ap, Px.nop, Px.part, Px.yes, Px.tyl, Px.isL_l, Px.isT_t, Px.isL_t, Px.isT_l, Px.isD_d, Px.isT_d, Px.inV_ints, Px.flat_ints, Px.flatV_i, Px.wipe_cons, Px.wipe_nil, Px.gtup, Px.gcons, Px.gnil, gt_iff_lt, ge_iff_le, Px.we, Px.wonly, Px.was, Px.cxK, not_true_eq_false, and_self, true_implies, false_implies, implies_true, Px.e0, and_assoc, imp_false, not_false_eq_true, ne_eq, Px.rgcd, Px.rixl, Px.rixt, Px.v0, Px.v1, Px.v2, Px.v3, Px.v4, Px.v5, Px.v6, Px.v7, Px.v8, Px.v9, Px.v10, Px.v11, Px.v12, Px.v13, Px.v14, Px.v15, Px.v16, Px.v17, Px.v18, Px.v19, Px.v20, Px.v21, Px.v22, Px.v23, Px.c0, Px.asg, Px.gnm, Px.ret, Px.retN, Px.drop, Px.nxt, Px.brk, Px.cnt, Px.ifs, Px.op, Px.un, Px.tst, Px.tbl, Px.tand, Px.tor, Px.tnot, Px.andv, Px.orv, Px.notv, Px.tif, Px.tup, Px.lst, Px.nil, Px.cons, Px.cal, Px.calS, Px.cb, Px.par, Px.gsub, Px.bits, Px.bm, Px.bm0, Px.ri, Px.ri0, Px.ru, Px.req, Px.rne, Px.rix, Px.rlen, Px.rin, Px.rsetl, Px.risi, Px.tyH_n, Px.tyH_b, Px.tyH_i, Px.tyH_s, Px.tyH_r, Px.seqH_t, Px.seqH_l, Px.seqH_fl, Px.sc_ii, Px.sc_bb, Px.sc_ss, Px.atI0, Px.atI1, Px.atI2, Px.atI3, Px.atI4, Px.atI5, Px.atI6, Px.atI7, Px.kb_NoneType_int, Px.kb_NoneType_bool, Px.kb_NoneType_str, Px.kb_NoneType_list, Px.kb_NoneType_tuple, Px.kb_NoneType_dict, Px.kb_bool_int, Px.kb_bool_bool, Px.kb_bool_str, Px.kb_bool_list, Px.kb_bool_tuple, Px.kb_bool_dict, Px.kb_int_int, Px.kb_int_bool, Px.kb_int_str, Px.kb_int_list, Px.kb_int_tuple, Px.kb_int_dict, Px.kb_str_int, Px.kb_str_bool, Px.kb_str_str, Px.kb_str_list, Px.kb_str_tuple, Px.kb_str_dict, Px.kb_list_int, Px.kb_list_bool, Px.kb_list_str, Px.kb_list_list, Px.kb_list_tuple, Px.kb_list_dict, Px.kb_tuple_int, Px.kb_tuple_bool, Px.kb_tuple_str, Px.kb_tuple_list, Px.kb_tuple_tuple, Px.kb_tuple_dict, Px.kb_dict_int, Px.kb_dict_bool, Px.kb_dict_str, Px.kb_dict_list, Px.kb_dict_tuple, Px.kb_dict_dict, L2.upd_same, Px.updI, L2.ixN, List.set_cons_zero, List.set_cons_succ, List.length_cons, List.length_nil, Nat.reduceAdd, Nat.zero_add, L2.HO.lst.injEq, L2.HO.tup.injEq, L2.upd_upd, L2.V.int.injEq, L2.V.ref.injEq, L2.V.bl.injEq, L2.V.str.injEq, L2.V.ty.injEq, List.cons.injEq, and_true, true_and, and_false, false_and, or_false, false_or, exists_eq_left', exists_eq_left, exists_and_left, exists_const, exists_false, Option.some.injEq, decide_eq_true_eq, List.append_nil, List.cons_append, List.nil_append, Option.isSome_some, Bool.not_true, Bool.not_false, Bool.not_eq_true', Bool.not_eq_true, Bool.false_eq_true, decide_eq_false_iff_not, if_true, if_false, ite_true, ite_false, Int.reduceLE, Int.reduceLT, Int.reduceToNat, Int.cast_ofNat_Int, Bool.true_eq_false, eq_self, ↓reduceIte, reduceCtorEq, Px.aug, Px.ipi, Px.tri, Px.rcatth, Px.flh, Px.sfl, Px.met, Px.mak, *, spTake]
    exact fun v H1 v0 v1 h1 b1 t1 => hR v H1 ⟨⟨v0, v1⟩, h1, b1, t1⟩
  rintro n H3 ⟨⟨n0, n1⟩, hp3, b3, t3⟩
  have e03 : Px.Ext H H3 := e12.but np b3
  refine ⟨⟨by omega, by omega⟩, ILw1 a p st H, ⟨_, _, [], rfl, e03, hp3, st2.but1 (steps_ne hp2 st2) hp2.nt b3, ⟨Nat.zero_le _, fun i x h => by simp at h⟩, rfl⟩, ?_, ?_⟩
  · rintro i σ' H4 hi ⟨k4, m4, xs, rfl, e4, hp4, st4, wf, lx⟩
    refine go_seq ?_
    simp only [decide_true, decide_false, List.map_cons, List.map_nil, Option.map_none, Option.map_some, Option.getD_none, Option.getD_some, Px.dg2, Px.dg1, Px.dg, Px.din, Px.dnotin, Px.dnew, Px.dput, Px.isD_is, Px.dget_i, Px.dget_s, Px.dput_i, Px.dput_s, Px.dOf_d, Px.rtup, Px.rlist, Px.rsl, Px.rsort, Px.rcat, Px.rapp, Px.rrev, Px.sl_ap, Px.nop, Px.part, Px.yes, Px.tyl, Px.isL_l, Px.isT_t, Px.isL_t, Px.isT_l, Px.isD_d, Px.isT_d, Px.inV_ints, Px.flat_ints, Px.flatV_i, Px.wipe_cons, Px.wipe_nil, Px.gtup, Px.gcons, Px.gnil, gt_iff_lt, ge_iff_le, Px.we, Px.wonly, Px.was, Px.cxK, not_true_eq_false, and_self, true_implies, false_implies, implies_true, Px.e0, and_assoc, imp_false, not_false_eq_true, ne_eq, Px.rgcd, Px.rixl, Px.rixt, Px.v0, Px.v1, Px.v2, Px.v3, Px.v4, Px.v5, Px.v6, Px.v7, Px.v8, Px.v9, Px.v10, Px.v11, Px.v12, Px.v13, Px.v14, Px.v15, Px.v16, Px.v17, Px.v18, Px.v19, Px.v20, Px.v21, Px.v22, Px.v23, Px.c0, Px.asg, Px.gnm, Px.ret, Px.retN, Px.drop, Px.nxt, Px.brk, Px.cnt, Px.ifs, Px.op, Px.un, Px.tst, Px.tbl, Px.tand, Px.tor, Px.tnot, Px.andv, Px.orv, Px.notv, Px.tif, Px.tup, Px.lst, Px.nil, Px.cons, Px.cal, Px.calS, Px.cb, Px.par, Px.gsub, Px.bits, Px.bm, Px.bm0, Px.ri, Px.ri0, Px.ru, Px.req, Px.rne, Px.rix, Px.rlen, Px.rin, Px.rsetl, Px.risi, Px.tyH_n, Px.tyH_b, Px.tyH_i, Px.tyH_s, Px.tyH_r, Px.seqH_t, Px.seqH_l, Px.seqH_fl, Px.sc_ii, Px.sc_bb, Px.sc_ss, Px.atI0, Px.atI1, Px.atI2, Px.atI3, Px.atI4, Px.atI5, Px.atI6, Px.atI7, Px.kb_NoneType_int, Px.kb_NoneType_bool, Px.kb_NoneType_str, Px.kb_NoneType_list, Px.kb_NoneType_tuple, Px.kb_NoneType_dict, Px.kb_bool_int, Px.kb_bool_bool, Px.kb_bool_str, Px.kb_bool_list, Px.kb_bool_tuple, Px.kb_bool_dict, Px.kb_int_int, Px.kb_int_bool, Px.kb_int_str, Px.kb_int_list, Px.kb_int_tuple, Px.kb_int_dict, Px.kb_str_int, Px.kb_str_bool, Px.kb_str_str, Px.kb_str_list, Px.kb_str_tuple, Px.kb_str_dict, Px.kb_list_int, Px.kb_list_bool, Px.kb_list_str, Px.kb_list_list, Px.kb_list_tuple, Px.kb_list_dict, Px.kb_tuple_int, Px.kb_tuple_bool, Px.kb_tuple_str, Px.kb_tuple_list, Px.kb_tuple_tuple, Px.kb_tuple_dict, Px.kb_dict_int, Px.kb_dict_bool, Px.kb_dict_str, Px.kb_dict_list, Px.kb_dict_tuple, Px.kb_dict_dict, L2.upd_same, Px.updI, L2.ixN, List.set_cons_zero, List.set_cons_succ, List.length_cons, List.length_nil, Nat.reduceAdd, Nat.zero_add, L2.HO.lst.injEq, L2.HO.tup.injEq, L2.upd_upd, L2.V.int.injEq, L2.V.ref.injEq, L2.V.bl.injEq, L2.V.str.injEq, L2.V.ty.injEq, List.cons.injEq, and_true, true_and, and_false, false_and, or_false, false_or, exists_eq_left', exists_eq_left, exists_and_left, exists_const, exists_false, Option.some.injEq, decide_eq_true_eq, List.append_nil, List.cons_append, List.nil_append, Option.isSome_some, Bool.not_true, Bool.not_false, Bool.not_eq_true', Bool.not_eq_true, Bool.false_eq_true, decide_eq_false_iff_not, if_true, if_false, ite_true, ite_false, Int.reduceLE, Int.reduceLT, Int.reduceToNat, Int.cast_ofNat_Int, Bool.true_eq_false, eq_self, ↓reduceIte, reduceCtorEq, Px.aug, Px.ipi, Px.tri, Px.rcatth, Px.flh, Px.sfl, Px.met, Px.mak, *]
    refine go_cut (fun σ' H' => ∃ m, σ' = [some (.ref a), some (.ref p), some (.ref st), some (.int (i : Int)), some (.ref m), none, none, none, none, none, none] ∧ Px.Ext H4 H' ∧ Pool H' m ∧ Pool H' p ∧ (m = p ∨ H m = none)) ?_ ?_
    · simp only [decide_true, decide_false, List.map_cons, List.map_nil, Option.map_none, Option.map_some, Option.getD_none, Option.getD_some, Px.dg2, Px.dg1, Px.dg, Px.din, Px.dnotin, Px.dnew, Px.dput, Px.isD_is, Px.dget_i, Px.dget_s, Px.dput_i, Px.dput_s, Px.dOf_d, Px.rtup, Px.rlist, Px.rsl, Px.rsort, Px.rcat, Px.rapp, Px.rrev, Px.sl_ap, Px.nop, Px.part, Px.yes, Px.tyl, Px.isL_l, Px.isT_t, Px.isL_t, Px.isT_l, Px.isD_d, Px.isT_d, Px.inV_ints, Px.flat_ints, Px.flatV_i, Px.wipe_cons, Px.wipe_nil, Px.gtup, Px.gcons, Px.gnil, gt_iff_lt, ge_iff_le, Px.we, Px.wonly, Px.was, Px.cxK, not_true_eq_false, and_self, true_implies, false_implies, implies_true, Px.e0, and_assoc, imp_false, not_false_eq_true, ne_eq, Px.rgcd, Px.rixl, Px.rixt, Px.v0, Px.v1, Px.v2, Px.v3, Px.v4, Px.v5, Px.v6, Px.v7, Px.v8, Px.v9, Px.v10, Px.v11, Px.v12, Px.v13, Px.v14, Px.v15, Px.v16, Px.v17, Px.v18, Px.v19, Px.v20, Px.v21, Px.v22, Px.v23, Px.c0, Px.asg, Px.gnm, Px.ret, Px.retN, Px.drop, Px.nxt, Px.brk, Px.cnt, Px.ifs, Px.op, Px.un, Px.tst, Px.tbl, Px.tand, Px.tor, Px.tnot, Px.andv, Px.orv, Px.notv, Px.tif, Px.tup, Px.lst, Px.nil, Px.cons, Px.cal, Px.calS, Px.cb, Px.par, Px.gsub, Px.bits, Px.bm, Px.bm0, Px.ri, Px.ri0, Px.ru, Px.req, Px.rne, Px.rix, Px.rlen, Px.rin, Px.rsetl, Px.risi, Px.tyH_n, Px.tyH_b, Px.tyH_i, Px.tyH_s, Px.tyH_r, Px.seqH_t, Px.seqH_l, Px.seqH_fl, Px.sc_ii, Px.sc_bb, Px.sc_ss, Px.atI0, Px.atI1, Px.atI2, Px.atI3, Px.atI4, Px.atI5, Px.atI6, Px.atI7, Px.kb_NoneType_int, Px.kb_NoneType_bool, Px.kb_NoneType_str, Px.kb_NoneType_list, Px.kb_NoneType_tuple, Px.kb_NoneType_dict, Px.kb_bool_int, Px.kb_bool_bool, Px.kb_bool_str, Px.kb_bool_list, Px.kb_bool_tuple, Px.kb_bool_dict, Px.kb_int_int, Px.kb_int_bool, Px.kb_int_str, Px.kb_int_list, Px.kb_int_tuple, Px.kb_int_dict, Px.kb_str_int, Px.kb_str_bool, Px.kb_str_str, Px.kb_str_list, Px.kb_str_tuple, Px.kb_str_dict, Px.kb_list_int, Px.kb_list_bool, Px.kb_list_str, Px.kb_list_list, Px.kb_list_tuple, Px.kb_list_dict, Px.kb_tuple_int, Px.kb_tuple_bool, Px.kb_tuple_str, Px.kb_tuple_list, Px.kb_tuple_tuple, Px.kb_tuple_dict, Px.kb_dict_int, Px.kb_dict_bool, Px.kb_dict_str, Px.kb_dict_list, Px.kb_dict_tuple, Px.kb_dict_dict, L2.upd_same, Px.updI, L2.ixN, List.set_cons_zero, List.set_cons_succ, List.length_cons, List.length_nil, Nat.reduceAdd, Nat.zero_add, L2.HO.lst.injEq, L2.HO.tup.injEq, L2.upd_upd, L2.V.int.injEq, L2.V.ref.injEq, L2.V.bl.injEq, L2.V.str.injEq, L2.V.ty.injEq, List.cons.injEq, and_true, true_and, and_false, false_and, or_false, false_or, exists_eq_left', exists_eq_left, exists_and_left, exists_const, exists_false, Option.some.injEq, decide_eq_true_eq, List.append_nil, List.cons_append, List.nil_append, Option.isSome_some, Bool.not_true, Bool.not_false, Bool.not_eq_true', Bool.not_eq_true, Bool.false_eq_true, decide_eq_false_iff_not, if_true, if_false, ite_true, ite_false, Int.reduceLE, Int.reduceLT, Int.reduceToNat, Int.cast_ofNat_Int, Bool.true_eq_false, eq_self, ↓reduceIte, reduceCtorEq, Px.aug, Px.ipi, Px.tri, Px.rcatth, Px.flh, Px.sfl, Px.met, Px.mak, *, spPool]
      have hS4 := SqLext e4 hS
      refine ⟨ns.map V.int, .inl hS4, ?_⟩
      rw [List.length_map]
      refine go_if (fun h => ?_) (fun h => ⟨Px.Ext.rfl' H4, .inl trivial⟩)
      exact ⟨ns, i + 1, by omega, hS4, by omega, fun m H' nm hm e => ⟨e, hm, hp4.ext e, .inr (e4.no nm)⟩⟩
    rintro σ' H5 ⟨m, rfl, e5, hm, hp5, hmp⟩
    have st5 := st4.mono e5
    simp only [decide_true, decide_false, List.map_cons, List.map_nil, Option.map_none, Option.map_some, Option.getD_none, Option.getD_some, Px.dg2, Px.dg1, Px.dg, Px.din, Px.dnotin, Px.dnew, Px.dput, Px.isD_is, Px.dget_i, Px.dget_s, Px.dput_i, Px.dput_s, Px.dOf_d, Px.rtup, Px.rlist, Px.rsl, Px.rsort, Px.rcat, Px.rapp, Px.rrev, Px.sl_ap, Px.nop, Px.part, Px.yes, Px.tyl, Px.isL_l, Px.isT_t, Px.isL_t, Px.isT_l, Px.isD_d, Px.isT_d, Px.inV_ints, Px.flat_ints, Px.flatV_i, Px.wipe_cons, Px.wipe_nil, Px.gtup, Px.gcons, Px.gnil, gt_iff_lt, ge_iff_le, Px.we, Px.wonly, Px.was, Px.cxK, not_true_eq_false, and_self, true_implies, false_implies, implies_true, Px.e0, and_assoc, imp_false, not_false_eq_true, ne_eq, Px.rgcd, Px.rixl, Px.rixt, Px.v0, Px.v1, Px.v2, Px.v3, Px.v4, Px.v5, Px.v6, Px.v7, Px.v8, Px.v9, Px.v10, Px.v11, Px.v12, Px.v13, Px.v14, Px.v15, Px.v16, Px.v17, Px.v18, Px.v19, Px.v20, Px.v21, Px.v22, Px.v23, Px.c0, Px.asg, Px.gnm, Px.ret, Px.retN, Px.drop, Px.nxt, Px.brk, Px.cnt, Px.ifs, Px.op, Px.un, Px.tst, Px.tbl, Px.tand, Px.tor, Px.tnot, Px.andv, Px.orv, Px.notv, Px.tif, Px.tup, Px.lst, Px.nil, Px.cons, Px.cal, Px.calS, Px.cb, Px.par, Px.gsub, Px.bits, Px.bm, Px.bm0, Px.ri, Px.ri0, Px.ru, Px.req, Px.rne, Px.rix, Px.rlen, Px.rin, Px.rsetl, Px.risi, Px.tyH_n, Px.tyH_b, Px.tyH_i, Px.tyH_s, Px.tyH_r, Px.seqH_t, Px.seqH_l, Px.seqH_fl, Px.sc_ii, Px.sc_bb, Px.sc_ss, Px.atI0, Px.atI1, Px.atI2, Px.atI3, Px.atI4, Px.atI5, Px.atI6, Px.atI7, Px.kb_NoneType_int, Px.kb_NoneType_bool, Px.kb_NoneType_str, Px.kb_NoneType_list, Px.kb_NoneType_tuple, Px.kb_NoneType_dict, Px.kb_bool_int, Px.kb_bool_bool, Px.kb_bool_str, Px.kb_bool_list, Px.kb_bool_tuple, Px.kb_bool_dict, Px.kb_int_int, Px.kb_int_bool, Px.kb_int_str, Px.kb_int_list, Px.kb_int_tuple, Px.kb_int_dict, Px.kb_str_int, Px.kb_str_bool, Px.kb_str_str, Px.kb_str_list, Px.kb_str_tuple, Px.kb_str_dict, Px.kb_list_int, Px.kb_list_bool, Px.kb_list_str, Px.kb_list_list, Px.kb_list_tuple, Px.kb_list_dict, Px.kb_tuple_int, Px.kb_tuple_bool, Px.kb_tuple_str, Px.kb_tuple_list, Px.kb_tuple_tuple, Px.kb_tuple_dict, Px.kb_dict_int, Px.kb_dict_bool, Px.kb_dict_str, Px.kb_dict_list, Px.kb_dict_tuple, Px.kb_dict_dict, L2.upd_same, Px.updI, L2.ixN, List.set_cons_zero, List.set_cons_succ, List.length_cons, List.length_nil, Nat.reduceAdd, Nat.zero_add, L2.HO.lst.injEq, L2.HO.tup.injEq, L2.upd_upd, L2.V.int.injEq, L2.V.ref.injEq, L2.V.bl.injEq, L2.V.str.injEq, L2.V.ty.injEq, List.cons.injEq, and_true, true_and, and_false, false_and, or_false, false_or, exists_eq_left', exists_eq_left, exists_and_left, exists_const, exists_false, Option.some.injEq, decide_eq_true_eq, List.append_nil, List.cons_append, List.nil_append, Option.isSome_some, Bool.not_true, Bool.not_false, Bool.not_eq_true', Bool.not_eq_true, Bool.false_eq_true, decide_eq_false_iff_not, if_true, if_false, ite_true, ite_false, Int.reduceLE, Int.reduceLT, Int.reduceToNat, Int.cast_ofNat_Int, Bool.true_eq_false, eq_self, ↓reduceIte, reduceCtorEq, Px.aug, Px.ipi, Px.tri, Px.rcatth, Px.flh, Px.sfl, Px.met, Px.mak, *, spStepL]
    have hmH : H m = none := by
      rcases hmp with h | h
      · rw [h]; exact np
      · exact h
    obtain ⟨v5, h5, d5⟩ := id st5
    refine ⟨by rw [tyl (by rw [h5]; rfl)]; trivial, xs, st5, wf, fun v x H6 dv ok hm6 b6 => ?_⟩
    have stm := steps_ne hm st5
    have st6 := st5.but1 stm hm.nt b6
    obtain ⟨v6, h6, d6⟩ := id st6
    have l6 := Steps.len d6
    have e6 : Px.Ext H H6 := (e4.trans e5).but hmH b6
    have hp6 : Pool H6 p := by
      by_cases z : p = m
      · rw [z]; exact hm6
      · exact hp5.but b6 z
    have psn := steps_ne hp6 st6
    refine ⟨v6, h6, Nat.lt_of_lt_of_le (show v6.length < 100 by omega) (by decide), _, _, xs ++ [x], rfl, e6.mut nstH, ?_, steps_app h6 d6 dv, wf_app wf ok (by omega), by rw [List.length_append, lx]; rfl⟩
    obtain ⟨c1, c2, c3, c4, g⟩ := hp6
    exact ⟨c1, c2, c3, c4, by rw [upd_ne psn.symm, g]⟩
  · rintro σ' H4 ⟨k4, m4, xs, rfl, e4, hp4, st4, wf, lx⟩
    have l15 : xs.length < 15 := by omega
    clear lx hp3 b3 t3 e03 hp2 st2 e12 e1 hp1
    obtain ⟨v4, h4, d4⟩ := id st4
    have l4 := Steps.len d4
    simp only [decide_true, decide_false, List.map_cons, List.map_nil, Option.map_none, Option.map_some, Option.getD_none, Option.getD_some, Px.dg2, Px.dg1, Px.dg, Px.din, Px.dnotin, Px.dnew, Px.dput, Px.isD_is, Px.dget_i, Px.dget_s, Px.dput_i, Px.dput_s, Px.dOf_d, Px.rtup, Px.rlist, Px.rsl, Px.rsort, Px.rcat, Px.rapp, Px.rrev, Px.sl_ap, Px.nop, Px.part, Px.yes, Px.tyl, Px.isL_l, Px.isT_t, Px.isL_t, Px.isT_l, Px.isD_d, Px.isT_d, Px.inV_ints, Px.flat_ints, Px.flatV_i, Px.wipe_cons, Px.wipe_nil, Px.gtup, Px.gcons, Px.gnil, gt_iff_lt, ge_iff_le, Px.we, Px.wonly, Px.was, Px.cxK, not_true_eq_false, and_self, true_implies, false_implies, implies_true, Px.e0, and_assoc, imp_false, not_false_eq_true, ne_eq, Px.rgcd, Px.rixl, Px.rixt, Px.v0, Px.v1, Px.v2, Px.v3, Px.v4, Px.v5, Px.v6, Px.v7, Px.v8, Px.v9, Px.v10, Px.v11, Px.v12, Px.v13, Px.v14, Px.v15, Px.v16, Px.v17, Px.v18, Px.v19, Px.v20, Px.v21, Px.v22, Px.v23, Px.c0, Px.asg, Px.gnm, Px.ret, Px.retN, Px.drop, Px.nxt, Px.brk, Px.cnt, Px.ifs, Px.op, Px.un, Px.tst, Px.tbl, Px.tand, Px.tor, Px.tnot, Px.andv, Px.orv, Px.notv, Px.tif, Px.tup, Px.lst, Px.nil, Px.cons, Px.cal, Px.calS, Px.cb, Px.par, Px.gsub, Px.bits, Px.bm, Px.bm0, Px.ri, Px.ri0, Px.ru, Px.req, Px.rne, Px.rix, Px.rlen, Px.rin, Px.rsetl, Px.risi, Px.tyH_n, Px.tyH_b, Px.tyH_i, Px.tyH_s, Px.tyH_r, Px.seqH_t, Px.seqH_l, Px.seqH_fl, Px.sc_ii, Px.sc_bb, Px.sc_ss, Px.atI0, Px.atI1, Px.atI2, Px.atI3, Px.atI4, Px.atI5, Px.atI6, Px.atI7, Px.kb_NoneType_int, Px.kb_NoneType_bool, Px.kb_NoneType_str, Px.kb_NoneType_list, Px.kb_NoneType_tuple, Px.kb_NoneType_dict, Px.kb_bool_int, Px.kb_bool_bool, Px.kb_bool_str, Px.kb_bool_list, Px.kb_bool_tuple, Px.kb_bool_dict, Px.kb_int_int, Px.kb_int_bool, Px.kb_int_str, Px.kb_int_list, Px.kb_int_tuple, Px.kb_int_dict, Px.kb_str_int, Px.kb_str_bool, Px.kb_str_str, Px.kb_str_list, Px.kb_str_tuple, Px.kb_str_dict, Px.kb_list_int, Px.kb_list_bool, Px.kb_list_str, Px.kb_list_list, Px.kb_list_tuple, Px.kb_list_dict, Px.kb_tuple_int, Px.kb_tuple_bool, Px.kb_tuple_str, Px.kb_tuple_list, Px.kb_tuple_tuple, Px.kb_tuple_dict, Px.kb_dict_int, Px.kb_dict_bool, Px.kb_dict_str, Px.kb_dict_list, Px.kb_dict_tuple, Px.kb_dict_dict, L2.upd_same, Px.updI, L2.ixN, List.set_cons_zero, List.set_cons_succ, List.length_cons, List.length_nil, Nat.reduceAdd, Nat.zero_add, L2.HO.lst.injEq, L2.HO.tup.injEq, L2.upd_upd, L2.V.int.injEq, L2.V.ref.injEq, L2.V.bl.injEq, L2.V.str.injEq, L2.V.ty.injEq, List.cons.injEq, and_true, true_and, and_false, false_and, or_false, false_or, exists_eq_left', exists_eq_left, exists_and_left, exists_const, exists_false, Option.some.injEq, decide_eq_true_eq, List.append_nil, List.cons_append, List.nil_append, Option.isSome_some, Bool.not_true, Bool.not_false, Bool.not_eq_true', Bool.not_eq_true, Bool.false_eq_true, decide_eq_false_iff_not, if_true, if_false, ite_true, ite_false, Int.reduceLE, Int.reduceLT, Int.reduceToNat, Int.cast_ofNat_Int, Bool.true_eq_false, eq_self, ↓reduceIte, reduceCtorEq, Px.aug, Px.ipi, Px.tri, Px.rcatth, Px.flh, Px.sfl, Px.met, Px.mak]
    refine go_seq ?_
    simp only [decide_true, decide_false, List.map_cons, List.map_nil, Option.map_none, Option.map_some, Option.getD_none, Option.getD_some, Px.dg2, Px.dg1, Px.dg, Px.din, Px.dnotin, Px.dnew, Px.dput, Px.isD_is, Px.dget_i, Px.dget_s, Px.dput_i, Px.dput_s, Px.dOf_d, Px.rtup, Px.rlist, Px.rsl, Px.rsort, Px.rcat, Px.rapp, Px.rrev, Px.sl_ap, Px.nop, Px.part, Px.yes, Px.tyl, Px.isL_l, Px.isT_t, Px.isL_t, Px.isT_l, Px.isD_d, Px.isT_d, Px.inV_ints, Px.flat_ints, Px.flatV_i, Px.wipe_cons, Px.wipe_nil, Px.gtup, Px.gcons, Px.gnil, gt_iff_lt, ge_iff_le, Px.we, Px.wonly, Px.was, Px.cxK, not_true_eq_false, and_self, true_implies, false_implies, implies_true, Px.e0, and_assoc, imp_false, not_false_eq_true, ne_eq, Px.rgcd, Px.rixl, Px.rixt, Px.v0, Px.v1, Px.v2, Px.v3, Px.v4, Px.v5, Px.v6, Px.v7, Px.v8, Px.v9, Px.v10, Px.v11, Px.v12, Px.v13, Px.v14, Px.v15, Px.v16, Px.v17, Px.v18, Px.v19, Px.v20, Px.v21, Px.v22, Px.v23, Px.c0, Px.asg, Px.gnm, Px.ret, Px.retN, Px.drop, Px.nxt, Px.brk, Px.cnt, Px.ifs, Px.op, Px.un, Px.tst, Px.tbl, Px.tand, Px.tor, Px.tnot, Px.andv, Px.orv, Px.notv, Px.tif, Px.tup, Px.lst, Px.nil, Px.cons, Px.cal, Px.calS, Px.cb, Px.par, Px.gsub, Px.bits, Px.bm, Px.bm0, Px.ri, Px.ri0, Px.ru, Px.req, Px.rne, Px.rix, Px.rlen, Px.rin, Px.rsetl, Px.risi, Px.tyH_n, Px.tyH_b, Px.tyH_i, Px.tyH_s, Px.tyH_r, Px.seqH_t, Px.seqH_l, Px.seqH_fl, Px.sc_ii, Px.sc_bb, Px.sc_ss, Px.atI0, Px.atI1, Px.atI2, Px.atI3, Px.atI4, Px.atI5, Px.atI6, Px.atI7, Px.kb_NoneType_int, Px.kb_NoneType_bool, Px.kb_NoneType_str, Px.kb_NoneType_list, Px.kb_NoneType_tuple, Px.kb_NoneType_dict, Px.kb_bool_int, Px.kb_bool_bool, Px.kb_bool_str, Px.kb_bool_list, Px.kb_bool_tuple, Px.kb_bool_dict, Px.kb_int_int, Px.kb_int_bool, Px.kb_int_str, Px.kb_int_list, Px.kb_int_tuple, Px.kb_int_dict, Px.kb_str_int, Px.kb_str_bool, Px.kb_str_str, Px.kb_str_list, Px.kb_str_tuple, Px.kb_str_dict, Px.kb_list_int, Px.kb_list_bool, Px.kb_list_str, Px.kb_list_list, Px.kb_list_tuple, Px.kb_list_dict, Px.kb_tuple_int, Px.kb_tuple_bool, Px.kb_tuple_str, Px.kb_tuple_list, Px.kb_tuple_tuple, Px.kb_tuple_dict, Px.kb_dict_int, Px.kb_dict_bool, Px.kb_dict_str, Px.kb_dict_list, Px.kb_dict_tuple, Px.kb_dict_dict, L2.upd_same, Px.updI, L2.ixN, List.set_cons_zero, List.set_cons_succ, List.length_cons, List.length_nil, Nat.reduceAdd, Nat.zero_add, L2.HO.lst.injEq, L2.HO.tup.injEq, L2.upd_upd, L2.V.int.injEq, L2.V.ref.injEq, L2.V.bl.injEq, L2.V.str.injEq, L2.V.ty.injEq, List.cons.injEq, and_true, true_and, and_false, false_and, or_false, false_or, exists_eq_left', exists_eq_left, exists_and_left, exists_const, exists_false, Option.some.injEq, decide_eq_true_eq, List.append_nil, List.cons_append, List.nil_append, Option.isSome_some, Bool.not_true, Bool.not_false, Bool.not_eq_true', Bool.not_eq_true, Bool.false_eq_true, decide_eq_false_iff_not, if_true, if_false, ite_true, ite_false, Int.reduceLE, Int.reduceLT, Int.reduceToNat, Int.cast_ofNat_Int, Bool.true_eq_false, eq_self, ↓reduceIte, reduceCtorEq, Px.aug, Px.ipi, Px.tri, Px.rcatth, Px.flh, Px.sfl, Px.met, Px.mak, *, spTake]
    refine ⟨by omega, by omega, fun n5 H5 z0 z1 hp5 b5 t5 => ?_⟩
    have st5 := st4.but hp4 b5
    obtain ⟨v5, h5, d5⟩ := id st5
    have l5 := Steps.len d5
    simp only [decide_true, decide_false, List.map_cons, List.map_nil, Option.map_none, Option.map_some, Option.getD_none, Option.getD_some, Px.dg2, Px.dg1, Px.dg, Px.din, Px.dnotin, Px.dnew, Px.dput, Px.isD_is, Px.dget_i, Px.dget_s, Px.dput_i, Px.dput_s, Px.dOf_d, Px.rtup, Px.rlist, Px.rsl, Px.rsort, Px.rcat, Px.rapp, Px.rrev, Px.sl_ap, Px.nop, Px.part, Px.yes, Px.tyl, Px.isL_l, Px.isT_t, Px.isL_t, Px.isT_l, Px.isD_d, Px.isT_d, Px.inV_ints, Px.flat_ints, Px.flatV_i, Px.wipe_cons, Px.wipe_nil, Px.gtup, Px.gcons, Px.gnil, gt_iff_lt, ge_iff_le, Px.we, Px.wonly, Px.was, Px.cxK, not_true_eq_false, and_self, true_implies, false_implies, implies_true, Px.e0, and_assoc, imp_false, not_false_eq_true, ne_eq, Px.rgcd, Px.rixl, Px.rixt, Px.v0, Px.v1, Px.v2, Px.v3, Px.v4, Px.v5, Px.v6, Px.v7, Px.v8, Px.v9, Px.v10, Px.v11, Px.v12, Px.v13, Px.v14, Px.v15, Px.v16, Px.v17, Px.v18, Px.v19, Px.v20, Px.v21, Px.v22, Px.v23, Px.c0, Px.asg, Px.gnm, Px.ret, Px.retN, Px.drop, Px.nxt, Px.brk, Px.cnt, Px.ifs, Px.op, Px.un, Px.tst, Px.tbl, Px.tand, Px.tor, Px.tnot, Px.andv, Px.orv, Px.notv, Px.tif, Px.tup, Px.lst, Px.nil, Px.cons, Px.cal, Px.calS, Px.cb, Px.par, Px.gsub, Px.bits, Px.bm, Px.bm0, Px.ri, Px.ri0, Px.ru, Px.req, Px.rne, Px.rix, Px.rlen, Px.rin, Px.rsetl, Px.risi, Px.tyH_n, Px.tyH_b, Px.tyH_i, Px.tyH_s, Px.tyH_r, Px.seqH_t, Px.seqH_l, Px.seqH_fl, Px.sc_ii, Px.sc_bb, Px.sc_ss, Px.atI0, Px.atI1, Px.atI2, Px.atI3, Px.atI4, Px.atI5, Px.atI6, Px.atI7, Px.kb_NoneType_int, Px.kb_NoneType_bool, Px.kb_NoneType_str, Px.kb_NoneType_list, Px.kb_NoneType_tuple, Px.kb_NoneType_dict, Px.kb_bool_int, Px.kb_bool_bool, Px.kb_bool_str, Px.kb_bool_list, Px.kb_bool_tuple, Px.kb_bool_dict, Px.kb_int_int, Px.kb_int_bool, Px.kb_int_str, Px.kb_int_list, Px.kb_int_tuple, Px.kb_int_dict, Px.kb_str_int, Px.kb_str_bool, Px.kb_str_str, Px.kb_str_list, Px.kb_str_tuple, Px.kb_str_dict, Px.kb_list_int, Px.kb_list_bool, Px.kb_list_str, Px.kb_list_list, Px.kb_list_tuple, Px.kb_list_dict, Px.kb_tuple_int, Px.kb_tuple_bool, Px.kb_tuple_str, Px.kb_tuple_list, Px.kb_tuple_tuple, Px.kb_tuple_dict, Px.kb_dict_int, Px.kb_dict_bool, Px.kb_dict_str, Px.kb_dict_list, Px.kb_dict_tuple, Px.kb_dict_dict, L2.upd_same, Px.updI, L2.ixN, List.set_cons_zero, List.set_cons_succ, List.length_cons, List.length_nil, Nat.reduceAdd, Nat.zero_add, L2.HO.lst.injEq, L2.HO.tup.injEq, L2.upd_upd, L2.V.int.injEq, L2.V.ref.injEq, L2.V.bl.injEq, L2.V.str.injEq, L2.V.ty.injEq, List.cons.injEq, and_true, true_and, and_false, false_and, or_false, false_or, exists_eq_left', exists_eq_left, exists_and_left, exists_const, exists_false, Option.some.injEq, decide_eq_true_eq, List.append_nil, List.cons_append, List.nil_append, Option.isSome_some, Bool.not_true, Bool.not_false, Bool.not_eq_true', Bool.not_eq_true, Bool.false_eq_true, decide_eq_false_iff_not, if_true, if_false, ite_true, ite_false, Int.reduceLE, Int.reduceLT, Int.reduceToNat, Int.cast_ofNat_Int, Bool.true_eq_false, eq_self, ↓reduceIte, reduceCtorEq, Px.aug, Px.ipi, Px.tri, Px.rcatth, Px.flh, Px.sfl, Px.met, Px.mak, *]
    intro q nq
    obtain ⟨nb, ec⟩ : ∃ nb, cutV v5 none (some n5) = v5.take nb := ⟨HT.sIx v5.length v5.length (some n5) - 0, by unfold cutV; rfl⟩
    rw [ec]
    have y5 : Px.Ext H5 (upd H5 q (.lst (v5.take nb))) := (Px.Ext.rfl' H5).new nq
    have q6 : Steps (upd H5 q (.lst (v5.take nb))) q (xs.take nb) := ⟨_, upd_same, by rw [List.map_take]; exact (take_all _ d5).mono y5.tu⟩
    generalize upd H5 q (.lst (v5.take nb)) = H6 at *
    have st6 := st5.mono y5
    have nsq : st ≠ q := ne_some_none st5.isS nq
    have wfs := wf.take nb
    have lsq : (xs.take nb).length ≤ 15 := by rw [List.length_take]; omega
    generalize xs.take nb = ys at *
    clear ec hp4 b5 t5 h4 d4 l4 y5 v4
    refine go_seq ?_
    simp only [decide_true, decide_false, List.map_cons, List.map_nil, Option.map_none, Option.map_some, Option.getD_none, Option.getD_some, Px.dg2, Px.dg1, Px.dg, Px.din, Px.dnotin, Px.dnew, Px.dput, Px.isD_is, Px.dget_i, Px.dget_s, Px.dput_i, Px.dput_s, Px.dOf_d, Px.rtup, Px.rlist, Px.rsl, Px.rsort, Px.rcat, Px.rapp, Px.rrev, Px.sl_ap, Px.nop, Px.part, Px.yes, Px.tyl, Px.isL_l, Px.isT_t, Px.isL_t, Px.isT_l, Px.isD_d, Px.isT_d, Px.inV_ints, Px.flat_ints, Px.flatV_i, Px.wipe_cons, Px.wipe_nil, Px.gtup, Px.gcons, Px.gnil, gt_iff_lt, ge_iff_le, Px.we, Px.wonly, Px.was, Px.cxK, not_true_eq_false, and_self, true_implies, false_implies, implies_true, Px.e0, and_assoc, imp_false, not_false_eq_true, ne_eq, Px.rgcd, Px.rixl, Px.rixt, Px.v0, Px.v1, Px.v2, Px.v3, Px.v4, Px.v5, Px.v6, Px.v7, Px.v8, Px.v9, Px.v10, Px.v11, Px.v12, Px.v13, Px.v14, Px.v15, Px.v16, Px.v17, Px.v18, Px.v19, Px.v20, Px.v21, Px.v22, Px.v23, Px.c0, Px.asg, Px.gnm, Px.ret, Px.retN, Px.drop, Px.nxt, Px.brk, Px.cnt, Px.ifs, Px.op, Px.un, Px.tst, Px.tbl, Px.tand, Px.tor, Px.tnot, Px.andv, Px.orv, Px.notv, Px.tif, Px.tup, Px.lst, Px.nil, Px.cons, Px.cal, Px.calS, Px.cb, Px.par, Px.gsub, Px.bits, Px.bm, Px.bm0, Px.ri, Px.ri0, Px.ru, Px.req, Px.rne, Px.rix, Px.rlen, Px.rin, Px.rsetl, Px.risi, Px.tyH_n, Px.tyH_b, Px.tyH_i, Px.tyH_s, Px.tyH_r, Px.seqH_t, Px.seqH_l, Px.seqH_fl, Px.sc_ii, Px.sc_bb, Px.sc_ss, Px.atI0, Px.atI1, Px.atI2, Px.atI3, Px.atI4, Px.atI5, Px.atI6, Px.atI7, Px.kb_NoneType_int, Px.kb_NoneType_bool, Px.kb_NoneType_str, Px.kb_NoneType_list, Px.kb_NoneType_tuple, Px.kb_NoneType_dict, Px.kb_bool_int, Px.kb_bool_bool, Px.kb_bool_str, Px.kb_bool_list, Px.kb_bool_tuple, Px.kb_bool_dict, Px.kb_int_int, Px.kb_int_bool, Px.kb_int_str, Px.kb_int_list, Px.kb_int_tuple, Px.kb_int_dict, Px.kb_str_int, Px.kb_str_bool, Px.kb_str_str, Px.kb_str_list, Px.kb_str_tuple, Px.kb_str_dict, Px.kb_list_int, Px.kb_list_bool, Px.kb_list_str, Px.kb_list_list, Px.kb_list_tuple, Px.kb_list_dict, Px.kb_tuple_int, Px.kb_tuple_bool, Px.kb_tuple_str, Px.kb_tuple_list, Px.kb_tuple_tuple, Px.kb_tuple_dict, Px.kb_dict_int, Px.kb_dict_bool, Px.kb_dict_str, Px.kb_dict_list, Px.kb_dict_tuple, Px.kb_dict_dict, L2.upd_same, Px.updI, L2.ixN, List.set_cons_zero, List.set_cons_succ, List.length_cons, List.length_nil, Nat.reduceAdd, Nat.zero_add, L2.HO.lst.injEq, L2.HO.tup.injEq, L2.upd_upd, L2.V.int.injEq, L2.V.ref.injEq, L2.V.bl.injEq, L2.V.str.injEq, L2.V.ty.injEq, List.cons.injEq, and_true, true_and, and_false, false_and, or_false, false_or, exists_eq_left', exists_eq_left, exists_and_left, exists_const, exists_false, Option.some.injEq, decide_eq_true_eq, List.append_nil, List.cons_append, List.nil_append, Option.isSome_some, Bool.not_true, Bool.not_false, Bool.not_eq_true', Bool.not_eq_true, Bool.false_eq_true, decide_eq_false_iff_not, if_true, if_false, ite_true, ite_false, Int.reduceLE, Int.reduceLT, Int.reduceToNat, Int.cast_ofNat_Int, Bool.true_eq_false, eq_self, ↓reduceIte, reduceCtorEq, Px.aug, Px.ipi, Px.tri, Px.rcatth, Px.flh, Px.sfl, Px.met, Px.mak, *, spTrims]
    refine ⟨xs, st6, wf, fun H7 e7 => ⟨ys, q6.mono e7, wfs, fun H8 e8 => ?_⟩⟩
    have st8 := st6.mono (e7.trans e8)
    have q8 := q6.mono (e7.trans e8)
    refine go_seq ?_
    simp only [decide_true, decide_false, List.map_cons, List.map_nil, Option.map_none, Option.map_some, Option.getD_none, Option.getD_some, Px.dg2, Px.dg1, Px.dg, Px.din, Px.dnotin, Px.dnew, Px.dput, Px.isD_is, Px.dget_i, Px.dget_s, Px.dput_i, Px.dput_s, Px.dOf_d, Px.rtup, Px.rlist, Px.rsl, Px.rsort, Px.rcat, Px.rapp, Px.rrev, Px.sl_ap, Px.nop, Px.part, Px.yes, Px.tyl, Px.isL_l, Px.isT_t, Px.isL_t, Px.isT_l, Px.isD_d, Px.isT_d, Px.inV_ints, Px.flat_ints, Px.flatV_i, Px.wipe_cons, Px.wipe_nil, Px.gtup, Px.gcons, Px.gnil, gt_iff_lt, ge_iff_le, Px.we, Px.wonly, Px.was, Px.cxK, not_true_eq_false, and_self, true_implies, false_implies, implies_true, Px.e0, and_assoc, imp_false, not_false_eq_true, ne_eq, Px.rgcd, Px.rixl, Px.rixt, Px.v0, Px.v1, Px.v2, Px.v3, Px.v4, Px.v5, Px.v6, Px.v7, Px.v8, Px.v9, Px.v10, Px.v11, Px.v12, Px.v13, Px.v14, Px.v15, Px.v16, Px.v17, Px.v18, Px.v19, Px.v20, Px.v21, Px.v22, Px.v23, Px.c0, Px.asg, Px.gnm, Px.ret, Px.retN, Px.drop, Px.nxt, Px.brk, Px.cnt, Px.ifs, Px.op, Px.un, Px.tst, Px.tbl, Px.tand, Px.tor, Px.tnot, Px.andv, Px.orv, Px.notv, Px.tif, Px.tup, Px.lst, Px.nil, Px.cons, Px.cal, Px.calS, Px.cb, Px.par, Px.gsub, Px.bits, Px.bm, Px.bm0, Px.ri, Px.ri0, Px.ru, Px.req, Px.rne, Px.rix, Px.rlen, Px.rin, Px.rsetl, Px.risi, Px.tyH_n, Px.tyH_b, Px.tyH_i, Px.tyH_s, Px.tyH_r, Px.seqH_t, Px.seqH_l, Px.seqH_fl, Px.sc_ii, Px.sc_bb, Px.sc_ss, Px.atI0, Px.atI1, Px.atI2, Px.atI3, Px.atI4, Px.atI5, Px.atI6, Px.atI7, Px.kb_NoneType_int, Px.kb_NoneType_bool, Px.kb_NoneType_str, Px.kb_NoneType_list, Px.kb_NoneType_tuple, Px.kb_NoneType_dict, Px.kb_bool_int, Px.kb_bool_bool, Px.kb_bool_str, Px.kb_bool_list, Px.kb_bool_tuple, Px.kb_bool_dict, Px.kb_int_int, Px.kb_int_bool, Px.kb_int_str, Px.kb_int_list, Px.kb_int_tuple, Px.kb_int_dict, Px.kb_str_int, Px.kb_str_bool, Px.kb_str_str, Px.kb_str_list, Px.kb_str_tuple, Px.kb_str_dict, Px.kb_list_int, Px.kb_list_bool, Px.kb_list_str, Px.kb_list_list, Px.kb_list_tuple, Px.kb_list_dict, Px.kb_tuple_int, Px.kb_tuple_bool, Px.kb_tuple_str, Px.kb_tuple_list, Px.kb_tuple_tuple, Px.kb_tuple_dict, Px.kb_dict_int, Px.kb_dict_bool, Px.kb_dict_str, Px.kb_dict_list, Px.kb_dict_tuple, Px.kb_dict_dict, L2.upd_same, Px.updI, L2.ixN, List.set_cons_zero, List.set_cons_succ, List.length_cons, List.length_nil, Nat.reduceAdd, Nat.zero_add, L2.HO.lst.injEq, L2.HO.tup.injEq, L2.upd_upd, L2.V.int.injEq, L2.V.ref.injEq, L2.V.bl.injEq, L2.V.str.injEq, L2.V.ty.injEq, List.cons.injEq, and_true, true_and, and_false, false_and, or_false, false_or, exists_eq_left', exists_eq_left, exists_and_left, exists_const, exists_false, Option.some.injEq, decide_eq_true_eq, List.append_nil, List.cons_append, List.nil_append, Option.isSome_some, Bool.not_true, Bool.not_false, Bool.not_eq_true', Bool.not_eq_true, Bool.false_eq_true, decide_eq_false_iff_not, if_true, if_false, ite_true, ite_false, Int.reduceLE, Int.reduceLT, Int.reduceToNat, Int.cast_ofNat_Int, Bool.true_eq_false, eq_self, ↓reduceIte, reduceCtorEq, Px.aug, Px.ipi, Px.tri, Px.rcatth, Px.flh, Px.sfl, Px.met, Px.mak, *]
    intro lg dx nlg ndx ne1
    refine make_ok nlg ndx ne1 fun l1 H9 g9 nl1 e9 => go_seq ?_
    simp only [decide_true, decide_false, List.map_cons, List.map_nil, Option.map_none, Option.map_some, Option.getD_none, Option.getD_some, Px.dg2, Px.dg1, Px.dg, Px.din, Px.dnotin, Px.dnew, Px.dput, Px.isD_is, Px.dget_i, Px.dget_s, Px.dput_i, Px.dput_s, Px.dOf_d, Px.rtup, Px.rlist, Px.rsl, Px.rsort, Px.rcat, Px.rapp, Px.rrev, Px.sl_ap, Px.nop, Px.part, Px.yes, Px.tyl, Px.isL_l, Px.isT_t, Px.isL_t, Px.isT_l, Px.isD_d, Px.isT_d, Px.inV_ints, Px.flat_ints, Px.flatV_i, Px.wipe_cons, Px.wipe_nil, Px.gtup, Px.gcons, Px.gnil, gt_iff_lt, ge_iff_le, Px.we, Px.wonly, Px.was, Px.cxK, not_true_eq_false, and_self, true_implies, false_implies, implies_true, Px.e0, and_assoc, imp_false, not_false_eq_true, ne_eq, Px.rgcd, Px.rixl, Px.rixt, Px.v0, Px.v1, Px.v2, Px.v3, Px.v4, Px.v5, Px.v6, Px.v7, Px.v8, Px.v9, Px.v10, Px.v11, Px.v12, Px.v13, Px.v14, Px.v15, Px.v16, Px.v17, Px.v18, Px.v19, Px.v20, Px.v21, Px.v22, Px.v23, Px.c0, Px.asg, Px.gnm, Px.ret, Px.retN, Px.drop, Px.nxt, Px.brk, Px.cnt, Px.ifs, Px.op, Px.un, Px.tst, Px.tbl, Px.tand, Px.tor, Px.tnot, Px.andv, Px.orv, Px.notv, Px.tif, Px.tup, Px.lst, Px.nil, Px.cons, Px.cal, Px.calS, Px.cb, Px.par, Px.gsub, Px.bits, Px.bm, Px.bm0, Px.ri, Px.ri0, Px.ru, Px.req, Px.rne, Px.rix, Px.rlen, Px.rin, Px.rsetl, Px.risi, Px.tyH_n, Px.tyH_b, Px.tyH_i, Px.tyH_s, Px.tyH_r, Px.seqH_t, Px.seqH_l, Px.seqH_fl, Px.sc_ii, Px.sc_bb, Px.sc_ss, Px.atI0, Px.atI1, Px.atI2, Px.atI3, Px.atI4, Px.atI5, Px.atI6, Px.atI7, Px.kb_NoneType_int, Px.kb_NoneType_bool, Px.kb_NoneType_str, Px.kb_NoneType_list, Px.kb_NoneType_tuple, Px.kb_NoneType_dict, Px.kb_bool_int, Px.kb_bool_bool, Px.kb_bool_str, Px.kb_bool_list, Px.kb_bool_tuple, Px.kb_bool_dict, Px.kb_int_int, Px.kb_int_bool, Px.kb_int_str, Px.kb_int_list, Px.kb_int_tuple, Px.kb_int_dict, Px.kb_str_int, Px.kb_str_bool, Px.kb_str_str, Px.kb_str_list, Px.kb_str_tuple, Px.kb_str_dict, Px.kb_list_int, Px.kb_list_bool, Px.kb_list_str, Px.kb_list_list, Px.kb_list_tuple, Px.kb_list_dict, Px.kb_tuple_int, Px.kb_tuple_bool, Px.kb_tuple_str, Px.kb_tuple_list, Px.kb_tuple_tuple, Px.kb_tuple_dict, Px.kb_dict_int, Px.kb_dict_bool, Px.kb_dict_str, Px.kb_dict_list, Px.kb_dict_tuple, Px.kb_dict_dict, L2.upd_same, Px.updI, L2.ixN, List.set_cons_zero, List.set_cons_succ, List.length_cons, List.length_nil, Nat.reduceAdd, Nat.zero_add, L2.HO.lst.injEq, L2.HO.tup.injEq, L2.upd_upd, L2.V.int.injEq, L2.V.ref.injEq, L2.V.bl.injEq, L2.V.str.injEq, L2.V.ty.injEq, List.cons.injEq, and_true, true_and, and_false, false_and, or_false, false_or, exists_eq_left', exists_eq_left, exists_and_left, exists_const, exists_false, Option.some.injEq, decide_eq_true_eq, List.append_nil, List.cons_append, List.nil_append, Option.isSome_some, Bool.not_true, Bool.not_false, Bool.not_eq_true', Bool.not_eq_true, Bool.false_eq_true, decide_eq_false_iff_not, if_true, if_false, ite_true, ite_false, Int.reduceLE, Int.reduceLT, Int.reduceToNat, Int.cast_ofNat_Int, Bool.true_eq_false, eq_self, ↓reduceIte, reduceCtorEq, Px.aug, Px.ipi, Px.tri, Px.rcatth, Px.flh, Px.sfl, Px.met, Px.mak, *]
    intro tw dx2 ntw ndx2 ne2
    refine make_ok ntw ndx2 ne2 fun l2 H10 t10 nl2 e10 => go_seq ?_
    have g10 := g9.ext e10
    have st10 := st8.mono (e9.trans e10)
    have q10 := q8.mono (e9.trans e10)
    have n1 : st ≠ l1 := ne_some_none st8.isS nl1
    have n2 : q ≠ l1 := ne_some_none q8.isS nl1
    have n3 : st ≠ l2 := ne_some_none (st8.mono e9).isS nl2
    have n4 : q ≠ l2 := ne_some_none (q8.mono e9).isS nl2
    have n5' : l1 ≠ l2 := ne_some_none g9.isS nl2
    clear st8 q8 nlg ndx ne1 g9 nl1 e9 ntw ndx2 ne2 nl2 e10 e7 e8 st6 q6 H9
    obtain ⟨v10, h10, d10⟩ := id st10
    have l10 := Steps.len d10
    refine for_r1 (ILw2 C a p st q lg tw l1 l2 xs ys H10) (xs.length : Int) ?_ ⟨by omega, by omega⟩ ⟨_, _, _, rfl, But.rfl' l1 H10, g10⟩ ?_ ?_
    · intro R hR
      simp only [decide_true, decide_false, List.map_cons, List.map_nil, Option.map_none, Option.map_some, Option.getD_none, Option.getD_some, Px.dg2, Px.dg1, Px.dg, Px.din, Px.dnotin, Px.dnew, Px.dput, Px.isD_is, Px.dget_i, Px.dget_s, Px.dput_i, Px.dput_s, Px.dOf_d, Px.rtup, Px.rlist, Px.rsl, Px.rsort, Px.rcat, Px.rapp, Px.rrev, Px.sl_ap, Px.nop, Px.part, Px.yes, Px.tyl, Px.isL_l, Px.isT_t, Px.isL_t, Px.isT_l, Px.isD_d, Px.isT_d, Px.inV_ints, Px.flat_ints, Px.flatV_i, Px.wipe_cons, Px.wipe_nil, Px.gtup, Px.gcons, Px.gnil, gt_iff_lt, ge_iff_le, Px.we, Px.wonly, Px.was, Px.cxK, not_true_eq_false, and_self, true_implies, false_implies, implies_true, Px.e0, and_assoc, imp_false, not_false_eq_true, ne_eq, Px.rgcd, Px.rixl, Px.rixt, Px.v0, Px.v1, Px.v2, Px.v3, Px.v4, Px.v5, Px.v6, Px.v7, Px.v8, Px.v9, Px.v10, Px.v11, Px.v12, Px.v13, Px.v14, Px.v15, Px.v16, Px.v17, Px.v18, Px.v19, Px.v20, Px.v21, Px.v22, Px.v23, Px.c0, Px.asg, Px.gnm, Px.ret, Px.retN, Px.drop, Px.nxt, Px.brk, Px.cnt, Px.ifs, Px.op, Px.un, Px.tst, Px.tbl, Px.tand, Px.tor, Px.tnot, Px.andv, Px.orv, Px.notv, Px.tif, Px.tup, Px.lst, Px.nil, Px.cons, Px.cal, Px.calS, Px.cb, Px.par, Px.gsub, Px.bits, Px.bm, Px.bm0, Px.ri, Px.ri0, Px.ru, Px.req, Px.rne, Px.rix, Px.rlen, Px.rin, Px.rsetl, Px.risi, Px.tyH_n, Px.tyH_b, Px.tyH_i, Px.tyH_s, Px.tyH_r, Px.seqH_t, Px.seqH_l, Px.seqH_fl, Px.sc_ii, Px.sc_bb, Px.sc_ss, Px.atI0, Px.atI1, Px.atI2, Px.atI3, Px.atI4, Px.atI5, Px.atI6, Px.atI7, Px.kb_NoneType_int, Px.kb_NoneType_bool, Px.kb_NoneType_str, Px.kb_NoneType_list, Px.kb_NoneType_tuple, Px.kb_NoneType_dict, Px.kb_bool_int, Px.kb_bool_bool, Px.kb_bool_str, Px.kb_bool_list, Px.kb_bool_tuple, Px.kb_bool_dict, Px.kb_int_int, Px.kb_int_bool, Px.kb_int_str, Px.kb_int_list, Px.kb_int_tuple, Px.kb_int_dict, Px.kb_str_int, Px.kb_str_bool, Px.kb_str_str, Px.kb_str_list, Px.kb_str_tuple, Px.kb_str_dict, Px.kb_list_int, Px.kb_list_bool, Px.kb_list_str, Px.kb_list_list, Px.kb_list_tuple, Px.kb_list_dict, Px.kb_tuple_int, Px.kb_tuple_bool, Px.kb_tuple_str, Px.kb_tuple_list, Px.kb_tuple_tuple, Px.kb_tuple_dict, Px.kb_dict_int, Px.kb_dict_bool, Px.kb_dict_str, Px.kb_dict_list, Px.kb_dict_tuple, Px.kb_dict_dict, L2.upd_same, Px.updI, L2.ixN, List.set_cons_zero, List.set_cons_succ, List.length_cons, List.length_nil, Nat.reduceAdd, Nat.zero_add, L2.HO.lst.injEq, L2.HO.tup.injEq, L2.upd_upd, L2.V.int.injEq, L2.V.ref.injEq, L2.V.bl.injEq, L2.V.str.injEq, L2.V.ty.injEq, List.cons.injEq, and_true, true_and, and_false, false_and, or_false, false_or, exists_eq_left', exists_eq_left, exists_and_left, exists_const, exists_false, Option.some.injEq, decide_eq_true_eq, List.append_nil, List.cons_append, List.nil_append, Option.isSome_some, Bool.not_true, Bool.not_false, Bool.not_eq_true', Bool.not_eq_true, Bool.false_eq_true, decide_eq_false_iff_not, if_true, if_false, ite_true, ite_false, Int.reduceLE, Int.reduceLT, Int.reduceToNat, Int.cast_ofNat_Int, Bool.true_eq_false, eq_self, ↓reduceIte, reduceCtorEq, Px.aug, Px.ipi, Px.tri, Px.rcatth, Px.flh, Px.sfl, Px.met, Px.mak, *]
    · rintro i σ' H11 hi ⟨k1, m1, t1, rfl, b11, g11⟩
      have li : i < xs.length := by omega
      have h11 := b11.get n1 h10
      have d11 := d10.mono (b11.tu g10.nt.1)
      obtain ⟨y, hy, dy⟩ := Steps.at_ d11 li
      have ay := atI_nat hy
      obtain ⟨b, c, e, rfl, m1', m2, m3⟩ := enc_inv dy
      obtain ⟨dx11, hlg⟩ := met_ok g11
      refine go_seq ?_
      simp only [decide_true, decide_false, List.map_cons, List.map_nil, Option.map_none, Option.map_some, Option.getD_none, Option.getD_some, Px.dg2, Px.dg1, Px.dg, Px.din, Px.dnotin, Px.dnew, Px.dput, Px.isD_is, Px.dget_i, Px.dget_s, Px.dput_i, Px.dput_s, Px.dOf_d, Px.rtup, Px.rlist, Px.rsl, Px.rsort, Px.rcat, Px.rapp, Px.rrev, Px.sl_ap, Px.nop, Px.part, Px.yes, Px.tyl, Px.isL_l, Px.isT_t, Px.isL_t, Px.isT_l, Px.isD_d, Px.isT_d, Px.inV_ints, Px.flat_ints, Px.flatV_i, Px.wipe_cons, Px.wipe_nil, Px.gtup, Px.gcons, Px.gnil, gt_iff_lt, ge_iff_le, Px.we, Px.wonly, Px.was, Px.cxK, not_true_eq_false, and_self, true_implies, false_implies, implies_true, Px.e0, and_assoc, imp_false, not_false_eq_true, ne_eq, Px.rgcd, Px.rixl, Px.rixt, Px.v0, Px.v1, Px.v2, Px.v3, Px.v4, Px.v5, Px.v6, Px.v7, Px.v8, Px.v9, Px.v10, Px.v11, Px.v12, Px.v13, Px.v14, Px.v15, Px.v16, Px.v17, Px.v18, Px.v19, Px.v20, Px.v21, Px.v22, Px.v23, Px.c0, Px.asg, Px.gnm, Px.ret, Px.retN, Px.drop, Px.nxt, Px.brk, Px.cnt, Px.ifs, Px.op, Px.un, Px.tst, Px.tbl, Px.tand, Px.tor, Px.tnot, Px.andv, Px.orv, Px.notv, Px.tif, Px.tup, Px.lst, Px.nil, Px.cons, Px.cal, Px.calS, Px.cb, Px.par, Px.gsub, Px.bits, Px.bm, Px.bm0, Px.ri, Px.ri0, Px.ru, Px.req, Px.rne, Px.rix, Px.rlen, Px.rin, Px.rsetl, Px.risi, Px.tyH_n, Px.tyH_b, Px.tyH_i, Px.tyH_s, Px.tyH_r, Px.seqH_t, Px.seqH_l, Px.seqH_fl, Px.sc_ii, Px.sc_bb, Px.sc_ss, Px.atI0, Px.atI1, Px.atI2, Px.atI3, Px.atI4, Px.atI5, Px.atI6, Px.atI7, Px.kb_NoneType_int, Px.kb_NoneType_bool, Px.kb_NoneType_str, Px.kb_NoneType_list, Px.kb_NoneType_tuple, Px.kb_NoneType_dict, Px.kb_bool_int, Px.kb_bool_bool, Px.kb_bool_str, Px.kb_bool_list, Px.kb_bool_tuple, Px.kb_bool_dict, Px.kb_int_int, Px.kb_int_bool, Px.kb_int_str, Px.kb_int_list, Px.kb_int_tuple, Px.kb_int_dict, Px.kb_str_int, Px.kb_str_bool, Px.kb_str_str, Px.kb_str_list, Px.kb_str_tuple, Px.kb_str_dict, Px.kb_list_int, Px.kb_list_bool, Px.kb_list_str, Px.kb_list_list, Px.kb_list_tuple, Px.kb_list_dict, Px.kb_tuple_int, Px.kb_tuple_bool, Px.kb_tuple_str, Px.kb_tuple_list, Px.kb_tuple_tuple, Px.kb_tuple_dict, Px.kb_dict_int, Px.kb_dict_bool, Px.kb_dict_str, Px.kb_dict_list, Px.kb_dict_tuple, Px.kb_dict_dict, L2.upd_same, Px.updI, L2.ixN, List.set_cons_zero, List.set_cons_succ, List.length_cons, List.length_nil, Nat.reduceAdd, Nat.zero_add, L2.HO.lst.injEq, L2.HO.tup.injEq, L2.upd_upd, L2.V.int.injEq, L2.V.ref.injEq, L2.V.bl.injEq, L2.V.str.injEq, L2.V.ty.injEq, List.cons.injEq, and_true, true_and, and_false, false_and, or_false, false_or, exists_eq_left', exists_eq_left, exists_and_left, exists_const, exists_false, Option.some.injEq, decide_eq_true_eq, List.append_nil, List.cons_append, List.nil_append, Option.isSome_some, Bool.not_true, Bool.not_false, Bool.not_eq_true', Bool.not_eq_true, Bool.false_eq_true, decide_eq_false_iff_not, if_true, if_false, ite_true, ite_false, Int.reduceLE, Int.reduceLT, Int.reduceToNat, Int.cast_ofNat_Int, Bool.true_eq_false, eq_self, ↓reduceIte, reduceCtorEq, Px.aug, Px.ipi, Px.tri, Px.rcatth, Px.flh, Px.sfl, Px.met, Px.mak, *]
      refine ⟨dx11, _, rfl, lk1 (by decide +kernel), ?_⟩
      have lti : (xs.take i).length = i := by rw [List.length_take]; omega
      refine write_ok g11 (by omega) m2 m3 fun H12 g12 b12 => ?_
      rw [lti]
      refine ⟨_, rfl, true, rfl, ?_⟩
      rw [if_neg (by decide)]
      refine ⟨rfl, ?_⟩
      rw [if_neg (fun h => h rfl)]
      have tk := take_succ (at_get li)
      rw [← tk] at g12
      have lt2 : (xs.take (i + 1)).length = i + 1 := by rw [List.length_take]; omega
      refine lenO_ok g12 (by omega) ?_
      rw [lt2]
      refine ⟨rfl, ?_⟩
      rw [if_neg (fun h => h (by rw [Int.natCast_add]; rfl))]
      exact ⟨_, _, _, rfl, b11.trans b12, g12⟩
    · rintro σ' H11 ⟨k1, m1, t1, rfl, b11, g11⟩
      rw [Int.toNat_natCast, List.take_length] at g11
      have st11 := st10.but1 n1 g10.nt.1 b11
      have q11 := q10.but1 n2 g10.nt.1 b11
      have t11 := t10.but b11 n5'.symm g10.nt.1 g10.nt.2
      clear b11 st10 q10 t10 h10 d10 g10
      simp only [decide_true, decide_false, List.map_cons, List.map_nil, Option.map_none, Option.map_some, Option.getD_none, Option.getD_some, Px.dg2, Px.dg1, Px.dg, Px.din, Px.dnotin, Px.dnew, Px.dput, Px.isD_is, Px.dget_i, Px.dget_s, Px.dput_i, Px.dput_s, Px.dOf_d, Px.rtup, Px.rlist, Px.rsl, Px.rsort, Px.rcat, Px.rapp, Px.rrev, Px.sl_ap, Px.nop, Px.part, Px.yes, Px.tyl, Px.isL_l, Px.isT_t, Px.isL_t, Px.isT_l, Px.isD_d, Px.isT_d, Px.inV_ints, Px.flat_ints, Px.flatV_i, Px.wipe_cons, Px.wipe_nil, Px.gtup, Px.gcons, Px.gnil, gt_iff_lt, ge_iff_le, Px.we, Px.wonly, Px.was, Px.cxK, not_true_eq_false, and_self, true_implies, false_implies, implies_true, Px.e0, and_assoc, imp_false, not_false_eq_true, ne_eq, Px.rgcd, Px.rixl, Px.rixt, Px.v0, Px.v1, Px.v2, Px.v3, Px.v4, Px.v5, Px.v6, Px.v7, Px.v8, Px.v9, Px.v10, Px.v11, Px.v12, Px.v13, Px.v14, Px.v15, Px.v16, Px.v17, Px.v18, Px.v19, Px.v20, Px.v21, Px.v22, Px.v23, Px.c0, Px.asg, Px.gnm, Px.ret, Px.retN, Px.drop, Px.nxt, Px.brk, Px.cnt, Px.ifs, Px.op, Px.un, Px.tst, Px.tbl, Px.tand, Px.tor, Px.tnot, Px.andv, Px.orv, Px.notv, Px.tif, Px.tup, Px.lst, Px.nil, Px.cons, Px.cal, Px.calS, Px.cb, Px.par, Px.gsub, Px.bits, Px.bm, Px.bm0, Px.ri, Px.ri0, Px.ru, Px.req, Px.rne, Px.rix, Px.rlen, Px.rin, Px.rsetl, Px.risi, Px.tyH_n, Px.tyH_b, Px.tyH_i, Px.tyH_s, Px.tyH_r, Px.seqH_t, Px.seqH_l, Px.seqH_fl, Px.sc_ii, Px.sc_bb, Px.sc_ss, Px.atI0, Px.atI1, Px.atI2, Px.atI3, Px.atI4, Px.atI5, Px.atI6, Px.atI7, Px.kb_NoneType_int, Px.kb_NoneType_bool, Px.kb_NoneType_str, Px.kb_NoneType_list, Px.kb_NoneType_tuple, Px.kb_NoneType_dict, Px.kb_bool_int, Px.kb_bool_bool, Px.kb_bool_str, Px.kb_bool_list, Px.kb_bool_tuple, Px.kb_bool_dict, Px.kb_int_int, Px.kb_int_bool, Px.kb_int_str, Px.kb_int_list, Px.kb_int_tuple, Px.kb_int_dict, Px.kb_str_int, Px.kb_str_bool, Px.kb_str_str, Px.kb_str_list, Px.kb_str_tuple, Px.kb_str_dict, Px.kb_list_int, Px.kb_list_bool, Px.kb_list_str, Px.kb_list_list, Px.kb_list_tuple, Px.kb_list_dict, Px.kb_tuple_int, Px.kb_tuple_bool, Px.kb_tuple_str, Px.kb_tuple_list, Px.kb_tuple_tuple, Px.kb_tuple_dict, Px.kb_dict_int, Px.kb_dict_bool, Px.kb_dict_str, Px.kb_dict_list, Px.kb_dict_tuple, Px.kb_dict_dict, L2.upd_same, Px.updI, L2.ixN, List.set_cons_zero, List.set_cons_succ, List.length_cons, List.length_nil, Nat.reduceAdd, Nat.zero_add, L2.HO.lst.injEq, L2.HO.tup.injEq, L2.upd_upd, L2.V.int.injEq, L2.V.ref.injEq, L2.V.bl.injEq, L2.V.str.injEq, L2.V.ty.injEq, List.cons.injEq, and_true, true_and, and_false, false_and, or_false, false_or, exists_eq_left', exists_eq_left, exists_and_left, exists_const, exists_false, Option.some.injEq, decide_eq_true_eq, List.append_nil, List.cons_append, List.nil_append, Option.isSome_some, Bool.not_true, Bool.not_false, Bool.not_eq_true', Bool.not_eq_true, Bool.false_eq_true, decide_eq_false_iff_not, if_true, if_false, ite_true, ite_false, Int.reduceLE, Int.reduceLT, Int.reduceToNat, Int.cast_ofNat_Int, Bool.true_eq_false, eq_self, ↓reduceIte, reduceCtorEq, Px.aug, Px.ipi, Px.tri, Px.rcatth, Px.flh, Px.sfl, Px.met, Px.mak]
      refine go_seq ?_
      simp only [decide_true, decide_false, List.map_cons, List.map_nil, Option.map_none, Option.map_some, Option.getD_none, Option.getD_some, Px.dg2, Px.dg1, Px.dg, Px.din, Px.dnotin, Px.dnew, Px.dput, Px.isD_is, Px.dget_i, Px.dget_s, Px.dput_i, Px.dput_s, Px.dOf_d, Px.rtup, Px.rlist, Px.rsl, Px.rsort, Px.rcat, Px.rapp, Px.rrev, Px.sl_ap, Px.nop, Px.part, Px.yes, Px.tyl, Px.isL_l, Px.isT_t, Px.isL_t, Px.isT_l, Px.isD_d, Px.isT_d, Px.inV_ints, Px.flat_ints, Px.flatV_i, Px.wipe_cons, Px.wipe_nil, Px.gtup, Px.gcons, Px.gnil, gt_iff_lt, ge_iff_le, Px.we, Px.wonly, Px.was, Px.cxK, not_true_eq_false, and_self, true_implies, false_implies, implies_true, Px.e0, and_assoc, imp_false, not_false_eq_true, ne_eq, Px.rgcd, Px.rixl, Px.rixt, Px.v0, Px.v1, Px.v2, Px.v3, Px.v4, Px.v5, Px.v6, Px.v7, Px.v8, Px.v9, Px.v10, Px.v11, Px.v12, Px.v13, Px.v14, Px.v15, Px.v16, Px.v17, Px.v18, Px.v19, Px.v20, Px.v21, Px.v22, Px.v23, Px.c0, Px.asg, Px.gnm, Px.ret, Px.retN, Px.drop, Px.nxt, Px.brk, Px.cnt, Px.ifs, Px.op, Px.un, Px.tst, Px.tbl, Px.tand, Px.tor, Px.tnot, Px.andv, Px.orv, Px.notv, Px.tif, Px.tup, Px.lst, Px.nil, Px.cons, Px.cal, Px.calS, Px.cb, Px.par, Px.gsub, Px.bits, Px.bm, Px.bm0, Px.ri, Px.ri0, Px.ru, Px.req, Px.rne, Px.rix, Px.rlen, Px.rin, Px.rsetl, Px.risi, Px.tyH_n, Px.tyH_b, Px.tyH_i, Px.tyH_s, Px.tyH_r, Px.seqH_t, Px.seqH_l, Px.seqH_fl, Px.sc_ii, Px.sc_bb, Px.sc_ss, Px.atI0, Px.atI1, Px.atI2, Px.atI3, Px.atI4, Px.atI5, Px.atI6, Px.atI7, Px.kb_NoneType_int, Px.kb_NoneType_bool, Px.kb_NoneType_str, Px.kb_NoneType_list, Px.kb_NoneType_tuple, Px.kb_NoneType_dict, Px.kb_bool_int, Px.kb_bool_bool, Px.kb_bool_str, Px.kb_bool_list, Px.kb_bool_tuple, Px.kb_bool_dict, Px.kb_int_int, Px.kb_int_bool, Px.kb_int_str, Px.kb_int_list, Px.kb_int_tuple, Px.kb_int_dict, Px.kb_str_int, Px.kb_str_bool, Px.kb_str_str, Px.kb_str_list, Px.kb_str_tuple, Px.kb_str_dict, Px.kb_list_int, Px.kb_list_bool, Px.kb_list_str, Px.kb_list_list, Px.kb_list_tuple, Px.kb_list_dict, Px.kb_tuple_int, Px.kb_tuple_bool, Px.kb_tuple_str, Px.kb_tuple_list, Px.kb_tuple_tuple, Px.kb_tuple_dict, Px.kb_dict_int, Px.kb_dict_bool, Px.kb_dict_str, Px.kb_dict_list, Px.kb_dict_tuple, Px.kb_dict_dict, L2.upd_same, Px.updI, L2.ixN, List.set_cons_zero, List.set_cons_succ, List.length_cons, List.length_nil, Nat.reduceAdd, Nat.zero_add, L2.HO.lst.injEq, L2.HO.tup.injEq, L2.upd_upd, L2.V.int.injEq, L2.V.ref.injEq, L2.V.bl.injEq, L2.V.str.injEq, L2.V.ty.injEq, List.cons.injEq, and_true, true_and, and_false, false_and, or_false, false_or, exists_eq_left', exists_eq_left, exists_and_left, exists_const, exists_false, Option.some.injEq, decide_eq_true_eq, List.append_nil, List.cons_append, List.nil_append, Option.isSome_some, Bool.not_true, Bool.not_false, Bool.not_eq_true', Bool.not_eq_true, Bool.false_eq_true, decide_eq_false_iff_not, if_true, if_false, ite_true, ite_false, Int.reduceLE, Int.reduceLT, Int.reduceToNat, Int.cast_ofNat_Int, Bool.true_eq_false, eq_self, ↓reduceIte, reduceCtorEq, Px.aug, Px.ipi, Px.tri, Px.rcatth, Px.flh, Px.sfl, Px.met, Px.mak, *, spKeeps]
      refine ⟨l1, xs, g11, st11, wf, fun H12 e12 => ?_⟩
      refine ⟨by decide, fun z nz => ?_⟩
      have y12 : Px.Ext H12 (upd H12 z (.lst [])) := (Px.Ext.rfl' H12).new nz
      have z12 : Steps (upd H12 z (.lst [])) z [] := ⟨[], upd_same, .nil⟩
      generalize upd H12 z (.lst []) = H13 at *
      have wfn : Wf [] := ⟨Nat.zero_le _, fun i x h => by simp at h⟩
      refine ⟨l2, [], t11.ext (e12.trans y12), z12, wfn, fun H14 e14 => ?_⟩
      have e114 := (e12.trans y12).trans e14
      have st14 := st11.mono e114
      have q14 := q11.mono e114
      have t14 := t11.ext e114
      have g14 := g11.ext e114
      clear st11 q11 t11 g11 z12 e14 e12 y12 nz e114
      refine go_seq ?_
      simp only [decide_true, decide_false, List.map_cons, List.map_nil, Option.map_none, Option.map_some, Option.getD_none, Option.getD_some, Px.dg2, Px.dg1, Px.dg, Px.din, Px.dnotin, Px.dnew, Px.dput, Px.isD_is, Px.dget_i, Px.dget_s, Px.dput_i, Px.dput_s, Px.dOf_d, Px.rtup, Px.rlist, Px.rsl, Px.rsort, Px.rcat, Px.rapp, Px.rrev, Px.sl_ap, Px.nop, Px.part, Px.yes, Px.tyl, Px.isL_l, Px.isT_t, Px.isL_t, Px.isT_l, Px.isD_d, Px.isT_d, Px.inV_ints, Px.flat_ints, Px.flatV_i, Px.wipe_cons, Px.wipe_nil, Px.gtup, Px.gcons, Px.gnil, gt_iff_lt, ge_iff_le, Px.we, Px.wonly, Px.was, Px.cxK, not_true_eq_false, and_self, true_implies, false_implies, implies_true, Px.e0, and_assoc, imp_false, not_false_eq_true, ne_eq, Px.rgcd, Px.rixl, Px.rixt, Px.v0, Px.v1, Px.v2, Px.v3, Px.v4, Px.v5, Px.v6, Px.v7, Px.v8, Px.v9, Px.v10, Px.v11, Px.v12, Px.v13, Px.v14, Px.v15, Px.v16, Px.v17, Px.v18, Px.v19, Px.v20, Px.v21, Px.v22, Px.v23, Px.c0, Px.asg, Px.gnm, Px.ret, Px.retN, Px.drop, Px.nxt, Px.brk, Px.cnt, Px.ifs, Px.op, Px.un, Px.tst, Px.tbl, Px.tand, Px.tor, Px.tnot, Px.andv, Px.orv, Px.notv, Px.tif, Px.tup, Px.lst, Px.nil, Px.cons, Px.cal, Px.calS, Px.cb, Px.par, Px.gsub, Px.bits, Px.bm, Px.bm0, Px.ri, Px.ri0, Px.ru, Px.req, Px.rne, Px.rix, Px.rlen, Px.rin, Px.rsetl, Px.risi, Px.tyH_n, Px.tyH_b, Px.tyH_i, Px.tyH_s, Px.tyH_r, Px.seqH_t, Px.seqH_l, Px.seqH_fl, Px.sc_ii, Px.sc_bb, Px.sc_ss, Px.atI0, Px.atI1, Px.atI2, Px.atI3, Px.atI4, Px.atI5, Px.atI6, Px.atI7, Px.kb_NoneType_int, Px.kb_NoneType_bool, Px.kb_NoneType_str, Px.kb_NoneType_list, Px.kb_NoneType_tuple, Px.kb_NoneType_dict, Px.kb_bool_int, Px.kb_bool_bool, Px.kb_bool_str, Px.kb_bool_list, Px.kb_bool_tuple, Px.kb_bool_dict, Px.kb_int_int, Px.kb_int_bool, Px.kb_int_str, Px.kb_int_list, Px.kb_int_tuple, Px.kb_int_dict, Px.kb_str_int, Px.kb_str_bool, Px.kb_str_str, Px.kb_str_list, Px.kb_str_tuple, Px.kb_str_dict, Px.kb_list_int, Px.kb_list_bool, Px.kb_list_str, Px.kb_list_list, Px.kb_list_tuple, Px.kb_list_dict, Px.kb_tuple_int, Px.kb_tuple_bool, Px.kb_tuple_str, Px.kb_tuple_list, Px.kb_tuple_tuple, Px.kb_tuple_dict, Px.kb_dict_int, Px.kb_dict_bool, Px.kb_dict_str, Px.kb_dict_list, Px.kb_dict_tuple, Px.kb_dict_dict, L2.upd_same, Px.updI, L2.ixN, List.set_cons_zero, List.set_cons_succ, List.length_cons, List.length_nil, Nat.reduceAdd, Nat.zero_add, L2.HO.lst.injEq, L2.HO.tup.injEq, L2.upd_upd, L2.V.int.injEq, L2.V.ref.injEq, L2.V.bl.injEq, L2.V.str.injEq, L2.V.ty.injEq, List.cons.injEq, and_true, true_and, and_false, false_and, or_false, false_or, exists_eq_left', exists_eq_left, exists_and_left, exists_const, exists_false, Option.some.injEq, decide_eq_true_eq, List.append_nil, List.cons_append, List.nil_append, Option.isSome_some, Bool.not_true, Bool.not_false, Bool.not_eq_true', Bool.not_eq_true, Bool.false_eq_true, decide_eq_false_iff_not, if_true, if_false, ite_true, ite_false, Int.reduceLE, Int.reduceLT, Int.reduceToNat, Int.cast_ofNat_Int, Bool.true_eq_false, eq_self, ↓reduceIte, reduceCtorEq, Px.aug, Px.ipi, Px.tri, Px.rcatth, Px.flh, Px.sfl, Px.met, Px.mak, *, spDue]
      refine ⟨ys, q14, wfs, fun d H15 nd dS e15 => ?_⟩
      have n6 : d ≠ l1 := (ne_some_none g14.isS nd).symm
      have n7 : d ≠ l2 := (ne_some_none t14.isS nd).symm
      have st15 := st14.mono e15
      have t15 := t14.ext e15
      have g15 := g14.ext e15
      have wfd := due_wf wfs
      have ld : (due ys).length ≤ 15 := by rw [due_len]; have := rank_self ys ys.length; omega
      generalize due ys = ds at *
      clear st14 q14 t14 g14 nd e15
      refine go_seq ?_
      simp only [decide_true, decide_false, List.map_cons, List.map_nil, Option.map_none, Option.map_some, Option.getD_none, Option.getD_some, Px.dg2, Px.dg1, Px.dg, Px.din, Px.dnotin, Px.dnew, Px.dput, Px.isD_is, Px.dget_i, Px.dget_s, Px.dput_i, Px.dput_s, Px.dOf_d, Px.rtup, Px.rlist, Px.rsl, Px.rsort, Px.rcat, Px.rapp, Px.rrev, Px.sl_ap, Px.nop, Px.part, Px.yes, Px.tyl, Px.isL_l, Px.isT_t, Px.isL_t, Px.isT_l, Px.isD_d, Px.isT_d, Px.inV_ints, Px.flat_ints, Px.flatV_i, Px.wipe_cons, Px.wipe_nil, Px.gtup, Px.gcons, Px.gnil, gt_iff_lt, ge_iff_le, Px.we, Px.wonly, Px.was, Px.cxK, not_true_eq_false, and_self, true_implies, false_implies, implies_true, Px.e0, and_assoc, imp_false, not_false_eq_true, ne_eq, Px.rgcd, Px.rixl, Px.rixt, Px.v0, Px.v1, Px.v2, Px.v3, Px.v4, Px.v5, Px.v6, Px.v7, Px.v8, Px.v9, Px.v10, Px.v11, Px.v12, Px.v13, Px.v14, Px.v15, Px.v16, Px.v17, Px.v18, Px.v19, Px.v20, Px.v21, Px.v22, Px.v23, Px.c0, Px.asg, Px.gnm, Px.ret, Px.retN, Px.drop, Px.nxt, Px.brk, Px.cnt, Px.ifs, Px.op, Px.un, Px.tst, Px.tbl, Px.tand, Px.tor, Px.tnot, Px.andv, Px.orv, Px.notv, Px.tif, Px.tup, Px.lst, Px.nil, Px.cons, Px.cal, Px.calS, Px.cb, Px.par, Px.gsub, Px.bits, Px.bm, Px.bm0, Px.ri, Px.ri0, Px.ru, Px.req, Px.rne, Px.rix, Px.rlen, Px.rin, Px.rsetl, Px.risi, Px.tyH_n, Px.tyH_b, Px.tyH_i, Px.tyH_s, Px.tyH_r, Px.seqH_t, Px.seqH_l, Px.seqH_fl, Px.sc_ii, Px.sc_bb, Px.sc_ss, Px.atI0, Px.atI1, Px.atI2, Px.atI3, Px.atI4, Px.atI5, Px.atI6, Px.atI7, Px.kb_NoneType_int, Px.kb_NoneType_bool, Px.kb_NoneType_str, Px.kb_NoneType_list, Px.kb_NoneType_tuple, Px.kb_NoneType_dict, Px.kb_bool_int, Px.kb_bool_bool, Px.kb_bool_str, Px.kb_bool_list, Px.kb_bool_tuple, Px.kb_bool_dict, Px.kb_int_int, Px.kb_int_bool, Px.kb_int_str, Px.kb_int_list, Px.kb_int_tuple, Px.kb_int_dict, Px.kb_str_int, Px.kb_str_bool, Px.kb_str_str, Px.kb_str_list, Px.kb_str_tuple, Px.kb_str_dict, Px.kb_list_int, Px.kb_list_bool, Px.kb_list_str, Px.kb_list_list, Px.kb_list_tuple, Px.kb_list_dict, Px.kb_tuple_int, Px.kb_tuple_bool, Px.kb_tuple_str, Px.kb_tuple_list, Px.kb_tuple_tuple, Px.kb_tuple_dict, Px.kb_dict_int, Px.kb_dict_bool, Px.kb_dict_str, Px.kb_dict_list, Px.kb_dict_tuple, Px.kb_dict_dict, L2.upd_same, Px.updI, L2.ixN, List.set_cons_zero, List.set_cons_succ, List.length_cons, List.length_nil, Nat.reduceAdd, Nat.zero_add, L2.HO.lst.injEq, L2.HO.tup.injEq, L2.upd_upd, L2.V.int.injEq, L2.V.ref.injEq, L2.V.bl.injEq, L2.V.str.injEq, L2.V.ty.injEq, List.cons.injEq, and_true, true_and, and_false, false_and, or_false, false_or, exists_eq_left', exists_eq_left, exists_and_left, exists_const, exists_false, Option.some.injEq, decide_eq_true_eq, List.append_nil, List.cons_append, List.nil_append, Option.isSome_some, Bool.not_true, Bool.not_false, Bool.not_eq_true', Bool.not_eq_true, Bool.false_eq_true, decide_eq_false_iff_not, if_true, if_false, ite_true, ite_false, Int.reduceLE, Int.reduceLT, Int.reduceToNat, Int.cast_ofNat_Int, Bool.true_eq_false, eq_self, ↓reduceIte, reduceCtorEq, Px.aug, Px.ipi, Px.tri, Px.rcatth, Px.flh, Px.sfl, Px.met, Px.mak, *, spTakes]
      refine ⟨by decide, fun z nz => ?_⟩
      have y15 : Px.Ext H15 (upd H15 z (.lst [])) := (Px.Ext.rfl' H15).new nz
      have z16 : Steps (upd H15 z (.lst [])) z [] := ⟨[], upd_same, .nil⟩
      generalize upd H15 z (.lst []) = H16 at *
      have n8 : l2 ≠ z := ne_some_none t15.isS nz
      have st16 := st15.mono y15
      have t16 := t15.ext y15
      have g16 := g15.ext y15
      have d16 := dS.mono y15
      clear st15 t15 g15 dS y15 nz
      refine ⟨l2, [], t16, z16, ds, d16, n8, n7.symm, wfn, wfd, by show 0 + ds.length ≤ 40; omega, fun H17 t17 b17 => ?_⟩
      rw [List.nil_append, show ([] : List St).length = 0 from rfl, shift0] at t17
      have st17 := st16.but1 n3 t16.nt.1 b17
      have d17 := d16.but1 n7 t16.nt.1 b17
      have g17 := g16.but b17 n5' t16.nt.1 t16.nt.2
      clear st16 t16 g16 d16 z16 b17
      refine ⟨l1, xs, g17, st17, ds, d17, n1.symm, n6.symm, wf, wfd, by omega, fun H18 g18 b18 => ?_⟩
      have st18 := st17.but1 n1 g17.nt.1 b18
      have d18 := d17.but1 n6 g17.nt.1 b18
      have t18 := t17.but b18 n5'.symm g17.nt.1 g17.nt.2
      clear st17 t17 g17 d17 b18
      refine ⟨l2, ds, t18, d18, xs, st18, n7.symm, n3.symm, wfd, wf, by omega, fun H19 t19 b19 => ?_⟩
      have st19 := st18.but1 n3 t18.nt.1 b19
      have d19 := d18.but1 n7 t18.nt.1 b19
      clear st18 t18 g18 d18 b19 t19
      obtain ⟨vs19, hs19, ds19⟩ := id st19
      obtain ⟨vd19, hd19, dd19⟩ := id d19
      have ls19 := Steps.len ds19
      have ld19 := Steps.len dd19
      refine lc_seq (xs := vd19) (fun _ => true) (fun i => enc (shift xs.length (at_ ds i))) (fun Q q => ⟨_, rfl, q⟩) (by rw [hd19]; rfl) (by omega) (fun i x hi => ?_) (fun D zs H2 hD e2 hz hall => ?_)
      · have li : i < ds.length := by have := (List.getElem?_eq_some_iff.mp hi).1; omega
        obtain ⟨v, hv, dv⟩ := Steps.at_ dd19 li
        rw [hi] at hv
        cases hv
        intro H2 R2 E2 e2 _ k2
        have hs2 := e2.get hs19
        simp only [decide_true, decide_false, List.map_cons, List.map_nil, Option.map_none, Option.map_some, Option.getD_none, Option.getD_some, Px.dg2, Px.dg1, Px.dg, Px.din, Px.dnotin, Px.dnew, Px.dput, Px.isD_is, Px.dget_i, Px.dget_s, Px.dput_i, Px.dput_s, Px.dOf_d, Px.rtup, Px.rlist, Px.rsl, Px.rsort, Px.rcat, Px.rapp, Px.rrev, Px.sl_ap, Px.nop, Px.part, Px.yes, Px.tyl, Px.isL_l, Px.isT_t, Px.isL_t, Px.isT_l, Px.isD_d, Px.isT_d, Px.inV_ints, Px.flat_ints, Px.flatV_i, Px.wipe_cons, Px.wipe_nil, Px.gtup, Px.gcons, Px.gnil, gt_iff_lt, ge_iff_le, Px.we, Px.wonly, Px.was, Px.cxK, not_true_eq_false, and_self, true_implies, false_implies, implies_true, Px.e0, and_assoc, imp_false, not_false_eq_true, ne_eq, Px.rgcd, Px.rixl, Px.rixt, Px.v0, Px.v1, Px.v2, Px.v3, Px.v4, Px.v5, Px.v6, Px.v7, Px.v8, Px.v9, Px.v10, Px.v11, Px.v12, Px.v13, Px.v14, Px.v15, Px.v16, Px.v17, Px.v18, Px.v19, Px.v20, Px.v21, Px.v22, Px.v23, Px.c0, Px.asg, Px.gnm, Px.ret, Px.retN, Px.drop, Px.nxt, Px.brk, Px.cnt, Px.ifs, Px.op, Px.un, Px.tst, Px.tbl, Px.tand, Px.tor, Px.tnot, Px.andv, Px.orv, Px.notv, Px.tif, Px.tup, Px.lst, Px.nil, Px.cons, Px.cal, Px.calS, Px.cb, Px.par, Px.gsub, Px.bits, Px.bm, Px.bm0, Px.ri, Px.ri0, Px.ru, Px.req, Px.rne, Px.rix, Px.rlen, Px.rin, Px.rsetl, Px.risi, Px.tyH_n, Px.tyH_b, Px.tyH_i, Px.tyH_s, Px.tyH_r, Px.seqH_t, Px.seqH_l, Px.seqH_fl, Px.sc_ii, Px.sc_bb, Px.sc_ss, Px.atI0, Px.atI1, Px.atI2, Px.atI3, Px.atI4, Px.atI5, Px.atI6, Px.atI7, Px.kb_NoneType_int, Px.kb_NoneType_bool, Px.kb_NoneType_str, Px.kb_NoneType_list, Px.kb_NoneType_tuple, Px.kb_NoneType_dict, Px.kb_bool_int, Px.kb_bool_bool, Px.kb_bool_str, Px.kb_bool_list, Px.kb_bool_tuple, Px.kb_bool_dict, Px.kb_int_int, Px.kb_int_bool, Px.kb_int_str, Px.kb_int_list, Px.kb_int_tuple, Px.kb_int_dict, Px.kb_str_int, Px.kb_str_bool, Px.kb_str_str, Px.kb_str_list, Px.kb_str_tuple, Px.kb_str_dict, Px.kb_list_int, Px.kb_list_bool, Px.kb_list_str, Px.kb_list_list, Px.kb_list_tuple, Px.kb_list_dict, Px.kb_tuple_int, Px.kb_tuple_bool, Px.kb_tuple_str, Px.kb_tuple_list, Px.kb_tuple_tuple, Px.kb_tuple_dict, Px.kb_dict_int, Px.kb_dict_bool, Px.kb_dict_str, Px.kb_dict_list, Px.kb_dict_tuple, Px.kb_dict_dict, L2.upd_same, Px.updI, L2.ixN, List.set_cons_zero, List.set_cons_succ, List.length_cons, List.length_nil, Nat.reduceAdd, Nat.zero_add, L2.HO.lst.injEq, L2.HO.tup.injEq, L2.upd_upd, L2.V.int.injEq, L2.V.ref.injEq, L2.V.bl.injEq, L2.V.str.injEq, L2.V.ty.injEq, List.cons.injEq, and_true, true_and, and_false, false_and, or_false, false_or, exists_eq_left', exists_eq_left, exists_and_left, exists_const, exists_false, Option.some.injEq, decide_eq_true_eq, List.append_nil, List.cons_append, List.nil_append, Option.isSome_some, Bool.not_true, Bool.not_false, Bool.not_eq_true', Bool.not_eq_true, Bool.false_eq_true, decide_eq_false_iff_not, if_true, if_false, ite_true, ite_false, Int.reduceLE, Int.reduceLT, Int.reduceToNat, Int.cast_ofNat_Int, Bool.true_eq_false, eq_self, ↓reduceIte, reduceCtorEq, Px.aug, Px.ipi, Px.tri, Px.rcatth, Px.flh, Px.sfl, Px.met, Px.mak, *, spMovedL]
        exact ⟨xs.length, rfl, i, at_ ds i, dv.mono e2.tu, wfd.2 _ _ (at_get li), fun v' H' dv' e4 => k2 rfl _ _ e4 dv'⟩
      · rw [ld19, given_all] at hall
        have em : (List.range ds.length).map (fun i => enc (shift xs.length (at_ ds i))) = (ds.map (shift xs.length)).map enc := by
          refine List.ext_getElem (by simp) fun i h1 h2 => ?_
          simp only [List.getElem_map, List.getElem_range]
          have li : i < ds.length := by simpa using h1
          have := at_get li
          rw [List.getElem?_eq_getElem li] at this
          rw [Option.some.inj this]
        rw [em] at hall
        refine ⟨D, rfl, vs19, e2.get hs19, zs, hz, ?_, fun r3 nr3 => ?_⟩
        · have := hall.len
          rw [List.length_map, List.length_map] at this
          exact Nat.le_trans (show vs19.length + zs.length ≤ 100 by omega) (by decide)
        · have y9 : Px.Ext H2 (upd H2 r3 (.lst (vs19 ++ zs))) := (Px.Ext.rfl' H2).new nr3
          refine ⟨r3, xs ++ ds.map (shift xs.length), rfl, ⟨_, upd_same, ?_⟩, app_wf wf wfd (by omega), fun H10 e10 => k H10⟩
          rw [List.map_append]
          exact ((ds19.mono (e2.trans y9).tu)).app (hall.mono y9.tu)
end
end K03

set_option exponentiation.threshold 3000
namespace K03
open PySem PySem.Spec PyProof.Rows L2 Px
/-! ### what the top has written -/
theorem all_mk {l : PySem.W.OpenLaw} {w : World} {K : PySem.W.Frag} {h : Heap} {mg : Str → Option Value} {fa : Addr} (X : K.In h) (G : h.Ns mainGlobals mg) (hfa : mg "law" = some (.ref fa))
    {C_Log : Addr} {f_used_numbers : Addr} {od_used_numbers an_used_numbers : Option Addr} {sl_used_numbers : Array (Option Value)} {oc_used_numbers kV_used_numbers dc_used_numbers pm_used_numbers cd_used_numbers ct_used_numbers : Value} {f_kept_marks : Addr} {od_kept_marks an_kept_marks : Option Addr} {sl_kept_marks : Array (Option Value)} {oc_kept_marks kV_kept_marks dc_kept_marks pm_kept_marks cd_kept_marks ct_kept_marks : Value} {f_renumbered : Addr} {od_renumbered an_renumbered : Option Addr} {sl_renumbered : Array (Option Value)} {oc_renumbered kV_renumbered dc_renumbered pm_renumbered cd_renumbered ct_renumbered : Value} {f_trim : Addr} {od_trim an_trim : Option Addr} {sl_trim : Array (Option Value)} {oc_trim kV_trim dc_trim pm_trim cd_trim ct_trim : Value} {f_moved_details : Addr} {od_moved_details an_moved_details : Option Addr} {sl_moved_details : Array (Option Value)} {oc_moved_details kV_moved_details dc_moved_details pm_moved_details cd_moved_details ct_moved_details : Value} {f_law_pool : Addr} {od_law_pool an_law_pool : Option Addr} {sl_law_pool : Array (Option Value)} {oc_law_pool kV_law_pool dc_law_pool pm_law_pool cd_law_pool ct_law_pool : Value} {f_law_take : Addr} {od_law_take an_law_take : Option Addr} {sl_law_take : Array (Option Value)} {oc_law_take kV_law_take dc_law_take pm_law_take cd_law_take ct_law_take : Value} {f_law_whole : Addr} {od_law_whole an_law_whole : Option Addr} {sl_law_whole : Array (Option Value)} {oc_law_whole kV_law_whole dc_law_whole pm_law_whole cd_law_whole ct_law_whole : Value} {f_law_alike : Addr} {od_law_alike an_law_alike : Option Addr} {sl_law_alike : Array (Option Value)} {oc_law_alike kV_law_alike dc_law_alike pm_law_alike cd_law_alike ct_law_alike : Value} {f_law_alike_lists : Addr} {od_law_alike_lists an_law_alike_lists : Option Addr} {sl_law_alike_lists : Array (Option Value)} {oc_law_alike_lists kV_law_alike_lists dc_law_alike_lists pm_law_alike_lists cd_law_alike_lists ct_law_alike_lists : Value} {f_law_literal : Addr} {od_law_literal an_law_literal : Option Addr} {sl_law_literal : Array (Option Value)} {oc_law_literal kV_law_literal dc_law_literal pm_law_literal cd_law_literal ct_law_literal : Value} {f_law_literals : Addr} {od_law_literals an_law_literals : Option Addr} {sl_law_literals : Array (Option Value)} {oc_law_literals kV_law_literals dc_law_literals pm_law_literals cd_law_literals ct_law_literals : Value} {f_law_step : Addr} {od_law_step an_law_step : Option Addr} {sl_law_step : Array (Option Value)} {oc_law_step kV_law_step dc_law_step pm_law_step cd_law_step ct_law_step : Value} {f_law_due : Addr} {od_law_due an_law_due : Option Addr} {sl_law_due : Array (Option Value)} {oc_law_due kV_law_due dc_law_due pm_law_due cd_law_due ct_law_due : Value} {f_law_moved : Addr} {od_law_moved an_law_moved : Option Addr} {sl_law_moved : Array (Option Value)} {oc_law_moved kV_law_moved dc_law_moved pm_law_moved cd_law_moved ct_law_moved : Value} {f_law_trims : Addr} {od_law_trims an_law_trims : Option Addr} {sl_law_trims : Array (Option Value)} {oc_law_trims kV_law_trims dc_law_trims pm_law_trims cd_law_trims ct_law_trims : Value} {f_law_keeps : Addr} {od_law_keeps an_law_keeps : Option Addr} {sl_law_keeps : Array (Option Value)} {oc_law_keeps kV_law_keeps dc_law_keeps pm_law_keeps cd_law_keeps ct_law_keeps : Value} {f_law_takes : Addr} {od_law_takes an_law_takes : Option Addr} {sl_law_takes : Array (Option Value)} {oc_law_takes kV_law_takes dc_law_takes pm_law_takes cd_law_takes ct_law_takes : Value} {f_law : Addr} {od_law an_law : Option Addr} {sl_law : Array (Option Value)} {oc_law kV_law dc_law pm_law cd_law ct_law : Value} {f_Log___init__ : Addr} {od_Log___init__ an_Log___init__ : Option Addr} {sl_Log___init__ : Array (Option Value)} {oc_Log___init__ kV_Log___init__ dc_Log___init__ pm_Log___init__ cd_Log___init__ ct_Log___init__ : Value} {f_Log___len__ : Addr} {od_Log___len__ an_Log___len__ : Option Addr} {sl_Log___len__ : Array (Option Value)} {oc_Log___len__ kV_Log___len__ dc_Log___len__ pm_Log___len__ cd_Log___len__ ct_Log___len__ : Value} {f_Log___iter__ : Addr} {od_Log___iter__ an_Log___iter__ : Option Addr} {sl_Log___iter__ : Array (Option Value)} {oc_Log___iter__ kV_Log___iter__ dc_Log___iter__ pm_Log___iter__ cd_Log___iter__ ct_Log___iter__ : Value} {f_Log_write : Addr} {od_Log_write an_Log_write : Option Addr} {sl_Log_write : Array (Option Value)} {oc_Log_write kV_Log_write dc_Log_write pm_Log_write cd_Log_write ct_Log_write : Value} {f_Log_take : Addr} {od_Log_take an_Log_take : Option Addr} {sl_Log_take : Array (Option Value)} {oc_Log_take kV_Log_take dc_Log_take pm_Log_take cd_Log_take ct_Log_take : Value} {f_Log_step : Addr} {od_Log_step an_Log_step : Option Addr} {sl_Log_step : Array (Option Value)} {oc_Log_step kV_Log_step dc_Log_step pm_Log_step cd_Log_step ct_Log_step : Value} {f_Log_clause_at : Addr} {od_Log_clause_at an_Log_clause_at : Option Addr} {sl_Log_clause_at : Array (Option Value)} {oc_Log_clause_at kV_Log_clause_at dc_Log_clause_at pm_Log_clause_at cd_Log_clause_at ct_Log_clause_at : Value} {f_Log_all_steps : Addr} {od_Log_all_steps an_Log_all_steps : Option Addr} {sl_Log_all_steps : Array (Option Value)} {oc_Log_all_steps kV_Log_all_steps dc_Log_all_steps pm_Log_all_steps cd_Log_all_steps ct_Log_all_steps : Value}
    (aC_Log : PySem.W.nsIn K mainGlobals "Log" = some (some (.ref C_Log)))
    (pg_Log : PySem.W.plainGet K C_Log Str.empty = true)
    (hd_Log : PySem.W.hasDictIn K C_Log = true)
    (po_Log : PySem.W.plainOver K C_Log = true)
    (sa_Log : PySem.W.findIn K (.ref C_Log) "__setattr__" = some (some (.builtin "object.__setattr__")))
    (mk_Log : PySem.W.makesIn K C_Log = true)
    (kc_Log : PySem.W.keepIn K (.ref C_Log) = true)
    (nf_Log__steps : PySem.W.findIn K (.ref C_Log) "_steps" = some none)
    (a_used_numbers : PySem.W.nsIn K mainGlobals "used_numbers" = some (some (.ref f_used_numbers)))
    (l_used_numbers : K.lookup f_used_numbers = some ⟨oc_used_numbers, od_used_numbers, .func (PySem.W.fnOf "used_numbers" "used_numbers" (defArgs s_used_numbers) (defBody s_used_numbers) (defScope s_used_numbers) .none kV_used_numbers dc_used_numbers pm_used_numbers an_used_numbers cd_used_numbers ct_used_numbers), sl_used_numbers⟩)
    (c_used_numbers : PySem.W.codeIn K cd_used_numbers "used_numbers" = true)
    (k_used_numbers : PySem.W.keepIn K (.ref f_used_numbers) = true)
    (a_kept_marks : PySem.W.nsIn K mainGlobals "kept_marks" = some (some (.ref f_kept_marks)))
    (l_kept_marks : K.lookup f_kept_marks = some ⟨oc_kept_marks, od_kept_marks, .func (PySem.W.fnOf "kept_marks" "kept_marks" (defArgs s_kept_marks) (defBody s_kept_marks) (defScope s_kept_marks) .none kV_kept_marks dc_kept_marks pm_kept_marks an_kept_marks cd_kept_marks ct_kept_marks), sl_kept_marks⟩)
    (c_kept_marks : PySem.W.codeIn K cd_kept_marks "kept_marks" = true)
    (k_kept_marks : PySem.W.keepIn K (.ref f_kept_marks) = true)
    (a_renumbered : PySem.W.nsIn K mainGlobals "renumbered" = some (some (.ref f_renumbered)))
    (l_renumbered : K.lookup f_renumbered = some ⟨oc_renumbered, od_renumbered, .func (PySem.W.fnOf "renumbered" "renumbered" (defArgs s_renumbered) (defBody s_renumbered) (defScope s_renumbered) .none kV_renumbered dc_renumbered pm_renumbered an_renumbered cd_renumbered ct_renumbered), sl_renumbered⟩)
    (c_renumbered : PySem.W.codeIn K cd_renumbered "renumbered" = true)
    (k_renumbered : PySem.W.keepIn K (.ref f_renumbered) = true)
    (a_trim : PySem.W.nsIn K mainGlobals "trim" = some (some (.ref f_trim)))
    (l_trim : K.lookup f_trim = some ⟨oc_trim, od_trim, .func (PySem.W.fnOf "trim" "trim" (defArgs s_trim) (defBody s_trim) (defScope s_trim) .none kV_trim dc_trim pm_trim an_trim cd_trim ct_trim), sl_trim⟩)
    (c_trim : PySem.W.codeIn K cd_trim "trim" = true)
    (k_trim : PySem.W.keepIn K (.ref f_trim) = true)
    (a_moved_details : PySem.W.nsIn K mainGlobals "moved_details" = some (some (.ref f_moved_details)))
    (l_moved_details : K.lookup f_moved_details = some ⟨oc_moved_details, od_moved_details, .func (PySem.W.fnOf "moved_details" "moved_details" (defArgs s_moved_details) (defBody s_moved_details) (defScope s_moved_details) .none kV_moved_details dc_moved_details pm_moved_details an_moved_details cd_moved_details ct_moved_details), sl_moved_details⟩)
    (c_moved_details : PySem.W.codeIn K cd_moved_details "moved_details" = true)
    (k_moved_details : PySem.W.keepIn K (.ref f_moved_details) = true)
    (a_law_pool : PySem.W.nsIn K mainGlobals "_law_pool" = some (some (.ref f_law_pool)))
    (l_law_pool : K.lookup f_law_pool = some ⟨oc_law_pool, od_law_pool, .func (PySem.W.fnOf "_law_pool" "_law_pool" (defArgs s_law_pool) (defBody s_law_pool) (defScope s_law_pool) .none kV_law_pool dc_law_pool pm_law_pool an_law_pool cd_law_pool ct_law_pool), sl_law_pool⟩)
    (c_law_pool : PySem.W.codeIn K cd_law_pool "_law_pool" = true)
    (k_law_pool : PySem.W.keepIn K (.ref f_law_pool) = true)
    (a_law_take : PySem.W.nsIn K mainGlobals "_law_take" = some (some (.ref f_law_take)))
    (l_law_take : K.lookup f_law_take = some ⟨oc_law_take, od_law_take, .func (PySem.W.fnOf "_law_take" "_law_take" (defArgs s_law_take) (defBody s_law_take) (defScope s_law_take) .none kV_law_take dc_law_take pm_law_take an_law_take cd_law_take ct_law_take), sl_law_take⟩)
    (c_law_take : PySem.W.codeIn K cd_law_take "_law_take" = true)
    (k_law_take : PySem.W.keepIn K (.ref f_law_take) = true)
    (a_law_whole : PySem.W.nsIn K mainGlobals "_law_whole" = some (some (.ref f_law_whole)))
    (l_law_whole : K.lookup f_law_whole = some ⟨oc_law_whole, od_law_whole, .func (PySem.W.fnOf "_law_whole" "_law_whole" (defArgs s_law_whole) (defBody s_law_whole) (defScope s_law_whole) .none kV_law_whole dc_law_whole pm_law_whole an_law_whole cd_law_whole ct_law_whole), sl_law_whole⟩)
    (c_law_whole : PySem.W.codeIn K cd_law_whole "_law_whole" = true)
    (k_law_whole : PySem.W.keepIn K (.ref f_law_whole) = true)
    (a_law_alike : PySem.W.nsIn K mainGlobals "_law_alike" = some (some (.ref f_law_alike)))
    (l_law_alike : K.lookup f_law_alike = some ⟨oc_law_alike, od_law_alike, .func (PySem.W.fnOf "_law_alike" "_law_alike" (defArgs s_law_alike) (defBody s_law_alike) (defScope s_law_alike) .none kV_law_alike dc_law_alike pm_law_alike an_law_alike cd_law_alike ct_law_alike), sl_law_alike⟩)
    (c_law_alike : PySem.W.codeIn K cd_law_alike "_law_alike" = true)
    (k_law_alike : PySem.W.keepIn K (.ref f_law_alike) = true)
    (a_law_alike_lists : PySem.W.nsIn K mainGlobals "_law_alike_lists" = some (some (.ref f_law_alike_lists)))
    (l_law_alike_lists : K.lookup f_law_alike_lists = some ⟨oc_law_alike_lists, od_law_alike_lists, .func (PySem.W.fnOf "_law_alike_lists" "_law_alike_lists" (defArgs s_law_alike_lists) (defBody s_law_alike_lists) (defScope s_law_alike_lists) .none kV_law_alike_lists dc_law_alike_lists pm_law_alike_lists an_law_alike_lists cd_law_alike_lists ct_law_alike_lists), sl_law_alike_lists⟩)
    (c_law_alike_lists : PySem.W.codeIn K cd_law_alike_lists "_law_alike_lists" = true)
    (k_law_alike_lists : PySem.W.keepIn K (.ref f_law_alike_lists) = true)
    (a_law_literal : PySem.W.nsIn K mainGlobals "_law_literal" = some (some (.ref f_law_literal)))
    (l_law_literal : K.lookup f_law_literal = some ⟨oc_law_literal, od_law_literal, .func (PySem.W.fnOf "_law_literal" "_law_literal" (defArgs s_law_literal) (defBody s_law_literal) (defScope s_law_literal) .none kV_law_literal dc_law_literal pm_law_literal an_law_literal cd_law_literal ct_law_literal), sl_law_literal⟩)
    (c_law_literal : PySem.W.codeIn K cd_law_literal "_law_literal" = true)
    (k_law_literal : PySem.W.keepIn K (.ref f_law_literal) = true)
    (a_law_literals : PySem.W.nsIn K mainGlobals "_law_literals" = some (some (.ref f_law_literals)))
    (l_law_literals : K.lookup f_law_literals = some ⟨oc_law_literals, od_law_literals, .func (PySem.W.fnOf "_law_literals" "_law_literals" (defArgs s_law_literals) (defBody s_law_literals) (defScope s_law_literals) .none kV_law_literals dc_law_literals pm_law_literals an_law_literals cd_law_literals ct_law_literals), sl_law_literals⟩)
    (c_law_literals : PySem.W.codeIn K cd_law_literals "_law_literals" = true)
    (k_law_literals : PySem.W.keepIn K (.ref f_law_literals) = true)
    (a_law_step : PySem.W.nsIn K mainGlobals "_law_step" = some (some (.ref f_law_step)))
    (l_law_step : K.lookup f_law_step = some ⟨oc_law_step, od_law_step, .func (PySem.W.fnOf "_law_step" "_law_step" (defArgs s_law_step) (defBody s_law_step) (defScope s_law_step) .none kV_law_step dc_law_step pm_law_step an_law_step cd_law_step ct_law_step), sl_law_step⟩)
    (c_law_step : PySem.W.codeIn K cd_law_step "_law_step" = true)
    (k_law_step : PySem.W.keepIn K (.ref f_law_step) = true)
    (a_law_due : PySem.W.nsIn K mainGlobals "_law_due" = some (some (.ref f_law_due)))
    (l_law_due : K.lookup f_law_due = some ⟨oc_law_due, od_law_due, .func (PySem.W.fnOf "_law_due" "_law_due" (defArgs s_law_due) (defBody s_law_due) (defScope s_law_due) .none kV_law_due dc_law_due pm_law_due an_law_due cd_law_due ct_law_due), sl_law_due⟩)
    (c_law_due : PySem.W.codeIn K cd_law_due "_law_due" = true)
    (k_law_due : PySem.W.keepIn K (.ref f_law_due) = true)
    (a_law_moved : PySem.W.nsIn K mainGlobals "_law_moved" = some (some (.ref f_law_moved)))
    (l_law_moved : K.lookup f_law_moved = some ⟨oc_law_moved, od_law_moved, .func (PySem.W.fnOf "_law_moved" "_law_moved" (defArgs s_law_moved) (defBody s_law_moved) (defScope s_law_moved) .none kV_law_moved dc_law_moved pm_law_moved an_law_moved cd_law_moved ct_law_moved), sl_law_moved⟩)
    (c_law_moved : PySem.W.codeIn K cd_law_moved "_law_moved" = true)
    (k_law_moved : PySem.W.keepIn K (.ref f_law_moved) = true)
    (a_law_trims : PySem.W.nsIn K mainGlobals "_law_trims" = some (some (.ref f_law_trims)))
    (l_law_trims : K.lookup f_law_trims = some ⟨oc_law_trims, od_law_trims, .func (PySem.W.fnOf "_law_trims" "_law_trims" (defArgs s_law_trims) (defBody s_law_trims) (defScope s_law_trims) .none kV_law_trims dc_law_trims pm_law_trims an_law_trims cd_law_trims ct_law_trims), sl_law_trims⟩)
    (c_law_trims : PySem.W.codeIn K cd_law_trims "_law_trims" = true)
    (k_law_trims : PySem.W.keepIn K (.ref f_law_trims) = true)
    (a_law_keeps : PySem.W.nsIn K mainGlobals "_law_keeps" = some (some (.ref f_law_keeps)))
    (l_law_keeps : K.lookup f_law_keeps = some ⟨oc_law_keeps, od_law_keeps, .func (PySem.W.fnOf "_law_keeps" "_law_keeps" (defArgs s_law_keeps) (defBody s_law_keeps) (defScope s_law_keeps) .none kV_law_keeps dc_law_keeps pm_law_keeps an_law_keeps cd_law_keeps ct_law_keeps), sl_law_keeps⟩)
    (c_law_keeps : PySem.W.codeIn K cd_law_keeps "_law_keeps" = true)
    (k_law_keeps : PySem.W.keepIn K (.ref f_law_keeps) = true)
    (a_law_takes : PySem.W.nsIn K mainGlobals "_law_takes" = some (some (.ref f_law_takes)))
    (l_law_takes : K.lookup f_law_takes = some ⟨oc_law_takes, od_law_takes, .func (PySem.W.fnOf "_law_takes" "_law_takes" (defArgs s_law_takes) (defBody s_law_takes) (defScope s_law_takes) .none kV_law_takes dc_law_takes pm_law_takes an_law_takes cd_law_takes ct_law_takes), sl_law_takes⟩)
    (c_law_takes : PySem.W.codeIn K cd_law_takes "_law_takes" = true)
    (k_law_takes : PySem.W.keepIn K (.ref f_law_takes) = true)
    (a_law : PySem.W.nsIn K mainGlobals "law" = some (some (.ref f_law)))
    (l_law : K.lookup f_law = some ⟨oc_law, od_law, .func (PySem.W.fnOf "law" "law" (defArgs s_law) (defBody s_law) (defScope s_law) .none kV_law dc_law pm_law an_law cd_law ct_law), sl_law⟩)
    (c_law : PySem.W.codeIn K cd_law "law" = true)
    (k_law : PySem.W.keepIn K (.ref f_law) = true)
    (a_Log___init__ : PySem.W.findIn K (.ref C_Log) "__init__" = some (some (.ref f_Log___init__)))
    (i_Log___init__ : PySem.W.isFn K (.ref f_Log___init__) = true)
    (l_Log___init__ : K.lookup f_Log___init__ = some ⟨oc_Log___init__, od_Log___init__, .func (PySem.W.fnOf "__init__" "Log.__init__" (defArgs s_Log___init__) (defBody s_Log___init__) (defScope s_Log___init__) .none kV_Log___init__ dc_Log___init__ pm_Log___init__ an_Log___init__ cd_Log___init__ ct_Log___init__), sl_Log___init__⟩)
    (c_Log___init__ : PySem.W.codeIn K cd_Log___init__ "Log.__init__" = true)
    (k_Log___init__ : PySem.W.keepIn K (.ref f_Log___init__) = true)
    (a_Log___len__ : PySem.W.findIn K (.ref C_Log) "__len__" = some (some (.ref f_Log___len__)))
    (i_Log___len__ : PySem.W.isFn K (.ref f_Log___len__) = true)
    (l_Log___len__ : K.lookup f_Log___len__ = some ⟨oc_Log___len__, od_Log___len__, .func (PySem.W.fnOf "__len__" "Log.__len__" (defArgs s_Log___len__) (defBody s_Log___len__) (defScope s_Log___len__) .none kV_Log___len__ dc_Log___len__ pm_Log___len__ an_Log___len__ cd_Log___len__ ct_Log___len__), sl_Log___len__⟩)
    (c_Log___len__ : PySem.W.codeIn K cd_Log___len__ "Log.__len__" = true)
    (k_Log___len__ : PySem.W.keepIn K (.ref f_Log___len__) = true)
    (a_Log___iter__ : PySem.W.findIn K (.ref C_Log) "__iter__" = some (some (.ref f_Log___iter__)))
    (i_Log___iter__ : PySem.W.isFn K (.ref f_Log___iter__) = true)
    (l_Log___iter__ : K.lookup f_Log___iter__ = some ⟨oc_Log___iter__, od_Log___iter__, .func (PySem.W.fnOf "__iter__" "Log.__iter__" (defArgs s_Log___iter__) (defBody s_Log___iter__) (defScope s_Log___iter__) .none kV_Log___iter__ dc_Log___iter__ pm_Log___iter__ an_Log___iter__ cd_Log___iter__ ct_Log___iter__), sl_Log___iter__⟩)
    (c_Log___iter__ : PySem.W.codeIn K cd_Log___iter__ "Log.__iter__" = true)
    (k_Log___iter__ : PySem.W.keepIn K (.ref f_Log___iter__) = true)
    (a_Log_write : PySem.W.findIn K (.ref C_Log) "write" = some (some (.ref f_Log_write)))
    (i_Log_write : PySem.W.isFn K (.ref f_Log_write) = true)
    (l_Log_write : K.lookup f_Log_write = some ⟨oc_Log_write, od_Log_write, .func (PySem.W.fnOf "write" "Log.write" (defArgs s_Log_write) (defBody s_Log_write) (defScope s_Log_write) .none kV_Log_write dc_Log_write pm_Log_write an_Log_write cd_Log_write ct_Log_write), sl_Log_write⟩)
    (c_Log_write : PySem.W.codeIn K cd_Log_write "Log.write" = true)
    (k_Log_write : PySem.W.keepIn K (.ref f_Log_write) = true)
    (a_Log_take : PySem.W.findIn K (.ref C_Log) "take" = some (some (.ref f_Log_take)))
    (i_Log_take : PySem.W.isFn K (.ref f_Log_take) = true)
    (l_Log_take : K.lookup f_Log_take = some ⟨oc_Log_take, od_Log_take, .func (PySem.W.fnOf "take" "Log.take" (defArgs s_Log_take) (defBody s_Log_take) (defScope s_Log_take) .none kV_Log_take dc_Log_take pm_Log_take an_Log_take cd_Log_take ct_Log_take), sl_Log_take⟩)
    (c_Log_take : PySem.W.codeIn K cd_Log_take "Log.take" = true)
    (k_Log_take : PySem.W.keepIn K (.ref f_Log_take) = true)
    (a_Log_step : PySem.W.findIn K (.ref C_Log) "step" = some (some (.ref f_Log_step)))
    (i_Log_step : PySem.W.isFn K (.ref f_Log_step) = true)
    (l_Log_step : K.lookup f_Log_step = some ⟨oc_Log_step, od_Log_step, .func (PySem.W.fnOf "step" "Log.step" (defArgs s_Log_step) (defBody s_Log_step) (defScope s_Log_step) .none kV_Log_step dc_Log_step pm_Log_step an_Log_step cd_Log_step ct_Log_step), sl_Log_step⟩)
    (c_Log_step : PySem.W.codeIn K cd_Log_step "Log.step" = true)
    (k_Log_step : PySem.W.keepIn K (.ref f_Log_step) = true)
    (a_Log_clause_at : PySem.W.findIn K (.ref C_Log) "clause_at" = some (some (.ref f_Log_clause_at)))
    (i_Log_clause_at : PySem.W.isFn K (.ref f_Log_clause_at) = true)
    (l_Log_clause_at : K.lookup f_Log_clause_at = some ⟨oc_Log_clause_at, od_Log_clause_at, .func (PySem.W.fnOf "clause_at" "Log.clause_at" (defArgs s_Log_clause_at) (defBody s_Log_clause_at) (defScope s_Log_clause_at) .none kV_Log_clause_at dc_Log_clause_at pm_Log_clause_at an_Log_clause_at cd_Log_clause_at ct_Log_clause_at), sl_Log_clause_at⟩)
    (c_Log_clause_at : PySem.W.codeIn K cd_Log_clause_at "Log.clause_at" = true)
    (k_Log_clause_at : PySem.W.keepIn K (.ref f_Log_clause_at) = true)
    (a_Log_all_steps : PySem.W.findIn K (.ref C_Log) "all_steps" = some (some (.ref f_Log_all_steps)))
    (i_Log_all_steps : PySem.W.isFn K (.ref f_Log_all_steps) = true)
    (l_Log_all_steps : K.lookup f_Log_all_steps = some ⟨oc_Log_all_steps, od_Log_all_steps, .func (PySem.W.fnOf "all_steps" "Log.all_steps" (defArgs s_Log_all_steps) (defBody s_Log_all_steps) (defScope s_Log_all_steps) .none kV_Log_all_steps dc_Log_all_steps pm_Log_all_steps an_Log_all_steps cd_Log_all_steps ct_Log_all_steps), sl_Log_all_steps⟩)
    (c_Log_all_steps : PySem.W.codeIn K cd_Log_all_steps "Log.all_steps" = true)
    (k_Log_all_steps : PySem.W.keepIn K (.ref f_Log_all_steps) = true)
    (z_abs : PySem.W.nsIn K mainGlobals "abs" = some none)
    (z_bool_ : PySem.W.nsIn K mainGlobals "bool" = some none)
    (z_int_ : PySem.W.nsIn K mainGlobals "int" = some none)
    (z_isinstance : PySem.W.nsIn K mainGlobals "isinstance" = some none)
    (z_iter : PySem.W.nsIn K mainGlobals "iter" = some none)
    (z_len : PySem.W.nsIn K mainGlobals "len" = some none)
    (z_list_ : PySem.W.nsIn K mainGlobals "list" = some none)
    (z_range : PySem.W.nsIn K mainGlobals "range" = some none)
    (z_reversed : PySem.W.nsIn K mainGlobals "reversed" = some none)
    (z_sorted : PySem.W.nsIn K mainGlobals "sorted" = some none)
    (z_str_ : PySem.W.nsIn K mainGlobals "str" = some none)
    (z_tuple_ : PySem.W.nsIn K mainGlobals "tuple" = some none) :
    ∃ fd : FuncData, (∀ (s : Shared) (v : Value), BindsTo s fd ⟨[v], []⟩ [("script", v)]) ∧ ∀ base : Heap, K.In base → base.Ns mainGlobals mg → FnOk l.prog w K mg base CX0 11 fa fd ["script"] (spLaw K) := by
  have e := hfa.symm.trans (PySem.W.mg_of X G a_law)
  cases e
  have B : Bn mg := ⟨PySem.W.mg_none_of X G z_abs, PySem.W.mg_none_of X G z_bool_, PySem.W.mg_none_of X G z_int_, PySem.W.mg_none_of X G z_isinstance, PySem.W.mg_none_of X G z_iter, PySem.W.mg_none_of X G z_len, PySem.W.mg_none_of X G z_list_, PySem.W.mg_none_of X G z_range, PySem.W.mg_none_of X G z_reversed, PySem.W.mg_none_of X G z_sorted, PySem.W.mg_none_of X G z_str_, PySem.W.mg_none_of X G z_tuple_⟩
  have F_used_numbers := funAt_mk (st := s_used_numbers) X G a_used_numbers l_used_numbers c_used_numbers k_used_numbers
  have F_kept_marks := funAt_mk (st := s_kept_marks) X G a_kept_marks l_kept_marks c_kept_marks k_kept_marks
  have F_renumbered := funAt_mk (st := s_renumbered) X G a_renumbered l_renumbered c_renumbered k_renumbered
  have F_trim := funAt_mk (st := s_trim) X G a_trim l_trim c_trim k_trim
  have F_moved_details := funAt_mk (st := s_moved_details) X G a_moved_details l_moved_details c_moved_details k_moved_details
  have F_law_pool := funAt_mk (st := s_law_pool) X G a_law_pool l_law_pool c_law_pool k_law_pool
  have F_law_take := funAt_mk (st := s_law_take) X G a_law_take l_law_take c_law_take k_law_take
  have F_law_whole := funAt_mk (st := s_law_whole) X G a_law_whole l_law_whole c_law_whole k_law_whole
  have F_law_alike := funAt_mk (st := s_law_alike) X G a_law_alike l_law_alike c_law_alike k_law_alike
  have F_law_alike_lists := funAt_mk (st := s_law_alike_lists) X G a_law_alike_lists l_law_alike_lists c_law_alike_lists k_law_alike_lists
  have F_law_literal := funAt_mk (st := s_law_literal) X G a_law_literal l_law_literal c_law_literal k_law_literal
  have F_law_literals := funAt_mk (st := s_law_literals) X G a_law_literals l_law_literals c_law_literals k_law_literals
  have F_law_step := funAt_mk (st := s_law_step) X G a_law_step l_law_step c_law_step k_law_step
  have F_law_due := funAt_mk (st := s_law_due) X G a_law_due l_law_due c_law_due k_law_due
  have F_law_moved := funAt_mk (st := s_law_moved) X G a_law_moved l_law_moved c_law_moved k_law_moved
  have F_law_trims := funAt_mk (st := s_law_trims) X G a_law_trims l_law_trims c_law_trims k_law_trims
  have F_law_keeps := funAt_mk (st := s_law_keeps) X G a_law_keeps l_law_keeps c_law_keeps k_law_keeps
  have F_law_takes := funAt_mk (st := s_law_takes) X G a_law_takes l_law_takes c_law_takes k_law_takes
  have F_law := funAt_mk (st := s_law) X G a_law l_law c_law k_law
  have F_Log___init__ := fun_mk (st := s_Log___init__) l_Log___init__ c_Log___init__ k_Log___init__
  have bd_Log___init__ := F_Log___init__.binds (ps := ["self"]) fun _ _ _ _ _ _ us hl => match us, hl with | [_], _ => rfl
  have F_Log___len__ := fun_mk (st := s_Log___len__) l_Log___len__ c_Log___len__ k_Log___len__
  have bd_Log___len__ := F_Log___len__.binds (ps := ["self"]) fun _ _ _ _ _ _ us hl => match us, hl with | [_], _ => rfl
  have F_Log___iter__ := fun_mk (st := s_Log___iter__) l_Log___iter__ c_Log___iter__ k_Log___iter__
  have bd_Log___iter__ := F_Log___iter__.binds (ps := ["self"]) fun _ _ _ _ _ _ us hl => match us, hl with | [_], _ => rfl
  have F_Log_write := fun_mk (st := s_Log_write) l_Log_write c_Log_write k_Log_write
  have bd_Log_write := F_Log_write.binds (ps := ["self", "kind", "clause", "details"]) fun _ _ _ _ _ _ us hl => match us, hl with | [_, _, _, _], _ => rfl
  have F_Log_take := fun_mk (st := s_Log_take) l_Log_take c_Log_take k_Log_take
  have bd_Log_take := F_Log_take.binds (ps := ["self", "steps"]) fun _ _ _ _ _ _ us hl => match us, hl with | [_, _], _ => rfl
  have F_Log_step := fun_mk (st := s_Log_step) l_Log_step c_Log_step k_Log_step
  have bd_Log_step := F_Log_step.binds (ps := ["self", "number"]) fun _ _ _ _ _ _ us hl => match us, hl with | [_, _], _ => rfl
  have F_Log_clause_at := fun_mk (st := s_Log_clause_at) l_Log_clause_at c_Log_clause_at k_Log_clause_at
  have bd_Log_clause_at := F_Log_clause_at.binds (ps := ["self", "number"]) fun _ _ _ _ _ _ us hl => match us, hl with | [_, _], _ => rfl
  have F_Log_all_steps := fun_mk (st := s_Log_all_steps) l_Log_all_steps c_Log_all_steps k_Log_all_steps
  have bd_Log_all_steps := F_Log_all_steps.binds (ps := ["self"]) fun _ _ _ _ _ _ us hl => match us, hl with | [_], _ => rfl
  refine ⟨PySem.W.fnOf "law" "law" (defArgs s_law) (defBody s_law) (defScope s_law) .none kV_law dc_law pm_law an_law cd_law ct_law, fun s v => .of_eq rfl, fun base _ _ => ?_⟩
  have L : LogC K C_Log := ⟨⟨pg_Log, hd_Log, po_Log, sa_Log⟩, nf_Log__steps⟩
  have md : ∀ {m : Str} {ff : Addr} {fd : FuncData} {ps : List Str} {sp : Sp} {k : Nat}, PySem.W.findIn K (.ref C_Log) m = some (some (.ref ff)) → PySem.W.isFn K (.ref ff) = true → PySem.W.keepIn K (.ref ff) = true → Binds K fd ps [] → FnOk l.prog w K mg base CX0 k ff fd ps sp → MDef l.prog w K mg base CX0 k C_Log m ps sp := fun a b c d e => ⟨_, _, L.cl, ⟨a, b, c⟩, d, e⟩
  have D_take := ok_take (P := l.prog) (w := w) (base := base) B F_law_take
  have D_mvd := ok_moved (P := l.prog) (w := w) (base := base) B F_moved_details
  have D_whole := ok_whole (P := l.prog) (w := w) (base := base) B F_law_whole
  have D_alike := ok_alike (P := l.prog) (w := w) (base := base) B D_whole F_law_alike 5
  have D_all := ok_alL B F_law_alike_lists D_alike
  have D_used := ok_used (P := l.prog) (w := w) (base := base) B F_used_numbers
  have D_marks := ok_marks B F_kept_marks D_used
  have D_ren := ok_ren (P := l.prog) (w := w) (base := base) B F_renumbered
  have D_trim := ok_trim B F_trim D_marks D_ren
  have D_due := ok_due (P := l.prog) (w := w) (base := base) B F_law_due
  have D_moved := ok_movedL (P := l.prog) (w := w) (base := base) B F_law_moved
  have D_trims := ok_trims B F_law_trims D_due D_trim D_all
  have D_lit := ok_literal B F_law_literal D_take
  have D_lits := ok_literals B F_law_literals D_take D_lit
  have D_step := ok_step' B F_law_step D_take D_lit D_lits
  have M_len := md a_Log___len__ i_Log___len__ k_Log___len__ bd_Log___len__ (ok_len (P := l.prog) (w := w) (base := base) (mg := mg) B L F_Log___len__)
  have M_iter := md a_Log___iter__ i_Log___iter__ k_Log___iter__ bd_Log___iter__ (ok_iter (P := l.prog) (w := w) (base := base) (mg := mg) B L F_Log___iter__)
  have M_all := md a_Log_all_steps i_Log_all_steps k_Log_all_steps bd_Log_all_steps (ok_allS (P := l.prog) (w := w) (base := base) (mg := mg) B L F_Log_all_steps)
  have M_step := md a_Log_step i_Log_step k_Log_step bd_Log_step (ok_step (P := l.prog) (w := w) (base := base) (mg := mg) B L F_Log_step)
  have M_clAt := md a_Log_clause_at i_Log_clause_at k_Log_clause_at bd_Log_clause_at (ok_clAt (P := l.prog) (w := w) (base := base) (mg := mg) B L F_Log_clause_at)
  have M_write := md a_Log_write i_Log_write k_Log_write bd_Log_write (ok_write (P := l.prog) (w := w) (base := base) (mg := mg) B L F_Log_write)
  have M_take := md a_Log_take i_Log_take k_Log_take bd_Log_take (ok_takeL B L F_Log_take D_mvd)
  have D_Log : MkDef l.prog w K mg base CX0 1 "Log" C_Log ["self"] (spInit C_Log) := ⟨_, _, PySem.W.mg_of X G aC_Log, ⟨mk_Log, a_Log___init__, i_Log___init__, kc_Log⟩, bd_Log___init__, ok_init B L F_Log___init__⟩
  have D_keeps := ok_keeps B F_law_keeps D_alike D_all M_len M_iter M_all M_step M_clAt
  have D_takes := ok_takes B F_law_takes D_whole D_all D_moved D_keeps M_take
  exact ok_law B (fun_mk (st := s_law) l_law c_law k_law) (ok_pool B F_law_pool) D_take D_step D_trims D_Log M_write D_whole M_len D_keeps D_due D_takes D_moved
theorem walk {l : PySem.W.OpenLaw} {q : Program} {loose : List Str} {XP : (Str → Option Value) → Heap → Prop} {YP : World → Heap → Prop} {d : DefRec} {K : Params → PySem.W.Frag} (hn : l.most = some 63) (hdf : d.params.defaults = [])
    (hY : ∀ (w : World) (h : Heap), YP w h → (K w.params).In h)
    (F : ∀ (w : World) (mg : Str → Option Value) (fa : Addr) (h : Heap), (K w.params).In h → h.Ns mainGlobals mg → mg d.name = some (.ref fa) →
      ∃ fd : FuncData, (∀ (s : Shared) (u : Value), BindsTo s fd ⟨[u], []⟩ [("script", u)]) ∧ ∀ base : Heap, (K w.params).In base → base.Ns mainGlobals mg → FnOk l.prog w (K w.params) mg base CX0 11 fa fd ["script"] (spLaw (K w.params))) :
    PySem.W.WalkO q loose XP YP l.row.toRowW d [] (fun f vs => PySem.call f vs) :=
  L2.walk_of (n := 63) (k := 11) (x := "script") (CX := fun _ => CX0) (sp := fun w => spLaw (K w.params)) hn (by decide) hdf ⟨rfl, by decide, by decide⟩ hY F (fun _ _ a ns hl _ hS => ⟨a, ns, rfl, hS, hl, fun _ => rfl⟩) fun _ _ _ _ _ z => z
end K03

open PySem PySem.W PyProof.Rows in
set_option maxRecDepth 100000 in
set_option maxHeartbeats 0 in
theorem PySem.Challenge.cw_solvedpapers_k03_trimmed_lists_holds : PySem.Challenge.rw_solvedpapers_k03_trimmed_lists.Holds := by
  w_on; o_law; k_head; (case hw => w_witness2)
  k_fill
  refine K03.walk (l := PySem.Challenge.rw_solvedpapers_k03_trimmed_lists) rfl rfl (fun w h Y => PySem.W.kIn_of Y) ?F
  case F =>
    intro w mg fa h KX G hmg
    refine' K03.all_mk KX G hmg ?aC_Log ?pg_Log ?hd_Log ?po_Log ?sa_Log ?mk_Log ?kc_Log ?nf_Log__steps ?a_used_numbers ?l_used_numbers ?c_used_numbers ?k_used_numbers ?a_kept_marks ?l_kept_marks ?c_kept_marks ?k_kept_marks ?a_renumbered ?l_renumbered ?c_renumbered ?k_renumbered ?a_trim ?l_trim ?c_trim ?k_trim ?a_moved_details ?l_moved_details ?c_moved_details ?k_moved_details ?a_law_pool ?l_law_pool ?c_law_pool ?k_law_pool ?a_law_take ?l_law_take ?c_law_take ?k_law_take ?a_law_whole ?l_law_whole ?c_law_whole ?k_law_whole ?a_law_alike ?l_law_alike ?c_law_alike ?k_law_alike ?a_law_alike_lists ?l_law_alike_lists ?c_law_alike_lists ?k_law_alike_lists ?a_law_literal ?l_law_literal ?c_law_literal ?k_law_literal ?a_law_literals ?l_law_literals ?c_law_literals ?k_law_literals ?a_law_step ?l_law_step ?c_law_step ?k_law_step ?a_law_due ?l_law_due ?c_law_due ?k_law_due ?a_law_moved ?l_law_moved ?c_law_moved ?k_law_moved ?a_law_trims ?l_law_trims ?c_law_trims ?k_law_trims ?a_law_keeps ?l_law_keeps ?c_law_keeps ?k_law_keeps ?a_law_takes ?l_law_takes ?c_law_takes ?k_law_takes ?a_law ?l_law ?c_law ?k_law ?a_Log___init__ ?i_Log___init__ ?l_Log___init__ ?c_Log___init__ ?k_Log___init__ ?a_Log___len__ ?i_Log___len__ ?l_Log___len__ ?c_Log___len__ ?k_Log___len__ ?a_Log___iter__ ?i_Log___iter__ ?l_Log___iter__ ?c_Log___iter__ ?k_Log___iter__ ?a_Log_write ?i_Log_write ?l_Log_write ?c_Log_write ?k_Log_write ?a_Log_take ?i_Log_take ?l_Log_take ?c_Log_take ?k_Log_take ?a_Log_step ?i_Log_step ?l_Log_step ?c_Log_step ?k_Log_step ?a_Log_clause_at ?i_Log_clause_at ?l_Log_clause_at ?c_Log_clause_at ?k_Log_clause_at ?a_Log_all_steps ?i_Log_all_steps ?l_Log_all_steps ?c_Log_all_steps ?k_Log_all_steps ?z_abs ?z_bool_ ?z_int_ ?z_isinstance ?z_iter ?z_len ?z_list_ ?z_range ?z_reversed ?z_sorted ?z_str_ ?z_tuple_
    (case aC_Log => k_is)
    (case pg_Log => k_is)
    (case hd_Log => k_is)
    (case po_Log => k_is)
    (case sa_Log => k_is)
    (case mk_Log => k_is)
    (case kc_Log => k_is)
    (case nf_Log__steps => k_is)
    (case a_used_numbers => k_is)
    (case l_used_numbers => k_is)
    (case c_used_numbers => k_is)
    (case k_used_numbers => k_is)
    (case a_kept_marks => k_is)
    (case l_kept_marks => k_is)
    (case c_kept_marks => k_is)
    (case k_kept_marks => k_is)
    (case a_renumbered => k_is)
    (case l_renumbered => k_is)
    (case c_renumbered => k_is)
    (case k_renumbered => k_is)
    (case a_trim => k_is)
    (case l_trim => k_is)
    (case c_trim => k_is)
    (case k_trim => k_is)
    (case a_moved_details => k_is)
    (case l_moved_details => k_is)
    (case c_moved_details => k_is)
    (case k_moved_details => k_is)
    (case a_law_pool => k_is)
    (case l_law_pool => k_is)
    (case c_law_pool => k_is)
    (case k_law_pool => k_is)
    (case a_law_take => k_is)
    (case l_law_take => k_is)
    (case c_law_take => k_is)
    (case k_law_take => k_is)
    (case a_law_whole => k_is)
    (case l_law_whole => k_is)
    (case c_law_whole => k_is)
    (case k_law_whole => k_is)
    (case a_law_alike => k_is)
    (case l_law_alike => k_is)
    (case c_law_alike => k_is)
    (case k_law_alike => k_is)
    (case a_law_alike_lists => k_is)
    (case l_law_alike_lists => k_is)
    (case c_law_alike_lists => k_is)
    (case k_law_alike_lists => k_is)
    (case a_law_literal => k_is)
    (case l_law_literal => k_is)
    (case c_law_literal => k_is)
    (case k_law_literal => k_is)
    (case a_law_literals => k_is)
    (case l_law_literals => k_is)
    (case c_law_literals => k_is)
    (case k_law_literals => k_is)
    (case a_law_step => k_is)
    (case l_law_step => k_is)
    (case c_law_step => k_is)
    (case k_law_step => k_is)
    (case a_law_due => k_is)
    (case l_law_due => k_is)
    (case c_law_due => k_is)
    (case k_law_due => k_is)
    (case a_law_moved => k_is)
    (case l_law_moved => k_is)
    (case c_law_moved => k_is)
    (case k_law_moved => k_is)
    (case a_law_trims => k_is)
    (case l_law_trims => k_is)
    (case c_law_trims => k_is)
    (case k_law_trims => k_is)
    (case a_law_keeps => k_is)
    (case l_law_keeps => k_is)
    (case c_law_keeps => k_is)
    (case k_law_keeps => k_is)
    (case a_law_takes => k_is)
    (case l_law_takes => k_is)
    (case c_law_takes => k_is)
    (case k_law_takes => k_is)
    (case a_law => k_is)
    (case l_law => k_is)
    (case c_law => k_is)
    (case k_law => k_is)
    (case a_Log___init__ => k_is)
    (case i_Log___init__ => k_is)
    (case l_Log___init__ => k_is)
    (case c_Log___init__ => k_is)
    (case k_Log___init__ => k_is)
    (case a_Log___len__ => k_is)
    (case i_Log___len__ => k_is)
    (case l_Log___len__ => k_is)
    (case c_Log___len__ => k_is)
    (case k_Log___len__ => k_is)
    (case a_Log___iter__ => k_is)
    (case i_Log___iter__ => k_is)
    (case l_Log___iter__ => k_is)
    (case c_Log___iter__ => k_is)
    (case k_Log___iter__ => k_is)
    (case a_Log_write => k_is)
    (case i_Log_write => k_is)
    (case l_Log_write => k_is)
    (case c_Log_write => k_is)
    (case k_Log_write => k_is)
    (case a_Log_take => k_is)
    (case i_Log_take => k_is)
    (case l_Log_take => k_is)
    (case c_Log_take => k_is)
    (case k_Log_take => k_is)
    (case a_Log_step => k_is)
    (case i_Log_step => k_is)
    (case l_Log_step => k_is)
    (case c_Log_step => k_is)
    (case k_Log_step => k_is)
    (case a_Log_clause_at => k_is)
    (case i_Log_clause_at => k_is)
    (case l_Log_clause_at => k_is)
    (case c_Log_clause_at => k_is)
    (case k_Log_clause_at => k_is)
    (case a_Log_all_steps => k_is)
    (case i_Log_all_steps => k_is)
    (case l_Log_all_steps => k_is)
    (case c_Log_all_steps => k_is)
    (case k_Log_all_steps => k_is)
    (case z_abs => k_is)
    (case z_bool_ => k_is)
    (case z_int_ => k_is)
    (case z_isinstance => k_is)
    (case z_iter => k_is)
    (case z_len => k_is)
    (case z_list_ => k_is)
    (case z_range => k_is)
    (case z_reversed => k_is)
    (case z_sorted => k_is)
    (case z_str_ => k_is)
    (case z_tuple_ => k_is)
#print axioms PySem.Challenge.cw_solvedpapers_k03_trimmed_lists_holds

