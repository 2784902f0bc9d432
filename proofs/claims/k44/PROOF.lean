import PyProof.Rows.All
import Wide.All
import OpenK.AllK
import Wide.FinOn
import HandS.ForMost
import HandS.IsInst
import HandS.Walk
import HandS.Flow
import HandS.Zip
import PyProof.NeKinds
import HandS.Exc
import HandS.ExcOwn
import HandS.ExcInit
import HandS.ExcField
import HandS.WordsExc
import HandS.Defaults
import HandS.MakeKwOnly
import HandS.DeepEq
import HandS.Replace
import HandS.RaiseMore
import HandS.Text
import PyProof.ReprRoads
import PyProof.ReprLen
import HandS.Codes
import KE.IntTextLaws
import PyProof.ReprDict
import PyProof.StrBlock2
import HandS.NoneIn
import KE.GoesMore
import KE.GoesEnum
import HandS.GenList
import HandS.Deep
import HandS.Style
import HandS.Property
import HandS.ClsMeth
import HandS.Star
import HandS.FStr
import HandS.OwnEq
import HandS.Conv
import HandS.CallSlots
import KE.KCallOwn
import KE.KOpsOwn
import PyProof.ExcBaseAll.LookupError
import HandS.NestedK
import KE.KSuper
import HandS.TupAny
import HandS.TupMul
import KE.DataFind
import KE.KFmtOwn
import KE.KExcInit
import HandS.IterNext
import HandS.SuiteRaise
import HandS.RaiseFrom
import HandS.ExcInitHot
import KE.KTryMore
import PyProof.AutoSeq1
import PyProof.LongRange
import KE.OsRunLaw
import PySem.Challenge.RW_reflows_k44_texts_one_by_one
set_option Elab.async false
set_option linter.all false
set_option maxRecDepth 100000
set_option maxHeartbeats 0
namespace Lw
open PySem PySem.W PyProof.Rows
theorem joinH {σ α β γ : Type} {o : Option σ} {f : σ → α} {g : σ → β} {h : σ → γ} {a : α} {b : β} {c : γ} (x : o.map f = some a) (y : o.map g = some b) (z : o.map h = some c) : o.map (fun s => (f s, g s, h s)) = some (a, b, c) := by
  cases o with
  | none => cases x
  | some s => cases x; cases y; cases z; rfl
theorem Mark.seenIt : True := trivial
section
open Lean in
local macro_rules | `(tactic| o_headL $H:term) => `(tactic| exact $(mkIdent `f) ($H = $H) _)
theorem hd (f : ∀ (q p : Prop), p) : PySem.Challenge.rw_reflows_k44_texts_one_by_one.Holds := by
  w_on; o_law; k_headL
end
section
open HeadRun
abbrev p0 : Program := PySem.Challenge.rw_reflows_k44_texts_one_by_one.prog
def qv : Program := view p0 [0, 2, 3, 4, 5, 6, 7, 9, 10, 11, 12, 13, 14, 16, 17, 18, 19, 20, 21, 23, 24, 25, 26, 27, 28, 29, 30, 31, 32, 33, 34, 35, 36, 37, 38]
def xt0 (s : Shared) : Bool := xlAt qv [] s && recOk (RowW.records (OpenRow.toRowW PySem.Challenge.rw_reflows_k44_texts_one_by_one.row)) s
theorem hdA (w : World) (os : OsState) : (endF (stepQ (denQ tabQ) p0 w) 6106 p0 w os).map (fun s => looksF p0 (boot_heap w.params) s.abs) = some true := by kernel_rfl
theorem hdB0 (w : World) (os : OsState) : (endF (stepQ (denQ tabQ) p0 w) 6106 p0 w os).map (fun s => (seenQ qv (["Stock"].map Str.ofString) (importedModules p0.main.body) xt0 s.abs).1) = some (expectedOf qv) := by kernel_rfl
theorem hdB1 (w : World) (os : OsState) : (endF (stepQ (denQ tabQ) p0 w) 6106 p0 w os).map (fun s => (seenQ qv (["Stock"].map Str.ofString) (importedModules p0.main.body) xt0 s.abs).2.2.1) = some true := by kernel_rfl
theorem hdB2 (w : World) (os : OsState) : (endF (stepQ (denQ tabQ) p0 w) 6106 p0 w os).map (fun s => ((seenQ qv (["Stock"].map Str.ofString) (importedModules p0.main.body) xt0 s.abs).2.1, (seenQ qv (["Stock"].map Str.ofString) (importedModules p0.main.body) xt0 s.abs).2.2.2)) = some (bltViewBooted, true, pinGoodD (drecsOf qv), plainGoodE qv (looseW qv (["Stock"].map Str.ofString)), plainGoodD qv (["Stock"].map Str.ofString), wideGood qv, clsGoodW qv (["Stock"].map Str.ofString)) := by kernel_rfl
theorem joinB {σ α β γ δ : Type} {o : Option σ} {f : σ → α × β × γ × δ} {a : α} {b : β} {c : γ} {d : δ} (x : o.map (fun s => (f s).1) = some a) (y : o.map (fun s => (f s).2.2.1) = some c) (z : o.map (fun s => ((f s).2.1, (f s).2.2.2)) = some (b, d)) : o.map f = some (a, b, c, d) := by
  cases o with
  | none => cases x
  | some s =>
    have e1 : (f s).1 = a := Option.some.inj x
    have e2 : (f s).2.2.1 = c := Option.some.inj y
    have e3 : ((f s).2.1, (f s).2.2.2) = (b, d) := Option.some.inj z
    show some (f s) = _
    rcases e : f s with ⟨p, q, r, t⟩
    rw [e] at e1 e2 e3
    cases e1; cases e2; cases e3; rfl
theorem hdB (w : World) (os : OsState) : (endF (stepQ (denQ tabQ) p0 w) 6106 p0 w os).map (fun s => seenQ qv (["Stock"].map Str.ofString) (importedModules p0.main.body) xt0 s.abs) = some (openGood qv (["Stock"].map Str.ofString)) := joinB (hdB0 w os) (hdB1 w os) (hdB2 w os)
theorem hdC (w : World) (os : OsState) : (endF (stepQ (denQ tabQ) p0 w) 6106 p0 w os).map (fun s => ([2, 3, 15, 17, 18, 20, 21, 22, 29, 30, 31, 32, 35, 42, 43, 44, 45, 48, 55, 57, 58, 60, 61, 62, 63, 64, 67, 74, 76, 77, 79, 80, 81, 82, 83, 86, 93, 95, 96, 98, 99, 100, 101, 102, 105, 112, 114, 115, 117, 118, 119, 120, 121, 124, 126, 127, 129, 130, 131, 133, 134, 136, 137, 138, 141, 142, 143, 146, 147, 148, 150, 151, 153, 154, 155, 158, 159, 167, 168, 171, 172, 173, 175, 176, 178, 179, 180, 181, 182, 183, 186, 187, 188, 190, 191, 193, 194, 195, 197, 198, 200, 201, 202, 204, 205, 207, 208, 209, 212, 213, 214, 216, 217, 219, 220, 221, 224, 225, 226, 228, 229, 231, 232, 233, 235, 236, 238, 239, 240, 242, 243, 245, 246, 247, 250, 251, 252, 254, 255, 257, 258, 259, 261, 262, 264, 265, 266, 268, 269, 271, 272, 273, 275, 276, 278, 279, 280, 282, 283, 285, 286, 287, 288, 289, 290, 291, 294, 296, 297, 299, 300, 301, 303, 304, 306, 307, 308, 310, 311, 313, 314, 315, 317, 318, 320, 321, 322, 324, 325, 327, 328, 341, 344, 345, 346, 349, 350, 351, 354, 355, 356, 358, 359, 361, 362, 363, 366, 367, 368, 370, 371, 373, 374, 375, 378, 379, 380, 383, 384, 385, 387, 388, 390, 391] : List Addr).map (getT s)) = some ((Lw.hd.heap_39 w.params).map fun x => some x.2) := by kernel_rfl
end
end Lw
set_option Elab.async false
set_option linter.all false
set_option maxRecDepth 100000
set_option maxHeartbeats 4000000
namespace PySem.SeqAt
open AutoSeq1 (wpAny_loadPart')
open MeetsSeq
end PySem.SeqAt
namespace U
open PySem L2
section
variable {X : Cx}
theorem PEi {e : Expr} {t u : TE} (h : PE X e t) (i : ∀ σ H Q, u σ H Q → t σ H Q) : PE X e u := ⟨fun pins s σ H Q I k => h.run pins s σ H Q I (i σ H Q k)⟩
theorem OpRi {f : Value → Value → Sem Value} {r r' : R2} (h : OpR X f r) (i : ∀ x y H Q, r' x y H Q → r x y H Q) : OpR X f r' := fun pins s σ H x y v u Q I rx ry k => h pins s σ H x y v u Q I rx ry (i x y H Q k)
theorem CallRi {f : Value} {r r' : List V → Hp → VK → Prop} (h : CallR X f r) (i : ∀ xs H Q, r' xs H Q → r xs H Q) : CallR X f r' := fun pins s σ H xs us Q I r k => h pins s σ H xs us Q I r (i xs H Q k)
theorem IxRi {r r' : R2} (h : IxR X r) (i : ∀ x y H Q, r' x y H Q → r x y H Q) : IxR X r' := fun value slice pins s σ H x y v u Q I rx ry q hs => h value slice pins s σ H x y v u Q I rx ry (i x y H Q q) hs
theorem SlRi {r r' : V → Option Int → Option Int → Hp → VK → Prop} (h : L2.SlR X r) (i : ∀ x lo hi H Q, r' x lo hi H Q → r x lo hi H Q) : L2.SlR X r' := fun pins s σ H x v vl vu lo hi sl Q I rx hs pl pu q => h pins s σ H x v vl vu lo hi sl Q I rx hs pl pu (i x lo hi H Q q)
theorem MtRi {id : String} {r r' : V → List V → Hp → VK → Prop} (h : MtR X id r) (i : ∀ x xs H Q, r' x xs H Q → r x xs H Q) : MtR X id r' := fun pins s σ H x xs v us Q I rx rs q => h pins s σ H x xs v us Q I rx rs (i x xs H Q q)
end
def bV (x : V) (A B : Prop) : Prop := match x with | .bl true => A | .bl false => B | _ => False
def bB (c : Bool) (A B : Prop) : Prop := match c with | true => A | false => B
def oK {α : Type} (o : Option α) (f : α → Prop) : Prop := match o with | some x => f x | none => False
section
variable {A B : Prop} {α : Type}
theorem oK_of {o : Option α} {f : α → Prop} {x : α} (h : o = some x) (k : f x) : oK o f := by subst h; exact k
theorem oK_ex {o : Option α} {f : α → Prop} (h : oK o f) : ∃ x, o = some x ∧ f x := by
  cases o with
  | none => exact h.elim
  | some x => exact ⟨x, rfl, h⟩
end
def uVar (i : Nat) : TE := fun σ H Q => match σ[i]? with | some (some v) => Q v H | _ => False
def uT (t : TE) : TT := fun σ H Q => t σ H fun x H1 => match x with | .bl k => Q k H1 | _ => False
def uAndV (ta tb : TE) : TE := fun σ H Q => ta σ H fun x H1 => bV x (tb σ H1 Q) (Q (.bl false) H1)
def uOrV (ta tb : TE) : TE := fun σ H Q => ta σ H fun x H1 => bV x (Q (.bl true) H1) (tb σ H1 Q)
def uNotV (ta : TE) : TE := fun σ H Q => ta σ H fun x H1 => match x with | .bl k => Q (.bl (!k)) H1 | _ => False
def uOr (t u : TT) : TT := fun σ H Q => t σ H fun c H1 => bB c (Q true H1) (u σ H1 Q)
def uNot (t : TT) : TT := fun σ H Q => t σ H fun c H1 => Q (!c) H1
def uIf (t : TT) (ta tb : TE) : TE := fun σ H Q => t σ H fun c H1 => bB c (ta σ H1 Q) (tb σ H1 Q)
def uIfS (t : TT) (a b : TS) : TS := fun D σ H => t σ H fun c H1 => bB c (a D σ H1) (b D σ H1)
section
variable {X : Cx} {a b : Expr} {ta tb : TE} {pos : Pos} {tA tB' : TT} {rest : List Expr}
theorem pu (i : Nat) {x : Str} {pos : Pos} (hN : X.N[i]? = some x := by rfl) (hv : Vis X.env.scope x := by first | exact Or.inl rfl | exact Or.inr (Or.inl rfl) | exact Or.inr (Or.inr rfl)) (hd : (x == ("__debug__" : Str)) = false := by decide)
    (hcd : (x == ("__classdict__" : Str)) = false := by decide) : PE X (.Name x pos) (uVar i) := PEi (pe_var hN hv hd hcd) fun σ H Q h => by
  unfold uVar at h
  split at h
  · exact ⟨_, by assumption, h⟩
  · exact h.elim
end
theorem k_bl (Q : Bool → Hp → Prop) : (fun (x : V) (H1 : Hp) => match x with | .bl k => Q k H1 | _ => False) = (fun x H1 => ∃ c, x = V.bl c ∧ Q c H1) := by
  funext x H1
  cases x <;> simp
theorem k_and (f : Hp → Prop) (g : Hp → Prop) : (fun (x : V) (H1 : Hp) => bV x (f H1) (g H1)) = (fun x H1 => ∃ c, x = V.bl c ∧ if c = true then f H1 else g H1) := by
  funext x H1
  unfold bV
  cases x with
  | bl b => cases b <;> simp
  | _ => simp
theorem k_b (f : Hp → Prop) (g : Hp → Prop) : (fun (c : Bool) (H1 : Hp) => bB c (f H1) (g H1)) = (fun c H1 => if c = true then f H1 else g H1) := by
  funext c H1
  unfold bB
  cases c <;> simp
section
variable {X : Cx} {a b : Expr} {ta tb : TE} {pos : Pos} {tA tB' : TT} {rest : List Expr}
theorem uT_eq (t : TE) : uT t = tB t := by funext σ H Q; unfold uT tB; rw [k_bl]
theorem uT_eq' (t : TE) : uT t = tTest t := by funext σ H Q; unfold uT tTest; rw [k_bl]
theorem uAndV_eq (ta tb : TE) : uAndV ta tb = tAndV ta tb := by funext σ H Q; unfold uAndV tAndV; rw [k_and]
theorem uOrV_eq (ta tb : TE) : uOrV ta tb = tOrV ta tb := by funext σ H Q; unfold uOrV tOrV; rw [k_and]
theorem uNotV_eq (ta : TE) : uNotV ta = tNotV ta := by
  funext σ H Q; unfold uNotV tNotV
  exact congrArg (ta σ H) (k_bl fun c H1 => Q (.bl (!c)) H1)
theorem uOr_eq (t u : TT) : uOr t u = tOr t u := by funext σ H Q; unfold uOr tOr; rw [k_b]
theorem uIf_eq (t : TT) (ta tb : TE) : uIf t ta tb = tIf t ta tb := by funext σ H Q; unfold uIf tIf; rw [k_b]
theorem uIfS_eq (t : TT) (a b : TS) : uIfS t a b = tIfS t a b := by funext D σ H; unfold uIfS tIfS; rw [k_b]
theorem put_val {e : Expr} {t : TE} (h : PE X e t) (he : ∀ whole, isTrue e X.env whole = (do let v ← whole; standAt e.pos; holding [v] (truthy v)) := by intro _; rfl) : PT X e (uT t) := by
  rw [uT_eq]; exact pt_val h he
theorem put_cmp {op : CmpOp} {r : R2} (ho : OpR X (compareOp op) r) (ha : PE X a ta) (hb : PE X b tb) (hm : behindInMarks op b = false) : PT X (.Compare a [op] [b] pos) (uT (tOp r ta tb)) := by
  rw [uT_eq']; exact pt_cmpR ho ha hb hm
theorem pue_and (ha : PE X a ta) (hb : PE X (.BoolOp .And (b :: rest) pos) tb) : PE X (.BoolOp .And (a :: b :: rest) pos) (uAndV ta tb) := by rw [uAndV_eq]; exact pe_and ha hb
theorem pue_or (ha : PE X a ta) (hb : PE X (.BoolOp .Or (b :: rest) pos) tb) : PE X (.BoolOp .Or (a :: b :: rest) pos) (uOrV ta tb) := by rw [uOrV_eq]; exact pe_or ha hb
theorem pue_not (ha : PE X a ta) : PE X (.UnaryOp .Not a pos) (uNotV ta) := by rw [uNotV_eq]; exact pe_not ha
theorem puw_or (ha : PT X a tA) (hb : PW X (.BoolOp .Or (b :: rest) pos) tB') : PW X (.BoolOp .Or (a :: b :: rest) pos) (uOr tA tB') := by rw [uOr_eq]; exact pw_or ha hb
theorem put_not (ha : PT X a tA) : PT X (.UnaryOp .Not a pos) (uNot tA) := pt_not ha
theorem pue_if {c : Expr} (hc : PT X c tA) (ha : PE X a ta) (hb : PE X b tb) : PE X (.IfExp c a b pos) (uIf tA ta tb) := by rw [uIf_eq]; exact pe_ifExp hc ha hb
theorem pus_if {c : Expr} {p q : List Stmt} {t u : TS} (hc : PT X c tA) (ha : PSs X p t) (hb : PSs X q u) : PS X (.If c p q pos) (uIfS tA t u) := by rw [uIfS_eq]; exact ps_if hc ha hb
end
def uAdd (K : PySem.W.Frag) : R2 := fun x y H Q => match x, y with
  | .int i, .int j => Q (.int (i + j)) H
  | .str i, .str j => i.length + j.length ≤ sizeLine ∧ Q (.str (i ++ j)) H
  | .ref l, .ref b => ∃ xs zs, H l = some (.lst xs) ∧ H b = some (.lst zs) ∧ xs.length + zs.length ≤ sizeLine ∧ ∀ p, H p = none → Q (.ref p) (upd H p (.lst (xs ++ zs)))
  | _, _ => False
def uSub : R2 := fun x y H Q => match x, y with
  | .int i, .int j => Q (.int (i - j)) H
  | _, _ => False
def uMul : R2 := fun x y H Q => match x, y with
  | .int i, .int j => CMul i j ∧ Q (.int (i * j)) H
  | _, _ => False
def uFdiv : R2 := fun x y H Q => match x, y with
  | .int i, .int j => CDiv i j ∧ Q (.int (i / j)) H
  | _, _ => False
def uMod : R2 := fun x y H Q => match x, y with
  | .int i, .int j => 0 < j ∧ Q (.int (i % j)) H
  | _, _ => False
def uPow : R2 := fun x y H Q => match x, y with
  | .int i, .int j => CPow i j ∧ Q (.int (i ^ j.toNat)) H
  | _, _ => False
def uCmpI (p : Int → Int → Bool) (q : List Nat → List Nat → Bool) : R2 := fun x y H Q => match x, y with
  | .int i, .int j => Q (.bl (p i j)) H
  | .str i, .str j => Q (.bl (q i.cps.toList j.cps.toList)) H
  | _, _ => False
abbrev uLt : R2 := uCmpI (fun i j => decide (i < j)) (fun i j => decide (i < j))
abbrev uLe : R2 := uCmpI (fun i j => decide (i ≤ j)) (fun i j => !decide (j < i))
abbrev uGt : R2 := uCmpI (fun i j => decide (j < i)) (fun i j => decide (j < i))
section
variable {X : Cx}
theorem ou_add : OpR X (binaryOp .Add) (uAdd X.K) := OpRi (op_add.or (op_add_str.or op_cat)) fun x y H Q h => by
  unfold uAdd at h
  split at h
  · exact .inl ⟨_, _, rfl, rfl, h⟩
  · exact .inr (.inl ⟨_, _, rfl, rfl, h⟩)
  · obtain ⟨xs, zs, h1, h2, h3, h4⟩ := h
    exact .inr (.inr ⟨_, _, xs, zs, rfl, rfl, h1, h2, h3, h4⟩)
  · exact h.elim
theorem ou_sub : OpR X (binaryOp .Sub) uSub := OpRi op_sub fun x y H Q h => by
  unfold uSub at h
  split at h
  · exact ⟨_, _, rfl, rfl, h⟩
  · exact h.elim
theorem ou_fdiv : OpR X (binaryOp .FloorDiv) uFdiv := OpRi op_fdiv fun x y H Q h => by
  unfold uFdiv at h
  split at h
  · exact ⟨_, _, rfl, rfl, h⟩
  · exact h.elim
theorem ou_mod : OpR X (binaryOp .Mod) uMod := OpRi op_mod fun x y H Q h => by
  unfold uMod at h
  split at h
  · exact ⟨_, _, rfl, rfl, h⟩
  · exact h.elim
theorem ou_pow : OpR X (binaryOp .Pow) uPow := OpRi op_pow fun x y H Q h => by
  unfold uPow at h
  split at h
  · exact ⟨_, _, rfl, rfl, h⟩
  · exact h.elim
theorem uCmp_or {p : Int → Int → Bool} {q : List Nat → List Nat → Bool} {f : Value → Value → Sem Value} (h1 : OpR X f (rI0 fun i j => .bl (p i j))) (h2 : OpR X f (fun x y H Q => ∃ i j, x = .str i ∧ y = .str j ∧ Q (.bl (q i.cps.toList j.cps.toList)) H)) : OpR X f (uCmpI p q) :=
  OpRi (h1.or h2) fun x y H Q h => by
  unfold uCmpI at h
  split at h
  · exact .inl ⟨_, _, rfl, rfl, h⟩
  · exact .inr ⟨_, _, rfl, rfl, h⟩
  · exact h.elim
theorem ou_lt : OpR X (compareOp .Lt) uLt := uCmp_or op_lt op_lt_str
theorem ou_le : OpR X (compareOp .LtE) uLe := uCmp_or op_le op_le_str
theorem ou_gt : OpR X (compareOp .Gt) uGt := uCmp_or op_gt op_gt_str
end
def seqOf (c : String) (o : Obj) : Option (List V) := match o with
  | ⟨.type d, none, .seq its _, _⟩ => if c = d ∧ its.size ≤ sizeLine then its.toList.mapM absV else none
  | _ => none
def kS (K : PySem.W.Frag) (c : String) (a : Addr) : Option (List V) := match K.lookup a with
  | some o => seqOf c o
  | none => none
def rdL (K : PySem.W.Frag) (H : Hp) (a : Addr) : Option (List V) := match H a with
  | some (.lst xs) => some xs
  | some (.frz _ (.lst xs)) => some xs
  | some _ => none
  | none => kS K "list" a
def rdT (K : PySem.W.Frag) (H : Hp) (a : Addr) : Option (List V) := match H a with
  | some (.tup xs) => some xs
  | some (.frz _ (.tup xs)) => some xs
  | some _ => none
  | none => kS K "tuple" a
def rdS (K : PySem.W.Frag) (H : Hp) (a : Addr) : Option (List V) := match rdL K H a with
  | some xs => some xs
  | none => rdT K H a
theorem mapM_vals : ∀ {us : List Value} {xs : List V}, us.mapM absV = some xs → Vals xs us := by
  intro us
  induction us with
  | nil => intro xs h; simp at h; subst h; exact .nil
  | cons u r ih =>
    intro xs h
    rw [List.mapM_cons] at h
    cases e1 : absV u with
    | none => rw [e1] at h; cases h
    | some x =>
      cases e2 : r.mapM absV with
      | none => rw [e1, e2] at h; cases h
      | some ys =>
        rw [e1, e2] at h
        cases h
        refine .cons ?_ (ih e2)
        cases u <;> simp [absV] at e1 <;> subst e1 <;> first | rfl | exact ⟨_, rfl⟩
theorem kS_spec {K : PySem.W.Frag} {c : String} {a : Addr} {xs : List V} (h : kS K c a = some xs) : ∃ (o : Obj) (its : Array Value) (n : Nat), K.lookup a = some o ∧ o.cls = .type c ∧ o.dict = none ∧ o.data = .seq its n ∧ its.size ≤ sizeLine ∧ Vals xs its.toList := by
  unfold kS at h
  split at h
  · rename_i o e
    unfold seqOf at h
    split at h
    · split at h
      · rename_i hc
        obtain ⟨rfl, hz⟩ := hc
        exact ⟨_, _, _, e, rfl, rfl, rfl, hz, mapM_vals h⟩
      · cases h
    · cases h
  · cases h
theorem rdL_sq {K : PySem.W.Frag} {H : Hp} {a : Addr} {xs : List V} (h : rdL K H a = some xs) : SqL K H a xs := by
  unfold rdL at h
  split at h
  · cases h; exact .inl (.inl (by assumption))
  · cases h; exact .inl (.inr ⟨_, by assumption⟩)
  · cases h
  · exact .inr (kS_spec h)
theorem rdT_sq {K : PySem.W.Frag} {H : Hp} {a : Addr} {xs : List V} (h : rdT K H a = some xs) : SqT K H a xs := by
  unfold rdT at h
  split at h
  · cases h; exact .inl (.inl (by assumption))
  · cases h; exact .inl (.inr ⟨_, by assumption⟩)
  · cases h
  · obtain ⟨o, its, n, h1, h2, h3, h4, h5, h6⟩ := kS_spec h
    exact .inr ⟨o, its, n, h1, h2, h4, h5, h6⟩
theorem rdL_of {K : PySem.W.Frag} {H : Hp} {a : Addr} {xs : List V} (h : H a = some (.lst xs)) : rdL K H a = some xs := by unfold rdL; rw [h]
theorem rdT_of {K : PySem.W.Frag} {H : Hp} {a : Addr} {xs : List V} (h : H a = some (.tup xs)) : rdT K H a = some xs := by unfold rdT; rw [h]
/-- a list or a tuple is read -/
def oS (K : PySem.W.Frag) (H : Hp) (p : Addr) (f : List V → Prop) : Prop := ∃ xs, (SqL K H p xs ∨ SqT K H p xs) ∧ f xs
abbrev Ex (H H' : Hp) : Prop := ∀ a o, H a = some o → H' a = some o
theorem Ex.refl (H : Hp) : Ex H H := fun _ _ h => h
theorem Ex.trans {H H1 H2 : Hp} (a : Ex H H1) (b : Ex H1 H2) : Ex H H2 := fun x o h => b x o (a x o h)
theorem Ex.new {H : Hp} {p : Addr} {o : HO} (h : H p = none) : Ex H (upd H p o) := fun a u e => by
  rw [upd_ne (ne_of_none e h)]
  exact e
theorem Ex.mut {H H' : Hp} {p : Addr} {o : HO} (e : Ex H H') (h : H p = none) : Ex H (upd H' p o) := fun a u ha => by
  rw [upd_ne (ne_of_none ha h)]
  exact e a u ha
theorem Ex.free {H H' : Hp} (e : Ex H H') {p : Addr} (h : H' p = none) : H p = none := by
  cases h1 : H p with
  | none => rfl
  | some o => rw [e p o h1] at h; cases h
/-- all but b stays -/
def Fr (b : Addr) (H H' : Hp) : Prop := ∀ a o, H a = some o → a ≠ b → H' a = some o
theorem Fr.refl (b : Addr) (H : Hp) : Fr b H H := fun _ _ h _ => h
theorem Fr.trans {b : Addr} {H H1 H2 : Hp} (x : Fr b H H1) (y : Fr b H1 H2) : Fr b H H2 := fun a o h n => y a o (x a o h n) n
theorem Fr.ex {b : Addr} {H H1 : Hp} (x : Ex H H1) : Fr b H H1 := fun a o h _ => x a o h
theorem Fr.new {b p : Addr} {H : Hp} {o : HO} (h : H p = none) : Fr b H (upd H p o) := Fr.ex (Ex.new h)
def uIn (K : PySem.W.Frag) (neg : Bool) : R2 := fun x y H Q => match y with
  | .str z => (match x with
    | .str w => (match w.cps.toList with
      | [c] => Q (.bl (if neg then !decide (c ∈ z.cps.toList) else decide (c ∈ z.cps.toList))) H
      | _ => False)
    | _ => False)
  | .ref p => oS K H p fun xs => flatV x = true ∧ xs.all flatV = true ∧ Q (.bl (if neg then !inV x xs else inV x xs)) H
  | _ => False
theorem str_one {w : Str} {c : Nat} (h : w.cps.toList = [c]) : w = ⟨#[c]⟩ := by
  obtain ⟨⟨l⟩⟩ := w
  have h : l = [c] := h
  subst h
  rfl
theorem uIn_sp {K : PySem.W.Frag} {neg : Bool} {x y : V} {H : Hp} {Q : VK} (h : uIn K neg x y H Q) :
    (∃ (c : Nat) (z : Str), x = .str ⟨#[c]⟩ ∧ y = .str z ∧ Q (.bl (if neg then !decide (c ∈ z.cps.toList) else decide (c ∈ z.cps.toList))) H) ∨ rIn K neg x y H Q := by
  unfold uIn at h
  split at h
  · split at h
    · split at h
      · rename_i e
        exact .inl ⟨_, _, by rw [str_one e], rfl, h⟩
      · exact h.elim
    · exact h.elim
  · obtain ⟨xs, e, h1, h2, h3⟩ := h
    exact .inr ⟨_, _, rfl, e, h1, h2, h3⟩
  · exact h.elim
section
variable {X : Cx}
theorem ou_in : OpR X (compareOp .In) (uIn X.K false) := OpRi (op_in_sign.or op_in_seq) fun x y H Q h => uIn_sp h
end
/-- a < b < c -/
def uChain (r r' : R2) (ta tb tc : TE) : TE := fun σ H Q => ta σ H fun x H1 => tb σ H1 fun y H2 => r x y H2 fun z H3 => bV z (tc σ H3 fun w H4 => r' y w H4 Q) (Q (.bl false) H3)
theorem uChain_eq (r r' : R2) (ta tb tc : TE) : uChain r r' ta tb tc = tChain r r' ta tb tc := by
  funext σ H Q; unfold uChain tChain
  congr 1; funext x H1; congr 1; funext y H2
  rw [k_and]
section
variable {X : Cx} {a b c : Expr} {ta tb tc : TE} {pos : Pos}
theorem pue_chain {op op' : CmpOp} {r r' : R2} (ho : OpR X (compareOp op) r) (ho' : OpR X (compareOp op') r') (ha : PE X a ta) (hb : PE X b tb) (hc : PE X c tc) (hl : lastMarks [op, op'] [b, c] = false := by rfl) :
    PE X (.Compare a [op, op'] [b, c] pos) (uChain r r' ta tb tc) := by rw [uChain_eq]; exact pe_chain ho ho' ha hb hc hl
end
def uIx (K : PySem.W.Frag) : R2 := fun x y H Q => match x, y with
  | .str z, .int i => z.length ≤ sizeLine ∧ oK (atI z.cps.toList i) fun c => Q (.str ⟨#[c]⟩) H
  | .ref p, .int i => oS K H p fun xs => oK (atI xs i) fun v => Q v H
  | _, _ => False
theorem iu_ix {X : Cx} : IxR X (uIx X.K) := IxRi ix_seq fun x y H Q h => by
  unfold uIx at h
  split at h
  · obtain ⟨h1, h2⟩ := h
    obtain ⟨c, e, h2⟩ := oK_ex h2
    exact .inr (.inr ⟨_, _, _, rfl, rfl, h1, e, h2⟩)
  · obtain ⟨xs, e, h⟩ := h
    obtain ⟨v, e2, h⟩ := oK_ex h
    rcases e with q | q
    · exact .inl ⟨_, _, _, _, rfl, rfl, q, e2, h⟩
    · exact .inr (.inl ⟨_, _, _, _, rfl, rfl, q, e2, h⟩)
  · exact h.elim
def uPart (t : TE) : TO := fun σ H Q => t σ H fun x H1 => match x with | .int i => Q (some i) H1 | _ => False
theorem pou_some {X : Cx} {e : Expr} {te : TE} (h : PE X e te) : PO X (some e) (uPart te) := by
  have : uPart te = tPart te := by
    funext σ H Q; unfold uPart tPart; congr 1; funext x H1
    cases x <;> simp
  rw [this]; exact po_some h
/-- texts and lists -/
def uSl (K : PySem.W.Frag) : V → Option Int → Option Int → Hp → VK → Prop := fun x lo hi H Q => match x with
  | .str z => z.length ≤ sizeLine ∧ Q (.str (cutS z lo hi)) H
  | .ref a => (match rdL K H a with
    | some xs => ∀ p, H p = none → Q (.ref p) (upd H p (.lst (cutV xs lo hi)))
    | none => (match rdT K H a with
      | some xs => ¬ (HT.sIx xs.length 0 lo = 0 ∧ HT.sIx xs.length xs.length hi = xs.length) ∧ ∀ p, H p = none → Q (.ref p) (upd H p (.tup (cutV xs lo hi)))
      | none => False))
  | _ => False
theorem su_sl {X : Cx} : L2.SlR X (uSl X.K) := SlRi (sl_str.or (sl_list.or sl_tup)) fun x lo hi H Q h => by
  unfold uSl at h
  split at h
  · exact .inl ⟨_, rfl, h.1, h.2⟩
  · split at h
    · exact .inr (.inl ⟨_, _, rfl, rdL_sq (by assumption), h⟩)
    · split at h
      · exact .inr (.inr ⟨_, _, rfl, rdT_sq (by assumption), h.1, h.2⟩)
      · exact h.elim
  · exact h.elim
def uLen (K : PySem.W.Frag) : List V → Hp → VK → Prop := fun xs H Q => match xs with
  | [.str z] => z.length ≤ sizeLine ∧ Q (.int z.length) H
  | [.ref p] => oS K H p fun ys => Q (.int ys.length) H
  | _ => False
def uMax2 : List V → Hp → VK → Prop := fun xs H Q => match xs with
  | [.int i, .int j] => Q (.int (if j > i then j else i)) H
  | _ => False
def uMin2 : List V → Hp → VK → Prop := fun xs H Q => match xs with
  | [.int i, .int j] => Q (.int (if j < i then j else i)) H
  | _ => False
section
variable {X : Cx}
theorem cu_len : CallR X (.builtin "len") (uLen X.K) := CallRi call_len fun xs H Q h => by
  unfold uLen at h
  split at h
  · exact ⟨_, _, rfl, ⟨h.1, rfl⟩, h.2⟩
  · obtain ⟨ys, e, h⟩ := h
    rcases e with q | q
    · exact ⟨_, _, rfl, .inl ⟨_, q, rfl⟩, h⟩
    · exact ⟨_, _, rfl, .inr ⟨_, q, rfl⟩, h⟩
  · exact h.elim
theorem cu_max (hc : X.calm = true) : CallR X (.builtin "max") uMax2 := CallRi (call_max2 hc) fun xs H Q h => by
  unfold uMax2 at h
  split at h
  · exact ⟨_, _, rfl, h⟩
  · exact h.elim
theorem cu_min (hc : X.calm = true) : CallR X (.builtin "min") uMin2 := CallRi (call_min2 hc) fun xs H Q h => by
  unfold uMin2 at h
  split at h
  · exact ⟨_, _, rfl, h⟩
  · exact h.elim
end
inductive Ty | non | bl | int | str | lst | tup | dct
  deriving DecidableEq
def Ty.nm : Ty → String | .non => "NoneType" | .bl => "bool" | .int => "int" | .str => "str" | .lst => "list" | .tup => "tuple" | .dct => "dict"
def tyO : HO → Option Ty
  | .lst _ => some .lst
  | .tup _ => some .tup
  | .dK _ => some .dct
  | .dT _ => some .dct
  | .frz _ (.lst _) => some .lst
  | .frz _ (.tup _) => some .tup
  | _ => none
def tyOf (H : Hp) : V → Option Ty
  | .non => some .non | .bl _ => some .bl | .int _ => some .int | .str _ => some .str
  | .ref a => (H a).bind tyO
  | _ => none
theorem tyOf_x {K : PySem.W.Frag} {H : Hp} {v : V} {t : Ty} (h : tyOf H v = some t) : TyX K H v (.type t.nm) := by
  cases v with
  | non => cases h; exact .base .non
  | bl b => cases h; exact .base (.bl b)
  | int i => cases h; exact .base (.int i)
  | str x => cases h; exact .base (.str x)
  | byt b => cases h
  | flt b => cases h
  | ty n => cases h
  | ref a =>
    have h : (H a).bind tyO = some t := h
    cases e : H a with
    | none => rw [e] at h; cases h
    | some o =>
      rw [e] at h
      have h : tyO o = some t := h
      unfold tyO at h
      split at h <;> first | (cases h; done) | (cases h; first | exact .base (.lst e) | exact .base (.tup e) | exact .base (.dK e) | exact .base (.dT e) | exact .base (.frz e) | exact .fTuple e)
/-- is a thing of the one kind a thing of the other -/
def isT (t c : Ty) : Bool := decide (t = c) || (decide (t = .bl) && decide (c = .int))
theorem isT_kit (t c : Ty) : kitB t.nm c.nm = some (isT t c) := by cases t <;> cases c <;> decide +kernel
def uIsi (c : Ty) (te : TE) : TE := fun σ H Q => te σ H fun x H1 => oK (tyOf H1 x) fun t => Q (.bl (isT t c)) H1
def rIsiC (c : Ty) : List V → Hp → VK → Prop := fun xs H Q => match xs with
  | [x, y] => y = .ty c.nm ∧ oK (tyOf H x) fun t => Q (.bl (isT t c)) H
  | _ => False
def uIsiT (cs : List Ty) : List V → Hp → VK → Prop := fun xs H Q => match xs with
  | [x, .ref p] => H p = some (.tup (cs.map fun c => .ty c.nm)) ∧ oK (tyOf H x) fun t => Q (.bl (cs.any (isT t))) H
  | _ => False
theorem kitAny_any {K : PySem.W.Frag} (t : Ty) : ∀ cs : List Ty, PySem.W.kitAny K (.type t.nm) (cs.map fun c => Value.type c.nm) = some (cs.any (isT t))
  | [] => rfl
  | c :: cs => by
    have ih := kitAny_any (K := K) t cs
    have h1 := kit_ty (K := K) (isT_kit t c)
    rw [List.map_cons, List.any_cons]
    cases hb : isT t c with
    | true => exact kitAny_cons (h1.trans (by rw [hb])) (fun z => Bool.noConfusion z) fun _ => rfl
    | false => exact kitAny_cons (h1.trans (by rw [hb])) (fun _ => by rw [Bool.false_or]; exact ih) fun z => Bool.noConfusion z
theorem pairedCls : ∀ cs : List Ty, Paired ClsV (cs.map fun c => V.ty c.nm) (cs.map fun c => Value.type c.nm)
  | [] => .nil
  | c :: cs => .cons (.ty _) (pairedCls cs)
theorem uIsi_eq (c : Ty) (te : TE) : uIsi c te = tCB (rIsiC c) (tCons te (tCons (tC (.ty c.nm)) tNil)) := by
  funext σ H Q
  show te σ H _ = te σ H _
  congr 1; funext x H1
  show _ = (V.ty c.nm = V.ty c.nm ∧ _)
  simp
section
variable {X : Cx} {e : Expr} {te : TE} {p pos q : Pos}
theorem cu_isi (c : Ty) : CallR X (.builtin "isinstance") (rIsiC c) := CallRi call_isi fun xs H Q h => by
  unfold rIsiC at h
  split at h
  · obtain ⟨rfl, h⟩ := h
    obtain ⟨t, e, h⟩ := oK_ex h
    exact ⟨_, _, _, _, _, rfl, .ty _, tyOf_x e, kit_ty (isT_kit _ _), h⟩
  · exact h.elim
theorem cu_isiT (cs : List Ty) : CallR X (.builtin "isinstance") (uIsiT cs) := CallRi call_isiT fun xs H Q h => by
  unfold uIsiT at h
  split at h
  · obtain ⟨h1, h⟩ := h
    obtain ⟨t, e, h⟩ := oK_ex h
    exact ⟨_, _, _, _, _, _, rfl, h1, pairedCls cs, tyOf_x e, kitAny_any _ _, h⟩
  · exact h.elim
theorem pue_isi {n : Str} (c : Ty) (he : PE X e te) (hg : Gl X "isinstance") (hm : X.mg "isinstance" = none) (hn : Gl X n) (hmn : X.mg n = none) (hv : bootBuiltins n = some (.type c.nm)) (hnn : n ≠ "__name__" := by decide) (hnd : (n == ("__debug__" : Str)) = false := by decide)
    (hs1 : starEach [e, .Name n q] X.env = (false, eval e X.env) :: starEach [.Name n q] X.env := by rfl) (hs2 : starEach [.Name n q] X.env = (false, eval (.Name n q) X.env) :: starEach [] X.env := by rfl) (hs3 : ((backTo pos (starEach [.Name n q] X.env)).any fun x => x.fst) = false := by rfl) :
    PE X (.Call (.Name "isinstance" p) [e, .Name n q] [] pos) (uIsi c te) := by
  rw [uIsi_eq]
  have h2 : PE X (.Name n q) (tC (.ty c.nm)) := pe_bltn hn hmn hv rfl hnn hnd
  exact pe_callB (cu_isi c) hg hm (by decide +kernel) (pa_cons he (pa_cons h2 pa_nil hs2) hs1) (by decide) (by decide) hs1 hs3
end
def chars (z : Str) : List V := z.cps.toList.map fun c => V.str ⟨#[c]⟩
/-- what a walk over a value gives -/
def items (K : PySem.W.Frag) (H : Hp) : V → Option (List V)
  | .str z => some (chars z)
  | .ref a => rdS K H a
  | _ => none
/-- the walk over x at H1 -/
def goIt (K : PySem.W.Frag) (x : V) (H1 : Hp) (R : It → Hp → Prop) : Prop := match x with
  | .str z => R (Its z) H1
  | .ref a => (match rdL K H1 a with
    | some _ => R (Itl K a) H1
    | none => (match rdT K H1 a with
      | some _ => R (Itt K a) H1
      | none => False))
  | _ => False
def uIter (K : PySem.W.Frag) (te : TE) : TI := fun σ H R => te σ H fun x H1 => goIt K x H1 R
theorem piu {X : Cx} {tg e : Expr} {te : TE} (he : PE X e te) : PI X tg e (uIter X.K te) := by
  refine ⟨fun pins s σ H R I h => ?_⟩
  refine thn (he.run pins s σ H _ I h) fun v s1 ⟨y, H1, I1, r1, q⟩ => ?_
  dsimp only at q
  unfold goIt at q
  split at q
  · rename_i x
    obtain ⟨t, rfl⟩ := r1
    cases ha : x.cps.all (· < 128)
    · exact wpAny_pyIter_wide ha (pi_one (tk := s1.toks) I1 _ (turn_str _ x t "str_iterator" (.inr rfl)) ⟨_, Heap.get?_push_size _ rfl, rfl, rfl⟩ q)
    · exact wpAny_pyIter_ascii ha (pi_one (tk := s1.toks) I1 _ (turn_str _ x t "str_ascii_iterator" (.inl rfl)) ⟨_, Heap.get?_push_size _ rfl, rfl, rfl⟩ q)
  · rename_i a
    split at q
    · rename_i xs hx
      have hq := rdL_sq hx
      cases r1
      obtain ⟨its, rv, p, hz⟩ := I1.list hq
      refine wpAny_pyIter_list p.isList ?_
      refine ⟨s1.heap.objs.size, [s1.heap.objs.size], _, _, H1, rfl, I1.kept (t' := s1.toks) fun b o e => Heap.get?_push_of_some _ e, turn_list a _, ⟨_, Heap.get?_push_size _ rfl, rfl, rfl⟩, fun b hb => ?_, q⟩
      have e : b = s1.heap.objs.size := by simpa using hb
      subst e
      exact I1.fpOk (Nat.le_refl _) (I1.hok.fresh (Nat.le_refl _))
    · split at q
      · rename_i xs hx
        have hq := rdT_sq hx
        cases r1
        obtain ⟨its, rv, p, hz⟩ := I1.tuple hq
        refine wpAny_pyIter_tuple (show s1.heap.IsTuple a its.toArray from p) ?_
        refine ⟨s1.heap.objs.size, [s1.heap.objs.size], _, _, H1, rfl, I1.kept (t' := s1.toks) fun b o e => Heap.get?_push_of_some _ e, turn_tuple a _, ⟨_, Heap.get?_push_size _ rfl, rfl, rfl⟩, fun b hb => ?_, q⟩
        have e : b = s1.heap.objs.size := by simpa using hb
        subst e
        exact I1.fpOk (Nat.le_refl _) (I1.hok.fresh (Nat.le_refl _))
      · exact q.elim
  · exact q.elim
theorem walk_chars {z : Str} : Walk (Its z) (chars z).length (fun _ => True) (YAt (chars z)) := by
  have hl : (chars z).length = z.cps.size := by unfold chars; simp
  rw [hl]
  refine ⟨fun _ _ hi _ => hi, fun _ _ => Nat.le_refl _, fun i H v H' hi _ y => ?_⟩
  obtain ⟨e, c, hc, rfl⟩ := y
  refine ⟨e, ?_⟩
  unfold chars
  rw [List.getElem?_map, Array.getElem?_toList, hc]
  rfl
/-- what is walked: the value, its items, what must stay -/
inductive Src (K : PySem.W.Frag) : V → It → List V → (Hp → Prop) → Prop
  | str (z : Str) : Src K (.str z) (Its z) (chars z) (fun _ => True)
  | lst (a : Addr) (xs : List V) : Src K (.ref a) (Itl K a) xs (fun H => rdL K H a = some xs)
  | tup (a : Addr) (xs : List V) : Src K (.ref a) (Itt K a) xs (fun H => rdL K H a = none ∧ rdT K H a = some xs)
theorem Src.walk {K : PySem.W.Frag} {x : V} {J : It} {xs : List V} {G : Hp → Prop} (S : Src K x J xs G) : Walk J xs.length G (YAt xs) := by
  cases S with
  | str z => exact walk_chars
  | lst a => exact walk_list.mono (fun _ g => rdL_sq g) fun _ _ _ _ _ _ y => y
  | tup a => exact walk_tup.mono (fun _ g => rdT_sq g.2) fun _ _ _ _ _ _ y => y
theorem Src.go {K : PySem.W.Frag} {x : V} {J : It} {xs : List V} {G : Hp → Prop} (S : Src K x J xs G) {H1 : Hp} (g : G H1) {R : It → Hp → Prop} (h : R J H1) : goIt K x H1 R := by
  cases S with
  | str z => exact h
  | lst a => show match rdL K H1 a with | some _ => _ | none => _; rw [show rdL K H1 a = some xs from g]; exact h
  | tup a =>
    show match rdL K H1 a with | some _ => _ | none => _
    rw [g.1]
    show match rdT K H1 a with | some _ => _ | none => _
    rw [g.2]; exact h
/-- a comprehension over it -/
theorem lc_src {K : PySem.W.Frag} {x : V} {J : It} {xs : List V} {G : Hp → Prop} (S : Src K x J xs G) {g : TG} {tt : TT} {te : TE} {vs : List Nat} {σ : St} {H1 : Hp} {Q : VK} (hG : G H1) (Pv : Addr → Nat → Hp → Prop)
    (h0 : ∀ D, H1 D = none → Pv D 0 (upd H1 D (.lst []))) (hst : ∀ D i H, i ≤ xs.length → Pv D i H → G H)
    (hs : ∀ D i y H, xs[i]? = some y → Pv D i H → g y (wipe σ vs) H fun σ2 H2 => wipe σ2 vs = wipe σ vs ∧ tt σ2 H2 fun b H3 =>
      if b = true then te σ2 H3 fun y H4 => ∃ acc, H4 D = some (.lst acc) ∧ acc.length < sizeLine ∧ Pv D (i + 1) (upd H4 D (.lst (acc ++ [y]))) else Pv D (i + 1) H3) (hd : ∀ D H, H1 D = none → Pv D xs.length H → Q (.ref D) H) :
    goIt K x H1 fun J H1 => ∀ D, H1 D = none → ∃ W : Nat → Nat → Hp → Prop, (∃ m, W 0 m (upd H1 D (.lst []))) ∧ ∀ i m H, W i m H →
      (J.stop i H ∧ Q (.ref D) H) ∨ (J.go i H ∧ ∃ Nx : Hp → Prop, (∀ H', Nx H' → ∃ m', m' < m ∧ W (i + 1) m' H') ∧ ∀ x H', J.yld i H x H' → g x (wipe σ vs) H' fun σ2 H2 => wipe σ2 vs = wipe σ vs ∧ tt σ2 H2 fun b H3 =>
        if b = true then te σ2 H3 fun y H4 => ∃ acc, H4 D = some (.lst acc) ∧ acc.length < sizeLine ∧ Nx (upd H4 D (.lst (acc ++ [y]))) else Nx H3) :=
  S.go hG fun D hD => lc_it S.walk (Pv D) (h0 D hD) (hst D) (fun i y H H' hi p q => by obtain ⟨e, hy⟩ := q; subst e; exact hs D i y _ hy p) fun H p => hd D H hD p
/-- .. whose items are flat: f x where c x -/
theorem take_map {α : Type} {c : V → Bool} {f : V → α} {xs : List V} {i : Nat} {y : V} (h : xs[i]? = some y) :
    (((xs.take (i + 1)).filter c).map f) = ((xs.take i).filter c).map f ++ (if c y then [f y] else []) := by
  rw [List.take_add_one, h, List.filter_append, List.map_append]
  show _ ++ List.map f (List.filter c [y]) = _
  rw [List.filter_cons]
  cases hc : c y <;> simp
theorem lc_flat {K : PySem.W.Frag} {x : V} {J : It} {xs : List V} {G : Hp → Prop} (S : Src K x J xs G) {j : Nat} {tt : TT} {te : TE} {vs : List Nat} {σ : St} {H1 : Hp} {Q : VK} (hG : G H1) (hGx : ∀ H', Ex H1 H' → G H') (c : V → Bool) (f : V → V) (hz : xs.length < sizeLine)
    (hw : ∀ y, wipe ((wipe σ vs).set j (some y)) vs = wipe σ vs)
    (ht : ∀ (i : Nat) y H', xs[i]? = some y → Ex H1 H' → ∀ R : Bool → Hp → Prop, (∀ H2, Ex H' H2 → R (c y) H2) → tt ((wipe σ vs).set j (some y)) H' R)
    (he : ∀ (i : Nat) y H', xs[i]? = some y → c y = true → Ex H1 H' → ∀ R : VK, (∀ H2, Ex H' H2 → R (f y) H2) → te ((wipe σ vs).set j (some y)) H' R)
    (hd : ∀ D H, H1 D = none → Ex H1 H → H D = some (.lst ((xs.filter c).map f)) → Q (.ref D) H) :
    goIt K x H1 fun J H1 => ∀ D, H1 D = none → ∃ W : Nat → Nat → Hp → Prop, (∃ m, W 0 m (upd H1 D (.lst []))) ∧ ∀ i m H, W i m H →
      (J.stop i H ∧ Q (.ref D) H) ∨ (J.go i H ∧ ∃ Nx : Hp → Prop, (∀ H', Nx H' → ∃ m', m' < m ∧ W (i + 1) m' H') ∧ ∀ x H', J.yld i H x H' → gName j x (wipe σ vs) H' fun σ2 H2 => wipe σ2 vs = wipe σ vs ∧ tt σ2 H2 fun b H3 =>
        if b = true then te σ2 H3 fun y H4 => ∃ acc, H4 D = some (.lst acc) ∧ acc.length < sizeLine ∧ Nx (upd H4 D (.lst (acc ++ [y]))) else Nx H3) := by
  refine lc_src S hG (fun D i H => H1 D = none ∧ Ex H1 H ∧ H D = some (.lst (((xs.take i).filter c).map f))) (fun D hD => ⟨hD, Ex.new hD, upd_same⟩) (fun D i H _ p => hGx H p.2.1) ?_ ?_
  · intro D i y H hy ⟨hD, e, hl⟩
    have hi : i < xs.length := (List.getElem?_eq_some_iff.mp hy).1
    refine ⟨hw y, ht i y H hy e _ fun H3 e3 => ?_⟩
    have tm := take_map (c := c) (f := f) hy
    cases hc : c y with
    | false =>
      rw [hc] at tm
      rw [if_neg (by decide)]
      refine ⟨hD, e.trans e3, ?_⟩
      rw [tm]; simp only [Bool.false_eq_true, if_false, List.append_nil]; exact e3 D _ hl
    | true =>
      rw [hc] at tm
      rw [if_pos rfl]
      refine he i y H3 hy hc (e.trans e3) _ fun H4 e4 => ⟨_, e4 D _ (e3 D _ hl), ?_, hD, Ex.mut ((e.trans e3).trans e4) hD, ?_⟩
      · rw [List.length_map]
        have := List.length_filter_le c (xs.take i)
        rw [List.length_take] at this
        omega
      · rw [tm]; simp only [if_true]; exact upd_same
  · intro D H hD ⟨_, e, hl⟩
    rw [List.take_length] at hl
    exact hd D H hD e hl
def uAll (K : PySem.W.Frag) : List V → Hp → VK → Prop := fun xs H Q => match xs with
  | [.ref a] => oK (rdL K H a) fun ys => ∃ bs : List Bool, ys = bs.map V.bl ∧ Q (.bl (bs.all id)) H
  | _ => False
def uAny (K : PySem.W.Frag) : List V → Hp → VK → Prop := fun xs H Q => match xs with
  | [.ref a] => oK (rdL K H a) fun ys => ∃ bs : List Bool, ys = bs.map V.bl ∧ Q (.bl (bs.any id)) H
  | _ => False
def uList (K : PySem.W.Frag) : List V → Hp → VK → Prop := fun xs H Q => match xs with
  | [.ref a] => oS K H a fun ys => ∀ l, H l = none → Q (.ref l) (upd H l (.lst ys))
  | _ => False
/-- a list that may be changed -/
def mutL (H : Hp) (l : Addr) : Option (List V) := match H l with
  | some (.lst xs) => some xs
  | _ => none
theorem mutL_of {H : Hp} {l : Addr} {xs : List V} (h : H l = some (.lst xs)) : mutL H l = some xs := by unfold mutL; rw [h]
theorem of_mutL {H : Hp} {l : Addr} {xs : List V} (h : mutL H l = some xs) : H l = some (.lst xs) := by
  unfold mutL at h
  split at h
  · cases h; assumption
  · cases h
def uAppend : V → List V → Hp → VK → Prop := fun x vs H Q => match x, vs with
  | .ref l, [y] => oK (mutL H l) fun xs => xs.length < sizeLine ∧ Q .non (upd H l (.lst (xs ++ [y])))
  | _, _ => False
def uSetL : V → V → V → Hp → (Hp → Prop) → Prop := fun o i v H Q => match o, i with
  | .ref p, .int k => oK (mutL H p) fun xs => oK (ixN xs.length k) fun j => Q (upd H p (.lst (xs.set j v)))
  | _, _ => False
def uNeg : V → Hp → VK → Prop := fun x H Q => match x with
  | .int i => Q (.int (-i)) H
  | _ => False
section
variable {X : Cx}
theorem cu_all (hc : X.calm = true) : CallR X (.builtin "all") (uAll X.K) := CallRi (cr_all hc) fun xs H Q h => by
  unfold uAll at h
  split at h
  · obtain ⟨ys, e, bs, rfl, h⟩ := oK_ex h
    exact ⟨_, bs, rfl, rdL_sq e, h⟩
  · exact h.elim
theorem cu_any (hc : X.calm = true) : CallR X (.builtin "any") (uAny X.K) := CallRi (cr_any hc) fun xs H Q h => by
  unfold uAny at h
  split at h
  · obtain ⟨ys, e, bs, rfl, h⟩ := oK_ex h
    exact ⟨_, bs, rfl, rdL_sq e, h⟩
  · exact h.elim
theorem cu_list : CallR X (.type "list") (uList X.K) := CallRi call_list_of fun xs H Q h => by
  unfold uList at h
  split at h
  · obtain ⟨ys, e, h⟩ := h
    exact ⟨_, _, rfl, e, h⟩
  · exact h.elim
theorem mu_append : MtR X "list.append" uAppend := MtRi (r := rAppend) mt_append fun x xs H Q h => by
  unfold uAppend at h
  split at h
  · obtain ⟨xs, e, h1, h2⟩ := oK_ex h
    exact ⟨_, _, _, rfl, rfl, of_mutL e, h1, h2⟩
  · exact h.elim
theorem setu : PSet X uSetL := fun pins s σ H o i v ov iv u Q I ro ri rv h => set_list pins s σ H o i v ov iv u Q I ro ri rv (by
  unfold uSetL at h
  split at h
  · obtain ⟨xs, e, h⟩ := oK_ex h
    obtain ⟨j, e2, h⟩ := oK_ex h
    exact ⟨_, _, _, _, rfl, rfl, of_mutL e, e2, h⟩
  · exact h.elim)
theorem ou_neg : UnR X (unaryOp .USub) uNeg := fun pins s σ H x v Q I r h => un_neg pins s σ H x v Q I r (by
  unfold uNeg at h
  split at h
  · exact ⟨_, rfl, h⟩
  · exact h.elim)
end
abbrev sl (z : Str) : List Nat := z.cps.toList
theorem sl_inj {a b : Str} (h : sl a = sl b) : a = b := by
  obtain ⟨⟨l⟩⟩ := a
  obtain ⟨⟨m⟩⟩ := b
  have h : l = m := h
  subst h; rfl
theorem sl_len (z : Str) : z.length = (sl z).length := rfl
theorem sl_app (a b : Str) : sl (a ++ b) = sl a ++ sl b := TL.tl_append a b
/-- small sizes -/
theorem szl {n : Nat} (h : n ≤ 100000) : n ≤ sizeLine := Nat.le_trans h (by decide)
/-- an item of a list at a drawn place -/
theorem pick {α : Type} {xs : List α} {r : Int} (h0 : 0 ≤ r) (h1 : r < xs.length) : ∃ v, atI xs r = some v ∧ v ∈ xs := by
  have hj : r.toNat < xs.length := by omega
  refine ⟨xs[r.toNat], ?_, List.getElem_mem hj⟩
  unfold atI ixN
  rw [if_pos h0, if_pos h1]
  simp [hj]
def ScriptAt (K : PySem.W.Frag) (H : Hp) (a : Addr) (ns : List Int) : Prop :=
  (∃ o, H a = some (.frz o (.lst (ns.map V.int)))) ∨
    ∃ (o : Obj) (its : Array Value) (n : Nat), K.lookup a = some o ∧ o.cls = .type "list" ∧ o.dict = none ∧ o.data = .seq its n ∧ its.size ≤ sizeLine ∧ Vals (ns.map V.int) its.toList
theorem script_of {K : PySem.W.Frag} {H : Hp} {a : Addr} {ns : List Int} (hO : Only H) (hS : SqL K H a (ns.map V.int)) : ScriptAt K H a ns := by
  rcases hS with (h | ⟨o, h⟩) | h
  · rcases hO a with z | ⟨o, xs, z⟩
    · rw [h] at z; cases z
    · rw [h] at z; cases z
  · exact .inl ⟨o, h⟩
  · exact .inr h
theorem ScriptAt.sq {K : PySem.W.Frag} {H : Hp} {a : Addr} {ns : List Int} (h : ScriptAt K H a ns) : SqL K H a (ns.map V.int) := by
  rcases h with ⟨o, h⟩ | h
  · exact .inl (.inr ⟨o, h⟩)
  · exact .inr h
theorem ScriptAt.ex {K : PySem.W.Frag} {H H' : Hp} {a : Addr} {ns : List Int} (h : ScriptAt K H a ns) (e : Ex H H') : ScriptAt K H' a ns := by
  rcases h with ⟨o, h⟩ | h
  · exact .inl ⟨o, e _ _ h⟩
  · exact .inr h
theorem ScriptAt.fr {K : PySem.W.Frag} {H H' : Hp} {a b : Addr} {ns : List Int} {xs : List V} (h : ScriptAt K H a ns) (e : Fr b H H') (hb : H b = some (.lst xs)) : ScriptAt K H' a ns := by
  rcases h with ⟨o, h⟩ | h
  · exact .inl ⟨o, e _ _ h (ne_of h hb (by intro z; cases z))⟩
  · exact .inr h
/-- all signs are code points -/
def sok (z : Str) : Prop := ∀ c ∈ sl z, c < 1114112
instance (z : Str) : Decidable (sok z) := inferInstanceAs (Decidable (∀ c ∈ sl z, c < 1114112))
end U
namespace U
open PySem PySem.Spec PyProof.Rows L2
structure BaseC (K : PySem.W.Frag) (C0 : Addr) : Prop where
  ga : PySem.W.specialIn K (.ref C0) "__getattribute__" = some (some (.builtin "type.__getattribute__"))
  rd : ∃ mc, PySem.W.readsIn K C0 mc = true ∧ PySem.W.findCls K (.ref C0) mc "__init__" = some (.val (.builtin "ValueError.__init__"))
theorem pe_binit {X : Cx} {x : Str} {C0 : Addr} {e : Expr} {es : List Expr} {ta : TA} {p1 p2 pos : Pos} {pl : Sem Bool} (T0 : BaseC X.K C0) (hg : Gl X x) (hm : X.mg x = some (.ref C0)) (ha : PA X (e :: es) ta)
    (hc : eval (.Call (.Attribute (.Name x p1) "__init__" p2) (e :: es) [] pos) X.env = (do
      let ov ← eval (.Name x p1) X.env
      standAt p2.atName
      let (f, first) ← holding [ov] (getMethod ov "__init__" pl)
      callWith pos f first (backTo pos (starEach (e :: es) X.env)) (backToKw pos (keywordEach [] X.env))) := by rfl)
    (hdb : (x == ("__debug__" : Str)) = false := by decide) (he : starEach (e :: es) X.env = (false, eval e X.env) :: starEach es X.env := by rfl) (hpl : (backTo pos (starEach es X.env)).any (·.1) = false := by rfl) :
    PE X (.Call (.Attribute (.Name x p1) "__init__" p2) (e :: es) [] pos) (tVeI X.K ta) := by
  obtain ⟨mc, hrd, hf⟩ := T0.rd
  constructor
  intro pins s σ H Q I h
  refine PySem.W.methodCall_KW (ld_glob I hg hm ?_ hdb) hc
  refine PySem.W.method_cls I.kIn T0.ga (PySem.W.cls_value I.kIn hrd hf (by decide +kernel) ?_)
  refine PyProof.Rows.callWith_method1 (thn (ha.run pos pins _ σ H _ (I.tok _) h) ?_) he hpl
  rintro us s1 ⟨vs, H1, I1, r1, a, C, ws, rfl, hl, T, ea, q⟩
  match us, r1 with
  | _ :: ur, .cons ra rw' =>
    cases ra
    exact oinit_ok T I1 ea (by rw [← Paired.length rw']; exact szl (by omega)) fun s' J => ⟨.non, H1, J, rfl, q⟩
/-- what the text says of the class x at C with one field f, its __init__ at fI -/
structure ExcC (K : PySem.W.Frag) (mg : Str → Option Value) (x f : Str) (C fI : Addr) : Prop where
  g : mg x = some (.ref C)
  o : OexC K C
  i : PySem.W.findIn K (.ref C) "__init__" = some (some (.ref fI))
  t : PySem.W.typeIn K (.ref fI) = some (.type "function")
  n : PySem.W.findIn K (.ref C) f = some none
  xf : XfC K C
  cl : PySem.W.isClsIn K C = true
/-- the promise of such an __init__ -/
def spI (C : Addr) (f : Str) : Sp := fun vs H Q _ => ∃ (a : Addr) (v : V), vs = [.ref a, v] ∧ H a = some (exo a C none) ∧ ∀ dx, H dx = none → dx ≠ a → Q .non (upd (upd H dx (exd dx [(f, v)])) a (exo a C (some dx)))
theorem len_spI {C : Addr} {f : Str} {vs : List V} {H : Hp} {Q : VK} {E : XK} (h : spI C f vs H Q E) : vs.length = 2 := by
  obtain ⟨a, v, rfl, _⟩ := h; rfl
/-- its body: Base.__init__(self, text); self.f = value -/
def tI (K : PySem.W.Frag) (f : Str) (msg : Str) : TS := tSeq (tDrop (tVeI K (tCons (uVar 0) (tCons (tC (.str msg)) tNil)))) (tOst K f (uVar 0) (uVar 1))
theorem p_init {K : PySem.W.Frag} {mg : Str → Option Value} {x f msg p0 p1 : Str} {C fI : Addr} (T : ExcC K mg x f C fI) {vs : List V} {H : Hp} {Q : VK} {E : XK} (h : spI C f vs H Q E) :
    tI K f msg { nx := fun _ H' => Q .non H', rt := Q } (start [p0, p1] vs) H := by
  obtain ⟨a, v, rfl, ha, k⟩ := h
  refine ⟨a, C, [.str msg], rfl, by show 1 ≤ 1000; decide, T.o, ha, ?_⟩
  exact ⟨a, C, rfl, T.o, T.n, .inl ⟨ha, fun dx hd hne => k dx hd hne⟩⟩
/-- a reading closed under what follows: for rules whose own continuation is to be weakened -/
def mA (t : TA) : TA := fun σ H Q => ∃ R : List V → Hp → Prop, t σ H R ∧ ∀ vs H1, R vs H1 → Q vs H1
theorem pa_m {X : Cx} {es : List Expr} {t : TA} (h : PA X es t) : PA X es (mA t) := ⟨fun pos pins s σ H Q I k => by
  obtain ⟨R, k1, k2⟩ := k
  refine wpAny_mono (h.run pos pins s σ H R I k1) (fun us s1 q => ?_) fun _ _ z => z
  obtain ⟨vs, H1, I1, r1, q1⟩ := q
  exact ⟨vs, H1, I1, r1, k2 _ _ q1⟩⟩
/-- C(e): a new exception with its field -/
def uMk (C : Addr) (f : Str) (ta : TA) : L2.St → Hp → XK → Prop := fun σ H Q => ta σ H fun vs H1 => match vs with
  | [v] => ∀ d, H1 d = none → Q (.ref C) (some d) (upd H1 d (.xd [(f, v)]))
  | _ => False
theorem mk_heap {H1 : Hp} {a dx C : Addr} {f : Str} {v : V} (ha : H1 a = none) (hne : dx ≠ a) :
    upd (del (upd (upd (upd H1 a (exo a C none)) dx (exd dx [(f, v)])) a (exo a C (some dx))) a) dx (.xd [(f, v)]) = upd H1 dx (.xd [(f, v)]) := by
  funext b
  by_cases h1 : b = dx
  · subst h1; rw [upd_same, upd_same]
  · rw [upd_ne h1, upd_ne h1]
    by_cases h2 : b = a
    · subst h2; rw [del_same, ha]
    · rw [del_ne h2, upd_ne h2, upd_ne h1, upd_ne h2]
theorem pmku {X : Cx} {CX : CXT} {x f : Str} {C fI : Addr} {k : Nat} {fd : FuncData} {ps : List Str} {e : Expr} {ta : TA} {p pos : Pos} (T : ExcC X.K X.mg x f C fI) (F1 : FnOk X.prog X.w X.K X.mg X.base CX k fI fd ps (spI C f)) (hr : Room (k + 1) X.A) (hb : Binds X.K fd ps [])
    (hx : Passes CX X (fun _ _ _ => False)) (hg : Gl X x) (ha : PA X [e] ta)
    (hdb : (x == ("__debug__" : Str)) = false := by decide) (he : starEach (e :: []) X.env = (false, eval e X.env) :: starEach [] X.env := by rfl) (hpl : (backTo pos (starEach [] X.env)).any (·.1) = false := by rfl) :
    PMk X (.Call (.Name x p) [e] [] pos) (uMk C f ta) := by
  intro pins s σ H Q I h
  refine pmk_oex T.o T.i T.t F1 hr hb .nil hx hg T.g (pa_m ha) hdb he hpl pins s σ H Q I ⟨_, h, fun vs H1 r => ?_⟩
  match vs, r with
  | [v], r =>
    refine ⟨by show 1 ≤ 1000; decide, fun a hn => ⟨a, v, rfl, upd_same, fun dx hd hne => ⟨rfl, dx, [(f, v)], upd_same, ?_, ?_, ?_⟩⟩⟩
    · rw [upd_ne hne, upd_same]
    · rw [upd_ne hne] at hd; exact hd
    · rw [mk_heap hn hne]
      rw [upd_ne hne] at hd
      exact r dx hd
/-- raise C(e), the wish E of the def -/
def uRaise (C : Addr) (f : Str) (E : XK) (ta : TA) : TS := fun _ σ H => uMk C f ta σ H E
theorem ps_raiseu {X : Cx} {E : XK} {e : Expr} {C : Addr} {f : Str} {ta : TA} {pos : Pos} (hc : X.calm = true) (tk : Takes X (fun cls d _ H => E cls d H)) (he : PMk X e (uMk C f ta)) : PS X (.Raise (some e) none pos) (uRaise C f E ta) := ps_raise hc tk he
end U
namespace U
open PySem PySem.Spec PyProof.Rows L2
structure FnG (P : Program) (w : World) (K : PySem.W.Frag) (mg : Str → Option Value) (base : Heap) (CX : CXT) (k : Nat) (f : Addr) (fd : FuncData) (ps : List Str) (sp : Sp) : Prop where
  len : ∀ vs H Q E, sp vs H Q E → vs.length = ps.length
  run : ∀ (A : Around) (outer : List Env) (s : Shared) (H : Hp) (args : Args) (us : List Value) (vs : List V) (Q : VK) (E : XK), A.guards = some [] → Room k A → Env0 P w K mg base A outer s H →
    BindsTo s fd args (ps.zip us) → Vals vs us → sp vs H Q E → codeAny (model P w) A (.call (.ref f) args) (CR CX outer P w H s Q E) s
theorem fn_g {P : Program} {w : World} {K : PySem.W.Frag} {mg : Str → Option Value} {base : Heap} {CX : CXT} {k : Nat} {f : Addr} {fd : FuncData} {ps : List Str} {sp : Sp} (F : FnOk P w K mg base CX k f fd ps sp) : FnG P w K mg base CX k f fd ps sp :=
  ⟨F.len, fun A outer s H args us vs Q E _ hr => F.run A outer s H args us vs Q E hr⟩
theorem law_callG {P : Program} {w : World} {K : PySem.W.Frag} {mg mb : Str → Option Value} {CX : CXT} {k : Nat} {fa a : Addr} {fd : FuncData} {x : Str} {sp : Sp} {s₁ : Shared} {vs : List Value} {ns : List Int}
    (KX : K.In s₁.heap) (hns : s₁.heap.Ns mainGlobals mg) (hb : s₁.heap.Ns builtinsNs mb) (hbb : ∀ x : Str, x ≠ "__name__" → mb x = bootBuiltins x) (nl : s₁.heap.NoLimit) (hg : s₁.gens = #[])
    (ha : s₁.heap.get? a = some { cls := .type "list", data := .seq vs.toArray }) (hi : IntsAre vs ns) (hl : ns.length ≤ sizeLine) (hr : Room k callerA)
    (F : ∀ base : Heap, K.In base → base.Ns mainGlobals mg → FnG P w K mg base CX k fa fd [x] sp) (bind : ∀ (s : Shared) (u : Value), BindsTo s fd ⟨[u], []⟩ [(x, u)])
    (hsp : ∀ H : Hp, Only H → SqL K H a (ns.map V.int) → sp [.ref a] H (fun v _ => v = .bl true) fun _ _ _ => False)
    (hCX : ∀ H e s', CX [] H s₁ (fun _ _ _ => False) e s' → False) :
    codeAny (model P w) callerA (.call (.ref fa) ⟨[.ref a], []⟩) (fun r s' => r = .ok (.ret (.bool true)) ∧ OldK s₁.heap s'.heap ∧ s'.os = s₁.os ∧ AllBare s'.gens) s₁ := by
  have start : ∀ H : Hp, Only H → SqL K H a (ns.map V.int) → HOk P w H s₁.heap → (∀ b, H b ≠ none → b = a) → (H a ≠ none → K.lookup a = none) →
      codeAny (model P w) callerA (.call (.ref fa) ⟨[.ref a], []⟩) (fun r s' => r = .ok (.ret (.bool true)) ∧ OldK s₁.heap s'.heap ∧ s'.os = s₁.os ∧ AllBare s'.gens) s₁ := fun H hO hS hok only free => by
    have atA : ∀ {b : Addr} {u : HO}, H b = some u → b = a := fun {b u} q => only b (by rw [q]; simp)
    have nsH : ∀ {b : Addr} {m : Str → Option Value}, s₁.heap.Ns b m → (hidT s₁.heap H).Ns b m := fun {b m} ⟨o, es, ep, e, d, r⟩ => ⟨o, es, ep, hidT_get e (by
      cases q : H b with
      | none => rfl
      | some u =>
        rw [atA q, ha] at e; cases e
        exact nomatch d), d, r⟩
    have kinH : K.In (hidT s₁.heap H) := fun b o e => hidT_get (KX b o e) (by
      cases q : H b with
      | none => rfl
      | some u =>
        have z := atA q
        subst z
        rw [free (by rw [q]; simp)] at e; cases e)
    have env : Env0 P w K mg (hidT s₁.heap H) callerA [] s₁ H := ⟨rfl, ⟨kinH, nsH hns, ⟨mb, nsH hb, hbb⟩, let ⟨mc, h1, h2⟩ := nl; ⟨mc, nsH h1, h2⟩⟩, fun b o e => of_hidT e, Nat.le_of_eq (hidT_size _ _), trivial,
      fun b hb => absurd (show b ∈ ([] : List Addr) from hb) (by simp), hok, .of_eq hg⟩
    refine codeAny_mono ((F _ kinH (nsH hns)).run callerA [] s₁ H ⟨[.ref a], []⟩ [.ref a] [.ref a] _ _ rfl hr env (bind s₁ (.ref a)) (.cons rfl .nil) (hsp H hO hS)) fun r s' h => ?_
    match r, h with
    | .error er, h => exact (hCX H er s' h).elim
    | .ok (.ret u), h =>
      obtain ⟨v, H', os, bare, un, hok', r', q⟩ := h
      obtain rfl : v = .bl true := q
      obtain rfl : u = Value.bool true := r'
      refine ⟨rfl, OldK.of_keep fun b o e => ?_, os, bare⟩
      cases q : H b with
      | none => exact un.keep b o e q (by intro z; exact absurd (show b ∈ ([] : List Addr) from z) (by simp)) (by simp)
      | some u =>
        rcases hO b with z | ⟨ob, xs, z⟩
        · rw [q] at z; cases z
        · obtain ⟨e1, _⟩ := hok b _ z
          obtain ⟨e2, _⟩ := hok' b _ (un.frzs b ob _ z)
          rw [e] at e1; cases e1
          exact e2
  cases hk : K.lookup a with
  | some o =>
    have e := KX a o hk
    rw [ha] at e
    cases e
    exact start (fun _ => none) (fun _ => .inl rfl) (.inr ⟨_, vs.toArray, _, hk, rfl, rfl, rfl, by rw [List.size_toArray, hi.length]; exact hl, by simpa using vals_ints hi⟩) (fun b u z => nomatch (show (none : Option HO) = some u from z)) (fun b z => absurd rfl z) fun z => absurd rfl z
  | none =>
    let ob : Obj := { cls := .type "list", data := .seq vs.toArray }
    refine start (fun b => if b = a then some (.frz ob (.lst (ns.map V.int))) else none) (fun b => ?_) (.inl (.inr ⟨ob, if_pos rfl⟩)) (fun b u z => ?_) (fun b z => ?_) fun _ => hk
    · by_cases hb : b = a
      · exact .inr ⟨_, _, if_pos hb⟩
      · exact .inl (if_neg hb)
    · by_cases hb : b = a
      · have y := (if_pos hb).symm.trans z
        cases y
        subst hb
        exact ⟨ha, by rw [List.length_map]; exact hl, vs, _, vals_ints hi, ha⟩
      · exact nomatch (if_neg hb).symm.trans z
    · by_cases hb : b = a
      · exact hb
      · exact absurd (if_neg hb) z
theorem walk_ofG {l : PySem.W.OpenLaw} {n k : Nat} {q : Program} {loose : List Str} {XP : (Str → Option Value) → Heap → Prop} {YP : World → Heap → Prop} {d : DefRec} {K : Params → PySem.W.Frag} {x : Str} {sp : World → (Nat → Addr) → Sp}
    (hn : l.most = some n) (hn2 : n ≤ sizeLine) (hdf : d.params.defaults = []) (hr : Room k callerA) (hY : ∀ (w : World) (h : Heap), YP w h → (K w.params).In h)
    (F : ∀ (w : World) (mg : Str → Option Value) (fa : Addr) (h : Heap), (K w.params).In h → h.Ns mainGlobals mg → mg d.name = some (.ref fa) →
      ∃ (ca : Nat → Addr) (fd : FuncData), (∀ (s : Shared) (u : Value), BindsTo s fd ⟨[u], []⟩ [(x, u)]) ∧ ∀ base : Heap, (K w.params).In base → base.Ns mainGlobals mg → FnG l.prog w (K w.params) mg base CX0 k fa fd [x] (sp w ca))
    (hsp : ∀ (w : World) (ca : Nat → Addr) (H : Hp) (a : Addr) (ns : List Int), ns.length ≤ n → Only H → SqL (K w.params) H a (ns.map V.int) → sp w ca [.ref a] H (fun v _ => v = .bl true) fun _ _ _ => False) :
    PySem.W.WalkO q loose XP YP l.row.toRowW d [] (fun f vs => PySem.call f vs) := by
  refine Att.attach_call hn hdf fun w s₀ s₁ mg mb fa o pm cd doc a vs ns G Y ho hd hcd hmg hobj hints hlen hg => ?_
  obtain ⟨ca, fd, hb, hF⟩ := F w mg fa _ (hY w _ Y) G.T.g hmg
  exact law_callG (hY w _ Y) G.T.g G.T.b G.T.builtins G.T.nolimit hg hobj hints (Nat.le_trans hlen hn2) hr hF hb (fun H hO hS => hsp w ca H a ns hlen hO hS) fun _ _ _ z => z
end U
namespace U
open PySem PySem.Spec PyProof.Rows L2
def Sm (K : PySem.W.Frag) (H : Hp) : Nat → V → V → Prop
  | 0 => fun _ _ => False
  | n + 1 => fun x y => (x = y ∧ flatB x = true) ∨ (∃ a, x = .ref a ∧ y = .ref a) ∨ ∃ a b xs ys, x = .ref a ∧ y = .ref b ∧ SqL K H a xs ∧ SqL K H b ys ∧ Paired (Sm K H n) xs ys
section
variable {X : Cx} {pins : List (Addr × Obj)} {σ : L2.St} {H : Hp} {s : Shared}
theorem sm_items {A : Around} {F : V → V → Prop} (ih : ∀ x y v u, F x y → RelV x v → RelV y u → SeqAt.EqAt A s v u true) : ∀ {xs ys : List V} {us ws : List Value}, Paired F xs ys → Vals xs us → Vals ys ws →
    us.length = ws.length ∧ ∀ j (h1 : j < us.length) (h2 : j < ws.length), SeqAt.EqAt A s us[j] ws[j] true
  | _, _, _, _, .nil, .nil, .nil => ⟨rfl, fun j h1 _ => absurd h1 (Nat.not_lt_zero j)⟩
  | _, _, _, _, .cons h t, .cons a1 b1, .cons a2 b2 => by
    obtain ⟨e, k⟩ := sm_items ih t b1 b2
    refine ⟨congrArg Nat.succ e, fun j h1 h2 => ?_⟩
    cases j with
    | zero => exact ih _ _ _ _ h a1 a2
    | succ j => exact k j (Nat.lt_of_succ_lt_succ h1) (Nat.lt_of_succ_lt_succ h2)
theorem sm_lists (I : Inv X pins σ H s) {A : Around} {F : V → V → Prop} (ih : ∀ x y v u, F x y → RelV x v → RelV y u → SeqAt.EqAt A s v u true) {a b : Addr} {xs ys : List V} (ha : SqL X.K H a xs) (hb : SqL X.K H b ys) (p : Paired F xs ys) :
    ∃ us ws : List Value, s.heap.IsList a us.toArray ∧ s.heap.IsList b ws.toArray ∧ us.toArray.size = ws.toArray.size ∧ ∀ j (h1 : j < us.toArray.size) (h2 : j < ws.toArray.size), SeqAt.EqAt A s us.toArray[j] ws.toArray[j] true := by
  obtain ⟨us, r1, p1, _⟩ := I.list ha
  obtain ⟨ws, r2, p2, _⟩ := I.list hb
  obtain ⟨e, k⟩ := sm_items ih p r1 r2
  exact ⟨us, ws, p1.isList, p2.isList, by simpa using e, fun j h1 h2 => by simpa using k j (by simpa using h1) (by simpa using h2)⟩
theorem allT (n : Nat) : ((List.range n).all fun _ => true) = true := List.all_eq_true.mpr fun _ _ => rfl
theorem sm_run (I : Inv X pins σ H s) : ∀ (n : Nat) (A : Around), A.units + n < cLine → ∀ (x y : V) (v u : Value), Sm X.K H n x y → RelV x v → RelV y u → SeqAt.EqAt A s v u true
  | 0, _, _, _, _, _, _, h, _, _ => (show False from h).elim
  | n + 1, A, hu, x, y, v, u, h, rx, ry => by
    rcases h with ⟨rfl, f⟩ | ⟨a, rfl, rfl⟩ | ⟨a, b, xs, ys, rfl, rfl, ha, hb, p⟩
    · exact eqAt_same rx ry f
    · cases (show v = Value.ref a from rx)
      cases (show u = Value.ref a from ry)
      exact SeqAt.EqAt.same _
    · cases (show v = Value.ref a from rx)
      cases (show u = Value.ref b from ry)
      by_cases e : a = b
      · subst e; exact SeqAt.EqAt.same _
      · obtain ⟨us, ws, p1, p2, hz, k⟩ := sm_lists I (A := A.in1) (sm_run I n A.in1 (by show A.units + 1 + n < cLine; omega)) ha hb p
        have r := SeqAt.RcAt.lists (A := A) (e := fun _ => true) p1 p2 hz (by omega) k
        rw [allT] at r
        exact SeqAt.EqAt.of_refs e r
/-- two lists of the same things -/
def SmL (K : PySem.W.Frag) (H : Hp) (x y : V) : Prop := ∃ a b xs ys, x = .ref a ∧ y = .ref b ∧ SqL K H a xs ∧ SqL K H b ys ∧ Paired (Sm K H 40) xs ys
theorem op_eqS (hu : X.A.units + 64 < cLine) : OpR X (compareOp .Eq) (fun x y H Q => SmL X.K H x y ∧ Q (.bl true) H) := fun pins s σ H x y v u Q I rx ry h => by
  obtain ⟨⟨a, b, xs, ys, rfl, rfl, ha, hb, p⟩, q⟩ := h
  cases (show v = Value.ref a from rx)
  cases (show u = Value.ref b from ry)
  obtain ⟨us, ws, p1, p2, hz, k⟩ := sm_lists I (A := X.A.in1) (sm_run I 40 X.A.in1 (by show X.A.units + 1 + 40 < cLine; omega)) ha hb p
  have r := SeqAt.RcAt.lists (A := X.A) (e := fun _ => true) p1 p2 hz (by omega) k
  rw [allT] at r
  exact r X.prog X.w _ _ ⟨.bl true, H, I, rfl, q⟩
theorem op_neS (hu : X.A.units + 64 < cLine) : OpR X (compareOp .NotEq) (fun x y H Q => SmL X.K H x y ∧ Q (.bl false) H) := fun pins s σ H x y v u Q I rx ry h => by
  obtain ⟨⟨a, b, xs, ys, rfl, rfl, ha, hb, p⟩, q⟩ := h
  cases (show v = Value.ref a from rx)
  cases (show u = Value.ref b from ry)
  obtain ⟨us, ws, p1, p2, hz, k⟩ := sm_lists I (A := X.A.in1) (sm_run I 40 X.A.in1 (by show X.A.units + 1 + 40 < cLine; omega)) ha hb p
  have r := SeqAt.RcNeAt.lists (A := X.A) (e := fun _ => true) p1 p2 hz (by omega) k
  rw [allT] at r
  exact r X.prog X.w _ _ ⟨.bl false, H, I, rfl, q⟩
end
def uEq2 (K : PySem.W.Frag) : R2 := fun x y H Q => match scal x y with
  | true => Q (.bl (decide (x = y))) H
  | false => (∃ d e, Dp K H x d ∧ Dp K H y e ∧ SeqAt.shaped d = true ∧ SeqAt.shaped e = true ∧ Q (.bl (PyData.eqv d e)) H) ∨ (SmL K H x y ∧ Q (.bl true) H)
def uNe2 (K : PySem.W.Frag) : R2 := fun x y H Q => match scal x y with
  | true => Q (.bl (!decide (x = y))) H
  | false => (∃ d e, Dp K H x d ∧ Dp K H y e ∧ SeqAt.shaped d = true ∧ SeqAt.shaped e = true ∧ Q (.bl (!PyData.eqv d e)) H) ∨ (SmL K H x y ∧ Q (.bl false) H)
section
variable {X : Cx}
theorem ou_eq2 (hu : X.A.units + 64 < cLine) : OpR X (compareOp .Eq) (uEq2 X.K) := OpRi (op_eq.or ((op_eqD hu).or (op_eqS hu))) fun x y H Q h => by
  unfold uEq2 at h
  split at h
  · exact .inl ⟨by assumption, h⟩
  · exact .inr h
theorem ou_ne2 (hu : X.A.units + 64 < cLine) : OpR X (compareOp .NotEq) (uNe2 X.K) := OpRi (op_ne.or ((op_neD hu).or (op_neS hu))) fun x y H Q h => by
  unfold uNe2 at h
  split at h
  · exact .inl ⟨by assumption, h⟩
  · exact .inr h
end
end U
namespace U
open PySem PySem.Spec PyProof.Rows L2
def letter (c : Nat) : Bool := decide (97 ≤ c) && decide (c ≤ 122)
def isWord (z : Str) : Bool := decide (1 ≤ z.length) && decide (z.length ≤ 30) && z.cps.toList.all letter
def isMarkL : List Nat → Bool
  | [c] => decide (c = 32)
  | [k, i] => (decide (k = 35) || decide (k = 124) || decide (k = 47)) && (decide (48 ≤ i) && decide (i ≤ 51))
  | _ => false
def isMark (z : Str) : Bool := isMarkL z.cps.toList
def small (v : V) : Prop := match v with | .str z => z.length ≤ 1000 | _ => True
/-- a value of a known kind, no long text -/
def Kn (H : Hp) (v : V) : Prop := (tyOf H v).isSome = true ∧ small v
def BoxAt (H : Hp) (b : Addr) (n : Nat) : Prop := ∃ x y z : Int, H b = some (.lst [.int x, .int y, .int z]) ∧ 0 ≤ x ∧ 0 ≤ y ∧ y < 2147483629 ∧ 0 ≤ z ∧ z ≤ n
theorem BoxAt.new {H : Hp} {b p : Addr} {n : Nat} {o : HO} (h : BoxAt H b n) (hp : H p = none) : BoxAt (upd H p o) b n := by
  obtain ⟨x, y, z, e, r⟩ := h
  exact ⟨x, y, z, by rw [upd_ne (ne_of_none e hp)]; exact e, r⟩
theorem BoxAt.ex {H H' : Hp} {b : Addr} {n : Nat} (h : BoxAt H b n) (e : Ex H H') : BoxAt H' b n := by
  obtain ⟨x, y, z, h, r⟩ := h
  exact ⟨x, y, z, e _ _ h, r⟩
theorem BoxAt.le {H : Hp} {b : Addr} {n m : Nat} (h : BoxAt H b n) (e : n ≤ m) : BoxAt H b m := by
  obtain ⟨x, y, z, h, a, b, c, d, f⟩ := h
  exact ⟨x, y, z, h, a, b, c, d, by omega⟩
/-- something else at an address that is no box -/
theorem BoxAt.off {H : Hp} {b p : Addr} {n : Nat} {o : HO} (h : BoxAt H b n) (hp : H p = some o) (ho : ∀ x y z, o ≠ .lst [.int x, .int y, .int z]) : p ≠ b := by
  obtain ⟨x, y, z, e, _⟩ := h
  exact ne_of hp e (ho x y z)
theorem tyOf_ex {H H' : Hp} {v : V} {t : Ty} (h : tyOf H v = some t) (e : Ex H H') : tyOf H' v = some t := by
  cases v with
  | ref a =>
    have h : (H a).bind tyO = some t := h
    cases q : H a with
    | none => rw [q] at h; cases h
    | some o =>
      rw [q] at h
      show (H' a).bind tyO = some t
      rw [e _ _ q]; exact h
  | _ => exact h
theorem Kn.ex {H H' : Hp} {v : V} (h : Kn H v) (e : Ex H H') : Kn H' v := by
  obtain ⟨h1, h2⟩ := h
  obtain ⟨t, ht⟩ := Option.isSome_iff_exists.mp h1
  exact ⟨by rw [tyOf_ex ht e]; rfl, h2⟩
theorem tyOf_fr {H H' : Hp} {b : Addr} {v : V} {t : Ty} (h : tyOf H v = some t) (e : Fr b H H') (hb : v ≠ .ref b) : tyOf H' v = some t := by
  cases v with
  | ref a =>
    have h : (H a).bind tyO = some t := h
    cases q : H a with
    | none => rw [q] at h; cases h
    | some o =>
      rw [q] at h
      show (H' a).bind tyO = some t
      rw [e _ _ q (fun z => hb (by rw [z]))]; exact h
  | _ => exact h
theorem Kn.fr {H H' : Hp} {b : Addr} {v : V} (h : Kn H v) (e : Fr b H H') (hb : v ≠ .ref b) : Kn H' v := by
  obtain ⟨h1, h2⟩ := h
  obtain ⟨t, ht⟩ := Option.isSome_iff_exists.mp h1
  exact ⟨by rw [tyOf_fr ht e hb]; rfl, h2⟩
theorem log_small {i : Int} (h1 : -(10 ^ 40) < i) (h2 : i < 10 ^ 40) : i.natAbs.log2 < 1920 := by
  by_cases h : i.natAbs = 0
  · rw [h]; decide
  · rw [Nat.log2_lt h]
    have : i.natAbs < 10 ^ 40 := by omega
    exact Nat.lt_of_lt_of_le this (by decide +kernel)
theorem len_small {i : Int} (h1 : -(10 ^ 40) < i) (h2 : i < 10 ^ 40) : (Str.ofString (toString i)).length ≤ 41 := by
  have h := int_text_length_le10 (a := i) (k := 40) (by decide) (by omega)
  rw [PySem.ofString_length]
  omega
theorem toList_inj {a b : Str} (h : a.cps.toList = b.cps.toList) : a = b := by
  obtain ⟨⟨l⟩⟩ := a
  obtain ⟨⟨m⟩⟩ := b
  have h : l = m := h
  subst h; rfl
theorem str_len (z : Str) : z.length = z.cps.toList.length := rfl
theorem cps_blank : (Str.ofString " ").cps.toList = [32] := by decide +kernel
theorem cps_kinds : (Str.ofString "#|/").cps.toList = [35, 124, 47] := by decide +kernel
theorem cps_digits : (Str.ofString "0123").cps.toList = [48, 49, 50, 51] := by decide +kernel
/-- a text against a fixed one -/
theorem eq_fix (z : Str) (a : String) {l : List Nat} (h : (Str.ofString a).cps.toList = l) : decide (V.str z = V.str (Str.ofString a)) = decide (z.cps.toList = l) := by
  apply decide_eq_decide.mpr
  constructor
  · intro e; injection e with e; rw [e]; exact h
  · intro e; rw [toList_inj (e.trans h.symm)]
theorem isMark_two {z : Str} {k i : Nat} (h : z.cps.toList = [k, i]) : isMark z = (decide (k ∈ [35, 124, 47]) && decide (i ∈ [48, 49, 50, 51])) := by
  unfold isMark
  rw [h]
  unfold isMarkL
  rw [Bool.eq_iff_iff]
  simp
  omega
theorem isMark_other {z : Str} (h1 : z.cps.toList ≠ [32]) (h2 : z.length ≠ 2) : isMark z = false := by
  unfold isMark
  rw [str_len] at h2
  generalize z.cps.toList = l at *
  match l with
  | [] => rfl
  | [c] => simp at h1; simp [isMarkL, h1]
  | [_, _] => exact absurd rfl h2
  | _ :: _ :: _ :: _ => rfl
/-- the forms of a mark -/
theorem mark_forms {z : Str} (h : isMark z = true) : z.cps.toList = [32] ∨ ∃ k i, z.cps.toList = [k, i] ∧ k ∈ [35, 124, 47] ∧ i ∈ [48, 49, 50, 51] := by
  by_cases h1 : z.cps.toList = [32]
  · exact .inl h1
  · by_cases h2 : z.length = 2
    · have h3 : z.cps.toList.length = 2 := h2
      match hz : z.cps.toList, h3 with
      | [k, i], _ =>
        rw [isMark_two hz, Bool.and_eq_true, decide_eq_true_eq, decide_eq_true_eq] at h
        exact .inr ⟨k, i, rfl, h.1, h.2⟩
    · rw [isMark_other h1 h2] at h; cases h
end U
namespace U
open PySem PySem.Spec PyProof.Rows L2
mutual
inductive Dn (b : Addr) (H : Hp) : V → PyData → Prop
  | non : Dn b H .non .none
  | bl (k : Bool) : Dn b H (.bl k) (.bool k)
  | int (i : Int) : Dn b H (.int i) (.int i)
  | str (z : Str) : Dn b H (.str z) (.str z)
  | lst {a : Addr} {xs : List V} {ds : List PyData} : a ≠ b → H a = some (.lst xs) → DnAll b H xs ds → Dn b H (.ref a) (.list ds)
  | tup {a : Addr} {xs : List V} {ds : List PyData} : a ≠ b → H a = some (.tup xs) → DnAll b H xs ds → Dn b H (.ref a) (.tuple ds)
  | dct {a : Addr} : a ≠ b → H a = some (.dK []) → Dn b H (.ref a) (.dict [])
inductive DnAll (b : Addr) (H : Hp) : List V → List PyData → Prop
  | nil : DnAll b H [] []
  | cons {v : V} {vs : List V} {d : PyData} {ds : List PyData} : Dn b H v d → DnAll b H vs ds → DnAll b H (v :: vs) (d :: ds)
end
mutual
theorem Dn.fr {b : Addr} {H H' : Hp} (f : Fr b H H') : ∀ (d : PyData) {v : V}, Dn b H v d → Dn b H' v d
  | .none, _, h => by cases h; exact .non
  | .bool _, _, h => by cases h; exact .bl _
  | .int _, _, h => by cases h; exact .int _
  | .str _, _, h => by cases h; exact .str _
  | .list ds, _, h => by
    cases h with
    | lst h1 h2 h3 => exact .lst h1 (f _ _ h2 h1) (DnAll.fr f ds h3)
  | .tuple ds, _, h => by
    cases h with
    | tup h1 h2 h3 => exact .tup h1 (f _ _ h2 h1) (DnAll.fr f ds h3)
  | .dict _, _, h => by
    cases h with
    | dct h1 h2 => exact .dct h1 (f _ _ h2 h1)
theorem DnAll.fr {b : Addr} {H H' : Hp} (f : Fr b H H') : ∀ (ds : List PyData) {vs : List V}, DnAll b H vs ds → DnAll b H' vs ds
  | [], _, h => by cases h; exact .nil
  | d :: ds, _, h => by
    cases h with
    | cons h1 h2 => exact .cons (Dn.fr f d h1) (DnAll.fr f ds h2)
end
theorem Dn.go {b : Addr} {H H' : Hp} {d : PyData} {v : V} (h : Dn b H v d) (f : Fr b H H') : Dn b H' v d := Dn.fr f d h
theorem Dn.ex {b : Addr} {H H' : Hp} {d : PyData} {v : V} (h : Dn b H v d) (e : Ex H H') : Dn b H' v d := Dn.fr (Fr.ex e) d h
theorem DnAll.go {b : Addr} {H H' : Hp} {ds : List PyData} {vs : List V} (h : DnAll b H vs ds) (f : Fr b H H') : DnAll b H' vs ds := DnAll.fr f ds h
theorem DnAll.ex {b : Addr} {H H' : Hp} {ds : List PyData} {vs : List V} (h : DnAll b H vs ds) (e : Ex H H') : DnAll b H' vs ds := DnAll.fr (Fr.ex e) ds h
theorem DnAll.len {b : Addr} {H : Hp} : ∀ {vs : List V} {ds : List PyData}, DnAll b H vs ds → vs.length = ds.length
  | _, _, .nil => rfl
  | _, _, .cons _ h => by rw [List.length_cons, List.length_cons, h.len]
theorem DnAll.app {b : Addr} {H : Hp} : ∀ {vs ws : List V} {ds es : List PyData}, DnAll b H vs ds → DnAll b H ws es → DnAll b H (vs ++ ws) (ds ++ es)
  | _, _, _, _, .nil, h => h
  | _, _, _, _, .cons h1 h2, h => .cons h1 (h2.app h)
theorem DnAll.drop {b : Addr} {H : Hp} : ∀ (n : Nat) {vs : List V} {ds : List PyData}, DnAll b H vs ds → DnAll b H (vs.drop n) (ds.drop n)
  | 0, _, _, h => by simpa using h
  | n + 1, _, _, .nil => by simpa using DnAll.nil
  | n + 1, _, _, .cons _ h => by simpa using h.drop n
theorem DnAll.take {b : Addr} {H : Hp} : ∀ (n : Nat) {vs : List V} {ds : List PyData}, DnAll b H vs ds → DnAll b H (vs.take n) (ds.take n)
  | 0, _, _, h => by simpa using DnAll.nil
  | n + 1, _, _, .nil => by simpa using DnAll.nil
  | n + 1, _, _, .cons h1 h => by simpa using DnAll.cons h1 (h.take n)
theorem DnAll.at {b : Addr} {H : Hp} : ∀ {vs : List V} {ds : List PyData}, DnAll b H vs ds → ∀ (i : Nat) {v : V}, vs[i]? = some v → ∃ d, ds[i]? = some d ∧ Dn b H v d
  | _, _, .nil, i, v, e => by simp at e
  | _, _, .cons h1 h2, 0, v, e => by
    simp at e; subst e
    exact ⟨_, rfl, h1⟩
  | _, _, .cons h1 h2, i + 1, v, e => by
    obtain ⟨d, h3, h4⟩ := h2.at i (by simpa using e)
    exact ⟨d, by simpa using h3, h4⟩
mutual
theorem Dn.dp {b : Addr} {H : Hp} {K : PySem.W.Frag} : ∀ (d : PyData) {v : V}, Dn b H v d → d.hasDict = false → Dp K H v d
  | .none, _, h, _ => by cases h; exact .non
  | .bool _, _, h, _ => by cases h; exact .bl _
  | .int _, _, h, _ => by cases h; exact .int _
  | .str _, _, h, _ => by cases h; exact .str _
  | .list ds, _, h, g => by
    cases h with
    | lst h1 h2 h3 => exact .lst (.inl (.inl h2)) (DnAll.dp ds h3 (by simpa only [PyData.hasDict] using g))
  | .tuple ds, _, h, g => by
    cases h with
    | tup h1 h2 h3 => exact .tup (.inl (.inl h2)) (DnAll.dp ds h3 (by simpa only [PyData.hasDict] using g))
  | .dict _, _, _, g => by simp only [PyData.hasDict] at g; cases g
theorem DnAll.dp {b : Addr} {H : Hp} {K : PySem.W.Frag} : ∀ (ds : List PyData) {vs : List V}, DnAll b H vs ds → PyData.hasDictAll ds = false → DpAll K H vs ds
  | [], _, h, _ => by cases h; exact .nil
  | d :: ds, _, h, g => by
    cases h with
    | cons h1 h2 =>
      simp only [PyData.hasDictAll, Bool.or_eq_false_iff] at g
      exact .cons (Dn.dp d h1 g.1) (DnAll.dp ds h2 g.2)
end
/-- data that repr takes -/
structure Okd (d : PyData) : Prop where
  sh : d.showable = true
  lv : d.leavesShort 41 = true
  dp : d.depth ≤ 20
  wt : d.weight ≤ 200000
theorem Okd.size {d : PyData} (h : Okd d) : d.shown.length ≤ sizeLine := by
  have := PyData.shown_le 41 (by decide) d h.lv
  have h2 := h.wt
  have h3 : 43 * d.weight ≤ 43 * 200000 := Nat.mul_le_mul_left _ h2
  rw [sizeLine_eq]; omega
end U
namespace U
open PySem PySem.Spec PyProof.Rows L2
def uMul3 : R2 := fun x y H Q => match x, y with
  | .int i, .int j => CMul i j ∧ Q (.int (i * j)) H
  | .str z, .int k => MulOk z k ∧ Q (.str (Txt.mul z k)) H
  | .ref l, .int k => oK (mutL H l) fun xs => -(2 ^ 63) ≤ k ∧ k < 2 ^ 63 ∧ xs.length * k.toNat ≤ sizeLine ∧ ∀ p, H p = none → Q (.ref p) (upd H p (.lst (List.replicate k.toNat xs).flatten))
  | _, _ => False
section
variable {X : Cx}
theorem op_mulS : OpR X (binaryOp .Mult) (fun x y H Q => ∃ z k, x = V.str z ∧ y = .int k ∧ MulOk z k ∧ Q (.str (Txt.mul z k)) H) := fun pins s σ H x y v u Q I rx ry h => by
  obtain ⟨z, k, rfl, rfl, h1, h2⟩ := h
  obtain ⟨t, rfl⟩ := rx
  obtain ⟨t', rfl⟩ := ry
  exact SB.mul h1 fun t2 k2 => ⟨.str _, H, I.tok k2, ⟨_, rfl⟩, h2⟩
theorem ou_mul3 : OpR X (binaryOp .Mult) uMul3 := OpRi (op_mul.or (op_mulS.or op_rep)) fun x y H Q h => by
  unfold uMul3 at h
  split at h
  · exact .inl ⟨_, _, rfl, rfl, h⟩
  · exact .inr (.inl ⟨_, _, rfl, rfl, h⟩)
  · obtain ⟨xs, e, h1, h2, h3, h4⟩ := oK_ex h
    exact .inr (.inr ⟨_, _, xs, rfl, rfl, of_mutL e, h1, h2, h3, h4⟩)
  · exact h.elim
end
def gTs (K : PySem.W.Frag) (n : Nat) (t : TGs) : TG := fun v σ H Q => match v with
  | .ref a => ∃ xs, (SqT K H a xs ∨ SqL K H a xs) ∧ xs.length = n ∧ t xs σ H Q
  | _ => False
theorem pg_ts {X : Cx} {pos : Pos} {es : List Expr} {k : Nat} {t : TGs} {n : Nat} (hc : X.calm = true) (h : PGs X es t)
    (hn : (assignEach es X.env).length = n := by rfl) (hst : (assignEach es X.env).findIdx? (·.1) = none := by rfl) : PG X (.Tuple es k pos) (gTs X.K n t) := ⟨fun pins s σ H v u Q I r hw => by
  cases v with
  | ref a =>
    obtain ⟨xs, h1, h2, h3⟩ := hw
    rcases h1 with h1 | h1
    · exact (pg_tup hc h hn hst).run pins s σ H _ u Q I r ⟨_, _, rfl, h1, h2, h3⟩
    · exact (pg_unl hc h hn hst).run pins s σ H _ u Q I r ⟨_, _, rfl, h1, h2, h3⟩
  | _ => exact hw.elim⟩
end U
namespace U
open PySem PySem.Spec PyProof.Rows L2
abbrev Tk := Str × Str
def tokD (t : Tk) : PyData := .tuple [.str t.1, .str t.2]
def textD (ts : List Tk) : PyData := .list (ts.map tokD)
def markD : PyData → Bool
  | .str z => isMark z
  | _ => false
def GoodT (ts : List Tk) : Prop := (∀ t ∈ ts, isMark t.1 = true ∧ isWord t.2 = true) ∧ ∀ t, ts.head? = some t → (sl t.1).head? = some 35
theorem markD_str {d : PyData} (h : markD d = true) : ∃ z, d = .str z ∧ isMark z = true := by
  cases d <;> first | exact ⟨_, rfl, h⟩ | cases h
def tyD : PyData → Ty
  | .none => .non | .bool _ => .bl | .int _ => .int | .str _ => .str | .list _ => .lst | .tuple _ => .tup | .dict _ => .dct
theorem Dn.ty {b : Addr} {H : Hp} {v : V} {d : PyData} (h : Dn b H v d) : tyOf H v = some (tyD d) := by
  cases h with
  | lst _ h _ => show (H _).bind tyO = _; rw [h]; rfl
  | tup _ h _ => show (H _).bind tyO = _; rw [h]; rfl
  | dct _ h => show (H _).bind tyO = _; rw [h]; rfl
  | _ => rfl
theorem wt_mem : ∀ {ds : List PyData} {d : PyData}, d ∈ ds → d.weight + 1 ≤ PyData.weightAll ds
  | d :: ds, e, h => by
    rw [PyData.weightAll]
    rcases List.mem_cons.mp h with rfl | h
    · omega
    · have := wt_mem h; omega
theorem wt_len : ∀ ds : List PyData, ds.length ≤ PyData.weightAll ds
  | [] => Nat.zero_le _
  | d :: ds => by
    have := wt_len ds
    rw [PyData.weightAll, List.length_cons]; omega
theorem wt_list (ds : List PyData) : (PyData.list ds).weight = PyData.weightAll ds := by rw [PyData.weight]
theorem wt_tup (ds : List PyData) : (PyData.tuple ds).weight = PyData.weightAll ds := by rw [PyData.weight]
theorem wt_str (z : Str) : (PyData.str z).weight = z.length := by rw [PyData.weight]; rfl
/-- a row of tokens in the heap -/
def ToksAt (b : Addr) (H : Hp) (vs : List V) (ts : List Tk) : Prop := DnAll b H vs (ts.map tokD)
theorem dn_tok {b : Addr} {H : Hp} {v : V} {t : Tk} (h : Dn b H v (tokD t)) : ∃ r, v = .ref r ∧ r ≠ b ∧ H r = some (.tup [.str t.1, .str t.2]) := by
  unfold tokD at h
  cases h with
  | @tup a xs _ h1 h2 h3 =>
    cases h3 with
    | cons g1 g2 =>
      cases g1
      cases g2 with
      | cons g3 g4 =>
        cases g3
        cases g4
        exact ⟨a, rfl, h1, h2⟩
theorem tok_dn {b : Addr} {H : Hp} {r : Addr} {t : Tk} (h1 : r ≠ b) (h : H r = some (.tup [.str t.1, .str t.2])) : Dn b H (.ref r) (tokD t) := .tup h1 h (.cons (.str _) (.cons (.str _) .nil))
theorem ToksAt.at {b : Addr} {H : Hp} {vs : List V} {ts : List Tk} (h : ToksAt b H vs ts) {i : Nat} {v : V} (e : vs[i]? = some v) : ∃ t r, ts[i]? = some t ∧ v = .ref r ∧ r ≠ b ∧ H r = some (.tup [.str t.1, .str t.2]) := by
  obtain ⟨d, h1, h2⟩ := DnAll.at h i e
  rw [List.getElem?_map] at h1
  cases e2 : ts[i]? with
  | none => rw [e2] at h1; cases h1
  | some t =>
    rw [e2] at h1; cases h1
    obtain ⟨r, h3, h4, h5⟩ := dn_tok h2
    exact ⟨t, r, rfl, h3, h4, h5⟩
theorem ToksAt.len {b : Addr} {H : Hp} {vs : List V} {ts : List Tk} (h : ToksAt b H vs ts) : vs.length = ts.length := by
  have := DnAll.len h
  rwa [List.length_map] at this
/-- a text lies at p -/
def TextAt (b : Addr) (H : Hp) (p : Addr) (ts : List Tk) : Prop := p ≠ b ∧ ∃ vs, H p = some (.lst vs) ∧ ToksAt b H vs ts
theorem TextAt.go {b : Addr} {H H' : Hp} {p : Addr} {ts : List Tk} (h : TextAt b H p ts) (f : Fr b H H') : TextAt b H' p ts := by
  obtain ⟨h1, vs, h2, h3⟩ := h
  exact ⟨h1, vs, f _ _ h2 h1, DnAll.go h3 f⟩
theorem ToksAt.go {b : Addr} {H H' : Hp} {vs : List V} {ts : List Tk} (h : ToksAt b H vs ts) (f : Fr b H H') : ToksAt b H' vs ts := DnAll.go h f
theorem ToksAt.ex {b : Addr} {H H' : Hp} {vs : List V} {ts : List Tk} (h : ToksAt b H vs ts) (f : Ex H H') : ToksAt b H' vs ts := DnAll.ex h f
/-- tokens stay where a list is changed -/
theorem ToksAt.set {b : Addr} {H : Hp} {p : Addr} {xs ys : List V} : ∀ {vs : List V} {ts : List Tk}, ToksAt b H vs ts → H p = some (.lst xs) → ToksAt b (upd H p (.lst ys)) vs ts
  | [], [], _, _ => .nil
  | [], t :: ts, h, _ => nomatch h
  | v :: vs, [], h, _ => nomatch h
  | v :: vs, t :: ts, h, hp => by
    cases h with
    | cons h1 h2 =>
      obtain ⟨r, rfl, hr, e⟩ := dn_tok h1
      refine .cons (tok_dn hr ?_) (ToksAt.set (ts := ts) h2 hp)
      rw [upd_ne (ne_of e hp (by intro z; cases z))]
      exact e
theorem cut_mid {α : Type} (l : List α) (i j : Nat) : (l.drop (min i l.length)).take (min j l.length - min i l.length) = (l.drop i).take (j - i) := by
  by_cases h : i ≤ l.length
  · rw [Nat.min_eq_left h, List.take_eq_take_iff, List.length_drop]; omega
  · rw [show min i l.length = l.length by omega, List.drop_length, List.drop_eq_nil_of_le (show l.length ≤ i by omega)]; simp
end U
namespace U
open PySem PySem.Spec PyProof.Rows L2
structure Shp (n : Nat) (d : PyData) : Prop where
  sh : d.showable = true
  lv : d.leavesShort 41 = true
  dp : d.depth ≤ n
theorem Shp.le {n m : Nat} {d : PyData} (h : Shp n d) (e : n ≤ m) : Shp m d := ⟨h.sh, h.lv, Nat.le_trans h.dp e⟩
theorem Shp.all {n : Nat} : ∀ {ds : List PyData}, (∀ d ∈ ds, Shp n d) → PyData.showableAll ds = true ∧ PyData.leavesShortAll 41 ds = true ∧ PyData.depthAll ds ≤ n
  | [], _ => ⟨by simp only [PyData.showableAll], by simp only [PyData.leavesShortAll], by simp only [PyData.depthAll]; omega⟩
  | d :: ds, h => by
    obtain ⟨h1, h2, h3⟩ := Shp.all fun e he => h e (List.mem_cons_of_mem _ he)
    have h0 := h d List.mem_cons_self
    refine ⟨?_, ?_, ?_⟩
    · simp only [PyData.showableAll, h0.sh, h1, Bool.and_self]
    · simp only [PyData.leavesShortAll, h0.lv, h2, Bool.and_self]
    · simp only [PyData.depthAll]; have := h0.dp; omega
theorem Shp.lst {n : Nat} {ds : List PyData} (h : ∀ d ∈ ds, Shp n d) : Shp (n + 1) (.list ds) := by
  obtain ⟨h1, h2, h3⟩ := Shp.all h
  exact ⟨by simp only [PyData.showable, h1], by simp only [PyData.leavesShort, h2], by simp only [PyData.depth]; omega⟩
theorem Shp.tup {n : Nat} {ds : List PyData} (h : ∀ d ∈ ds, Shp n d) : Shp (n + 1) (.tuple ds) := by
  obtain ⟨h1, h2, h3⟩ := Shp.all h
  exact ⟨by simp only [PyData.showable, h1], by simp only [PyData.leavesShort, h2], by simp only [PyData.depth]; omega⟩
theorem Shp.str {n : Nat} {z : Str} (h : sok z) : Shp n (.str z) := by
  refine ⟨by simp only [PyData.showable], ?_, by simp only [PyData.depth]; omega⟩
  simp only [PyData.leavesShort, List.all_eq_true, decide_eq_true_eq]
  intro c hc
  have := h c hc
  omega
theorem Shp.non {n : Nat} : Shp n .none := ⟨by simp only [PyData.showable], by simp only [PyData.leavesShort], by simp only [PyData.depth]; omega⟩
theorem Shp.bl {n : Nat} (b : Bool) : Shp n (.bool b) := ⟨by simp only [PyData.showable], by simp only [PyData.leavesShort], by simp only [PyData.depth]; omega⟩
theorem Shp.dct {n : Nat} : Shp (n + 1) (.dict []) := ⟨by simp only [PyData.showable, PyData.showableKv], by simp only [PyData.leavesShort, PyData.leavesShortKv], by simp only [PyData.depth, PyData.depthKv]; omega⟩
theorem Shp.int {n : Nat} {i : Int} (h1 : -(10 ^ 40) < i) (h2 : i < 10 ^ 40) : Shp n (.int i) := by
  refine ⟨?_, ?_, by simp only [PyData.depth]; omega⟩
  · simp only [PyData.showable, decide_eq_true_eq]; exact log_small h1 h2
  · simp only [PyData.leavesShort, decide_eq_true_eq]
    have e : PyData.shown (.int i) = Str.ofString (toString i) := by simp [PyData.shown]
    rw [e]; exact len_small h1 h2
theorem wt_cons (d : PyData) (ds : List PyData) : PyData.weightAll (d :: ds) = d.weight + 1 + PyData.weightAll ds := by rw [PyData.weightAll]
theorem wt_nil : PyData.weightAll [] = 0 := by rw [PyData.weightAll]
def SokT (ts : List Tk) : Prop := ∀ t ∈ ts, sok t.1 ∧ sok t.2
theorem Shp.tok {t : Tk} (h : sok t.1 ∧ sok t.2) : Shp 1 (tokD t) := .tup (n := 0) (by
  intro d hd
  simp only [List.mem_cons, List.not_mem_nil, or_false] at hd
  rcases hd with rfl | rfl
  · exact .str h.1
  · exact .str h.2)
theorem sok_mark {z : Str} (h : isMark z = true) : sok z := by
  intro c hc
  rcases mark_forms h with e | ⟨k, i, e, hk, hi⟩
  · rw [show sl z = [32] from e] at hc; simp at hc; omega
  · rw [show sl z = [k, i] from e] at hc
    simp only [List.mem_cons, List.not_mem_nil, or_false] at hc hk hi
    omega
theorem sok_word {z : Str} (h : isWord z = true) : sok z := by
  intro c hc
  unfold isWord at h
  rw [Bool.and_eq_true] at h
  have := List.all_eq_true.mp h.2 c hc
  unfold letter at this
  simp at this
  omega
theorem mark_len {z : Str} (h : isMark z = true) : z.length ≤ 2 := by
  rw [sl_len]
  rcases mark_forms h with e | ⟨k, i, e, hk, hi⟩
  · rw [show sl z = [32] from e]; decide
  · rw [show sl z = [k, i] from e]; exact Nat.le_refl 2
theorem GoodT.sok {ts : List Tk} (h : GoodT ts) : SokT ts := fun t ht => ⟨sok_mark (h.1 t ht).1, sok_word (h.1 t ht).2⟩
end U
namespace PySem
open Sem (wp)
abbrev zipObj (f0 : Value) (f1 : Bool) (TI TO : Addr) : Obj := { cls := .type "zip", dict := none, data := .fields #[f0, .bool f1, .bool false, .ref TI, .ref TO], slots := #[] }
def ZipSt (h : Heap) (z TI TO : Addr) : Prop := ∃ (f0 : Value) (f1 : Bool), (f0 = .none ∨ ∃ a : Nat, f0 = rawInt a) ∧ h.get? z = some (zipObj f0 f1 TI TO)
end PySem
namespace U
open PySem PySem.Spec PyProof.Rows L2
/-- a list, a tuple, a text -/
inductive Kd | l (a : Addr) | t (a : Addr) | s (z : Str) (k : Tok)
def Kd.v : Kd → V | l a => .ref a | t a => .ref a | s z _ => .str z
def Kd.sq (K : PySem.W.Frag) (H : Hp) : Kd → List V → Prop
  | l a, xs => SqL K H a xs
  | t a, xs => SqT K H a xs
  | s z _, xs => xs = chars z
def Kd.at (h : Heap) (it : Addr) (i : Nat) : Kd → Prop
  | l a => h.IsListIter it a i
  | t a => h.IsTupleIter it a i
  | s z k => h.IsStrIter it (strIterType z) z k i
def Kd.obj : Kd → Obj
  | l a => { cls := .type "list_iterator", data := .fields #[.ref a, .int 0 0] }
  | t a => { cls := .type "tuple_iterator", data := .fields #[.ref a, .int 0 0] }
  | s z k => { cls := .type (strIterType z), data := .fields #[.str z k, .int 0 0] }
theorem Kd.at_get {k : Kd} {h : Heap} {it : Addr} {i : Nat} (p : k.at h it i) : ∃ o, h.get? it = some o ∧ ∀ v, o.data ≠ .cell v := by
  cases k <;> (obtain ⟨o, ho, hc, hd⟩ := p; exact ⟨o, ho, fun v q => by rw [hd] at q; cases q⟩)
theorem Kd.at_keep {k : Kd} {h h' : Heap} {it : Addr} {i : Nat} (p : k.at h it i) (q : ∀ o, h.get? it = some o → h'.get? it = some o) : k.at h' it i := by
  cases k with
  | l a => exact Heap.IsListIter.at p q
  | t a => exact Heap.IsTupleIter.at p q
  | s z k => obtain ⟨o, ho, r⟩ := p; exact ⟨o, q o ho, r⟩
def ZTn (z TI TO i1 i2 : Addr) (k1 k2 : Kd) (i : Nat) (h : Heap) : Prop := ZipSt h z TI TO ∧ IsTupOf2 h TI (.ref i1) (.ref i2) ∧ (∃ x y, IsTupOf2 h TO x y) ∧ k1.at h i1 i ∧ k2.at h i2 i
section
variable {z TI TO i1 i2 : Addr} {k1 k2 : Kd}
theorem ZTn.obj {i : Nat} {h : Heap} (st : ZTn z TI TO i1 i2 k1 k2 i h) (c : Addr) (hc : c ∈ [z, TI, TO, i1, i2]) : ∃ o, h.get? c = some o ∧ ∀ v, o.data ≠ .cell v := by
  obtain ⟨⟨f0, f1, _, hz⟩, hTI, ⟨x, y, hTO⟩, h1, h2⟩ := st
  have e' : c = z ∨ c = TI ∨ c = TO ∨ c = i1 ∨ c = i2 := by simpa using hc
  rcases e' with q | q | q | q | q
  · rw [q]; exact ⟨_, hz, fun v q => nomatch q⟩
  · rw [q]; exact ⟨_, hTI, fun v q => nomatch q⟩
  · rw [q]; exact ⟨_, hTO, fun v q => nomatch q⟩
  · rw [q]; exact Kd.at_get h1
  · rw [q]; exact Kd.at_get h2
theorem ZTn.keep {i : Nat} {h h' : Heap} (st : ZTn z TI TO i1 i2 k1 k2 i h) (k : ∀ b ∈ [z, TI, TO, i1, i2], ∀ o, h.get? b = some o → h'.get? b = some o) : ZTn z TI TO i1 i2 k1 k2 i h' := by
  obtain ⟨⟨f0, f1, h0, hz⟩, hTI, ⟨x, y, hTO⟩, h1, h2⟩ := st
  exact ⟨⟨f0, f1, h0, k z (by simp) _ hz⟩, k TI (by simp) _ hTI, ⟨x, y, k TO (by simp) _ hTO⟩, Kd.at_keep h1 fun o q => k i1 (by simp) o q, Kd.at_keep h2 fun o q => k i2 (by simp) o q⟩
end
end U
namespace PySem
open Sem (wp)
end PySem
namespace U
open PySem PySem.Spec PyProof.Rows L2
def kdOf (K : PySem.W.Frag) (H : Hp) (a : Addr) : Option Kd := match rdL K H a with
  | some _ => some (.l a)
  | none => match rdT K H a with
    | some _ => some (.t a)
    | none => none
end U
namespace PySem.F
end PySem.F
namespace U
open PySem PySem.Spec PyProof.Rows L2
theorem Kd.le {X : Cx} {pins : List (Addr × Obj)} {σ : L2.St} {H : Hp} {s : Shared} (I : Inv X pins σ H s) {a : Addr} {xs : List V} (h : rdS X.K H a = some xs) : xs.length ≤ sizeLine := by
  unfold rdS at h
  cases e : rdL X.K H a with
  | some ys => rw [e] at h; cases h; obtain ⟨_, _, _, q⟩ := I.list (rdL_sq e); exact q
  | none => rw [e] at h; obtain ⟨_, _, _, q⟩ := I.tuple (rdT_sq h); exact q
end U
namespace U
open PySem PySem.Spec PyProof.Rows L2
def revS (z : Str) : Str := ⟨z.cps.toList.reverse.toArray⟩
theorem picked_rev (z : Str) (t : Tok) : (slicePicked z none none (some (-1, t))).filterMap (z.cps[·]?) = z.cps.toList.reverse := by
  show (sliceRange ((z.length : Int) - 1) (-1) (-1)).filterMap (z.cps[·]?) = _
  rw [PySem.W.krv_sliceRange, PySem.W.krv_range, List.filterMap_reverse]
  congr 1
  exact PySem.W.krv_all z.cps
def uRev (K : PySem.W.Frag) (te : TE) : TE := fun σ H Q => te σ H fun x H1 => match x with
  | .str z => z.length ≤ sizeLine ∧ Q (.str (revS z)) H1
  | .ref a => oK (rdL K H1 a) fun xs => ∀ p, H1 p = none → Q (.ref p) (upd H1 p (.lst xs.reverse))
  | _ => False
section
variable {X : Cx}
theorem pe_revU {e : Expr} {te : TE} {k : Nat} {p1 p2 p3 pos : Pos} (he : PE X e te) : PE X (.Subscript e (.Slice none none (some (.UnaryOp .USub (.Constant (.int 1) k p1) p2)) p3) pos) (uRev X.K te) := by
  refine ⟨fun pins s σ H Q I h => ?_⟩
  refine Subscript_ (thn (he.run pins s σ H _ I h) fun v s1 ⟨x, H1, I1, r1, q1⟩ => ?_)
  have hst : PO X (some (.UnaryOp .USub (.Constant (.int 1) k p1) p2)) (tPart (tUn (rU fun i => .int (-i)) (tC (.int 1)))) := po_some (pe_un un_neg pe_int)
  refine wpAny_Slice (thn (po_none.run pins s1 σ H1 (fun o H2 => o = none ∧ H2 = H1) I1 ⟨rfl, rfl⟩) fun vl s2 ⟨l, H2, I2, pl, el, e2⟩ => ?_)
  subst el e2
  refine thn (po_none.run pins s2 σ H2 (fun o H3 => o = none ∧ H3 = H2) I2 ⟨rfl, rfl⟩) fun vu s3 ⟨u, H3, I3, pu, eu, e3⟩ => ?_
  subst eu e3
  refine thn (hst.run pins s3 σ H3 (fun o H4 => o = some (-1) ∧ H4 = H3) I3 ⟨1, rfl, -1, rfl, rfl, rfl⟩) fun vs s4 ⟨o, H4, I4, ps, eo, e4⟩ => ?_
  subst eo e4
  have I5 : Inv X pins σ H4 { s4 with heap := s4.heap.push { cls := .type "slice", data := .fields #[vl, vu, vs] } } := I4.kept (t' := s4.toks) fun b ob q => Heap.get?_push_of_some _ q
  split at q1
  · rename_i z
    obtain ⟨t, rfl⟩ := r1
    show wpAny (model X.prog X.w) X.A (subscriptTail e (.Slice none none (some (.UnaryOp .USub (.Constant (.int 1) k p1) p2)) p3) (.str z t) (.ref s4.heap.objs.size)) (EP X pins σ Q) X.xe { s4 with heap := s4.heap.push { cls := .type "slice", data := .fields #[vl, vu, vs] } }
    refine tail_any (ops := [.str z t, .ref s4.heap.objs.size]) (typeIs_str _ z t) (F.slot_str_getitem.lookup) ?_ (by with_unfolding_all rfl)
    cases pl
    cases pu
    cases ps with
    | int i tk =>
      refine wpAny_getItem_str_slice (l := none) (u := none) (st := some (-1, tk)) ⟨_, Heap.get?_push_size _ rfl, rfl, rfl⟩ rfl ?_
      have hm : sliceMade z t none none (some (-1, tk)) = .str (revS z) := by
        unfold sliceMade
        rw [if_neg (by simp), picked_rev]; rfl
      rw [hm]
      exact ⟨by show z.cps.toList.reverse.toArray.size ≤ _; rw [List.size_toArray, List.length_reverse]; exact q1.1, V.str (revS z), H4, I5.tok _, ⟨_, rfl⟩, q1.2⟩
  · rename_i a
    cases r1
    obtain ⟨xs, e1, q⟩ := oK_ex q1
    obtain ⟨its, r, ht, hz⟩ := I5.list (rdL_sq e1)
    have hlen := r.length
    show wpAny (model X.prog X.w) X.A (subscriptTail e (.Slice none none (some (.UnaryOp .USub (.Constant (.int 1) k p1) p2)) p3) (.ref a) (.ref s4.heap.objs.size)) (EP X pins σ Q) X.xe { s4 with heap := s4.heap.push { cls := .type "slice", data := .fields #[vl, vu, vs] } }
    refine tail_any (ops := [.ref a, .ref s4.heap.objs.size]) ht.isList.typeIs (PySem.slot_list_getitem.lookup) ?_ (by with_unfolding_all rfl)
    refine wpAny_getItem_list_slice ht.isList (Heap.IsSliceOf.new _ vl vu vs) pl pu ps (by decide) ?_ (by rw [List.size_toArray]; omega)
    rw [PySem.W.krv_pick]
    refine ⟨.ref _, _, I5.laid (t' := s4.toks) (o := .lst xs.reverse) (fun b ob q => Heap.get?_push_of_some _ q) (Nat.le_refl _) ?_, rfl, q _ (I5.hok.fresh (Nat.le_refl _))⟩
    exact ⟨by rw [List.length_reverse]; exact hz, _, 0, r.reverse, Heap.get?_push_size _ rfl⟩
  · exact q1.elim
end
end U
namespace U
open PySem PySem.Spec PyProof.Rows L2
end U
namespace U
open PySem PySem.Spec PyProof.Rows L2
mutual
def pureD : PyData → Bool
  | .str _ => true
  | .int _ => true
  | .list ds => pureAll ds
  | .tuple ds => pureAll ds
  | _ => false
def pureAll : List PyData → Bool
  | [] => true
  | d :: ds => pureD d && pureAll ds
end
mutual
theorem eqv_iff : ∀ (d e : PyData), pureD d = true → pureD e = true → (PyData.eqv d e = true ↔ d = e)
  | .str x, .str y, _, _ => by simp [PyData.eqv]
  | .int x, .int y, _, _ => by simp [PyData.eqv]
  | .list xs, .list ys, h1, h2 => by
    rw [PyData.eqv, eqvAll_iff xs ys (by simpa only [pureD] using h1) (by simpa only [pureD] using h2)]; simp
  | .tuple xs, .tuple ys, h1, h2 => by
    rw [PyData.eqv, eqvAll_iff xs ys (by simpa only [pureD] using h1) (by simpa only [pureD] using h2)]; simp
  | .str _, .int _, _, _ => by simp [PyData.eqv]
  | .str _, .list _, _, _ => by simp [PyData.eqv]
  | .str _, .tuple _, _, _ => by simp [PyData.eqv]
  | .int _, .str _, _, _ => by simp [PyData.eqv]
  | .int _, .list _, _, _ => by simp [PyData.eqv]
  | .int _, .tuple _, _, _ => by simp [PyData.eqv]
  | .list _, .str _, _, _ => by simp [PyData.eqv]
  | .list _, .int _, _, _ => by simp [PyData.eqv]
  | .list _, .tuple _, _, _ => by simp [PyData.eqv]
  | .tuple _, .str _, _, _ => by simp [PyData.eqv]
  | .tuple _, .int _, _, _ => by simp [PyData.eqv]
  | .tuple _, .list _, _, _ => by simp [PyData.eqv]
  | .none, _, h, _ => by simp [pureD] at h
  | .bool _, _, h, _ => by simp [pureD] at h
  | .dict _, _, h, _ => by simp [pureD] at h
  | .str _, .none, _, h => by simp [pureD] at h
  | .str _, .bool _, _, h => by simp [pureD] at h
  | .str _, .dict _, _, h => by simp [pureD] at h
  | .int _, .none, _, h => by simp [pureD] at h
  | .int _, .bool _, _, h => by simp [pureD] at h
  | .int _, .dict _, _, h => by simp [pureD] at h
  | .list _, .none, _, h => by simp [pureD] at h
  | .list _, .bool _, _, h => by simp [pureD] at h
  | .list _, .dict _, _, h => by simp [pureD] at h
  | .tuple _, .none, _, h => by simp [pureD] at h
  | .tuple _, .bool _, _, h => by simp [pureD] at h
  | .tuple _, .dict _, _, h => by simp [pureD] at h
theorem eqvAll_iff : ∀ (xs ys : List PyData), pureAll xs = true → pureAll ys = true → (PyData.eqvAll xs ys = true ↔ xs = ys)
  | [], [], _, _ => by simp [PyData.eqvAll]
  | [], _ :: _, _, _ => by simp [PyData.eqvAll]
  | _ :: _, [], _, _ => by simp [PyData.eqvAll]
  | x :: xs, y :: ys, h1, h2 => by
    simp only [pureAll, Bool.and_eq_true] at h1 h2
    rw [PyData.eqvAll, Bool.and_eq_true, eqv_iff x y h1.1 h2.1, eqvAll_iff xs ys h1.2 h2.2]; simp
end
theorem lay_all : ∀ {ds : List PyData} {n : Nat}, (∀ d ∈ ds, PyData.canLay0 d = true ∧ d.depth ≤ n) → PyData.canLayAll0 ds = true ∧ PyData.depthAll ds ≤ n
  | [], n, _ => ⟨by simp only [PyData.canLayAll0], by simp only [PyData.depthAll]; omega⟩
  | d :: ds, n, h => by
    obtain ⟨h1, h2⟩ := lay_all (ds := ds) (n := n) fun e he => h e (List.mem_cons_of_mem _ he)
    have h0 := h d List.mem_cons_self
    exact ⟨by simp only [PyData.canLayAll0, h0.1, h1, Bool.and_self], by simp only [PyData.depthAll]; have := h0.2; omega⟩
theorem lay_list {ds : List PyData} {n : Nat} (h : ∀ d ∈ ds, PyData.canLay0 d = true ∧ d.depth ≤ n) : PyData.canLay0 (.list ds) = true ∧ (PyData.list ds).depth ≤ n + 1 := by
  obtain ⟨h1, h2⟩ := lay_all h
  exact ⟨by simp only [PyData.canLay0, h1], by simp only [PyData.depth]; omega⟩
theorem lay_tup {ds : List PyData} {n : Nat} (h : ∀ d ∈ ds, PyData.canLay0 d = true ∧ d.depth ≤ n) : PyData.canLay0 (.tuple ds) = true ∧ (PyData.tuple ds).depth ≤ n + 1 := by
  obtain ⟨h1, h2⟩ := lay_all h
  exact ⟨by simp only [PyData.canLay0, h1], by simp only [PyData.depth]; omega⟩
theorem lay_str {z : Str} (h : sok z) : PyData.canLay0 (.str z) = true ∧ (PyData.str z).depth ≤ 0 := by
  refine ⟨?_, by simp only [PyData.depth]; omega⟩
  simp only [PyData.canLay0, PyData.strOk]
  rw [Array.all_eq_true']
  intro c hc
  exact decide_eq_true (h c (Array.mem_def.mp hc))
theorem lay_tok {t : Tk} (h : sok t.1 ∧ sok t.2) : PyData.canLay0 (tokD t) = true ∧ (tokD t).depth ≤ 1 := lay_tup (n := 0) (by
  intro d hd
  simp only [List.mem_cons, List.not_mem_nil, or_false] at hd
  rcases hd with rfl | rfl
  · exact lay_str h.1
  · exact lay_str h.2)
theorem lay_text {ts : List Tk} (h : SokT ts) : PyData.canLay0 (textD ts) = true ∧ (textD ts).depth ≤ 2 := lay_list (n := 1) (by
  intro d hd
  obtain ⟨t, ht, rfl⟩ := List.mem_map.mp hd
  exact lay_tok (h t ht))
theorem shaped_of {d : PyData} {n : Nat} (h : PyData.canLay0 d = true ∧ d.depth ≤ n) (hn : n ≤ 64) : SeqAt.shaped d = true := by
  unfold SeqAt.shaped
  rw [h.1, decide_eq_true (Nat.le_trans h.2 hn)]; rfl
mutual
theorem pure_nodict : ∀ d : PyData, pureD d = true → d.hasDict = false
  | .str _, _ => by simp [PyData.hasDict]
  | .int _, _ => by simp [PyData.hasDict]
  | .list ds, h => by rw [PyData.hasDict]; exact pure_nodictAll ds (by simpa only [pureD] using h)
  | .tuple ds, h => by rw [PyData.hasDict]; exact pure_nodictAll ds (by simpa only [pureD] using h)
  | .none, h => by simp [pureD] at h
  | .bool _, h => by simp [pureD] at h
  | .dict _, h => by simp [pureD] at h
theorem pure_nodictAll : ∀ ds : List PyData, pureAll ds = true → PyData.hasDictAll ds = false
  | [], _ => by simp [PyData.hasDictAll]
  | d :: ds, h => by
    simp only [pureAll, Bool.and_eq_true] at h
    simp only [PyData.hasDictAll, pure_nodict d h.1, pure_nodictAll ds h.2, Bool.or_self]
end
theorem pureAll_of : ∀ {ds : List PyData}, (∀ d ∈ ds, pureD d = true) → pureAll ds = true
  | [], _ => by simp [pureAll]
  | d :: ds, h => by simp [pureAll, h d List.mem_cons_self, pureAll_of fun e he => h e (List.mem_cons_of_mem _ he)]
theorem pure_tok (t : Tk) : pureD (tokD t) = true := by simp [tokD, pureD, pureAll]
theorem pure_text (ts : List Tk) : pureD (textD ts) = true := by
  unfold textD; rw [pureD]
  exact pureAll_of fun d hd => by obtain ⟨t, _, rfl⟩ := List.mem_map.mp hd; exact pure_tok t
end U
namespace U
open PySem PySem.Spec PyProof.Rows L2
/-- the callee runs, somewhere below the body -/
theorem run_sub {X : Cx} {CX : CXT} {k : Nat} {f : Addr} {sp : Sp} {E : XK} {Q : VK} {pins : List (Addr × Obj)} {σ : L2.St} {H : Hp} {s : Shared} {us : List Value} {vs : List V} {A : Around} (F : FnR X.prog X.w X.K X.mg X.base CX k f sp) (sb : Sub X k A) (hx : PassesAt CX X σ E)
    (I : Inv X pins σ H s) (r : Vals vs us) (h : sp vs H Q E) : wpAny (model X.prog X.w) A (call (.ref f) us) (EP X pins σ Q) X.xe s := by
  have e := I.env0
  have e0 : Env0 X.prog X.w X.K X.mg X.base A X.stack s H := ⟨by rw [sb.fr]; exact e.frames, e.mod, e.bs, e.bsz, e.funs, e.frf, e.hok, e.bare⟩
  refine wpAny_call (codeAny_mono (F A X.stack s H us vs Q E sb.room e0 r h) fun r s' hq => ?_)
  match r, hq with
  | .error er, hq => exact hx pins H s er s' I hq
  | .ok (.ret u), hq => exact I.after hq
theorem sub_self {X : Cx} {k : Nat} (hr : Room k X.A) : Sub X k X.A := ⟨hr, rfl⟩
/-- one class of a table -/
structure MEnt (X : Cx) (m : Str) (E : L2.St → XK) (n : Nat) (C : Addr) (sp : Sp) : Prop where
  ex : ∃ CX k f, k ≤ n ∧ Cls X.K C ∧ Meth X.K C m f ∧ FnR X.prog X.w X.K X.mg X.base CX k f sp ∧ ∀ σ, PassesAt CX X σ (E σ)
inductive MTab (X : Cx) (m : Str) (E : L2.St → XK) (n : Nat) : List (Addr × Sp) → Prop
  | nil : MTab X m E n []
  | cons {C : Addr} {sp : Sp} {l : List (Addr × Sp)} : MEnt X m E n C sp → MTab X m E n l → MTab X m E n ((C, sp) :: l)
theorem MTab.at' {X : Cx} {m : Str} {E : L2.St → XK} {n : Nat} {C : Addr} {sp : Sp} : ∀ {l : List (Addr × Sp)}, MTab X m E n l → (C, sp) ∈ l → MEnt X m E n C sp
  | _, .cons h r, hm => by
    rcases List.mem_cons.mp hm with e | e
    · cases e; exact h
    · exact r.at' e
theorem pas0 {X : Cx} {E : XK} {σ : L2.St} : PassesAt CX0 X σ E := fun _ _ _ _ _ _ h => h.elim
theorem pasL {X : Cx} {σ : L2.St} : PassesAt (L2.CX X.prog X.w) X σ (WE (fun _ _ _ _ => False) σ) := fun pins H s e s' I h => passL pins σ H s e s' I h
theorem pasP {X : Cx} {CX : CXT} {E : XK} {σ : L2.St} (h : Passes CX X E) : PassesAt CX X σ (WE (fun cls d _ H => E cls d H) σ) := fun pins H s e s' I c => h pins σ H s e s' I c
theorem ment {X : Cx} {m : Str} {E : L2.St → XK} {n k : Nat} {C f : Addr} {sp : Sp} {CX : CXT} {fd : FuncData} {ps : List Str} (c : Cls X.K C) (hm : Meth X.K C m f) (F : FnOk X.prog X.w X.K X.mg X.base CX k f fd ps sp) (hb : Binds X.K fd ps []) (hx : ∀ σ, PassesAt CX X σ (E σ)) (hk : k ≤ n := by decide) : MEnt X m E n C sp :=
  ⟨CX, k, f, hk, c, hm, (F.raw hb .nil).imp fun vs H Q E h => by rw [List.append_nil]; exact h, hx⟩
/-- o.m(..) -/
def uMeth (m : Str) (tab : List (Addr × Sp)) (E : L2.St → XK) (ta : TE) (t : TA) : TE := fun σ H Q => ta σ H fun x H1 => ∃ C sp a dx fs, (C, sp) ∈ tab ∧ x = .ref a ∧ H1 a = some (.ins C dx fs) ∧ fs.lookup m = none ∧ t σ H1 fun vs H2 => sp (.ref a :: vs) H2 Q (E σ)
section
variable {X : Cx} {n : Nat} {m : Str} {E : L2.St → XK} {tab : List (Addr × Sp)} {o e : Expr} {es : List Expr} {ta : TE} {t : TA} {pos apos : Pos} {pl : Sem Bool}
theorem pe_methT (he : PE X o ta) (T : MTab X m E n tab) (hr : Room n X.A) (ha : PA X (e :: es) t)
    (hst : starEach (e :: es) X.env = (false, eval e X.env) :: starEach es X.env := by rfl) (hpl : (backTo pos (starEach es X.env)).any (·.1) = false := by rfl)
    (ht : eval (.Call (.Attribute o m apos) (e :: es) [] pos) X.env = (do
      let ov ← eval o X.env
      standAt apos.atName
      let (f, first) ← holding [ov] (getMethod ov m pl)
      callWith pos f first (backTo pos (starEach (e :: es) X.env)) (backToKw pos (keywordEach [] X.env))) := by rfl) :
    PE X (.Call (.Attribute o m apos) (e :: es) [] pos) (uMeth m tab E ta t) := by
  refine ⟨fun pins s σ H Q I h => ?_⟩
  refine PySem.W.methodCall_KW (pl := pl) (thn (he.run pins s σ H _ I h) fun u s1 ⟨x, H1, I1, rx, C, sp, a, dx, fs, hT, ex, ea, l, q⟩ => ?_) ht
  subst ex
  obtain rfl : u = Value.ref a := rx
  obtain ⟨CX, k, f, hk, c, hm, F, hx⟩ := (T.at' hT).ex
  refine getmeth_ok I1 ea c hm l ?_
  refine PySem.W.callWith_K (first := [.ref a]) (h₀ := X.base) I.ok.mod.kin hm.kp (thn (ha.run pos pins s1 σ H1 _ I1 q) fun us s2 ⟨vs, H2, I2, r, q2⟩ => ⟨I2.kIn, ?_⟩) hst hpl
  exact run_sub F (sub_self (hr.mono hk)) (hx σ) I2 (us := .ref a :: us) (vs := .ref a :: vs) (.cons rfl r) q2
theorem pe_methT0 (he : PE X o ta) (T : MTab X m E n tab) (hr : Room n X.A)
    (ht : eval (.Call (.Attribute o m apos) [] [] pos) X.env = (do
      let ov ← eval o X.env
      standAt apos.atName
      let (f, first) ← holding [ov] (getMethod ov m pl)
      callWith pos f first (backTo pos (starEach [] X.env)) (backToKw pos (keywordEach [] X.env))) := by rfl) :
    PE X (.Call (.Attribute o m apos) [] [] pos) (uMeth m tab E ta tNil) := by
  refine ⟨fun pins s σ H Q I h => ?_⟩
  refine PySem.W.methodCall_KW (pl := pl) (thn (he.run pins s σ H _ I h) fun u s1 ⟨x, H1, I1, rx, C, sp, a, dx, fs, hT, ex, ea, l, q⟩ => ?_) ht
  subst ex
  obtain rfl : u = Value.ref a := rx
  obtain ⟨CX, k, f, hk, c, hm, F, hx⟩ := (T.at' hT).ex
  refine getmeth_ok I1 ea c hm l ?_
  exact PySem.W.callWith_K0 (first := [.ref a]) I1.kIn hm.kp (run_sub F (sub_self (hr.mono hk)) (hx σ) I1 (us := [.ref a]) (vs := [.ref a]) (.cons rfl .nil) q)
end
/-- C(.., k = v, ..) -/
def uMakeK (C : Addr) (n m : Nat) (sp : Sp) (gV : List V → List V → List V) (E : L2.St → XK) (t tk : TA) : TE := fun σ H Q => t σ H fun vs H1 => tk σ H1 fun zs H2 => vs.length = n ∧ zs.length = m ∧ ∀ x dx, H2 x = none → H2 dx = none → dx ≠ x →
  sp (gV (.ref x :: vs) zs) (upd (upd H2 dx (.own x)) x (.ins C dx [])) (fun v H3 => v = .non ∧ Q (.ref x) H3) (E σ)
section
variable {X : Cx} {CX : CXT} {k n : Nat} {f C : Addr} {fd : FuncData} {ps ks : List Str} {sp : Sp} {E : L2.St → XK} {x : Str} {p pos : Pos} {e : Expr} {es : List Expr} {kws : List Keyword} {t tk : TA} {g : List Value → List Value → List Value} {gV : List V → List V → List V} {dvs : List V} {ds : List Value}
/-- behind __init__ -/
theorem mk_run {pins : List (Addr × Obj)} {σ : L2.St} {H : Hp} {s : Shared} {Q : VK} {us : List Value} {kw : List (Str × Value)} {ws : List Value} {zs : List V} (M : Mk X.K C f) (F : FnOk X.prog X.w X.K X.mg X.base CX k f fd ps sp) (hr : Room (k + 1) X.A) (hx : PassesAt CX X σ (E σ))
    (I : Inv X pins σ H s) (hb : ∀ s', X.K.In s'.heap → BindsTo s' fd ⟨Value.ref (s.heap.objs.size + 1) :: us, kw⟩ (ps.zip ws)) (rz : Vals zs ws)
    (hq : sp zs (upd (upd H s.heap.objs.size (.own (s.heap.objs.size + 1))) (s.heap.objs.size + 1) (.ins C s.heap.objs.size [])) (fun v H2 => v = .non ∧ Q (.ref (s.heap.objs.size + 1)) H2) (E σ)) :
    wpAny (model X.prog X.w) X.A (call (.ref C) us kw) (EP X pins σ Q) X.xe s := by
  have I2 := Inv.made (C := C) I
  refine wpAny_call (make_map (f := f) I.kIn M.makes M.init (beq_iff_eq.mp M.fn) (codeAny_mono (F.run _ X.stack _ _ ⟨Value.ref (s.heap.objs.size + 1) :: us, kw⟩ ws _ _ (E σ) (hr.make C us kw)
    (I2.env0.make C us kw) (hb _ I2.kIn) rz hq) fun r s' hq' => ?_))
  match r, hq' with
  | .error er, hq' => exact hx pins _ _ er s' I2 hq'
  | .ok (.ret u), hq' =>
    obtain ⟨v, H', I3, rv, ev, q3⟩ := I2.after hq'
    subst ev
    exact ⟨rv, ⟨V.ref (s.heap.objs.size + 1), H', I3, rfl, q3⟩⟩
theorem run_mkK {pins : List (Addr × Obj)} {σ : L2.St} {H : Hp} {s : Shared} {Q : VK} {us ws : List Value} {vs zs : List V} (M : Mk X.K C f) (F : FnOk X.prog X.w X.K X.mg X.base CX k f fd ps sp) (hr : Room (k + 1) X.A) (hb : KBn X.K fd ps (n + 1) ks g gV) (hx : PassesAt CX X σ (E σ))
    (I : Inv X pins σ H s) (r : Vals vs us) (rz : Vals zs ws) (l1 : vs.length = n) (l2 : zs.length = ks.length)
    (h : ∀ x dx, H x = none → H dx = none → dx ≠ x → sp (gV (.ref x :: vs) zs) (upd (upd H dx (.own x)) x (.ins C dx [])) (fun v H2 => v = .non ∧ Q (.ref x) H2) (E σ)) :
    wpAny (model X.prog X.w) X.A (call (.ref C) us (ks.zip ws)) (EP X pins σ Q) X.xe s := by
  have hq := h (s.heap.objs.size + 1) s.heap.objs.size (I.hok.fresh (Nat.le_succ _)) (I.hok.fresh (Nat.le_refl _)) (Nat.ne_of_lt (Nat.lt_succ_self _))
  have r1 : Vals (V.ref (s.heap.objs.size + 1) :: vs) (Value.ref (s.heap.objs.size + 1) :: us) := .cons rfl r
  have n1 : (Value.ref (s.heap.objs.size + 1) :: us).length = n + 1 := by rw [List.length_cons, ← r.length, l1]
  exact mk_run M F hr hx I (fun s' ki => hb.to _ (Value.ref (s.heap.objs.size + 1) :: us) ws ki n1 (rz.length.symm.trans l2)) (hb.rel r1 rz) hq
theorem pe_mkK (M : Mk X.K C f) (F : FnOk X.prog X.w X.K X.mg X.base CX k f fd ps sp) (hr : Room (k + 1) X.A) (hg : Gl X x) (hm : X.mg x = some (.ref C)) (hb : ∃ g, KBn X.K fd ps (n + 1) ks g gV) (hx : ∀ σ, PassesAt CX X σ (E σ)) (ha : PA X (e :: es) t) (hkw : PK X kws tk)
    {m : Nat} (hl : ks.length = m := by rfl) (hall : (backToKw pos (keywordEach kws X.env)).all (·.1.isSome) = true := by rfl) (hks : (backToKw pos (keywordEach kws X.env)).filterMap (·.1) = ks := by rfl) (hdb : (x == ("__debug__" : Str)) = false := by decide)
    (he : starEach (e :: es) X.env = (false, eval e X.env) :: starEach es X.env := by rfl) (hpl : ((backTo pos (starEach (e :: es) X.env)).any (·.1) || (backToKw pos (keywordEach kws X.env)).any (·.1.isNone)) = false := by rfl) :
    PE X (.Call (.Name x p) (e :: es) kws pos) (uMakeK C n m sp gV E t tk) := by
  subst hl
  refine ⟨fun pins s σ H Q I h => ?_⟩
  obtain ⟨g, hb⟩ := hb
  refine wpAny_Call_Name_kw (ld_glob I hg hm ?_ hdb)
  refine PySem.W.callWith_KW (h₀ := X.base) I.ok.mod.kin M.kp hall (thn (ha.run pos pins s σ H _ I h) fun us s1 ⟨vs, H1, I1, r, q⟩ => ?_) hpl he
  refine thn (hkw.run pos pins s1 σ H1 _ I1 q) fun ws s2 ⟨zs, H2, I2, rz, l1, l2, q2⟩ => ⟨I2.kIn, ?_⟩
  rw [hks]
  exact run_mkK M F hr hb (hx σ) I2 r rz l1 l2 q2
end
end U
namespace U
open PySem PySem.Spec PyProof.Rows L2
end U
namespace U
open PySem PySem.Spec PyProof.Rows L2
/-- a class whose instances can be looked at -/
structure InsF (K : PySem.W.Frag) (C : Addr) : Prop where
  cl : Cls K C
  ha : PySem.W.findIn K (.ref C) "__class__" = some (some (.builtin "object.__class__"))
  hn : PySem.W.specialIn K (.builtin "object.__class__") "__get__" = some (some (.builtin "getset_descriptor.__get__"))
  htk : PySem.W.takesIn K (.builtin "object.__class__") = some true
  hm : PySem.W.mroIn K C (.type "object") = some true
theorem InsF.ty {K : PySem.W.Frag} {C : Addr} (h : InsF K C) {H : Hp} {a dx : Addr} {fs : List (Str × V)} (e : H a = some (.ins C dx fs)) : TyX K H (.ref a) (.ref C) := .base (.ins e h.cl h.ha h.hn h.htk h.hm)
section
variable {X : Cx}
theorem ip_umul : PIp X .Mult uMul := OpRi (show OpR X (inplaceOp .Mult) (rI CMul fun i j => .int (i * j)) from opI fun _ _ _ _ _ _ _ hc q => imul_int q hc.ok) fun x y H Q h => by
  unfold uMul at h
  split at h
  · exact ⟨_, _, rfl, rfl, h.1, h.2⟩
  · exact h.elim
theorem ip_ufdiv : PIp X .FloorDiv uFdiv := OpRi (show OpR X (inplaceOp .FloorDiv) (rI CDiv fun i j => .int (i / j)) from opI fun i j _ _ _ _ _ hc q => by
    have h1 : (0 : Int) < j := hc.1
    have h2 : j < 1073741824 := hc.2
    exact ifloordiv_int (by omega) (by rw [Int.fdiv_eq_ediv_of_nonneg i (by omega)]; exact q) (.inl (PyProof.noPylong_small (by omega)))) fun x y H Q h => by
  unfold uFdiv at h
  split at h
  · exact ⟨_, _, rfl, rfl, h.1, h.2⟩
  · exact h.elim
end
end U
namespace U
open PySem PySem.Spec PyProof.Rows L2
end U
namespace Fx
open PySem PySem.Spec PyProof.Rows L2 U
inductive D where
  | non | bl (b : Bool) | int (i : Int) | str (z : Str) | lst (ds : List D) | tup (ds : List D) | fro (l : Bool) (ds : List D) | dct (kvs : List (Key × D)) | cel (k : Nat) | obj (c : Nat) (fs : List (Str × D)) | cls (c : Nat)
/-- what stands in a cell -/
inductive Ce where
  | lst (ds : List D) | dK (kvs : List (Key × D)) | ins (c : Nat) (fs : List (Str × D))
abbrev Sto := List Ce
/-- a slot: nothing known, a value, a list of one's own, an object that is being made, an exception that was caught -/
inductive Sl where
  | no | val (d : D) | own (ds : List D) | oob (c : Nat) (fs : List (Str × D)) | exn (c : Nat) (fs : List (Str × D))
/-- looked at only, a value, a new list or object -/
inductive Fl where
  | pk | tr | fs
inductive RE where
  | ok (d : D) (f : Fl) (S : Sto) | xc (c : Nat) (fs : List (Str × D)) (S : Sto) | bad
abbrev Ev := List Sl
abbrev FE := Ev → Sto → RE
/-- a list or tuple of the module's top, or the script: read only -/
def NoF (K : PySem.W.Frag) (ι B : List Addr) (H : Hp) (a : Addr) (xs : List V) : Bool → Prop
  | true => (a ∉ ι ∧ a ∉ B ∧ ∃ o, H a = some (.frz o (.lst xs))) ∨ SqL K (fun _ => none) a xs
  | false => (a ∉ ι ∧ a ∉ B ∧ ∃ o, H a = some (.frz o (.tup xs))) ∨ SqT K (fun _ => none) a xs
section
variable (K : PySem.W.Frag) (ca : Nat → Addr) (ι B : List Addr) (H : Hp)
mutual
inductive RV : V → D → Prop
  | non : RV .non .non
  | bl (b : Bool) : RV (.bl b) (.bl b)
  | int (i : Int) : RV (.int i) (.int i)
  | str (z : Str) : RV (.str z) (.str z)
  | lst {a : Addr} {xs : List V} {ds : List D} : a ∉ ι → a ∉ B → H a = some (.lst xs) → RAll xs ds → RV (.ref a) (.lst ds)
  | tup {a : Addr} {xs : List V} {ds : List D} : a ∉ ι → a ∉ B → H a = some (.tup xs) → RAll xs ds → RV (.ref a) (.tup ds)
  | fro {a : Addr} {l : Bool} {xs : List V} {ds : List D} : NoF K ι B H a xs l → RAll xs ds → RV (.ref a) (.fro l ds)
  | dct {a : Addr} {kvs : List (Key × V)} {es : List (Key × D)} : a ∉ ι → a ∉ B → H a = some (.dK kvs) → RKv kvs es → RV (.ref a) (.dct es)
  | cel {a : Addr} {k : Nat} : ι[k]? = some a → RV (.ref a) (.cel k)
  | obj {a dx : Addr} {c : Nat} {fs : List (Str × V)} {es : List (Str × D)} : a ∉ ι → a ∉ B → H a = some (.ins (ca c) dx fs) → RFs fs es → RV (.ref a) (.obj c es)
  | cls (c : Nat) : RV (.ref (ca c)) (.cls c)
inductive RAll : List V → List D → Prop
  | nil : RAll [] []
  | cons {v : V} {d : D} {vs : List V} {ds : List D} : RV v d → RAll vs ds → RAll (v :: vs) (d :: ds)
inductive RKv : List (Key × V) → List (Key × D) → Prop
  | nil : RKv [] []
  | cons {k : Key} {v : V} {d : D} {vs : List (Key × V)} {ds : List (Key × D)} : RV v d → RKv vs ds → RKv ((k, v) :: vs) ((k, d) :: ds)
inductive RFs : List (Str × V) → List (Str × D) → Prop
  | nil : RFs [] []
  | cons {k : Str} {v : V} {d : D} {vs : List (Str × V)} {ds : List (Str × D)} : RV v d → RFs vs ds → RFs ((k, v) :: vs) ((k, d) :: ds)
end
end
/-- what stands at one time stands later -/
structure Per (ι B : List Addr) (H : Hp) (ι' B' : List Addr) (H' : Hp) : Prop where
  at' : ∀ (a : Addr) (o : HO), H a = some o → a ∉ ι → a ∉ B → H' a = some o ∧ a ∉ ι' ∧ a ∉ B'
  ix : ∀ (k : Nat) (a : Addr), ι[k]? = some a → ι'[k]? = some a
theorem Per.refl {ι B : List Addr} {H : Hp} : Per ι B H ι B H := ⟨fun _ _ h1 h2 h3 => ⟨h1, h2, h3⟩, fun _ _ h => h⟩
theorem Per.trans {ι B ι1 B1 ι2 B2 : List Addr} {H H1 H2 : Hp} (a : Per ι B H ι1 B1 H1) (b : Per ι1 B1 H1 ι2 B2 H2) : Per ι B H ι2 B2 H2 :=
  ⟨fun x o h1 h2 h3 => by
    obtain ⟨q1, q2, q3⟩ := a.at' x o h1 h2 h3
    exact b.at' x o q1 q2 q3, fun k x h => b.ix k x (a.ix k x h)⟩
section
variable {K : PySem.W.Frag} {ca : Nat → Addr} {ι B ι' B' : List Addr} {H H' : Hp}
theorem NoF.per {a : Addr} {xs : List V} {l : Bool} (h : NoF K ι B H a xs l) (p : Per ι B H ι' B' H') : NoF K ι' B' H' a xs l := by
  cases l with
  | true =>
    rcases h with ⟨h1, h2, o, h3⟩ | h
    · obtain ⟨q1, q2, q3⟩ := p.at' a _ h3 h1 h2
      exact .inl ⟨q2, q3, o, q1⟩
    · exact .inr h
  | false =>
    rcases h with ⟨h1, h2, o, h3⟩ | h
    · obtain ⟨q1, q2, q3⟩ := p.at' a _ h3 h1 h2
      exact .inl ⟨q2, q3, o, q1⟩
    · exact .inr h
theorem NoF.sq {a : Addr} {xs : List V} {l : Bool} (h : NoF K ι B H a xs l) : SqL K H a xs ∨ SqT K H a xs := by
  cases l with
  | true =>
    rcases h with ⟨_, _, o, h3⟩ | h
    · exact .inl (.inl (.inr ⟨o, h3⟩))
    · rcases h with (h | ⟨_, h⟩) | h
      · cases h
      · cases h
      · exact .inl (.inr h)
  | false =>
    rcases h with ⟨_, _, o, h3⟩ | h
    · exact .inr (.inl (.inr ⟨o, h3⟩))
    · rcases h with (h | ⟨_, h⟩) | h
      · cases h
      · cases h
      · exact .inr (.inr h)
mutual
theorem RV.pe (p : Per ι B H ι' B' H') : ∀ (d : D) {v : V}, RV K ca ι B H v d → RV K ca ι' B' H' v d
  | .non, _, h => by cases h; exact .non
  | .bl _, _, h => by cases h; exact .bl _
  | .int _, _, h => by cases h; exact .int _
  | .str _, _, h => by cases h; exact .str _
  | .lst ds, _, h => by
    cases h with
    | lst h1 h2 h3 h4 =>
      obtain ⟨q1, q2, q3⟩ := p.at' _ _ h3 h1 h2
      exact .lst q2 q3 q1 (RAll.pe p ds h4)
  | .tup ds, _, h => by
    cases h with
    | tup h1 h2 h3 h4 =>
      obtain ⟨q1, q2, q3⟩ := p.at' _ _ h3 h1 h2
      exact .tup q2 q3 q1 (RAll.pe p ds h4)
  | .fro l ds, _, h => by
    cases h with
    | fro h1 h2 => exact .fro (h1.per p) (RAll.pe p ds h2)
  | .dct es, _, h => by
    cases h with
    | dct h1 h2 h3 h4 =>
      obtain ⟨q1, q2, q3⟩ := p.at' _ _ h3 h1 h2
      exact .dct q2 q3 q1 (RKv.pe p es h4)
  | .cel k, _, h => by
    cases h with
    | cel h1 => exact .cel (p.ix _ _ h1)
  | .obj c es, _, h => by
    cases h with
    | obj h1 h2 h3 h4 =>
      obtain ⟨q1, q2, q3⟩ := p.at' _ _ h3 h1 h2
      exact .obj q2 q3 q1 (RFs.pe p es h4)
  | .cls _, _, h => by cases h; exact .cls _
theorem RAll.pe (p : Per ι B H ι' B' H') : ∀ (ds : List D) {vs : List V}, RAll K ca ι B H vs ds → RAll K ca ι' B' H' vs ds
  | [], _, h => by cases h; exact .nil
  | d :: ds, _, h => by
    cases h with
    | cons h1 h2 => exact .cons (RV.pe p d h1) (RAll.pe p ds h2)
theorem RKv.pe (p : Per ι B H ι' B' H') : ∀ (ds : List (Key × D)) {vs : List (Key × V)}, RKv K ca ι B H vs ds → RKv K ca ι' B' H' vs ds
  | [], _, h => by cases h; exact .nil
  | (k, d) :: ds, _, h => by
    cases h with
    | cons h1 h2 => exact .cons (RV.pe p d h1) (RKv.pe p ds h2)
theorem RFs.pe (p : Per ι B H ι' B' H') : ∀ (ds : List (Str × D)) {vs : List (Str × V)}, RFs K ca ι B H vs ds → RFs K ca ι' B' H' vs ds
  | [], _, h => by cases h; exact .nil
  | (k, d) :: ds, _, h => by
    cases h with
    | cons h1 h2 => exact .cons (RV.pe p d h1) (RFs.pe p ds h2)
end
theorem RV.per {d : D} {v : V} (h : RV K ca ι B H v d) (p : Per ι B H ι' B' H') : RV K ca ι' B' H' v d := RV.pe p d h
theorem RAll.per {d : List D} {v : List V} (h : RAll K ca ι B H v d) (p : Per ι B H ι' B' H') : RAll K ca ι' B' H' v d := RAll.pe p d h
theorem RKv.per {d : List (Key × D)} {v : List (Key × V)} (h : RKv K ca ι B H v d) (p : Per ι B H ι' B' H') : RKv K ca ι' B' H' v d := RKv.pe p d h
theorem RFs.per {d : List (Str × D)} {v : List (Str × V)} (h : RFs K ca ι B H v d) (p : Per ι B H ι' B' H') : RFs K ca ι' B' H' v d := RFs.pe p d h
theorem RAll.len : ∀ {ds : List D} {vs : List V}, RAll K ca ι B H vs ds → vs.length = ds.length
  | [], _, h => by cases h; rfl
  | d :: ds, _, h => by
    cases h with
    | cons h1 h2 => rw [List.length_cons, List.length_cons, RAll.len h2]
theorem RAll.app : ∀ {ds es : List D} {vs ws : List V}, RAll K ca ι B H vs ds → RAll K ca ι B H ws es → RAll K ca ι B H (vs ++ ws) (ds ++ es)
  | [], _, _, _, h, g => by cases h; exact g
  | d :: ds, _, _, _, h, g => by
    cases h with
    | cons h1 h2 => exact .cons h1 (RAll.app h2 g)
theorem RAll.drop : ∀ (n : Nat) {ds : List D} {vs : List V}, RAll K ca ι B H vs ds → RAll K ca ι B H (vs.drop n) (ds.drop n)
  | 0, _, _, h => h
  | n + 1, [], _, h => by cases h; exact .nil
  | n + 1, d :: ds, _, h => by
    cases h with
    | cons h1 h2 => exact RAll.drop n h2
theorem RAll.take : ∀ (n : Nat) {ds : List D} {vs : List V}, RAll K ca ι B H vs ds → RAll K ca ι B H (vs.take n) (ds.take n)
  | 0, _, _, h => .nil
  | n + 1, [], _, h => by cases h; exact .nil
  | n + 1, d :: ds, _, h => by
    cases h with
    | cons h1 h2 => exact .cons h1 (RAll.take n h2)
theorem RAll.at : ∀ {ds : List D} {vs : List V} (i : Nat) {d : D}, RAll K ca ι B H vs ds → ds[i]? = some d → ∃ v, vs[i]? = some v ∧ RV K ca ι B H v d
  | [], _, i, _, h, e => by simp at e
  | d :: ds, _, 0, _, h, e => by
    cases h with
    | cons h1 h2 => simp at e; subst e; exact ⟨_, rfl, h1⟩
  | d :: ds, _, i + 1, _, h, e => by
    cases h with
    | cons h1 h2 =>
      obtain ⟨v, q1, q2⟩ := RAll.at i h2 (by simpa using e)
      exact ⟨v, by simpa using q1, q2⟩
theorem RAll.atV : ∀ {ds : List D} {vs : List V} (i : Nat) {v : V}, RAll K ca ι B H vs ds → vs[i]? = some v → ∃ d, ds[i]? = some d ∧ RV K ca ι B H v d
  | [], _, i, _, h, e => by cases h; simp at e
  | d :: ds, _, 0, _, h, e => by
    cases h with
    | cons h1 h2 => simp at e; subst e; exact ⟨_, rfl, h1⟩
  | d :: ds, _, i + 1, _, h, e => by
    cases h with
    | cons h1 h2 =>
      obtain ⟨v, q1, q2⟩ := RAll.atV i h2 (by simpa using e)
      exact ⟨v, by simpa using q1, q2⟩
theorem RAll.set : ∀ {ds : List D} {vs : List V} (i : Nat) {d : D} {v : V}, RAll K ca ι B H vs ds → RV K ca ι B H v d → RAll K ca ι B H (vs.set i v) (ds.set i d)
  | [], _, i, _, _, h, g => by cases h; exact .nil
  | d :: ds, _, 0, _, _, h, g => by
    cases h with
    | cons h1 h2 => exact .cons g h2
  | d :: ds, _, i + 1, _, _, h, g => by
    cases h with
    | cons h1 h2 => exact .cons h1 (RAll.set i h2 g)
theorem RAll.rev {ds : List D} {vs : List V} (h : RAll K ca ι B H vs ds) : RAll K ca ι B H vs.reverse ds.reverse := by
  induction ds generalizing vs with
  | nil => cases h; exact .nil
  | cons d ds ih =>
    cases h with
    | cons h1 h2 =>
      rw [List.reverse_cons, List.reverse_cons]
      exact RAll.app (ih h2) (.cons h1 .nil)
theorem RFs.look : ∀ {ds : List (Str × D)} {vs : List (Str × V)} {f : Str}, RFs K ca ι B H vs ds → (∃ d v, ds.lookup f = some d ∧ vs.lookup f = some v ∧ RV K ca ι B H v d) ∨ (ds.lookup f = none ∧ vs.lookup f = none)
  | [], _, f, h => by cases h; exact .inr ⟨rfl, rfl⟩
  | (k, d) :: ds, _, f, h => by
    cases h with
    | cons h1 h2 =>
      rw [List.lookup_cons, List.lookup_cons]
      cases e : f == k with
      | true => exact .inl ⟨d, _, rfl, rfl, h1⟩
      | false => exact RFs.look h2
end
/-- seen only, or a value -/
inductive RT (K : PySem.W.Frag) (ca : Nat → Addr) (ι B : List Addr) (H : Hp) : V → D → Prop
  | v {x : V} {d : D} : RV K ca ι B H x d → RT K ca ι B H x d
  | l {a : Addr} {xs : List V} {ds : List D} : a ∉ ι → H a = some (.lst xs) → RAll K ca ι B H xs ds → RT K ca ι B H (.ref a) (.lst ds)
  | o {a dx : Addr} {c : Nat} {fs : List (Str × V)} {es : List (Str × D)} : a ∉ ι → H a = some (.ins (ca c) dx fs) → RFs K ca ι B H fs es → RT K ca ι B H (.ref a) (.obj c es)
inductive RC (K : PySem.W.Frag) (ca : Nat → Addr) (ι B : List Addr) (H : Hp) (a : Addr) : Ce → Prop
  | lst {xs : List V} {ds : List D} : H a = some (.lst xs) → RAll K ca ι B H xs ds → RC K ca ι B H a (.lst ds)
  | dK {xs : List (Key × V)} {ds : List (Key × D)} : H a = some (.dK xs) → RKv K ca ι B H xs ds → RC K ca ι B H a (.dK ds)
  | ins {dx : Addr} {c : Nat} {fs : List (Str × V)} {es : List (Str × D)} : H a = some (.ins (ca c) dx fs) → RFs K ca ι B H fs es → RC K ca ι B H a (.ins c es)
structure RS (K : PySem.W.Frag) (ca : Nat → Addr) (ι B : List Addr) (H : Hp) (S : Sto) : Prop where
  len : ι.length = S.length
  at' : ∀ (k : Nat) (a : Addr) (c : Ce), ι[k]? = some a → S[k]? = some c → RC K ca ι B H a c
/-- a new one -/
inductive Fs (K : PySem.W.Frag) (ca : Nat → Addr) (ι B : List Addr) (H0 H : Hp) (S : Sto) : V → D → Prop
  | l {a : Addr} {xs : List V} {ds : List D} : a ∉ ι → a ∉ B → H0 a = none → H a = some (.lst xs) → RAll K ca ι (a :: B) H xs ds → RS K ca ι (a :: B) H S → Fs K ca ι B H0 H S (.ref a) (.lst ds)
  | o {a dx : Addr} {c : Nat} {fs : List (Str × V)} {es : List (Str × D)} : a ∉ ι → a ∉ B → H0 a = none → H a = some (.ins (ca c) dx fs) → RFs K ca ι (a :: B) H fs es → RS K ca ι (a :: B) H S → Fs K ca ι B H0 H S (.ref a) (.obj c es)
def RF (K : PySem.W.Frag) (ca : Nat → Addr) (ι B : List Addr) (H0 H : Hp) (S : Sto) (v : V) (d : D) : Fl → Prop
  | .pk => RT K ca ι B H v d
  | .tr => RV K ca ι B H v d
  | .fs => Fs K ca ι B H0 H S v d
section
variable {K : PySem.W.Frag} {ca : Nat → Addr} {ι B ι' B' : List Addr} {H0 H H' : Hp} {S : Sto} {v : V} {d : D}
theorem Per.less (h : ∀ a ∈ B', a ∈ B) : Per ι B H ι B' H := ⟨fun a o h1 h2 h3 => ⟨h1, h2, fun z => h3 (h a z)⟩, fun _ _ z => z⟩
theorem Fs.rv (h : Fs K ca ι B H0 H S v d) : RV K ca ι B H v d := by
  cases h with
  | l h1 h2 h3 h4 h5 h6 => exact .lst h1 h2 h4 (h5.per (Per.less fun a ha => List.mem_cons_of_mem _ ha))
  | o h1 h2 h3 h4 h5 h6 => exact .obj h1 h2 h4 (h5.per (Per.less fun a ha => List.mem_cons_of_mem _ ha))
theorem RF.rt {f : Fl} (h : RF K ca ι B H0 H S v d f) : RT K ca ι B H v d := by
  cases f with
  | pk => exact h
  | tr => exact .v h
  | fs => exact .v (Fs.rv h)
theorem RF.rv {f : Fl} (h : RF K ca ι B H0 H S v d f) (hf : f ≠ .pk) : RV K ca ι B H v d := by
  cases f with
  | pk => exact absurd rfl hf
  | tr => exact h
  | fs => exact Fs.rv h
theorem Fs.old {H1 : Hp} (h : Fs K ca ι B H0 H S v d) (g : ∀ a, H1 a ≠ none → H0 a ≠ none) : Fs K ca ι B H1 H S v d := by
  have e : ∀ a, H0 a = none → H1 a = none := fun a q => by
    cases z : H1 a with
    | none => rfl
    | some o => exact absurd q (g a (by rw [z]; simp))
  cases h with
  | l h1 h2 h3 h4 h5 h6 => exact .l h1 h2 (e _ h3) h4 h5 h6
  | o h1 h2 h3 h4 h5 h6 => exact .o h1 h2 (e _ h3) h4 h5 h6
theorem RF.old {f : Fl} {H1 : Hp} (h : RF K ca ι B H0 H S v d f) (g : ∀ a, H1 a ≠ none → H0 a ≠ none) : RF K ca ι B H1 H S v d f := by
  cases f with
  | pk => exact h
  | tr => exact h
  | fs => exact Fs.old h g
end
/-- the heap has grown, but for the cells -/
structure Ext (ι : List Addr) (H : Hp) (ι' : List Addr) (H' : Hp) : Prop where
  pre : ι <+: ι'
  keep : ∀ a o, H a = some o → a ∉ ι → H' a = some o
  new : ∀ a ∈ ι', a ∉ ι → H a = none
  dom : ∀ a, H a ≠ none → H' a ≠ none
theorem ix_pre {ι ι' : List Addr} (h : ι <+: ι') {k : Nat} {a : Addr} (e : ι[k]? = some a) : ι'[k]? = some a := by
  obtain ⟨t, rfl⟩ := h
  rw [List.getElem?_append_left (List.getElem?_eq_some_iff.mp e).1]; exact e
section
variable {ι ι1 ι2 B : List Addr} {H H1 H2 : Hp}
theorem Ext.refl : Ext ι H ι H := ⟨List.prefix_rfl, fun _ _ h _ => h, fun _ h n => absurd h n, fun _ h => h⟩
theorem Ext.trans (a : Ext ι H ι1 H1) (b : Ext ι1 H1 ι2 H2) : Ext ι H ι2 H2 := by
  refine ⟨a.pre.trans b.pre, fun x o h n => ?_, fun x h n => ?_, fun x h => b.dom x (a.dom x h)⟩
  · refine b.keep x o (a.keep x o h n) fun z => ?_
    have := a.new x z n
    rw [h] at this; cases this
  · by_cases hx : x ∈ ι1
    · exact a.new x hx n
    · have := b.new x h hx
      cases e : H x with
      | none => rfl
      | some o => exact absurd this (a.dom x (by rw [e]; simp))
theorem Ext.per (e : Ext ι H ι1 H1) : Per ι B H ι1 B H1 :=
  ⟨fun a o h1 h2 h3 => ⟨e.keep a o h1 h2, (fun z => by
    have := e.new a z h2
    rw [h1] at this; cases this), h3⟩, fun _ _ h => ix_pre e.pre h⟩
/-- a new thing at p -/
theorem Ext.new1 {p : Addr} {o : HO} (h : H p = none) : Ext ι H ι (upd H p o) := by
  refine ⟨List.prefix_rfl, fun a u e _ => ?_, fun _ h n => absurd h n, fun a e => ?_⟩
  · rw [upd_ne (ne_of_none e h)]; exact e
  · unfold upd; split
    · simp
    · exact e
theorem Ext.gr (g : ∀ a o, H a = some o → H1 a = some o) : Ext ι H ι H1 := by
  refine ⟨List.prefix_rfl, fun a u e _ => g a u e, fun _ h n => absurd h n, fun a e => ?_⟩
  cases z : H a with
  | none => exact absurd z e
  | some o => rw [g a o z]; simp
end
section
variable {K : PySem.W.Frag} {ca : Nat → Addr} {ι B ι' : List Addr} {H H' : Hp} {v : V} {d : D}
theorem RV.ex (h : RV K ca ι B H v d) (e : Ext ι H ι' H') : RV K ca ι' B H' v d := h.per e.per
theorem RAll.ex {vs : List V} {ds : List D} (h : RAll K ca ι B H vs ds) (e : Ext ι H ι' H') : RAll K ca ι' B H' vs ds := h.per e.per
theorem RFs.ex {vs : List (Str × V)} {ds : List (Str × D)} (h : RFs K ca ι B H vs ds) (e : Ext ι H ι' H') : RFs K ca ι' B H' vs ds := h.per e.per
theorem Ext.off (e : Ext ι H ι' H') {a : Addr} {o : HO} (h : H a = some o) (n : a ∉ ι) : a ∉ ι' := fun z => by
  have := e.new a z n
  rw [h] at this; cases this
theorem RT.ex (h : RT K ca ι B H v d) (e : Ext ι H ι' H') : RT K ca ι' B H' v d := by
  cases h with
  | v h => exact .v (h.ex e)
  | l h1 h2 h3 => exact .l (e.off h2 h1) (e.keep _ _ h2 h1) (h3.ex e)
  | o h1 h2 h3 => exact .o (e.off h2 h1) (e.keep _ _ h2 h1) (h3.ex e)
end
theorem RC.here {K : PySem.W.Frag} {ca : Nat → Addr} {ι B : List Addr} {H : Hp} {a : Addr} {c : Ce} (h : RC K ca ι B H a c) : H a ≠ none := by
  cases h with
  | lst h _ => rw [h]; simp
  | dK h _ => rw [h]; simp
  | ins h _ => rw [h]; simp
theorem RS.here {K : PySem.W.Frag} {ca : Nat → Addr} {ι B : List Addr} {H : Hp} {S : Sto} (h : RS K ca ι B H S) : ∀ a ∈ ι, H a ≠ none := fun a ha => by
  obtain ⟨k, hk, e⟩ := List.getElem_of_mem ha
  have e1 : ι[k]? = some a := by rw [List.getElem?_eq_getElem hk, e]
  have hk2 : k < S.length := by rw [← h.len]; exact hk
  exact (h.at' k a S[k] e1 (List.getElem?_eq_getElem hk2)).here
/-- cells whose own objects stay -/
theorem RC.per {K : PySem.W.Frag} {ca : Nat → Addr} {ι B ι' B' : List Addr} {H H' : Hp} {a : Addr} {c : Ce} (h : RC K ca ι B H a c) (e : H' a = H a) (p : Per ι B H ι' B' H') : RC K ca ι' B' H' a c := by
  cases h with
  | lst h r => exact .lst (e.trans h) (r.per p)
  | dK h r => exact .dK (e.trans h) (r.per p)
  | ins h r => exact .ins (e.trans h) (r.per p)
theorem RS.per {K : PySem.W.Frag} {ca : Nat → Addr} {ι B B' : List Addr} {H H' : Hp} {S : Sto} (h : RS K ca ι B H S) (e : ∀ a ∈ ι, H' a = H a) (p : Per ι B H ι B' H') : RS K ca ι B' H' S :=
  ⟨h.len, fun k a c h1 h2 => (h.at' k a c h1 h2).per (e a (List.mem_of_getElem? h1)) p⟩
theorem RS.gr {K : PySem.W.Frag} {ca : Nat → Addr} {ι B : List Addr} {H H' : Hp} {S : Sto} (h : RS K ca ι B H S) (g : ∀ a o, H a = some o → H' a = some o) : RS K ca ι B H' S :=
  h.per (fun a ha => by
    cases e : H a with
    | none => exact absurd e (h.here a ha)
    | some o => exact g a o e) (Ext.gr g).per
/-- the dict of an exception, if it has one -/
def NI (d : Option Addr) (l : List Addr) : Prop := ∀ a, d = some a → a ∉ l
def XD (H : Hp) (d : Option Addr) (fs : List (Str × V)) : Prop := match d with
  | some a => H a = some (.xd fs)
  | none => fs = []
theorem NI.less {d : Option Addr} {l m : List Addr} (h : NI d m) (s : ∀ a ∈ l, a ∈ m) : NI d l := fun a e z => h a e (s a z)
theorem XD.ex {ι ι' : List Addr} {H H' : Hp} {d : Option Addr} {fs : List (Str × V)} (h : XD H d fs) (n : NI d ι) (e : Ext ι H ι' H') : XD H' d fs := by
  cases d with
  | none => exact h
  | some a => exact e.keep _ _ h (n a rfl)
theorem NI.ex {ι ι' : List Addr} {H H' : Hp} {d : Option Addr} {fs : List (Str × V)} (h : XD H d fs) (n : NI d ι) (e : Ext ι H ι' H') : NI d ι' := fun a q => by
  subst q
  exact e.off h (n a rfl)
theorem XD.per {ι B ι' B' : List Addr} {H H' : Hp} {d : Option Addr} {fs : List (Str × V)} (h : XD H d fs) (n1 : NI d ι) (n2 : NI d B) (p : Per ι B H ι' B' H') : XD H' d fs ∧ NI d ι' ∧ NI d B' := by
  cases d with
  | none => exact ⟨h, (fun a z => nomatch z), (fun a z => nomatch z)⟩
  | some a =>
    obtain ⟨q1, q2, q3⟩ := p.at' a _ h (n1 a rfl) (n2 a rfl)
    exact ⟨q1, fun b z => by cases z; exact q2, fun b z => by cases z; exact q3⟩
structure Fr where
  H0 : Hp
  i0 : List Addr
  B0 : List Addr
structure Gm where
  K : PySem.W.Frag
  ca : Nat → Addr
  x : Option (Addr × Option Addr × Nat)
  me : Option Addr
inductive RSl (G : Gm) (ι B ω : List Addr) (H : Hp) : Sl → Option V → Prop
  | no {o : Option V} : RSl G ι B ω H .no o
  | val {v : V} {d : D} : RV G.K G.ca ι B H v d → RSl G ι B ω H (.val d) (some v)
  | own {a : Addr} {xs : List V} {ds : List D} : a ∈ ω → H a = some (.lst xs) → RAll G.K G.ca ι B H xs ds → RSl G ι B ω H (.own ds) (some (.ref a))
  | oob {a dx : Addr} {c : Nat} {fs : List (Str × V)} {es : List (Str × D)} : a ∈ ω → G.me = some a → H a = some (.ins (G.ca c) dx fs) → RFs G.K G.ca ι B H fs es → RSl G ι B ω H (.oob c es) (some (.ref a))
  | exn {a : Addr} {dd : Option Addr} {c : Nat} {fs : List (Str × V)} {es : List (Str × D)} : G.x = some (a, dd, c) → NI dd ι → NI dd B → XD H dd fs → RFs G.K G.ca ι B H fs es → RSl G ι B ω H (.exn c es) (some (.ref a))
def isOwn : Sl → Bool
  | .own _ => true
  | .oob _ _ => true
  | _ => false
structure Rel (G : Gm) (F : Fr) (ι ω : List Addr) (ρ : Ev) (S : Sto) (σ : L2.St) (H : Hp) : Prop where
  pre : F.i0 <+: ι
  old : ∀ a o, F.H0 a = some o → a ∉ F.i0 → H a = some o
  dom : ∀ a, F.H0 a ≠ none → H a ≠ none
  fri : ∀ a ∈ ι, a ∉ F.i0 → F.H0 a = none
  frw : ∀ a ∈ ω, F.H0 a = none
  b0 : ∀ a ∈ F.B0, F.H0 a ≠ none ∧ a ∉ F.i0
  nd : ι.Nodup
  dj : ∀ a ∈ ω, a ∉ ι
  dw : ∀ a ∈ ω, H a ≠ none
  sto : RS G.K G.ca ι (F.B0 ++ ω) H S
  len : ρ.length = σ.length
  env : ∀ (i : Nat) (s : Sl) (o : Option V), ρ[i]? = some s → σ[i]? = some o → RSl G ι (F.B0 ++ ω) ω H s o
  own : ∀ (i j : Nat) (a : Addr) (s s' : Sl), i ≠ j → ρ[i]? = some s → ρ[j]? = some s' → isOwn s = true → isOwn s' = true → σ[i]? = some (some (.ref a)) → σ[j]? = some (some (.ref a)) → False
section
variable {G : Gm} {F : Fr} {ι ω ι' : List Addr} {ρ : Ev} {S S' : Sto} {σ : L2.St} {H H' : Hp}
theorem RSl.ex {s : Sl} {o : Option V} (h : RSl G ι (F.B0 ++ ω) ω H s o) (dj : ∀ a ∈ ω, a ∉ ι) (e : Ext ι H ι' H') : RSl G ι' (F.B0 ++ ω) ω H' s o := by
  cases h with
  | no => exact .no
  | val h => exact .val (h.ex e)
  | own h1 h2 h3 => exact .own h1 (e.keep _ _ h2 (dj _ h1)) (h3.ex e)
  | oob h1 h0 h2 h3 => exact .oob h1 h0 (e.keep _ _ h2 (dj _ h1)) (h3.ex e)
  | exn h1 h2 h3 h4 h5 => exact .exn h1 (NI.ex h4 h2 e) h3 (h4.ex h2 e) (h5.ex e)
theorem Rel.bi (r : Rel G F ι ω ρ S σ H) : ∀ a ∈ F.B0 ++ ω, a ∉ ι := fun a ha z => by
  rcases List.mem_append.mp ha with h | h
  · obtain ⟨h1, h2⟩ := r.b0 a h
    exact h1 (r.fri a z h2)
  · exact r.dj a h z
theorem Rel.bd (r : Rel G F ι ω ρ S σ H) : ∀ a ∈ F.B0 ++ ω, H a ≠ none := fun a ha => by
  rcases List.mem_append.mp ha with h | h
  · exact r.dom a (r.b0 a h).1
  · exact r.dw a h
theorem Rel.ex (r : Rel G F ι ω ρ S σ H) (e : Ext ι H ι' H') (nd : ι'.Nodup) (s : RS G.K G.ca ι' (F.B0 ++ ω) H' S') : Rel G F ι' ω ρ S' σ H' := by
  have up : ∀ a o, F.H0 a = some o → a ∉ F.i0 → a ∉ ι := fun a o h n z => by
    have := r.fri a z n
    rw [h] at this; cases this
  refine ⟨r.pre.trans e.pre, fun a o h n => e.keep a o (r.old a o h n) (up a o h n), fun a h => e.dom a (r.dom a h), fun a h n => ?_, r.frw, r.b0, nd, fun a h z => ?_, fun a h => e.dom a (r.dw a h), s, r.len, fun i s o h1 h2 => (r.env i s o h1 h2).ex r.dj e, r.own⟩
  · by_cases hx : a ∈ ι
    · exact r.fri a hx n
    · have q := e.new a h hx
      cases z : F.H0 a with
      | none => rfl
      | some o => exact absurd q (r.dom a (by rw [z]; simp))
  · exact r.dw a h (e.new a z (r.dj a h))
/-- the heap alone has grown -/
theorem Rel.gr (r : Rel G F ι ω ρ S σ H) (g : ∀ a o, H a = some o → H' a = some o) : Rel G F ι ω ρ S σ H' := r.ex (Ext.gr g) r.nd (r.sto.gr g)
theorem Rel.new (r : Rel G F ι ω ρ S σ H) {p : Addr} {o : HO} (h : H p = none) : Rel G F ι ω ρ S σ (upd H p o) := r.gr fun a u e => by
  rw [upd_ne (ne_of_none e h)]; exact e
theorem Rel.offi (r : Rel G F ι ω ρ S σ H) {p : Addr} (h : H p = none) : p ∉ ι := fun z => r.sto.here p z h
theorem Rel.offb (r : Rel G F ι ω ρ S σ H) {p : Addr} (h : H p = none) : p ∉ F.B0 ++ ω := fun z => r.bd p z h
end
end Fx
namespace U
open PySem PySem.Spec PyProof.Rows L2
mutual
inductive Dq (K : PySem.W.Frag) (H : Hp) : V → PyData → Prop
  | non : Dq K H .non .none
  | bl (k : Bool) : Dq K H (.bl k) (.bool k)
  | int (i : Int) : Dq K H (.int i) (.int i)
  | str (z : Str) : Dq K H (.str z) (.str z)
  | lst {a : Addr} {xs : List V} {ds : List PyData} : SqL K H a xs → DqAll K H xs ds → Dq K H (.ref a) (.list ds)
  | tup {a : Addr} {xs : List V} {ds : List PyData} : SqT K H a xs → DqAll K H xs ds → Dq K H (.ref a) (.tuple ds)
  | dct {a : Addr} : H a = some (.dK []) → Dq K H (.ref a) (.dict [])
  | dct1 {a : Addr} {z : Str} {i : Int} : H a = some (.dK [(.inr z, .int i)]) → Dq K H (.ref a) (.dict [(.str z, .int i)])
inductive DqAll (K : PySem.W.Frag) (H : Hp) : List V → List PyData → Prop
  | nil : DqAll K H [] []
  | cons {v : V} {vs : List V} {d : PyData} {ds : List PyData} : Dq K H v d → DqAll K H vs ds → DqAll K H (v :: vs) (d :: ds)
end
mutual
theorem Dq.dp {K : PySem.W.Frag} {H : Hp} : ∀ (d : PyData) {v : V}, Dq K H v d → d.hasDict = false → Dp K H v d
  | .none, _, h, _ => by cases h; exact .non
  | .bool _, _, h, _ => by cases h; exact .bl _
  | .int _, _, h, _ => by cases h; exact .int _
  | .str _, _, h, _ => by cases h; exact .str _
  | .list ds, _, h, g => by
    cases h with
    | lst h2 h3 => exact .lst h2 (DqAll.dp ds h3 (by simpa only [PyData.hasDict] using g))
  | .tuple ds, _, h, g => by
    cases h with
    | tup h2 h3 => exact .tup h2 (DqAll.dp ds h3 (by simpa only [PyData.hasDict] using g))
  | .dict _, _, _, g => by simp only [PyData.hasDict] at g; cases g
theorem DqAll.dp {K : PySem.W.Frag} {H : Hp} : ∀ (ds : List PyData) {vs : List V}, DqAll K H vs ds → PyData.hasDictAll ds = false → DpAll K H vs ds
  | [], _, h, _ => by cases h; exact .nil
  | d :: ds, _, h, g => by
    cases h with
    | cons h1 h2 =>
      simp only [PyData.hasDictAll, Bool.or_eq_false_iff] at g
      exact .cons (Dq.dp d h1 g.1) (DqAll.dp ds h2 g.2)
end
/-- data that repr takes, of any leaves -/
structure Okw (d : PyData) : Prop where
  sh : d.showable = true
  dp : d.depth ≤ 20
  sz : d.shown.length ≤ sizeLine
theorem Okd.w {d : PyData} (h : Okd d) : Okw d := ⟨h.sh, h.dp, h.size⟩
end U
namespace Fx
open PySem PySem.Spec PyProof.Rows L2 U
noncomputable section
def bE (r : RE) (k : D → Fl → Sto → RE) : RE := match r with
  | .ok d f S => k d f S
  | .xc c fs S => .xc c fs S
  | .bad => .bad
def PostE (G : Gm) (E : WX) (F : Fr) (ι ω : List Addr) (ρ : Ev) (σ : L2.St) (H : Hp) (Q : VK) : RE → Prop
  | .ok d f S' => ∀ ι' v H', Ext ι H ι' H' → Rel G F ι' ω ρ S' σ H' → RF G.K G.ca ι' (F.B0 ++ ω) H H' S' v d f → Q v H'
  | .xc c fs S' => ∀ ι' dd fv H', Ext ι H ι' H' → Rel G F ι' ω ρ S' σ H' → NI dd ι' → NI dd (F.B0 ++ ω) → XD H' dd fv → RFs G.K G.ca ι' (F.B0 ++ ω) H' fv fs → E (.ref (G.ca c)) dd σ H'
  | .bad => False
def SE (G : Gm) (E : WX) (t : TE) (f : FE) : Prop := ∀ F ι ω ρ S σ H Q, Rel G F ι ω ρ S σ H → PostE G E F ι ω ρ σ H Q (f ρ S) → t σ H Q
section
variable {G : Gm} {E : WX} {F : Fr} {ι ω ι1 : List Addr} {ρ : Ev} {S S1 : Sto} {σ : L2.St} {H H1 : Hp} {Q : VK}
theorem PostE.ex {r : RE} (h : PostE G E F ι ω ρ σ H Q r) (e : Ext ι H ι1 H1) : PostE G E F ι1 ω ρ σ H1 Q r := by
  cases r with
  | ok d f S' => exact fun ι' v H' e' r rf => h ι' v H' (e.trans e') r (rf.old e.dom)
  | xc c fs S' => exact fun ι' dd fv H' e' r n1 n2 h1 h2 => h ι' dd fv H' (e.trans e') r n1 n2 h1 h2
  | bad => exact h
theorem SE.bind {ta : TE} {fa : FE} (ha : SE G E ta fa) (r : Rel G F ι ω ρ S σ H) {k : D → Fl → Sto → RE} (h : PostE G E F ι ω ρ σ H Q (bE (fa ρ S) k)) {R : VK}
    (c : ∀ d f S1 ι1 v H1, Ext ι H ι1 H1 → Rel G F ι1 ω ρ S1 σ H1 → RF G.K G.ca ι1 (F.B0 ++ ω) H H1 S1 v d f → PostE G E F ι1 ω ρ σ H1 Q (k d f S1) → R v H1) : ta σ H R := by
  refine ha F ι ω ρ S σ H R r ?_
  cases e : fa ρ S with
  | ok d f S1 =>
    rw [e] at h
    exact fun ι1 v H1 e1 r1 rf => c d f S1 ι1 v H1 e1 r1 rf (PostE.ex h e1)
  | xc c' fs S1 => rw [e] at h; exact h
  | bad => rw [e] at h; exact h
/-- an answer that changes nothing -/
theorem PostE.now {d : D} {v : V} (h : PostE G E F ι ω ρ σ H Q (.ok d .tr S)) (r : Rel G F ι ω ρ S σ H) (rv : RV G.K G.ca ι (F.B0 ++ ω) H v d) : Q v H := h ι v H Ext.refl r rv
theorem Per.add {B : List Addr} {p : Addr} {o : HO} (hp : H p = none) : Per ι B H ι (p :: B) (upd H p o) :=
  ⟨fun a u h1 h2 h3 => ⟨by rw [upd_ne (ne_of_none h1 hp)]; exact h1, h2, fun z => by
    rcases List.mem_cons.mp z with z | z
    · exact ne_of_none h1 hp z
    · exact h3 z⟩, fun _ _ h => h⟩
theorem Per.new {B : List Addr} {p : Addr} {o : HO} (hp : H p = none) : Per ι B H ι B (upd H p o) := (Ext.new1 hp).per
theorem RS.add {K : PySem.W.Frag} {ca : Nat → Addr} {B : List Addr} {p : Addr} {o : HO} (h : RS K ca ι B H S) (hp : H p = none) : RS K ca ι (p :: B) (upd H p o) S :=
  h.per (fun a ha => upd_ne fun z => h.here a ha (by rw [z]; exact hp)) (Per.add hp)
/-- a new list -/
theorem PostE.newL {ds : List D} {xs : List V} (h : PostE G E F ι ω ρ σ H Q (.ok (.lst ds) .fs S)) (r : Rel G F ι ω ρ S σ H) (rv : RAll G.K G.ca ι (F.B0 ++ ω) H xs ds) (p : Addr) (hp : H p = none) : Q (.ref p) (upd H p (.lst xs)) :=
  h ι (.ref p) _ (Ext.new1 hp) (r.new hp) (.l (r.offi hp) (r.offb hp) hp upd_same (rv.per (Per.add hp)) (r.sto.add hp))
theorem PostE.newT {ds : List D} {xs : List V} (h : PostE G E F ι ω ρ σ H Q (.ok (.tup ds) .tr S)) (r : Rel G F ι ω ρ S σ H) (rv : RAll G.K G.ca ι (F.B0 ++ ω) H xs ds) (p : Addr) (hp : H p = none) : Q (.ref p) (upd H p (.tup xs)) :=
  h ι (.ref p) _ (Ext.new1 hp) (r.new hp) (.tup (r.offi hp) (r.offb hp) upd_same (rv.per (Per.new hp)))
end
def lsOf (S : Sto) : D → Option (List D)
  | .lst ds => some ds
  | .cel k => (match S[k]? with | some (.lst ds) => some ds | _ => none)
  | _ => none
def sqOf (S : Sto) : D → Option (List D)
  | .lst ds => some ds
  | .tup ds => some ds
  | .fro _ ds => some ds
  | .cel k => (match S[k]? with | some (.lst ds) => some ds | _ => none)
  | _ => none
section
variable {G : Gm} {E : WX} {F : Fr} {ι ω : List Addr} {ρ : Ev} {S : Sto} {σ : L2.St} {H : Hp} {v : V} {d : D} {ds : List D}
theorem cel_at (r : RS G.K G.ca ι (F.B0 ++ ω) H S) {k : Nat} {a : Addr} (h : ι[k]? = some a) (e : S[k]? = some (.lst ds)) : ∃ xs, H a = some (.lst xs) ∧ RAll G.K G.ca ι (F.B0 ++ ω) H xs ds := by
  cases r.at' k a _ h e with
  | lst h1 h2 => exact ⟨_, h1, h2⟩
theorem ls_at (r : RS G.K G.ca ι (F.B0 ++ ω) H S) (h : RT G.K G.ca ι (F.B0 ++ ω) H v d) (e : lsOf S d = some ds) : ∃ a xs, v = .ref a ∧ H a = some (.lst xs) ∧ RAll G.K G.ca ι (F.B0 ++ ω) H xs ds := by
  unfold lsOf at e
  split at e
  · cases e
    cases h with
    | v h => cases h with | lst h1 h2 h3 h4 => exact ⟨_, _, rfl, h3, h4⟩
    | l h1 h2 h3 => exact ⟨_, _, rfl, h2, h3⟩
  · split at e
    · cases e
      cases h with
      | v h => cases h with
        | cel h1 =>
          obtain ⟨xs, q1, q2⟩ := cel_at r h1 (by assumption)
          exact ⟨_, _, rfl, q1, q2⟩
    · cases e
  · cases e
theorem sq_at (r : RS G.K G.ca ι (F.B0 ++ ω) H S) (h : RT G.K G.ca ι (F.B0 ++ ω) H v d) (e : sqOf S d = some ds) : ∃ a xs, v = .ref a ∧ (SqL G.K H a xs ∨ SqT G.K H a xs) ∧ RAll G.K G.ca ι (F.B0 ++ ω) H xs ds := by
  unfold sqOf at e
  split at e
  · obtain ⟨a, xs, h1, h2, h3⟩ := ls_at r h (show lsOf S (.lst _) = some ds from e)
    exact ⟨a, xs, h1, .inl (.inl (.inl h2)), h3⟩
  · cases e
    cases h with
    | v h => cases h with | tup h1 h2 h3 h4 => exact ⟨_, _, rfl, .inr (.inl (.inl h3)), h4⟩
  · cases e
    cases h with
    | v h => cases h with | fro h1 h2 => exact ⟨_, _, rfl, h1.sq, h2⟩
  · rename_i k
    obtain ⟨a, xs, h1, h2, h3⟩ := ls_at r h (show lsOf S (.cel k) = some ds from e)
    exact ⟨a, xs, h1, .inl (.inl (.inl h2)), h3⟩
  · cases e
end
def fVar (i : Nat) : FE := fun ρ S => match ρ[i]? with
  | some (.val d) => .ok d .tr S
  | some (.own ds) => .ok (.lst ds) .pk S
  | some (.oob c fs) => .ok (.obj c fs) .pk S
  | _ => .bad
def fC (d : D) : FE := fun _ S => .ok d .tr S
section
variable {G : Gm} {E : WX}
theorem se_var (i : Nat) : SE G E (uVar i) (fVar i) := by
  intro F ι ω ρ S σ H Q r h
  unfold fVar at h
  unfold uVar
  cases e : ρ[i]? with
  | none => rw [e] at h; exact h.elim
  | some s =>
    rw [e] at h
    have hi : i < σ.length := by rw [← r.len]; exact (List.getElem?_eq_some_iff.mp e).1
    have q := r.env i s _ e (List.getElem?_eq_getElem hi)
    have e2 : σ[i]? = some σ[i] := List.getElem?_eq_getElem hi
    rw [e2]
    generalize σ[i] = o at q
    cases q with
    | no => exact h.elim
    | val rv => exact PostE.now h r rv
    | own h1 h2 h3 => exact h ι _ H Ext.refl r (.l (r.dj _ h1) h2 h3)
    | oob h1 h0 h2 h3 => exact h ι _ H Ext.refl r (.o (r.dj _ h1) h2 h3)
    | exn => exact h.elim
theorem se_bl (b : Bool) : SE G E (tC (.bl b)) (fC (.bl b)) := fun F ι ω ρ S σ H Q r h => PostE.now h r (.bl b)
theorem se_int (i : Int) : SE G E (tC (.int i)) (fC (.int i)) := fun F ι ω ρ S σ H Q r h => PostE.now h r (.int i)
theorem se_str (z : Str) : SE G E (tC (.str z)) (fC (.str z)) := fun F ι ω ρ S σ H Q r h => PostE.now h r (.str z)
end
def lim : Nat := 1000000
theorem lim_le {n : Nat} (h : n ≤ lim) : n ≤ sizeLine := Nat.le_trans h (by decide)
theorem lim_lt {n : Nat} (h : n < lim) : n < sizeLine := Nat.lt_of_lt_of_le h (by decide)
def fOp (f : D → D → Sto → RE) (ea eb : FE) : FE := fun ρ S => bE (ea ρ S) fun d _ S1 => bE (eb ρ S1) fun e _ S2 => f d e S2
def fUn (f : D → Sto → RE) (ea : FE) : FE := fun ρ S => bE (ea ρ S) fun d _ S1 => f d S1
def SR (G : Gm) (E : WX) (r : R2) (f : D → D → Sto → RE) : Prop := ∀ F ι ω ρ S σ H Q x y d e, Rel G F ι ω ρ S σ H → RT G.K G.ca ι (F.B0 ++ ω) H x d → RT G.K G.ca ι (F.B0 ++ ω) H y e → PostE G E F ι ω ρ σ H Q (f d e S) → r x y H Q
section
variable {G : Gm} {E : WX}
theorem se_op {r : R2} {f : D → D → Sto → RE} {ta tb : TE} {fa fb : FE} (hr : SR G E r f) (ha : SE G E ta fa) (hb : SE G E tb fb) : SE G E (tOp r ta tb) (fOp f fa fb) := by
  intro F ι ω ρ S σ H Q rel h
  refine ha.bind rel h fun d fl S1 ι1 v H1 e1 r1 rf1 h1 => ?_
  refine hb.bind r1 h1 fun e fl2 S2 ι2 w H2 e2 r2 rf2 h2 => ?_
  exact hr F ι2 ω ρ S2 σ H2 Q v w d e r2 (rf1.rt.ex e2) rf2.rt h2
end
open Classical in
def dAdd (d e : D) (S : Sto) : RE := match d, e with
  | .int i, .int j => .ok (.int (i + j)) .tr S
  | .str a, .str b => if a.length + b.length ≤ lim then .ok (.str (a ++ b)) .tr S else .bad
  | d, e => (match lsOf S d, lsOf S e with
    | some a, some b => if a.length + b.length ≤ lim then .ok (.lst (a ++ b)) .fs S else .bad
    | _, _ => .bad)
def dSub (d e : D) (S : Sto) : RE := match d, e with
  | .int i, .int j => .ok (.int (i - j)) .tr S
  | _, _ => .bad
open Classical in
def dMul (d e : D) (S : Sto) : RE := match d, e with
  | .int i, .int j => if CMul i j then .ok (.int (i * j)) .tr S else .bad
  | .str z, .int k => if MulOk z k then .ok (.str (Txt.mul z k)) .tr S else .bad
  | d, .int k => (match lsOf S d with
    | some a => if -(2 ^ 63) ≤ k ∧ k < 2 ^ 63 ∧ a.length * k.toNat ≤ lim then .ok (.lst (List.replicate k.toNat a).flatten) .fs S else .bad
    | _ => .bad)
  | _, _ => .bad
open Classical in
def dFdiv (d e : D) (S : Sto) : RE := match d, e with
  | .int i, .int j => if CDiv i j then .ok (.int (i / j)) .tr S else .bad
  | _, _ => .bad
def dMod (d e : D) (S : Sto) : RE := match d, e with
  | .int i, .int j => if 0 < j then .ok (.int (i % j)) .tr S else .bad
  | _, _ => .bad
open Classical in
def dPow (d e : D) (S : Sto) : RE := match d, e with
  | .int i, .int j => if CPow i j then .ok (.int (i ^ j.toNat)) .tr S else .bad
  | _, _ => .bad
def dCmp (p : Int → Int → Bool) (q : List Nat → List Nat → Bool) (d e : D) (S : Sto) : RE := match d, e with
  | .int i, .int j => .ok (.bl (p i j)) .tr S
  | .str i, .str j => .ok (.bl (q (sl i) (sl j))) .tr S
  | _, _ => .bad
abbrev dLt := dCmp (fun i j => decide (i < j)) (fun i j => decide (i < j))
abbrev dLe := dCmp (fun i j => decide (i ≤ j)) (fun i j => !decide (j < i))
abbrev dGt := dCmp (fun i j => decide (j < i)) (fun i j => decide (j < i))
section
variable {G : Gm} {E : WX}
theorem RT.sInt {K : PySem.W.Frag} {ca : Nat → Addr} {ι B : List Addr} {H : Hp} {v : V} {i : Int} (h : RT K ca ι B H v (.int i)) : v = .int i := by cases h with | v h => cases h; rfl
theorem RT.sStr {K : PySem.W.Frag} {ca : Nat → Addr} {ι B : List Addr} {H : Hp} {v : V} {i : Str} (h : RT K ca ι B H v (.str i)) : v = .str i := by cases h with | v h => cases h; rfl
theorem RT.sBl {K : PySem.W.Frag} {ca : Nat → Addr} {ι B : List Addr} {H : Hp} {v : V} {i : Bool} (h : RT K ca ι B H v (.bl i)) : v = .bl i := by cases h with | v h => cases h; rfl
theorem sr_add : SR G E (uAdd G.K) dAdd := by
  intro F ι ω ρ S σ H Q x y d e rel hx hy h
  unfold dAdd at h
  split at h
  · rw [hx.sInt, hy.sInt]; exact PostE.now h rel (.int _)
  · rw [hx.sStr, hy.sStr]
    split at h
    · exact ⟨lim_le (by assumption), PostE.now h rel (.str _)⟩
    · exact h.elim
  · split at h
    · rename_i a b ea eb
      obtain ⟨p, xs, rfl, h1, h2⟩ := ls_at rel.sto hx ea
      obtain ⟨q, ys, rfl, h3, h4⟩ := ls_at rel.sto hy eb
      split at h
      · rename_i hl
        exact ⟨xs, ys, h1, h3, by rw [h2.len, h4.len]; exact lim_le hl, fun p' hp => PostE.newL h rel (h2.app h4) p' hp⟩
      · exact h.elim
    · exact h.elim
theorem sr_sub : SR G E uSub dSub := by
  intro F ι ω ρ S σ H Q x y d e rel hx hy h
  unfold dSub at h
  split at h
  · rw [hx.sInt, hy.sInt]; exact PostE.now h rel (.int _)
  · exact h.elim
theorem rep_all {K : PySem.W.Frag} {ca : Nat → Addr} {ι B : List Addr} {H : Hp} {xs : List V} {ds : List D} (h : RAll K ca ι B H xs ds) : ∀ n : Nat, RAll K ca ι B H (List.replicate n xs).flatten (List.replicate n ds).flatten
  | 0 => .nil
  | n + 1 => by
    rw [List.replicate_succ, List.replicate_succ, List.flatten_cons, List.flatten_cons]
    exact h.app (rep_all h n)
theorem sr_mul : SR G E uMul3 dMul := by
  intro F ι ω ρ S σ H Q x y d e rel hx hy h
  unfold dMul at h
  split at h
  · rw [hx.sInt, hy.sInt]
    split at h
    · exact ⟨by assumption, PostE.now h rel (.int _)⟩
    · exact h.elim
  · rw [hx.sStr, hy.sInt]
    split at h
    · exact ⟨by assumption, PostE.now h rel (.str _)⟩
    · exact h.elim
  · split at h
    · rename_i a ea
      obtain ⟨p, xs, rfl, h1, h2⟩ := ls_at rel.sto hx ea
      rw [hy.sInt]
      split at h
      · rename_i hl
        exact oK_of (mutL_of h1) ⟨hl.1, hl.2.1, by rw [h2.len]; exact lim_le hl.2.2, fun p' hp => PostE.newL h rel (rep_all h2 _) p' hp⟩
      · exact h.elim
    · exact h.elim
  · exact h.elim
theorem sr_fdiv : SR G E uFdiv dFdiv := by
  intro F ι ω ρ S σ H Q x y d e rel hx hy h
  unfold dFdiv at h
  split at h
  · rw [hx.sInt, hy.sInt]
    split at h
    · exact ⟨by assumption, PostE.now h rel (.int _)⟩
    · exact h.elim
  · exact h.elim
theorem sr_mod : SR G E uMod dMod := by
  intro F ι ω ρ S σ H Q x y d e rel hx hy h
  unfold dMod at h
  split at h
  · rw [hx.sInt, hy.sInt]
    split at h
    · exact ⟨by assumption, PostE.now h rel (.int _)⟩
    · exact h.elim
  · exact h.elim
theorem sr_pow : SR G E uPow dPow := by
  intro F ι ω ρ S σ H Q x y d e rel hx hy h
  unfold dPow at h
  split at h
  · rw [hx.sInt, hy.sInt]
    split at h
    · exact ⟨by assumption, PostE.now h rel (.int _)⟩
    · exact h.elim
  · exact h.elim
theorem sr_cmp (p : Int → Int → Bool) (q : List Nat → List Nat → Bool) : SR G E (uCmpI p q) (dCmp p q) := by
  intro F ι ω ρ S σ H Q x y d e rel hx hy h
  unfold dCmp at h
  split at h
  · rw [hx.sInt, hy.sInt]; exact PostE.now h rel (.bl _)
  · rw [hx.sStr, hy.sStr]; exact PostE.now h rel (.bl _)
  · exact h.elim
end
mutual
def tree (c : Nat → Option PyData) : D → Option PyData
  | .non => some .none
  | .bl b => some (.bool b)
  | .int i => some (.int i)
  | .str z => some (.str z)
  | .lst ds => (treeAll c ds).map .list
  | .tup ds => (treeAll c ds).map .tuple
  | .fro _ _ => none
  | .dct [] => some (.dict [])
  | .dct (_ :: _) => none
  | .cel k => c k
  | .obj _ _ => none
  | .cls _ => none
def treeAll (c : Nat → Option PyData) : List D → Option (List PyData)
  | [] => some []
  | d :: ds => (match tree c d, treeAll c ds with | some p, some ps => some (p :: ps) | _, _ => none)
end
def cells : Nat → Sto → Nat → Option PyData
  | 0, _, _ => none
  | n + 1, S, k => (match S[k]? with | some (.lst ds) => (treeAll (cells n S) ds).map .list | _ => none)
def toP (S : Sto) (d : D) : Option PyData := tree (cells 4 S) d
section
variable {K : PySem.W.Frag} {ca : Nat → Addr} {ι B : List Addr} {H : Hp} {c : Nat → Option PyData}
mutual
theorem tree_dq (hc : ∀ k a p, ι[k]? = some a → c k = some p → Dq K H (.ref a) p) : ∀ (d : D) {v : V} {p : PyData}, RV K ca ι B H v d → tree c d = some p → Dq K H v p
  | .non, _, _, h, e => by cases h; simp only [tree] at e; cases e; exact .non
  | .bl _, _, _, h, e => by cases h; simp only [tree] at e; cases e; exact .bl _
  | .int _, _, _, h, e => by cases h; simp only [tree] at e; cases e; exact .int _
  | .str _, _, _, h, e => by cases h; simp only [tree] at e; cases e; exact .str _
  | .lst ds, _, _, h, e => by
    cases h with
    | lst h1 h2 h3 h4 =>
      simp only [tree, Option.map_eq_some_iff] at e
      obtain ⟨ps, e1, rfl⟩ := e
      exact .lst (.inl (.inl h3)) (treeAll_dq hc ds h4 e1)
  | .tup ds, _, _, h, e => by
    cases h with
    | tup h1 h2 h3 h4 =>
      simp only [tree, Option.map_eq_some_iff] at e
      obtain ⟨ps, e1, rfl⟩ := e
      exact .tup (.inl (.inl h3)) (treeAll_dq hc ds h4 e1)
  | .fro _ _, _, _, h, e => by simp only [tree] at e; cases e
  | .dct [], _, _, h, e => by
    cases h with
    | dct h1 h2 h3 h4 =>
      cases h4
      simp only [tree] at e; cases e
      exact .dct h3
  | .dct (_ :: _), _, _, h, e => by simp only [tree] at e; cases e
  | .cel k, _, _, h, e => by
    cases h with
    | cel h1 => simp only [tree] at e; exact hc _ _ _ h1 e
  | .obj _ _, _, _, h, e => by simp only [tree] at e; cases e
  | .cls _, _, _, h, e => by simp only [tree] at e; cases e
theorem treeAll_dq (hc : ∀ k a p, ι[k]? = some a → c k = some p → Dq K H (.ref a) p) : ∀ (ds : List D) {vs : List V} {ps : List PyData}, RAll K ca ι B H vs ds → treeAll c ds = some ps → DqAll K H vs ps
  | [], _, _, h, e => by cases h; simp only [treeAll] at e; cases e; exact .nil
  | d :: ds, _, _, h, e => by
    cases h with
    | cons h1 h2 =>
      simp only [treeAll] at e
      split at e
      · cases e
        exact .cons (tree_dq hc d h1 (by assumption)) (treeAll_dq hc ds h2 (by assumption))
      · cases e
end
theorem cells_dq {S : Sto} (rs : RS K ca ι B H S) : ∀ (n : Nat) (k : Nat) (a : Addr) (p : PyData), ι[k]? = some a → cells n S k = some p → Dq K H (.ref a) p
  | 0, _, _, _, _, e => by unfold cells at e; cases e
  | n + 1, k, a, p, h, e => by
    unfold cells at e
    split at e
    · rename_i ds es
      rw [Option.map_eq_some_iff] at e
      obtain ⟨ps, e1, rfl⟩ := e
      cases rs.at' k a _ h es with
      | lst h1 h2 => exact .lst (.inl (.inl h1)) (treeAll_dq (cells_dq rs n) ds h2 e1)
    · cases e
theorem toP_dq {S : Sto} {v : V} {d : D} {p : PyData} (rs : RS K ca ι B H S) (h : RT K ca ι B H v d) (e : toP S d = some p) : Dq K H v p := by
  unfold toP at e
  cases h with
  | v h => exact tree_dq (cells_dq rs 4) d h e
  | l h1 h2 h3 =>
    simp only [tree, Option.map_eq_some_iff] at e
    obtain ⟨ps, e1, rfl⟩ := e
    exact .lst (.inl (.inl h2)) (treeAll_dq (cells_dq rs 4) _ h3 e1)
  | o => simp only [tree] at e; cases e
end
def scalP : PyData → PyData → Bool
  | .none, .none => true | .none, .int _ => true | .int _, .none => true | .none, .bool _ => true | .bool _, .none => true | .none, .str _ => true | .str _, .none => true
  | .int _, .int _ => true | .bool _, .bool _ => true | .str _, .str _ => true
  | .int _, .str _ => true | .str _, .int _ => true | .bool _, .str _ => true | .str _, .bool _ => true
  | _, _ => false
theorem scal_eqv {K : PySem.W.Frag} {H : Hp} {x y : V} {p q : PyData} (hx : Dq K H x p) (hy : Dq K H y q) (h : scal x y = true) : PyData.eqv p q = decide (x = y) := by
  cases hx <;> cases hy <;> first | (simp [scal] at h; done) | (simp [PyData.eqv]; done) | (simp [PyData.eqv]; rw [Bool.eq_iff_iff]; simp; done)
theorem scalP_scal {K : PySem.W.Frag} {H : Hp} {x y : V} {p q : PyData} (hx : Dq K H x p) (hy : Dq K H y q) : scal x y = scalP p q := by
  cases hx <;> cases hy <;> rfl
/-- == of data -/
def dEqv (neg : Bool) (d e : D) (S : Sto) : RE := match toP S d, toP S e with
  | some p, some q => if (scalP p q || (SeqAt.shaped p && SeqAt.shaped q && !p.hasDict && !q.hasDict)) = true then .ok (.bl (neg ^^ PyData.eqv p q)) .tr S else .bad
  | _, _ => .bad
section
variable {G : Gm} {E : WX}
theorem sr_eq : SR G E (uEq2 G.K) (dEqv false) := by
  intro F ι ω ρ S σ H Q x y d e rel hx hy h
  unfold dEqv at h
  split at h
  · rename_i p q ep eq
    have q1 := toP_dq rel.sto hx ep
    have q2 := toP_dq rel.sto hy eq
    split at h
    · rename_i hc
      unfold uEq2
      cases es : scal x y with
      | true =>
        rw [Bool.false_xor, scal_eqv q1 q2 es] at h
        exact PostE.now h rel (.bl _)
      | false =>
        rw [← scalP_scal q1 q2, es, Bool.false_or] at hc
        simp only [Bool.and_eq_true, Bool.not_eq_true'] at hc
        obtain ⟨⟨⟨h1, h2⟩, h3⟩, h4⟩ := hc
        exact .inl ⟨p, q, q1.dp p h3, q2.dp q h4, h1, h2, by rw [Bool.false_xor] at h; exact PostE.now h rel (.bl _)⟩
    · exact h.elim
  · exact h.elim
theorem sr_ne : SR G E (uNe2 G.K) (dEqv true) := by
  intro F ι ω ρ S σ H Q x y d e rel hx hy h
  unfold dEqv at h
  split at h
  · rename_i p q ep eq
    have q1 := toP_dq rel.sto hx ep
    have q2 := toP_dq rel.sto hy eq
    split at h
    · rename_i hc
      unfold uNe2
      cases es : scal x y with
      | true =>
        rw [Bool.true_xor, scal_eqv q1 q2 es] at h
        exact PostE.now h rel (.bl _)
      | false =>
        rw [← scalP_scal q1 q2, es, Bool.false_or] at hc
        simp only [Bool.and_eq_true, Bool.not_eq_true'] at hc
        obtain ⟨⟨⟨h1, h2⟩, h3⟩, h4⟩ := hc
        exact .inl ⟨p, q, q1.dp p h3, q2.dp q h4, h1, h2, by rw [Bool.true_xor] at h; exact PostE.now h rel (.bl _)⟩
    · exact h.elim
  · exact h.elim
end
end
end Fx
namespace Fx
open PySem PySem.Spec PyProof.Rows L2 U
noncomputable section
inductive RA where
  | ok (ds : List D) (t : Bool) (S : Sto) | xc (c : Nat) (fs : List (Str × D)) (S : Sto) | bad
abbrev FA := Ev → Sto → RA
def RAf (K : PySem.W.Frag) (ca : Nat → Addr) (ι B : List Addr) (H : Hp) (vs : List V) (ds : List D) : Bool → Prop
  | true => RAll K ca ι B H vs ds
  | false => Paired (RT K ca ι B H) vs ds
def PostA (G : Gm) (E : WX) (F : Fr) (ι ω : List Addr) (ρ : Ev) (σ : L2.St) (H : Hp) (Q : List V → Hp → Prop) : RA → Prop
  | .ok ds t S' => ∀ ι' vs H', Ext ι H ι' H' → Rel G F ι' ω ρ S' σ H' → RAf G.K G.ca ι' (F.B0 ++ ω) H' vs ds t → Q vs H'
  | .xc c fs S' => ∀ ι' dd fv H', Ext ι H ι' H' → Rel G F ι' ω ρ S' σ H' → NI dd ι' → NI dd (F.B0 ++ ω) → XD H' dd fv → RFs G.K G.ca ι' (F.B0 ++ ω) H' fv fs → E (.ref (G.ca c)) dd σ H'
  | .bad => False
def SA (G : Gm) (E : WX) (t : TA) (f : FA) : Prop := ∀ F ι ω ρ S σ H Q, Rel G F ι ω ρ S σ H → PostA G E F ι ω ρ σ H Q (f ρ S) → t σ H Q
def Fl.nop : Fl → Bool
  | .pk => false
  | _ => true
def fNil : FA := fun _ S => .ok [] true S
def fCons (fa : FE) (fr : FA) : FA := fun ρ S => match fa ρ S with
  | .ok d f S1 => (match fr ρ S1 with
    | .ok ds t S2 => .ok (d :: ds) (f.nop && t) S2
    | .xc c fs S2 => .xc c fs S2
    | .bad => .bad)
  | .xc c fs S1 => .xc c fs S1
  | .bad => .bad
section
variable {G : Gm} {E : WX} {F : Fr} {ι ω ι1 : List Addr} {ρ : Ev} {S S1 : Sto} {σ : L2.St} {H H1 : Hp} {Q : VK}
theorem PostE.bind {r : RE} {k : D → Fl → Sto → RE} (h : PostE G E F ι ω ρ σ H Q (bE r k)) {R : VK}
    (c : ∀ d f S1 ι1 v H1, Ext ι H ι1 H1 → Rel G F ι1 ω ρ S1 σ H1 → RF G.K G.ca ι1 (F.B0 ++ ω) H H1 S1 v d f → PostE G E F ι1 ω ρ σ H1 Q (k d f S1) → R v H1) : PostE G E F ι ω ρ σ H R r := by
  cases r with
  | ok d f S1 => exact fun ι1 v H1 e1 r1 rf => c d f S1 ι1 v H1 e1 r1 rf (PostE.ex h e1)
  | xc c' fs S1 => exact h
  | bad => exact h
theorem PostA.ex {r : RA} {Q : List V → Hp → Prop} (h : PostA G E F ι ω ρ σ H Q r) (e : Ext ι H ι1 H1) : PostA G E F ι1 ω ρ σ H1 Q r := by
  cases r with
  | ok d f S' => exact fun ι' v H' e' r rf => h ι' v H' (e.trans e') r rf
  | xc c fs S' => exact fun ι' dd fv H' e' r n1 n2 h1 h2 => h ι' dd fv H' (e.trans e') r n1 n2 h1 h2
  | bad => exact h
theorem rall_pair {K : PySem.W.Frag} {ca : Nat → Addr} {ι B : List Addr} {H : Hp} : ∀ {ds : List D} {vs : List V}, RAll K ca ι B H vs ds → Paired (RT K ca ι B H) vs ds
  | [], _, h => by cases h; exact .nil
  | d :: ds, _, h => by
    cases h with
    | cons h1 h2 => exact .cons (.v h1) (rall_pair h2)
theorem RAf.pair {K : PySem.W.Frag} {ca : Nat → Addr} {ι B : List Addr} {H : Hp} {ds : List D} {vs : List V} {t : Bool} (h : RAf K ca ι B H vs ds t) : Paired (RT K ca ι B H) vs ds := by
  cases t with
  | true => exact rall_pair h
  | false => exact h
theorem sa_nil : SA G E tNil fNil := fun F ι ω ρ S σ H Q r h => h ι [] H Ext.refl r .nil
theorem sa_cons {ta : TE} {tr : TA} {fa : FE} {fr : FA} (ha : SE G E ta fa) (hr : SA G E tr fr) : SA G E (tCons ta tr) (fCons fa fr) := by
  intro F ι ω ρ S σ H Q rel h
  refine ha F ι ω ρ S σ H _ rel ?_
  unfold fCons at h
  cases e : fa ρ S with
  | ok d f S1 =>
    rw [e] at h
    intro ι1 v H1 e1 r1 rf
    refine hr F ι1 ω ρ S1 σ H1 _ r1 ?_
    dsimp only at h
    cases e2 : fr ρ S1 with
    | ok ds t S2 =>
      rw [e2] at h
      intro ι2 vs H2 x2 r2 ra
      refine h ι2 (v :: vs) H2 (e1.trans x2) r2 ?_
      cases hf : f.nop && t with
      | true =>
        rw [Bool.and_eq_true] at hf
        obtain ⟨h1, rfl⟩ := hf
        exact .cons ((rf.rv (by intro z; subst z; cases h1)).ex x2) ra
      | false => exact .cons (rf.rt.ex x2) ra.pair
    | xc c fs S2 => rw [e2] at h; exact PostA.ex h e1
    | bad => rw [e2] at h; exact h
  | xc c fs S1 => rw [e] at h; exact h
  | bad => rw [e] at h; exact h
/-- a call of a built-in -/
def fCB (f : List D → Bool → Sto → RE) (fa : FA) : FE := fun ρ S => match fa ρ S with
  | .ok ds t S1 => f ds t S1
  | .xc c fs S1 => .xc c fs S1
  | .bad => .bad
def SC (G : Gm) (E : WX) (r : List V → Hp → VK → Prop) (f : List D → Bool → Sto → RE) : Prop := ∀ F ι ω ρ S σ H Q vs ds t, Rel G F ι ω ρ S σ H → RAf G.K G.ca ι (F.B0 ++ ω) H vs ds t → PostE G E F ι ω ρ σ H Q (f ds t S) → r vs H Q
theorem sa_then {ta : TA} {fa : FA} (ha : SA G E ta fa) (rel : Rel G F ι ω ρ S σ H) {f : List D → Bool → Sto → RE} (h : PostE G E F ι ω ρ σ H Q (fCB f fa ρ S)) {R : List V → Hp → Prop}
    (c : ∀ ds t S1 ι1 vs H1, Ext ι H ι1 H1 → Rel G F ι1 ω ρ S1 σ H1 → RAf G.K G.ca ι1 (F.B0 ++ ω) H1 vs ds t → PostE G E F ι1 ω ρ σ H1 Q (f ds t S1) → R vs H1) : ta σ H R := by
  refine ha F ι ω ρ S σ H R rel ?_
  unfold fCB at h
  cases e : fa ρ S with
  | ok ds t S1 =>
    rw [e] at h
    exact fun ι1 vs H1 e1 r1 ra => c ds t S1 ι1 vs H1 e1 r1 ra (PostE.ex h e1)
  | xc c fs S1 => rw [e] at h; exact h
  | bad => rw [e] at h; exact h
theorem se_cb {r : List V → Hp → VK → Prop} {f : List D → Bool → Sto → RE} {ta : TA} {fa : FA} (hr : SC G E r f) (ha : SA G E ta fa) : SE G E (tCB r ta) (fCB f fa) := by
  intro F ι ω ρ S σ H Q rel h
  exact sa_then ha rel h fun ds t S1 ι1 vs H1 e1 r1 ra h1 => hr F ι1 ω ρ S1 σ H1 Q vs ds t r1 ra h1
def dLst (ds : List D) (t : Bool) (S : Sto) : RE := if (t && decide (ds.length ≤ lim)) = true then .ok (.lst ds) .fs S else .bad
def dTup (ds : List D) (t : Bool) (S : Sto) : RE := if (t && decide (ds.length ≤ lim)) = true then .ok (.tup ds) .tr S else .bad
def fLst (fa : FA) : FE := fCB dLst fa
def fTup (fa : FA) : FE := fCB dTup fa
theorem se_lst {ta : TA} {fa : FA} (ha : SA G E ta fa) : SE G E (tLst ta) (fLst fa) := by
  intro F ι ω ρ S σ H Q rel h
  refine sa_then ha rel h fun ds t S1 ι1 vs H1 e1 r1 ra h1 => ?_
  unfold dLst at h1
  split at h1
  · rename_i hc
    rw [Bool.and_eq_true] at hc
    obtain ⟨rfl, hl⟩ := hc
    exact ⟨by rw [RAll.len ra]; exact lim_le (of_decide_eq_true hl), fun p hp => PostE.newL h1 r1 ra p hp⟩
  · exact h1.elim
theorem se_tup {ta : TA} {fa : FA} (ha : SA G E ta fa) : SE G E (tTup ta) (fTup fa) := by
  intro F ι ω ρ S σ H Q rel h
  refine sa_then ha rel h fun ds t S1 ι1 vs H1 e1 r1 ra h1 => ?_
  unfold dTup at h1
  split at h1
  · rename_i hc
    rw [Bool.and_eq_true] at hc
    obtain ⟨rfl, hl⟩ := hc
    exact ⟨by rw [RAll.len ra]; exact lim_le (of_decide_eq_true hl), fun p hp => PostE.newT h1 r1 ra p hp⟩
  · exact h1.elim
def fDNew : FE := fun _ S => .ok (.dct []) .tr S
def flat : D → Option V
  | .non => some .non
  | .bl b => some (.bl b)
  | .int i => some (.int i)
  | .str z => some (.str z)
  | _ => none
def flatAll : List D → Option (List V)
  | [] => some []
  | d :: ds => (match flat d, flatAll ds with | some v, some vs => some (v :: vs) | _, _ => none)
theorem flat_rv {K : PySem.W.Frag} {ca : Nat → Addr} {ι B : List Addr} {H : Hp} {v x : V} {d : D} (h : RV K ca ι B H v d) (e : flat d = some x) : v = x ∧ flatV x = true := by
  cases h <;> first | (cases e; exact ⟨rfl, rfl⟩) | (cases e; done)
theorem flat_rt {K : PySem.W.Frag} {ca : Nat → Addr} {ι B : List Addr} {H : Hp} {v x : V} {d : D} (h : RT K ca ι B H v d) (e : flat d = some x) : v = x ∧ flatV x = true := by
  cases h with
  | v h => exact flat_rv h e
  | l => cases e
  | o => cases e
theorem flat_all {K : PySem.W.Frag} {ca : Nat → Addr} {ι B : List Addr} {H : Hp} : ∀ {ds : List D} {vs xs : List V}, RAll K ca ι B H vs ds → flatAll ds = some xs → vs = xs ∧ xs.all flatV = true
  | [], _, _, h, e => by cases h; simp only [flatAll] at e; cases e; exact ⟨rfl, rfl⟩
  | d :: ds, _, _, h, e => by
    cases h with
    | cons h1 h2 =>
      simp only [flatAll] at e
      split at e
      · cases e
        obtain ⟨rfl, q1⟩ := flat_rv h1 (by assumption)
        obtain ⟨rfl, q2⟩ := flat_all h2 (by assumption)
        exact ⟨rfl, by rw [List.all_cons, q1, q2]; rfl⟩
      · cases e
def dIn (neg : Bool) (d e : D) (S : Sto) : RE := match d, e with
  | .str w, .str z => (match sl w with
    | [c] => .ok (.bl (if neg then !decide (c ∈ sl z) else decide (c ∈ sl z))) .tr S
    | _ => .bad)
  | d, e => (match flat d, sqOf S e with
    | some x, some ds => (match flatAll ds with
      | some vs => .ok (.bl (if neg then !inV x vs else inV x vs)) .tr S
      | none => .bad)
    | _, _ => .bad)
theorem sr_in (neg : Bool) : SR G E (uIn G.K neg) (dIn neg) := by
  intro F ι ω ρ S σ H Q x y d e rel hx hy h
  unfold dIn at h
  split at h
  · rw [hx.sStr, hy.sStr]
    unfold uIn
    split at h
    · rename_i c ec
      have ec' := ec
      dsimp only
      simp only [sl] at ec
      rw [ec]
      exact PostE.now h rel (.bl _)
    · exact h.elim
  · split at h
    · rename_i x' ds e1 e2
      split at h
      · rename_i vs e3
        obtain ⟨rfl, q1⟩ := flat_rt hx e1
        obtain ⟨a, xs, rfl, q2, q3⟩ := sq_at rel.sto hy e2
        obtain ⟨rfl, q4⟩ := flat_all q3 e3
        exact ⟨_, q2, q1, q4, PostE.now h rel (.bl _)⟩
      · exact h.elim
    · exact h.elim
theorem at_rv {K : PySem.W.Frag} {ca : Nat → Addr} {ι B : List Addr} {H : Hp} {vs : List V} {ds : List D} (h : RAll K ca ι B H vs ds) {i : Int} {d : D} (e : atI ds i = some d) : ∃ v, atI vs i = some v ∧ RV K ca ι B H v d := by
  unfold atI at e ⊢
  rw [h.len]
  cases hj : ixN ds.length i with
  | none => rw [hj] at e; cases e
  | some j =>
    rw [hj] at e
    exact h.at j e
def dIx (d e : D) (S : Sto) : RE := match d, e with
  | .str z, .int i => if z.length ≤ lim then (match atI (sl z) i with
    | some c => .ok (.str ⟨#[c]⟩) .tr S
    | none => .bad) else .bad
  | d, .int i => (match sqOf S d with
    | some ds => (match atI ds i with
      | some x => .ok x .tr S
      | none => .bad)
    | none => .bad)
  | _, _ => .bad
theorem sr_ix : SR G E (uIx G.K) dIx := by
  intro F ι ω ρ S σ H Q x y d e rel hx hy h
  unfold dIx at h
  split at h
  · rw [hx.sStr, hy.sInt]
    split at h
    · rename_i hl
      split at h
      · rename_i c ec
        exact ⟨lim_le hl, oK_of ec (PostE.now h rel (.str _))⟩
      · exact h.elim
    · exact h.elim
  · rename_i i _
    rw [hy.sInt]
    split at h
    · rename_i ds e1
      split at h
      · rename_i x' e2
        obtain ⟨a, xs, rfl, q2, q3⟩ := sq_at rel.sto hx e1
        obtain ⟨v, q4, q5⟩ := at_rv q3 e2
        exact ⟨xs, q2, oK_of q4 (PostE.now h rel q5)⟩
      · exact h.elim
    · exact h.elim
  · exact h.elim
inductive RO where
  | ok (o : Option Int) (S : Sto) | xc (c : Nat) (fs : List (Str × D)) (S : Sto) | bad
abbrev FO := Ev → Sto → RO
def PostO (G : Gm) (E : WX) (F : Fr) (ι ω : List Addr) (ρ : Ev) (σ : L2.St) (H : Hp) (Q : Option Int → Hp → Prop) : RO → Prop
  | .ok o S' => ∀ ι' H', Ext ι H ι' H' → Rel G F ι' ω ρ S' σ H' → Q o H'
  | .xc c fs S' => ∀ ι' dd fv H', Ext ι H ι' H' → Rel G F ι' ω ρ S' σ H' → NI dd ι' → NI dd (F.B0 ++ ω) → XD H' dd fv → RFs G.K G.ca ι' (F.B0 ++ ω) H' fv fs → E (.ref (G.ca c)) dd σ H'
  | .bad => False
def SO (G : Gm) (E : WX) (t : TO) (f : FO) : Prop := ∀ F ι ω ρ S σ H Q, Rel G F ι ω ρ S σ H → PostO G E F ι ω ρ σ H Q (f ρ S) → t σ H Q
def fNoPart : FO := fun _ S => .ok none S
def fPart (fe : FE) : FO := fun ρ S => match fe ρ S with
  | .ok (.int i) _ S1 => .ok (some i) S1
  | .ok _ _ _ => .bad
  | .xc c fs S1 => .xc c fs S1
  | .bad => .bad
theorem so_none : SO G E tNoPart fNoPart := fun F ι ω ρ S σ H Q r h => h ι H Ext.refl r
theorem so_some {te : TE} {fe : FE} (he : SE G E te fe) : SO G E (uPart te) (fPart fe) := by
  intro F ι ω ρ S σ H Q r h
  refine he F ι ω ρ S σ H _ r ?_
  unfold fPart at h
  split at h
  · rename_i i f S1 e
    rw [e]
    intro ι1 v H1 e1 r1 rf
    rw [rf.rt.sInt]
    exact h ι1 H1 e1 r1
  · exact h.elim
  · rename_i e; rw [e]; exact h
  · exact h.elim
def cutD (xs : List D) (lo hi : Option Int) : List D := (xs.drop (HT.sIx xs.length 0 lo)).take (HT.sIx xs.length xs.length hi - HT.sIx xs.length 0 lo)
theorem cut_all {K : PySem.W.Frag} {ca : Nat → Addr} {ι B : List Addr} {H : Hp} {vs : List V} {ds : List D} (h : RAll K ca ι B H vs ds) (lo hi : Option Int) : RAll K ca ι B H (cutV vs lo hi) (cutD ds lo hi) := by
  unfold cutV cutD
  rw [h.len]
  exact (h.drop _).take _
def dSl (d : D) (lo hi : Option Int) (S : Sto) : RE := match d with
  | .str z => if z.length ≤ lim then .ok (.str (cutS z lo hi)) .tr S else .bad
  | .tup ds => if HT.sIx ds.length 0 lo = 0 ∧ HT.sIx ds.length ds.length hi = ds.length then .bad else .ok (.tup (cutD ds lo hi)) .tr S
  | d => (match lsOf S d with
    | some ds => .ok (.lst (cutD ds lo hi)) .fs S
    | none => .bad)
def bO (r : RO) (k : Option Int → Sto → RE) : RE := match r with
  | .ok o S => k o S
  | .xc c fs S => .xc c fs S
  | .bad => .bad
def fSl (fe : FE) (lo hi : FO) : FE := fun ρ S => bE (fe ρ S) fun d _ S1 => bO (lo ρ S1) fun l S2 => bO (hi ρ S2) fun u S3 => dSl d l u S3
theorem so_bind {to : TO} {fo : FO} (ho : SO G E to fo) (rel : Rel G F ι ω ρ S σ H) {k : Option Int → Sto → RE} (h : PostE G E F ι ω ρ σ H Q (bO (fo ρ S) k)) {R : Option Int → Hp → Prop}
    (c : ∀ o S1 ι1 H1, Ext ι H ι1 H1 → Rel G F ι1 ω ρ S1 σ H1 → PostE G E F ι1 ω ρ σ H1 Q (k o S1) → R o H1) : to σ H R := by
  refine ho F ι ω ρ S σ H R rel ?_
  cases e : fo ρ S with
  | ok o S1 =>
    rw [e] at h
    exact fun ι1 H1 e1 r1 => c o S1 ι1 H1 e1 r1 (PostE.ex h e1)
  | xc c fs S1 => rw [e] at h; exact h
  | bad => rw [e] at h; exact h
theorem se_sl {te : TE} {fe : FE} {tl th : TO} {fl fh : FO} (he : SE G E te fe) (hl : SO G E tl fl) (hh : SO G E th fh) : SE G E (L2.tSl (uSl G.K) te tl th) (fSl fe fl fh) := by
  intro F ι ω ρ S σ H Q rel h
  refine he.bind rel h fun d f S1 ι1 v H1 e1 r1 rf1 h1 => ?_
  refine so_bind hl r1 h1 fun l S2 ι2 H2 e2 r2 h2 => ?_
  refine so_bind hh r2 h2 fun u S3 ι3 H3 e3 r3 h3 => ?_
  have rt := (rf1.rt.ex e2).ex e3
  unfold dSl at h3
  split at h3
  · rw [rt.sStr]
    split at h3
    · exact ⟨lim_le (by assumption), PostE.now h3 r3 (.str _)⟩
    · exact h3.elim
  · cases rt with
    | v rt =>
      cases rt with
      | @tup a xs ds q1 q2 q3 q4 =>
        split at h3
        · exact h3.elim
        · rename_i hn
          have e1 : rdL G.K H3 a = none := by unfold rdL; rw [q3]
          have e2 : rdT G.K H3 a = some xs := rdT_of q3
          show match rdL G.K H3 a with | some xs => _ | none => _
          rw [e1]
          show match rdT G.K H3 a with | some xs => _ | none => _
          rw [e2]
          exact ⟨by rw [q4.len]; exact hn, fun p hp => PostE.newT h3 r3 (cut_all q4 l u) p hp⟩
  · split at h3
    · rename_i ds ed
      obtain ⟨a, xs, rfl, q1, q2⟩ := ls_at r3.sto rt ed
      show match rdL G.K H3 a with | some xs => _ | none => _
      rw [rdL_of q1]
      exact fun p hp => PostE.newL h3 r3 (cut_all q2 l u) p hp
    · exact h3.elim
def fRev (fe : FE) : FE := fun ρ S => bE (fe ρ S) fun d _ S1 => (match d with
  | .str z => if z.length ≤ lim then .ok (.str (revS z)) .tr S1 else .bad
  | d => (match lsOf S1 d with
    | some ds => .ok (.lst ds.reverse) .fs S1
    | none => .bad))
theorem se_rev {te : TE} {fe : FE} (he : SE G E te fe) : SE G E (uRev G.K te) (fRev fe) := by
  intro F ι ω ρ S σ H Q rel h
  refine he.bind rel h fun d f S1 ι1 v H1 e1 r1 rf1 h1 => ?_
  have rt := rf1.rt
  split at h1
  · rw [rt.sStr]
    split at h1
    · exact ⟨lim_le (by assumption), PostE.now h1 r1 (.str _)⟩
    · exact h1.elim
  · split at h1
    · rename_i ds ed
      obtain ⟨a, xs, rfl, q1, q2⟩ := ls_at r1.sto rt ed
      exact oK_of (rdL_of q1) fun p hp => PostE.newL h1 r1 q2.rev p hp
    · exact h1.elim
def tyDf (S : Sto) : D → Option Ty
  | .non => some .non
  | .bl _ => some .bl
  | .int _ => some .int
  | .str _ => some .str
  | .lst _ => some .lst
  | .tup _ => some .tup
  | .dct _ => some .dct
  | .cel k => (match S[k]? with | some (.lst _) => some .lst | some (.dK _) => some .dct | _ => none)
  | _ => none
theorem ty_at {v : V} {d : D} {t : Ty} (rs : RS G.K G.ca ι (F.B0 ++ ω) H S) (h : RT G.K G.ca ι (F.B0 ++ ω) H v d) (e : tyDf S d = some t) : tyOf H v = some t := by
  cases h with
  | v h =>
    cases h with
    | lst h1 h2 h3 h4 => show (H _).bind tyO = _; rw [h3]; exact e
    | tup h1 h2 h3 h4 => show (H _).bind tyO = _; rw [h3]; exact e
    | dct h1 h2 h3 h4 => show (H _).bind tyO = _; rw [h3]; exact e
    | @cel a k h1 =>
      unfold tyDf at e
      dsimp only at e
      split at e
      · rename_i es
        cases rs.at' k a _ h1 es with
        | lst q1 q2 => show (H _).bind tyO = _; rw [q1]; exact e
      · rename_i es
        cases rs.at' k a _ h1 es with
        | dK q1 q2 => show (H _).bind tyO = _; rw [q1]; exact e
      · cases e
    | fro => cases e
    | obj => cases e
    | cls => cases e
    | _ => exact e
  | l h1 h2 h3 => show (H _).bind tyO = _; rw [h2]; exact e
  | o => cases e
def fIsi (c : Ty) (fe : FE) : FE := fun ρ S => bE (fe ρ S) fun d _ S1 => (match tyDf S1 d with
  | some t => .ok (.bl (isT t c)) .tr S1
  | none => .bad)
theorem se_isi (c : Ty) {te : TE} {fe : FE} (he : SE G E te fe) : SE G E (uIsi c te) (fIsi c fe) := by
  intro F ι ω ρ S σ H Q rel h
  refine he.bind rel h fun d f S1 ι1 v H1 e1 r1 rf1 h1 => ?_
  split at h1
  · rename_i t et
    exact oK_of (ty_at r1.sto rf1.rt et) (PostE.now h1 r1 (.bl _))
  · exact h1.elim
def fIsiT (cs : List Ty) (fe : FE) : FE := fun ρ S => bE (fe ρ S) fun d _ S1 => (match tyDf S1 d with
  | some t => .ok (.bl (cs.any (isT t))) .tr S1
  | none => .bad)
theorem se_isiT (cs : List Ty) {te : TE} {fe : FE} {tc : TA} (he : SE G E te fe) (hc : ∀ σ H (R : List V → Hp → Prop), R (cs.map fun c => V.ty c.nm) H → tc σ H R := by intro σ H R h; exact h) (hl : cs.length ≤ 100 := by decide) :
    SE G E (tCB (uIsiT cs) (tCons te (tCons (tTup tc) tNil))) (fIsiT cs fe) := by
  intro F ι ω ρ S σ H Q rel h
  refine he.bind rel h fun d f S1 ι1 v H1 e1 r1 rf1 h1 => ?_
  refine hc σ H1 _ ⟨by rw [List.length_map]; exact szl (by omega), fun p hp => ?_⟩
  split at h1
  · rename_i t et
    have rt := rf1.rt.ex (Ext.new1 (o := .tup (cs.map fun c => V.ty c.nm)) hp)
    refine ⟨upd_same, oK_of (ty_at ((r1.new hp).sto) rt et) ?_⟩
    exact h1 ι1 _ _ (Ext.new1 hp) (r1.new hp) (.bl _)
  · exact h1.elim
end
end
end Fx
namespace Fx
open PySem PySem.Spec PyProof.Rows L2 U
noncomputable section
section
variable {G : Gm} {E : WX} {F : Fr} {ι ω ι1 : List Addr} {ρ : Ev} {S S1 : Sto} {σ : L2.St} {H H1 : Hp} {Q : VK}
theorem pair1 {α β : Type} {P : α → β → Prop} {xs : List α} {y : β} (h : Paired P xs [y]) : ∃ x, xs = [x] ∧ P x y := by
  cases h with
  | cons h1 h2 => cases h2; exact ⟨_, rfl, h1⟩
theorem pair2 {α β : Type} {P : α → β → Prop} {xs : List α} {y z : β} (h : Paired P xs [y, z]) : ∃ x w, xs = [x, w] ∧ P x y ∧ P w z := by
  cases h with
  | cons h1 h2 => obtain ⟨w, rfl, h3⟩ := pair1 h2; exact ⟨_, _, rfl, h1, h3⟩
def dLen (ds : List D) (_ : Bool) (S : Sto) : RE := match ds with
  | [.str z] => if z.length ≤ lim then .ok (.int z.length) .tr S else .bad
  | [d] => (match sqOf S d with
    | some es => .ok (.int es.length) .tr S
    | none => .bad)
  | _ => .bad
theorem sc_len : SC G E (uLen G.K) dLen := by
  intro F ι ω ρ S σ H Q vs ds t rel ha h
  have ha := ha.pair
  unfold dLen at h
  split at h
  · obtain ⟨v, rfl, q⟩ := pair1 ha
    rw [q.sStr]
    split at h
    · exact ⟨lim_le (by assumption), PostE.now h rel (.int _)⟩
    · exact h.elim
  · obtain ⟨v, rfl, q⟩ := pair1 ha
    split at h
    · rename_i es e
      obtain ⟨a, xs, rfl, q1, q2⟩ := sq_at rel.sto q e
      exact ⟨xs, q1, by show Q (.int xs.length) H; rw [q2.len]; exact PostE.now h rel (.int _)⟩
    · exact h.elim
  · exact h.elim
def dMax (ds : List D) (_ : Bool) (S : Sto) : RE := match ds with
  | [.int i, .int j] => .ok (.int (if j > i then j else i)) .tr S
  | _ => .bad
def dMin (ds : List D) (_ : Bool) (S : Sto) : RE := match ds with
  | [.int i, .int j] => .ok (.int (if j < i then j else i)) .tr S
  | _ => .bad
theorem sc_max : SC G E uMax2 dMax := by
  intro F ι ω ρ S σ H Q vs ds t rel ha h
  have ha := ha.pair
  unfold dMax at h
  split at h
  · obtain ⟨v, w, rfl, q1, q2⟩ := pair2 ha
    rw [q1.sInt, q2.sInt]; exact PostE.now h rel (.int _)
  · exact h.elim
theorem sc_min : SC G E uMin2 dMin := by
  intro F ι ω ρ S σ H Q vs ds t rel ha h
  have ha := ha.pair
  unfold dMin at h
  split at h
  · obtain ⟨v, w, rfl, q1, q2⟩ := pair2 ha
    rw [q1.sInt, q2.sInt]; exact PostE.now h rel (.int _)
  · exact h.elim
def bools : List D → Option (List Bool)
  | [] => some []
  | .bl b :: ds => (bools ds).map (b :: ·)
  | _ :: _ => none
theorem bools_rv {K : PySem.W.Frag} {ca : Nat → Addr} {ι B : List Addr} {H : Hp} : ∀ {ds : List D} {vs : List V} {bs : List Bool}, RAll K ca ι B H vs ds → bools ds = some bs → vs = bs.map V.bl
  | [], _, _, h, e => by cases h; simp only [bools] at e; cases e; rfl
  | d :: ds, _, _, h, e => by
    cases h with
    | cons h1 h2 =>
      cases h1 with
      | bl b =>
        simp only [bools, Option.map_eq_some_iff] at e
        obtain ⟨cs, e1, rfl⟩ := e
        rw [bools_rv h2 e1]; rfl
      | _ => simp only [bools] at e; cases e
def dQu (f : List Bool → Bool) (ds : List D) (_ : Bool) (S : Sto) : RE := match ds with
  | [d] => (match lsOf S d with
    | some es => (match bools es with
      | some bs => .ok (.bl (f bs)) .tr S
      | none => .bad)
    | none => .bad)
  | _ => .bad
abbrev dAll := dQu fun bs => bs.all id
abbrev dAny := dQu fun bs => bs.any id
theorem sc_all : SC G E (uAll G.K) dAll := by
  intro F ι ω ρ S σ H Q vs ds t rel ha h
  have ha := ha.pair
  unfold dAll dQu at h
  split at h
  · obtain ⟨v, rfl, q⟩ := pair1 ha
    split at h
    · rename_i es e
      split at h
      · rename_i bs eb
        obtain ⟨a, xs, rfl, q1, q2⟩ := ls_at rel.sto q e
        exact oK_of (rdL_of q1) ⟨bs, bools_rv q2 eb, PostE.now h rel (.bl _)⟩
      · exact h.elim
    · exact h.elim
  · exact h.elim
theorem sc_any : SC G E (uAny G.K) dAny := by
  intro F ι ω ρ S σ H Q vs ds t rel ha h
  have ha := ha.pair
  unfold dAny dQu at h
  split at h
  · obtain ⟨v, rfl, q⟩ := pair1 ha
    split at h
    · rename_i es e
      split at h
      · rename_i bs eb
        obtain ⟨a, xs, rfl, q1, q2⟩ := ls_at rel.sto q e
        exact oK_of (rdL_of q1) ⟨bs, bools_rv q2 eb, PostE.now h rel (.bl _)⟩
      · exact h.elim
    · exact h.elim
  · exact h.elim
def dStr (ds : List D) (_ : Bool) (S : Sto) : RE := match ds with
  | [.int i] => if i.natAbs.log2 < 1920 then .ok (.str (toString i)) .tr S else .bad
  | _ => .bad
def dList (ds : List D) (_ : Bool) (S : Sto) : RE := match ds with
  | [d] => (match sqOf S d with
    | some es => .ok (.lst es) .fs S
    | none => .bad)
  | _ => .bad
theorem sc_list : SC G E (uList G.K) dList := by
  intro F ι ω ρ S σ H Q vs ds t rel ha h
  have ha := ha.pair
  unfold dList at h
  split at h
  · obtain ⟨v, rfl, q⟩ := pair1 ha
    split at h
    · rename_i es e
      obtain ⟨a, xs, rfl, q1, q2⟩ := sq_at rel.sto q e
      exact ⟨xs, q1, fun l hl => PostE.newL h rel q2 l hl⟩
    · exact h.elim
  · exact h.elim
def dTuple (ds : List D) (_ : Bool) (S : Sto) : RE := match ds with
  | [.tup es] => .ok (.tup es) .tr S
  | [d] => (match lsOf S d with
    | some es => .ok (.tup es) .tr S
    | none => .bad)
  | _ => .bad
def dInt (ds : List D) (_ : Bool) (S : Sto) : RE := match ds with
  | [.int i] => .ok (.int i) .tr S
  | [.bl k] => .ok (.int (if k then 1 else 0)) .tr S
  | [.str a] => if a.length ≤ 640 then (match PySem.intText? a with
    | some n => .ok (.int n) .tr S
    | none => .bad) else .bad
  | _ => .bad
def zipD : List D → List D → List D
  | x :: xs, y :: ys => .tup [x, y] :: zipD xs ys
  | _, _ => []
def fM1 (f : Str → D → Sto → RE) (fo fe : FE) : FE := fun ρ S => bE (fo ρ S) fun d _ S1 => (match d with
  | .str a => bE (fe ρ S1) fun e _ S2 => f a e S2
  | _ => .bad)
def fNot (fa : FE) : FE := fun ρ S => bE (fa ρ S) fun d _ S1 => (match d with
  | .bl b => .ok (.bl (!b)) .tr S1
  | _ => .bad)
def fAnd (fa fb : FE) : FE := fun ρ S => bE (fa ρ S) fun d _ S1 => (match d with
  | .bl true => fb ρ S1
  | .bl false => .ok (.bl false) .tr S1
  | _ => .bad)
def fOr (fa fb : FE) : FE := fun ρ S => bE (fa ρ S) fun d _ S1 => (match d with
  | .bl true => .ok (.bl true) .tr S1
  | .bl false => fb ρ S1
  | _ => .bad)
def fIf (fc fa fb : FE) : FE := fun ρ S => bE (fc ρ S) fun d _ S1 => (match d with
  | .bl true => fa ρ S1
  | .bl false => fb ρ S1
  | _ => .bad)
def kB (Q : Bool → Hp → Prop) : VK := fun v H1 => match v with
  | .bl b => Q b H1
  | _ => False
def ST (G : Gm) (E : WX) (t : TT) (f : FE) : Prop := ∀ F ι ω ρ S σ H Q, Rel G F ι ω ρ S σ H → PostE G E F ι ω ρ σ H (kB Q) (f ρ S) → t σ H Q
theorem st_val {t : TE} {f : FE} (h : SE G E t f) : ST G E (uT t) f := fun F ι ω ρ S σ H Q rel hp => h F ι ω ρ S σ H _ rel hp
theorem se_not {ta : TE} {fa : FE} (ha : SE G E ta fa) : SE G E (uNotV ta) (fNot fa) := by
  intro F ι ω ρ S σ H Q rel h
  refine ha.bind rel h fun d f S1 ι1 v H1 e1 r1 rf1 h1 => ?_
  split at h1
  · rw [rf1.rt.sBl]; exact PostE.now h1 r1 (.bl _)
  · exact h1.elim
theorem se_and {ta tb : TE} {fa fb : FE} (ha : SE G E ta fa) (hb : SE G E tb fb) : SE G E (uAndV ta tb) (fAnd fa fb) := by
  intro F ι ω ρ S σ H Q rel h
  refine ha.bind rel h fun d f S1 ι1 v H1 e1 r1 rf1 h1 => ?_
  split at h1
  · rw [rf1.rt.sBl]; exact hb F ι1 ω ρ S1 σ H1 Q r1 h1
  · rw [rf1.rt.sBl]; exact PostE.now h1 r1 (.bl _)
  · exact h1.elim
theorem se_or {ta tb : TE} {fa fb : FE} (ha : SE G E ta fa) (hb : SE G E tb fb) : SE G E (uOrV ta tb) (fOr fa fb) := by
  intro F ι ω ρ S σ H Q rel h
  refine ha.bind rel h fun d f S1 ι1 v H1 e1 r1 rf1 h1 => ?_
  split at h1
  · rw [rf1.rt.sBl]; exact PostE.now h1 r1 (.bl _)
  · rw [rf1.rt.sBl]; exact hb F ι1 ω ρ S1 σ H1 Q r1 h1
  · exact h1.elim
theorem ST.bind {ta : TT} {fa : FE} (ha : ST G E ta fa) (r : Rel G F ι ω ρ S σ H) {k : D → Fl → Sto → RE} (h : PostE G E F ι ω ρ σ H Q (bE (fa ρ S) k)) {R : Bool → Hp → Prop}
    (hk : ∀ d f S1, (∀ b, d ≠ .bl b) → k d f S1 = .bad) (c : ∀ b f S1 ι1 H1, Ext ι H ι1 H1 → Rel G F ι1 ω ρ S1 σ H1 → PostE G E F ι1 ω ρ σ H1 Q (k (.bl b) f S1) → R b H1) : ta σ H R := by
  refine ha F ι ω ρ S σ H R r (PostE.bind h fun d f S1 ι1 v H1 e1 r1 rf1 h1 => ?_)
  cases d with
  | bl b => rw [rf1.rt.sBl]; exact c b f S1 ι1 H1 e1 r1 h1
  | _ => rw [hk _ _ _ (by intro b z; cases z)] at h1; exact h1.elim
theorem st_not {ta : TT} {fa : FE} (ha : ST G E ta fa) : ST G E (uNot ta) (fNot fa) := by
  intro F ι ω ρ S σ H Q rel h
  refine ha.bind rel h (fun d f S1 hd => by cases d <;> first | rfl | exact absurd rfl (hd _)) fun b f S1 ι1 H1 e1 r1 h1 => ?_
  exact PostE.now (Q := kB Q) h1 r1 (.bl _)
theorem st_or {ta tb : TT} {fa fb : FE} (ha : ST G E ta fa) (hb : ST G E tb fb) : ST G E (uOr ta tb) (fOr fa fb) := by
  intro F ι ω ρ S σ H Q rel h
  refine ha.bind rel h (fun d f S1 hd => by cases d <;> first | rfl | exact absurd rfl (hd _)) fun b f S1 ι1 H1 e1 r1 h1 => ?_
  cases b with
  | true => exact PostE.now (Q := kB Q) h1 r1 (.bl _)
  | false => exact hb F ι1 ω ρ S1 σ H1 Q r1 h1
theorem st_yes : ST G E tYes (fC (.bl true)) := fun F ι ω ρ S σ H Q r h => PostE.now (Q := kB Q) h r (.bl true)
theorem se_if {tc : TT} {ta tb : TE} {fc fa fb : FE} (hc : ST G E tc fc) (ha : SE G E ta fa) (hb : SE G E tb fb) : SE G E (uIf tc ta tb) (fIf fc fa fb) := by
  intro F ι ω ρ S σ H Q rel h
  refine hc.bind rel h (fun d f S1 hd => by cases d <;> first | rfl | exact absurd rfl (hd _)) fun b f S1 ι1 H1 e1 r1 h1 => ?_
  cases b with
  | true => exact ha F ι1 ω ρ S1 σ H1 Q r1 h1
  | false => exact hb F ι1 ω ρ S1 σ H1 Q r1 h1
def fChain (f f' : D → D → Sto → RE) (ea eb ec : FE) : FE := fun ρ S => bE (ea ρ S) fun d _ S1 => bE (eb ρ S1) fun e _ S2 => bE (f d e S2) fun z _ S3 => (match z with
  | .bl true => bE (ec ρ S3) fun w _ S4 => f' e w S4
  | .bl false => .ok (.bl false) .tr S3
  | _ => .bad)
theorem se_chain {r r' : R2} {f f' : D → D → Sto → RE} {ta tb tc : TE} {fa fb fc : FE} (hr : SR G E r f) (hr' : SR G E r' f') (ha : SE G E ta fa) (hb : SE G E tb fb) (hc : SE G E tc fc) : SE G E (uChain r r' ta tb tc) (fChain f f' fa fb fc) := by
  intro F ι ω ρ S σ H Q rel h
  refine ha.bind rel h fun d fl S1 ι1 v H1 e1 r1 rf1 h1 => ?_
  refine hb.bind r1 h1 fun e fl2 S2 ι2 w H2 e2 r2 rf2 h2 => ?_
  refine hr F ι2 ω ρ S2 σ H2 _ v w d e r2 (rf1.rt.ex e2) rf2.rt (PostE.bind h2 fun z fl3 S3 ι3 u H3 e3 r3 rf3 h3 => ?_)
  split at h3
  · rw [rf3.rt.sBl]
    refine hc.bind r3 h3 fun w' fl4 S4 ι4 u4 H4 e4 r4 rf4 h4 => ?_
    exact hr' F ι4 ω ρ S4 σ H4 Q w u4 e w' r4 ((rf2.rt.ex e3).ex e4) rf4.rt h4
  · rw [rf3.rt.sBl]; exact PostE.now h3 r3 (.bl _)
  · exact h3.elim
def isNon : D → Bool
  | .non => true
  | _ => false
def dIs (neg : Bool) (d e : D) (S : Sto) : RE := match e with
  | .non => .ok (.bl (if neg then !isNon d else isNon d)) .tr S
  | .bl k => (match d with
    | .bl j => .ok (.bl (if neg then !decide (j = k) else decide (j = k))) .tr S
    | _ => .bad)
  | _ => .bad
def dIsN (neg : Bool) (d e : D) (S : Sto) : RE := match e with
  | .non => .ok (.bl (if neg then !isNon d else isNon d)) .tr S
  | _ => .bad
def dNil (neg : Bool) (d e : D) (S : Sto) : RE := match lsOf S d, lsOf S e with
  | some a, some [] => .ok (.bl (neg ^^ a.isEmpty)) .tr S
  | _, _ => dEqv neg d e S
def dNeg (d : D) (S : Sto) : RE := match d with
  | .int i => .ok (.int (-i)) .tr S
  | _ => .bad
theorem se_neg {ta : TE} {fa : FE} (ha : SE G E ta fa) : SE G E (tUn uNeg ta) (fUn dNeg fa) := by
  intro F ι ω ρ S σ H Q rel h
  refine ha.bind rel h fun d f S1 ι1 v H1 e1 r1 rf1 h1 => ?_
  unfold dNeg at h1
  split at h1
  · rw [rf1.rt.sInt]; exact PostE.now h1 r1 (.int _)
  · exact h1.elim
end
abbrev FF := List D → Sto → RE
def PostF (K : PySem.W.Frag) (ca : Nat → Addr) (ι B : List Addr) (H : Hp) (Q : VK) (E : XK) : RE → Prop
  | .ok d f S' => ∀ ι' v H', Ext ι H ι' H' → ι'.Nodup → RS K ca ι' B H' S' → RF K ca ι' B H H' S' v d f → Q v H'
  | .xc c fs S' => ∀ ι' dd fv H', Ext ι H ι' H' → ι'.Nodup → RS K ca ι' B H' S' → NI dd ι' → NI dd (B) → XD H' dd fv → RFs K ca ι' B H' fv fs → E (.ref (ca c)) dd H'
  | .bad => False
def SpF (K : PySem.W.Frag) (ca : Nat → Addr) (f : FF) : Sp := fun vs H Q E => ∃ ι B S ds, ι.Nodup ∧ (∀ b ∈ B, H b ≠ none ∧ b ∉ ι) ∧ RS K ca ι B H S ∧ RAll K ca ι B H vs ds ∧ PostF K ca ι B H Q E (f ds S)
def fCall (f : FF) (dd : List D) (fa : FA) : FE := fCB (fun ds t S => if t = true then f (ds ++ dd) S else .bad) fa
section
variable {G : Gm} {E : WX} {F : Fr} {ι ω ι1 : List Addr} {ρ : Ev} {S S1 : Sto} {σ : L2.St} {H H1 : Hp} {Q : VK}
theorem spf_of {f : FF} {vs : List V} {ds : List D} {E' : XK} (hE : ∀ cls d H, E cls d σ H → E' cls d H) (rel : Rel G F ι ω ρ S σ H) (ra : RAll G.K G.ca ι (F.B0 ++ ω) H vs ds) (h : PostE G E F ι ω ρ σ H Q (f ds S)) : SpF G.K G.ca f vs H Q E' := by
  refine ⟨ι, F.B0 ++ ω, S, ds, rel.nd, fun b hb => ⟨rel.bd b hb, rel.bi b hb⟩, rel.sto, ra, ?_⟩
  cases e : f ds S with
  | ok d fl S' =>
    rw [e] at h
    exact fun ι' v H' x nd rs rf => h ι' v H' x (rel.ex x nd rs) rf
  | xc c fs S' =>
    rw [e] at h
    exact fun ι' dd fv H' x nd rs n1 n2 h1 h2 => hE _ _ _ (h ι' dd fv H' x (rel.ex x nd rs) n1 n2 h1 h2)
  | bad => rw [e] at h; exact h
/-- scalars by default -/
def vOf : D → V
  | .bl b => .bl b
  | .int i => .int i
  | .str z => .str z
  | _ => .non
def scalD : D → Bool
  | .non => true
  | .bl _ => true
  | .int _ => true
  | .str _ => true
  | _ => false
theorem dflt_all {K : PySem.W.Frag} {ca : Nat → Addr} {ι B : List Addr} {H : Hp} : ∀ {dd : List D}, dd.all scalD = true → RAll K ca ι B H (dd.map vOf) dd
  | [], _ => .nil
  | d :: dd, h => by
    rw [List.all_cons, Bool.and_eq_true] at h
    refine .cons ?_ (dflt_all h.2)
    cases d with
    | non => exact .non
    | bl b => exact .bl b
    | int i => exact .int i
    | str z => exact .str z
    | _ => exact absurd h.1 (by simp [scalD])
theorem se_call {f : FF} {dvs : List V} {dd : List D} {E' : XK} {ta : TA} {fa : FA} (hE : ∀ cls d σ H, E cls d σ H → E' cls d H) (ha : SA G E ta fa) (hd : dvs = dd.map vOf := by rfl) (hs : dd.all scalD = true := by rfl) : SE G E (tCall (SpF G.K G.ca f) dvs E' ta) (fCall f dd fa) := by
  intro F ι ω ρ S σ H Q rel h
  refine sa_then ha rel h fun ds t S1 ι1 vs H1 e1 r1 ra h1 => ?_
  split at h1
  · rename_i ht
    subst ht hd
    exact spf_of (fun cls d H => hE cls d σ H) r1 (RAll.app ra (dflt_all hs)) h1
  · exact h1.elim
end
end
end Fx
namespace Fx
open PySem PySem.Spec PyProof.Rows L2 U
noncomputable section
inductive RSt where
  | nx (ρ : Ev) (S : Sto) | rt (d : D) (f : Fl) (S : Sto) | bk (ρ : Ev) (S : Sto) | ct (ρ : Ev) (S : Sto) | xc (c : Nat) (fs : List (Str × D)) (ρ : Ev) (S : Sto) | bad
abbrev FS := Ev → Sto → RSt
structure ExtS (ι ω : List Addr) (H : Hp) (ι' ω' : List Addr) (H' : Hp) : Prop where
  pre : ι <+: ι'
  keep : ∀ a o, H a = some o → a ∉ ι → a ∉ ω → H' a = some o
  newi : ∀ a ∈ ι', a ∉ ι → H a = none
  neww : ∀ a ∈ ω', a ∉ ω → H a = none
  dom : ∀ a, H a ≠ none → H' a ≠ none
theorem nn {H : Hp} {a : Addr} {o : HO} (h : H a = some o) : H a ≠ none := by rw [h]; simp
theorem none_of {H H1 : Hp} {a : Addr} (d : ∀ a, H a ≠ none → H1 a ≠ none) (h : H1 a = none) : H a = none := by
  cases e : H a with
  | none => rfl
  | some o => exact absurd h (d a (nn e))
section
variable {ι ω ι1 ω1 ι2 ω2 : List Addr} {H H1 H2 : Hp}
theorem ExtS.refl : ExtS ι ω H ι ω H := ⟨List.prefix_rfl, fun _ _ h _ _ => h, fun _ h n => absurd h n, fun _ h n => absurd h n, fun _ h => h⟩
theorem ExtS.trans (a : ExtS ι ω H ι1 ω1 H1) (b : ExtS ι1 ω1 H1 ι2 ω2 H2) : ExtS ι ω H ι2 ω2 H2 := by
  refine ⟨a.pre.trans b.pre, fun x o h n1 n2 => ?_, fun x h n => ?_, fun x h n => ?_, fun x h => b.dom x (a.dom x h)⟩
  · refine b.keep x o (a.keep x o h n1 n2) (fun z => ?_) fun z => ?_
    · have := a.newi x z n1
      rw [h] at this; cases this
    · have := a.neww x z n2
      rw [h] at this; cases this
  · by_cases hx : x ∈ ι1
    · exact a.newi x hx n
    · exact none_of a.dom (b.newi x h hx)
  · by_cases hx : x ∈ ω1
    · exact a.neww x hx n
    · exact none_of a.dom (b.neww x h hx)
theorem Ext.s (e : Ext ι H ι1 H1) : ExtS ι ω H ι1 ω H1 := ⟨e.pre, fun a o h n _ => e.keep a o h n, e.new, fun _ h n => absurd h n, e.dom⟩
theorem ExtS.per {B : List Addr} (e : ExtS ι ω H ι1 ω1 H1) : Per ι (B ++ ω) H ι1 (B ++ ω1) H1 := by
  refine ⟨fun a o h1 h2 h3 => ?_, fun _ _ h => ix_pre e.pre h⟩
  rw [List.mem_append, not_or] at h3
  refine ⟨e.keep a o h1 h2 h3.2, fun z => ?_, fun z => ?_⟩
  · have := e.newi a z h2
    rw [h1] at this; cases this
  · rcases List.mem_append.mp z with z | z
    · exact h3.1 z
    · have := e.neww a z h3.2
      rw [h1] at this; cases this
end
def PostS (G : Gm) (E : WX) (F : Fr) (D : Ends) (ι ω : List Addr) (H : Hp) : RSt → Prop
  | .nx ρ' S' => ∀ ι' ω' σ' H', ExtS ι ω H ι' ω' H' → Rel G F ι' ω' ρ' S' σ' H' → D.nx σ' H'
  | .bk ρ' S' => ∀ ι' ω' σ' H', ExtS ι ω H ι' ω' H' → Rel G F ι' ω' ρ' S' σ' H' → D.bk σ' H'
  | .ct ρ' S' => ∀ ι' ω' σ' H', ExtS ι ω H ι' ω' H' → Rel G F ι' ω' ρ' S' σ' H' → D.ct σ' H'
  | .rt d f S' => ∀ ι' v H', Ext F.i0 F.H0 ι' H' → ι'.Nodup → RS G.K G.ca ι' F.B0 H' S' → RF G.K G.ca ι' F.B0 F.H0 H' S' v d f → D.rt v H'
  | .xc c fs ρ' S' => ∀ ι' ω' σ' dd fv H', ExtS ι ω H ι' ω' H' → Rel G F ι' ω' ρ' S' σ' H' → NI dd ι' → NI dd (F.B0 ++ ω') → XD H' dd fv → RFs G.K G.ca ι' (F.B0 ++ ω') H' fv fs → E (.ref (G.ca c)) dd σ' H'
  | .bad => False
def SS (G : Gm) (E : WX) (t : TS) (f : FS) : Prop := ∀ F D ι ω ρ S σ H, Rel G F ι ω ρ S σ H → PostS G E F D ι ω H (f ρ S) → t D σ H
def bS (r : RSt) (k : Ev → Sto → RSt) : RSt := match r with
  | .nx ρ S => k ρ S
  | r => r
/-- what an expression gives, in a statement -/
def eS (r : RE) (ρ : Ev) (k : D → Fl → Sto → RSt) : RSt := match r with
  | .ok d f S => k d f S
  | .xc c fs S => .xc c fs ρ S
  | .bad => .bad
section
variable {G : Gm} {E : WX} {F : Fr} {D : Ends} {ι ω ι1 ω1 : List Addr} {ρ : Ev} {S S1 : Sto} {σ : L2.St} {H H1 : Hp}
theorem PostS.ex {r : RSt} (h : PostS G E F D ι ω H r) (e : ExtS ι ω H ι1 ω1 H1) : PostS G E F D ι1 ω1 H1 r := by
  cases r with
  | nx ρ' S' => exact fun ι' ω' σ' H' e' rel => h ι' ω' σ' H' (e.trans e') rel
  | bk ρ' S' => exact fun ι' ω' σ' H' e' rel => h ι' ω' σ' H' (e.trans e') rel
  | ct ρ' S' => exact fun ι' ω' σ' H' e' rel => h ι' ω' σ' H' (e.trans e') rel
  | rt d f S' => exact h
  | xc c fs ρ' S' => exact fun ι' ω' σ' dd fv H' e' rel => h ι' ω' σ' dd fv H' (e.trans e') rel
  | bad => exact h
/-- what follows may be wider -/
theorem PostS.mono {D' : Ends} {r : RSt} (h : PostS G E F D ι ω H r) (h1 : ∀ σ H, D.nx σ H → D'.nx σ H) (h2 : ∀ σ H, D.bk σ H → D'.bk σ H) (h3 : ∀ σ H, D.ct σ H → D'.ct σ H) (h4 : ∀ v H, D.rt v H → D'.rt v H) : PostS G E F D' ι ω H r := by
  cases r with
  | nx ρ' S' => exact fun ι' ω' σ' H' e' rel => h1 _ _ (h ι' ω' σ' H' e' rel)
  | bk ρ' S' => exact fun ι' ω' σ' H' e' rel => h2 _ _ (h ι' ω' σ' H' e' rel)
  | ct ρ' S' => exact fun ι' ω' σ' H' e' rel => h3 _ _ (h ι' ω' σ' H' e' rel)
  | rt d f S' => exact fun ι' v H' e nd rs rf => h4 _ _ (h ι' v H' e nd rs rf)
  | xc c fs ρ' S' => exact h
  | bad => exact h
def sSeq (f g : FS) : FS := fun ρ S => bS (f ρ S) g
theorem ss_seq {t u : TS} {f g : FS} (ht : SS G E t f) (hu : SS G E u g) : SS G E (tSeq t u) (sSeq f g) := by
  intro F D ι ω ρ S σ H rel h
  refine ht F _ ι ω ρ S σ H rel ?_
  unfold sSeq at h
  cases e : f ρ S with
  | nx ρ' S' =>
    rw [e] at h
    exact fun ι' ω' σ' H' e' rel' => hu F D ι' ω' ρ' S' σ' H' rel' (PostS.ex h e')
  | bk ρ' S' => rw [e] at h; exact h
  | ct ρ' S' => rw [e] at h; exact h
  | rt d fl S' => rw [e] at h; exact h
  | xc c fs ρ' S' => rw [e] at h; exact h
  | bad => rw [e] at h; exact h
def sNext : FS := fun ρ S => .nx ρ S
def sBreak : FS := fun ρ S => .bk ρ S
def sCont : FS := fun ρ S => .ct ρ S
theorem ss_next : SS G E tNext sNext := fun F D ι ω ρ S σ H rel h => h ι ω σ H ExtS.refl rel
theorem ss_break : SS G E tBreak sBreak := fun F D ι ω ρ S σ H rel h => h ι ω σ H ExtS.refl rel
theorem SE.bindS {ta : TE} {fa : FE} (ha : SE G E ta fa) (r : Rel G F ι ω ρ S σ H) {k : Fx.D → Fl → Sto → RSt} (h : PostS G E F D ι ω H (eS (fa ρ S) ρ k)) {R : VK}
    (c : ∀ d f S1 ι1 v H1, Ext ι H ι1 H1 → Rel G F ι1 ω ρ S1 σ H1 → RF G.K G.ca ι1 (F.B0 ++ ω) H H1 S1 v d f → PostS G E F D ι1 ω H1 (k d f S1) → R v H1) : ta σ H R := by
  refine ha F ι ω ρ S σ H R r ?_
  cases e : fa ρ S with
  | ok d f S1 =>
    rw [e] at h
    exact fun ι1 v H1 e1 r1 rf => c d f S1 ι1 v H1 e1 r1 rf (PostS.ex h e1.s)
  | xc c' fs S1 =>
    rw [e] at h
    exact fun ι' dd fv H' x rel' n1 n2 h1 h2 => h ι' ω σ dd fv H' x.s rel' n1 n2 h1 h2
  | bad => rw [e] at h; exact h
theorem ST.bindS {ta : TT} {fa : FE} (ha : ST G E ta fa) (r : Rel G F ι ω ρ S σ H) {k : Fx.D → Fl → Sto → RSt} (h : PostS G E F D ι ω H (eS (fa ρ S) ρ k)) {R : Bool → Hp → Prop} (hk : ∀ d f S1, (∀ b, d ≠ .bl b) → k d f S1 = .bad)
    (c : ∀ b f S1 ι1 H1, Ext ι H ι1 H1 → Rel G F ι1 ω ρ S1 σ H1 → PostS G E F D ι1 ω H1 (k (.bl b) f S1) → R b H1) : ta σ H R := by
  refine ha F ι ω ρ S σ H R r ?_
  cases e : fa ρ S with
  | ok d f S1 =>
    rw [e] at h
    intro ι1 v H1 e1 r1 rf
    cases d with
    | bl b => rw [rf.rt.sBl]; exact c b f S1 ι1 H1 e1 r1 (PostS.ex h e1.s)
    | _ =>
      have h : PostS G E F D ι ω H (k _ f S1) := h
      rw [hk _ _ _ (by intro b z; cases z)] at h
      exact h.elim
  | xc c' fs S1 =>
    rw [e] at h
    exact fun ι' dd fv H' x rel' n1 n2 h1 h2 => h ι' ω σ dd fv H' x.s rel' n1 n2 h1 h2
  | bad => rw [e] at h; exact h
def sExpr (fe : FE) : FS := fun ρ S => eS (fe ρ S) ρ fun _ _ S1 => .nx ρ S1
theorem ss_expr {te : TE} {fe : FE} (he : SE G E te fe) : SS G E (tDrop te) (sExpr fe) := by
  intro F D ι ω ρ S σ H rel h
  exact he.bindS rel h fun d f S1 ι1 v H1 e1 r1 rf h1 => h1 ι1 ω σ H1 ExtS.refl r1
def sIf (fc : FE) (fa fb : FS) : FS := fun ρ S => eS (fc ρ S) ρ fun d _ S1 => (match d with
  | .bl true => fa ρ S1
  | .bl false => fb ρ S1
  | _ => .bad)
theorem ss_if {tc : TT} {ta tb : TS} {fc : FE} {fa fb : FS} (hc : ST G E tc fc) (ha : SS G E ta fa) (hb : SS G E tb fb) : SS G E (uIfS tc ta tb) (sIf fc fa fb) := by
  intro F D ι ω ρ S σ H rel h
  refine hc.bindS rel h (fun d f S1 hd => by cases d <;> first | rfl | exact absurd rfl (hd _)) fun b f S1 ι1 H1 e1 r1 h1 => ?_
  cases b with
  | true => exact ha F D ι1 ω ρ S1 σ H1 r1 h1
  | false => exact hb F D ι1 ω ρ S1 σ H1 r1 h1
theorem Rel.ext0 (r : Rel G F ι ω ρ S σ H) : Ext F.i0 F.H0 ι H := ⟨r.pre, r.old, r.fri, r.dom⟩
theorem RS.less {K : PySem.W.Frag} {ca : Nat → Addr} {B B' : List Addr} (h : RS K ca ι B H S) (s : ∀ a ∈ B', a ∈ B) : RS K ca ι B' H S := h.per (fun _ _ => rfl) (Per.less s)
theorem Rel.offb0 (r : Rel G F ι ω ρ S σ H) {a : Addr} (h : a ∈ ω) : a ∉ F.B0 := fun z => (r.b0 a z).1 (r.frw a h)
theorem rf_out {d : Fx.D} {v : V} {f : Fl} {H0 : Hp} (r : Rel G F ι ω ρ S σ H) (rf : RF G.K G.ca ι (F.B0 ++ ω) H0 H S v d f) (h0 : ∀ a, F.H0 a ≠ none → H0 a ≠ none) (hf : f ≠ .pk) : RF G.K G.ca ι F.B0 F.H0 H S v d f := by
  have s : ∀ a ∈ F.B0, a ∈ F.B0 ++ ω := fun a h => List.mem_append_left _ h
  have s1 : ∀ p, ∀ a ∈ p :: F.B0, a ∈ p :: (F.B0 ++ ω) := fun p a h => by
    rcases List.mem_cons.mp h with h | h
    · subst h; exact List.mem_cons_self
    · exact List.mem_cons_of_mem _ (s a h)
  cases f with
  | pk => exact absurd rfl hf
  | tr => exact RV.per (show RV _ _ _ _ _ _ _ from rf) (Per.less s)
  | fs =>
    have rf : Fs _ _ _ _ _ _ _ _ _ := rf
    cases rf with
    | l h1 h2 h3 h4 h5 h6 => exact .l h1 (fun z => h2 (s _ z)) (none_of h0 h3) h4 (h5.per (Per.less (s1 _))) (h6.less (s1 _))
    | o h1 h2 h3 h4 h5 h6 => exact .o h1 (fun z => h2 (s _ z)) (none_of h0 h3) h4 (h5.per (Per.less (s1 _))) (h6.less (s1 _))
def sRet (fe : FE) : FS := fun ρ S => eS (fe ρ S) ρ fun d f S1 => if f.nop = true then .rt d f S1 else .bad
theorem ss_ret {te : TE} {fe : FE} (he : SE G E te fe) : SS G E (tRet te) (sRet fe) := by
  intro F D ι ω ρ S σ H rel h
  refine he.bindS rel h fun d f S1 ι1 v H1 e1 r1 rf h1 => ?_
  split at h1
  · rename_i hf
    refine h1 ι1 v H1 r1.ext0 r1.nd (r1.sto.less fun a z => List.mem_append_left _ z) (rf_out r1 rf rel.dom (by intro z; subst z; cases hf))
  · exact h1.elim
def sRetN : FS := fun _ S => .rt .non .tr S
/-- a name is returned, a list of one's own too -/
def sRetV (i : Nat) : FS := fun ρ S => match ρ[i]? with
  | some (.val d) => .rt d .tr S
  | some (.own ds) => .rt (.lst ds) .fs S
  | _ => .bad
theorem ss_retV (i : Nat) : SS G E (tRet (uVar i)) (sRetV i) := by
  intro F D ι ω ρ S σ H rel h
  unfold sRetV at h
  show uVar i σ H D.rt
  unfold uVar
  cases e : ρ[i]? with
  | none => rw [e] at h; exact h.elim
  | some s =>
    rw [e] at h
    have hi : i < σ.length := by rw [← rel.len]; exact (List.getElem?_eq_some_iff.mp e).1
    have q := rel.env i s _ e (List.getElem?_eq_getElem hi)
    have e2 : σ[i]? = some σ[i] := List.getElem?_eq_getElem hi
    rw [e2]
    generalize σ[i] = o at q
    have s0 : RS G.K G.ca ι F.B0 H S := rel.sto.less fun a z => List.mem_append_left _ z
    have s1 : ∀ p ∈ ω, ∀ a ∈ p :: F.B0, a ∈ F.B0 ++ ω := fun p hp a h => by
      rcases List.mem_cons.mp h with h | h
      · subst h; exact List.mem_append_right _ hp
      · exact List.mem_append_left _ h
    cases q with
    | no => exact h.elim
    | val rv => exact h ι _ H rel.ext0 rel.nd s0 (rv.per (Per.less fun a z => List.mem_append_left _ z))
    | own h1 h2 h3 => exact h ι _ H rel.ext0 rel.nd s0 (.l (rel.dj _ h1) (rel.offb0 h1) (rel.frw _ h1) h2 (h3.per (Per.less (s1 _ h1))) (rel.sto.less (s1 _ h1)))
    | oob h1 h2 h3 => exact h.elim
    | exn => exact h.elim
theorem Rel.set (r : Rel G F ι ω ρ S σ H) (i : Nat) {v : V} {d : Fx.D} (rv : RV G.K G.ca ι (F.B0 ++ ω) H v d) : Rel G F ι ω (ρ.set i (.val d)) S (σ.set i (some v)) H := by
  refine { r with len := by rw [List.length_set, List.length_set]; exact r.len, env := fun j s o h1 h2 => ?_, own := fun j k a s s' hjk h1 h2 h3 h4 h5 h6 => ?_ }
  · by_cases e : i = j
    · subst e
      have hi : i < ρ.length := by
        have := (List.getElem?_eq_some_iff.mp h1).1
        rwa [List.length_set] at this
      rw [List.getElem?_set_self hi] at h1
      rw [List.getElem?_set_self (by rw [← r.len]; exact hi)] at h2
      cases h1; cases h2
      exact .val rv
    · rw [List.getElem?_set_ne e] at h1 h2
      exact r.env j s o h1 h2
  · by_cases e : i = j
    · subst e
      have hi : i < ρ.length := by
        have := (List.getElem?_eq_some_iff.mp h1).1
        rwa [List.length_set] at this
      rw [List.getElem?_set_self hi] at h1
      cases h1; cases h3
    · by_cases e' : i = k
      · subst e'
        have hi : i < ρ.length := by
          have := (List.getElem?_eq_some_iff.mp h2).1
          rwa [List.length_set] at this
        rw [List.getElem?_set_self hi] at h2
        cases h2; cases h4
      · rw [List.getElem?_set_ne e] at h1 h5
        rw [List.getElem?_set_ne e'] at h2 h6
        exact r.own j k a s s' hjk h1 h2 h3 h4 h5 h6
/-- a slot is forgotten -/
theorem Rel.drop (r : Rel G F ι ω ρ S σ H) (i : Nat) (o : Option V) : Rel G F ι ω (ρ.set i .no) S (σ.set i o) H := by
  refine { r with len := by rw [List.length_set, List.length_set]; exact r.len, env := fun j s o h1 h2 => ?_, own := fun j k a s s' hjk h1 h2 h3 h4 h5 h6 => ?_ }
  · by_cases e : i = j
    · subst e
      have hi : i < ρ.length := by
        have := (List.getElem?_eq_some_iff.mp h1).1
        rwa [List.length_set] at this
      rw [List.getElem?_set_self hi] at h1
      cases h1
      exact .no
    · rw [List.getElem?_set_ne e] at h1 h2
      exact r.env j s o h1 h2
  · by_cases e : i = j
    · subst e
      have hi : i < ρ.length := by
        have := (List.getElem?_eq_some_iff.mp h1).1
        rwa [List.length_set] at this
      rw [List.getElem?_set_self hi] at h1
      cases h1; cases h3
    · by_cases e' : i = k
      · subst e'
        have hi : i < ρ.length := by
          have := (List.getElem?_eq_some_iff.mp h2).1
          rwa [List.length_set] at this
        rw [List.getElem?_set_self hi] at h2
        cases h2; cases h4
      · rw [List.getElem?_set_ne e] at h1 h5
        rw [List.getElem?_set_ne e'] at h2 h6
        exact r.own j k a s s' hjk h1 h2 h3 h4 h5 h6
abbrev FG := Fx.D → Ev → Sto → Option Ev
/-- but for some slots nothing is changed -/
def Wp (js : List Nat) (σ σ' : L2.St) : Prop := ∀ vs : List Nat, (∀ j ∈ js, j ∈ vs) → wipe σ' vs = wipe σ vs
theorem wipe_set : ∀ {vs : List Nat} {i : Nat} {σ : L2.St} {o : Option V}, i ∈ vs → wipe (σ.set i o) vs = wipe σ vs
  | v :: vs, i, σ, o, h => by
    by_cases e : i ∈ vs
    · show (wipe (σ.set i o) vs).set v none = (wipe σ vs).set v none
      rw [wipe_set e]
    · have hv : i = v := by
        rcases List.mem_cons.mp h with z | z
        · exact z
        · exact absurd z e
      subst hv
      have sw : ∀ (us : List Nat), i ∉ us → wipe (σ.set i o) us = (wipe σ us).set i o := by
        intro us
        induction us with
        | nil => intro _; rfl
        | cons u us ih =>
          intro hn
          simp only [List.mem_cons, not_or] at hn
          show (wipe (σ.set i o) us).set u none = ((wipe σ us).set u none).set i o
          rw [ih hn.2, List.set_comm _ _ hn.1]
      show (wipe (σ.set i o) vs).set i none = (wipe σ vs).set i none
      rw [sw vs e, List.set_set]
theorem Wp.name (i : Nat) (σ : L2.St) (o : Option V) : Wp [i] σ (σ.set i o) := fun vs h => wipe_set (h i List.mem_cons_self)
theorem Wp.refl (js : List Nat) (σ : L2.St) : Wp js σ σ := fun _ _ => rfl
theorem Wp.trans {js ks : List Nat} {σ σ1 σ2 : L2.St} (a : Wp js σ σ1) (b : Wp ks σ1 σ2) : Wp (js ++ ks) σ σ2 := fun vs h =>
  (b vs fun j hj => h j (List.mem_append_right _ hj)).trans (a vs fun j hj => h j (List.mem_append_left _ hj))
/-- and what is one's own stays so -/
structure Wq (js : List Nat) (ρ ρ' : Ev) (σ σ' : L2.St) : Prop where
  wp : Wp js σ σ'
  ow : ∀ (i : Nat) (s : Sl), ρ'[i]? = some s → isOwn s = true → ρ[i]? = some s ∧ σ'[i]? = σ[i]?
theorem Wq.trans {js ks : List Nat} {ρ ρ1 ρ2 : Ev} {σ σ1 σ2 : L2.St} (a : Wq js ρ ρ1 σ σ1) (b : Wq ks ρ1 ρ2 σ1 σ2) : Wq (js ++ ks) ρ ρ2 σ σ2 := ⟨a.wp.trans b.wp, fun i s h1 h2 => by
  obtain ⟨q1, q2⟩ := b.ow i s h1 h2
  obtain ⟨q3, q4⟩ := a.ow i s q1 h2
  exact ⟨q3, q2.trans q4⟩⟩
theorem Wq.name (i : Nat) (ρ : Ev) (σ : L2.St) (d : Fx.D) (o : Option V) : Wq [i] ρ (ρ.set i (.val d)) σ (σ.set i o) := ⟨Wp.name i σ o, fun j s h1 h2 => by
  by_cases e : i = j
  · subst e
    have hi : i < ρ.length := by
      have := (List.getElem?_eq_some_iff.mp h1).1
      rwa [List.length_set] at this
    rw [List.getElem?_set_self hi] at h1; cases h1; cases h2
  · rw [List.getElem?_set_ne e] at h1
    exact ⟨h1, List.getElem?_set_ne e⟩⟩
def SG (G : Gm) (g : TG) (js : List Nat) (f : FG) : Prop := ∀ F ι ω ρ S σ H v d Q, Rel G F ι ω ρ S σ H → RV G.K G.ca ι (F.B0 ++ ω) H v d → (match f d ρ S with
  | some ρ' => ∀ σ', Rel G F ι ω ρ' S σ' H → Wq js ρ ρ' σ σ' → Q σ' H
  | none => False) → g v σ H Q
abbrev FGs := List Fx.D → Ev → Sto → Option Ev
def SGs (G : Gm) (g : TGs) (js : List Nat) (f : FGs) : Prop := ∀ F ι ω ρ S σ H vs ds Q, Rel G F ι ω ρ S σ H → RAll G.K G.ca ι (F.B0 ++ ω) H vs ds → (match f ds ρ S with
  | some ρ' => ∀ σ', Rel G F ι ω ρ' S σ' H → Wq js ρ ρ' σ σ' → Q σ' H
  | none => False) → g vs σ H Q
def gN (i : Nat) : FG := fun d ρ _ => some (ρ.set i (.val d))
theorem sg_name (i : Nat) : SG G (gName i) [i] (gN i) := fun F ι ω ρ S σ H v d Q rel rv h => h _ (rel.set i rv) (Wq.name i ρ σ d _)
def gsNil : FGs := fun ds ρ _ => match ds with
  | [] => some ρ
  | _ => none
def gsCons (f : FG) (g : FGs) : FGs := fun ds ρ S => match ds with
  | d :: ds => (match f d ρ S with
    | some ρ1 => g ds ρ1 S
    | none => none)
  | [] => none
theorem sgs_nil : SGs G gNil [] gsNil := by
  intro F ι ω ρ S σ H vs ds Q rel ra h
  cases ds with
  | nil => cases ra; exact ⟨rfl, h σ rel ⟨Wp.refl _ _, fun i s h1 h2 => ⟨h1, rfl⟩⟩⟩
  | cons => exact h.elim
theorem sgs_cons {g : TG} {gs : TGs} {js ks : List Nat} {f : FG} {fs : FGs} (hg : SG G g js f) (hs : SGs G gs ks fs) : SGs G (gCons g gs) (js ++ ks) (gsCons f fs) := by
  intro F ι ω ρ S σ H vs ds Q rel ra h
  cases ds with
  | nil => exact h.elim
  | cons d ds =>
    cases ra with
    | cons r1 r2 =>
      refine ⟨_, _, rfl, hg F ι ω ρ S σ H _ d _ rel r1 ?_⟩
      unfold gsCons at h
      dsimp only at h
      cases e : f d ρ S with
      | none => rw [e] at h; exact h.elim
      | some ρ1 =>
        rw [e] at h
        intro σ' rel' w1
        refine hs F ι ω ρ1 S σ' H _ ds Q rel' r2 ?_
        dsimp only at h
        cases e2 : fs ds ρ1 S with
        | none => rw [e2] at h; exact h.elim
        | some ρ2 =>
          rw [e2] at h
          exact fun σ2 rel2 w2 => h σ2 rel2 (w1.trans w2)
def gT (n : Nat) (fs : FGs) : FG := fun d ρ S => match sqOf S d with
  | some ds => if ds.length = n then fs ds ρ S else none
  | none => none
theorem sg_ts {n : Nat} {gs : TGs} {js : List Nat} {fs : FGs} (hs : SGs G gs js fs) : SG G (gTs G.K n gs) js (gT n fs) := by
  intro F ι ω ρ S σ H v d Q rel rv h
  unfold gT at h
  cases e : sqOf S d with
  | none => rw [e] at h; exact h.elim
  | some ds =>
    rw [e] at h
    obtain ⟨a, xs, rfl, q1, q2⟩ := sq_at rel.sto (.v rv) e
    dsimp only at h
    by_cases hn : ds.length = n
    · rw [if_pos hn] at h
      exact ⟨xs, q1.symm, by rw [q2.len]; exact hn, hs F ι ω ρ S σ H xs ds Q rel q2 h⟩
    · rw [if_neg hn] at h; exact h.elim
def sAsg (fe : FE) (g : FG) : FS := fun ρ S => eS (fe ρ S) ρ fun d f S1 => if f.nop = true then (match g d ρ S1 with
  | some ρ' => .nx ρ' S1
  | none => .bad) else .bad
theorem ss_asg {te : TE} {fe : FE} {g : TG} {fg : FG} {js : List Nat} (he : SE G E te fe) (hg : SG G g js fg) : SS G E (tAsg te g) (sAsg fe fg) := by
  intro F D ι ω ρ S σ H rel h
  refine he.bindS rel h fun d f S1 ι1 v H1 e1 r1 rf h1 => ?_
  split at h1
  · rename_i hf
    refine hg F ι1 ω ρ S1 σ H1 v d _ r1 (rf.rv (by intro z; subst z; cases hf)) ?_
    split at h1
    · rename_i ρ' eg
      exact fun σ' rel' _ => h1 ι1 ω σ' H1 ExtS.refl rel'
    · exact h1.elim
  · exact h1.elim
def sPar (i j : Nat) (fa : FA) : FS := fun ρ S => match fa ρ S with
  | .ok [d, e] true S1 => .nx ((ρ.set i (.val d)).set j (.val e)) S1
  | .xc c fs S1 => .xc c fs ρ S1
  | _ => .bad
def sAug (i : Nat) (f : Int → Int → Int) (fe : FE) : FS := fun ρ S => match ρ[i]? with
  | some (.val (.int x)) => eS (fe ρ S) ρ fun d _ S1 => (match d with
    | .int y => .nx (ρ.set i (.val (.int (f x y)))) S1
    | _ => .bad)
  | _ => .bad
theorem slot_val (rel : Rel G F ι ω ρ S σ H) {i : Nat} {d : Fx.D} (e : ρ[i]? = some (.val d)) : ∃ v, σ[i]? = some (some v) ∧ RV G.K G.ca ι (F.B0 ++ ω) H v d := by
  have hi : i < σ.length := by rw [← rel.len]; exact (List.getElem?_eq_some_iff.mp e).1
  have q := rel.env i _ _ e (List.getElem?_eq_getElem hi)
  have e2 : σ[i]? = some σ[i] := List.getElem?_eq_getElem hi
  rw [e2]
  generalize σ[i] = o at q
  cases q with
  | val rv => exact ⟨_, rfl, rv⟩
theorem Rel.own' (r : Rel G F ι ω ρ S σ H) {H1 : Hp} {ι1 : List Addr} {S1 : Sto} (e : Ext ι H ι1 H1) (r1 : Rel G F ι1 ω ρ S1 σ H1) (i : Nat) {a : Addr} {s : Sl} (hs : RSl G ι1 (F.B0 ++ (a :: ω)) (a :: ω) H1 s (some (.ref a))) (h0 : H a = none) (hi : a ∉ ι1) (hd : H1 a ≠ none)
    (hS : RS G.K G.ca ι1 (F.B0 ++ (a :: ω)) H1 S1) : Rel G F ι1 (a :: ω) (ρ.set i s) S1 (σ.set i (some (.ref a))) H1 := by
  have pp : Per ι (F.B0 ++ ω) H ι1 (F.B0 ++ (a :: ω)) H1 := ⟨fun b o h1 h2 h3 => by
    rw [List.mem_append, not_or] at h3
    refine ⟨e.keep b o h1 h2, e.off h1 h2, fun z => ?_⟩
    rcases List.mem_append.mp z with z | z
    · exact h3.1 z
    · rcases List.mem_cons.mp z with z | z
      · subst z; rw [h0] at h1; cases h1
      · exact h3.2 z, fun _ _ h => ix_pre e.pre h⟩
  have up : ∀ s o, RSl G ι (F.B0 ++ ω) ω H s o → RSl G ι1 (F.B0 ++ (a :: ω)) (a :: ω) H1 s o := fun s o h => by
    cases h with
    | no => exact .no
    | val h => exact .val (h.per pp)
    | own h1 h2 h3 => exact .own (List.mem_cons_of_mem _ h1) (e.keep _ _ h2 (r.dj _ h1)) (h3.per pp)
    | oob h1 h0 h2 h3 => exact .oob (List.mem_cons_of_mem _ h1) h0 (e.keep _ _ h2 (r.dj _ h1)) (h3.per pp)
    | exn h1 h2 h3 h4 h5 =>
      obtain ⟨q1, q2, q3⟩ := h4.per h2 h3 pp
      exact .exn h1 q2 q3 q1 (h5.per pp)
  have noa : ∀ (j : Nat) (s : Sl), ρ[j]? = some s → isOwn s = true → σ[j]? = some (some (.ref a)) → False := fun j s h1 h2 h3 => by
    cases r.env j s _ h1 h3 with
    | no => cases h2
    | val => cases h2
    | own q1 q2 q3 => rw [h0] at q2; cases q2
    | oob q1 q0 q2 q3 => rw [h0] at q2; cases q2
    | exn => cases h2
  refine ⟨r1.pre, r1.old, r1.dom, r1.fri, fun b hb => ?_, r1.b0, r1.nd, fun b hb => ?_, fun b hb => ?_, hS, by rw [List.length_set, List.length_set]; exact r.len, fun j s' o h1 h2 => ?_, fun j k b s1 s2 hjk h1 h2 h3 h4 h5 h6 => ?_⟩
  · rcases List.mem_cons.mp hb with z | z
    · subst z; exact none_of r.dom h0
    · exact r1.frw b z
  · rcases List.mem_cons.mp hb with z | z
    · subst z; exact hi
    · exact r1.dj b z
  · rcases List.mem_cons.mp hb with z | z
    · subst z; exact hd
    · exact r1.dw b z
  · by_cases e : i = j
    · subst e
      have hi : i < ρ.length := by
        have := (List.getElem?_eq_some_iff.mp h1).1
        rwa [List.length_set] at this
      rw [List.getElem?_set_self hi] at h1
      rw [List.getElem?_set_self (by rw [← r.len]; exact hi)] at h2
      cases h1; cases h2
      exact hs
    · rw [List.getElem?_set_ne e] at h1 h2
      exact up _ _ (r.env j s' o h1 h2)
  · by_cases e : i = j
    · subst e
      have hi : i < ρ.length := by
        have := (List.getElem?_eq_some_iff.mp h1).1
        rwa [List.length_set] at this
      rw [List.getElem?_set_self (by rw [← r.len]; exact hi)] at h5
      cases h5
      rw [List.getElem?_set_ne hjk] at h2 h6
      exact noa k s2 h2 h4 h6
    · by_cases e' : i = k
      · subst e'
        have hi : i < ρ.length := by
          have := (List.getElem?_eq_some_iff.mp h2).1
          rwa [List.length_set] at this
        rw [List.getElem?_set_self (by rw [← r.len]; exact hi)] at h6
        cases h6
        rw [List.getElem?_set_ne e] at h1 h5
        exact noa j s1 h1 h3 h5
      · rw [List.getElem?_set_ne e] at h1 h5
        rw [List.getElem?_set_ne e'] at h2 h6
        exact r.own j k b s1 s2 hjk h1 h2 h3 h4 h5 h6
def sOwn (i : Nat) (fe : FE) : FS := fun ρ S => eS (fe ρ S) ρ fun d f S1 => (match d, f with
  | .lst ds, .fs => .nx (ρ.set i (.own ds)) S1
  | _, _ => .bad)
theorem mid {a : Addr} {B ω : List Addr} : ∀ x ∈ B ++ (a :: ω), x ∈ a :: (B ++ ω) := fun x h => by
  simp only [List.mem_append, List.mem_cons] at h ⊢
  rcases h with h | h | h
  · exact .inr (.inl h)
  · exact .inl h
  · exact .inr (.inr h)
theorem ss_own {i : Nat} {te : TE} {fe : FE} (he : SE G E te fe) : SS G E (tAsg te (gName i)) (sOwn i fe) := by
  intro F D ι ω ρ S σ H rel h
  refine he F ι ω ρ S σ H _ rel ?_
  unfold sOwn at h
  cases e : fe ρ S with
  | ok d f S1 =>
    rw [e] at h
    dsimp only [eS] at h
    intro ι1 v H1 e1 r1 rf
    split at h
    · have rf : Fs _ _ _ _ _ _ _ _ _ := rf
      cases rf with
      | l h1 h2 h3 h4 h5 h6 =>
        refine h ι1 (_ :: ω) _ H1 ⟨e1.pre, fun a o q n _ => e1.keep a o q n, e1.new, fun a q n => ?_, e1.dom⟩ (rel.own' e1 r1 i (.own List.mem_cons_self h4 (h5.per (Per.less mid))) h3 h1 (nn h4) (h6.less mid))
        rcases List.mem_cons.mp q with z | z
        · subst z; exact h3
        · exact absurd z n
    · exact h.elim
  | xc c' fs S1 =>
    rw [e] at h
    exact fun ι' dd fv H' x rel' n1 n2 h1 h2 => h ι' ω σ dd fv H' x.s rel' n1 n2 h1 h2
  | bad => rw [e] at h; exact h.elim
end
end
end Fx
namespace Fx
open PySem PySem.Spec PyProof.Rows L2 U
noncomputable section
section
variable {G : Gm} {E : WX} {F : Fr} {Dd : Ends} {ι ω ι1 ω1 : List Addr} {ρ : Ev} {S S1 : Sto} {σ : L2.St} {H H1 : Hp}
theorem slot_own (rel : Rel G F ι ω ρ S σ H) {i : Nat} {ds : List D} (e : ρ[i]? = some (.own ds)) : ∃ a xs, σ[i]? = some (some (.ref a)) ∧ a ∈ ω ∧ H a = some (.lst xs) ∧ RAll G.K G.ca ι (F.B0 ++ ω) H xs ds := by
  have hi : i < σ.length := by rw [← rel.len]; exact (List.getElem?_eq_some_iff.mp e).1
  have q := rel.env i _ _ e (List.getElem?_eq_getElem hi)
  have e2 : σ[i]? = some σ[i] := List.getElem?_eq_getElem hi
  rw [e2]
  generalize σ[i] = o at q
  cases q with
  | own h1 h2 h3 => exact ⟨_, _, rfl, h1, h2, h3⟩
theorem slot_oob (rel : Rel G F ι ω ρ S σ H) {i : Nat} {c : Nat} {es : List (Str × D)} (e : ρ[i]? = some (.oob c es)) : ∃ a dx fs, σ[i]? = some (some (.ref a)) ∧ a ∈ ω ∧ G.me = some a ∧ H a = some (.ins (G.ca c) dx fs) ∧ RFs G.K G.ca ι (F.B0 ++ ω) H fs es := by
  have hi : i < σ.length := by rw [← rel.len]; exact (List.getElem?_eq_some_iff.mp e).1
  have q := rel.env i _ _ e (List.getElem?_eq_getElem hi)
  have e2 : σ[i]? = some σ[i] := List.getElem?_eq_getElem hi
  rw [e2]
  generalize σ[i] = o at q
  cases q with
  | oob h1 h0 h2 h3 => exact ⟨_, _, _, rfl, h1, h0, h2, h3⟩
theorem Per.upd {B : List Addr} {a : Addr} {o : HO} (h : a ∈ ι ∨ a ∈ B) : Per ι B H ι B (upd H a o) :=
  ⟨fun b u h1 h2 h3 => ⟨by rw [upd_ne (fun z => by subst z; exact h.elim h2 h3)]; exact h1, h2, h3⟩, fun _ _ z => z⟩
/-- what lies at an address of one's own is changed, the slot with it -/
theorem Rel.mut (r : Rel G F ι ω ρ S σ H) {i : Nat} {a : Addr} {s s' : Sl} {o : HO} (e : ρ[i]? = some s) (hs : isOwn s = true) (ea : σ[i]? = some (some (.ref a))) (ha : a ∈ ω) (hs' : RSl G ι (F.B0 ++ ω) ω (upd H a o) s' (some (.ref a))) (io : isOwn s' = true) :
    Rel G F ι ω (ρ.set i s') S σ (upd H a o) := by
  have pp : Per ι (F.B0 ++ ω) H ι (F.B0 ++ ω) (L2.upd H a o) := Per.upd (.inr (List.mem_append_right _ ha))
  have hi : i < ρ.length := (List.getElem?_eq_some_iff.mp e).1
  refine ⟨r.pre, fun b u h n => ?_, fun b h => ?_, r.fri, r.frw, r.b0, r.nd, r.dj, fun b hb => ?_, r.sto.per (fun b hb => upd_ne fun z => r.dj a ha (by rw [← z]; exact hb)) pp, by rw [List.length_set]; exact r.len, fun j t o' h1 h2 => ?_, fun j k b s1 s2 hjk h1 h2 h3 h4 h5 h6 => ?_⟩
  · rw [upd_ne (fun z => by subst z; rw [r.frw _ ha] at h; cases h)]; exact r.old b u h n
  · unfold L2.upd; split
    · simp
    · exact r.dom b h
  · unfold L2.upd; split
    · simp
    · exact r.dw b hb
  · by_cases e' : i = j
    · subst e'
      rw [List.getElem?_set_self hi] at h1
      rw [ea] at h2
      cases h1; cases h2
      exact hs'
    · rw [List.getElem?_set_ne e'] at h1
      have q := r.env j t o' h1 h2
      have ne : isOwn t = true → ∀ b, o' = some (.ref b) → b ≠ a := fun ht b hb z => by
        subst z; subst hb
        exact r.own i j _ s t e' e h1 hs ht ea h2
      cases q with
      | no => exact .no
      | val h => exact .val (h.per pp)
      | own q1 q2 q3 => exact .own q1 (by rw [upd_ne (ne rfl _ rfl)]; exact q2) (q3.per pp)
      | oob q1 q0 q2 q3 => exact .oob q1 q0 (by rw [upd_ne (ne rfl _ rfl)]; exact q2) (q3.per pp)
      | exn q1 q2 q3 q4 q5 =>
        obtain ⟨g1, g2, g3⟩ := q4.per q2 q3 pp
        exact .exn q1 g2 g3 g1 (q5.per pp)
  · have go : ∀ (j : Nat) (t : Sl), (ρ.set i s')[j]? = some t → isOwn t = true → ∃ t', ρ[j]? = some t' ∧ isOwn t' = true := fun j t h1 h2 => by
      by_cases e' : i = j
      · subst e'; exact ⟨s, e, hs⟩
      · rw [List.getElem?_set_ne e'] at h1; exact ⟨t, h1, h2⟩
    obtain ⟨t1, q1, q2⟩ := go j s1 h1 h3
    obtain ⟨t2, q3, q4⟩ := go k s2 h2 h4
    exact r.own j k b t1 t2 hjk q1 q3 q2 q4 h5 h6
theorem ExtS.mut {a : Addr} {o : HO} (ha : a ∈ ω) : ExtS ι ω H ι ω (upd H a o) :=
  ⟨List.prefix_rfl, fun b u h _ n => by rw [upd_ne (fun z => by subst z; exact n ha)]; exact h, fun _ h n => absurd h n, fun _ h n => absurd h n, fun b h => by
    unfold L2.upd; split
    · simp
    · exact h⟩
theorem Rel.mutL (r : Rel G F ι ω ρ S σ H) {i : Nat} {a : Addr} {ds ds' : List D} {xs' : List V} (e : ρ[i]? = some (.own ds)) (ea : σ[i]? = some (some (.ref a))) (ha : a ∈ ω) (ra : RAll G.K G.ca ι (F.B0 ++ ω) H xs' ds') : Rel G F ι ω (ρ.set i (.own ds')) S σ (upd H a (.lst xs')) :=
  r.mut e rfl ea ha (.own ha upd_same (ra.per (Per.upd (.inr (List.mem_append_right _ ha))))) rfl
theorem RS.set {K : PySem.W.Frag} {ca : Nat → Addr} {B : List Addr} {k : Nat} {a : Addr} {o : HO} {c : Ce} (r : RS K ca ι B H S) (nd : ι.Nodup) (e : ι[k]? = some a) (hc : RC K ca ι B (upd H a o) a c) : RS K ca ι B (upd H a o) (S.set k c) := by
  have ha : a ∈ ι := List.mem_of_getElem? e
  have pp : Per ι B H ι B (L2.upd H a o) := Per.upd (.inl ha)
  refine ⟨by rw [List.length_set]; exact r.len, fun j b c' h1 h2 => ?_⟩
  by_cases ej : k = j
  · subst ej
    rw [e] at h1; cases h1
    have hk : k < S.length := by rw [← r.len]; exact (List.getElem?_eq_some_iff.mp e).1
    rw [List.getElem?_set_self hk] at h2; cases h2
    exact hc
  · rw [List.getElem?_set_ne ej] at h2
    refine (r.at' j b c' h1 h2).per (upd_ne fun z => ej ?_) pp
    subst z
    obtain ⟨l1, e1⟩ := List.getElem?_eq_some_iff.mp e
    obtain ⟨l2, e2⟩ := List.getElem?_eq_some_iff.mp h1
    have pw := List.pairwise_iff_getElem.mp nd
    rcases Nat.lt_trichotomy k j with z | z | z
    · exact absurd (e1.trans e2.symm) (pw k j l1 l2 z)
    · exact z
    · exact absurd (e2.trans e1.symm) (pw j k l2 l1 z)
theorem Ext.cel {a : Addr} {o : HO} (ha : a ∈ ι) : Ext ι H ι (upd H a o) :=
  ⟨List.prefix_rfl, fun b u h n => by rw [upd_ne (fun z => by subst z; exact n ha)]; exact h, fun _ h n => absurd h n, fun b h => by
    unfold L2.upd; split
    · simp
    · exact h⟩
theorem Rel.cel (r : Rel G F ι ω ρ S σ H) {k : Nat} {a : Addr} {ds' : List D} {xs' : List V} (e : ι[k]? = some a) (ra : RAll G.K G.ca ι (F.B0 ++ ω) H xs' ds') : Rel G F ι ω ρ (S.set k (.lst ds')) σ (upd H a (.lst xs')) := by
  have ha : a ∈ ι := List.mem_of_getElem? e
  exact r.ex (Ext.cel ha) r.nd (r.sto.set r.nd e (.lst upd_same (ra.per (Per.upd (.inl ha)))))
/-- the list in slot i becomes ds' -/
def putL (i : Nat) (ρ : Ev) (S : Sto) (f : List D → Option (List D)) : RSt := match ρ[i]? with
  | some (.own ds) => (match f ds with
    | some es => .nx (ρ.set i (.own es)) S
    | none => .bad)
  | some (.val (.cel k)) => (match S[k]? with
    | some (.lst ds) => (match f ds with
      | some es => .nx ρ (S.set k (.lst es))
      | none => .bad)
    | _ => .bad)
  | _ => .bad
/-- the list in slot i, and how it may be changed -/
theorem put_ok {i : Nat} {f : List D → Option (List D)} (rel : Rel G F ι ω ρ S σ H) (h : PostS G E F Dd ι ω H (putL i ρ S f)) : ∃ a xs ds es, σ[i]? = some (some (.ref a)) ∧ H a = some (.lst xs) ∧ RAll G.K G.ca ι (F.B0 ++ ω) H xs ds ∧ f ds = some es ∧
    ∀ ys, RAll G.K G.ca ι (F.B0 ++ ω) H ys es → Dd.nx σ (upd H a (.lst ys)) := by
  unfold putL at h
  split at h
  · rename_i ds e
    obtain ⟨a, xs, e1, ha, e2, ra⟩ := slot_own rel e
    split at h
    · rename_i es ef
      exact ⟨a, xs, ds, es, e1, e2, ra, ef, fun ys ry => h ι ω σ _ (ExtS.mut ha) (rel.mutL e e1 ha ry)⟩
    · exact h.elim
  · rename_i k e
    obtain ⟨v, e1, rv⟩ := slot_val rel e
    cases rv with
    | @cel a k hk =>
      split at h
      · rename_i ds es
        obtain ⟨xs, e2, ra⟩ := cel_at rel.sto hk es
        split at h
        · rename_i es' ef
          exact ⟨a, xs, ds, es', e1, e2, ra, ef, fun ys ry => h ι ω σ _ (Ext.cel (List.mem_of_getElem? hk)).s (rel.cel hk ry)⟩
        · exact h.elim
      · exact h.elim
  · exact h.elim
def sApp (i : Nat) (fe : FE) : FS := fun ρ S => eS (fe ρ S) ρ fun d f S1 => if f.nop = true then putL i ρ S1 (fun ds => if ds.length < lim then some (ds ++ [d]) else none) else .bad
/-- slot i holds a list -/
def hasL (i : Nat) (ρ : Ev) (S : Sto) : Bool := match ρ[i]? with
  | some (.own _) => true
  | some (.val (.cel k)) => (match S[k]? with | some (.lst _) => true | _ => false)
  | _ => false
theorem has_ok {i : Nat} (rel : Rel G F ι ω ρ S σ H) (h : hasL i ρ S = true) : ∃ a xs, σ[i]? = some (some (.ref a)) ∧ H a = some (.lst xs) := by
  unfold hasL at h
  split at h
  · rename_i ds e
    obtain ⟨a, xs, e1, ha, e2, ra⟩ := slot_own rel e
    exact ⟨a, xs, e1, e2⟩
  · rename_i k e
    obtain ⟨v, e1, rv⟩ := slot_val rel e
    cases rv with
    | @cel a k hk =>
      split at h
      · rename_i ds es
        obtain ⟨xs, e2, ra⟩ := cel_at rel.sto hk es
        exact ⟨a, xs, e1, e2⟩
      · cases h
  · cases h
/-- ahead of a change the slot is looked at -/
def chk (i : Nat) (f : FS) : FS := fun ρ S => if hasL i ρ S = true then f ρ S else .bad
theorem ss_app {i : Nat} {te : TE} {fe : FE} (he : SE G E te fe) : SS G E (tDrop (tBM G.K "list" uAppend (uVar i) (tCons te tNil))) (chk i (sApp i fe)) := by
  intro F D ι ω ρ S σ H rel h
  unfold chk at h
  split at h
  · rename_i hh
    obtain ⟨a, xs, e1, e2⟩ := has_ok rel hh
    show uVar i σ H fun x H1 => tyV G.K "list" x H1 ∧ tCons te tNil σ H1 fun xs H2 => uAppend x xs H2 fun _ H3 => D.nx σ H3
    unfold uVar
    rw [e1]
    refine ⟨.inl ⟨rfl, xs, .inl (.inl e2)⟩, ?_⟩
    refine he.bindS rel h fun d f S1 ι1 v H1 x1 r1 rf h1 => ?_
    split at h1
    · rename_i hf
      obtain ⟨a', xs', ds, es, q1, q2, q3, q4, q5⟩ := put_ok r1 h1
      rw [e1] at q1; cases q1
      split at q4
      · rename_i hl
        cases q4
        exact oK_of (mutL_of q2) ⟨by rw [q3.len]; exact lim_lt hl, q5 _ (q3.app (.cons (rf.rv (by intro z; subst z; cases hf)) .nil))⟩
      · cases q4
    · exact h1.elim
  · exact h.elim
def sSetI (i : Nat) (fi fe : FE) : FS := fun ρ S => eS (fe ρ S) ρ fun d f S1 => if f.nop = true then (if hasL i ρ S1 = true then eS (fi ρ S1) ρ fun e _ S2 => (match e with
  | .int k => putL i ρ S2 (fun ds => (ixN ds.length k).map fun j => ds.set j d)
  | _ => .bad) else .bad) else .bad
theorem ss_setI {i : Nat} {te ti : TE} {fe fi : FE} (he : SE G E te fe) (hi : SE G E ti fi) : SS G E (tAsg te (gSub (uVar i) ti uSetL)) (sSetI i fi fe) := by
  intro F D ι ω ρ S σ H rel h
  refine he.bindS rel h fun d f S1 ι1 v H1 x1 r1 rf h1 => ?_
  split at h1
  · rename_i hf
    split at h1
    · rename_i hh
      obtain ⟨a, xs, e1, e2⟩ := has_ok r1 hh
      show uVar i σ H1 _
      unfold uVar
      rw [e1]
      refine hi.bindS r1 h1 fun e f2 S2 ι2 w H2 x2 r2 rf2 h2 => ?_
      split at h2
      · rename_i k
        rw [rf2.rt.sInt]
        obtain ⟨a', xs', ds, es, q1, q2, q3, q4, q5⟩ := put_ok r2 h2
        rw [e1] at q1; cases q1
        rw [Option.map_eq_some_iff] at q4
        obtain ⟨j, q6, rfl⟩ := q4
        exact oK_of (mutL_of q2) (oK_of (by rw [q3.len]; exact q6) (q5 _ (q3.set j ((rf.rv (by intro z; subst z; cases hf)).ex x2))))
      · exact h2.elim
    · exact h1.elim
  · exact h1.elim
def frz (i : Nat) (ρ : Ev) : Ev := match ρ[i]? with
  | some (.own ds) => ρ.set i (.val (.lst ds))
  | _ => ρ
def sFrz (i : Nat) (f : FS) : FS := fun ρ S => f (frz i ρ) S
theorem Rel.less (r : Rel G F ι ω ρ S σ H) {i : Nat} {a : Addr} {s : Sl} {d : D} (e : ρ[i]? = some s) (hs : isOwn s = true) (ea : σ[i]? = some (some (.ref a))) (rv : RV G.K G.ca ι (F.B0 ++ ω.filter (· ≠ a)) H (.ref a) d) :
    Rel G F ι (ω.filter (· ≠ a)) (ρ.set i (.val d)) S σ H := by
  have sub : ∀ b ∈ ω.filter (· ≠ a), b ∈ ω := fun b hb => (List.mem_filter.mp hb).1
  have subB : ∀ b ∈ F.B0 ++ ω.filter (· ≠ a), b ∈ F.B0 ++ ω := fun b hb => by
    rcases List.mem_append.mp hb with z | z
    · exact List.mem_append_left _ z
    · exact List.mem_append_right _ (sub b z)
  have pp : Per ι (F.B0 ++ ω) H ι (F.B0 ++ ω.filter (· ≠ a)) H := Per.less subB
  have hi : i < ρ.length := (List.getElem?_eq_some_iff.mp e).1
  refine ⟨r.pre, r.old, r.dom, r.fri, fun b hb => r.frw b (sub b hb), r.b0, r.nd, fun b hb => r.dj b (sub b hb), fun b hb => r.dw b (sub b hb), r.sto.less subB, by rw [List.length_set]; exact r.len, fun j t o' h1 h2 => ?_, fun j k b s1 s2 hjk h1 h2 h3 h4 h5 h6 => ?_⟩
  · by_cases e' : i = j
    · subst e'
      rw [List.getElem?_set_self hi] at h1
      rw [ea] at h2
      cases h1; cases h2
      exact .val rv
    · rw [List.getElem?_set_ne e'] at h1
      have q := r.env j t o' h1 h2
      have ne : isOwn t = true → ∀ b, o' = some (.ref b) → b ≠ a := fun ht b hb z => by
        subst z; subst hb
        exact r.own i j _ s t e' e h1 hs ht ea h2
      cases q with
      | no => exact .no
      | val h => exact .val (h.per pp)
      | own q1 q2 q3 => exact .own (List.mem_filter.mpr ⟨q1, by simpa using ne rfl _ rfl⟩) q2 (q3.per pp)
      | oob q1 q0 q2 q3 => exact .oob (List.mem_filter.mpr ⟨q1, by simpa using ne rfl _ rfl⟩) q0 q2 (q3.per pp)
      | exn q1 q2 q3 q4 q5 => exact .exn q1 q2 (q3.less subB) q4 (q5.per pp)
  · have go : ∀ (j : Nat) (t : Sl), (ρ.set i (.val d))[j]? = some t → isOwn t = true → ρ[j]? = some t := fun j t h1 h2 => by
      by_cases e' : i = j
      · subst e'
        rw [List.getElem?_set_self hi] at h1; cases h1; cases h2
      · rw [List.getElem?_set_ne e'] at h1; exact h1
    exact r.own j k b s1 s2 hjk (go j s1 h1 h3) (go k s2 h2 h4) h3 h4 h5 h6
def fAdo (fe : FE) : FE := fun ρ S => bE (fe ρ S) fun d f S1 => (match d, f with
  | .lst ds, .fs => .ok (.cel S1.length) .tr (S1 ++ [.lst ds])
  | .lst _, _ => .bad
  | d, f => .ok d f S1)
theorem rs_grow {K : PySem.W.Frag} {ca : Nat → Addr} {B : List Addr} {a : Addr} {c : Ce} (r : RS K ca ι (a :: B) H S) (hc : RC K ca (ι ++ [a]) B H a c) : RS K ca (ι ++ [a]) B H (S ++ [c]) := by
  have pp : Per ι (a :: B) H (ι ++ [a]) B H := ⟨fun b o h1 h2 h3 => by
    simp only [List.mem_cons, not_or] at h3
    exact ⟨h1, by simp only [List.mem_append, List.mem_singleton, not_or]; exact ⟨h2, h3.1⟩, h3.2⟩, fun k b h => by
      rw [List.getElem?_append_left (List.getElem?_eq_some_iff.mp h).1]; exact h⟩
  refine ⟨by rw [List.length_append, List.length_append, r.len]; rfl, fun k b c' h1 h2 => ?_⟩
  by_cases hk : k < ι.length
  · rw [List.getElem?_append_left hk] at h1
    rw [List.getElem?_append_left (by rw [← r.len]; exact hk)] at h2
    exact (r.at' k b c' h1 h2).per rfl pp
  · rw [List.getElem?_append_right (by omega)] at h1
    rw [List.getElem?_append_right (by rw [← r.len]; omega)] at h2
    have e0 : k - ι.length = 0 := by
      by_cases z : k - ι.length = 0
      · exact z
      · rw [List.getElem?_eq_none (by simp; omega)] at h1; cases h1
    rw [e0] at h1
    rw [show k - S.length = 0 by rw [← r.len]; exact e0] at h2
    cases h1; cases h2
    exact hc
theorem se_ado {te : TE} {fe : FE} (he : SE G E te fe) : SE G E te (fAdo fe) := by
  intro F ι ω ρ S σ H Q rel h
  refine he F ι ω ρ S σ H Q rel ?_
  unfold fAdo at h
  cases e : fe ρ S with
  | ok d f S1 =>
    rw [e] at h
    dsimp only [bE] at h
    split at h
    · intro ι1 v H1 e1 r1 rf
      have rf : Fs _ _ _ _ _ _ _ _ _ := rf
      cases rf with
      | @l a xs ds h1 h2 h3 h4 h5 h6 =>
        have pp : Per ι1 (a :: (F.B0 ++ ω)) H1 (ι1 ++ [a]) (F.B0 ++ ω) H1 := ⟨fun b o h1 h2 h3 => by
          simp only [List.mem_cons, not_or] at h3
          exact ⟨h1, by simp only [List.mem_append, List.mem_singleton, not_or]; exact ⟨h2, h3.1⟩, h3.2⟩, fun k b h => by
            rw [List.getElem?_append_left (List.getElem?_eq_some_iff.mp h).1]; exact h⟩
        have x2 : Ext ι H (ι1 ++ [a]) H1 := ⟨e1.pre.trans (List.prefix_append _ _), e1.keep, fun b hb n => by
          rcases List.mem_append.mp hb with z | z
          · exact e1.new b z n
          · rw [List.mem_singleton.mp z]; exact h3, e1.dom⟩
        refine h (ι1 ++ [a]) (.ref a) H1 x2 (rel.ex x2 ?_ (rs_grow h6 (.lst h4 (h5.per pp)))) (.cel ?_)
        · rw [List.nodup_append]
          refine ⟨r1.nd, by simp, fun b hb c hc => ?_⟩
          rw [List.mem_singleton.mp hc]
          intro z; subst z; exact h1 hb
        · rw [List.getElem?_append_right (by rw [h6.len]; exact Nat.le_refl _), h6.len]; simp
    · exact h.elim
    · exact h
  | xc c' fs S1 => rw [e] at h; exact h
  | bad => rw [e] at h; exact h
def sRaise (c : Nat) (f : Str) (fa : FA) : FS := fun ρ S => match fa ρ S with
  | .ok [d] true S1 => .xc c [(f, d)] ρ S1
  | .xc c' fs S1 => .xc c' fs ρ S1
  | _ => .bad
theorem ss_raise {c : Nat} {f : Str} {E' : XK} {ta : TA} {fa : FA} (hE : ∀ cls d σ H, E cls d σ H → E' cls d H) (ha : SA G E ta fa) : SS G E (uRaise (G.ca c) f E' ta) (sRaise c f fa) := by
  intro F D ι ω ρ S σ H rel h
  show uMk (G.ca c) f ta σ H E'
  unfold uMk
  refine ha F ι ω ρ S σ H _ rel ?_
  unfold sRaise at h
  split at h
  · rename_i d S1 ea
    rw [ea]
    intro ι1 vs H1 e1 r1 ra
    cases ra with
    | cons q1 q2 =>
      cases q2
      intro dd hd
      refine hE _ _ _ _ (h ι1 ω σ (some dd) [(f, _)] _ ((e1.trans (Ext.new1 hd)).s) (r1.new hd) (fun a z => by cases z; exact r1.offi hd) (fun a z => by cases z; exact r1.offb hd) upd_same (.cons (q1.per (Per.new hd)) .nil))
  · rename_i c' fs S1 ea
    rw [ea]
    exact fun ι' dd fv H' x rel' n1 n2 h1 h2 => h ι' ω σ dd fv H' x.s rel' n1 n2 h1 h2
  · exact h.elim
def sRaise0 (c : Nat) : FS := fun ρ S => .xc c [] ρ S
def isExn : Sl → Bool
  | .exn _ _ => true
  | _ => false
def noExn (ρ : Ev) : Bool := ρ.all fun s => !isExn s
theorem Rel.gm {G' : Gm} (r : Rel G F ι ω ρ S σ H) (hn : noExn ρ = true) (hK : G'.K = G.K) (hc : G'.ca = G.ca) (hm : G'.me = G.me) : Rel G' F ι ω ρ S σ H := by
  obtain ⟨K, ca, x, me⟩ := G
  obtain ⟨K', ca', x', me'⟩ := G'
  cases hK; cases hc; cases hm
  refine ⟨r.pre, r.old, r.dom, r.fri, r.frw, r.b0, r.nd, r.dj, r.dw, r.sto, r.len, fun i s o h1 h2 => ?_, r.own⟩
  have q := r.env i s o h1 h2
  have ns := List.all_eq_true.mp hn s (List.mem_of_getElem? h1)
  cases q with
  | no => exact .no
  | val h => exact .val h
  | own q1 q2 q3 => exact .own q1 q2 q3
  | oob q1 q0 q2 q3 => exact .oob q1 q0 q2 q3
  | exn => cases ns
/-- the clauses -/
def hand (em : Nat → Nat → Option Bool) (c : Nat) (fs : List (Str × D)) (ρ : Ev) (S : Sto) : List (Nat × Option Nat × FS) → RSt
  | [] => .xc c fs ρ S
  | (h, some i, f) :: l => (match em c h with
    | some true => if noExn ρ = true then (match f (ρ.set i (.exn c fs)) S with
      | .nx ρ' S' => if noExn (ρ'.set i .no) = true then .nx (ρ'.set i .no) S' else .bad
      | .bk ρ' S' => if noExn (ρ'.set i .no) = true then .bk (ρ'.set i .no) S' else .bad
      | .ct ρ' S' => if noExn (ρ'.set i .no) = true then .ct (ρ'.set i .no) S' else .bad
      | .rt d fl S' => .rt d fl S'
      | _ => .bad) else .bad
    | some false => hand em c fs ρ S l
    | none => .bad)
  | (h, none, f) :: l => (match em c h with
    | some true => (match f ρ S with
      | .nx ρ' S' => .nx ρ' S'
      | .bk ρ' S' => .bk ρ' S'
      | .ct ρ' S' => .ct ρ' S'
      | .rt d fl S' => .rt d fl S'
      | _ => .bad)
    | some false => hand em c fs ρ S l
    | none => .bad)
def sTry (em : Nat → Nat → Option Bool) (fb : FS) (l : List (Nat × Option Nat × FS)) : FS := fun ρ S => match fb ρ S with
  | .xc c fs ρ' S' => hand em c fs ρ' S' l
  | r => r
theorem Rel.exn {a : Addr} {dd : Option Addr} {c i : Nat} {fv : List (Str × V)} {fs : List (Str × D)} (r : Rel G F ι ω ρ S σ H) (hn : noExn ρ = true) (n1 : NI dd ι) (n2 : NI dd (F.B0 ++ ω)) (h1 : XD H dd fv) (h2 : RFs G.K G.ca ι (F.B0 ++ ω) H fv fs) :
    Rel ⟨G.K, G.ca, some (a, dd, c), G.me⟩ F ι ω (ρ.set i (.exn c fs)) S (σ.set i (some (.ref a))) H := by
  have r' : Rel ⟨G.K, G.ca, some (a, dd, c), G.me⟩ F ι ω ρ S σ H := r.gm hn rfl rfl rfl
  refine { r' with len := by rw [List.length_set, List.length_set]; exact r.len, env := fun j s o q1 q2 => ?_, own := fun j k b s s' hjk q1 q2 q3 q4 q5 q6 => ?_ }
  · by_cases e : i = j
    · subst e
      have hi : i < ρ.length := by
        have := (List.getElem?_eq_some_iff.mp q1).1
        rwa [List.length_set] at this
      rw [List.getElem?_set_self hi] at q1
      rw [List.getElem?_set_self (by rw [← r.len]; exact hi)] at q2
      cases q1; cases q2
      exact .exn rfl n1 n2 h1 h2
    · rw [List.getElem?_set_ne e] at q1 q2
      exact r'.env j s o q1 q2
  · by_cases e : i = j
    · subst e
      have hi : i < ρ.length := by
        have := (List.getElem?_eq_some_iff.mp q1).1
        rwa [List.length_set] at this
      rw [List.getElem?_set_self hi] at q1
      cases q1; cases q3
    · by_cases e' : i = k
      · subst e'
        have hi : i < ρ.length := by
          have := (List.getElem?_eq_some_iff.mp q2).1
          rwa [List.length_set] at this
        rw [List.getElem?_set_self hi] at q2
        cases q2; cases q4
      · rw [List.getElem?_set_ne e] at q1 q5
        rw [List.getElem?_set_ne e'] at q2 q6
        exact r.own j k b s s' hjk q1 q2 q3 q4 q5 q6
def fXf (xf : Nat → Str → Bool) (i : Nat) (f : Str) : FE := fun ρ S => match ρ[i]? with
  | some (.exn c fs) => if xf c f = true then (match fs.lookup f with
    | some d => .ok d .tr S
    | none => .bad) else .bad
  | _ => .bad
end
def runF (n m : Nat) (b : FS) : FF := fun ds S => if ds.length = m then (match b (ds.map .val ++ List.replicate (n - m) .no) S with
  | .nx _ S' => .ok .non .tr S'
  | .rt d f S' => .ok d f S'
  | .xc c fs _ S' => .xc c fs S'
  | _ => .bad) else .bad
section
variable {K : PySem.W.Frag} {ca : Nat → Addr} {H : Hp} {Q : VK} {E : XK} {vs : List V}
theorem run_len {N P : List Str} {b : FS} (h : SpF K ca (runF N.length P.length b) vs H Q E) : vs.length = P.length := by
  obtain ⟨ι, B, S, ds, h1, h2, h3, h4, h5⟩ := h
  unfold runF at h5
  split at h5
  · rename_i e; rw [h4.len]; exact e
  · exact h5.elim
theorem start_rel {ι B : List Addr} {S : Sto} {ds : List D} {N : List Str} (h1 : ι.Nodup) (h2 : ∀ b ∈ B, H b ≠ none ∧ b ∉ ι) (h3 : RS K ca ι B H S) (h4 : RAll K ca ι B H vs ds) :
    Rel ⟨K, ca, none, none⟩ ⟨H, ι, B⟩ ι [] (ds.map .val ++ List.replicate (N.length - ds.length) .no) S (L2.start N vs) H := by
  refine ⟨List.prefix_rfl, fun _ _ h _ => h, fun _ h => h, fun _ h n => absurd h n, fun _ h => (nomatch h), h2, h1, fun _ h => (nomatch h), fun _ h => (nomatch h), ?_, ?_, fun i s o e1 e2 => ?_, fun i j a s s' hij e1 e2 e3 => ?_⟩
  · rw [List.append_nil]; exact h3
  · unfold L2.start; rw [List.length_append, List.length_append, List.length_map, List.length_map, List.length_replicate, List.length_replicate, h4.len]
  · unfold L2.start at e2
    rw [List.append_nil]
    by_cases hi : i < ds.length
    · rw [List.getElem?_append_left (by rw [List.length_map]; exact hi), List.getElem?_map, List.getElem?_eq_getElem hi] at e1
      cases e1
      obtain ⟨v, q1, q2⟩ := h4.at i (List.getElem?_eq_getElem hi)
      rw [List.getElem?_append_left (by rw [List.length_map, h4.len]; exact hi), List.getElem?_map, q1] at e2
      cases e2
      exact .val q2
    · rw [List.getElem?_append_right (by rw [List.length_map]; omega), List.getElem?_replicate] at e1
      split at e1
      · cases e1; exact .no
      · cases e1
  · exfalso
    by_cases hi : i < ds.length
    · rw [List.getElem?_append_left (by rw [List.length_map]; exact hi), List.getElem?_map, List.getElem?_eq_getElem hi] at e1
      cases e1; cases e3
    · rw [List.getElem?_append_right (by rw [List.length_map]; omega), List.getElem?_replicate] at e1
      split at e1
      · cases e1; cases e3
      · cases e1
theorem run_ok {N P : List Str} {t : TS} {b : FS} (hb : SS ⟨K, ca, none, none⟩ (fun cls d _ H => E cls d H) t b) (h : SpF K ca (runF N.length P.length b) vs H Q E) : t { nx := fun _ H' => Q .non H', rt := Q } (L2.start N vs) H := by
  obtain ⟨ι, B, S, ds, h1, h2, h3, h4, h5⟩ := h
  unfold runF at h5
  split at h5
  · rename_i el
    refine hb ⟨H, ι, B⟩ _ ι [] _ S _ H (start_rel h1 h2 h3 h4) ?_
    rw [el]
    cases e : b (ds.map .val ++ List.replicate (N.length - P.length) .no) S with
    | nx ρ' S' =>
      rw [e] at h5
      exact fun ι' ω' σ' H' x r => h5 ι' .non H' r.ext0 r.nd (r.sto.less fun a z => List.mem_append_left _ z) .non
    | rt d f S' => rw [e] at h5; exact h5
    | xc c fs ρ' S' =>
      rw [e] at h5
      exact fun ι' ω' σ' dd fv H' x r n1 n2 g1 g2 => h5 ι' dd fv H' r.ext0 r.nd (r.sto.less fun a z => List.mem_append_left _ z) n1 (n2.less fun a z => List.mem_append_left _ z) g1 (g2.per (Per.less fun a z => List.mem_append_left _ z))
    | bk => rw [e] at h5; exact h5.elim
    | ct => rw [e] at h5; exact h5.elim
    | bad => rw [e] at h5; exact h5.elim
  · exact h5.elim
end
end
end Fx
namespace Fx
open PySem PySem.Spec PyProof.Rows L2 U
noncomputable section
abbrev Gd := Option (Nat × List D)
/-- the walked cell is as it was -/
def gOk : Gd → Sto → Prop
  | none, _ => True
  | some (k, ds), S => S[k]? = some (.lst ds)
structure Wk (K : PySem.W.Frag) (ca : Nat → Addr) (ι1 B1 : List Addr) (H1 : Hp) (J : It) (ds : List D) (g : Gd) : Prop where
  go : ∀ ι2 B2 H2 S2 i, Per ι1 B1 H1 ι2 B2 H2 → RS K ca ι2 B2 H2 S2 → (∀ a ∈ B2, H2 a ≠ none) → gOk g S2 → i < ds.length → J.go i H2
  stop : ∀ ι2 B2 H2 S2, Per ι1 B1 H1 ι2 B2 H2 → RS K ca ι2 B2 H2 S2 → (∀ a ∈ B2, H2 a ≠ none) → gOk g S2 → J.stop ds.length H2
  yld : ∀ ι2 B2 H2 S2 i x H', Per ι1 B1 H1 ι2 B2 H2 → RS K ca ι2 B2 H2 S2 → (∀ a ∈ B2, H2 a ≠ none) → gOk g S2 → i < ds.length → J.yld i H2 x H' → (∀ a o, H2 a = some o → H' a = some o) ∧ ∃ d, ds[i]? = some d ∧ RV K ca ι2 B2 H' x d
inductive RI where
  | ok (ds : List D) (g : Gd) (S : Sto) | xc (c : Nat) (fs : List (Str × D)) (S : Sto) | bad
abbrev FI := Ev → Sto → RI
def PostI (G : Gm) (E : WX) (F : Fr) (ι ω : List Addr) (ρ : Ev) (σ : L2.St) (H : Hp) (R : It → Hp → Prop) : RI → Prop
  | .ok ds g S' => ∀ ι' J H', Ext ι H ι' H' → Rel G F ι' ω ρ S' σ H' → Wk G.K G.ca ι' (F.B0 ++ ω) H' J ds g → R J H'
  | .xc c fs S' => ∀ ι' dd fv H', Ext ι H ι' H' → Rel G F ι' ω ρ S' σ H' → NI dd ι' → NI dd (F.B0 ++ ω) → XD H' dd fv → RFs G.K G.ca ι' (F.B0 ++ ω) H' fv fs → E (.ref (G.ca c)) dd σ H'
  | .bad => False
def SI (G : Gm) (E : WX) (t : TI) (f : FI) : Prop := ∀ F ι ω ρ S σ H R, Rel G F ι ω ρ S σ H → PostI G E F ι ω ρ σ H R (f ρ S) → t σ H R
/-- the items of a value that is walked -/
def charsD (z : Str) : List D := (sl z).map fun c => .str ⟨#[c]⟩
def itemsD (S : Sto) : D → Option (List D × Gd)
  | .str z => some (charsD z, none)
  | .lst ds => some (ds, none)
  | .tup ds => some (ds, none)
  | .cel k => (match S[k]? with | some (.lst ds) => some (ds, some (k, ds)) | _ => none)
  | _ => none
def fIter (fe : FE) : FI := fun ρ S => match fe ρ S with
  | .ok d f S1 => if f.nop = true then (match itemsD S1 d with
    | some (ds, g) => .ok ds g S1
    | none => .bad) else .bad
  | .xc c fs S1 => .xc c fs S1
  | .bad => .bad
theorem rall_chars {K : PySem.W.Frag} {ca : Nat → Addr} {ι B : List Addr} {H : Hp} (z : Str) : RAll K ca ι B H (chars z) (charsD z) := by
  unfold chars charsD
  show RAll K ca ι B H ((sl z).map _) _
  generalize sl z = l
  induction l with
  | nil => exact .nil
  | cons c l ih => exact .cons (.str _) ih
def JK (K : PySem.W.Frag) : Kd → It
  | .l a => Itl K a
  | .t a => Itt K a
  | .s z _ => Its z
/-- a value with its items, now and later -/
structure Sq (K : PySem.W.Frag) (ca : Nat → Addr) (ι1 B1 : List Addr) (H1 : Hp) (v : V) (k : Kd) (ds : List D) (g : Gd) : Prop where
  now : ∀ (R : It → Hp → Prop), R (JK K k) H1 → goIt K v H1 R
  later : ∀ ι2 B2 H2 S2, Per ι1 B1 H1 ι2 B2 H2 → RS K ca ι2 B2 H2 S2 → gOk g S2 → ∃ xs, k.sq K H2 xs ∧ RAll K ca ι2 B2 H2 xs ds
  kd : ∀ a, v = .ref a → kdOf K H1 a = some k
section
variable {G : Gm} {E : WX} {F : Fr} {Dd : Ends} {ι ω ι1 ω1 : List Addr} {ρ : Ev} {S S1 : Sto} {σ : L2.St} {H H1 : Hp}
theorem sq_of {v : V} {d : D} {ds : List D} {g : Gd} (rs : RS G.K G.ca ι (F.B0 ++ ω) H S) (h : RV G.K G.ca ι (F.B0 ++ ω) H v d) (e : itemsD S d = some (ds, g)) : ∃ k, Sq G.K G.ca ι (F.B0 ++ ω) H v k ds g := by
  unfold itemsD at e
  split at e
  · cases e
    cases h
    refine ⟨.s _ 0, fun R h => h, fun ι2 B2 H2 S2 p rs g => ⟨_, rfl, rall_chars _⟩, fun a z => by cases z⟩
  · cases e
    cases h with
    | @lst a xs ds h1 h2 h3 h4 =>
      refine ⟨.l a, fun R h => ?_, fun ι2 B2 H2 S2 p rs g => ⟨xs, .inl (.inl (p.at' _ _ h3 h1 h2).1), h4.per p⟩, fun b z => ?_⟩
      · show match rdL G.K H a with | some _ => _ | none => _
        rw [rdL_of h3]; exact h
      · cases z; unfold kdOf; rw [rdL_of h3]
  · cases e
    cases h with
    | @tup a xs ds h1 h2 h3 h4 =>
      have e1 : rdL G.K H a = none := by unfold rdL; rw [h3]
      refine ⟨.t a, fun R h => ?_, fun ι2 B2 H2 S2 p rs g => ⟨xs, .inl (.inl (p.at' _ _ h3 h1 h2).1), h4.per p⟩, fun b z => ?_⟩
      · show match rdL G.K H a with | some _ => _ | none => _
        rw [e1]
        show match rdT G.K H a with | some _ => _ | none => _
        rw [rdT_of h3]; exact h
      · cases z; unfold kdOf; rw [e1]; dsimp only; rw [rdT_of h3]
  · rename_i k
    split at e
    · rename_i ds' es
      cases e
      cases h with
      | @cel a k hk =>
        obtain ⟨xs, e2, ra⟩ := cel_at rs hk es
        refine ⟨.l a, fun R h => ?_, fun ι2 B2 H2 S2 p rs2 g => ?_, fun b z => ?_⟩
        · show match rdL G.K H a with | some _ => _ | none => _
          rw [rdL_of e2]; exact h
        · have g : S2[k]? = some (.lst ds) := g
          cases rs2.at' k a _ (p.ix _ _ hk) g with
          | lst q1 q2 => exact ⟨_, .inl (.inl q1), q2⟩
        · cases z; unfold kdOf; rw [rdL_of e2]
    · cases e
  · cases e
theorem Sq.wk {K : PySem.W.Frag} {ca : Nat → Addr} {B1 : List Addr} {v : V} {k : Kd} {ds : List D} {g : Gd} (q : Sq K ca ι1 B1 H1 v k ds g) : Wk K ca ι1 B1 H1 (JK K k) ds g := by
  have key : ∀ ι2 B2 H2 S2, Per ι1 B1 H1 ι2 B2 H2 → RS K ca ι2 B2 H2 S2 → gOk g S2 → ∃ xs, RAll K ca ι2 B2 H2 xs ds ∧ ∃ Gx : Hp → Prop, Gx H2 ∧ Walk (JK K k) xs.length Gx (YAt xs) := fun ι2 B2 H2 S2 p rs g => by
    obtain ⟨xs, h1, h2⟩ := q.later ι2 B2 H2 S2 p rs g
    refine ⟨xs, h2, ?_⟩
    cases k with
    | l a => exact ⟨_, h1, walk_list⟩
    | t a => exact ⟨_, h1, walk_tup⟩
    | s z t => exact ⟨fun _ => True, trivial, by rw [show xs = chars z from h1]; exact walk_chars⟩
  refine ⟨fun ι2 B2 H2 S2 i p rs hb g hi => ?_, fun ι2 B2 H2 S2 p rs hb g => ?_, fun ι2 B2 H2 S2 i x H' p rs hb g hi y => ?_⟩
  · obtain ⟨xs, h1, Gx, h2, w⟩ := key ι2 B2 H2 S2 p rs g
    exact w.goes i H2 (by rw [h1.len]; exact hi) h2
  · obtain ⟨xs, h1, Gx, h2, w⟩ := key ι2 B2 H2 S2 p rs g
    rw [← h1.len]; exact w.stops H2 h2
  · obtain ⟨xs, h1, Gx, h2, w⟩ := key ι2 B2 H2 S2 p rs g
    obtain ⟨rfl, h3⟩ := w.yields i H2 x H' (by rw [h1.len]; exact hi) h2 y
    exact ⟨fun _ _ z => z, h1.atV i h3⟩
theorem si_iter {te : TE} {fe : FE} (he : SE G E te fe) : SI G E (uIter G.K te) (fIter fe) := by
  intro F ι ω ρ S σ H R rel h
  refine he F ι ω ρ S σ H _ rel ?_
  unfold fIter at h
  cases e : fe ρ S with
  | ok d f S1 =>
    rw [e] at h
    intro ι1 v H1 e1 r1 rf
    dsimp only at h
    split at h
    · rename_i hf
      split at h
      · rename_i ds g ei
        obtain ⟨k, q⟩ := sq_of r1.sto (rf.rv (by intro z; subst z; cases hf)) ei
        exact q.now _ (h ι1 _ H1 e1 r1 q.wk)
      · exact h.elim
    · exact h.elim
  | xc c fs S1 => rw [e] at h; exact h
  | bad => rw [e] at h; exact h
def rngD (lo : Int) (n : Nat) : List D := (List.range n).map fun i => .int (lo + (i : Nat))
theorem wk_rng {K : PySem.W.Frag} {ca : Nat → Addr} {B1 : List Addr} (lo : Int) (n : Nat) : Wk K ca ι1 B1 H1 (Itr lo n) (rngD lo n) none := by
  have hl : (rngD lo n).length = n := by unfold rngD; rw [List.length_map, List.length_range]
  refine ⟨fun ι2 B2 H2 S2 i p rs hb g hi => ?_, fun ι2 B2 H2 S2 p rs hb g => ?_, fun ι2 B2 H2 S2 i x H' p rs hb g hi y => ?_⟩
  · rw [hl] at hi; exact hi
  · rw [hl]; exact Nat.le_refl n
  · rw [hl] at hi
    obtain ⟨rfl, rfl⟩ := (show H' = H2 ∧ x = .int (lo + (i : Nat)) from y)
    refine ⟨fun _ _ z => z, .int (lo + (i : Nat)), ?_, .int _⟩
    unfold rngD
    rw [List.getElem?_map, List.getElem?_range hi]; rfl
def fRng1 (fa : FA) : FI := fun ρ S => match fa ρ S with
  | .ok [.int j] _ S1 => if -(2 ^ 62) ≤ j ∧ j < 2 ^ 62 then .ok (rngD 0 j.toNat) none S1 else .bad
  | .xc c fs S1 => .xc c fs S1
  | _ => .bad
def fRng2 (fa : FA) : FI := fun ρ S => match fa ρ S with
  | .ok [.int i, .int j] _ S1 => if -(2 ^ 62) ≤ i ∧ i < 2 ^ 62 ∧ -(2 ^ 62) ≤ j ∧ j < 2 ^ 62 then .ok (rngD i (j - i).toNat) none S1 else .bad
  | .xc c fs S1 => .xc c fs S1
  | _ => .bad
theorem si_rng1 {ta : TA} {fa : FA} (ha : SA G E ta fa) : SI G E (iRng1 ta) (fRng1 fa) := by
  intro F ι ω ρ S σ H R rel h
  refine ha F ι ω ρ S σ H _ rel ?_
  unfold fRng1 at h
  split at h
  · rename_i j t S1 e
    rw [e]
    intro ι1 vs H1 e1 r1 ra
    obtain ⟨v, rfl, q⟩ := pair1 ra.pair
    rw [q.sInt]
    split at h
    · rename_i hc
      exact ⟨j, rfl, hc.1, hc.2, h ι1 _ H1 e1 r1 (wk_rng 0 _)⟩
    · exact h.elim
  · rename_i e; rw [e]; exact h
  · exact h.elim
theorem si_rng2 {ta : TA} {fa : FA} (ha : SA G E ta fa) : SI G E (iRng2 ta) (fRng2 fa) := by
  intro F ι ω ρ S σ H R rel h
  refine ha F ι ω ρ S σ H _ rel ?_
  unfold fRng2 at h
  split at h
  · rename_i i j t S1 e
    rw [e]
    intro ι1 vs H1 e1 r1 ra
    obtain ⟨v, w, rfl, q1, q2⟩ := pair2 ra.pair
    rw [q1.sInt, q2.sInt]
    split at h
    · rename_i hc
      exact ⟨i, j, rfl, hc, h ι1 _ H1 e1 r1 (wk_rng i _)⟩
    · exact h.elim
  · rename_i e; rw [e]; exact h
  · exact h.elim
def enumD (ds : List D) : List D := ds.mapIdx fun i d => .tup [.int (i : Nat), d]
def fEnum (fa : FA) : FI := fun ρ S => match fa ρ S with
  | .ok [d] true S1 => (match d with
    | .str z => .ok (enumD (charsD z)) none S1
    | d => (match itemsD S1 d with
      | some (ds, g) => .ok (enumD ds) g S1
      | none => .bad))
  | .xc c fs S1 => .xc c fs S1
  | _ => .bad
open Classical in
def loopS (g : Gd) (set : FG) (body : FS) : List D → Ev → Sto → RSt
  | [], ρ, S => if gOk g S then .nx ρ S else .bad
  | d :: ds, ρ, S => if gOk g S then (match set d ρ S with
    | some ρ1 => (match body ρ1 S with
      | .nx ρ2 S2 => loopS g set body ds ρ2 S2
      | .ct ρ2 S2 => loopS g set body ds ρ2 S2
      | .bk ρ2 S2 => .nx ρ2 S2
      | r => r)
    | none => .bad) else .bad
def sFor (it : FI) (set : FG) (body : FS) : FS := fun ρ S => match it ρ S with
  | .ok ds g S1 => loopS g set body ds ρ S1
  | .xc c fs S1 => .xc c fs ρ S1
  | .bad => .bad
theorem ss_for {wi : TI} {fi : FI} {tg : TG} {fg : FG} {js : List Nat} {tb : TS} {fb : FS} (hi : SI G E wi fi) (hg : SG G tg js fg) (hb : SS G E tb fb) : SS G E (tFor wi tg tb) (sFor fi fg fb) := by
  intro F D ι ω ρ S σ H rel h
  refine hi F ι ω ρ S σ H _ rel ?_
  unfold sFor at h
  cases e : fi ρ S with
  | xc c fs S1 =>
    rw [e] at h
    exact fun ι' dd fv H' x rel' n1 n2 h1 h2 => h ι' ω σ dd fv H' x.s rel' n1 n2 h1 h2
  | bad => rw [e] at h; exact h
  | ok ds g S1 =>
    rw [e] at h
    intro ι1 J H1 e1 r1 wk
    refine ⟨fun i m σ' H' => m = ds.length - i ∧ i ≤ ds.length ∧ ∃ ι' ω' ρ' S', Rel G F ι' ω' ρ' S' σ' H' ∧ ExtS ι1 ω H1 ι' ω' H' ∧ PostS G E F D ι' ω' H' (loopS g fg fb (ds.drop i) ρ' S'),
      ⟨ds.length, by simp, Nat.zero_le _, ι1, ω, ρ, S1, r1, ExtS.refl, by rw [List.drop_zero]; exact PostS.ex h e1.s⟩, ?_⟩
    rintro i m σ' H' ⟨rfl, hle, ι', ω', ρ', S', r', x', p'⟩
    have pp := x'.per (B := F.B0)
    rcases Nat.lt_or_ge i ds.length with hlt | hge
    · rw [List.drop_eq_getElem_cons hlt] at p'
      unfold loopS at p'
      split at p'
      · rename_i gk
        refine .inr ⟨wk.go _ _ _ _ i pp r'.sto r'.bd gk hlt, fun σ2 H2 => ∃ ι2 ω2 ρ2 S2, Rel G F ι2 ω2 ρ2 S2 σ2 H2 ∧ ExtS ι1 ω H1 ι2 ω2 H2 ∧ PostS G E F D ι2 ω2 H2 (loopS g fg fb (ds.drop (i + 1)) ρ2 S2), fun σ2 H2 q => ⟨ds.length - (i + 1), by omega, rfl, hlt, q⟩, fun x H'' y => ?_⟩
        obtain ⟨gr, d, ed, rv⟩ := wk.yld _ _ _ _ i x H'' pp r'.sto r'.bd gk hlt y
        rw [List.getElem?_eq_getElem hlt] at ed
        cases ed
        have r2 := r'.gr gr
        have x2 : ExtS ι' ω' H' ι' ω' H'' := (Ext.gr gr).s
        refine hg F ι' ω' ρ' S' σ' H'' x _ _ r2 rv ?_
        split at p'
        · rename_i ρ1 eg
          try rw [eg]
          intro σ1 rel1 _
          refine hb F _ ι' ω' ρ1 S' σ1 H'' rel1 ?_
          have p2 := PostS.ex p' x2
          cases eb : fb ρ1 S' with
          | nx ρ2 S2 =>
            rw [eb] at p2
            exact fun ι2 ω2 σ2 H2 z rel2 => ⟨ι2, ω2, ρ2, S2, rel2, (x'.trans x2).trans z, PostS.ex p2 z⟩
          | ct ρ2 S2 =>
            rw [eb] at p2
            exact fun ι2 ω2 σ2 H2 z rel2 => ⟨ι2, ω2, ρ2, S2, rel2, (x'.trans x2).trans z, PostS.ex p2 z⟩
          | bk ρ2 S2 => rw [eb] at p2; exact p2
          | rt d fl S2 => rw [eb] at p2; exact p2
          | xc c fs ρ2 S2 => rw [eb] at p2; exact p2
          | bad => rw [eb] at p2; exact p2
        · exact p'.elim
      · exact p'.elim
    · obtain rfl : i = ds.length := by omega
      rw [List.drop_length] at p'
      unfold loopS at p'
      split at p'
      · rename_i gk
        exact .inl ⟨wk.stop _ _ _ _ pp r'.sto r'.bd gk, p' ι' ω' σ' H' ExtS.refl r'⟩
      · exact p'.elim
def whileN (c : FE) (b : FS) : Nat → Ev → Sto → RSt
  | 0, _, _ => .bad
  | n + 1, ρ, S => eS (c ρ S) ρ fun d _ S1 => (match d with
    | .bl true => (match b ρ S1 with
      | .nx ρ2 S2 => whileN c b n ρ2 S2
      | .ct ρ2 S2 => whileN c b n ρ2 S2
      | .bk ρ2 S2 => .nx ρ2 S2
      | r => r)
    | .bl false => .nx ρ S1
    | _ => .bad)
open Classical in
def sWhile (c : FE) (b : FS) : FS := fun ρ S => if h : ∃ n, whileN c b n ρ S ≠ .bad then whileN c b (Classical.choose h) ρ S else .bad
theorem while_up {c : FE} {b : FS} : ∀ {n m : Nat} {ρ : Ev} {S : Sto}, n ≤ m → whileN c b n ρ S ≠ .bad → whileN c b m ρ S = whileN c b n ρ S
  | 0, _, _, _, _, h => absurd rfl h
  | n + 1, 0, _, _, hl, _ => by omega
  | n + 1, m + 1, ρ, S, hl, h => by
    unfold whileN at h ⊢
    cases ec : c ρ S with
    | ok d f S1 =>
      rw [ec] at h
      dsimp only [eS] at h ⊢
      cases d with
      | bl k =>
        cases k with
        | true =>
          dsimp only at h ⊢
          cases eb : b ρ S1 with
          | nx ρ2 S2 => rw [eb] at h; exact while_up (by omega) h
          | ct ρ2 S2 => rw [eb] at h; exact while_up (by omega) h
          | _ => rfl
        | false => rfl
      | _ => rfl
    | _ => rfl
theorem while_eq {c : FE} {b : FS} {ρ : Ev} {S : Sto} {r : RSt} (n : Nat) (h : whileN c b n ρ S = r) (hr : r ≠ .bad) : sWhile c b ρ S = r := by
  have hx : ∃ n, whileN c b n ρ S ≠ .bad := ⟨n, by rw [h]; exact hr⟩
  unfold sWhile
  rw [dif_pos hx]
  have h2 := Classical.choose_spec hx
  rcases Nat.le_total n (Classical.choose hx) with z | z
  · rw [while_up z (by rw [h]; exact hr), h]
  · rw [← h, while_up z h2]
theorem ss_while {tc : TT} {fc : FE} {tb : TS} {fb : FS} (hc : ST G E tc fc) (hb : SS G E tb fb) : SS G E (tWhile tc tb) (sWhile fc fb) := by
  intro F D ι ω ρ S σ H rel h
  unfold sWhile at h
  split at h
  · rename_i hx
    generalize Classical.choose hx = n at h
    refine ⟨fun m σ' H' => ∃ ι' ω' ρ' S', Rel G F ι' ω' ρ' S' σ' H' ∧ PostS G E F D ι' ω' H' (whileN fc fb m ρ' S'), ⟨n, ι, ω, ρ, S, rel, h⟩, ?_⟩
    rintro m σ' H' ⟨ι', ω', ρ', S', r', p'⟩
    cases m with
    | zero => exact p'.elim
    | succ m =>
      unfold whileN at p'
      refine hc.bindS r' p' (fun d f S1 hd => by cases d <;> first | rfl | exact absurd rfl (hd _)) fun k f S1 ι1 H1 e1 r1 p1 => ?_
      cases k with
      | true =>
        rw [if_pos rfl]
        refine ⟨fun σ2 H2 => ∃ ι2 ω2 ρ2 S2, Rel G F ι2 ω2 ρ2 S2 σ2 H2 ∧ PostS G E F D ι2 ω2 H2 (whileN fc fb m ρ2 S2), fun σ2 H2 q => ⟨m, by omega, q⟩, ?_⟩
        refine hb F _ ι1 ω' ρ' S1 σ' H1 r1 ?_
        dsimp only at p1
        cases eb : fb ρ' S1 with
        | nx ρ2 S2 =>
          rw [eb] at p1
          exact fun ι2 ω2 σ2 H2 z rel2 => ⟨ι2, ω2, ρ2, S2, rel2, PostS.ex p1 z⟩
        | ct ρ2 S2 =>
          rw [eb] at p1
          exact fun ι2 ω2 σ2 H2 z rel2 => ⟨ι2, ω2, ρ2, S2, rel2, PostS.ex p1 z⟩
        | bk ρ2 S2 => rw [eb] at p1; exact p1
        | rt d fl S2 => rw [eb] at p1; exact p1
        | xc c fs ρ2 S2 => rw [eb] at p1; exact p1
        | bad => rw [eb] at p1; exact p1
      | false =>
        rw [if_neg Bool.false_ne_true]
        exact p1 ι1 ω' σ' H1 ExtS.refl r1
  · exact h.elim
end
end
end Fx
namespace Fx
open PySem PySem.Spec PyProof.Rows L2 U
noncomputable section
section
variable {G : Gm} {E : WX} {F : Fr} {Dd : Ends} {ι ω ι1 ω1 : List Addr} {ρ : Ev} {S S1 : Sto} {σ : L2.St} {H H1 : Hp}
def wipeE (ρ : Ev) : List Nat → Ev
  | [] => ρ
  | v :: vs => (wipeE ρ vs).set v .no
theorem Rel.wipe (r : Rel G F ι ω ρ S σ H) : ∀ vs : List Nat, Rel G F ι ω (wipeE ρ vs) S (L2.wipe σ vs) H
  | [] => r
  | v :: vs => (r.wipe vs).drop v none
theorem wipe_idem (σ : L2.St) : ∀ vs : List Nat, L2.wipe (L2.wipe σ vs) vs = L2.wipe σ vs := by
  intro vs
  have key : ∀ us : List Nat, (∀ u ∈ us, u ∈ vs) → L2.wipe (L2.wipe σ us) vs = L2.wipe σ vs := by
    intro us
    induction us with
    | nil => intro _; rfl
    | cons u us ih =>
      intro h
      show L2.wipe ((L2.wipe σ us).set u none) vs = _
      rw [wipe_set (h u List.mem_cons_self), ih fun w hw => h w (List.mem_cons_of_mem _ hw)]
  exact key vs fun _ h => h
/-- one turn of a comprehension: what is held, what is in the store -/
abbrev StepC := D → List D → Sto → Option (List D × Sto)
open Classical in
def foldC (g : Gd) (step : StepC) : List D → List D → Sto → Option (List D × Sto)
  | [], acc, S => if gOk g S then some (acc, S) else none
  | d :: ds, acc, S => if gOk g S then (match step d acc S with
    | some (acc', S') => foldC g step ds acc' S'
    | none => none) else none
def step1 (set : FG) (tt te : FE) (ρ0 : Ev) : StepC := fun d acc S => match set d ρ0 S with
  | some ρ1 => (match tt ρ1 S with
    | .ok (.bl true) _ S1 => (match te ρ1 S1 with
      | .ok y f S2 => if (f.nop && decide (acc.length < lim)) = true then some (acc ++ [y], S2) else none
      | _ => none)
    | .ok (.bl false) _ S1 => some (acc, S1)
    | _ => none)
  | none => none
def step2 (set : FG) (tt : FE) (it1 : FI) (set1 : FG) (tt1 te : FE) (vs1 : List Nat) (ρ0 : Ev) : StepC := fun d acc S => match set d ρ0 S with
  | some ρ1 => (match tt ρ1 S with
    | .ok (.bl true) _ S1 => (match it1 ρ1 S1 with
      | .ok ds1 g1 S2 => foldC g1 (step1 set1 tt1 te (wipeE ρ1 vs1)) ds1 acc S2
      | _ => none)
    | .ok (.bl false) _ S1 => some (acc, S1)
    | _ => none)
  | none => none
def fLcG (it : FI) (step : Ev → StepC) (vs : List Nat) : FE := fun ρ S => match it ρ S with
  | .ok ds g S1 => (match foldC g (step (wipeE ρ vs)) ds [] S1 with
    | some (acc, S2) => .ok (.lst acc) .fs S2
    | none => .bad)
  | .xc c fs S1 => .xc c fs S1
  | .bad => .bad
def fLc (it : FI) (set : FG) (tt te : FE) (vs : List Nat) : FE := fLcG it (step1 set tt te) vs
def fLc2 (it : FI) (set : FG) (tt : FE) (it1 : FI) (set1 : FG) (tt1 te : FE) (vs vs1 : List Nat) : FE := fLcG it (step2 set tt it1 set1 tt1 te vs1) vs
/-- what holds at a turn: the new list at Dn, behind what stood at (ι1, H1) -/
structure Ci (G : Gm) (F : Fr) (ω : List Addr) (Dn : Addr) (ι1 : List Addr) (H1 : Hp) (ρ0 : Ev) (σ0 : L2.St) (ι' : List Addr) (acc : List D) (S : Sto) (H : Hp) : Prop where
  rel : Rel G F ι' (Dn :: ω) ρ0 S σ0 H
  ext : Ext ι1 H1 ι' H
  at' : ∃ xs, H Dn = some (.lst xs) ∧ RAll G.K G.ca ι' (F.B0 ++ (Dn :: ω)) H xs acc
  fre : ∀ (i : Nat) (s : Sl), ρ0[i]? = some s → isOwn s = true → σ0[i]? ≠ some (some (.ref Dn))
theorem Rel.mutD (r : Rel G F ι ω ρ S σ H) {a : Addr} {o : HO} (ha : a ∈ ω) (hn : ∀ (i : Nat) (s : Sl), ρ[i]? = some s → isOwn s = true → σ[i]? ≠ some (some (.ref a))) : Rel G F ι ω ρ S σ (upd H a o) := by
  have pp : Per ι (F.B0 ++ ω) H ι (F.B0 ++ ω) (L2.upd H a o) := Per.upd (.inr (List.mem_append_right _ ha))
  refine ⟨r.pre, fun b u h n => ?_, fun b h => ?_, r.fri, r.frw, r.b0, r.nd, r.dj, fun b hb => ?_, r.sto.per (fun b hb => upd_ne fun z => r.dj a ha (by rw [← z]; exact hb)) pp, r.len, fun j t o' h1 h2 => ?_, r.own⟩
  · rw [upd_ne (fun z => by subst z; rw [r.frw _ ha] at h; cases h)]; exact r.old b u h n
  · unfold L2.upd; split
    · simp
    · exact r.dom b h
  · unfold L2.upd; split
    · simp
    · exact r.dw b hb
  · have q := r.env j t o' h1 h2
    have ne : isOwn t = true → ∀ b, o' = some (.ref b) → b ≠ a := fun ht b hb z => by
      subst z; subst hb
      exact hn j t h1 ht h2
    cases q with
    | no => exact .no
    | val h => exact .val (h.per pp)
    | own q1 q2 q3 => exact .own q1 (by rw [upd_ne (ne rfl _ rfl)]; exact q2) (q3.per pp)
    | oob q1 q0 q2 q3 => exact .oob q1 q0 (by rw [upd_ne (ne rfl _ rfl)]; exact q2) (q3.per pp)
    | exn q1 q2 q3 q4 q5 =>
      obtain ⟨g1, g2, g3⟩ := q4.per q2 q3 pp
      exact .exn q1 g2 g3 g1 (q5.per pp)
/-- a walk with what is held -/
theorem fold_ok {K : PySem.W.Frag} {ca : Nat → Addr} {B1 : List Addr} {J : It} {ds : List D} {g : Gd} (wk : Wk K ca ι1 B1 H1 J ds g) {step : StepC} {accF : List D} {SF : Sto} {Qd : Hp → Prop} (Body : V → Hp → (Hp → Prop) → Prop)
    (Pv : List D → Sto → Hp → Prop) (hP : ∀ acc S H, Pv acc S H → ∃ ι2 B2, Per ι1 B1 H1 ι2 B2 H ∧ RS K ca ι2 B2 H S ∧ ∀ a ∈ B2, H a ≠ none)
    (hs : ∀ (i : Nat) d acc acc' S S' H x H', Pv acc S H → gOk g S → i < ds.length → ds[i]? = some d → J.yld i H x H' → step d acc S = some (acc', S') → ∀ Nx : Hp → Prop, (∀ H2, Pv acc' S' H2 → Nx H2) → Body x H' Nx)
    {acc0 : List D} {S0 : Sto} {H0 : Hp} (h0 : Pv acc0 S0 H0) (hf : foldC g step ds acc0 S0 = some (accF, SF)) (hd : ∀ H, Pv accF SF H → Qd H) :
    ∃ W : Nat → Nat → Hp → Prop, (∃ m, W 0 m H0) ∧ ∀ i m H, W i m H → (J.stop i H ∧ Qd H) ∨ (J.go i H ∧ ∃ Nx : Hp → Prop, (∀ H', Nx H' → ∃ m', m' < m ∧ W (i + 1) m' H') ∧ ∀ x H', J.yld i H x H' → Body x H' Nx) := by
  refine ⟨fun i m H => m = ds.length - i ∧ i ≤ ds.length ∧ ∃ acc S, Pv acc S H ∧ foldC g step (ds.drop i) acc S = some (accF, SF), ⟨ds.length, by simp, Nat.zero_le _, acc0, S0, h0, by rw [List.drop_zero]; exact hf⟩, ?_⟩
  rintro i m H ⟨rfl, hle, acc, S, pv, hf⟩
  obtain ⟨ι2, B2, pp, rs, hb⟩ := hP acc S H pv
  rcases Nat.lt_or_ge i ds.length with hlt | hge
  · rw [List.drop_eq_getElem_cons hlt] at hf
    unfold foldC at hf
    split at hf
    · rename_i gk
      split at hf
      · rename_i acc' S' es
        refine .inr ⟨wk.go _ _ _ _ i pp rs hb gk hlt, fun H' => ∃ acc S, Pv acc S H' ∧ foldC g step (ds.drop (i + 1)) acc S = some (accF, SF), fun H' q => ⟨ds.length - (i + 1), by omega, rfl, hlt, q⟩, fun x H' y => ?_⟩
        exact hs i _ acc acc' S S' H x H' pv gk hlt (List.getElem?_eq_getElem hlt) y es _ fun H2 p2 => ⟨acc', S', p2, hf⟩
      · cases hf
    · cases hf
  · obtain rfl : i = ds.length := by omega
    rw [List.drop_length] at hf
    unfold foldC at hf
    split at hf
    · rename_i gk
      cases hf
      exact .inl ⟨wk.stop _ _ _ _ pp rs hb gk, hd H pv⟩
    · cases hf
theorem Ci.lat {Dn : Addr} {ρ0 : Ev} {σ0 : L2.St} {ι' : List Addr} {acc : List D} {ι0 : List Addr} {H0 : Hp} (c : Ci G F ω Dn ι0 H0 ρ0 σ0 ι' acc S H) (hD : H0 Dn = none) : Per ι0 (F.B0 ++ ω) H0 ι' (F.B0 ++ (Dn :: ω)) H := by
  refine ⟨fun a o h1 h2 h3 => ?_, fun _ _ h => ix_pre c.ext.pre h⟩
  rw [List.mem_append, not_or] at h3
  refine ⟨c.ext.keep a o h1 h2, c.ext.off h1 h2, fun z => ?_⟩
  rcases List.mem_append.mp z with z | z
  · exact h3.1 z
  · rcases List.mem_cons.mp z with z | z
    · subst z; rw [hD] at h1; cases h1
    · exact h3.2 z
/-- the new list gets an item -/
theorem Ci.push {Dn : Addr} {ρ0 : Ev} {σ0 : L2.St} {ι' ι2 : List Addr} {acc : List D} {ι0 : List Addr} {H0 H2 : Hp} {S2 : Sto} {y : V} {d : D} (c : Ci G F ω Dn ι0 H0 ρ0 σ0 ι' acc S H) (hD : H0 Dn = none) (x : Ext ι' H ι2 H2) (nd : ι2.Nodup) (rs : RS G.K G.ca ι2 (F.B0 ++ (Dn :: ω)) H2 S2)
    (rv : RV G.K G.ca ι2 (F.B0 ++ (Dn :: ω)) H2 y d) {xs : List V} (hx : H2 Dn = some (.lst xs)) (ra : RAll G.K G.ca ι2 (F.B0 ++ (Dn :: ω)) H2 xs acc) : Ci G F ω Dn ι0 H0 ρ0 σ0 ι2 (acc ++ [d]) S2 (upd H2 Dn (.lst (xs ++ [y]))) := by
  have hm : Dn ∈ Dn :: ω := List.mem_cons_self
  have r2 := c.rel.ex x nd rs
  have e2 := c.ext.trans x
  refine ⟨r2.mutD hm c.fre, ⟨e2.pre, fun a o h n => ?_, e2.new, fun a h => ?_⟩, ⟨_, upd_same, (ra.app (.cons rv .nil)).per (Per.upd (.inr (List.mem_append_right _ hm)))⟩, c.fre⟩
  · rw [upd_ne (fun z => by subst z; rw [hD] at h; cases h)]; exact e2.keep a o h n
  · unfold L2.upd; split
    · simp
    · exact e2.dom a h
theorem Ci.same {Dn : Addr} {ρ0 : Ev} {σ0 : L2.St} {ι' ι2 : List Addr} {acc : List D} {ι0 : List Addr} {H0 H2 : Hp} {S2 : Sto} (c : Ci G F ω Dn ι0 H0 ρ0 σ0 ι' acc S H) (x : Ext ι' H ι2 H2) (nd : ι2.Nodup) (rs : RS G.K G.ca ι2 (F.B0 ++ (Dn :: ω)) H2 S2) : Ci G F ω Dn ι0 H0 ρ0 σ0 ι2 acc S2 H2 := by
  obtain ⟨xs, h1, h2⟩ := c.at'
  have hD : Dn ∉ ι' := c.rel.dj Dn List.mem_cons_self
  exact ⟨c.rel.ex x nd rs, c.ext.trans x, ⟨xs, x.keep _ _ h1 hD, h2.ex x⟩, c.fre⟩
abbrev NoE : WX := fun _ _ _ _ => False
/-- one turn of a comprehension with one clause -/
theorem step1_ok {tg : TG} {fg : FG} {js : List Nat} {tt : TT} {ft : FE} {te : TE} {fe : FE} {vs : List Nat} (hg : SG G tg js fg) (ht : ST G NoE tt ft) (he : SE G NoE te fe) (hj : ∀ j ∈ js, j ∈ vs) {Dn : Addr} {ρ0 : Ev} {σ0 : L2.St} {ι' : List Addr} {acc acc' : List D} {ι0 : List Addr} {H0 H' : Hp} {S S' : Sto} {x : V} {d : D}
    (c : Ci G F ω Dn ι0 H0 ρ0 σ0 ι' acc S H) (hD : H0 Dn = none) (gr : ∀ a o, H a = some o → H' a = some o) (rv : RV G.K G.ca ι' (F.B0 ++ (Dn :: ω)) H' x d) (es : step1 fg ft fe ρ0 d acc S = some (acc', S')) (hw : L2.wipe σ0 vs = σ0)
    {Nx : Hp → Prop} (hn : ∀ ι2 H2, Ci G F ω Dn ι0 H0 ρ0 σ0 ι2 acc' S' H2 → Nx H2) :
    tg x σ0 H' fun σ2 H2 => L2.wipe σ2 vs = σ0 ∧ tt σ2 H2 fun b H3 => if b = true then te σ2 H3 fun y H4 => ∃ acc, H4 Dn = some (.lst acc) ∧ acc.length < sizeLine ∧ Nx (upd H4 Dn (.lst (acc ++ [y]))) else Nx H3 := by
  have c1 := c.same (Ext.gr gr) c.rel.nd (c.rel.sto.gr gr)
  refine hg F ι' (Dn :: ω) ρ0 S σ0 H' x d _ c1.rel rv ?_
  unfold step1 at es
  split at es
  · rename_i ρ1 eg
    try rw [eg]
    intro σ1 rel1 w1
    refine ⟨(w1.wp vs hj).trans hw, ?_⟩
    refine ht F ι' (Dn :: ω) ρ1 S σ1 H' _ rel1 ?_
    split at es
    · rename_i f1 S1 e1
      rw [e1]
      intro ι3 v3 H3 x3 r3 rf3
      rw [rf3.rt.sBl]
      dsimp only [kB]
      rw [if_pos rfl]
      refine he F ι3 (Dn :: ω) ρ1 S1 σ1 H3 _ r3 ?_
      split at es
      · rename_i y f2 S2 e2
        rw [e2]
        intro ι4 v4 H4 x4 r4 rf4
        split at es
        · rename_i hc
          rw [Bool.and_eq_true] at hc
          cases es
          obtain ⟨xs, g1, g2⟩ := c1.at'
          have hDi : Dn ∉ ι' := c1.rel.dj Dn List.mem_cons_self
          have x34 := x3.trans x4
          have k1 : H4 Dn = some (.lst xs) := x34.keep _ _ g1 hDi
          refine ⟨xs, k1, by rw [g2.len]; exact lim_lt (of_decide_eq_true hc.2), hn ι4 _ (c1.push hD x34 r4.nd r4.sto (rf4.rv (by intro z; subst z; exact absurd hc.1 (by decide))) k1 (g2.ex x34))⟩
        · cases es
      · cases es
    · rename_i f1 S1 e1
      cases es
      rw [e1]
      intro ι3 v3 H3 x3 r3 rf3
      rw [rf3.rt.sBl]
      dsimp only [kB]
      rw [if_neg Bool.false_ne_true]
      exact hn ι3 H3 (c1.same x3 r3.nd r3.sto)
    · cases es
  · cases es
/-- the start: the new list -/
theorem Ci.start {Dn : Addr} {vs : List Nat} (r1 : Rel G F ι1 ω ρ S σ H1) (hD : H1 Dn = none) : Ci G F ω Dn ι1 H1 (wipeE ρ vs) (L2.wipe σ vs) ι1 [] S (upd H1 Dn (.lst [])) := by
  have rw' := r1.wipe vs
  have noa : ∀ (i : Nat) (s : Sl), (wipeE ρ vs)[i]? = some s → isOwn s = true → (L2.wipe σ vs)[i]? ≠ some (some (.ref Dn)) := fun i s h1 h2 h3 => by
    cases rw'.env i s _ h1 h3 with
    | no => cases h2
    | val => cases h2
    | own q1 q2 q3 => rw [hD] at q2; cases q2
    | oob q1 q0 q2 q3 => rw [hD] at q2; cases q2
    | exn => cases h2
  have pp : Per ι1 (F.B0 ++ ω) H1 ι1 (F.B0 ++ (Dn :: ω)) (L2.upd H1 Dn (.lst [])) := ⟨fun a o h1 h2 h3 => by
    rw [List.mem_append, not_or] at h3
    refine ⟨by rw [upd_ne (ne_of_none h1 hD)]; exact h1, h2, fun z => ?_⟩
    rcases List.mem_append.mp z with z | z
    · exact h3.1 z
    · rcases List.mem_cons.mp z with z | z
      · exact ne_of_none h1 hD z
      · exact h3.2 z, fun _ _ h => h⟩
  have r2 := rw'.new (o := .lst []) hD
  refine ⟨⟨r2.pre, r2.old, r2.dom, r2.fri, fun b hb => ?_, r2.b0, r2.nd, fun b hb => ?_, fun b hb => ?_, r1.sto.per (fun a ha => upd_ne fun z => r1.sto.here a ha (by rw [z]; exact hD)) pp, r2.len, fun j s o h1 h2 => ?_, r2.own⟩, Ext.new1 hD, ⟨[], upd_same, .nil⟩, noa⟩
  · rcases List.mem_cons.mp hb with z | z
    · subst z; exact none_of r1.dom hD
    · exact r2.frw b z
  · rcases List.mem_cons.mp hb with z | z
    · subst z; exact r1.offi hD
    · exact r2.dj b z
  · rcases List.mem_cons.mp hb with z | z
    · subst z; exact nn upd_same
    · exact r2.dw b z
  · have q := rw'.env j s o h1 h2
    cases q with
    | no => exact .no
    | val h => exact .val (h.per pp)
    | own q1 q2 q3 => exact .own (List.mem_cons_of_mem _ q1) (by rw [upd_ne (ne_of_none q2 hD)]; exact q2) (q3.per pp)
    | oob q1 q0 q2 q3 => exact .oob (List.mem_cons_of_mem _ q1) q0 (by rw [upd_ne (ne_of_none q2 hD)]; exact q2) (q3.per pp)
    | exn q1 q2 q3 q4 q5 =>
      obtain ⟨g1, g2, g3⟩ := q4.per q2 q3 pp
      exact .exn q1 g2 g3 g1 (q5.per pp)
/-- the end: the list is handed on -/
theorem Ci.fin {Dn : Addr} {ρ0 : Ev} {σ0 : L2.St} {ι' : List Addr} {acc : List D} {Q : VK} {S2 : Sto} {Hs : Hp} {ιs : List Addr} (rel : Rel G F ιs ω ρ S σ Hs) (e1 : Ext ιs Hs ι1 H1) (hD : H1 Dn = none) (c : Ci G F ω Dn ι1 H1 ρ0 σ0 ι' acc S2 H) (h : PostE G E F ιs ω ρ σ Hs Q (.ok (.lst acc) .fs S2)) : Q (.ref Dn) H := by
  obtain ⟨xs, h1, h2⟩ := c.at'
  have x := e1.trans c.ext
  have hm : Dn ∈ Dn :: ω := List.mem_cons_self
  have sub : ∀ b ∈ F.B0 ++ ω, b ∈ F.B0 ++ (Dn :: ω) := fun b hb => by
    rcases List.mem_append.mp hb with z | z
    · exact List.mem_append_left _ z
    · exact List.mem_append_right _ (List.mem_cons_of_mem _ z)
  have sub1 : ∀ b ∈ Dn :: (F.B0 ++ ω), b ∈ F.B0 ++ (Dn :: ω) := fun b hb => by
    rcases List.mem_cons.mp hb with z | z
    · subst z; exact List.mem_append_right _ hm
    · exact sub b z
  refine h ι' (.ref Dn) H x (rel.ex x c.rel.nd (c.rel.sto.less sub)) (.l (c.rel.dj Dn hm) (fun z => ?_) (none_of e1.dom hD) h1 (h2.per (Per.less sub1)) (c.rel.sto.less sub1))
  exact absurd (none_of e1.dom hD) (rel.bd Dn z)
theorem se_lcG {wi : TI} {fi : FI} {step : Ev → StepC} {vs : List Nat} {t : TE} {Body : L2.St → Addr → V → Hp → (Hp → Prop) → Prop} (hi : SI G E wi fi)
    (ht : ∀ σ H Q, (wi σ H fun J H1 => ∀ D, H1 D = none → ∃ W : Nat → Nat → Hp → Prop, (∃ m, W 0 m (upd H1 D (.lst []))) ∧ ∀ i m H, W i m H → (J.stop i H ∧ Q (.ref D) H) ∨ (J.go i H ∧ ∃ Nx : Hp → Prop, (∀ H', Nx H' → ∃ m', m' < m ∧ W (i + 1) m' H') ∧ ∀ x H', J.yld i H x H' → Body σ D x H' Nx)) → t σ H Q)
    (hs : ∀ {F : Fr} {ω : List Addr} {Dn : Addr} {ρ : Ev} {σ : L2.St} {ι' : List Addr} {acc acc' : List D} {ι0 : List Addr} {H0 H H' : Hp} {S S' : Sto} {x : V} {d : D}, Ci G F ω Dn ι0 H0 (wipeE ρ vs) (L2.wipe σ vs) ι' acc S H → H0 Dn = none → (∀ a o, H a = some o → H' a = some o) → RV G.K G.ca ι' (F.B0 ++ (Dn :: ω)) H' x d →
      step (wipeE ρ vs) d acc S = some (acc', S') → ∀ (Nx : Hp → Prop), (∀ ι2 H2, Ci G F ω Dn ι0 H0 (wipeE ρ vs) (L2.wipe σ vs) ι2 acc' S' H2 → Nx H2) → Body σ Dn x H' Nx) : SE G E t (fLcG fi step vs) := by
  intro F ι ω ρ S σ H Q rel h
  refine ht σ H Q (hi F ι ω ρ S σ H _ rel ?_)
  unfold fLcG at h
  cases e : fi ρ S with
  | xc c fs S1 => rw [e] at h; exact h
  | bad => rw [e] at h; exact h
  | ok ds g S1 =>
    rw [e] at h
    intro ι1 J H1 e1 r1 wk Dn hD
    dsimp only at h
    split at h
    · rename_i accF SF hf
      refine fold_ok wk (fun x H' Nx => Body σ Dn x H' Nx) (fun acc S H => ∃ ι', Ci G F ω Dn ι1 H1 (wipeE ρ vs) (L2.wipe σ vs) ι' acc S H) (fun acc S H ⟨ι', c⟩ => ⟨ι', F.B0 ++ (Dn :: ω), c.lat hD, c.rel.sto, c.rel.bd⟩) ?_ ⟨ι1, Ci.start r1 hD⟩ hf (fun H ⟨ι', c⟩ => c.fin rel e1 hD h)
      rintro i d acc acc' S2 S3 H2 x H' ⟨ι', c⟩ gk hlt ed y es Nx hN
      obtain ⟨gr, d', ed', rv⟩ := wk.yld _ _ _ _ i x H' (c.lat hD) c.rel.sto c.rel.bd gk hlt y
      rw [ed] at ed'; cases ed'
      exact hs c hD gr rv es _ fun ι2 H2 c2 => hN H2 ⟨ι2, c2⟩
    · exact h.elim
theorem se_lc {wi : TI} {fi : FI} {tg : TG} {fg : FG} {js : List Nat} {tt : TT} {ft : FE} {te : TE} {fe : FE} {vs : List Nat} (hi : SI G E wi fi) (hg : SG G tg js fg) (ht : ST G NoE tt ft) (he : SE G NoE te fe) (hj : ∀ j ∈ js, j ∈ vs := by decide) :
    SE G E (tLc wi tg tt te vs) (fLc fi fg ft fe vs) :=
  se_lcG (Body := fun σ D x H' Nx => tg x (L2.wipe σ vs) H' fun σ2 H2 => L2.wipe σ2 vs = L2.wipe σ vs ∧ tt σ2 H2 fun b H3 => if b = true then te σ2 H3 fun y H4 => ∃ acc, H4 D = some (.lst acc) ∧ acc.length < sizeLine ∧ Nx (upd H4 D (.lst (acc ++ [y]))) else Nx H3)
    hi (fun σ H Q h => h) fun c hD gr rv es _ hn => step1_ok hg ht he hj c hD gr rv es (wipe_idem _ _) hn
theorem wipeE_own {s : Sl} {i : Nat} : ∀ {vs : List Nat}, (wipeE ρ vs)[i]? = some s → isOwn s = true → ρ[i]? = some s
  | [], h, _ => h
  | v :: vs, h, h2 => by
    have h : ((wipeE ρ vs).set v .no)[i]? = some s := h
    by_cases e : v = i
    · subst e
      have hi : v < (wipeE ρ vs).length := by
        have := (List.getElem?_eq_some_iff.mp h).1
        rwa [List.length_set] at this
      rw [List.getElem?_set_self hi] at h; cases h; cases h2
    · rw [List.getElem?_set_ne e] at h
      exact wipeE_own h h2
theorem Ci.lat2 {Dn : Addr} {ρ0 : Ev} {σ0 : L2.St} {ι' : List Addr} {acc : List D} {ι4 : List Addr} {H4 : Hp} (c : Ci G F ω Dn ι4 (del H4 Dn) ρ0 σ0 ι' acc S H) : Per ι4 (F.B0 ++ (Dn :: ω)) H4 ι' (F.B0 ++ (Dn :: ω)) H := by
  have p := c.lat del_same
  refine ⟨fun a o h1 h2 h3 => ?_, p.ix⟩
  rw [List.mem_append, List.mem_cons, not_or, not_or] at h3
  exact p.at' a o (by rw [del_ne h3.2.1]; exact h1) h2 (by rw [List.mem_append, not_or]; exact ⟨h3.1, h3.2.2⟩)
theorem Ci.back {Dn : Addr} {ρ0 ρi : Ev} {σ0 σi : L2.St} {ι4 ι2 : List Addr} {acc acc' : List D} {ι0 : List Addr} {H0 H4 : Hp} {S' : Sto} (c : Ci G F ω Dn ι0 H0 ρ0 σ0 ι4 acc S H4) (ci : Ci G F ω Dn ι4 (del H4 Dn) ρi σi ι2 acc' S' H) (hD : H0 Dn = none) : Ci G F ω Dn ι0 H0 ρ0 σ0 ι2 acc' S' H := by
  obtain ⟨xs, h1, h2⟩ := ci.at'
  have hm : Dn ∈ Dn :: ω := List.mem_cons_self
  have r := c.rel.mutD (o := .lst xs) hm c.fre
  have x : Ext ι4 (L2.upd H4 Dn (.lst xs)) ι2 H := by
    refine ⟨ci.ext.pre, fun a o h n => ?_, fun a h n => ?_, fun a h => ?_⟩
    · by_cases z : a = Dn
      · subst z; rw [upd_same] at h; cases h; exact h1
      · rw [upd_ne z] at h
        exact ci.ext.keep a o (by rw [del_ne z]; exact h) n
    · have z : a ≠ Dn := fun z => by subst z; exact ci.rel.dj _ hm h
      have := ci.ext.new a h n
      rw [del_ne z] at this
      rw [upd_ne z]; exact this
    · by_cases z : a = Dn
      · subst z; exact nn h1
      · rw [upd_ne z] at h
        exact ci.ext.dom a (by rw [del_ne z]; exact h)
  have ext2 : Ext ι0 H0 ι2 H := by
    have e4 := c.ext
    refine ⟨e4.pre.trans ci.ext.pre, fun a o h n => ?_, fun a h n => ?_, fun a h => ?_⟩
    · have z : a ≠ Dn := fun z => by subst z; rw [hD] at h; cases h
      exact ci.ext.keep a o (by rw [del_ne z]; exact e4.keep a o h n) (e4.off h n)
    · by_cases hx : a ∈ ι4
      · exact e4.new a hx n
      · have q := ci.ext.new a h hx
        have z : a ≠ Dn := fun z => by subst z; exact ci.rel.dj _ hm h
        rw [del_ne z] at q
        exact none_of e4.dom q
    · have z : a ≠ Dn := fun z => by subst z; exact h hD
      exact ci.ext.dom a (by rw [del_ne z]; exact e4.dom a h)
  exact ⟨r.ex x ci.rel.nd ci.rel.sto, ext2, ⟨xs, h1, h2⟩, c.fre⟩
theorem se_lc2 {wi wi1 : TI} {fi fi1 : FI} {tg tg1 : TG} {fg fg1 : FG} {js js1 : List Nat} {tt tt1 : TT} {ft ft1 : FE} {te : TE} {fe : FE} {vs vs1 : List Nat} (hi : SI G E wi fi) (hg : SG G tg js fg) (ht : ST G NoE tt ft) (hi1 : SI G NoE wi1 fi1) (hg1 : SG G tg1 js1 fg1) (ht1 : ST G NoE tt1 ft1) (he : SE G NoE te fe)
    (hj : ∀ j ∈ js, j ∈ vs := by decide) (hj1 : ∀ j ∈ js1, j ∈ vs1 := by decide) (hv : ∀ j ∈ vs1, j ∈ vs := by decide) : SE G E (tLc2 wi tg tt wi1 tg1 tt1 te vs vs1) (fLc2 fi fg ft fi1 fg1 ft1 fe vs vs1) := by
  refine se_lcG (Body := fun σ D x H' Nx => tg x (L2.wipe σ vs) H' fun σ2 H2 => L2.wipe σ2 vs = L2.wipe σ vs ∧ tt σ2 H2 fun b H3 =>
    if b = true then wi1 σ2 H3 fun J1 H4 => ∃ W1 : Nat → Nat → Hp → Prop, (∃ m, W1 0 m H4) ∧ ∀ j k H, W1 j k H →
      (J1.stop j H ∧ Nx H) ∨ (J1.go j H ∧ ∃ Nx1 : Hp → Prop, (∀ H', Nx1 H' → ∃ k', k' < k ∧ W1 (j + 1) k' H') ∧ ∀ x H', J1.yld j H x H' → tg1 x (L2.wipe σ2 vs1) H' fun σ3 H5 => L2.wipe σ3 vs1 = L2.wipe σ2 vs1 ∧ tt1 σ3 H5 fun b H6 =>
        if b = true then te σ3 H6 fun y H7 => ∃ acc, H7 D = some (.lst acc) ∧ acc.length < sizeLine ∧ Nx1 (upd H7 D (.lst (acc ++ [y]))) else Nx1 H6)
    else Nx H3) hi (fun σ H Q h => h) ?_
  intro F ω Dn ρ σ ι' acc acc' ι0 H0 H H' S S' x d c hD gr rv es Nx hn
  have c1 := c.same (Ext.gr gr) c.rel.nd (c.rel.sto.gr gr)
  refine hg F ι' (Dn :: ω) (wipeE ρ vs) S (L2.wipe σ vs) H' x d _ c1.rel rv ?_
  unfold step2 at es
  split at es
  · rename_i ρ1 eg
    try rw [eg]
    intro σ1 rel1 w1
    refine ⟨(w1.wp vs hj).trans (wipe_idem _ _), ?_⟩
    refine ht F ι' (Dn :: ω) ρ1 S σ1 H' _ rel1 ?_
    split at es
    · rename_i f1 S1 e1
      rw [e1]
      intro ι3 v3 H3 x3 r3 rf3
      rw [rf3.rt.sBl]
      dsimp only [kB]
      rw [if_pos rfl]
      refine hi1 F ι3 (Dn :: ω) ρ1 S1 σ1 H3 _ r3 ?_
      split at es
      · rename_i ds1 g1 S2 e2
        rw [e2]
        intro ι4 J1 H4 x4 r4 wk1
        have c4 := c1.same (x3.trans x4) r4.nd r4.sto
        obtain ⟨xs, k1, k2⟩ := c4.at'
        have fre : ∀ (i : Nat) (s : Sl), (wipeE ρ1 vs1)[i]? = some s → isOwn s = true → (L2.wipe σ1 vs1)[i]? ≠ some (some (.ref Dn)) := fun i s q1 q2 q3 => by
          obtain ⟨z1, z2⟩ := w1.ow i s (wipeE_own q1 q2) q2
          exact c1.fre i s z1 q2 (z2.symm.trans (wipe_some q3).1)
        have ci : Ci G F ω Dn ι4 (del H4 Dn) (wipeE ρ1 vs1) (L2.wipe σ1 vs1) ι4 acc S2 H4 := ⟨r4.wipe vs1, ⟨List.prefix_rfl, fun a o h n => by
          by_cases z : a = Dn
          · subst z; rw [del_same] at h; cases h
          · rw [del_ne z] at h; exact h, fun _ h n => absurd h n, fun a h => by
          by_cases z : a = Dn
          · subst z; exact nn k1
          · rw [del_ne z] at h; exact h⟩, ⟨xs, k1, k2⟩, fre⟩
        have hDd : del H4 Dn Dn = none := del_same
        refine fold_ok wk1 (fun x H' Nx1 => tg1 x (L2.wipe σ1 vs1) H' fun σ3 H5 => L2.wipe σ3 vs1 = L2.wipe σ1 vs1 ∧ tt1 σ3 H5 fun b H6 => if b = true then te σ3 H6 fun y H7 => ∃ acc, H7 Dn = some (.lst acc) ∧ acc.length < sizeLine ∧ Nx1 (upd H7 Dn (.lst (acc ++ [y]))) else Nx1 H6)
          (fun acc S H => ∃ ι', Ci G F ω Dn ι4 (del H4 Dn) (wipeE ρ1 vs1) (L2.wipe σ1 vs1) ι' acc S H) ?_ ?_ ⟨ι4, ci⟩ es (fun H ⟨ι', c'⟩ => hn ι' H (c4.back c' hD))
        · rintro acc S H ⟨ι', c'⟩
          exact ⟨ι', F.B0 ++ (Dn :: ω), c'.lat2, c'.rel.sto, c'.rel.bd⟩
        · rintro i d acc acc' S2 S3 H2 x H' ⟨ι', c'⟩ gk hlt ed y es' Nx hN
          obtain ⟨gr, d', ed', rv⟩ := wk1.yld _ _ _ _ i x H' c'.lat2 c'.rel.sto c'.rel.bd gk hlt y
          rw [ed] at ed'; cases ed'
          exact step1_ok hg1 ht1 he hj1 c' hDd gr rv es' (wipe_idem _ _) fun ι2 H2 c2 => hN H2 ⟨ι2, c2⟩
      · cases es
    · rename_i f1 S1 e1
      cases es
      rw [e1]
      intro ι3 v3 H3 x3 r3 rf3
      rw [rf3.rt.sBl]
      dsimp only [kB]
      rw [if_neg Bool.false_ne_true]
      exact hn ι3 H3 (c1.same x3 r3.nd r3.sto)
    · cases es
  · cases es
end
end
end Fx
namespace Fx
open PySem PySem.Spec PyProof.Rows L2 U
noncomputable section
def noxF (f : FF) : FF := fun ds S => match f ds S with
  | .xc _ _ _ => .bad
  | r => r
def NoX (f : FF) : Prop := ∀ ds S c fs S', f ds S ≠ .xc c fs S'
theorem nox_no (f : FF) : NoX (noxF f) := fun ds S c fs S' e => by
  unfold noxF at e
  split at e
  · cases e
  · rename_i hn; exact hn _ _ _ e
section
variable {K : PySem.W.Frag} {ca : Nat → Addr} {H : Hp} {Q : VK} {E : XK} {vs : List V}
theorem nox_len {N P : List Str} {b : FS} (h : SpF K ca (noxF (runF N.length P.length b)) vs H Q E) : vs.length = P.length := by
  obtain ⟨ι, B, S, ds, h1, h2, h3, h4, h5⟩ := h
  unfold noxF runF at h5
  by_cases e : ds.length = P.length
  · rw [h4.len]; exact e
  · simp only [if_neg e] at h5; exact h5.elim
theorem nox_ok {N P : List Str} {t : TS} {b : FS} (hb : SS ⟨K, ca, none, none⟩ NoE t b) (h : SpF K ca (noxF (runF N.length P.length b)) vs H Q E) : t { nx := fun _ H' => Q .non H', rt := Q } (L2.start N vs) H := by
  obtain ⟨ι, B, S, ds, h1, h2, h3, h4, h5⟩ := h
  refine run_ok (E := E0) (b := b) (P := P) hb ⟨ι, B, S, ds, h1, h2, h3, h4, ?_⟩
  unfold noxF at h5
  cases e : runF N.length P.length b ds S with
  | ok d f S' => rw [e] at h5; exact h5
  | xc c fs S' => rw [e] at h5; exact h5.elim
  | bad => rw [e] at h5; exact h5
end
section
variable {G : Gm} {E : WX}
theorem spf_nox {f : FF} {F : Fr} {ι ω : List Addr} {ρ : Ev} {S : Sto} {σ : L2.St} {H : Hp} {Q : VK} {vs : List V} {ds : List D} {E' : XK} (hf : NoX f) (rel : Rel G F ι ω ρ S σ H) (ra : RAll G.K G.ca ι (F.B0 ++ ω) H vs ds) (h : PostE G E F ι ω ρ σ H Q (f ds S)) : SpF G.K G.ca f vs H Q E' := by
  refine ⟨ι, F.B0 ++ ω, S, ds, rel.nd, fun b hb => ⟨rel.bd b hb, rel.bi b hb⟩, rel.sto, ra, ?_⟩
  cases e : f ds S with
  | ok d fl S' =>
    rw [e] at h
    exact fun ι' v H' x nd rs rf => h ι' v H' x (rel.ex x nd rs) rf
  | xc c fs S' => exact absurd e (hf _ _ _ _ _)
  | bad => rw [e] at h; exact h
theorem se_callN {f : FF} {dvs : List V} {dd : List D} {E' : XK} {ta : TA} {fa : FA} (hf : NoX f) (ha : SA G E ta fa) (hd : dvs = dd.map vOf := by rfl) (hs : dd.all scalD = true := by rfl) : SE G E (tCall (SpF G.K G.ca f) dvs E' ta) (fCall f dd fa) := by
  intro F ι ω ρ S σ H Q rel h
  refine sa_then ha rel h fun ds t S1 ι1 vs H1 e1 r1 ra h1 => ?_
  split at h1
  · rename_i ht
    subst ht hd
    exact spf_nox hf r1 (RAll.app ra (dflt_all hs)) h1
  · exact h1.elim
/-- f(a, k=b) -/
def fCallK (n m : Nat) (f : FF) (gD : List D → List D → List D) (fa fk : FA) : FE := fun ρ S => match fa ρ S with
  | .ok ds true S1 => (match fk ρ S1 with
    | .ok es true S2 => if ds.length = n ∧ es.length = m then f (gD ds es) S2 else .bad
    | .xc c fs S2 => .xc c fs S2
    | _ => .bad)
  | .xc c fs S1 => .xc c fs S1
  | _ => .bad
end
/-- the law at the script -/
def intsD (ns : List Int) : List D := ns.map .int
theorem rall_ints {K : PySem.W.Frag} {ca : Nat → Addr} {ι B : List Addr} {H : Hp} : ∀ ns : List Int, RAll K ca ι B H (ns.map V.int) (intsD ns)
  | [] => .nil
  | n :: ns => .cons (.int n) (rall_ints ns)
theorem law_sp {K : PySem.W.Frag} {ca : Nat → Addr} {f : FF} {H : Hp} {a : Addr} {ns : List Int} (hO : Only H) (hS : SqL K H a (ns.map V.int)) (h : ∃ fl S', f [.fro true (intsD ns)] [] = .ok (.bl true) fl S') : SpF K ca f [.ref a] H (fun v _ => v = .bl true) fun _ _ _ => False := by
  obtain ⟨fl, S', e⟩ := h
  refine ⟨[], [], [], [.fro true (intsD ns)], List.nodup_nil, fun _ h => (nomatch h), ⟨rfl, fun k a c h => (nomatch h)⟩, .cons (.fro ?_ (rall_ints ns)) .nil, ?_⟩
  · rcases script_of hO hS with ⟨o, h⟩ | h
    · exact .inl ⟨by simp, by simp, o, h⟩
    · exact .inr (.inr h)
  · rw [e]
    exact fun ι' v H' _ _ _ rf => rf.rt.sBl
end
end Fx
namespace Fx
open PySem PySem.Spec PyProof.Rows L2 U
theorem gok_none (S : Sto) : gOk none S := trivial
theorem fold_flat {g : Gd} {step : StepC} {f : D → List D} {S : Sto} (hg : gOk g S) : ∀ {ds acc : List D}, (∀ d ∈ ds, ∀ acc : List D, acc.length < lim → step d acc S = some (acc ++ f d, S)) → (∀ d ∈ ds, (f d).length ≤ 1) → acc.length + ds.length ≤ lim →
    foldC g step ds acc S = some (acc ++ ds.flatMap f, S)
  | [], acc, _, _, _ => by unfold foldC; rw [if_pos hg]; simp
  | d :: ds, acc, h, h1, hl => by
    rw [List.length_cons] at hl
    unfold foldC
    rw [if_pos hg, h d List.mem_cons_self acc (by omega)]
    have := h1 d List.mem_cons_self
    dsimp only
    rw [fold_flat hg (fun e he => h e (List.mem_cons_of_mem _ he)) (fun e he => h1 e (List.mem_cons_of_mem _ he)) (by rw [List.length_append]; omega), List.append_assoc, List.flatMap_cons]
theorem lc_flat {it : FI} {set : FG} {tt te : FE} {vs : List Nat} {ρ : Ev} {S S1 : Sto} {ds : List D} {g : Gd} {c : D → Bool} {f : D → D} (hi : it ρ S = .ok ds g S1) (hg : gOk g S1) (hl : ds.length ≤ lim)
    (h : ∀ d ∈ ds, ∃ ρ1 f1, set d (wipeE ρ vs) S1 = some ρ1 ∧ tt ρ1 S1 = .ok (.bl (c d)) f1 S1 ∧ (c d = true → ∃ f2, te ρ1 S1 = .ok (f d) f2 S1 ∧ f2.nop = true)) :
    fLc it set tt te vs ρ S = .ok (.lst ((ds.filter c).map f)) .fs S1 := by
  have key : ds.flatMap (fun d => if c d = true then [f d] else []) = (ds.filter c).map f := by
    clear h hl hi
    induction ds with
    | nil => rfl
    | cons d ds ih =>
      rw [List.flatMap_cons, ih, List.filter_cons]
      cases c d <;> simp
  unfold fLc fLcG
  rw [hi]
  dsimp only
  rw [fold_flat (f := fun d => if c d = true then [f d] else []) hg (fun d hd acc ha => ?_) (fun d hd => by split <;> simp) (by simpa using hl), key, List.nil_append]
  obtain ⟨ρ1, f1, e1, e2, e3⟩ := h d hd
  unfold step1
  rw [e1]
  dsimp only
  rw [e2]
  cases hc : c d with
  | true =>
    obtain ⟨f2, e4, e5⟩ := e3 hc
    dsimp only
    rw [e4]
    dsimp only
    rw [e5, decide_eq_true ha]
    rfl
  | false => dsimp only; rw [if_neg Bool.false_ne_true, List.append_nil]
theorem lc_map {it : FI} {set : FG} {te : FE} {vs : List Nat} {ρ : Ev} {S S1 : Sto} {ds : List D} {g : Gd} {f : D → D} (hi : it ρ S = .ok ds g S1) (hg : gOk g S1) (hl : ds.length ≤ lim)
    (h : ∀ d ∈ ds, ∃ ρ1 f2, set d (wipeE ρ vs) S1 = some ρ1 ∧ te ρ1 S1 = .ok (f d) f2 S1 ∧ f2.nop = true) :
    fLc it set (fC (.bl true)) te vs ρ S = .ok (.lst (ds.map f)) .fs S1 := by
  have := lc_flat (tt := fC (.bl true)) (te := te) (c := fun _ => true) (f := f) hi hg hl fun d hd => by
    obtain ⟨ρ1, f2, e1, e2, e3⟩ := h d hd
    exact ⟨ρ1, .tr, e1, rfl, fun _ => ⟨f2, e2, e3⟩⟩
  rw [this, List.filter_eq_self.mpr (fun _ _ => rfl)]
/-- a for without breaks: the state behind each item -/
theorem loop_step {g : Gd} {set : FG} {body : FS} {d : D} {ds : List D} {ρ ρ1 ρ2 : Ev} {S S2 : Sto} (hg : gOk g S) (h1 : set d ρ S = some ρ1) (h2 : body ρ1 S = .nx ρ2 S2) : loopS g set body (d :: ds) ρ S = loopS g set body ds ρ2 S2 := by
  conv => lhs; unfold loopS
  rw [if_pos hg, h1]
  dsimp only
  rw [h2]
theorem loop_cont {g : Gd} {set : FG} {body : FS} {d : D} {ds : List D} {ρ ρ1 ρ2 : Ev} {S S2 : Sto} (hg : gOk g S) (h1 : set d ρ S = some ρ1) (h2 : body ρ1 S = .ct ρ2 S2) : loopS g set body (d :: ds) ρ S = loopS g set body ds ρ2 S2 := by
  conv => lhs; unfold loopS
  rw [if_pos hg, h1]
  dsimp only
  rw [h2]
theorem loop_end {g : Gd} {set : FG} {body : FS} {ρ : Ev} {S : Sto} (hg : gOk g S) : loopS g set body [] ρ S = .nx ρ S := by
  unfold loopS; rw [if_pos hg]
/-- a for whose state keeps a form: I i ρ S ahead of item i -/
theorem loop_inv {g : Gd} {set : FG} {body : FS} (I : Nat → Ev → Sto → Prop) {ds : List D} (hg : ∀ i ρ S, I i ρ S → gOk g S)
    (hs : ∀ i d ρ S, ds[i]? = some d → I i ρ S → ∃ ρ1 ρ2 S2, set d ρ S = some ρ1 ∧ (body ρ1 S = .nx ρ2 S2 ∨ body ρ1 S = .ct ρ2 S2) ∧ I (i + 1) ρ2 S2) {ρ : Ev} {S : Sto} (h0 : I 0 ρ S) : ∃ ρ' S', loopS g set body ds ρ S = .nx ρ' S' ∧ I ds.length ρ' S' := by
  have key : ∀ (n i : Nat) (ρ : Ev) (S : Sto), n = ds.length - i → i ≤ ds.length → I i ρ S → ∃ ρ' S', loopS g set body (ds.drop i) ρ S = .nx ρ' S' ∧ I ds.length ρ' S' := by
    intro n
    induction n with
    | zero =>
      intro i ρ S hn hi h
      obtain rfl : i = ds.length := by omega
      rw [List.drop_length, loop_end (hg _ _ _ h)]
      exact ⟨ρ, S, rfl, h⟩
    | succ n ih =>
      intro i ρ S hn hi h
      have hlt : i < ds.length := by omega
      rw [List.drop_eq_getElem_cons hlt]
      obtain ⟨ρ1, ρ2, S2, e1, e2, e3⟩ := hs i ds[i] ρ S (List.getElem?_eq_getElem hlt) h
      rcases e2 with e2 | e2
      · rw [loop_step (hg _ _ _ h) e1 e2]; exact ih (i + 1) ρ2 S2 (by omega) hlt e3
      · rw [loop_cont (hg _ _ _ h) e1 e2]; exact ih (i + 1) ρ2 S2 (by omega) hlt e3
  have := key ds.length 0 ρ S (by omega) (Nat.zero_le _) h0
  rwa [List.drop_zero] at this
section
mutual
theorem tree_mono {c c' : Nat → Option PyData} (h : ∀ k p, c k = some p → c' k = some p) : ∀ (d : D) {p : PyData}, tree c d = some p → tree c' d = some p
  | .non, _, e => by simpa only [tree] using e
  | .bl _, _, e => by simpa only [tree] using e
  | .int _, _, e => by simpa only [tree] using e
  | .str _, _, e => by simpa only [tree] using e
  | .lst ds, _, e => by
    simp only [tree, Option.map_eq_some_iff] at e ⊢
    obtain ⟨ps, e1, e2⟩ := e
    exact ⟨ps, treeAll_mono h ds e1, e2⟩
  | .tup ds, _, e => by
    simp only [tree, Option.map_eq_some_iff] at e ⊢
    obtain ⟨ps, e1, e2⟩ := e
    exact ⟨ps, treeAll_mono h ds e1, e2⟩
  | .fro _ _, _, e => by simp only [tree] at e; cases e
  | .dct [], _, e => by simpa only [tree] using e
  | .dct (_ :: _), _, e => by simp only [tree] at e; cases e
  | .cel k, _, e => by simp only [tree] at e ⊢; exact h k _ e
  | .obj _ _, _, e => by simp only [tree] at e; cases e
theorem treeAll_mono {c c' : Nat → Option PyData} (h : ∀ k p, c k = some p → c' k = some p) : ∀ (ds : List D) {ps : List PyData}, treeAll c ds = some ps → treeAll c' ds = some ps
  | [], _, e => by simpa only [treeAll] using e
  | d :: ds, _, e => by
    simp only [treeAll] at e ⊢
    split at e
    · rename_i p ps e1 e2
      rw [tree_mono h d e1, treeAll_mono h ds e2]; exact e
    · cases e
end
theorem cells_mono {S : Sto} : ∀ (n : Nat) (k : Nat) (p : PyData), cells n S k = some p → cells (n + 1) S k = some p
  | 0, _, _, e => by unfold cells at e; cases e
  | n + 1, k, p, e => by
    unfold cells at e ⊢
    split at e
    · rename_i ds es
      rw [Option.map_eq_some_iff] at e ⊢
      obtain ⟨ps, e1, e2⟩ := e
      exact ⟨ps, treeAll_mono (cells_mono n) ds e1, e2⟩
    · cases e
/-- d is the data p in the store -/
def Py (S : Sto) (d : D) (p : PyData) : Prop := toP S d = some p
def PyAll (S : Sto) (ds : List D) (ps : List PyData) : Prop := treeAll (cells 4 S) ds = some ps
theorem PyAll.len {S : Sto} : ∀ {ds : List D} {ps : List PyData}, PyAll S ds ps → ds.length = ps.length
  | [], _, h => by unfold PyAll at h; simp only [treeAll] at h; cases h; rfl
  | d :: ds, _, h => by
    unfold PyAll at h
    simp only [treeAll] at h
    split at h
    · rename_i p ps e1 e2
      cases h
      rw [List.length_cons, List.length_cons, PyAll.len e2]
    · cases h
theorem PyAll.at {S : Sto} : ∀ {ds : List D} {ps : List PyData} {i : Nat} {d : D}, PyAll S ds ps → ds[i]? = some d → ∃ p, ps[i]? = some p ∧ Py S d p
  | [], _, i, _, h, e => by simp at e
  | d :: ds, _, i, _, h, e => by
    unfold PyAll at h
    simp only [treeAll] at h
    split at h
    · rename_i p ps e1 e2
      cases h
      cases i with
      | zero => simp at e; subst e; exact ⟨p, rfl, e1⟩
      | succ i => obtain ⟨q, h1, h2⟩ := PyAll.at (ds := ds) e2 (by simpa using e); exact ⟨q, by simpa using h1, h2⟩
    · cases h
theorem PyAll.mem {S : Sto} {ds : List D} {ps : List PyData} {d : D} (h : PyAll S ds ps) (hd : d ∈ ds) : ∃ p ∈ ps, Py S d p := by
  obtain ⟨i, hi, rfl⟩ := List.getElem_of_mem hd
  obtain ⟨p, h1, h2⟩ := h.at (List.getElem?_eq_getElem hi)
  exact ⟨p, List.mem_of_getElem? h1, h2⟩
theorem PyAll.cons {S : Sto} {d : D} {ds : List D} {p : PyData} {ps : List PyData} (h1 : Py S d p) (h2 : PyAll S ds ps) : PyAll S (d :: ds) (p :: ps) := by
  unfold PyAll; unfold Py toP at h1; unfold PyAll at h2
  simp only [treeAll, h1, h2]
theorem PyAll.nil {S : Sto} : PyAll S [] [] := by unfold PyAll; simp only [treeAll]
theorem PyAll.app {S : Sto} : ∀ {ds es : List D} {ps qs : List PyData}, PyAll S ds ps → PyAll S es qs → PyAll S (ds ++ es) (ps ++ qs)
  | [], _, _, _, h, g => by unfold PyAll at h; simp only [treeAll] at h; cases h; exact g
  | d :: ds, _, _, _, h, g => by
    unfold PyAll at h
    simp only [treeAll] at h
    split at h
    · rename_i p ps e1 e2
      cases h
      exact PyAll.cons e1 (PyAll.app e2 g)
    · cases h
theorem py_lst {S : Sto} {ds : List D} {ps : List PyData} (h : PyAll S ds ps) : Py S (.lst ds) (.list ps) := by unfold Py toP; unfold PyAll at h; simp only [tree, h, Option.map_some]
theorem py_tup {S : Sto} {ds : List D} {ps : List PyData} (h : PyAll S ds ps) : Py S (.tup ds) (.tuple ps) := by unfold Py toP; unfold PyAll at h; simp only [tree, h, Option.map_some]
theorem py_str (S : Sto) (z : Str) : Py S (.str z) (.str z) := by unfold Py toP; simp only [tree]
/-- what a value can be, by its data -/
theorem py_inv {S : Sto} {d : D} {p : PyData} (h : Py S d p) : (p = .none ∧ d = .non) ∨ (∃ b, p = .bool b ∧ d = .bl b) ∨ (∃ i, p = .int i ∧ d = .int i) ∨ (∃ z, p = .str z ∧ d = .str z) ∨
    (∃ ps ds, p = .list ps ∧ PyAll S ds ps ∧ (d = .lst ds ∨ ∃ k, d = .cel k ∧ S[k]? = some (.lst ds))) ∨ (∃ ps ds, p = .tuple ps ∧ PyAll S ds ps ∧ d = .tup ds) ∨ (p = .dict [] ∧ d = .dct []) := by
  unfold Py toP at h
  cases d with
  | non => simp only [tree] at h; cases h; exact .inl ⟨rfl, rfl⟩
  | bl b => simp only [tree] at h; cases h; exact .inr (.inl ⟨b, rfl, rfl⟩)
  | int i => simp only [tree] at h; cases h; exact .inr (.inr (.inl ⟨i, rfl, rfl⟩))
  | str z => simp only [tree] at h; cases h; exact .inr (.inr (.inr (.inl ⟨z, rfl, rfl⟩)))
  | lst ds =>
    simp only [tree, Option.map_eq_some_iff] at h
    obtain ⟨ps, h1, h2⟩ := h
    exact .inr (.inr (.inr (.inr (.inl ⟨ps, ds, h2.symm, h1, .inl rfl⟩))))
  | tup ds =>
    simp only [tree, Option.map_eq_some_iff] at h
    obtain ⟨ps, h1, h2⟩ := h
    exact .inr (.inr (.inr (.inr (.inr (.inl ⟨ps, ds, h2.symm, h1, rfl⟩)))))
  | fro l ds => simp only [tree] at h; cases h
  | dct es =>
    cases es with
    | nil => simp only [tree] at h; cases h; exact .inr (.inr (.inr (.inr (.inr (.inr ⟨rfl, rfl⟩)))))
    | cons => simp only [tree] at h; cases h
  | cel k =>
    simp only [tree] at h
    unfold cells at h
    split at h
    · rename_i ds es
      rw [Option.map_eq_some_iff] at h
      obtain ⟨ps, h1, h2⟩ := h
      exact .inr (.inr (.inr (.inr (.inl ⟨ps, ds, h2.symm, treeAll_mono (cells_mono 3) ds h1, .inr ⟨k, rfl, es⟩⟩))))
    · cases h
  | obj => simp only [tree] at h; cases h
  | cls => simp only [tree] at h; cases h
theorem py_ty {S : Sto} {d : D} {p : PyData} (h : Py S d p) : tyDf S d = some (tyD p) := by
  rcases py_inv h with ⟨rfl, rfl⟩ | ⟨b, rfl, rfl⟩ | ⟨b, rfl, rfl⟩ | ⟨b, rfl, rfl⟩ | ⟨ps, ds, rfl, h1, h2⟩ | ⟨ps, ds, rfl, h1, rfl⟩ | ⟨rfl, rfl⟩
  · rfl
  · rfl
  · rfl
  · rfl
  · rcases h2 with rfl | ⟨k, rfl, e⟩
    · rfl
    · unfold tyDf; dsimp only; rw [e]; rfl
  · rfl
  · rfl
/-- a list or tuple by its data -/
theorem py_sq {S : Sto} {d : D} {p : PyData} {ps : List PyData} (h : Py S d p) (e : p = .list ps ∨ p = .tuple ps) : ∃ ds g, sqOf S d = some ds ∧ itemsD S d = some (ds, g) ∧ gOk g S ∧ PyAll S ds ps := by
  rcases py_inv h with ⟨rfl, rfl⟩ | ⟨b, rfl, rfl⟩ | ⟨b, rfl, rfl⟩ | ⟨b, rfl, rfl⟩ | ⟨qs, ds, rfl, h1, h2⟩ | ⟨qs, ds, rfl, h1, rfl⟩ | ⟨rfl, rfl⟩
  · rcases e with e | e <;> cases e
  · rcases e with e | e <;> cases e
  · rcases e with e | e <;> cases e
  · rcases e with e | e <;> cases e
  · rcases e with e | e <;> cases e
    rcases h2 with rfl | ⟨k, rfl, e⟩
    · exact ⟨ds, none, rfl, rfl, trivial, h1⟩
    · refine ⟨ds, some (k, ds), ?_, ?_, e, h1⟩
      · unfold sqOf; dsimp only; rw [e]
      · unfold itemsD; dsimp only; rw [e]
  · rcases e with e | e <;> cases e
    exact ⟨ds, none, rfl, rfl, trivial, h1⟩
  · rcases e with e | e <;> cases e
end
end Fx
namespace Fx
open PySem PySem.Spec PyProof.Rows L2 U
noncomputable section
section
variable {d e : D} {f fl : Fl} {S S1 S2 : Sto} {ρ ρ1 : Ev} {c : Nat} {fs : List (Str × D)}
theorem bE_ok {k : D → Fl → Sto → RE} : bE (.ok d f S) k = k d f S := rfl
theorem bE_xc {k : D → Fl → Sto → RE} : bE (.xc c fs S) k = .xc c fs S := rfl
theorem bS_nx {k : Ev → Sto → RSt} : bS (.nx ρ S) k = k ρ S := rfl
theorem bS_rt {k : Ev → Sto → RSt} : bS (.rt d f S) k = .rt d f S := rfl
theorem bS_bk {k : Ev → Sto → RSt} : bS (.bk ρ S) k = .bk ρ S := rfl
theorem bS_ct {k : Ev → Sto → RSt} : bS (.ct ρ S) k = .ct ρ S := rfl
theorem bS_xc {k : Ev → Sto → RSt} : bS (.xc c fs ρ S) k = .xc c fs ρ S := rfl
theorem eS_ok {k : D → Fl → Sto → RSt} : eS (.ok d f S) ρ k = k d f S := rfl
theorem eS_xc {k : D → Fl → Sto → RSt} : eS (.xc c fs S) ρ k = .xc c fs ρ S := rfl
theorem v_seq {a b : FS} : sSeq a b ρ S = bS (a ρ S) b := rfl
theorem v_next : sNext ρ S = .nx ρ S := rfl
theorem v_break : sBreak ρ S = .bk ρ S := rfl
theorem v_cont : sCont ρ S = .ct ρ S := rfl
theorem v_c : fC d ρ S = .ok d .tr S := rfl
def kVar (s : Option Sl) (S : Sto) : RE := match s with
  | some (.val d) => .ok d .tr S
  | some (.own ds) => .ok (.lst ds) .pk S
  | some (.oob c fs) => .ok (.obj c fs) .pk S
  | _ => .bad
theorem v_var {i : Nat} : fVar i ρ S = kVar ρ[i]? S := by
  unfold fVar kVar; rfl
theorem kVar_val : kVar (some (.val d)) S = .ok d .tr S := rfl
theorem kVar_own {ds : List D} : kVar (some (.own ds)) S = .ok (.lst ds) .pk S := rfl
theorem kVar_oob : kVar (some (.oob c fs)) S = .ok (.obj c fs) .pk S := rfl
def kOp2 (g : D → D → Sto → RE) (d e : D) (_ : Fl) (S : Sto) : RE := g d e S
def kOp1 (g : D → D → Sto → RE) (eb : FE) (ρ : Ev) (d : D) (_ : Fl) (S : Sto) : RE := bE (eb ρ S) (kOp2 g d)
theorem v_op {g : D → D → Sto → RE} {ea eb : FE} : fOp g ea eb ρ S = bE (ea ρ S) (kOp1 g eb ρ) := rfl
theorem v_op1 {g : D → D → Sto → RE} {eb : FE} : kOp1 g eb ρ d f S = bE (eb ρ S) (kOp2 g d) := rfl
theorem v_op2 {g : D → D → Sto → RE} : kOp2 g d e f S = g d e S := rfl
def kUn (g : D → Sto → RE) (d : D) (_ : Fl) (S : Sto) : RE := g d S
theorem v_un {g : D → Sto → RE} {ea : FE} : fUn g ea ρ S = bE (ea ρ S) (kUn g) := rfl
theorem v_un1 {g : D → Sto → RE} : kUn g d f S = g d S := rfl
def kNot (d : D) (_ : Fl) (S : Sto) : RE := match d with
  | .bl b => .ok (.bl (!b)) .tr S
  | _ => .bad
theorem v_not {ea : FE} : fNot ea ρ S = bE (ea ρ S) kNot := rfl
theorem v_not1 {b : Bool} : kNot (.bl b) f S = .ok (.bl (!b)) .tr S := rfl
def kAnd (eb : FE) (ρ : Ev) (d : D) (_ : Fl) (S : Sto) : RE := match d with
  | .bl true => eb ρ S
  | .bl false => .ok (.bl false) .tr S
  | _ => .bad
theorem v_and {ea eb : FE} : fAnd ea eb ρ S = bE (ea ρ S) (kAnd eb ρ) := rfl
theorem v_andT {eb : FE} : kAnd eb ρ (.bl true) f S = eb ρ S := rfl
theorem v_andF {eb : FE} : kAnd eb ρ (.bl false) f S = .ok (.bl false) .tr S := rfl
def kOr (eb : FE) (ρ : Ev) (d : D) (_ : Fl) (S : Sto) : RE := match d with
  | .bl true => .ok (.bl true) .tr S
  | .bl false => eb ρ S
  | _ => .bad
theorem v_or {ea eb : FE} : fOr ea eb ρ S = bE (ea ρ S) (kOr eb ρ) := rfl
theorem v_orT {eb : FE} : kOr eb ρ (.bl true) f S = .ok (.bl true) .tr S := rfl
theorem v_orF {eb : FE} : kOr eb ρ (.bl false) f S = eb ρ S := rfl
def kIf (ea eb : FE) (ρ : Ev) (d : D) (_ : Fl) (S : Sto) : RE := match d with
  | .bl true => ea ρ S
  | .bl false => eb ρ S
  | _ => .bad
theorem v_if {ec ea eb : FE} : fIf ec ea eb ρ S = bE (ec ρ S) (kIf ea eb ρ) := rfl
theorem v_ifT {ea eb : FE} : kIf ea eb ρ (.bl true) f S = ea ρ S := rfl
theorem v_ifF {ea eb : FE} : kIf ea eb ρ (.bl false) f S = eb ρ S := rfl
def kCh2 (g' : D → D → Sto → RE) (e w : D) (_ : Fl) (S : Sto) : RE := g' e w S
def kCh1 (g' : D → D → Sto → RE) (ec : FE) (ρ : Ev) (e z : D) (_ : Fl) (S : Sto) : RE := match z with
  | .bl true => bE (ec ρ S) (kCh2 g' e)
  | .bl false => .ok (.bl false) .tr S
  | _ => .bad
def kCh0 (g g' : D → D → Sto → RE) (ec : FE) (ρ : Ev) (d e : D) (_ : Fl) (S : Sto) : RE := bE (g d e S) (kCh1 g' ec ρ e)
def kCh (g g' : D → D → Sto → RE) (eb ec : FE) (ρ : Ev) (d : D) (_ : Fl) (S : Sto) : RE := bE (eb ρ S) (kCh0 g g' ec ρ d)
theorem v_chain {g g' : D → D → Sto → RE} {ea eb ec : FE} : fChain g g' ea eb ec ρ S = bE (ea ρ S) (kCh g g' eb ec ρ) := rfl
theorem v_ch {g g' : D → D → Sto → RE} {eb ec : FE} : kCh g g' eb ec ρ d f S = bE (eb ρ S) (kCh0 g g' ec ρ d) := rfl
theorem v_ch0 {g g' : D → D → Sto → RE} {ec : FE} : kCh0 g g' ec ρ d e f S = bE (g d e S) (kCh1 g' ec ρ e) := rfl
theorem v_ch1T {g' : D → D → Sto → RE} {ec : FE} : kCh1 g' ec ρ e (.bl true) f S = bE (ec ρ S) (kCh2 g' e) := rfl
theorem v_ch1F {g' : D → D → Sto → RE} {ec : FE} : kCh1 g' ec ρ e (.bl false) f S = .ok (.bl false) .tr S := rfl
theorem v_ch2 {g' : D → D → Sto → RE} {w : D} : kCh2 g' e w f S = g' e w S := rfl
def rIsi (p : Ty → Bool) (t : Option Ty) (S : Sto) : RE := match t with
  | some t => .ok (.bl (p t)) .tr S
  | none => .bad
def kIsi (p : Ty → Bool) (d : D) (_ : Fl) (S : Sto) : RE := rIsi p (tyDf S d) S
theorem v_isi {t : Ty} {fe : FE} : fIsi t fe ρ S = bE (fe ρ S) (kIsi (fun x => isT x t)) := rfl
theorem v_isiT {cs : List Ty} {fe : FE} : fIsiT cs fe ρ S = bE (fe ρ S) (kIsi (fun x => cs.any (isT x))) := rfl
theorem v_isi1 {p : Ty → Bool} : kIsi p d f S = rIsi p (tyDf S d) S := rfl
theorem v_isi2 {p : Ty → Bool} {t : Ty} : rIsi p (some t) S = .ok (.bl (p t)) .tr S := rfl
theorem ty_non : tyDf S .non = some .non := rfl
theorem ty_bl {b : Bool} : tyDf S (.bl b) = some .bl := rfl
theorem ty_int {i : Int} : tyDf S (.int i) = some .int := rfl
theorem ty_str {z : Str} : tyDf S (.str z) = some .str := rfl
theorem ty_lst {ds : List D} : tyDf S (.lst ds) = some .lst := rfl
theorem ty_tup {ds : List D} : tyDf S (.tup ds) = some .tup := rfl
theorem ty_dct {ds : List (Key × D)} : tyDf S (.dct ds) = some .dct := rfl
theorem tyd_non : tyD .none = .non := rfl
theorem tyd_bl {b : Bool} : tyD (.bool b) = .bl := rfl
theorem tyd_int {i : Int} : tyD (.int i) = .int := rfl
theorem tyd_str {z : Str} : tyD (.str z) = .str := rfl
theorem tyd_lst {ps : List PyData} : tyD (.list ps) = .lst := rfl
theorem tyd_tup {ps : List PyData} : tyD (.tuple ps) = .tup := rfl
theorem tyd_dct {ps : List (PyData × PyData)} : tyD (.dict ps) = .dct := rfl
def bA (r : RA) (k : List D → Bool → Sto → RE) : RE := match r with
  | .ok ds t S1 => k ds t S1
  | .xc c fs S1 => .xc c fs S1
  | .bad => .bad
theorem v_cb {g : List D → Bool → Sto → RE} {fa : FA} : fCB g fa ρ S = bA (fa ρ S) g := rfl
theorem bA_ok {ds : List D} {t : Bool} {k : List D → Bool → Sto → RE} : bA (.ok ds t S) k = k ds t S := rfl
theorem bA_xc {k : List D → Bool → Sto → RE} : bA (.xc c fs S) k = .xc c fs S := rfl
def kCons2 (d : D) (f : Fl) (r : RA) : RA := match r with
  | .ok ds t S2 => .ok (d :: ds) (f.nop && t) S2
  | .xc c fs S2 => .xc c fs S2
  | .bad => .bad
def kCons1 (fr : FA) (ρ : Ev) (r : RE) : RA := match r with
  | .ok d f S1 => kCons2 d f (fr ρ S1)
  | .xc c fs S1 => .xc c fs S1
  | .bad => .bad
theorem v_nil : fNil ρ S = .ok [] true S := rfl
theorem v_cons {fa : FE} {fr : FA} : fCons fa fr ρ S = kCons1 fr ρ (fa ρ S) := by
  unfold fCons kCons1 kCons2
  rfl
theorem v_cons1 {fr : FA} : kCons1 fr ρ (.ok d f S) = kCons2 d f (fr ρ S) := rfl
theorem v_cons1x {fr : FA} : kCons1 fr ρ (.xc c fs S) = .xc c fs S := rfl
theorem v_cons2 {ds : List D} {t : Bool} : kCons2 d f (.ok ds t S) = .ok (d :: ds) (f.nop && t) S := rfl
theorem v_cons2x : kCons2 d f (.xc c fs S) = .xc c fs S := rfl
theorem nop_tr : Fl.nop .tr = true := rfl
theorem nop_fs : Fl.nop .fs = true := rfl
theorem nop_pk : Fl.nop .pk = false := rfl
theorem v_lst {fa : FA} : fLst fa ρ S = bA (fa ρ S) dLst := rfl
theorem v_tup {fa : FA} : fTup fa ρ S = bA (fa ρ S) dTup := rfl
theorem d_lst {ds : List D} (h : ds.length ≤ lim) : dLst ds true S = .ok (.lst ds) .fs S := by unfold dLst; simp [h]
theorem d_tup {ds : List D} (h : ds.length ≤ lim) : dTup ds true S = .ok (.tup ds) .tr S := by unfold dTup; simp [h]
theorem v_dnew : fDNew ρ S = .ok (.dct []) .tr S := rfl
def kCall (g : FF) (dd ds : List D) (t : Bool) (S : Sto) : RE := if t = true then g (ds ++ dd) S else .bad
theorem v_call {g : FF} {dd : List D} {fa : FA} : fCall g dd fa ρ S = bA (fa ρ S) (kCall g dd) := rfl
theorem v_call1 {g : FF} {dd ds : List D} : kCall g dd ds true S = g (ds ++ dd) S := rfl
def kM1b (g : Str → D → Sto → RE) (a : Str) (e : D) (_ : Fl) (S : Sto) : RE := g a e S
def kM1 (g : Str → D → Sto → RE) (fe : FE) (ρ : Ev) (d : D) (_ : Fl) (S : Sto) : RE := match d with
  | .str a => bE (fe ρ S) (kM1b g a)
  | _ => .bad
theorem v_m1 {g : Str → D → Sto → RE} {fo fe : FE} : fM1 g fo fe ρ S = bE (fo ρ S) (kM1 g fe ρ) := rfl
theorem v_m1a {g : Str → D → Sto → RE} {fe : FE} {a : Str} : kM1 g fe ρ (.str a) f S = bE (fe ρ S) (kM1b g a) := rfl
theorem v_m1b {g : Str → D → Sto → RE} {a : Str} : kM1b g a e f S = g a e S := rfl
def kPart (r : RE) : RO := match r with
  | .ok (.int i) _ S1 => .ok (some i) S1
  | .ok _ _ _ => .bad
  | .xc c fs S1 => .xc c fs S1
  | .bad => .bad
theorem v_part {fe : FE} : fPart fe ρ S = kPart (fe ρ S) := rfl
theorem v_part1 {i : Int} : kPart (.ok (.int i) f S) = .ok (some i) S := rfl
theorem v_nopart : fNoPart ρ S = .ok none S := rfl
def kSl2 (d : D) (l u : Option Int) (S : Sto) : RE := dSl d l u S
def kSl1 (d : D) (hi : FO) (ρ : Ev) (l : Option Int) (S : Sto) : RE := bO (hi ρ S) (kSl2 d l)
def kSl (lo hi : FO) (ρ : Ev) (d : D) (_ : Fl) (S : Sto) : RE := bO (lo ρ S) (kSl1 d hi ρ)
theorem v_sl {fe : FE} {lo hi : FO} : fSl fe lo hi ρ S = bE (fe ρ S) (kSl lo hi ρ) := rfl
theorem v_sl0 {lo hi : FO} : kSl lo hi ρ d f S = bO (lo ρ S) (kSl1 d hi ρ) := rfl
theorem v_sl1 {hi : FO} {l : Option Int} : kSl1 d hi ρ l S = bO (hi ρ S) (kSl2 d l) := rfl
theorem v_sl2 {l u : Option Int} : kSl2 d l u S = dSl d l u S := rfl
theorem bO_ok {o : Option Int} {k : Option Int → Sto → RE} : bO (.ok o S) k = k o S := rfl
def kRev (d : D) (_ : Fl) (S1 : Sto) : RE := match d with
  | .str z => if z.length ≤ lim then .ok (.str (revS z)) .tr S1 else .bad
  | d => (match lsOf S1 d with
    | some ds => .ok (.lst ds.reverse) .fs S1
    | none => .bad)
theorem v_rev {fe : FE} : fRev fe ρ S = bE (fe ρ S) kRev := rfl
def kExpr (ρ : Ev) (_ : D) (_ : Fl) (S : Sto) : RSt := .nx ρ S
theorem v_expr {fe : FE} : sExpr fe ρ S = eS (fe ρ S) ρ (kExpr ρ) := rfl
theorem v_expr1 : kExpr ρ d f S = .nx ρ S := rfl
def kIfS (fa fb : FS) (ρ : Ev) (d : D) (_ : Fl) (S : Sto) : RSt := match d with
  | .bl true => fa ρ S
  | .bl false => fb ρ S
  | _ => .bad
theorem v_ifs {fc : FE} {fa fb : FS} : sIf fc fa fb ρ S = eS (fc ρ S) ρ (kIfS fa fb ρ) := rfl
theorem v_ifsT {fa fb : FS} : kIfS fa fb ρ (.bl true) f S = fa ρ S := rfl
theorem v_ifsF {fa fb : FS} : kIfS fa fb ρ (.bl false) f S = fb ρ S := rfl
def kRet (d : D) (f : Fl) (S : Sto) : RSt := if f.nop = true then .rt d f S else .bad
theorem v_ret {fe : FE} : sRet fe ρ S = eS (fe ρ S) ρ kRet := rfl
theorem v_retT : kRet d .tr S = .rt d .tr S := rfl
theorem v_retS : kRet d .fs S = .rt d .fs S := rfl
theorem v_retN : sRetN ρ S = .rt .non .tr S := rfl
def kRetV (s : Option Sl) (S : Sto) : RSt := match s with
  | some (.val d) => .rt d .tr S
  | some (.own ds) => .rt (.lst ds) .fs S
  | _ => .bad
theorem v_retV {i : Nat} : sRetV i ρ S = kRetV ρ[i]? S := by unfold sRetV kRetV; rfl
theorem v_retV1 : kRetV (some (.val d)) S = .rt d .tr S := rfl
theorem v_retV2 {ds : List D} : kRetV (some (.own ds)) S = .rt (.lst ds) .fs S := rfl
def kAsg2 (r : Option Ev) (S : Sto) : RSt := match r with
  | some ρ' => .nx ρ' S
  | none => .bad
def kAsg (g : FG) (ρ : Ev) (d : D) (f : Fl) (S : Sto) : RSt := if f.nop = true then kAsg2 (g d ρ S) S else .bad
theorem v_asg {fe : FE} {g : FG} : sAsg fe g ρ S = eS (fe ρ S) ρ (kAsg g ρ) := rfl
theorem v_asgT {g : FG} : kAsg g ρ d .tr S = kAsg2 (g d ρ S) S := rfl
theorem v_asgS {g : FG} : kAsg g ρ d .fs S = kAsg2 (g d ρ S) S := rfl
theorem v_asg2 : kAsg2 (some ρ) S = .nx ρ S := rfl
theorem v_gn {i : Nat} : gN i d ρ S = some (ρ.set i (.val d)) := rfl
def kGs (g : FGs) (ds : List D) (S : Sto) (r : Option Ev) : Option Ev := match r with
  | some ρ1 => g ds ρ1 S
  | none => none
theorem v_gsNil : gsNil [] ρ S = some ρ := rfl
theorem v_gsCons {g : FG} {gs : FGs} {ds : List D} : gsCons g gs (d :: ds) ρ S = kGs gs ds S (g d ρ S) := by
  unfold gsCons kGs; rfl
theorem v_gs {g : FGs} {ds : List D} : kGs g ds S (some ρ) = g ds ρ S := rfl
def kPar (i j : Nat) (ρ : Ev) (r : RA) : RSt := match r with
  | .ok [d, e] true S1 => .nx ((ρ.set i (.val d)).set j (.val e)) S1
  | .xc c fs S1 => .xc c fs ρ S1
  | _ => .bad
theorem v_par {i j : Nat} {fa : FA} : sPar i j fa ρ S = kPar i j ρ (fa ρ S) := by unfold sPar kPar; rfl
theorem v_par1 {i j : Nat} : kPar i j ρ (.ok [d, e] true S) = .nx ((ρ.set i (.val d)).set j (.val e)) S := rfl
def kAug2 (i : Nat) (g : Int → Int → Int) (x : Int) (ρ : Ev) (d : D) (_ : Fl) (S1 : Sto) : RSt := match d with
  | .int y => .nx (ρ.set i (.val (.int (g x y)))) S1
  | _ => .bad
def kAug (i : Nat) (g : Int → Int → Int) (fe : FE) (ρ : Ev) (S : Sto) (s : Option Sl) : RSt := match s with
  | some (.val (.int x)) => eS (fe ρ S) ρ (kAug2 i g x ρ)
  | _ => .bad
theorem v_aug {i : Nat} {g : Int → Int → Int} {fe : FE} : sAug i g fe ρ S = kAug i g fe ρ S ρ[i]? := by unfold sAug kAug kAug2; rfl
theorem v_aug1 {i : Nat} {g : Int → Int → Int} {fe : FE} {x : Int} : kAug i g fe ρ S (some (.val (.int x))) = eS (fe ρ S) ρ (kAug2 i g x ρ) := rfl
theorem v_aug2 {i : Nat} {g : Int → Int → Int} {x y : Int} : kAug2 i g x ρ (.int y) f S = .nx (ρ.set i (.val (.int (g x y)))) S := rfl
def kOwn (i : Nat) (ρ : Ev) (d : D) (f : Fl) (S1 : Sto) : RSt := match d, f with
  | .lst ds, .fs => .nx (ρ.set i (.own ds)) S1
  | _, _ => .bad
theorem v_own {i : Nat} {fe : FE} : sOwn i fe ρ S = eS (fe ρ S) ρ (kOwn i ρ) := rfl
theorem v_own1 {i : Nat} {ds : List D} : kOwn i ρ (.lst ds) .fs S = .nx (ρ.set i (.own ds)) S := rfl
theorem v_frz {i : Nat} {g : FS} : sFrz i g ρ S = g (frz i ρ) S := rfl
def kFrz (i : Nat) (ρ : Ev) (s : Option Sl) : Ev := match s with
  | some (.own ds) => ρ.set i (.val (.lst ds))
  | _ => ρ
theorem v_frz0 {i : Nat} : frz i ρ = kFrz i ρ ρ[i]? := by unfold frz kFrz; rfl
theorem v_frz1 {i : Nat} {ds : List D} : kFrz i ρ (some (.own ds)) = ρ.set i (.val (.lst ds)) := rfl
theorem v_frz2 {i : Nat} : kFrz i ρ (some (.val d)) = ρ := rfl
theorem v_frz3 {i : Nat} : kFrz i ρ (some .no) = ρ := rfl
theorem v_chk {i : Nat} {g : FS} (h : hasL i ρ S = true) : chk i g ρ S = g ρ S := by unfold chk; rw [if_pos h]
def kApp (i : Nat) (ρ : Ev) (d : D) (f : Fl) (S1 : Sto) : RSt := if f.nop = true then putL i ρ S1 (fun ds => if ds.length < lim then some (ds ++ [d]) else none) else .bad
theorem v_app {i : Nat} {fe : FE} : sApp i fe ρ S = eS (fe ρ S) ρ (kApp i ρ) := rfl
theorem v_app1 {i : Nat} {ds : List D} (hf : f.nop = true) (h : ρ[i]? = some (.own ds)) (hl : ds.length < lim) : kApp i ρ d f S = .nx (ρ.set i (.own (ds ++ [d]))) S := by
  unfold kApp putL; rw [if_pos hf, h]; simp [hl]
def kSet2 (i : Nat) (ρ : Ev) (d e : D) (_ : Fl) (S2 : Sto) : RSt := match e with
  | .int k => putL i ρ S2 (fun ds => (ixN ds.length k).map fun j => ds.set j d)
  | _ => .bad
def kSet (i : Nat) (fi : FE) (ρ : Ev) (d : D) (f : Fl) (S1 : Sto) : RSt := if f.nop = true then (if hasL i ρ S1 = true then eS (fi ρ S1) ρ (kSet2 i ρ d) else .bad) else .bad
theorem v_set {i : Nat} {fi fe : FE} : sSetI i fi fe ρ S = eS (fe ρ S) ρ (kSet i fi ρ) := rfl
theorem v_setC {i k : Nat} {fi : FE} {ds : List D} (hf : f.nop = true) (h : ρ[i]? = some (.val (.cel k))) (hs : S[k]? = some (.lst ds)) : kSet i fi ρ d f S = eS (fi ρ S) ρ (kSet2 i ρ d) := by
  unfold kSet hasL; rw [if_pos hf, h]; simp [hs]
theorem v_setC2 {i k j : Nat} {n : Int} {ds : List D} (h : ρ[i]? = some (.val (.cel k))) (hs : S[k]? = some (.lst ds)) (hj : ixN ds.length n = some j) : kSet2 i ρ d (.int n) f S = .nx ρ (S.set k (.lst (ds.set j d))) := by
  unfold kSet2 putL; simp only; rw [h]; simp [hs, hj]
def kAdo (d : D) (f : Fl) (S1 : Sto) : RE := match d, f with
  | .lst ds, .fs => .ok (.cel S1.length) .tr (S1 ++ [.lst ds])
  | .lst _, _ => .bad
  | d, f => .ok d f S1
theorem v_ado {fe : FE} : fAdo fe ρ S = bE (fe ρ S) kAdo := rfl
theorem v_ado1 {ds : List D} : kAdo (.lst ds) .fs S = .ok (.cel S.length) .tr (S ++ [.lst ds]) := rfl
def kXf (xf : Nat → Str → Bool) (n : Str) (s : Option Sl) (S : Sto) : RE := match s with
  | some (.exn c fs) => if xf c n = true then (match fs.lookup n with
    | some d => .ok d .tr S
    | none => .bad) else .bad
  | _ => .bad
theorem v_xf {xf : Nat → Str → Bool} {i : Nat} {n : Str} : fXf xf i n ρ S = kXf xf n ρ[i]? S := by unfold fXf kXf; rfl
def kLoop (g : FG) (b : FS) (ρ : Ev) (r : RI) : RSt := match r with
  | .ok ds gd S1 => loopS gd g b ds ρ S1
  | .xc c fs S1 => .xc c fs ρ S1
  | .bad => .bad
theorem v_for {it : FI} {g : FG} {b : FS} : sFor it g b ρ S = kLoop g b ρ (it ρ S) := rfl
theorem v_for1 {g : FG} {b : FS} {ds : List D} {gd : Gd} : kLoop g b ρ (.ok ds gd S) = loopS gd g b ds ρ S := rfl
theorem v_forx {g : FG} {b : FS} : kLoop g b ρ (.xc c fs S) = .xc c fs ρ S := rfl
def kIter2 (r : Option (List D × Gd)) (S : Sto) : RI := match r with
  | some (ds, g) => .ok ds g S
  | none => .bad
def kIter (r : RE) : RI := match r with
  | .ok d f S1 => if f.nop = true then kIter2 (itemsD S1 d) S1 else .bad
  | .xc c fs S1 => .xc c fs S1
  | .bad => .bad
theorem v_iter {fe : FE} : fIter fe ρ S = kIter (fe ρ S) := by unfold fIter kIter kIter2; rfl
theorem v_iter1 : kIter (.ok d .tr S) = kIter2 (itemsD S d) S := rfl
theorem v_iter1s : kIter (.ok d .fs S) = kIter2 (itemsD S d) S := rfl
theorem v_iter2 {ds : List D} {g : Gd} : kIter2 (some (ds, g)) S = .ok ds g S := rfl
theorem it_str {z : Str} : itemsD S (.str z) = some (charsD z, none) := rfl
theorem it_lst {ds : List D} : itemsD S (.lst ds) = some (ds, none) := rfl
theorem it_tup {ds : List D} : itemsD S (.tup ds) = some (ds, none) := rfl
def kRng1 (r : RA) : RI := match r with
  | .ok [.int j] _ S1 => if -(2 ^ 62) ≤ j ∧ j < 2 ^ 62 then .ok (rngD 0 j.toNat) none S1 else .bad
  | .xc c fs S1 => .xc c fs S1
  | _ => .bad
theorem v_rng1 {fa : FA} : fRng1 fa ρ S = kRng1 (fa ρ S) := by unfold fRng1 kRng1; rfl
theorem v_rng1a {j : Int} {t : Bool} (h1 : -(2 ^ 62) ≤ j) (h2 : j < 2 ^ 62) : kRng1 (.ok [.int j] t S) = .ok (rngD 0 j.toNat) none S := by unfold kRng1; exact if_pos ⟨h1, h2⟩
def kEnum (r : RA) : RI := match r with
  | .ok [d] true S1 => (match d with
    | .str z => .ok (enumD (charsD z)) none S1
    | d => (match itemsD S1 d with
      | some (ds, g) => .ok (enumD ds) g S1
      | none => .bad))
  | .xc c fs S1 => .xc c fs S1
  | _ => .bad
theorem v_enum {fa : FA} : fEnum fa ρ S = kEnum (fa ρ S) := by unfold fEnum kEnum; rfl
theorem v_enumL {ds : List D} : kEnum (.ok [.lst ds] true S) = .ok (enumD ds) none S := rfl
theorem v_enumT {ds : List D} : kEnum (.ok [.tup ds] true S) = .ok (enumD ds) none S := rfl
def kRaise (c : Nat) (n : Str) (ρ : Ev) (r : RA) : RSt := match r with
  | .ok [d] true S1 => .xc c [(n, d)] ρ S1
  | .xc c' fs S1 => .xc c' fs ρ S1
  | _ => .bad
theorem v_raise {n : Str} {fa : FA} : sRaise c n fa ρ S = kRaise c n ρ (fa ρ S) := by unfold sRaise kRaise; rfl
theorem v_raise0 : sRaise0 c ρ S = .xc c [] ρ S := rfl
theorem v_raise1 {n : Str} : kRaise c n ρ (.ok [d] true S) = .xc c [(n, d)] ρ S := rfl
def kTry (em : Nat → Nat → Option Bool) (l : List (Nat × Option Nat × FS)) (r : RSt) : RSt := match r with
  | .xc c fs ρ' S' => hand em c fs ρ' S' l
  | r => r
theorem v_try {em : Nat → Nat → Option Bool} {b : FS} {l : List (Nat × Option Nat × FS)} : sTry em b l ρ S = kTry em l (b ρ S) := by unfold sTry kTry; rfl
theorem v_tryN {em : Nat → Nat → Option Bool} {l : List (Nat × Option Nat × FS)} : kTry em l (.nx ρ S) = .nx ρ S := rfl
theorem v_tryX {em : Nat → Nat → Option Bool} {l : List (Nat × Option Nat × FS)} : kTry em l (.xc c fs ρ S) = hand em c fs ρ S l := rfl
def kRun (r : RSt) : RE := match r with
  | .nx _ S' => .ok .non .tr S'
  | .rt d f S' => .ok d f S'
  | .xc c fs _ S' => .xc c fs S'
  | _ => .bad
theorem v_r0 {n : Nat} {b : FS} : runF n 0 b [] S = kRun (b (List.replicate n .no) S) := rfl
theorem v_r1 {n : Nat} {b : FS} {x : D} : runF n 1 b [x] S = kRun (b (.val x :: List.replicate (n - 1) .no) S) := rfl
theorem v_r2 {n : Nat} {b : FS} {x y : D} : runF n 2 b [x, y] S = kRun (b (.val x :: .val y :: List.replicate (n - 2) .no) S) := rfl
theorem v_r3 {n : Nat} {b : FS} {x y z : D} : runF n 3 b [x, y, z] S = kRun (b (.val x :: .val y :: .val z :: List.replicate (n - 3) .no) S) := rfl
theorem v_r4 {n : Nat} {b : FS} {x y z w : D} : runF n 4 b [x, y, z, w] S = kRun (b (.val x :: .val y :: .val z :: .val w :: List.replicate (n - 4) .no) S) := rfl
theorem v_r5 {n : Nat} {b : FS} {x y z w u : D} : runF n 5 b [x, y, z, w, u] S = kRun (b (.val x :: .val y :: .val z :: .val w :: .val u :: List.replicate (n - 5) .no) S) := rfl
def kNox (r : RE) : RE := match r with
  | .xc _ _ _ => .bad
  | r => r
theorem v_nx {g : FF} {ds : List D} : noxF g ds S = kNox (g ds S) := rfl
theorem v_nx1 : kNox (.ok d f S) = .ok d f S := rfl
theorem v_run1 : kRun (.rt d f S) = .ok d f S := rfl
theorem v_run2 : kRun (.nx ρ S) = .ok .non .tr S := rfl
theorem v_run3 : kRun (.xc c fs ρ S) = .xc c fs S := rfl
end
section
variable {S : Sto}
theorem d_eq_str {neg : Bool} {a b : Str} : dEqv neg (.str a) (.str b) S = .ok (.bl (neg ^^ decide (a = b))) .tr S := by
  unfold dEqv toP; simp only [tree, scalP, Bool.true_or, if_true]
  have : PyData.eqv (.str a) (.str b) = decide (a = b) := by simp [PyData.eqv]; rw [Bool.eq_iff_iff]; simp
  rw [this]
theorem d_eq_int {neg : Bool} {a b : Int} : dEqv neg (.int a) (.int b) S = .ok (.bl (neg ^^ decide (a = b))) .tr S := by
  unfold dEqv toP; simp only [tree, scalP, Bool.true_or, if_true]
  have : PyData.eqv (.int a) (.int b) = decide (a = b) := by simp [PyData.eqv]; rw [Bool.eq_iff_iff]; simp
  rw [this]
theorem d_add_int {a b : Int} : dAdd (.int a) (.int b) S = .ok (.int (a + b)) .tr S := rfl
theorem d_add_str {a b : Str} (h : a.length + b.length ≤ lim) : dAdd (.str a) (.str b) S = .ok (.str (a ++ b)) .tr S := by unfold dAdd; simp [h]
theorem d_add_lst {a b : List D} (h : a.length + b.length ≤ lim) : dAdd (.lst a) (.lst b) S = .ok (.lst (a ++ b)) .fs S := by unfold dAdd; simp [h, lsOf]
theorem d_sub {a b : Int} : dSub (.int a) (.int b) S = .ok (.int (a - b)) .tr S := rfl
theorem d_mul {a b : Int} (h : CMul a b) : dMul (.int a) (.int b) S = .ok (.int (a * b)) .tr S := by unfold dMul; simp [h]
theorem d_fdiv {a b : Int} (h : CDiv a b) : dFdiv (.int a) (.int b) S = .ok (.int (a / b)) .tr S := by unfold dFdiv; simp [h]
theorem d_mod {a b : Int} (h : 0 < b) : dMod (.int a) (.int b) S = .ok (.int (a % b)) .tr S := by unfold dMod; simp [h]
theorem d_pow {a b : Int} (h : CPow a b) : dPow (.int a) (.int b) S = .ok (.int (a ^ b.toNat)) .tr S := by unfold dPow; simp [h]
theorem d_cmp {p : Int → Int → Bool} {q : List Nat → List Nat → Bool} {a b : Int} : dCmp p q (.int a) (.int b) S = .ok (.bl (p a b)) .tr S := rfl
theorem d_len_str {z : Str} {t : Bool} (h : z.length ≤ lim) : dLen [.str z] t S = .ok (.int z.length) .tr S := by unfold dLen; simp [h]
theorem d_len_lst {ds : List D} {t : Bool} : dLen [.lst ds] t S = .ok (.int ds.length) .tr S := rfl
theorem d_len_tup {ds : List D} {t : Bool} : dLen [.tup ds] t S = .ok (.int ds.length) .tr S := rfl
theorem d_len_fro {l : Bool} {ds : List D} {t : Bool} : dLen [.fro l ds] t S = .ok (.int ds.length) .tr S := rfl
theorem d_ix_tup {ds : List D} {i : Int} {x : D} (h : atI ds i = some x) : dIx (.tup ds) (.int i) S = .ok x .tr S := by unfold dIx; simp [sqOf, h]
theorem d_ix_lst {ds : List D} {i : Int} {x : D} (h : atI ds i = some x) : dIx (.lst ds) (.int i) S = .ok x .tr S := by unfold dIx; simp [sqOf, h]
theorem d_ix_fro {l : Bool} {ds : List D} {i : Int} {x : D} (h : atI ds i = some x) : dIx (.fro l ds) (.int i) S = .ok x .tr S := by unfold dIx; simp [sqOf, h]
theorem d_ix_cel {k : Nat} {ds : List D} {i : Int} {x : D} (hs : S[k]? = some (.lst ds)) (h : atI ds i = some x) : dIx (.cel k) (.int i) S = .ok x .tr S := by unfold dIx; simp [sqOf, hs, h]
theorem d_ix_str {z : Str} {i : Int} {c : Nat} (hl : z.length ≤ lim) (h : atI (sl z) i = some c) : dIx (.str z) (.int i) S = .ok (.str ⟨#[c]⟩) .tr S := by unfold dIx; simp [hl, h]
theorem d_in_str {neg : Bool} {w z : Str} {c : Nat} (h : sl w = [c]) : dIn neg (.str w) (.str z) S = .ok (.bl (if neg then !decide (c ∈ sl z) else decide (c ∈ sl z))) .tr S := by unfold dIn; simp [h]
theorem d_nil {neg : Bool} {ds : List D} : dNil neg (.lst ds) (.lst []) S = .ok (.bl (neg ^^ ds.isEmpty)) .tr S := rfl
theorem d_mul_str {z : Str} {k : Int} (h : MulOk z k) : dMul (.str z) (.int k) S = .ok (.str (Txt.mul z k)) .tr S := by unfold dMul; simp [h]
theorem d_mul_lst {a : List D} {k : Int} (h1 : -(2 ^ 63) ≤ k) (h2 : k < 2 ^ 63) (h3 : a.length * k.toNat ≤ lim) : dMul (.lst a) (.int k) S = .ok (.lst (List.replicate k.toNat a).flatten) .fs S := by unfold dMul; simp only [lsOf]; exact if_pos ⟨h1, h2, h3⟩
theorem d_max {i j : Int} {t : Bool} : dMax [.int i, .int j] t S = .ok (.int (if j > i then j else i)) .tr S := rfl
theorem d_min {i j : Int} {t : Bool} : dMin [.int i, .int j] t S = .ok (.int (if j < i then j else i)) .tr S := rfl
theorem d_all {es : List D} {bs : List Bool} {t : Bool} (h : bools es = some bs) : dAll [.lst es] t S = .ok (.bl (bs.all id)) .tr S := by unfold dAll dQu; simp [lsOf, h]
theorem d_any {es : List D} {bs : List Bool} {t : Bool} (h : bools es = some bs) : dAny [.lst es] t S = .ok (.bl (bs.any id)) .tr S := by unfold dAny dQu; simp [lsOf, h]
theorem d_sl_lst {ds : List D} {lo hi : Option Int} : dSl (.lst ds) lo hi S = .ok (.lst (cutD ds lo hi)) .fs S := rfl
theorem d_list {ds : List D} {t : Bool} : dList [.lst ds] t S = .ok (.lst ds) .fs S := rfl
theorem d_listT {ds : List D} {t : Bool} : dList [.tup ds] t S = .ok (.lst ds) .fs S := rfl
theorem d_tuple {ds : List D} {t : Bool} : dTuple [.lst ds] t S = .ok (.tup ds) .tr S := rfl
theorem d_isN {neg : Bool} {d : D} : dIsN neg d .non S = .ok (.bl (if neg then !Fx.isNon d else Fx.isNon d)) .tr S := rfl
theorem d_isB {neg j k : Bool} : dIs neg (.bl j) (.bl k) S = .ok (.bl (if neg then !decide (j = k) else decide (j = k))) .tr S := rfl
end
end
end Fx
namespace Fx
open PySem PySem.Spec PyProof.Rows L2 U
noncomputable section
/-- class c has fields of its own named f -/
def FldOk (K : PySem.W.Frag) (ca : Nat → Addr) (cf : Nat → Str → Bool) : Prop := ∀ c f, cf c f = true → Cls K (ca c) ∧ NoAttr K (ca c) f
def putD (f : Str) (d : D) : List (Str × D) → List (Str × D)
  | [] => [(f, d)]
  | (g, x) :: r => if g = f then (g, d) :: r else (g, x) :: putD f d r
section
variable {K : PySem.W.Frag} {ca : Nat → Addr} {ι B : List Addr} {H : Hp}
theorem RFs.put {f : Str} {d : D} {v : V} (r : RV K ca ι B H v d) : ∀ {es : List (Str × D)} {fs : List (Str × V)}, RFs K ca ι B H fs es → RFs K ca ι B H (putF f v fs) (putD f d es)
  | [], _, h => by cases h; exact .cons r .nil
  | (g, x) :: es, _, h => by
    cases h with
    | cons h1 h2 =>
      unfold putF putD
      split
      · exact .cons r h2
      · exact .cons h1 (RFs.put r h2)
theorem RFs.len : ∀ {es : List (Str × D)} {fs : List (Str × V)}, RFs K ca ι B H fs es → fs.length = es.length
  | [], _, h => by cases h; rfl
  | (g, x) :: es, _, h => by
    cases h with
    | cons h1 h2 => rw [List.length_cons, List.length_cons, RFs.len h2]
theorem RFs.look0 {es : List (Str × D)} {fs : List (Str × V)} {f : Str} (h : RFs K ca ι B H fs es) (e : es.lookup f = none) : fs.lookup f = none := by
  rcases h.look (f := f) with ⟨d, v, h1, _⟩ | ⟨_, h2⟩
  · rw [e] at h1; cases h1
  · exact h2
theorem RFs.look1 {es : List (Str × D)} {fs : List (Str × V)} {f : Str} {d : D} (h : RFs K ca ι B H fs es) (e : es.lookup f = some d) : ∃ v, fs.lookup f = some v ∧ RV K ca ι B H v d := by
  rcases h.look (f := f) with ⟨d', v, h1, h2, h3⟩ | ⟨h1, _⟩
  · rw [e] at h1; cases h1; exact ⟨v, h2, h3⟩
  · rw [e] at h1; cases h1
end
section
variable {G : Gm} {E : WX} {F : Fr} {Dd : Ends} {ι ω ι1 ω1 : List Addr} {ρ : Ev} {S S1 : Sto} {σ : L2.St} {H H1 : Hp} {Q : VK}
theorem ob_at {v : V} {c : Nat} {es : List (Str × D)} {B : List Addr} (h : RT G.K G.ca ι B H v (.obj c es)) : ∃ a dx fs, v = .ref a ∧ H a = some (.ins (G.ca c) dx fs) ∧ RFs G.K G.ca ι B H fs es := by
  cases h with
  | v h => cases h with | obj h1 h2 h3 h4 => exact ⟨_, _, _, rfl, h3, h4⟩
  | o h1 h2 h3 => exact ⟨_, _, _, rfl, h2, h3⟩
def fFld (cf : Nat → Str → Bool) (f : Str) (fe : FE) : FE := fun ρ S => bE (fe ρ S) fun d _ S1 => (match d with
  | .obj c es => if cf c f = true then (match es.lookup f with
    | some x => .ok x .tr S1
    | none => .bad) else .bad
  | _ => .bad)
theorem se_fld {cf : Nat → Str → Bool} (hcf : FldOk G.K G.ca cf) {f : Str} {te : TE} {fe : FE} (he : SE G E te fe) : SE G E (tFld G.K te f) (fFld cf f fe) := by
  intro F ι ω ρ S σ H Q rel h
  refine he.bind rel h fun d fl S1 ι1 v H1 e1 r1 rf1 h1 => ?_
  split at h1
  · rename_i c es
    split at h1
    · rename_i hc
      split at h1
      · rename_i x ex
        obtain ⟨a, dx, fs, rfl, q1, q2⟩ := ob_at rf1.rt
        obtain ⟨w, q3, q4⟩ := q2.look1 ex
        exact ⟨a, _, dx, fs, w, rfl, q1, (hcf _ _ hc).1, (hcf _ _ hc).2, q3, PostE.now h1 r1 q4⟩
      · exact h1.elim
    · exact h1.elim
  · exact h1.elim
def sSetF (cf : Nat → Str → Bool) (i : Nat) (f : Str) (fe : FE) : FS := fun ρ S => eS (fe ρ S) ρ fun d fl S1 => if fl.nop = true then (match ρ[i]? with
  | some (.oob c es) => if (cf c f && decide (es.length < 100)) = true then .nx (ρ.set i (.oob c (putD f d es))) S1 else .bad
  | _ => .bad) else .bad
theorem ss_setF {cf : Nat → Str → Bool} (hcf : FldOk G.K G.ca cf) {i : Nat} {f : Str} {te : TE} {fe : FE} (he : SE G E te fe) : SS G E (sFld G.K (uVar i) te f) (sSetF cf i f fe) := by
  intro F D ι ω ρ S σ H rel h
  refine he.bindS rel h fun d fl S1 ι1 v H1 e1 r1 rf h1 => ?_
  split at h1
  · rename_i hf
    split at h1
    · rename_i c es e
      split at h1
      · rename_i hc
        rw [Bool.and_eq_true] at hc
        obtain ⟨a, dx, fs, q1, q2, q0, q3, q4⟩ := slot_oob r1 e
        show uVar i σ H1 _
        unfold uVar
        rw [q1]
        refine ⟨a, _, dx, fs, rfl, q3, (hcf _ _ hc.1).1, (hcf _ _ hc.1).2, by rw [q4.len]; have := of_decide_eq_true hc.2; omega, ?_⟩
        have rv := rf.rv (by intro z; subst z; cases hf)
        refine h1 ι1 ω σ _ (ExtS.mut q2) (r1.mut e rfl q1 q2 (.oob q2 q0 upd_same ?_) rfl)
        exact (q4.put rv).per (Per.upd (.inr (List.mem_append_right _ q2)))
      · exact h1.elim
    · exact h1.elim
  · exact h1.elim
end
def lookF {α : Type} (c : Nat) : List (Nat × α) → Option α
  | [] => none
  | (k, f) :: l => if k = c then some f else lookF c l
theorem lookF_mem {α : Type} {c : Nat} {f : α} : ∀ {l : List (Nat × α)}, lookF c l = some f → (c, f) ∈ l
  | [], h => by cases h
  | (k, g) :: l, h => by
    unfold lookF at h
    split at h
    · rename_i e; subst e; cases h; exact List.mem_cons_self
    · exact List.mem_cons_of_mem _ (lookF_mem h)
def kMeth (tab : List (Nat × FF)) (m : Str) (fa : FA) (ρ : Ev) (d : D) (f : Fl) (S : Sto) : RE := match d with
  | .obj c es => if (f.nop && (es.lookup m).isNone) = true then (match lookF c tab with
    | some F => fCB (fun ds t S2 => if t = true then F (.obj c es :: ds) S2 else .bad) fa ρ S
    | none => .bad) else .bad
  | _ => .bad
def fMeth (tab : List (Nat × FF)) (m : Str) (fo : FE) (fa : FA) : FE := fun ρ S => bE (fo ρ S) (kMeth tab m fa ρ)
abbrev spTab (K : PySem.W.Frag) (ca : Nat → Addr) (tab : List (Nat × FF)) : List (Addr × Sp) := tab.map fun p => (ca p.1, SpF K ca p.2)
section
variable {G : Gm} {E : WX}
theorem se_meth {tab : List (Nat × FF)} {st : List (Addr × Sp)} {m : Str} {to : TE} {fo : FE} {ta : TA} {fa : FA} (ho : SE G E to fo) (ha : SA G E ta fa) (hst : st = spTab G.K G.ca tab := by rfl) : SE G E (uMeth m st (WE E) to ta) (fMeth tab m fo fa) := by
  subst hst
  intro F ι ω ρ S σ H Q rel h
  refine ho.bind rel h fun d f S1 ι1 v H1 e1 r1 rf1 h1 => ?_
  unfold kMeth at h1
  split at h1
  · rename_i c es
    split at h1
    · rename_i hc
      rw [Bool.and_eq_true] at hc
      split at h1
      · rename_i g eg
        have rv := rf1.rv (by intro z; subst z; cases hc.1)
        obtain ⟨a, dx, fs, rfl, q1, q2⟩ := ob_at rf1.rt
        refine ⟨_, _, a, dx, fs, List.mem_map.mpr ⟨_, lookF_mem eg, rfl⟩, rfl, q1, q2.look0 (Option.isNone_iff_eq_none.mp hc.2), ?_⟩
        refine sa_then ha r1 h1 fun ds t S2 ι2 vs H2 e2 r2 ra h2 => ?_
        split at h2
        · rename_i ht
          subst ht
          exact spf_of (fun cls d H z => z) r2 (.cons (rv.ex e2) ra) h2
        · exact h2.elim
      · exact h1.elim
    · exact h1.elim
  · exact h1.elim
end
def kSp1 (tab : List (Nat × FF)) (ok : D → Bool) (d : D) (f : Fl) (S : Sto) : RE := match d with
  | .obj c es => if f.nop = true then (match lookF c tab with
    | some F => bE (F [.obj c es] S) fun r fl S2 => if (ok r && fl.nop) = true then .ok r .tr S2 else .bad
    | none => .bad) else .bad
  | _ => .bad
def fSp1 (tab : List (Nat × FF)) (ok : D → Bool) (fo : FE) : FE := fun ρ S => bE (fo ρ S) (kSp1 tab ok)
/-- the heap without x -/
def hide (H : Hp) (x : Addr) : Hp := fun a => if a = x then none else H a
theorem hide_at {H : Hp} {x a : Addr} {o : HO} (h : hide H x a = some o) : a ≠ x ∧ H a = some o := by
  unfold hide at h
  split at h
  · cases h
  · rename_i n; exact ⟨n, h⟩
theorem hide_self {H : Hp} {x : Addr} : hide H x x = none := by unfold hide; rw [if_pos rfl]
theorem hide_ne {H : Hp} {x a : Addr} (h : a ≠ x) : hide H x a = H a := by unfold hide; rw [if_neg h]
inductive RIn where
  | ok (es : List (Str × D)) (S : Sto) | xc (c : Nat) (fs : List (Str × D)) (S : Sto) | bad
/-- class, fields so far, arguments behind self -/
abbrev FIn := Nat → List (Str × D) → List D → Sto → RIn
def PostIn (K : PySem.W.Frag) (ca : Nat → Addr) (ι B : List Addr) (x : Addr) (c : Nat) (H : Hp) (Q : VK) (E : XK) : RIn → Prop
  | .ok es' S' => ∀ ι' dx' fs' H', ExtS ι [x] H ι' [x] H' → ι'.Nodup → x ∉ ι' → H' x = some (.ins (ca c) dx' fs') → RFs K ca ι' (x :: B) H' fs' es' → RS K ca ι' (x :: B) H' S' → Q .non H'
  | .xc c' fs S' => ∀ ι' dd fv H', Ext ι (hide H x) ι' H' → ι'.Nodup → RS K ca ι' B H' S' → NI dd ι' → NI dd (B) → XD H' dd fv → RFs K ca ι' B H' fv fs → E (.ref (ca c')) dd H'
  | .bad => False
def SpI (K : PySem.W.Frag) (ca : Nat → Addr) (f : FIn) : Sp := fun vs H Q E => ∃ ι B S c x dx fs es ws ds, vs = .ref x :: ws ∧ ι.Nodup ∧ (∀ b ∈ B, H b ≠ none ∧ b ∉ ι ∧ b ≠ x) ∧ x ∉ ι ∧ H x = some (.ins (ca c) dx fs) ∧ RFs K ca ι (x :: B) H fs es ∧ RS K ca ι (x :: B) H S ∧ RAll K ca ι (x :: B) H ws ds ∧ PostIn K ca ι B x c H Q E (f c es ds S)
def kRunI (c : Nat) : RSt → RIn
  | .nx ρ' S' => (match ρ'[0]? with
    | some (Sl.oob c' es') => if c' = c then .ok es' S' else .bad
    | _ => .bad)
  | .xc c' fs _ S' => .xc c' fs S'
  | _ => .bad
def runI (n m : Nat) (b : FS) : FIn := fun c es ds S => if ds.length + 1 = m then kRunI c (b (.oob c es :: (ds.map .val ++ List.replicate (n - m) .no)) S) else .bad
section
variable {K : PySem.W.Frag} {ca : Nat → Addr} {H : Hp} {Q : VK} {E : XK} {vs : List V}
theorem runI_len {N P : List Str} {b : FS} (h : SpI K ca (runI N.length P.length b) vs H Q E) : vs.length = P.length := by
  obtain ⟨ι, B, S, c, x, dx, fs, es, ws, ds, rfl, h1, h2, h3, h4, h5, h6, h7, h8⟩ := h
  unfold runI at h8
  split at h8
  · rename_i e; rw [List.length_cons, h7.len]; exact e
  · exact h8.elim
theorem startI {ι B : List Addr} {S : Sto} {c : Nat} {x dx : Addr} {fs : List (Str × V)} {es : List (Str × D)} {ws : List V} {ds : List D} {N : List Str} (h1 : ι.Nodup) (h2 : ∀ b ∈ B, H b ≠ none ∧ b ∉ ι ∧ b ≠ x) (h3 : x ∉ ι) (h4 : H x = some (.ins (ca c) dx fs)) (h5 : RFs K ca ι (x :: B) H fs es)
    (h6 : RS K ca ι (x :: B) H S) (h7 : RAll K ca ι (x :: B) H ws ds) : Rel ⟨K, ca, none, some x⟩ ⟨hide H x, ι, B⟩ ι [x] (.oob c es :: (ds.map .val ++ List.replicate (N.length - (ds.length + 1)) .no)) S (L2.start N (.ref x :: ws)) H := by
  have sb : ∀ a ∈ B ++ [x], a ∈ x :: B := fun a ha => by
    rcases List.mem_append.mp ha with z | z
    · exact List.mem_cons_of_mem _ z
    · rw [List.mem_singleton.mp z]; exact List.mem_cons_self
  have pl : Per ι (x :: B) H ι (B ++ [x]) H := Per.less sb
  refine ⟨List.prefix_rfl, fun a o h _ => (hide_at h).2, fun a h => ?_, fun a h n => absurd h n, fun a h => ?_, fun a h => ⟨?_, (h2 a h).2.1⟩, h1, fun a h => ?_, fun a h => ?_, h6.less sb, ?_, fun i s o e1 e2 => ?_, fun i j a s s' hij e1 e2 e3 e4 => ?_⟩
  · cases e : hide H x a with
    | none => exact absurd e h
    | some o => rw [(hide_at e).2]; simp
  · rw [List.mem_singleton.mp h]; exact hide_self
  · show hide H x a ≠ none
    rw [hide_ne (h2 a h).2.2]; exact (h2 a h).1
  · rw [List.mem_singleton.mp h]; exact h3
  · rw [List.mem_singleton.mp h, h4]; simp
  · unfold L2.start; simp only [List.length_cons, List.length_append, List.length_map, List.length_replicate, h7.len]; omega
  · cases i with
    | zero =>
      unfold L2.start at e2
      simp only [List.getElem?_cons_zero, List.map_cons, List.cons_append] at e1 e2
      cases e1; cases e2
      exact .oob List.mem_cons_self rfl h4 (h5.per pl)
    | succ i =>
      unfold L2.start at e2
      simp only [List.getElem?_cons_succ, List.map_cons, List.cons_append] at e1 e2
      by_cases hi : i < ds.length
      · rw [List.getElem?_append_left (by rw [List.length_map]; exact hi), List.getElem?_map, List.getElem?_eq_getElem hi] at e1
        cases e1
        obtain ⟨v, q1, q2⟩ := h7.at i (List.getElem?_eq_getElem hi)
        rw [List.getElem?_append_left (by rw [List.length_map, h7.len]; exact hi), List.getElem?_map, q1] at e2
        cases e2
        exact .val (q2.per pl)
      · rw [List.getElem?_append_right (by rw [List.length_map]; omega), List.getElem?_replicate] at e1
        split at e1
        · cases e1; exact .no
        · cases e1
  · exfalso
    have no : ∀ (i : Nat) (s : Sl), (ds.map Sl.val ++ List.replicate (N.length - (ds.length + 1)) .no)[i]? = some s → isOwn s = true → False := fun i s e1 e3 => by
      by_cases hi : i < ds.length
      · rw [List.getElem?_append_left (by rw [List.length_map]; exact hi), List.getElem?_map, List.getElem?_eq_getElem hi] at e1
        cases e1; cases e3
      · rw [List.getElem?_append_right (by rw [List.length_map]; omega), List.getElem?_replicate] at e1
        split at e1
        · cases e1; cases e3
        · cases e1
    cases i with
    | zero =>
      cases j with
      | zero => exact hij rfl
      | succ j => rw [List.getElem?_cons_succ] at e2; exact no j _ e2 e4
    | succ i => rw [List.getElem?_cons_succ] at e1; exact no i _ e1 e3
theorem runI_ok {N P : List Str} {t : TS} {b : FS} (hb : ∀ x, SS ⟨K, ca, none, some x⟩ (fun cls d _ H => E cls d H) t b) (h : SpI K ca (runI N.length P.length b) vs H Q E) : t { nx := fun _ H' => Q .non H', rt := Q } (L2.start N vs) H := by
  obtain ⟨ι, B, S, c, x, dx, fs, es, ws, ds, rfl, h1, h2, h3, h4, h5, h6, h7, h8⟩ := h
  unfold runI at h8
  split at h8
  · rename_i el
    refine hb x ⟨hide H x, ι, B⟩ _ ι [x] _ S _ H (startI h1 h2 h3 h4 h5 h6 h7) ?_
    rw [el]
    have ext : ∀ {ι' ω' : List Addr} {ρ' : Ev} {S' : Sto} {σ' : L2.St} {H' : Hp}, ExtS ι [x] H ι' ω' H' → Rel ⟨K, ca, none, some x⟩ ⟨hide H x, ι, B⟩ ι' ω' ρ' S' σ' H' → x ∉ ι' → H' x ≠ none → ExtS ι [x] H ι' [x] H' := fun {ι' ω' ρ' S' σ' H'} e r n hx => by
      refine ⟨e.pre, e.keep, e.newi, fun a h n => absurd h n, e.dom⟩
    cases e : b (.oob c es :: (ds.map .val ++ List.replicate (N.length - P.length) .no)) S with
    | nx ρ' S' =>
      rw [e] at h8
      intro ι' ω' σ' H' ex r
      unfold kRunI at h8
      dsimp only at h8
      split at h8
      · rename_i c' es' e0
        split at h8
        · rename_i ec
          subst ec
          obtain ⟨a, dx', fs', q1, q2, q0, q3, q4⟩ := slot_oob r e0
          cases q0
          have sb : ∀ a ∈ x :: B, a ∈ B ++ ω' := fun a ha => by
            rcases List.mem_cons.mp ha with z | z
            · subst z; exact List.mem_append_right _ q2
            · exact List.mem_append_left _ z
          exact h8 ι' dx' fs' H' (ext ex r (r.dj _ q2) (nn q3)) r.nd (r.dj _ q2) q3 (q4.per (Per.less sb)) (r.sto.less sb)
        · exact h8.elim
      · exact h8.elim
    | xc c' fs' ρ' S' =>
      rw [e] at h8
      intro ι' ω' σ' dd fv H' ex r n1 n2 g1 g2
      have sb : ∀ a ∈ B, a ∈ B ++ ω' := fun a z => List.mem_append_left _ z
      exact h8 ι' dd fv H' r.ext0 r.nd (r.sto.less sb) n1 (n2.less sb) g1 (g2.per (Per.less sb))
    | rt d f S' => rw [e] at h8; exact h8.elim
    | bk => rw [e] at h8; exact h8.elim
    | ct => rw [e] at h8; exact h8.elim
    | bad => rw [e] at h8; exact h8.elim
  · exact h8.elim
end
/-- C(..) -/
def kMk (c : Nat) (f : FIn) (ds : List D) (S : Sto) : RE := match f c [] ds S with
  | .ok es S' => .ok (.obj c es) .fs S'
  | .xc c' fs S' => .xc c' fs S'
  | .bad => .bad
def fMk (c : Nat) (f : FIn) (dd : List D) (fa : FA) : FE := fCB (fun ds t S => if t = true then kMk c f (ds ++ dd) S else .bad) fa
section
variable {G : Gm} {E : WX} {F : Fr} {ι ω : List Addr} {ρ : Ev} {S : Sto} {σ : L2.St} {H : Hp} {Q : VK}
theorem mk_of {c : Nat} {f : FIn} {ws : List V} {ds : List D} {E' : XK} (hE : ∀ cls d H, E cls d σ H → E' cls d H) (rel : Rel G F ι ω ρ S σ H) (ra : RAll G.K G.ca ι (F.B0 ++ ω) H ws ds) (h : PostE G E F ι ω ρ σ H Q (kMk c f ds S)) (x dx : Addr) (hx : H x = none) (hd : H dx = none) (hne : dx ≠ x) :
    SpI G.K G.ca f (.ref x :: ws) (upd (upd H dx (.own x)) x (.ins (G.ca c) dx [])) (fun v H2 => v = .non ∧ Q (.ref x) H2) E' := by
  have hx1 : (upd H dx (.own x)) x = none := by rw [upd_ne hne.symm]; exact hx
  have e1 : Ext ι H ι (upd (upd H dx (.own x)) x (.ins (G.ca c) dx [])) := (Ext.new1 hd).trans (Ext.new1 hx1)
  have pp : Per ι (F.B0 ++ ω) H ι (x :: (F.B0 ++ ω)) (upd (upd H dx (.own x)) x (.ins (G.ca c) dx [])) := (Per.new hd).trans (Per.add hx1)
  have r1 := rel.new (o := .own x) hd
  have r2 := r1.new (o := .ins (G.ca c) dx []) hx1
  refine ⟨ι, F.B0 ++ ω, S, c, x, dx, [], [], ws, ds, rfl, rel.nd, fun b hb => ⟨r2.bd b hb, rel.bi b hb, fun z => ?_⟩, rel.offi hx, upd_same, .nil, ?_, ra.per pp, ?_⟩
  · subst z; exact rel.bd _ hb hx
  · exact rel.sto.per (fun a ha => by
      rw [upd_ne (fun z => rel.sto.here a ha (by rw [z]; exact hx)), upd_ne (fun z => rel.sto.here a ha (by rw [z]; exact hd))]) pp
  · have up : ∀ a o, H a = some o → (upd (upd H dx (.own x)) x (.ins (G.ca c) dx [])) a = some o ∧ a ≠ x := fun a o h => by
      have n1 : a ≠ x := ne_of_none h hx
      have n2 : a ≠ dx := ne_of_none h hd
      rw [upd_ne n1, upd_ne n2]; exact ⟨h, n1⟩
    unfold kMk at h
    cases e : f c [] ds S with
    | ok es S' =>
      rw [e] at h
      intro ι' dx' fs' H' ex nd nx hx' rf rs
      have x2 : Ext ι H ι' H' := ⟨ex.pre, fun a o h n => ex.keep a o (up a o h).1 n (by simpa using (up a o h).2), fun a h n => none_of e1.dom (ex.newi a h n), fun a h => ex.dom a (e1.dom a h)⟩
      have sb : ∀ a ∈ F.B0 ++ ω, a ∈ x :: (F.B0 ++ ω) := fun a z => List.mem_cons_of_mem _ z
      exact ⟨rfl, h ι' (.ref x) H' x2 (rel.ex x2 nd (rs.less sb)) (.o nx (rel.offb hx) hx hx' rf rs)⟩
    | xc c' fs S' =>
      rw [e] at h
      intro ι' dd fv H' ex nd rs n1 n2 g1 g2
      have x2 : Ext ι H ι' H' := by
        refine ⟨ex.pre, fun a o h n => ex.keep a o (by rw [hide_ne (up a o h).2]; exact (up a o h).1) n, fun a h n => ?_, fun a h => ?_⟩
        · have q := ex.new a h n
          cases z : H a with
          | none => rfl
          | some o => rw [hide_ne (up a o z).2, (up a o z).1] at q; cases q
        · cases z : H a with
          | none => exact absurd z h
          | some o => exact ex.dom a (by rw [hide_ne (up a o z).2, (up a o z).1]; simp)
      exact hE _ _ _ (h ι' dd fv H' x2 (rel.ex x2 nd rs) n1 n2 g1 g2)
    | bad => rw [e] at h; exact h
def fMkK (n m : Nat) (c : Nat) (f : FIn) (gD : List D → List D → List D) (fa fk : FA) : FE := fun ρ S => match fa ρ S with
  | .ok ds true S1 => (match fk ρ S1 with
    | .ok es true S2 => if ds.length = n ∧ es.length = m then kMk c f (gD ds es) S2 else .bad
    | .xc c fs S2 => .xc c fs S2
    | _ => .bad)
  | .xc c fs S1 => .xc c fs S1
  | _ => .bad
theorem se_mkK {n m c : Nat} {f : FIn} {gV : List V → List V → List V} {gD : List D → List D → List D} {ta tk : TA} {fa fk : FA} (ha : SA G E ta fa) (hk : SA G E tk fk)
    (hg : ∀ {ι B : List Addr} {H : Hp} {vs zs : List V} {ds es : List D} (x : Addr), RAll G.K G.ca ι B H vs ds → RAll G.K G.ca ι B H zs es → ∃ ws, gV (.ref x :: vs) zs = .ref x :: ws ∧ RAll G.K G.ca ι B H ws (gD ds es)) : SE G E (uMakeK (G.ca c) n m (SpI G.K G.ca f) gV (WE E) ta tk) (fMkK n m c f gD fa fk) := by
  intro F ι ω ρ S σ H Q rel h
  refine ha F ι ω ρ S σ H _ rel ?_
  unfold fMkK at h
  split at h
  · rename_i ds S1 e1
    rw [e1]
    intro ι1 vs H1 x1 r1 ra
    refine hk F ι1 ω ρ S1 σ H1 _ r1 ?_
    split at h
    · rename_i es S2 e2
      rw [e2]
      intro ι2 zs H2 x2 r2 rz
      have ra : RAll G.K G.ca ι2 (F.B0 ++ ω) H2 vs ds := RAll.ex ra x2
      have rz : RAll G.K G.ca ι2 (F.B0 ++ ω) H2 zs es := rz
      split at h
      · rename_i hl
        refine ⟨by rw [ra.len]; exact hl.1, by rw [rz.len]; exact hl.2, fun x dx hx hdx hne => ?_⟩
        obtain ⟨ws, ew, rw_⟩ := hg x ra rz
        rw [ew]
        exact mk_of (fun cls d H z => z) r2 rw_ (PostE.ex h (x1.trans x2)) x dx hx hdx hne
      · exact h.elim
    · rename_i c fs S2 e2
      rw [e2]
      exact fun ι' dd fv H' x rel' n1 n2 h1 h2 => h ι' dd fv H' (x1.trans x) rel' n1 n2 h1 h2
    · exact h.elim
  · rename_i c fs S1 e1
    rw [e1]; exact h
  · exact h.elim
/-- C.m(..), m a classmethod -/
def fCMeth (c : Nat) (f : FF) (fa : FA) : FE := fCB (fun ds t S => if t = true then f (.cls c :: ds) S else .bad) fa
def fFmt (fe : FE) : FE := fun ρ S => bE (fe ρ S) fun d _ S1 => (match d with
  | .str z => if z.length ≤ lim then .ok (.str z) .tr S1 else .bad
  | .int i => if i.natAbs.log2 < 1920 then .ok (.str (toString i)) .tr S1 else .bad
  | _ => .bad)
def fJs : List FE → Str → FE
  | [], acc => fun _ S => .ok (.str acc) .tr S
  | fe :: fs, acc => fun ρ S => bE (fe ρ S) fun d _ S1 => (match d with
    | .str y => if (acc ++ y).length ≤ lim then fJs fs (acc ++ y) ρ S1 else .bad
    | _ => .bad)
def rgD (a b : Int) : List D := (List.range (b - a).toNat).map fun i => D.int (a + (i : Nat))
def rgOk (a b : Int) : Bool := decide (-1000000 ≤ a ∧ a ≤ 1000000 ∧ -1000000 ≤ b ∧ b ≤ 1000000)
def fLRg (fa fb : FE) : FE := fun ρ S => bE (fa ρ S) fun d _ S1 => (match d with
  | .int a => bE (fb ρ S1) fun e _ S2 => (match e with
    | .int b => if rgOk a b = true then .ok (.lst (rgD a b)) .fs S2 else .bad
    | _ => .bad)
  | _ => .bad)
end
end
end Fx
namespace Fx
open PySem PySem.Spec PyProof.Rows L2 U
noncomputable section
section
variable {ρ : Ev} {S S1 S2 : Sto} {d e : D} {f : Fl} {c : Nat} {fs es : List (Str × D)}
def kFld (cf : Nat → Str → Bool) (n : Str) (d : D) (_ : Fl) (S1 : Sto) : RE := match d with
  | .obj c es => if cf c n = true then (match es.lookup n with
    | some x => .ok x .tr S1
    | none => .bad) else .bad
  | _ => .bad
theorem v_fld {cf : Nat → Str → Bool} {n : Str} {fe : FE} : fFld cf n fe ρ S = bE (fe ρ S) (kFld cf n) := rfl
theorem v_fld1 {cf : Nat → Str → Bool} {n : Str} {x : D} (h : cf c n = true) (hl : es.lookup n = some x) : kFld cf n (.obj c es) f S = .ok x .tr S := by unfold kFld; simp only [h, hl, if_true]
def kSetF (cf : Nat → Str → Bool) (i : Nat) (n : Str) (ρ : Ev) (d : D) (fl : Fl) (S1 : Sto) : RSt := if fl.nop = true then (match ρ[i]? with
  | some (.oob c es) => if (cf c n && decide (es.length < 100)) = true then .nx (ρ.set i (.oob c (putD n d es))) S1 else .bad
  | _ => .bad) else .bad
theorem v_setF {cf : Nat → Str → Bool} {i : Nat} {n : Str} {fe : FE} : sSetF cf i n fe ρ S = eS (fe ρ S) ρ (kSetF cf i n ρ) := rfl
theorem v_setF1 {cf : Nat → Str → Bool} {n : Str} {r : Ev} (h : cf c n = true) (hl : es.length < 100) (hf : f.nop = true) : kSetF cf 0 n (.oob c es :: r) d f S = .nx (.oob c (putD n d es) :: r) S := by
  unfold kSetF; rw [if_pos hf]
  show (if (cf c n && decide (es.length < 100)) = true then _ else _) = _
  rw [h, decide_eq_true hl]
  rfl
theorem putD_lt {n : Str} {d : D} : ∀ {es : List (Str × D)} (k : Nat), es.length < k → (putD n d es).length < k + 1
  | [], k, h => by unfold putD; simp; exact h
  | (g, x) :: es, k, h => by
    unfold putD
    split
    · simp only [List.length_cons] at h ⊢; omega
    · simp only [List.length_cons] at h ⊢
      have := putD_lt (n := n) (d := d) (es := es) (k - 1) (by omega)
      omega
theorem v_meth {tab : List (Nat × FF)} {m : Str} {fo : FE} {fa : FA} : fMeth tab m fo fa ρ S = bE (fo ρ S) (kMeth tab m fa ρ) := rfl
def kMethA (g : FF) (d : D) (ds : List D) (t : Bool) (S2 : Sto) : RE := if t = true then g (d :: ds) S2 else .bad
theorem v_meth1 {tab : List (Nat × FF)} {m : Str} {fa : FA} {g : FF} (hf : f.nop = true) (hl : es.lookup m = none) (ht : lookF c tab = some g) : kMeth tab m fa ρ (.obj c es) f S = bA (fa ρ S) (kMethA g (.obj c es)) := by
  unfold kMeth; simp only [hf, hl, ht, Option.isNone_none, Bool.and_self, if_true]; rfl
theorem v_methA {g : FF} {ds : List D} : kMethA g d ds true S = g (d :: ds) S := rfl
theorem v_sp1 {tab : List (Nat × FF)} {ok : D → Bool} {fo : FE} : fSp1 tab ok fo ρ S = bE (fo ρ S) (kSp1 tab ok) := rfl
theorem v_mk {g : FIn} {dd : List D} {fa : FA} : fMk c g dd fa ρ S = bA (fa ρ S) (fun ds t S => if t = true then kMk c g (ds ++ dd) S else .bad) := rfl
theorem v_mk1 {g : FIn} {ds : List D} (h : g c [] ds S = .ok es S2) : kMk c g ds S = .ok (.obj c es) .fs S2 := by unfold kMk; rw [h]
def kMkK2 (n m c : Nat) (g : FIn) (gD : List D → List D → List D) (ds : List D) (r : RA) : RE := match r with
  | .ok es true S2 => if ds.length = n ∧ es.length = m then kMk c g (gD ds es) S2 else .bad
  | .xc c fs S2 => .xc c fs S2
  | _ => .bad
def kMkK (n m c : Nat) (g : FIn) (gD : List D → List D → List D) (fk : FA) (ρ : Ev) (r : RA) : RE := match r with
  | .ok ds true S1 => kMkK2 n m c g gD ds (fk ρ S1)
  | .xc c fs S1 => .xc c fs S1
  | _ => .bad
theorem v_mkK {n m : Nat} {g : FIn} {gD : List D → List D → List D} {fa fk : FA} : fMkK n m c g gD fa fk ρ S = kMkK n m c g gD fk ρ (fa ρ S) := by unfold fMkK kMkK kMkK2; rfl
theorem v_mkK1 {n m : Nat} {g : FIn} {gD : List D → List D → List D} {fk : FA} {ds : List D} : kMkK n m c g gD fk ρ (.ok ds true S) = kMkK2 n m c g gD ds (fk ρ S) := rfl
theorem v_mkK2 {n m : Nat} {g : FIn} {gD : List D → List D → List D} {ds zs : List D} (h1 : ds.length = n) (h2 : zs.length = m) : kMkK2 n m c g gD ds (.ok zs true S) = kMk c g (gD ds zs) S := by unfold kMkK2; exact if_pos ⟨h1, h2⟩
theorem v_cmeth {g : FF} {fa : FA} : fCMeth c g fa ρ S = bA (fa ρ S) (kMethA g (.cls c)) := rfl
theorem v_runI {n m : Nat} {b : FS} {ds : List D} (h : ds.length + 1 = m) : runI n m b c es ds S = kRunI c (b (.oob c es :: (ds.map .val ++ List.replicate (n - m) .no)) S) := by unfold runI; rw [if_pos h]
theorem v_runI1 {r : Ev} : kRunI c (.nx (.oob c es :: r) S) = .ok es S := by unfold kRunI; simp
theorem v_runIx {c' : Nat} : kRunI c (.xc c' fs ρ S) = .xc c' fs S := rfl
def kFmt (d : D) (_ : Fl) (S1 : Sto) : RE := match d with
  | .str z => if z.length ≤ lim then .ok (.str z) .tr S1 else .bad
  | .int i => if i.natAbs.log2 < 1920 then .ok (.str (toString i)) .tr S1 else .bad
  | _ => .bad
theorem v_fmt {fe : FE} : fFmt fe ρ S = bE (fe ρ S) kFmt := rfl
def kJs (fs : List FE) (acc : Str) (ρ : Ev) (d : D) (_ : Fl) (S1 : Sto) : RE := match d with
  | .str y => if (acc ++ y).length ≤ lim then fJs fs (acc ++ y) ρ S1 else .bad
  | _ => .bad
theorem v_js0 {acc : Str} : fJs [] acc ρ S = .ok (.str acc) .tr S := rfl
theorem v_js {fe : FE} {fs : List FE} {acc : Str} : fJs (fe :: fs) acc ρ S = bE (fe ρ S) (kJs fs acc ρ) := rfl
def kLRg2 (a : Int) (e : D) (_ : Fl) (S2 : Sto) : RE := match e with
  | .int b => if rgOk a b = true then .ok (.lst (rgD a b)) .fs S2 else .bad
  | _ => .bad
def kLRg (fb : FE) (ρ : Ev) (d : D) (_ : Fl) (S1 : Sto) : RE := match d with
  | .int a => bE (fb ρ S1) (kLRg2 a)
  | _ => .bad
theorem v_lrg {fa fb : FE} : fLRg fa fb ρ S = bE (fa ρ S) (kLRg fb ρ) := rfl
theorem v_lrg1 {fb : FE} {a : Int} : kLRg fb ρ (.int a) f S = bE (fb ρ S) (kLRg2 a) := rfl
/-- keyword calls -/
def kCallK2 (n m : Nat) (g : FF) (gD : List D → List D → List D) (ds : List D) (r : RA) : RE := match r with
  | .ok es true S2 => if ds.length = n ∧ es.length = m then g (gD ds es) S2 else .bad
  | .xc c fs S2 => .xc c fs S2
  | _ => .bad
def kCallK (n m : Nat) (g : FF) (gD : List D → List D → List D) (fk : FA) (ρ : Ev) (r : RA) : RE := match r with
  | .ok ds true S1 => kCallK2 n m g gD ds (fk ρ S1)
  | .xc c fs S1 => .xc c fs S1
  | _ => .bad
theorem v_callK {n m : Nat} {g : FF} {gD : List D → List D → List D} {fa fk : FA} : fCallK n m g gD fa fk ρ S = kCallK n m g gD fk ρ (fa ρ S) := by unfold fCallK kCallK kCallK2; rfl
theorem v_callK1 {n m : Nat} {g : FF} {gD : List D → List D → List D} {fk : FA} {ds : List D} : kCallK n m g gD fk ρ (.ok ds true S) = kCallK2 n m g gD ds (fk ρ S) := rfl
end
end
end Fx
namespace Fx
open PySem PySem.Spec PyProof.Rows L2 U
noncomputable section
theorem fold_flat2 {step : StepC} {f : D → List D} {S : Sto} : ∀ {ds acc : List D}, (∀ d ∈ ds, ∀ acc : List D, acc.length + (f d).length ≤ lim → step d acc S = some (acc ++ f d, S)) → acc.length + (ds.flatMap f).length ≤ lim →
    foldC none step ds acc S = some (acc ++ ds.flatMap f, S)
  | [], acc, _, _ => by unfold foldC; rw [if_pos (gok_none S)]; simp
  | d :: ds, acc, h, hl => by
    rw [List.flatMap_cons, List.length_append] at hl
    unfold foldC
    rw [if_pos (gok_none S), h d List.mem_cons_self acc (by omega)]
    dsimp only
    rw [fold_flat2 (fun e he => h e (List.mem_cons_of_mem _ he)) (by rw [List.length_append]; omega), List.append_assoc, List.flatMap_cons]
theorem lc2_map {it it1 : FI} {set set1 : FG} {te : FE} {vs vs1 : List Nat} {ρ : Ev} {S : Sto} {ds : List D} {items : D → List D} {f : D → D → D} (hi : it ρ S = .ok ds none S)
    (h : ∀ d ∈ ds, ∃ ρ1, set d (wipeE ρ vs) S = some ρ1 ∧ it1 ρ1 S = .ok (items d) none S ∧ ∀ e ∈ items d, ∃ ρ2 fl, set1 e (wipeE ρ1 vs1) S = some ρ2 ∧ te ρ2 S = .ok (f d e) fl S ∧ fl.nop = true)
    (hl : (ds.flatMap fun d => (items d).map (f d)).length ≤ lim) : fLc2 it set (fC (.bl true)) it1 set1 (fC (.bl true)) te vs vs1 ρ S = .ok (.lst (ds.flatMap fun d => (items d).map (f d))) .fs S := by
  unfold fLc2 fLcG
  rw [hi]
  dsimp only
  rw [fold_flat2 (f := fun d => (items d).map (f d)) (fun d hd acc ha => ?_) (by simpa using hl), List.nil_append]
  obtain ⟨ρ1, e1, e2, e3⟩ := h d hd
  unfold step2
  rw [e1]
  dsimp only
  rw [v_c]
  dsimp only
  rw [e2]
  dsimp only
  rw [fold_flat2 (f := fun e => [f d e]) (fun e he acc' hb => ?_) (by
    have : ((items d).flatMap fun e => [f d e]) = (items d).map (f d) := by
      generalize items d = l
      induction l with
      | nil => rfl
      | cons x l ih => rw [List.flatMap_cons, ih]; rfl
    rw [this]; exact ha)]
  · congr 2
    congr 1
    generalize items d = l
    induction l with
    | nil => rfl
    | cons x l ih => rw [List.flatMap_cons, ih]; rfl
  · obtain ⟨ρ2, fl, g1, g2, g3⟩ := e3 e he
    unfold step1
    rw [g1]
    dsimp only
    rw [v_c]
    dsimp only
    rw [g2]
    dsimp only
    rw [g3, decide_eq_true (by have : ([f d e] : List D).length = 1 := rfl; omega)]
    rfl
section
variable {ρ : Ev} {S : Sto}
def kRng2 (r : RA) : RI := match r with
  | .ok [.int i, .int j] _ S1 => if -(2 ^ 62) ≤ i ∧ i < 2 ^ 62 ∧ -(2 ^ 62) ≤ j ∧ j < 2 ^ 62 then .ok (rngD i (j - i).toNat) none S1 else .bad
  | .xc c fs S1 => .xc c fs S1
  | _ => .bad
theorem v_rng2 {fa : FA} : fRng2 fa ρ S = kRng2 (fa ρ S) := by unfold fRng2 kRng2; rfl
theorem v_rng2a {i j : Int} {t : Bool} (h1 : -1000000 ≤ i) (h2 : i ≤ 1000000) (h3 : -1000000 ≤ j) (h4 : j ≤ 1000000) : kRng2 (.ok [.int i, .int j] t S) = .ok (rngD i (j - i).toNat) none S := by
  unfold kRng2; exact if_pos ⟨by omega, by omega, by omega, by omega⟩
theorem d_str_int {i : Int} {t : Bool} (h : i.natAbs.log2 < 1920) : dStr [.int i] t S = .ok (.str (toString i)) .tr S := by unfold dStr; exact if_pos h
/-- x in a list of texts -/
theorem flat_strs : ∀ zs : List Str, flatAll (zs.map D.str) = some (zs.map V.str)
  | [] => rfl
  | z :: zs => by simp only [List.map_cons, flatAll, flat, flat_strs zs]
theorem inV_strs (z : Str) : ∀ zs : List Str, inV (.str z) (zs.map V.str) = decide (z ∈ zs)
  | [] => rfl
  | w :: zs => by
    have ih := inV_strs z zs
    have e : inV (.str z) ((w :: zs).map V.str) = (eqV (.str w) (.str z) || inV (.str z) (zs.map V.str)) := rfl
    rw [e, ih]
    have e2 : eqV (.str w) (.str z) = decide (w = z) := by
      show (w == z) = _
      rw [Bool.eq_iff_iff]; simp
    rw [e2, ← Bool.decide_or]
    apply decide_eq_decide.mpr
    rw [List.mem_cons]
    exact ⟨fun h => h.imp Eq.symm id, fun h => h.imp Eq.symm id⟩
theorem d_in_strs {z : Str} {zs : List Str} : dIn false (.str z) (.lst (zs.map D.str)) S = .ok (.bl (decide (z ∈ zs))) .tr S := by
  unfold dIn
  simp only [flat, sqOf, flat_strs, inV_strs]
  rfl
theorem d_in_strsT {z : Str} {zs : List Str} : dIn false (.str z) (.tup (zs.map D.str)) S = .ok (.bl (decide (z ∈ zs))) .tr S := by
  unfold dIn
  simp only [flat, sqOf, flat_strs, inV_strs]
  rfl
end
theorem cut_neg {us vs : List D} (k : Int) (hk : k = -((vs.length : Nat) : Int)) (hv : vs ≠ []) : cutD (us ++ vs) none (some k) = us := by
  have hl : 0 < vs.length := List.length_pos_iff.mpr hv
  have e : HT.sIx (us ++ vs).length (us ++ vs).length (some k) = us.length := by
    simp only [HT.sIx, List.length_append]
    rw [if_pos (by omega)]
    omega
  unfold cutD
  rw [e, show HT.sIx (us ++ vs).length 0 none = 0 from rfl, Nat.sub_zero, List.drop_zero]
  exact List.take_left
theorem cutD_upto (xs : List D) (j : Nat) : cutD xs none (some (j : Int)) = xs.take j := by
  unfold cutD
  rw [HT.sIx_nat, HT.sIx_none]
  have := cut_mid xs 0 j
  simp only [Nat.zero_min, List.drop_zero, Nat.sub_zero] at this ⊢
  exact this
theorem cutD_from (xs : List D) (i : Nat) : cutD xs (some (i : Int)) none = xs.drop i := by
  unfold cutD
  rw [HT.sIx_nat, HT.sIx_none]
  have := cut_mid xs i xs.length
  rw [Nat.min_self] at this
  rw [this]
  by_cases h : i ≤ xs.length
  · exact List.take_of_length_le (by rw [List.length_drop]; omega)
  · rw [List.drop_eq_nil_of_le (by omega)]; simp
end
end Fx
namespace Fx
open PySem PySem.Spec PyProof.Rows L2 U
noncomputable section
/-- kinds of things -/
inductive Tg where
  | non | bl | int | str | lst | tup | dct | obj (c : Nat)
def tgD (S : Sto) : D → Option Tg
  | .non => some .non
  | .bl _ => some .bl
  | .int _ => some .int
  | .str _ => some .str
  | .lst _ => some .lst
  | .tup _ => some .tup
  | .dct _ => some .dct
  | .obj c _ => some (.obj c)
  | .cel k => (match S[k]? with
    | some (.lst _) => some .lst
    | some (.dK _) => some .dct
    | some (.ins c _) => some (.obj c)
    | none => none)
  | _ => none
def fIsiX (kt : Tg → Option Bool) (fe : FE) : FE := fun ρ S => bE (fe ρ S) fun d _ S1 => (match (tgD S1 d).bind kt with
  | some b => .ok (.bl b) .tr S1
  | none => .bad)
section
variable {G : Gm} {E : WX}
def fBinO (tab : List (Nat × FF)) (rg : Nat → Tg → Bool) (fa fb : FE) : FE := fun ρ S => bE (fa ρ S) fun d f1 S1 => bE (fb ρ S1) fun e f2 S2 => (match d with
  | .obj c es => if (f1.nop && f2.nop) = true then (match lookF c tab, tgD S2 e with
    | some F, some g => if rg c g = true then F [.obj c es, e] S2 else .bad
    | _, _ => .bad) else .bad
  | _ => .bad)
def fInO (neg : Bool) (tab : List (Nat × FF)) (fa fb : FE) : FE := fun ρ S => bE (fa ρ S) fun d f1 S1 => bE (fb ρ S1) fun e f2 S2 => (match e with
  | .obj c es => if (f1.nop && f2.nop) = true then (match lookF c tab with
    | some F => bE (F [.obj c es, d] S2) fun r _ S3 => (match r with
      | .bl k => .ok (.bl (k != neg)) .tr S3
      | _ => .bad)
    | none => .bad) else .bad
  | _ => .bad)
def fEqO (tab : List (Nat × FF)) (fa fb : FE) : FE := fun ρ S => bE (fa ρ S) fun d f1 S1 => bE (fb ρ S1) fun e f2 S2 => (match d, e with
  | .obj c es, .obj c' es' => if (f1.nop && f2.nop && decide (c' = c)) = true then (match lookF c tab with
    | some F => bE (F [.obj c es, .obj c' es'] S2) fun r _ S3 => (match r with
      | .bl k => .ok (.bl k) .tr S3
      | _ => .bad)
    | none => .bad) else .bad
  | _, _ => .bad)
end
section
variable {G : Gm} {E : WX}
def sAugD (i : Nat) (f : D → D → Sto → RE) (fe : FE) : FS := fun ρ S => match ρ[i]? with
  | some (.val x) => eS (fe ρ S) ρ fun d _ S1 => eS (f x d S1) ρ fun r fl S2 => if fl.nop = true then .nx (ρ.set i (.val r)) S2 else .bad
  | _ => .bad
theorem eS_post {F : Fr} {Dd : Ends} {ι ω : List Addr} {ρ : Ev} {σ : L2.St} {H : Hp} {r : RE} {k : D → Fl → Sto → RSt} (h : PostS G E F Dd ι ω H (eS r ρ k)) {Q : VK}
    (hc : ∀ d f S1 ι1 v H1, Ext ι H ι1 H1 → Rel G F ι1 ω ρ S1 σ H1 → RF G.K G.ca ι1 (F.B0 ++ ω) H H1 S1 v d f → PostS G E F Dd ι1 ω H1 (k d f S1) → Q v H1) : PostE G E F ι ω ρ σ H Q r := by
  cases r with
  | ok d f S1 => exact fun ι1 v H1 e1 r1 rf => hc d f S1 ι1 v H1 e1 r1 rf (PostS.ex h e1.s)
  | xc c fs S1 => exact fun ι' dd fv H' x rel' n1 n2 h1 h2 => h ι' ω σ dd fv H' x.s rel' n1 n2 h1 h2
  | bad => exact h
theorem ss_augD {i : Nat} {te : TE} {fe : FE} {ti : TIp} {f : D → D → Sto → RE} (hf : SR G E ti f) (he : SE G E te fe) : SS G E (tAug i te ti) (sAugD i f fe) := by
  intro F D ι ω ρ S σ H rel h
  unfold sAugD at h
  split at h
  · rename_i x ex
    obtain ⟨v, e1, rv⟩ := slot_val rel ex
    refine ⟨_, e1, ?_⟩
    refine he.bindS rel h fun d fl S1 ι1 w H1 x1 r1 rf h1 => ?_
    refine hf F ι1 ω ρ S1 σ H1 _ v w x d r1 (RT.v (rv.ex x1)) rf.rt (eS_post h1 fun r fl2 S2 ι2 u H2 x2 r2 rf2 h2 => ?_)
    split at h2
    · rename_i hn
      exact h2 ι2 ω _ H2 ExtS.refl (r2.set i (rf2.rv (by intro z; subst z; cases hn)))
    · exact h2.elim
  · exact h.elim
def dMulI (d e : D) (S : Sto) : RE := match d, e with
  | .int i, .int j => (if h : ((-(2 ^ 64) < i ∧ i < 2 ^ 64) ∨ (-(2 ^ 64) < j ∧ j < 2 ^ 64)) then .ok (.int (i * j)) .tr S else .bad)
  | _, _ => .bad
theorem sr_mulI : SR G E uMul dMulI := by
  intro F ι ω ρ S σ H Q x y d e rel hx hy h
  unfold dMulI at h
  split at h
  · rw [hx.sInt, hy.sInt]
    split at h
    · exact ⟨by assumption, PostE.now h rel (.int _)⟩
    · exact h.elim
  · exact h.elim
end
def firstIdx (q : PyData) : List PyData → Nat → Option Nat
  | [], _ => none
  | p :: ps, i => if PyData.eqv p q = true then some i else firstIdx q ps (i + 1)
section
variable {G : Gm} {E : WX}
def isLs (S : Sto) : D → Bool
  | .lst _ => true
  | .cel k => (match S[k]? with | some (.lst _) => true | _ => false)
  | _ => false
def kIdxL (d e : D) (S : Sto) : RE := match toP S d, toP S e with
  | some (.list ps), some q => if (SeqAt.shaped (.list ps) && SeqAt.shaped q && !(PyData.list ps).hasDict && !q.hasDict) = true then (match firstIdx q ps 0 with
    | some j => .ok (.int (j : Nat)) .tr S
    | none => .bad) else .bad
  | _, _ => .bad
def fIdxL (fo fe : FE) : FE := fun ρ S => bE (fo ρ S) fun d _ S1 => if isLs S1 d = true then bE (fe ρ S1) fun e _ S2 => kIdxL d e S2 else .bad
end
section
variable {ρ : Ev} {S S1 S2 : Sto} {d e : D} {f f1 f2 fl : Fl} {c : Nat} {fs es : List (Str × D)} {tab : List (Nat × FF)}
def kIsiX (kt : Tg → Option Bool) (d : D) (_ : Fl) (S1 : Sto) : RE := match (tgD S1 d).bind kt with
  | some b => .ok (.bl b) .tr S1
  | none => .bad
theorem v_isiX {kt : Tg → Option Bool} {fe : FE} : fIsiX kt fe ρ S = bE (fe ρ S) (kIsiX kt) := rfl
def kBinO2 (tab : List (Nat × FF)) (rg : Nat → Tg → Bool) (d : D) (f1 : Fl) (e : D) (f2 : Fl) (S2 : Sto) : RE := match d with
  | .obj c es => if (f1.nop && f2.nop) = true then (match lookF c tab, tgD S2 e with
    | some F, some g => if rg c g = true then F [.obj c es, e] S2 else .bad
    | _, _ => .bad) else .bad
  | _ => .bad
def kBinO1 (tab : List (Nat × FF)) (rg : Nat → Tg → Bool) (fb : FE) (ρ : Ev) (d : D) (f1 : Fl) (S1 : Sto) : RE := bE (fb ρ S1) (kBinO2 tab rg d f1)
theorem v_binO {rg : Nat → Tg → Bool} {fa fb : FE} : fBinO tab rg fa fb ρ S = bE (fa ρ S) (kBinO1 tab rg fb ρ) := rfl
theorem v_binO1 {rg : Nat → Tg → Bool} {fb : FE} : kBinO1 tab rg fb ρ d f S = bE (fb ρ S) (kBinO2 tab rg d f) := rfl
def kInO3 (neg : Bool) (r : D) (_ : Fl) (S3 : Sto) : RE := match r with
  | .bl k => .ok (.bl (k != neg)) .tr S3
  | _ => .bad
def kInO2 (neg : Bool) (tab : List (Nat × FF)) (d : D) (f1 : Fl) (e : D) (f2 : Fl) (S2 : Sto) : RE := match e with
  | .obj c es => if (f1.nop && f2.nop) = true then (match lookF c tab with
    | some F => bE (F [.obj c es, d] S2) (kInO3 neg)
    | none => .bad) else .bad
  | _ => .bad
def kInO1 (neg : Bool) (tab : List (Nat × FF)) (fb : FE) (ρ : Ev) (d : D) (f1 : Fl) (S1 : Sto) : RE := bE (fb ρ S1) (kInO2 neg tab d f1)
theorem v_inO {neg : Bool} {fa fb : FE} : fInO neg tab fa fb ρ S = bE (fa ρ S) (kInO1 neg tab fb ρ) := rfl
theorem v_inO1 {neg : Bool} {fb : FE} : kInO1 neg tab fb ρ d f S = bE (fb ρ S) (kInO2 neg tab d f) := rfl
theorem v_inO3 {neg k : Bool} : kInO3 neg (.bl k) f S = .ok (.bl (k != neg)) .tr S := rfl
def kEqO3 (r : D) (_ : Fl) (S3 : Sto) : RE := match r with
  | .bl k => .ok (.bl k) .tr S3
  | _ => .bad
def kEqO2 (tab : List (Nat × FF)) (d : D) (f1 : Fl) (e : D) (f2 : Fl) (S2 : Sto) : RE := match d, e with
  | .obj c es, .obj c' es' => if (f1.nop && f2.nop && decide (c' = c)) = true then (match lookF c tab with
    | some F => bE (F [.obj c es, .obj c' es'] S2) kEqO3
    | none => .bad) else .bad
  | _, _ => .bad
def kEqO1 (tab : List (Nat × FF)) (fb : FE) (ρ : Ev) (d : D) (f1 : Fl) (S1 : Sto) : RE := bE (fb ρ S1) (kEqO2 tab d f1)
theorem v_eqO {fa fb : FE} : fEqO tab fa fb ρ S = bE (fa ρ S) (kEqO1 tab fb ρ) := rfl
theorem v_eqO1 {fb : FE} : kEqO1 tab fb ρ d f S = bE (fb ρ S) (kEqO2 tab d f) := rfl
theorem v_eqO3 {k : Bool} : kEqO3 (.bl k) f S = .ok (.bl k) .tr S := rfl
def kAugD2 (i : Nat) (ρ : Ev) (r : D) (fl : Fl) (S2 : Sto) : RSt := if fl.nop = true then .nx (ρ.set i (.val r)) S2 else .bad
def kAugD1 (i : Nat) (g : D → D → Sto → RE) (ρ : Ev) (x d : D) (_ : Fl) (S1 : Sto) : RSt := eS (g x d S1) ρ (kAugD2 i ρ)
def kAugD (i : Nat) (g : D → D → Sto → RE) (fe : FE) (ρ : Ev) (S : Sto) (s : Option Sl) : RSt := match s with
  | some (.val x) => eS (fe ρ S) ρ (kAugD1 i g ρ x)
  | _ => .bad
theorem v_augD {i : Nat} {g : D → D → Sto → RE} {fe : FE} : sAugD i g fe ρ S = kAugD i g fe ρ S ρ[i]? := by unfold sAugD kAugD kAugD1 kAugD2; rfl
theorem v_augD0 {i : Nat} {g : D → D → Sto → RE} {fe : FE} {x : D} : kAugD i g fe ρ S (some (.val x)) = eS (fe ρ S) ρ (kAugD1 i g ρ x) := rfl
theorem v_augD1 {i : Nat} {g : D → D → Sto → RE} {x : D} : kAugD1 i g ρ x d f S = eS (g x d S) ρ (kAugD2 i ρ) := rfl
theorem v_augD2 {i : Nat} : kAugD2 i ρ d .tr S = .nx (ρ.set i (.val d)) S := rfl
theorem d_mulI {i j : Int} (h : ((-(2 ^ 64) < i ∧ i < 2 ^ 64) ∨ (-(2 ^ 64) < j ∧ j < 2 ^ 64))) : dMulI (.int i) (.int j) S = .ok (.int (i * j)) .tr S := by unfold dMulI; dsimp only; rw [dif_pos h]
def kIdx2 (d e : D) (_ : Fl) (S : Sto) : RE := kIdxL d e S
def kIdx1 (fe : FE) (ρ : Ev) (d : D) (_ : Fl) (S1 : Sto) : RE := if isLs S1 d = true then bE (fe ρ S1) (kIdx2 d) else .bad
theorem v_idxL {fo fe : FE} : fIdxL fo fe ρ S = bE (fo ρ S) (kIdx1 fe ρ) := rfl
theorem v_idxL1 {fe : FE} {ds : List D} : kIdx1 fe ρ (.lst ds) f S = bE (fe ρ S) (kIdx2 (.lst ds)) := rfl
theorem v_idxL2 : kIdx2 d e f S = kIdxL d e S := rfl
end
end
end Fx
namespace U
open PySem PySem.Spec PyProof.Rows L2 NdefX
/-- statements of a def whose own code is known -/
structure PSA (X : Cx) (c : Code) (b : List Stmt) (t : TS) : Prop where
  run : ∀ (pins : List (Addr × Obj)) (s : Shared) (σ : L2.St) (H : Hp) (D : Ends), Inv X pins σ H s → t D σ H → _root_.PySem.wpAt (model X.prog X.w) X.A c (execs b X.env) (SP X pins D) X.xe s
/-- what the text says for super() in a method at f of the class at D, whose cell is cc and code object cda; f2 the method of the class above -/
structure SupC (P : Program) (K : PySem.W.Frag) (D f2 cc cda : Addr) : Prop where
  cell : ∃ cl cld csl, K.lookup cc = some ⟨cl, cld, .cell (some (.ref D)), csl⟩
  code : ∃ ccl cdd vs ccs file tf, K.lookup cda = some ⟨ccl, cdd, .fields vs, ccs⟩ ∧ vs[2]? = some (.str file tf) ∧ ((P.main.file : Str) == file) = true
  top : (P.main.scope.names.lookup ("super" : Str)).isSome = false
  cls : ∃ cd, PySem.W.clsIn K D = some cd ∧ PySem.W.alongIn K "__init__" ((cd.mro.dropWhile (· != .ref D)).drop 1) = some (some (.ref f2))
  sub : PySem.W.mroIn K D (.ref D) = some true
  opq : PySem.W.nsIn K cStatics "thirdparty.any" = some none
  ty : PySem.W.typeIn K (.ref f2) = some (.type "function")
  fi : PySem.W.fnIn K f2 = true
abbrev nfS (name qual : Str) (params : Arguments) (body : List Stmt) (scope : Scope) (cc cda : Addr) : NF := ⟨name, qual, params, body, scope, [("__class__", cc)], cda⟩
abbrev cxS (CX : CXT) (P : Program) (w : World) (K : PySem.W.Frag) (mg : Str → Option Value) (base : Heap) (N : List Str) (name qual : Str) (params : Arguments) (body : List Stmt) (scope : Scope) (cc cda f : Addr) (A : Around) (outer : List Env) (s : Shared) (H : Hp) (E : XK) : Cx :=
  ncx CX P w K mg base N (nfS name qual params body scope cc cda) f A outer s H E
abbrev envS (name qual : Str) (params : Arguments) (body : List Stmt) (scope : Scope) (cc cda f L : Addr) : Env := envF (nfS name qual params body scope cc cda) f L
theorem fn_ofS {CX : CXT} {P : Program} {w : World} {K : PySem.W.Frag} {mg : Str → Option Value} {base : Heap} {k : Nat} {f cc cda D : Addr} {name qual : Str} {params : Arguments} {body : List Stmt} {scope : Scope} {dV kV doc pm ct oc : Value} {an od : Option Addr}
    {osl : Array (Option Value)} {N ps : List Str} {sp : Sp} (lk : K.lookup f = some ⟨oc, od, .func (PySem.W.ksFn name qual params body scope dV kV doc pm an (.ref cda) ct cc), osl⟩) (hcd : PySem.W.codeIn K (.ref cda) qual = true) (S : NScope N ps ["__class__"] scope)
    (cell : ∃ cl cld csl, K.lookup cc = some ⟨cl, cld, .cell (some (.ref D)), csl⟩) (len : ∀ vs H Q E, sp vs H Q E → vs.length = ps.length)
    (hbody : ∀ (A : Around) (outer : List Env) (s : Shared) (H : Hp) (vs : List V) (Q : VK) (E : XK), Room k (A.deeper (envS name qual params body scope cc cda f s.heap.objs.size)) → sp vs H Q E →
      ∃ t, PSA (cxS CX P w K mg base N name qual params body scope cc cda f A outer s H E) (.func body (envS name qual params body scope cc cda f s.heap.objs.size)) body t ∧ t { nx := fun _ H' => Q .non H', rt := Q } (startF N vs [some (.ref D)]) H) :
    FnOk P w K mg base CX (k + 1) f (PySem.W.ksFn name qual params body scope dV kV doc pm an (.ref cda) ct cc) ps sp := by
  obtain ⟨cl, cld, csl, cell⟩ := cell
  refine ⟨len, fun A outer s H args us vs Q E hr e0 hb r hsp => ?_⟩
  have hl := len _ _ _ _ hsp
  have KX : K.In s.heap := e0.mod.kin.keeps fun b o e => (e0.bs b o e).1
  have lim : s.heap.NoLimit := e0.mod.nolimit.keeps fun b o e => (e0.bs b o e).1
  have C : CellsAt [(("__class__" : Str), cc)] ["__class__"] [some (.ref D)] s.heap H := by
    have one : ∀ {y c}, ([(("__class__" : Str), cc)] : List (Str × Addr)).lookup y = some c → y = "__class__" ∧ c = cc := fun {y c} h => by
      rw [List.lookup_cons] at h
      split at h
      · rename_i z; cases h; exact ⟨by simpa using z, rfl⟩
      · cases h
    refine ⟨rfl, fun y c h => ?_, fun x y c h1 h2 => (one h1).1.trans (one h2).1.symm, fun i y h => ?_⟩
    · obtain ⟨_, rfl⟩ := one h
      exact ⟨(e0.bs _ _ (e0.mod.kin _ _ cell)).2, _, _, KX _ _ cell, rfl⟩
    · cases i with
      | zero =>
        cases h
        exact ⟨cc, rfl, fun v hv => by cases hv; exact ⟨.ref D, rfl, _, KX _ _ cell, rfl⟩⟩
      | succ i => cases h
  refine ks_codeAny_call_defAt (fd := PySem.W.ksFn name qual params body scope dV kV doc pm an (.ref cda) ct cc) (body := body) (binds := ps.zip us) hr.depth (KX _ _ lk) rfl lim (PySem.W.codeRec_of KX hcd) rfl hb S.nocell (fun ⟨n, _⟩ hy => S.par n (List.of_mem_zip hy).1) (fun h₁ hns kp => ?_) S.co S.gen S.kind
  obtain ⟨t, ht, hq⟩ := hbody A outer s H vs Q E (hr.deeper _) hsp
  have I : Inv (cxS CX P w K mg base N name qual params body scope cc cda f A outer s H E) [] (startF N vs [some (.ref D)]) H { s with heap := h₁, toks := s.toks + (ps.zip us).length } := inv_startN S hr.hd e0 hl r C hns kp
  refine ks_wpAt_mono (ht.run [] _ _ H _ I hq) (fun fl s' hs => ?_) fun e s' hs => hs
  have fin : ∀ {σ' : L2.St} {H' : Hp} {v : V} {u : Value}, Inv (cxS CX P w K mg base N name qual params body scope cc cda f A outer s H E) [] σ' H' s' → L2.RelV v u → Q v H' → CE outer P w H s Q u s' :=
    fun {σ' H' v u} J rv q => ⟨v, H', J.os, J.bare, J.base, J.hok, rv, q⟩
  cases fl with
  | ret u =>
    obtain ⟨v, σ', H', J, rv, q⟩ := hs
    exact fin J rv q
  | next =>
    obtain ⟨σ', H', J, q⟩ := hs
    exact fin (v := V.non) (u := Value.none) J rfl q
  | brk =>
    obtain ⟨_, _, _, q⟩ := hs
    exact False.elim q
  | cont =>
    obtain ⟨_, _, _, q⟩ := hs
    exact False.elim q
end U
namespace Fx
open PySem PySem.Spec PyProof.Rows L2 U NdefX
noncomputable section
section
variable {G : Gm} {E : WX} {F : Fr} {Dd : Ends} {ι ω ι' : List Addr} {ρ : Ev} {S S' : Sto} {σ : L2.St} {H H' : Hp} {Q : VK}
def kSup (f : FIn) (ρ : Ev) (ds : List D) (S1 : Sto) : RSt := match ρ[0]? with
  | some (Sl.oob c es) => (match f c es ds S1 with
    | .ok es' S2 => .nx (ρ.set 0 (.oob c es')) S2
    | _ => .bad)
  | _ => .bad
def sSup (c0 : Nat) (f : FIn) (fa : FA) : FS := fun ρ S => match fa ρ S with
  | .ok ds true S1 => (match ρ[0]? with
    | some (Sl.oob c _) => if c = c0 then kSup f ρ ds S1 else .bad
    | _ => .bad)
  | _ => .bad
end
end
end Fx
namespace U
open PySem PySem.Spec PyProof.Rows L2 NdefX
structure PEnt (X : Cx) (m : Str) (n : Nat) (C : Addr) (sp : Sp) : Prop where
  ex : ∃ k f p fd ps, k ≤ n ∧ Cls X.K C ∧ PropOf X.K C m p f ∧ FnOk X.prog X.w X.K X.mg X.base CX0 k f fd ps sp ∧ Binds X.K fd ps []
inductive PTab (X : Cx) (m : Str) (n : Nat) : List (Addr × Sp) → Prop
  | nil : PTab X m n []
  | cons {C : Addr} {sp : Sp} {l : List (Addr × Sp)} : PEnt X m n C sp → PTab X m n l → PTab X m n ((C, sp) :: l)
theorem PTab.at' {X : Cx} {m : Str} {n : Nat} {C : Addr} {sp : Sp} : ∀ {l : List (Addr × Sp)}, PTab X m n l → (C, sp) ∈ l → PEnt X m n C sp
  | _, .cons h r, hm => by
    rcases List.mem_cons.mp hm with e | e
    · cases e; exact h
    · exact r.at' e
structure FunS (P : Program) (K : PySem.W.Frag) (x qual : Str) (st : Stmt) (dvs : List V) (f : Addr) (fd : FuncData) (D f2 : Addr) : Prop where
  ex : ∃ (oc : Value) (od : Option Addr) (dV kV doc pm : Value) (an : Option Addr) (cda cc : Addr) (ct : Value) (osl : Array (Option Value)),
    fd = PySem.W.ksFn x qual (defArgs st) (defBody st) (defScope st) dV kV doc pm an (.ref cda) ct cc ∧ K.lookup f = some ⟨oc, od, .func fd, osl⟩ ∧ PySem.W.codeIn K (.ref cda) qual = true ∧ DflV K dV dvs ∧ SupC P K D f2 cc cda
  kp : PySem.W.keepIn K (.ref f) = true
section
variable {P : Program} {w : World} {K : PySem.W.Frag} {mg : Str → Option Value} {base : Heap} {x qual : Str} {st : Stmt} {dvs : List V} {f D f2 : Addr} {fd : FuncData} {ps : List Str}
theorem FunS.ok {CX : CXT} {N : List Str} {k : Nat} {sp : Sp} (F : FunS P K x qual st dvs f fd D f2) (S : NScope N ps ["__class__"] (defScope st)) (len : ∀ vs H Q E, sp vs H Q E → vs.length = ps.length)
    (hbody : ∀ (cc cda : Addr) (A : Around) (outer : List Env) (s : Shared) (H : Hp) (vs : List V) (Q : VK) (E : XK), SupC P K D f2 cc cda → (∃ oc od fd osl, K.lookup f = some ⟨oc, od, .func fd, osl⟩ ∧ fd.params = defArgs st) → Room k (A.deeper (envS x qual (defArgs st) (defBody st) (defScope st) cc cda f s.heap.objs.size)) → sp vs H Q E →
      ∃ t, PSA (cxS CX P w K mg base N x qual (defArgs st) (defBody st) (defScope st) cc cda f A outer s H E) (.func (defBody st) (envS x qual (defArgs st) (defBody st) (defScope st) cc cda f s.heap.objs.size)) (defBody st) t ∧ t { nx := fun _ H' => Q .non H', rt := Q } (startF N vs [some (.ref D)]) H) :
    FnOk P w K mg base CX (k + 1) f fd ps sp := by
  obtain ⟨oc, od, dV, kV, doc, pm, an, cda, cc, ct, osl, rfl, lk, hcd, _, T⟩ := F.ex
  exact fn_ofS lk hcd S T.cell len fun A outer s H vs Q E hr h => hbody cc cda A outer s H vs Q E T ⟨oc, od, _, osl, lk, rfl⟩ hr h
theorem FunS.binds (F : FunS P K x qual st dvs f fd D f2) (h : ∀ (dV kV doc pm : Value) (an : Option Addr) (cdv ct : Value) (cc : Addr) (us : List Value), us.length = ps.length → bindArgs (PySem.W.ksFn x qual (defArgs st) (defBody st) (defScope st) dV kV doc pm an cdv ct cc) ⟨us, []⟩ = pure (ps.zip us)) : Binds K fd ps [] := by
  obtain ⟨oc, od, dV, kV, doc, pm, an, cda, cc, ct, osl, rfl, lk, hcd, _, T⟩ := F.ex
  exact .all fun us hl => h dV kV doc pm an (.ref cda) ct cc us hl
end
def uStrX : List V → Hp → VK → Prop := fun xs H Q => match xs with
  | [.int i] => i.natAbs.log2 < 1920 ∧ Q (.str (toString i)) H
  | [.str z] => Q (.str z) H
  | _ => False
theorem cu_strX {X : Cx} : CallR X (.type "str") uStrX := CallRi (CallR.or call_str_int SkE.call_str_str) fun xs H Q h => by
  unfold uStrX at h
  split at h
  · exact .inl ⟨_, rfl, h⟩
  · exact .inr ⟨_, rfl, h⟩
  · exact h.elim
end U
namespace Fx
open PySem PySem.Spec PyProof.Rows L2 U
noncomputable section
section
variable {G : Gm} {E : WX}
def kCallT (tab : List (Nat × FF)) (fa : FA) (ρ : Ev) (d : D) (f : Fl) (S : Sto) : RE := match d with
  | .obj c es => if f.nop = true then (match lookF c tab with
    | some F => fCB (fun ds t S2 => if t = true then F (.obj c es :: ds) S2 else .bad) fa ρ S
    | none => .bad) else .bad
  | _ => .bad
def fCallT (tab : List (Nat × FF)) (fo : FE) (fa : FA) : FE := fun ρ S => bE (fo ρ S) (kCallT tab fa ρ)
def kPropT (tab : List (Nat × FF)) (d : D) (f : Fl) (S : Sto) : RE := match d with
  | .obj c es => if f.nop = true then (match lookF c tab with
    | some F => F [.obj c es] S
    | none => .bad) else .bad
  | _ => .bad
def fPropT (tab : List (Nat × FF)) (fo : FE) : FE := fun ρ S => bE (fo ρ S) (kPropT tab)
def dStrX (ds : List D) (_ : Bool) (S : Sto) : RE := match ds with
  | [.int i] => if i.natAbs.log2 < 1920 then .ok (.str (toString i)) .tr S else .bad
  | [.str z] => .ok (.str z) .tr S
  | _ => .bad
theorem sc_strX : SC G E uStrX dStrX := by
  intro F ι ω ρ S σ H Q vs ds t rel ha h
  have ha := ha.pair
  unfold dStrX at h
  split at h
  · obtain ⟨v, rfl, q⟩ := pair1 ha
    rw [q.sInt]
    split at h
    · exact ⟨by assumption, PostE.now h rel (.str _)⟩
    · exact h.elim
  · obtain ⟨v, rfl, q⟩ := pair1 ha
    rw [q.sStr]
    exact PostE.now h rel (.str _)
  · exact h.elim
end
section
variable {ρ : Ev} {S S1 S2 : Sto} {d e : D} {f f1 f2 fl : Fl} {c : Nat} {fs es : List (Str × D)} {tab : List (Nat × FF)}
theorem v_callT {fo : FE} {fa : FA} : fCallT tab fo fa ρ S = bE (fo ρ S) (kCallT tab fa ρ) := rfl
theorem v_propT {fo : FE} : fPropT tab fo ρ S = bE (fo ρ S) (kPropT tab) := rfl
theorem d_strX_str {z : Str} {t : Bool} : dStrX [.str z] t S = .ok (.str z) .tr S := rfl
def kSupR (c0 : Nat) (g : FIn) (ρ : Ev) (r : RA) : RSt := match r with
  | .ok ds true S1 => (match ρ[0]? with
    | some (Sl.oob c _) => if c = c0 then kSup g ρ ds S1 else .bad
    | _ => .bad)
  | _ => .bad
theorem v_sup {c0 : Nat} {g : FIn} {fa : FA} : sSup c0 g fa ρ S = kSupR c0 g ρ (fa ρ S) := by unfold sSup kSupR; rfl
end
end
end Fx
namespace U
open PySem PySem.Spec PyProof.Rows L2
end U
namespace Fx
open PySem PySem.Spec PyProof.Rows L2 U
noncomputable section
section
variable {G : Gm} {E : WX} {F : Fr} {Dd : Ends} {ι ω : List Addr} {ρ : Ev} {S : Sto} {σ : L2.St} {H : Hp}
def intsOf : List D → Option (List Int)
  | [] => some []
  | .int b :: ds => (intsOf ds).map (b :: ·)
  | _ :: _ => none
def dSum (ds : List D) (_ : Bool) (S : Sto) : RE := match ds with
  | [d] => (match lsOf S d with
    | some es => (match intsOf es with
      | some ns => .ok (.int ns.sum) .tr S
      | none => .bad)
    | none => .bad)
  | _ => .bad
def sAsgNS (i j : Nat) (fi fe : FE) : FS := fun ρ S => eS (fe ρ S) ρ fun d f S1 => if f.nop = true then (match sqOf S1 d with
  | some [d1, d2] => (if hasL j (ρ.set i (.val d1)) S1 = true then eS (fi (ρ.set i (.val d1)) S1) (ρ.set i (.val d1)) fun e _ S2 => (match e with
    | .int k => putL j (ρ.set i (.val d1)) S2 (fun ds => (ixN ds.length k).map fun m => ds.set m d2)
    | _ => .bad) else .bad)
  | _ => .bad) else .bad
def sAppX (fo fe : FE) : FS := fun ρ S => eS (fo ρ S) ρ fun d _ S1 => (match d with
  | .cel k => (match S1[k]? with
    | some (.lst _) => eS (fe ρ S1) ρ fun v f S2 => if f.nop = true then (match S2[k]? with
      | some (.lst ds) => if ds.length < lim then .nx ρ (S2.set k (.lst (ds ++ [v]))) else .bad
      | _ => .bad) else .bad
    | _ => .bad)
  | _ => .bad)
end
section
variable {ρ : Ev} {S S1 S2 : Sto} {d e v : D} {f f1 f2 fl : Fl}
theorem at0 {α : Type} {c : α} {r : List α} : atI (c :: r) 0 = some c := by
  unfold atI ixN
  rw [if_pos (by decide), if_pos (by show (0 : Int) < ((c :: r).length : Int); rw [List.length_cons]; omega)]
  rfl
theorem at1 {α : Type} {b c : α} {r : List α} : atI (b :: c :: r) 1 = some c := by
  unfold atI ixN
  rw [if_pos (by decide), if_pos (by show (1 : Int) < ((b :: c :: r).length : Int); rw [List.length_cons, List.length_cons]; omega)]
  rfl
theorem at2 {α : Type} {a b c : α} {r : List α} : atI (a :: b :: c :: r) 2 = some c := by
  unfold atI ixN
  rw [if_pos (by decide), if_pos (by show (2 : Int) < ((a :: b :: c :: r).length : Int); rw [List.length_cons, List.length_cons, List.length_cons]; omega)]
  rfl
theorem d_ixl0 {a : D} {r : List D} : dIx (.lst (a :: r)) (.int 0) S = .ok a .tr S := d_ix_lst at0
theorem d_ixl1 {a b : D} {r : List D} : dIx (.lst (a :: b :: r)) (.int 1) S = .ok b .tr S := d_ix_lst at1
theorem d_ixl2 {a b c : D} {r : List D} : dIx (.lst (a :: b :: c :: r)) (.int 2) S = .ok c .tr S := d_ix_lst at2
theorem d_ixt0 {a : D} {r : List D} : dIx (.tup (a :: r)) (.int 0) S = .ok a .tr S := d_ix_tup at0
theorem d_ixt1 {a b : D} {r : List D} : dIx (.tup (a :: b :: r)) (.int 1) S = .ok b .tr S := d_ix_tup at1
theorem d_lst1 {a : D} : dLst [a] true S = .ok (.lst [a]) .fs S := d_lst (by show 1 ≤ lim; decide)
theorem d_lst2 {a b : D} : dLst [a, b] true S = .ok (.lst [a, b]) .fs S := d_lst (by show 2 ≤ lim; decide)
theorem d_lst0 : dLst [] true S = .ok (.lst []) .fs S := d_lst (by show 0 ≤ lim; decide)
theorem d_tup0 : dTup [] true S = .ok (.tup []) .tr S := d_tup (by show 0 ≤ lim; decide)
theorem d_tup1 {a : D} : dTup [a] true S = .ok (.tup [a]) .tr S := d_tup (by show 1 ≤ lim; decide)
theorem d_tup2 {a b : D} : dTup [a, b] true S = .ok (.tup [a, b]) .tr S := d_tup (by show 2 ≤ lim; decide)
theorem d_int_int {i : Int} {t : Bool} : dInt [.int i] t S = .ok (.int i) .tr S := rfl
theorem d_neg {i : Int} : dNeg (.int i) S = .ok (.int (-i)) .tr S := rfl
theorem v_gt2 {fs : FGs} {a b : D} : gT 2 fs (.tup [a, b]) ρ S = fs [a, b] ρ S := rfl
theorem v_gt1 {fs : FGs} {a : D} : gT 1 fs (.tup [a]) ρ S = fs [a] ρ S := rfl
theorem ints_map : ∀ (ns : List Int), intsOf (ns.map D.int) = some ns
  | [] => rfl
  | n :: ns => by show (intsOf (ns.map D.int)).map (n :: ·) = _; rw [ints_map ns]; rfl
theorem d_sum {ns : List Int} {t : Bool} : dSum [.lst (ns.map D.int)] t S = .ok (.int ns.sum) .tr S := by
  unfold dSum; show (match intsOf (ns.map D.int) with | some ns => RE.ok (.int ns.sum) .tr S | none => .bad) = _; rw [ints_map]
def kAsgNS (i j : Nat) (fi : FE) (ρ : Ev) (d : D) (f : Fl) (S1 : Sto) : RSt := if f.nop = true then (match sqOf S1 d with
  | some [d1, d2] => (if hasL j (ρ.set i (.val d1)) S1 = true then eS (fi (ρ.set i (.val d1)) S1) (ρ.set i (.val d1)) fun e _ S2 => (match e with
    | .int k => putL j (ρ.set i (.val d1)) S2 (fun ds => (ixN ds.length k).map fun m => ds.set m d2)
    | _ => .bad) else .bad)
  | _ => .bad) else .bad
theorem v_asgNS {i j : Nat} {fi fe : FE} : sAsgNS i j fi fe ρ S = eS (fe ρ S) ρ (kAsgNS i j fi ρ) := rfl
def kAppX (fe : FE) (ρ : Ev) (d : D) (_ : Fl) (S1 : Sto) : RSt := match d with
  | .cel k => (match S1[k]? with
    | some (.lst _) => eS (fe ρ S1) ρ fun v f S2 => if f.nop = true then (match S2[k]? with
      | some (.lst ds) => if ds.length < lim then .nx ρ (S2.set k (.lst (ds ++ [v]))) else .bad
      | _ => .bad) else .bad
    | _ => .bad)
  | _ => .bad
theorem v_appX {fo fe : FE} : sAppX fo fe ρ S = eS (fo ρ S) ρ (kAppX fe ρ) := rfl
end
end
end Fx
namespace Fx
open PySem PySem.Spec PyProof.Rows L2 U
theorem foldE {α : Type} {g : Gd} {step : StepC} {e : α → D} {f : α → List D} {S : Sto} (hg : gOk g S) : ∀ {l : List α} {acc : List D}, (∀ a ∈ l, ∀ acc : List D, acc.length < lim → step (e a) acc S = some (acc ++ f a, S)) → (∀ a ∈ l, (f a).length ≤ 1) → acc.length + l.length ≤ lim →
    foldC g step (l.map e) acc S = some (acc ++ l.flatMap f, S)
  | [], acc, _, _, _ => by rw [List.map_nil]; unfold foldC; rw [if_pos hg]; simp
  | d :: l, acc, h, h1, hl => by
    rw [List.length_cons] at hl
    rw [List.map_cons]
    unfold foldC
    rw [if_pos hg, h d List.mem_cons_self acc (by omega)]
    have := h1 d List.mem_cons_self
    dsimp only
    rw [foldE hg (fun e he => h e (List.mem_cons_of_mem _ he)) (fun e he => h1 e (List.mem_cons_of_mem _ he)) (by rw [List.length_append]; omega), List.append_assoc, List.flatMap_cons]
theorem flatE {α : Type} (c : α → Bool) (f : α → D) : ∀ l : List α, l.flatMap (fun a => if c a = true then [f a] else []) = (l.filter c).map f
  | [] => rfl
  | a :: l => by
    rw [List.flatMap_cons, flatE c f l]
    cases h : c a with
    | true => rw [if_pos rfl, List.filter_cons_of_pos h]; rfl
    | false => rw [if_neg (by decide), List.filter_cons_of_neg (by rw [h]; decide)]; rfl
theorem lc_flatE {α : Type} {it : FI} {set : FG} {tt te : FE} {vs : List Nat} {ρ : Ev} {S S1 : Sto} {l : List α} {e : α → D} {g : Gd} {c : α → Bool} {f : α → D} (hi : it ρ S = .ok (l.map e) g S1) (hg : gOk g S1) (hl : l.length ≤ lim)
    (h : ∀ a ∈ l, ∃ ρ1 f1, set (e a) (wipeE ρ vs) S1 = some ρ1 ∧ tt ρ1 S1 = .ok (.bl (c a)) f1 S1 ∧ (c a = true → ∃ f2, te ρ1 S1 = .ok (f a) f2 S1 ∧ f2.nop = true)) :
    fLc it set tt te vs ρ S = .ok (.lst ((l.filter c).map f)) .fs S1 := by
  unfold fLc fLcG
  rw [hi]
  try dsimp only
  rw [foldE (f := fun a => if c a = true then [f a] else []) hg (fun a ha acc hlt => by
    obtain ⟨ρ1, f1, e1, e2, e3⟩ := h a ha
    unfold step1
    rw [e1]; try dsimp only
    rw [e2]; try dsimp only
    cases hc : c a with
    | true =>
      obtain ⟨f2, e4, e5⟩ := e3 hc
      try dsimp only
      rw [e4]; try dsimp only
      rw [e5, decide_eq_true hlt]; rfl
    | false =>
      try dsimp only
      rw [if_neg (by decide), List.append_nil]) (fun a _ => by split <;> simp) (by simpa using hl)]
  rw [flatE, List.nil_append]
theorem lc_mapE {α : Type} {it : FI} {set : FG} {te : FE} {vs : List Nat} {ρ : Ev} {S S1 : Sto} {l : List α} {e : α → D} {g : Gd} {f : α → D} (hi : it ρ S = .ok (l.map e) g S1) (hg : gOk g S1) (hl : l.length ≤ lim)
    (h : ∀ a ∈ l, ∃ ρ1 f2, set (e a) (wipeE ρ vs) S1 = some ρ1 ∧ te ρ1 S1 = .ok (f a) f2 S1 ∧ f2.nop = true) :
    fLc it set (fC (.bl true)) te vs ρ S = .ok (.lst (l.map f)) .fs S1 := by
  have := lc_flatE (tt := fC (.bl true)) (te := te) (c := fun _ => true) (f := f) hi hg hl fun a ha => by
    obtain ⟨ρ1, f2, e1, e2, e3⟩ := h a ha
    exact ⟨ρ1, .tr, e1, rfl, fun _ => ⟨f2, e2, e3⟩⟩
  rw [this, List.filter_eq_self.mpr (fun _ _ => rfl)]
/-- a for over the images of a list: what holds behind each part of it -/
theorem loopP {α : Type} {g : Gd} {set : FG} {body : FS} {e : α → D} {l : List α} (I : List α → Ev → Sto → Prop) (hg : ∀ p ρ S, I p ρ S → gOk g S)
    (hs : ∀ p a q ρ S, l = p ++ a :: q → I p ρ S → ∃ ρ1 ρ2 S2, set (e a) ρ S = some ρ1 ∧ (body ρ1 S = .nx ρ2 S2 ∨ body ρ1 S = .ct ρ2 S2) ∧ I (p ++ [a]) ρ2 S2) {ρ : Ev} {S : Sto} (h0 : I [] ρ S) : ∃ ρ' S', loopS g set body (l.map e) ρ S = .nx ρ' S' ∧ I l ρ' S' := by
  have key : ∀ (q p : List α) (ρ : Ev) (S : Sto), l = p ++ q → I p ρ S → ∃ ρ' S', loopS g set body (q.map e) ρ S = .nx ρ' S' ∧ I l ρ' S' := by
    intro q
    induction q with
    | nil =>
      intro p ρ S hp h
      rw [List.append_nil] at hp
      subst hp
      exact ⟨ρ, S, by rw [List.map_nil, loop_end (hg _ _ _ h)], h⟩
    | cons a q ih =>
      intro p ρ S hp h
      obtain ⟨ρ1, ρ2, S2, e1, e2, e3⟩ := hs p a q ρ S hp h
      obtain ⟨ρ', S', e4, e5⟩ := ih (p ++ [a]) ρ2 S2 (by rw [hp, List.append_assoc]; rfl) e3
      refine ⟨ρ', S', ?_, e5⟩
      rw [List.map_cons]
      rcases e2 with e2 | e2
      · rw [loop_step (hg _ _ _ h) e1 e2, e4]
      · rw [loop_cont (hg _ _ _ h) e1 e2, e4]
  exact key l [] ρ S rfl h0
def nStr : D → Bool | .str _ => false | _ => true
def kZip2 (a b : Option (List D × Gd)) (S : Sto) : RI := match a, b with
  | some (xs, none), some (ys, g) => .ok (zipD xs ys) g S
  | some (xs, g), some (ys, none) => .ok (zipD xs ys) g S
  | _, _ => .bad
def kZip1 (r : RA) : RI := match r with
  | .ok [d1, d2] true S1 => if (nStr d1 && nStr d2) = true then kZip2 (itemsD S1 d1) (itemsD S1 d2) S1 else .bad
  | .xc c fs S1 => .xc c fs S1
  | _ => .bad
def fZipC (fa : FA) : FI := fun ρ S => kZip1 (fa ρ S)
theorem v_zipC {fa : FA} {ρ : Ev} {S : Sto} : fZipC fa ρ S = kZip1 (fa ρ S) := rfl
end Fx
namespace U
open PySem PySem.Spec PyProof.Rows L2
end U
namespace Fx
open PySem PySem.Spec PyProof.Rows L2 U
end Fx
namespace Fx
open PySem PySem.Spec PyProof.Rows L2 U
section
variable {G : Gm} {E : WX}
/-- a new dict that is a cell -/
def fDNewC : FE := fun _ S => .ok (.cel S.length) .tr (S ++ [.dK []])
end
section
variable {ρ : Ev} {S : Sto} {d e : D} {neg : Bool}
theorem v_dnewC : fDNewC ρ S = .ok (.cel S.length) .tr (S ++ [.dK []]) := rfl
end
end Fx
namespace U
open PySem PySem.Spec PyProof.Rows L2
end U
namespace Fx
open PySem PySem.Spec PyProof.Rows L2 U
def dAddT (d e : D) (S : Sto) : RE := match d, e with
  | .tup xs, .tup ys => if xs.length + ys.length ≤ lim then .ok (.tup (xs ++ ys)) .tr S else .bad
  | d, e => dAdd d e S
def dSlT (d : D) (lo hi : Option Int) (S : Sto) : RE := match d with
  | .tup ds => .ok (.tup (cutD ds lo hi)) .tr S
  | d => dSl d lo hi S
def fSlT (fe : FE) (lo hi : FO) : FE := fun ρ S => bE (fe ρ S) fun d _ S1 => bO (lo ρ S1) fun l S2 => bO (hi ρ S2) fun u S3 => dSlT d l u S3
section
variable {ρ : Ev} {S : Sto} {d : D} {f : Fl}
theorem d_addTi {a b : Int} : dAddT (.int a) (.int b) S = .ok (.int (a + b)) .tr S := rfl
theorem d_addTs {a b : Str} : dAddT (.str a) (.str b) S = dAdd (.str a) (.str b) S := rfl
theorem d_addTl {a b : List D} : dAddT (.lst a) (.lst b) S = dAdd (.lst a) (.lst b) S := rfl
def kSlT2 (d : D) (l u : Option Int) (S : Sto) : RE := dSlT d l u S
def kSlT1 (d : D) (hi : FO) (ρ : Ev) (l : Option Int) (S : Sto) : RE := bO (hi ρ S) (kSlT2 d l)
def kSlT (lo hi : FO) (ρ : Ev) (d : D) (_ : Fl) (S : Sto) : RE := bO (lo ρ S) (kSlT1 d hi ρ)
theorem v_slT {fe : FE} {lo hi : FO} : fSlT fe lo hi ρ S = bE (fe ρ S) (kSlT lo hi ρ) := rfl
theorem v_slT0 {lo hi : FO} : kSlT lo hi ρ d f S = bO (lo ρ S) (kSlT1 d hi ρ) := rfl
theorem v_slT1 {hi : FO} {l : Option Int} : kSlT1 d hi ρ l S = bO (hi ρ S) (kSlT2 d l) := rfl
theorem v_slT2 {l u : Option Int} : kSlT2 d l u S = dSlT d l u S := rfl
theorem d_slT {ds : List D} {lo hi : Option Int} : dSlT (.tup ds) lo hi S = .ok (.tup (cutD ds lo hi)) .tr S := rfl
theorem d_slTl {ds : List D} {lo hi : Option Int} : dSlT (.lst ds) lo hi S = .ok (.lst (cutD ds lo hi)) .fs S := rfl
end
end Fx
namespace PySem.SeqAt
open PySem PySem.Spec PyProof.Rows
end PySem.SeqAt
namespace Fx
open PySem PySem.Spec PyProof.Rows L2 U
end Fx
namespace U
open PySem PySem.Spec PyProof.Rows L2
def uClear : V → List V → Hp → VK → Prop := fun x vs H Q => match x, vs with
  | .ref l, [] => oK (mutL H l) fun _ => Q .non (upd H l (.lst []))
  | _, _ => False
section
variable {X : Cx}
theorem mu_clear : MtR X "list.clear" uClear := MtRi (r := rClear) mt_clear fun x xs H Q h => by
  unfold uClear at h
  split at h
  · obtain ⟨xs, e, h⟩ := oK_ex h
    exact ⟨_, _, rfl, rfl, of_mutL e, h⟩
  · exact h.elim
end
end U
namespace Fx
open PySem PySem.Spec PyProof.Rows L2 U
def sClr (i : Nat) : FS := fun ρ S => putL i ρ S fun _ => some []
section
variable {G : Gm} {E : WX}
theorem ss_clr {i : Nat} : SS G E (tDrop (tBM0 G.K "list" uClear (uVar i))) (chk i (sClr i)) := by
  intro F D ι ω ρ S σ H rel h
  unfold chk at h
  split at h
  · rename_i hh
    obtain ⟨a, xs, e1, e2⟩ := has_ok rel hh
    show uVar i σ H fun x H1 => tyV G.K "list" x H1 ∧ uClear x [] H1 fun _ H3 => D.nx σ H3
    unfold uVar
    rw [e1]
    refine ⟨.inl ⟨rfl, xs, .inl (.inl e2)⟩, ?_⟩
    obtain ⟨a', xs', ds, es, q1, q2, q3, q4, q5⟩ := put_ok rel h
    rw [e1] at q1; cases q1
    cases q4
    exact oK_of (mutL_of q2) (q5 _ .nil)
  · exact h.elim
end
end Fx
namespace PySem.W
open PySem PySem.Spec PySem.Calls PyProof.Rows
end PySem.W
namespace U
open PySem PySem.Spec PyProof.Rows L2
end U
namespace Fx
open PySem PySem.Spec PyProof.Rows L2 U
def kEqX2 (tab : List (Nat × FF)) (nq : Nat → Tg → Bool) (d : D) (f1 : Fl) (e : D) (f2 : Fl) (S2 : Sto) : RE := match d with
  | .obj c es => if (f1.nop && f2.nop) = true then (match lookF c tab, tgD S2 e with
    | some F, some g => if nq c g = true then bE (F [.obj c es, e] S2) kEqO3 else .bad
    | _, _ => .bad) else .bad
  | _ => .bad
def kEqX1 (tab : List (Nat × FF)) (nq : Nat → Tg → Bool) (fb : FE) (ρ : Ev) (d : D) (f1 : Fl) (S1 : Sto) : RE := bE (fb ρ S1) (kEqX2 tab nq d f1)
def fEqX (tab : List (Nat × FF)) (nq : Nat → Tg → Bool) (fa fb : FE) : FE := fun ρ S => bE (fa ρ S) (kEqX1 tab nq fb ρ)
def kNeO3 (r : D) (_ : Fl) (S3 : Sto) : RE := match r with
  | .bl k => .ok (.bl (!k)) .tr S3
  | _ => .bad
def kNeO2 (tab : List (Nat × FF)) (d : D) (f1 : Fl) (e : D) (f2 : Fl) (S2 : Sto) : RE := match d, e with
  | .obj c es, .obj c' es' => if (f1.nop && f2.nop && decide (c' = c)) = true then (match lookF c tab with
    | some F => bE (F [.obj c es, .obj c' es'] S2) kNeO3
    | none => .bad) else .bad
  | _, _ => .bad
def kNeO1 (tab : List (Nat × FF)) (fb : FE) (ρ : Ev) (d : D) (f1 : Fl) (S1 : Sto) : RE := bE (fb ρ S1) (kNeO2 tab d f1)
def fNeO (tab : List (Nat × FF)) (fa fb : FE) : FE := fun ρ S => bE (fa ρ S) (kNeO1 tab fb ρ)
section
variable {ρ : Ev} {S : Sto} {d e : D} {f f1 f2 : Fl} {c : Nat} {es fs : List (Str × D)} {tab : List (Nat × FF)}
theorem v_eqX {nq : Nat → Tg → Bool} {fa fb : FE} : fEqX tab nq fa fb ρ S = bE (fa ρ S) (kEqX1 tab nq fb ρ) := rfl
theorem v_eqX1 {nq : Nat → Tg → Bool} {fb : FE} : kEqX1 tab nq fb ρ d f S = bE (fb ρ S) (kEqX2 tab nq d f) := rfl
theorem v_neO {fa fb : FE} : fNeO tab fa fb ρ S = bE (fa ρ S) (kNeO1 tab fb ρ) := rfl
theorem v_neO1 {fb : FE} : kNeO1 tab fb ρ d f S = bE (fb ρ S) (kNeO2 tab d f) := rfl
theorem v_neO3 {k : Bool} : kNeO3 (.bl k) f S = .ok (.bl (!k)) .tr S := rfl
end
end Fx
namespace U
open PySem PySem.Spec PyProof.Rows L2
end U
namespace PySem.SeqAt
open AutoSeq1 (wpAny_loadPart')
open MeetsSeq
end PySem.SeqAt
namespace U
open PySem PySem.Spec PyProof.Rows L2
end U
namespace U
open PySem PySem.Spec PyProof.Rows L2
end U
namespace U
open PySem PySem.Spec PyProof.Rows L2
end U
namespace U
open PySem PySem.Spec PyProof.Rows L2
end U
namespace Fx
open PySem PySem.Spec PyProof.Rows L2 U
end Fx
namespace Fx
open PySem PySem.Spec PyProof.Rows L2 U
end Fx
namespace U
open PySem PySem.Spec PyProof.Rows L2
end U
namespace Fx
open PySem PySem.Spec PyProof.Rows L2 U
end Fx
namespace U
open PySem PySem.Spec PyProof.Rows L2
end U
namespace Fx
open PySem PySem.Spec PyProof.Rows L2 U
def sNoX (b : FS) : FS := fun ρ S => match b ρ S with
  | .xc _ _ _ _ => .bad
  | r => r
end Fx
namespace U
open PySem PySem.Spec PyProof.Rows L2
end U
namespace Fx
open PySem PySem.Spec PyProof.Rows L2 U
end Fx
namespace U
open PySem PySem.Spec PyProof.Rows L2
end U
namespace Fx
open PySem PySem.Spec PyProof.Rows L2 U
end Fx
namespace PySem.SeqAt
open AutoSeq1 (wpAny_loadPart')
open MeetsSeq
end PySem.SeqAt
namespace U
open PySem PySem.Spec PyProof.Rows L2
end U
namespace U
open PySem PySem.Spec PyProof.Rows L2
end U
namespace Fx
open PySem PySem.Spec PyProof.Rows L2 U
end Fx
namespace Fx
open PySem PySem.Spec PyProof.Rows L2 U
end Fx
namespace Fx
open PySem PySem.Spec PyProof.Rows L2 U
end Fx
namespace U
open PySem PySem.Spec PyProof.Rows L2
end U
namespace Fx
open PySem PySem.Spec PyProof.Rows L2 U
end Fx
namespace PySem
end PySem
namespace U
open PySem PySem.Spec PyProof.Rows L2
end U
namespace Fx
open PySem PySem.Spec PyProof.Rows L2 U
end Fx
namespace U
open PySem PySem.Spec PyProof.Rows L2
end U
namespace Fx
open PySem PySem.Spec PyProof.Rows L2 U
end Fx
namespace GenX
open PySem
def stuckK : Resume → Sem PySem.Fin := fun _ => .unsupported "asleep"
def poison : GenState → GenState
  | .suspended _ l c p fs cl => .suspended stuckK l c p fs cl
  | y => y
def Stk (x : GenState) : Prop := ∃ l c p fs cl, x = .suspended stuckK l c p fs cl
def Cln : GenState → Prop
  | .suspended _ _ _ _ fs _ => splitAtGen fs = none
  | _ => True
def R1 (x y : GenState) : Prop := (x = y ∧ Cln y) ∨ (Stk x ∧ x = poison y)
structure RG (X G : Array GenState) : Prop where
  size : X.size = G.size
  at' : ∀ (i : Nat) (x y : GenState), X[i]? = some x → G[i]? = some y → R1 x y
def Stay (X G X' G' : Array GenState) : Prop := ∀ (i : Nat) (x : GenState), X[i]? = some x → Stk x → X'[i]? = some x ∧ G'[i]? = G[i]?
def EndOk : End → Prop
  | .ret _ => True
  | .susp _ _ _ _ _ _ fs => splitAtGen fs = none
theorem R1.seen {x y : GenState} (h : R1 x y) : x.seen = y.seen := by
  rcases h with ⟨rfl, _⟩ | ⟨_, rfl⟩
  · rfl
  · cases y <;> rfl
theorem R1.bare {x y : GenState} (h : R1 x y) : x.bare = y.bare := by
  rcases h with ⟨rfl, _⟩ | ⟨_, rfl⟩
  · rfl
  · cases y <;> rfl
theorem RG.get {X G : Array GenState} (h : RG X G) {i : Nat} {x : GenState} (e : X[i]? = some x) : ∃ y, G[i]? = some y ∧ R1 x y := by
  have hi := (Array.getElem?_eq_some_iff.mp e).1
  rw [h.size] at hi
  exact ⟨G[i], Array.getElem?_eq_getElem hi, h.at' i x _ e (Array.getElem?_eq_getElem hi)⟩
theorem RG.bare {X G : Array GenState} (h : RG X G) (b : ∀ x ∈ X, x.bare = true) : ∀ y ∈ G, y.bare = true := fun y hy => by
  obtain ⟨i, hi, e⟩ := Array.mem_iff_getElem.mp hy
  have hi' : i < X.size := by rw [h.size]; exact hi
  have := h.at' i _ y (Array.getElem?_eq_getElem hi') (by rw [Array.getElem?_eq_getElem hi, e])
  rw [← this.bare]
  exact b _ (Array.getElem_mem hi')
theorem RG.push {X G : Array GenState} (h : RG X G) {c : GenState} (hc : Cln c) : RG (X.push c) (G.push c) := by
  refine ⟨by rw [Array.size_push, Array.size_push, h.size], fun i x y e1 e2 => ?_⟩
  rw [Array.getElem?_push] at e1 e2
  rw [h.size] at e1
  split at e1
  · rename_i hi
    rw [if_pos hi] at e2
    cases e1; cases e2
    exact .inl ⟨rfl, hc⟩
  · rename_i hi
    rw [if_neg hi] at e2
    exact h.at' i x y e1 e2
theorem set_get {X : Array GenState} {g i : Nat} {a x : GenState} (e : (X.setIfInBounds g a)[i]? = some x) : (i = g ∧ x = a ∧ g < X.size) ∨ (i ≠ g ∧ X[i]? = some x) := by
  by_cases hi : i = g
  · subst hi
    rw [Array.getElem?_setIfInBounds_self] at e
    split at e
    · cases e; exact .inl ⟨rfl, rfl, by assumption⟩
    · cases e
  · rw [Array.getElem?_setIfInBounds_ne (Ne.symm hi)] at e
    exact .inr ⟨hi, e⟩
theorem RG.set {X G : Array GenState} (h : RG X G) {g : Nat} {a : GenState} (ha : Cln a) : RG (X.setIfInBounds g a) (G.setIfInBounds g a) := by
  refine ⟨by rw [Array.size_setIfInBounds, Array.size_setIfInBounds, h.size], fun i x y e1 e2 => ?_⟩
  rcases set_get e1 with ⟨h1, h2, _⟩ | ⟨h1, h2⟩
  · rcases set_get e2 with ⟨h3, h4, _⟩ | ⟨h3, h4⟩
    · exact .inl ⟨h2.trans h4.symm, by rw [h4]; exact ha⟩
    · exact absurd h1 h3
  · rcases set_get e2 with ⟨h3, h4, _⟩ | ⟨h3, h4⟩
    · exact absurd h3 h1
    · exact h.at' i x y h2 h4
theorem Stay.refl {X G : Array GenState} : Stay X G X G := fun _ _ e _ => ⟨e, rfl⟩
theorem Stay.trans {X G X1 G1 X2 G2 : Array GenState} (a : Stay X G X1 G1) (b : Stay X1 G1 X2 G2) : Stay X G X2 G2 := fun i x e k => by
  obtain ⟨h1, h2⟩ := a i x e k
  obtain ⟨h3, h4⟩ := b i x h1 k
  exact ⟨h3, h4.trans h2⟩
theorem Stay.push {X G : Array GenState} (h : RG X G) {c : GenState} : Stay X G (X.push c) (G.push c) := fun i x e _ => by
  have hi := (Array.getElem?_eq_some_iff.mp e).1
  have hi' := hi
  rw [h.size] at hi'
  rw [Array.getElem?_push, if_neg (by omega), Array.getElem?_push, if_neg (by omega)]
  exact ⟨e, rfl⟩
theorem Stay.set {X G : Array GenState} {g : Nat} {a : GenState} (hn : ∀ x, X[g]? = some x → ¬ Stk x) : Stay X G (X.setIfInBounds g a) (G.setIfInBounds g a) := fun i x e k => by
  have : i ≠ g := fun z => by subst z; exact hn x e k
  rw [Array.getElem?_setIfInBounds_ne (Ne.symm this), Array.getElem?_setIfInBounds_ne (Ne.symm this)]
  exact ⟨e, rfl⟩
theorem Stay.wake {X G X1 G1 : Array GenState} {g : Nat} {a : GenState} (hn : ∀ x, X[g]? = some x → ¬ Stk x) (b : Stay (X.setIfInBounds g .running) (G.setIfInBounds g .running) X1 G1) : Stay X G (X1.setIfInBounds g a) (G1.setIfInBounds g a) := fun i x e k => by
  have hi : i ≠ g := fun z => by subst z; exact hn x e k
  have := b i x (by rw [Array.getElem?_setIfInBounds_ne (Ne.symm hi)]; exact e) k
  rw [Array.getElem?_setIfInBounds_ne (Ne.symm hi)] at this
  rw [Array.getElem?_setIfInBounds_ne (Ne.symm hi), Array.getElem?_setIfInBounds_ne (Ne.symm hi)]
  exact this
theorem Cln.end' {e : End} (h : EndOk e) : Cln e.genState := by
  cases e with
  | ret _ => trivial
  | susp v g l k c p fs => exact h
theorem split_app {a b : List Frame} (ha : splitAtGen a = none) (hb : splitAtGen b = none) : splitAtGen (a ++ b) = none := by
  induction a with
  | nil => exact hb
  | cons F a ih =>
    cases F with
    | ret =>
      simp only [splitAtGen, Option.map_eq_none_iff] at ha
      simp only [List.cons_append, splitAtGen, ih ha, Option.map_none]
    | gen => simp only [splitAtGen] at ha; cases ha
theorem no_uns {M : Model} {Γ : Ctx} {p : Pos} {t : Sem PySem.Fin} {fs : List Frame} {s s' : Shared} {e : End} (h : Runs M Γ p t fs s e s') : ∀ w, t ≠ .unsupported w := by
  induction h <;> intro w z <;> cases z <;> exact absurd rfl ((by assumption : ∀ w_1 : String, (Sem.unsupported w : Sem PySem.Fin) ≠ Sem.unsupported w_1) w)
theorem nstk_fresh {c : Code} : ¬ Stk (.fresh c) := fun ⟨_, _, _, _, _, e⟩ => by cases e
theorem r1_fresh {c : Code} {y : GenState} (h : R1 (.fresh c) y) : y = .fresh c := by
  rcases h with ⟨e, _⟩ | ⟨k, _⟩
  · exact e.symm
  · exact absurd k nstk_fresh
theorem r1_run {y : GenState} (h : R1 .running y) : y = .running := by
  rcases h with ⟨e, _⟩ | ⟨⟨_, _, _, _, _, e⟩, _⟩
  · exact e.symm
  · cases e
theorem r1_fin {y : GenState} (h : R1 .finished y) : y = .finished := by
  rcases h with ⟨e, _⟩ | ⟨⟨_, _, _, _, _, e⟩, _⟩
  · exact e.symm
  · cases e
abbrev wg (s : Shared) (G : Array GenState) : Shared := { s with gens := G }
theorem swap {M : Model} {Γ : Ctx} {p : Pos} {t : Sem PySem.Fin} {fs : List Frame} {s s' : Shared} {e : End} (h : Runs M Γ p t fs s e s') :
    splitAtGen fs = none → ∀ G, RG s.gens G → ∃ G', RG s'.gens G' ∧ Stay s.gens G s'.gens G' ∧ EndOk e ∧ Runs M Γ p t fs (wg s G) e (wg s' G') := by
  induction h with
  | done => exact fun _ G r => ⟨G, r, .refl, trivial, .done⟩
  | raise => exact fun _ G r => ⟨G, r, .refl, trivial, .raise⟩
  | again hq _ ih => exact fun hf G r => let ⟨G', a, b, c, d⟩ := ih hf G r; ⟨G', a, b, c, .again hq d⟩
  | rule _ ih => exact fun hf G r => let ⟨G', a, b, c, d⟩ := ih hf G r; ⟨G', a, b, c, .rule d⟩
  | «at» _ ih => exact fun hf G r => let ⟨G', a, b, c, d⟩ := ih hf G r; ⟨G', a, b, c, .at d⟩
  | load ho _ ih => exact fun hf G r => let ⟨G', a, b, c, d⟩ := ih hf G r; ⟨G', a, b, c, .load ho d⟩
  | update ho _ ih => exact fun hf G r => let ⟨G', a, b, c, d⟩ := ih hf G r; ⟨G', a, b, c, .update ho d⟩
  | loadIfAlive _ ih => exact fun hf G r => let ⟨G', a, b, c, d⟩ := ih hf G r; ⟨G', a, b, c, .loadIfAlive d⟩
  | point _ ih => exact fun hf G r => let ⟨G', a, b, c, d⟩ := ih hf G r; ⟨G', a, b, c, .point d⟩
  | alloc _ ih => exact fun hf G r => let ⟨G', a, b, c, d⟩ := ih hf G r; ⟨G', a, b, c, .alloc d⟩
  | fresh _ ih => exact fun hf G r => let ⟨G', a, b, c, d⟩ := ih hf G r; ⟨G', a, b, c, .fresh d⟩
  | ask _ ih => exact fun hf G r => let ⟨G', a, b, c, d⟩ := ih hf G r; ⟨G', a, b, c, .ask d⟩
  | choose hn _ ih => exact fun hf G r => let ⟨G', a, b, c, d⟩ := ih hf G r; ⟨G', a, b, c, .choose hn d⟩
  | os _ ih => exact fun hf G r => let ⟨G', a, b, c, d⟩ := ih hf G r; ⟨G', a, b, c, .os d⟩
  | handled _ ih => exact fun hf G r => let ⟨G', a, b, c, d⟩ := ih hf G r; ⟨G', a, b, c, .handled d⟩
  | genState hg _ ih =>
    intro hf G r
    obtain ⟨y, hy, ry⟩ := r.get hg
    obtain ⟨G', a, b, c, d⟩ := ih hf G r
    rw [ry.seen] at d
    exact ⟨G', a, b, c, .genState hy d⟩
  | stack _ ih => exact fun hf G r => let ⟨G', a, b, c, d⟩ := ih hf G r; ⟨G', a, b, c, .stack d⟩
  | thread _ ih => exact fun hf G r => let ⟨G', a, b, c, d⟩ := ih hf G r; ⟨G', a, b, c, .thread d⟩
  | @newGen _ _ k s _ _ cc _ ih =>
    intro hf G r
    obtain ⟨G', a, b, c, d⟩ := ih hf (G.push (.fresh cc)) (r.push trivial)
    refine ⟨G', a, (Stay.push r).trans b, c, ?_⟩
    refine .newGen ?_
    show Runs M _ _ (k G.size) [] _ _ _
    rw [← r.size]
    exact d
  | call _ _ ih1 ih2 =>
    intro hf G r
    obtain ⟨G1, a1, b1, c1, d1⟩ := ih1 hf G r
    obtain ⟨G', a, b, c, d⟩ := ih2 hf G1 a1
    exact ⟨G', a, b1.trans b, c, .call d1 d⟩
  | callSusp _ ih =>
    intro hf G r
    obtain ⟨G', a, b, c, d⟩ := ih hf G r
    exact ⟨G', a, b, split_app c rfl, .callSusp d⟩
  | yield => exact fun _ G r => ⟨G, r, .refl, rfl, .yield⟩
  | resumeFresh hg _ hq _ ih1 ih2 =>
    intro hf G r
    obtain ⟨y, hy, ry⟩ := r.get hg
    have ey := r1_fresh ry
    subst ey
    obtain ⟨G1, a1, b1, c1, d1⟩ := ih1 rfl _ (r.set (a := .running) trivial)
    obtain ⟨G', a, b, c, d⟩ := ih2 hf _ (a1.set (Cln.end' c1))
    exact ⟨G', a, (Stay.wake (fun x e => by rw [hg] at e; cases e; exact nstk_fresh) b1).trans b, c, .resumeFresh hy d1 hq d⟩
  | @resumeSuspended _ _ _ _ _ _ _ k₀ l₀ c₀ p₀ fs₀ cl _ _ _ _ hg h1 hq _ ih1 ih2 =>
    intro hf G r
    obtain ⟨y, hy, ry⟩ := r.get hg
    rcases ry with ⟨e, k⟩ | ⟨⟨_, _, _, _, _, e⟩, _⟩
    · subst e
      by_cases hk : Stk (.suspended k₀ l₀ c₀ p₀ fs₀ cl)
      · obtain ⟨_, _, _, _, _, e⟩ := hk
        cases e
        exact absurd rfl (no_uns h1 "asleep")
      · obtain ⟨G1, a1, b1, c1, d1⟩ := ih1 k _ (r.set (a := .running) trivial)
        obtain ⟨G', a, b, c, d⟩ := ih2 hf _ (a1.set (Cln.end' c1))
        exact ⟨G', a, (Stay.wake (fun x e => by rw [hg] at e; cases e; exact hk) b1).trans b, c, .resumeSuspended hy d1 hq d⟩
    · cases e
      exact absurd rfl (no_uns h1 "asleep")
  | resumeJustStarted hg hv _ ih =>
    intro hf G r
    obtain ⟨y, hy, ry⟩ := r.get hg
    obtain ⟨G', a, b, c, d⟩ := ih hf G r
    exact ⟨G', a, b, c, .resumeJustStarted (by rw [hy, r1_fresh ry]) hv d⟩
  | resumeThrowFresh hg _ ih =>
    intro hf G r
    obtain ⟨y, hy, ry⟩ := r.get hg
    obtain ⟨G', a, b, c, d⟩ := ih hf _ (r.set (a := .finished) trivial)
    exact ⟨G', a, (Stay.set (fun x e => by rw [hg] at e; cases e; exact nstk_fresh)).trans b, c, .resumeThrowFresh (by show G[_]? = _; rw [hy, r1_fresh ry]) d⟩
  | resumeRunning hg _ ih =>
    intro hf G r
    obtain ⟨y, hy, ry⟩ := r.get hg
    obtain ⟨G', a, b, c, d⟩ := ih hf G r
    exact ⟨G', a, b, c, .resumeRunning (by rw [hy, r1_run ry]) d⟩
  | resumeFinished hg _ ih =>
    intro hf G r
    obtain ⟨y, hy, ry⟩ := r.get hg
    obtain ⟨G', a, b, c, d⟩ := ih hf G r
    exact ⟨G', a, b, c, .resumeFinished (by rw [hy, r1_fin ry]) d⟩
  | @segRet _ _ _ _ _ _ _ _ _ _ fs₀ _ _ _ _ _ _ _ ih1 ih2 =>
    intro hf G r
    have hf' : splitAtGen fs₀ = none := by
      simp only [splitAtGen, Option.map_eq_none_iff] at hf
      exact hf
    obtain ⟨G1, a1, b1, c1, d1⟩ := ih1 rfl G r
    obtain ⟨G', a, b, c, d⟩ := ih2 hf' G1 a1
    exact ⟨G', a, b1.trans b, c, .segRet d1 d⟩
  | segGen _ _ _ _ => intro hf; simp only [splitAtGen] at hf; cases hf
  | segSuspOut hs _ ih =>
    intro hf G r
    obtain ⟨G', a, b, c, d⟩ := ih rfl G r
    exact ⟨G', a, b, split_app c hs, .segSuspOut hs d⟩
  | segSuspGen hs _ _ _ _ _ => intro hf; rw [hf] at hs; cases hs
theorem wakes_swap {M : Model} {Γ : Ctx} {p : Pos} {g : Nat} {r : Resume} {s s' : Shared} {res : GenResult} (h : Wakes M Γ p g r s res s') {G : Array GenState} (R : RG s.gens G) :
    ∃ G', RG s'.gens G' ∧ Stay s.gens G s'.gens G' ∧ Wakes M Γ p g r (wg s G) res (wg s' G') := by
  unfold Wakes at h
  split at h
  · exact h.elim
  · rename_i c hg
    obtain ⟨y, hy, ry⟩ := R.get hg
    have ey := r1_fresh ry
    subst ey
    have hy' : (wg s G).gens[g]? = some (.fresh c) := hy
    split at h
    · obtain ⟨e₁, s₁, h1, hq, hr, rfl⟩ := h
      obtain ⟨G1, a1, b1, c1, d1⟩ := swap h1 rfl _ (R.set (a := .running) trivial)
      refine ⟨_, a1.set (g := g) (Cln.end' c1), Stay.wake (fun x e => by rw [hg] at e; cases e; exact nstk_fresh) b1, ?_⟩
      unfold Wakes
      rw [hy']
      exact ⟨e₁, wg s₁ G1, d1, hq, hr, rfl⟩
    · obtain ⟨hr, rfl⟩ := h
      refine ⟨G, R, .refl, ?_⟩
      unfold Wakes
      rw [hy']
      dsimp only
      split
      · exfalso; simp_all
      · exact ⟨hr, rfl⟩
      · rename_i z; cases z
    · obtain ⟨hr, rfl⟩ := h
      refine ⟨_, R.set (g := g) (a := .finished) trivial, Stay.set (fun x e => by rw [hg] at e; cases e; exact nstk_fresh), ?_⟩
      unfold Wakes
      rw [hy']
      exact ⟨hr, rfl⟩
  · rename_i k₀ l₀ c₀ p₀ fs cl hg
    obtain ⟨e₁, s₁, h1, hq, hr, rfl⟩ := h
    obtain ⟨y, hy, ry⟩ := R.get hg
    rcases ry with ⟨e, k⟩ | ⟨⟨_, _, _, _, _, e⟩, _⟩
    · subst e
      by_cases hk : Stk (.suspended k₀ l₀ c₀ p₀ fs cl)
      · obtain ⟨_, _, _, _, _, e⟩ := hk
        cases e
        exact absurd rfl (no_uns h1 "asleep")
      · obtain ⟨G1, a1, b1, c1, d1⟩ := swap h1 k _ (R.set (a := .running) trivial)
        refine ⟨_, a1.set (g := g) (Cln.end' c1), Stay.wake (fun x e => by rw [hg] at e; cases e; exact hk) b1, ?_⟩
        have hy' : (wg s G).gens[g]? = some (.suspended k₀ l₀ c₀ p₀ fs cl) := hy
        unfold Wakes
        rw [hy']
        exact ⟨e₁, wg s₁ G1, d1, hq, hr, rfl⟩
    · cases e
      exact absurd rfl (no_uns h1 "asleep")
  · rename_i hg
    obtain ⟨hr, rfl⟩ := h
    obtain ⟨y, hy, ry⟩ := R.get hg
    have hy' : (wg s' G).gens[g]? = some .running := by show G[g]? = _; rw [hy, r1_run ry]
    refine ⟨G, R, .refl, ?_⟩
    unfold Wakes
    rw [hy']
    exact ⟨hr, rfl⟩
  · rename_i hg
    obtain ⟨hr, rfl⟩ := h
    obtain ⟨y, hy, ry⟩ := R.get hg
    have hy' : (wg s' G).gens[g]? = some .finished := by show G[g]? = _; rw [hy, r1_fin ry]
    refine ⟨G, R, .refl, ?_⟩
    unfold Wakes
    rw [hy']
    exact ⟨hr, rfl⟩
/-- behind it: the same, and all that could not be woken sleeps on -/
def Sw {α : Type} (X G : Array GenState) (Q : α → Shared → Prop) (a : α) (s' : Shared) : Prop := ∃ X', RG X' s'.gens ∧ Stay X G X' s'.gens ∧ Q a (wg s' X')
theorem Sw.go {α : Type} {X G X1 G1 : Array GenState} {Q : α → Shared → Prop} {a : α} {s' : Shared} (st : Stay X G X1 G1) (h : Sw X1 G1 Q a s') : Sw X G Q a s' := by
  obtain ⟨X', h1, h2, h3⟩ := h
  exact ⟨X', h1, st.trans h2, h3⟩
open Sem (wp) in
theorem wp_swap {α : Type} (M : Model) (Γ : Ctx) (t : Sem α) : ∀ (Q : α → Pos → Shared → Prop) (E : Value → Pos → Shared → Prop) (p : Pos) (s : Shared) (G : Array GenState), RG s.gens G → wp M Γ t Q E p s →
    wp M Γ t (fun a p' s' => Sw s.gens G (fun a s => Q a p' s) a s') (fun e p' s' => Sw s.gens G (fun a s => E a p' s) e s') p (wg s G) := by
  induction t with
  | pure a => intro Q E p s G r h; exact ⟨s.gens, r, .refl, h⟩
  | raise e => intro Q E p s G r h; exact ⟨s.gens, r, .refl, h⟩
  | unsupported _ => intro Q E p s G _ h; exact h
  | finish _ => intro Q E p s G _ h; exact h
  | rule _ k ih => intro Q E p s G r h; exact ih () Q E p s G r h
  | «at» p' k ih => intro Q E p s G r h; exact ih () Q E p' s G r h
  | load a _ k ih => intro Q E p s G r h; obtain ⟨o, ho, h⟩ := h; exact ⟨o, ho, ih o Q E p s G r h⟩
  | update a _ f k ih => intro Q E p s G r h; exact ⟨h.1, ih () Q E p { s with heap := s.heap.update a f } G r h.2⟩
  | loadIfAlive a k ih => intro Q E p s G r h; exact ih _ Q E p s G r h
  | point _ k ih => intro Q E p s G r h; exact ih () Q E p s G r h
  | register _ _ => intro Q E p s G _ h; exact h
  | alloc o k ih => intro Q E p s G r h; exact ih _ Q E p { s with heap := s.heap.push o } G r h
  | fresh k ih => intro Q E p s G r h; exact ih _ Q E p { s with toks := s.toks + 1 } G r h
  | ask k ih => intro Q E p s G r h; exact ih _ Q E p s G r h
  | choose src m k ih => intro Q E p s G r h; exact ⟨h.1, ih _ Q E p { s with drawn := s.drawn.bump src } G r h.2⟩
  | os q _ k ih => intro Q E p s G r h; exact ih _ Q E p { s with os := (Os.step s.os q).1 } G r h
  | call c hd _ _ k ih =>
    intro Q E p s G r h
    obtain ⟨x, s', hr, h⟩ := h
    obtain ⟨G1, a1, b1, _, d1⟩ := swap hr rfl G r
    exact ⟨x, wg s' G1, d1, Sem.wp_mono M Γ _ (fun _ _ _ => Sw.go b1) (fun _ _ _ => Sw.go b1) p _ (ih x Q E p s' G1 a1 h)⟩
  | handled own k ih => intro Q E p s G r h; exact ih _ Q E p s G r h
  | genState g k ih =>
    intro Q E p s G r h
    obtain ⟨st, hs, h⟩ := h
    obtain ⟨y, hy, ry⟩ := r.get hs
    rw [ry.seen] at h
    exact ⟨y, hy, ih _ Q E p s G r h⟩
  | newGen c k ih =>
    intro Q E p s G r h
    have h' := ih _ Q E p { s with gens := s.gens.push (.fresh c) } (G.push (.fresh c)) (RG.push (c := .fresh c) r trivial) h
    show wp M Γ (k G.size) _ _ p _
    rw [← r.size]
    exact Sem.wp_mono M Γ _ (fun _ _ _ => Sw.go (Stay.push r)) (fun _ _ _ => Sw.go (Stay.push r)) p _ h'
  | resume g x _ k ih =>
    intro Q E p s G r h
    obtain ⟨res, s', hw, h⟩ := h
    obtain ⟨G1, a1, b1, d1⟩ := wakes_swap hw r
    exact ⟨res, wg s' G1, d1, Sem.wp_mono M Γ _ (fun _ _ _ => Sw.go b1) (fun _ _ _ => Sw.go b1) p _ (ih res Q E p s' G1 a1 h)⟩
  | yield _ _ _ _ => intro Q E p s G _ h; exact h
  | stack k ih => intro Q E p s G r h; exact ih _ Q E p s G r h
  | fork _ _ => intro Q E p s G _ h; exact h
  | thread k ih => intro Q E p s G r h; exact ih _ Q E p s G r h
  | await _ _ _ _ _ => intro Q E p s G _ h; exact h
theorem rg_poison (G : Array GenState) : RG (G.map poison) G := by
  refine ⟨by rw [Array.size_map], fun i x y e1 e2 => ?_⟩
  rw [Array.getElem?_map, e2] at e1
  cases e1
  cases y with
  | suspended k l c p fs cl => exact .inr ⟨⟨_, _, _, _, _, rfl⟩, rfl⟩
  | fresh c => exact .inl ⟨rfl, trivial⟩
  | running => exact .inl ⟨rfl, trivial⟩
  | finished => exact .inl ⟨rfl, trivial⟩
/-- what sleeps sleeps on -/
def Asleep (G G' : Array GenState) : Prop := ∀ (i : Nat) (x : GenState), G[i]? = some x → x.status = .suspended → G'[i]? = some x
theorem bare_poison {G : Array GenState} (h : ∀ x ∈ G, x.bare = true) : ∀ x ∈ G.map poison, x.bare = true := fun x hx => by
  obtain ⟨y, hy, rfl⟩ := Array.mem_map.mp hx
  have := h y hy
  cases y <;> exact this
/-- THE RULE: whatever runs where nothing that sleeps can be woken leaves it asleep -/
theorem wpAny_asleep {α : Type} {M : Model} {A : Around} {t : Sem α} {Q : α → Shared → Prop} {E : Value → Shared → Prop} {s : Shared} (h : wpAny M A t Q E (wg s (s.gens.map poison))) :
    wpAny M A t (fun a s' => ∃ X', RG X' s'.gens ∧ Asleep s.gens s'.gens ∧ Q a (wg s' X')) (fun e s' => ∃ X', RG X' s'.gens ∧ Asleep s.gens s'.gens ∧ E e (wg s' X')) s := by
  intro Γ p hΓ
  have key : ∀ X' (s' : Shared), Stay (s.gens.map poison) s.gens X' s'.gens → Asleep s.gens s'.gens := fun X' s' st i x e k => by
    cases x with
    | suspended k₀ l c p fs cl =>
      have := (st i (poison (.suspended k₀ l c p fs cl)) (by rw [Array.getElem?_map, e]; rfl) ⟨_, _, _, _, _, rfl⟩).2
      rw [this, e]
    | fresh c => cases k
    | running => cases k
    | finished => cases k
  exact Sem.wp_mono M Γ _ (fun _ _ s' ⟨X', a, b, c⟩ => ⟨X', a, key X' s' b, c⟩) (fun _ _ s' ⟨X', a, b, c⟩ => ⟨X', a, key X' s' b, c⟩) p _ (wp_swap M Γ t _ _ p (wg s (s.gens.map poison)) s.gens (rg_poison _) (h Γ p hΓ))
end GenX
namespace L2
open PySem PySem.Spec PyProof.Rows GenW GenX
def cut (h : Heap) (n : Nat) : Heap := ⟨h.objs.extract 0 n, h.life⟩
theorem cut_size {h : Heap} {n : Nat} : (cut h n).objs.size = min n h.objs.size := by
  unfold cut; simp
theorem cut_in {h : Heap} {n b : Nat} (hb : b < n) : (cut h n).get? b = h.get? b := by
  have : (h.objs.extract 0 n)[b]? = h.objs[b]? := by
    rw [Array.getElem?_extract]
    by_cases z : b < h.objs.size
    · rw [if_pos (by omega), Nat.zero_add]
    · rw [if_neg (by omega), Array.getElem?_eq_none (by omega)]
  unfold cut Heap.get?
  rw [this]
theorem cut_some {h : Heap} {n b : Nat} {o : Obj} (e : (cut h n).get? b = some o) : b < n ∧ h.get? b = some o := by
  have := Heap.lt_size e
  rw [cut_size] at this
  have hb : b < n := Nat.lt_of_lt_of_le this (Nat.min_le_left ..)
  exact ⟨hb, by rw [← cut_in hb]; exact e⟩
theorem cut_all (h : Heap) : cut h h.objs.size = h := by
  unfold cut
  cases h
  simp
/-- the context at a waking at (s, H) -/
abbrev rb (X : Cx) (s : Shared) (H : Hp) : Cx := { X with s_0 := { s with heap := cut s.heap X.env.locals }, H_0 := H, xe := fun _ _ => False }
structure GX (X : Cx) : Prop where
  ex : X.ex = []
  nocell : ∀ x, X.env.cells.lookup x = none
  old : ∀ b ∈ frs X.outer, b < X.env.locals
theorem Inv.wake {X : Cx} (g : GX X) {sj s1 s' : Shared} {Hj H1 H' : Hp} {pins pins' : List (Addr × Obj)} {σ : L2.St} {A0 : Around} (I : Inv (rb X sj Hj) pins σ H1 s1) (e0 : Env0 X.prog X.w X.K X.mg X.base A0 X.outer s' H')
    (hL : ∀ o, s1.heap.get? X.env.locals = some o → s'.heap.get? X.env.locals = some o) (hn : H' X.env.locals = none)
    (hp : ∀ p ∈ X.pn ++ pins', s'.heap.get? p.1 = some p.2 ∧ H' p.1 = none ∧ p.1 ≠ X.env.locals ∧ p.1 ∉ X.fs ∧ ∀ v, p.2.data ≠ .cell v) : Inv (rb X s' H') pins' σ H' s' := by
  have noc : ∀ {x : Str} {c : Addr}, X.env.cells.lookup x = some c → False := fun {x c} e => by rw [g.nocell x] at e; cases e
  have noe : ∀ {b : Addr}, b ∉ X.ex := fun {b} => by rw [g.ex]; exact List.not_mem_nil
  have ok := I.ok
  have bsz : X.base.objs.size ≤ X.env.locals := by
    have := ok.bsz
    have h2 : (cut sj.heap X.env.locals).objs.size ≤ X.env.locals := ok.above
    exact Nat.le_trans this h2
  have low : ∀ b o, X.base.get? b = some o → b < X.env.locals := fun b o e => Nat.lt_of_lt_of_le (Heap.lt_size e) bsz
  have funs : (cut s'.heap X.env.locals).FunFrames X.base X.outer := by
    have : ∀ l : List Env, (∀ b ∈ frs l, b < X.env.locals) → s'.heap.FunFrames X.base l → (cut s'.heap X.env.locals).FunFrames X.base l := by
      intro l
      induction l with
      | nil => intro _ _; trivial
      | cons env r ih =>
        intro hs hl
        obtain ⟨hk, ⟨L, o, hf, hn, ho, hd⟩, hr⟩ := hl
        have hL : L < X.env.locals := hs L (by unfold frs; rw [List.filterMap_cons, hf]; exact List.mem_cons_self)
        exact ⟨hk, ⟨L, o, hf, hn, by rw [cut_in hL]; exact ho, hd⟩, ih (fun b hb => hs b (by
          unfold frs at hb ⊢
          rw [List.filterMap_cons]
          split
          · exact hb
          · exact List.mem_cons_of_mem _ hb)) hr⟩
    exact this X.outer g.old e0.funs
  refine ⟨⟨ok.mod, ok.kind, ok.glob, ok.blt, ?_, ok.inj, ok.has, fun x c _ e => (noc e).elim, ok.hd, ok.frames, ok.stk, fun b hb => absurd hb noe, fun b o e => ⟨?_, (e0.bs b o e).2⟩, ?_, fun _ _ _ => noe, fun b hb => absurd hb noe, funs, e0.frf⟩, rfl, e0.bare,
    ⟨fun b o e n _ _ => (cut_some e).2, fun b o e n _ _ => ⟨o.slots, (cut_some e).2⟩, fun b o e n _ => n, fun b o e _ => ⟨o, (cut_some e).2⟩, fun _ _ e => e, fun _ _ _ e => e, fun b ps e => ⟨#[], by have e : H' b = some (.tbl ps) := e; rw [e]; simp⟩⟩,
    ?_, fun x c e => (noc e).elim, hn, fun x c e => (noc e).elim, hp, e0.hok, I.len⟩
  · show (cut s'.heap X.env.locals).objs.size ≤ X.env.locals
    rw [cut_size]; exact Nat.min_le_left ..
  · show (cut s'.heap X.env.locals).get? b = some o
    rw [cut_in (low b o e)]; exact (e0.bs b o e).1
  · show X.base.objs.size ≤ (cut s'.heap X.env.locals).objs.size
    rw [cut_size]
    exact Nat.le_min.mpr ⟨bsz, e0.bsz⟩
  · obtain ⟨m, ⟨o, es, ep, ho, r⟩, hl⟩ := I.loc
    refine ⟨m, ⟨o, es, ep, hL o ho, r⟩, fun i x v e1 e2 e3 => ?_⟩
    obtain ⟨u, r, l⟩ := hl i x v e1 e2 e3
    refine ⟨u, r, ?_⟩
    rcases l with l | ⟨_, c, e, _⟩
    · exact .inl l
    · exact (noc e).elim
/-- what a run of a generator from (sj, Hj) to (s1, H1) leaves of its consumer's state -/
theorem Inv.seen {X Xc : Cx} (g : GX X) (hs : X.outer = Xc.stack) (hP : X.prog = Xc.prog) (hw : X.w = Xc.w) {sj s1 : Shared} {Hj H1 : Hp} {pc pg : List (Addr × Obj)} {σc σg : L2.St} (Ic : Inv Xc pc σc Hj sj) (Ig : Inv (rb X sj Hj) pg σg H1 s1)
    (mine : ∀ b o, (b = Xc.env.locals ∨ (∃ x, Xc.env.cells.lookup x = some b) ∨ ∃ p ∈ Xc.pn ++ pc, p.1 = b) → sj.heap.get? b = some o → b < X.env.locals ∨ (b, o) ∈ pg) (hsz : Xc.s_0.heap.objs.size ≤ X.env.locals) : Inv Xc pc σc H1 s1 := by
  have noe : ∀ {b : Addr}, b ∉ X.ex := fun {b} => by rw [g.ex]; exact List.not_mem_nil
  have B := Ig.base
  -- an untracked object below, or pinned
  have any : ∀ b o, (b < X.env.locals ∨ (b, o) ∈ pg) → sj.heap.get? b = some o → Hj b = none → (∃ sl, s1.heap.get? b = some { o with slots := sl }) ∧ H1 b = none := fun b o h e n => by
    rcases h with h | h
    · have e' : (cut sj.heap X.env.locals).get? b = some o := by rw [cut_in h]; exact e
      exact ⟨B.any e' n noe, B.free b o e' n noe⟩
    · have := Ig.pin (b, o) (List.mem_append_right _ h)
      exact ⟨⟨o.slots, this.1⟩, this.2.1⟩
  have low : ∀ b o, Xc.s_0.heap.get? b = some o → b < X.env.locals := fun b o e => Nat.lt_of_lt_of_le (Heap.lt_size e) hsz
  have cin : ∀ {b o}, b < X.env.locals → sj.heap.get? b = some o → (cut sj.heap X.env.locals).get? b = some o := fun h e => by rw [cut_in h]; exact e
  have cellK : ∀ x c, Xc.env.cells.lookup x = some c → ∀ v, sj.heap.IsCell c v → s1.heap.IsCell c v := fun x c e v ⟨o, ho, hd⟩ => by
    obtain ⟨⟨sl, q⟩, _⟩ := any c o (mine c o (.inr (.inl ⟨x, e⟩)) ho) ho (Ic.freeC x c e)
    exact ⟨_, q, hd⟩
  have locE : ∃ o es ep, sj.heap.get? Xc.env.locals = some o ∧ o.data = .dict es ep := by
    obtain ⟨m, ⟨o, es, ep, ho, hd, _⟩, _⟩ := Ic.loc
    exact ⟨o, es, ep, ho, hd⟩
  obtain ⟨oL, _, _, eL, _⟩ := locE
  have keepL := any _ oL (mine _ oL (.inl rfl) eL) eL Ic.free
  refine ⟨Ic.ok, Ig.os.trans Ic.os, Ig.bare, ⟨fun b o e n hb hx => ?_, fun b o e n hb hx => ?_, fun b o e n hx => ?_, fun b o e hx => ?_, fun b xs e => B.tups b xs (Ic.base.tups b xs e), fun b o u e => B.frzs b o u (Ic.base.frzs b o u e), fun b ps e => ?_⟩, ?_, fun x c e => ?_, keepL.2, fun x c e => ?_, fun p hp => ?_, ?_, Ic.len⟩
  · have e1 := Ic.base.keep b o e n hb hx
    have n1 := Ic.base.free b o e n hx
    refine B.keep b o (cin (low b o e) e1) n1 (fun z => ?_) noe
    have z : b ∈ frs Xc.stack := by rw [← hs]; exact z
    rcases List.mem_cons.mp (Ic.stkSub b z) with z | z
    · have := Nat.lt_of_lt_of_le (Heap.lt_size e) Ic.ok.above
      rw [z] at this
      exact Nat.lt_irrefl _ this
    · exact hb z
  · obtain ⟨sl, e1⟩ := Ic.base.slot b o e n hb hx
    have n1 := Ic.base.free b o e n hx
    obtain ⟨sl', e2⟩ := B.any (cin (low b o e) e1) n1 noe
    exact ⟨sl', e2⟩
  · obtain ⟨o', e1⟩ := Ic.base.there b o e hx
    exact B.free b o' (cin (low b o e) e1) (Ic.base.free b o e n hx) noe
  · obtain ⟨o', e1⟩ := Ic.base.there b o e hx
    exact B.there b o' (cin (low b o e) e1) noe
  · obtain ⟨m1, e1⟩ := Ic.base.tbls b ps e
    obtain ⟨m2, e2⟩ := B.tbls b _ e1
    exact ⟨m1 ++ m2, by rw [e2, Array.append_assoc]⟩
  · obtain ⟨m, ⟨o, es, ep, ho, r⟩, hl⟩ := Ic.loc
    have eo : o = oL := by rw [eL] at ho; cases ho; rfl
    subst eo
    obtain ⟨sl, q⟩ := keepL.1
    refine ⟨m, ⟨_, es, ep, q, r⟩, fun i x v e1 e2 e3 => ?_⟩
    obtain ⟨u, r, l⟩ := hl i x v e1 e2 e3
    refine ⟨u, r, ?_⟩
    rcases l with l | ⟨k, c, e, z⟩
    · exact .inl l
    · exact .inr ⟨k, c, e, cellK x c e _ z⟩
  · obtain ⟨v, z⟩ := Ic.cell x c e
    exact ⟨v, cellK x c e v z⟩
  · obtain ⟨v, o, ho, hd⟩ := Ic.cell x c e
    exact (any c o (mine c o (.inr (.inl ⟨x, e⟩)) ho) ho (Ic.freeC x c e)).2
  · obtain ⟨e, n, ne, nf, d⟩ := Ic.pin p hp
    have hm := mine p.1 p.2 (.inr (.inr ⟨p, hp, rfl⟩)) e
    refine ⟨?_, (any p.1 p.2 hm e n).2, ne, nf, d⟩
    rcases hm with hm | hm
    · refine B.keep p.1 p.2 (cin hm e) n (fun z => ?_) noe
      have z : p.1 ∈ frs Xc.stack := by rw [← hs]; exact z
      rcases List.mem_cons.mp (Ic.stkSub p.1 z) with z | z
      · exact ne z
      · exact nf z
    · exact (Ig.pin (p.1, p.2) (List.mem_append_right _ hm)).1
  · have := Ig.hok
    rw [← hP, ← hw]
    exact this
end L2
namespace L2
open PySem PySem.Spec PyProof.Rows GenW GenX
/-- the pins that the consumer wants kept stand apart from the generator's own -/
def Apt (X : Cx) (ip ks : List (Addr × Obj)) : Prop := ∀ p ∈ ks, p.1 ≠ X.env.locals ∧ ∀ q ∈ X.pn ++ ip, p.1 ≠ q.1
abbrev CIT (Γ : Type) := Shared → Hp → List (Addr × Obj) → Γ → Prop
def GI1 {Γ : Type} (X : Cx) (CI : CIT Γ) (ip : List (Addr × Obj)) (σ : L2.St) (H : Hp) (s : Shared) (γ : Γ) : Prop := ∃ sj Hj ks, CI sj Hj ks γ ∧ Apt X ip ks ∧ X.env.locals ≤ sj.heap.objs.size ∧ Inv (rb X sj Hj) (ip ++ ks) σ H s
/-- it may be woken at (s', H') -/
structure Wk (X : Cx) (ip : List (Addr × Obj)) (s s' : Shared) (H' : Hp) (ks' : List (Addr × Obj)) : Prop where
  env : ∃ A0, Env0 X.prog X.w X.K X.mg X.base A0 X.outer s' H'
  loc : ∀ o, s.heap.get? X.env.locals = some o → s'.heap.get? X.env.locals = some o
  free : H' X.env.locals = none
  pin : ∀ p ∈ X.pn ++ (ip ++ ks'), s'.heap.get? p.1 = some p.2 ∧ H' p.1 = none ∧ p.1 ≠ X.env.locals ∧ p.1 ∉ X.fs ∧ ∀ v, p.2.data ≠ .cell v
  apt : Apt X ip ks'
theorem GI1.wake {Γ : Type} {X : Cx} (g : GX X) {CI : CIT Γ} {ip ks' : List (Addr × Obj)} {σ : L2.St} {H H' : Hp} {s s' : Shared} {γ γ' : Γ} (h : GI1 X CI ip σ H s γ) (w : Wk X ip s s' H' ks') (c : CI s' H' ks' γ') : GI1 X CI ip σ H' s' γ' := by
  obtain ⟨sj, Hj, ks, _, _, _, I⟩ := h
  obtain ⟨A0, e0⟩ := w.env
  have lt : X.env.locals < s'.heap.objs.size := by
    obtain ⟨m, ⟨o, es, ep, ho, _⟩, _⟩ := I.loc
    exact Heap.lt_size (w.loc o ho)
  exact ⟨s', H', ks', c, w.apt, Nat.le_of_lt lt, I.wake g e0 w.loc w.free w.pin⟩
/-- what is wanted behind a statement; n: how often it may still yield; γ: the consumer's own state -/
structure GEn (Γ : Type) where
  nx : Nat → L2.St → Hp → Γ → Prop
  rt : Nat → V → Hp → Γ → Prop
  bk : Nat → L2.St → Hp → Γ → Prop := fun _ _ _ _ => False
  ct : Nat → L2.St → Hp → Γ → Prop := fun _ _ _ _ => False
  yl : Nat → V → Hp → Γ → (Hp → Γ → Prop) → Prop
abbrev TGm (Γ : Type) := GEn Γ → Nat → L2.St → Hp → Γ → Prop
abbrev YLT (Γ : Type) := Nat → V → Hp → Γ → (Hp → Γ → Prop) → Prop
def GY1 {Γ : Type} (X : Cx) (CI : CIT Γ) (YL : YLT Γ) : Protocol := fun n s₀ v s kap =>
  ∃ ip σ H x γ κ, RelV x v ∧ GI1 X CI ip σ H s γ ∧ (∀ p ∈ ip, X.env.locals < p.1) ∧ YL n x H γ κ ∧ ∀ s' H' ks' γ', Wk X ip s s' H' ks' → CI s' H' ks' γ' → κ H' γ' → kap (.send .none) s' ∧ kap (.send (.bool true)) s'
def GSP1 {Γ : Type} (X : Cx) (CI : CIT Γ) (ip : List (Addr × Obj)) (D : GEn Γ) (n : Nat) (f : Flow) (s : Shared) : Prop :=
  match f with
  | .next => ∃ σ H γ, GI1 X CI ip σ H s γ ∧ D.nx n σ H γ
  | .brk => ∃ σ H γ, GI1 X CI ip σ H s γ ∧ D.bk n σ H γ
  | .cont => ∃ σ H γ, GI1 X CI ip σ H s γ ∧ D.ct n σ H γ
  | .ret u => ∃ v σ H γ, GI1 X CI ip σ H s γ ∧ RelV v u ∧ D.rt n v H γ
structure GC1 (X : Cx) (A : Around) (c : Code) (fs : List Frame) (gd : Bool → Bool) : Prop where
  over : A.over c fs = X.A
  split : splitAtGen fs = none
  guard : fs.any Frame.guarded = false
  gd : gd false = false
def GK1 {Γ : Type} (X : Cx) (A : Around) (R : GenEnd) (CI : CIT Γ) (ip : List (Addr × Obj)) (c : Code) (fs : List Frame) (K : Flow → Sem PySem.Fin) (D : GEn Γ) : Prop :=
  ∀ (n : Nat) (s₀ s : Shared) (f : Flow), GSP1 X CI ip D n f s → Seg (model X.prog X.w) A R (GY1 X CI D.yl) n s₀ c (K f) fs s
structure GS1 (Γ : Type) (X : Cx) (st : Stmt) (t : TGm Γ) : Prop where
  run : ∀ (A : Around) (R : GenEnd) (CI : CIT Γ) (ip : List (Addr × Obj)) (n : Nat) (s₀ : Shared) (c : Code) (fs : List Frame) (K : Flow → Sem PySem.Fin) (J : Value → Sem PySem.Fin) (gd : Bool → Bool) (lv : List Value → List Value) (s : Shared) (σ : L2.St) (H : Hp) (γ : Γ) (D : GEn Γ),
    GC1 X A c fs gd → (∀ p ∈ ip, X.env.locals < p.1) → GK1 X A R CI ip c fs K D → GI1 X CI ip σ H s γ → t D n σ H γ → Seg (model X.prog X.w) A R (GY1 X CI D.yl) n s₀ c ((exec st X.env).wrap K J gd lv) fs s
structure GSs1 (Γ : Type) (X : Cx) (st : List Stmt) (t : TGm Γ) : Prop where
  run : ∀ (A : Around) (R : GenEnd) (CI : CIT Γ) (ip : List (Addr × Obj)) (n : Nat) (s₀ : Shared) (c : Code) (fs : List Frame) (K : Flow → Sem PySem.Fin) (J : Value → Sem PySem.Fin) (gd : Bool → Bool) (lv : List Value → List Value) (s : Shared) (σ : L2.St) (H : Hp) (γ : Γ) (D : GEn Γ),
    GC1 X A c fs gd → (∀ p ∈ ip, X.env.locals < p.1) → GK1 X A R CI ip c fs K D → GI1 X CI ip σ H s γ → t D n σ H γ → Seg (model X.prog X.w) A R (GY1 X CI D.yl) n s₀ c ((execs st X.env).wrap K J gd lv) fs s
def GEn.at {Γ : Type} (D : GEn Γ) (n : Nat) (γ : Γ) : Ends := { nx := fun σ H => D.nx n σ H γ, rt := fun v H => D.rt n v H γ, bk := fun σ H => D.bk n σ H γ, ct := fun σ H => D.ct n σ H γ }
section
variable {Γ : Type} {X : Cx} {st : Stmt} {rest : List Stmt}
def tG1 {Γ : Type} : TGm Γ := fun D n σ H γ => D.nx n σ H γ
theorem gss1_nil : GSs1 Γ X [] tG1 := by
  refine ⟨fun A R CI ip n s₀ c fs K J gd lv s σ H γ D g hi k hI ht => ?_⟩
  exact seg_execs_nil (k n s₀ s .next ⟨σ, H, γ, hI, ht⟩)
def tGSeq {Γ : Type} (t u : TGm Γ) : TGm Γ := fun D n σ H γ => t { D with nx := fun n' σ' H' γ' => u D n' σ' H' γ' } n σ H γ
theorem gss1_cons {t u : TGm Γ} (a : GS1 Γ X st t) (b : GSs1 Γ X rest u) : GSs1 Γ X (st :: rest) (tGSeq t u) := by
  refine ⟨fun A R CI ip n s₀ c fs K J gd lv s σ H γ D g hi k hI ht => ?_⟩
  refine seg_execs_cons ?_
  refine a.run A R CI ip n s₀ c fs _ J gd lv s σ H γ { D with nx := fun n' σ' H' γ' => u D n' σ' H' γ' } g hi (fun n' s₀' s' f hs => ?_) hI ht
  cases f with
  | next =>
    obtain ⟨σ', H', γ', I', q⟩ := hs
    exact b.run A R CI ip n' s₀' c fs K J gd lv s' σ' H' γ' D g hi k I' q
  | brk => exact k n' s₀' s' .brk hs
  | cont => exact k n' s₀' s' .cont hs
  | ret u => exact k n' s₀' s' (.ret u) hs
def tGYd {Γ : Type} (te : TE) : TGm Γ := fun D n σ H γ => ∃ m, n = m + 1 ∧ te σ H fun x H1 => D.yl m x H1 γ fun H' γ' => D.nx m σ H' γ'
theorem gs1_yield {e : Expr} {yp pos : Pos} {te : TE} (G : GX X) (he : ∀ sj Hj, PE (rb X sj Hj) e te) (hco : X.env.scope.isCoroutine = false := by rfl) (hin : interactive X.env = false := by rfl) : GS1 Γ X (.Expr (.Yield (some e) yp) pos) (tGYd te) := by
  refine ⟨fun A R CI ip n s₀ c fs K J gd lv s σ H γ D g hi k hI ht => ?_⟩
  obtain ⟨m, rfl, ht⟩ := ht
  obtain ⟨sj, Hj, ks, hci, hap, hz, I⟩ := hI
  refine seg_Expr_Yield g.split g.gd g.guard ?_ hco hin
  rw [g.over]
  refine wpAny_mono ((he sj Hj).run _ s σ H _ I ht) (fun v s' hv => ?_) fun x s' hx => hx.elim
  obtain ⟨x, H1, I1, rv, q⟩ := hv
  have G1 : GI1 X CI ip σ H1 s' γ := ⟨sj, Hj, ks, hci, hap, hz, I1⟩
  intro kap hk
  refine ⟨ip, σ, H1, x, γ, _, rv, G1, hi, q, fun s'' H' ks' γ' w cc q' => ⟨hk .none s'' ?_, hk (.bool true) s'' ?_⟩⟩
  · exact k m s'' s'' .next ⟨σ, H', γ', G1.wake G w cc, q'⟩
  · exact k m s'' s'' .next ⟨σ, H', γ', G1.wake G w cc, q'⟩
end
end L2
namespace L2
open PySem PySem.Spec PyProof.Rows GenW GenX
section
variable {M : Model} {A : Around} {R : GenEnd} {Y : Protocol} {n : Nat} {s₀ : Shared} {c : Code} {fs : List Frame} {s : Shared}
theorem seg_bindOn {α : Type} {m : Sem α} {f : α → Sem PySem.Fin} {hd : Value → Sem Unit} (h : wpAny M (A.over c fs) m (fun a s' => Seg M A R Y n s₀ c ((f a).onRaise hd) fs s') (fun _ _ => False) s) : Seg M A R Y n s₀ c ((m >>= f).onRaise hd) fs s := by
  rw [Sem.onRaise_eq_wrap, Sem.bind_eq_wrap', Sem.wrap_wrap]
  refine seg_wrap (wpAny_mono h (fun a s' h' => ?_) fun _ _ z => z.elim)
  rw [← Sem.onRaise_eq_wrap]
  exact h'
end
theorem gc_loop1 {X : Cx} {A : Around} {c c' : Code} {fs : List Frame} {gd : Bool → Bool} {k : Result → Sem PySem.Fin} {l kp : List Value} {p : Pos} (g : GC1 X A c fs gd) (hw : c'.weight = 0) (hu : c'.cUnits = 0) : GC1 X A c' (.ret k none (gd false) l c p kp :: fs) id where
  over := (over_loop hw hu).trans g.over
  split := by
    show (splitAtGen fs).map _ = none
    rw [g.split]; rfl
  guard := by
    show (gd false || fs.any Frame.guarded) = false
    rw [g.gd, g.guard]; rfl
  gd := rfl
def tGFor {Γ : Type} (wi : TI) (g : TG) (tb : TGm Γ) : TGm Γ := fun D n σ H γ => wi σ H fun J H1 => ∃ W : Nat → Nat → Nat → L2.St → Hp → Γ → Prop, (∃ m, W 0 m n σ H1 γ) ∧ ∀ i m n σ H γ, W i m n σ H γ →
  (J.stop i H ∧ D.nx n σ H γ) ∨ (J.go i H ∧ ∃ N : Nat → L2.St → Hp → Γ → Prop, (∀ n' σ' H' γ', N n' σ' H' γ' → ∃ m', m' < m ∧ W (i + 1) m' n' σ' H' γ') ∧ ∀ x H', J.yld i H x H' → g x σ H' fun σ2 H2 => tb { D with nx := N, ct := N, bk := D.nx } n σ2 H2 γ)
section
variable {Γ : Type} {X : Cx}
/-- the loop, once its iterator has come -/
theorem seg_loop1 {tg : Expr} {body : List Stmt} {g : TG} {tb : TGm Γ} (G : GX X) (hcalm : X.calm = true) (hg : ∀ sj Hj, PG (rb X sj Hj) tg g) (hb : GSs1 Γ X body tb)
    {A : Around} {R : GenEnd} {CI : CIT Γ} {ip : List (Addr × Obj)} {c : Code} {fs : List Frame} {K : Flow → Sem PySem.Fin} {J : Value → Sem PySem.Fin} {gd : Bool → Bool} {lv : List Value → List Value} {D : GEn Γ}
    (gc : GC1 X A c fs gd) (hip : ∀ p ∈ ip, X.env.locals < p.1) (k : GK1 X A R CI ip c fs K D) {it : Addr} {fp : List Addr} {tn : Nat → Heap → Prop} {Jt : It} (T : Turn X.prog X.w X.K tg Jt fp it tn)
    (hfp : ∀ b ∈ fp, X.env.locals < b ∧ b ∉ X.fs ∧ ∀ p ∈ X.pn ++ ip, p.1 ≠ b) (p : Pos) {W : Nat → Nat → Nat → L2.St → Hp → Γ → Prop}
    (turn : ∀ i m n σ H γ, W i m n σ H γ → (Jt.stop i H ∧ D.nx n σ H γ) ∨ (Jt.go i H ∧ ∃ N : Nat → L2.St → Hp → Γ → Prop, (∀ n' σ' H' γ', N n' σ' H' γ' → ∃ m', m' < m ∧ W (i + 1) m' n' σ' H' γ') ∧ ∀ x H', Jt.yld i H x H' → g x σ H' fun σ2 H2 => tb { D with nx := N, ct := N, bk := D.nx } n σ2 H2 γ)) :
    ∀ (m i n : Nat) (s₀ s : Shared) (σ : L2.St) (H : Hp) (γ : Γ), W i m n σ H γ → (∃ sj Hj ks, CI sj Hj ks γ ∧ Apt X ip ks ∧ X.env.locals ≤ sj.heap.objs.size ∧ (∀ b ∈ fp, H b = none ∧ ∀ p ∈ ks, p.1 ≠ b) ∧ Inv (rb X sj Hj) (ip ++ ks) σ H s) → tn i s.heap →
      Seg (model X.prog X.w) A R (GY1 X CI D.yl) n s₀ (.forLoop tg (.ref it) body [] X.env) ((model X.prog X.w).den (.forLoop tg (.ref it) body [] X.env))
        (.ret (fun r => ((match r with | .ok f => (.pure f : Sem Flow) | .error e => .raise e).onRaise (cameBack X.env)).wrap K J gd lv) none (gd false) (lv []) c p [] :: fs) s := by
  have gl := fun (kk : Result → Sem PySem.Fin) => gc_loop1 (k := kk) (c' := .forLoop tg (.ref it) body [] X.env) (l := lv []) (kp := []) (p := p) gc rfl rfl
  have glb := fun (kk : Result → Sem PySem.Fin) => gc_loop1 (k := kk) (c' := .block [] X.env) (l := lv []) (kp := []) (p := p) gc rfl rfl
  intro m
  induction m using Nat.strongRecOn with
  | ind m ih =>
    intro i n s₀ s σ H γ w hI st
    obtain ⟨sj, Hj, ks, hci, hap, hz, hfn, I⟩ := hI
    have ok : ∀ b ∈ fp, FpOk (rb X sj Hj) (ip ++ ks) H b := fun b hb => by
      obtain ⟨f1, f2, f3⟩ := hfp b hb
      refine ⟨(hfn b hb).1, Nat.ne_of_gt f1, f2, .inr ?_, fun x c e => ?_, fun q hq => ?_⟩
      · show (cut sj.heap X.env.locals).objs.size ≤ b
        rw [cut_size]
        exact Nat.le_trans (Nat.min_le_left ..) (Nat.le_of_lt f1)
      · have := G.nocell x
        rw [show X.env.cells.lookup x = some c from e] at this
        cases this
      · rcases List.mem_append.mp hq with z | z
        · exact f3 q (List.mem_append_left _ z)
        · rcases List.mem_append.mp z with z | z
          · exact f3 q (List.mem_append_right _ z)
          · exact (hfn b hb).2 q z
    show Seg _ _ _ _ _ _ _ ((forTurn tg (.ref it) body [] X.env).onRaise (fun x => do noteFrame x X.env; theTreesLotGoes x)) _ _
    simp only [forTurn]
    refine seg_bindOn (wpAny_standAt ?_)
    refine seg_bindOn (wpAny_onRaise ?_)
    rw [(gl _).over]
    rcases turn i m n σ H γ w with ⟨stop, qn⟩ | ⟨go, N, hN, step⟩
    · refine wpAny_mono (T.done (rb X sj Hj) rfl rfl rfl hcalm i (ip ++ ks) s σ H (fun _ _ => False) I ok st stop) (fun r s1 hr => ?_) fun _ _ z => z.elim
      obtain ⟨rfl, I1⟩ := hr
      show Seg _ _ _ _ _ _ _ (.pure (.again (.block [] X.env))) _ _
      refine seg_again rfl ?_
      show Seg _ _ _ _ _ _ _ (.pure (.done .next)) _ _
      exact seg_leaf (.ok .next) (k n s₀ s1 .next ⟨σ, H, γ, ⟨sj, Hj, ks, hci, hap, hz, I1⟩, qn⟩)
    · refine wpAny_mono (T.item (rb X sj Hj) rfl rfl rfl hcalm i (ip ++ ks) s σ H (fun _ _ => False) I ok st go) (fun r s1 hr => ?_) fun _ _ z => z.elim
      obtain ⟨u, rfl, h1⟩ := hr
      refine seg_bindOn ?_
      rw [(gl _).over]
      refine wpAny_mono h1 (fun _ s2 h2 => ?_) fun _ _ z => z.elim
      obtain ⟨x, H2, I2, r2, y2, st2, fn2⟩ := h2
      have I2' : Inv (rb X sj Hj) ((ip ++ pinsAt fp s2.heap) ++ ks) σ H2 s2 := I2.pins_of fun q hq => by
        rcases List.mem_append.mp hq with z | z
        · rcases List.mem_append.mp z with z | z
          · exact I2.pin q (List.mem_append_right _ (List.mem_append_left _ z))
          · obtain ⟨hb, e⟩ := of_pinsAt z
            obtain ⟨o, e', d⟩ := T.obj _ _ st2 q.1 hb
            rw [e] at e'; cases e'
            obtain ⟨f1, f2, f3⟩ := hfp q.1 hb
            exact ⟨e, fn2 q.1 hb, Nat.ne_of_gt f1, f2, d⟩
        · exact I2.pin q (List.mem_append_right _ (List.mem_append_right _ z))
      refine seg_bindOn ?_
      rw [(gl _).over]
      refine wpAny_mono ((hg sj Hj).run _ s2 σ H2 x u _ I2' r2 (step x H2 y2)) (fun _ s3 h3 => ?_) fun _ _ z => z.elim
      obtain ⟨σ3, H3, I3, q3⟩ := h3
      rw [Sem.onRaise_eq_wrap, Sem.bind_eq_wrap', Sem.wrap_wrap]
      refine hb.run A R CI (ip ++ pinsAt fp s2.heap) n s₀ _ _ _ _ _ _ s3 σ3 H3 γ { D with nx := N, ct := N, bk := D.nx } ⟨(gl _).over, (gl _).split, (gl _).guard, rfl⟩ (fun q hq => ?_) (fun n' s₀' s4 f hs => ?_) ⟨sj, Hj, ks, hci, fun q hq => ⟨(hap q hq).1, fun r hr => ?_⟩, hz, I3⟩ q3
      · rcases List.mem_append.mp hq with z | z
        · exact hip q z
        · exact (hfp q.1 (of_pinsAt z).1).1
      · have again : ∀ σ4 H4 γ4, GI1 X CI (ip ++ pinsAt fp s2.heap) σ4 H4 s4 γ4 → N n' σ4 H4 γ4 → Seg (model X.prog X.w) A R (GY1 X CI D.yl) n' s₀' (.forLoop tg (.ref it) body [] X.env) (.pure (.again (.forLoop tg (.ref it) body [] X.env)))
            (.ret (fun r => ((match r with | .ok f => (.pure f : Sem Flow) | .error e => .raise e).onRaise (cameBack X.env)).wrap K J gd lv) none (gd false) (lv []) c p [] :: fs) s4 := fun σ4 H4 γ4 hI4 n4 => by
          obtain ⟨sj', Hj', ks', hci', hap', hz', I4⟩ := hI4
          obtain ⟨m', hm, w4⟩ := hN n' σ4 H4 γ4 n4
          have at' : ∀ b ∈ fp, ∀ o, s2.heap.get? b = some o → s4.heap.get? b = some o ∧ H4 b = none := fun b hb o e =>
            let z := I4.pin (b, o) (List.mem_append_right _ (List.mem_append_left _ (List.mem_append_right _ (mem_pinsAt hb e))))
            ⟨z.1, z.2.1⟩
          refine seg_again rfl (ih m' hm (i + 1) n' s₀' s4 σ4 H4 γ4 w4 ⟨sj', Hj', ks', hci', fun q hq => ⟨(hap' q hq).1, fun r hr => (hap' q hq).2 r ?_⟩, hz', fun b hb => ⟨?_, fun q hq => ?_⟩, I4.pins_of fun q hq => ?_⟩ (T.keep _ _ _ st2 fun b hb o e => (at' b hb o e).1))
          · rcases List.mem_append.mp hr with z | z
            · exact List.mem_append_left _ z
            · exact List.mem_append_right _ (List.mem_append_left _ z)
          · obtain ⟨o, e, _⟩ := T.obj _ _ st2 b hb
            exact (at' b hb o e).2
          · obtain ⟨o, e, _⟩ := T.obj _ _ st2 b hb
            exact (hap' q hq).2 (b, o) (List.mem_append_right _ (List.mem_append_right _ (mem_pinsAt hb e)))
          · rcases List.mem_append.mp hq with z | z
            · exact I4.pin q (List.mem_append_right _ (List.mem_append_left _ (List.mem_append_left _ z)))
            · exact I4.pin q (List.mem_append_right _ (List.mem_append_right _ z))
        have less : ∀ σ4 H4 γ4, GI1 X CI (ip ++ pinsAt fp s2.heap) σ4 H4 s4 γ4 → GI1 X CI ip σ4 H4 s4 γ4 := fun σ4 H4 γ4 hI4 => by
          obtain ⟨sj', Hj', ks', hci', hap', hz', I4⟩ := hI4
          refine ⟨sj', Hj', ks', hci', fun q hq => ⟨(hap' q hq).1, fun r hr => (hap' q hq).2 r ?_⟩, hz', I4.pins_of fun q hq => ?_⟩
          · rcases List.mem_append.mp hr with z | z
            · exact List.mem_append_left _ z
            · exact List.mem_append_right _ (List.mem_append_left _ z)
          · rcases List.mem_append.mp hq with z | z
            · exact I4.pin q (List.mem_append_right _ (List.mem_append_left _ (List.mem_append_left _ z)))
            · exact I4.pin q (List.mem_append_right _ (List.mem_append_right _ z))
        cases f with
        | next => obtain ⟨σ4, H4, γ4, I4, q4⟩ := hs; exact again σ4 H4 γ4 I4 q4
        | cont => obtain ⟨σ4, H4, γ4, I4, q4⟩ := hs; exact again σ4 H4 γ4 I4 q4
        | brk =>
          obtain ⟨σ4, H4, γ4, I4, q4⟩ := hs
          exact seg_leaf (.ok .next) (k n' s₀' s4 .next ⟨σ4, H4, γ4, less _ _ _ I4, q4⟩)
        | ret v =>
          obtain ⟨x4, σ4, H4, γ4, I4, r4, q4⟩ := hs
          exact seg_leaf (.ok (.ret v)) (k n' s₀' s4 (.ret v) ⟨x4, σ4, H4, γ4, less _ _ _ I4, r4, q4⟩)
      · rcases List.mem_append.mp hr with z | z
        · exact (hap q hq).2 r (List.mem_append_left _ z)
        · rcases List.mem_append.mp z with z | z
          · exact (hap q hq).2 r (List.mem_append_right _ z)
          · exact (hfn r.1 (of_pinsAt z).1).2 q hq
end
end L2
namespace L2
open PySem PySem.Spec PyProof.Rows GenW GenX
section
variable {Γ : Type} {X : Cx} {pins : List (Addr × Obj)} {σ : L2.St} {H : Hp} {s : Shared}
theorem Inv.to_rb (hL : X.env.locals = X.s_0.heap.objs.size) (I : Inv X pins σ H s) : Inv (rb X X.s_0 X.H_0) pins σ H s := by
  have e : ({ X.s_0 with heap := cut X.s_0.heap X.env.locals } : Shared) = X.s_0 := by rw [hL, cut_all]
  have ok := I.ok
  show Inv { X with s_0 := { X.s_0 with heap := cut X.s_0.heap X.env.locals }, H_0 := X.H_0, xe := fun _ _ => False } pins σ H s
  rw [e]
  exact ⟨⟨ok.mod, ok.kind, ok.glob, ok.blt, ok.above, ok.inj, ok.has, ok.cab, ok.hd, ok.frames, ok.stk, ok.exf, ok.bs, ok.bsz, ok.noex, ok.exfs, ok.funs, ok.frf⟩, I.os, I.bare, I.base, I.loc, I.cell, I.free, I.freeC, I.pin, I.hok, I.len⟩
structure GB (Γ : Type) (X : Cx) (st : List Stmt) (t : TGm Γ) : Prop where
  run : ∀ (A : Around) (R : GenEnd) (CI : CIT Γ) (n : Nat) (s₀ : Shared) (c : Code) (fs : List Frame) (K : Flow → Sem PySem.Fin) (J : Value → Sem PySem.Fin) (gd : Bool → Bool) (lv : List Value → List Value) (s : Shared) (σ : L2.St) (H : Hp) (γ : Γ) (D : GEn Γ),
    GC1 X A c fs gd → X.env.locals = X.s_0.heap.objs.size → GK1 X A R CI [] c fs K D → (∀ (n : Nat) (s₀ : Shared) (e : Value) (s : Shared), X.xe e s → Seg (model X.prog X.w) A R (GY1 X CI D.yl) n s₀ c (J e) fs s) → CI X.s_0 X.H_0 [] γ → Inv X [] σ H s → t D n σ H γ →
    Seg (model X.prog X.w) A R (GY1 X CI D.yl) n s₀ c ((execs st X.env).wrap K J gd lv) fs s
/-- a for whose iterator may raise -/
theorem gb_for {tg iter : Expr} {body : List Stmt} {pos : Pos} {wi : TI} {g : TG} {tb : TGm Γ} (G : GX X) (hcalm : X.calm = true) (hi : PI X tg iter wi) (hg : ∀ sj Hj, PG (rb X sj Hj) tg g) (hb : GSs1 Γ X body tb)
    (hs : ∀ x, foldedSetIterable iter X.env x = pure x := by intro _; rfl) : GB Γ X [.For tg iter body [] pos] (tGSeq (tGFor wi g tb) tG1) := by
  refine ⟨fun A R CI n s₀ c fs K J gd lv s σ H γ D gc hL k ke hc I ht => ?_⟩
  refine seg_execs_cons ?_
  have k' : GK1 X A R CI [] c fs (fun f => match f with | .next => (execs [] X.env).wrap K J gd lv | f => K f) { D with nx := fun n' σ' H' γ' => D.nx n' σ' H' γ' } := fun n' s₀' s' f hs => by
    cases f with
    | next => exact seg_execs_nil (k n' s₀' s' .next hs)
    | brk => exact k n' s₀' s' .brk hs
    | cont => exact k n' s₀' s' .cont hs
    | ret u => exact k n' s₀' s' (.ret u) hs
  rw [exec_For]
  show Seg _ _ _ _ _ _ _ (.at pos fun _ => ((eval iter X.env >>= fun v => (foldedSetIterable iter X.env v >>= fun x => (standAt iter.pos >>= fun _ => (holding [x] (pyIter x) >>= fun it => runOwn (.forLoop tg it body [] X.env) X.env)))).wrap _ J gd lv)) _ _
  refine seg_at (seg_bind_wrap ?_)
  rw [gc.over]
  refine wpAny_mono (hi.run _ s σ H _ I ht) (fun v s1 h1 => ?_) fun x s' hx => ke n s₀ x s' hx
  refine seg_bind_wrap (wpAny_of_eq (hs v) ?_)
  refine seg_bind_wrap (wpAny_standAt ?_)
  refine seg_bind_wrap (wpAny_holding ?_)
  rw [gc.over]
  refine wpAny_mono h1 (fun u s2 h2 => ?_) fun x s' hx => ke n s₀ x s' hx
  obtain ⟨it, fp, tn, Jt, H2, rfl, I2, T, st2, f2, W, ⟨m0, w0⟩, turn⟩ := h2
  refine seg_call fun p => ?_
  have low : ∀ b ∈ fp, X.env.locals < b := fun b hb => by
    obtain ⟨_, f1, _, f3, _⟩ := f2 b hb
    rcases f3 with f3 | f3
    · rw [G.ex] at f3; cases f3
    · rw [← hL] at f3
      exact Nat.lt_of_le_of_ne f3 (Ne.symm f1)
  exact seg_loop1 G hcalm hg hb gc (fun q hq => absurd hq (by simp)) k' T (fun b hb => ⟨low b hb, (f2 b hb).2.2.1, fun q hq => (f2 b hb).2.2.2.2.2 q hq⟩) p turn m0 0 n s₀ s2 σ H2 γ w0
    ⟨X.s_0, X.H_0, [], hc, fun q hq => absurd hq (by simp), Nat.le_of_eq hL, fun b hb => ⟨(f2 b hb).1, fun q hq => absurd hq (by simp)⟩, I2.to_rb hL⟩ st2
end
end L2
namespace L2
open PySem PySem.Spec PyProof.Rows GenW GenX
/-- a generator's promise: the heap at the call, the consumer's state, what it does with an item, what it wants at the end, the exception -/
abbrev TGe := (Γ : Type) → Hp → Γ → YLT Γ → (Hp → Γ → Prop) → XK → Prop
abbrev SpGe := (Γ : Type) → List V → Hp → Γ → YLT Γ → (Hp → Γ → Prop) → XK → Prop
def RE1 {Γ : Type} (P : Program) (w : World) (outer : List Env) (H : Hp) (s : Shared) (X : Cx) (CI : CIT Γ) (EN : Hp → Γ → Prop) (E : XK) (a : Addr) (g : Nat) : GenEnd := fun n s₀ r s1 =>
  ((r = .ok (.ret .none) ∨ r = .ok .next) ∧ ∃ σ H' γ, GI1 X CI [] σ H' s1 γ ∧ EN H' γ) ∨ ∃ e, r = .error e ∧ CX P w outer H s E e s1 ∧ s1.heap.IsGen a g
structure GWk (P : Program) (w : World) (K : PySem.W.Frag) (mg : Str → Option Value) (base : Heap) (outer : List Env) (s : Shared) (a : Addr) (go : Obj) (X : Cx) : Prop where
  gx : GX X
  prog : X.prog = P
  w : X.w = w
  K : X.K = K
  mg : X.mg = mg
  base : X.base = base
  outer : X.outer = outer
  loc : X.env.locals = s.heap.objs.size
  pn : X.pn = [(a, go)]
def GMd (P : Program) (w : World) (K : PySem.W.Frag) (mg : Str → Option Value) (base : Heap) (k : Nat) (outer : List Env) (H : Hp) (s : Shared) (tg : TGe) (u : Value) (s' : Shared) : Prop :=
  ∃ (a : Addr) (g : Nat) (c : Code) (go : Obj), u = .ref a ∧ s.heap.objs.size < a ∧ a < s'.heap.objs.size ∧ s'.heap.get? a = some go ∧ (∀ h : Heap, h.get? a = some go → h.IsGen a g) ∧ go.cls = .type "generator" ∧ (∃ vs, go.data = .fields vs) ∧ s'.gens[g]? = some (.fresh c) ∧ s'.os = s.os ∧ AllBare s'.gens ∧ s'.heap.NoLimit ∧
    (∀ b o, s.heap.get? b = some o → s'.heap.get? b = some o) ∧
    ∀ (Γ : Type) (CI : CIT Γ) (YL : YLT Γ) (EN : Hp → Γ → Prop) (E : XK) (γ : Γ), tg Γ H γ YL EN E → ∀ (Aw : Around) (s2 : Shared), Room k Aw → Aw.frames = some outer → (∀ b o, s'.heap.get? b = some o → s2.heap.get? b = some o) → s2.os = s.os → AllBare s2.gens → CI s H [] γ →
      ∃ X, GWk P w K mg base outer s a go X ∧ ∃ N, Seg (model P w) Aw (RE1 P w outer H s X CI EN E a g) (GY1 X CI YL) N s2 c ((model P w).den c) [] s2
structure GFn1 (P : Program) (w : World) (K : PySem.W.Frag) (mg : Str → Option Value) (base : Heap) (k : Nat) (f : Addr) (fd : FuncData) (ps : List Str) (sp : SpGe) : Prop where
  len : ∀ Γ vs H γ YL EN E, sp Γ vs H γ YL EN E → vs.length = ps.length
  run : ∀ (A : Around) (outer : List Env) (s : Shared) (H : Hp) (args : Args) (us : List Value) (vs : List V), Room k A → Env0 P w K mg base A outer s H → BindsTo s fd args (ps.zip us) → Vals vs us → vs.length = ps.length →
    codeAny (model P w) A (.call (.ref f) args) (fun r s' => match r with | .ok (.ret u) => GMd P w K mg base k outer H s (fun Γ => sp Γ vs) u s' | _ => False) s
theorem no_cells : ∀ {names : List (Str × NameKind)} {n : Nat}, (∀ y ∈ names, y.2 ≠ .cell) → cellsFrom n names [] = []
  | [], n, _ => by simp [cellsFrom]
  | (x, kd) :: r, n, h => by
    have h1 := h (x, kd) List.mem_cons_self
    have ih := no_cells (names := r) (n := n) fun y hy => h y (List.mem_cons_of_mem _ hy)
    cases kd <;> first | exact absurd rfl h1 | (simp [cellsFrom]; exact ih) | (unfold cellsFrom; exact ih)
theorem gfn1_of {P : Program} {w : World} {K : PySem.W.Frag} {mg : Str → Option Value} {base : Heap} {k : Nat} {f : Addr} {name qual : Str} {params : Arguments} {body : List Stmt} {scope : Scope} {dV kV doc pm cdv ct oc : Value} {an od : Option Addr}
    {osl : Array (Option Value)} {N ps : List Str} {sp : SpGe} (lk : K.lookup f = some ⟨oc, od, .func (PySem.W.fnOf name qual params body scope dV kV doc pm an cdv ct), osl⟩) (hcd : PySem.W.codeIn K cdv qual = true) (S : GScope N ps scope) (hnc : ∀ y ∈ scope.names, y.2 ≠ .cell)
    (len : ∀ Γ vs H γ YL EN E, sp Γ vs H γ YL EN E → vs.length = ps.length)
    (hbody : ∀ (A : Around) (outer : List Env) (s : Shared) (H : Hp) (vs : List V) (Γ : Type) (γ : Γ) (YL : YLT Γ) (EN : Hp → Γ → Prop) (E : XK) (pn : List (Addr × Obj)), Room k (A.deeper (envOfC qual scope s.heap.objs.size f cdv)) → sp Γ vs H γ YL EN E → GX (gcxOf P w K mg base N qual scope f cdv A outer s H E pn) →
      ∃ t, GB Γ (gcxOf P w K mg base N qual scope f cdv A outer s H E pn) body t ∧ ∃ n, t { nx := fun _ _ H' γ' => EN H' γ', rt := fun _ v H' γ' => v = .non ∧ EN H' γ', yl := YL } n (start N vs) H γ) :
    GFn1 P w K mg base (k + 1) f (PySem.W.fnOf name qual params body scope dV kV doc pm an cdv ct) ps sp := by
  refine ⟨len, fun A outer s H args us vs hr e0 hb r hl => ?_⟩
  have KX : K.In s.heap := e0.mod.kin.keeps fun b o e => (e0.bs b o e).1
  have lim : s.heap.NoLimit := e0.mod.nolimit.keeps fun b o e => (e0.bs b o e).1
  have hkind : ∀ y ∈ ps.zip us, scope.names.lookup y.1 = some .local ∨ (scope.names.lookup y.1 = some .cell ∧ ((cellsFrom (s.heap.objs.size + 1) scope.names []).lookup y.1).isSome = true) := fun ⟨n, v⟩ hy => by
    rcases S.par n (List.of_mem_zip hy).1 with q | q
    · exact .inl q
    · exact .inr ⟨q, PySem.W.cellsFrom_some _ _ _ (.inl q)⟩
  refine codeAny_call_generator hr.depth (KX _ _ lk) rfl S.co S.gen rfl (PySem.W.codeRec_of KX hcd) (hb _ _ _ _ ?_)
  refine wpAny_newFunctionEnv_cells S.kind hkind fun env he s1 x => ?_
  subst he
  have lim1 : s1.heap.NoLimit := lim.keeps x.toInCall.keep
  refine ⟨lim1, ?_⟩
  obtain ⟨h1, tk, es1, hk1⟩ := x.done
  have os1 : s1.os = s.os := by rw [es1]
  have gen1 : s1.gens = s.gens := by rw [es1]
  have lt1 : s.heap.objs.size < s1.heap.objs.size := x.toInCall.ns.lt
  have kp1 : ∀ b o, s.heap.get? b = some o → s1.heap.get? b = some o := x.toInCall.keep
  have main : ∀ (go : Obj) (nm qn : Value) (tk2 : Nat), go.cls = .type "generator" → go.data = .fields #[.int s1.gens.size 0, nm, qn] → go.slots = #[] → (∀ h : Heap, (h.push go).get? h.objs.size = some go) →
      GMd P w K mg base (k + 1) outer H s (fun Γ => sp Γ vs) (.ref s1.heap.objs.size) { s1 with gens := s1.gens.push (.fresh (.func body (envOfC qual scope s.heap.objs.size f cdv))), toks := tk2, heap := s1.heap.push go } := by
    intro go nm qn tk2 hgc hgd0 hgs hgp
    have hgen : ∀ h : Heap, h.get? s1.heap.objs.size = some go → h.IsGen s1.heap.objs.size s1.gens.size := fun h e => ⟨go, nm, qn, e, hgc, hgd0, hgs⟩
    have hpushed : (s1.heap.push go).get? s1.heap.objs.size = some go := hgp _
    refine ⟨s1.heap.objs.size, s1.gens.size, _, go, rfl, lt1, ?_, hpushed, hgen, hgc, ⟨_, hgd0⟩, Array.getElem?_push_size .., os1, ?_, lim1.keeps fun b o e => Heap.get?_push_of_some _ e, fun b o e => Heap.get?_push_of_some _ (kp1 b o e), ?_⟩
    · show _ < (s1.heap.push _).objs.size
      rw [Heap.size_push]; exact Nat.lt_succ_self _
    · exact AllBare.push (by rw [gen1]; exact e0.bare) rfl
    intro Γ CI YL EN E γ hsp Aw s2 hrw hfr hk2 hos hba hci
    have e0w : Env0 P w K mg base Aw outer s H := ⟨hfr, e0.mod, e0.bs, e0.bsz, e0.funs, e0.frf, e0.hok, e0.bare⟩
    have G : GX (gcxOf P w K mg base N qual scope f cdv Aw outer s H E [(s1.heap.objs.size, go)]) := by
      refine ⟨rfl, fun y => ?_, fun b hb' => ?_⟩
      · show (cellsFrom (s.heap.objs.size + 1) scope.names []).lookup y = none
        rw [no_cells hnc]; rfl
      · obtain ⟨_, o, ho, _⟩ := e0.funs.mem hb'
        exact Heap.lt_size ho
    refine ⟨_, ⟨G, rfl, rfl, rfl, rfl, rfl, rfl, rfl, rfl⟩, ?_⟩
    obtain ⟨t, ht, n, hq⟩ := hbody Aw outer s H vs Γ γ YL EN E [(s1.heap.objs.size, go)] (hrw.deeper _) hsp G
    refine ⟨n, ?_⟩
    have I1 : Inv (gcxOf P w K mg base N qual scope f cdv Aw outer s H E []) [] (start N vs) H s1 := inv_startG S hrw.hd e0w hl r x
    have kp2 : ∀ b o, s1.heap.get? b = some o → s2.heap.get? b = some o := fun b o e => hk2 b o (Heap.get?_push_of_some _ e)
    have I2 : Inv (gcxOf P w K mg base N qual scope f cdv Aw outer s H E []) [] (start N vs) H s2 :=
      I1.call' (ch := []) (hos.trans os1.symm) (Un.kept kp2) (I1.hok.kept kp2) hba fun b z => by simp at z
    have hea : s2.heap.get? s1.heap.objs.size = some go := hk2 s1.heap.objs.size go hpushed
    have hgd : ∀ v, go.data ≠ .cell v := fun v q => by rw [hgd0] at q; cases q
    have I3 : Inv (gcxOf P w K mg base N qual scope f cdv Aw outer s H E [(s1.heap.objs.size, go)]) [] (start N vs) H s2 := Inv.pinnedG I2 fun p hp => by
      have z : p ∈ [(s1.heap.objs.size, go)] := by simpa using hp
      rw [List.mem_singleton.mp z]
      exact ⟨hea, I1.hok.fresh (Nat.le_refl _), Nat.ne_of_gt lt1, I1.nofs (Nat.le_refl _), hgd⟩
    refine seg_func ?_
    refine seg_imp (R := RE1 P w outer H s (gcxOf P w K mg base N qual scope f cdv Aw outer s H E [(s1.heap.objs.size, go)]) CI EN E s1.heap.objs.size s1.gens.size) (Y := GY1 (gcxOf P w K mg base N qual scope f cdv Aw outer s H E [(s1.heap.objs.size, go)]) CI YL) (fun _ _ _ _ z => z) (fun n s₀ v s kap kap' hkk hY => ?_) n ?_
    · obtain ⟨ip, σ, H', x', γ', κ, q1, q2, q3, q4, q5⟩ := hY
      exact ⟨ip, σ, H', x', γ', κ, q1, q2, q3, q4, fun s' H' ks' γ' w c z => ⟨hkk _ _ (q5 s' H' ks' γ' w c z).1, hkk _ _ (q5 s' H' ks' γ' w c z).2⟩⟩
    refine ht.run Aw _ CI n s2 _ [] _ _ id id s2 (start N vs) H γ _ ⟨over_func, rfl, rfl, rfl⟩ rfl (fun n s₀ s' fl hs => ?_) (fun n s₀ e s' hx => ?_) hci I3 hq
    · cases fl with
      | next =>
        obtain ⟨σ', H', γ', hI, hQ⟩ := hs
        exact seg_end (.ok (.ret .none)) (.inl ⟨.inl rfl, σ', H', γ', hI, hQ⟩)
      | brk => obtain ⟨_, _, _, _, q⟩ := hs; exact False.elim q
      | cont => obtain ⟨_, _, _, _, q⟩ := hs; exact False.elim q
      | ret u =>
        obtain ⟨v, σ', H', γ', hI, rv, ev, hQ⟩ := hs
        subst ev
        obtain rfl : u = Value.none := rv
        exact seg_end (.ok (.ret .none)) (.inl ⟨.inl rfl, σ', H', γ', hI, hQ⟩)
    · refine seg_wrap ?_
      rw [over_func]
      refine wpAny_mono (show wpAny (model P w) (Aw.deeper (envOfC qual scope s.heap.objs.size f cdv)) (leaving (envOfC qual scope s.heap.objs.size f cdv) e) (fun _ s'' => CX P w outer H s E e s'' ∧ ∀ p ∈ [(s1.heap.objs.size, go)], s''.heap.get? p.1 = some p.2) (fun _ _ => False) s' from hx) (fun _ s'' q => ?_) fun _ s'' q => q.elim
      exact seg_end (.error e) (.inr ⟨e, rfl, q.1, hgen _ (q.2 _ (List.mem_singleton.mpr rfl))⟩)
  exact main _ _ _ _ rfl rfl rfl fun h => Heap.get?_push_size _ rfl
end L2
namespace U
open PySem PySem.Spec PyProof.Rows GenW GenX L2
/-- an exception that ends no iteration -/
def NSt (K : PySem.W.Frag) (W : WX) : WX := fun cls d σ H => W cls d σ H ∧ PySem.W.subIn K cls (.type "StopIteration") = some false
theorem passNSt {X : Cx} {W : WX} (hx : ∀ σ, PassesAt (L2.CX X.prog X.w) X σ (WE W σ)) (σ : L2.St) : PassesAt (L2.CX X.prog X.w) X σ (WE (NSt X.K W) σ) := fun pins H s e s' I c => by
  obtain ⟨a, B, H', cls, d, h1, h2, h3, h4, h5, h6, h7, hW⟩ := c
  exact hx σ pins H s e s' I ⟨a, B, H', cls, d, h1, h2, h3, h4, h5, h6, h7, hW.1⟩
section
variable {X : Cx} {k n : Nat} {f C : Addr} {fd : FuncData} {ps : List Str} {sp : Sp} {W : WX} {x m : Str} {p pos apos : Pos} {o e : Expr} {es : List Expr} {ta : TE} {t : TA} {pl : Sem Bool}
theorem CX.kin {e : Value} {pins : List (Addr × Obj)} {σ : L2.St} {H : Hp} {sc s' : Shared} {E : XK} (I1 : Inv X pins σ H sc) (hc : L2.CX X.prog X.w X.stack H sc E e s') : X.K.In s'.heap := by
  obtain ⟨a, B, H', cls, d, _, fl, _, ub, _⟩ := id hc
  refine I1.ok.mod.kin.keeps fun b o eb => fl.1 b o (ub.keep b o (I1.bs b o eb).1 (I1.bs b o eb).2 fun hm => ?_)
  rcases List.mem_cons.mp (I1.stkSub b hm) with z | z
  · have h1 := Heap.lt_size eb
    have h2 := Nat.le_trans I1.ok.bsz I1.ok.above
    rw [z] at h1
    exact absurd (Nat.lt_of_lt_of_le h1 h2) (Nat.lt_irrefl _)
  · exact I1.ok.nofr eb z
end
end U
namespace Fx
open PySem PySem.Spec PyProof.Rows L2 U
end Fx
namespace U
open PySem PySem.Spec PyProof.Rows GenW GenX L2
abbrev xq (X : Cx) : Cx := { X with xe := fun _ _ => False }
section
variable {X : Cx} {pins : List (Addr × Obj)} {σ : L2.St} {H : Hp} {s : Shared}
theorem Inv.q (I : Inv X pins σ H s) : Inv (xq X) pins σ H s := by
  have ok := I.ok
  exact ⟨⟨ok.mod, ok.kind, ok.glob, ok.blt, ok.above, ok.inj, ok.has, ok.cab, ok.hd, ok.frames, ok.stk, ok.exf, ok.bs, ok.bsz, ok.noex, ok.exfs, ok.funs, ok.frf⟩, I.os, I.bare, I.base, I.loc, I.cell, I.free, I.freeC, I.pin, I.hok, I.len⟩
theorem Inv.unq (I : Inv (xq X) pins σ H s) : Inv X pins σ H s := by
  have ok := I.ok
  exact ⟨⟨ok.mod, ok.kind, ok.glob, ok.blt, ok.above, ok.inj, ok.has, ok.cab, ok.hd, ok.frames, ok.stk, ok.exf, ok.bs, ok.bsz, ok.noex, ok.exfs, ok.funs, ok.frf⟩, I.os, I.bare, I.base, I.loc, I.cell, I.free, I.freeC, I.pin, I.hok, I.len⟩
theorem Inv.gens (I : Inv X pins σ H s) {G : Array GenState} (h : AllBare G) : Inv X pins σ H (wg s G) :=
  ⟨I.ok, I.os, h, I.base, I.loc, I.cell, I.free, I.freeC, I.pin, I.hok, I.len⟩
theorem allBare_poison {G : Array GenState} (h : AllBare G) : AllBare (G.map poison) := bare_poison h
theorem run_asleep {α : Type} {t : Sem α} {Q : α → Shared → Prop} (I : Inv X pins σ H s) (h : ∀ s', Inv (xq X) pins σ H s' → s' = wg s (s.gens.map poison) → wpAny (model X.prog X.w) X.A t Q (fun _ _ => False) s') {E : Value → Shared → Prop} :
    wpAny (model X.prog X.w) X.A t (fun a s' => ∃ X', RG X' s'.gens ∧ Asleep s.gens s'.gens ∧ Q a (wg s' X')) E s :=
  wpAny_mono (wpAny_asleep (h _ (Inv.q (Inv.gens I (allBare_poison I.bare))) rfl)) (fun _ _ z => z) fun _ _ z => by
    obtain ⟨_, _, _, z⟩ := z
    exact False.elim z
theorem Inv.back {s' : Shared} {G : Array GenState} (r : RG G s'.gens) (I : Inv (xq X) pins σ H (wg s' G)) : Inv X pins σ H s' := by
  have := Inv.gens (Inv.unq I) (RG.bare r I.bare)
  exact this
end
theorem Asleep.trans {a b c : Array GenState} (h1 : Asleep a b) (h2 : Asleep b c) : Asleep a c := fun i x e k => h2 i x (h1 i x e k) k
/-- an expression that makes a generator: the heap, its promise, the exception -/
abbrev TGx := L2.St → Hp → (Hp → TGe → XK → Prop) → Prop
structure PGx (X : Cx) (n : Nat) (e : Expr) (t : TGx) : Prop where
  run : ∀ (pins : List (Addr × Obj)) (s : Shared) (σ : L2.St) (H : Hp) (C : Hp → TGe → XK → Prop), Inv X pins σ H s → t σ H C → wpAny (model X.prog X.w) X.A (eval e X.env)
    (fun u s' => ∃ (H1 : Hp) (sc : Shared) (E1 : XK) (k : Nat) (tg : TGe), k ≤ n ∧ NoStop X.K E1 ∧ PassesAt (L2.CX X.prog X.w) X σ E1 ∧ Inv X pins σ H1 sc ∧ C H1 tg E1 ∧ GMd X.prog X.w X.K X.mg X.base k X.stack H1 sc tg u s') X.xe s
/-- what the consumer does with an item -/
def ylF (g : TG) (tb : TS) (D : Ends) : YLT L2.St := fun _ x H σ κ => g x σ H fun σ2 H2 => tb { D with nx := fun σ3 H3 => κ H3 σ3, ct := fun σ3 H3 => κ H3 σ3, bk := D.nx } σ2 H2
def tForG (t : TGx) (g : TG) (tb : TS) : TS := fun D σ H => t σ H fun H1 tg E1 => tg L2.St H1 σ (ylF g tb D) (fun H' σ' => D.nx σ' H') E1
section
variable {X : Cx}
theorem ps_forG {tg iter : Expr} {body : List Stmt} {t : TGx} {g : TG} {tb : TS} {pos : Pos} {n0 : Nat} (hp : PassesOwn (model X.prog X.w) X.A X.env X.xe) (hr : Room (n0 + 1) X.A) (hi : PGx X n0 iter t) (hg : PG (xq X) tg g) (hb : PSs (xq X) body tb)
    (hs : ∀ x, foldedSetIterable iter X.env x = pure x := by intro _; rfl) : PS X (.For tg iter body [] pos) (tForG t g tb) := by
  refine ⟨fun pins s σ H D I h => ?_⟩
  refine wpAny_For (thn (hi.run pins s σ H _ I h) fun v s1 ⟨H1, sc, E1, k, tgp, hk, hns, hx, I1, q, a, gn, c, go, ev, h1, h2, ea, hgen, hcls, hdat, hgs, os1, hb1, lim1, kp1, wake⟩ => ?_) hs
  subst ev
  refine wpAny_pyIter_gen (hgen _ ea) ?_
  have hrA : Room k X.A.in1 := by
    refine ⟨hr.hd, ?_, ?_⟩
    · have := hr.dp
      show X.A.depth + 3 * k + 5 < _
      omega
    · have := hr.un
      show X.A.units + 1 + 16 * k + 200 < _
      omega
  have I2 : Inv X pins σ H1 s1 := I1.call' (ch := []) os1 (Un.kept kp1) (I1.hok.kept kp1) hb1 fun b z => by simp at z
  have hroom : X.A.depth < recursionLimit := by have := hr.dp; omega
  -- what is below the generator's frame
  have lowL : X.env.locals < sc.heap.objs.size := by
    obtain ⟨m, ⟨o, es, ep, ho, _⟩, _⟩ := I1.loc
    exact Heap.lt_size ho
  have lowC : ∀ x c, X.env.cells.lookup x = some c → c < sc.heap.objs.size := fun x c e => by
    obtain ⟨v, o, ho, _⟩ := I1.cell x c e
    exact Heap.lt_size ho
  have lowP : ∀ p ∈ X.pn ++ pins, p.1 < sc.heap.objs.size := fun p hp => Heap.lt_size (I1.pin p hp).1
  have lowF : ∀ b ∈ X.fs, b < sc.heap.objs.size := fun b hb => by
    obtain ⟨_, o, ho, _⟩ := I1.ok.funs.mem hb
    exact Nat.lt_of_lt_of_le (Heap.lt_size ho) I1.sz
  obtain ⟨Xg, W, N, hseg⟩ := wake L2.St (fun sj Hj ks γ => ks = [] ∧ Inv X pins γ Hj sj) (ylF g tb D) (fun H' σ' => D.nx σ' H') E1 σ q X.A.in1 (s1.setGen gn .running) hrA I1.ok.frames (fun b o e => e) os1 (allBare_setGen hb1 rfl) ⟨rfl, I1⟩
  have hloc : Xg.env.locals = sc.heap.objs.size := W.loc
  refine codeAny_forLoop_any (fun n s' => ∃ σ' H' gs, Inv X pins σ' H' s' ∧ s'.heap.get? a = some go ∧ H' a = none ∧ s'.gens[gn]? = some gs ∧ gs.Goes (model X.prog X.w) X.A.in1 (RE1 X.prog X.w X.stack H1 sc Xg (fun sj Hj ks γ => ks = [] ∧ Inv X pins γ Hj sj) (fun H' σ' => D.nx σ' H') E1 a gn) (GY1 Xg (fun sj Hj ks γ => ks = [] ∧ Inv X pins γ Hj sj) (ylF g tb D)) n (.send .none) (s'.setGen gn .running))
    ?_ N ⟨σ, H1, .fresh c, I2, ea, I1.hok.fresh (Nat.le_of_lt h1), hgs, rfl, hseg⟩
  rintro n s3 ⟨σ3, H3, gs, I3, ea3, ha3, hgs3, hgo⟩
  have hgl : gn < s3.gens.size := (Array.getElem?_eq_some_iff.mp hgs3).1
  have lim3 : s3.heap.NoLimit := I3.ok.mod.nolimit.keeps fun b o e => (I3.bs b o e).1
  -- what the consumer has behind a stretch
  have seen : ∀ {ip : List (Addr × Obj)} {σg : L2.St} {Hg : Hp} {s₁ : Shared} {γ : L2.St}, GI1 Xg (fun sj Hj ks γ => ks = [] ∧ Inv X pins γ Hj sj) ip σg Hg s₁ γ → Inv X pins γ Hg s₁ ∧ ∃ sj Hj, Inv (rb Xg sj Hj) ip σg Hg s₁ := fun {ip σg Hg s₁ γ} hG => by
    obtain ⟨sj, Hj, ks, ⟨hks, Ic⟩, apt, hz, Ig⟩ := hG
    subst hks
    rw [List.append_nil] at Ig
    refine ⟨Inv.seen W.gx W.outer W.prog W.w Ic Ig (fun b o hbo _ => .inl ?_) ?_, sj, Hj, Ig⟩
    · rw [hloc]
      rcases hbo with rfl | ⟨x, e⟩ | ⟨p, hp', rfl⟩
      · exact lowL
      · exact lowC x b e
      · exact lowP p hp'
    · rw [hloc]
      exact I1.sz
  refine wpAny_passesOwn hp (wpAny_gsz (n := gn + 1) hgl (next_genG (A := X.A) (n := n) (gs := gs) (F := fun n s₀ s1 => ∃ σ H' γ, GI1 Xg (fun sj Hj ks γ => ks = [] ∧ Inv X pins γ Hj sj) [] σ H' s1 γ ∧ D.nx γ H') (Er := fun e s' => L2.CX X.prog X.w X.stack H1 sc E1 e s' ∧ s'.heap.IsGen a gn) (Y := GY1 Xg (fun sj Hj ks γ => ks = [] ∧ Inv X pins γ Hj sj) (ylF g tb D)) hr.hd lim3 hroom (hgen _ ea3) hgs3 hgo (fun v s₁ gs' hbare hv => ?_) (fun s₁ hq h' hk' => ?_) fun e s₁ hq => ?_))
  · intro hsz
    obtain ⟨ip, σg, Hg, x, γ, κ, rx, hG, hip, yl, hkap⟩ := hv
    obtain ⟨Ic, sj, Hj, Ig⟩ := seen hG
    have hsz1 : gn < s₁.gens.size := by
      have q1 : (s₁.setGen gn gs').gens.size = s₁.gens.size := setGen_size _ _ _
      have hsz' : gn + 1 ≤ (s₁.setGen gn gs').gens.size := hsz
      omega
    have I4 : Inv X pins γ Hg (s₁.setGen gn gs') := Inv.gens Ic (allBare_setGen Ic.bare hbare)
    have g4 : (s₁.setGen gn gs').gens[gn]? = some gs' := setGen_at hsz1
    obtain ⟨mm, ⟨oL, es, ep, eL, dL, _⟩, _⟩ := Ig.loc
    have pa : s₁.heap.get? a = some go ∧ Hg a = none ∧ a ≠ Xg.env.locals ∧ a ∉ Xg.fs ∧ ∀ v, go.data ≠ .cell v := Ig.pin (a, go) (List.mem_append_left _ (by show (a, go) ∈ Xg.pn; rw [W.pn]; exact List.mem_singleton.mpr rfl))
    -- the pins that keep the generator
    have pinned : ∀ p ∈ ((a, go) :: (Xg.env.locals, oL) :: ip), s₁.heap.get? p.1 = some p.2 ∧ Hg p.1 = none ∧ sc.heap.objs.size ≤ p.1 ∧ ∀ v, p.2.data ≠ .cell v := fun p hp' => by
      rcases List.mem_cons.mp hp' with rfl | hp'
      · exact ⟨pa.1, pa.2.1, Nat.le_of_lt h1, pa.2.2.2.2⟩
      · rcases List.mem_cons.mp hp' with rfl | hp'
        · exact ⟨eL, Ig.free, by rw [hloc]; exact Nat.le_refl _, fun v z => by rw [dL] at z; cases z⟩
        · have := Ig.pin p (List.mem_append_right _ hp')
          exact ⟨this.1, this.2.1, by rw [← hloc]; exact Nat.le_of_lt (hip p hp'), this.2.2.2.2⟩
    have I5 : Inv X (pins ++ ((a, go) :: (Xg.env.locals, oL) :: ip)) γ Hg (s₁.setGen gn gs') := I4.pins_of fun p hp' => by
      rcases List.mem_append.mp hp' with z | z
      · exact I4.pin p (List.mem_append_right _ z)
      · obtain ⟨q1, q2, q3, q4⟩ := pinned p z
        exact ⟨q1, q2, fun e => by rw [e] at q3; exact absurd lowL (Nat.not_lt_of_le q3), fun e => absurd (lowF _ e) (Nat.not_lt_of_le q3), q4⟩
    obtain ⟨vs, hvs⟩ := hdat
    refine go_of (s := s₁.setGen gn gs') pa.1 hcls hvs (by decide) ?_
    have yl : g x γ Hg fun σ2 H2 => tb { D with nx := fun σ3 H3 => κ H3 σ3, ct := fun σ3 H3 => κ H3 σ3, bk := D.nx } σ2 H2 := yl
    refine wpAny_mono (run_asleep I5 (fun s' I' _ => hg.run _ s' γ Hg x v _ I' rx yl) (E := fun _ _ => False)) (fun _ s5 z => ?_) fun _ _ z => z.elim
    obtain ⟨G5, r5, as5, σ5, H5, I5', tb5⟩ := z
    have I6 := Inv.back r5 I5'
    refine wpAny_mono (run_asleep I6 (fun s' I' _ => hb.run _ s' σ5 H5 _ I' tb5) (E := fun _ _ => False)) (fun f s7 z => ?_) fun _ _ z => z.elim
    obtain ⟨G7, r7, as7, sp7⟩ := z
    -- the generator is waked again
    have again : ∀ {σ7 : L2.St} {H7 : Hp}, Inv X (pins ++ ((a, go) :: (Xg.env.locals, oL) :: ip)) σ7 H7 s7 → κ H7 σ7 → ∃ m, m < n ∧ ∃ σ' H' gs, Inv X pins σ' H' s7 ∧ s7.heap.get? a = some go ∧ H' a = none ∧ s7.gens[gn]? = some gs ∧ gs.Goes (model X.prog X.w) X.A.in1 (RE1 X.prog X.w X.stack H1 sc Xg (fun sj Hj ks γ => ks = [] ∧ Inv X pins γ Hj sj) (fun H' σ' => D.nx σ' H') E1 a gn) (GY1 Xg (fun sj Hj ks γ => ks = [] ∧ Inv X pins γ Hj sj) (ylF g tb D)) m (.send .none) (s7.setGen gn .running) := fun {σ7 H7} I7 k7 => by
      have pin7 : ∀ p ∈ ((a, go) :: (Xg.env.locals, oL) :: ip), s7.heap.get? p.1 = some p.2 ∧ H7 p.1 = none := fun p hp' =>
        let z := I7.pin p (List.mem_append_right _ (List.mem_append_right _ hp'))
        ⟨z.1, z.2.1⟩
      have I8 : Inv X pins σ7 H7 (s7.setGen gn .running) := Inv.gens I7.unpinned (allBare_setGen I7.bare rfl)
      have wk : Wk Xg ip s₁ (s7.setGen gn .running) H7 [] := by
        refine ⟨⟨X.A, ?_⟩, fun o e => ?_, (pin7 (Xg.env.locals, oL) (by simp)).2, fun p hp' => ?_, fun p hp' => absurd hp' (by simp)⟩
        · rw [W.prog, W.w, W.K, W.mg, W.base, W.outer]
          exact I8.env0
        · rw [eL] at e
          cases e
          exact (pin7 (Xg.env.locals, oL) (by simp)).1
        · rw [List.append_nil] at hp'
          have q := Ig.pin p hp'
          have hm : p ∈ ((a, go) :: (Xg.env.locals, oL) :: ip) := by
            rcases List.mem_append.mp hp' with z | z
            · have z : p ∈ Xg.pn := z
              rw [W.pn] at z
              rw [List.mem_singleton.mp z]; exact List.mem_cons_self
            · exact List.mem_cons_of_mem _ (List.mem_cons_of_mem _ z)
          obtain ⟨q1, q2⟩ := pin7 p hm
          exact ⟨q1, q2, q.2.2.1, q.2.2.2.1, q.2.2.2.2⟩
      obtain ⟨k1, k2⟩ := hkap (s7.setGen gn .running) H7 [] σ7 wk ⟨rfl, I8⟩ k7
      cases n with
      | zero => exact False.elim k1
      | succ m =>
        have hst : gs'.status = .suspended := by
          cases gs' with
          | suspended => rfl
          | fresh c => have := k2.1; cases this
          | running => exact False.elim k1
          | finished => exact False.elim k1
        exact ⟨m, Nat.lt_succ_self m, σ7, H7, gs', I7.unpinned, (pin7 (a, go) (by simp)).1, (pin7 (a, go) (by simp)).2, (Asleep.trans as5 as7) gn gs' g4 hst, k1⟩
    cases f with
    | next =>
      obtain ⟨σ7, H7, I7, q7⟩ := sp7
      exact again (Inv.back r7 I7) q7
    | cont =>
      obtain ⟨σ7, H7, I7, q7⟩ := sp7
      exact again (Inv.back r7 I7) q7
    | brk =>
      obtain ⟨σ7, H7, I7, q7⟩ := sp7
      exact ⟨σ7, H7, (Inv.back r7 I7).unpinned, q7⟩
    | ret u =>
      obtain ⟨x7, σ7, H7, I7, r7', q7⟩ := sp7
      exact ⟨x7, σ7, H7, (Inv.back r7 I7).unpinned, r7', q7⟩
  · intro _
    obtain ⟨σg, H', γ, hG, qn⟩ := hq
    obtain ⟨Ic, sj, Hj, Ig⟩ := seen hG
    have I6 : Inv X pins γ H' (s₁.setGen gn .finished) := Inv.gens Ic (allBare_setGen Ic.bare rfl)
    exact wpAny_execs_nil ⟨γ, H', I6.call' (s' := { s₁.setGen gn .finished with heap := h' }) (ch := []) rfl (Un.kept hk') (I6.hok.kept hk') I6.bare fun b z => by simp at z, qn⟩
  · obtain ⟨hc, hg1⟩ := hq
    refine ⟨hg1, notStop_of hns (CX.kin I1 hc) hc, fun _ => hx pins H1 sc e _ I1 ?_⟩
    obtain ⟨a, B, H', cls, d, z1, fl, z2, ub, z3, z4, z5, z6⟩ := hc
    exact ⟨a, B, H', cls, d, z1, fl, z2, ub, z3, z4, allBare_setGen z5 rfl, z6⟩
end
end U
namespace U
open PySem PySem.Spec PyProof.Rows GenW GenX L2
section
variable {X : Cx} {k n np : Nat} {f C : Addr} {fd : FuncData} {ps : List Str} {sp : SpGe} {W : WX} {x m : Str} {p pos apos : Pos} {o e : Expr} {es : List Expr} {ta : TE} {t : TA} {pl : Sem Bool}
theorem run_gx {pins : List (Addr × Obj)} {σ : L2.St} {H : Hp} {s : Shared} {us : List Value} {vs : List V} {E1 : Value → Shared → Prop} {K1 : Hp → TGe → XK → Prop} (F : GFn1 X.prog X.w X.K X.mg X.base k f fd ps sp) (hb : Binds X.K fd ps []) (hk : k ≤ n) (hr : Room n X.A) (hx : ∀ σ, PassesAt (L2.CX X.prog X.w) X σ (WE W σ))
    (I : Inv X pins σ H s) (r : Vals vs us) (hl : vs.length = ps.length) (h : K1 H (fun Γ => sp Γ vs) (WE (NSt X.K W) σ)) :
    wpAny (model X.prog X.w) X.A (call (.ref f) us) (fun u s' => ∃ (H1 : Hp) (sc : Shared) (E1 : XK) (k : Nat) (tg : TGe), k ≤ n ∧ NoStop X.K E1 ∧ PassesAt (L2.CX X.prog X.w) X σ E1 ∧ Inv X pins σ H1 sc ∧ K1 H1 tg E1 ∧ GMd X.prog X.w X.K X.mg X.base k X.stack H1 sc tg u s') E1 s := by
  have hbs := hb s us I.kIn (by rw [List.append_nil, ← r.length]; exact hl)
  rw [List.append_nil] at hbs
  refine wpAny_call (codeAny_mono (F.run X.A X.stack s H ⟨us, []⟩ us vs (hr.mono hk) I.env0 hbs r hl) fun r s' hq => ?_)
  cases r with
  | error e => exact False.elim hq
  | ok fl =>
    cases fl with
    | ret u => exact ⟨H, s, _, k, _, hk, fun cls d H' z => z.2, passNSt hx σ, I, h, hq⟩
    | next => exact False.elim hq
    | brk => exact False.elim hq
    | cont => exact False.elim hq
def tMethX (m : Str) (C : Addr) (np : Nat) (sp : SpGe) (E : L2.St → XK) (ta : TE) (t : TA) : TGx := fun σ H K1 => ta σ H fun x H1 => ∃ a dx fs, x = .ref a ∧ H1 a = some (.ins C dx fs) ∧ fs.lookup m = none ∧ t σ H1 fun vs H2 => (V.ref a :: vs).length = np ∧ K1 H2 (fun Γ => sp Γ (.ref a :: vs)) (E σ)
theorem pgx_meth (he : PE X o ta) (c : Cls X.K C) (hm : Meth X.K C m f) (F : GFn1 X.prog X.w X.K X.mg X.base k f fd ps sp) (hb : Binds X.K fd ps []) (hk : k ≤ n) (hr : Room n X.A) (hx : ∀ σ, PassesAt (L2.CX X.prog X.w) X σ (WE W σ)) (hnp : ps.length = np) (ha : PA X (e :: es) t)
    (hst : starEach (e :: es) X.env = (false, eval e X.env) :: starEach es X.env := by rfl) (hpl : (backTo pos (starEach es X.env)).any (·.1) = false := by rfl)
    (ht : eval (.Call (.Attribute o m apos) (e :: es) [] pos) X.env = (do
      let ov ← eval o X.env
      standAt apos.atName
      let (f, first) ← holding [ov] (getMethod ov m pl)
      callWith pos f first (backTo pos (starEach (e :: es) X.env)) (backToKw pos (keywordEach [] X.env))) := by rfl) :
    PGx X n (.Call (.Attribute o m apos) (e :: es) [] pos) (tMethX m C np sp (WE (NSt X.K W)) ta t) := by
  refine ⟨fun pins s σ H K1 I h => ?_⟩
  refine PySem.W.methodCall_KW (pl := pl) (thn (he.run pins s σ H _ I h) fun u s1 ⟨x, H1, I1, rx, a, dx, fs, ex, ea, l, q⟩ => ?_) ht
  subst ex
  obtain rfl : u = Value.ref a := rx
  refine getmeth_ok I1 ea c hm l ?_
  refine PySem.W.callWith_K (first := [.ref a]) (h₀ := X.base) I.ok.mod.kin hm.kp (thn (ha.run pos pins s1 σ H1 _ I1 q) fun us s2 ⟨vs, H2, I2, r, q2, q3⟩ => ⟨I2.kIn, ?_⟩) hst hpl
  exact run_gx F hb hk hr hx I2 (us := .ref a :: us) (vs := .ref a :: vs) (.cons rfl r) (q2.trans hnp.symm) q3
end
section
variable {P : Program} {w : World} {K : PySem.W.Frag} {mg : Str → Option Value} {base : Heap}
theorem okGx {x qual : Str} {st : Stmt} {f : Addr} {fd : FuncData} {N ps : List Str} {k : Nat} {sp : SpGe} (F : Fun K x qual st f fd) (S : GScope N ps (defScope st)) (hnc : ∀ y ∈ (defScope st).names, y.2 ≠ .cell) (len : ∀ Γ vs H γ YL EN E, sp Γ vs H γ YL EN E → vs.length = ps.length)
    (hbody : ∀ (cdv : Value) (A : Around) (outer : List Env) (s : Shared) (H : Hp) (vs : List V) (Γ : Type) (γ : Γ) (YL : YLT Γ) (EN : Hp → Γ → Prop) (E : XK) (pn : List (Addr × Obj)), Room k (A.deeper (envOfC qual (defScope st) s.heap.objs.size f cdv)) → sp Γ vs H γ YL EN E → GX (gcxOf P w K mg base N qual (defScope st) f cdv A outer s H E pn) →
      ∃ t, GB Γ (gcxOf P w K mg base N qual (defScope st) f cdv A outer s H E pn) (defBody st) t ∧ ∃ n, t { nx := fun _ _ H' γ' => EN H' γ', rt := fun _ v H' γ' => v = .non ∧ EN H' γ', yl := YL } n (start N vs) H γ) : GFn1 P w K mg base (k + 1) f fd ps sp := by
  obtain ⟨oc, od, kV, doc, pm, an, cdv, ct, osl, rfl, lk, hcd⟩ := F.ex
  exact gfn1_of lk hcd S hnc len fun A outer s H vs Γ γ YL EN E pn hr h g => hbody cdv A outer s H vs Γ γ YL EN E pn hr h g
end
end U
namespace Fx
open PySem PySem.Spec PyProof.Rows L2 U
noncomputable section
theorem ni {α : Type} (a : α) : a ∉ ([] : List α) := by simp
section
variable {K : PySem.W.Frag} {ca : Nat → Addr} {ι B B' : List Addr} {H : Hp}
mutual
def noCel : D → Bool
  | .lst ds => noCels ds
  | .tup ds => noCels ds
  | .fro _ ds => noCels ds
  | .dct kvs => noCelK kvs
  | .cel _ => false
  | .obj _ fs => noCelF fs
  | _ => true
def noCels : List D → Bool
  | [] => true
  | d :: ds => noCel d && noCels ds
def noCelK : List (Key × D) → Bool
  | [] => true
  | (_, d) :: ds => noCel d && noCelK ds
def noCelF : List (Str × D) → Bool
  | [] => true
  | (_, d) :: ds => noCel d && noCelF ds
end
theorem nin {ι B : List Addr} {a : Addr} (h1 : a ∉ ι) (h2 : a ∉ B) : a ∉ ι ++ B := fun z => (List.mem_append.mp z).elim h1 h2
mutual
theorem RV.close : ∀ (d : D) {v : V}, noCel d = true → RV K ca ι B H v d → RV K ca [] (ι ++ B) H v d
  | .non, _, _, h => by cases h; exact .non
  | .bl _, _, _, h => by cases h; exact .bl _
  | .int _, _, _, h => by cases h; exact .int _
  | .str _, _, _, h => by cases h; exact .str _
  | .cls _, _, _, h => by cases h; exact .cls _
  | .cel _, _, n, _ => by simp [noCel] at n
  | .lst ds, _, n, h => by
    cases h with
    | lst h1 h2 h3 h4 => exact .lst (ni _) (nin h1 h2) h3 (RAll.close ds (by simpa [noCel] using n) h4)
  | .tup ds, _, n, h => by
    cases h with
    | tup h1 h2 h3 h4 => exact .tup (ni _) (nin h1 h2) h3 (RAll.close ds (by simpa [noCel] using n) h4)
  | .fro l ds, _, n, h => by
    cases h with
    | fro h1 h2 =>
      refine .fro ?_ (RAll.close ds (by simpa [noCel] using n) h2)
      cases l with
      | true =>
        rcases h1 with ⟨q1, q2, o, q3⟩ | q
        · exact .inl ⟨ni _, nin q1 q2, o, q3⟩
        · exact .inr q
      | false =>
        rcases h1 with ⟨q1, q2, o, q3⟩ | q
        · exact .inl ⟨ni _, nin q1 q2, o, q3⟩
        · exact .inr q
  | .dct es, _, n, h => by
    cases h with
    | dct h1 h2 h3 h4 => exact .dct (ni _) (nin h1 h2) h3 (RKv.close es (by simpa [noCel] using n) h4)
  | .obj c es, _, n, h => by
    cases h with
    | obj h1 h2 h3 h4 => exact .obj (ni _) (nin h1 h2) h3 (RFs.close es (by simpa [noCel] using n) h4)
theorem RAll.close : ∀ (ds : List D) {vs : List V}, noCels ds = true → RAll K ca ι B H vs ds → RAll K ca [] (ι ++ B) H vs ds
  | [], _, _, h => by cases h; exact .nil
  | d :: ds, _, n, h => by
    simp only [noCels, Bool.and_eq_true] at n
    cases h with
    | cons h1 h2 => exact .cons (RV.close d n.1 h1) (RAll.close ds n.2 h2)
theorem RKv.close : ∀ (ds : List (Key × D)) {vs : List (Key × V)}, noCelK ds = true → RKv K ca ι B H vs ds → RKv K ca [] (ι ++ B) H vs ds
  | [], _, _, h => by cases h; exact .nil
  | (k, d) :: ds, _, n, h => by
    simp only [noCelK, Bool.and_eq_true] at n
    cases h with
    | cons h1 h2 => exact .cons (RV.close d n.1 h1) (RKv.close ds n.2 h2)
theorem RFs.close : ∀ (ds : List (Str × D)) {vs : List (Str × V)}, noCelF ds = true → RFs K ca ι B H vs ds → RFs K ca [] (ι ++ B) H vs ds
  | [], _, _, h => by cases h; exact .nil
  | (k, d) :: ds, _, n, h => by
    simp only [noCelF, Bool.and_eq_true] at n
    cases h with
    | cons h1 h2 => exact .cons (RV.close d n.1 h1) (RFs.close ds n.2 h2)
end
/-- seen again from where the cells are known -/
theorem Per.open : Per [] (ι ++ B) H ι B H := ⟨fun a o h1 _ h3 => ⟨h1, fun z => h3 (List.mem_append_left _ z), fun z => h3 (List.mem_append_right _ z)⟩, fun k a z => (nomatch z)⟩
end
inductive RGt where
  | nx (ρ : Ev) | bk (ρ : Ev) | ct (ρ : Ev) | bad
/-- an item: a value, or (true) a new list that is given up -/
abbrev Yi := D × Bool
abbrev GnF := Ev → List Yi × RGt
def IV (K : PySem.W.Frag) (ca : Nat → Addr) (B : List Addr) (fr : Addr → Prop) (H : Hp) (x : V) : Yi → Prop
  | (d, false) => RV K ca [] B H x d
  | (d, true) => ∃ a xs ds, x = .ref a ∧ d = .lst ds ∧ a ∉ B ∧ fr a ∧ H a = some (.lst xs) ∧ RAll K ca [] (a :: B) H xs ds
/-- the address that is given up -/
def ad (x : V) (b : Bool) : List Addr := match x, b with
  | .ref a, true => [a]
  | _, _ => []
theorem IV.rv {K : PySem.W.Frag} {ca : Nat → Addr} {B : List Addr} {fr : Addr → Prop} {H : Hp} {x : V} {y : Yi} (h : IV K ca B fr H x y) : RV K ca [] B H x y.1 := by
  obtain ⟨d, b⟩ := y
  cases b with
  | false => exact h
  | true =>
    obtain ⟨a, xs, ds, rfl, rfl, h1, _, h2, h3⟩ := h
    exact .lst (ni _) h1 h2 (h3.per (Per.less fun a z => List.mem_cons_of_mem _ z))
theorem IV.mono {K : PySem.W.Frag} {ca : Nat → Addr} {B : List Addr} {fr fr' : Addr → Prop} {H : Hp} {x : V} {y : Yi} (h : IV K ca B fr H x y) (hf : ∀ a, fr a → fr' a) : IV K ca B fr' H x y := by
  obtain ⟨d, b⟩ := y
  cases b with
  | false => exact h
  | true =>
    obtain ⟨a, xs, ds, h1, h2, h3, h4, h5⟩ := h
    exact ⟨a, xs, ds, h1, h2, h3, hf a h4, h5⟩
theorem IV.fr {K : PySem.W.Frag} {ca : Nat → Addr} {B : List Addr} {fr : Addr → Prop} {H : Hp} {x : V} {y : Yi} (h : IV K ca B fr H x y) {a : Addr} (ha : a ∈ ad x y.2) : fr a := by
  obtain ⟨d, b⟩ := y
  cases b with
  | false => unfold ad at ha; split at ha <;> first | exact absurd ha (ni a) | (rename_i e; cases e)
  | true =>
    obtain ⟨a', xs, ds, rfl, _, _, h4, _⟩ := h
    have ha : a ∈ [a'] := ha
    rw [List.mem_singleton.mp ha]; exact h4
/-- what the consumer keeps of what stood -/
structure Kept (H : Hp) (B : List Addr) (H' : Hp) (B' : List Addr) : Prop where
  at' : ∀ a o, H a = some o → a ∉ B → H' a = some o ∧ a ∉ B'
  dom : ∀ b ∈ B', H' b ≠ none
def PostGn (G : Gm) {Γ : Type} (D : GEn Γ) : List Yi → RGt → Fr → List Addr → Hp → Nat → Γ → Prop
  | [], .nx ρ', F, ω, H, n, γ => ∀ ω' σ' H', ExtS [] ω H [] ω' H' → Rel G F [] ω' ρ' [] σ' H' → D.nx n σ' H' γ
  | [], .bk ρ', F, ω, H, n, γ => ∀ ω' σ' H', ExtS [] ω H [] ω' H' → Rel G F [] ω' ρ' [] σ' H' → D.bk n σ' H' γ
  | [], .ct ρ', F, ω, H, n, γ => ∀ ω' σ' H', ExtS [] ω H [] ω' H' → Rel G F [] ω' ρ' [] σ' H' → D.ct n σ' H' γ
  | [], .bad, _, _, _, _, _ => False
  | y :: ys, r, F, ω, H, n, γ => ∃ m, n = m + 1 ∧ ∀ x H' (κ : Hp → Γ → Prop), (∀ a o, H a = some o → a ∉ ω → H' a = some o) → (∀ a, H a ≠ none → H' a ≠ none) → IV G.K G.ca F.B0 (fun a => H a = none ∨ a ∈ ω) H' x y →
    (∀ H'' γ' B'', Kept H' (ad x y.2 ++ F.B0) H'' B'' → PostGn G D ys r ⟨H'', [], B''⟩ [] H'' m γ' → κ H'' γ') → D.yl m x H' γ κ
section
variable {G : Gm} {Γ : Type} {D : GEn Γ} {F : Fr} {ω ω1 : List Addr} {ρ : Ev} {σ : L2.St} {H H1 : Hp} {n : Nat} {γ : Γ}
theorem PostGn.ex {ys : List Yi} {r : RGt} (h : PostGn G D ys r F ω H n γ) (e : ExtS [] ω H [] ω1 H1) : PostGn G D ys r F ω1 H1 n γ := by
  cases ys with
  | nil =>
    cases r with
    | nx ρ' => exact fun ω' σ' H' e' rel => h ω' σ' H' (e.trans e') rel
    | bk ρ' => exact fun ω' σ' H' e' rel => h ω' σ' H' (e.trans e') rel
    | ct ρ' => exact fun ω' σ' H' e' rel => h ω' σ' H' (e.trans e') rel
    | bad => exact h
  | cons y ys =>
    obtain ⟨m, hm, hy⟩ := h
    refine ⟨m, hm, fun x H' κ k1 k2 rv hκ => ?_⟩
    have q1 : ∀ a o, H a = some o → a ∉ ω → H' a = some o := fun a o q1 q2 => by
      refine k1 a o (e.keep a o q1 (ni _) q2) fun z => ?_
      have := e.neww a z q2
      rw [q1] at this; cases this
    have q3 : ∀ a, (H1 a = none ∨ a ∈ ω1) → (H a = none ∨ a ∈ ω) := fun a z => by
      rcases z with z | z
      · exact .inl (none_of e.dom z)
      · by_cases hz : a ∈ ω
        · exact .inr hz
        · exact .inl (e.neww a z hz)
    exact hy x H' κ q1 (fun a q => k2 a (e.dom a q)) (rv.mono q3) hκ
/-- another end -/
theorem PostGn.map {D' : GEn Γ} {r r' : RGt} (hyl : D'.yl = D.yl) (I : Fr → List Addr → Hp → Prop) (hI : ∀ (F : Fr) (ω : List Addr) (H : Hp) (x : V) (y : Yi) (H' H'' : Hp) (B'' : List Addr), I F ω H → (∀ a o, H a = some o → a ∉ ω → H' a = some o) → IV G.K G.ca F.B0 (fun a => H a = none ∨ a ∈ ω) H' x y → Kept H' (ad x y.2 ++ F.B0) H'' B'' → I ⟨H'', [], B''⟩ [] H'') (zs : List Yi)
    (hend : ∀ F ω H n γ, I F ω H → PostGn G D zs r F ω H n γ → PostGn G D' [] r' F ω H n γ) : ∀ (ys : List Yi) (F : Fr) (ω : List Addr) (H : Hp) (n : Nat) (γ : Γ), I F ω H → PostGn G D (ys ++ zs) r F ω H n γ → PostGn G D' ys r' F ω H n γ
  | [], F, ω, H, n, γ, i, h => hend F ω H n γ i h
  | y :: ys, F, ω, H, n, γ, i, h => by
    obtain ⟨m, hm, hy⟩ := h
    refine ⟨m, hm, fun x H' κ k1 k2 rv hκ => ?_⟩
    rw [hyl]
    exact hy x H' κ k1 k2 rv fun H'' γ' B'' kk post => hκ H'' γ' B'' kk (PostGn.map hyl I hI zs hend ys _ _ _ m γ' (hI F ω H x y H' H'' B'' i k1 rv kk) post)
def noOwn (ρ : Ev) : Bool := ρ.all fun s => match s with
  | .val _ => true
  | .no => true
  | _ => false
theorem noOwn_at {i : Nat} {s : Sl} (h : noOwn ρ = true) (e : ρ[i]? = some s) : (∃ d, s = .val d) ∨ s = .no := by
  have := List.all_eq_true.mp h s (List.mem_of_getElem? e)
  cases s with
  | val d => exact .inl ⟨d, rfl⟩
  | no => exact .inr rfl
  | own ds => cases this
  | oob c fs => cases this
  | exn c fs => cases this
/-- the frame anew at a waking -/
theorem Rel.rebase (r : Rel G F [] ω ρ [] σ H) {ρ' : Ev} (hl : ρ'.length = ρ.length) (hs : ∀ (i : Nat) (s : Sl), ρ'[i]? = some s → s = Sl.no ∨ ρ[i]? = some s) (h : noOwn ρ' = true) (e : ∀ a o, H a = some o → a ∉ ω → H1 a = some o) {x : V} {y : Yi} (iv : IV G.K G.ca F.B0 (fun a => H a = none ∨ a ∈ ω) H1 x y) {H'' : Hp} {B'' : List Addr} (k : Kept H1 (ad x y.2 ++ F.B0) H'' B'') : Rel G ⟨H'', [], B''⟩ [] [] ρ' [] σ H'' := by
  have pp : Per [] (F.B0 ++ ω) H [] B'' H'' := ⟨fun a o h1 _ h3 => by
    rw [List.mem_append, not_or] at h3
    have := k.at' a o (e a o h1 h3.2) fun z => by
      rcases List.mem_append.mp z with z | z
      · rcases iv.fr z with q | q
        · rw [h1] at q; cases q
        · exact h3.2 q
      · exact h3.1 z
    exact ⟨this.1, ni _, this.2⟩, fun _ _ z => z⟩
  refine ⟨List.prefix_rfl, fun _ _ q _ => q, fun _ q => q, fun a q => absurd q (ni a), fun a q => absurd q (ni a), fun b hb => ⟨k.dom b hb, ni _⟩, List.nodup_nil, fun a q => absurd q (ni a), fun a q => absurd q (ni a), ⟨rfl, fun k a c q => (nomatch q)⟩, hl.trans r.len, fun i s o e1 e2 => ?_, fun i j a s s' hij e1 e2 e3 => ?_⟩
  · rcases noOwn_at h e1 with ⟨d, rfl⟩ | rfl
    · rcases hs i _ e1 with z | z
      · cases z
      · have q := r.env i _ o z e2
        cases q with
        | val q =>
          rw [show (Fr.mk H'' [] B'').B0 ++ [] = B'' from List.append_nil _]
          exact .val (q.per pp)
    · exact .no
  · rcases noOwn_at h e1 with ⟨d, rfl⟩ | rfl <;> cases e3
end
/-- a reading of a generator's statement and its function -/
def SGn (G : Gm) (t : (Γ : Type) → TGm Γ) (g : GnF) : Prop := ∀ (Γ : Type) (F : Fr) (D : GEn Γ) (n : Nat) (γ : Γ) (ω : List Addr) (ρ : Ev) (σ : L2.St) (H : Hp), F.i0 = [] → Rel G F [] ω ρ [] σ H → PostGn G D (g ρ).1 (g ρ).2 F ω H n γ → t Γ D n σ H γ
theorem nil_of {G : Gm} {F : Fr} {ι' ω : List Addr} {ρ : Ev} {σ : L2.St} {H : Hp} (r : Rel G F ι' ω ρ [] σ H) : ι' = [] := List.length_eq_zero_iff.mp r.sto.len
section
variable {G : Gm}
def gNil : GnF := fun ρ => ([], .nx ρ)
theorem sgn_nil : SGn G (fun Γ => tG1) gNil := fun Γ F D n γ ω ρ σ H hi rel hp => hp ω σ H ExtS.refl rel
def gSeq (g h : GnF) : GnF := fun ρ => match g ρ with
  | (ys, .nx ρ') => (ys ++ (h ρ').1, (h ρ').2)
  | r => r
theorem sgn_seq {t u : (Γ : Type) → TGm Γ} {g h : GnF} (ht : SGn G t g) (hu : SGn G u h) : SGn G (fun Γ => tGSeq (t Γ) (u Γ)) (gSeq g h) := by
  intro Γ F D n γ ω ρ σ H hi rel hp
  refine ht Γ F { D with nx := fun n' σ' H' γ' => u Γ D n' σ' H' γ' } n γ ω ρ σ H hi rel ?_
  unfold gSeq at hp
  cases e : g ρ with
  | mk ys r =>
    rw [e] at hp
    cases r with
    | nx ρ' => exact PostGn.map (D := D) (r := (h ρ').2) (r' := .nx ρ') (D' := { D with nx := fun n' σ' H' γ' => u Γ D n' σ' H' γ' }) rfl (fun F _ _ => F.i0 = []) (fun _ _ _ _ _ _ _ _ _ _ _ _ => rfl) (h ρ').1 (fun F ω H n γ i p => fun ω' σ' H' ee rel' => hu Γ F D n γ ω' ρ' σ' H' i rel' (p.ex ee)) ys F ω H n γ hi hp
    | bk ρ' => exact PostGn.map (D := D) (r := .bk ρ') (r' := .bk ρ') (D' := { D with nx := fun n' σ' H' γ' => u Γ D n' σ' H' γ' }) rfl (fun _ _ _ => True) (fun _ _ _ _ _ _ _ _ _ _ _ _ => trivial) [] (fun F ω H n γ i p => p) ys F ω H n γ trivial (by rw [List.append_nil]; exact hp)
    | ct ρ' => exact PostGn.map (D := D) (r := .ct ρ') (r' := .ct ρ') (D' := { D with nx := fun n' σ' H' γ' => u Γ D n' σ' H' γ' }) rfl (fun _ _ _ => True) (fun _ _ _ _ _ _ _ _ _ _ _ _ => trivial) [] (fun F ω H n γ i p => p) ys F ω H n γ trivial (by rw [List.append_nil]; exact hp)
    | bad => exact PostGn.map (D := D) (r := .bad) (r' := .bad) (D' := { D with nx := fun n' σ' H' γ' => u Γ D n' σ' H' γ' }) rfl (fun _ _ _ => True) (fun _ _ _ _ _ _ _ _ _ _ _ _ => trivial) [] (fun F ω H n γ i p => p) ys F ω H n γ trivial (by rw [List.append_nil]; exact hp)
def mkY (d : D) (f : Fl) : Option Yi := match d, f with
  | .lst ds, .fs => some (.lst ds, true)
  | d, f => if f.nop = true then some (d, false) else none
theorem mkY_iv {K : PySem.W.Frag} {ca : Nat → Addr} {B0 ω : List Addr} {H0 H : Hp} {v : V} {d : D} {f : Fl} {y : Yi} (h : RF K ca [] (B0 ++ ω) H0 H [] v d f) (e : mkY d f = some y) : IV K ca B0 (fun a => H0 a = none ∨ a ∈ ω) H v y := by
  unfold mkY at e
  split at e
  · cases e
    have h : Fs _ _ _ _ _ _ _ _ _ := h
    cases h with
    | l h1 h2 h3 h4 h5 h6 =>
      exact ⟨_, _, _, rfl, rfl, fun z => h2 (List.mem_append_left _ z), .inl h3, h4, h5.per (Per.less fun a z => by
        rcases List.mem_cons.mp z with z | z
        · rw [z]; exact List.mem_cons_self
        · exact List.mem_cons_of_mem _ (List.mem_append_left _ z))⟩
  · split at e
    · rename_i hf
      cases e
      exact (h.rv (fun e => by rw [e] at hf; cases hf)).per (Per.less fun a z => List.mem_append_left _ z)
    · cases e
def gYd (fe : FE) : GnF := fun ρ => if noOwn ρ = true then (match fe ρ [] with
  | .ok d f [] => (match mkY d f with
    | some y => ([y], .nx ρ)
    | none => ([], .bad))
  | _ => ([], .bad)) else ([], .bad)
theorem sgn_yd {te : TE} {fe : FE} (he : SE G NoE te fe) : SGn G (fun Γ => tGYd te) (gYd fe) := by
  intro Γ F D n γ ω ρ σ H hi rel hp
  unfold gYd at hp
  split at hp
  · rename_i hno
    cases e : fe ρ [] with
    | ok d f S1 =>
      rw [e] at hp
      cases S1 with
      | nil =>
        dsimp only at hp
        split at hp
        · rename_i y hy'
          obtain ⟨m, hm, hy⟩ := hp
          refine ⟨m, hm, he F [] ω ρ [] σ H _ rel ?_⟩
          rw [e]
          intro ι1 v H1 e1 r1 rf
          have hn := nil_of r1
          subst hn
          have iv := mkY_iv rf hy'
          refine hy v H1 _ (fun a o q1 _ => e1.keep a o q1 (ni _)) e1.dom iv fun H'' γ' B'' kk post => ?_
          exact post [] σ H'' ExtS.refl (Rel.rebase rel rfl (fun i s z => .inr z) hno (fun a o q _ => e1.keep a o q (ni _)) iv kk)
        · exact False.elim hp
      | cons => exact False.elim hp
    | xc c fs S1 => rw [e] at hp; exact False.elim hp
    | bad => rw [e] at hp; exact False.elim hp
  · exact False.elim hp
def loopG (set : FG) (body : GnF) : List D → Ev → List Yi × RGt
  | [], ρ => ([], .nx ρ)
  | d :: ds, ρ => match set d ρ [] with
    | some ρ1 => (match body ρ1 with
      | (ys, .nx ρ2) => (ys ++ (loopG set body ds ρ2).1, (loopG set body ds ρ2).2)
      | (ys, .ct ρ2) => (ys ++ (loopG set body ds ρ2).1, (loopG set body ds ρ2).2)
      | (ys, .bk ρ2) => (ys, .nx ρ2)
      | (ys, .bad) => (ys, .bad))
    | none => ([], .bad)
theorem loop_sound {tg : TG} {fg : FG} {js : List Nat} {tb : (Γ : Type) → TGm Γ} {gb : GnF} (hg : SG G tg js fg) (hb : SGn G tb gb) {Γ : Type} {D : GEn Γ} {ds : List Fx.D} {J : It} {B1 : List Addr} {H1 : Hp} (wk : Wk G.K G.ca [] B1 H1 J ds none) {F0 : Fr} {ω0 : List Addr} {ρ0 : Ev} {σ0 : L2.St} {n0 : Nat} {γ0 : Γ}
    (hi : F0.i0 = []) (r0 : Rel G F0 [] ω0 ρ0 [] σ0 H1) (hB : B1 = F0.B0 ++ ω0) (p0 : PostGn G D (loopG fg gb ds ρ0).1 (loopG fg gb ds ρ0).2 F0 ω0 H1 n0 γ0) :
    ∃ W : Nat → Nat → Nat → L2.St → Hp → Γ → Prop, (∃ m, W 0 m n0 σ0 H1 γ0) ∧ ∀ i m n σ H γ, W i m n σ H γ →
      (J.stop i H ∧ D.nx n σ H γ) ∨ (J.go i H ∧ ∃ N : Nat → L2.St → Hp → Γ → Prop, (∀ n' σ' H' γ', N n' σ' H' γ' → ∃ m', m' < m ∧ W (i + 1) m' n' σ' H' γ') ∧ ∀ x H', J.yld i H x H' → tg x σ H' fun σ2 H2 => tb Γ { D with nx := N, ct := N, bk := D.nx } n σ2 H2 γ) := by
  refine ⟨fun i m n σ H γ => m = ds.length - i ∧ i ≤ ds.length ∧ ∃ F ω ρ, F.i0 = [] ∧ Rel G F [] ω ρ [] σ H ∧ Per [] B1 H1 [] (F.B0 ++ ω) H ∧ PostGn G D (loopG fg gb (ds.drop i) ρ).1 (loopG fg gb (ds.drop i) ρ).2 F ω H n γ,
    ⟨ds.length, by simp, Nat.zero_le _, F0, ω0, ρ0, hi, r0, by rw [hB]; exact Per.refl, by rw [List.drop_zero]; exact p0⟩, ?_⟩
  rintro i m n σ H γ ⟨rfl, hle, F, ω, ρ, hi', rel, pp, p⟩
  rcases Nat.lt_or_ge i ds.length with hlt | hge
  · rw [List.drop_eq_getElem_cons hlt] at p
    unfold loopG at p
    obtain ⟨N0, hN0⟩ : ∃ N0 : Nat → L2.St → Hp → Γ → Prop, ∀ n' σ' H' γ', N0 n' σ' H' γ' ↔ ∃ F' ω' ρ', F'.i0 = [] ∧ Rel G F' [] ω' ρ' [] σ' H' ∧ Per [] B1 H1 [] (F'.B0 ++ ω') H' ∧ PostGn G D (loopG fg gb (ds.drop (i + 1)) ρ').1 (loopG fg gb (ds.drop (i + 1)) ρ').2 F' ω' H' n' γ' := ⟨_, fun _ _ _ _ => Iff.rfl⟩
    refine .inr ⟨wk.go _ _ _ [] i pp rel.sto rel.bd trivial hlt, N0, fun n' σ' H' γ' q => ⟨ds.length - (i + 1), by omega, rfl, hlt, (hN0 _ _ _ _).mp q⟩, fun x H'' y => ?_⟩
    obtain ⟨gr, d, ed, rv⟩ := wk.yld _ _ _ [] i x H'' pp rel.sto rel.bd trivial hlt y
    rw [List.getElem?_eq_getElem hlt] at ed
    cases ed
    have r2 := rel.gr gr
    have x2 : ExtS [] ω H [] ω H'' := (Ext.gr gr).s
    refine hg F [] ω ρ [] σ H'' x _ _ r2 rv ?_
    cases eg : fg ds[i] ρ [] with
    | none => rw [eg] at p; exact False.elim p
    | some ρ1 =>
      rw [eg] at p
      dsimp only at p
      intro σ1 rel1 _
      have pp2 : Per [] B1 H1 [] (F.B0 ++ ω) H'' := pp.trans (Ext.gr gr).per
      refine hb Γ F _ n γ ω ρ1 σ1 H'' hi' rel1 ?_
      have hI : ∀ (F : Fr) (ω : List Addr) (H : Hp) (x : V) (y : Yi) (H' H'' : Hp) (B'' : List Addr), (F.i0 = [] ∧ Per [] B1 H1 [] (F.B0 ++ ω) H) → (∀ a o, H a = some o → a ∉ ω → H' a = some o) → IV G.K G.ca F.B0 (fun a => H a = none ∨ a ∈ ω) H' x y → Kept H' (ad x y.2 ++ F.B0) H'' B'' → ((Fr.mk H'' [] B'').i0 = [] ∧ Per [] B1 H1 [] ((Fr.mk H'' [] B'').B0 ++ []) H'') := fun F ω H x y H' H'' B'' i k1 iv kk => by
        refine ⟨rfl, fun a o q1 q2 q3 => ?_, fun k a z => (nomatch z)⟩
        obtain ⟨z1, z2, z3⟩ := i.2.at' a o q1 q2 q3
        rw [List.mem_append, not_or] at z3
        obtain ⟨y1, y2⟩ := kk.at' a o (k1 a o z1 z3.2) fun z => by
          rcases List.mem_append.mp z with z | z
          · rcases iv.fr z with w | w
            · rw [z1] at w; cases w
            · exact z3.2 w
          · exact z3.1 z
        exact ⟨y1, ni _, by rw [List.append_nil]; exact y2⟩
      have again : ∀ (ys : List Yi) (ρ2 : Ev) (r' : RGt), PostGn G D (ys ++ (loopG fg gb (ds.drop (i + 1)) ρ2).1) (loopG fg gb (ds.drop (i + 1)) ρ2).2 F ω H'' n γ →
          (∀ F ω H n γ, (∀ ω' σ' H', ExtS [] ω H [] ω' H' → Rel G F [] ω' ρ2 [] σ' H' → N0 n σ' H' γ) → PostGn G { D with nx := N0, ct := N0, bk := D.nx } [] r' F ω H n γ) → PostGn G { D with nx := N0, ct := N0, bk := D.nx } ys r' F ω H'' n γ := fun ys ρ2 r' hpost hend =>
        PostGn.map (D := D) (D' := { D with nx := N0, ct := N0, bk := D.nx }) rfl (fun F ω H => F.i0 = [] ∧ Per [] B1 H1 [] (F.B0 ++ ω) H) hI (loopG fg gb (ds.drop (i + 1)) ρ2).1 (fun F ω H n γ ii p => hend F ω H n γ fun ω' σ' H' ee rel' => (hN0 n σ' H' γ).mpr ⟨F, ω', ρ2, ii.1, rel', ii.2.trans ee.per, p.ex ee⟩) ys F ω H'' n γ ⟨hi', pp2⟩ hpost
      cases eb : gb ρ1 with
      | mk ys r =>
        rw [eb] at p
        have p2 := PostGn.ex p x2
        cases r with
        | nx ρ2 => exact again ys ρ2 (.nx ρ2) p2 fun F ω H n γ q => q
        | ct ρ2 => exact again ys ρ2 (.ct ρ2) p2 fun F ω H n γ q => q
        | bk ρ2 =>
          have p3 : PostGn G D (ys ++ []) (.nx ρ2) F ω H'' n γ := by rw [List.append_nil]; exact p2
          exact PostGn.map (D := D) (D' := { D with nx := N0, ct := N0, bk := D.nx }) (r := .nx ρ2) (r' := .bk ρ2) rfl (fun _ _ _ => True) (fun _ _ _ _ _ _ _ _ _ _ _ _ => trivial) [] (fun F ω H n γ _ q => q) ys F ω H'' n γ trivial p3
        | bad =>
          have p3 : PostGn G D (ys ++ []) .bad F ω H'' n γ := by rw [List.append_nil]; exact p2
          exact PostGn.map (D := D) (D' := { D with nx := N0, ct := N0, bk := D.nx }) (r := .bad) (r' := .bad) rfl (fun _ _ _ => True) (fun _ _ _ _ _ _ _ _ _ _ _ _ => trivial) [] (fun F ω H n γ _ q => q) ys F ω H'' n γ trivial p3
  · obtain rfl : i = ds.length := by omega
    rw [List.drop_length] at p
    exact .inl ⟨wk.stop _ _ _ [] pp rel.sto rel.bd trivial, p ω σ H ExtS.refl rel⟩
end
end
end Fx
namespace Fx
open PySem PySem.Spec PyProof.Rows L2 U
noncomputable section
/-- the items, one after another; between two of them the consumer runs -/
def Chain (K : PySem.W.Frag) (ca : Nat → Addr) {Γ : Type} (YL : YLT Γ) (EN : Hp → Γ → Prop) : List Yi → List Addr → Hp → Γ → Prop
  | [], _, H, γ => ∀ H', (∀ a o, H a = some o → H' a = some o) → EN H' γ
  | y :: ys, B, H, γ => ∀ x H' (κ : Hp → Γ → Prop), (∀ a o, H a = some o → H' a = some o) → IV K ca B (fun a => H a = none) H' x y → (∀ H'' γ' B'', Kept H' (ad x y.2 ++ B) H'' B'' → Chain K ca YL EN ys B'' H'' γ' → κ H'' γ') → YL ys.length x H' γ κ
inductive RGn where
  | ok (ys : List Yi) | xc (c : Nat) (fs : List (Str × D)) | bad
abbrev FGf := List D → RGn
def PostGF (K : PySem.W.Frag) (ca : Nat → Addr) (B : List Addr) (H : Hp) {Γ : Type} (γ : Γ) (YL : YLT Γ) (EN : Hp → Γ → Prop) (E : XK) : RGn → Prop
  | .ok ys => Chain K ca YL EN ys B H γ
  | .xc c fs => ∀ dd fv H', Ext [] H [] H' → NI dd B → XD H' dd fv → RFs K ca [] B H' fv fs → E (.ref (ca c)) dd H'
  | .bad => False
def SpGF (K : PySem.W.Frag) (ca : Nat → Addr) (f : FGf) : SpGe := fun _ vs H γ YL EN E => ∃ B ds, (∀ b ∈ B, H b ≠ none) ∧ RAll K ca [] B H vs ds ∧ PostGF K ca B H γ YL EN E (f ds)
inductive RGB where
  | go (ys : List Yi) (r : RGt) | xc (c : Nat) (fs : List (Str × D)) | bad
abbrev GbF := Ev → RGB
def PostGB (G : Gm) (E : WX) {Γ : Type} (D : GEn Γ) (F : Fr) (ω : List Addr) (H : Hp) (n : Nat) (γ : Γ) : RGB → Prop
  | .go ys r => PostGn G D ys r F ω H n γ
  | .xc c fs => ∀ ω' ρ' σ' dd fv H', ExtS [] ω H [] ω' H' → Rel G F [] ω' ρ' [] σ' H' → NI dd (F.B0 ++ ω') → XD H' dd fv → RFs G.K G.ca [] (F.B0 ++ ω') H' fv fs → E (.ref (G.ca c)) dd σ' H'
  | .bad => False
def SGB (G : Gm) (E : WX) (t : (Γ : Type) → TGm Γ) (g : GbF) : Prop := ∀ (Γ : Type) (F : Fr) (D : GEn Γ) (n : Nat) (γ : Γ) (ω : List Addr) (ρ : Ev) (σ : L2.St) (H : Hp), F.i0 = [] → Rel G F [] ω ρ [] σ H → PostGB G E D F ω H n γ (g ρ) → t Γ D n σ H γ
def gbFor (fi : FI) (set : FG) (body : GnF) : GbF := fun ρ => match fi ρ [] with
  | .ok ds none [] => .go (loopG set body ds ρ).1 (loopG set body ds ρ).2
  | .xc c fs [] => .xc c fs
  | _ => .bad
section
variable {G : Gm} {E : WX}
theorem PostGB.ex {Γ : Type} {D : GEn Γ} {F : Fr} {ω ω1 : List Addr} {H H1 : Hp} {n : Nat} {γ : Γ} {r : RGB} (h : PostGB G E D F ω H n γ r) (e : ExtS [] ω H [] ω1 H1) : PostGB G E D F ω1 H1 n γ r := by
  cases r with
  | go ys r => exact PostGn.ex h e
  | xc c fs => exact fun ω' ρ' σ' dd fv H' e' rel => h ω' ρ' σ' dd fv H' (e.trans e') rel
  | bad => exact h
theorem sgb_for {wi : TI} {fi : FI} {tg : TG} {fg : FG} {js : List Nat} {tb : (Γ : Type) → TGm Γ} {gb : GnF} (hw : SI G E wi fi) (hg : SG G tg js fg) (hb : SGn G tb gb) : SGB G E (fun Γ => tGSeq (tGFor wi tg (tb Γ)) tG1) (gbFor fi fg gb) := by
  intro Γ F D n γ ω ρ σ H hi rel hp
  refine hw F [] ω ρ [] σ H _ rel ?_
  unfold gbFor at hp
  cases e : fi ρ [] with
  | ok ds g S1 =>
    rw [e] at hp
    cases g with
    | none =>
      cases S1 with
      | nil =>
        intro ι1 J H1 e1 r1 wk
        have hn := nil_of r1
        subst hn
        exact loop_sound (D := { D with nx := fun n' σ' H' γ' => D.nx n' σ' H' γ' }) hg hb wk hi r1 rfl (PostGn.ex hp e1.s)
      | cons => exact False.elim hp
    | some => exact False.elim hp
  | xc c fs S1 =>
    cases S1 with
    | nil =>
      rw [e] at hp
      exact fun ι' dd fv H' ee rel' n1 n2 xd rf => by
        have := nil_of rel'
        subst this
        exact hp ω ρ σ dd fv H' ee.s rel' n2 xd rf
    | cons => rw [e] at hp; exact False.elim hp
  | bad => rw [e] at hp; exact False.elim hp
def runG (n m : Nat) (b : GbF) : FGf := fun ds => if ds.length = m then (match b (ds.map .val ++ List.replicate (n - m) .no) with
  | .go ys (.nx _) => .ok ys
  | .xc c fs => .xc c fs
  | _ => .bad) else .bad
end
section
variable {K : PySem.W.Frag} {ca : Nat → Addr}
theorem runG_len {Γ : Type} {N P : List Str} {b : GbF} {vs : List V} {H : Hp} {γ : Γ} {YL : YLT Γ} {EN : Hp → Γ → Prop} {E : XK} (h : SpGF K ca (runG N.length P.length b) Γ vs H γ YL EN E) : vs.length = P.length := by
  obtain ⟨B, ds, h2, h4, h5⟩ := h
  unfold runG at h5
  split at h5
  · rename_i e; rw [h4.len]; exact e
  · exact h5.elim
theorem chain_post {G : Gm} {Γ : Type} {YL : YLT Γ} {EN : Hp → Γ → Prop} {ρ : Ev} : ∀ (ys : List Yi) (B : List Addr) (H : Hp) (γ : Γ), Chain G.K G.ca YL EN ys B H γ → PostGn G { nx := fun _ _ H' γ' => EN H' γ', rt := fun _ v H' γ' => v = .non ∧ EN H' γ', yl := YL } ys (.nx ρ) ⟨H, [], B⟩ [] H ys.length γ
  | [], B, H, γ, h => fun ω' σ' H' ee _ => h H' fun a o q => ee.keep a o q (ni a) (ni a)
  | y :: ys, B, H, γ, h => ⟨ys.length, rfl, fun x H' κ k1 _ rv hκ => h x H' κ (fun a o q => k1 a o q (ni a)) (rv.mono fun a z => z.elim id fun z => absurd z (ni a)) fun H'' γ' B'' kk ch => hκ H'' γ' B'' kk (chain_post ys B'' H'' γ' ch)⟩
theorem runG_ok {N P : List Str} {t : (Γ : Type) → TGm Γ} {b : GbF} {E : XK} (hb : SGB ⟨K, ca, none, none⟩ (fun cls d _ H => E cls d H) t b) {Γ : Type} {vs : List V} {H : Hp} {γ : Γ} {YL : YLT Γ} {EN : Hp → Γ → Prop} (h : SpGF K ca (runG N.length P.length b) Γ vs H γ YL EN E) :
    ∃ n, t Γ { nx := fun _ _ H' γ' => EN H' γ', rt := fun _ v H' γ' => v = .non ∧ EN H' γ', yl := YL } n (L2.start N vs) H γ := by
  obtain ⟨B, ds, h2, h4, h5⟩ := h
  unfold runG at h5
  split at h5
  · rename_i el
    have rel : Rel ⟨K, ca, none, none⟩ ⟨H, [], B⟩ [] [] (ds.map .val ++ List.replicate (N.length - ds.length) .no) [] (L2.start N vs) H := start_rel (ι := []) List.nodup_nil (fun b hb => ⟨h2 b hb, ni b⟩) ⟨rfl, fun k a c q => (nomatch q)⟩ h4
    rw [el] at rel
    cases e : b (ds.map .val ++ List.replicate (N.length - P.length) .no) with
    | go ys r =>
      rw [e] at h5
      cases r with
      | nx ρ' => exact ⟨ys.length, hb Γ ⟨H, [], B⟩ _ _ γ [] _ _ H rfl rel (by rw [e]; exact chain_post (G := ⟨K, ca, none, none⟩) ys B H γ h5)⟩
      | bk ρ' => exact False.elim h5
      | ct ρ' => exact False.elim h5
      | bad => exact False.elim h5
    | xc c fs =>
      rw [e] at h5
      exact ⟨0, hb Γ ⟨H, [], B⟩ _ _ γ [] _ _ H rfl rel (by
        rw [e]
        intro ω' ρ' σ' dd fv H' ee rel' n2 xd rf
        refine h5 dd fv H' ⟨List.prefix_rfl, fun a o q _ => ee.keep a o q (ni a) (ni a), fun a q => absurd q (ni a), ee.dom⟩ (n2.less fun a z => List.mem_append_left _ z) xd (rf.per (Per.less fun a z => List.mem_append_left _ z)))⟩
    | bad => rw [e] at h5; exact False.elim h5
  · exact h5.elim
end
section
variable {G : Gm} {E : WX}
theorem chain_loop {tg : TG} {fg : FG} {js : List Nat} {tb : TS} {fb : FS} (hg : SG G tg js fg) (hb : SS G NoE tb fb) {F : Fr} {D : Ends} : ∀ (ys : List Yi) (ι ω : List Addr) (ρ : Ev) (S : Sto) (σ : L2.St) (H : Hp), Rel G F ι ω ρ S σ H → PostS G E F D ι ω H (loopS none fg (sNoX fb) (ys.map Prod.fst) ρ S) →
    Chain G.K G.ca (ylF tg tb D) (fun H' σ' => D.nx σ' H') ys (ι ++ (F.B0 ++ ω)) H σ
  | [], ι, ω, ρ, S, σ, H, rel, h => fun H' gr => by
    rw [List.map_nil, loop_end (g := none) trivial] at h
    exact h ι ω σ H' (Ext.gr gr).s (rel.gr gr)
  | d :: ys, ι, ω, ρ, S, σ, H, rel, h => fun x H' κ gr rv hκ => by
    have r2 := rel.gr gr
    have x2 : ExtS ι ω H ι ω H' := (Ext.gr gr).s
    have rv2 : RV G.K G.ca ι (F.B0 ++ ω) H' x d.1 := rv.rv.per Per.open
    rw [List.map_cons] at h
    unfold loopS at h
    rw [if_pos (show gOk none S from trivial)] at h
    refine hg F ι ω ρ S σ H' x d.1 _ r2 rv2 ?_
    cases eg : fg d.1 ρ S with
    | none => rw [eg] at h; exact False.elim h
    | some ρ1 =>
      rw [eg] at h
      dsimp only at h
      intro σ1 rel1 _
      refine hb F _ ι ω ρ1 S σ1 H' rel1 ?_
      have next : ∀ ρ2 S2, PostS G E F D ι ω H (loopS none fg (sNoX fb) (ys.map Prod.fst) ρ2 S2) → ∀ ι' ω' σ' H2, ExtS ι ω H' ι' ω' H2 → Rel G F ι' ω' ρ2 S2 σ' H2 → κ H2 σ' := fun ρ2 S2 hp ι' ω' σ' H2 ee rel' => by
        refine hκ H2 σ' (ι' ++ (F.B0 ++ ω')) ⟨fun a o q1 q2 => ?_, fun b hb' => ?_⟩ (chain_loop hg hb ys ι' ω' ρ2 S2 σ' H2 rel' (PostS.ex hp (x2.trans ee)))
        · have q2' : a ∉ ι ++ (F.B0 ++ ω) := fun z => q2 (List.mem_append_right _ z)
          rw [List.mem_append, not_or] at q2'
          obtain ⟨z1, z2, z3⟩ := (ee.per (B := F.B0)).at' a o q1 q2'.1 q2'.2
          exact ⟨z1, nin z2 z3⟩
        · rcases List.mem_append.mp hb' with z | z
          · exact rel'.sto.here b z
          · exact rel'.bd b z
      unfold sNoX at h
      cases eb : fb ρ1 S with
      | nx ρ2 S2 => rw [eb] at h; exact next ρ2 S2 h
      | ct ρ2 S2 => rw [eb] at h; exact next ρ2 S2 h
      | bk ρ2 S2 =>
        rw [eb] at h
        exact fun ι' ω' σ' H2 ee rel' => h ι' ω' σ' H2 (x2.trans ee) rel'
      | rt d' fl S2 => rw [eb] at h; exact h
      | xc c fs ρ2 S2 => rw [eb] at h; exact False.elim h
      | bad => rw [eb] at h; exact False.elim h
theorem runG_arity {n m : Nat} {b : GbF} : ∀ ds, runG n m b ds ≠ .bad → ds.length = m := fun ds h => by
  unfold runG at h
  split at h
  · assumption
  · exact absurd rfl h
end
end
end Fx
namespace U
open PySem PySem.Spec PyProof.Rows L2
theorem turn_long {P : Program} {w : World} {K : PySem.W.Frag} {tg : Expr} (it : Addr) (lo : Int) (n : Nat) : Turn P w K tg (Itr lo n) [it] it (fun i h => IsLongIter h it (lo + (i : Nat) * 1) ((n : Int) - (i : Nat)) 1) := by
  refine ⟨by simp, fun i h st b hb => ?_, fun i h h' st k => k it (by simp) _ st, ?_, ?_, fun A i s Q E st h => wpAny_pyIter_longiter st h⟩
  · have e : b = it := by simpa using hb
    subst e
    exact ⟨_, st, fun v z => by
      have z' : Data.fields _ = Data.cell v := z
      cases z'⟩
  · intro X hP hw hK hc i pins s σ H E I hf st hg
    subst hP; subst hw; subst hK
    obtain ⟨f0, f1, f2, f3, f4, f5⟩ := hf it (by simp)
    refine (Walks.longrange (prog := X.prog) (w := X.w) (I.ok.hd hc) it lo 1 n).item i s _ _ hg st fun v h' tk hv st' kk => ?_
    obtain ⟨t, rfl⟩ := hv
    have I1 : Inv X pins σ H { s with heap := h', toks := tk } := I.turned (fun b o hb e => kk b o (by simpa using hb) e) f0 f1 f3 f4 f5
    refine ⟨_, rfl, go_of (s := { s with heap := h', toks := tk }) (n := "longrange_iterator") st' rfl rfl (by decide) ⟨.int (lo + i), H, I1, ⟨t, by rw [Int.mul_one]⟩, ⟨rfl, rfl⟩, st', fun b hb => (hf b hb).1⟩⟩
  · intro X hP hw hK hc i pins s σ H E I hf st hg
    subst hP; subst hw; subst hK
    obtain ⟨f0, f1, f2, f3, f4, f5⟩ := hf it (by simp)
    have hg : n ≤ i := hg
    exact wpAny_pyNext_long_end (I.ok.hd hc) st (by omega) fun h' eb => ⟨rfl, I.turned (t' := s.toks) (fun b o hb e => eb b o hb e) f0 f1 f3 f4 f5⟩
section
variable {X : Cx} {tg : Expr}
theorem range_itX {pins : List (Addr × Obj)} {σ : L2.St} {H : Hp} {s : Shared} {R : It → Hp → Prop} {E : Value → Shared → Prop} {hi : Int} {t u v : Tok} {tk : Nat} (I : Inv X pins σ H s)
    (q : R (Itr 0 hi.toNat) H) : wpAny (model X.prog X.w) X.A (pyIter (.ref s.heap.objs.size)) (PIE X pins σ tg R) E { s with heap := s.heap.push { cls := .type "range", data := .fields #[.int 0 t, .int hi u, .int 1 v] }, toks := tk } := by
  have I1 : Inv X pins σ H { s with heap := s.heap.push { cls := .type "range", data := .fields #[.int 0 t, .int hi u, .int 1 v] }, toks := tk } := I.kept fun b o e => Heap.get?_push_of_some _ e
  have e1 : (0 : Int) + ((0 : Nat) : Int) * 1 = 0 := by simp
  have e2 : ((hi.toNat : Nat) : Int) - ((0 : Nat) : Int) = Builtin.Range.rangeSize 0 hi 1 := by rw [rangeSize_one]; split <;> omega
  generalize hs1 : ({ s with heap := s.heap.push { cls := .type "range", data := .fields #[.int 0 t, .int hi u, .int 1 v] }, toks := tk } : Shared) = s1 at I1 ⊢
  have hr : IsRange s1.heap s.heap.objs.size 0 hi 1 t u v := by rw [← hs1]; exact IsRange.new ..
  have fin : ∀ b ∈ [s1.heap.objs.size], FpOk X pins H b := fun b hb => by
    have e : b = s1.heap.objs.size := by simpa using hb
    subst e
    exact I1.fpOk (Nat.le_refl _) (I1.hok.fresh (Nat.le_refl _))
  cases hb : Builtin.Range.small 0 hi 1 with
  | true =>
    refine wpAny_pyIter_range hr hb ?_
    refine ⟨s1.heap.objs.size, [s1.heap.objs.size], _, _, H, rfl, I1.kept (t' := s1.toks) fun b o e => Heap.get?_push_of_some _ e, turn_range _ 0 hi.toNat, ?_, fin, q⟩
    show IsRangeIter _ _ (0 + ((0 : Nat) : Int) * 1) (((hi.toNat : Nat) : Int) - ((0 : Nat) : Int)) 1
    rw [e1, e2]
    exact Heap.get?_push_size _ rfl
  | false =>
    refine wpAny_pyIter_longrange hr hb ?_
    refine ⟨s1.heap.objs.size, [s1.heap.objs.size], _, _, H, rfl, I1.kept (t' := s1.toks) fun b o e => Heap.get?_push_of_some _ e, turn_long _ 0 hi.toNat, ?_, fin, q⟩
    show IsLongIter _ _ (0 + ((0 : Nat) : Int) * 1) (((hi.toNat : Nat) : Int) - ((0 : Nat) : Int)) 1
    rw [e1, e2]
    exact Heap.get?_push_size _ rfl
def iRng1X (ta : TA) : TI := fun σ H R => ta σ H fun vs H1 => ∃ j : Int, vs = [.int j] ∧ R (Itr 0 j.toNat) H1
theorem pi_range1X {a : Expr} {ta : TA} {p pos : Pos} (hg : Gl X "range") (hm : X.mg "range" = none) (ha : PA X [a] ta) (hs : starEach [a] X.env = [(false, eval a X.env)] := by rfl) : PI X tg (.Call (.Name "range" p) [a] [] pos) (iRng1X ta) := by
  refine ⟨fun pins s σ H R I h => ?_⟩
  refine Call_ (ld_blt I hg hm boot_range (PyProof.Rows.callWith_type1 (thn (ha.run pos pins s σ H _ I h) fun us s1 ⟨vs, H1, I1, r1, q1⟩ => ?_) hs rfl))
  obtain ⟨j, e, q⟩ := q1
  subst e
  cases r1 with
  | cons r rr =>
    cases rr
    obtain ⟨t, rfl⟩ := r
    exact call_range_1 (range_itX I1 q)
end
end U
namespace Fx
open PySem PySem.Spec PyProof.Rows L2 U
noncomputable section
def fRng1X (fa : FA) : FI := fun ρ S => match fa ρ S with
  | .ok [.int j] _ S1 => .ok (rngD 0 j.toNat) none S1
  | .xc c fs S1 => .xc c fs S1
  | _ => .bad
section
variable {G : Gm} {E : WX}
theorem si_rng1X {ta : TA} {fa : FA} (ha : SA G E ta fa) : SI G E (iRng1X ta) (fRng1X fa) := by
  intro F ι ω ρ S σ H R rel h
  refine ha F ι ω ρ S σ H _ rel ?_
  unfold fRng1X at h
  split at h
  · rename_i j t S1 e
    rw [e]
    intro ι1 vs H1 e1 r1 ra
    obtain ⟨v, rfl, q⟩ := pair1 ra.pair
    rw [q.sInt]
    exact ⟨j, rfl, h ι1 _ H1 e1 r1 (wk_rng 0 _)⟩
  · rename_i e; rw [e]; exact h
  · exact h.elim
abbrev LpF := List Yi → Ev → Sto → RSt
def lpT (fg : FG) (fb : FS) : LpF := fun ys ρ S => loopS none fg (sNoX fb) (ys.map Prod.fst) ρ S
def lpO (i : Nat) (fb : FS) : LpF
  | [], ρ, S => .nx ρ S
  | (.lst ds, true) :: ys, ρ, S => (match fb (ρ.set i (.own ds)) S with
    | .nx ρ2 S2 => lpO i fb ys ρ2 S2
    | .ct ρ2 S2 => lpO i fb ys ρ2 S2
    | .bk ρ2 S2 => .nx ρ2 S2
    | .xc _ _ _ _ => .bad
    | r => r)
  | _, _, _ => .bad
def LpOk (G : Gm) (E : WX) (tg : TG) (tb : TS) (lp : LpF) : Prop := ∀ (F : Fr) (D : Ends) (ys : List Yi) (ι ω : List Addr) (ρ : Ev) (S : Sto) (σ : L2.St) (H : Hp), Rel G F ι ω ρ S σ H → PostS G E F D ι ω H (lp ys ρ S) → Chain G.K G.ca (ylF tg tb D) (fun H' σ' => D.nx σ' H') ys (ι ++ (F.B0 ++ ω)) H σ
theorem lp_t {tg : TG} {fg : FG} {js : List Nat} {tb : TS} {fb : FS} (hg : SG G tg js fg) (hb : SS G NoE tb fb) : LpOk G E tg tb (lpT fg fb) := fun F D ys ι ω ρ S σ H rel h => chain_loop hg hb ys ι ω ρ S σ H rel h
theorem lp_o {i : Nat} {tb : TS} {fb : FS} (hb : SS G NoE tb fb) : LpOk G E (gName i) tb (lpO i fb) := by
  intro F D ys
  induction ys with
  | nil => exact fun ι ω ρ S σ H rel h H' gr => h ι ω σ H' (Ext.gr gr).s (rel.gr gr)
  | cons y ys ih =>
    intro ι ω ρ S σ H rel h x H' κ gr iv hκ
    obtain ⟨d, b⟩ := y
    cases b with
    | false => unfold lpO at h; exact False.elim (by cases d <;> exact h)
    | true =>
      obtain ⟨a, xs, ds, rfl, hd, h1, h2, h3, h4⟩ := iv
      have hd : d = .lst ds := hd
      subst hd
      unfold lpO at h
      have r2 := rel.gr gr
      rw [List.mem_append, not_or] at h1
      have x2 : ExtS ι ω H ι (a :: ω) H' := ⟨List.prefix_rfl, fun b o q _ _ => gr b o q, fun _ q n => absurd q n, fun b q n => by
        rcases List.mem_cons.mp q with z | z
        · rw [z]; exact h2
        · exact absurd z n, fun b q => (Ext.gr (ι := ι) gr).dom b q⟩
      have pp : Per [] (a :: (ι ++ (F.B0 ++ ω))) H' ι (F.B0 ++ (a :: ω)) H' := ⟨fun b o q1 _ q3 => by
        simp only [List.mem_cons, List.mem_append, not_or] at q3
        exact ⟨q1, q3.2.1, by simp only [List.mem_cons, List.mem_append, not_or]; exact ⟨q3.2.2.1, q3.1, q3.2.2.2⟩⟩, fun k b z => (nomatch z)⟩
      have pS : Per ι (F.B0 ++ ω) H ι (F.B0 ++ (a :: ω)) H' := ⟨fun b o q1 q2 q3 => by
        refine ⟨gr b o q1, q2, fun z => ?_⟩
        rw [List.mem_append, not_or] at q3
        rcases List.mem_append.mp z with z | z
        · exact q3.1 z
        · rcases List.mem_cons.mp z with z | z
          · rw [z, h2] at q1; cases q1
          · exact q3.2 z, fun _ _ z => z⟩
      have hS : RS G.K G.ca ι (F.B0 ++ (a :: ω)) H' S := rel.sto.per (fun b hb' => by
        cases e : H b with
        | none => exact absurd e (rel.sto.here b hb')
        | some o => exact gr b o e) pS
      have rel1 := rel.own' (Ext.gr gr) r2 i (.own List.mem_cons_self h3 (h4.per pp)) h2 h1.1 (nn h3) hS
      show tb { D with nx := fun σ3 H3 => κ H3 σ3, ct := fun σ3 H3 => κ H3 σ3, bk := D.nx } (σ.set i (some (.ref a))) H'
      refine hb F _ ι (a :: ω) (ρ.set i (.own ds)) S _ H' rel1 ?_
      have next : ∀ ρ2 S2, PostS G E F D ι ω H (lpO i fb ys ρ2 S2) → ∀ ι' ω' σ' H2, ExtS ι (a :: ω) H' ι' ω' H2 → Rel G F ι' ω' ρ2 S2 σ' H2 → κ H2 σ' := fun ρ2 S2 hp ι' ω' σ' H2 ee rel' => by
        refine hκ H2 σ' (ι' ++ (F.B0 ++ ω')) ⟨fun b o q1 q2 => ?_, fun b hb' => ?_⟩ (ih ι' ω' ρ2 S2 σ' H2 rel' (PostS.ex hp (x2.trans ee)))
        · have q2' : b ∉ [a] ++ (ι ++ (F.B0 ++ ω)) := q2
          simp only [List.mem_cons, List.mem_append, List.not_mem_nil, or_false, not_or] at q2'
          obtain ⟨z1, z2, z3⟩ := (ee.per (B := F.B0)).at' b o q1 q2'.2.1 (by simp only [List.mem_cons, List.mem_append, not_or]; exact ⟨q2'.2.2.1, q2'.1, q2'.2.2.2⟩)
          exact ⟨z1, nin z2 z3⟩
        · rcases List.mem_append.mp hb' with z | z
          · exact rel'.sto.here b z
          · exact rel'.bd b z
      cases eb : fb (ρ.set i (.own ds)) S with
      | nx ρ2 S2 => rw [eb] at h; exact next ρ2 S2 h
      | ct ρ2 S2 => rw [eb] at h; exact next ρ2 S2 h
      | bk ρ2 S2 =>
        rw [eb] at h
        exact fun ι' ω' σ' H2 ee rel' => h ι' ω' σ' H2 (x2.trans ee) rel'
      | rt d' fl S2 => rw [eb] at h; exact h
      | xc c fs ρ2 S2 => rw [eb] at h; exact False.elim h
      | bad => rw [eb] at h; exact False.elim h
def kLp (cs : List Nat) (lp : LpF) (ρ : Ev) (S : Sto) (r : RGn) : RSt := match r with
  | .ok ys => lp ys ρ S
  | .xc c fs => if cs.elem c = true then .xc c fs ρ S else .bad
  | .bad => .bad
def sLpM (cs : List Nat) (c : Nat) (m : Str) (f : FGf) (fo : FE) (fa : FA) (lp : LpF) : FS := fun ρ S => match fo ρ S with
  | .ok (.obj c' es) fl S1 => if (decide (c' = c) && (es.lookup m).isNone && fl.nop) = true then (match fa ρ S1 with
    | .ok ds true S2 => if noCels (.obj c' es :: ds) = true then kLp cs lp ρ S2 (f (.obj c' es :: ds)) else .bad
    | .xc c fs S2 => if cs.elem c = true then .xc c fs ρ S2 else .bad
    | _ => .bad) else .bad
  | .xc c fs S1 => if cs.elem c = true then .xc c fs ρ S1 else .bad
  | _ => .bad
theorem lp_sound {cs : List Nat} (hn : ∀ c ∈ cs, PySem.W.subIn G.K (.ref (G.ca c)) (.type "StopIteration") = some false) {f : FGf} {tg : TG} {tb : TS} {lp : LpF} (hl : LpOk G E tg tb lp) {F : Fr} {D : Ends} {ι ω : List Addr} {ρ : Ev} {S : Sto} {σ : L2.St} {H : Hp} {vs : List V} {ds : List Fx.D}
    (rel : Rel G F ι ω ρ S σ H) (ra : RAll G.K G.ca ι (F.B0 ++ ω) H vs ds) (hc : noCels ds = true) (h : PostS G E F D ι ω H (kLp cs lp ρ S (f ds))) :
    SpGF G.K G.ca f L2.St vs H σ (ylF tg tb D) (fun H' σ' => D.nx σ' H') (WE (NSt G.K E) σ) := by
  refine ⟨ι ++ (F.B0 ++ ω), ds, fun b hb' => (List.mem_append.mp hb').elim (rel.sto.here b) (rel.bd b), RAll.close ds hc ra, ?_⟩
  unfold kLp at h
  cases e : f ds with
  | ok ys => rw [e] at h; exact hl F D ys ι ω ρ S σ H rel h
  | xc c fs =>
    rw [e] at h
    dsimp only at h
    split at h
    · rename_i hcs
      intro dd fv H' ee n2 xd rf
      have gr : ∀ a o, H a = some o → H' a = some o := fun a o q => ee.keep a o q (ni a)
      exact ⟨h ι ω σ dd fv H' (Ext.gr gr).s (rel.gr gr) (n2.less fun a z => List.mem_append_left _ z) (n2.less fun a z => List.mem_append_right _ z) xd (rf.per Per.open), hn c (List.elem_iff.mp hcs)⟩
    · exact False.elim h
  | bad => rw [e] at h; exact False.elim h
theorem ss_lpM {cs : List Nat} (hn : ∀ c ∈ cs, PySem.W.subIn G.K (.ref (G.ca c)) (.type "StopIteration") = some false) {c np : Nat} {m : Str} {f : FGf} (hf : ∀ ds, f ds ≠ .bad → ds.length = np) {to : TE} {fo : FE} {ta : TA} {fa : FA} {tg : TG} {tb : TS} {lp : LpF} (ho : SE G (NSt G.K E) to fo) (ha : SA G (NSt G.K E) ta fa) (hl : LpOk G E tg tb lp) :
    SS G E (tForG (tMethX m (G.ca c) np (SpGF G.K G.ca f) (WE (NSt G.K E)) to ta) tg tb) (sLpM cs c m f fo fa lp) := by
  intro F D ι ω ρ S σ H rel h
  refine ho F ι ω ρ S σ H _ rel ?_
  unfold sLpM at h
  cases e : fo ρ S with
  | ok d fl S1 =>
    rw [e] at h
    cases d with
    | obj c' es =>
      dsimp only at h
      split at h
      · rename_i hc
        simp only [Bool.and_eq_true, decide_eq_true_eq] at hc
        obtain ⟨⟨rfl, hc2⟩, hc3⟩ := hc
        intro ι1 v H1 e1 r1 rf1
        have h1 := PostS.ex h e1.s
        have rv := rf1.rv (by intro z; subst z; cases hc3)
        obtain ⟨a, dx, fs, rfl, q1, q2⟩ := ob_at rf1.rt
        refine ⟨a, dx, fs, rfl, q1, q2.look0 (Option.isNone_iff_eq_none.mp hc2), ?_⟩
        refine ha F ι1 ω ρ S1 σ H1 _ r1 ?_
        cases e2 : fa ρ S1 with
        | ok ds t S2 =>
          rw [e2] at h1
          cases t with
          | true =>
            dsimp only at h1
            split at h1
            · rename_i hnc
              intro ι2 vs H2 x2 r2 ra
              have h2 := PostS.ex h1 x2.s
              refine ⟨?_, lp_sound hn hl r2 (.cons (rv.ex x2) ra) hnc h2⟩
              have hlen : (Fx.D.obj c' es :: ds).length = np := hf _ fun eb => by
                rw [eb] at h1
                exact False.elim h1
              rw [← hlen, List.length_cons, List.length_cons, RAll.len ra]
            · exact False.elim h1
          | false => exact False.elim h1
        | xc c2 fs2 S2 =>
          rw [e2] at h1
          dsimp only at h1
          split at h1
          · rename_i hcs
            exact fun ι' dd fv H' ee rel' n1 n2 xd rf => ⟨h1 ι' ω σ dd fv H' ee.s rel' n1 n2 xd rf, hn c2 (List.elem_iff.mp hcs)⟩
          · exact False.elim h1
        | bad => rw [e2] at h1; exact False.elim h1
      · exact False.elim h
    | _ => exact False.elim h
  | xc c2 fs2 S1 =>
    rw [e] at h
    dsimp only at h
    split at h
    · rename_i hcs
      exact fun ι' dd fv H' ee rel' n1 n2 xd rf => ⟨h ι' ω σ dd fv H' ee.s rel' n1 n2 xd rf, hn c2 (List.elem_iff.mp hcs)⟩
    · exact False.elim h
  | bad => rw [e] at h; exact False.elim h
end
end
end Fx
namespace HotX
open PySem PySem.Spec PyProof.Rows
end HotX
namespace L2M
open PySem PySem.Spec PyProof.Rows L2
/-- the context that an exception bears: None, or an old exception whose context is None -/
def CtxB (B : Heap) (H : Hp) (a : Addr) (v : Option Value) : Prop := v = some .none ∨ ∃ (x : Addr) (o : Obj) (vs : Array Value), v = some (.ref x) ∧ x ≠ a ∧ B.get? x = some o ∧ H x = none ∧ o.data = .fields vs ∧ vs[2]? = some .none
def Zm (B : Heap) (H : Hp) (a : Addr) (cls : Value) (d : Option Addr) : Obj → Prop := fun o => o.cls = cls ∧ o.dict = d ∧ ∀ vs : Array Value, o.data = .fields vs → CtxB B H a vs[2]?
/-- behind a call that let an exception out: its context is told -/
def CX (P : Program) (w : World) (outer : List Env) (H : Hp) (s : Shared) (E : XK) (u : Value) (t : Shared) : Prop :=
  ∃ (a : Addr) (B : Heap) (H' : Hp) (cls : Value) (d : Option Addr), u = .ref a ∧ HandSPX.FlyingZ B outer a (Zm B H' a cls d) t.heap ∧ HOk P w H' B ∧ UB (frs outer) H H' s.heap B t.heap ∧ H' a = none ∧ t.os = s.os ∧ AllBare t.gens ∧ E cls d H'
/-- in the air of X -/
def XE (X : Cx) (W : WX) (u : Value) (t : Shared) : Prop :=
  ∃ (a : Addr) (B : Heap) (sI : Shared) (pins : List (Addr × Obj)) (σ : L2.St) (H : Hp) (cls : Value) (d : Option Addr), u = .ref a ∧ Inv X pins σ H sI ∧ (∀ b o, sI.heap.get? b = some o → b ∉ frs X.stack → B.get? b = some o) ∧
    sI.heap.UpToSlots t.heap ∧ Sky B X.stack a (Zm B H a cls d) X.env.locals t.heap ∧ H a = none ∧ t.os = sI.os ∧ AllBare t.gens ∧ W cls d σ H
section
variable {X : Cx} {pins : List (Addr × Obj)} {σ : L2.St} {H : Hp} {sI s t : Shared} {B : Heap} {W : WX} {E : XK}
/-- a new one is in our air -/
theorem XE.new {a : Addr} {oe : Obj} {vs : Array Value} {cls : Value} {d : Option Addr} (I : Inv X pins σ H sI) (k : ∀ b o, sI.heap.get? b = some o → t.heap.get? b = some o) (hne : sI.heap.get? a = none) (he : t.heap.get? a = some oe)
    (hz : Zm (PySem.W.hideAll sI.heap (frs X.stack)) H a cls d oe) (hd : oe.data = .fields vs) (h1 : vs[1]? = some .none) (na : H a = none) (os : t.os = sI.os) (ag : AllBare t.gens) (w : W cls d σ H) : XE X W (.ref a) t := by
  refine ⟨a, PySem.W.hideAll sI.heap (frs X.stack), sI, pins, σ, H, cls, d, rfl, I, fun b o e hb => PySem.W.hideAll_get _ e hb, Heap.UpToSlots.of_keeps k,
    .inl ⟨fun b o e => k b o (PySem.W.of_hideAll _ e), ?_, ?_, oe, vs, he, hz, hd, h1⟩, na, os, ag, w⟩
  · cases q : (PySem.W.hideAll sI.heap (frs X.stack)).get? a with
    | none => rfl
    | some o =>
      have z := PySem.W.of_hideAll _ q
      rw [hne] at z
      cases z
  · exact Heap.FunFrames.of_keeps (fun b o e _ => ⟨o, k b o e, rfl⟩) (funFrames_none I.stack fun b hb => PySem.W.hideAll_none _ hb)
end
end L2M
namespace U
open PySem PySem.Spec PyProof.Rows L2
end U
namespace U
open PySem PySem.Spec PyProof.Rows L2
end U
namespace Lw
open PySem PySem.Spec PyProof.Rows L2 U Fx
noncomputable section
def cf_ : Nat → Str → Bool
  | 6, f => decide (f = "least") || decide (f = "most") || decide (f = "own_letters") || decide (f = "own_marks")
  | _, _ => false
def g_Stock___init___shortest_longest {α : Type} (vs mz zs : List α) : List α := vs ++ ((zs.drop 0).take 1 ++ ((zs.drop 1).take 1))
abbrev gV_Stock___init___shortest_longest (vs zs : List V) : List V := g_Stock___init___shortest_longest vs [] zs
def b_is_integer : FS := sRet (fAnd (fIsi .int (fVar 0)) (fAnd (fNot (fIsi .bl (fVar 0))) (fChain dLe dLe (fVar 1) (fVar 0) (fVar 2))))
def F_is_integer : FF := noxF (runF 3 3 b_is_integer)
def b_is_mark : FS := sSeq (sIf (fNot (fIsi .str (fVar 0))) (sRet (fC (.bl false))) (sNext)) (sRet (fOr (fOp (dEqv false) (fVar 0) (fC (.str " "))) (fAnd (fOp (dEqv false) (fCB dLen (fCons (fVar 0) (fNil))) (fC (.int 2))) (fAnd (fOp (dIn false) (fOp dIx (fVar 0) (fC (.int 0))) (fC (.str "#|/"))) (fOp (dIn false) (fOp dIx (fVar 0) (fC (.int 1))) (fC (.str "0123")))))))
def F_is_mark : FF := noxF (runF 1 1 b_is_mark)
def b_all_marks : FS := sRet (fOp dAdd (fLst (fCons (fC (.str " ")) (fNil))) (fLc2 (fIter (fC (.str "#|/"))) (gN 0) (fC (.bl true)) (fRng1 (fCons (fOp dAdd (fC (.int 3)) (fC (.int 1))) (fNil))) (gN 1) (fC (.bl true)) (fOp dAdd (fVar 0) (fCB dStrX (fCons (fVar 1) (fNil)))) [0, 1] [1]))
def F_all_marks : FF := noxF (runF 2 0 b_all_marks)
def b_text_of_letters : FS := sRet (fLc (fIter (fVar 0)) (gT 2 (gsCons (gN 1) (gsCons (gN 2) (gsNil)))) (fC (.bl true)) (fTup (fCons (fVar 1) (fCons (fOp dMul (fC (.str "a")) (fVar 2)) (fNil)))) [1, 2])
def F_text_of_letters : FF := noxF (runF 3 1 b_text_of_letters)
def b__law_cell : FS := sSeq (sIf (fOp dLt (fVar 1) (fCB dLen (fCons (fVar 0) (fNil)))) (sRet (fOp dIx (fVar 0) (fVar 1))) (sNext)) (sRet (fOp dAdd (fOp dMul (fC (.int 7919)) (fVar 1)) (fC (.int 31))))
def F__law_cell : FF := noxF (runF 2 2 b__law_cell)
def b__law_purse : FS := sRet (fLst (fCons (fCB dMax (fCons (fC (.int 0)) (fCons (fOp dSub (fVar 0) (fOp dPow (fC (.int 10)) (fC (.int 18)))) (fNil)))) (fCons (fOp dMod (fVar 0) (fC (.int 2147483629))) (fCons (fC (.int 0)) (fNil)))))
def F__law_purse : FF := noxF (runF 1 1 b__law_purse)
def b__law_take : FS := sSeq (sIf (fOp dGt (fOp dIx (fVar 0) (fC (.int 0))) (fC (.int 0))) (sSeq (sAsg (fOp dMod (fOp dIx (fVar 0) (fC (.int 0))) (fVar 1)) (gN 2)) (sSeq (sSetI 0 (fC (.int 0)) (fOp dFdiv (fOp dIx (fVar 0) (fC (.int 0))) (fVar 1))) (sRetV 2))) (sNext)) (sSeq (sSetI 0 (fC (.int 2)) (fOp dAdd (fOp dIx (fVar 0) (fC (.int 2))) (fC (.int 1)))) (sSeq (sAsg (fOp dMod (fOp dPow (fOp dAdd (fOp dAdd (fOp dIx (fVar 0) (fC (.int 1))) (fOp dMul (fC (.int 7919)) (fOp dIx (fVar 0) (fC (.int 2))))) (fC (.int 144))) (fC (.int 5))) (fC (.int 2147483647))) (gN 3)) (sSeq (sAsg (fOp dMod (fOp dPow (fOp dAdd (fVar 3) (fOp dMul (fC (.int 104729)) (fOp dIx (fVar 0) (fC (.int 2))))) (fC (.int 3))) (fC (.int 2147483587))) (gN 3)) (sRet (fOp dMod (fOp dFdiv (fVar 3) (fC (.int 16))) (fVar 1))))))
def F__law_take : FF := noxF (runF 4 2 b__law_take)
def b__law_all_marks : FS := sRet (fLst (fCons (fC (.str " ")) (fCons (fC (.str "#0")) (fCons (fC (.str "#1")) (fCons (fC (.str "#2")) (fCons (fC (.str "#3")) (fCons (fC (.str "|0")) (fCons (fC (.str "|1")) (fCons (fC (.str "|2")) (fCons (fC (.str "|3")) (fCons (fC (.str "/0")) (fCons (fC (.str "/1")) (fCons (fC (.str "/2")) (fCons (fC (.str "/3")) (fNil)))))))))))))))
def F__law_all_marks : FF := noxF (runF 0 0 b__law_all_marks)
def b__law_letters : FS := sSeq (sAsg (fLst (fNil)) (gN 3)) (sSeq (sFor (fIter (fVar 0)) (gN 4) (sAsg (fOp dAdd (fVar 3) (fLc (fRng2 (fCons (fVar 1) (fCons (fOp dAdd (fVar 2) (fC (.int 1))) (fNil)))) (gN 5) (fC (.bl true)) (fTup (fCons (fVar 4) (fCons (fVar 5) (fNil)))) [5])) (gN 3))) (sRetV 3))
def F__law_letters : FF := noxF (runF 6 3 b__law_letters)
def b__law_power : FS := sSeq (sAsg (fC (.int 1)) (gN 2)) (sSeq (sFor (fRng1 (fCons (fVar 1) (fNil))) (gN 3) (sAsg (fOp dMul (fVar 2) (fVar 0)) (gN 2))) (sRetV 2))
def F__law_power : FF := noxF (runF 4 2 b__law_power)
def b_Stock_letters : FS := sRet (fCB dList (fCons (fFld cf_ "own_letters" (fVar 0)) (fNil)))
def F_Stock_letters : FF := noxF (runF 1 1 b_Stock_letters)
def b_are_stock_marks : FS := sSeq (sIf (fOr (fNot (fIsiT [.lst, .tup] (fVar 0))) (fNot (fCB dAll (fCons (fLc (fIter (fVar 0)) (gN 1) (fC (.bl true)) (fCall F_is_mark [] (fCons (fVar 1) (fNil))) [1]) (fNil))))) (sRet (fC (.bl false))) (sNext)) (sRet (fCB dAny (fCons (fLc (fIter (fVar 0)) (gN 1) (fC (.bl true)) (fOp (dEqv false) (fOp dIx (fVar 1) (fC (.int 0))) (fC (.str "#"))) [1]) (fNil))))
def F_are_stock_marks : FF := noxF (runF 2 1 b_are_stock_marks)
def b__law_mark : FS := sSeq (sIf (fOp (dEqv false) (fCall F__law_take [] (fCons (fVar 0) (fCons (fC (.int 3)) (fNil)))) (fC (.int 0))) (sRet (fC (.str " "))) (sNext)) (sRet (fOp dAdd (fOp dIx (fC (.str "#|/")) (fCall F__law_take [] (fCons (fVar 0) (fCons (fC (.int 3)) (fNil))))) (fOp dIx (fC (.str "0123")) (fCall F__law_take [] (fCons (fVar 0) (fCons (fC (.int 4)) (fNil)))))))
def F__law_mark : FF := noxF (runF 1 1 b__law_mark)
def b__law_sorted : FS := sRet (fLc (fIter (fCall F__law_all_marks [] (fNil))) (gN 1) (fOp (dIn false) (fVar 1) (fVar 0)) (fVar 1) [1])
def F__law_sorted : FF := noxF (runF 2 1 b__law_sorted)
def b__law_rows_5 : FS := sRetV 10
def b__law_rows_4 : FS := sSeq (sFor (fIter (fVar 5)) (gN 11) (chk 10 (sApp 10 (fLc (fIter (fVar 11)) (gT 2 (gsCons (gN 12) (gsCons (gN 13) (gsNil)))) (fC (.bl true)) (fTup (fCons (fVar 12) (fCons (fOp dMul (fC (.str "a")) (fVar 13)) (fNil)))) [12, 13])))) b__law_rows_5
def b__law_rows_3 : FS := sSeq (sOwn 10 (fLst (fNil))) b__law_rows_4
def b__law_rows_2 : FS := sSeq (sFor (fRng1 (fCons (fVar 3) (fNil))) (gN 6) (sSeq (sAsg (fVar 4) (gN 7)) (sSeq (sIf (fOp (dEqv false) (fOp dAdd (fVar 6) (fC (.int 1))) (fVar 3)) (sAsg (fLc (fIter (fVar 4)) (gN 9) (fOp (dEqv false) (fOp dIx (fOp dIx (fVar 9) (fC (.int 0))) (fC (.int 0))) (fC (.str "#"))) (fVar 9) [9]) (gN 7)) (sNext)) (sSeq (sAsg (fLst (fNil)) (gN 8)) (sSeq (sFor (fIter (fVar 7)) (gN 9) (sAsg (fOp dAdd (fVar 8) (fLc (fIter (fVar 5)) (gN 11) (fC (.bl true)) (fOp dAdd (fLst (fCons (fVar 9) (fNil))) (fVar 11)) [11])) (gN 8))) (sAsg (fVar 8) (gN 5))))))) b__law_rows_3
def b__law_rows_1 : FS := sSeq (sAsg (fLst (fCons (fLst (fNil)) (fNil))) (gN 5)) b__law_rows_2
def b__law_rows : FS := sSeq (sAsg (fCall F__law_letters [] (fCons (fVar 0) (fCons (fVar 1) (fCons (fVar 2) (fNil))))) (gN 4)) b__law_rows_1
def F__law_rows : FF := noxF (runF 14 4 b__law_rows)
def b_Stock_first_letters : FS := sRet (fLc (fIter (fMeth [(6, F_Stock_letters)] "letters" (fVar 0) (fNil))) (gT 2 (gsCons (gN 1) (gsCons (gN 2) (gsNil)))) (fOp (dEqv false) (fOp dIx (fVar 1) (fC (.int 0))) (fC (.str "#"))) (fTup (fCons (fVar 1) (fCons (fVar 2) (fNil)))) [1, 2])
def F_Stock_first_letters : FF := noxF (runF 3 1 b_Stock_first_letters)
def b_need_many : FS := sIf (fNot (fCall F_is_integer [] (fCons (fVar 0) (fCons (fC (.int 0)) (fCons (fC (.int 300)) (fNil)))))) (sRaise 4 "value" (fCons (fVar 0) (fNil))) (sNext)
def F_need_many : FF := runF 1 1 b_need_many
def b__law_marks : FS := sSeq (sAsg (fLc (fRng1 (fCons (fCall F__law_take [] (fCons (fVar 0) (fCons (fVar 1) (fNil)))) (fNil))) (gN 4) (fC (.bl true)) (fCall F__law_mark [] (fCons (fVar 0) (fNil))) [4]) (gN 2)) (sSeq (sAsg (fCall F__law_take [] (fCons (fVar 0) (fCons (fOp dAdd (fCB dLen (fCons (fVar 2) (fNil))) (fC (.int 1))) (fNil)))) (gN 3)) (sRet (fOp dAdd (fOp dAdd (fSl (fVar 2) (fNoPart) (fPart (fVar 3))) (fLst (fCons (fOp dAdd (fC (.str "#")) (fOp dIx (fC (.str "0123")) (fCall F__law_take [] (fCons (fVar 0) (fCons (fC (.int 4)) (fNil)))))) (fNil)))) (fSl (fVar 2) (fPart (fVar 3)) (fNoPart)))))
def F__law_marks : FF := noxF (runF 5 2 b__law_marks)
def b_Stock___init___6 : FS := sSetF cf_ 0 "own_letters" (fLc2 (fIter (fFld cf_ "own_marks" (fVar 0))) (gN 4) (fC (.bl true)) (fRng2 (fCons (fVar 2) (fCons (fOp dAdd (fVar 3) (fC (.int 1))) (fNil)))) (gN 5) (fC (.bl true)) (fTup (fCons (fVar 4) (fCons (fVar 5) (fNil)))) [4, 5] [5])
def b_Stock___init___5 : FS := sSeq (sSetF cf_ 0 "most" (fVar 3)) b_Stock___init___6
def b_Stock___init___4 : FS := sSeq (sSetF cf_ 0 "least" (fVar 2)) b_Stock___init___5
def b_Stock___init___3 : FS := sSeq (sSetF cf_ 0 "own_marks" (fLc (fIter (fCall F_all_marks [] (fNil))) (gN 4) (fOp (dIn false) (fVar 4) (fVar 1)) (fVar 4) [4])) b_Stock___init___4
def b_Stock___init___2 : FS := sSeq (sIf (fNot (fCall F_is_integer [] (fCons (fVar 3) (fCons (fVar 2) (fCons (fC (.int 30)) (fNil)))))) (sRaise 4 "value" (fCons (fVar 3) (fNil))) (sNext)) b_Stock___init___3
def b_Stock___init___1 : FS := sSeq (sIf (fNot (fCall F_is_integer [] (fCons (fVar 2) (fCons (fC (.int 1)) (fCons (fC (.int 30)) (fNil)))))) (sRaise 4 "value" (fCons (fVar 2) (fNil))) (sNext)) b_Stock___init___2
def b_Stock___init__ : FS := sSeq (sIf (fNot (fCall F_are_stock_marks [] (fCons (fVar 1) (fNil)))) (sRaise 2 "value" (fCons (fVar 1) (fNil))) (sNext)) b_Stock___init___1
def F_Stock___init__ : FIn := runI 6 4 b_Stock___init__
def b_Stock_amount : FS := sSeq (sExpr (fCall F_need_many [] (fCons (fVar 1) (fNil)))) (sSeq (sAsg (fIf (fOp (dEqv false) (fVar 1) (fC (.int 0))) (fC (.int 1)) (fCB dLen (fCons (fMeth [(6, F_Stock_first_letters)] "first_letters" (fVar 0) (fNil)) (fNil)))) (gN 2)) (sSeq (sFor (fRng1 (fCons (fOp dSub (fVar 1) (fC (.int 1))) (fNil))) (gN 3) (sAugD 2 dMulI (fCB dLen (fCons (fFld cf_ "own_letters" (fVar 0)) (fNil))))) (sRetV 2)))
def F_Stock_amount : FF := runF 4 2 b_Stock_amount
def b_Stock_text_at_5 : FS := sRet (fCall F_text_of_letters [] (fCons (fRev (fVar 4)) (fNil)))
def b_Stock_text_at_4 : FS := sSeq (sIf (fOp dGt (fVar 1) (fC (.int 0))) (chk 4 (sApp 4 (fOp dIx (fMeth [(6, F_Stock_first_letters)] "first_letters" (fVar 0) (fNil)) (fVar 2)))) (sNext)) b_Stock_text_at_5
def b_Stock_text_at_3 : FS := sSeq (sFor (fRng1 (fCons (fOp dSub (fVar 1) (fC (.int 1))) (fNil))) (gN 5) (sSeq (chk 4 (sApp 4 (fOp dIx (fVar 3) (fOp dMod (fVar 2) (fCB dLen (fCons (fVar 3) (fNil))))))) (sAugD 2 dFdiv (fCB dLen (fCons (fVar 3) (fNil)))))) b_Stock_text_at_4
def b_Stock_text_at_2 : FS := sSeq (sOwn 4 (fLst (fNil))) b_Stock_text_at_3
def b_Stock_text_at_1 : FS := sSeq (sAsg (fMeth [(6, F_Stock_letters)] "letters" (fVar 0) (fNil)) (gN 3)) b_Stock_text_at_2
def b_Stock_text_at : FS := sSeq (sIf (fNot (fCall F_is_integer [] (fCons (fVar 2) (fCons (fC (.int 0)) (fCons (fOp dSub (fMeth [(6, F_Stock_amount)] "amount" (fVar 0) (fCons (fVar 1) (fNil))) (fC (.int 1))) (fNil)))))) (sRaise 4 "value" (fCons (fVar 2) (fNil))) (sNext)) b_Stock_text_at_1
def F_Stock_text_at : FF := runF 6 3 b_Stock_text_at
def b_Stock_texts : GbF := gbFor (fRng1X (fCons (fMeth [(6, F_Stock_amount)] "amount" (fVar 0) (fCons (fVar 1) (fNil))) (fNil))) (gN 2) (gSeq (gYd (fMeth [(6, F_Stock_text_at)] "text_at" (fVar 0) (fCons (fVar 1) (fCons (fVar 2) (fNil))))) (gNil))
def F_Stock_texts : FGf := runG 3 2 b_Stock_texts
def b__law_begun : FS := sSeq (sOwn 3 (fLst (fNil))) (sSeq (sLpM [4] 6 "texts" F_Stock_texts (fVar 0) (fCons (fVar 1) (fNil)) (lpT (gN 4) (sSeq (chk 3 (sApp 3 (fVar 4))) (sIf (fOp (dEqv false) (fCB dLen (fCons (fVar 3) (fNil))) (fVar 2)) (sBreak) (sNext))))) (sRetV 3))
def F__law_begun : FF := noxF (runF 5 3 b__law_begun)
def b__law_nested_right_4 : FS := sRet (fOp (dEqv false) (fVar 3) (fLc (fRng1 (fCons (fOp dMul (fCB dLen (fCons (fVar 9) (fNil))) (fCB dLen (fCons (fVar 10) (fNil)))) (fNil))) (gN 11) (fC (.bl true)) (fLst (fCons (fOp dIx (fVar 9) (fOp dFdiv (fVar 11) (fCB dLen (fCons (fVar 10) (fNil))))) (fCons (fOp dIx (fVar 10) (fOp dMod (fVar 11) (fCB dLen (fCons (fVar 10) (fNil))))) (fNil)))) [11]))
def b__law_nested_right_3 : FS := sSeq (sAsg (fTup (fCons (fCall F__law_rows [] (fCons (fVar 6) (fCons (fVar 7) (fCons (fVar 8) (fCons (fC (.int 1)) (fNil)))))) (fCons (fCall F__law_rows [] (fCons (fVar 6) (fCons (fVar 7) (fCons (fVar 8) (fCons (fVar 1) (fNil)))))) (fNil)))) (gT 2 (gsCons (gN 9) (gsCons (gN 10) (gsNil))))) b__law_nested_right_4
def b__law_nested_right_2 : FS := sSeq (sAsg (fVar 2) (gT 3 (gsCons (gN 6) (gsCons (gN 7) (gsCons (gN 8) (gsNil)))))) b__law_nested_right_3
def b__law_nested_right_1 : FS := sSeq (sLpM [4] 6 "texts" F_Stock_texts (fVar 0) (fCons (fC (.int 1)) (fNil)) (lpT (gN 4) (sLpM [4] 6 "texts" F_Stock_texts (fVar 0) (fCons (fVar 1) (fNil)) (lpT (gN 5) (chk 3 (sApp 3 (fLst (fCons (fVar 4) (fCons (fVar 5) (fNil)))))))))) b__law_nested_right_2
def b__law_nested_right : FS := sSeq (sOwn 3 (fLst (fNil))) b__law_nested_right_1
def F__law_nested_right : FF := noxF (runF 12 3 b__law_nested_right)
def b__law_right_21 : FS := sRet (fOp (dEqv false) (fOp dIx (fVar 12) (fC (.int 1))) (fOp dAdd (fSl (fVar 11) (fNoPart) (fPart (fUn dNeg (fC (.int 1))))) (fLst (fCons (fTup (fCons (fVar 13) (fCons (fOp dMul (fC (.str "a")) (fVar 14)) (fNil)))) (fNil)))))
def b__law_right_20 : FS := sSeq (sAsg (fOp dIx (fCall F__law_letters [] (fCons (fVar 1) (fCons (fVar 2) (fCons (fVar 3) (fNil))))) (fC (.int 1))) (gT 2 (gsCons (gN 13) (gsCons (gN 14) (gsNil))))) b__law_right_21
def b__law_right_19 : FS := sSeq (sIf (fOp (dEqv false) (fVar 6) (fC (.int 1))) (sRet (fOp (dEqv false) (fCB dLen (fCons (fVar 12) (fNil))) (fC (.int 1)))) (sNext)) b__law_right_20
def b__law_right_18 : FS := sSeq (sIf (fOp (dEqv true) (fOp dIx (fVar 12) (fC (.int 0))) (fVar 11)) (sRet (fC (.bl false))) (sNext)) b__law_right_19
def b__law_right_17 : FS := sSeq (sAsg (fCall F__law_begun [] (fCons (fVar 4) (fCons (fVar 5) (fCons (fC (.int 2)) (fNil))))) (gN 12)) b__law_right_18
def b__law_right_16 : FS := sSeq (sAsg (fOp dAdd (fVar 10) (fOp dMul (fLst (fCons (fTup (fCons (fOp dIx (fVar 1) (fC (.int 0))) (fCons (fOp dMul (fC (.str "a")) (fVar 2)) (fNil)))) (fNil))) (fOp dSub (fVar 5) (fC (.int 1))))) (gN 11)) b__law_right_17
def b__law_right_15 : FS := sSeq (sAsg (fSl (fLc (fIter (fVar 1)) (gN 13) (fOp (dEqv false) (fOp dIx (fVar 13) (fC (.int 0))) (fC (.str "#"))) (fTup (fCons (fOp dAdd (fC (.str "#")) (fOp dIx (fVar 13) (fC (.int 1)))) (fCons (fOp dMul (fC (.str "a")) (fVar 2)) (fNil)))) [13]) (fNoPart) (fPart (fC (.int 1)))) (gN 10)) b__law_right_16
def b__law_right_14 : FS := sSeq (sAsg (fOp dAdd (fC (.int 40)) (fCall F__law_take [] (fCons (fVar 0) (fCons (fC (.int 260)) (fNil))))) (gN 5)) b__law_right_15
def b__law_right_13 : FS := sSeq (sIf (fOp dGt (fCall F__law_take [] (fCons (fVar 0) (fCons (fC (.int 4)) (fNil)))) (fC (.int 0))) (sRet (fC (.bl true))) (sNext)) b__law_right_14
def b__law_right_12 : FS := sSeq (sIf (fOp (dEqv true) (fCall F__law_begun [] (fCons (fVar 4) (fCons (fVar 5) (fCons (fC (.int 7)) (fNil))))) (fSl (fVar 7) (fNoPart) (fPart (fC (.int 7))))) (sRet (fC (.bl false))) (sNext)) b__law_right_13
def b__law_right_11 : FS := sSeq (sIf (fNot (fCall F__law_nested_right [] (fCons (fVar 4) (fCons (fCB dMin (fCons (fVar 5) (fCons (fC (.int 2)) (fNil)))) (fCons (fLst (fCons (fVar 1) (fCons (fVar 2) (fCons (fVar 3) (fNil))))) (fNil)))))) (sRet (fC (.bl false))) (sNext)) b__law_right_12
def b__law_right_10 : FS := sSeq (sIf (fOr (fOp (dEqv true) (fVar 8) (fVar 7)) (fOp (dEqv true) (fCB dLen (fCons (fVar 8) (fNil))) (fMeth [(6, F_Stock_amount)] "amount" (fVar 4) (fCons (fVar 5) (fNil))))) (sRet (fC (.bl false))) (sNext)) b__law_right_11
def b__law_right_9 : FS := sSeq (sLpM [4] 6 "texts" F_Stock_texts (fVar 4) (fCons (fVar 5) (fNil)) (lpO 9 (sSeq (sIf (fNot (fIsi .lst (fVar 9))) (sRet (fC (.bl false))) (sNext)) (sSeq (chk 8 (sApp 8 (fCB dList (fCons (fVar 9) (fNil))))) (chk 9 (sClr 9)))))) b__law_right_10
def b__law_right_8 : FS := sSeq (sOwn 8 (fLst (fNil))) b__law_right_9
def b__law_right_7 : FS := sSeq (sAsg (fCall F__law_rows [] (fCons (fVar 1) (fCons (fVar 2) (fCons (fVar 3) (fCons (fVar 5) (fNil)))))) (gN 7)) b__law_right_8
def b__law_right_6 : FS := sSeq (sWhile (fOp dGt (fCall F__law_power [] (fCons (fVar 6) (fCons (fVar 5) (fNil)))) (fC (.int 400))) (sAsg (fOp dSub (fVar 5) (fC (.int 1))) (gN 5))) b__law_right_7
def b__law_right_5 : FS := sSeq (sAsg (fOp dMul (fCB dLen (fCons (fVar 1) (fNil))) (fOp dSub (fOp dAdd (fVar 3) (fC (.int 1))) (fVar 2))) (gN 6)) b__law_right_6
def b__law_right_4 : FS := sSeq (sAsg (fCall F__law_take [] (fCons (fVar 0) (fCons (fC (.int 6)) (fNil)))) (gN 5)) b__law_right_5
def b__law_right_3 : FS := sSeq (sAsg (fMkK 1 2 6 F_Stock___init__ (fun ds es => g_Stock___init___shortest_longest ds [] es) (fCons (fVar 1) (fNil)) (fCons (fVar 2) (fCons (fVar 3) (fNil)))) (gN 4)) b__law_right_4
def b__law_right_2 : FS := sSeq (sAsg (fOp dAdd (fVar 2) (fCall F__law_take [] (fCons (fVar 0) (fCons (fC (.int 3)) (fNil))))) (gN 3)) b__law_right_3
def b__law_right_1 : FS := sSeq (sAsg (fOp dAdd (fC (.int 1)) (fCall F__law_take [] (fCons (fVar 0) (fCons (fC (.int 5)) (fNil))))) (gN 2)) b__law_right_2
def b__law_right : FS := sSeq (sAsg (fCall F__law_sorted [] (fCons (fCall F__law_marks [] (fCons (fVar 0) (fCons (fC (.int 5)) (fNil)))) (fNil))) (gN 1)) b__law_right_1
def F__law_right : FF := noxF (runF 15 1 b__law_right)
def b_law : FS := sSeq (sFor (fRng1 (fCons (fCB dMax (fCons (fC (.int 2)) (fCons (fCB dMin (fCons (fC (.int 6)) (fCons (fCB dLen (fCons (fVar 0) (fNil))) (fNil)))) (fNil)))) (fNil))) (gN 1) (sIf (fNot (fCall F__law_right [] (fCons (fAdo (fCall F__law_purse [] (fCons (fCall F__law_cell [] (fCons (fVar 0) (fCons (fVar 1) (fNil)))) (fNil)))) (fNil)))) (sRet (fC (.bl false))) (sNext))) (sRet (fC (.bl true)))
def F_law : FF := noxF (runF 2 1 b_law)
end
def topS (i : Nat) : Stmt := PySem.Challenge.pw_reflows_k44_texts_one_by_one.main.body.getD i (.Pass ⟨0, 0, 0, 0⟩)
abbrev s_is_integer : Stmt := topS 12
abbrev N_is_integer : List Str := ["value", "low", "high"]
abbrev P_is_integer : List Str := ["value", "low", "high"]
theorem sc_is_integer : FnScope N_is_integer P_is_integer (defScope s_is_integer) := ⟨rfl, rfl, rfl, by decide +kernel, rfl, by decide +kernel, by decide +kernel⟩
abbrev s_is_mark : Stmt := topS 13
abbrev N_is_mark : List Str := ["value"]
abbrev P_is_mark : List Str := ["value"]
theorem sc_is_mark : FnScope N_is_mark P_is_mark (defScope s_is_mark) := ⟨rfl, rfl, rfl, by decide +kernel, rfl, by decide +kernel, by decide +kernel⟩
abbrev s_all_marks : Stmt := topS 14
abbrev N_all_marks : List Str := ["kind", "indent"]
abbrev P_all_marks : List Str := []
theorem sc_all_marks : FnScope N_all_marks P_all_marks (defScope s_all_marks) := ⟨rfl, rfl, rfl, by decide +kernel, rfl, by decide +kernel, by decide +kernel⟩
abbrev s_are_stock_marks : Stmt := topS 18
abbrev N_are_stock_marks : List Str := ["value", "mark"]
abbrev P_are_stock_marks : List Str := ["value"]
theorem sc_are_stock_marks : FnScope N_are_stock_marks P_are_stock_marks (defScope s_are_stock_marks) := ⟨rfl, rfl, rfl, by decide +kernel, rfl, by decide +kernel, by decide +kernel⟩
abbrev s_need_many : Stmt := topS 19
abbrev N_need_many : List Str := ["many"]
abbrev P_need_many : List Str := ["many"]
theorem sc_need_many : FnScope N_need_many P_need_many (defScope s_need_many) := ⟨rfl, rfl, rfl, by decide +kernel, rfl, by decide +kernel, by decide +kernel⟩
abbrev s_text_of_letters : Stmt := topS 20
abbrev N_text_of_letters : List Str := ["letters", "mark", "length"]
abbrev P_text_of_letters : List Str := ["letters"]
theorem sc_text_of_letters : FnScope N_text_of_letters P_text_of_letters (defScope s_text_of_letters) := ⟨rfl, rfl, rfl, by decide +kernel, rfl, by decide +kernel, by decide +kernel⟩
abbrev s__law_cell : Stmt := topS 23
abbrev N__law_cell : List Str := ["_law_script", "_law_k"]
abbrev P__law_cell : List Str := ["_law_script", "_law_k"]
theorem sc__law_cell : FnScope N__law_cell P__law_cell (defScope s__law_cell) := ⟨rfl, rfl, rfl, by decide +kernel, rfl, by decide +kernel, by decide +kernel⟩
abbrev s__law_purse : Stmt := topS 24
abbrev N__law_purse : List Str := ["_law_cell_here"]
abbrev P__law_purse : List Str := ["_law_cell_here"]
theorem sc__law_purse : FnScope N__law_purse P__law_purse (defScope s__law_purse) := ⟨rfl, rfl, rfl, by decide +kernel, rfl, by decide +kernel, by decide +kernel⟩
abbrev s__law_take : Stmt := topS 25
abbrev N__law_take : List Str := ["_law_purse_here", "_law_many", "_law_digit", "_law_number"]
abbrev P__law_take : List Str := ["_law_purse_here", "_law_many"]
theorem sc__law_take : FnScope N__law_take P__law_take (defScope s__law_take) := ⟨rfl, rfl, rfl, by decide +kernel, rfl, by decide +kernel, by decide +kernel⟩
abbrev s__law_all_marks : Stmt := topS 26
abbrev N__law_all_marks : List Str := []
abbrev P__law_all_marks : List Str := []
theorem sc__law_all_marks : FnScope N__law_all_marks P__law_all_marks (defScope s__law_all_marks) := ⟨rfl, rfl, rfl, by decide +kernel, rfl, by decide +kernel, by decide +kernel⟩
abbrev s__law_mark : Stmt := topS 27
abbrev N__law_mark : List Str := ["_law_purse_here"]
abbrev P__law_mark : List Str := ["_law_purse_here"]
theorem sc__law_mark : FnScope N__law_mark P__law_mark (defScope s__law_mark) := ⟨rfl, rfl, rfl, by decide +kernel, rfl, by decide +kernel, by decide +kernel⟩
abbrev s__law_marks : Stmt := topS 30
abbrev N__law_marks : List Str := ["_law_purse_here", "_law_most", "_law_marks_here", "_law_at", "_law_k"]
abbrev P__law_marks : List Str := ["_law_purse_here", "_law_most"]
theorem sc__law_marks : FnScope N__law_marks P__law_marks (defScope s__law_marks) := ⟨rfl, rfl, rfl, by decide +kernel, rfl, by decide +kernel, by decide +kernel⟩
abbrev s__law_sorted : Stmt := topS 31
abbrev N__law_sorted : List Str := ["_law_marks_here", "_law_one"]
abbrev P__law_sorted : List Str := ["_law_marks_here"]
theorem sc__law_sorted : FnScope N__law_sorted P__law_sorted (defScope s__law_sorted) := ⟨rfl, rfl, rfl, by decide +kernel, rfl, by decide +kernel, by decide +kernel⟩
abbrev s__law_letters : Stmt := topS 32
abbrev N__law_letters : List Str := ["_law_marks_here", "_law_low", "_law_high", "_law_found", "_law_mark_here", "_law_length"]
abbrev P__law_letters : List Str := ["_law_marks_here", "_law_low", "_law_high"]
theorem sc__law_letters : FnScope N__law_letters P__law_letters (defScope s__law_letters) := ⟨rfl, rfl, rfl, by decide +kernel, rfl, by decide +kernel, by decide +kernel⟩
abbrev s__law_power : Stmt := topS 33
abbrev N__law_power : List Str := ["_law_base", "_law_many", "_law_found", "_law_k"]
abbrev P__law_power : List Str := ["_law_base", "_law_many"]
theorem sc__law_power : FnScope N__law_power P__law_power (defScope s__law_power) := ⟨rfl, rfl, rfl, by decide +kernel, rfl, by decide +kernel, by decide +kernel⟩
abbrev s__law_rows : Stmt := topS 34
abbrev N__law_rows : List Str := ["_law_marks_here", "_law_low", "_law_high", "_law_many", "_law_letters_here", "_law_rows_here", "_law_k", "_law_here", "_law_longer", "_law_letter", "_law_texts", "_law_row", "_law_mark_here", "_law_length"]
abbrev P__law_rows : List Str := ["_law_marks_here", "_law_low", "_law_high", "_law_many"]
theorem sc__law_rows : FnScope N__law_rows P__law_rows (defScope s__law_rows) := ⟨rfl, rfl, rfl, by decide +kernel, rfl, by decide +kernel, by decide +kernel⟩
abbrev s__law_begun : Stmt := topS 35
abbrev N__law_begun : List Str := ["_law_stock", "_law_many", "_law_most", "_law_found", "_law_text_here"]
abbrev P__law_begun : List Str := ["_law_stock", "_law_many", "_law_most"]
theorem sc__law_begun : FnScope N__law_begun P__law_begun (defScope s__law_begun) := ⟨rfl, rfl, rfl, by decide +kernel, rfl, by decide +kernel, by decide +kernel⟩
abbrev s__law_nested_right : Stmt := topS 36
abbrev N__law_nested_right : List Str := ["_law_stock", "_law_many", "_law_made", "_law_pairs", "_law_first", "_law_second", "_law_marks_here", "_law_low", "_law_high", "_law_ones", "_law_twos", "_law_k"]
abbrev P__law_nested_right : List Str := ["_law_stock", "_law_many", "_law_made"]
theorem sc__law_nested_right : FnScope N__law_nested_right P__law_nested_right (defScope s__law_nested_right) := ⟨rfl, rfl, rfl, by decide +kernel, rfl, by decide +kernel, by decide +kernel⟩
abbrev s__law_right : Stmt := topS 37
abbrev N__law_right : List Str := ["_law_purse_here", "_law_marks_here", "_law_low", "_law_high", "_law_stock", "_law_many", "_law_base", "_law_due", "_law_told", "_law_text_here", "_law_first", "_law_least", "_law_some", "_law_mark_here", "_law_length"]
abbrev P__law_right : List Str := ["_law_purse_here"]
theorem sc__law_right : FnScope N__law_right P__law_right (defScope s__law_right) := ⟨rfl, rfl, rfl, by decide +kernel, rfl, by decide +kernel, by decide +kernel⟩
abbrev s_law : Stmt := topS 38
abbrev N_law : List Str := ["_law_script", "_law_k"]
abbrev P_law : List Str := ["_law_script"]
theorem sc_law : FnScope N_law P_law (defScope s_law) := ⟨rfl, rfl, rfl, by decide +kernel, rfl, by decide +kernel, by decide +kernel⟩
abbrev s_Stock___init__ : Stmt := inClass (topS 21) 0
abbrev N_Stock___init__ : List Str := ["self", "marks", "shortest", "longest", "mark", "length"]
abbrev P_Stock___init__ : List Str := ["self", "marks", "shortest", "longest"]
theorem sc_Stock___init__ : FnScope N_Stock___init__ P_Stock___init__ (defScope s_Stock___init__) := ⟨rfl, rfl, rfl, by decide +kernel, rfl, by decide +kernel, by decide +kernel⟩
abbrev s_Stock_letters : Stmt := inClass (topS 21) 11
abbrev N_Stock_letters : List Str := ["self"]
abbrev P_Stock_letters : List Str := ["self"]
theorem sc_Stock_letters : FnScope N_Stock_letters P_Stock_letters (defScope s_Stock_letters) := ⟨rfl, rfl, rfl, by decide +kernel, rfl, by decide +kernel, by decide +kernel⟩
abbrev s_Stock_first_letters : Stmt := inClass (topS 21) 12
abbrev N_Stock_first_letters : List Str := ["self", "mark", "length"]
abbrev P_Stock_first_letters : List Str := ["self"]
theorem sc_Stock_first_letters : FnScope N_Stock_first_letters P_Stock_first_letters (defScope s_Stock_first_letters) := ⟨rfl, rfl, rfl, by decide +kernel, rfl, by decide +kernel, by decide +kernel⟩
abbrev s_Stock_amount : Stmt := inClass (topS 21) 14
abbrev N_Stock_amount : List Str := ["self", "many", "found", "turn"]
abbrev P_Stock_amount : List Str := ["self", "many"]
theorem sc_Stock_amount : FnScope N_Stock_amount P_Stock_amount (defScope s_Stock_amount) := ⟨rfl, rfl, rfl, by decide +kernel, rfl, by decide +kernel, by decide +kernel⟩
abbrev s_Stock_texts : Stmt := inClass (topS 21) 15
abbrev N_Stock_texts : List Str := ["self", "many", "number"]
abbrev P_Stock_texts : List Str := ["self", "many"]
abbrev lvK_Stock_texts : Nat := 6
theorem sc_Stock_texts : GScope N_Stock_texts P_Stock_texts (defScope s_Stock_texts) := ⟨rfl, rfl, rfl, by decide +kernel, rfl, by decide +kernel, by decide +kernel⟩
abbrev s_Stock_text_at : Stmt := inClass (topS 21) 16
abbrev N_Stock_text_at : List Str := ["self", "many", "number", "letters", "found", "turn"]
abbrev P_Stock_text_at : List Str := ["self", "many", "number"]
theorem sc_Stock_text_at : FnScope N_Stock_text_at P_Stock_text_at (defScope s_Stock_text_at) := ⟨rfl, rfl, rfl, by decide +kernel, rfl, by decide +kernel, by decide +kernel⟩
abbrev sI_InvalidMarks : Stmt := inClass (topS 4) 0
theorem scI_InvalidMarks : FnScope ["self", "value"] ["self", "value"] (defScope sI_InvalidMarks) := ⟨rfl, rfl, rfl, by decide +kernel, rfl, by decide +kernel, by decide +kernel⟩
abbrev sI_InvalidInteger : Stmt := inClass (topS 6) 0
theorem scI_InvalidInteger : FnScope ["self", "value"] ["self", "value"] (defScope sI_InvalidInteger) := ⟨rfl, rfl, rfl, by decide +kernel, rfl, by decide +kernel, by decide +kernel⟩
def sp_is_integer (K : PySem.W.Frag) (ca : Nat → Addr) : Sp := SpF K ca F_is_integer
def sp_is_mark (K : PySem.W.Frag) (ca : Nat → Addr) : Sp := SpF K ca F_is_mark
def sp_all_marks (K : PySem.W.Frag) (ca : Nat → Addr) : Sp := SpF K ca F_all_marks
def sp_are_stock_marks (K : PySem.W.Frag) (ca : Nat → Addr) : Sp := SpF K ca F_are_stock_marks
def sp_need_many (K : PySem.W.Frag) (ca : Nat → Addr) : Sp := SpF K ca F_need_many
def sp_text_of_letters (K : PySem.W.Frag) (ca : Nat → Addr) : Sp := SpF K ca F_text_of_letters
def sp__law_cell (K : PySem.W.Frag) (ca : Nat → Addr) : Sp := SpF K ca F__law_cell
def sp__law_purse (K : PySem.W.Frag) (ca : Nat → Addr) : Sp := SpF K ca F__law_purse
def sp__law_take (K : PySem.W.Frag) (ca : Nat → Addr) : Sp := SpF K ca F__law_take
def sp__law_all_marks (K : PySem.W.Frag) (ca : Nat → Addr) : Sp := SpF K ca F__law_all_marks
def sp__law_mark (K : PySem.W.Frag) (ca : Nat → Addr) : Sp := SpF K ca F__law_mark
def sp__law_marks (K : PySem.W.Frag) (ca : Nat → Addr) : Sp := SpF K ca F__law_marks
def sp__law_sorted (K : PySem.W.Frag) (ca : Nat → Addr) : Sp := SpF K ca F__law_sorted
def sp__law_letters (K : PySem.W.Frag) (ca : Nat → Addr) : Sp := SpF K ca F__law_letters
def sp__law_power (K : PySem.W.Frag) (ca : Nat → Addr) : Sp := SpF K ca F__law_power
def sp__law_rows (K : PySem.W.Frag) (ca : Nat → Addr) : Sp := SpF K ca F__law_rows
def sp__law_begun (K : PySem.W.Frag) (ca : Nat → Addr) : Sp := SpF K ca F__law_begun
def sp__law_nested_right (K : PySem.W.Frag) (ca : Nat → Addr) : Sp := SpF K ca F__law_nested_right
def sp__law_right (K : PySem.W.Frag) (ca : Nat → Addr) : Sp := SpF K ca F__law_right
def sp_law (K : PySem.W.Frag) (ca : Nat → Addr) : Sp := SpF K ca F_law
def sp_Stock___init__ (K : PySem.W.Frag) (ca : Nat → Addr) : Sp := SpI K ca F_Stock___init__
def sp_Stock_letters (K : PySem.W.Frag) (ca : Nat → Addr) : Sp := SpF K ca F_Stock_letters
def sp_Stock_first_letters (K : PySem.W.Frag) (ca : Nat → Addr) : Sp := SpF K ca F_Stock_first_letters
def sp_Stock_amount (K : PySem.W.Frag) (ca : Nat → Addr) : Sp := SpF K ca F_Stock_amount
def sp_Stock_texts (K : PySem.W.Frag) (ca : Nat → Addr) : SpGe := SpGF K ca F_Stock_texts
def sp_Stock_text_at (K : PySem.W.Frag) (ca : Nat → Addr) : Sp := SpF K ca F_Stock_text_at
def t_is_integer (K : PySem.W.Frag) (ca : Nat → Addr) : TS := tRet (uAndV (uIsi .int (uVar 0)) (uAndV (uNotV (uIsi .bl (uVar 0))) (uChain uLe uLe (uVar 1) (uVar 0) (uVar 2))))
def t_is_mark (K : PySem.W.Frag) (ca : Nat → Addr) : TS := tSeq (uIfS (uNot (uT (uIsi .str (uVar 0)))) (tRet (tC (.bl false))) (tNext)) (tRet (uOrV (tOp (uEq2 K) (uVar 0) (tC (.str " "))) (uAndV (tOp (uEq2 K) (tCB (uLen K) (tCons (uVar 0) (tNil))) (tC (.int 2))) (uAndV (tOp (uIn K false) (tOp (uIx K) (uVar 0) (tC (.int 0))) (tC (.str "#|/"))) (tOp (uIn K false) (tOp (uIx K) (uVar 0) (tC (.int 1))) (tC (.str "0123")))))))
def t_all_marks (K : PySem.W.Frag) (ca : Nat → Addr) : TS := tRet (tOp (uAdd K) (tLst (tCons (tC (.str " ")) (tNil))) (tLc2 (uIter K (tC (.str "#|/"))) (gName 0) (tYes) (iRng1 (tCons (tOp (uAdd K) (tC (.int 3)) (tC (.int 1))) (tNil))) (gName 1) (tYes) (tOp (uAdd K) (uVar 0) (tCB uStrX (tCons (uVar 1) (tNil)))) [0, 1] [1]))
def t_are_stock_marks (K : PySem.W.Frag) (ca : Nat → Addr) : TS := tSeq (uIfS (uOr (uNot (uT (tCB (uIsiT [.lst, .tup]) (tCons (uVar 0) (tCons (tTup (tCons (tC (.ty "list")) (tCons (tC (.ty "tuple")) (tNil)))) tNil))))) (uNot (uT (tCB (uAll K) (tCons (tLc (uIter K (uVar 0)) (gName 1) (tYes) (tCall (sp_is_mark K ca) [] E0 (tCons (uVar 1) (tNil))) [1]) (tNil)))))) (tRet (tC (.bl false))) (tNext)) (tRet (tCB (uAny K) (tCons (tLc (uIter K (uVar 0)) (gName 1) (tYes) (tOp (uEq2 K) (tOp (uIx K) (uVar 1) (tC (.int 0))) (tC (.str "#"))) [1]) (tNil))))
def t_need_many (K : PySem.W.Frag) (ca : Nat → Addr) (E : XK) : TS := uIfS (uNot (uT (tCall (sp_is_integer K ca) [] E0 (tCons (uVar 0) (tCons (tC (.int 0)) (tCons (tC (.int 300)) (tNil))))))) (uRaise (ca 4) "value" E (tCons (uVar 0) (tNil))) (tNext)
def t_text_of_letters (K : PySem.W.Frag) (ca : Nat → Addr) : TS := tRet (tLc (uIter K (uVar 0)) (gTs K 2 (gCons (gName 1) (gCons (gName 2) (gNil)))) (tYes) (tTup (tCons (uVar 1) (tCons (tOp uMul3 (tC (.str "a")) (uVar 2)) (tNil)))) [1, 2])
def t__law_cell (K : PySem.W.Frag) (ca : Nat → Addr) : TS := tSeq (uIfS (uT (tOp uLt (uVar 1) (tCB (uLen K) (tCons (uVar 0) (tNil))))) (tRet (tOp (uIx K) (uVar 0) (uVar 1))) (tNext)) (tRet (tOp (uAdd K) (tOp uMul3 (tC (.int 7919)) (uVar 1)) (tC (.int 31))))
def t__law_purse (K : PySem.W.Frag) (ca : Nat → Addr) : TS := tRet (tLst (tCons (tCB uMax2 (tCons (tC (.int 0)) (tCons (tOp uSub (uVar 0) (tOp uPow (tC (.int 10)) (tC (.int 18)))) (tNil)))) (tCons (tOp uMod (uVar 0) (tC (.int 2147483629))) (tCons (tC (.int 0)) (tNil)))))
def t__law_take (K : PySem.W.Frag) (ca : Nat → Addr) : TS := tSeq (uIfS (uT (tOp uGt (tOp (uIx K) (uVar 0) (tC (.int 0))) (tC (.int 0)))) (tSeq (tAsg (tOp uMod (tOp (uIx K) (uVar 0) (tC (.int 0))) (uVar 1)) (gName 2)) (tSeq (tAsg (tOp uFdiv (tOp (uIx K) (uVar 0) (tC (.int 0))) (uVar 1)) (gSub (uVar 0) (tC (.int 0)) uSetL)) (tRet (uVar 2)))) (tNext)) (tSeq (tAsg (tOp (uAdd K) (tOp (uIx K) (uVar 0) (tC (.int 2))) (tC (.int 1))) (gSub (uVar 0) (tC (.int 2)) uSetL)) (tSeq (tAsg (tOp uMod (tOp uPow (tOp (uAdd K) (tOp (uAdd K) (tOp (uIx K) (uVar 0) (tC (.int 1))) (tOp uMul3 (tC (.int 7919)) (tOp (uIx K) (uVar 0) (tC (.int 2))))) (tC (.int 144))) (tC (.int 5))) (tC (.int 2147483647))) (gName 3)) (tSeq (tAsg (tOp uMod (tOp uPow (tOp (uAdd K) (uVar 3) (tOp uMul3 (tC (.int 104729)) (tOp (uIx K) (uVar 0) (tC (.int 2))))) (tC (.int 3))) (tC (.int 2147483587))) (gName 3)) (tRet (tOp uMod (tOp uFdiv (uVar 3) (tC (.int 16))) (uVar 1))))))
def t__law_all_marks (K : PySem.W.Frag) (ca : Nat → Addr) : TS := tRet (tLst (tCons (tC (.str " ")) (tCons (tC (.str "#0")) (tCons (tC (.str "#1")) (tCons (tC (.str "#2")) (tCons (tC (.str "#3")) (tCons (tC (.str "|0")) (tCons (tC (.str "|1")) (tCons (tC (.str "|2")) (tCons (tC (.str "|3")) (tCons (tC (.str "/0")) (tCons (tC (.str "/1")) (tCons (tC (.str "/2")) (tCons (tC (.str "/3")) (tNil)))))))))))))))
def t__law_mark (K : PySem.W.Frag) (ca : Nat → Addr) : TS := tSeq (uIfS (uT (tOp (uEq2 K) (tCall (sp__law_take K ca) [] E0 (tCons (uVar 0) (tCons (tC (.int 3)) (tNil)))) (tC (.int 0)))) (tRet (tC (.str " "))) (tNext)) (tRet (tOp (uAdd K) (tOp (uIx K) (tC (.str "#|/")) (tCall (sp__law_take K ca) [] E0 (tCons (uVar 0) (tCons (tC (.int 3)) (tNil))))) (tOp (uIx K) (tC (.str "0123")) (tCall (sp__law_take K ca) [] E0 (tCons (uVar 0) (tCons (tC (.int 4)) (tNil)))))))
def t__law_marks (K : PySem.W.Frag) (ca : Nat → Addr) : TS := tSeq (tAsg (tLc (iRng1 (tCons (tCall (sp__law_take K ca) [] E0 (tCons (uVar 0) (tCons (uVar 1) (tNil)))) (tNil))) (gName 4) (tYes) (tCall (sp__law_mark K ca) [] E0 (tCons (uVar 0) (tNil))) [4]) (gName 2)) (tSeq (tAsg (tCall (sp__law_take K ca) [] E0 (tCons (uVar 0) (tCons (tOp (uAdd K) (tCB (uLen K) (tCons (uVar 2) (tNil))) (tC (.int 1))) (tNil)))) (gName 3)) (tRet (tOp (uAdd K) (tOp (uAdd K) (L2.tSl (uSl K) (uVar 2) (tNoPart) (uPart (uVar 3))) (tLst (tCons (tOp (uAdd K) (tC (.str "#")) (tOp (uIx K) (tC (.str "0123")) (tCall (sp__law_take K ca) [] E0 (tCons (uVar 0) (tCons (tC (.int 4)) (tNil)))))) (tNil)))) (L2.tSl (uSl K) (uVar 2) (uPart (uVar 3)) (tNoPart)))))
def t__law_sorted (K : PySem.W.Frag) (ca : Nat → Addr) : TS := tRet (tLc (uIter K (tCall (sp__law_all_marks K ca) [] E0 tNil)) (gName 1) (uT (tOp (uIn K false) (uVar 1) (uVar 0))) (uVar 1) [1])
def t__law_letters (K : PySem.W.Frag) (ca : Nat → Addr) : TS := tSeq (tAsg (tLst (tNil)) (gName 3)) (tSeq (tFor (uIter K (uVar 0)) (gName 4) (tAsg (tOp (uAdd K) (uVar 3) (tLc (iRng2 (tCons (uVar 1) (tCons (tOp (uAdd K) (uVar 2) (tC (.int 1))) (tNil)))) (gName 5) (tYes) (tTup (tCons (uVar 4) (tCons (uVar 5) (tNil)))) [5])) (gName 3))) (tRet (uVar 3)))
def t__law_power (K : PySem.W.Frag) (ca : Nat → Addr) : TS := tSeq (tAsg (tC (.int 1)) (gName 2)) (tSeq (tFor (iRng1 (tCons (uVar 1) (tNil))) (gName 3) (tAsg (tOp uMul3 (uVar 2) (uVar 0)) (gName 2))) (tRet (uVar 2)))
def t__law_rows (K : PySem.W.Frag) (ca : Nat → Addr) : TS := tSeq (tAsg (tCall (sp__law_letters K ca) [] E0 (tCons (uVar 0) (tCons (uVar 1) (tCons (uVar 2) (tNil))))) (gName 4)) (tSeq (tAsg (tLst (tCons (tLst (tNil)) (tNil))) (gName 5)) (tSeq (tFor (iRng1 (tCons (uVar 3) (tNil))) (gName 6) (tSeq (tAsg (uVar 4) (gName 7)) (tSeq (uIfS (uT (tOp (uEq2 K) (tOp (uAdd K) (uVar 6) (tC (.int 1))) (uVar 3))) (tAsg (tLc (uIter K (uVar 4)) (gName 9) (uT (tOp (uEq2 K) (tOp (uIx K) (tOp (uIx K) (uVar 9) (tC (.int 0))) (tC (.int 0))) (tC (.str "#")))) (uVar 9) [9]) (gName 7)) (tNext)) (tSeq (tAsg (tLst (tNil)) (gName 8)) (tSeq (tFor (uIter K (uVar 7)) (gName 9) (tAsg (tOp (uAdd K) (uVar 8) (tLc (uIter K (uVar 5)) (gName 11) (tYes) (tOp (uAdd K) (tLst (tCons (uVar 9) (tNil))) (uVar 11)) [11])) (gName 8))) (tAsg (uVar 8) (gName 5))))))) (tSeq (tAsg (tLst (tNil)) (gName 10)) (tSeq (tFor (uIter K (uVar 5)) (gName 11) (tDrop (tBM K "list" uAppend (uVar 10) (tCons (tLc (uIter K (uVar 11)) (gTs K 2 (gCons (gName 12) (gCons (gName 13) (gNil)))) (tYes) (tTup (tCons (uVar 12) (tCons (tOp uMul3 (tC (.str "a")) (uVar 13)) (tNil)))) [12, 13]) (tNil))))) (tRet (uVar 10))))))
def t__law_begun (K : PySem.W.Frag) (ca : Nat → Addr) : TS := tSeq (tAsg (tLst (tNil)) (gName 3)) (tSeq (tForG (tMethX "texts" (ca 6) 2 (sp_Stock_texts K ca) (WE (NSt K (fun _ _ _ _ => False))) (uVar 0) (tCons (uVar 1) (tNil))) (gName 4) (tSeq (tDrop (tBM K "list" uAppend (uVar 3) (tCons (uVar 4) (tNil)))) (uIfS (uT (tOp (uEq2 K) (tCB (uLen K) (tCons (uVar 3) (tNil))) (uVar 2))) (tBreak) (tNext)))) (tRet (uVar 3)))
def t__law_nested_right (K : PySem.W.Frag) (ca : Nat → Addr) : TS := tSeq (tAsg (tLst (tNil)) (gName 3)) (tSeq (tForG (tMethX "texts" (ca 6) 2 (sp_Stock_texts K ca) (WE (NSt K (fun _ _ _ _ => False))) (uVar 0) (tCons (tC (.int 1)) (tNil))) (gName 4) (tForG (tMethX "texts" (ca 6) 2 (sp_Stock_texts K ca) (WE (NSt K (fun _ _ _ _ => False))) (uVar 0) (tCons (uVar 1) (tNil))) (gName 5) (tDrop (tBM K "list" uAppend (uVar 3) (tCons (tLst (tCons (uVar 4) (tCons (uVar 5) (tNil)))) (tNil)))))) (tSeq (tAsg (uVar 2) (gTs K 3 (gCons (gName 6) (gCons (gName 7) (gCons (gName 8) (gNil)))))) (tSeq (tAsg (tTup (tCons (tCall (sp__law_rows K ca) [] E0 (tCons (uVar 6) (tCons (uVar 7) (tCons (uVar 8) (tCons (tC (.int 1)) (tNil)))))) (tCons (tCall (sp__law_rows K ca) [] E0 (tCons (uVar 6) (tCons (uVar 7) (tCons (uVar 8) (tCons (uVar 1) (tNil)))))) (tNil)))) (gTs K 2 (gCons (gName 9) (gCons (gName 10) (gNil))))) (tRet (tOp (uEq2 K) (uVar 3) (tLc (iRng1 (tCons (tOp uMul3 (tCB (uLen K) (tCons (uVar 9) (tNil))) (tCB (uLen K) (tCons (uVar 10) (tNil)))) (tNil))) (gName 11) (tYes) (tLst (tCons (tOp (uIx K) (uVar 9) (tOp uFdiv (uVar 11) (tCB (uLen K) (tCons (uVar 10) (tNil))))) (tCons (tOp (uIx K) (uVar 10) (tOp uMod (uVar 11) (tCB (uLen K) (tCons (uVar 10) (tNil))))) (tNil)))) [11]))))))
def t__law_right (K : PySem.W.Frag) (ca : Nat → Addr) : TS := tSeq (tAsg (tCall (sp__law_sorted K ca) [] E0 (tCons (tCall (sp__law_marks K ca) [] E0 (tCons (uVar 0) (tCons (tC (.int 5)) (tNil)))) (tNil))) (gName 1)) (tSeq (tAsg (tOp (uAdd K) (tC (.int 1)) (tCall (sp__law_take K ca) [] E0 (tCons (uVar 0) (tCons (tC (.int 5)) (tNil))))) (gName 2)) (tSeq (tAsg (tOp (uAdd K) (uVar 2) (tCall (sp__law_take K ca) [] E0 (tCons (uVar 0) (tCons (tC (.int 3)) (tNil))))) (gName 3)) (tSeq (tAsg (uMakeK (ca 6) 1 2 (sp_Stock___init__ K ca) gV_Stock___init___shortest_longest (WE (fun _ _ _ _ => False)) (tCons (uVar 1) (tNil)) (tCons (uVar 2) (tCons (uVar 3) (tNil)))) (gName 4)) (tSeq (tAsg (tCall (sp__law_take K ca) [] E0 (tCons (uVar 0) (tCons (tC (.int 6)) (tNil)))) (gName 5)) (tSeq (tAsg (tOp uMul3 (tCB (uLen K) (tCons (uVar 1) (tNil))) (tOp uSub (tOp (uAdd K) (uVar 3) (tC (.int 1))) (uVar 2))) (gName 6)) (tSeq (tWhile (uT (tOp uGt (tCall (sp__law_power K ca) [] E0 (tCons (uVar 6) (tCons (uVar 5) (tNil)))) (tC (.int 400)))) (tAsg (tOp uSub (uVar 5) (tC (.int 1))) (gName 5))) (tSeq (tAsg (tCall (sp__law_rows K ca) [] E0 (tCons (uVar 1) (tCons (uVar 2) (tCons (uVar 3) (tCons (uVar 5) (tNil)))))) (gName 7)) (tSeq (tAsg (tLst (tNil)) (gName 8)) (tSeq (tForG (tMethX "texts" (ca 6) 2 (sp_Stock_texts K ca) (WE (NSt K (fun _ _ _ _ => False))) (uVar 4) (tCons (uVar 5) (tNil))) (gName 9) (tSeq (uIfS (uNot (uT (uIsi .lst (uVar 9)))) (tRet (tC (.bl false))) (tNext)) (tSeq (tDrop (tBM K "list" uAppend (uVar 8) (tCons (tCB (uList K) (tCons (uVar 9) (tNil))) (tNil)))) (tDrop (tBM0 K "list" uClear (uVar 9)))))) (tSeq (uIfS (uOr (uT (tOp (uNe2 K) (uVar 8) (uVar 7))) (uT (tOp (uNe2 K) (tCB (uLen K) (tCons (uVar 8) (tNil))) (uMeth "amount" [(ca 6, sp_Stock_amount K ca)] (WE (fun _ _ _ _ => False)) (uVar 4) (tCons (uVar 5) (tNil)))))) (tRet (tC (.bl false))) (tNext)) (tSeq (uIfS (uNot (uT (tCall (sp__law_nested_right K ca) [] E0 (tCons (uVar 4) (tCons (tCB uMin2 (tCons (uVar 5) (tCons (tC (.int 2)) (tNil)))) (tCons (tLst (tCons (uVar 1) (tCons (uVar 2) (tCons (uVar 3) (tNil))))) (tNil))))))) (tRet (tC (.bl false))) (tNext)) (tSeq (uIfS (uT (tOp (uNe2 K) (tCall (sp__law_begun K ca) [] E0 (tCons (uVar 4) (tCons (uVar 5) (tCons (tC (.int 7)) (tNil))))) (L2.tSl (uSl K) (uVar 7) (tNoPart) (uPart (tC (.int 7)))))) (tRet (tC (.bl false))) (tNext)) (tSeq (uIfS (uT (tOp uGt (tCall (sp__law_take K ca) [] E0 (tCons (uVar 0) (tCons (tC (.int 4)) (tNil)))) (tC (.int 0)))) (tRet (tC (.bl true))) (tNext)) (tSeq (tAsg (tOp (uAdd K) (tC (.int 40)) (tCall (sp__law_take K ca) [] E0 (tCons (uVar 0) (tCons (tC (.int 260)) (tNil))))) (gName 5)) (tSeq (tAsg (L2.tSl (uSl K) (tLc (uIter K (uVar 1)) (gName 13) (uT (tOp (uEq2 K) (tOp (uIx K) (uVar 13) (tC (.int 0))) (tC (.str "#")))) (tTup (tCons (tOp (uAdd K) (tC (.str "#")) (tOp (uIx K) (uVar 13) (tC (.int 1)))) (tCons (tOp uMul3 (tC (.str "a")) (uVar 2)) (tNil)))) [13]) (tNoPart) (uPart (tC (.int 1)))) (gName 10)) (tSeq (tAsg (tOp (uAdd K) (uVar 10) (tOp uMul3 (tLst (tCons (tTup (tCons (tOp (uIx K) (uVar 1) (tC (.int 0))) (tCons (tOp uMul3 (tC (.str "a")) (uVar 2)) (tNil)))) (tNil))) (tOp uSub (uVar 5) (tC (.int 1))))) (gName 11)) (tSeq (tAsg (tCall (sp__law_begun K ca) [] E0 (tCons (uVar 4) (tCons (uVar 5) (tCons (tC (.int 2)) (tNil))))) (gName 12)) (tSeq (uIfS (uT (tOp (uNe2 K) (tOp (uIx K) (uVar 12) (tC (.int 0))) (uVar 11))) (tRet (tC (.bl false))) (tNext)) (tSeq (uIfS (uT (tOp (uEq2 K) (uVar 6) (tC (.int 1)))) (tRet (tOp (uEq2 K) (tCB (uLen K) (tCons (uVar 12) (tNil))) (tC (.int 1)))) (tNext)) (tSeq (tAsg (tOp (uIx K) (tCall (sp__law_letters K ca) [] E0 (tCons (uVar 1) (tCons (uVar 2) (tCons (uVar 3) (tNil))))) (tC (.int 1))) (gTs K 2 (gCons (gName 13) (gCons (gName 14) (gNil))))) (tRet (tOp (uEq2 K) (tOp (uIx K) (uVar 12) (tC (.int 1))) (tOp (uAdd K) (L2.tSl (uSl K) (uVar 11) (tNoPart) (uPart (tUn uNeg (tC (.int 1))))) (tLst (tCons (tTup (tCons (uVar 13) (tCons (tOp uMul3 (tC (.str "a")) (uVar 14)) (tNil)))) (tNil))))))))))))))))))))))))))
def t_law (K : PySem.W.Frag) (ca : Nat → Addr) : TS := tSeq (tFor (iRng1 (tCons (tCB uMax2 (tCons (tC (.int 2)) (tCons (tCB uMin2 (tCons (tC (.int 6)) (tCons (tCB (uLen K) (tCons (uVar 0) (tNil))) (tNil)))) (tNil)))) (tNil))) (gName 1) (uIfS (uNot (uT (tCall (sp__law_right K ca) [] E0 (tCons (tCall (sp__law_purse K ca) [] E0 (tCons (tCall (sp__law_cell K ca) [] E0 (tCons (uVar 0) (tCons (uVar 1) (tNil)))) (tNil))) (tNil))))) (tRet (tC (.bl false))) (tNext))) (tRet (tC (.bl true)))
def t_Stock___init__ (K : PySem.W.Frag) (ca : Nat → Addr) (E : XK) : TS := tSeq (uIfS (uNot (uT (tCall (sp_are_stock_marks K ca) [] E0 (tCons (uVar 1) (tNil))))) (uRaise (ca 2) "value" E (tCons (uVar 1) (tNil))) (tNext)) (tSeq (uIfS (uNot (uT (tCall (sp_is_integer K ca) [] E0 (tCons (uVar 2) (tCons (tC (.int 1)) (tCons (tC (.int 30)) (tNil))))))) (uRaise (ca 4) "value" E (tCons (uVar 2) (tNil))) (tNext)) (tSeq (uIfS (uNot (uT (tCall (sp_is_integer K ca) [] E0 (tCons (uVar 3) (tCons (uVar 2) (tCons (tC (.int 30)) (tNil))))))) (uRaise (ca 4) "value" E (tCons (uVar 3) (tNil))) (tNext)) (tSeq (sFld K (uVar 0) (tLc (uIter K (tCall (sp_all_marks K ca) [] E0 tNil)) (gName 4) (uT (tOp (uIn K false) (uVar 4) (uVar 1))) (uVar 4) [4]) "own_marks") (tSeq (sFld K (uVar 0) (uVar 2) "least") (tSeq (sFld K (uVar 0) (uVar 3) "most") (sFld K (uVar 0) (tLc2 (uIter K (tFld K (uVar 0) "own_marks")) (gName 4) (tYes) (iRng2 (tCons (uVar 2) (tCons (tOp (uAdd K) (uVar 3) (tC (.int 1))) (tNil)))) (gName 5) (tYes) (tTup (tCons (uVar 4) (tCons (uVar 5) (tNil)))) [4, 5] [5]) "own_letters"))))))
def t_Stock_letters (K : PySem.W.Frag) (ca : Nat → Addr) : TS := tRet (tCB (uList K) (tCons (tFld K (uVar 0) "own_letters") (tNil)))
def t_Stock_first_letters (K : PySem.W.Frag) (ca : Nat → Addr) : TS := tRet (tLc (uIter K (uMeth "letters" [(ca 6, sp_Stock_letters K ca)] (WE (fun _ _ _ _ => False)) (uVar 0) (tNil))) (gTs K 2 (gCons (gName 1) (gCons (gName 2) (gNil)))) (uT (tOp (uEq2 K) (tOp (uIx K) (uVar 1) (tC (.int 0))) (tC (.str "#")))) (tTup (tCons (uVar 1) (tCons (uVar 2) (tNil)))) [1, 2])
def t_Stock_amount (K : PySem.W.Frag) (ca : Nat → Addr) (E : XK) : TS := tSeq (tDrop (tCall (sp_need_many K ca) [] E (tCons (uVar 1) (tNil)))) (tSeq (tAsg (uIf (uT (tOp (uEq2 K) (uVar 1) (tC (.int 0)))) (tC (.int 1)) (tCB (uLen K) (tCons (uMeth "first_letters" [(ca 6, sp_Stock_first_letters K ca)] (WE (fun cls d _ H => E cls d H)) (uVar 0) (tNil)) (tNil)))) (gName 2)) (tSeq (tFor (iRng1 (tCons (tOp uSub (uVar 1) (tC (.int 1))) (tNil))) (gName 3) (tAug 2 (tCB (uLen K) (tCons (tFld K (uVar 0) "own_letters") (tNil))) uMul)) (tRet (uVar 2))))
def t_Stock_texts (K : PySem.W.Frag) (ca : Nat → Addr) (E : XK) : (Γ : Type) → TGm Γ := fun Γ => tGSeq (tGFor (iRng1X (tCons (uMeth "amount" [(ca 6, sp_Stock_amount K ca)] (WE (fun cls d _ H => E cls d H)) (uVar 0) (tCons (uVar 1) (tNil))) (tNil))) (gName 2) (tGSeq (tGYd (uMeth "text_at" [(ca 6, sp_Stock_text_at K ca)] (WE (fun _ _ _ _ => False)) (uVar 0) (tCons (uVar 1) (tCons (uVar 2) (tNil))))) (tG1))) tG1
def t_Stock_text_at (K : PySem.W.Frag) (ca : Nat → Addr) (E : XK) : TS := tSeq (uIfS (uNot (uT (tCall (sp_is_integer K ca) [] E0 (tCons (uVar 2) (tCons (tC (.int 0)) (tCons (tOp uSub (uMeth "amount" [(ca 6, sp_Stock_amount K ca)] (WE (fun cls d _ H => E cls d H)) (uVar 0) (tCons (uVar 1) (tNil))) (tC (.int 1))) (tNil))))))) (uRaise (ca 4) "value" E (tCons (uVar 2) (tNil))) (tNext)) (tSeq (tAsg (uMeth "letters" [(ca 6, sp_Stock_letters K ca)] (WE (fun cls d _ H => E cls d H)) (uVar 0) (tNil)) (gName 3)) (tSeq (tAsg (tLst (tNil)) (gName 4)) (tSeq (tFor (iRng1 (tCons (tOp uSub (uVar 1) (tC (.int 1))) (tNil))) (gName 5) (tSeq (tDrop (tBM K "list" uAppend (uVar 4) (tCons (tOp (uIx K) (uVar 3) (tOp uMod (uVar 2) (tCB (uLen K) (tCons (uVar 3) (tNil))))) (tNil)))) (tAug 2 (tCB (uLen K) (tCons (uVar 3) (tNil))) uFdiv))) (tSeq (uIfS (uT (tOp uGt (uVar 1) (tC (.int 0)))) (tDrop (tBM K "list" uAppend (uVar 4) (tCons (tOp (uIx K) (uMeth "first_letters" [(ca 6, sp_Stock_first_letters K ca)] (WE (fun cls d _ H => E cls d H)) (uVar 0) (tNil)) (uVar 2)) (tNil)))) (tNext)) (tRet (tCall (sp_text_of_letters K ca) [] E0 (tCons (uRev K (uVar 4)) (tNil))))))))
structure Ct (K : PySem.W.Frag) (ca : Nat → Addr) : Prop where
  yes : True
  x_InvalidMarks : XfC K (ca 2)
  n_InvalidMarks : PySem.W.findIn K (.ref (ca 2)) "value" = some none
  x_InvalidInteger : XfC K (ca 4)
  n_InvalidInteger : PySem.W.findIn K (.ref (ca 4)) "value" = some none
  cl_Stock : Cls K (ca 6)
  na_Stock_least : NoAttr K (ca 6) "least"
  na_Stock_most : NoAttr K (ca 6) "most"
  na_Stock_own_letters : NoAttr K (ca 6) "own_letters"
  na_Stock_own_marks : NoAttr K (ca 6) "own_marks"
  ns_InvalidInteger : PySem.W.subIn K (.ref (ca 4)) (.type "StopIteration") = some false
structure Tx (P : Program) (K : PySem.W.Frag) (mg : Str → Option Value) (a : Nat → Addr) (d : Nat → FuncData) (ca : Nat → Addr) : Prop where
  ct : Ct K ca
  f_is_integer : Fun K "is_integer" "is_integer" s_is_integer (a 0) (d 0)
  b_is_integer : Binds K (d 0) P_is_integer []
  m_is_integer : mg "is_integer" = some (.ref (a 0))
  f_is_mark : Fun K "is_mark" "is_mark" s_is_mark (a 1) (d 1)
  b_is_mark : Binds K (d 1) P_is_mark []
  m_is_mark : mg "is_mark" = some (.ref (a 1))
  f_all_marks : Fun K "all_marks" "all_marks" s_all_marks (a 2) (d 2)
  b_all_marks : Binds K (d 2) P_all_marks []
  m_all_marks : mg "all_marks" = some (.ref (a 2))
  f_are_stock_marks : Fun K "are_stock_marks" "are_stock_marks" s_are_stock_marks (a 3) (d 3)
  b_are_stock_marks : Binds K (d 3) P_are_stock_marks []
  m_are_stock_marks : mg "are_stock_marks" = some (.ref (a 3))
  f_need_many : Fun K "need_many" "need_many" s_need_many (a 4) (d 4)
  b_need_many : Binds K (d 4) P_need_many []
  m_need_many : mg "need_many" = some (.ref (a 4))
  f_text_of_letters : Fun K "text_of_letters" "text_of_letters" s_text_of_letters (a 5) (d 5)
  b_text_of_letters : Binds K (d 5) P_text_of_letters []
  m_text_of_letters : mg "text_of_letters" = some (.ref (a 5))
  f__law_cell : Fun K "_law_cell" "_law_cell" s__law_cell (a 6) (d 6)
  b__law_cell : Binds K (d 6) P__law_cell []
  m__law_cell : mg "_law_cell" = some (.ref (a 6))
  f__law_purse : Fun K "_law_purse" "_law_purse" s__law_purse (a 7) (d 7)
  b__law_purse : Binds K (d 7) P__law_purse []
  m__law_purse : mg "_law_purse" = some (.ref (a 7))
  f__law_take : Fun K "_law_take" "_law_take" s__law_take (a 8) (d 8)
  b__law_take : Binds K (d 8) P__law_take []
  m__law_take : mg "_law_take" = some (.ref (a 8))
  f__law_all_marks : Fun K "_law_all_marks" "_law_all_marks" s__law_all_marks (a 9) (d 9)
  b__law_all_marks : Binds K (d 9) P__law_all_marks []
  m__law_all_marks : mg "_law_all_marks" = some (.ref (a 9))
  f__law_mark : Fun K "_law_mark" "_law_mark" s__law_mark (a 10) (d 10)
  b__law_mark : Binds K (d 10) P__law_mark []
  m__law_mark : mg "_law_mark" = some (.ref (a 10))
  f__law_marks : Fun K "_law_marks" "_law_marks" s__law_marks (a 11) (d 11)
  b__law_marks : Binds K (d 11) P__law_marks []
  m__law_marks : mg "_law_marks" = some (.ref (a 11))
  f__law_sorted : Fun K "_law_sorted" "_law_sorted" s__law_sorted (a 12) (d 12)
  b__law_sorted : Binds K (d 12) P__law_sorted []
  m__law_sorted : mg "_law_sorted" = some (.ref (a 12))
  f__law_letters : Fun K "_law_letters" "_law_letters" s__law_letters (a 13) (d 13)
  b__law_letters : Binds K (d 13) P__law_letters []
  m__law_letters : mg "_law_letters" = some (.ref (a 13))
  f__law_power : Fun K "_law_power" "_law_power" s__law_power (a 14) (d 14)
  b__law_power : Binds K (d 14) P__law_power []
  m__law_power : mg "_law_power" = some (.ref (a 14))
  f__law_rows : Fun K "_law_rows" "_law_rows" s__law_rows (a 15) (d 15)
  b__law_rows : Binds K (d 15) P__law_rows []
  m__law_rows : mg "_law_rows" = some (.ref (a 15))
  f__law_begun : Fun K "_law_begun" "_law_begun" s__law_begun (a 16) (d 16)
  b__law_begun : Binds K (d 16) P__law_begun []
  m__law_begun : mg "_law_begun" = some (.ref (a 16))
  f__law_nested_right : Fun K "_law_nested_right" "_law_nested_right" s__law_nested_right (a 17) (d 17)
  b__law_nested_right : Binds K (d 17) P__law_nested_right []
  m__law_nested_right : mg "_law_nested_right" = some (.ref (a 17))
  f__law_right : Fun K "_law_right" "_law_right" s__law_right (a 18) (d 18)
  b__law_right : Binds K (d 18) P__law_right []
  m__law_right : mg "_law_right" = some (.ref (a 18))
  f_law : Fun K "law" "law" s_law (a 19) (d 19)
  b_law : Binds K (d 19) P_law []
  m_law : mg "law" = some (.ref (a 19))
  f_Stock___init__ : FunD K "__init__" "Stock.__init__" (defArgs s_Stock___init__) (defBody s_Stock___init__) (defScope s_Stock___init__) [] [("shortest", .int 1), ("longest", .int 4)] (a 20) (d 20)
  b_Stock___init__ : ∃ ds, Vals [.int 1, .int 4] ds ∧ Binds K (d 20) P_Stock___init__ ds
  k_Stock___init___shortest_longest : ∃ gg, KBn K (d 20) P_Stock___init__ 2 ["shortest", "longest"] gg gV_Stock___init___shortest_longest
  f_Stock_letters : Fun K "letters" "Stock.letters" s_Stock_letters (a 21) (d 21)
  b_Stock_letters : Binds K (d 21) P_Stock_letters []
  f_Stock_first_letters : Fun K "first_letters" "Stock.first_letters" s_Stock_first_letters (a 22) (d 22)
  b_Stock_first_letters : Binds K (d 22) P_Stock_first_letters []
  f_Stock_amount : Fun K "amount" "Stock.amount" s_Stock_amount (a 23) (d 23)
  b_Stock_amount : Binds K (d 23) P_Stock_amount []
  f_Stock_texts : Fun K "texts" "Stock.texts" s_Stock_texts (a 24) (d 24)
  b_Stock_texts : Binds K (d 24) P_Stock_texts []
  f_Stock_text_at : Fun K "text_at" "Stock.text_at" s_Stock_text_at (a 25) (d 25)
  b_Stock_text_at : Binds K (d 25) P_Stock_text_at []
  me_Stock_amount : Meth K (ca 6) "amount" (a 23)
  me_Stock_first_letters : Meth K (ca 6) "first_letters" (a 22)
  me_Stock_letters : Meth K (ca 6) "letters" (a 21)
  me_Stock_text_at : Meth K (ca 6) "text_at" (a 25)
  me_Stock_texts : Meth K (ca 6) "texts" (a 24)
  mk_Stock : Mk K (ca 6) (a 20)
  m_Stock : mg "Stock" = some (.ref (ca 6))
  x_InvalidMarks : U.ExcC K mg "InvalidMarks" "value" (ca 2) (a 26)
  F_InvalidMarks : Fun K "__init__" "InvalidMarks.__init__" sI_InvalidMarks (a 26) (d 26)
  i_InvalidMarks : Binds K (d 26) ["self", "value"] []
  m_InvalidMarks : mg "InvalidMarks" = some (.ref (ca 2))
  x_InvalidInteger : U.ExcC K mg "InvalidInteger" "value" (ca 4) (a 27)
  F_InvalidInteger : Fun K "__init__" "InvalidInteger.__init__" sI_InvalidInteger (a 27) (d 27)
  i_InvalidInteger : Binds K (d 27) ["self", "value"] []
  m_InvalidInteger : mg "InvalidInteger" = some (.ref (ca 4))
  y_ReflowError : U.BaseC K (ca 0)
  w_ReflowError : mg "ReflowError" = some (.ref (ca 0))
  z_all : mg "all" = none
  z_any : mg "any" = none
  z_bool : mg "bool" = none
  z_int : mg "int" = none
  z_isinstance : mg "isinstance" = none
  z_len : mg "len" = none
  z_list : mg "list" = none
  z_max : mg "max" = none
  z_min : mg "min" = none
  z_range : mg "range" = none
  z_str : mg "str" = none
  z_tuple : mg "tuple" = none
  c_KINDS : ∃ t, mg "KINDS" = some (.str "#|/" t)
  c_MOST_INDENT : ∃ t, mg "MOST_INDENT" = some (.int (3) t)
  c_MOST_LETTERS : ∃ t, mg "MOST_LETTERS" = some (.int (30) t)
  c_MOST_TOKENS : ∃ t, mg "MOST_TOKENS" = some (.int (300) t)
section
variable {K : PySem.W.Frag} {ca : Nat → Addr}
theorem hcf_ (T : Ct K ca) : FldOk K ca cf_ := by
  intro c f e; unfold cf_ at e; split at e
  · simp only [Bool.or_eq_true, decide_eq_true_eq] at e
    rcases e with ((e | e) | e) | e
    · subst e; exact ⟨T.cl_Stock, T.na_Stock_least⟩
    · subst e; exact ⟨T.cl_Stock, T.na_Stock_most⟩
    · subst e; exact ⟨T.cl_Stock, T.na_Stock_own_letters⟩
    · subst e; exact ⟨T.cl_Stock, T.na_Stock_own_marks⟩
  · cases e
theorem hns_Stock_texts (T : Ct K ca) : ∀ c ∈ ([4] : List Nat), PySem.W.subIn K (.ref (ca c)) (.type "StopIteration") = some false := by
  intro c hc; simp only [List.mem_cons, List.not_mem_nil, or_false] at hc
  subst hc
  · exact T.ns_InvalidInteger
theorem a_is_integer (T : Ct K ca) : SS ⟨K, ca, none, none⟩ NoE (t_is_integer K ca) b_is_integer :=
  ss_ret (se_and (se_isi .int (se_var 0)) (se_and (se_not (se_isi .bl (se_var 0))) (se_chain (sr_cmp _ _) (sr_cmp _ _) (se_var 1) (se_var 0) (se_var 2))))
theorem len_is_integer {vs : List V} {H : Hp} {Q : VK} {E : XK} (h : sp_is_integer K ca vs H Q E) : vs.length = P_is_integer.length := nox_len (N := N_is_integer) (P := P_is_integer) h
theorem p_is_integer (T : Ct K ca) {vs : List V} {H : Hp} {Q : VK} {E : XK} (h : sp_is_integer K ca vs H Q E) : t_is_integer K ca { nx := fun _ H' => Q .non H', rt := Q } (L2.start N_is_integer vs) H := nox_ok (N := N_is_integer) (P := P_is_integer) (a_is_integer T) h
theorem a_is_mark (T : Ct K ca) : SS ⟨K, ca, none, none⟩ NoE (t_is_mark K ca) b_is_mark :=
  ss_seq (ss_if (st_not (st_val (se_isi .str (se_var 0)))) (ss_ret (se_bl _)) (ss_next)) (ss_ret (se_or (se_op sr_eq (se_var 0) (se_str _)) (se_and (se_op sr_eq (se_cb sc_len (sa_cons (se_var 0) (sa_nil))) (se_int _)) (se_and (se_op (sr_in false) (se_op sr_ix (se_var 0) (se_int _)) (se_str _)) (se_op (sr_in false) (se_op sr_ix (se_var 0) (se_int _)) (se_str _))))))
theorem len_is_mark {vs : List V} {H : Hp} {Q : VK} {E : XK} (h : sp_is_mark K ca vs H Q E) : vs.length = P_is_mark.length := nox_len (N := N_is_mark) (P := P_is_mark) h
theorem p_is_mark (T : Ct K ca) {vs : List V} {H : Hp} {Q : VK} {E : XK} (h : sp_is_mark K ca vs H Q E) : t_is_mark K ca { nx := fun _ H' => Q .non H', rt := Q } (L2.start N_is_mark vs) H := nox_ok (N := N_is_mark) (P := P_is_mark) (a_is_mark T) h
theorem a_all_marks (T : Ct K ca) : SS ⟨K, ca, none, none⟩ NoE (t_all_marks K ca) b_all_marks :=
  ss_ret (se_op sr_add (se_lst (sa_cons (se_str _) (sa_nil))) (se_lc2 (si_iter (se_str _)) (sg_name 0) (st_yes) (si_rng1 (sa_cons (se_op sr_add (se_int _) (se_int _)) (sa_nil))) (sg_name 1) (st_yes) (se_op sr_add (se_var 0) (se_cb sc_strX (sa_cons (se_var 1) (sa_nil))))))
theorem len_all_marks {vs : List V} {H : Hp} {Q : VK} {E : XK} (h : sp_all_marks K ca vs H Q E) : vs.length = P_all_marks.length := nox_len (N := N_all_marks) (P := P_all_marks) h
theorem p_all_marks (T : Ct K ca) {vs : List V} {H : Hp} {Q : VK} {E : XK} (h : sp_all_marks K ca vs H Q E) : t_all_marks K ca { nx := fun _ H' => Q .non H', rt := Q } (L2.start N_all_marks vs) H := nox_ok (N := N_all_marks) (P := P_all_marks) (a_all_marks T) h
theorem a_are_stock_marks (T : Ct K ca) : SS ⟨K, ca, none, none⟩ NoE (t_are_stock_marks K ca) b_are_stock_marks :=
  ss_seq (ss_if (st_or (st_not (st_val (se_isiT [.lst, .tup] (se_var 0)))) (st_not (st_val (se_cb sc_all (sa_cons (se_lc (si_iter (se_var 0)) (sg_name 1) (st_yes) (se_callN (nox_no _) (sa_cons (se_var 1) (sa_nil)))) (sa_nil)))))) (ss_ret (se_bl _)) (ss_next)) (ss_ret (se_cb sc_any (sa_cons (se_lc (si_iter (se_var 0)) (sg_name 1) (st_yes) (se_op sr_eq (se_op sr_ix (se_var 1) (se_int _)) (se_str _))) (sa_nil))))
theorem len_are_stock_marks {vs : List V} {H : Hp} {Q : VK} {E : XK} (h : sp_are_stock_marks K ca vs H Q E) : vs.length = P_are_stock_marks.length := nox_len (N := N_are_stock_marks) (P := P_are_stock_marks) h
theorem p_are_stock_marks (T : Ct K ca) {vs : List V} {H : Hp} {Q : VK} {E : XK} (h : sp_are_stock_marks K ca vs H Q E) : t_are_stock_marks K ca { nx := fun _ H' => Q .non H', rt := Q } (L2.start N_are_stock_marks vs) H := nox_ok (N := N_are_stock_marks) (P := P_are_stock_marks) (a_are_stock_marks T) h
theorem a_need_many (T : Ct K ca) {E : XK} : SS ⟨K, ca, none, none⟩ (fun cls d _ H => E cls d H) (t_need_many K ca E) b_need_many :=
  ss_if (st_not (st_val (se_callN (nox_no _) (sa_cons (se_var 0) (sa_cons (se_int _) (sa_cons (se_int _) (sa_nil))))))) (ss_raise (fun _ _ _ _ h => h) (sa_cons (se_var 0) (sa_nil))) (ss_next)
theorem len_need_many {vs : List V} {H : Hp} {Q : VK} {E : XK} (h : sp_need_many K ca vs H Q E) : vs.length = P_need_many.length := run_len (N := N_need_many) (P := P_need_many) h
theorem p_need_many (T : Ct K ca) {vs : List V} {H : Hp} {Q : VK} {E : XK} (h : sp_need_many K ca vs H Q E) : t_need_many K ca E { nx := fun _ H' => Q .non H', rt := Q } (L2.start N_need_many vs) H := run_ok (N := N_need_many) (P := P_need_many) (a_need_many T) h
theorem a_text_of_letters (T : Ct K ca) : SS ⟨K, ca, none, none⟩ NoE (t_text_of_letters K ca) b_text_of_letters :=
  ss_ret (se_lc (si_iter (se_var 0)) (sg_ts (sgs_cons (sg_name 1) (sgs_cons (sg_name 2) (sgs_nil)))) (st_yes) (se_tup (sa_cons (se_var 1) (sa_cons (se_op sr_mul (se_str _) (se_var 2)) (sa_nil)))))
theorem len_text_of_letters {vs : List V} {H : Hp} {Q : VK} {E : XK} (h : sp_text_of_letters K ca vs H Q E) : vs.length = P_text_of_letters.length := nox_len (N := N_text_of_letters) (P := P_text_of_letters) h
theorem p_text_of_letters (T : Ct K ca) {vs : List V} {H : Hp} {Q : VK} {E : XK} (h : sp_text_of_letters K ca vs H Q E) : t_text_of_letters K ca { nx := fun _ H' => Q .non H', rt := Q } (L2.start N_text_of_letters vs) H := nox_ok (N := N_text_of_letters) (P := P_text_of_letters) (a_text_of_letters T) h
theorem a__law_cell (T : Ct K ca) : SS ⟨K, ca, none, none⟩ NoE (t__law_cell K ca) b__law_cell :=
  ss_seq (ss_if (st_val (se_op (sr_cmp _ _) (se_var 1) (se_cb sc_len (sa_cons (se_var 0) (sa_nil))))) (ss_ret (se_op sr_ix (se_var 0) (se_var 1))) (ss_next)) (ss_ret (se_op sr_add (se_op sr_mul (se_int _) (se_var 1)) (se_int _)))
theorem len__law_cell {vs : List V} {H : Hp} {Q : VK} {E : XK} (h : sp__law_cell K ca vs H Q E) : vs.length = P__law_cell.length := nox_len (N := N__law_cell) (P := P__law_cell) h
theorem p__law_cell (T : Ct K ca) {vs : List V} {H : Hp} {Q : VK} {E : XK} (h : sp__law_cell K ca vs H Q E) : t__law_cell K ca { nx := fun _ H' => Q .non H', rt := Q } (L2.start N__law_cell vs) H := nox_ok (N := N__law_cell) (P := P__law_cell) (a__law_cell T) h
theorem a__law_purse (T : Ct K ca) : SS ⟨K, ca, none, none⟩ NoE (t__law_purse K ca) b__law_purse :=
  ss_ret (se_lst (sa_cons (se_cb sc_max (sa_cons (se_int _) (sa_cons (se_op sr_sub (se_var 0) (se_op sr_pow (se_int _) (se_int _))) (sa_nil)))) (sa_cons (se_op sr_mod (se_var 0) (se_int _)) (sa_cons (se_int _) (sa_nil)))))
theorem len__law_purse {vs : List V} {H : Hp} {Q : VK} {E : XK} (h : sp__law_purse K ca vs H Q E) : vs.length = P__law_purse.length := nox_len (N := N__law_purse) (P := P__law_purse) h
theorem p__law_purse (T : Ct K ca) {vs : List V} {H : Hp} {Q : VK} {E : XK} (h : sp__law_purse K ca vs H Q E) : t__law_purse K ca { nx := fun _ H' => Q .non H', rt := Q } (L2.start N__law_purse vs) H := nox_ok (N := N__law_purse) (P := P__law_purse) (a__law_purse T) h
theorem a__law_take (T : Ct K ca) : SS ⟨K, ca, none, none⟩ NoE (t__law_take K ca) b__law_take :=
  ss_seq (ss_if (st_val (se_op (sr_cmp _ _) (se_op sr_ix (se_var 0) (se_int _)) (se_int _))) (ss_seq (ss_asg (se_op sr_mod (se_op sr_ix (se_var 0) (se_int _)) (se_var 1)) (sg_name 2)) (ss_seq (ss_setI (se_op sr_fdiv (se_op sr_ix (se_var 0) (se_int _)) (se_var 1)) (se_int _)) (ss_retV 2))) (ss_next)) (ss_seq (ss_setI (se_op sr_add (se_op sr_ix (se_var 0) (se_int _)) (se_int _)) (se_int _)) (ss_seq (ss_asg (se_op sr_mod (se_op sr_pow (se_op sr_add (se_op sr_add (se_op sr_ix (se_var 0) (se_int _)) (se_op sr_mul (se_int _) (se_op sr_ix (se_var 0) (se_int _)))) (se_int _)) (se_int _)) (se_int _)) (sg_name 3)) (ss_seq (ss_asg (se_op sr_mod (se_op sr_pow (se_op sr_add (se_var 3) (se_op sr_mul (se_int _) (se_op sr_ix (se_var 0) (se_int _)))) (se_int _)) (se_int _)) (sg_name 3)) (ss_ret (se_op sr_mod (se_op sr_fdiv (se_var 3) (se_int _)) (se_var 1))))))
theorem len__law_take {vs : List V} {H : Hp} {Q : VK} {E : XK} (h : sp__law_take K ca vs H Q E) : vs.length = P__law_take.length := nox_len (N := N__law_take) (P := P__law_take) h
theorem p__law_take (T : Ct K ca) {vs : List V} {H : Hp} {Q : VK} {E : XK} (h : sp__law_take K ca vs H Q E) : t__law_take K ca { nx := fun _ H' => Q .non H', rt := Q } (L2.start N__law_take vs) H := nox_ok (N := N__law_take) (P := P__law_take) (a__law_take T) h
theorem a__law_all_marks (T : Ct K ca) : SS ⟨K, ca, none, none⟩ NoE (t__law_all_marks K ca) b__law_all_marks :=
  ss_ret (se_lst (sa_cons (se_str _) (sa_cons (se_str _) (sa_cons (se_str _) (sa_cons (se_str _) (sa_cons (se_str _) (sa_cons (se_str _) (sa_cons (se_str _) (sa_cons (se_str _) (sa_cons (se_str _) (sa_cons (se_str _) (sa_cons (se_str _) (sa_cons (se_str _) (sa_cons (se_str _) (sa_nil)))))))))))))))
theorem len__law_all_marks {vs : List V} {H : Hp} {Q : VK} {E : XK} (h : sp__law_all_marks K ca vs H Q E) : vs.length = P__law_all_marks.length := nox_len (N := N__law_all_marks) (P := P__law_all_marks) h
theorem p__law_all_marks (T : Ct K ca) {vs : List V} {H : Hp} {Q : VK} {E : XK} (h : sp__law_all_marks K ca vs H Q E) : t__law_all_marks K ca { nx := fun _ H' => Q .non H', rt := Q } (L2.start N__law_all_marks vs) H := nox_ok (N := N__law_all_marks) (P := P__law_all_marks) (a__law_all_marks T) h
theorem a__law_mark (T : Ct K ca) : SS ⟨K, ca, none, none⟩ NoE (t__law_mark K ca) b__law_mark :=
  ss_seq (ss_if (st_val (se_op sr_eq (se_callN (nox_no _) (sa_cons (se_var 0) (sa_cons (se_int _) (sa_nil)))) (se_int _))) (ss_ret (se_str _)) (ss_next)) (ss_ret (se_op sr_add (se_op sr_ix (se_str _) (se_callN (nox_no _) (sa_cons (se_var 0) (sa_cons (se_int _) (sa_nil))))) (se_op sr_ix (se_str _) (se_callN (nox_no _) (sa_cons (se_var 0) (sa_cons (se_int _) (sa_nil)))))))
theorem len__law_mark {vs : List V} {H : Hp} {Q : VK} {E : XK} (h : sp__law_mark K ca vs H Q E) : vs.length = P__law_mark.length := nox_len (N := N__law_mark) (P := P__law_mark) h
theorem p__law_mark (T : Ct K ca) {vs : List V} {H : Hp} {Q : VK} {E : XK} (h : sp__law_mark K ca vs H Q E) : t__law_mark K ca { nx := fun _ H' => Q .non H', rt := Q } (L2.start N__law_mark vs) H := nox_ok (N := N__law_mark) (P := P__law_mark) (a__law_mark T) h
theorem a__law_marks (T : Ct K ca) : SS ⟨K, ca, none, none⟩ NoE (t__law_marks K ca) b__law_marks :=
  ss_seq (ss_asg (se_lc (si_rng1 (sa_cons (se_callN (nox_no _) (sa_cons (se_var 0) (sa_cons (se_var 1) (sa_nil)))) (sa_nil))) (sg_name 4) (st_yes) (se_callN (nox_no _) (sa_cons (se_var 0) (sa_nil)))) (sg_name 2)) (ss_seq (ss_asg (se_callN (nox_no _) (sa_cons (se_var 0) (sa_cons (se_op sr_add (se_cb sc_len (sa_cons (se_var 2) (sa_nil))) (se_int _)) (sa_nil)))) (sg_name 3)) (ss_ret (se_op sr_add (se_op sr_add (se_sl (se_var 2) (so_none) (so_some (se_var 3))) (se_lst (sa_cons (se_op sr_add (se_str _) (se_op sr_ix (se_str _) (se_callN (nox_no _) (sa_cons (se_var 0) (sa_cons (se_int _) (sa_nil)))))) (sa_nil)))) (se_sl (se_var 2) (so_some (se_var 3)) (so_none)))))
theorem len__law_marks {vs : List V} {H : Hp} {Q : VK} {E : XK} (h : sp__law_marks K ca vs H Q E) : vs.length = P__law_marks.length := nox_len (N := N__law_marks) (P := P__law_marks) h
theorem p__law_marks (T : Ct K ca) {vs : List V} {H : Hp} {Q : VK} {E : XK} (h : sp__law_marks K ca vs H Q E) : t__law_marks K ca { nx := fun _ H' => Q .non H', rt := Q } (L2.start N__law_marks vs) H := nox_ok (N := N__law_marks) (P := P__law_marks) (a__law_marks T) h
theorem a__law_sorted (T : Ct K ca) : SS ⟨K, ca, none, none⟩ NoE (t__law_sorted K ca) b__law_sorted :=
  ss_ret (se_lc (si_iter (se_callN (nox_no _) (sa_nil))) (sg_name 1) (st_val (se_op (sr_in false) (se_var 1) (se_var 0))) (se_var 1))
theorem len__law_sorted {vs : List V} {H : Hp} {Q : VK} {E : XK} (h : sp__law_sorted K ca vs H Q E) : vs.length = P__law_sorted.length := nox_len (N := N__law_sorted) (P := P__law_sorted) h
theorem p__law_sorted (T : Ct K ca) {vs : List V} {H : Hp} {Q : VK} {E : XK} (h : sp__law_sorted K ca vs H Q E) : t__law_sorted K ca { nx := fun _ H' => Q .non H', rt := Q } (L2.start N__law_sorted vs) H := nox_ok (N := N__law_sorted) (P := P__law_sorted) (a__law_sorted T) h
theorem a__law_letters (T : Ct K ca) : SS ⟨K, ca, none, none⟩ NoE (t__law_letters K ca) b__law_letters :=
  ss_seq (ss_asg (se_lst (sa_nil)) (sg_name 3)) (ss_seq (ss_for (si_iter (se_var 0)) (sg_name 4) (ss_asg (se_op sr_add (se_var 3) (se_lc (si_rng2 (sa_cons (se_var 1) (sa_cons (se_op sr_add (se_var 2) (se_int _)) (sa_nil)))) (sg_name 5) (st_yes) (se_tup (sa_cons (se_var 4) (sa_cons (se_var 5) (sa_nil)))))) (sg_name 3))) (ss_retV 3))
theorem len__law_letters {vs : List V} {H : Hp} {Q : VK} {E : XK} (h : sp__law_letters K ca vs H Q E) : vs.length = P__law_letters.length := nox_len (N := N__law_letters) (P := P__law_letters) h
theorem p__law_letters (T : Ct K ca) {vs : List V} {H : Hp} {Q : VK} {E : XK} (h : sp__law_letters K ca vs H Q E) : t__law_letters K ca { nx := fun _ H' => Q .non H', rt := Q } (L2.start N__law_letters vs) H := nox_ok (N := N__law_letters) (P := P__law_letters) (a__law_letters T) h
theorem a__law_power (T : Ct K ca) : SS ⟨K, ca, none, none⟩ NoE (t__law_power K ca) b__law_power :=
  ss_seq (ss_asg (se_int _) (sg_name 2)) (ss_seq (ss_for (si_rng1 (sa_cons (se_var 1) (sa_nil))) (sg_name 3) (ss_asg (se_op sr_mul (se_var 2) (se_var 0)) (sg_name 2))) (ss_retV 2))
theorem len__law_power {vs : List V} {H : Hp} {Q : VK} {E : XK} (h : sp__law_power K ca vs H Q E) : vs.length = P__law_power.length := nox_len (N := N__law_power) (P := P__law_power) h
theorem p__law_power (T : Ct K ca) {vs : List V} {H : Hp} {Q : VK} {E : XK} (h : sp__law_power K ca vs H Q E) : t__law_power K ca { nx := fun _ H' => Q .non H', rt := Q } (L2.start N__law_power vs) H := nox_ok (N := N__law_power) (P := P__law_power) (a__law_power T) h
theorem a__law_rows (T : Ct K ca) : SS ⟨K, ca, none, none⟩ NoE (t__law_rows K ca) b__law_rows :=
  ss_seq (ss_asg (se_callN (nox_no _) (sa_cons (se_var 0) (sa_cons (se_var 1) (sa_cons (se_var 2) (sa_nil))))) (sg_name 4)) (ss_seq (ss_asg (se_lst (sa_cons (se_lst (sa_nil)) (sa_nil))) (sg_name 5)) (ss_seq (ss_for (si_rng1 (sa_cons (se_var 3) (sa_nil))) (sg_name 6) (ss_seq (ss_asg (se_var 4) (sg_name 7)) (ss_seq (ss_if (st_val (se_op sr_eq (se_op sr_add (se_var 6) (se_int _)) (se_var 3))) (ss_asg (se_lc (si_iter (se_var 4)) (sg_name 9) (st_val (se_op sr_eq (se_op sr_ix (se_op sr_ix (se_var 9) (se_int _)) (se_int _)) (se_str _))) (se_var 9)) (sg_name 7)) (ss_next)) (ss_seq (ss_asg (se_lst (sa_nil)) (sg_name 8)) (ss_seq (ss_for (si_iter (se_var 7)) (sg_name 9) (ss_asg (se_op sr_add (se_var 8) (se_lc (si_iter (se_var 5)) (sg_name 11) (st_yes) (se_op sr_add (se_lst (sa_cons (se_var 9) (sa_nil))) (se_var 11)))) (sg_name 8))) (ss_asg (se_var 8) (sg_name 5))))))) (ss_seq (ss_own (se_lst (sa_nil))) (ss_seq (ss_for (si_iter (se_var 5)) (sg_name 11) (ss_app (se_lc (si_iter (se_var 11)) (sg_ts (sgs_cons (sg_name 12) (sgs_cons (sg_name 13) (sgs_nil)))) (st_yes) (se_tup (sa_cons (se_var 12) (sa_cons (se_op sr_mul (se_str _) (se_var 13)) (sa_nil))))))) (ss_retV 10)))))
theorem len__law_rows {vs : List V} {H : Hp} {Q : VK} {E : XK} (h : sp__law_rows K ca vs H Q E) : vs.length = P__law_rows.length := nox_len (N := N__law_rows) (P := P__law_rows) h
theorem p__law_rows (T : Ct K ca) {vs : List V} {H : Hp} {Q : VK} {E : XK} (h : sp__law_rows K ca vs H Q E) : t__law_rows K ca { nx := fun _ H' => Q .non H', rt := Q } (L2.start N__law_rows vs) H := nox_ok (N := N__law_rows) (P := P__law_rows) (a__law_rows T) h
theorem a__law_begun (T : Ct K ca) : SS ⟨K, ca, none, none⟩ NoE (t__law_begun K ca) b__law_begun :=
  ss_seq (ss_own (se_lst (sa_nil))) (ss_seq (ss_lpM (hns_Stock_texts T) (fun ds h => runG_arity ds h) (se_var 0) (sa_cons (se_var 1) (sa_nil)) (lp_t (sg_name 4) (ss_seq (ss_app (se_var 4)) (ss_if (st_val (se_op sr_eq (se_cb sc_len (sa_cons (se_var 3) (sa_nil))) (se_var 2))) (ss_break) (ss_next))))) (ss_retV 3))
theorem len__law_begun {vs : List V} {H : Hp} {Q : VK} {E : XK} (h : sp__law_begun K ca vs H Q E) : vs.length = P__law_begun.length := nox_len (N := N__law_begun) (P := P__law_begun) h
theorem p__law_begun (T : Ct K ca) {vs : List V} {H : Hp} {Q : VK} {E : XK} (h : sp__law_begun K ca vs H Q E) : t__law_begun K ca { nx := fun _ H' => Q .non H', rt := Q } (L2.start N__law_begun vs) H := nox_ok (N := N__law_begun) (P := P__law_begun) (a__law_begun T) h
theorem a__law_nested_right (T : Ct K ca) : SS ⟨K, ca, none, none⟩ NoE (t__law_nested_right K ca) b__law_nested_right :=
  ss_seq (ss_own (se_lst (sa_nil))) (ss_seq (ss_lpM (hns_Stock_texts T) (fun ds h => runG_arity ds h) (se_var 0) (sa_cons (se_int _) (sa_nil)) (lp_t (sg_name 4) (ss_lpM (hns_Stock_texts T) (fun ds h => runG_arity ds h) (se_var 0) (sa_cons (se_var 1) (sa_nil)) (lp_t (sg_name 5) (ss_app (se_lst (sa_cons (se_var 4) (sa_cons (se_var 5) (sa_nil))))))))) (ss_seq (ss_asg (se_var 2) (sg_ts (sgs_cons (sg_name 6) (sgs_cons (sg_name 7) (sgs_cons (sg_name 8) (sgs_nil)))))) (ss_seq (ss_asg (se_tup (sa_cons (se_callN (nox_no _) (sa_cons (se_var 6) (sa_cons (se_var 7) (sa_cons (se_var 8) (sa_cons (se_int _) (sa_nil)))))) (sa_cons (se_callN (nox_no _) (sa_cons (se_var 6) (sa_cons (se_var 7) (sa_cons (se_var 8) (sa_cons (se_var 1) (sa_nil)))))) (sa_nil)))) (sg_ts (sgs_cons (sg_name 9) (sgs_cons (sg_name 10) (sgs_nil))))) (ss_ret (se_op sr_eq (se_var 3) (se_lc (si_rng1 (sa_cons (se_op sr_mul (se_cb sc_len (sa_cons (se_var 9) (sa_nil))) (se_cb sc_len (sa_cons (se_var 10) (sa_nil)))) (sa_nil))) (sg_name 11) (st_yes) (se_lst (sa_cons (se_op sr_ix (se_var 9) (se_op sr_fdiv (se_var 11) (se_cb sc_len (sa_cons (se_var 10) (sa_nil))))) (sa_cons (se_op sr_ix (se_var 10) (se_op sr_mod (se_var 11) (se_cb sc_len (sa_cons (se_var 10) (sa_nil))))) (sa_nil))))))))))
theorem len__law_nested_right {vs : List V} {H : Hp} {Q : VK} {E : XK} (h : sp__law_nested_right K ca vs H Q E) : vs.length = P__law_nested_right.length := nox_len (N := N__law_nested_right) (P := P__law_nested_right) h
theorem p__law_nested_right (T : Ct K ca) {vs : List V} {H : Hp} {Q : VK} {E : XK} (h : sp__law_nested_right K ca vs H Q E) : t__law_nested_right K ca { nx := fun _ H' => Q .non H', rt := Q } (L2.start N__law_nested_right vs) H := nox_ok (N := N__law_nested_right) (P := P__law_nested_right) (a__law_nested_right T) h
theorem a__law_right (T : Ct K ca) : SS ⟨K, ca, none, none⟩ NoE (t__law_right K ca) b__law_right :=
  ss_seq (ss_asg (se_callN (nox_no _) (sa_cons (se_callN (nox_no _) (sa_cons (se_var 0) (sa_cons (se_int _) (sa_nil)))) (sa_nil))) (sg_name 1)) (ss_seq (ss_asg (se_op sr_add (se_int _) (se_callN (nox_no _) (sa_cons (se_var 0) (sa_cons (se_int _) (sa_nil))))) (sg_name 2)) (ss_seq (ss_asg (se_op sr_add (se_var 2) (se_callN (nox_no _) (sa_cons (se_var 0) (sa_cons (se_int _) (sa_nil))))) (sg_name 3)) (ss_seq (ss_asg (se_mkK (sa_cons (se_var 1) (sa_nil)) (sa_cons (se_var 2) (sa_cons (se_var 3) (sa_nil))) (fun x h1 h2 => ⟨_, rfl, by unfold g_Stock___init___shortest_longest; repeat (first | exact h1 | apply RAll.app | apply RAll.take | apply RAll.drop | exact h2 | exact dflt_all (by rfl) | exact .cons (.int _) .nil | exact .cons .non .nil | exact .cons (.bl _) .nil | exact .cons (.str _) .nil)⟩)) (sg_name 4)) (ss_seq (ss_asg (se_callN (nox_no _) (sa_cons (se_var 0) (sa_cons (se_int _) (sa_nil)))) (sg_name 5)) (ss_seq (ss_asg (se_op sr_mul (se_cb sc_len (sa_cons (se_var 1) (sa_nil))) (se_op sr_sub (se_op sr_add (se_var 3) (se_int _)) (se_var 2))) (sg_name 6)) (ss_seq (ss_while (st_val (se_op (sr_cmp _ _) (se_callN (nox_no _) (sa_cons (se_var 6) (sa_cons (se_var 5) (sa_nil)))) (se_int _))) (ss_asg (se_op sr_sub (se_var 5) (se_int _)) (sg_name 5))) (ss_seq (ss_asg (se_callN (nox_no _) (sa_cons (se_var 1) (sa_cons (se_var 2) (sa_cons (se_var 3) (sa_cons (se_var 5) (sa_nil)))))) (sg_name 7)) (ss_seq (ss_own (se_lst (sa_nil))) (ss_seq (ss_lpM (hns_Stock_texts T) (fun ds h => runG_arity ds h) (se_var 4) (sa_cons (se_var 5) (sa_nil)) (lp_o (ss_seq (ss_if (st_not (st_val (se_isi .lst (se_var 9)))) (ss_ret (se_bl _)) (ss_next)) (ss_seq (ss_app (se_cb sc_list (sa_cons (se_var 9) (sa_nil)))) (ss_clr))))) (ss_seq (ss_if (st_or (st_val (se_op sr_ne (se_var 8) (se_var 7))) (st_val (se_op sr_ne (se_cb sc_len (sa_cons (se_var 8) (sa_nil))) (se_meth (se_var 4) (sa_cons (se_var 5) (sa_nil)))))) (ss_ret (se_bl _)) (ss_next)) (ss_seq (ss_if (st_not (st_val (se_callN (nox_no _) (sa_cons (se_var 4) (sa_cons (se_cb sc_min (sa_cons (se_var 5) (sa_cons (se_int _) (sa_nil)))) (sa_cons (se_lst (sa_cons (se_var 1) (sa_cons (se_var 2) (sa_cons (se_var 3) (sa_nil))))) (sa_nil))))))) (ss_ret (se_bl _)) (ss_next)) (ss_seq (ss_if (st_val (se_op sr_ne (se_callN (nox_no _) (sa_cons (se_var 4) (sa_cons (se_var 5) (sa_cons (se_int _) (sa_nil))))) (se_sl (se_var 7) (so_none) (so_some (se_int _))))) (ss_ret (se_bl _)) (ss_next)) (ss_seq (ss_if (st_val (se_op (sr_cmp _ _) (se_callN (nox_no _) (sa_cons (se_var 0) (sa_cons (se_int _) (sa_nil)))) (se_int _))) (ss_ret (se_bl _)) (ss_next)) (ss_seq (ss_asg (se_op sr_add (se_int _) (se_callN (nox_no _) (sa_cons (se_var 0) (sa_cons (se_int _) (sa_nil))))) (sg_name 5)) (ss_seq (ss_asg (se_sl (se_lc (si_iter (se_var 1)) (sg_name 13) (st_val (se_op sr_eq (se_op sr_ix (se_var 13) (se_int _)) (se_str _))) (se_tup (sa_cons (se_op sr_add (se_str _) (se_op sr_ix (se_var 13) (se_int _))) (sa_cons (se_op sr_mul (se_str _) (se_var 2)) (sa_nil))))) (so_none) (so_some (se_int _))) (sg_name 10)) (ss_seq (ss_asg (se_op sr_add (se_var 10) (se_op sr_mul (se_lst (sa_cons (se_tup (sa_cons (se_op sr_ix (se_var 1) (se_int _)) (sa_cons (se_op sr_mul (se_str _) (se_var 2)) (sa_nil)))) (sa_nil))) (se_op sr_sub (se_var 5) (se_int _)))) (sg_name 11)) (ss_seq (ss_asg (se_callN (nox_no _) (sa_cons (se_var 4) (sa_cons (se_var 5) (sa_cons (se_int _) (sa_nil))))) (sg_name 12)) (ss_seq (ss_if (st_val (se_op sr_ne (se_op sr_ix (se_var 12) (se_int _)) (se_var 11))) (ss_ret (se_bl _)) (ss_next)) (ss_seq (ss_if (st_val (se_op sr_eq (se_var 6) (se_int _))) (ss_ret (se_op sr_eq (se_cb sc_len (sa_cons (se_var 12) (sa_nil))) (se_int _))) (ss_next)) (ss_seq (ss_asg (se_op sr_ix (se_callN (nox_no _) (sa_cons (se_var 1) (sa_cons (se_var 2) (sa_cons (se_var 3) (sa_nil))))) (se_int _)) (sg_ts (sgs_cons (sg_name 13) (sgs_cons (sg_name 14) (sgs_nil))))) (ss_ret (se_op sr_eq (se_op sr_ix (se_var 12) (se_int _)) (se_op sr_add (se_sl (se_var 11) (so_none) (so_some (se_neg (se_int _)))) (se_lst (sa_cons (se_tup (sa_cons (se_var 13) (sa_cons (se_op sr_mul (se_str _) (se_var 14)) (sa_nil)))) (sa_nil))))))))))))))))))))))))))
theorem len__law_right {vs : List V} {H : Hp} {Q : VK} {E : XK} (h : sp__law_right K ca vs H Q E) : vs.length = P__law_right.length := nox_len (N := N__law_right) (P := P__law_right) h
theorem p__law_right (T : Ct K ca) {vs : List V} {H : Hp} {Q : VK} {E : XK} (h : sp__law_right K ca vs H Q E) : t__law_right K ca { nx := fun _ H' => Q .non H', rt := Q } (L2.start N__law_right vs) H := nox_ok (N := N__law_right) (P := P__law_right) (a__law_right T) h
theorem a_law (T : Ct K ca) : SS ⟨K, ca, none, none⟩ NoE (t_law K ca) b_law :=
  ss_seq (ss_for (si_rng1 (sa_cons (se_cb sc_max (sa_cons (se_int _) (sa_cons (se_cb sc_min (sa_cons (se_int _) (sa_cons (se_cb sc_len (sa_cons (se_var 0) (sa_nil))) (sa_nil)))) (sa_nil)))) (sa_nil))) (sg_name 1) (ss_if (st_not (st_val (se_callN (nox_no _) (sa_cons (se_ado (se_callN (nox_no _) (sa_cons (se_callN (nox_no _) (sa_cons (se_var 0) (sa_cons (se_var 1) (sa_nil)))) (sa_nil)))) (sa_nil))))) (ss_ret (se_bl _)) (ss_next))) (ss_ret (se_bl _))
theorem len_law {vs : List V} {H : Hp} {Q : VK} {E : XK} (h : sp_law K ca vs H Q E) : vs.length = P_law.length := nox_len (N := N_law) (P := P_law) h
theorem p_law (T : Ct K ca) {vs : List V} {H : Hp} {Q : VK} {E : XK} (h : sp_law K ca vs H Q E) : t_law K ca { nx := fun _ H' => Q .non H', rt := Q } (L2.start N_law vs) H := nox_ok (N := N_law) (P := P_law) (a_law T) h
theorem a_Stock___init__ (T : Ct K ca) {E : XK} (x : Addr) : SS ⟨K, ca, none, some x⟩ (fun cls d _ H => E cls d H) (t_Stock___init__ K ca E) b_Stock___init__ :=
  ss_seq (ss_if (st_not (st_val (se_callN (nox_no _) (sa_cons (se_var 1) (sa_nil))))) (ss_raise (fun _ _ _ _ h => h) (sa_cons (se_var 1) (sa_nil))) (ss_next)) (ss_seq (ss_if (st_not (st_val (se_callN (nox_no _) (sa_cons (se_var 2) (sa_cons (se_int _) (sa_cons (se_int _) (sa_nil))))))) (ss_raise (fun _ _ _ _ h => h) (sa_cons (se_var 2) (sa_nil))) (ss_next)) (ss_seq (ss_if (st_not (st_val (se_callN (nox_no _) (sa_cons (se_var 3) (sa_cons (se_var 2) (sa_cons (se_int _) (sa_nil))))))) (ss_raise (fun _ _ _ _ h => h) (sa_cons (se_var 3) (sa_nil))) (ss_next)) (ss_seq (ss_setF (hcf_ T) (se_lc (si_iter (se_callN (nox_no _) (sa_nil))) (sg_name 4) (st_val (se_op (sr_in false) (se_var 4) (se_var 1))) (se_var 4))) (ss_seq (ss_setF (hcf_ T) (se_var 2)) (ss_seq (ss_setF (hcf_ T) (se_var 3)) (ss_setF (hcf_ T) (se_lc2 (si_iter (se_fld (hcf_ T) (se_var 0))) (sg_name 4) (st_yes) (si_rng2 (sa_cons (se_var 2) (sa_cons (se_op sr_add (se_var 3) (se_int _)) (sa_nil)))) (sg_name 5) (st_yes) (se_tup (sa_cons (se_var 4) (sa_cons (se_var 5) (sa_nil)))))))))))
theorem len_Stock___init__ {vs : List V} {H : Hp} {Q : VK} {E : XK} (h : sp_Stock___init__ K ca vs H Q E) : vs.length = P_Stock___init__.length := runI_len (N := N_Stock___init__) (P := P_Stock___init__) h
theorem p_Stock___init__ (T : Ct K ca) {vs : List V} {H : Hp} {Q : VK} {E : XK} (h : sp_Stock___init__ K ca vs H Q E) : t_Stock___init__ K ca E { nx := fun _ H' => Q .non H', rt := Q } (L2.start N_Stock___init__ vs) H := runI_ok (N := N_Stock___init__) (P := P_Stock___init__) (a_Stock___init__ T) h
theorem a_Stock_letters (T : Ct K ca) : SS ⟨K, ca, none, none⟩ NoE (t_Stock_letters K ca) b_Stock_letters :=
  ss_ret (se_cb sc_list (sa_cons (se_fld (hcf_ T) (se_var 0)) (sa_nil)))
theorem len_Stock_letters {vs : List V} {H : Hp} {Q : VK} {E : XK} (h : sp_Stock_letters K ca vs H Q E) : vs.length = P_Stock_letters.length := nox_len (N := N_Stock_letters) (P := P_Stock_letters) h
theorem p_Stock_letters (T : Ct K ca) {vs : List V} {H : Hp} {Q : VK} {E : XK} (h : sp_Stock_letters K ca vs H Q E) : t_Stock_letters K ca { nx := fun _ H' => Q .non H', rt := Q } (L2.start N_Stock_letters vs) H := nox_ok (N := N_Stock_letters) (P := P_Stock_letters) (a_Stock_letters T) h
theorem a_Stock_first_letters (T : Ct K ca) : SS ⟨K, ca, none, none⟩ NoE (t_Stock_first_letters K ca) b_Stock_first_letters :=
  ss_ret (se_lc (si_iter (se_meth (se_var 0) (sa_nil))) (sg_ts (sgs_cons (sg_name 1) (sgs_cons (sg_name 2) (sgs_nil)))) (st_val (se_op sr_eq (se_op sr_ix (se_var 1) (se_int _)) (se_str _))) (se_tup (sa_cons (se_var 1) (sa_cons (se_var 2) (sa_nil)))))
theorem len_Stock_first_letters {vs : List V} {H : Hp} {Q : VK} {E : XK} (h : sp_Stock_first_letters K ca vs H Q E) : vs.length = P_Stock_first_letters.length := nox_len (N := N_Stock_first_letters) (P := P_Stock_first_letters) h
theorem p_Stock_first_letters (T : Ct K ca) {vs : List V} {H : Hp} {Q : VK} {E : XK} (h : sp_Stock_first_letters K ca vs H Q E) : t_Stock_first_letters K ca { nx := fun _ H' => Q .non H', rt := Q } (L2.start N_Stock_first_letters vs) H := nox_ok (N := N_Stock_first_letters) (P := P_Stock_first_letters) (a_Stock_first_letters T) h
theorem a_Stock_amount (T : Ct K ca) {E : XK} : SS ⟨K, ca, none, none⟩ (fun cls d _ H => E cls d H) (t_Stock_amount K ca E) b_Stock_amount :=
  ss_seq (ss_expr (se_call (fun _ _ _ _ h => h) (sa_cons (se_var 1) (sa_nil)))) (ss_seq (ss_asg (se_if (st_val (se_op sr_eq (se_var 1) (se_int _))) (se_int _) (se_cb sc_len (sa_cons (se_meth (se_var 0) (sa_nil)) (sa_nil)))) (sg_name 2)) (ss_seq (ss_for (si_rng1 (sa_cons (se_op sr_sub (se_var 1) (se_int _)) (sa_nil))) (sg_name 3) (ss_augD sr_mulI (se_cb sc_len (sa_cons (se_fld (hcf_ T) (se_var 0)) (sa_nil))))) (ss_retV 2)))
theorem len_Stock_amount {vs : List V} {H : Hp} {Q : VK} {E : XK} (h : sp_Stock_amount K ca vs H Q E) : vs.length = P_Stock_amount.length := run_len (N := N_Stock_amount) (P := P_Stock_amount) h
theorem p_Stock_amount (T : Ct K ca) {vs : List V} {H : Hp} {Q : VK} {E : XK} (h : sp_Stock_amount K ca vs H Q E) : t_Stock_amount K ca E { nx := fun _ H' => Q .non H', rt := Q } (L2.start N_Stock_amount vs) H := run_ok (N := N_Stock_amount) (P := P_Stock_amount) (a_Stock_amount T) h
theorem a_Stock_texts (T : Ct K ca) {E : XK} : SGB ⟨K, ca, none, none⟩ (fun cls d _ H => E cls d H) (t_Stock_texts K ca E) b_Stock_texts :=
  sgb_for (si_rng1X (sa_cons (se_meth (se_var 0) (sa_cons (se_var 1) (sa_nil))) (sa_nil))) (sg_name 2) (sgn_seq (sgn_yd (se_meth (se_var 0) (sa_cons (se_var 1) (sa_cons (se_var 2) (sa_nil))))) (sgn_nil))
theorem len_Stock_texts {Γ : Type} {vs : List V} {H : Hp} {γ : Γ} {YL : YLT Γ} {EN : Hp → Γ → Prop} {E : XK} (h : sp_Stock_texts K ca Γ vs H γ YL EN E) : vs.length = P_Stock_texts.length := runG_len (N := N_Stock_texts) (P := P_Stock_texts) h
theorem p_Stock_texts (T : Ct K ca) {Γ : Type} {vs : List V} {H : Hp} {γ : Γ} {YL : YLT Γ} {EN : Hp → Γ → Prop} {E : XK} (h : sp_Stock_texts K ca Γ vs H γ YL EN E) : ∃ n, t_Stock_texts K ca E Γ { nx := fun _ _ H' γ' => EN H' γ', rt := fun _ v H' γ' => v = .non ∧ EN H' γ', yl := YL } n (L2.start N_Stock_texts vs) H γ := runG_ok (N := N_Stock_texts) (P := P_Stock_texts) (a_Stock_texts T) h
theorem a_Stock_text_at (T : Ct K ca) {E : XK} : SS ⟨K, ca, none, none⟩ (fun cls d _ H => E cls d H) (t_Stock_text_at K ca E) b_Stock_text_at :=
  ss_seq (ss_if (st_not (st_val (se_callN (nox_no _) (sa_cons (se_var 2) (sa_cons (se_int _) (sa_cons (se_op sr_sub (se_meth (se_var 0) (sa_cons (se_var 1) (sa_nil))) (se_int _)) (sa_nil))))))) (ss_raise (fun _ _ _ _ h => h) (sa_cons (se_var 2) (sa_nil))) (ss_next)) (ss_seq (ss_asg (se_meth (se_var 0) (sa_nil)) (sg_name 3)) (ss_seq (ss_own (se_lst (sa_nil))) (ss_seq (ss_for (si_rng1 (sa_cons (se_op sr_sub (se_var 1) (se_int _)) (sa_nil))) (sg_name 5) (ss_seq (ss_app (se_op sr_ix (se_var 3) (se_op sr_mod (se_var 2) (se_cb sc_len (sa_cons (se_var 3) (sa_nil)))))) (ss_augD sr_fdiv (se_cb sc_len (sa_cons (se_var 3) (sa_nil)))))) (ss_seq (ss_if (st_val (se_op (sr_cmp _ _) (se_var 1) (se_int _))) (ss_app (se_op sr_ix (se_meth (se_var 0) (sa_nil)) (se_var 2))) (ss_next)) (ss_ret (se_callN (nox_no _) (sa_cons (se_rev (se_var 4)) (sa_nil))))))))
theorem len_Stock_text_at {vs : List V} {H : Hp} {Q : VK} {E : XK} (h : sp_Stock_text_at K ca vs H Q E) : vs.length = P_Stock_text_at.length := run_len (N := N_Stock_text_at) (P := P_Stock_text_at) h
theorem p_Stock_text_at (T : Ct K ca) {vs : List V} {H : Hp} {Q : VK} {E : XK} (h : sp_Stock_text_at K ca vs H Q E) : t_Stock_text_at K ca E { nx := fun _ H' => Q .non H', rt := Q } (L2.start N_Stock_text_at vs) H := run_ok (N := N_Stock_text_at) (P := P_Stock_text_at) (a_Stock_text_at T) h
end
section
variable {P : Program} {w : World} {K : PySem.W.Frag} {mg : Str → Option Value} {base : Heap} {a : Nat → Addr} {d : Nat → FuncData} {ca : Nat → Addr}
theorem okI_InvalidMarks (T : Tx P K mg a d ca) : FnOk P w K mg base CX0 1 (a 26) (d 26) ["self", "value"] (U.spI (ca 2) "value") :=
  T.F_InvalidMarks.ok scI_InvalidMarks (fun vs H Q E h => U.len_spI h) (fun cdv A outer s H vs Q E hr h => ⟨U.tI K "value" "not a list of marks that is asked for", pss_cons (ps_expr (U.pe_binit T.y_ReflowError rfl T.w_ReflowError (pa_cons (U.pu 0) (pa_cons pe_str pa_nil)))) (pss_one (ps_ost (U.pu 0) (U.pu 1))), U.p_init T.x_InvalidMarks h⟩)
theorem okI_InvalidInteger (T : Tx P K mg a d ca) : FnOk P w K mg base CX0 1 (a 27) (d 27) ["self", "value"] (U.spI (ca 4) "value") :=
  T.F_InvalidInteger.ok scI_InvalidInteger (fun vs H Q E h => U.len_spI h) (fun cdv A outer s H vs Q E hr h => ⟨U.tI K "value" "not an integer that is asked for", pss_cons (ps_expr (U.pe_binit T.y_ReflowError rfl T.w_ReflowError (pa_cons (U.pu 0) (pa_cons pe_str pa_nil)))) (pss_one (ps_ost (U.pu 0) (U.pu 1))), U.p_init T.x_InvalidInteger h⟩)
theorem v_is_integer (T : Tx P K mg a d ca)      {fa : Addr} {cdv : Value} {A : Around} {outer : List Env} {s : Shared} {H : Hp} {E : XK} (hr : Room 0 (A.deeper (envOfC "is_integer" (defScope s_is_integer) s.heap.objs.size fa cdv))) :
    PSs ((cxOf CX0 P w K mg base N_is_integer "is_integer" (defScope s_is_integer) fa cdv A outer s H E).nox) (defBody s_is_integer) (t_is_integer K ca) :=
  pss_one (ps_ret (pue_and (pue_isi .int (pu 0) rfl T.z_isinstance rfl T.z_int (by decide +kernel)) (pue_and (pue_not (pue_isi .bl (pu 0) rfl T.z_isinstance rfl T.z_bool (by decide +kernel))) (pe_one (pue_chain ou_le ou_le (pu 1) (pu 0) (pu 2))))))
theorem v_is_mark (T : Tx P K mg a d ca)      {fa : Addr} {cdv : Value} {A : Around} {outer : List Env} {s : Shared} {H : Hp} {E : XK} (hr : Room 0 (A.deeper (envOfC "is_mark" (defScope s_is_mark) s.heap.objs.size fa cdv))) :
    PSs ((cxOf CX0 P w K mg base N_is_mark "is_mark" (defScope s_is_mark) fa cdv A outer s H E).nox) (defBody s_is_mark) (t_is_mark K ca) :=
  pss_cons (pus_if (put_not (put_val (pue_isi .str (pu 0) rfl T.z_isinstance rfl T.z_str (by decide +kernel)))) (pss_one (ps_ret (pe_bl))) (pss_nil)) (pss_one (ps_ret (pue_or (pe_cmpR (ou_eq2 hr.units) (pu 0) (pe_str) (nomark _)) (pe_one (pue_and (pe_cmpR (ou_eq2 hr.units) (pe_callB cu_len (by rfl) T.z_len (by decide +kernel) (pa_cons (pu 0) (pa_nil))) (pe_int) (nomark _)) (pue_and (pe_cmpR ou_in (pe_ix iu_ix (pu 0) (pe_int) (fun _ _ => rfl)) (pe_glob rfl T.c_KINDS.choose_spec ⟨_, rfl⟩) (by rfl)) (pe_one (pe_cmpR ou_in (pe_ix iu_ix (pu 0) (pe_int) (fun _ _ => rfl)) (pe_str) (by rfl)))))))))
theorem v_all_marks (T : Tx P K mg a d ca)      {fa : Addr} {cdv : Value} {A : Around} {outer : List Env} {s : Shared} {H : Hp} {E : XK} (hr : Room 0 (A.deeper (envOfC "all_marks" (defScope s_all_marks) s.heap.objs.size fa cdv))) :
    PSs ((cxOf CX0 P w K mg base N_all_marks "all_marks" (defScope s_all_marks) fa cdv A outer s H E).nox) (defBody s_all_marks) (t_all_marks K ca) :=
  pss_one (ps_ret (pe_op ou_add (pe_lst (pa_cons (pe_str) (pa_nil))) (pe_lc2 (own := [("kind", 0), ("indent", 1)]) (vs1 := [1]) (g := gName 0) (tt := tYes) (wi1 := iRng1 (tCons (tOp (uAdd K) (tC (.int 3)) (tC (.int 1))) (tNil))) (g1 := gName 1) (tt1 := tYes) (te := tOp (uAdd K) (uVar 0) (tCB uStrX (tCons (uVar 1) (tNil)))) rfl sc_all_marks.nd (piu (pe_glob rfl T.c_KINDS.choose_spec ⟨_, rfl⟩)) (blkOk_by (own := [("kind", 0), ("indent", 1)]) (N := N_all_marks) (sc := defScope s_all_marks) (by decide +kernel)) (by decide) (fun _ _ _ _ _ => pg_name (i := 0) sc_all_marks.nd rfl (Or.inl rfl)) (fun _ _ _ _ _ => pts_nil) (fun _ _ _ _ _ => pi_range1 rfl T.z_range (pa_cons (pe_op ou_add (pe_glob rfl T.c_MOST_INDENT.choose_spec ⟨_, rfl⟩) (pe_int)) (pa_nil))) (fun _ _ _ _ _ => pg_name (i := 1) sc_all_marks.nd rfl (Or.inl rfl)) (fun _ _ _ _ _ => pts_nil) (fun _ _ _ _ _ => pe_op ou_add (pu 0) (pe_callTy cu_strX (by rfl) T.z_str (by decide +kernel) (pa_cons (pu 1) (pa_nil)))))))
theorem v_are_stock_marks (T : Tx P K mg a d ca) (G_is_mark : FnOk P w K mg base CX0 1 (a 1) (d 1) P_is_mark (sp_is_mark K ca))     {fa : Addr} {cdv : Value} {A : Around} {outer : List Env} {s : Shared} {H : Hp} {E : XK} (hr : Room 1 (A.deeper (envOfC "are_stock_marks" (defScope s_are_stock_marks) s.heap.objs.size fa cdv))) :
    PSs ((cxOf CX0 P w K mg base N_are_stock_marks "are_stock_marks" (defScope s_are_stock_marks) fa cdv A outer s H E).nox) (defBody s_are_stock_marks) (t_are_stock_marks K ca) :=
  pss_cons (pus_if (PW.pt (puw_or (put_not (put_val (pe_callB (cu_isiT [.lst, .tup]) rfl T.z_isinstance (by decide +kernel) (pa_cons (pu 0) (pa_cons (pe_tup (pa_cons (pe_bltn rfl T.z_list (by decide +kernel) rfl) (pa_cons (pe_bltn rfl T.z_tuple (by decide +kernel) rfl) (pa_nil)))) pa_nil))))) (pw_or1 (put_not (put_val (pe_callB (cu_all rfl) (by rfl) T.z_all (by decide +kernel) (pa_cons (pe_lc (own := [("mark", 1)]) (g := gName 1) (tt := tYes) (te := tCall (sp_is_mark K ca) [] E0 (tCons (uVar 1) (tNil))) rfl sc_are_stock_marks.nd (piu (pu 0)) (blkOk_by (own := [("mark", 1)]) (N := N_are_stock_marks) (sc := defScope s_are_stock_marks) (by decide +kernel)) (fun _ _ _ _ _ => pg_name (i := 1) sc_are_stock_marks.nd rfl (Or.inl rfl)) (fun _ _ _ _ _ => pts_nil) (fun _ _ _ _ _ => pe_call G_is_mark (hr.mono (by decide)) rfl T.m_is_mark T.f_is_mark.kp T.b_is_mark .nil pass0 (pa_cons (pu 1) (pa_nil)))) (pa_nil)))))))) (pss_one (ps_ret (pe_bl))) (pss_nil)) (pss_one (ps_ret (pe_callB (cu_any rfl) (by rfl) T.z_any (by decide +kernel) (pa_cons (pe_lc (own := [("mark", 1)]) (g := gName 1) (tt := tYes) (te := tOp (uEq2 K) (tOp (uIx K) (uVar 1) (tC (.int 0))) (tC (.str "#"))) rfl sc_are_stock_marks.nd (piu (pu 0)) (blkOk_by (own := [("mark", 1)]) (N := N_are_stock_marks) (sc := defScope s_are_stock_marks) (by decide +kernel)) (fun _ _ _ _ _ => pg_name (i := 1) sc_are_stock_marks.nd rfl (Or.inl rfl)) (fun _ _ _ _ _ => pts_nil) (fun _ _ _ _ _ => pe_cmpR (ou_eq2 hr.units) (pe_ix iu_ix (pu 1) (pe_int) (fun _ _ => rfl)) (pe_str) (nomark _))) (pa_nil)))))
theorem v_need_many (T : Tx P K mg a d ca) (G_is_integer : FnOk P w K mg base CX0 1 (a 0) (d 0) P_is_integer (sp_is_integer K ca)) (I_InvalidInteger : FnOk P w K mg base CX0 1 (a 27) (d 27) ["self", "value"] (U.spI (ca 4) "value"))    {fa : Addr} {cdv : Value} {A : Around} {outer : List Env} {s : Shared} {H : Hp} {E : XK} (hr : Room 2 (A.deeper (envOfC "need_many" (defScope s_need_many) s.heap.objs.size fa cdv))) :
    PSs (cxOf (L2.CX P w) P w K mg base N_need_many "need_many" (defScope s_need_many) fa cdv A outer s H E) (defBody s_need_many) (t_need_many K ca E) :=
  pss_one (pus_if (put_not (put_val (pe_call G_is_integer (hr.mono (by decide)) rfl T.m_is_integer T.f_is_integer.kp T.b_is_integer .nil pass0 (pa_cons (pu 0) (pa_cons (pe_int) (pa_cons (pe_glob rfl T.c_MOST_TOKENS.choose_spec ⟨_, rfl⟩) (pa_nil))))))) (pss_one (ps_raiseu rfl (takes_of rfl rfl rfl rfl) (pmku T.x_InvalidInteger I_InvalidInteger (hr.mono (by decide)) T.i_InvalidInteger pass0 rfl (pa_cons (pu 0) (pa_nil))))) (pss_nil))
theorem v_text_of_letters (T : Tx P K mg a d ca)      {fa : Addr} {cdv : Value} {A : Around} {outer : List Env} {s : Shared} {H : Hp} {E : XK} (hr : Room 0 (A.deeper (envOfC "text_of_letters" (defScope s_text_of_letters) s.heap.objs.size fa cdv))) :
    PSs ((cxOf CX0 P w K mg base N_text_of_letters "text_of_letters" (defScope s_text_of_letters) fa cdv A outer s H E).nox) (defBody s_text_of_letters) (t_text_of_letters K ca) :=
  pss_one (ps_ret (pe_lc (own := [("mark", 1), ("length", 2)]) (g := gTs K 2 (gCons (gName 1) (gCons (gName 2) (gNil)))) (tt := tYes) (te := tTup (tCons (uVar 1) (tCons (tOp uMul3 (tC (.str "a")) (uVar 2)) (tNil)))) rfl sc_text_of_letters.nd (piu (pu 0)) (blkOk_by (own := [("mark", 1), ("length", 2)]) (N := N_text_of_letters) (sc := defScope s_text_of_letters) (by decide +kernel)) (fun _ _ _ _ _ => pg_ts rfl (pgs_cons (pg_name (i := 1) sc_text_of_letters.nd rfl (Or.inl rfl)) (pgs_cons (pg_name (i := 2) sc_text_of_letters.nd rfl (Or.inl rfl)) (pgs_nil)))) (fun _ _ _ _ _ => pts_nil) (fun _ _ _ _ _ => pe_tup (pa_cons (pu 1) (pa_cons (pe_op ou_mul3 (pe_str) (pu 2)) (pa_nil))))))
theorem v__law_cell (T : Tx P K mg a d ca)      {fa : Addr} {cdv : Value} {A : Around} {outer : List Env} {s : Shared} {H : Hp} {E : XK} (hr : Room 0 (A.deeper (envOfC "_law_cell" (defScope s__law_cell) s.heap.objs.size fa cdv))) :
    PSs ((cxOf CX0 P w K mg base N__law_cell "_law_cell" (defScope s__law_cell) fa cdv A outer s H E).nox) (defBody s__law_cell) (t__law_cell K ca) :=
  pss_cons (pus_if (put_cmp ou_lt (pu 1) (pe_callB cu_len (by rfl) T.z_len (by decide +kernel) (pa_cons (pu 0) (pa_nil))) (nomark _)) (pss_one (ps_ret (pe_ix iu_ix (pu 0) (pu 1) (fun _ _ => rfl)))) (pss_nil)) (pss_one (ps_ret (pe_op ou_add (pe_op ou_mul3 (pe_int) (pu 1)) (pe_int))))
theorem v__law_purse (T : Tx P K mg a d ca)      {fa : Addr} {cdv : Value} {A : Around} {outer : List Env} {s : Shared} {H : Hp} {E : XK} (hr : Room 0 (A.deeper (envOfC "_law_purse" (defScope s__law_purse) s.heap.objs.size fa cdv))) :
    PSs ((cxOf CX0 P w K mg base N__law_purse "_law_purse" (defScope s__law_purse) fa cdv A outer s H E).nox) (defBody s__law_purse) (t__law_purse K ca) :=
  pss_one (ps_ret (pe_lst (pa_cons (pe_callB (cu_max rfl) (by rfl) T.z_max (by decide +kernel) (pa_cons (pe_int) (pa_cons (pe_op ou_sub (pu 0) (pe_op ou_pow (pe_int) (pe_int))) (pa_nil)))) (pa_cons (pe_op ou_mod (pu 0) (pe_int)) (pa_cons (pe_int) (pa_nil))))))
theorem v__law_take (T : Tx P K mg a d ca)      {fa : Addr} {cdv : Value} {A : Around} {outer : List Env} {s : Shared} {H : Hp} {E : XK} (hr : Room 0 (A.deeper (envOfC "_law_take" (defScope s__law_take) s.heap.objs.size fa cdv))) :
    PSs ((cxOf CX0 P w K mg base N__law_take "_law_take" (defScope s__law_take) fa cdv A outer s H E).nox) (defBody s__law_take) (t__law_take K ca) :=
  pss_cons (pus_if (put_cmp ou_gt (pe_ix iu_ix (pu 0) (pe_int) (fun _ _ => rfl)) (pe_int) (nomark _)) (pss_cons (ps_set (i := 2) sc__law_take.nd rfl (Or.inl rfl) (pe_op ou_mod (pe_ix iu_ix (pu 0) (pe_int) (fun _ _ => rfl)) (pu 1))) (pss_cons (ps_asg (pe_op ou_fdiv (pe_ix iu_ix (pu 0) (pe_int) (fun _ _ => rfl)) (pu 1)) (pg_sub (pu 0) (pe_int) setu)) (pss_one (ps_ret (pu 2))))) (pss_nil)) (pss_cons (ps_asg (pe_op ou_add (pe_ix iu_ix (pu 0) (pe_int) (fun _ _ => rfl)) (pe_int)) (pg_sub (pu 0) (pe_int) setu)) (pss_cons (ps_set (i := 3) sc__law_take.nd rfl (Or.inl rfl) (pe_op ou_mod (pe_op ou_pow (pe_op ou_add (pe_op ou_add (pe_ix iu_ix (pu 0) (pe_int) (fun _ _ => rfl)) (pe_op ou_mul3 (pe_int) (pe_ix iu_ix (pu 0) (pe_int) (fun _ _ => rfl)))) (pe_int)) (pe_int)) (pe_int))) (pss_cons (ps_set (i := 3) sc__law_take.nd rfl (Or.inl rfl) (pe_op ou_mod (pe_op ou_pow (pe_op ou_add (pu 3) (pe_op ou_mul3 (pe_int) (pe_ix iu_ix (pu 0) (pe_int) (fun _ _ => rfl)))) (pe_int)) (pe_int))) (pss_one (ps_ret (pe_op ou_mod (pe_op ou_fdiv (pu 3) (pe_int)) (pu 1)))))))
theorem v__law_all_marks (T : Tx P K mg a d ca)      {fa : Addr} {cdv : Value} {A : Around} {outer : List Env} {s : Shared} {H : Hp} {E : XK} (hr : Room 0 (A.deeper (envOfC "_law_all_marks" (defScope s__law_all_marks) s.heap.objs.size fa cdv))) :
    PSs ((cxOf CX0 P w K mg base N__law_all_marks "_law_all_marks" (defScope s__law_all_marks) fa cdv A outer s H E).nox) (defBody s__law_all_marks) (t__law_all_marks K ca) :=
  pss_one (ps_ret (pe_lst (pa_cons (pe_str) (pa_cons (pe_str) (pa_cons (pe_str) (pa_cons (pe_str) (pa_cons (pe_str) (pa_cons (pe_str) (pa_cons (pe_str) (pa_cons (pe_str) (pa_cons (pe_str) (pa_cons (pe_str) (pa_cons (pe_str) (pa_cons (pe_str) (pa_cons (pe_str) (pa_nil))))))))))))))))
theorem v__law_mark (T : Tx P K mg a d ca) (G__law_take : FnOk P w K mg base CX0 1 (a 8) (d 8) P__law_take (sp__law_take K ca))     {fa : Addr} {cdv : Value} {A : Around} {outer : List Env} {s : Shared} {H : Hp} {E : XK} (hr : Room 1 (A.deeper (envOfC "_law_mark" (defScope s__law_mark) s.heap.objs.size fa cdv))) :
    PSs ((cxOf CX0 P w K mg base N__law_mark "_law_mark" (defScope s__law_mark) fa cdv A outer s H E).nox) (defBody s__law_mark) (t__law_mark K ca) :=
  pss_cons (pus_if (put_cmp (ou_eq2 hr.units) (pe_call G__law_take (hr.mono (by decide)) rfl T.m__law_take T.f__law_take.kp T.b__law_take .nil pass0 (pa_cons (pu 0) (pa_cons (pe_int) (pa_nil)))) (pe_int) (nomark _)) (pss_one (ps_ret (pe_str))) (pss_nil)) (pss_one (ps_ret (pe_op ou_add (pe_ix iu_ix (pe_str) (pe_call G__law_take (hr.mono (by decide)) rfl T.m__law_take T.f__law_take.kp T.b__law_take .nil pass0 (pa_cons (pu 0) (pa_cons (pe_int) (pa_nil)))) (fun _ _ => rfl)) (pe_ix iu_ix (pe_str) (pe_call G__law_take (hr.mono (by decide)) rfl T.m__law_take T.f__law_take.kp T.b__law_take .nil pass0 (pa_cons (pu 0) (pa_cons (pe_int) (pa_nil)))) (fun _ _ => rfl)))))
theorem v__law_marks (T : Tx P K mg a d ca) (G__law_take : FnOk P w K mg base CX0 1 (a 8) (d 8) P__law_take (sp__law_take K ca)) (G__law_mark : FnOk P w K mg base CX0 2 (a 10) (d 10) P__law_mark (sp__law_mark K ca))     {fa : Addr} {cdv : Value} {A : Around} {outer : List Env} {s : Shared} {H : Hp} {E : XK} (hr : Room 2 (A.deeper (envOfC "_law_marks" (defScope s__law_marks) s.heap.objs.size fa cdv))) :
    PSs ((cxOf CX0 P w K mg base N__law_marks "_law_marks" (defScope s__law_marks) fa cdv A outer s H E).nox) (defBody s__law_marks) (t__law_marks K ca) :=
  pss_cons (ps_setLc (i := 2) (own := [("_law_k", 4)]) (g := gName 4) (tt := tYes) (te := tCall (sp__law_mark K ca) [] E0 (tCons (uVar 0) (tNil))) rfl sc__law_marks.nd rfl rfl (sw_true rfl rfl rfl (by decide +kernel)) (pi_range1 rfl T.z_range (pa_cons (pe_call G__law_take (hr.mono (by decide)) rfl T.m__law_take T.f__law_take.kp T.b__law_take .nil pass0 (pa_cons (pu 0) (pa_cons (pu 1) (pa_nil)))) (pa_nil))) (blkOk_by (own := [("_law_k", 4)]) (N := N__law_marks) (sc := defScope s__law_marks) (by decide +kernel)) (fun _ _ _ _ _ => pg_name (i := 4) sc__law_marks.nd rfl (Or.inl rfl)) (fun _ _ _ _ _ => pts_nil) (fun _ _ _ _ _ => pe_call G__law_mark (hr.mono (by decide)) rfl T.m__law_mark T.f__law_mark.kp T.b__law_mark .nil pass0 (pa_cons (pu 0) (pa_nil)))) (pss_cons (ps_set (i := 3) sc__law_marks.nd rfl (Or.inl rfl) (pe_call G__law_take (hr.mono (by decide)) rfl T.m__law_take T.f__law_take.kp T.b__law_take .nil pass0 (pa_cons (pu 0) (pa_cons (pe_op ou_add (pe_callB cu_len (by rfl) T.z_len (by decide +kernel) (pa_cons (pu 2) (pa_nil))) (pe_int)) (pa_nil))))) (pss_one (ps_ret (pe_op ou_add (pe_op ou_add (pe_slice su_sl (pu 2) (po_none) (pou_some (pu 3))) (pe_lst (pa_cons (pe_op ou_add (pe_str) (pe_ix iu_ix (pe_str) (pe_call G__law_take (hr.mono (by decide)) rfl T.m__law_take T.f__law_take.kp T.b__law_take .nil pass0 (pa_cons (pu 0) (pa_cons (pe_int) (pa_nil)))) (fun _ _ => rfl))) (pa_nil)))) (pe_slice su_sl (pu 2) (pou_some (pu 3)) (po_none))))))
theorem v__law_sorted (T : Tx P K mg a d ca) (G__law_all_marks : FnOk P w K mg base CX0 1 (a 9) (d 9) P__law_all_marks (sp__law_all_marks K ca))     {fa : Addr} {cdv : Value} {A : Around} {outer : List Env} {s : Shared} {H : Hp} {E : XK} (hr : Room 1 (A.deeper (envOfC "_law_sorted" (defScope s__law_sorted) s.heap.objs.size fa cdv))) :
    PSs ((cxOf CX0 P w K mg base N__law_sorted "_law_sorted" (defScope s__law_sorted) fa cdv A outer s H E).nox) (defBody s__law_sorted) (t__law_sorted K ca) :=
  pss_one (ps_ret (pe_lc (own := [("_law_one", 1)]) (g := gName 1) (tt := uT (tOp (uIn K false) (uVar 1) (uVar 0))) (te := uVar 1) rfl sc__law_sorted.nd (piu (pe_call0 G__law_all_marks (hr.mono (by decide)) rfl T.m__law_all_marks T.f__law_all_marks.kp T.b__law_all_marks .nil pass0)) (blkOk_by (own := [("_law_one", 1)]) (N := N__law_sorted) (sc := defScope s__law_sorted) (by decide +kernel)) (fun _ _ _ _ _ => pg_name (i := 1) sc__law_sorted.nd rfl (Or.inl rfl)) (fun _ _ _ _ _ => pts_one (put_cmp ou_in (pu 1) (pu 0) (by rfl))) (fun _ _ _ _ _ => pu 1)))
theorem v__law_letters (T : Tx P K mg a d ca)      {fa : Addr} {cdv : Value} {A : Around} {outer : List Env} {s : Shared} {H : Hp} {E : XK} (hr : Room 0 (A.deeper (envOfC "_law_letters" (defScope s__law_letters) s.heap.objs.size fa cdv))) :
    PSs ((cxOf CX0 P w K mg base N__law_letters "_law_letters" (defScope s__law_letters) fa cdv A outer s H E).nox) (defBody s__law_letters) (t__law_letters K ca) :=
  pss_cons (ps_set (i := 3) sc__law_letters.nd rfl (Or.inl rfl) (pe_lst (pa_nil))) (pss_cons (ps_for PassesOwn.never rfl (piu (pu 0)) (pg_name (i := 4) sc__law_letters.nd rfl (Or.inr rfl)) (pss_one (ps_set (i := 3) sc__law_letters.nd rfl (Or.inl rfl) (pe_op ou_add (pu 3) (pe_lc (own := [("_law_length", 5)]) (g := gName 5) (tt := tYes) (te := tTup (tCons (uVar 4) (tCons (uVar 5) (tNil)))) rfl sc__law_letters.nd (pi_range2 rfl T.z_range (pa_cons (pu 1) (pa_cons (pe_op ou_add (pu 2) (pe_int)) (pa_nil)))) (blkOk_by (own := [("_law_length", 5)]) (N := N__law_letters) (sc := defScope s__law_letters) (by decide +kernel)) (fun _ _ _ _ _ => pg_name (i := 5) sc__law_letters.nd rfl (Or.inl rfl)) (fun _ _ _ _ _ => pts_nil) (fun _ _ _ _ _ => pe_tup (pa_cons (pu 4) (pa_cons (pu 5) (pa_nil))))))))) (pss_one (ps_ret (pu 3))))
theorem v__law_power (T : Tx P K mg a d ca)      {fa : Addr} {cdv : Value} {A : Around} {outer : List Env} {s : Shared} {H : Hp} {E : XK} (hr : Room 0 (A.deeper (envOfC "_law_power" (defScope s__law_power) s.heap.objs.size fa cdv))) :
    PSs ((cxOf CX0 P w K mg base N__law_power "_law_power" (defScope s__law_power) fa cdv A outer s H E).nox) (defBody s__law_power) (t__law_power K ca) :=
  pss_cons (ps_set (i := 2) sc__law_power.nd rfl (Or.inl rfl) (pe_int)) (pss_cons (ps_for PassesOwn.never rfl (pi_range1 rfl T.z_range (pa_cons (pu 1) (pa_nil))) (pg_name (i := 3) sc__law_power.nd rfl (Or.inl rfl)) (pss_one (ps_set (i := 2) sc__law_power.nd rfl (Or.inl rfl) (pe_op ou_mul3 (pu 2) (pu 0))))) (pss_one (ps_ret (pu 2))))
theorem v__law_rows (T : Tx P K mg a d ca) (G__law_letters : FnOk P w K mg base CX0 1 (a 13) (d 13) P__law_letters (sp__law_letters K ca))     {fa : Addr} {cdv : Value} {A : Around} {outer : List Env} {s : Shared} {H : Hp} {E : XK} (hr : Room 1 (A.deeper (envOfC "_law_rows" (defScope s__law_rows) s.heap.objs.size fa cdv))) :
    PSs ((cxOf CX0 P w K mg base N__law_rows "_law_rows" (defScope s__law_rows) fa cdv A outer s H E).nox) (defBody s__law_rows) (t__law_rows K ca) :=
  pss_cons (ps_set (i := 4) sc__law_rows.nd rfl (Or.inl rfl) (pe_call G__law_letters (hr.mono (by decide)) rfl T.m__law_letters T.f__law_letters.kp T.b__law_letters .nil pass0 (pa_cons (pu 0) (pa_cons (pu 1) (pa_cons (pu 2) (pa_nil)))))) (pss_cons (ps_set (i := 5) sc__law_rows.nd rfl (Or.inl rfl) (pe_lst (pa_cons (pe_lst (pa_nil)) (pa_nil)))) (pss_cons (ps_for PassesOwn.never rfl (pi_range1 rfl T.z_range (pa_cons (pu 3) (pa_nil))) (pg_name (i := 6) sc__law_rows.nd rfl (Or.inl rfl)) (pss_cons (ps_set (i := 7) sc__law_rows.nd rfl (Or.inl rfl) (pu 4)) (pss_cons (pus_if (put_cmp (ou_eq2 hr.units) (pe_op ou_add (pu 6) (pe_int)) (pu 3) (nomark _)) (pss_one (ps_setLc (i := 7) (own := [("_law_letter", 9)]) (g := gName 9) (tt := uT (tOp (uEq2 K) (tOp (uIx K) (tOp (uIx K) (uVar 9) (tC (.int 0))) (tC (.int 0))) (tC (.str "#")))) (te := uVar 9) rfl sc__law_rows.nd rfl rfl (sw_true rfl rfl rfl (by decide +kernel)) (piu (pu 4)) (blkOk_by (own := [("_law_letter", 9)]) (N := N__law_rows) (sc := defScope s__law_rows) (by decide +kernel)) (fun _ _ _ _ _ => pg_name (i := 9) sc__law_rows.nd rfl (Or.inl rfl)) (fun _ _ _ _ _ => pts_one (put_cmp (ou_eq2 hr.units) (pe_ix iu_ix (pe_ix iu_ix (pu 9) (pe_int) (fun _ _ => rfl)) (pe_int) (fun _ _ => rfl)) (pe_str) (nomark _))) (fun _ _ _ _ _ => pu 9))) (pss_nil)) (pss_cons (ps_set (i := 8) sc__law_rows.nd rfl (Or.inl rfl) (pe_lst (pa_nil))) (pss_cons (ps_for PassesOwn.never rfl (piu (pu 7)) (pg_name (i := 9) sc__law_rows.nd rfl (Or.inr rfl)) (pss_one (ps_set (i := 8) sc__law_rows.nd rfl (Or.inl rfl) (pe_op ou_add (pu 8) (pe_lc (own := [("_law_row", 11)]) (g := gName 11) (tt := tYes) (te := tOp (uAdd K) (tLst (tCons (uVar 9) (tNil))) (uVar 11)) rfl sc__law_rows.nd (piu (pu 5)) (blkOk_by (own := [("_law_row", 11)]) (N := N__law_rows) (sc := defScope s__law_rows) (by decide +kernel)) (fun _ _ _ _ _ => pg_name (i := 11) sc__law_rows.nd rfl (Or.inl rfl)) (fun _ _ _ _ _ => pts_nil) (fun _ _ _ _ _ => pe_op ou_add (pe_lst (pa_cons (pu 9) (pa_nil))) (pu 11))))))) (pss_one (ps_set (i := 5) sc__law_rows.nd rfl (Or.inl rfl) (pu 8)))))))) (pss_cons (ps_set (i := 10) sc__law_rows.nd rfl (Or.inl rfl) (pe_lst (pa_nil))) (pss_cons (ps_for PassesOwn.never rfl (piu (pu 5)) (pg_name (i := 11) sc__law_rows.nd rfl (Or.inl rfl)) (pss_one (ps_expr (pe_bm PySem.F.plainAttrs_list PySem.F.slot_list_append PySem.F.type_list_append mu_append (pu 10) (pa_cons (pe_lc (own := [("_law_mark_here", 12), ("_law_length", 13)]) (g := gTs K 2 (gCons (gName 12) (gCons (gName 13) (gNil)))) (tt := tYes) (te := tTup (tCons (uVar 12) (tCons (tOp uMul3 (tC (.str "a")) (uVar 13)) (tNil)))) rfl sc__law_rows.nd (piu (pu 11)) (blkOk_by (own := [("_law_mark_here", 12), ("_law_length", 13)]) (N := N__law_rows) (sc := defScope s__law_rows) (by decide +kernel)) (fun _ _ _ _ _ => pg_ts rfl (pgs_cons (pg_name (i := 12) sc__law_rows.nd rfl (Or.inl rfl)) (pgs_cons (pg_name (i := 13) sc__law_rows.nd rfl (Or.inl rfl)) (pgs_nil)))) (fun _ _ _ _ _ => pts_nil) (fun _ _ _ _ _ => pe_tup (pa_cons (pu 12) (pa_cons (pe_op ou_mul3 (pe_str) (pu 13)) (pa_nil))))) (pa_nil)))))) (pss_one (ps_ret (pu 10)))))))
theorem v__law_begun (T : Tx P K mg a d ca) (G_Stock_texts : GFn1 P w K mg base 6 (a 24) (d 24) P_Stock_texts (sp_Stock_texts K ca))     {fa : Addr} {cdv : Value} {A : Around} {outer : List Env} {s : Shared} {H : Hp} {E : XK} (hr : Room 7 (A.deeper (envOfC "_law_begun" (defScope s__law_begun) s.heap.objs.size fa cdv))) :
    PSs ((cxOf CX0 P w K mg base N__law_begun "_law_begun" (defScope s__law_begun) fa cdv A outer s H E).nox) (defBody s__law_begun) (t__law_begun K ca) :=
  pss_cons (ps_set (i := 3) sc__law_begun.nd rfl (Or.inl rfl) (pe_lst (pa_nil))) (pss_cons (ps_forG (n0 := lvK_Stock_texts) PassesOwn.never (hr.mono (by decide)) (pgx_meth (pu 0) T.ct.cl_Stock T.me_Stock_texts G_Stock_texts T.b_Stock_texts (by decide) (hr.mono (by decide)) (fun σ => pasL) rfl (pa_cons (pu 1) (pa_nil))) (pg_name (i := 4) sc__law_begun.nd rfl (Or.inl rfl)) (pss_cons (ps_expr (pe_bm PySem.F.plainAttrs_list PySem.F.slot_list_append PySem.F.type_list_append mu_append (pu 3) (pa_cons (pu 4) (pa_nil)))) (pss_one (pus_if (put_cmp (ou_eq2 hr.units) (pe_callB cu_len (by rfl) T.z_len (by decide +kernel) (pa_cons (pu 3) (pa_nil))) (pu 2) (nomark _)) (pss_one (ps_break)) (pss_nil))))) (pss_one (ps_ret (pu 3))))
theorem v__law_nested_right (T : Tx P K mg a d ca) (G__law_rows : FnOk P w K mg base CX0 2 (a 15) (d 15) P__law_rows (sp__law_rows K ca)) (G_Stock_texts : GFn1 P w K mg base 6 (a 24) (d 24) P_Stock_texts (sp_Stock_texts K ca))     {fa : Addr} {cdv : Value} {A : Around} {outer : List Env} {s : Shared} {H : Hp} {E : XK} (hr : Room 7 (A.deeper (envOfC "_law_nested_right" (defScope s__law_nested_right) s.heap.objs.size fa cdv))) :
    PSs ((cxOf CX0 P w K mg base N__law_nested_right "_law_nested_right" (defScope s__law_nested_right) fa cdv A outer s H E).nox) (defBody s__law_nested_right) (t__law_nested_right K ca) :=
  pss_cons (ps_set (i := 3) sc__law_nested_right.nd rfl (Or.inl rfl) (pe_lst (pa_nil))) (pss_cons (ps_forG (n0 := lvK_Stock_texts) PassesOwn.never (hr.mono (by decide)) (pgx_meth (pu 0) T.ct.cl_Stock T.me_Stock_texts G_Stock_texts T.b_Stock_texts (by decide) (hr.mono (by decide)) (fun σ => pasL) rfl (pa_cons (pe_int) (pa_nil))) (pg_name (i := 4) sc__law_nested_right.nd rfl (Or.inl rfl)) (pss_one (ps_forG (n0 := lvK_Stock_texts) PassesOwn.never (hr.mono (by decide)) (pgx_meth (pu 0) T.ct.cl_Stock T.me_Stock_texts G_Stock_texts T.b_Stock_texts (by decide) (hr.mono (by decide)) (fun σ => pasL) rfl (pa_cons (pu 1) (pa_nil))) (pg_name (i := 5) sc__law_nested_right.nd rfl (Or.inl rfl)) (pss_one (ps_expr (pe_bm PySem.F.plainAttrs_list PySem.F.slot_list_append PySem.F.type_list_append mu_append (pu 3) (pa_cons (pe_lst (pa_cons (pu 4) (pa_cons (pu 5) (pa_nil)))) (pa_nil)))))))) (pss_cons (ps_asg (pu 2) (pg_ts rfl (pgs_cons (pg_name (i := 6) sc__law_nested_right.nd rfl (Or.inl rfl)) (pgs_cons (pg_name (i := 7) sc__law_nested_right.nd rfl (Or.inl rfl)) (pgs_cons (pg_name (i := 8) sc__law_nested_right.nd rfl (Or.inl rfl)) (pgs_nil)))))) (pss_cons (ps_asg (pe_tup (pa_cons (pe_call G__law_rows (hr.mono (by decide)) rfl T.m__law_rows T.f__law_rows.kp T.b__law_rows .nil pass0 (pa_cons (pu 6) (pa_cons (pu 7) (pa_cons (pu 8) (pa_cons (pe_int) (pa_nil)))))) (pa_cons (pe_call G__law_rows (hr.mono (by decide)) rfl T.m__law_rows T.f__law_rows.kp T.b__law_rows .nil pass0 (pa_cons (pu 6) (pa_cons (pu 7) (pa_cons (pu 8) (pa_cons (pu 1) (pa_nil)))))) (pa_nil)))) (pg_ts rfl (pgs_cons (pg_name (i := 9) sc__law_nested_right.nd rfl (Or.inr rfl)) (pgs_cons (pg_name (i := 10) sc__law_nested_right.nd rfl (Or.inr rfl)) (pgs_nil))))) (pss_one (ps_ret (pe_cmpR (ou_eq2 hr.units) (pu 3) (pe_lc (own := [("_law_k", 11)]) (g := gName 11) (tt := tYes) (te := tLst (tCons (tOp (uIx K) (uVar 9) (tOp uFdiv (uVar 11) (tCB (uLen K) (tCons (uVar 10) (tNil))))) (tCons (tOp (uIx K) (uVar 10) (tOp uMod (uVar 11) (tCB (uLen K) (tCons (uVar 10) (tNil))))) (tNil)))) rfl sc__law_nested_right.nd (pi_range1 rfl T.z_range (pa_cons (pe_op ou_mul3 (pe_callB cu_len (by rfl) T.z_len (by decide +kernel) (pa_cons (pu 9) (pa_nil))) (pe_callB cu_len (by rfl) T.z_len (by decide +kernel) (pa_cons (pu 10) (pa_nil)))) (pa_nil))) (blkOk_by (own := [("_law_k", 11)]) (N := N__law_nested_right) (sc := defScope s__law_nested_right) (by decide +kernel)) (fun _ _ _ _ _ => pg_name (i := 11) sc__law_nested_right.nd rfl (Or.inl rfl)) (fun _ _ _ _ _ => pts_nil) (fun _ _ _ _ _ => pe_lst (pa_cons (pe_ix iu_ix (pu 9) (pe_op ou_fdiv (pu 11) (pe_callB cu_len (by rfl) T.z_len (by decide +kernel) (pa_cons (pu 10) (pa_nil)))) (fun _ _ => rfl)) (pa_cons (pe_ix iu_ix (pu 10) (pe_op ou_mod (pu 11) (pe_callB cu_len (by rfl) T.z_len (by decide +kernel) (pa_cons (pu 10) (pa_nil)))) (fun _ _ => rfl)) (pa_nil))))) (nomark _)))))))
theorem v__law_right (T : Tx P K mg a d ca) (G__law_take : FnOk P w K mg base CX0 1 (a 8) (d 8) P__law_take (sp__law_take K ca)) (G__law_marks : FnOk P w K mg base CX0 3 (a 11) (d 11) P__law_marks (sp__law_marks K ca)) (G__law_sorted : FnOk P w K mg base CX0 2 (a 12) (d 12) P__law_sorted (sp__law_sorted K ca)) (G__law_letters : FnOk P w K mg base CX0 1 (a 13) (d 13) P__law_letters (sp__law_letters K ca)) (G__law_power : FnOk P w K mg base CX0 1 (a 14) (d 14) P__law_power (sp__law_power K ca)) (G__law_rows : FnOk P w K mg base CX0 2 (a 15) (d 15) P__law_rows (sp__law_rows K ca)) (G__law_begun : FnOk P w K mg base CX0 8 (a 16) (d 16) P__law_begun (sp__law_begun K ca)) (G__law_nested_right : FnOk P w K mg base CX0 8 (a 17) (d 17) P__law_nested_right (sp__law_nested_right K ca)) (G_Stock___init__ : FnOk P w K mg base (L2.CX P w) 3 (a 20) (d 20) P_Stock___init__ (sp_Stock___init__ K ca)) (G_Stock_amount : FnOk P w K mg base (L2.CX P w) 4 (a 23) (d 23) P_Stock_amount (sp_Stock_amount K ca)) (G_Stock_texts : GFn1 P w K mg base 6 (a 24) (d 24) P_Stock_texts (sp_Stock_texts K ca))     {fa : Addr} {cdv : Value} {A : Around} {outer : List Env} {s : Shared} {H : Hp} {E : XK} (hr : Room 8 (A.deeper (envOfC "_law_right" (defScope s__law_right) s.heap.objs.size fa cdv))) :
    PSs ((cxOf CX0 P w K mg base N__law_right "_law_right" (defScope s__law_right) fa cdv A outer s H E).nox) (defBody s__law_right) (t__law_right K ca) :=
  pss_cons (ps_set (i := 1) sc__law_right.nd rfl (Or.inl rfl) (pe_call G__law_sorted (hr.mono (by decide)) rfl T.m__law_sorted T.f__law_sorted.kp T.b__law_sorted .nil pass0 (pa_cons (pe_call G__law_marks (hr.mono (by decide)) rfl T.m__law_marks T.f__law_marks.kp T.b__law_marks .nil pass0 (pa_cons (pu 0) (pa_cons (pe_int) (pa_nil)))) (pa_nil)))) (pss_cons (ps_set (i := 2) sc__law_right.nd rfl (Or.inr rfl) (pe_op ou_add (pe_int) (pe_call G__law_take (hr.mono (by decide)) rfl T.m__law_take T.f__law_take.kp T.b__law_take .nil pass0 (pa_cons (pu 0) (pa_cons (pe_int) (pa_nil)))))) (pss_cons (ps_set (i := 3) sc__law_right.nd rfl (Or.inl rfl) (pe_op ou_add (pu 2) (pe_call G__law_take (hr.mono (by decide)) rfl T.m__law_take T.f__law_take.kp T.b__law_take .nil pass0 (pa_cons (pu 0) (pa_cons (pe_int) (pa_nil)))))) (pss_cons (ps_set (i := 4) sc__law_right.nd rfl (Or.inl rfl) (pe_mkK T.mk_Stock G_Stock___init__ (hr.mono (by decide)) (by rfl) T.m_Stock T.k_Stock___init___shortest_longest (fun σ => pasL) (pa_cons (pu 1) (pa_nil)) (pk_cons (pu 2) (pk_cons (pu 3) (pk_nil))))) (pss_cons (ps_set (i := 5) sc__law_right.nd rfl (Or.inl rfl) (pe_call G__law_take (hr.mono (by decide)) rfl T.m__law_take T.f__law_take.kp T.b__law_take .nil pass0 (pa_cons (pu 0) (pa_cons (pe_int) (pa_nil))))) (pss_cons (ps_set (i := 6) sc__law_right.nd rfl (Or.inl rfl) (pe_op ou_mul3 (pe_callB cu_len (by rfl) T.z_len (by decide +kernel) (pa_cons (pu 1) (pa_nil))) (pe_op ou_sub (pe_op ou_add (pu 3) (pe_int)) (pu 2)))) (pss_cons (ps_while PassesOwn.never (put_cmp ou_gt (pe_call G__law_power (hr.mono (by decide)) rfl T.m__law_power T.f__law_power.kp T.b__law_power .nil pass0 (pa_cons (pu 6) (pa_cons (pu 5) (pa_nil)))) (pe_int) (nomark _)) (pss_one (ps_set (i := 5) sc__law_right.nd rfl (Or.inl rfl) (pe_op ou_sub (pu 5) (pe_int))))) (pss_cons (ps_set (i := 7) sc__law_right.nd rfl (Or.inl rfl) (pe_call G__law_rows (hr.mono (by decide)) rfl T.m__law_rows T.f__law_rows.kp T.b__law_rows .nil pass0 (pa_cons (pu 1) (pa_cons (pu 2) (pa_cons (pu 3) (pa_cons (pu 5) (pa_nil))))))) (pss_cons (ps_set (i := 8) sc__law_right.nd rfl (Or.inl rfl) (pe_lst (pa_nil))) (pss_cons (ps_forG (n0 := lvK_Stock_texts) PassesOwn.never (hr.mono (by decide)) (pgx_meth (pu 4) T.ct.cl_Stock T.me_Stock_texts G_Stock_texts T.b_Stock_texts (by decide) (hr.mono (by decide)) (fun σ => pasL) rfl (pa_cons (pu 5) (pa_nil))) (pg_name (i := 9) sc__law_right.nd rfl (Or.inl rfl)) (pss_cons (pus_if (put_not (put_val (pue_isi .lst (pu 9) rfl T.z_isinstance rfl T.z_list (by decide +kernel)))) (pss_one (ps_ret (pe_bl))) (pss_nil)) (pss_cons (ps_expr (pe_bm PySem.F.plainAttrs_list PySem.F.slot_list_append PySem.F.type_list_append mu_append (pu 8) (pa_cons (pe_callTy cu_list (by rfl) T.z_list (by decide +kernel) (pa_cons (pu 9) (pa_nil))) (pa_nil)))) (pss_one (ps_expr (pe_bm0 PySem.F.plainAttrs_list PySem.F.slot_list_clear PySem.F.type_list_clear mu_clear (pu 9))))))) (pss_cons (pus_if (PW.pt (puw_or (put_cmp (ou_ne2 hr.units) (pu 8) (pu 7) (nomark _)) (pw_or1 (put_cmp (ou_ne2 hr.units) (pe_callB cu_len (by rfl) T.z_len (by decide +kernel) (pa_cons (pu 8) (pa_nil))) (pe_methT (pu 4) (.cons (ment T.ct.cl_Stock T.me_Stock_amount G_Stock_amount T.b_Stock_amount (fun σ => pasL)) (.nil)) hr (pa_cons (pu 5) (pa_nil))) (nomark _))))) (pss_one (ps_ret (pe_bl))) (pss_nil)) (pss_cons (pus_if (put_not (put_val (pe_call G__law_nested_right (hr.mono (by decide)) rfl T.m__law_nested_right T.f__law_nested_right.kp T.b__law_nested_right .nil pass0 (pa_cons (pu 4) (pa_cons (pe_callB (cu_min rfl) (by rfl) T.z_min (by decide +kernel) (pa_cons (pu 5) (pa_cons (pe_int) (pa_nil)))) (pa_cons (pe_lst (pa_cons (pu 1) (pa_cons (pu 2) (pa_cons (pu 3) (pa_nil))))) (pa_nil))))))) (pss_one (ps_ret (pe_bl))) (pss_nil)) (pss_cons (pus_if (put_cmp (ou_ne2 hr.units) (pe_call G__law_begun (hr.mono (by decide)) rfl T.m__law_begun T.f__law_begun.kp T.b__law_begun .nil pass0 (pa_cons (pu 4) (pa_cons (pu 5) (pa_cons (pe_int) (pa_nil))))) (pe_slice su_sl (pu 7) (po_none) (pou_some (pe_int))) (nomark _)) (pss_one (ps_ret (pe_bl))) (pss_nil)) (pss_cons (pus_if (put_cmp ou_gt (pe_call G__law_take (hr.mono (by decide)) rfl T.m__law_take T.f__law_take.kp T.b__law_take .nil pass0 (pa_cons (pu 0) (pa_cons (pe_int) (pa_nil)))) (pe_int) (nomark _)) (pss_one (ps_ret (pe_bl))) (pss_nil)) (pss_cons (ps_set (i := 5) sc__law_right.nd rfl (Or.inl rfl) (pe_op ou_add (pe_int) (pe_call G__law_take (hr.mono (by decide)) rfl T.m__law_take T.f__law_take.kp T.b__law_take .nil pass0 (pa_cons (pu 0) (pa_cons (pe_int) (pa_nil)))))) (pss_cons (ps_set (i := 10) sc__law_right.nd rfl (Or.inl rfl) (pe_slice su_sl (pe_lc (own := [("_law_mark_here", 13)]) (g := gName 13) (tt := uT (tOp (uEq2 K) (tOp (uIx K) (uVar 13) (tC (.int 0))) (tC (.str "#")))) (te := tTup (tCons (tOp (uAdd K) (tC (.str "#")) (tOp (uIx K) (uVar 13) (tC (.int 1)))) (tCons (tOp uMul3 (tC (.str "a")) (uVar 2)) (tNil)))) rfl sc__law_right.nd (piu (pu 1)) (blkOk_by (own := [("_law_mark_here", 13)]) (N := N__law_right) (sc := defScope s__law_right) (by decide +kernel)) (fun _ _ _ _ _ => pg_name (i := 13) sc__law_right.nd rfl (Or.inl rfl)) (fun _ _ _ _ _ => pts_one (put_cmp (ou_eq2 hr.units) (pe_ix iu_ix (pu 13) (pe_int) (fun _ _ => rfl)) (pe_str) (nomark _))) (fun _ _ _ _ _ => pe_tup (pa_cons (pe_op ou_add (pe_str) (pe_ix iu_ix (pu 13) (pe_int) (fun _ _ => rfl))) (pa_cons (pe_op ou_mul3 (pe_str) (pu 2)) (pa_nil))))) (po_none) (pou_some (pe_int)))) (pss_cons (ps_set (i := 11) sc__law_right.nd rfl (Or.inl rfl) (pe_op ou_add (pu 10) (pe_op ou_mul3 (pe_lst (pa_cons (pe_tup (pa_cons (pe_ix iu_ix (pu 1) (pe_int) (fun _ _ => rfl)) (pa_cons (pe_op ou_mul3 (pe_str) (pu 2)) (pa_nil)))) (pa_nil))) (pe_op ou_sub (pu 5) (pe_int))))) (pss_cons (ps_set (i := 12) sc__law_right.nd rfl (Or.inl rfl) (pe_call G__law_begun (hr.mono (by decide)) rfl T.m__law_begun T.f__law_begun.kp T.b__law_begun .nil pass0 (pa_cons (pu 4) (pa_cons (pu 5) (pa_cons (pe_int) (pa_nil)))))) (pss_cons (pus_if (put_cmp (ou_ne2 hr.units) (pe_ix iu_ix (pu 12) (pe_int) (fun _ _ => rfl)) (pu 11) (nomark _)) (pss_one (ps_ret (pe_bl))) (pss_nil)) (pss_cons (pus_if (put_cmp (ou_eq2 hr.units) (pu 6) (pe_int) (nomark _)) (pss_one (ps_ret (pe_cmpR (ou_eq2 hr.units) (pe_callB cu_len (by rfl) T.z_len (by decide +kernel) (pa_cons (pu 12) (pa_nil))) (pe_int) (nomark _)))) (pss_nil)) (pss_cons (ps_asg (pe_ix iu_ix (pe_call G__law_letters (hr.mono (by decide)) rfl T.m__law_letters T.f__law_letters.kp T.b__law_letters .nil pass0 (pa_cons (pu 1) (pa_cons (pu 2) (pa_cons (pu 3) (pa_nil))))) (pe_int) (fun _ _ => rfl)) (pg_ts rfl (pgs_cons (pg_name (i := 13) sc__law_right.nd rfl (Or.inl rfl)) (pgs_cons (pg_name (i := 14) sc__law_right.nd rfl (Or.inl rfl)) (pgs_nil))))) (pss_one (ps_ret (pe_cmpR (ou_eq2 hr.units) (pe_ix iu_ix (pu 12) (pe_int) (fun _ _ => rfl)) (pe_op ou_add (pe_slice su_sl (pu 11) (po_none) (pou_some (pe_un ou_neg (pe_int)))) (pe_lst (pa_cons (pe_tup (pa_cons (pu 13) (pa_cons (pe_op ou_mul3 (pe_str) (pu 14)) (pa_nil)))) (pa_nil)))) (nomark _))))))))))))))))))))))))
theorem v_law (T : Tx P K mg a d ca) (G__law_cell : FnOk P w K mg base CX0 1 (a 6) (d 6) P__law_cell (sp__law_cell K ca)) (G__law_purse : FnOk P w K mg base CX0 1 (a 7) (d 7) P__law_purse (sp__law_purse K ca)) (G__law_right : FnOk P w K mg base CX0 9 (a 18) (d 18) P__law_right (sp__law_right K ca))     {fa : Addr} {cdv : Value} {A : Around} {outer : List Env} {s : Shared} {H : Hp} {E : XK} (hr : Room 9 (A.deeper (envOfC "law" (defScope s_law) s.heap.objs.size fa cdv))) :
    PSs ((cxOf CX0 P w K mg base N_law "law" (defScope s_law) fa cdv A outer s H E).nox) (defBody s_law) (t_law K ca) :=
  pss_cons (ps_for PassesOwn.never rfl (pi_range1 rfl T.z_range (pa_cons (pe_callB (cu_max rfl) (by rfl) T.z_max (by decide +kernel) (pa_cons (pe_int) (pa_cons (pe_callB (cu_min rfl) (by rfl) T.z_min (by decide +kernel) (pa_cons (pe_int) (pa_cons (pe_callB cu_len (by rfl) T.z_len (by decide +kernel) (pa_cons (pu 0) (pa_nil))) (pa_nil)))) (pa_nil)))) (pa_nil))) (pg_name (i := 1) sc_law.nd rfl (Or.inl rfl)) (pss_one (pus_if (put_not (put_val (pe_call G__law_right (hr.mono (by decide)) rfl T.m__law_right T.f__law_right.kp T.b__law_right .nil pass0 (pa_cons (pe_call G__law_purse (hr.mono (by decide)) rfl T.m__law_purse T.f__law_purse.kp T.b__law_purse .nil pass0 (pa_cons (pe_call G__law_cell (hr.mono (by decide)) rfl T.m__law_cell T.f__law_cell.kp T.b__law_cell .nil pass0 (pa_cons (pu 0) (pa_cons (pu 1) (pa_nil)))) (pa_nil))) (pa_nil))))) (pss_one (ps_ret (pe_bl))) (pss_nil)))) (pss_one (ps_ret (pe_bl)))
theorem v_Stock___init__ (T : Tx P K mg a d ca) (G_is_integer : FnOk P w K mg base CX0 1 (a 0) (d 0) P_is_integer (sp_is_integer K ca)) (G_all_marks : FnOk P w K mg base CX0 1 (a 2) (d 2) P_all_marks (sp_all_marks K ca)) (G_are_stock_marks : FnOk P w K mg base CX0 2 (a 3) (d 3) P_are_stock_marks (sp_are_stock_marks K ca)) (I_InvalidInteger : FnOk P w K mg base CX0 1 (a 27) (d 27) ["self", "value"] (U.spI (ca 4) "value")) (I_InvalidMarks : FnOk P w K mg base CX0 1 (a 26) (d 26) ["self", "value"] (U.spI (ca 2) "value"))    {fa : Addr} {cdv : Value} {A : Around} {outer : List Env} {s : Shared} {H : Hp} {E : XK} (hr : Room 2 (A.deeper (envOfC "Stock.__init__" (defScope s_Stock___init__) s.heap.objs.size fa cdv))) :
    PSs (cxOf (L2.CX P w) P w K mg base N_Stock___init__ "Stock.__init__" (defScope s_Stock___init__) fa cdv A outer s H E) (defBody s_Stock___init__) (t_Stock___init__ K ca E) :=
  pss_cons (pus_if (put_not (put_val (pe_call G_are_stock_marks (hr.mono (by decide)) rfl T.m_are_stock_marks T.f_are_stock_marks.kp T.b_are_stock_marks .nil pass0 (pa_cons (pu 1) (pa_nil))))) (pss_one (ps_raiseu rfl (takes_of rfl rfl rfl rfl) (pmku T.x_InvalidMarks I_InvalidMarks (hr.mono (by decide)) T.i_InvalidMarks pass0 rfl (pa_cons (pu 1) (pa_nil))))) (pss_nil)) (pss_cons (pus_if (put_not (put_val (pe_call G_is_integer (hr.mono (by decide)) rfl T.m_is_integer T.f_is_integer.kp T.b_is_integer .nil pass0 (pa_cons (pu 2) (pa_cons (pe_int) (pa_cons (pe_glob rfl T.c_MOST_LETTERS.choose_spec ⟨_, rfl⟩) (pa_nil))))))) (pss_one (ps_raiseu rfl (takes_of rfl rfl rfl rfl) (pmku T.x_InvalidInteger I_InvalidInteger (hr.mono (by decide)) T.i_InvalidInteger pass0 rfl (pa_cons (pu 2) (pa_nil))))) (pss_nil)) (pss_cons (pus_if (put_not (put_val (pe_call G_is_integer (hr.mono (by decide)) rfl T.m_is_integer T.f_is_integer.kp T.b_is_integer .nil pass0 (pa_cons (pu 3) (pa_cons (pu 2) (pa_cons (pe_glob rfl T.c_MOST_LETTERS.choose_spec ⟨_, rfl⟩) (pa_nil))))))) (pss_one (ps_raiseu rfl (takes_of rfl rfl rfl rfl) (pmku T.x_InvalidInteger I_InvalidInteger (hr.mono (by decide)) T.i_InvalidInteger pass0 rfl (pa_cons (pu 3) (pa_nil))))) (pss_nil)) (pss_cons (ps_fld (pu 0) (pe_lc (own := [("mark", 4)]) (g := gName 4) (tt := uT (tOp (uIn K false) (uVar 4) (uVar 1))) (te := uVar 4) rfl sc_Stock___init__.nd (piu (pe_call0 G_all_marks (hr.mono (by decide)) rfl T.m_all_marks T.f_all_marks.kp T.b_all_marks .nil pass0)) (blkOk_by (own := [("mark", 4)]) (N := N_Stock___init__) (sc := defScope s_Stock___init__) (by decide +kernel)) (fun _ _ _ _ _ => pg_name (i := 4) sc_Stock___init__.nd rfl (Or.inl rfl)) (fun _ _ _ _ _ => pts_one (put_cmp ou_in (pu 4) (pu 1) (by rfl))) (fun _ _ _ _ _ => pu 4)) rfl) (pss_cons (ps_fld (pu 0) (pu 2) rfl) (pss_cons (ps_fld (pu 0) (pu 3) rfl) (pss_one (ps_fld (pu 0) (pe_lc2 (own := [("mark", 4), ("length", 5)]) (vs1 := [5]) (g := gName 4) (tt := tYes) (wi1 := iRng2 (tCons (uVar 2) (tCons (tOp (uAdd K) (uVar 3) (tC (.int 1))) (tNil)))) (g1 := gName 5) (tt1 := tYes) (te := tTup (tCons (uVar 4) (tCons (uVar 5) (tNil)))) rfl sc_Stock___init__.nd (piu (pe_fld (pu 0) rfl)) (blkOk_by (own := [("mark", 4), ("length", 5)]) (N := N_Stock___init__) (sc := defScope s_Stock___init__) (by decide +kernel)) (by decide) (fun _ _ _ _ _ => pg_name (i := 4) sc_Stock___init__.nd rfl (Or.inl rfl)) (fun _ _ _ _ _ => pts_nil) (fun _ _ _ _ _ => pi_range2 rfl T.z_range (pa_cons (pu 2) (pa_cons (pe_op ou_add (pu 3) (pe_int)) (pa_nil)))) (fun _ _ _ _ _ => pg_name (i := 5) sc_Stock___init__.nd rfl (Or.inl rfl)) (fun _ _ _ _ _ => pts_nil) (fun _ _ _ _ _ => pe_tup (pa_cons (pu 4) (pa_cons (pu 5) (pa_nil))))) rfl)))))))
theorem v_Stock_letters (T : Tx P K mg a d ca)      {fa : Addr} {cdv : Value} {A : Around} {outer : List Env} {s : Shared} {H : Hp} {E : XK} (hr : Room 0 (A.deeper (envOfC "Stock.letters" (defScope s_Stock_letters) s.heap.objs.size fa cdv))) :
    PSs ((cxOf CX0 P w K mg base N_Stock_letters "Stock.letters" (defScope s_Stock_letters) fa cdv A outer s H E).nox) (defBody s_Stock_letters) (t_Stock_letters K ca) :=
  pss_one (ps_ret (pe_callTy cu_list (by rfl) T.z_list (by decide +kernel) (pa_cons (pe_fld (pu 0) rfl) (pa_nil))))
theorem v_Stock_first_letters (T : Tx P K mg a d ca) (G_Stock_letters : FnOk P w K mg base CX0 1 (a 21) (d 21) P_Stock_letters (sp_Stock_letters K ca))     {fa : Addr} {cdv : Value} {A : Around} {outer : List Env} {s : Shared} {H : Hp} {E : XK} (hr : Room 1 (A.deeper (envOfC "Stock.first_letters" (defScope s_Stock_first_letters) s.heap.objs.size fa cdv))) :
    PSs ((cxOf CX0 P w K mg base N_Stock_first_letters "Stock.first_letters" (defScope s_Stock_first_letters) fa cdv A outer s H E).nox) (defBody s_Stock_first_letters) (t_Stock_first_letters K ca) :=
  pss_one (ps_ret (pe_lc (own := [("mark", 1), ("length", 2)]) (g := gTs K 2 (gCons (gName 1) (gCons (gName 2) (gNil)))) (tt := uT (tOp (uEq2 K) (tOp (uIx K) (uVar 1) (tC (.int 0))) (tC (.str "#")))) (te := tTup (tCons (uVar 1) (tCons (uVar 2) (tNil)))) rfl sc_Stock_first_letters.nd (piu (pe_methT0 (pu 0) (.cons (ment T.ct.cl_Stock T.me_Stock_letters G_Stock_letters T.b_Stock_letters (fun σ => pas0)) (.nil)) hr)) (blkOk_by (own := [("mark", 1), ("length", 2)]) (N := N_Stock_first_letters) (sc := defScope s_Stock_first_letters) (by decide +kernel)) (fun _ _ _ _ _ => pg_ts rfl (pgs_cons (pg_name (i := 1) sc_Stock_first_letters.nd rfl (Or.inl rfl)) (pgs_cons (pg_name (i := 2) sc_Stock_first_letters.nd rfl (Or.inl rfl)) (pgs_nil)))) (fun _ _ _ _ _ => pts_one (put_cmp (ou_eq2 hr.units) (pe_ix iu_ix (pu 1) (pe_int) (fun _ _ => rfl)) (pe_str) (nomark _))) (fun _ _ _ _ _ => pe_tup (pa_cons (pu 1) (pa_cons (pu 2) (pa_nil))))))
theorem v_Stock_amount (T : Tx P K mg a d ca) (G_need_many : FnOk P w K mg base (L2.CX P w) 3 (a 4) (d 4) P_need_many (sp_need_many K ca)) (G_Stock_first_letters : FnOk P w K mg base CX0 2 (a 22) (d 22) P_Stock_first_letters (sp_Stock_first_letters K ca))     {fa : Addr} {cdv : Value} {A : Around} {outer : List Env} {s : Shared} {H : Hp} {E : XK} (hr : Room 3 (A.deeper (envOfC "Stock.amount" (defScope s_Stock_amount) s.heap.objs.size fa cdv))) :
    PSs (cxOf (L2.CX P w) P w K mg base N_Stock_amount "Stock.amount" (defScope s_Stock_amount) fa cdv A outer s H E) (defBody s_Stock_amount) (t_Stock_amount K ca E) :=
  pss_cons (ps_expr (pe_call G_need_many (hr.mono (by decide)) rfl T.m_need_many T.f_need_many.kp T.b_need_many .nil (passes_call (takes_of rfl rfl rfl rfl) (fun _ _ _ _ h => h)) (pa_cons (pu 1) (pa_nil)))) (pss_cons (ps_set (i := 2) sc_Stock_amount.nd rfl (Or.inl rfl) (pue_if (put_cmp (ou_eq2 hr.units) (pu 1) (pe_int) (nomark _)) (pe_int) (pe_callB cu_len (by rfl) T.z_len (by decide +kernel) (pa_cons (pe_methT0 (pu 0) (.cons (ment T.ct.cl_Stock T.me_Stock_first_letters G_Stock_first_letters T.b_Stock_first_letters (fun σ => pas0)) (.nil)) hr) (pa_nil))))) (pss_cons (ps_for (passes_of rfl) rfl (pi_range1 rfl T.z_range (pa_cons (pe_op ou_sub (pu 1) (pe_int)) (pa_nil))) (pg_name (i := 3) sc_Stock_amount.nd rfl (Or.inl rfl)) (pss_one (ps_aug (i := 2) sc_Stock_amount.nd rfl (Or.inl rfl) (pe_callB cu_len (by rfl) T.z_len (by decide +kernel) (pa_cons (pe_fld (pu 0) rfl) (pa_nil))) ip_umul))) (pss_one (ps_ret (pu 2)))))
theorem v_Stock_texts (T : Tx P K mg a d ca) (G_Stock_amount : FnOk P w K mg base (L2.CX P w) 4 (a 23) (d 23) P_Stock_amount (sp_Stock_amount K ca)) (G_Stock_text_at : FnOk P w K mg base (L2.CX P w) 5 (a 25) (d 25) P_Stock_text_at (sp_Stock_text_at K ca))     {fa : Addr} {cdv : Value} {A : Around} {outer : List Env} {s : Shared} {H : Hp} {E : XK} {pn : List (Addr × Obj)} {Γ : Type} (gx : GX (gcxOf P w K mg base N_Stock_texts "Stock.texts" (defScope s_Stock_texts) fa cdv A outer s H E pn)) (hr : Room 5 (A.deeper (envOfC "Stock.texts" (defScope s_Stock_texts) s.heap.objs.size fa cdv))) :
    GB Γ (gcxOf P w K mg base N_Stock_texts "Stock.texts" (defScope s_Stock_texts) fa cdv A outer s H E pn) (defBody s_Stock_texts) (t_Stock_texts K ca E Γ) :=
  gb_for gx rfl (pi_range1X rfl T.z_range (pa_cons (pe_methT (pu 0) (.cons (ment T.ct.cl_Stock T.me_Stock_amount G_Stock_amount T.b_Stock_amount (fun σ => pasP (passes_call takes_gcx (fun _ _ _ _ h => h)))) (.nil)) hr (pa_cons (pu 1) (pa_nil))) (pa_nil))) (fun sj Hj => pg_name (i := 2) sc_Stock_texts.nd rfl (Or.inl rfl)) (gss1_cons (gs1_yield gx (fun sj Hj => pe_methT (pu 0) (.cons (ment T.ct.cl_Stock T.me_Stock_text_at G_Stock_text_at T.b_Stock_text_at (fun σ => pasL)) (.nil)) hr (pa_cons (pu 1) (pa_cons (pu 2) (pa_nil))))) (gss1_nil))
theorem v_Stock_text_at (T : Tx P K mg a d ca) (G_is_integer : FnOk P w K mg base CX0 1 (a 0) (d 0) P_is_integer (sp_is_integer K ca)) (G_text_of_letters : FnOk P w K mg base CX0 1 (a 5) (d 5) P_text_of_letters (sp_text_of_letters K ca)) (G_Stock_letters : FnOk P w K mg base CX0 1 (a 21) (d 21) P_Stock_letters (sp_Stock_letters K ca)) (G_Stock_first_letters : FnOk P w K mg base CX0 2 (a 22) (d 22) P_Stock_first_letters (sp_Stock_first_letters K ca)) (G_Stock_amount : FnOk P w K mg base (L2.CX P w) 4 (a 23) (d 23) P_Stock_amount (sp_Stock_amount K ca)) (I_InvalidInteger : FnOk P w K mg base CX0 1 (a 27) (d 27) ["self", "value"] (U.spI (ca 4) "value"))    {fa : Addr} {cdv : Value} {A : Around} {outer : List Env} {s : Shared} {H : Hp} {E : XK} (hr : Room 4 (A.deeper (envOfC "Stock.text_at" (defScope s_Stock_text_at) s.heap.objs.size fa cdv))) :
    PSs (cxOf (L2.CX P w) P w K mg base N_Stock_text_at "Stock.text_at" (defScope s_Stock_text_at) fa cdv A outer s H E) (defBody s_Stock_text_at) (t_Stock_text_at K ca E) :=
  pss_cons (pus_if (put_not (put_val (pe_call G_is_integer (hr.mono (by decide)) rfl T.m_is_integer T.f_is_integer.kp T.b_is_integer .nil pass0 (pa_cons (pu 2) (pa_cons (pe_int) (pa_cons (pe_op ou_sub (pe_methT (pu 0) (.cons (ment T.ct.cl_Stock T.me_Stock_amount G_Stock_amount T.b_Stock_amount (fun σ => pasP (passes_call (takes_of rfl rfl rfl rfl) (fun _ _ _ _ h => h)))) (.nil)) hr (pa_cons (pu 1) (pa_nil))) (pe_int)) (pa_nil))))))) (pss_one (ps_raiseu rfl (takes_of rfl rfl rfl rfl) (pmku T.x_InvalidInteger I_InvalidInteger (hr.mono (by decide)) T.i_InvalidInteger pass0 rfl (pa_cons (pu 2) (pa_nil))))) (pss_nil)) (pss_cons (ps_set (i := 3) sc_Stock_text_at.nd rfl (Or.inl rfl) (pe_methT0 (pu 0) (.cons (ment T.ct.cl_Stock T.me_Stock_letters G_Stock_letters T.b_Stock_letters (fun σ => pas0)) (.nil)) hr)) (pss_cons (ps_set (i := 4) sc_Stock_text_at.nd rfl (Or.inl rfl) (pe_lst (pa_nil))) (pss_cons (ps_for (passes_of rfl) rfl (pi_range1 rfl T.z_range (pa_cons (pe_op ou_sub (pu 1) (pe_int)) (pa_nil))) (pg_name (i := 5) sc_Stock_text_at.nd rfl (Or.inl rfl)) (pss_cons (ps_expr (pe_bm PySem.F.plainAttrs_list PySem.F.slot_list_append PySem.F.type_list_append mu_append (pu 4) (pa_cons (pe_ix iu_ix (pu 3) (pe_op ou_mod (pu 2) (pe_callB cu_len (by rfl) T.z_len (by decide +kernel) (pa_cons (pu 3) (pa_nil)))) (fun _ _ => rfl)) (pa_nil)))) (pss_one (ps_aug (i := 2) sc_Stock_text_at.nd rfl (Or.inl rfl) (pe_callB cu_len (by rfl) T.z_len (by decide +kernel) (pa_cons (pu 3) (pa_nil))) ip_ufdiv)))) (pss_cons (pus_if (put_cmp ou_gt (pu 1) (pe_int) (nomark _)) (pss_one (ps_expr (pe_bm PySem.F.plainAttrs_list PySem.F.slot_list_append PySem.F.type_list_append mu_append (pu 4) (pa_cons (pe_ix iu_ix (pe_methT0 (pu 0) (.cons (ment T.ct.cl_Stock T.me_Stock_first_letters G_Stock_first_letters T.b_Stock_first_letters (fun σ => pas0)) (.nil)) hr) (pu 2) (fun _ _ => rfl)) (pa_nil))))) (pss_nil)) (pss_one (ps_ret (pe_call G_text_of_letters (hr.mono (by decide)) rfl T.m_text_of_letters T.f_text_of_letters.kp T.b_text_of_letters .nil pass0 (pa_cons (pe_revU (pu 4)) (pa_nil)))))))))
end
section
variable {P : Program} {w : World} {K : PySem.W.Frag} {mg : Str → Option Value} {base : Heap} {a : Nat → Addr} {d : Nat → FuncData} {ca : Nat → Addr}
theorem ok_is_integer (T : Tx P K mg a d ca) : FnOk P w K mg base CX0 1 (a 0) (d 0) P_is_integer (sp_is_integer K ca) :=
  T.f_is_integer.ok sc_is_integer (fun vs H Q E h => len_is_integer h) (fun cdv A outer s H vs Q E hr h => ⟨t_is_integer K ca, v_is_integer T  hr, p_is_integer T.ct h⟩)
theorem ok_is_mark (T : Tx P K mg a d ca) : FnOk P w K mg base CX0 1 (a 1) (d 1) P_is_mark (sp_is_mark K ca) :=
  T.f_is_mark.ok sc_is_mark (fun vs H Q E h => len_is_mark h) (fun cdv A outer s H vs Q E hr h => ⟨t_is_mark K ca, v_is_mark T  hr, p_is_mark T.ct h⟩)
theorem ok_all_marks (T : Tx P K mg a d ca) : FnOk P w K mg base CX0 1 (a 2) (d 2) P_all_marks (sp_all_marks K ca) :=
  T.f_all_marks.ok sc_all_marks (fun vs H Q E h => len_all_marks h) (fun cdv A outer s H vs Q E hr h => ⟨t_all_marks K ca, v_all_marks T  hr, p_all_marks T.ct h⟩)
theorem ok_text_of_letters (T : Tx P K mg a d ca) : FnOk P w K mg base CX0 1 (a 5) (d 5) P_text_of_letters (sp_text_of_letters K ca) :=
  T.f_text_of_letters.ok sc_text_of_letters (fun vs H Q E h => len_text_of_letters h) (fun cdv A outer s H vs Q E hr h => ⟨t_text_of_letters K ca, v_text_of_letters T  hr, p_text_of_letters T.ct h⟩)
theorem ok__law_cell (T : Tx P K mg a d ca) : FnOk P w K mg base CX0 1 (a 6) (d 6) P__law_cell (sp__law_cell K ca) :=
  T.f__law_cell.ok sc__law_cell (fun vs H Q E h => len__law_cell h) (fun cdv A outer s H vs Q E hr h => ⟨t__law_cell K ca, v__law_cell T  hr, p__law_cell T.ct h⟩)
theorem ok__law_purse (T : Tx P K mg a d ca) : FnOk P w K mg base CX0 1 (a 7) (d 7) P__law_purse (sp__law_purse K ca) :=
  T.f__law_purse.ok sc__law_purse (fun vs H Q E h => len__law_purse h) (fun cdv A outer s H vs Q E hr h => ⟨t__law_purse K ca, v__law_purse T  hr, p__law_purse T.ct h⟩)
theorem ok__law_take (T : Tx P K mg a d ca) : FnOk P w K mg base CX0 1 (a 8) (d 8) P__law_take (sp__law_take K ca) :=
  T.f__law_take.ok sc__law_take (fun vs H Q E h => len__law_take h) (fun cdv A outer s H vs Q E hr h => ⟨t__law_take K ca, v__law_take T  hr, p__law_take T.ct h⟩)
theorem ok__law_all_marks (T : Tx P K mg a d ca) : FnOk P w K mg base CX0 1 (a 9) (d 9) P__law_all_marks (sp__law_all_marks K ca) :=
  T.f__law_all_marks.ok sc__law_all_marks (fun vs H Q E h => len__law_all_marks h) (fun cdv A outer s H vs Q E hr h => ⟨t__law_all_marks K ca, v__law_all_marks T  hr, p__law_all_marks T.ct h⟩)
theorem ok__law_letters (T : Tx P K mg a d ca) : FnOk P w K mg base CX0 1 (a 13) (d 13) P__law_letters (sp__law_letters K ca) :=
  T.f__law_letters.ok sc__law_letters (fun vs H Q E h => len__law_letters h) (fun cdv A outer s H vs Q E hr h => ⟨t__law_letters K ca, v__law_letters T  hr, p__law_letters T.ct h⟩)
theorem ok__law_power (T : Tx P K mg a d ca) : FnOk P w K mg base CX0 1 (a 14) (d 14) P__law_power (sp__law_power K ca) :=
  T.f__law_power.ok sc__law_power (fun vs H Q E h => len__law_power h) (fun cdv A outer s H vs Q E hr h => ⟨t__law_power K ca, v__law_power T  hr, p__law_power T.ct h⟩)
theorem ok_Stock_letters (T : Tx P K mg a d ca) : FnOk P w K mg base CX0 1 (a 21) (d 21) P_Stock_letters (sp_Stock_letters K ca) :=
  T.f_Stock_letters.ok sc_Stock_letters (fun vs H Q E h => len_Stock_letters h) (fun cdv A outer s H vs Q E hr h => ⟨t_Stock_letters K ca, v_Stock_letters T  hr, p_Stock_letters T.ct h⟩)
theorem ok_are_stock_marks (T : Tx P K mg a d ca) : FnOk P w K mg base CX0 2 (a 3) (d 3) P_are_stock_marks (sp_are_stock_marks K ca) :=
  T.f_are_stock_marks.ok sc_are_stock_marks (fun vs H Q E h => len_are_stock_marks h) (fun cdv A outer s H vs Q E hr h => ⟨t_are_stock_marks K ca, v_are_stock_marks T (ok_is_mark T) hr, p_are_stock_marks T.ct h⟩)
theorem ok__law_mark (T : Tx P K mg a d ca) : FnOk P w K mg base CX0 2 (a 10) (d 10) P__law_mark (sp__law_mark K ca) :=
  T.f__law_mark.ok sc__law_mark (fun vs H Q E h => len__law_mark h) (fun cdv A outer s H vs Q E hr h => ⟨t__law_mark K ca, v__law_mark T (ok__law_take T) hr, p__law_mark T.ct h⟩)
theorem ok__law_sorted (T : Tx P K mg a d ca) : FnOk P w K mg base CX0 2 (a 12) (d 12) P__law_sorted (sp__law_sorted K ca) :=
  T.f__law_sorted.ok sc__law_sorted (fun vs H Q E h => len__law_sorted h) (fun cdv A outer s H vs Q E hr h => ⟨t__law_sorted K ca, v__law_sorted T (ok__law_all_marks T) hr, p__law_sorted T.ct h⟩)
theorem ok__law_rows (T : Tx P K mg a d ca) : FnOk P w K mg base CX0 2 (a 15) (d 15) P__law_rows (sp__law_rows K ca) :=
  T.f__law_rows.ok sc__law_rows (fun vs H Q E h => len__law_rows h) (fun cdv A outer s H vs Q E hr h => ⟨t__law_rows K ca, v__law_rows T (ok__law_letters T) hr, p__law_rows T.ct h⟩)
theorem ok_Stock_first_letters (T : Tx P K mg a d ca) : FnOk P w K mg base CX0 2 (a 22) (d 22) P_Stock_first_letters (sp_Stock_first_letters K ca) :=
  T.f_Stock_first_letters.ok sc_Stock_first_letters (fun vs H Q E h => len_Stock_first_letters h) (fun cdv A outer s H vs Q E hr h => ⟨t_Stock_first_letters K ca, v_Stock_first_letters T (ok_Stock_letters T) hr, p_Stock_first_letters T.ct h⟩)
theorem ok_need_many (T : Tx P K mg a d ca) : FnOk P w K mg base (L2.CX P w) 3 (a 4) (d 4) P_need_many (sp_need_many K ca) :=
  T.f_need_many.okX sc_need_many (fun vs H Q E h => len_need_many h) (fun cdv A outer s H vs Q E hr h => ⟨t_need_many K ca E, v_need_many T (ok_is_integer T) (okI_InvalidInteger T) hr, p_need_many T.ct h⟩)
theorem ok__law_marks (T : Tx P K mg a d ca) : FnOk P w K mg base CX0 3 (a 11) (d 11) P__law_marks (sp__law_marks K ca) :=
  T.f__law_marks.ok sc__law_marks (fun vs H Q E h => len__law_marks h) (fun cdv A outer s H vs Q E hr h => ⟨t__law_marks K ca, v__law_marks T (ok__law_take T) (ok__law_mark T) hr, p__law_marks T.ct h⟩)
theorem ok_Stock___init__ (T : Tx P K mg a d ca) : FnOk P w K mg base (L2.CX P w) 3 (a 20) (d 20) P_Stock___init__ (sp_Stock___init__ K ca) :=
  T.f_Stock___init__.ok sc_Stock___init__ (fun vs H Q E h => len_Stock___init__ h) (fun cdv A outer s H vs Q E hr h => ⟨t_Stock___init__ K ca E, v_Stock___init__ T (ok_is_integer T) (ok_all_marks T) (ok_are_stock_marks T) (okI_InvalidInteger T) (okI_InvalidMarks T) hr, p_Stock___init__ T.ct h⟩)
theorem ok_Stock_amount (T : Tx P K mg a d ca) : FnOk P w K mg base (L2.CX P w) 4 (a 23) (d 23) P_Stock_amount (sp_Stock_amount K ca) :=
  T.f_Stock_amount.okX sc_Stock_amount (fun vs H Q E h => len_Stock_amount h) (fun cdv A outer s H vs Q E hr h => ⟨t_Stock_amount K ca E, v_Stock_amount T (ok_need_many T) (ok_Stock_first_letters T) hr, p_Stock_amount T.ct h⟩)
theorem ok_Stock_text_at (T : Tx P K mg a d ca) : FnOk P w K mg base (L2.CX P w) 5 (a 25) (d 25) P_Stock_text_at (sp_Stock_text_at K ca) :=
  T.f_Stock_text_at.okX sc_Stock_text_at (fun vs H Q E h => len_Stock_text_at h) (fun cdv A outer s H vs Q E hr h => ⟨t_Stock_text_at K ca E, v_Stock_text_at T (ok_is_integer T) (ok_text_of_letters T) (ok_Stock_letters T) (ok_Stock_first_letters T) (ok_Stock_amount T) (okI_InvalidInteger T) hr, p_Stock_text_at T.ct h⟩)
theorem ok_Stock_texts (T : Tx P K mg a d ca) : GFn1 P w K mg base 6 (a 24) (d 24) P_Stock_texts (sp_Stock_texts K ca) :=
  okGx T.f_Stock_texts sc_Stock_texts (by decide +kernel) (fun Γ vs H γ YL EN E h => len_Stock_texts h) (fun cdv A outer s H vs Γ γ YL EN E pn hr h gx => ⟨t_Stock_texts K ca E Γ, v_Stock_texts T (ok_Stock_amount T) (ok_Stock_text_at T) gx hr, p_Stock_texts T.ct h⟩)
theorem ok__law_begun (T : Tx P K mg a d ca) : FnOk P w K mg base CX0 8 (a 16) (d 16) P__law_begun (sp__law_begun K ca) :=
  T.f__law_begun.ok sc__law_begun (fun vs H Q E h => len__law_begun h) (fun cdv A outer s H vs Q E hr h => ⟨t__law_begun K ca, v__law_begun T (ok_Stock_texts T) hr, p__law_begun T.ct h⟩)
theorem ok__law_nested_right (T : Tx P K mg a d ca) : FnOk P w K mg base CX0 8 (a 17) (d 17) P__law_nested_right (sp__law_nested_right K ca) :=
  T.f__law_nested_right.ok sc__law_nested_right (fun vs H Q E h => len__law_nested_right h) (fun cdv A outer s H vs Q E hr h => ⟨t__law_nested_right K ca, v__law_nested_right T (ok__law_rows T) (ok_Stock_texts T) hr, p__law_nested_right T.ct h⟩)
theorem ok__law_right (T : Tx P K mg a d ca) : FnOk P w K mg base CX0 9 (a 18) (d 18) P__law_right (sp__law_right K ca) :=
  T.f__law_right.ok sc__law_right (fun vs H Q E h => len__law_right h) (fun cdv A outer s H vs Q E hr h => ⟨t__law_right K ca, v__law_right T (ok__law_take T) (ok__law_marks T) (ok__law_sorted T) (ok__law_letters T) (ok__law_power T) (ok__law_rows T) (ok__law_begun T) (ok__law_nested_right T) (ok_Stock___init__ T) (ok_Stock_amount T) (ok_Stock_texts T) hr, p__law_right T.ct h⟩)
theorem ok_law (T : Tx P K mg a d ca) : FnOk P w K mg base CX0 10 (a 19) (d 19) P_law (sp_law K ca) :=
  T.f_law.ok sc_law (fun vs H Q E h => len_law h) (fun cdv A outer s H vs Q E hr h => ⟨t_law K ca, v_law T (ok__law_cell T) (ok__law_purse T) (ok__law_right T) hr, p_law T.ct h⟩)
end
abbrev blank : Str := Str.ofString " "
local macro_rules | `(tactic| walk_at "ev") => `(tactic| simp -implicitDefEqProofs only [Fx.v_slT, Fx.v_slT0, Fx.v_slT1, Fx.v_slT2, Fx.d_slT, Fx.d_slTl, Fx.d_addTi, Fx.d_addTs, Fx.d_addTl, Fx.v_dnewC, Fx.v_zipC, Fx.v_callT, Fx.v_propT, Fx.v_sup, Fx.v_asgNS, Fx.v_appX, Fx.d_strX_str, Fx.d_sum, Fx.v_isiX, Fx.v_binO, Fx.v_binO1, Fx.v_inO, Fx.v_inO1, Fx.v_inO3, Fx.v_eqO, Fx.v_eqO1, Fx.v_eqO3, Fx.v_augD, Fx.v_augD0, Fx.v_augD1, Fx.v_augD2, Fx.v_idxL, Fx.v_idxL1, Fx.v_idxL2, Fx.v_raise0, Fx.v_fld, Fx.v_setF, Fx.v_meth, Fx.v_methA, Fx.v_sp1, Fx.v_mk, Fx.v_mkK, Fx.v_mkK1, Fx.v_cmeth, Fx.v_runI1, Fx.v_runIx, Fx.v_fmt, Fx.v_js0, Fx.v_js, Fx.v_lrg, Fx.v_lrg1, Fx.v_callK, Fx.v_callK1, Fx.bE_ok, Fx.bE_xc, Fx.bS_nx, Fx.bS_rt, Fx.bS_bk, Fx.bS_ct, Fx.bS_xc, Fx.eS_ok, Fx.eS_xc, Fx.v_seq, Fx.v_next, Fx.v_break, Fx.v_cont, Fx.v_c, Fx.v_var, Fx.kVar_val, Fx.kVar_own, Fx.kVar_oob, Fx.v_op, Fx.v_op1, Fx.v_op2, Fx.v_un, Fx.v_un1, Fx.v_not, Fx.v_not1, Fx.v_and, Fx.v_andT, Fx.v_andF, Fx.v_or, Fx.v_orT, Fx.v_orF, Fx.v_if, Fx.v_ifT, Fx.v_ifF, Fx.v_chain, Fx.v_ch, Fx.v_ch0, Fx.v_ch1T, Fx.v_ch1F, Fx.v_ch2, Fx.v_isi, Fx.v_isiT, Fx.v_isi1, Fx.v_isi2, Fx.ty_non, Fx.ty_bl, Fx.ty_int, Fx.ty_str, Fx.ty_lst, Fx.ty_tup, Fx.ty_dct, Fx.v_cb, Fx.bA_ok, Fx.bA_xc, Fx.v_nil, Fx.v_cons, Fx.v_cons1, Fx.v_cons1x, Fx.v_cons2, Fx.v_cons2x, Fx.nop_tr, Fx.nop_fs, Fx.nop_pk, Fx.v_lst, Fx.v_tup, Fx.v_dnew, Fx.v_call, Fx.v_call1, Fx.v_m1, Fx.v_m1a, Fx.v_m1b, Fx.v_part, Fx.v_part1, Fx.v_nopart, Fx.v_sl, Fx.v_sl0, Fx.v_sl1, Fx.v_sl2, Fx.bO_ok, Fx.v_rev, Fx.v_expr, Fx.v_expr1, Fx.v_ifs, Fx.v_ifsT, Fx.v_ifsF, Fx.v_ret, Fx.v_retT, Fx.v_retS, Fx.v_retN, Fx.v_retV, Fx.v_retV1, Fx.v_retV2, Fx.v_asg, Fx.v_asgT, Fx.v_asgS, Fx.v_asg2, Fx.v_gn, Fx.v_gsNil, Fx.v_gsCons, Fx.v_gs, Fx.v_par, Fx.v_par1, Fx.v_aug, Fx.v_aug1, Fx.v_aug2, Fx.v_own, Fx.v_own1, Fx.v_frz, Fx.v_frz0, Fx.v_frz1, Fx.v_frz2, Fx.v_frz3, Fx.v_app, Fx.v_ado, Fx.v_ado1, Fx.v_xf, Fx.v_set, Fx.v_for, Fx.v_for1, Fx.v_forx, Fx.v_iter, Fx.v_iter1, Fx.v_iter1s, Fx.v_iter2, Fx.it_str, Fx.it_lst, Fx.it_tup, Fx.v_rng1, Fx.v_enum, Fx.v_enumL, Fx.v_enumT, Fx.v_raise, Fx.v_raise1, Fx.v_try, Fx.v_tryN, Fx.v_tryX, Fx.v_run1, Fx.v_run2, Fx.v_run3, Fx.v_r0, Fx.v_r1, Fx.v_r2, Fx.v_r3, Fx.v_r4, Fx.v_r5, Fx.v_nx, Fx.v_nx1, Fx.d_eq_str, Fx.d_eq_int, Fx.d_add_int, Fx.d_sub, Fx.d_cmp, Fx.d_len_lst, Fx.d_len_tup, Fx.d_len_fro, Fx.d_nil, Fx.d_max, Fx.d_min, Fx.d_sl_lst, Fx.d_list, Fx.d_listT, Fx.d_tuple, Fx.d_isN, Fx.d_isB, List.map_cons, List.map_nil, List.length_cons, List.length_nil, List.replicate, List.cons_append, List.nil_append, List.append_nil, List.getElem?_cons_zero, List.getElem?_cons_succ, List.set, Nat.reduceAdd, Nat.reduceSub, Nat.zero_add, if_true, if_false, reduceIte, Bool.not_true, Bool.not_false, Bool.and_true, Bool.true_and, Bool.and_self, Bool.false_xor, Bool.true_xor, Bool.false_eq_true, isT, Fx.tyd_non, Fx.tyd_bl, Fx.tyd_int, Fx.tyd_str, Fx.tyd_lst, Fx.tyd_tup, Fx.tyd_dct, reduceCtorEq, decide_true, decide_false, Bool.or_false, Bool.or_true, Bool.false_or, Bool.true_or, Bool.and_false, Bool.false_and, List.any_cons, List.any_nil])
theorem py_istr {S : Sto} {d : D} {z : Str} (h : Py S d (.str z)) : d = .str z := by
  rcases py_inv h with ⟨e, _⟩ | ⟨b, e, _⟩ | ⟨b, e, _⟩ | ⟨b, e, r⟩ | ⟨ps, ds, e, _⟩ | ⟨ps, ds, e, _⟩ | ⟨e, _⟩ <;> cases e
  exact r
theorem lim_of {n : Nat} (h : n ≤ 200000) : n ≤ lim := Nat.le_trans h (by decide)
theorem eq_str (z : Str) (a : String) {l : List Nat} (h : sl (Str.ofString a) = l) : decide (z = Str.ofString a) = decide (sl z = l) := by
  have := eq_fix z a h
  rw [← this]
  simp
theorem pick0 {α : Type} (c : α) (r : List α) : atI (c :: r) 0 = some c := by
  unfold atI ixN
  rw [if_pos (by decide), if_pos (by show (0 : Int) < ((c :: r).length : Int); rw [List.length_cons]; omega)]
  rfl
theorem pick1 {α : Type} (b c : α) (r : List α) : atI (b :: c :: r) 1 = some c := by
  unfold atI ixN
  rw [if_pos (by decide), if_pos (by show (1 : Int) < ((b :: c :: r).length : Int); rw [List.length_cons, List.length_cons]; omega)]
  rfl
theorem pick_at {α : Type} {r : List α} {i : Nat} {x : α} (h : r[i]? = some x) : atI r (i : Nat) = some x := by
  have hi := (List.getElem?_eq_some_iff.mp h).1
  unfold atI ixN
  rw [if_pos (by omega), if_pos (by omega)]
  exact h
theorem rng_len (lo : Int) (n : Nat) : (rngD lo n).length = n := by unfold rngD; rw [List.length_map, List.length_range]
theorem rng_at {lo : Int} {n i : Nat} (h : i < n) : (rngD lo n)[i]? = some (.int (lo + (i : Nat))) := by
  unfold rngD; rw [List.getElem?_map, List.getElem?_range h]; rfl
/-- a comprehension that changes the store: what holds of items and store, turn by turn -/
theorem fold_inv {g : Gd} {step : StepC} {ds : List D} (I : Nat → List D → Sto → Prop) (hg : ∀ i acc S, I i acc S → gOk g S)
    (hs : ∀ i d acc S, ds[i]? = some d → I i acc S → ∃ acc' S', step d acc S = some (acc', S') ∧ I (i + 1) acc' S') {acc : List D} {S : Sto} (h0 : I 0 acc S) : ∃ acc' S', foldC g step ds acc S = some (acc', S') ∧ I ds.length acc' S' := by
  have key : ∀ (n i : Nat) (acc : List D) (S : Sto), n = ds.length - i → i ≤ ds.length → I i acc S → ∃ acc' S', foldC g step (ds.drop i) acc S = some (acc', S') ∧ I ds.length acc' S' := by
    intro n
    induction n with
    | zero =>
      intro i acc S hn hi h
      obtain rfl : i = ds.length := by omega
      rw [List.drop_length]
      unfold foldC
      rw [if_pos (hg _ _ _ h)]
      exact ⟨acc, S, rfl, h⟩
    | succ n ih =>
      intro i acc S hn hi h
      have hlt : i < ds.length := by omega
      rw [List.drop_eq_getElem_cons hlt]
      obtain ⟨acc', S', e1, e2⟩ := hs i ds[i] acc S (List.getElem?_eq_getElem hlt) h
      unfold foldC
      rw [if_pos (hg _ _ _ h), e1]
      exact ih (i + 1) acc' S' (by omega) hlt e2
  have := key ds.length 0 acc S (by omega) (Nat.zero_le _) h0
  rwa [List.drop_zero] at this
theorem lc_inv {it : FI} {step : Ev → StepC} {vs : List Nat} {ρ : Ev} {S S1 : Sto} {ds : List D} {g : Gd} (hi : it ρ S = .ok ds g S1) (I : Nat → List D → Sto → Prop) (hg : ∀ i acc S, I i acc S → gOk g S)
    (hs : ∀ i d acc S, ds[i]? = some d → I i acc S → ∃ acc' S', step (wipeE ρ vs) d acc S = some (acc', S') ∧ I (i + 1) acc' S') (h0 : I 0 [] S1) : ∃ acc' S', fLcG it step vs ρ S = .ok (.lst acc') .fs S' ∧ I ds.length acc' S' := by
  obtain ⟨acc', S', e1, e2⟩ := fold_inv I hg hs h0
  refine ⟨acc', S', ?_, e2⟩
  unfold fLcG
  rw [hi]
  dsimp only
  rw [e1]
theorem step_one {set : FG} {te : FE} {ρ ρ1 : Ev} {d y : D} {acc : List D} {S S2 : Sto} {f : Fl} (h1 : set d ρ S = some ρ1) (h2 : te ρ1 S = .ok y f S2) (hf : f.nop = true) (hl : acc.length < lim) : step1 set (fC (.bl true)) te ρ d acc S = some (acc ++ [y], S2) := by
  unfold step1
  rw [h1]; dsimp only
  rw [v_c]; dsimp only
  rw [h2]; dsimp only
  rw [hf, decide_eq_true hl]; rfl
theorem bools_py {S : Sto} {f : PyData → Bool} : ∀ {ds : List D} {ps : List PyData}, PyAll S ds ps → bools (ds.map fun e => match toP S e with | some q => D.bl (f q) | none => .non) = some (ps.map f)
  | [], ps, h4 => by
    have := h4.len
    cases ps with
    | nil => rfl
    | cons => simp at this
  | x :: ds, ps, h4 => by
    have hl := h4.len
    cases ps with
    | nil => simp at hl
    | cons q ps =>
      unfold PyAll at h4
      simp only [treeAll] at h4
      split at h4
      · rename_i q' ps' e1 e2
        cases h4
        simp only [List.map_cons, bools]
        rw [show toP S x = some q from e1]
        simp only [bools]
        rw [bools_py (ds := ds) e2]
        rfl
      · cases h4
/-- [f(x) for x in v] where f looks at data -/
theorem lc_py {S : Sto} {d : D} {p : PyData} {ps : List PyData} {F : FF} {f : PyData → Bool} {ρ : Ev} {i j : Nat} (h : Py S d p) (hp : p = .list ps ∨ p = .tuple ps) (hw : PyData.weightAll ps ≤ 200000) (hF : ∀ e q, Py S e q → q.weight ≤ 200000 → F [e] S = .ok (.bl (f q)) .tr S)
    (hi : ρ[i]? = some (.val d)) (hj : ∀ e, ((wipeE ρ [j]).set j (.val e))[j]? = some (.val e)) : ∃ ds, sqOf S d = some ds ∧ PyAll S ds ps ∧ fLc (fIter (fVar i)) (gN j) (fC (.bl true)) (fCall F [] (fCons (fVar j) fNil)) [j] ρ S = .ok (.lst (ds.map fun e => match toP S e with | some q => D.bl (f q) | none => .non)) .fs S := by
  obtain ⟨ds, g, h1, h2, h3, h4⟩ := py_sq h hp
  refine ⟨ds, h1, h4, lc_map (S1 := S) (g := g) ?_ h3 (by rw [h4.len]; exact lim_of (Nat.le_trans (wt_len ps) hw)) fun e he => ?_⟩
  · rw [v_iter, Fx.v_var, hi, kVar_val, v_iter1, h2]; rfl
  · obtain ⟨q, hq, hp⟩ := h4.mem he
    refine ⟨_, .tr, rfl, ?_, rfl⟩
    rw [v_call, v_cons, Fx.v_var, hj e]
    walk_at "ev"
    rw [hF e q hp (by have := wt_mem hq; omega), show toP S e = some q from hp]
def tokV (t : Tk) : D := .tup [.str t.1, .str t.2]
theorem py_tok (S : Sto) (t : Tk) : Py S (tokV t) (tokD t) := py_tup (.cons (py_str S _) (.cons (py_str S _) .nil))
theorem py_toks (S : Sto) : ∀ ts : List Tk, PyAll S (ts.map tokV) (ts.map tokD)
  | [] => .nil
  | t :: ts => .cons (py_tok S t) (py_toks S ts)
theorem py_text (S : Sto) (ts : List Tk) : Py S (.lst (ts.map tokV)) (textD ts) := py_lst (py_toks S ts)
theorem sign_pick {a : String} {l : List Nat} (hl : sl (Str.ofString a) = l) {r : Int} {S : Sto} (h0 : 0 ≤ r) (h1 : r < l.length) (hz : l.length ≤ 1000) : ∃ c, c ∈ l ∧ dIx (.str (Str.ofString a)) (.int r) S = .ok (.str ⟨#[c]⟩) .tr S := by
  obtain ⟨c, e, hm⟩ := pick (xs := sl (Str.ofString a)) h0 (by rw [hl]; exact h1)
  refine ⟨c, by rw [← hl]; exact hm, d_ix_str ?_ e⟩
  rw [sl_len, hl]; exact Nat.le_trans hz (by decide)
theorem two_mark {a b : Nat} (ha : a ∈ [35, 124, 47]) (hb : b ∈ [48, 49, 50, 51]) : isMark (⟨#[a]⟩ ++ ⟨#[b]⟩) = true := by
  have e : (⟨#[a]⟩ ++ ⟨#[b]⟩ : Str).cps.toList = [a, b] := sl_app ⟨#[a]⟩ ⟨#[b]⟩
  rw [isMark_two e, decide_eq_true ha, decide_eq_true hb]; rfl
def Box (S : Sto) (k n : Nat) : Prop := ∃ x y z : Int, S[k]? = some (.lst [.int x, .int y, .int z]) ∧ 0 ≤ x ∧ 0 ≤ y ∧ y < 2147483629 ∧ 0 ≤ z ∧ z ≤ n
/-- but for the cell k the store has grown -/
def Fk (k : Nat) (S S' : Sto) : Prop := S.length ≤ S'.length ∧ ∀ j c, j ≠ k → S[j]? = some c → S'[j]? = some c
theorem Fk.refl (k : Nat) (S : Sto) : Fk k S S := ⟨Nat.le_refl _, fun _ _ _ h => h⟩
theorem Fk.trans {k : Nat} {S S1 S2 : Sto} (a : Fk k S S1) (b : Fk k S1 S2) : Fk k S S2 := ⟨Nat.le_trans a.1 b.1, fun j c n h => b.2 j c n (a.2 j c n h)⟩
theorem Fk.set (k : Nat) (S : Sto) (c : Ce) : Fk k S (S.set k c) := ⟨by rw [List.length_set]; exact Nat.le_refl _, fun j e n h => by rw [List.getElem?_set_ne (Ne.symm n)]; exact h⟩
theorem Box.lt {S : Sto} {k n : Nat} (h : Box S k n) : k < S.length := by
  obtain ⟨x, y, z, e, _⟩ := h
  exact (List.getElem?_eq_some_iff.mp e).1
theorem Box.le {S : Sto} {k n m : Nat} (h : Box S k n) (e : n ≤ m) : Box S k m := by
  obtain ⟨x, y, z, h1, h2, h3, h4, h5, h6⟩ := h
  exact ⟨x, y, z, h1, h2, h3, h4, h5, by omega⟩
theorem f_is_mark {S : Sto} {d : D} {p : PyData} (h : Py S d p) (hw : p.weight ≤ 200000) : F_is_mark [d] S = .ok (.bl (markD p)) .tr S := by
  unfold F_is_mark b_is_mark
  walk_at "ev"
  rw [py_ty h]
  cases p with
  | str z =>
    cases py_istr h
    rw [wt_str] at hw
    walk_at "ev"
    show _ = RE.ok (.bl (isMark z)) _ _
    rw [eq_str z " " cps_blank]
    by_cases h1 : sl z = [32]
    · have e : isMark z = true := by unfold isMark; rw [show z.cps.toList = [32] from h1]; rfl
      rw [decide_eq_true h1, e]; walk_at "ev"
    · rw [decide_eq_false h1]
      walk_at "ev"
      rw [d_len_str (lim_of hw)]
      walk_at "ev"
      by_cases h2 : z.length = 2
      · have hl : (sl z).length = 2 := h2
        obtain ⟨a, b, hz⟩ : ∃ a b, sl z = [a, b] := by
          match hs : sl z, hl with
          | [a, b], _ => exact ⟨a, b, rfl⟩
        rw [decide_eq_true (show (z.length : Int) = 2 by omega)]
        walk_at "ev"
        rw [d_ix_str (lim_of hw) (show atI (sl z) 0 = some a by rw [hz]; exact pick0 _ _)]
        walk_at "ev"
        rw [d_in_str (c := a) rfl, isMark_two hz]
        walk_at "ev"
        rw [show sl (Str.ofString "#|/") = [35, 124, 47] from cps_kinds]
        by_cases h3 : a ∈ [35, 124, 47]
        · rw [decide_eq_true h3]
          walk_at "ev"
          rw [d_ix_str (lim_of hw) (show atI (sl z) 1 = some b by rw [hz]; exact pick1 _ _ _)]
          walk_at "ev"
          rw [d_in_str (c := b) rfl, show sl (Str.ofString "0123") = [48, 49, 50, 51] from cps_digits]
          walk_at "ev"
        · rw [decide_eq_false h3]
          walk_at "ev"
      · rw [decide_eq_false (show ¬ (z.length : Int) = 2 by omega), isMark_other h1 h2]
        walk_at "ev"
  | _ => walk_at "ev"; rfl
theorem f_cell {ns : List Int} {k : Int} {S : Sto} (h0 : 0 ≤ k) (h1 : k ≤ 1000) : ∃ n, F__law_cell [.fro true (intsD ns), .int k] S = .ok (.int n) .tr S := by
  unfold F__law_cell b__law_cell
  walk_at "ev"
  by_cases hk : k < (intsD ns).length
  · rw [decide_eq_true hk]
    walk_at "ev"
    obtain ⟨v, e, hm⟩ := pick h0 hk
    unfold intsD at hm
    obtain ⟨n, _, rfl⟩ := List.mem_map.mp hm
    rw [d_ix_fro e]
    walk_at "ev"
    exact ⟨n, rfl⟩
  · rw [decide_eq_false hk]
    walk_at "ev"
    rw [d_mul (.inl ⟨by decide, by decide⟩)]
    walk_at "ev"
    exact ⟨_, rfl⟩
theorem f_purse {c : Int} {S : Sto} : ∃ ds, F__law_purse [.int c] S = .ok (.lst ds) .fs S ∧ ∃ x y : Int, ds = [.int x, .int y, .int 0] ∧ 0 ≤ x ∧ 0 ≤ y ∧ y < 2147483629 := by
  unfold F__law_purse b__law_purse
  walk_at "ev"
  rw [d_pow ⟨by decide, by decide, by decide⟩]
  walk_at "ev"
  rw [d_mod (by decide)]
  walk_at "ev"
  rw [d_lst (by show 3 ≤ lim; decide)]
  walk_at "ev"
  refine ⟨_, rfl, _, _, rfl, ?_, Int.emod_nonneg _ (by decide), Int.emod_lt_of_pos _ (by decide)⟩
  split <;> omega
theorem f_take {S : Sto} {k n : Nat} {m : Int} (hb : Box S k n) (hn : n ≤ 1000000) (hm : 0 < m) (hm2 : m ≤ 100000000) : ∃ r S', F__law_take [.cel k, .int m] S = .ok (.int r) .tr S' ∧ 0 ≤ r ∧ r < m ∧ Box S' k (n + 1) ∧ Fk k S S' := by
  obtain ⟨x, y, z, hs, h1, h2, h3, h4, h5⟩ := hb
  have hk : k < S.length := (List.getElem?_eq_some_iff.mp hs).1
  unfold F__law_take b__law_take
  walk_at "ev"
  rw [d_ix_cel hs (pick0 _ _)]
  walk_at "ev"
  by_cases hx : 0 < x
  · rw [decide_eq_true hx]
    walk_at "ev"
    rw [d_ix_cel hs (pick0 _ _)]
    walk_at "ev"
    rw [d_mod hm]
    walk_at "ev"
    rw [d_ix_cel hs (pick0 _ _)]
    walk_at "ev"
    rw [d_fdiv ⟨hm, by omega⟩]
    walk_at "ev"
    rw [v_setC rfl rfl hs]
    walk_at "ev"
    rw [v_setC2 (j := 0) rfl hs rfl]
    walk_at "ev"
    refine ⟨_, _, rfl, Int.emod_nonneg _ (by omega), Int.emod_lt_of_pos _ hm, ⟨x / m, y, z, by rw [List.getElem?_set_self hk], Int.ediv_nonneg h1 (by omega), h2, h3, h4, by omega⟩, Fk.set _ _ _⟩
  · rw [decide_eq_false hx]
    walk_at "ev"
    rw [d_ix_cel hs (show atI [D.int x, .int y, .int z] 2 = some (.int z) from rfl)]
    walk_at "ev"
    rw [v_setC rfl rfl hs]
    walk_at "ev"
    rw [v_setC2 (j := 2) rfl hs rfl]
    walk_at "ev"
    have hs' : (S.set k (.lst [.int x, .int y, .int (z + 1)]))[k]? = some (.lst [.int x, .int y, .int (z + 1)]) := by rw [List.getElem?_set_self hk]
    rw [d_ix_cel hs' (show atI [D.int x, .int y, .int (z + 1)] 1 = some (.int y) from rfl)]
    walk_at "ev"
    rw [d_ix_cel hs' (show atI [D.int x, .int y, .int (z + 1)] 2 = some (.int (z + 1)) from rfl)]
    walk_at "ev"
    rw [d_mul (.inl ⟨by decide, by decide⟩)]
    walk_at "ev"
    rw [d_pow ⟨by decide, by decide, by omega⟩]
    walk_at "ev"
    rw [d_mod (by decide)]
    walk_at "ev"
    rw [d_ix_cel hs' (show atI [D.int x, .int y, .int (z + 1)] 2 = some (.int (z + 1)) from rfl)]
    walk_at "ev"
    rw [d_mul (.inl ⟨by decide, by decide⟩)]
    walk_at "ev"
    have b1 := Int.emod_nonneg ((y + 7919 * (z + 1) + 144) ^ (5 : Int).toNat) (show (2147483647 : Int) ≠ 0 by decide)
    have b2 := Int.emod_lt_of_pos ((y + 7919 * (z + 1) + 144) ^ (5 : Int).toNat) (show (0 : Int) < 2147483647 by decide)
    rw [d_pow ⟨by decide, by decide, by omega⟩]
    walk_at "ev"
    rw [d_mod (by decide)]
    walk_at "ev"
    rw [d_fdiv ⟨by decide, by decide⟩]
    walk_at "ev"
    rw [d_mod hm]
    walk_at "ev"
    exact ⟨_, _, rfl, Int.emod_nonneg _ (by omega), Int.emod_lt_of_pos _ hm, ⟨x, y, z + 1, hs', h1, h2, h3, by omega, by omega⟩, Fk.set _ _ _⟩
def allMarks : List Str := [" ", "#0", "#1", "#2", "#3", "|0", "|1", "|2", "|3", "/0", "/1", "/2", "/3"]
theorem f_all_marks {S : Sto} : F__law_all_marks [] S = .ok (.lst (allMarks.map D.str)) .fs S := by
  unfold F__law_all_marks b__law_all_marks
  walk_at "ev"
  rw [d_lst (by decide)]
  walk_at "ev"
  rfl
theorem f_mark {S : Sto} {k n : Nat} (hb : Box S k n) (hn : n ≤ 900000) : ∃ z S', F__law_mark [.cel k] S = .ok (.str z) .tr S' ∧ isMark z = true ∧ Box S' k (n + 3) ∧ Fk k S S' := by
  unfold F__law_mark b__law_mark
  walk_at "ev"
  obtain ⟨r, S1, e1, r0, r1, b1, f1⟩ := f_take (m := 3) hb (by omega) (by decide) (by decide)
  rw [e1]
  walk_at "ev"
  by_cases hr : r = 0
  · rw [decide_eq_true hr]
    walk_at "ev"
    exact ⟨_, _, rfl, by decide +kernel, b1.le (by omega), f1⟩
  · rw [decide_eq_false hr]
    walk_at "ev"
    obtain ⟨r2, S2, e2, p0, p1, b2, f2⟩ := f_take (m := 3) b1 (by omega) (by decide) (by decide)
    rw [e2]
    walk_at "ev"
    obtain ⟨c, hc, ec⟩ := sign_pick (S := S2) cps_kinds p0 p1 (by decide)
    rw [ec]
    walk_at "ev"
    obtain ⟨r3, S3, e3, q0, q1, b3, f3⟩ := f_take (m := 4) b2 (by omega) (by decide) (by decide)
    rw [e3]
    walk_at "ev"
    obtain ⟨i, hi, ei⟩ := sign_pick (S := S3) cps_digits q0 q1 (by decide)
    rw [ei]
    walk_at "ev"
    rw [d_add_str (a := ⟨#[c]⟩) (b := ⟨#[i]⟩) (show 1 + 1 ≤ lim by decide)]
    walk_at "ev"
    exact ⟨_, _, rfl, two_mark hc hi, b3, (f1.trans f2).trans f3⟩
def hasP (ms : List Str) : Bool := ms.any fun z => decide ((sl z).head? = some 35)
def sortM (ms : List Str) : List Str := allMarks.filter fun z => decide (z ∈ ms)
theorem allM_mark : ∀ z ∈ allMarks, isMark z = true := by decide +kernel
theorem sortM_all {ms : List Str} {z : Str} (h : z ∈ sortM ms) : z ∈ allMarks := (List.mem_filter.mp h).1
theorem allM_mem : ∀ z : Str, isMark z = true → z ∈ allMarks := by
  intro z h
  rcases mark_forms h with e | ⟨k, i, e, hk, hi⟩
  · have : z = blank := sl_inj (by rw [show sl z = [32] from e]; exact cps_blank.symm)
    rw [this]; decide +kernel
  · have ez : z = ⟨#[k, i]⟩ := sl_inj (by rw [show sl z = [k, i] from e])
    rw [ez]
    simp only [List.mem_cons, List.not_mem_nil, or_false] at hk hi
    rcases hk with rfl | rfl | rfl <;> rcases hi with rfl | rfl | rfl | rfl <;> decide +kernel
theorem sortM_idem (ms : List Str) : sortM (sortM ms) = sortM ms := by
  unfold sortM
  apply List.filter_congr
  intro z hz
  rw [Bool.eq_iff_iff]
  simp only [decide_eq_true_eq, List.mem_filter]
  exact ⟨fun h => h.2, fun h => ⟨hz, h⟩⟩
theorem hasP_sort {ms : List Str} (hm : ∀ z ∈ ms, isMark z = true) : hasP (sortM ms) = hasP ms := by
  unfold hasP
  rw [Bool.eq_iff_iff, List.any_eq_true, List.any_eq_true]
  constructor
  · rintro ⟨z, h1, h2⟩
    exact ⟨z, by simpa using (List.mem_filter.mp h1).2, h2⟩
  · rintro ⟨z, h1, h2⟩
    exact ⟨z, List.mem_filter.mpr ⟨allM_mem z (hm z h1), by simpa using h1⟩, h2⟩
theorem sortM_len (ms : List Str) : (sortM ms).length ≤ 13 := List.length_filter_le _ _
local macro_rules | `(tactic| walk_at "ex") => `(tactic| simp -implicitDefEqProofs only [Fx.v_slT, Fx.v_slT0, Fx.v_slT1, Fx.v_slT2, Fx.d_slT, Fx.d_slTl, Fx.d_addTi, Fx.d_addTs, Fx.d_addTl, Fx.v_dnewC, Fx.v_zipC, Fx.d_ixl0, Fx.d_ixl1, Fx.d_ixl2, Fx.d_ixt0, Fx.d_ixt1, Fx.d_lst0, Fx.d_lst1, Fx.d_lst2, Fx.d_tup0, Fx.d_tup1, Fx.d_tup2, Fx.d_int_int, Fx.d_neg, Fx.v_gt2, Fx.v_gt1, Fx.v_callT, Fx.v_propT, Fx.v_sup, Fx.v_asgNS, Fx.v_appX, Fx.d_strX_str, Fx.d_sum, Fx.v_isiX, Fx.v_binO, Fx.v_binO1, Fx.v_inO, Fx.v_inO1, Fx.v_inO3, Fx.v_eqO, Fx.v_eqO1, Fx.v_eqO3, Fx.v_eqX, Fx.v_eqX1, Fx.v_neO, Fx.v_neO1, Fx.v_neO3, Fx.v_augD, Fx.v_augD0, Fx.v_augD1, Fx.v_augD2, Fx.v_idxL, Fx.v_idxL1, Fx.v_idxL2, Fx.v_raise0, Fx.v_fld, Fx.v_setF, Fx.v_meth, Fx.v_methA, Fx.v_sp1, Fx.v_mk, Fx.v_mkK, Fx.v_mkK1, Fx.v_cmeth, Fx.v_runI1, Fx.v_runIx, Fx.v_fmt, Fx.v_js0, Fx.v_js, Fx.v_lrg, Fx.v_lrg1, Fx.v_callK, Fx.v_callK1, Fx.bE_ok, Fx.bE_xc, Fx.bS_nx, Fx.bS_rt, Fx.bS_bk, Fx.bS_ct, Fx.bS_xc, Fx.eS_ok, Fx.eS_xc, Fx.v_seq, Fx.v_next, Fx.v_break, Fx.v_cont, Fx.v_c, Fx.v_var, Fx.kVar_val, Fx.kVar_own, Fx.kVar_oob, Fx.v_op, Fx.v_op1, Fx.v_op2, Fx.v_un, Fx.v_un1, Fx.v_not, Fx.v_not1, Fx.v_and, Fx.v_andT, Fx.v_andF, Fx.v_or, Fx.v_orT, Fx.v_orF, Fx.v_if, Fx.v_ifT, Fx.v_ifF, Fx.v_chain, Fx.v_ch, Fx.v_ch0, Fx.v_ch1T, Fx.v_ch1F, Fx.v_ch2, Fx.v_isi, Fx.v_isiT, Fx.v_isi1, Fx.v_isi2, Fx.ty_non, Fx.ty_bl, Fx.ty_int, Fx.ty_str, Fx.ty_lst, Fx.ty_tup, Fx.ty_dct, Fx.v_cb, Fx.bA_ok, Fx.bA_xc, Fx.v_nil, Fx.v_cons, Fx.v_cons1, Fx.v_cons1x, Fx.v_cons2, Fx.v_cons2x, Fx.nop_tr, Fx.nop_fs, Fx.nop_pk, Fx.v_lst, Fx.v_tup, Fx.v_dnew, Fx.v_call, Fx.v_call1, Fx.v_m1, Fx.v_m1a, Fx.v_m1b, Fx.v_part, Fx.v_part1, Fx.v_nopart, Fx.v_sl, Fx.v_sl0, Fx.v_sl1, Fx.v_sl2, Fx.bO_ok, Fx.v_rev, Fx.v_expr, Fx.v_expr1, Fx.v_ifs, Fx.v_ifsT, Fx.v_ifsF, Fx.v_ret, Fx.v_retT, Fx.v_retS, Fx.v_retN, Fx.v_retV, Fx.v_retV1, Fx.v_retV2, Fx.v_asg, Fx.v_asgT, Fx.v_asgS, Fx.v_asg2, Fx.v_gn, Fx.v_gsNil, Fx.v_gsCons, Fx.v_gs, Fx.v_par, Fx.v_par1, Fx.v_aug, Fx.v_aug1, Fx.v_aug2, Fx.v_own, Fx.v_own1, Fx.v_frz, Fx.v_frz0, Fx.v_frz1, Fx.v_frz2, Fx.v_frz3, Fx.v_app, Fx.v_ado, Fx.v_ado1, Fx.v_xf, Fx.v_set, Fx.v_for, Fx.v_for1, Fx.v_forx, Fx.v_iter, Fx.v_iter1, Fx.v_iter1s, Fx.v_iter2, Fx.it_str, Fx.it_lst, Fx.it_tup, Fx.v_rng1, Fx.v_enum, Fx.v_enumL, Fx.v_enumT, Fx.v_raise, Fx.v_raise1, Fx.v_try, Fx.v_tryN, Fx.v_tryX, Fx.v_run1, Fx.v_run2, Fx.v_run3, Fx.v_r0, Fx.v_r1, Fx.v_r2, Fx.v_r3, Fx.v_r4, Fx.v_r5, Fx.v_nx, Fx.v_nx1, Fx.d_eq_str, Fx.d_eq_int, Fx.d_add_int, Fx.d_sub, Fx.d_cmp, Fx.d_len_lst, Fx.d_len_tup, Fx.d_len_fro, Fx.d_nil, Fx.d_max, Fx.d_min, Fx.d_sl_lst, Fx.d_list, Fx.d_listT, Fx.d_tuple, Fx.d_isN, Fx.d_isB, List.map_cons, List.map_nil, List.length_cons, List.length_nil, List.replicate, List.cons_append, List.nil_append, List.append_nil, List.getElem?_cons_zero, List.getElem?_cons_succ, List.set, Nat.reduceAdd, Nat.reduceSub, Nat.zero_add, if_true, if_false, reduceIte, Bool.not_true, Bool.not_false, Bool.and_true, Bool.true_and, Bool.and_self, Bool.false_xor, Bool.true_xor, Bool.false_eq_true, isT, Fx.tyd_non, Fx.tyd_bl, Fx.tyd_int, Fx.tyd_str, Fx.tyd_lst, Fx.tyd_tup, Fx.tyd_dct, reduceCtorEq, decide_true, decide_false, Bool.or_false, Bool.or_true, Bool.false_or, Bool.true_or, Bool.and_false, Bool.false_and, List.any_cons, List.any_nil])
theorem f_is_integer {S : Sto} {i lo hi : Int} : F_is_integer [.int i, .int lo, .int hi] S = .ok (.bl (decide (lo ≤ i) && decide (i ≤ hi))) .tr S := by
  unfold F_is_integer b_is_integer
  walk_at "ev"
  cases h : decide (lo ≤ i) with
  | false => walk_at "ev"
  | true => walk_at "ev"
theorem chars_kinds : charsD (Str.ofString "#|/") = [.str ⟨#[35]⟩, .str ⟨#[124]⟩, .str ⟨#[47]⟩] := by
  unfold charsD; rw [show (sl (Str.ofString "#|/")) = [35, 124, 47] from cps_kinds]; rfl
theorem log_nat {n : Nat} (h : n < 100) : ((n : Int)).natAbs.log2 < 1920 := by
  have : ((n : Int)).natAbs = n := by omega
  rw [this]
  by_cases h0 : n = 0
  · subst h0; decide
  · exact (Nat.log2_lt h0).mpr (Nat.lt_of_lt_of_le h (by
      calc 100 ≤ 2 ^ 7 := by decide
        _ ≤ 2 ^ 1920 := Nat.pow_le_pow_right (by decide) (by decide)))
def mkF (d e : D) : D := match d, e with
  | .str a, .int i => .str (a ++ Str.ofString (toString i))
  | _, _ => .non
theorem all_eq : [D.str (Str.ofString " ")] ++ ([D.str ⟨#[35]⟩, .str ⟨#[124]⟩, .str ⟨#[47]⟩].flatMap fun d => (rngD 0 4).map (mkF d)) = allMarks.map D.str := by
  rfl
theorem f_marks {S : Sto} : F_all_marks [] S = .ok (.lst (allMarks.map D.str)) .fs S := by
  unfold F_all_marks b_all_marks
  walk_at "ev"
  rw [d_lst (by decide)]
  walk_at "ev"
  rw [lc2_map (ds := [.str ⟨#[35]⟩, .str ⟨#[124]⟩, .str ⟨#[47]⟩]) (items := fun _ => rngD 0 4) (f := mkF) (by walk_at "ev"; rw [chars_kinds]) (fun d hd => by
    refine ⟨_, rfl, by walk_at "ev"; rfl, fun e he => ?_⟩
    unfold rngD at he
    obtain ⟨i, hi, rfl⟩ := List.mem_map.mp he
    have hi := List.mem_range.mp hi
    simp only [List.mem_cons, List.not_mem_nil, or_false] at hd
    refine ⟨_, .tr, rfl, ?_, rfl⟩
    rcases hd with rfl | rfl | rfl <;> (
      show fOp dAdd (fVar 0) (fCB dStr (fCons (fVar 1) fNil)) [.val _, .val _] S = _
      walk_at "ev"
      rw [d_str_int (by rw [Int.zero_add]; exact log_nat (by omega))]
      walk_at "ev"
      rw [d_add_str]
      · rfl
      · have : (toString (0 + (i : Int)) : Str).length ≤ 10 := by
          have : ∀ j : Nat, j < 4 → (Str.ofString (toString (0 + (j : Int)))).length ≤ 10 := by decide +kernel
          exact this i hi
        exact Nat.le_trans (Nat.add_le_add (Nat.le_refl 1) this) (by decide))) (by decide)]
  walk_at "ev"
  rw [d_add_lst (by decide), all_eq]
  walk_at "ev"
theorem lst_strs {S : Sto} (ms : List Str) : PyAll S (ms.map D.str) (ms.map PyData.str) := by
  induction ms with
  | nil => exact .nil
  | cons m ms ih => exact .cons (py_str S m) ih
def rowP : PyData → Option (List PyData)
  | .list ps => some ps
  | .tuple ps => some ps
  | _ => none
def headPD (p : PyData) : Bool := match p with | .str z => decide ((sl z).head? = some 35) | _ => false
def stockP (p : PyData) : Bool := match rowP p with
  | some ps => ps.all markD && ps.any headPD
  | none => false
theorem markD_str {p : PyData} (h : markD p = true) : ∃ m, p = .str m ∧ isMark m = true := by
  cases p with
  | str m => exact ⟨m, rfl, h⟩
  | _ => cases h
theorem f_stock_marks {S : Sto} {d : D} {p : PyData} (h : Py S d p) (hw : p.weight ≤ 200000) : F_are_stock_marks [d] S = .ok (.bl (stockP p)) .tr S := by
  have row : ∀ ps, (p = .list ps ∨ p = .tuple ps) → PyData.weightAll ps ≤ 200000 → F_are_stock_marks [d] S = .ok (.bl (ps.all markD && ps.any headPD)) .tr S := fun ps hp hw => by
    unfold F_are_stock_marks b_are_stock_marks
    walk_at "ev"
    rw [py_ty h]
    obtain ⟨ds, h1, h4, e⟩ := lc_py (F := F_is_mark) (f := markD) (ρ := [.val d, .no]) (i := 0) (j := 1) h hp hw (fun e q => f_is_mark) rfl (fun _ => rfl)
    have ht : (decide (tyD p = Ty.lst) || decide (tyD p = Ty.tup)) = true := by rcases hp with rfl | rfl <;> rfl
    rw [v_isi2, ht]
    walk_at "ev"
    rw [e]
    walk_at "ev"
    rw [d_all (bools_py h4)]
    walk_at "ev"
    rw [List.all_map]
    cases ha : ps.all (id ∘ markD) with
    | false =>
      have : ps.all markD = false := ha
      rw [this]; walk_at "ev"
    | true =>
      have ha : ps.all markD = true := ha
      rw [ha]
      walk_at "ev"
      obtain ⟨ds', g, g1, g2, g3, g4⟩ := py_sq h hp
      rw [h1] at g1
      cases g1
      rw [lc_map (S1 := S) (ds := ds) (g := g) (f := fun e => match toP S e with | some q => D.bl (headPD q) | none => .non) (by rw [v_iter, Fx.v_var, show ([Sl.val d, Sl.no] : Ev)[0]? = some (.val d) from rfl, kVar_val, v_iter1, g2]; rfl) g3 (by rw [h4.len]; exact lim_of (Nat.le_trans (wt_len ps) hw)) (fun e he => by
        obtain ⟨q, hq, hpq⟩ := h4.mem he
        obtain ⟨m, rfl, hmk⟩ := markD_str (List.all_eq_true.mp ha q hq)
        cases py_istr hpq
        refine ⟨_, .tr, rfl, ?_, rfl⟩
        show fOp (dEqv false) (fOp dIx (fVar 1) (fC (.int 0))) (fC (.str "#")) [.val _, .val (.str m)] S = _
        walk_at "ev"
        have hml := mark_len hmk
        have hz : ∃ c r, sl m = c :: r := by
          rcases mark_forms hmk with e | ⟨k, i, e, _⟩
          · exact ⟨_, _, e⟩
          · exact ⟨_, _, e⟩
        obtain ⟨c, r, hz⟩ := hz
        rw [d_ix_str (show m.length ≤ lim from Nat.le_trans hml (by decide)) (by rw [hz]; exact pick0 _ _)]
        walk_at "ev"
        rw [eq_str _ "#" (l := [35]) (by decide +kernel), show toP S (.str m) = some (.str m) from py_str S m]
        unfold headPD
        dsimp only
        rw [hz]
        congr 2
        rw [Bool.eq_iff_iff]
        simp [sl])]
      walk_at "ev"
      rw [show dAny [D.lst (ds.map fun e => match toP S e with | some q => D.bl (headPD q) | none => D.non)] true S = _ from d_any (bools_py h4)]
      walk_at "ev"
      rw [List.any_map]
      rfl
  cases p with
  | list ps => rw [wt_list] at hw; exact row ps (.inl rfl) hw
  | tuple ps => rw [wt_tup] at hw; exact row ps (.inr rfl) hw
  | _ => unfold F_are_stock_marks b_are_stock_marks; walk_at "ev"; rw [py_ty h]; walk_at "ev"; rfl
def IsM (S : Sto) (d : D) (ms : List Str) : Prop := d = .lst (ms.map D.str) ∨ d = .tup (ms.map D.str) ∨ ∃ k, d = .cel k ∧ S[k]? = some (.lst (ms.map D.str))
theorem IsM.py {S : Sto} {d : D} {ms : List Str} (h : IsM S d ms) : ∃ p, Py S d p ∧ (p = .list (ms.map PyData.str) ∨ p = .tuple (ms.map PyData.str)) := by
  rcases h with rfl | rfl | ⟨k, rfl, hk⟩
  · exact ⟨_, py_lst (lst_strs ms), .inl rfl⟩
  · exact ⟨_, py_tup (lst_strs ms), .inr rfl⟩
  · refine ⟨.list (ms.map PyData.str), ?_, .inl rfl⟩
    have all : ∀ c, treeAll c (ms.map D.str) = some (ms.map PyData.str) := fun c => by
      induction ms with
      | nil => rfl
      | cons m ms ih =>
        have ih : treeAll c (ms.map D.str) = some (ms.map PyData.str) := by
          have : ∀ l : List Str, treeAll c (l.map D.str) = some (l.map PyData.str) := fun l => by
            induction l with
            | nil => rfl
            | cons a l ih => simp only [List.map_cons, treeAll, tree, ih]
          exact this ms
        simp only [List.map_cons, treeAll, tree, ih]
    unfold Py toP
    simp only [tree]
    unfold cells
    rw [hk]
    dsimp only
    rw [all]; rfl
theorem stockP_strs (ms : List Str) : ((ms.map PyData.str).all markD && (ms.map PyData.str).any headPD) = (ms.all isMark && hasP ms) := by
  rw [List.all_map, List.any_map]; rfl
theorem wt_strs1 : ∀ (l : List Str) (n : Nat), (∀ z ∈ l, z.length ≤ n) → PyData.weightAll (l.map PyData.str) ≤ (n + 1) * l.length
  | [], n, _ => by rw [List.map_nil, wt_nil]; omega
  | z :: l, n, h => by
    rw [List.map_cons, wt_cons, wt_str, List.length_cons, Nat.mul_add]
    have := wt_strs1 l n fun w hw => h w (List.mem_cons_of_mem _ hw)
    have := h z List.mem_cons_self
    omega
theorem IsM.marks {S : Sto} {d : D} {ms : List Str} (h : IsM S d ms) (hl : ms.length ≤ 1000) (hm : ∀ m ∈ ms, isMark m = true) : F_are_stock_marks [d] S = .ok (.bl (hasP ms)) .tr S := by
  obtain ⟨p, hp, e⟩ := h.py
  have hw := wt_strs1 ms 2 (fun m hm' => mark_len (hm m hm'))
  have hs : stockP p = hasP ms := by
    have : stockP p = (ms.all isMark && hasP ms) := by
      rcases e with rfl | rfl
      · exact stockP_strs ms
      · exact stockP_strs ms
    rw [this, List.all_eq_true.mpr hm, Bool.true_and]
  rw [f_stock_marks hp (by rcases e with rfl | rfl <;> simp only [wt_list, wt_tup] <;> omega), hs]
theorem IsM.mem {S : Sto} {d : D} {ms : List Str} (h : IsM S d ms) (z : Str) : dIn false (.str z) d S = .ok (.bl (decide (z ∈ ms))) .tr S := by
  rcases h with rfl | rfl | ⟨k, rfl, hk⟩
  · exact d_in_strs
  · exact d_in_strsT
  · unfold dIn
    simp only [flat, sqOf, hk, flat_strs, inV_strs]
    rfl
def lettersD (ms : List Str) (lo hi : Int) : List D := (ms.map D.str).flatMap fun d => (rngD lo (hi + 1 - lo).toNat).map fun e => .tup [d, e]
def stkF (ms : List Str) (lo hi : Int) : List (Str × D) := [("own_marks", .lst (ms.map .str)), ("least", .int lo), ("most", .int hi), ("own_letters", .lst (lettersD ms lo hi))]
abbrev stk (ms : List Str) (lo hi : Int) : D := .obj 6 (stkF ms lo hi)
theorem cf_m : cf_ 6 "own_marks" = true := by decide +kernel
theorem cf_l : cf_ 6 "least" = true := by decide +kernel
theorem cf_h : cf_ 6 "most" = true := by decide +kernel
theorem cf_o : cf_ 6 "own_letters" = true := by decide +kernel
theorem flat_len {ds : List D} {f : D → List D} {n : Nat} (h : ∀ d, (f d).length = n) : (ds.flatMap f).length = ds.length * n := by
  induction ds with
  | nil => simp
  | cons d ds ih => rw [List.flatMap_cons, List.length_append, h, ih, List.length_cons, Nat.add_mul]; omega
theorem f_init {S : Sto} {ms : List Str} {lo hi : Int} {dm : D} (hdm : IsM S dm ms) (hl : ms.length ≤ 1000) (hm : ∀ m ∈ ms, isMark m = true) (hp : hasP ms = true) (h1 : 1 ≤ lo) (h2 : lo ≤ hi) (h3 : hi ≤ 30) : F_Stock___init__ 6 [] [dm, .int lo, .int hi] S = .ok (stkF (sortM ms) lo hi) S := by
  unfold F_Stock___init__ b_Stock___init__
  rw [v_runI (m := 4) (ds := [_, _, _]) rfl]
  walk_at "ev"
  rw [hdm.marks hl hm, hp]
  walk_at "ev"
  unfold b_Stock___init___1
  walk_at "ev"
  rw [f_is_integer, decide_eq_true h1, decide_eq_true (show lo ≤ 30 by omega)]
  walk_at "ev"
  unfold b_Stock___init___2
  walk_at "ev"
  rw [f_is_integer, decide_eq_true h2, decide_eq_true h3]
  walk_at "ev"
  unfold b_Stock___init___3
  walk_at "ev"
  rw [lc_flat (S1 := S) (ds := allMarks.map D.str) (g := none) (c := fun d => match d with | .str z => decide (z ∈ ms) | _ => false) (f := fun d => d) (by walk_at "ev"; rw [f_marks]; walk_at "ev") trivial (by decide) (fun d hd => by
    obtain ⟨m, hm, rfl⟩ := List.mem_map.mp hd
    refine ⟨_, .tr, rfl, ?_, fun _ => ⟨.tr, rfl, rfl⟩⟩
    show fOp (dIn false) (fVar 4) (fVar 1) [.oob 6 [], .val dm, .val (.int lo), .val (.int hi), .val (.str m), .no] S = _
    walk_at "ev"
    rw [hdm.mem])]
  rw [show ((allMarks.map D.str).filter (fun d => match d with | .str z => decide (z ∈ ms) | _ => false)).map (fun d => d) = (sortM ms).map D.str by
    unfold sortM
    rw [List.map_id', List.filter_map]
    rfl]
  walk_at "ev"
  rw [v_setF1 cf_m (by decide) rfl]
  walk_at "ev"
  unfold b_Stock___init___4 b_Stock___init___5 b_Stock___init___6
  walk_at "ev"
  rw [v_setF1 cf_l (putD_lt 99 (by decide)) rfl]
  walk_at "ev"
  rw [v_setF1 cf_h (putD_lt 99 (putD_lt 98 (by decide))) rfl]
  walk_at "ev"
  rw [lc2_map (ds := (sortM ms).map D.str) (items := fun _ => rngD lo (hi + 1 - lo).toNat) (f := fun d e => .tup [d, e]) (by
    walk_at "ev"
    rw [v_fld1 (x := .lst ((sortM ms).map D.str)) cf_m rfl]
    walk_at "ev") (fun d hd => by
    refine ⟨_, rfl, ?_, fun e he => ?_⟩
    · show fRng2 (fCons (fVar 2) (fCons (fOp dAdd (fVar 3) (fC (.int 1))) fNil)) [.oob 6 _, .val _, .val (.int lo), .val (.int hi), .val d, .no] S = _
      rw [v_rng2]
      walk_at "ev"
      rw [v_rng2a (by omega) (by omega) (by omega) (by omega)]
    · refine ⟨_, .tr, rfl, ?_, rfl⟩
      show fTup (fCons (fVar 4) (fCons (fVar 5) fNil)) [.oob 6 _, .val _, .val _, .val _, .val d, .val e] S = _
      walk_at "ev"
      rw [d_tup (ds := [_, _]) (show 2 ≤ lim by decide)]) (by
    rw [flat_len (n := (hi + 1 - lo).toNat) (fun d => by rw [List.length_map]; exact rng_len _ _), List.length_map]
    have := sortM_len ms
    have : (sortM ms).length * (hi + 1 - lo).toNat ≤ 13 * 30 := Nat.mul_le_mul this (by omega)
    exact Nat.le_trans this (by decide))]
  walk_at "ev"
  rw [v_setF1 cf_o (putD_lt 99 (putD_lt 98 (putD_lt 97 (by decide)))) rfl]
  walk_at "ev"
  rfl
theorem d_eq_pure {neg b : Bool} {S : Sto} {d e : D} {p q : PyData} (hd : Py S d p) (he : Py S e q) (pd : pureD p = true) (pe : pureD q = true) (sd : SeqAt.shaped p = true) (se : SeqAt.shaped q = true) (hb : b = true ↔ p = q) : dEqv neg d e S = .ok (.bl (neg ^^ b)) .tr S := by
  unfold dEqv
  rw [show toP S d = some p from hd, show toP S e = some q from he]
  dsimp only
  rw [if_pos (by rw [sd, se, pure_nodict p pd, pure_nodict q pe]; simp)]
  congr 3
  rw [Bool.eq_iff_iff, eqv_iff p q pd pe, hb]
theorem map_inj {α β : Type} {f : α → β} (hf : ∀ a b, f a = f b → a = b) : ∀ {l m : List α}, l.map f = m.map f → l = m
  | [], [], _ => rfl
  | [], _ :: _, h => by cases h
  | _ :: _, [], h => by cases h
  | a :: l, b :: m, h => by
    rw [List.map_cons, List.map_cons] at h
    injection h with h1 h2
    rw [hf a b h1, map_inj hf h2]
def lts (ms : List Str) (lo hi : Int) : List (Str × Int) := ms.flatMap fun m => (List.range (hi + 1 - lo).toNat).map fun i => (m, lo + (i : Nat))
def ltD (p : Str × Int) : D := .tup [.str p.1, .int p.2]
def isP (p : Str × Int) : Bool := decide ((sl p.1).head? = some 35)
theorem letters_eq (ms : List Str) (lo hi : Int) : lettersD ms lo hi = (lts ms lo hi).map ltD := by
  unfold lettersD lts rngD
  rw [List.map_flatMap, List.flatMap_map]
  congr 1
  funext m
  rw [List.map_map, List.map_map]; rfl
theorem lts_mem {ms : List Str} {lo hi : Int} {p : Str × Int} : p ∈ lts ms lo hi ↔ p.1 ∈ ms ∧ lo ≤ p.2 ∧ p.2 ≤ hi := by
  unfold lts
  rw [List.mem_flatMap]
  constructor
  · rintro ⟨m, hm, h⟩
    obtain ⟨i, hi', rfl⟩ := List.mem_map.mp h
    have := List.mem_range.mp hi'
    exact ⟨hm, by show lo ≤ lo + _; omega, by show lo + _ ≤ hi; omega⟩
  · rintro ⟨h1, h2, h3⟩
    refine ⟨p.1, h1, List.mem_map.mpr ⟨(p.2 - lo).toNat, List.mem_range.mpr (by omega), ?_⟩⟩
    obtain ⟨a, b⟩ := p
    simp only [Prod.mk.injEq, true_and]
    simp only at h2 h3
    omega
theorem lts_len (ms : List Str) (lo hi : Int) : (lts ms lo hi).length = ms.length * (hi + 1 - lo).toNat := by
  unfold lts
  induction ms with
  | nil => simp
  | cons m ms ih => rw [List.flatMap_cons, List.length_append, ih, List.length_map, List.length_range, List.length_cons, Nat.add_mul]; omega
theorem lts_le {ms : List Str} {lo hi : Int} (hl : ms.length ≤ 13) (h1 : 1 ≤ lo) (h3 : hi ≤ 30) : (lts ms lo hi).length ≤ 390 := by
  rw [lts_len]
  exact Nat.le_trans (Nat.mul_le_mul hl (show (hi + 1 - lo).toNat ≤ 30 by omega)) (by decide)
theorem sk_o (ms : List Str) (lo hi : Int) : (stkF ms lo hi).lookup (Str.ofString "own_letters") = some (D.lst ((lts ms lo hi).map ltD)) := by rw [← letters_eq]; rfl
theorem f_letters {S : Sto} {ms : List Str} {lo hi : Int} : F_Stock_letters [stk ms lo hi] S = .ok (.lst ((lts ms lo hi).map ltD)) .fs S := by
  unfold F_Stock_letters b_Stock_letters
  walk_at "ev"
  rw [v_fld1 cf_o (sk_o _ _ _)]
  walk_at "ev"
def lkM {α : Type} (n : Nat) (F : α) : lookF n [(n, F)] = some F := by unfold lookF; rw [if_pos rfl]
theorem sk_no {ms : List Str} {lo hi : Int} {m : Str} (h : m ∉ ([Str.ofString "own_marks", Str.ofString "least", Str.ofString "most", Str.ofString "own_letters"] : List Str)) : (stkF ms lo hi).lookup m = none := by
  simp only [List.mem_cons, List.not_mem_nil, or_false, not_or] at h
  unfold stkF
  simp only [List.lookup_cons, List.lookup_nil]
  have e : ∀ {a : Str}, ¬ m = a → (m == a) = false := fun h => by simpa using h
  rw [e h.1, e h.2.1, e h.2.2.1, e h.2.2.2]
theorem mark_head {m : Str} (h : isMark m = true) : ∃ c r, sl m = c :: r := by
  rcases mark_forms h with e | ⟨k, i, e, _⟩
  · exact ⟨_, _, e⟩
  · exact ⟨_, _, e⟩
theorem f_first {S : Sto} {ms : List Str} {lo hi : Int} (hm : ∀ m ∈ ms, isMark m = true) (hl : ms.length ≤ 13) (h1 : 1 ≤ lo) (h3 : hi ≤ 30) : F_Stock_first_letters [stk ms lo hi] S = .ok (.lst (((lts ms lo hi).filter isP).map ltD)) .fs S := by
  unfold F_Stock_first_letters b_Stock_first_letters
  walk_at "ev"
  rw [lc_flat (S1 := S) (ds := (lts ms lo hi).map ltD) (g := none) (c := fun d => match d with | .tup [.str z, _] => decide ((sl z).head? = some 35) | _ => false) (f := fun d => d) (by
    walk_at "ev"
    rw [v_meth1 rfl (sk_no (by decide +kernel)) (lkM _ _)]
    walk_at "ev"
    rw [f_letters]
    walk_at "ev") trivial (by rw [List.length_map]; exact Nat.le_trans (lts_le hl h1 h3) (by decide)) (fun d hd => by
    obtain ⟨p, hp, rfl⟩ := List.mem_map.mp hd
    refine ⟨_, .tr, rfl, ?_, fun _ => ⟨.tr, ?_, rfl⟩⟩
    · show fOp (dEqv false) (fOp dIx (fVar 1) (fC (.int 0))) (fC (.str "#")) [.val _, .val (.str p.1), .val (.int p.2)] S = _
      walk_at "ev"
      obtain ⟨c, r, ez⟩ := mark_head (hm p.1 (lts_mem.mp hp).1)
      rw [d_ix_str (Nat.le_trans (mark_len (hm p.1 (lts_mem.mp hp).1)) (by decide)) (by rw [ez]; exact pick0 _ _)]
      walk_at "ev"
      rw [eq_str _ "#" (l := [35]) (by decide +kernel)]
      unfold ltD
      dsimp only
      rw [ez]
      congr 2
      rw [Bool.eq_iff_iff]
      simp [sl]
    · show fTup (fCons (fVar 1) (fCons (fVar 2) fNil)) [.val _, .val (.str p.1), .val (.int p.2)] S = _
      walk_at "ev"
      rw [d_tup (ds := [_, _]) (show 2 ≤ lim by decide)]
      rfl)]
  rw [show (((lts ms lo hi).map ltD).filter (fun d => match d with | .tup [.str z, _] => decide ((sl z).head? = some 35) | _ => false)).map (fun d => d) = ((lts ms lo hi).filter isP).map ltD by
    rw [List.map_id', List.filter_map]; rfl]
  walk_at "ev"
structure OkS (ms : List Str) (lo hi : Int) : Prop where
  so : sortM ms = ms
  hp : hasP ms = true
  h1 : 1 ≤ lo
  h2 : lo ≤ hi
  h3 : hi ≤ 30
section
variable {S : Sto} {ms ns : List Str} {lo hi lo' hi' : Int}
theorem OkS.all (h : OkS ms lo hi) : ∀ m ∈ ms, m ∈ allMarks := fun m hm => by rw [← h.so] at hm; exact sortM_all hm
theorem OkS.mark (h : OkS ms lo hi) : ∀ m ∈ ms, isMark m = true := fun m hm => allM_mark m (h.all m hm)
theorem OkS.len (h : OkS ms lo hi) : ms.length ≤ 13 := by rw [← h.so]; exact sortM_len ms
theorem OkS.sok (h : OkS ms lo hi) : ∀ m ∈ ms, sok m := fun m hm => sok_mark (h.mark m hm)
theorem f_mk {dm : D} (hdm : IsM S dm ms) (hl : ms.length ≤ 1000) (hm : ∀ m ∈ ms, isMark m = true) (hp : hasP ms = true) (h1 : 1 ≤ lo) (h2 : lo ≤ hi) (h3 : hi ≤ 30) : kMk 6 F_Stock___init__ [dm, .int lo, .int hi] S = .ok (stk (sortM ms) lo hi) .fs S := v_mk1 (f_init hdm hl hm hp h1 h2 h3)
end
section
variable {S : Sto} {ms ns : List Str} {lo hi lo' hi' : Int}
abbrev bothM (ms ns : List Str) : List Str := ms.filter fun z => decide (z ∈ ns)
theorem and_lc {S : Sto} (ρ : Ev) {it : FI} {te2 : FE} {i : Nat} (hi' : it ρ S = .ok (ms.map D.str) none S) (hl : ms.length ≤ 1000) (h2 : ∀ d, te2 ((wipeE ρ [i]).set i (.val d)) S = .ok (.lst (ns.map D.str)) .tr S) (h3 : ∀ d, ((wipeE ρ [i]).set i (.val d))[i]? = some (.val d)) :
    fLc it (gN i) (fOp (dIn false) (fVar i) te2) (fVar i) [i] ρ S = .ok (.lst ((bothM ms ns).map D.str)) .fs S := by
  rw [lc_flat (S1 := S) (ds := ms.map D.str) (g := none) (c := fun d => match d with | .str z => decide (z ∈ ns) | _ => false) (f := fun d => d) hi' trivial (by rw [List.length_map]; exact Nat.le_trans hl (by decide)) (fun d hd => by
    obtain ⟨m, hm, rfl⟩ := List.mem_map.mp hd
    refine ⟨_, .tr, rfl, ?_, fun _ => ⟨.tr, ?_, rfl⟩⟩
    · rw [v_op, Fx.v_var, h3, kVar_val, bE_ok, v_op1, h2, bE_ok, v_op2, d_in_strs]
    · rw [Fx.v_var, h3, kVar_val])]
  rw [List.map_id', List.filter_map]
  rfl
theorem f_sorted (hl : ms.length ≤ 1000) : F__law_sorted [.lst (ms.map D.str)] S = .ok (.lst ((sortM ms).map D.str)) .fs S := by
  unfold F__law_sorted b__law_sorted
  walk_at "ev"
  rw [and_lc (ns := ms) (ms := allMarks) _ (by walk_at "ev"; rw [f_all_marks]; walk_at "ev") (by decide) (fun d => rfl) (fun d => rfl)]
  walk_at "ev"
  rfl
theorem lts_cons (m : Str) : lts (m :: ms) lo hi = ((List.range (hi + 1 - lo).toNat).map fun i => (m, lo + ((i : Nat) : Int))) ++ lts ms lo hi := by unfold lts; rw [List.flatMap_cons]
theorem law_letters_loop (h1 : 1 ≤ lo) (h2 : lo ≤ hi) (h3 : hi ≤ 30) {b : FS} (hb : b = sAsg (fOp dAdd (fVar 3) (fLc (fRng2 (fCons (fVar 1) (fCons (fOp dAdd (fVar 2) (fC (.int 1))) (fNil)))) (gN 5) (fC (.bl true)) (fTup (fCons (fVar 4) (fCons (fVar 5) (fNil)))) [5])) (gN 3)) : ∀ (ns : List Str) (acc : List (Str × Int)) (dm : D) (s4 s5 : Sl), acc.length + (lts ns lo hi).length ≤ 390 → ∃ s4' s5',
    loopS none (gN 4) b (ns.map D.str) [.val dm, .val (.int lo), .val (.int hi), .val (.lst (acc.map ltD)), s4, s5] S = .nx [.val dm, .val (.int lo), .val (.int hi), .val (.lst ((acc ++ lts ns lo hi).map ltD)), s4', s5'] S
  | [], acc, dm, s4, s5, _ => ⟨s4, s5, by rw [List.map_nil, loop_end (g := none) trivial]; unfold lts; rw [List.flatMap_nil, List.append_nil]⟩
  | m :: ns, acc, dm, s4, s5, hl => by
    rw [lts_cons, List.length_append, List.length_map, List.length_range] at hl
    obtain ⟨s4', s5', ih⟩ := law_letters_loop h1 h2 h3 hb ns (acc ++ ((List.range (hi + 1 - lo).toNat).map fun i => (m, lo + ((i : Nat) : Int)))) dm (.val (.str m)) s5 (by rw [List.length_append, List.length_map, List.length_range]; omega)
    refine ⟨s4', s5', ?_⟩
    rw [List.map_cons, loop_step (g := none) (S2 := S) (ρ2 := [.val dm, .val (.int lo), .val (.int hi), .val (.lst ((acc ++ ((List.range (hi + 1 - lo).toNat).map fun i => (m, lo + ((i : Nat) : Int)))).map ltD)), .val (.str m), s5]) trivial rfl (by
      rw [hb]
      show sAsg _ (gN 3) [.val dm, .val (.int lo), .val (.int hi), .val (.lst (acc.map ltD)), .val (.str m), s5] S = _
      walk_at "ev"
      rw [lc_map (S1 := S) (ds := rngD lo (hi + 1 - lo).toNat) (g := none) (f := fun e => .tup [.str m, e]) (by
        rw [v_rng2]
        walk_at "ev"
        rw [v_rng2a (by omega) (by omega) (by omega) (by omega)]) trivial (by rw [rng_len]; exact Nat.le_trans (show _ ≤ 390 by omega) (by decide)) (fun d hd => by
        refine ⟨_, .tr, rfl, ?_, rfl⟩
        show fTup (fCons (fVar 4) (fCons (fVar 5) fNil)) [_, _, _, _, .val (.str m), .val d] S = _
        walk_at "ev"
        rw [d_tup (ds := [_, _]) (show 2 ≤ lim by decide)])]
      walk_at "ev"
      rw [d_add_lst (by rw [List.length_map, List.length_map, rng_len]; exact Nat.le_trans (show _ ≤ 390 by omega) (by decide))]
      walk_at "ev"
      rw [List.map_append]
      unfold rngD
      rw [List.map_map, List.map_map]
      rfl), ih, lts_cons, List.append_assoc]
theorem f_law_letters (hl : ms.length ≤ 13) (h1 : 1 ≤ lo) (h2 : lo ≤ hi) (h3 : hi ≤ 30) : F__law_letters [.lst (ms.map D.str), .int lo, .int hi] S = .ok (.lst ((lts ms lo hi).map ltD)) .tr S := by
  unfold F__law_letters b__law_letters
  walk_at "ev"
  rw [d_lst (ds := []) (by decide)]
  walk_at "ev"
  obtain ⟨s4, s5, e⟩ := law_letters_loop (S := S) (lo := lo) (hi := hi) h1 h2 h3 rfl ms [] (.lst (ms.map D.str)) .no .no (by have := lts_le hl h1 h3; simpa using this)
  rw [List.map_nil] at e
  rw [e]
  walk_at "ev"
end
theorem f_lmarks {S : Sto} {k n : Nat} {M : Int} (hM : 1 ≤ M) (hM2 : M ≤ 40) (hb : Box S k n) (hn : n ≤ 100000) : ∃ ms S', F__law_marks [.cel k, .int M] S = .ok (.lst (ms.map D.str)) .fs S' ∧ (∀ m ∈ ms, isMark m = true) ∧ hasP ms = true ∧ (ms.length : Int) ≤ M ∧ Box S' k (n + 130) ∧ Fk k S S' := by
  unfold F__law_marks b__law_marks
  walk_at "ev"
  obtain ⟨r, S1, e1, r0, r1, b1, f1⟩ := f_take (m := M) hb (by omega) (by omega) (by omega)
  have hit : fRng1 (fCons (fCall F__law_take [] (fCons (fVar 0) (fCons (fVar 1) fNil))) fNil) [.val (.cel k), .val (.int M), .no, .no, .no] S = .ok (rngD 0 r.toNat) none S1 := by
    walk_at "ev"
    rw [e1]
    walk_at "ev"
    rw [v_rng1a (by omega) (by omega)]
  obtain ⟨acc, S2, e2, ms, hacc, hz, hlen, b2, f2⟩ := lc_inv (vs := [4]) (step := step1 (gN 4) (fC (.bl true)) (fCall F__law_mark [] (fCons (fVar 0) fNil))) hit
    (fun i acc S' => ∃ ms : List Str, acc = ms.map D.str ∧ (∀ m ∈ ms, isMark m = true) ∧ ms.length = i ∧ Box S' k (n + 1 + 3 * i) ∧ Fk k S S') (fun _ _ _ _ => trivial) (by
      rintro i d acc S' hd ⟨ms, rfl, hz, rfl, bz, fz⟩
      have hi := (List.getElem?_eq_some_iff.mp hd).1
      rw [rng_len] at hi
      obtain ⟨z, S3, e3, hm, b3, f3⟩ := f_mark bz (by omega)
      refine ⟨_, S3, step_one (y := .str z) (f := .tr) rfl ?_ rfl (by rw [List.length_map]; exact Nat.lt_of_lt_of_le (show ms.length < 100 by omega) (by decide)), ms ++ [z], by rw [List.map_append]; rfl, fun m hm' => ?_, by rw [List.length_append]; rfl, b3.le (by omega), fz.trans f3⟩
      · show fCall F__law_mark [] (fCons (fVar 0) fNil) [.val (.cel k), .val (.int M), .no, .no, .val d] S' = _
        walk_at "ev"
        rw [e3]
      · rcases List.mem_append.mp hm' with q | q
        · exact hz m q
        · rw [List.mem_singleton.mp q]; exact hm) ⟨[], rfl, fun _ h => (nomatch h), rfl, b1, f1⟩
  rw [rng_len] at hlen b2
  rw [show fLc (fRng1 (fCons (fCall F__law_take [] (fCons (fVar 0) (fCons (fVar 1) fNil))) fNil)) (gN 4) (fC (.bl true)) (fCall F__law_mark [] (fCons (fVar 0) fNil)) [4] [.val (.cel k), .val (.int M), .no, .no, .no] S = .ok (.lst acc) .fs S2 from e2, hacc]
  walk_at "ev"
  rw [List.length_map]
  obtain ⟨q, S3, e3, q0, q1, b3, f3⟩ := f_take (m := (ms.length : Int) + 1) b2 (by omega) (by omega) (by omega)
  rw [e3]
  walk_at "ev"
  obtain ⟨j, rfl⟩ : ∃ j : Nat, q = (j : Int) := ⟨q.toNat, by omega⟩
  rw [cutD_upto]
  obtain ⟨r4, S4, e4, p0, p1, b4, f4⟩ := f_take (m := 4) b3 (by omega) (by decide) (by decide)
  rw [e4]
  walk_at "ev"
  obtain ⟨c, hc, ec⟩ := sign_pick (S := S4) cps_digits p0 p1 (by decide)
  rw [ec]
  walk_at "ev"
  rw [d_add_str (a := Str.ofString "#") (b := ⟨#[c]⟩) (show 1 + 1 ≤ lim by decide)]
  walk_at "ev"
  rw [d_lst (by show 1 ≤ lim; decide)]
  walk_at "ev"
  have lim100 : ∀ {n : Nat}, n ≤ 1000 → n ≤ lim := fun h => Nat.le_trans h (by decide)
  rw [d_add_lst (lim100 (by simp only [List.length_take, List.length_map, List.length_cons, List.length_nil]; omega))]
  walk_at "ev"
  rw [cutD_from, d_add_lst (lim100 (by simp only [List.length_append, List.length_take, List.length_drop, List.length_map, List.length_cons, List.length_nil]; omega))]
  walk_at "ev"
  have hp : isMark (Str.ofString "#" ++ ⟨#[c]⟩) = true := two_mark (a := 35) (by decide) hc
  refine ⟨ms.take j ++ [Str.ofString "#" ++ ⟨#[c]⟩] ++ ms.drop j, S4, by rw [List.map_append, List.map_append, List.map_take, List.map_drop]; rfl, fun m hm => ?_, ?_, ?_, b4.le (by omega), (f2.trans f3).trans f4⟩
  · simp only [List.mem_append, List.mem_singleton] at hm
    rcases hm with (q | q) | q
    · exact hz m (List.mem_of_mem_take q)
    · rw [q]; exact hp
    · exact hz m (List.mem_of_mem_drop q)
  · unfold hasP
    rw [List.any_eq_true]
    exact ⟨Str.ofString "#" ++ ⟨#[c]⟩, by simp, by rw [sl_app, show sl (Str.ofString "#") = [35] by decide +kernel]; rfl⟩
  · simp only [List.length_append, List.length_take, List.length_drop, List.length_cons, List.length_nil]; omega
def hor (b : Nat) (fs : List Nat) (x : Nat) : Nat := fs.foldl (fun x f => x * b + f) x
theorem hor_app (b : Nat) (fs gs : List Nat) (x : Nat) : hor b (fs ++ gs) x = hor b gs (hor b fs x) := List.foldl_append
def dgts (b : Nat) : Nat → Nat → List Nat
  | 0, _ => []
  | n + 1, x => x % b :: dgts b n (x / b)
theorem dgts_len (b : Nat) : ∀ n x, (dgts b n x).length = n
  | 0, _ => rfl
  | n + 1, x => by show (dgts b n (x / b)).length + 1 = _; rw [dgts_len b n]
theorem div_pow (b n x : Nat) : x / b / b ^ n = x / b ^ (n + 1) := by rw [Nat.div_div_eq_div_mul, Nat.pow_succ, Nat.mul_comm]
/-- the figures of a number, of n + 1 places -/
def figs (b n x : Nat) : List Nat := x / b ^ n :: (dgts b n x).reverse
theorem figs_succ (b n x : Nat) : figs b (n + 1) x = figs b n (x / b) ++ [x % b] := by
  unfold figs
  rw [div_pow, show dgts b (n + 1) x = x % b :: dgts b n (x / b) from rfl, List.reverse_cons, List.cons_append]
theorem hor_figs (b : Nat) : ∀ n x, hor b (figs b n x) 0 = x
  | 0, x => by
    show 0 * b + x / b ^ 0 = x
    rw [Nat.pow_zero, Nat.div_one]; omega
  | n + 1, x => by
    rw [figs_succ, hor_app, hor_figs b n]
    show x / b * b + x % b = x
    rw [Nat.mul_comm]; exact Nat.div_add_mod x b
theorem hor_lt {b F : Nat} (hb : 0 < b) {f : Nat} (hf : f < F) : ∀ (n : Nat) (fs : List Nat), fs.length = n → (∀ d ∈ fs, d < b) → hor b (f :: fs) 0 < F * b ^ n
  | 0, fs, hn, _ => by
    rw [List.length_eq_zero_iff.mp hn]
    show 0 * b + f < F * b ^ 0
    rw [Nat.pow_zero]; omega
  | n + 1, fs, hn, h => by
    obtain ⟨r, d, rfl⟩ : ∃ r d, fs = r ++ [d] := ⟨fs.dropLast, fs.getLast (by intro e; rw [e] at hn; cases hn), (List.dropLast_concat_getLast _).symm⟩
    rw [List.length_append] at hn
    have hd : d < b := h d (by simp)
    rw [show f :: (r ++ [d]) = (f :: r) ++ [d] from rfl, hor_app]
    have ih := hor_lt hb hf n r (by simpa using hn) fun q hq => h q (by simp [hq])
    generalize hor b (f :: r) 0 = x at ih ⊢
    show x * b + d < _
    rw [Nat.pow_succ, ← Nat.mul_assoc]
    have : (x + 1) * b ≤ F * b ^ n * b := Nat.mul_le_mul_right b ih
    rw [Nat.add_mul] at this
    omega
def amt (F b many : Nat) : Nat := if many = 0 then 1 else F * b ^ (many - 1)
theorem amt_zero (F b : Nat) : amt F b 0 = 1 := rfl
theorem amt_succ (F b n : Nat) : amt F b (n + 1) = F * b ^ n := rfl
theorem amt_pos {F b : Nat} (hF : 0 < F) (hb : 0 < b) (m : Nat) : 0 < amt F b m := by
  cases m with
  | zero => exact Nat.one_pos
  | succ n => rw [amt_succ]; exact Nat.mul_pos hF (Nat.pow_pos hb)
abbrev fst_ (ms : List Str) (lo hi : Int) : List (Str × Int) := (lts ms lo hi).filter isP
abbrev wid (lo hi : Int) : Nat := (hi + 1 - lo).toNat
abbrev parM (ms : List Str) : List Str := ms.filter fun z => decide ((sl z).head? = some 35)
section
variable {S : Sto} {ms : List Str} {lo hi : Int}
theorem lts_nodup : ∀ {ms : List Str}, ms.Nodup → (lts ms lo hi).Nodup
  | [], _ => by unfold lts; simp
  | m :: ms, h => by
    rw [List.nodup_cons] at h
    rw [lts_cons, List.nodup_append]
    refine ⟨?_, lts_nodup h.2, fun p hp q hq e => ?_⟩
    · unfold List.Nodup
      rw [List.pairwise_map]
      refine List.Pairwise.imp ?_ (List.nodup_range (n := wid lo hi))
      intro a b hab e
      have : lo + ((a : Nat) : Int) = lo + ((b : Nat) : Int) := (Prod.mk.injEq .. ▸ e).2
      omega
    · obtain ⟨i, _, rfl⟩ := List.mem_map.mp hp
      rw [← e] at hq
      exact h.1 (lts_mem.mp hq).1
theorem nodup_at {α : Type} {l : List α} (h : l.Nodup) {i j : Nat} {x : α} (hi : l[i]? = some x) (hj : l[j]? = some x) : i = j := by
  have li := (List.getElem?_eq_some_iff.mp hi).1
  exact (List.getElem?_inj li h).mp (hi.trans hj.symm)
theorem sort_nodup (ms : List Str) : (sortM ms).Nodup := List.Pairwise.filter _ (show allMarks.Nodup by decide +kernel)
theorem OkS.wid_pos (h : OkS ms lo hi) : 0 < wid lo hi := by have := h.h2; unfold wid; omega
theorem fst_eq : ∀ ms : List Str, fst_ ms lo hi = lts (parM ms) lo hi
  | [] => rfl
  | m :: ms => by
    unfold fst_
    rw [lts_cons, List.filter_append, show (lts ms lo hi).filter isP = lts (parM ms) lo hi from fst_eq ms]
    by_cases hm : (sl m).head? = some 35
    · rw [show parM (m :: ms) = m :: parM ms from List.filter_cons_of_pos (decide_eq_true hm), lts_cons]
      congr 1
      rw [List.filter_eq_self]
      intro p hp
      obtain ⟨i, _, rfl⟩ := List.mem_map.mp hp
      exact decide_eq_true hm
    · rw [show parM (m :: ms) = parM ms from List.filter_cons_of_neg (by simpa using hm)]
      rw [List.filter_eq_nil_iff.mpr, List.nil_append]
      intro p hp
      obtain ⟨i, _, rfl⟩ := List.mem_map.mp hp
      show ¬ decide _ = true
      simpa using hm
theorem par_ne (h : OkS ms lo hi) : parM ms ≠ [] := fun e => by
  have hp := h.hp
  unfold hasP at hp
  obtain ⟨z, h1, h2⟩ := List.any_eq_true.mp hp
  have : z ∈ parM ms := List.mem_filter.mpr ⟨h1, h2⟩
  rw [e] at this; cases this
theorem ms_ne (h : OkS ms lo hi) : ms ≠ [] := fun e => par_ne h (by rw [e]; rfl)
theorem fst_len (ms : List Str) : (fst_ ms lo hi).length = (parM ms).length * wid lo hi := by rw [fst_eq, lts_len]
theorem fst_pos (h : OkS ms lo hi) : 0 < (fst_ ms lo hi).length := by
  rw [fst_len]
  exact Nat.mul_pos (List.length_pos_iff.mpr (par_ne h)) h.wid_pos
theorem lts_pos (h : OkS ms lo hi) : 0 < (lts ms lo hi).length := Nat.lt_of_lt_of_le (fst_pos h) (List.length_filter_le _ _)
def At {α : Type} (l : List α) (ps : List α) (fs : List Nat) : Prop := fs.map (fun f => l[f]?) = ps.map some
theorem At.nil {α : Type} (l : List α) : At l [] [] := rfl
theorem At.cons {α : Type} {l : List α} {p : α} {f : Nat} {ps : List α} {fs : List Nat} (h : l[f]? = some p) (r : At l ps fs) : At l (p :: ps) (f :: fs) := by unfold At at r ⊢; rw [List.map_cons, List.map_cons, h, r]
theorem At.app {α : Type} {l : List α} {ps qs : List α} {fs gs : List Nat} (a : At l ps fs) (b : At l qs gs) : At l (ps ++ qs) (fs ++ gs) := by unfold At at a b ⊢; rw [List.map_append, List.map_append, a, b]
theorem At.rev {α : Type} {l : List α} {ps : List α} {fs : List Nat} (a : At l ps fs) : At l ps.reverse fs.reverse := by unfold At at a ⊢; rw [List.map_reverse, List.map_reverse, a]
theorem At.len {α : Type} {l : List α} {ps : List α} {fs : List Nat} (a : At l ps fs) : ps.length = fs.length := by have := congrArg List.length a; simpa using this.symm
theorem At.uncons {α : Type} {l : List α} {p : α} {ps : List α} {fs : List Nat} (a : At l (p :: ps) fs) : ∃ f gs, fs = f :: gs ∧ l[f]? = some p ∧ At l ps gs := by
  cases fs with
  | nil => cases a
  | cons f gs =>
    unfold At at a
    rw [List.map_cons, List.map_cons] at a
    injection a with a1 a2
    exact ⟨f, gs, rfl, a1, a2⟩
theorem At.fun {α : Type} {l : List α} {ps qs : List α} {fs : List Nat} (a : At l ps fs) (b : At l qs fs) : ps = qs := map_inj (f := some) (fun _ _ e => Option.some.inj e) (a.symm.trans b)
theorem At.mem {α : Type} {l : List α} : ∀ {ps : List α} {fs : List Nat}, At l ps fs → ∀ p ∈ ps, p ∈ l
  | [], _, _, p, h => by cases h
  | q :: ps, fs, a, p, h => by
    obtain ⟨f, gs, rfl, e, r⟩ := a.uncons
    rcases List.mem_cons.mp h with z | z
    · rw [z]; exact List.mem_of_getElem? e
    · exact r.mem p z
theorem At.lt {α : Type} {l : List α} {ps : List α} {fs : List Nat} (a : At l ps fs) : ∀ f ∈ fs, f < l.length := fun f hf => by
  have h1 : l[f]? ∈ fs.map (fun f => l[f]?) := List.mem_map.mpr ⟨f, hf, rfl⟩
  rw [show fs.map (fun f => l[f]?) = ps.map some from a] at h1
  obtain ⟨p, _, e⟩ := List.mem_map.mp h1
  exact (List.getElem?_eq_some_iff.mp e.symm).1
theorem At.some {α : Type} {l : List α} : ∀ {fs : List Nat}, (∀ f ∈ fs, f < l.length) → ∃ ps, At l ps fs
  | [], _ => ⟨[], rfl⟩
  | f :: fs, h => by
    obtain ⟨ps, a⟩ := At.some (l := l) (fs := fs) fun g hg => h g (List.mem_cons_of_mem _ hg)
    exact ⟨_, .cons (List.getElem?_eq_getElem (h f List.mem_cons_self)) a⟩
theorem At.inj {α : Type} {l : List α} (hn : l.Nodup) : ∀ {ps : List α} {fs gs : List Nat}, At l ps fs → At l ps gs → fs = gs
  | [], fs, gs, a, b => by
    have h1 := a.len
    have h2 := b.len
    rw [List.length_eq_zero_iff.mp h1.symm, List.length_eq_zero_iff.mp h2.symm]
  | p :: ps, fs, gs, a, b => by
    obtain ⟨f, fs', rfl, e1, r1⟩ := a.uncons
    obtain ⟨g, gs', rfl, e2, r2⟩ := b.uncons
    rw [nodup_at hn e1 e2, At.inj hn r1 r2]
def Lf (ms : List Str) (lo hi : Int) (ps : List (Str × Int)) (fs : List Nat) : Prop := (ps = [] ∧ fs = []) ∨ ∃ p qs f gs, ps = p :: qs ∧ fs = f :: gs ∧ (fst_ ms lo hi)[f]? = some p ∧ At (lts ms lo hi) qs gs
theorem Lf.len {ps : List (Str × Int)} {fs : List Nat} (h : Lf ms lo hi ps fs) : ps.length = fs.length := by
  rcases h with ⟨rfl, rfl⟩ | ⟨p, qs, f, gs, rfl, rfl, _, a⟩
  · rfl
  · rw [List.length_cons, List.length_cons, a.len]
theorem Lf.mem {ps : List (Str × Int)} {fs : List Nat} (h : Lf ms lo hi ps fs) : ∀ p ∈ ps, p ∈ lts ms lo hi := fun p hp => by
  rcases h with ⟨rfl, rfl⟩ | ⟨q, qs, f, gs, rfl, rfl, e, a⟩
  · cases hp
  · rcases List.mem_cons.mp hp with z | z
    · rw [z]; exact (List.mem_filter.mp (List.mem_of_getElem? e)).1
    · exact a.mem p z
theorem Lf.fun {ps qs : List (Str × Int)} {fs : List Nat} (a : Lf ms lo hi ps fs) (b : Lf ms lo hi qs fs) : ps = qs := by
  rcases a with ⟨rfl, rfl⟩ | ⟨p, ps, f, gs, rfl, rfl, e, a⟩
  · rcases b with ⟨rfl, _⟩ | ⟨_, _, _, _, _, z, _⟩
    · rfl
    · cases z
  · rcases b with ⟨_, z⟩ | ⟨p', ps', f', gs', rfl, z, e', a'⟩
    · cases z
    · cases z
      rw [e] at e'
      cases e'
      rw [a.fun a']
theorem Lf.inj (hn : ms.Nodup) {ps : List (Str × Int)} {fs gs : List Nat} (a : Lf ms lo hi ps fs) (b : Lf ms lo hi ps gs) : fs = gs := by
  rcases a with ⟨rfl, rfl⟩ | ⟨p, ps, f, fs', rfl, rfl, e, a⟩
  · rcases b with ⟨_, rfl⟩ | ⟨_, _, _, _, z, _⟩
    · rfl
    · cases z
  · rcases b with ⟨z, _⟩ | ⟨p', ps', f', gs', z, rfl, e', a'⟩
    · cases z
    · cases z
      have hn' := lts_nodup (lo := lo) (hi := hi) hn
      rw [nodup_at (List.Pairwise.filter _ hn') e e', At.inj hn' a a']
theorem Lf.val (h : OkS ms lo hi) {ps : List (Str × Int)} {fs : List Nat} (a : Lf ms lo hi ps fs) : hor (lts ms lo hi).length fs 0 < amt (fst_ ms lo hi).length (lts ms lo hi).length ps.length := by
  rcases a with ⟨rfl, rfl⟩ | ⟨p, ps, f, fs', rfl, rfl, e, a⟩
  · exact Nat.one_pos
  · rw [List.length_cons, amt_succ]
    exact hor_lt (lts_pos h) (List.getElem?_eq_some_iff.mp e).1 ps.length fs' a.len.symm a.lt
end
abbrev aS : Str := Str.ofString "a"
def ltT (p : Str × Int) : Tk := (p.1, Txt.mul aS p.2)
theorem mul_facts : ∀ i < 31, 1 ≤ i → isWord (Txt.mul aS ((i : Nat) : Int)) = true ∧ (Txt.mul aS ((i : Nat) : Int)).length = i := by decide +kernel
theorem mul_word {n : Int} (h1 : 1 ≤ n) (h2 : n ≤ 30) : isWord (Txt.mul aS n) = true ∧ (((Txt.mul aS n).length : Nat) : Int) = n := by
  obtain ⟨m, rfl⟩ : ∃ m : Nat, n = (m : Int) := ⟨n.toNat, by omega⟩
  obtain ⟨h3, h4⟩ := mul_facts m (by omega) (by omega)
  exact ⟨h3, by rw [h4]⟩
theorem aS_eq : aS = ⟨#[97]⟩ := by decide +kernel
theorem mul_ok {n : Int} (h1 : 1 ≤ n) (h2 : n ≤ 30) : MulOk aS n := by
  rw [aS_eq]
  refine ⟨?_, fun h2 _ => ?_, fun _ _ => ?_⟩
  · rw [decide_eq_false (by omega), decide_eq_false (by omega)]; rfl
  · have : (2 ^ 63 - 1 : Int) / n ≥ 1 := by
      rw [ge_iff_le, Int.le_ediv_iff_mul_le (by omega)]; omega
    have e : (Str.length ⟨#[97]⟩ : Int) = 1 := rfl
    rw [e]; omega
  · unfold Builtin.Str.tooLong
    have e : Str.length ⟨#[97]⟩ = 1 := rfl
    rw [e]
    have : sizeLine = 16777216 := sizeLine_eq
    simp
    omega
section
variable {S : Sto} {ms : List Str} {lo hi : Int}
theorem f_need {m : Nat} (hm : m ≤ 300) : F_need_many [.int ((m : Nat) : Int)] S = .ok .non .tr S := by
  unfold F_need_many b_need_many
  walk_at "ev"
  rw [f_is_integer, decide_eq_true (show (0 : Int) ≤ ((m : Nat) : Int) by omega), decide_eq_true (show ((m : Nat) : Int) ≤ 300 by omega)]
  walk_at "ev"
noncomputable abbrev amB : FS := sAugD 2 dMulI (fCB dLen (fCons (fFld cf_ "own_letters" (fVar 0)) (fNil)))
theorem am_loop (h : OkS ms lo hi) {s1 : Sl} : ∀ (ds : List D) (x : Nat) (s3 : Sl), ∃ s3', loopS none (gN 3) amB ds [.val (stk ms lo hi), s1, .val (.int ((x : Nat) : Int)), s3] S = .nx [.val (stk ms lo hi), s1, .val (.int ((x * (lts ms lo hi).length ^ ds.length : Nat) : Int)), s3'] S
  | [], x, s3 => ⟨s3, by rw [loop_end (g := none) trivial, List.length_nil, Nat.pow_zero, Nat.mul_one]⟩
  | d :: ds, x, s3 => by
    have l1 := lts_le h.len h.h1 h.h3
    obtain ⟨s3', ih⟩ := am_loop h (s1 := s1) ds (x * (lts ms lo hi).length) (.val d)
    refine ⟨s3', ?_⟩
    rw [loop_step (g := none) (S2 := S) (ρ2 := [.val (stk ms lo hi), s1, .val (.int ((x * (lts ms lo hi).length : Nat) : Int)), .val d]) trivial rfl (by
      show amB [.val (stk ms lo hi), s1, .val (.int ((x : Nat) : Int)), .val d] S = _
      unfold amB
      walk_at "ev"
      rw [v_fld1 cf_o (sk_o _ _ _)]
      walk_at "ev"
      rw [List.length_map, d_mulI (.inr ⟨by omega, by omega⟩)]
      walk_at "ev"
      rw [Int.natCast_mul]), ih, List.length_cons, Nat.pow_succ, Nat.mul_assoc, Nat.mul_comm ((lts ms lo hi).length ^ ds.length)]
theorem f_amount (h : OkS ms lo hi) {m : Nat} (hm : m ≤ 300) : F_Stock_amount [stk ms lo hi, .int ((m : Nat) : Int)] S = .ok (.int ((amt (fst_ ms lo hi).length (lts ms lo hi).length m : Nat) : Int)) .tr S := by
  unfold F_Stock_amount b_Stock_amount
  walk_at "ev"
  rw [f_need hm]
  walk_at "ev"
  cases m with
  | zero =>
    rw [decide_eq_true (show ((0 : Nat) : Int) = 0 from rfl)]
    walk_at "ev"
    rw [show kRng1 (.ok [.int (((0 : Nat) : Int) - 1)] true S) = .ok [] none S by
      rw [v_rng1a (by decide) (by decide)]; rfl]
    walk_at "ev"
    rw [loop_end (g := none) trivial]
    walk_at "ev"
    rw [amt_zero]; rfl
  | succ n =>
    rw [decide_eq_false (show ¬ ((n + 1 : Nat) : Int) = 0 by omega)]
    walk_at "ev"
    rw [v_meth1 rfl (sk_no (by decide +kernel)) (lkM _ _)]
    walk_at "ev"
    rw [f_first h.mark h.len h.h1 h.h3]
    walk_at "ev"
    rw [v_rng1a (by omega) (by omega), show (((n + 1 : Nat) : Int) - 1).toNat = n by omega]
    walk_at "ev"
    rw [List.length_map]
    obtain ⟨s3, e⟩ := am_loop (S := S) h (s1 := .val (.int ((n + 1 : Nat) : Int))) (rngD 0 n) (fst_ ms lo hi).length .no
    rw [e]
    walk_at "ev"
    rw [rng_len, amt_succ]
theorem f_tol {ps : List (Str × Int)} (hp : ∀ p ∈ ps, 1 ≤ p.2 ∧ p.2 ≤ 30) (hl : ps.length ≤ 1000) : F_text_of_letters [.lst (ps.map ltD)] S = .ok (.lst ((ps.map ltT).map tokV)) .fs S := by
  unfold F_text_of_letters b_text_of_letters
  walk_at "ev"
  rw [lc_map (S1 := S) (ds := ps.map ltD) (g := none) (f := fun d => match d with | .tup [.str m, .int n] => tokV (m, Txt.mul aS n) | _ => .non) (by walk_at "ev") trivial (by rw [List.length_map]; exact Nat.le_trans hl (by decide)) (fun d hd => by
    obtain ⟨r, hr, rfl⟩ := List.mem_map.mp hd
    have h12 := hp r hr
    refine ⟨_, .tr, rfl, ?_, rfl⟩
    show fTup (fCons (fVar 1) (fCons (fOp dMul (fC (.str "a")) (fVar 2)) fNil)) [.val _, .val (.str r.1), .val (.int r.2)] S = _
    walk_at "ev"
    rw [d_mul_str (mul_ok h12.1 h12.2)]
    walk_at "ev"
    rw [d_tup (ds := [_, _]) (show 2 ≤ lim by decide)]
    rfl)]
  walk_at "ev"
  rw [List.map_map, List.map_map]
  rfl
noncomputable abbrev taB : FS := sSeq (chk 4 (sApp 4 (fOp dIx (fVar 3) (fOp dMod (fVar 2) (fCB dLen (fCons (fVar 3) (fNil))))))) (sAugD 2 dFdiv (fCB dLen (fCons (fVar 3) (fNil))))
theorem ta_loop (h : OkS ms lo hi) {s1 : Sl} : ∀ (ds : List D) (x : Nat) (acc : List D) (s5 : Sl), acc.length + ds.length ≤ 1000 → ∃ ps s5', At (lts ms lo hi) ps (dgts (lts ms lo hi).length ds.length x) ∧
    loopS none (gN 5) taB ds [.val (stk ms lo hi), s1, .val (.int ((x : Nat) : Int)), .val (.lst ((lts ms lo hi).map ltD)), .own acc, s5] S = .nx [.val (stk ms lo hi), s1, .val (.int ((x / (lts ms lo hi).length ^ ds.length : Nat) : Int)), .val (.lst ((lts ms lo hi).map ltD)), .own (acc ++ ps.map ltD), s5'] S
  | [], x, acc, s5, _ => ⟨[], s5, rfl, by rw [loop_end (g := none) trivial, List.length_nil, Nat.pow_zero, Nat.div_one, List.map_nil, List.append_nil]⟩
  | d :: ds, x, acc, s5, hl => by
    have l0 := lts_pos h
    have l1 := lts_le h.len h.h1 h.h3
    have hj : x % (lts ms lo hi).length < (lts ms lo hi).length := Nat.mod_lt _ l0
    obtain ⟨q, gj⟩ : ∃ q, (lts ms lo hi)[x % (lts ms lo hi).length]? = some q := ⟨_, List.getElem?_eq_getElem hj⟩
    rw [List.length_cons] at hl
    obtain ⟨ps, s5', a, ih⟩ := ta_loop h (s1 := s1) ds (x / (lts ms lo hi).length) (acc ++ [ltD q]) (.val d) (by rw [List.length_append, List.length_cons, List.length_nil]; omega)
    refine ⟨q :: ps, s5', .cons gj a, ?_⟩
    rw [loop_step (g := none) (S2 := S) (ρ2 := [.val (stk ms lo hi), s1, .val (.int ((x / (lts ms lo hi).length : Nat) : Int)), .val (.lst ((lts ms lo hi).map ltD)), .own (acc ++ [ltD q]), .val d]) trivial rfl (by
      show taB [.val (stk ms lo hi), s1, .val (.int ((x : Nat) : Int)), .val (.lst ((lts ms lo hi).map ltD)), .own acc, .val d] S = _
      unfold taB
      walk_at "ev"
      rw [v_chk rfl]
      walk_at "ev"
      rw [List.length_map, d_mod (by omega)]
      walk_at "ev"
      rw [← Int.natCast_emod, d_ix_lst (x := ltD q) (pick_at (by rw [List.getElem?_map, gj]; rfl))]
      walk_at "ev"
      rw [v_app1 rfl rfl (Nat.lt_of_le_of_lt (show acc.length ≤ 1000 by omega) (by decide))]
      walk_at "ev"
      rw [List.length_map, d_fdiv ⟨by omega, by omega⟩]
      walk_at "ev"
      rw [← Int.natCast_ediv]), ih, List.length_cons, div_pow, List.append_assoc]
    rfl
theorem f_text_at (h : OkS ms lo hi) {m x : Nat} (hm : m ≤ 300) (hx : x < amt (fst_ ms lo hi).length (lts ms lo hi).length m) :
    ∃ ps fs, Lf ms lo hi ps fs ∧ ps.length = m ∧ hor (lts ms lo hi).length fs 0 = x ∧ (∀ n, m = n + 1 → fs = figs (lts ms lo hi).length n x) ∧ F_Stock_text_at [stk ms lo hi, .int ((m : Nat) : Int), .int ((x : Nat) : Int)] S = .ok (.lst ((ps.map ltT).map tokV)) .fs S := by
  have g1 := h.h1
  have g3 := h.h3
  have start : ∀ {r : RE}, kRun (b_Stock_text_at_1 [.val (stk ms lo hi), .val (.int ((m : Nat) : Int)), .val (.int ((x : Nat) : Int)), .no, .no, .no] S) = r → F_Stock_text_at [stk ms lo hi, .int ((m : Nat) : Int), .int ((x : Nat) : Int)] S = r := fun {r} er => by
    unfold F_Stock_text_at b_Stock_text_at
    walk_at "ev"
    rw [v_meth1 rfl (sk_no (by decide +kernel)) (lkM _ _)]
    walk_at "ev"
    rw [f_amount h hm]
    walk_at "ev"
    rw [f_is_integer, decide_eq_true (show (0 : Int) ≤ (x : Nat) by omega), decide_eq_true (show ((x : Nat) : Int) ≤ ((amt (fst_ ms lo hi).length (lts ms lo hi).length m : Nat) : Int) - 1 by omega)]
    walk_at "ev"
    exact er
  have fin : ∀ (ps : List (Str × Int)) (rest : Nat) (s5 : Sl), (∀ p ∈ ps, p ∈ lts ms lo hi) → ps.length ≤ 300 → kRun (b_Stock_text_at_5 [.val (stk ms lo hi), .val (.int ((m : Nat) : Int)), .val (.int ((rest : Nat) : Int)), .val (.lst ((lts ms lo hi).map ltD)), .own (ps.map ltD), s5] S) = .ok (.lst ((ps.reverse.map ltT).map tokV)) .fs S := fun ps rest s5 hp hl => by
    unfold b_Stock_text_at_5
    walk_at "ev"
    rw [show ∀ l : List D, kRev (.lst l) .pk S = .ok (.lst l.reverse) .fs S from fun l => rfl]
    walk_at "ev"
    rw [← List.map_reverse, f_tol (fun p hq => by
      have := lts_mem.mp (hp p (List.mem_reverse.mp hq))
      omega) (by rw [List.length_reverse]; omega)]
    walk_at "ev"
  cases m with
  | zero =>
    rw [amt_zero] at hx
    have hx0 : x = 0 := by omega
    subst hx0
    refine ⟨[], [], .inl ⟨rfl, rfl⟩, rfl, rfl, fun n e => (by cases e), start ?_⟩
    unfold b_Stock_text_at_1
    walk_at "ev"
    rw [v_meth1 rfl (sk_no (by decide +kernel)) (lkM _ _)]
    walk_at "ev"
    rw [f_letters]
    walk_at "ev"
    unfold b_Stock_text_at_2
    walk_at "ev"
    rw [d_lst (ds := []) (by decide)]
    walk_at "ev"
    unfold b_Stock_text_at_3
    walk_at "ev"
    rw [show kRng1 (.ok [.int (((0 : Nat) : Int) - 1)] true S) = .ok [] none S by
      rw [v_rng1a (by decide) (by decide)]; rfl]
    walk_at "ev"
    rw [loop_end (g := none) trivial]
    walk_at "ev"
    unfold b_Stock_text_at_4
    walk_at "ev"
    rw [decide_eq_false (show ¬ ((0 : Nat) : Int) > 0 by omega)]
    walk_at "ev"
    exact fin [] 0 _ (fun _ z => nomatch z) (Nat.zero_le _)
  | succ n =>
    rw [amt_succ] at hx
    obtain ⟨ps, s5, a, e⟩ := ta_loop (S := S) h (s1 := .val (.int ((n + 1 : Nat) : Int))) (rngD 0 n) x [] .no (by rw [rng_len]; show 0 + n ≤ 1000; omega)
    rw [rng_len] at a e
    have hr : x / (lts ms lo hi).length ^ n < (fst_ ms lo hi).length := Nat.div_lt_of_lt_mul (by rw [Nat.mul_comm]; exact hx)
    obtain ⟨p, gp⟩ : ∃ p, (fst_ ms lo hi)[x / (lts ms lo hi).length ^ n]? = some p := ⟨_, List.getElem?_eq_getElem hr⟩
    have lp : ps.length = n := by rw [a.len, dgts_len]
    refine ⟨p :: ps.reverse, figs (lts ms lo hi).length n x, .inr ⟨p, ps.reverse, _, _, rfl, rfl, gp, a.rev⟩, by rw [List.length_cons, List.length_reverse, lp], hor_figs _ _ _, fun n' e => by cases e; rfl, start ?_⟩
    unfold b_Stock_text_at_1
    walk_at "ev"
    rw [v_meth1 rfl (sk_no (by decide +kernel)) (lkM _ _)]
    walk_at "ev"
    rw [f_letters]
    walk_at "ev"
    unfold b_Stock_text_at_2
    walk_at "ev"
    rw [d_lst (ds := []) (by decide)]
    walk_at "ev"
    unfold b_Stock_text_at_3
    walk_at "ev"
    rw [v_rng1a (by omega) (by omega), show (((n + 1 : Nat) : Int) - 1).toNat = n by omega]
    walk_at "ev"
    rw [e]
    walk_at "ev"
    unfold b_Stock_text_at_4
    walk_at "ev"
    rw [decide_eq_true (show ((n + 1 : Nat) : Int) > 0 by omega)]
    walk_at "ev"
    rw [v_chk rfl]
    walk_at "ev"
    rw [v_meth1 rfl (sk_no (by decide +kernel)) (lkM _ _)]
    walk_at "ev"
    rw [f_first h.mark h.len h.h1 h.h3]
    walk_at "ev"
    rw [d_ix_lst (x := ltD p) (pick_at (by rw [List.getElem?_map, gp]; rfl))]
    walk_at "ev"
    rw [v_app1 rfl rfl (by rw [List.length_map, lp]; exact Nat.lt_of_le_of_lt (show n ≤ 300 by omega) (by decide))]
    walk_at "ev"
    have := fin (ps ++ [p]) (x / (lts ms lo hi).length ^ n) s5 (fun q hq => by
      rcases List.mem_append.mp hq with z | z
      · exact a.mem q z
      · rw [List.mem_singleton.mp z]; exact (List.mem_filter.mp (List.mem_of_getElem? gp)).1) (by rw [List.length_append, lp]; exact hm)
    rw [List.map_append, List.reverse_append] at this
    exact this
end
section
variable {α : Type}
abbrev at? (l : List α) (i : Nat) : List α := l[i]?.toList
def sq (l : List α) (n y : Nat) : List α := (dgts l.length n y).reverse.flatMap (at? l)
theorem At.flat {l : List α} : ∀ {ps : List α} {fs : List Nat}, At l ps fs → ps = fs.flatMap (at? l)
  | [], fs, a => by
    rw [List.length_eq_zero_iff.mp a.len.symm]; rfl
  | p :: ps, fs, a => by
    obtain ⟨f, gs, rfl, e, r⟩ := a.uncons
    rw [List.flatMap_cons, ← r.flat]
    show _ = l[f]?.toList ++ ps
    rw [e]; rfl
theorem dgts_snoc (b : Nat) : ∀ n x, dgts b (n + 1) x = dgts b n x ++ [x / b ^ n % b]
  | 0, x => by
    show [x % b] = [] ++ [x / b ^ 0 % b]
    rw [Nat.pow_zero, Nat.div_one]; rfl
  | n + 1, x => by
    show x % b :: dgts b (n + 1) (x / b) = x % b :: dgts b n (x / b) ++ _
    rw [dgts_snoc b n, div_pow]; rfl
theorem dgts_mod {b : Nat} : ∀ (n i j : Nat), j < b ^ n → dgts b n (i * b ^ n + j) = dgts b n j
  | 0, _, _, _ => rfl
  | n + 1, i, j, h => by
    have hb : 0 < b := by
      rcases Nat.eq_zero_or_pos b with z | z
      · subst z; rw [Nat.pow_succ, Nat.mul_zero] at h; omega
      · exact z
    have e : i * b ^ (n + 1) + j = b * (i * b ^ n) + j := by rw [Nat.pow_succ, ← Nat.mul_assoc, Nat.mul_comm b]
    show (i * b ^ (n + 1) + j) % b :: dgts b n ((i * b ^ (n + 1) + j) / b) = j % b :: dgts b n (j / b)
    rw [e, Nat.mul_add_mod, Nat.mul_add_div hb, dgts_mod n i (j / b) (Nat.div_lt_of_lt_mul (by rw [Nat.mul_comm, ← Nat.pow_succ]; exact h))]
theorem sq_succ {l : List α} {n i j : Nat} (hi : i < l.length) (hj : j < l.length ^ n) : sq l (n + 1) (i * l.length ^ n + j) = at? l i ++ sq l n j := by
  have hb : 0 < l.length ^ n := by omega
  unfold sq
  rw [dgts_snoc, dgts_mod n i j hj, List.reverse_append, List.reverse_cons, List.reverse_nil, List.nil_append, List.cons_append, List.nil_append, List.flatMap_cons, show (i * l.length ^ n + j) / l.length ^ n = i by rw [Nat.mul_comm, Nat.mul_add_div hb, Nat.div_eq_of_lt hj, Nat.add_zero], Nat.mod_eq_of_lt hi]
theorem range_mul {β : Type} (f : Nat → β) : ∀ (a b : Nat), (List.range (a * b)).map f = (List.range a).flatMap fun i => (List.range b).map fun j => f (i * b + j)
  | 0, b => by rw [Nat.zero_mul]; rfl
  | a + 1, b => by
    rw [Nat.add_mul, Nat.one_mul, List.range_add, List.map_append, range_mul f a b, List.range_succ, List.flatMap_append, List.flatMap_cons, List.flatMap_nil, List.append_nil, List.map_map]
    rfl
theorem flat_at {β : Type} (l : List α) (f : α → List β) : l.flatMap f = (List.range l.length).flatMap fun i => (at? l i).flatMap f := by
  induction l with
  | nil => rfl
  | cons a l ih =>
    rw [List.length_cons, List.range_succ_eq_map, List.flatMap_cons, List.flatMap_cons, List.flatMap_map, ih]
    show f a ++ _ = ([a].flatMap f) ++ _
    rw [List.flatMap_cons, List.flatMap_nil, List.append_nil]
    rfl
def rowsN (l : List α) (n : Nat) : List (List α) := (List.range (l.length ^ n)).map (sq l n)
theorem at_one {l : List α} {i : Nat} (hi : i < l.length) : at? l i = [l[i]] := by show l[i]?.toList = _; rw [List.getElem?_eq_getElem hi]; rfl
theorem rows_succ (l : List α) (n : Nat) : rowsN l (n + 1) = l.flatMap fun a => (rowsN l n).map (a :: ·) := by
  unfold rowsN
  rw [Nat.pow_succ, Nat.mul_comm, range_mul, flat_at l]
  have key : ∀ (is : List Nat), (∀ i ∈ is, i < l.length) → (is.flatMap fun i => (List.range (l.length ^ n)).map fun j => sq l (n + 1) (i * l.length ^ n + j)) = is.flatMap fun i => (at? l i).flatMap fun a => ((List.range (l.length ^ n)).map (sq l n)).map (a :: ·) := fun is => by
    induction is with
    | nil => intro _; rfl
    | cons i is ih =>
      intro h
      have hi := h i List.mem_cons_self
      rw [List.flatMap_cons, List.flatMap_cons, ih fun k hk => h k (List.mem_cons_of_mem _ hk), at_one hi, List.flatMap_cons, List.flatMap_nil, List.append_nil, List.map_map]
      congr 1
      refine List.map_congr_left fun j hj => ?_
      rw [sq_succ hi (List.mem_range.mp hj), at_one hi]; rfl
  exact key _ fun i hi => List.mem_range.mp hi
theorem rows_len (l : List α) (n : Nat) : (rowsN l n).length = l.length ^ n := by unfold rowsN; rw [List.length_map, List.length_range]
theorem rows_zero (l : List α) : rowsN l 0 = [[]] := rfl
end
section
variable {S : Sto} {ms : List Str} {lo hi : Int}
abbrev Am (ms : List Str) (lo hi : Int) (m : Nat) : Nat := amt (fst_ ms lo hi).length (lts ms lo hi).length m
def pOf (ms : List Str) (lo hi : Int) : Nat → Nat → List (Str × Int)
  | 0, _ => []
  | n + 1, x => at? (fst_ ms lo hi) (x / (lts ms lo hi).length ^ n) ++ sq (lts ms lo hi) n x
/-- all of them -/
def pAll (ms : List Str) (lo hi : Int) (m : Nat) : List (List (Str × Int)) := (List.range (Am ms lo hi m)).map (pOf ms lo hi m)
theorem pAll_zero : pAll ms lo hi 0 = [[]] := rfl
theorem pAll_succ (n : Nat) : pAll ms lo hi (n + 1) = (fst_ ms lo hi).flatMap fun a => (rowsN (lts ms lo hi) n).map (a :: ·) := by
  unfold pAll
  rw [show Am ms lo hi (n + 1) = (fst_ ms lo hi).length * (lts ms lo hi).length ^ n from rfl, range_mul, flat_at (fst_ ms lo hi)]
  have key : ∀ (is : List Nat), (∀ i ∈ is, i < (fst_ ms lo hi).length) → (is.flatMap fun i => (List.range ((lts ms lo hi).length ^ n)).map fun j => pOf ms lo hi (n + 1) (i * (lts ms lo hi).length ^ n + j)) = is.flatMap fun i => (at? (fst_ ms lo hi) i).flatMap fun a => (rowsN (lts ms lo hi) n).map (a :: ·) := fun is => by
    induction is with
    | nil => intro _; rfl
    | cons i is ih =>
      intro h
      have hi' := h i List.mem_cons_self
      rw [List.flatMap_cons, List.flatMap_cons, ih fun k hk => h k (List.mem_cons_of_mem _ hk), at_one hi', List.flatMap_cons, List.flatMap_nil, List.append_nil]
      congr 1
      unfold rowsN
      rw [List.map_map]
      refine List.map_congr_left fun j hj => ?_
      have hj := List.mem_range.mp hj
      have hb : 0 < (lts ms lo hi).length ^ n := by omega
      show at? (fst_ ms lo hi) _ ++ sq _ _ _ = _
      unfold sq
      rw [dgts_mod n i j hj, show (i * (lts ms lo hi).length ^ n + j) / (lts ms lo hi).length ^ n = i by rw [Nat.mul_comm, Nat.mul_add_div hb, Nat.div_eq_of_lt hj, Nat.add_zero], at_one hi']
      rfl
  exact key _ fun i hi => List.mem_range.mp hi
theorem f_text_p (h : OkS ms lo hi) {m x : Nat} (hm : m ≤ 300) (hx : x < Am ms lo hi m) : F_Stock_text_at [stk ms lo hi, .int ((m : Nat) : Int), .int ((x : Nat) : Int)] S = .ok (.lst (((pOf ms lo hi m x).map ltT).map tokV)) .fs S ∧ (∀ p ∈ pOf ms lo hi m x, p ∈ lts ms lo hi) := by
  obtain ⟨ps, fs, hf, hl, _, hfig, e⟩ := f_text_at (S := S) h hm hx
  have hp : ps = pOf ms lo hi m x := by
    cases m with
    | zero => rw [List.length_eq_zero_iff.mp hl]; rfl
    | succ n =>
      have e1 := hfig n rfl
      rcases hf with ⟨rfl, rfl⟩ | ⟨p, qs, f, gs, rfl, rfl, e2, a⟩
      · cases e1
      · unfold figs at e1
        injection e1 with e3 e4
        subst e3; subst e4
        show p :: qs = at? _ _ ++ sq _ _ _
        rw [a.flat]
        show p :: _ = (fst_ ms lo hi)[_]?.toList ++ _
        rw [e2]; rfl
  exact ⟨by rw [← hp]; exact e, by rw [← hp]; exact hf.mem⟩
abbrev txD (ps : List (Str × Int)) : D := .lst ((ps.map ltT).map tokV)
noncomputable abbrev tyB : GnF := gSeq (gYd (fMeth [(6, F_Stock_text_at)] "text_at" (fVar 0) (fCons (fVar 1) (fCons (fVar 2) (fNil))))) (Fx.gNil)
theorem ty_loop (h : OkS ms lo hi) {m : Nat} (hm : m ≤ 300) : ∀ (l : List Nat) (s2 : Sl), (s2 = .no ∨ ∃ d, s2 = .val d) → (∀ x ∈ l, x < Am ms lo hi m) → ∃ s2', loopG (gN 2) tyB (l.map fun x => .int ((x : Nat) : Int)) [.val (stk ms lo hi), .val (.int ((m : Nat) : Int)), s2] = (l.map fun x => (txD (pOf ms lo hi m x), true), .nx [.val (stk ms lo hi), .val (.int ((m : Nat) : Int)), s2'])
  | [], s2, _, _ => ⟨s2, rfl⟩
  | x :: l, s2, _, hx => by
    obtain ⟨s2', ih⟩ := ty_loop h hm l (.val (.int ((x : Nat) : Int))) (.inr ⟨_, rfl⟩) fun y hy => hx y (List.mem_cons_of_mem _ hy)
    have e := (f_text_p (S := []) h hm (hx x List.mem_cons_self)).1
    have eb : tyB [.val (stk ms lo hi), .val (.int ((m : Nat) : Int)), .val (.int ((x : Nat) : Int))] = ([(txD (pOf ms lo hi m x), true)], .nx [.val (stk ms lo hi), .val (.int ((m : Nat) : Int)), .val (.int ((x : Nat) : Int))]) := by
      have ef : fMeth [(6, F_Stock_text_at)] "text_at" (fVar 0) (fCons (fVar 1) (fCons (fVar 2) (fNil))) [.val (stk ms lo hi), .val (.int ((m : Nat) : Int)), .val (.int ((x : Nat) : Int))] [] = .ok (txD (pOf ms lo hi m x)) .fs [] := by
        walk_at "ev"
        rw [v_meth1 rfl (sk_no (by decide +kernel)) (lkM _ _)]
        walk_at "ev"
        rw [e]
      unfold tyB gSeq gYd Fx.gNil
      rw [if_pos (show noOwn [Sl.val (stk ms lo hi), Sl.val (.int ((m : Nat) : Int)), Sl.val (.int ((x : Nat) : Int))] = true from rfl), ef]
      rfl
    refine ⟨s2', ?_⟩
    rw [List.map_cons, List.map_cons]
    unfold loopG
    rw [show gN 2 (.int ((x : Nat) : Int)) [.val (stk ms lo hi), .val (.int ((m : Nat) : Int)), s2] [] = some [.val (stk ms lo hi), .val (.int ((m : Nat) : Int)), .val (.int ((x : Nat) : Int))] from rfl]
    dsimp only
    rw [eb]
    dsimp only
    rw [ih]
    rfl
theorem f_texts (h : OkS ms lo hi) {m : Nat} (hm : m ≤ 300) : F_Stock_texts [stk ms lo hi, .int ((m : Nat) : Int)] = .ok ((pAll ms lo hi m).map fun p => (txD p, true)) := by
  obtain ⟨s2, e⟩ := ty_loop h hm (List.range (Am ms lo hi m)) .no (.inl rfl) fun x hx => List.mem_range.mp hx
  have ea : fRng1X (fCons (fMeth [(6, F_Stock_amount)] "amount" (fVar 0) (fCons (fVar 1) (fNil))) (fNil)) [.val (stk ms lo hi), .val (.int ((m : Nat) : Int)), .no] [] = .ok ((List.range (Am ms lo hi m)).map fun x => .int ((x : Nat) : Int)) none [] := by
    unfold fRng1X
    walk_at "ev"
    rw [v_meth1 rfl (sk_no (by decide +kernel)) (lkM _ _)]
    walk_at "ev"
    rw [f_amount h hm]
    walk_at "ev"
    unfold rngD
    rw [show (((Am ms lo hi m : Nat) : Int)).toNat = Am ms lo hi m by omega]
    congr 1
    exact List.map_congr_left fun x _ => by rw [Int.zero_add]
  unfold F_Stock_texts runG
  rw [if_pos (show [stk ms lo hi, D.int ((m : Nat) : Int)].length = 2 from rfl)]
  show (match b_Stock_texts [.val (stk ms lo hi), .val (.int ((m : Nat) : Int)), .no] with | .go ys (.nx _) => _ | .xc c fs => _ | _ => _) = _
  unfold b_Stock_texts gbFor
  rw [ea]
  dsimp only
  rw [e]
  unfold pAll
  rw [List.map_map]
  rfl
end
section
variable {S : Sto} {ms : List Str} {lo hi : Int}
theorem gn0 {S : Sto} : gOk none S := trivial
theorem nc_strs : ∀ zs : List Str, noCels (zs.map D.str) = true
  | [] => rfl
  | z :: zs => by rw [List.map_cons]; unfold noCels; rw [nc_strs zs]; rfl
theorem nc_lts : ∀ ps : List (Str × Int), noCels (ps.map ltD) = true
  | [] => rfl
  | p :: ps => by rw [List.map_cons]; unfold noCels; rw [nc_lts ps]; rfl
theorem nc_stk (m : Int) : noCels [stk ms lo hi, .int m] = true := by
  have h1 : noCel (.lst (ms.map D.str)) = true := by unfold noCel; exact nc_strs ms
  have h2 : noCel (.lst (lettersD ms lo hi)) = true := by rw [letters_eq]; unfold noCel; exact nc_lts _
  show noCels [.obj 6 [("own_marks", .lst (ms.map .str)), ("least", .int lo), ("most", .int hi), ("own_letters", .lst (lettersD ms lo hi))], .int m] = true
  simp only [noCels, noCel, noCelF, Bool.and_true, Bool.true_and]
  unfold noCel at h1 h2
  rw [h1, h2]; rfl
theorem lp_texts (h : OkS ms lo hi) {m i : Nat} (hm : m ≤ 300) {lp : LpF} {fa : FA} {ρ : Ev} (h0 : ρ[i]? = some (.val (stk ms lo hi))) (ha : fa ρ S = .ok [.int ((m : Nat) : Int)] true S) : sLpM [4] 6 "texts" F_Stock_texts (fVar i) fa lp ρ S = lp ((pAll ms lo hi m).map fun p => (txD p, true)) ρ S := by
  unfold sLpM
  rw [show fVar i ρ S = .ok (stk ms lo hi) .tr S by unfold fVar; rw [h0]]
  dsimp only
  rw [if_pos (by rw [sk_no (by decide +kernel)]; rfl), ha]
  dsimp only
  rw [if_pos (nc_stk _), f_texts h hm]
  rfl
noncomputable abbrev bgB : FS := sSeq (chk 3 (sApp 3 (fVar 4))) (sIf (fOp (dEqv false) (fCB dLen (fCons (fVar 3) (fNil))) (fVar 2)) (sBreak) (sNext))
theorem bg_loop {a0 a1 : Sl} {mx : Nat} (hx : mx ≤ 1000) : ∀ (l done : List D) (s4 : Sl), done.length < mx → ∃ s4', loopS none (gN 4) (sNoX bgB) l [a0, a1, .val (.int ((mx : Nat) : Int)), .own done, s4] S = .nx [a0, a1, .val (.int ((mx : Nat) : Int)), .own (done ++ l.take (mx - done.length)), s4'] S
  | [], done, s4, _ => ⟨s4, by rw [loop_end gn0, List.take_nil, List.append_nil]⟩
  | d :: l, done, s4, hd => by
    have hlt : done.length < lim := Nat.lt_of_lt_of_le hd (Nat.le_trans hx (by decide))
    have hl2 : (done ++ [d]).length ≤ lim := by rw [List.length_append]; exact hlt
    have eb : ∀ b : Bool, decide ((((done ++ [d]).length : Nat) : Int) = ((mx : Nat) : Int)) = b → bgB [a0, a1, .val (.int ((mx : Nat) : Int)), .own done, .val d] S = if b then .bk [a0, a1, .val (.int ((mx : Nat) : Int)), .own (done ++ [d]), .val d] S else .nx [a0, a1, .val (.int ((mx : Nat) : Int)), .own (done ++ [d]), .val d] S := fun b hb => by
      unfold bgB
      walk_at "ex"
      rw [v_chk rfl]
      walk_at "ex"
      rw [v_app1 (ds := done) rfl rfl hlt]
      walk_at "ex"
      rw [hb]
      cases b <;> walk_at "ex" <;> rfl
    by_cases hb : done.length + 1 = mx
    · refine ⟨.val d, ?_⟩
      have e := eb true (decide_eq_true (by rw [List.length_append, List.length_singleton, hb]))
      unfold loopS
      rw [if_pos gn0]
      rw [show gN 4 d [a0, a1, .val (.int ((mx : Nat) : Int)), .own done, s4] S = some [a0, a1, .val (.int ((mx : Nat) : Int)), .own done, .val d] from rfl]
      dsimp only
      rw [show sNoX bgB [a0, a1, .val (.int ((mx : Nat) : Int)), .own done, .val d] S = .bk [a0, a1, .val (.int ((mx : Nat) : Int)), .own (done ++ [d]), .val d] S by unfold sNoX; rw [e]; rfl, show mx - done.length = 1 by omega]
      rfl
    · have e := eb false (decide_eq_false fun z => hb (by rw [List.length_append, List.length_singleton] at z; omega))
      obtain ⟨s4', ih⟩ := bg_loop hx l (done ++ [d]) (.val d) (by rw [List.length_append, List.length_singleton]; omega)
      refine ⟨s4', ?_⟩
      rw [loop_step (ρ1 := [a0, a1, .val (.int ((mx : Nat) : Int)), .own done, .val d]) (ρ2 := [a0, a1, .val (.int ((mx : Nat) : Int)), .own (done ++ [d]), .val d]) (S2 := S) gn0 rfl (by unfold sNoX; rw [e]; rfl), ih, List.length_append, List.length_singleton, List.append_assoc, show mx - done.length = (mx - (done.length + 1)) + 1 by omega]
      rfl
theorem f_begun (h : OkS ms lo hi) {m mx : Nat} (hm : m ≤ 300) (h1 : 1 ≤ mx) (hx : mx ≤ 1000) : F__law_begun [stk ms lo hi, .int ((m : Nat) : Int), .int ((mx : Nat) : Int)] S = .ok (.lst (((pAll ms lo hi m).take mx).map txD)) .fs S := by
  unfold F__law_begun b__law_begun
  walk_at "ex"
  rw [lp_texts h hm rfl rfl]
  unfold lpT
  rw [List.map_map]
  obtain ⟨s4, e⟩ := bg_loop (S := S) (a0 := .val (stk ms lo hi)) (a1 := .val (.int ((m : Nat) : Int))) hx ((pAll ms lo hi m).map (Prod.fst ∘ fun p => (txD p, true))) [] .no h1
  rw [e]
  walk_at "ex"
  rw [← List.map_take]
  rfl
noncomputable abbrev tdB : FS := sSeq (sIf (fNot (fIsi .lst (fVar 9))) (sRet (fC (.bl false))) (sNext)) (sSeq (chk 8 (sApp 8 (fCB dList (fCons (fVar 9) (fNil))))) (chk 9 (sClr 9)))
theorem td_loop {a0 a1 a2 a3 a4 a5 a6 a7 : Sl} {r : Ev} : ∀ (l done : List (List D)) (s9 : Sl), done.length + l.length ≤ 1000 → ∃ s9', lpO 9 tdB (l.map fun d => (.lst d, true)) (a0 :: a1 :: a2 :: a3 :: a4 :: a5 :: a6 :: a7 :: .own (done.map D.lst) :: s9 :: r) S = .nx (a0 :: a1 :: a2 :: a3 :: a4 :: a5 :: a6 :: a7 :: .own ((done ++ l).map D.lst) :: s9' :: r) S
  | [], done, s9, _ => ⟨s9, by rw [List.append_nil]; rfl⟩
  | d :: l, done, s9, hl => by
    rw [List.length_cons] at hl
    obtain ⟨s9', ih⟩ := td_loop l (done ++ [d]) (.own []) (by rw [List.length_append, List.length_singleton]; omega)
    refine ⟨s9', ?_⟩
    have eb : tdB (a0 :: a1 :: a2 :: a3 :: a4 :: a5 :: a6 :: a7 :: .own (done.map D.lst) :: .own d :: r) S = .nx (a0 :: a1 :: a2 :: a3 :: a4 :: a5 :: a6 :: a7 :: .own ((done ++ [d]).map D.lst) :: .own [] :: r) S := by
      unfold tdB
      walk_at "ex"
      rw [v_chk rfl]
      walk_at "ex"
      rw [v_app1 (ds := done.map D.lst) rfl rfl (by rw [List.length_map]; exact Nat.lt_of_lt_of_le (show done.length < 1001 by omega) (by decide))]
      walk_at "ex"
      rw [v_chk rfl, List.map_append]
      rfl
    rw [List.map_cons]
    unfold lpO
    rw [show (a0 :: a1 :: a2 :: a3 :: a4 :: a5 :: a6 :: a7 :: Sl.own (done.map D.lst) :: s9 :: r).set 9 (.own d) = a0 :: a1 :: a2 :: a3 :: a4 :: a5 :: a6 :: a7 :: .own (done.map D.lst) :: .own d :: r from rfl, eb]
    dsimp only
    rw [ih, List.append_assoc]
    rfl
noncomputable abbrev niB : FS := chk 3 (sApp 3 (fLst (fCons (fVar 4) (fCons (fVar 5) (fNil)))))
theorem ni_loop {a0 a1 a2 : Sl} {d : D} {r : Ev} : ∀ (l done : List D) (s5 : Sl), done.length + l.length ≤ 10000 → ∃ s5', loopS none (gN 5) (sNoX niB) l (a0 :: a1 :: a2 :: .own done :: .val d :: s5 :: r) S = .nx (a0 :: a1 :: a2 :: .own (done ++ l.map fun e => .lst [d, e]) :: .val d :: s5' :: r) S
  | [], done, s5, _ => ⟨s5, by rw [loop_end gn0]; simp⟩
  | e :: l, done, s5, hl => by
    rw [List.length_cons] at hl
    obtain ⟨s5', ih⟩ := ni_loop l (done ++ [.lst [d, e]]) (.val e) (by rw [List.length_append, List.length_singleton]; omega)
    refine ⟨s5', ?_⟩
    have eb : niB (a0 :: a1 :: a2 :: .own done :: .val d :: .val e :: r) S = .nx (a0 :: a1 :: a2 :: .own (done ++ [.lst [d, e]]) :: .val d :: .val e :: r) S := by
      unfold niB
      rw [v_chk rfl]
      walk_at "ex"
      rw [v_app1 (ds := done) rfl rfl (Nat.lt_of_lt_of_le (show done.length < 10001 by omega) (by decide))]
      rfl
    rw [loop_step (ρ1 := a0 :: a1 :: a2 :: .own done :: .val d :: .val e :: r) (ρ2 := a0 :: a1 :: a2 :: .own (done ++ [.lst [d, e]]) :: .val d :: .val e :: r) (S2 := S) gn0 rfl (by unfold sNoX; rw [eb]), ih, List.append_assoc]
    rfl
noncomputable abbrev noB : FS := sLpM [4] 6 "texts" F_Stock_texts (fVar 0) (fCons (fVar 1) (fNil)) (lpT (gN 5) niB)
theorem no_loop (h : OkS ms lo hi) {m : Nat} (hm : m ≤ 300) {a2 : Sl} {r : Ev} : ∀ (l done : List D) (s4 s5 : Sl), done.length + l.length * Am ms lo hi m ≤ 10000 → ∃ s4' s5', loopS none (gN 4) (sNoX noB) l (.val (stk ms lo hi) :: .val (.int ((m : Nat) : Int)) :: a2 :: .own done :: s4 :: s5 :: r) S = .nx (.val (stk ms lo hi) :: .val (.int ((m : Nat) : Int)) :: a2 :: .own (done ++ l.flatMap fun d => (pAll ms lo hi m).map fun p => .lst [d, txD p]) :: s4' :: s5' :: r) S
  | [], done, s4, s5, _ => ⟨s4, s5, by rw [loop_end gn0]; simp⟩
  | d :: l, done, s4, s5, hl => by
    have hA : ((pAll ms lo hi m).map (Prod.fst ∘ fun p => (txD p, true))).length = Am ms lo hi m := by unfold pAll; rw [List.length_map, List.length_map, List.length_range]
    rw [List.length_cons, Nat.add_mul, Nat.one_mul] at hl
    obtain ⟨s5', e1⟩ := ni_loop (S := S) (a0 := .val (stk ms lo hi)) (a1 := .val (.int ((m : Nat) : Int))) (a2 := a2) (d := d) (r := r) ((pAll ms lo hi m).map (Prod.fst ∘ fun p => (txD p, true))) done s5 (by rw [hA]; omega)
    obtain ⟨s4'', s5'', ih⟩ := no_loop h hm (a2 := a2) (r := r) l (done ++ ((pAll ms lo hi m).map fun p => .lst [d, txD p])) (.val d) s5' (by rw [List.length_append, List.length_map, show (pAll ms lo hi m).length = Am ms lo hi m by unfold pAll; rw [List.length_map, List.length_range]]; omega)
    refine ⟨s4'', s5'', ?_⟩
    have eb : noB (.val (stk ms lo hi) :: .val (.int ((m : Nat) : Int)) :: a2 :: .own done :: .val d :: s5 :: r) S = .nx (.val (stk ms lo hi) :: .val (.int ((m : Nat) : Int)) :: a2 :: .own (done ++ ((pAll ms lo hi m).map fun p => .lst [d, txD p])) :: .val d :: s5' :: r) S := by
      unfold noB
      rw [lp_texts h hm rfl rfl]
      unfold lpT
      rw [List.map_map, e1, List.map_map]
      rfl
    rw [loop_step (ρ1 := .val (stk ms lo hi) :: .val (.int ((m : Nat) : Int)) :: a2 :: .own done :: .val d :: s5 :: r) (S2 := S) gn0 rfl (by unfold sNoX; rw [eb]), ih, List.append_assoc, List.flatMap_cons]
end
section
variable {S : Sto} {ms : List Str} {lo hi : Int}
theorem at_len {α : Type} (l : List α) (i : Nat) : (at? l i).length ≤ 1 := by
  show (l[i]?.toList).length ≤ 1
  cases l[i]? <;> simp
theorem sq_len {α : Type} (l : List α) (n y : Nat) : (sq l n y).length ≤ n := by
  unfold sq
  have key : ∀ fs : List Nat, (fs.flatMap (at? l)).length ≤ fs.length := fun fs => by
    induction fs with
    | nil => exact Nat.le_refl _
    | cons f fs ih =>
      rw [List.flatMap_cons, List.length_append, List.length_cons]
      have := at_len l f
      omega
  have := key (dgts l.length n y).reverse
  rw [List.length_reverse, dgts_len] at this
  exact this
theorem rowsN_len {α : Type} {l : List α} {n : Nat} : ∀ r ∈ rowsN l n, r.length ≤ n := fun r hr => by
  obtain ⟨y, _, rfl⟩ := List.mem_map.mp hr
  exact sq_len l n y
theorem pOf_len (m x : Nat) : (pOf ms lo hi m x).length ≤ m := by
  cases m with
  | zero => exact Nat.le_refl _
  | succ n =>
    unfold pOf
    rw [List.length_append]
    have h1 := at_len (fst_ ms lo hi) (x / (lts ms lo hi).length ^ n)
    have h2 := sq_len (lts ms lo hi) n x
    omega
theorem pAll_len (m : Nat) : (pAll ms lo hi m).length = Am ms lo hi m := by unfold pAll; rw [List.length_map, List.length_range]
theorem pAll_row {m : Nat} : ∀ r ∈ pAll ms lo hi m, r.length ≤ m := fun r hr => by
  obtain ⟨y, _, rfl⟩ := List.mem_map.mp hr
  exact pOf_len m y
theorem pAll_mem (h : OkS ms lo hi) {m : Nat} (hm : m ≤ 300) : ∀ r ∈ pAll ms lo hi m, ∀ p ∈ r, p ∈ lts ms lo hi := fun r hr => by
  obtain ⟨y, hy, rfl⟩ := List.mem_map.mp hr
  exact (f_text_p (S := []) h hm (List.mem_range.mp hy)).2
def cur (ms : List Str) (lo hi : Int) (m k : Nat) : List (List (Str × Int)) := if k = m then pAll ms lo hi m else rowsN (lts ms lo hi) k
theorem cur_zero (m : Nat) : cur ms lo hi m 0 = [[]] := by
  unfold cur
  split
  · rename_i e; subst e; exact pAll_zero
  · exact rows_zero _
theorem cur_succ {m k : Nat} (hk : k < m) : cur ms lo hi m (k + 1) = (if k + 1 = m then fst_ ms lo hi else lts ms lo hi).flatMap fun a => (cur ms lo hi m k).map (a :: ·) := by
  unfold cur
  rw [if_neg (show ¬ k = m by omega)]
  split
  · rename_i e; subst e; exact pAll_succ k
  · exact rows_succ _ k
theorem cur_row {m k : Nat} (hk : k ≤ m) : ∀ r ∈ cur ms lo hi m k, r.length ≤ m := fun r hr => by
  unfold cur at hr
  split at hr
  · exact pAll_row r hr
  · exact Nat.le_trans (rowsN_len r hr) hk
theorem am_pow (h : OkS ms lo hi) (m : Nat) : Am ms lo hi m ≤ (lts ms lo hi).length ^ m := by
  cases m with
  | zero => exact Nat.le_refl _
  | succ n =>
    show (fst_ ms lo hi).length * _ ≤ _
    rw [Nat.pow_succ, Nat.mul_comm]
    exact Nat.mul_le_mul_left _ (List.length_filter_le _ _)
theorem cur_len (h : OkS ms lo hi) {m k : Nat} (hk : k ≤ m) : (cur ms lo hi m k).length ≤ (lts ms lo hi).length ^ m := by
  unfold cur
  split
  · rw [pAll_len]; exact am_pow h m
  · rw [rows_len]; exact Nat.pow_le_pow_right (lts_pos h) hk
abbrev rwD (p : List (Str × Int)) : D := .lst (p.map ltD)
noncomputable abbrev rlB : FS := sAsg (fOp dAdd (fVar 8) (fLc (fIter (fVar 5)) (gN 11) (fC (.bl true)) (fOp dAdd (fLst (fCons (fVar 9) (fNil))) (fVar 11)) [11])) (gN 8)
theorem rl_loop {a0 a1 a2 a3 a4 a6 a7 : Sl} {rows : List (List (Str × Int))} (hr : ∀ r ∈ rows, r.length ≤ 1000) : ∀ (l : List (Str × Int)) (acc : List (List (Str × Int))) (s9 : Sl), acc.length + l.length * rows.length ≤ 10000 → ∃ s9',
    loopS none (gN 9) rlB (l.map ltD) [a0, a1, a2, a3, a4, .val (.lst (rows.map rwD)), a6, a7, .val (.lst (acc.map rwD)), s9, .no, .no, .no, .no] S = .nx [a0, a1, a2, a3, a4, .val (.lst (rows.map rwD)), a6, a7, .val (.lst ((acc ++ l.flatMap fun a => rows.map (a :: ·)).map rwD)), s9', .no, .no, .no, .no] S
  | [], acc, s9, _ => ⟨s9, by rw [List.map_nil, loop_end gn0, List.flatMap_nil, List.append_nil]⟩
  | p :: l, acc, s9, hl => by
    rw [List.length_cons, Nat.add_mul, Nat.one_mul] at hl
    obtain ⟨s9', ih⟩ := rl_loop (a0 := a0) (a1 := a1) (a2 := a2) (a3 := a3) (a4 := a4) (a6 := a6) (a7 := a7) hr l (acc ++ rows.map (p :: ·)) (.val (ltD p)) (by rw [List.length_append, List.length_map]; omega)
    refine ⟨s9', ?_⟩
    rw [List.map_cons, loop_step (g := none) (S2 := S) (ρ2 := [a0, a1, a2, a3, a4, .val (.lst (rows.map rwD)), a6, a7, .val (.lst ((acc ++ rows.map (p :: ·)).map rwD)), .val (ltD p), .no, .no, .no, .no]) gn0 rfl (by
      show sAsg _ (gN 8) [a0, a1, a2, a3, a4, .val (.lst (rows.map rwD)), a6, a7, .val (.lst (acc.map rwD)), .val (ltD p), .no, .no, .no, .no] S = _
      walk_at "ex"
      rw [lc_mapE (S1 := S) (l := rows) (e := rwD) (g := none) (f := fun r => rwD (p :: r)) (by walk_at "ex") gn0 (Nat.le_trans (show rows.length ≤ 10000 by omega) (by decide)) (fun r hr' => by
        refine ⟨_, .fs, rfl, ?_, rfl⟩
        show fOp dAdd (fLst (fCons (fVar 9) (fNil))) (fVar 11) [_, _, _, _, _, _, _, _, _, .val (ltD p), _, .val (rwD r), _, _] S = _
        walk_at "ex"
        rw [d_add_lst (by rw [List.length_map]; have := hr r hr'; exact Nat.le_trans (show _ ≤ 1001 by simp; omega) (by decide))]
        rfl)]
      walk_at "ex"
      rw [d_add_lst (by rw [List.length_map, List.length_map]; exact Nat.le_trans (show _ ≤ 10000 by omega) (by decide))]
      walk_at "ex"
      rw [List.map_append, List.map_map]
      rfl), ih, List.append_assoc, List.flatMap_cons]
theorem f_firstL (h : OkS ms lo hi) {a0 a1 a2 a3 a5 a6 a7 a8 s9 : Sl} : fLc (fIter (fVar 4)) (gN 9) (fOp (dEqv false) (fOp dIx (fOp dIx (fVar 9) (fC (.int 0))) (fC (.int 0))) (fC (.str "#"))) (fVar 9) [9] [a0, a1, a2, a3, .val (.lst ((lts ms lo hi).map ltD)), a5, a6, a7, a8, s9, .no, .no, .no, .no] S = .ok (.lst ((fst_ ms lo hi).map ltD)) .fs S := by
  refine lc_flatE (S1 := S) (l := lts ms lo hi) (e := ltD) (g := none) (c := isP) (f := ltD) (by walk_at "ex") gn0 (Nat.le_trans (lts_le h.len h.h1 h.h3) (by decide)) (fun p hp => ?_)
  refine ⟨[a0, a1, a2, a3, .val (.lst ((lts ms lo hi).map ltD)), a5, a6, a7, a8, .val (ltD p), .no, .no, .no, .no], .tr, rfl, ?_, fun _ => ⟨.tr, rfl, rfl⟩⟩
  have hm := h.mark p.1 (lts_mem.mp hp).1
  walk_at "ex"
  unfold ltD
  walk_at "ex"
  obtain ⟨c, r, ez⟩ := mark_head hm
  rw [d_ix_str (Nat.le_trans (mark_len hm) (by decide)) (by rw [ez]; exact pick0 _ _)]
  walk_at "ex"
  rw [eq_str _ "#" (l := [35]) (by decide +kernel)]
  unfold isP
  rw [ez]
  congr 2
  rw [Bool.eq_iff_iff]
  simp [sl]
noncomputable abbrev rkB : FS := sSeq (sAsg (fVar 4) (gN 7)) (sSeq (sIf (fOp (dEqv false) (fOp dAdd (fVar 6) (fC (.int 1))) (fVar 3)) (sAsg (fLc (fIter (fVar 4)) (gN 9) (fOp (dEqv false) (fOp dIx (fOp dIx (fVar 9) (fC (.int 0))) (fC (.int 0))) (fC (.str "#"))) (fVar 9) [9]) (gN 7)) (sNext)) (sSeq (sAsg (fLst (fNil)) (gN 8)) (sSeq (sFor (fIter (fVar 7)) (gN 9) rlB) (sAsg (fVar 8) (gN 5)))))
theorem rk_step (h : OkS ms lo hi) {m k : Nat} (hk : k < m) (hm : m ≤ 300) (hB : (lts ms lo hi).length ^ m ≤ 400) {a0 a1 a2 s7 s8 s9 : Sl} : ∃ t7 t8 t9, rkB [a0, a1, a2, .val (.int ((m : Nat) : Int)), .val (.lst ((lts ms lo hi).map ltD)), .val (.lst ((cur ms lo hi m k).map rwD)), .val (.int ((k : Nat) : Int)), s7, s8, s9, .no, .no, .no, .no] S =
    .nx [a0, a1, a2, .val (.int ((m : Nat) : Int)), .val (.lst ((lts ms lo hi).map ltD)), .val (.lst ((cur ms lo hi m (k + 1)).map rwD)), .val (.int ((k : Nat) : Int)), t7, t8, t9, .no, .no, .no, .no] S := by
  have hc := cur_len h (Nat.le_of_lt hk)
  have hb : (lts ms lo hi).length ≤ 400 := Nat.le_trans (lts_le h.len h.h1 h.h3) (by decide)
  have hcc : ∀ x : Nat, x ≤ (lts ms lo hi).length → 0 + x * (cur ms lo hi m k).length ≤ 10000 := fun x hx => by
    have h3 : (cur ms lo hi m k).length = (lts ms lo hi).length ^ k := by unfold cur; rw [if_neg (by omega), rows_len]
    have h4 : (lts ms lo hi).length * (lts ms lo hi).length ^ k ≤ (lts ms lo hi).length ^ m := by
      rw [Nat.mul_comm, ← Nat.pow_succ]; exact Nat.pow_le_pow_right (lts_pos h) hk
    have h5 := Nat.mul_le_mul_right ((lts ms lo hi).length ^ k) hx
    rw [h3]; omega
  have hrow : ∀ r ∈ cur ms lo hi m k, r.length ≤ 1000 := fun r hr => Nat.le_trans (cur_row (Nat.le_of_lt hk) r hr) (by omega)
  by_cases hb2 : k + 1 = m
  · obtain ⟨t9, e⟩ := rl_loop (S := S) (a0 := a0) (a1 := a1) (a2 := a2) (a3 := .val (.int ((m : Nat) : Int))) (a4 := .val (.lst ((lts ms lo hi).map ltD))) (a6 := .val (.int ((k : Nat) : Int))) (a7 := .val (.lst ((fst_ ms lo hi).map ltD))) hrow (fst_ ms lo hi) [] s9 (hcc _ (List.length_filter_le _ _))
    refine ⟨.val (.lst ((fst_ ms lo hi).map ltD)), .val (.lst ((cur ms lo hi m (k + 1)).map rwD)), t9, ?_⟩
    unfold rkB
    walk_at "ex"
    rw [decide_eq_true (show ((k : Nat) : Int) + 1 = ((m : Nat) : Int) by omega)]
    walk_at "ex"
    rw [f_firstL h]
    walk_at "ex"
    rw [List.map_nil, List.nil_append] at e
    rw [e]
    walk_at "ex"
    rw [cur_succ hk, if_pos hb2]
  · obtain ⟨t9, e⟩ := rl_loop (S := S) (a0 := a0) (a1 := a1) (a2 := a2) (a3 := .val (.int ((m : Nat) : Int))) (a4 := .val (.lst ((lts ms lo hi).map ltD))) (a6 := .val (.int ((k : Nat) : Int))) (a7 := .val (.lst ((lts ms lo hi).map ltD))) hrow (lts ms lo hi) [] s9 (hcc _ (Nat.le_refl _))
    refine ⟨.val (.lst ((lts ms lo hi).map ltD)), .val (.lst ((cur ms lo hi m (k + 1)).map rwD)), t9, ?_⟩
    unfold rkB
    walk_at "ex"
    rw [decide_eq_false (show ¬ ((k : Nat) : Int) + 1 = ((m : Nat) : Int) by omega)]
    walk_at "ex"
    rw [List.map_nil, List.nil_append] at e
    rw [e]
    walk_at "ex"
    rw [cur_succ hk, if_neg hb2]
theorem range_mid {m a : Nat} {p q : List Nat} (h : List.range m = p ++ a :: q) : a = p.length ∧ p.length < m := by
  have h1 : (List.range m)[p.length]? = some a := by rw [h, List.getElem?_append_right (Nat.le_refl _), Nat.sub_self]; rfl
  have h2 := (List.getElem?_eq_some_iff.mp h1)
  obtain ⟨h3, h4⟩ := h2
  rw [List.length_range] at h3
  rw [List.getElem_range] at h4
  exact ⟨h4.symm, h3⟩
theorem rk_loop (h : OkS ms lo hi) {m : Nat} (hm : m ≤ 300) (hB : (lts ms lo hi).length ^ m ≤ 400) {a0 a1 a2 : Sl} : ∃ t6 t7 t8 t9, loopS none (gN 6) rkB (rngD 0 m) [a0, a1, a2, .val (.int ((m : Nat) : Int)), .val (.lst ((lts ms lo hi).map ltD)), .val (.lst [.lst []]), .no, .no, .no, .no, .no, .no, .no, .no] S =
    .nx [a0, a1, a2, .val (.int ((m : Nat) : Int)), .val (.lst ((lts ms lo hi).map ltD)), .val (.lst ((pAll ms lo hi m).map rwD)), t6, t7, t8, t9, .no, .no, .no, .no] S := by
  obtain ⟨ρ', S', e, rfl, t6, t7, t8, t9, rfl⟩ := loopP (g := none) (e := fun i : Nat => D.int (0 + ((i : Nat) : Int))) (l := List.range m) (set := gN 6) (body := rkB)
    (fun p ρ S' => S' = S ∧ ∃ s6 s7 s8 s9, ρ = [a0, a1, a2, .val (.int ((m : Nat) : Int)), .val (.lst ((lts ms lo hi).map ltD)), .val (.lst ((cur ms lo hi m p.length).map rwD)), s6, s7, s8, s9, .no, .no, .no, .no]) (fun _ _ _ _ => gn0)
    (fun p a q ρ S' hp hI => by
      obtain ⟨rfl, s6, s7, s8, s9, rfl⟩ := hI
      obtain ⟨rfl, hk⟩ := range_mid hp
      obtain ⟨t7, t8, t9, e⟩ := rk_step (S := S') h hk hm hB (a0 := a0) (a1 := a1) (a2 := a2) (s7 := s7) (s8 := s8) (s9 := s9)
      refine ⟨[a0, a1, a2, .val (.int ((m : Nat) : Int)), .val (.lst ((lts ms lo hi).map ltD)), .val (.lst ((cur ms lo hi m p.length).map rwD)), .val (.int ((p.length : Nat) : Int)), s7, s8, s9, .no, .no, .no, .no], _, _, ?_, .inl e, rfl, .val (.int ((p.length : Nat) : Int)), t7, t8, t9, ?_⟩
      · rw [Int.zero_add]; rfl
      · rw [List.length_append, List.length_singleton]) (ρ := [a0, a1, a2, .val (.int ((m : Nat) : Int)), .val (.lst ((lts ms lo hi).map ltD)), .val (.lst [.lst []]), .no, .no, .no, .no, .no, .no, .no, .no]) (S := S) ⟨rfl, .no, .no, .no, .no, by rw [List.length_nil, cur_zero]; rfl⟩
  refine ⟨t6, t7, t8, t9, ?_⟩
  rw [List.length_range] at e
  rw [show cur ms lo hi m m = pAll ms lo hi m from if_pos rfl] at e
  exact e
noncomputable abbrev rtB : FS := chk 10 (sApp 10 (fLc (fIter (fVar 11)) (gT 2 (gsCons (gN 12) (gsCons (gN 13) (gsNil)))) (fC (.bl true)) (fTup (fCons (fVar 12) (fCons (fOp dMul (fC (.str "a")) (fVar 13)) (fNil)))) [12, 13]))
theorem rt_loop {a0 a1 a2 a3 a4 a5 a6 a7 a8 a9 : Sl} : ∀ (l acc : List (List (Str × Int))) (s11 : Sl), (∀ r ∈ l, r.length ≤ 1000 ∧ ∀ p ∈ r, 1 ≤ p.2 ∧ p.2 ≤ 30) → acc.length + l.length ≤ 1000 → ∃ s11',
    loopS none (gN 11) rtB (l.map rwD) [a0, a1, a2, a3, a4, a5, a6, a7, a8, a9, .own (acc.map txD), s11, .no, .no] S = .nx [a0, a1, a2, a3, a4, a5, a6, a7, a8, a9, .own ((acc ++ l).map txD), s11', .no, .no] S
  | [], acc, s11, _, _ => ⟨s11, by rw [List.map_nil, loop_end gn0, List.append_nil]⟩
  | r :: l, acc, s11, hr, hl => by
    rw [List.length_cons] at hl
    obtain ⟨s11', ih⟩ := rt_loop (a0 := a0) (a1 := a1) (a2 := a2) (a3 := a3) (a4 := a4) (a5 := a5) (a6 := a6) (a7 := a7) (a8 := a8) (a9 := a9) l (acc ++ [r]) (.val (rwD r)) (fun r' h' => hr r' (List.mem_cons_of_mem _ h')) (by rw [List.length_append, List.length_singleton]; omega)
    refine ⟨s11', ?_⟩
    obtain ⟨h1, h2⟩ := hr r List.mem_cons_self
    rw [List.map_cons, loop_step (g := none) (S2 := S) (ρ2 := [a0, a1, a2, a3, a4, a5, a6, a7, a8, a9, .own ((acc ++ [r]).map txD), .val (rwD r), .no, .no]) gn0 rfl (by
      show rtB [a0, a1, a2, a3, a4, a5, a6, a7, a8, a9, .own (acc.map txD), .val (rwD r), .no, .no] S = _
      unfold rtB
      rw [v_chk rfl]
      walk_at "ex"
      rw [lc_mapE (S1 := S) (l := r) (e := ltD) (g := none) (f := fun p => tokV (ltT p)) (by walk_at "ex") gn0 (Nat.le_trans h1 (by decide)) (fun p hp => by
        have h12 := h2 p hp
        refine ⟨_, .tr, rfl, ?_, rfl⟩
        show fTup (fCons (fVar 12) (fCons (fOp dMul (fC (.str "a")) (fVar 13)) fNil)) [_, _, _, _, _, _, _, _, _, _, _, _, .val (.str p.1), .val (.int p.2)] S = _
        walk_at "ex"
        rw [d_mul_str (mul_ok h12.1 h12.2)]
        walk_at "ex"
        rfl)]
      walk_at "ex"
      rw [v_app1 (ds := acc.map txD) rfl rfl (by rw [List.length_map]; exact Nat.lt_of_lt_of_le (show acc.length < 1001 by omega) (by decide)), List.map_append]
      show _ = RSt.nx [a0, a1, a2, a3, a4, a5, a6, a7, a8, a9, .own (acc.map txD ++ [.lst ((r.map ltT).map tokV)]), _, _, _] S
      rw [List.map_map]
      rfl), ih, List.append_assoc]
    rfl
theorem f_rows (h : OkS ms lo hi) {m : Nat} (hm : m ≤ 300) (hB : (lts ms lo hi).length ^ m ≤ 400) : F__law_rows [.lst (ms.map D.str), .int lo, .int hi, .int ((m : Nat) : Int)] S = .ok (.lst ((pAll ms lo hi m).map txD)) .fs S := by
  unfold F__law_rows b__law_rows
  walk_at "ex"
  rw [f_law_letters h.len h.h1 h.h2 h.h3]
  walk_at "ex"
  unfold b__law_rows_1
  walk_at "ex"
  unfold b__law_rows_2
  walk_at "ex"
  obtain ⟨t6, t7, t8, t9, e⟩ := rk_loop (S := S) h hm hB (a0 := .val (.lst (ms.map D.str))) (a1 := .val (.int lo)) (a2 := .val (.int hi))
  rw [v_rng1a (by omega) (by omega)]
  walk_at "ex"
  rw [show (((m : Nat) : Int)).toNat = m by omega, e]
  walk_at "ex"
  unfold b__law_rows_3
  walk_at "ex"
  unfold b__law_rows_4
  walk_at "ex"
  obtain ⟨s11, e2⟩ := rt_loop (S := S) (a0 := .val (.lst (ms.map D.str))) (a1 := .val (.int lo)) (a2 := .val (.int hi)) (a3 := .val (.int ((m : Nat) : Int))) (a4 := .val (.lst ((lts ms lo hi).map ltD))) (a5 := .val (.lst ((pAll ms lo hi m).map rwD))) (a6 := t6) (a7 := t7) (a8 := t8) (a9 := t9) (pAll ms lo hi m) [] .no (fun r hr => ⟨Nat.le_trans (pAll_row r hr) (by omega), fun p hp => by
    have := lts_mem.mp (pAll_mem h hm r hr p hp)
    have := h.h1
    have := h.h3
    omega⟩) (by rw [pAll_len, List.length_nil]; have := am_pow h m; omega)
  rw [List.map_nil] at e2
  rw [e2]
  walk_at "ex"
  unfold b__law_rows_5
  walk_at "ex"
end
section
variable {S : Sto} {ms : List Str} {lo hi : Int}
abbrev txPy (p : List (Str × Int)) : PyData := textD (p.map ltT)
theorem py_tx (S : Sto) (p : List (Str × Int)) : Py S (txD p) (txPy p) := py_text S _
theorem py_txs (S : Sto) : ∀ ps : List (List (Str × Int)), PyAll S (ps.map txD) (ps.map txPy)
  | [] => .nil
  | p :: ps => .cons (py_tx S p) (py_txs S ps)
theorem py_prs (S : Sto) : ∀ ps : List (List (List (Str × Int))), PyAll S (ps.map fun r => D.lst (r.map txD)) (ps.map fun r => PyData.list (r.map txPy))
  | [] => .nil
  | p :: ps => .cons (py_lst (py_txs S p)) (py_prs S ps)
theorem sokT_lts (h : OkS ms lo hi) {p : List (Str × Int)} (hp : ∀ q ∈ p, q ∈ lts ms lo hi) : SokT (p.map ltT) := fun t ht => by
  obtain ⟨q, hq, rfl⟩ := List.mem_map.mp ht
  have hm := lts_mem.mp (hp q hq)
  have h1 := h.h1
  have h3 := h.h3
  exact ⟨h.sok q.1 hm.1, sok_word (mul_word (n := q.2) (by omega) (by omega)).1⟩
theorem eq_same {neg : Bool} {d : D} {p : PyData} (hd : Py S d p) (pd : pureD p = true) (sd : SeqAt.shaped p = true) : dEqv neg d d S = .ok (.bl (!neg)) .tr S := by
  have := d_eq_pure (neg := neg) (b := true) hd hd pd pd sd sd (iff_of_true rfl rfl)
  rw [this]
  cases neg <;> rfl
theorem lay_tx (h : OkS ms lo hi) {p : List (Str × Int)} (hp : ∀ q ∈ p, q ∈ lts ms lo hi) : PyData.canLay0 (txPy p) = true ∧ (txPy p).depth ≤ 2 := lay_text (sokT_lts h hp)
theorem eq_tx (h : OkS ms lo hi) {neg : Bool} {p : List (Str × Int)} (hp : ∀ q ∈ p, q ∈ lts ms lo hi) : dEqv neg (txD p) (txD p) S = .ok (.bl (!neg)) .tr S := eq_same (py_tx S p) (pure_text _) (shaped_of (lay_tx h hp) (by decide))
theorem eq_txs (h : OkS ms lo hi) {neg : Bool} {ps : List (List (Str × Int))} (hp : ∀ p ∈ ps, ∀ q ∈ p, q ∈ lts ms lo hi) : dEqv neg (.lst (ps.map txD)) (.lst (ps.map txD)) S = .ok (.bl (!neg)) .tr S :=
  eq_same (py_lst (py_txs S ps)) (by
    simp only [pureD]
    exact pureAll_of fun d hd => by obtain ⟨i, _, rfl⟩ := List.mem_map.mp hd; exact pure_text _) (shaped_of (n := 3) (lay_list (n := 2) fun d hd => by obtain ⟨i, hi', rfl⟩ := List.mem_map.mp hd; exact lay_tx h (hp i hi')) (by decide))
theorem eq_prs (h : OkS ms lo hi) {neg : Bool} {ps : List (List (List (Str × Int)))} (hp : ∀ r ∈ ps, ∀ p ∈ r, ∀ q ∈ p, q ∈ lts ms lo hi) : dEqv neg (.lst (ps.map fun r => D.lst (r.map txD))) (.lst (ps.map fun r => D.lst (r.map txD))) S = .ok (.bl (!neg)) .tr S :=
  eq_same (py_lst (py_prs S ps)) (by
    simp only [pureD]
    refine pureAll_of fun d hd => ?_
    obtain ⟨i, _, rfl⟩ := List.mem_map.mp hd
    simp only [pureD]
    exact pureAll_of fun d hd => by obtain ⟨i, _, rfl⟩ := List.mem_map.mp hd; exact pure_text _) (shaped_of (n := 4) (lay_list (n := 3) fun d hd => by
      obtain ⟨i, hi', rfl⟩ := List.mem_map.mp hd
      exact lay_list (n := 2) fun d hd => by obtain ⟨j, hj, rfl⟩ := List.mem_map.mp hd; exact lay_tx h (hp i hi' j hj)) (by decide))
theorem flat_congr {α β : Type} {f g : α → List β} : ∀ {l : List α}, (∀ a ∈ l, f a = g a) → l.flatMap f = l.flatMap g
  | [], _ => rfl
  | a :: l, h => by rw [List.flatMap_cons, List.flatMap_cons, h a List.mem_cons_self, flat_congr fun b hb => h b (List.mem_cons_of_mem _ hb)]
abbrev prD (ones twos : List D) (i : Nat) : D := .lst [ones[i / twos.length]?.getD .non, twos[i % twos.length]?.getD .non]
theorem pairs_eq (ones twos : List D) : (List.range (ones.length * twos.length)).map (prD ones twos) = ones.flatMap fun d => twos.map fun e => D.lst [d, e] := by
  rw [range_mul, flat_at ones]
  refine flat_congr fun i hi' => ?_
  have hi' := List.mem_range.mp hi'
  rw [at_one hi', List.flatMap_cons, List.flatMap_nil, List.append_nil]
  refine List.ext_getElem (by rw [List.length_map, List.length_map, List.length_range]) fun j h1 h2 => ?_
  rw [List.length_map, List.length_range] at h1
  rw [List.getElem_map, List.getElem_map, List.getElem_range]
  unfold prD
  have hb : 0 < twos.length := by omega
  rw [show (i * twos.length + j) / twos.length = i by rw [Nat.mul_comm, Nat.mul_add_div hb, Nat.div_eq_of_lt h1, Nat.add_zero], show (i * twos.length + j) % twos.length = j by rw [Nat.mul_comm, Nat.mul_add_mod, Nat.mod_eq_of_lt h1], List.getElem?_eq_getElem hi', List.getElem?_eq_getElem h1]
  rfl
theorem prs_form (A B : List (List (Str × Int))) : ((A.map txD).flatMap fun d => (B.map txD).map fun e => D.lst [d, e]) = (A.flatMap fun a => B.map fun b => [a, b]).map fun r => D.lst (r.map txD) := by
  induction A with
  | nil => rfl
  | cons a A ih =>
    rw [List.map_cons, List.flatMap_cons, List.flatMap_cons, List.map_append, ih, List.map_map, List.map_map]
    rfl
theorem t_nest (h : OkS ms lo hi) {m : Nat} (hm : m ≤ 300) (hb : (lts ms lo hi).length ≤ 15) (hB : (lts ms lo hi).length ^ m ≤ 400) {a0 a1 a2 a4 a5 a6 a7 a8 : Sl} : kNox (kRun (b__law_nested_right_4 [a0, a1, a2, .own (((pAll ms lo hi 1).map txD).flatMap fun d => ((pAll ms lo hi m).map txD).map fun e => D.lst [d, e]), a4, a5, a6, a7, a8, .val (.lst ((pAll ms lo hi 1).map txD)), .val (.lst ((pAll ms lo hi m).map txD)), .no] S)) = .ok (.bl true) .tr S := by
  have hF : (fst_ ms lo hi).length ≤ 15 := Nat.le_trans (List.length_filter_le _ _) hb
  have hA := am_pow h m
  have l1 : (pAll ms lo hi 1).length = (fst_ ms lo hi).length := by rw [pAll_len]; show amt _ _ 1 = _; rw [show (1 : Nat) = 0 + 1 from rfl, amt_succ, Nat.pow_zero, Nat.mul_one]
  have l2 := pAll_len (ms := ms) (lo := lo) (hi := hi) m
  have hp : 0 < Am ms lo hi m := amt_pos (fst_pos h) (lts_pos h) m
  have hmul : (fst_ ms lo hi).length * Am ms lo hi m ≤ 15 * 400 := Nat.mul_le_mul hF (by omega)
  unfold b__law_nested_right_4
  walk_at "ex"
  rw [lc_mapE (S1 := S) (l := List.range ((pAll ms lo hi 1).length * (pAll ms lo hi m).length)) (e := fun i : Nat => D.int (0 + ((i : Nat) : Int))) (g := none) (f := prD ((pAll ms lo hi 1).map txD) ((pAll ms lo hi m).map txD)) (by
    walk_at "ex"
    rw [List.length_map, List.length_map, d_mul (.inl ⟨by rw [l1]; omega, by rw [l1]; omega⟩)]
    walk_at "ex"
    rw [← Int.natCast_mul, v_rng1a (by omega) (by rw [l1, l2]; omega), show ((((pAll ms lo hi 1).length * (pAll ms lo hi m).length : Nat) : Int)).toNat = (pAll ms lo hi 1).length * (pAll ms lo hi m).length by omega]
    rfl) gn0 (by rw [List.length_range, l1, l2]; exact Nat.le_trans hmul (by decide)) (fun i hi' => by
    have hi' := List.mem_range.mp hi'
    rw [l1, l2] at hi'
    have h1 : i / Am ms lo hi m < (fst_ ms lo hi).length := Nat.div_lt_of_lt_mul (by rw [Nat.mul_comm]; exact hi')
    have h2 : i % Am ms lo hi m < Am ms lo hi m := Nat.mod_lt _ hp
    obtain ⟨d1, e1⟩ : ∃ d, ((pAll ms lo hi 1).map txD)[i / Am ms lo hi m]? = some d := ⟨_, List.getElem?_eq_getElem (by rw [List.length_map, l1]; exact h1)⟩
    obtain ⟨d2, e2⟩ : ∃ d, ((pAll ms lo hi m).map txD)[i % Am ms lo hi m]? = some d := ⟨_, List.getElem?_eq_getElem (by rw [List.length_map, l2]; exact h2)⟩
    refine ⟨[a0, a1, a2, .own (((pAll ms lo hi 1).map txD).flatMap fun d => ((pAll ms lo hi m).map txD).map fun e => D.lst [d, e]), a4, a5, a6, a7, a8, .val (.lst ((pAll ms lo hi 1).map txD)), .val (.lst ((pAll ms lo hi m).map txD)), .val (.int ((i : Nat) : Int))], .fs, by rw [Int.zero_add]; rfl, ?_, rfl⟩
    walk_at "ex"
    rw [List.length_map, l2, d_fdiv ⟨by omega, by omega⟩]
    walk_at "ex"
    rw [← Int.natCast_ediv, d_ix_lst (x := d1) (pick_at e1)]
    walk_at "ex"
    rw [List.length_map, l2, d_mod (by omega)]
    walk_at "ex"
    rw [← Int.natCast_emod, d_ix_lst (x := d2) (pick_at e2)]
    walk_at "ex"
    unfold prD
    rw [List.length_map, l2, e1, e2]
    rfl)]
  walk_at "ex"
  have pe := pairs_eq ((pAll ms lo hi 1).map txD) ((pAll ms lo hi m).map txD)
  rw [List.length_map, List.length_map] at pe
  rw [pe, prs_form, eq_prs h (fun r hr p hp' q hq => by
    obtain ⟨a, ha, hr⟩ := List.mem_flatMap.mp hr
    obtain ⟨b, hb', rfl⟩ := List.mem_map.mp hr
    rcases List.mem_cons.mp hp' with rfl | z
    · exact pAll_mem h (by decide) _ ha q hq
    · rcases List.mem_cons.mp z with rfl | z
      · exact pAll_mem h hm _ hb' q hq
      · cases z)]
  walk_at "ex"
theorem v_gt3l {g : FGs} {a b c : D} {ρ : Ev} : gT 3 g (.lst [a, b, c]) ρ S = g [a, b, c] ρ S := rfl
theorem f_nest (h : OkS ms lo hi) {m : Nat} (hm : m ≤ 300) (hb : (lts ms lo hi).length ≤ 15) (hB : (lts ms lo hi).length ^ m ≤ 400) : F__law_nested_right [stk ms lo hi, .int ((m : Nat) : Int), .lst [.lst (ms.map D.str), .int lo, .int hi]] S = .ok (.bl true) .tr S := by
  have hF : (fst_ ms lo hi).length ≤ 15 := Nat.le_trans (List.length_filter_le _ _) hb
  have hA := am_pow h m
  have l1 : (pAll ms lo hi 1).length = (fst_ ms lo hi).length := by rw [pAll_len]; show amt _ _ 1 = _; rw [show (1 : Nat) = 0 + 1 from rfl, amt_succ, Nat.pow_zero, Nat.mul_one]
  have hmul : (fst_ ms lo hi).length * Am ms lo hi m ≤ 15 * 400 := Nat.mul_le_mul hF (by omega)
  unfold F__law_nested_right b__law_nested_right
  walk_at "ex"
  unfold b__law_nested_right_1
  walk_at "ex"
  obtain ⟨s4, s5, e⟩ := no_loop (S := S) h hm (a2 := .val (.lst [.lst (ms.map D.str), .int lo, .int hi])) (r := [.no, .no, .no, .no, .no, .no]) ((pAll ms lo hi 1).map (Prod.fst ∘ fun p => (txD p, true))) [] .no .no (by rw [List.length_map, l1, List.length_nil]; omega)
  rw [lp_texts (m := 1) h (by decide) rfl rfl]
  unfold lpT
  unfold noB niB lpT at e
  rw [List.map_map, e]
  walk_at "ex"
  unfold b__law_nested_right_2
  walk_at "ex"
  rw [v_gt3l]
  walk_at "ex"
  unfold b__law_nested_right_3
  walk_at "ex"
  have e1 := f_rows (S := S) h (m := 1) (by decide) (by rw [Nat.pow_one]; omega)
  have e2 := f_rows (S := S) h hm hB
  rw [show (D.int 1) = .int ((1 : Nat) : Int) from rfl, e1]
  walk_at "ex"
  rw [e2]
  walk_at "ex"
  have := t_nest (S := S) h hm hb hB (a0 := .val (stk ms lo hi)) (a1 := .val (.int ((m : Nat) : Int))) (a2 := .val (.lst [.lst (ms.map D.str), .int lo, .int hi])) (a4 := s4) (a5 := s5) (a6 := .val (.lst (ms.map D.str))) (a7 := .val (.int lo)) (a8 := .val (.int hi))
  refine Eq.trans ?_ this
  simp only [List.map_map]
  rfl
end
section
variable {S : Sto} {k n : Nat} {ms : List Str} {lo hi : Int}
theorem dgts_zero (b : Nat) : ∀ n, dgts b n 0 = List.replicate n 0
  | 0 => rfl
  | n + 1 => by
    show 0 % b :: dgts b n (0 / b) = _
    rw [Nat.zero_mod, Nat.zero_div, dgts_zero b n]; rfl
theorem dgts_one {b : Nat} (hb : 2 ≤ b) (n : Nat) : dgts b (n + 1) 1 = 1 :: List.replicate n 0 := by
  show 1 % b :: dgts b n (1 / b) = _
  rw [Nat.mod_eq_of_lt hb, Nat.div_eq_of_lt hb, dgts_zero]
theorem flat_rep {α β : Type} (a : α) (f : α → List β) (y : β) (h : f a = [y]) : ∀ n, (List.replicate n a).flatMap f = List.replicate n y
  | 0 => rfl
  | n + 1 => by rw [List.replicate_succ, List.flatMap_cons, h, flat_rep a f y h n]; rfl
theorem sq_zero {α : Type} {l0 : α} {l : List α} (n : Nat) : sq (l0 :: l) n 0 = List.replicate n l0 := by
  unfold sq
  rw [dgts_zero, List.reverse_replicate]
  exact flat_rep 0 _ l0 rfl n
theorem sq_one {α : Type} {l0 l1 : α} {l : List α} (n : Nat) : sq (l0 :: l1 :: l) (n + 1) 1 = List.replicate n l0 ++ [l1] := by
  unfold sq
  rw [dgts_one (by rw [List.length_cons, List.length_cons]; omega), List.reverse_cons, List.reverse_replicate, List.flatMap_append, flat_rep 0 _ l0 rfl n]
  rfl
theorem p_zero {f0 l0 : Str × Int} {F L : List (Str × Int)} (hf : fst_ ms lo hi = f0 :: F) (hl : lts ms lo hi = l0 :: L) (n : Nat) : pOf ms lo hi (n + 1) 0 = f0 :: List.replicate n l0 := by
  show at? (fst_ ms lo hi) (0 / _) ++ sq (lts ms lo hi) n 0 = _
  rw [hf, hl, Nat.zero_div, sq_zero]; rfl
theorem p_one {f0 l0 l1 : Str × Int} {F L : List (Str × Int)} (hf : fst_ ms lo hi = f0 :: F) (hl : lts ms lo hi = l0 :: l1 :: L) (n : Nat) : pOf ms lo hi (n + 2) 1 = f0 :: (List.replicate n l0 ++ [l1]) := by
  have hb : 2 ≤ (l0 :: l1 :: L).length := by rw [List.length_cons, List.length_cons]; omega
  have h2 : 2 ≤ (l0 :: l1 :: L).length ^ (n + 1) := Nat.le_trans hb (Nat.le_self_pow (by omega) _)
  show at? (fst_ ms lo hi) (1 / (lts ms lo hi).length ^ (n + 1)) ++ sq (lts ms lo hi) (n + 1) 1 = _
  rw [hf, hl, Nat.div_eq_of_lt (by omega), sq_one]; rfl
theorem take_one {m : Nat} (h : Am ms lo hi m = 1) : (pAll ms lo hi m).take 2 = [pOf ms lo hi m 0] := by unfold pAll; rw [h]; rfl
theorem take_two {m : Nat} (h : 2 ≤ Am ms lo hi m) : (pAll ms lo hi m).take 2 = [pOf ms lo hi m 0, pOf ms lo hi m 1] := by
  obtain ⟨x, e⟩ : ∃ x, Am ms lo hi m = x + 2 := ⟨Am ms lo hi m - 2, by omega⟩
  unfold pAll
  rw [← List.map_take, e, List.take_range, show min 2 (x + 2) = 2 by omega]
  rfl
theorem am_one (h : OkS ms lo hi) (hb : (lts ms lo hi).length = 1) (n : Nat) : Am ms lo hi (n + 1) = 1 := by
  have h1 := fst_pos h
  have h2 : (fst_ ms lo hi).length ≤ (lts ms lo hi).length := List.length_filter_le _ _
  show (fst_ ms lo hi).length * _ = 1
  rw [show (fst_ ms lo hi).length = 1 by omega, hb, Nat.one_pow]
theorem am_two (h : OkS ms lo hi) (hb : (lts ms lo hi).length ≠ 1) (n : Nat) : 2 ≤ Am ms lo hi (n + 2) := by
  have h1 := fst_pos h
  have h2 := lts_pos h
  have h3 : (lts ms lo hi).length ≤ (lts ms lo hi).length ^ (n + 1) := Nat.le_self_pow (by omega) _
  have h4 : 1 * (lts ms lo hi).length ^ (n + 1) ≤ (fst_ ms lo hi).length * (lts ms lo hi).length ^ (n + 1) := Nat.mul_le_mul_right _ h1
  rw [Nat.one_mul] at h4
  exact Nat.le_trans (by omega) h4
theorem heads (h : OkS ms lo hi) : ∃ m0 mr f0 fr, ms = m0 :: mr ∧ parM ms = f0 :: fr ∧ ∃ F L, fst_ ms lo hi = (f0, lo) :: F ∧ lts ms lo hi = (m0, lo) :: L := by
  have hw := h.wid_pos
  obtain ⟨w, ew⟩ : ∃ w, wid lo hi = w + 1 := ⟨wid lo hi - 1, by omega⟩
  have key : ∀ (m : Str) (r : List Str), ∃ L, lts (m :: r) lo hi = (m, lo) :: L := fun m r => by
    rw [lts_cons]
    show ∃ L, ((List.range (wid lo hi)).map fun i => (m, lo + ((i : Nat) : Int))) ++ _ = _
    rw [ew, List.range_succ_eq_map, List.map_cons, List.cons_append]
    exact ⟨_, by rw [Int.natCast_zero, Int.add_zero]⟩
  obtain ⟨m0, mr, e1⟩ := List.exists_cons_of_ne_nil (ms_ne h)
  obtain ⟨f0, fr, e2⟩ := List.exists_cons_of_ne_nil (par_ne h)
  obtain ⟨F, e3⟩ := key f0 fr
  obtain ⟨L, e4⟩ := key m0 mr
  exact ⟨m0, mr, f0, fr, e1, e2, F, L, by rw [fst_eq, e2, e3], by rw [e1, e4]⟩
/-- what the law's right side knows of a stock and of its purse -/
structure Sk (ms : List Str) (lo hi : Int) : Prop where
  ok : OkS ms lo hi
  hb : (lts ms lo hi).length ≤ 15
theorem t_21 (h : OkS ms lo hi) {n : Nat} (hn : n ≤ 298) {f0 l0 l1 : Str × Int} {F L : List (Str × Int)} (hf : fst_ ms lo hi = f0 :: F) (hl : lts ms lo hi = l0 :: l1 :: L) (hA : 2 ≤ Am ms lo hi (n + 2)) {a0 a1 a2 a3 a4 a5 a6 a7 a8 a9 a10 : Sl} :
    kNox (kRun (b__law_right_21 [a0, a1, a2, a3, a4, a5, a6, a7, a8, a9, a10, .val (txD (pOf ms lo hi (n + 2) 0)), .val (.lst (((pAll ms lo hi (n + 2)).take 2).map txD)), .val (.str l1.1), .val (.int l1.2)] S)) = .ok (.bl true) .tr S := by
  have hl1 : l1 ∈ lts ms lo hi := by rw [hl]; simp
  have hm := lts_mem.mp hl1
  have h1 := h.h1
  have h3 := h.h3
  have hsq : Fx.cutD (((pOf ms lo hi (n + 2) 0).map ltT).map tokV) none (some (-1)) = ((f0 :: List.replicate n l0).map ltT).map tokV := by
    rw [p_zero hf hl, List.replicate_succ', ← List.cons_append, List.map_append, List.map_append]
    exact cut_neg (-1) rfl (by simp)
  obtain ⟨Y, hY⟩ : ∃ Y, Y = ((f0 :: List.replicate n l0).map ltT).map tokV := ⟨_, rfl⟩
  rw [← hY] at hsq
  have hYl : Y.length ≤ 299 := by rw [hY, List.length_map, List.length_map, List.length_cons, List.length_replicate]; omega
  have eY : Y ++ [D.tup [.str l1.1, .str (Txt.mul aS l1.2)]] = ((pOf ms lo hi (n + 2) 1).map ltT).map tokV := by
    rw [hY, p_one hf hl, ← List.cons_append, List.map_append, List.map_append]; rfl
  have hp : ∀ q ∈ pOf ms lo hi (n + 2) 1, q ∈ lts ms lo hi := (f_text_p (S := S) h (m := n + 2) (by omega) (x := 1) (by omega)).2
  have e := eq_tx (S := S) (neg := false) h hp
  rw [take_two hA]
  unfold b__law_right_21
  walk_at "ex"
  rw [d_mul_str (mul_ok (by omega) (by omega))]
  walk_at "ex"
  rw [hsq, d_add_lst (Nat.le_trans (show _ + 1 ≤ 300 by omega) (by decide))]
  rw [eY]
  walk_at "ex"
  rw [e]
  walk_at "ex"
end
section
variable {S : Sto} {k n : Nat} {ms : List Str} {lo hi : Int}
theorem par_join : ∀ z ∈ allMarks, (sl z).head? = some 35 → ∃ c ∈ [48, 49, 50, 51], sl z = [35, c] ∧ Str.ofString "#" ++ ⟨#[c]⟩ = z := by decide +kernel
theorem t_20 (h : Sk ms lo hi) {n : Nat} (hn : n ≤ 298) {f0 l0 l1 : Str × Int} {F L : List (Str × Int)} (hf : fst_ ms lo hi = f0 :: F) (hl : lts ms lo hi = l0 :: l1 :: L) {a0 a4 a5 a6 a7 a8 a9 a10 : Sl} :
    kNox (kRun (b__law_right_20 [a0, .val (.lst (ms.map D.str)), .val (.int lo), .val (.int hi), a4, a5, a6, a7, a8, a9, a10, .val (txD (pOf ms lo hi (n + 2) 0)), .val (.lst (((pAll ms lo hi (n + 2)).take 2).map txD)), .no, .no] S)) = .ok (.bl true) .tr S := by
  have hA := am_two h.ok (by rw [hl, List.length_cons, List.length_cons]; omega) n
  unfold b__law_right_20
  walk_at "ex"
  rw [f_law_letters h.ok.len h.ok.h1 h.ok.h2 h.ok.h3]
  walk_at "ex"
  rw [d_ix_lst (i := 1) (x := ltD l1) (pick_at (i := 1) (by rw [hl]; rfl))]
  unfold ltD
  walk_at "ex"
  exact t_21 h.ok hn hf hl hA
theorem t_19 (h : Sk ms lo hi) {n : Nat} (hn : n ≤ 298) {a0 a4 a5 a7 a8 a9 a10 : Sl} :
    kNox (kRun (b__law_right_19 [a0, .val (.lst (ms.map D.str)), .val (.int lo), .val (.int hi), a4, a5, .val (.int (((lts ms lo hi).length : Nat) : Int)), a7, a8, a9, a10, .val (txD (pOf ms lo hi (n + 2) 0)), .val (.lst (((pAll ms lo hi (n + 2)).take 2).map txD)), .no, .no] S)) = .ok (.bl true) .tr S := by
  unfold b__law_right_19
  walk_at "ex"
  by_cases h1 : (lts ms lo hi).length = 1
  · rw [decide_eq_true (show (((lts ms lo hi).length : Nat) : Int) = 1 by omega)]
    walk_at "ex"
    rw [take_one (am_one h.ok h1 (n + 1))]
    rfl
  · rw [decide_eq_false (show ¬ (((lts ms lo hi).length : Nat) : Int) = 1 by omega)]
    walk_at "ex"
    obtain ⟨m0, mr, f0, fr, _, _, F, L, e3, e4⟩ := heads h.ok
    cases L with
    | nil => exact absurd (by rw [e4]; rfl) h1
    | cons l1 L => exact t_20 h hn e3 e4
theorem t_17 (h : Sk ms lo hi) {n : Nat} (hn : n ≤ 298) {a0 a7 a8 a9 a10 : Sl} :
    kNox (kRun (b__law_right_17 [a0, .val (.lst (ms.map D.str)), .val (.int lo), .val (.int hi), .val (stk ms lo hi), .val (.int ((n + 2 : Nat) : Int)), .val (.int (((lts ms lo hi).length : Nat) : Int)), a7, a8, a9, a10, .val (txD (pOf ms lo hi (n + 2) 0)), .no, .no, .no] S)) = .ok (.bl true) .tr S := by
  have hp : 0 < Am ms lo hi (n + 2) := amt_pos (fst_pos h.ok) (lts_pos h.ok) _
  unfold b__law_right_17
  walk_at "ex"
  rw [show (D.int 2) = .int ((2 : Nat) : Int) from rfl, f_begun h.ok (show n + 2 ≤ 300 by omega) (by decide) (by decide)]
  walk_at "ex"
  unfold b__law_right_18
  walk_at "ex"
  rw [d_ix_lst (i := 0) (x := txD (pOf ms lo hi (n + 2) 0)) (pick_at (i := 0) (by
    rw [List.getElem?_map, List.getElem?_take, if_pos (by decide)]
    unfold pAll
    rw [List.getElem?_map, List.getElem?_range hp]; rfl))]
  walk_at "ex"
  rw [eq_tx h.ok (f_text_p (S := S) h.ok (m := n + 2) (by omega) hp).2]
  walk_at "ex"
  exact t_19 h hn
theorem t_15 (h : Sk ms lo hi) {n : Nat} (hn : n ≤ 298) {a0 a7 a8 a9 : Sl} :
    kNox (kRun (b__law_right_15 [a0, .val (.lst (ms.map D.str)), .val (.int lo), .val (.int hi), .val (stk ms lo hi), .val (.int ((n + 2 : Nat) : Int)), .val (.int (((lts ms lo hi).length : Nat) : Int)), a7, a8, a9, .no, .no, .no, .no, .no] S)) = .ok (.bl true) .tr S := by
  obtain ⟨m0, mr, f0, fr, e1, e2, F, L, e3, e4⟩ := heads h.ok
  have h1 := h.ok.h1
  have h2 := h.ok.h2
  have h3 := h.ok.h3
  unfold b__law_right_15
  walk_at "ex"
  rw [lc_flatE (S1 := S) (l := ms) (e := D.str) (g := none) (c := fun z => decide ((sl z).head? = some 35)) (f := fun z => tokV (ltT (z, lo))) (by walk_at "ex") gn0 (Nat.le_trans h.ok.len (by decide)) (fun z hz => by
    have hm := h.ok.mark z hz
    obtain ⟨c, r, ez⟩ := mark_head hm
    refine ⟨[a0, .val (.lst (ms.map D.str)), .val (.int lo), .val (.int hi), .val (stk ms lo hi), .val (.int ((n + 2 : Nat) : Int)), .val (.int (((lts ms lo hi).length : Nat) : Int)), a7, a8, a9, .no, .no, .no, .val (.str z), .no], .tr, rfl, ?_, fun hc => ⟨.tr, ?_, rfl⟩⟩
    · walk_at "ex"
      rw [d_ix_str (Nat.le_trans (mark_len hm) (by decide)) (by rw [ez]; exact pick0 _ _)]
      walk_at "ex"
      rw [eq_str _ "#" (l := [35]) (by decide +kernel)]
      rw [ez]
      congr 2
      rw [Bool.eq_iff_iff]
      simp [sl]
    · obtain ⟨d, _, ed, ej⟩ := par_join z (h.ok.all z hz) (of_decide_eq_true hc)
      walk_at "ex"
      rw [d_ix_str (c := d) (Nat.le_trans (mark_len hm) (by decide)) (by rw [ed]; rfl)]
      walk_at "ex"
      rw [d_add_str (a := Str.ofString "#") (b := ⟨#[d]⟩) (show 1 + 1 ≤ lim by decide)]
      walk_at "ex"
      rw [d_mul_str (mul_ok (by omega) (by omega)), ej]
      walk_at "ex"
      rfl)]
  walk_at "ex"
  rw [show Fx.cutD ((ms.filter fun z => decide ((sl z).head? = some 35)).map fun z => tokV (ltT (z, lo))) none (some 1) = [tokV (ltT (f0, lo))] by
    rw [show (1 : Int) = ((1 : Nat) : Int) from rfl, cutD_upto, show (ms.filter fun z => decide ((sl z).head? = some 35)) = f0 :: fr from e2]; rfl]
  unfold b__law_right_16
  walk_at "ex"
  rw [d_ix_lst (i := 0) (x := .str m0) (pick_at (i := 0) (by rw [e1]; rfl))]
  walk_at "ex"
  rw [d_mul_str (mul_ok (by omega) (by omega))]
  walk_at "ex"
  rw [d_mul_lst (by omega) (by omega) (by rw [List.length_singleton]; exact Nat.le_trans (show _ ≤ 300 by omega) (by decide)), show (((n + 2 : Nat) : Int) - 1).toNat = n + 1 by omega, List.flatten_replicate_singleton]
  have ex : D.lst ([tokV (ltT (f0, lo))] ++ List.replicate (n + 1) (D.tup [.str m0, .str (Txt.mul (Str.ofString "a") lo)])) = txD (pOf ms lo hi (n + 2) 0) := by
    rw [p_zero e3 e4]
    show _ = D.lst ((((f0, lo) :: List.replicate (n + 1) (m0, lo)).map ltT).map tokV)
    rw [List.map_cons, List.map_cons, List.map_replicate, List.map_replicate]; rfl
  have hRl : (List.replicate (n + 1) (D.tup [.str m0, .str (Txt.mul (Str.ofString "a") lo)])).length ≤ 299 := by rw [List.length_replicate]; omega
  generalize List.replicate (n + 1) (D.tup [.str m0, .str (Txt.mul (Str.ofString "a") lo)]) = R at ex hRl ⊢
  walk_at "ex"
  rw [d_add_lst (Nat.le_trans (show 1 + _ ≤ 300 by omega) (by decide)), ex]
  walk_at "ex"
  exact t_17 h hn
end
theorem d_lst3b {a b c : D} {S : Sto} : dLst [a, b, c] true S = .ok (.lst [a, b, c]) .fs S := d_lst (by show 3 ≤ lim; decide)
local macro_rules | `(tactic| walk_at "kk") => `(tactic| simp -implicitDefEqProofs only [d_lst3b, Fx.v_slT, Fx.v_slT0, Fx.v_slT1, Fx.v_slT2, Fx.d_slT, Fx.d_slTl, Fx.d_addTi, Fx.d_addTs, Fx.d_addTl, Fx.v_dnewC, Fx.v_zipC, Fx.d_ixl0, Fx.d_ixl1, Fx.d_ixl2, Fx.d_ixt0, Fx.d_ixt1, Fx.d_lst0, Fx.d_lst1, Fx.d_lst2, Fx.d_tup0, Fx.d_tup1, Fx.d_tup2, Fx.d_int_int, Fx.d_neg, Fx.v_gt2, Fx.v_gt1, Fx.v_callT, Fx.v_propT, Fx.v_sup, Fx.v_asgNS, Fx.v_appX, Fx.d_strX_str, Fx.d_sum, Fx.v_isiX, Fx.v_binO, Fx.v_binO1, Fx.v_inO, Fx.v_inO1, Fx.v_inO3, Fx.v_eqO, Fx.v_eqO1, Fx.v_eqO3, Fx.v_eqX, Fx.v_eqX1, Fx.v_neO, Fx.v_neO1, Fx.v_neO3, Fx.v_augD, Fx.v_augD0, Fx.v_augD1, Fx.v_augD2, Fx.v_idxL, Fx.v_idxL1, Fx.v_idxL2, Fx.v_raise0, Fx.v_fld, Fx.v_setF, Fx.v_meth, Fx.v_methA, Fx.v_sp1, Fx.v_mk, Fx.v_mkK, Fx.v_mkK1, Fx.v_cmeth, Fx.v_runI1, Fx.v_runIx, Fx.v_fmt, Fx.v_js0, Fx.v_js, Fx.v_lrg, Fx.v_lrg1, Fx.v_callK, Fx.v_callK1, Fx.bE_ok, Fx.bE_xc, Fx.bS_nx, Fx.bS_rt, Fx.bS_bk, Fx.bS_ct, Fx.bS_xc, Fx.eS_ok, Fx.eS_xc, Fx.v_seq, Fx.v_next, Fx.v_break, Fx.v_cont, Fx.v_c, Fx.v_var, Fx.kVar_val, Fx.kVar_own, Fx.kVar_oob, Fx.v_op, Fx.v_op1, Fx.v_op2, Fx.v_un, Fx.v_un1, Fx.v_not, Fx.v_not1, Fx.v_and, Fx.v_andT, Fx.v_andF, Fx.v_or, Fx.v_orT, Fx.v_orF, Fx.v_if, Fx.v_ifT, Fx.v_ifF, Fx.v_chain, Fx.v_ch, Fx.v_ch0, Fx.v_ch1T, Fx.v_ch1F, Fx.v_ch2, Fx.v_isi, Fx.v_isiT, Fx.v_isi1, Fx.v_isi2, Fx.ty_non, Fx.ty_bl, Fx.ty_int, Fx.ty_str, Fx.ty_lst, Fx.ty_tup, Fx.ty_dct, Fx.v_cb, Fx.bA_ok, Fx.bA_xc, Fx.v_nil, Fx.v_cons, Fx.v_cons1, Fx.v_cons1x, Fx.v_cons2, Fx.v_cons2x, Fx.nop_tr, Fx.nop_fs, Fx.nop_pk, Fx.v_lst, Fx.v_tup, Fx.v_dnew, Fx.v_call, Fx.v_call1, Fx.v_m1, Fx.v_m1a, Fx.v_m1b, Fx.v_part, Fx.v_part1, Fx.v_nopart, Fx.v_sl, Fx.v_sl0, Fx.v_sl1, Fx.v_sl2, Fx.bO_ok, Fx.v_rev, Fx.v_expr, Fx.v_expr1, Fx.v_ifs, Fx.v_ifsT, Fx.v_ifsF, Fx.v_ret, Fx.v_retT, Fx.v_retS, Fx.v_retN, Fx.v_retV, Fx.v_retV1, Fx.v_retV2, Fx.v_asg, Fx.v_asgT, Fx.v_asgS, Fx.v_asg2, Fx.v_gn, Fx.v_gsNil, Fx.v_gsCons, Fx.v_gs, Fx.v_par, Fx.v_par1, Fx.v_aug, Fx.v_aug1, Fx.v_aug2, Fx.v_own, Fx.v_own1, Fx.v_frz, Fx.v_frz0, Fx.v_frz1, Fx.v_frz2, Fx.v_frz3, Fx.v_app, Fx.v_ado, Fx.v_ado1, Fx.v_xf, Fx.v_set, Fx.v_for, Fx.v_for1, Fx.v_forx, Fx.v_iter, Fx.v_iter1, Fx.v_iter1s, Fx.v_iter2, Fx.it_str, Fx.it_lst, Fx.it_tup, Fx.v_rng1, Fx.v_enum, Fx.v_enumL, Fx.v_enumT, Fx.v_raise, Fx.v_raise1, Fx.v_try, Fx.v_tryN, Fx.v_tryX, Fx.v_run1, Fx.v_run2, Fx.v_run3, Fx.v_r0, Fx.v_r1, Fx.v_r2, Fx.v_r3, Fx.v_r4, Fx.v_r5, Fx.v_nx, Fx.v_nx1, Fx.d_eq_str, Fx.d_eq_int, Fx.d_add_int, Fx.d_sub, Fx.d_cmp, Fx.d_len_lst, Fx.d_len_tup, Fx.d_len_fro, Fx.d_nil, Fx.d_max, Fx.d_min, Fx.d_sl_lst, Fx.d_list, Fx.d_listT, Fx.d_tuple, Fx.d_isN, Fx.d_isB, List.map_cons, List.map_nil, List.length_cons, List.length_nil, List.replicate, List.cons_append, List.nil_append, List.append_nil, List.getElem?_cons_zero, List.getElem?_cons_succ, List.set, Nat.reduceAdd, Nat.reduceSub, Nat.zero_add, if_true, if_false, reduceIte, Bool.not_true, Bool.not_false, Bool.and_true, Bool.true_and, Bool.and_self, Bool.false_xor, Bool.true_xor, Bool.false_eq_true, isT, Fx.tyd_non, Fx.tyd_bl, Fx.tyd_int, Fx.tyd_str, Fx.tyd_lst, Fx.tyd_tup, Fx.tyd_dct, reduceCtorEq, decide_true, decide_false, Bool.or_false, Bool.or_true, Bool.false_or, Bool.true_or, Bool.and_false, Bool.false_and, List.any_cons, List.any_nil])
section
variable {S : Sto} {k n : Nat} {ms : List Str} {lo hi : Int}
theorem t_14 (h : Sk ms lo hi) (hb : Box S k n) (hn : n ≤ 80000) {a5 a7 a8 a9 : Sl} :
    ∃ S', kNox (kRun (b__law_right_14 [.val (.cel k), .val (.lst (ms.map D.str)), .val (.int lo), .val (.int hi), .val (stk ms lo hi), a5, .val (.int (((lts ms lo hi).length : Nat) : Int)), a7, a8, a9, .no, .no, .no, .no, .no] S)) = .ok (.bl true) .tr S' := by
  unfold b__law_right_14
  walk_at "kk"
  obtain ⟨r, S1, e1, r0, r1, b1, f1⟩ := f_take (m := 260) hb (by omega) (by decide) (by decide)
  rw [e1]
  walk_at "kk"
  refine ⟨S1, ?_⟩
  rw [show 40 + r = (((38 + r).toNat + 2 : Nat) : Int) by omega]
  exact t_15 h (by omega)
theorem t_12 (h : Sk ms lo hi) {m : Nat} (hm : m ≤ 300) (hB : (lts ms lo hi).length ^ m ≤ 400) (hb : Box S k n) (hn : n ≤ 70000) {a8 a9 : Sl} :
    ∃ S', kNox (kRun (b__law_right_12 [.val (.cel k), .val (.lst (ms.map D.str)), .val (.int lo), .val (.int hi), .val (stk ms lo hi), .val (.int ((m : Nat) : Int)), .val (.int (((lts ms lo hi).length : Nat) : Int)), .val (.lst ((pAll ms lo hi m).map txD)), a8, a9, .no, .no, .no, .no, .no] S)) = .ok (.bl true) .tr S' := by
  unfold b__law_right_12
  walk_at "kk"
  rw [show (D.int 7) = .int ((7 : Nat) : Int) from rfl, f_begun h.ok hm (by decide) (by decide)]
  walk_at "kk"
  rw [cutD_upto, ← List.map_take, eq_txs h.ok fun p hp => pAll_mem h.ok hm p (List.mem_of_mem_take hp)]
  walk_at "kk"
  unfold b__law_right_13
  walk_at "kk"
  obtain ⟨r, S1, e1, r0, r1, b1, f1⟩ := f_take (m := 4) hb (by omega) (by decide) (by decide)
  rw [e1]
  walk_at "kk"
  by_cases hr : r = 0
  · rw [decide_eq_false (show ¬ r > 0 by omega)]
    walk_at "kk"
    exact t_14 h b1 (by omega)
  · rw [decide_eq_true (show r > 0 by omega)]
    walk_at "kk"
    exact ⟨_, rfl⟩
theorem t_10 (h : Sk ms lo hi) {m : Nat} (hm : m ≤ 300) (hB : (lts ms lo hi).length ^ m ≤ 400) (hb : Box S k n) (hn : n ≤ 70000) {a9 : Sl} :
    ∃ S', kNox (kRun (b__law_right_10 [.val (.cel k), .val (.lst (ms.map D.str)), .val (.int lo), .val (.int hi), .val (stk ms lo hi), .val (.int ((m : Nat) : Int)), .val (.int (((lts ms lo hi).length : Nat) : Int)), .val (.lst ((pAll ms lo hi m).map txD)), .own ((pAll ms lo hi m).map txD), a9, .no, .no, .no, .no, .no] S)) = .ok (.bl true) .tr S' := by
  unfold b__law_right_10
  walk_at "kk"
  rw [eq_txs h.ok fun p hp => pAll_mem h.ok hm p hp]
  walk_at "kk"
  rw [v_meth1 rfl (sk_no (by decide +kernel)) (lkM _ _)]
  walk_at "kk"
  rw [f_amount h.ok hm]
  walk_at "kk"
  rw [List.length_map, pAll_len, decide_eq_true rfl]
  walk_at "kk"
  unfold b__law_right_11
  walk_at "kk"
  rw [show (if (2 : Int) < ((m : Nat) : Int) then (2 : Int) else ((m : Nat) : Int)) = ((min m 2 : Nat) : Int) by split <;> omega, f_nest h.ok (m := min m 2) (by omega) h.hb (Nat.le_trans (Nat.pow_le_pow_right (lts_pos h.ok) (Nat.min_le_left _ _)) hB)]
  walk_at "kk"
  exact t_12 h hm hB hb hn
theorem t_7 (h : Sk ms lo hi) {m : Nat} (hm : m ≤ 300) (hB : (lts ms lo hi).length ^ m ≤ 400) (hb : Box S k n) (hn : n ≤ 70000) :
    ∃ S', kNox (kRun (b__law_right_7 [.val (.cel k), .val (.lst (ms.map D.str)), .val (.int lo), .val (.int hi), .val (stk ms lo hi), .val (.int ((m : Nat) : Int)), .val (.int (((lts ms lo hi).length : Nat) : Int)), .no, .no, .no, .no, .no, .no, .no, .no] S)) = .ok (.bl true) .tr S' := by
  unfold b__law_right_7
  walk_at "kk"
  rw [f_rows h.ok hm hB]
  walk_at "kk"
  unfold b__law_right_8
  walk_at "kk"
  unfold b__law_right_9
  walk_at "kk"
  obtain ⟨s9, e⟩ := td_loop (S := S) (a0 := .val (.cel k)) (a1 := .val (.lst (ms.map D.str))) (a2 := .val (.int lo)) (a3 := .val (.int hi)) (a4 := .val (stk ms lo hi)) (a5 := .val (.int ((m : Nat) : Int))) (a6 := .val (.int (((lts ms lo hi).length : Nat) : Int))) (a7 := .val (.lst ((pAll ms lo hi m).map txD))) (r := [.no, .no, .no, .no, .no]) ((pAll ms lo hi m).map fun p => (p.map ltT).map tokV) [] .no (by rw [List.length_map, pAll_len, List.length_nil]; have := am_pow h.ok m; omega)
  rw [List.map_map, List.map_nil, List.nil_append, List.map_map] at e
  rw [lp_texts h.ok hm rfl rfl]
  refine Eq.rec (motive := fun x _ => ∃ S', kNox (kRun (bS x b__law_right_10)) = .ok (.bl true) .tr S') ?_ e.symm
  walk_at "kk"
  exact t_10 h hm hB hb hn
noncomputable abbrev pwB : FS := sAsg (fOp dMul (fVar 2) (fVar 0)) (gN 2)
theorem pw_loop {B : Nat} (hB : B ≤ 15) {s1 : Sl} : ∀ (ds : List D) (x : Nat) (s3 : Sl), ∃ s3', loopS none (gN 3) pwB ds [.val (.int ((B : Nat) : Int)), s1, .val (.int ((x : Nat) : Int)), s3] S = .nx [.val (.int ((B : Nat) : Int)), s1, .val (.int ((x * B ^ ds.length : Nat) : Int)), s3'] S
  | [], x, s3 => ⟨s3, by rw [loop_end gn0, List.length_nil, Nat.pow_zero, Nat.mul_one]⟩
  | d :: ds, x, s3 => by
    obtain ⟨s3', ih⟩ := pw_loop hB (s1 := s1) ds (x * B) (.val d)
    refine ⟨s3', ?_⟩
    rw [loop_step (g := none) (S2 := S) (ρ2 := [.val (.int ((B : Nat) : Int)), s1, .val (.int ((x * B : Nat) : Int)), .val d]) gn0 rfl (by
      show pwB [.val (.int ((B : Nat) : Int)), s1, .val (.int ((x : Nat) : Int)), .val d] S = _
      unfold pwB
      walk_at "kk"
      rw [d_mul (.inr ⟨by omega, by omega⟩)]
      walk_at "kk"
      rw [Int.natCast_mul]), ih, List.length_cons, Nat.pow_succ, Nat.mul_assoc, Nat.mul_comm (B ^ ds.length)]
theorem f_power {B m : Nat} (hB : B ≤ 15) (hm : m ≤ 300) : F__law_power [.int ((B : Nat) : Int), .int ((m : Nat) : Int)] S = .ok (.int ((B ^ m : Nat) : Int)) .tr S := by
  unfold F__law_power b__law_power
  walk_at "kk"
  rw [v_rng1a (by omega) (by omega)]
  walk_at "kk"
  obtain ⟨s3, e⟩ := pw_loop (S := S) hB (s1 := .val (.int ((m : Nat) : Int))) (rngD 0 m) 1 .no
  rw [rng_len, Nat.one_mul] at e
  rw [show (((m : Nat) : Int)).toNat = m by omega, show (Sl.val (D.int 1)) = .val (.int ((1 : Nat) : Int)) from rfl, e]
  walk_at "kk"
noncomputable abbrev whC : FE := fOp dGt (fCall F__law_power [] (fCons (fVar 6) (fCons (fVar 5) (fNil)))) (fC (.int 400))
noncomputable abbrev whB : FS := sAsg (fOp dSub (fVar 5) (fC (.int 1))) (gN 5)
theorem wh_c {B m : Nat} (hB : B ≤ 15) (hm : m ≤ 300) {a0 a1 a2 a3 a4 : Sl} {r : Ev} : whC (a0 :: a1 :: a2 :: a3 :: a4 :: .val (.int ((m : Nat) : Int)) :: .val (.int ((B : Nat) : Int)) :: r) S = .ok (.bl (decide (((B ^ m : Nat) : Int) > 400))) .tr S := by
  unfold whC
  walk_at "kk"
  rw [f_power hB hm]
  walk_at "kk"
theorem wh_loop {B : Nat} (hB0 : 0 < B) (hB : B ≤ 15) {a0 a1 a2 a3 a4 : Sl} {r : Ev} : ∀ m : Nat, m ≤ 300 → ∃ m' : Nat, m' ≤ m ∧ B ^ m' ≤ 400 ∧ whileN whC whB (m + 1) (a0 :: a1 :: a2 :: a3 :: a4 :: .val (.int ((m : Nat) : Int)) :: .val (.int ((B : Nat) : Int)) :: r) S = .nx (a0 :: a1 :: a2 :: a3 :: a4 :: .val (.int ((m' : Nat) : Int)) :: .val (.int ((B : Nat) : Int)) :: r) S := fun m => by
  induction m with
  | zero =>
    intro hm
    refine ⟨0, Nat.le_refl _, by rw [Nat.pow_zero]; decide, ?_⟩
    unfold whileN
    rw [wh_c hB hm, decide_eq_false (by rw [Nat.pow_zero]; decide)]
    rfl
  | succ m ih =>
    intro hm
    by_cases h : B ^ (m + 1) ≤ 400
    · refine ⟨m + 1, Nat.le_refl _, h, ?_⟩
      unfold whileN
      rw [wh_c hB hm, decide_eq_false (by omega)]
      rfl
    · obtain ⟨m', h1, h2, e⟩ := ih (by omega)
      refine ⟨m', by omega, h2, ?_⟩
      have eb : whB (a0 :: a1 :: a2 :: a3 :: a4 :: .val (.int ((m + 1 : Nat) : Int)) :: .val (.int ((B : Nat) : Int)) :: r) S = .nx (a0 :: a1 :: a2 :: a3 :: a4 :: .val (.int ((m : Nat) : Int)) :: .val (.int ((B : Nat) : Int)) :: r) S := by
        unfold whB
        walk_at "kk"
        rw [show ((m + 1 : Nat) : Int) - 1 = ((m : Nat) : Int) by omega]
      unfold whileN
      rw [wh_c hB hm, decide_eq_true (by omega)]
      unfold eS
      dsimp only
      rw [eb]
      exact e
theorem v_while {B m : Nat} (hB0 : 0 < B) (hB : B ≤ 15) (hm : m ≤ 300) {a0 a1 a2 a3 a4 : Sl} {r : Ev} : ∃ m' : Nat, m' ≤ m ∧ B ^ m' ≤ 400 ∧ sWhile whC whB (a0 :: a1 :: a2 :: a3 :: a4 :: .val (.int ((m : Nat) : Int)) :: .val (.int ((B : Nat) : Int)) :: r) S = .nx (a0 :: a1 :: a2 :: a3 :: a4 :: .val (.int ((m' : Nat) : Int)) :: .val (.int ((B : Nat) : Int)) :: r) S := by
  obtain ⟨m', h1, h2, e⟩ := wh_loop (S := S) hB0 hB (a0 := a0) (a1 := a1) (a2 := a2) (a3 := a3) (a4 := a4) (r := r) m hm
  exact ⟨m', h1, h2, while_eq (m + 1) e (fun z => (nomatch z))⟩
theorem nodup_len {α : Type} [DecidableEq α] : ∀ {l m : List α}, l.Nodup → (∀ x ∈ l, x ∈ m) → l.length ≤ m.length
  | [], m, _, _ => Nat.zero_le _
  | a :: l, m, hn, hs => by
    rw [List.nodup_cons] at hn
    have ha := hs a List.mem_cons_self
    have ih := nodup_len (m := m.erase a) hn.2 fun x hx => (List.mem_erase_of_ne (fun e => hn.1 (by rw [← e]; exact hx))).mpr (hs x (List.mem_cons_of_mem _ hx))
    rw [List.length_erase_of_mem ha] at ih
    have := List.length_pos_of_mem ha
    rw [List.length_cons]; omega
theorem oks_sort {gv : List Str} (hm : ∀ m ∈ gv, isMark m = true) (hp : hasP gv = true) (h1 : 1 ≤ lo) (h2 : lo ≤ hi) (h3 : hi ≤ 30) : OkS (sortM gv) lo hi := ⟨sortM_idem gv, by rw [hasP_sort hm]; exact hp, h1, h2, h3⟩
theorem sort_le (gv : List Str) : (sortM gv).length ≤ gv.length := nodup_len (sort_nodup gv) fun x hx => of_decide_eq_true (List.mem_filter.mp hx).2
theorem f_right (hb : Box S k n) (hn : n ≤ 10000) : ∃ S', F__law_right [.cel k] S = .ok (.bl true) .tr S' := by
  unfold F__law_right b__law_right
  walk_at "kk"
  obtain ⟨gv, S1, e1, gm, gp, gl, b1, f1⟩ := f_lmarks (M := 5) (by decide) (by decide) hb (by omega)
  rw [e1]
  walk_at "kk"
  rw [f_sorted (by omega)]
  walk_at "kk"
  have gs := sort_le gv
  unfold b__law_right_1
  walk_at "kk"
  obtain ⟨u, S2, e2, u0, u1, b2, f2⟩ := f_take (m := 5) b1 (by omega) (by decide) (by decide)
  rw [e2]
  walk_at "kk"
  unfold b__law_right_2
  walk_at "kk"
  obtain ⟨v, S3, e3, v0, v1, b3, f3⟩ := f_take (m := 3) b2 (by omega) (by decide) (by decide)
  rw [e3]
  walk_at "kk"
  unfold b__law_right_3
  walk_at "kk"
  rw [v_mkK2 (n := 1) (m := 2) (ds := [_]) (zs := [_, _]) rfl rfl, show g_Stock___init___shortest_longest [D.lst ((sortM gv).map D.str)] [] [D.int (1 + u), D.int (1 + u + v)] = [D.lst ((sortM gv).map D.str), D.int (1 + u), D.int (1 + u + v)] from rfl]
  have hok : OkS (sortM gv) (1 + u) (1 + u + v) := oks_sort gm gp (by omega) (by omega) (by omega)
  rw [f_mk (.inl rfl) (Nat.le_trans hok.len (by decide)) hok.mark hok.hp hok.h1 hok.h2 hok.h3, hok.so]
  walk_at "kk"
  unfold b__law_right_4
  walk_at "kk"
  obtain ⟨w, S4, e4, w0, w1, b4, f4⟩ := f_take (m := 6) b3 (by omega) (by decide) (by decide)
  rw [e4]
  walk_at "kk"
  have hw : wid (1 + u) (1 + u + v) ≤ 3 := by unfold wid; omega
  have hwc : ((wid (1 + u) (1 + u + v) : Nat) : Int) = 1 + u + v + 1 - (1 + u) := by unfold wid; omega
  have lB : (lts (sortM gv) (1 + u) (1 + u + v)).length = (sortM gv).length * wid (1 + u) (1 + u + v) := lts_len _ _ _
  have hB : (lts (sortM gv) (1 + u) (1 + u + v)).length ≤ 15 := by
    rw [lB]
    exact Nat.le_trans (Nat.mul_le_mul (show (sortM gv).length ≤ 5 by omega) hw) (by decide)
  have hs13 := hok.len
  unfold b__law_right_5
  walk_at "kk"
  rw [List.length_map, d_mul (.inl ⟨by omega, by omega⟩)]
  walk_at "kk"
  rw [← hwc, ← Int.natCast_mul, ← lB]
  unfold b__law_right_6
  walk_at "kk"
  obtain ⟨m, m1, m2, e5⟩ := v_while (S := S4) (m := w.toNat) (lts_pos hok) hB (by omega) (a0 := .val (.cel k)) (a1 := .val (.lst ((sortM gv).map D.str))) (a2 := .val (.int (1 + u))) (a3 := .val (.int (1 + u + v))) (a4 := .val (stk (sortM gv) (1 + u) (1 + u + v))) (r := [.no, .no, .no, .no, .no, .no, .no, .no])
  rw [show ((w.toNat : Nat) : Int) = w by omega] at e5
  rw [e5]
  walk_at "kk"
  exact t_7 ⟨hok, hB⟩ (by omega) m2 b4 (by omega)
end
theorem law_true (ns : List Int) (hl : ns.length ≤ 63) : ∃ fl S', F_law [.fro true (intsD ns)] [] = .ok (.bl true) fl S' := by
  unfold F_law b_law
  walk_at "ev"
  have hil : (intsD ns).length ≤ 63 := by unfold intsD; rw [List.length_map]; exact hl
  generalize hN : (if (if ((intsD ns).length : Int) < 6 then ((intsD ns).length : Int) else 6) > 2 then (if ((intsD ns).length : Int) < 6 then ((intsD ns).length : Int) else 6) else 2) = N
  have hN' : 0 ≤ N ∧ N ≤ 16 := by rw [← hN]; split <;> split <;> omega
  rw [v_rng1a (by omega) (by omega)]
  walk_at "ev"
  obtain ⟨ρ', S', e, s1, rfl⟩ := loop_inv (g := none) (set := gN 1) (ds := rngD 0 N.toNat)
    (body := sIf (fNot (fCall F__law_right [] (fCons (fAdo (fCall F__law_purse [] (fCons (fCall F__law_cell [] (fCons (fVar 0) (fCons (fVar 1) (fNil)))) (fNil)))) (fNil)))) (sRet (fC (.bl false))) (sNext))
    (fun i ρ S' => ∃ s1, ρ = [.val (.fro true (intsD ns)), s1]) (fun _ _ _ _ => trivial) (by
      rintro i d ρ S1 hd ⟨s1, rfl⟩
      have hi := (List.getElem?_eq_some_iff.mp hd).1
      rw [rng_len] at hi
      rw [rng_at hi] at hd
      cases hd
      rw [Int.zero_add]
      obtain ⟨c, ec⟩ := f_cell (ns := ns) (k := ((i : Nat) : Int)) (S := S1) (by omega) (by omega)
      obtain ⟨ds, ep, x, y, rfl, hx, hy, hy2⟩ := f_purse (c := c) (S := S1)
      have hb : Box (S1 ++ [.lst [.int x, .int y, .int 0]]) S1.length 0 := ⟨x, y, 0, by rw [List.getElem?_append_right (Nat.le_refl _), Nat.sub_self]; rfl, hx, hy, hy2, by decide, by decide⟩
      obtain ⟨S2, e2⟩ := f_right hb (by decide)
      refine ⟨[.val (.fro true (intsD ns)), .val (.int ((i : Nat) : Int))], [.val (.fro true (intsD ns)), .val (.int ((i : Nat) : Int))], S2, rfl, .inl ?_, .val (.int ((i : Nat) : Int)), rfl⟩
      walk_at "ev"
      rw [ec]
      walk_at "ev"
      rw [ep]
      walk_at "ev"
      rw [e2]
      walk_at "ev") (ρ := [.val (.fro true (intsD ns)), .no]) (S := []) ⟨_, rfl⟩
  rw [e]
  walk_at "ev"
  exact ⟨_, _, rfl⟩
theorem all_mk {l : PySem.W.OpenLaw} {w : World} {K : PySem.W.Frag} {h : Heap} {mg : Str → Option Value} {fa : Addr} (X : K.In h) (G : h.Ns mainGlobals mg) (hfa : mg "law" = some (.ref fa))
    {C0 : Addr}
    {C2 : Addr}
    {C4 : Addr}
    {C6 : Addr}
    {f0 : Addr} {od0 an0 : Option Addr} {sl0 : Array (Option Value)} {oc0 dc0 pm0 cd0 ct0 : Value} {kV0 : Value}
    {f1 : Addr} {od1 an1 : Option Addr} {sl1 : Array (Option Value)} {oc1 dc1 pm1 cd1 ct1 : Value} {kV1 : Value}
    {f2 : Addr} {od2 an2 : Option Addr} {sl2 : Array (Option Value)} {oc2 dc2 pm2 cd2 ct2 : Value} {kV2 : Value}
    {f3 : Addr} {od3 an3 : Option Addr} {sl3 : Array (Option Value)} {oc3 dc3 pm3 cd3 ct3 : Value} {kV3 : Value}
    {f4 : Addr} {od4 an4 : Option Addr} {sl4 : Array (Option Value)} {oc4 dc4 pm4 cd4 ct4 : Value} {kV4 : Value}
    {f5 : Addr} {od5 an5 : Option Addr} {sl5 : Array (Option Value)} {oc5 dc5 pm5 cd5 ct5 : Value} {kV5 : Value}
    {f6 : Addr} {od6 an6 : Option Addr} {sl6 : Array (Option Value)} {oc6 dc6 pm6 cd6 ct6 : Value} {kV6 : Value}
    {f7 : Addr} {od7 an7 : Option Addr} {sl7 : Array (Option Value)} {oc7 dc7 pm7 cd7 ct7 : Value} {kV7 : Value}
    {f8 : Addr} {od8 an8 : Option Addr} {sl8 : Array (Option Value)} {oc8 dc8 pm8 cd8 ct8 : Value} {kV8 : Value}
    {f9 : Addr} {od9 an9 : Option Addr} {sl9 : Array (Option Value)} {oc9 dc9 pm9 cd9 ct9 : Value} {kV9 : Value}
    {f10 : Addr} {od10 an10 : Option Addr} {sl10 : Array (Option Value)} {oc10 dc10 pm10 cd10 ct10 : Value} {kV10 : Value}
    {f11 : Addr} {od11 an11 : Option Addr} {sl11 : Array (Option Value)} {oc11 dc11 pm11 cd11 ct11 : Value} {kV11 : Value}
    {f12 : Addr} {od12 an12 : Option Addr} {sl12 : Array (Option Value)} {oc12 dc12 pm12 cd12 ct12 : Value} {kV12 : Value}
    {f13 : Addr} {od13 an13 : Option Addr} {sl13 : Array (Option Value)} {oc13 dc13 pm13 cd13 ct13 : Value} {kV13 : Value}
    {f14 : Addr} {od14 an14 : Option Addr} {sl14 : Array (Option Value)} {oc14 dc14 pm14 cd14 ct14 : Value} {kV14 : Value}
    {f15 : Addr} {od15 an15 : Option Addr} {sl15 : Array (Option Value)} {oc15 dc15 pm15 cd15 ct15 : Value} {kV15 : Value}
    {f16 : Addr} {od16 an16 : Option Addr} {sl16 : Array (Option Value)} {oc16 dc16 pm16 cd16 ct16 : Value} {kV16 : Value}
    {f17 : Addr} {od17 an17 : Option Addr} {sl17 : Array (Option Value)} {oc17 dc17 pm17 cd17 ct17 : Value} {kV17 : Value}
    {f18 : Addr} {od18 an18 : Option Addr} {sl18 : Array (Option Value)} {oc18 dc18 pm18 cd18 ct18 : Value} {kV18 : Value}
    {f19 : Addr} {od19 an19 : Option Addr} {sl19 : Array (Option Value)} {oc19 dc19 pm19 cd19 ct19 : Value} {kV19 : Value}
    {f20 : Addr} {od20 an20 : Option Addr} {sl20 : Array (Option Value)} {oc20 dc20 pm20 cd20 ct20 : Value} {D20 : Addr}
    {kt20_0 : Tok}
    {kt20_1 : Tok}
    {f21 : Addr} {od21 an21 : Option Addr} {sl21 : Array (Option Value)} {oc21 dc21 pm21 cd21 ct21 : Value} {kV21 : Value}
    {f22 : Addr} {od22 an22 : Option Addr} {sl22 : Array (Option Value)} {oc22 dc22 pm22 cd22 ct22 : Value} {kV22 : Value}
    {f23 : Addr} {od23 an23 : Option Addr} {sl23 : Array (Option Value)} {oc23 dc23 pm23 cd23 ct23 : Value} {kV23 : Value}
    {f24 : Addr} {od24 an24 : Option Addr} {sl24 : Array (Option Value)} {oc24 dc24 pm24 cd24 ct24 : Value} {kV24 : Value}
    {f25 : Addr} {od25 an25 : Option Addr} {sl25 : Array (Option Value)} {oc25 dc25 pm25 cd25 ct25 : Value} {kV25 : Value}
    {nm2 q2 : Str} {NN2 : Addr} {bs2 : List Value} {sn2 : List Str} {sub2 : List Value} {ab2 : Bool} {col2 : Option Bool} {dd2 : Option Addr} {m02 m12 m22 m32 m52 : Option Value}
    {f26 : Addr} {od26 an26 : Option Addr} {sl26 : Array (Option Value)} {oc26 kV26 dc26 pm26 cd26 ct26 : Value}
    {nm4 q4 : Str} {NN4 : Addr} {bs4 : List Value} {sn4 : List Str} {sub4 : List Value} {ab4 : Bool} {col4 : Option Bool} {dd4 : Option Addr} {m04 m14 m24 m34 m54 : Option Value}
    {f27 : Addr} {od27 an27 : Option Addr} {sl27 : Array (Option Value)} {oc27 kV27 dc27 pm27 cd27 ct27 : Value}
    {tk0 : Tok}
    {tk1 : Tok}
    {tk2 : Tok}
    {tk3 : Tok}
    (gC0 : PySem.W.nsIn K mainGlobals "ReflowError" = some (some (.ref C0)))
    (gC2 : PySem.W.nsIn K mainGlobals "InvalidMarks" = some (some (.ref C2)))
    (gC4 : PySem.W.nsIn K mainGlobals "InvalidInteger" = some (some (.ref C4)))
    (gC6 : PySem.W.nsIn K mainGlobals "Stock" = some (some (.ref C6)))
    (a0 : PySem.W.nsIn K mainGlobals "is_integer" = some (some (.ref f0)))
    (l0 : K.lookup f0 = some ⟨oc0, od0, .func (PySem.W.fnOf "is_integer" "is_integer" (defArgs s_is_integer) (defBody s_is_integer) (defScope s_is_integer) .none kV0 dc0 pm0 an0 cd0 ct0), sl0⟩)
    (c0 : PySem.W.codeIn K cd0 "is_integer" = true)
    (k0 : PySem.W.keepIn K (.ref f0) = true)
    (a1 : PySem.W.nsIn K mainGlobals "is_mark" = some (some (.ref f1)))
    (l1 : K.lookup f1 = some ⟨oc1, od1, .func (PySem.W.fnOf "is_mark" "is_mark" (defArgs s_is_mark) (defBody s_is_mark) (defScope s_is_mark) .none kV1 dc1 pm1 an1 cd1 ct1), sl1⟩)
    (c1 : PySem.W.codeIn K cd1 "is_mark" = true)
    (k1 : PySem.W.keepIn K (.ref f1) = true)
    (a2 : PySem.W.nsIn K mainGlobals "all_marks" = some (some (.ref f2)))
    (l2 : K.lookup f2 = some ⟨oc2, od2, .func (PySem.W.fnOf "all_marks" "all_marks" (defArgs s_all_marks) (defBody s_all_marks) (defScope s_all_marks) .none kV2 dc2 pm2 an2 cd2 ct2), sl2⟩)
    (c2 : PySem.W.codeIn K cd2 "all_marks" = true)
    (k2 : PySem.W.keepIn K (.ref f2) = true)
    (a3 : PySem.W.nsIn K mainGlobals "are_stock_marks" = some (some (.ref f3)))
    (l3 : K.lookup f3 = some ⟨oc3, od3, .func (PySem.W.fnOf "are_stock_marks" "are_stock_marks" (defArgs s_are_stock_marks) (defBody s_are_stock_marks) (defScope s_are_stock_marks) .none kV3 dc3 pm3 an3 cd3 ct3), sl3⟩)
    (c3 : PySem.W.codeIn K cd3 "are_stock_marks" = true)
    (k3 : PySem.W.keepIn K (.ref f3) = true)
    (a4 : PySem.W.nsIn K mainGlobals "need_many" = some (some (.ref f4)))
    (l4 : K.lookup f4 = some ⟨oc4, od4, .func (PySem.W.fnOf "need_many" "need_many" (defArgs s_need_many) (defBody s_need_many) (defScope s_need_many) .none kV4 dc4 pm4 an4 cd4 ct4), sl4⟩)
    (c4 : PySem.W.codeIn K cd4 "need_many" = true)
    (k4 : PySem.W.keepIn K (.ref f4) = true)
    (a5 : PySem.W.nsIn K mainGlobals "text_of_letters" = some (some (.ref f5)))
    (l5 : K.lookup f5 = some ⟨oc5, od5, .func (PySem.W.fnOf "text_of_letters" "text_of_letters" (defArgs s_text_of_letters) (defBody s_text_of_letters) (defScope s_text_of_letters) .none kV5 dc5 pm5 an5 cd5 ct5), sl5⟩)
    (c5 : PySem.W.codeIn K cd5 "text_of_letters" = true)
    (k5 : PySem.W.keepIn K (.ref f5) = true)
    (a6 : PySem.W.nsIn K mainGlobals "_law_cell" = some (some (.ref f6)))
    (l6 : K.lookup f6 = some ⟨oc6, od6, .func (PySem.W.fnOf "_law_cell" "_law_cell" (defArgs s__law_cell) (defBody s__law_cell) (defScope s__law_cell) .none kV6 dc6 pm6 an6 cd6 ct6), sl6⟩)
    (c6 : PySem.W.codeIn K cd6 "_law_cell" = true)
    (k6 : PySem.W.keepIn K (.ref f6) = true)
    (a7 : PySem.W.nsIn K mainGlobals "_law_purse" = some (some (.ref f7)))
    (l7 : K.lookup f7 = some ⟨oc7, od7, .func (PySem.W.fnOf "_law_purse" "_law_purse" (defArgs s__law_purse) (defBody s__law_purse) (defScope s__law_purse) .none kV7 dc7 pm7 an7 cd7 ct7), sl7⟩)
    (c7 : PySem.W.codeIn K cd7 "_law_purse" = true)
    (k7 : PySem.W.keepIn K (.ref f7) = true)
    (a8 : PySem.W.nsIn K mainGlobals "_law_take" = some (some (.ref f8)))
    (l8 : K.lookup f8 = some ⟨oc8, od8, .func (PySem.W.fnOf "_law_take" "_law_take" (defArgs s__law_take) (defBody s__law_take) (defScope s__law_take) .none kV8 dc8 pm8 an8 cd8 ct8), sl8⟩)
    (c8 : PySem.W.codeIn K cd8 "_law_take" = true)
    (k8 : PySem.W.keepIn K (.ref f8) = true)
    (a9 : PySem.W.nsIn K mainGlobals "_law_all_marks" = some (some (.ref f9)))
    (l9 : K.lookup f9 = some ⟨oc9, od9, .func (PySem.W.fnOf "_law_all_marks" "_law_all_marks" (defArgs s__law_all_marks) (defBody s__law_all_marks) (defScope s__law_all_marks) .none kV9 dc9 pm9 an9 cd9 ct9), sl9⟩)
    (c9 : PySem.W.codeIn K cd9 "_law_all_marks" = true)
    (k9 : PySem.W.keepIn K (.ref f9) = true)
    (a10 : PySem.W.nsIn K mainGlobals "_law_mark" = some (some (.ref f10)))
    (l10 : K.lookup f10 = some ⟨oc10, od10, .func (PySem.W.fnOf "_law_mark" "_law_mark" (defArgs s__law_mark) (defBody s__law_mark) (defScope s__law_mark) .none kV10 dc10 pm10 an10 cd10 ct10), sl10⟩)
    (c10 : PySem.W.codeIn K cd10 "_law_mark" = true)
    (k10 : PySem.W.keepIn K (.ref f10) = true)
    (a11 : PySem.W.nsIn K mainGlobals "_law_marks" = some (some (.ref f11)))
    (l11 : K.lookup f11 = some ⟨oc11, od11, .func (PySem.W.fnOf "_law_marks" "_law_marks" (defArgs s__law_marks) (defBody s__law_marks) (defScope s__law_marks) .none kV11 dc11 pm11 an11 cd11 ct11), sl11⟩)
    (c11 : PySem.W.codeIn K cd11 "_law_marks" = true)
    (k11 : PySem.W.keepIn K (.ref f11) = true)
    (a12 : PySem.W.nsIn K mainGlobals "_law_sorted" = some (some (.ref f12)))
    (l12 : K.lookup f12 = some ⟨oc12, od12, .func (PySem.W.fnOf "_law_sorted" "_law_sorted" (defArgs s__law_sorted) (defBody s__law_sorted) (defScope s__law_sorted) .none kV12 dc12 pm12 an12 cd12 ct12), sl12⟩)
    (c12 : PySem.W.codeIn K cd12 "_law_sorted" = true)
    (k12 : PySem.W.keepIn K (.ref f12) = true)
    (a13 : PySem.W.nsIn K mainGlobals "_law_letters" = some (some (.ref f13)))
    (l13 : K.lookup f13 = some ⟨oc13, od13, .func (PySem.W.fnOf "_law_letters" "_law_letters" (defArgs s__law_letters) (defBody s__law_letters) (defScope s__law_letters) .none kV13 dc13 pm13 an13 cd13 ct13), sl13⟩)
    (c13 : PySem.W.codeIn K cd13 "_law_letters" = true)
    (k13 : PySem.W.keepIn K (.ref f13) = true)
    (a14 : PySem.W.nsIn K mainGlobals "_law_power" = some (some (.ref f14)))
    (l14 : K.lookup f14 = some ⟨oc14, od14, .func (PySem.W.fnOf "_law_power" "_law_power" (defArgs s__law_power) (defBody s__law_power) (defScope s__law_power) .none kV14 dc14 pm14 an14 cd14 ct14), sl14⟩)
    (c14 : PySem.W.codeIn K cd14 "_law_power" = true)
    (k14 : PySem.W.keepIn K (.ref f14) = true)
    (a15 : PySem.W.nsIn K mainGlobals "_law_rows" = some (some (.ref f15)))
    (l15 : K.lookup f15 = some ⟨oc15, od15, .func (PySem.W.fnOf "_law_rows" "_law_rows" (defArgs s__law_rows) (defBody s__law_rows) (defScope s__law_rows) .none kV15 dc15 pm15 an15 cd15 ct15), sl15⟩)
    (c15 : PySem.W.codeIn K cd15 "_law_rows" = true)
    (k15 : PySem.W.keepIn K (.ref f15) = true)
    (a16 : PySem.W.nsIn K mainGlobals "_law_begun" = some (some (.ref f16)))
    (l16 : K.lookup f16 = some ⟨oc16, od16, .func (PySem.W.fnOf "_law_begun" "_law_begun" (defArgs s__law_begun) (defBody s__law_begun) (defScope s__law_begun) .none kV16 dc16 pm16 an16 cd16 ct16), sl16⟩)
    (c16 : PySem.W.codeIn K cd16 "_law_begun" = true)
    (k16 : PySem.W.keepIn K (.ref f16) = true)
    (a17 : PySem.W.nsIn K mainGlobals "_law_nested_right" = some (some (.ref f17)))
    (l17 : K.lookup f17 = some ⟨oc17, od17, .func (PySem.W.fnOf "_law_nested_right" "_law_nested_right" (defArgs s__law_nested_right) (defBody s__law_nested_right) (defScope s__law_nested_right) .none kV17 dc17 pm17 an17 cd17 ct17), sl17⟩)
    (c17 : PySem.W.codeIn K cd17 "_law_nested_right" = true)
    (k17 : PySem.W.keepIn K (.ref f17) = true)
    (a18 : PySem.W.nsIn K mainGlobals "_law_right" = some (some (.ref f18)))
    (l18 : K.lookup f18 = some ⟨oc18, od18, .func (PySem.W.fnOf "_law_right" "_law_right" (defArgs s__law_right) (defBody s__law_right) (defScope s__law_right) .none kV18 dc18 pm18 an18 cd18 ct18), sl18⟩)
    (c18 : PySem.W.codeIn K cd18 "_law_right" = true)
    (k18 : PySem.W.keepIn K (.ref f18) = true)
    (a19 : PySem.W.nsIn K mainGlobals "law" = some (some (.ref f19)))
    (l19 : K.lookup f19 = some ⟨oc19, od19, .func (PySem.W.fnOf "law" "law" (defArgs s_law) (defBody s_law) (defScope s_law) .none kV19 dc19 pm19 an19 cd19 ct19), sl19⟩)
    (c19 : PySem.W.codeIn K cd19 "law" = true)
    (k19 : PySem.W.keepIn K (.ref f19) = true)
    (a20 : PySem.W.findIn K (.ref C6) "__init__" = some (some (.ref f20)))
    (l20 : K.lookup f20 = some ⟨oc20, od20, .func (PySem.W.fnOf "__init__" "Stock.__init__" (defArgs s_Stock___init__) (defBody s_Stock___init__) (defScope s_Stock___init__) .none (.ref D20) dc20 pm20 an20 cd20 ct20), sl20⟩)
    (c20 : PySem.W.codeIn K cd20 "Stock.__init__" = true)
    (k20 : PySem.W.keepIn K (.ref f20) = true)
    (y20 : PySem.W.isFn K (.ref f20) = true)
    (d20_0 : PySem.W.nsIn K D20 "shortest" = some (some (.int 1 kt20_0)))
    (d20_1 : PySem.W.nsIn K D20 "longest" = some (some (.int 4 kt20_1)))
    (a21 : PySem.W.findIn K (.ref C6) "letters" = some (some (.ref f21)))
    (l21 : K.lookup f21 = some ⟨oc21, od21, .func (PySem.W.fnOf "letters" "Stock.letters" (defArgs s_Stock_letters) (defBody s_Stock_letters) (defScope s_Stock_letters) .none kV21 dc21 pm21 an21 cd21 ct21), sl21⟩)
    (c21 : PySem.W.codeIn K cd21 "Stock.letters" = true)
    (k21 : PySem.W.keepIn K (.ref f21) = true)
    (y21 : PySem.W.isFn K (.ref f21) = true)
    (a22 : PySem.W.findIn K (.ref C6) "first_letters" = some (some (.ref f22)))
    (l22 : K.lookup f22 = some ⟨oc22, od22, .func (PySem.W.fnOf "first_letters" "Stock.first_letters" (defArgs s_Stock_first_letters) (defBody s_Stock_first_letters) (defScope s_Stock_first_letters) .none kV22 dc22 pm22 an22 cd22 ct22), sl22⟩)
    (c22 : PySem.W.codeIn K cd22 "Stock.first_letters" = true)
    (k22 : PySem.W.keepIn K (.ref f22) = true)
    (y22 : PySem.W.isFn K (.ref f22) = true)
    (a23 : PySem.W.findIn K (.ref C6) "amount" = some (some (.ref f23)))
    (l23 : K.lookup f23 = some ⟨oc23, od23, .func (PySem.W.fnOf "amount" "Stock.amount" (defArgs s_Stock_amount) (defBody s_Stock_amount) (defScope s_Stock_amount) .none kV23 dc23 pm23 an23 cd23 ct23), sl23⟩)
    (c23 : PySem.W.codeIn K cd23 "Stock.amount" = true)
    (k23 : PySem.W.keepIn K (.ref f23) = true)
    (y23 : PySem.W.isFn K (.ref f23) = true)
    (a24 : PySem.W.findIn K (.ref C6) "texts" = some (some (.ref f24)))
    (l24 : K.lookup f24 = some ⟨oc24, od24, .func (PySem.W.fnOf "texts" "Stock.texts" (defArgs s_Stock_texts) (defBody s_Stock_texts) (defScope s_Stock_texts) .none kV24 dc24 pm24 an24 cd24 ct24), sl24⟩)
    (c24 : PySem.W.codeIn K cd24 "Stock.texts" = true)
    (k24 : PySem.W.keepIn K (.ref f24) = true)
    (y24 : PySem.W.isFn K (.ref f24) = true)
    (a25 : PySem.W.findIn K (.ref C6) "text_at" = some (some (.ref f25)))
    (l25 : K.lookup f25 = some ⟨oc25, od25, .func (PySem.W.fnOf "text_at" "Stock.text_at" (defArgs s_Stock_text_at) (defBody s_Stock_text_at) (defScope s_Stock_text_at) .none kV25 dc25 pm25 an25 cd25 ct25), sl25⟩)
    (c25 : PySem.W.codeIn K cd25 "Stock.text_at" = true)
    (k25 : PySem.W.keepIn K (.ref f25) = true)
    (y25 : PySem.W.isFn K (.ref f25) = true)
    (op6 : PySem.W.plainGet K C6 Str.empty = true)
    (oh6 : PySem.W.hasDictIn K C6 = true)
    (oo6 : PySem.W.plainOver K C6 = true)
    (os6 : PySem.W.findIn K (.ref C6) "__setattr__" = some (some (.builtin "object.__setattr__")))
    (nf0 : PySem.W.findIn K (.ref C6) "least" = some none)
    (nf1 : PySem.W.findIn K (.ref C6) "most" = some none)
    (nf2 : PySem.W.findIn K (.ref C6) "own_letters" = some none)
    (nf3 : PySem.W.findIn K (.ref C6) "own_marks" = some none)
    (mt0 : PySem.W.findIn K (.ref C6) "amount" = some (some (.ref f23)))
    (mt1 : PySem.W.findIn K (.ref C6) "first_letters" = some (some (.ref f22)))
    (mt2 : PySem.W.findIn K (.ref C6) "letters" = some (some (.ref f21)))
    (mt3 : PySem.W.findIn K (.ref C6) "text_at" = some (some (.ref f25)))
    (mt4 : PySem.W.findIn K (.ref C6) "texts" = some (some (.ref f24)))
    (mm0 : PySem.W.makesIn K C6 = true)
    (mi0 : PySem.W.findIn K (.ref C6) "__init__" = some (some (.ref f20)))
    (mp0 : PySem.W.keepIn K (.ref C6) = true)
    (bg0 : PySem.W.specialIn K (.ref C0) "__getattribute__" = some (some (.builtin "type.__getattribute__")))
    (br0 : PySem.W.readsIn K C0 (.type "type") = true)
    (bf0 : PySem.W.findCls K (.ref C0) (.type "type") "__init__" = some (.val (.builtin "ValueError.__init__")))
    (xL2 : K.lookup C2 = some (excClassObj nm2 q2 C2 NN2 bs2 [.ref C0, .type "ValueError", .type "Exception", .type "BaseException", .type "object"] true sn2 sub2 ab2 col2 dd2 m02 m12 m22 m32 m52 "ValueError.__new__"))
    (sa2 : PySem.W.findIn K (.ref C2) "__setattr__" = some (some (.builtin "object.__setattr__")))
    (ga2 : PySem.W.findIn K (.ref C2) "__getattribute__" = some (some (.builtin "BaseException.__getattribute__")))
    (gg2 : PySem.W.findIn K (.ref C2) "__getattr__" = some none)
    (nb2 : PySem.W.findIn K (.ref C2) "value" = some none)
    (ai2 : PySem.W.findIn K (.ref C2) "__init__" = some (some (.ref f26)))
    (ti2 : PySem.W.typeIn K (.ref f26) = some (.type "function"))
    (l26 : K.lookup f26 = some ⟨oc26, od26, .func (PySem.W.fnOf "__init__" "InvalidMarks.__init__" (defArgs sI_InvalidMarks) (defBody sI_InvalidMarks) (defScope sI_InvalidMarks) .none kV26 dc26 pm26 an26 cd26 ct26), sl26⟩)
    (c26 : PySem.W.codeIn K cd26 "InvalidMarks.__init__" = true)
    (k26 : PySem.W.keepIn K (.ref f26) = true)
    (kC2 : PySem.W.keepIn K (.ref C2) = true)
    (eC2 : PySem.W.subIn K (.ref C2) (.type "BaseException") = some true)
    (tC2 : PySem.W.typeIn K (.ref C2) = some (.type "type"))
    (hC2 : PySem.W.hasDictIn K C2 = true)
    (iC2 : PySem.W.isClsIn K C2 = true)
    (xL4 : K.lookup C4 = some (excClassObj nm4 q4 C4 NN4 bs4 [.ref C0, .type "ValueError", .type "Exception", .type "BaseException", .type "object"] true sn4 sub4 ab4 col4 dd4 m04 m14 m24 m34 m54 "ValueError.__new__"))
    (sa4 : PySem.W.findIn K (.ref C4) "__setattr__" = some (some (.builtin "object.__setattr__")))
    (ga4 : PySem.W.findIn K (.ref C4) "__getattribute__" = some (some (.builtin "BaseException.__getattribute__")))
    (gg4 : PySem.W.findIn K (.ref C4) "__getattr__" = some none)
    (nb4 : PySem.W.findIn K (.ref C4) "value" = some none)
    (ai4 : PySem.W.findIn K (.ref C4) "__init__" = some (some (.ref f27)))
    (ti4 : PySem.W.typeIn K (.ref f27) = some (.type "function"))
    (l27 : K.lookup f27 = some ⟨oc27, od27, .func (PySem.W.fnOf "__init__" "InvalidInteger.__init__" (defArgs sI_InvalidInteger) (defBody sI_InvalidInteger) (defScope sI_InvalidInteger) .none kV27 dc27 pm27 an27 cd27 ct27), sl27⟩)
    (c27 : PySem.W.codeIn K cd27 "InvalidInteger.__init__" = true)
    (k27 : PySem.W.keepIn K (.ref f27) = true)
    (kC4 : PySem.W.keepIn K (.ref C4) = true)
    (eC4 : PySem.W.subIn K (.ref C4) (.type "BaseException") = some true)
    (tC4 : PySem.W.typeIn K (.ref C4) = some (.type "type"))
    (hC4 : PySem.W.hasDictIn K C4 = true)
    (iC4 : PySem.W.isClsIn K C4 = true)
    (ns4 : PySem.W.subIn K (.ref C4) (.type "StopIteration") = some false)
    (z0 : PySem.W.nsIn K mainGlobals "all" = some none)
    (z1 : PySem.W.nsIn K mainGlobals "any" = some none)
    (z2 : PySem.W.nsIn K mainGlobals "bool" = some none)
    (z3 : PySem.W.nsIn K mainGlobals "int" = some none)
    (z4 : PySem.W.nsIn K mainGlobals "isinstance" = some none)
    (z5 : PySem.W.nsIn K mainGlobals "len" = some none)
    (z6 : PySem.W.nsIn K mainGlobals "list" = some none)
    (z7 : PySem.W.nsIn K mainGlobals "max" = some none)
    (z8 : PySem.W.nsIn K mainGlobals "min" = some none)
    (z9 : PySem.W.nsIn K mainGlobals "range" = some none)
    (z10 : PySem.W.nsIn K mainGlobals "str" = some none)
    (z11 : PySem.W.nsIn K mainGlobals "tuple" = some none)
    (q_0 : PySem.W.nsIn K mainGlobals "KINDS" = some (some (.str "#|/" tk0)))
    (q_1 : PySem.W.nsIn K mainGlobals "MOST_INDENT" = some (some (.int (3) tk1)))
    (q_2 : PySem.W.nsIn K mainGlobals "MOST_LETTERS" = some (some (.int (30) tk2)))
    (q_3 : PySem.W.nsIn K mainGlobals "MOST_TOKENS" = some (some (.int (300) tk3)))
    : ∃ (ca : Nat → Addr) (fd : FuncData), (∀ (s : Shared) (v : Value), BindsTo s fd ⟨[v], []⟩ [("_law_script", v)]) ∧ ∀ base : Heap, K.In base → base.Ns mainGlobals mg → U.FnG l.prog w K mg base CX0 10 fa fd ["_law_script"] (sp_law K ca) := by
  have e := hfa.symm.trans (PySem.W.mg_of X G a19)
  cases e
  have F0 := fun_mk (st := s_is_integer) l0 c0 k0
  have b0 := F0.binds (ps := P_is_integer) fun _ _ _ _ _ _ us hl => match us, hl with | [_, _, _], _ => rfl
  have F1 := fun_mk (st := s_is_mark) l1 c1 k1
  have b1 := F1.binds (ps := P_is_mark) fun _ _ _ _ _ _ us hl => match us, hl with | [_], _ => rfl
  have F2 := fun_mk (st := s_all_marks) l2 c2 k2
  have b2 := F2.binds (ps := P_all_marks) fun _ _ _ _ _ _ us hl => match us, hl with | [], _ => rfl
  have F3 := fun_mk (st := s_are_stock_marks) l3 c3 k3
  have b3 := F3.binds (ps := P_are_stock_marks) fun _ _ _ _ _ _ us hl => match us, hl with | [_], _ => rfl
  have F4 := fun_mk (st := s_need_many) l4 c4 k4
  have b4 := F4.binds (ps := P_need_many) fun _ _ _ _ _ _ us hl => match us, hl with | [_], _ => rfl
  have F5 := fun_mk (st := s_text_of_letters) l5 c5 k5
  have b5 := F5.binds (ps := P_text_of_letters) fun _ _ _ _ _ _ us hl => match us, hl with | [_], _ => rfl
  have F6 := fun_mk (st := s__law_cell) l6 c6 k6
  have b6 := F6.binds (ps := P__law_cell) fun _ _ _ _ _ _ us hl => match us, hl with | [_, _], _ => rfl
  have F7 := fun_mk (st := s__law_purse) l7 c7 k7
  have b7 := F7.binds (ps := P__law_purse) fun _ _ _ _ _ _ us hl => match us, hl with | [_], _ => rfl
  have F8 := fun_mk (st := s__law_take) l8 c8 k8
  have b8 := F8.binds (ps := P__law_take) fun _ _ _ _ _ _ us hl => match us, hl with | [_, _], _ => rfl
  have F9 := fun_mk (st := s__law_all_marks) l9 c9 k9
  have b9 := F9.binds (ps := P__law_all_marks) fun _ _ _ _ _ _ us hl => match us, hl with | [], _ => rfl
  have F10 := fun_mk (st := s__law_mark) l10 c10 k10
  have b10 := F10.binds (ps := P__law_mark) fun _ _ _ _ _ _ us hl => match us, hl with | [_], _ => rfl
  have F11 := fun_mk (st := s__law_marks) l11 c11 k11
  have b11 := F11.binds (ps := P__law_marks) fun _ _ _ _ _ _ us hl => match us, hl with | [_, _], _ => rfl
  have F12 := fun_mk (st := s__law_sorted) l12 c12 k12
  have b12 := F12.binds (ps := P__law_sorted) fun _ _ _ _ _ _ us hl => match us, hl with | [_], _ => rfl
  have F13 := fun_mk (st := s__law_letters) l13 c13 k13
  have b13 := F13.binds (ps := P__law_letters) fun _ _ _ _ _ _ us hl => match us, hl with | [_, _, _], _ => rfl
  have F14 := fun_mk (st := s__law_power) l14 c14 k14
  have b14 := F14.binds (ps := P__law_power) fun _ _ _ _ _ _ us hl => match us, hl with | [_, _], _ => rfl
  have F15 := fun_mk (st := s__law_rows) l15 c15 k15
  have b15 := F15.binds (ps := P__law_rows) fun _ _ _ _ _ _ us hl => match us, hl with | [_, _, _, _], _ => rfl
  have F16 := fun_mk (st := s__law_begun) l16 c16 k16
  have b16 := F16.binds (ps := P__law_begun) fun _ _ _ _ _ _ us hl => match us, hl with | [_, _, _], _ => rfl
  have F17 := fun_mk (st := s__law_nested_right) l17 c17 k17
  have b17 := F17.binds (ps := P__law_nested_right) fun _ _ _ _ _ _ us hl => match us, hl with | [_, _, _], _ => rfl
  have F18 := fun_mk (st := s__law_right) l18 c18 k18
  have b18 := F18.binds (ps := P__law_right) fun _ _ _ _ _ _ us hl => match us, hl with | [_], _ => rfl
  have F19 := fun_mk (st := s_law) l19 c19 k19
  have b19 := F19.binds (ps := P_law) fun _ _ _ _ _ _ us hl => match us, hl with | [_], _ => rfl
  have F20 : FunD K "__init__" "Stock.__init__" (defArgs s_Stock___init__) (defBody s_Stock___init__) (defScope s_Stock___init__) [] [("shortest", .int 1), ("longest", .int 4)] f20 (PySem.W.fnOf "__init__" "Stock.__init__" (defArgs s_Stock___init__) (defBody s_Stock___init__) (defScope s_Stock___init__) .none (.ref D20) dc20 pm20 an20 cd20 ct20) := ⟨⟨oc20, od20, .none, .ref D20, dc20, pm20, an20, cd20, ct20, sl20, rfl, l20, c20, .inl ⟨rfl, rfl⟩, .inr ⟨D20, rfl, List.forall_mem_cons.mpr ⟨⟨_, d20_0, ⟨_, rfl⟩⟩, List.forall_mem_cons.mpr ⟨⟨_, d20_1, ⟨_, rfl⟩⟩, fun _ hh => nomatch hh⟩⟩⟩⟩, k20⟩
  have b20 := F20.binds0 (ps := P_Stock___init__) 2 (by decide) rfl fun _ _ _ _ _ _ us ks h1 h2 => match us, ks, h1, h2 with | [_, _], [_, _], _, _ => ⟨_, _, _, _, _, _, rfl, rfl, _, _, _, _, _, _, rfl, rfl, rfl⟩
  have kb20_shortest_longest := F20.kbinds0 (ps := P_Stock___init__) 2 ["shortest", "longest"] [] (fun {α} => g_Stock___init___shortest_longest (α := α)) (by decide) (by decide) (fun r1 r2 r3 => by unfold g_Stock___init___shortest_longest; repeat (first | exact r1 | apply Vals.append | apply Vals.take | apply Vals.drop | exact r2 | exact r3)) fun _ _ _ _ _ _ us mv ws h1 h2 h3 => match us, mv, ws, h1, h2, h3 with | [_, _], [], [_, _], _, _, _ => rfl
  have F21 := fun_mk (st := s_Stock_letters) l21 c21 k21
  have b21 := F21.binds (ps := P_Stock_letters) fun _ _ _ _ _ _ us hl => match us, hl with | [_], _ => rfl
  have F22 := fun_mk (st := s_Stock_first_letters) l22 c22 k22
  have b22 := F22.binds (ps := P_Stock_first_letters) fun _ _ _ _ _ _ us hl => match us, hl with | [_], _ => rfl
  have F23 := fun_mk (st := s_Stock_amount) l23 c23 k23
  have b23 := F23.binds (ps := P_Stock_amount) fun _ _ _ _ _ _ us hl => match us, hl with | [_, _], _ => rfl
  have F24 := fun_mk (st := s_Stock_texts) l24 c24 k24
  have b24 := F24.binds (ps := P_Stock_texts) fun _ _ _ _ _ _ us hl => match us, hl with | [_, _], _ => rfl
  have F25 := fun_mk (st := s_Stock_text_at) l25 c25 k25
  have b25 := F25.binds (ps := P_Stock_text_at) fun _ _ _ _ _ _ us hl => match us, hl with | [_, _, _], _ => rfl
  have F26 := fun_mk (st := sI_InvalidMarks) l26 c26 k26
  have b26 := F26.binds (ps := ["self", "value"]) fun _ _ _ _ _ _ us hl => match us, hl with | [_, _], _ => rfl
  have F27 := fun_mk (st := sI_InvalidInteger) l27 c27 k27
  have b27 := F27.binds (ps := ["self", "value"]) fun _ _ _ _ _ _ us hl => match us, hl with | [_, _], _ => rfl
  have T : Tx l.prog K mg (fun i => ([f0, f1, f2, f3, f4, f5, f6, f7, f8, f9, f10, f11, f12, f13, f14, f15, f16, f17, f18, fa, f20, f21, f22, f23, f24, f25, f26, f27] : List Addr).getD i 0) (fun i => ([PySem.W.fnOf "is_integer" "is_integer" (defArgs s_is_integer) (defBody s_is_integer) (defScope s_is_integer) .none kV0 dc0 pm0 an0 cd0 ct0, PySem.W.fnOf "is_mark" "is_mark" (defArgs s_is_mark) (defBody s_is_mark) (defScope s_is_mark) .none kV1 dc1 pm1 an1 cd1 ct1, PySem.W.fnOf "all_marks" "all_marks" (defArgs s_all_marks) (defBody s_all_marks) (defScope s_all_marks) .none kV2 dc2 pm2 an2 cd2 ct2, PySem.W.fnOf "are_stock_marks" "are_stock_marks" (defArgs s_are_stock_marks) (defBody s_are_stock_marks) (defScope s_are_stock_marks) .none kV3 dc3 pm3 an3 cd3 ct3, PySem.W.fnOf "need_many" "need_many" (defArgs s_need_many) (defBody s_need_many) (defScope s_need_many) .none kV4 dc4 pm4 an4 cd4 ct4, PySem.W.fnOf "text_of_letters" "text_of_letters" (defArgs s_text_of_letters) (defBody s_text_of_letters) (defScope s_text_of_letters) .none kV5 dc5 pm5 an5 cd5 ct5, PySem.W.fnOf "_law_cell" "_law_cell" (defArgs s__law_cell) (defBody s__law_cell) (defScope s__law_cell) .none kV6 dc6 pm6 an6 cd6 ct6, PySem.W.fnOf "_law_purse" "_law_purse" (defArgs s__law_purse) (defBody s__law_purse) (defScope s__law_purse) .none kV7 dc7 pm7 an7 cd7 ct7, PySem.W.fnOf "_law_take" "_law_take" (defArgs s__law_take) (defBody s__law_take) (defScope s__law_take) .none kV8 dc8 pm8 an8 cd8 ct8, PySem.W.fnOf "_law_all_marks" "_law_all_marks" (defArgs s__law_all_marks) (defBody s__law_all_marks) (defScope s__law_all_marks) .none kV9 dc9 pm9 an9 cd9 ct9, PySem.W.fnOf "_law_mark" "_law_mark" (defArgs s__law_mark) (defBody s__law_mark) (defScope s__law_mark) .none kV10 dc10 pm10 an10 cd10 ct10, PySem.W.fnOf "_law_marks" "_law_marks" (defArgs s__law_marks) (defBody s__law_marks) (defScope s__law_marks) .none kV11 dc11 pm11 an11 cd11 ct11, PySem.W.fnOf "_law_sorted" "_law_sorted" (defArgs s__law_sorted) (defBody s__law_sorted) (defScope s__law_sorted) .none kV12 dc12 pm12 an12 cd12 ct12, PySem.W.fnOf "_law_letters" "_law_letters" (defArgs s__law_letters) (defBody s__law_letters) (defScope s__law_letters) .none kV13 dc13 pm13 an13 cd13 ct13, PySem.W.fnOf "_law_power" "_law_power" (defArgs s__law_power) (defBody s__law_power) (defScope s__law_power) .none kV14 dc14 pm14 an14 cd14 ct14, PySem.W.fnOf "_law_rows" "_law_rows" (defArgs s__law_rows) (defBody s__law_rows) (defScope s__law_rows) .none kV15 dc15 pm15 an15 cd15 ct15, PySem.W.fnOf "_law_begun" "_law_begun" (defArgs s__law_begun) (defBody s__law_begun) (defScope s__law_begun) .none kV16 dc16 pm16 an16 cd16 ct16, PySem.W.fnOf "_law_nested_right" "_law_nested_right" (defArgs s__law_nested_right) (defBody s__law_nested_right) (defScope s__law_nested_right) .none kV17 dc17 pm17 an17 cd17 ct17, PySem.W.fnOf "_law_right" "_law_right" (defArgs s__law_right) (defBody s__law_right) (defScope s__law_right) .none kV18 dc18 pm18 an18 cd18 ct18, PySem.W.fnOf "law" "law" (defArgs s_law) (defBody s_law) (defScope s_law) .none kV19 dc19 pm19 an19 cd19 ct19, PySem.W.fnOf "__init__" "Stock.__init__" (defArgs s_Stock___init__) (defBody s_Stock___init__) (defScope s_Stock___init__) .none (.ref D20) dc20 pm20 an20 cd20 ct20, PySem.W.fnOf "letters" "Stock.letters" (defArgs s_Stock_letters) (defBody s_Stock_letters) (defScope s_Stock_letters) .none kV21 dc21 pm21 an21 cd21 ct21, PySem.W.fnOf "first_letters" "Stock.first_letters" (defArgs s_Stock_first_letters) (defBody s_Stock_first_letters) (defScope s_Stock_first_letters) .none kV22 dc22 pm22 an22 cd22 ct22, PySem.W.fnOf "amount" "Stock.amount" (defArgs s_Stock_amount) (defBody s_Stock_amount) (defScope s_Stock_amount) .none kV23 dc23 pm23 an23 cd23 ct23, PySem.W.fnOf "texts" "Stock.texts" (defArgs s_Stock_texts) (defBody s_Stock_texts) (defScope s_Stock_texts) .none kV24 dc24 pm24 an24 cd24 ct24, PySem.W.fnOf "text_at" "Stock.text_at" (defArgs s_Stock_text_at) (defBody s_Stock_text_at) (defScope s_Stock_text_at) .none kV25 dc25 pm25 an25 cd25 ct25, PySem.W.fnOf "__init__" "InvalidMarks.__init__" (defArgs sI_InvalidMarks) (defBody sI_InvalidMarks) (defScope sI_InvalidMarks) .none kV26 dc26 pm26 an26 cd26 ct26, PySem.W.fnOf "__init__" "InvalidInteger.__init__" (defArgs sI_InvalidInteger) (defBody sI_InvalidInteger) (defScope sI_InvalidInteger) .none kV27 dc27 pm27 an27 cd27 ct27] : List FuncData).getD i (PySem.W.fnOf "law" "law" (defArgs s_law) (defBody s_law) (defScope s_law) .none kV19 dc19 pm19 an19 cd19 ct19)) (fun i => ([C0, 0, C2, 0, C4, 0, C6] : List Addr).getD i 0) := {
    ct := { yes := trivial, x_InvalidMarks := ⟨ga2, gg2, eC2, hC2⟩, n_InvalidMarks := nb2, x_InvalidInteger := ⟨ga4, gg4, eC4, hC4⟩, n_InvalidInteger := nb4, cl_Stock := ⟨op6, oh6, oo6, os6⟩, na_Stock_least := nf0, na_Stock_most := nf1, na_Stock_own_letters := nf2, na_Stock_own_marks := nf3, ns_InvalidInteger := ns4 },
    f_is_integer := F0, b_is_integer := b0, m_is_integer := PySem.W.mg_of X G a0,
    f_is_mark := F1, b_is_mark := b1, m_is_mark := PySem.W.mg_of X G a1,
    f_all_marks := F2, b_all_marks := b2, m_all_marks := PySem.W.mg_of X G a2,
    f_are_stock_marks := F3, b_are_stock_marks := b3, m_are_stock_marks := PySem.W.mg_of X G a3,
    f_need_many := F4, b_need_many := b4, m_need_many := PySem.W.mg_of X G a4,
    f_text_of_letters := F5, b_text_of_letters := b5, m_text_of_letters := PySem.W.mg_of X G a5,
    f__law_cell := F6, b__law_cell := b6, m__law_cell := PySem.W.mg_of X G a6,
    f__law_purse := F7, b__law_purse := b7, m__law_purse := PySem.W.mg_of X G a7,
    f__law_take := F8, b__law_take := b8, m__law_take := PySem.W.mg_of X G a8,
    f__law_all_marks := F9, b__law_all_marks := b9, m__law_all_marks := PySem.W.mg_of X G a9,
    f__law_mark := F10, b__law_mark := b10, m__law_mark := PySem.W.mg_of X G a10,
    f__law_marks := F11, b__law_marks := b11, m__law_marks := PySem.W.mg_of X G a11,
    f__law_sorted := F12, b__law_sorted := b12, m__law_sorted := PySem.W.mg_of X G a12,
    f__law_letters := F13, b__law_letters := b13, m__law_letters := PySem.W.mg_of X G a13,
    f__law_power := F14, b__law_power := b14, m__law_power := PySem.W.mg_of X G a14,
    f__law_rows := F15, b__law_rows := b15, m__law_rows := PySem.W.mg_of X G a15,
    f__law_begun := F16, b__law_begun := b16, m__law_begun := PySem.W.mg_of X G a16,
    f__law_nested_right := F17, b__law_nested_right := b17, m__law_nested_right := PySem.W.mg_of X G a17,
    f__law_right := F18, b__law_right := b18, m__law_right := PySem.W.mg_of X G a18,
    f_law := F19, b_law := b19, m_law := PySem.W.mg_of X G a19,
    f_Stock___init__ := F20, b_Stock___init__ := b20,
    k_Stock___init___shortest_longest := kb20_shortest_longest.elim fun _ h => ⟨_, h⟩,
    f_Stock_letters := F21, b_Stock_letters := b21,
    f_Stock_first_letters := F22, b_Stock_first_letters := b22,
    f_Stock_amount := F23, b_Stock_amount := b23,
    f_Stock_texts := F24, b_Stock_texts := b24,
    f_Stock_text_at := F25, b_Stock_text_at := b25,
    me_Stock_amount := ⟨mt0, y23, k23⟩,
    me_Stock_first_letters := ⟨mt1, y22, k22⟩,
    me_Stock_letters := ⟨mt2, y21, k21⟩,
    me_Stock_text_at := ⟨mt3, y25, k25⟩,
    me_Stock_texts := ⟨mt4, y24, k24⟩,
    mk_Stock := ⟨mm0, mi0, y20, mp0⟩,
    m_Stock := PySem.W.mg_of X G gC6,
    x_InvalidMarks := ⟨PySem.W.mg_of X G gC2, ⟨⟨_, _, _, _, _, _, _, _, _, _, _, _, _, _, _, xL2, rfl⟩, sa2, eC2, tC2, kC2⟩, ai2, ti2, nb2, ⟨ga2, gg2, eC2, hC2⟩, iC2⟩,
    F_InvalidMarks := F26, i_InvalidMarks := b26, m_InvalidMarks := PySem.W.mg_of X G gC2,
    x_InvalidInteger := ⟨PySem.W.mg_of X G gC4, ⟨⟨_, _, _, _, _, _, _, _, _, _, _, _, _, _, _, xL4, rfl⟩, sa4, eC4, tC4, kC4⟩, ai4, ti4, nb4, ⟨ga4, gg4, eC4, hC4⟩, iC4⟩,
    F_InvalidInteger := F27, i_InvalidInteger := b27, m_InvalidInteger := PySem.W.mg_of X G gC4,
    y_ReflowError := ⟨bg0, _, br0, bf0⟩, w_ReflowError := PySem.W.mg_of X G gC0,
    z_all := PySem.W.mg_none_of X G z0,
    z_any := PySem.W.mg_none_of X G z1,
    z_bool := PySem.W.mg_none_of X G z2,
    z_int := PySem.W.mg_none_of X G z3,
    z_isinstance := PySem.W.mg_none_of X G z4,
    z_len := PySem.W.mg_none_of X G z5,
    z_list := PySem.W.mg_none_of X G z6,
    z_max := PySem.W.mg_none_of X G z7,
    z_min := PySem.W.mg_none_of X G z8,
    z_range := PySem.W.mg_none_of X G z9,
    z_str := PySem.W.mg_none_of X G z10,
    z_tuple := PySem.W.mg_none_of X G z11,
    c_KINDS := ⟨_, PySem.W.mg_of X G q_0⟩,
    c_MOST_INDENT := ⟨_, PySem.W.mg_of X G q_1⟩,
    c_MOST_LETTERS := ⟨_, PySem.W.mg_of X G q_2⟩,
    c_MOST_TOKENS := ⟨_, PySem.W.mg_of X G q_3⟩ }
  exact ⟨_, _, fun s v => .of_eq rfl, fun base _ _ => U.fn_g (ok_law T)⟩
theorem walk {l : PySem.W.OpenLaw} {q : Program} {loose : List Str} {XP : (Str → Option Value) → Heap → Prop} {YP : World → Heap → Prop} {d : DefRec} {K : Params → PySem.W.Frag} (hn : l.most = some 63) (hdf : d.params.defaults = [])
    (hY : ∀ (w : World) (h : Heap), YP w h → (K w.params).In h)
    (F : ∀ (w : World) (mg : Str → Option Value) (fa : Addr) (h : Heap), (K w.params).In h → h.Ns mainGlobals mg → mg d.name = some (.ref fa) →
      ∃ (ca : Nat → Addr) (fd : FuncData), (∀ (s : Shared) (u : Value), BindsTo s fd ⟨[u], []⟩ [("_law_script", u)]) ∧ ∀ base : Heap, (K w.params).In base → base.Ns mainGlobals mg → U.FnG l.prog w (K w.params) mg base CX0 10 fa fd ["_law_script"] (sp_law (K w.params) ca)) :
    PySem.W.WalkO q loose XP YP l.row.toRowW d [] (fun f vs => PySem.call f vs) :=
  U.walk_ofG (n := 63) (k := 10) (x := "_law_script") (sp := fun w ca => sp_law (K w.params) ca) hn (by decide) hdf ⟨rfl, by decide, by decide⟩ hY F (fun _ _ _ a ns hl hO hS => law_sp hO hS (law_true ns hl))
end Lw
open Lean in
local macro_rules | `(tactic| kernel_rfl) => do
  if (← Macro.resolveGlobalName `seenIt).isEmpty then `(tactic| first | (refine Lw.joinH ?_ ?_ ?_; exact Lw.hdA _ _; exact Lw.hdB _ _; exact Lw.hdC _ _) | (open Lw.Mark in kernel_rfl)) else Macro.throwUnsupported
open PySem PySem.W PyProof.Rows
set_option maxRecDepth 100000 in
set_option maxHeartbeats 0 in
theorem PySem.Challenge.cw_reflows_k44_texts_one_by_one_holds : PySem.Challenge.rw_reflows_k44_texts_one_by_one.Holds := by
  w_on; o_law; k_headL; (case hw => w_witness2)
  k_fill
  refine Lw.walk (l := PySem.Challenge.rw_reflows_k44_texts_one_by_one) rfl rfl (fun w h Y => PySem.W.kIn_of Y) ?F
  case F =>
    intro w mg fa h KX G hmg
    refine' Lw.all_mk KX G hmg ?gC0 ?gC2 ?gC4 ?gC6 ?a0 ?l0 ?c0 ?k0 ?a1 ?l1 ?c1 ?k1 ?a2 ?l2 ?c2 ?k2 ?a3 ?l3 ?c3 ?k3 ?a4 ?l4 ?c4 ?k4 ?a5 ?l5 ?c5 ?k5 ?a6 ?l6 ?c6 ?k6 ?a7 ?l7 ?c7 ?k7 ?a8 ?l8 ?c8 ?k8 ?a9 ?l9 ?c9 ?k9 ?a10 ?l10 ?c10 ?k10 ?a11 ?l11 ?c11 ?k11 ?a12 ?l12 ?c12 ?k12 ?a13 ?l13 ?c13 ?k13 ?a14 ?l14 ?c14 ?k14 ?a15 ?l15 ?c15 ?k15 ?a16 ?l16 ?c16 ?k16 ?a17 ?l17 ?c17 ?k17 ?a18 ?l18 ?c18 ?k18 ?a19 ?l19 ?c19 ?k19 ?a20 ?l20 ?c20 ?k20 ?y20 ?d20_0 ?d20_1 ?a21 ?l21 ?c21 ?k21 ?y21 ?a22 ?l22 ?c22 ?k22 ?y22 ?a23 ?l23 ?c23 ?k23 ?y23 ?a24 ?l24 ?c24 ?k24 ?y24 ?a25 ?l25 ?c25 ?k25 ?y25 ?op6 ?oh6 ?oo6 ?os6 ?nf0 ?nf1 ?nf2 ?nf3 ?mt0 ?mt1 ?mt2 ?mt3 ?mt4 ?mm0 ?mi0 ?mp0 ?bg0 ?br0 ?bf0 ?xL2 ?sa2 ?ga2 ?gg2 ?nb2 ?ai2 ?ti2 ?l26 ?c26 ?k26 ?kC2 ?eC2 ?tC2 ?hC2 ?iC2 ?xL4 ?sa4 ?ga4 ?gg4 ?nb4 ?ai4 ?ti4 ?l27 ?c27 ?k27 ?kC4 ?eC4 ?tC4 ?hC4 ?iC4 ?ns4 ?z0 ?z1 ?z2 ?z3 ?z4 ?z5 ?z6 ?z7 ?z8 ?z9 ?z10 ?z11 ?q_0 ?q_1 ?q_2 ?q_3
    (case gC0 => first | k_is | rfl)
    (case gC2 => first | k_is | rfl)
    (case gC4 => first | k_is | rfl)
    (case gC6 => first | k_is | rfl)
    (case a0 => first | k_is | rfl)
    (case l0 => first | k_is | rfl)
    (case c0 => first | k_is | rfl)
    (case k0 => first | k_is | rfl)
    (case a1 => first | k_is | rfl)
    (case l1 => first | k_is | rfl)
    (case c1 => first | k_is | rfl)
    (case k1 => first | k_is | rfl)
    (case a2 => first | k_is | rfl)
    (case l2 => first | k_is | rfl)
    (case c2 => first | k_is | rfl)
    (case k2 => first | k_is | rfl)
    (case a3 => first | k_is | rfl)
    (case l3 => first | k_is | rfl)
    (case c3 => first | k_is | rfl)
    (case k3 => first | k_is | rfl)
    (case a4 => first | k_is | rfl)
    (case l4 => first | k_is | rfl)
    (case c4 => first | k_is | rfl)
    (case k4 => first | k_is | rfl)
    (case a5 => first | k_is | rfl)
    (case l5 => first | k_is | rfl)
    (case c5 => first | k_is | rfl)
    (case k5 => first | k_is | rfl)
    (case a6 => first | k_is | rfl)
    (case l6 => first | k_is | rfl)
    (case c6 => first | k_is | rfl)
    (case k6 => first | k_is | rfl)
    (case a7 => first | k_is | rfl)
    (case l7 => first | k_is | rfl)
    (case c7 => first | k_is | rfl)
    (case k7 => first | k_is | rfl)
    (case a8 => first | k_is | rfl)
    (case l8 => first | k_is | rfl)
    (case c8 => first | k_is | rfl)
    (case k8 => first | k_is | rfl)
    (case a9 => first | k_is | rfl)
    (case l9 => first | k_is | rfl)
    (case c9 => first | k_is | rfl)
    (case k9 => first | k_is | rfl)
    (case a10 => first | k_is | rfl)
    (case l10 => first | k_is | rfl)
    (case c10 => first | k_is | rfl)
    (case k10 => first | k_is | rfl)
    (case a11 => first | k_is | rfl)
    (case l11 => first | k_is | rfl)
    (case c11 => first | k_is | rfl)
    (case k11 => first | k_is | rfl)
    (case a12 => first | k_is | rfl)
    (case l12 => first | k_is | rfl)
    (case c12 => first | k_is | rfl)
    (case k12 => first | k_is | rfl)
    (case a13 => first | k_is | rfl)
    (case l13 => first | k_is | rfl)
    (case c13 => first | k_is | rfl)
    (case k13 => first | k_is | rfl)
    (case a14 => first | k_is | rfl)
    (case l14 => first | k_is | rfl)
    (case c14 => first | k_is | rfl)
    (case k14 => first | k_is | rfl)
    (case a15 => first | k_is | rfl)
    (case l15 => first | k_is | rfl)
    (case c15 => first | k_is | rfl)
    (case k15 => first | k_is | rfl)
    (case a16 => first | k_is | rfl)
    (case l16 => first | k_is | rfl)
    (case c16 => first | k_is | rfl)
    (case k16 => first | k_is | rfl)
    (case a17 => first | k_is | rfl)
    (case l17 => first | k_is | rfl)
    (case c17 => first | k_is | rfl)
    (case k17 => first | k_is | rfl)
    (case a18 => first | k_is | rfl)
    (case l18 => first | k_is | rfl)
    (case c18 => first | k_is | rfl)
    (case k18 => first | k_is | rfl)
    (case a19 => first | k_is | rfl)
    (case l19 => first | k_is | rfl)
    (case c19 => first | k_is | rfl)
    (case k19 => first | k_is | rfl)
    (case a20 => first | k_is | rfl)
    (case l20 => first | k_is | rfl)
    (case c20 => first | k_is | rfl)
    (case k20 => first | k_is | rfl)
    (case y20 => first | k_is | rfl)
    (case d20_0 => first | k_is | rfl)
    (case d20_1 => first | k_is | rfl)
    (case a21 => first | k_is | rfl)
    (case l21 => first | k_is | rfl)
    (case c21 => first | k_is | rfl)
    (case k21 => first | k_is | rfl)
    (case y21 => first | k_is | rfl)
    (case a22 => first | k_is | rfl)
    (case l22 => first | k_is | rfl)
    (case c22 => first | k_is | rfl)
    (case k22 => first | k_is | rfl)
    (case y22 => first | k_is | rfl)
    (case a23 => first | k_is | rfl)
    (case l23 => first | k_is | rfl)
    (case c23 => first | k_is | rfl)
    (case k23 => first | k_is | rfl)
    (case y23 => first | k_is | rfl)
    (case a24 => first | k_is | rfl)
    (case l24 => first | k_is | rfl)
    (case c24 => first | k_is | rfl)
    (case k24 => first | k_is | rfl)
    (case y24 => first | k_is | rfl)
    (case a25 => first | k_is | rfl)
    (case l25 => first | k_is | rfl)
    (case c25 => first | k_is | rfl)
    (case k25 => first | k_is | rfl)
    (case y25 => first | k_is | rfl)
    (case op6 => first | k_is | rfl)
    (case oh6 => first | k_is | rfl)
    (case oo6 => first | k_is | rfl)
    (case os6 => first | k_is | rfl)
    (case nf0 => first | k_is | rfl)
    (case nf1 => first | k_is | rfl)
    (case nf2 => first | k_is | rfl)
    (case nf3 => first | k_is | rfl)
    (case mt0 => first | k_is | rfl)
    (case mt1 => first | k_is | rfl)
    (case mt2 => first | k_is | rfl)
    (case mt3 => first | k_is | rfl)
    (case mt4 => first | k_is | rfl)
    (case mm0 => first | k_is | rfl)
    (case mi0 => first | k_is | rfl)
    (case mp0 => first | k_is | rfl)
    (case bg0 => first | k_is | rfl)
    (case br0 => first | k_is | rfl)
    (case bf0 => first | k_is | rfl)
    (case xL2 => first | k_is | rfl)
    (case sa2 => first | k_is | rfl)
    (case ga2 => first | k_is | rfl)
    (case gg2 => first | k_is | rfl)
    (case nb2 => first | k_is | rfl)
    (case ai2 => first | k_is | rfl)
    (case ti2 => first | k_is | rfl)
    (case l26 => first | k_is | rfl)
    (case c26 => first | k_is | rfl)
    (case k26 => first | k_is | rfl)
    (case kC2 => first | k_is | rfl)
    (case eC2 => first | k_is | rfl)
    (case tC2 => first | k_is | rfl)
    (case hC2 => first | k_is | rfl)
    (case iC2 => first | k_is | rfl)
    (case xL4 => first | k_is | rfl)
    (case sa4 => first | k_is | rfl)
    (case ga4 => first | k_is | rfl)
    (case gg4 => first | k_is | rfl)
    (case nb4 => first | k_is | rfl)
    (case ai4 => first | k_is | rfl)
    (case ti4 => first | k_is | rfl)
    (case l27 => first | k_is | rfl)
    (case c27 => first | k_is | rfl)
    (case k27 => first | k_is | rfl)
    (case kC4 => first | k_is | rfl)
    (case eC4 => first | k_is | rfl)
    (case tC4 => first | k_is | rfl)
    (case hC4 => first | k_is | rfl)
    (case iC4 => first | k_is | rfl)
    (case ns4 => first | k_is | rfl)
    (case z0 => first | k_is | rfl)
    (case z1 => first | k_is | rfl)
    (case z2 => first | k_is | rfl)
    (case z3 => first | k_is | rfl)
    (case z4 => first | k_is | rfl)
    (case z5 => first | k_is | rfl)
    (case z6 => first | k_is | rfl)
    (case z7 => first | k_is | rfl)
    (case z8 => first | k_is | rfl)
    (case z9 => first | k_is | rfl)
    (case z10 => first | k_is | rfl)
    (case z11 => first | k_is | rfl)
    (case q_0 => first | k_is | rfl)
    (case q_1 => first | k_is | rfl)
    (case q_2 => first | k_is | rfl)
    (case q_3 => first | k_is | rfl)
