import PyProof.Rows.All
import Wide.All
import OpenK.AllK
import Wide.FinOn
import HandS.ForMost
import HandS.IsInst
import HandS.Walk
import HandS.Flow
import HandS.Zip
import PyProof.NeKinds
import HandS.Exc
import HandS.ExcOwn
import HandS.ExcInit
import HandS.ExcField
import HandS.WordsExc
import HandS.Defaults
import HandS.MakeKwOnly
import HandS.DeepEq
import HandS.Replace
import HandS.RaiseMore
import HandS.Text
import PyProof.ReprRoads
import PyProof.ReprLen
import HandS.Codes
import KE.IntTextLaws
import PyProof.ReprDict
import PyProof.StrBlock2
import HandS.NoneIn
import KE.GoesMore
import KE.GoesEnum
import HandS.GenList
import HandS.Deep
import HandS.Style
import HandS.Property
import HandS.ClsMeth
import HandS.Star
import HandS.FStr
import HandS.OwnEq
import HandS.Conv
import HandS.CallSlots
import KE.KCallOwn
import KE.KOpsOwn
import PyProof.ExcBaseAll.LookupError
import HandS.NestedK
import KE.KSuper
import HandS.TupAny
import HandS.TupMul
import KE.DataFind
import KE.KFmtOwn
import KE.KExcInit
import HandS.IterNext
import HandS.SuiteRaise
import HandS.RaiseFrom
import HandS.ExcInitHot
import KE.KTryMore
import PyProof.AutoSeq1
import PyProof.LongRange
import HandS.List
import HandS.Strs
import KE.OsRunLaw
import PySem.Challenge.RW_reflows_k74_patterns_in_texts
set_option Elab.async false
set_option linter.all false
set_option maxRecDepth 100000
set_option maxHeartbeats 0
namespace Lw
open PySem PySem.W PyProof.Rows
theorem joinH {σ α β γ : Type} {o : Option σ} {f : σ → α} {g : σ → β} {h : σ → γ} {a : α} {b : β} {c : γ} (x : o.map f = some a) (y : o.map g = some b) (z : o.map h = some c) : o.map (fun s => (f s, g s, h s)) = some (a, b, c) := by
  cases o with
  | none => cases x
  | some s => cases x; cases y; cases z; rfl
theorem Mark.seenIt : True := trivial
section
open Lean in
local macro_rules | `(tactic| o_headL $H:term) => `(tactic| exact $(mkIdent `f) ($H = $H) _)
theorem hd (f : ∀ (q p : Prop), p) : PySem.Challenge.rw_reflows_k74_patterns_in_texts.Holds := by
  w_on; o_law; k_headL
end
section
open HeadRun
abbrev p0 : Program := PySem.Challenge.rw_reflows_k74_patterns_in_texts.prog
def qv : Program := view p0 [1, 2, 3, 5, 6, 7, 8, 9, 10, 11, 13, 14, 16, 17, 18, 19, 20, 21, 23, 24, 25, 26, 27, 28, 29, 30, 31, 32, 33, 34, 35, 36, 37, 38]
def xt0 (s : Shared) : Bool := xlAt qv [] s && recOk (RowW.records (OpenRow.toRowW PySem.Challenge.rw_reflows_k74_patterns_in_texts.row)) s
theorem hdA (w : World) (os : OsState) : (endF (stepQ (denQ tabQ) p0 w) 3234 p0 w os).map (fun s => looksF p0 (boot_heap w.params) s.abs) = some true := by kernel_rfl
theorem hdB0 (w : World) (os : OsState) : (endF (stepQ (denQ tabQ) p0 w) 3234 p0 w os).map (fun s => (seenQ qv ([].map Str.ofString) (importedModules p0.main.body) xt0 s.abs).1) = some (expectedOf qv) := by kernel_rfl
theorem hdB1 (w : World) (os : OsState) : (endF (stepQ (denQ tabQ) p0 w) 3234 p0 w os).map (fun s => (seenQ qv ([].map Str.ofString) (importedModules p0.main.body) xt0 s.abs).2.2.1) = some true := by kernel_rfl
theorem hdB2 (w : World) (os : OsState) : (endF (stepQ (denQ tabQ) p0 w) 3234 p0 w os).map (fun s => ((seenQ qv ([].map Str.ofString) (importedModules p0.main.body) xt0 s.abs).2.1, (seenQ qv ([].map Str.ofString) (importedModules p0.main.body) xt0 s.abs).2.2.2)) = some (bltViewBooted, true, pinGoodD (drecsOf qv), plainGoodE qv (looseW qv ([].map Str.ofString)), plainGoodD qv ([].map Str.ofString), wideGood qv, clsGoodW qv ([].map Str.ofString)) := by kernel_rfl
theorem joinB {σ α β γ δ : Type} {o : Option σ} {f : σ → α × β × γ × δ} {a : α} {b : β} {c : γ} {d : δ} (x : o.map (fun s => (f s).1) = some a) (y : o.map (fun s => (f s).2.2.1) = some c) (z : o.map (fun s => ((f s).2.1, (f s).2.2.2)) = some (b, d)) : o.map f = some (a, b, c, d) := by
  cases o with
  | none => cases x
  | some s =>
    have e1 : (f s).1 = a := Option.some.inj x
    have e2 : (f s).2.2.1 = c := Option.some.inj y
    have e3 : ((f s).2.1, (f s).2.2.2) = (b, d) := Option.some.inj z
    show some (f s) = _
    rcases e : f s with ⟨p, q, r, t⟩
    rw [e] at e1 e2 e3
    cases e1; cases e2; cases e3; rfl
theorem hdB (w : World) (os : OsState) : (endF (stepQ (denQ tabQ) p0 w) 3234 p0 w os).map (fun s => seenQ qv ([].map Str.ofString) (importedModules p0.main.body) xt0 s.abs) = some (openGood qv ([].map Str.ofString)) := joinB (hdB0 w os) (hdB1 w os) (hdB2 w os)
theorem hdC (w : World) (os : OsState) : (endF (stepQ (denQ tabQ) p0 w) 3234 p0 w os).map (fun s => ([2, 3, 15, 22, 23, 24, 25, 28, 35, 37, 38, 40, 41, 42, 43, 44, 47, 54, 56, 57, 59, 60, 61, 62, 63, 66, 68, 69, 71, 72, 73, 76, 77, 78, 80, 81, 83, 84, 85, 87, 88, 90, 91, 92, 95, 96, 97, 99, 100, 102, 103, 104, 107, 108, 109, 112, 113, 114, 116, 117, 119, 120, 121, 123, 124, 126, 127, 128, 131, 132, 133, 135, 136, 138, 139, 140, 142, 143, 145, 146, 147, 149, 150, 152, 153, 154, 156, 157, 159, 160, 161, 163, 164, 166, 167, 168, 171, 172, 173, 175, 176, 178, 179, 180, 182, 183, 185, 186, 187, 189, 190, 192, 193, 194, 197, 198, 199, 202, 203, 204, 206, 207, 209, 210, 211, 213, 214, 216, 217, 218, 220, 221, 223, 224, 225, 228, 229, 230, 232, 233, 235, 236] : List Addr).map (getT s)) = some ((Lw.hd.heap_39 w.params).map fun x => some x.2) := by kernel_rfl
end
end Lw
set_option Elab.async false
set_option linter.all false
set_option maxRecDepth 100000
set_option maxHeartbeats 4000000
namespace PySem.SeqAt
open AutoSeq1 (wpAny_loadPart')
open MeetsSeq
end PySem.SeqAt
namespace U
open PySem L2
section
variable {X : Cx}
theorem PEi {e : Expr} {t u : TE} (h : PE X e t) (i : ∀ σ H Q, u σ H Q → t σ H Q) : PE X e u := ⟨fun pins s σ H Q I k => h.run pins s σ H Q I (i σ H Q k)⟩
theorem OpRi {f : Value → Value → Sem Value} {r r' : R2} (h : OpR X f r) (i : ∀ x y H Q, r' x y H Q → r x y H Q) : OpR X f r' := fun pins s σ H x y v u Q I rx ry k => h pins s σ H x y v u Q I rx ry (i x y H Q k)
theorem CallRi {f : Value} {r r' : List V → Hp → VK → Prop} (h : CallR X f r) (i : ∀ xs H Q, r' xs H Q → r xs H Q) : CallR X f r' := fun pins s σ H xs us Q I r k => h pins s σ H xs us Q I r (i xs H Q k)
theorem IxRi {r r' : R2} (h : IxR X r) (i : ∀ x y H Q, r' x y H Q → r x y H Q) : IxR X r' := fun value slice pins s σ H x y v u Q I rx ry q hs => h value slice pins s σ H x y v u Q I rx ry (i x y H Q q) hs
theorem SlRi {r r' : V → Option Int → Option Int → Hp → VK → Prop} (h : L2.SlR X r) (i : ∀ x lo hi H Q, r' x lo hi H Q → r x lo hi H Q) : L2.SlR X r' := fun pins s σ H x v vl vu lo hi sl Q I rx hs pl pu q => h pins s σ H x v vl vu lo hi sl Q I rx hs pl pu (i x lo hi H Q q)
theorem MtRi {id : String} {r r' : V → List V → Hp → VK → Prop} (h : MtR X id r) (i : ∀ x xs H Q, r' x xs H Q → r x xs H Q) : MtR X id r' := fun pins s σ H x xs v us Q I rx rs q => h pins s σ H x xs v us Q I rx rs (i x xs H Q q)
end
def bV (x : V) (A B : Prop) : Prop := match x with | .bl true => A | .bl false => B | _ => False
def bB (c : Bool) (A B : Prop) : Prop := match c with | true => A | false => B
def oK {α : Type} (o : Option α) (f : α → Prop) : Prop := match o with | some x => f x | none => False
section
variable {A B : Prop} {α : Type}
theorem oK_of {o : Option α} {f : α → Prop} {x : α} (h : o = some x) (k : f x) : oK o f := by subst h; exact k
theorem oK_ex {o : Option α} {f : α → Prop} (h : oK o f) : ∃ x, o = some x ∧ f x := by
  cases o with
  | none => exact h.elim
  | some x => exact ⟨x, rfl, h⟩
end
def uVar (i : Nat) : TE := fun σ H Q => match σ[i]? with | some (some v) => Q v H | _ => False
def uT (t : TE) : TT := fun σ H Q => t σ H fun x H1 => match x with | .bl k => Q k H1 | _ => False
def uAndV (ta tb : TE) : TE := fun σ H Q => ta σ H fun x H1 => bV x (tb σ H1 Q) (Q (.bl false) H1)
def uOrV (ta tb : TE) : TE := fun σ H Q => ta σ H fun x H1 => bV x (Q (.bl true) H1) (tb σ H1 Q)
def uNotV (ta : TE) : TE := fun σ H Q => ta σ H fun x H1 => match x with | .bl k => Q (.bl (!k)) H1 | _ => False
def uAnd (t u : TT) : TT := fun σ H Q => t σ H fun c H1 => bB c (u σ H1 Q) (Q false H1)
def uOr (t u : TT) : TT := fun σ H Q => t σ H fun c H1 => bB c (Q true H1) (u σ H1 Q)
def uNot (t : TT) : TT := fun σ H Q => t σ H fun c H1 => Q (!c) H1
def uIf (t : TT) (ta tb : TE) : TE := fun σ H Q => t σ H fun c H1 => bB c (ta σ H1 Q) (tb σ H1 Q)
def uIfS (t : TT) (a b : TS) : TS := fun D σ H => t σ H fun c H1 => bB c (a D σ H1) (b D σ H1)
section
variable {X : Cx} {a b : Expr} {ta tb : TE} {pos : Pos} {tA tB' : TT} {rest : List Expr}
theorem pu (i : Nat) {x : Str} {pos : Pos} (hN : X.N[i]? = some x := by rfl) (hv : Vis X.env.scope x := by first | exact Or.inl rfl | exact Or.inr (Or.inl rfl) | exact Or.inr (Or.inr rfl)) (hd : (x == ("__debug__" : Str)) = false := by decide)
    (hcd : (x == ("__classdict__" : Str)) = false := by decide) : PE X (.Name x pos) (uVar i) := PEi (pe_var hN hv hd hcd) fun σ H Q h => by
  unfold uVar at h
  split at h
  · exact ⟨_, by assumption, h⟩
  · exact h.elim
end
theorem k_bl (Q : Bool → Hp → Prop) : (fun (x : V) (H1 : Hp) => match x with | .bl k => Q k H1 | _ => False) = (fun x H1 => ∃ c, x = V.bl c ∧ Q c H1) := by
  funext x H1
  cases x <;> simp
theorem k_and (f : Hp → Prop) (g : Hp → Prop) : (fun (x : V) (H1 : Hp) => bV x (f H1) (g H1)) = (fun x H1 => ∃ c, x = V.bl c ∧ if c = true then f H1 else g H1) := by
  funext x H1
  unfold bV
  cases x with
  | bl b => cases b <;> simp
  | _ => simp
theorem k_b (f : Hp → Prop) (g : Hp → Prop) : (fun (c : Bool) (H1 : Hp) => bB c (f H1) (g H1)) = (fun c H1 => if c = true then f H1 else g H1) := by
  funext c H1
  unfold bB
  cases c <;> simp
section
variable {X : Cx} {a b : Expr} {ta tb : TE} {pos : Pos} {tA tB' : TT} {rest : List Expr}
theorem uT_eq (t : TE) : uT t = tB t := by funext σ H Q; unfold uT tB; rw [k_bl]
theorem uT_eq' (t : TE) : uT t = tTest t := by funext σ H Q; unfold uT tTest; rw [k_bl]
theorem uAndV_eq (ta tb : TE) : uAndV ta tb = tAndV ta tb := by funext σ H Q; unfold uAndV tAndV; rw [k_and]
theorem uOrV_eq (ta tb : TE) : uOrV ta tb = tOrV ta tb := by funext σ H Q; unfold uOrV tOrV; rw [k_and]
theorem uNotV_eq (ta : TE) : uNotV ta = tNotV ta := by
  funext σ H Q; unfold uNotV tNotV
  exact congrArg (ta σ H) (k_bl fun c H1 => Q (.bl (!c)) H1)
theorem uAnd_eq (t u : TT) : uAnd t u = tAnd t u := by funext σ H Q; unfold uAnd tAnd; rw [k_b]
theorem uOr_eq (t u : TT) : uOr t u = tOr t u := by funext σ H Q; unfold uOr tOr; rw [k_b]
theorem uIf_eq (t : TT) (ta tb : TE) : uIf t ta tb = tIf t ta tb := by funext σ H Q; unfold uIf tIf; rw [k_b]
theorem uIfS_eq (t : TT) (a b : TS) : uIfS t a b = tIfS t a b := by funext D σ H; unfold uIfS tIfS; rw [k_b]
theorem put_val {e : Expr} {t : TE} (h : PE X e t) (he : ∀ whole, isTrue e X.env whole = (do let v ← whole; standAt e.pos; holding [v] (truthy v)) := by intro _; rfl) : PT X e (uT t) := by
  rw [uT_eq]; exact pt_val h he
theorem put_cmp {op : CmpOp} {r : R2} (ho : OpR X (compareOp op) r) (ha : PE X a ta) (hb : PE X b tb) (hm : behindInMarks op b = false) : PT X (.Compare a [op] [b] pos) (uT (tOp r ta tb)) := by
  rw [uT_eq']; exact pt_cmpR ho ha hb hm
theorem pue_and (ha : PE X a ta) (hb : PE X (.BoolOp .And (b :: rest) pos) tb) : PE X (.BoolOp .And (a :: b :: rest) pos) (uAndV ta tb) := by rw [uAndV_eq]; exact pe_and ha hb
theorem pue_or (ha : PE X a ta) (hb : PE X (.BoolOp .Or (b :: rest) pos) tb) : PE X (.BoolOp .Or (a :: b :: rest) pos) (uOrV ta tb) := by rw [uOrV_eq]; exact pe_or ha hb
theorem pue_not (ha : PE X a ta) : PE X (.UnaryOp .Not a pos) (uNotV ta) := by rw [uNotV_eq]; exact pe_not ha
theorem puw_and (ha : PT X a tA) (hb : PW X (.BoolOp .And (b :: rest) pos) tB') : PW X (.BoolOp .And (a :: b :: rest) pos) (uAnd tA tB') := by rw [uAnd_eq]; exact pw_and ha hb
theorem puw_or (ha : PT X a tA) (hb : PW X (.BoolOp .Or (b :: rest) pos) tB') : PW X (.BoolOp .Or (a :: b :: rest) pos) (uOr tA tB') := by rw [uOr_eq]; exact pw_or ha hb
theorem put_not (ha : PT X a tA) : PT X (.UnaryOp .Not a pos) (uNot tA) := pt_not ha
theorem pue_if {c : Expr} (hc : PT X c tA) (ha : PE X a ta) (hb : PE X b tb) : PE X (.IfExp c a b pos) (uIf tA ta tb) := by rw [uIf_eq]; exact pe_ifExp hc ha hb
theorem pus_if {c : Expr} {p q : List Stmt} {t u : TS} (hc : PT X c tA) (ha : PSs X p t) (hb : PSs X q u) : PS X (.If c p q pos) (uIfS tA t u) := by rw [uIfS_eq]; exact ps_if hc ha hb
end
def uAdd (K : PySem.W.Frag) : R2 := fun x y H Q => match x, y with
  | .int i, .int j => Q (.int (i + j)) H
  | .str i, .str j => i.length + j.length ≤ sizeLine ∧ Q (.str (i ++ j)) H
  | .ref l, .ref b => ∃ xs zs, H l = some (.lst xs) ∧ H b = some (.lst zs) ∧ xs.length + zs.length ≤ sizeLine ∧ ∀ p, H p = none → Q (.ref p) (upd H p (.lst (xs ++ zs)))
  | _, _ => False
def uSub : R2 := fun x y H Q => match x, y with
  | .int i, .int j => Q (.int (i - j)) H
  | _, _ => False
def uFdiv : R2 := fun x y H Q => match x, y with
  | .int i, .int j => CDiv i j ∧ Q (.int (i / j)) H
  | _, _ => False
def uMod : R2 := fun x y H Q => match x, y with
  | .int i, .int j => 0 < j ∧ Q (.int (i % j)) H
  | _, _ => False
def uPow : R2 := fun x y H Q => match x, y with
  | .int i, .int j => CPow i j ∧ Q (.int (i ^ j.toNat)) H
  | _, _ => False
def uCmpI (p : Int → Int → Bool) (q : List Nat → List Nat → Bool) : R2 := fun x y H Q => match x, y with
  | .int i, .int j => Q (.bl (p i j)) H
  | .str i, .str j => Q (.bl (q i.cps.toList j.cps.toList)) H
  | _, _ => False
abbrev uLt : R2 := uCmpI (fun i j => decide (i < j)) (fun i j => decide (i < j))
abbrev uLe : R2 := uCmpI (fun i j => decide (i ≤ j)) (fun i j => !decide (j < i))
abbrev uGt : R2 := uCmpI (fun i j => decide (j < i)) (fun i j => decide (j < i))
section
variable {X : Cx}
theorem ou_add : OpR X (binaryOp .Add) (uAdd X.K) := OpRi (op_add.or (op_add_str.or op_cat)) fun x y H Q h => by
  unfold uAdd at h
  split at h
  · exact .inl ⟨_, _, rfl, rfl, h⟩
  · exact .inr (.inl ⟨_, _, rfl, rfl, h⟩)
  · obtain ⟨xs, zs, h1, h2, h3, h4⟩ := h
    exact .inr (.inr ⟨_, _, xs, zs, rfl, rfl, h1, h2, h3, h4⟩)
  · exact h.elim
theorem ou_sub : OpR X (binaryOp .Sub) uSub := OpRi op_sub fun x y H Q h => by
  unfold uSub at h
  split at h
  · exact ⟨_, _, rfl, rfl, h⟩
  · exact h.elim
theorem ou_fdiv : OpR X (binaryOp .FloorDiv) uFdiv := OpRi op_fdiv fun x y H Q h => by
  unfold uFdiv at h
  split at h
  · exact ⟨_, _, rfl, rfl, h⟩
  · exact h.elim
theorem ou_mod : OpR X (binaryOp .Mod) uMod := OpRi op_mod fun x y H Q h => by
  unfold uMod at h
  split at h
  · exact ⟨_, _, rfl, rfl, h⟩
  · exact h.elim
theorem ou_pow : OpR X (binaryOp .Pow) uPow := OpRi op_pow fun x y H Q h => by
  unfold uPow at h
  split at h
  · exact ⟨_, _, rfl, rfl, h⟩
  · exact h.elim
theorem uCmp_or {p : Int → Int → Bool} {q : List Nat → List Nat → Bool} {f : Value → Value → Sem Value} (h1 : OpR X f (rI0 fun i j => .bl (p i j))) (h2 : OpR X f (fun x y H Q => ∃ i j, x = .str i ∧ y = .str j ∧ Q (.bl (q i.cps.toList j.cps.toList)) H)) : OpR X f (uCmpI p q) :=
  OpRi (h1.or h2) fun x y H Q h => by
  unfold uCmpI at h
  split at h
  · exact .inl ⟨_, _, rfl, rfl, h⟩
  · exact .inr ⟨_, _, rfl, rfl, h⟩
  · exact h.elim
theorem ou_lt : OpR X (compareOp .Lt) uLt := uCmp_or op_lt op_lt_str
theorem ou_le : OpR X (compareOp .LtE) uLe := uCmp_or op_le op_le_str
theorem ou_gt : OpR X (compareOp .Gt) uGt := uCmp_or op_gt op_gt_str
end
def seqOf (c : String) (o : Obj) : Option (List V) := match o with
  | ⟨.type d, none, .seq its _, _⟩ => if c = d ∧ its.size ≤ sizeLine then its.toList.mapM absV else none
  | _ => none
def kS (K : PySem.W.Frag) (c : String) (a : Addr) : Option (List V) := match K.lookup a with
  | some o => seqOf c o
  | none => none
def rdL (K : PySem.W.Frag) (H : Hp) (a : Addr) : Option (List V) := match H a with
  | some (.lst xs) => some xs
  | some (.frz _ (.lst xs)) => some xs
  | some _ => none
  | none => kS K "list" a
def rdT (K : PySem.W.Frag) (H : Hp) (a : Addr) : Option (List V) := match H a with
  | some (.tup xs) => some xs
  | some (.frz _ (.tup xs)) => some xs
  | some _ => none
  | none => kS K "tuple" a
def rdS (K : PySem.W.Frag) (H : Hp) (a : Addr) : Option (List V) := match rdL K H a with
  | some xs => some xs
  | none => rdT K H a
theorem mapM_vals : ∀ {us : List Value} {xs : List V}, us.mapM absV = some xs → Vals xs us := by
  intro us
  induction us with
  | nil => intro xs h; simp at h; subst h; exact .nil
  | cons u r ih =>
    intro xs h
    rw [List.mapM_cons] at h
    cases e1 : absV u with
    | none => rw [e1] at h; cases h
    | some x =>
      cases e2 : r.mapM absV with
      | none => rw [e1, e2] at h; cases h
      | some ys =>
        rw [e1, e2] at h
        cases h
        refine .cons ?_ (ih e2)
        cases u <;> simp [absV] at e1 <;> subst e1 <;> first | rfl | exact ⟨_, rfl⟩
theorem kS_spec {K : PySem.W.Frag} {c : String} {a : Addr} {xs : List V} (h : kS K c a = some xs) : ∃ (o : Obj) (its : Array Value) (n : Nat), K.lookup a = some o ∧ o.cls = .type c ∧ o.dict = none ∧ o.data = .seq its n ∧ its.size ≤ sizeLine ∧ Vals xs its.toList := by
  unfold kS at h
  split at h
  · rename_i o e
    unfold seqOf at h
    split at h
    · split at h
      · rename_i hc
        obtain ⟨rfl, hz⟩ := hc
        exact ⟨_, _, _, e, rfl, rfl, rfl, hz, mapM_vals h⟩
      · cases h
    · cases h
  · cases h
theorem rdL_sq {K : PySem.W.Frag} {H : Hp} {a : Addr} {xs : List V} (h : rdL K H a = some xs) : SqL K H a xs := by
  unfold rdL at h
  split at h
  · cases h; exact .inl (.inl (by assumption))
  · cases h; exact .inl (.inr ⟨_, by assumption⟩)
  · cases h
  · exact .inr (kS_spec h)
theorem rdT_sq {K : PySem.W.Frag} {H : Hp} {a : Addr} {xs : List V} (h : rdT K H a = some xs) : SqT K H a xs := by
  unfold rdT at h
  split at h
  · cases h; exact .inl (.inl (by assumption))
  · cases h; exact .inl (.inr ⟨_, by assumption⟩)
  · cases h
  · obtain ⟨o, its, n, h1, h2, h3, h4, h5, h6⟩ := kS_spec h
    exact .inr ⟨o, its, n, h1, h2, h4, h5, h6⟩
theorem rdL_of {K : PySem.W.Frag} {H : Hp} {a : Addr} {xs : List V} (h : H a = some (.lst xs)) : rdL K H a = some xs := by unfold rdL; rw [h]
theorem rdT_of {K : PySem.W.Frag} {H : Hp} {a : Addr} {xs : List V} (h : H a = some (.tup xs)) : rdT K H a = some xs := by unfold rdT; rw [h]
/-- a list or a tuple is read -/
def oS (K : PySem.W.Frag) (H : Hp) (p : Addr) (f : List V → Prop) : Prop := ∃ xs, (SqL K H p xs ∨ SqT K H p xs) ∧ f xs
abbrev Ex (H H' : Hp) : Prop := ∀ a o, H a = some o → H' a = some o
theorem Ex.refl (H : Hp) : Ex H H := fun _ _ h => h
theorem Ex.trans {H H1 H2 : Hp} (a : Ex H H1) (b : Ex H1 H2) : Ex H H2 := fun x o h => b x o (a x o h)
theorem Ex.new {H : Hp} {p : Addr} {o : HO} (h : H p = none) : Ex H (upd H p o) := fun a u e => by
  rw [upd_ne (ne_of_none e h)]
  exact e
theorem Ex.mut {H H' : Hp} {p : Addr} {o : HO} (e : Ex H H') (h : H p = none) : Ex H (upd H' p o) := fun a u ha => by
  rw [upd_ne (ne_of_none ha h)]
  exact e a u ha
theorem Ex.free {H H' : Hp} (e : Ex H H') {p : Addr} (h : H' p = none) : H p = none := by
  cases h1 : H p with
  | none => rfl
  | some o => rw [e p o h1] at h; cases h
/-- all but b stays -/
def Fr (b : Addr) (H H' : Hp) : Prop := ∀ a o, H a = some o → a ≠ b → H' a = some o
theorem Fr.refl (b : Addr) (H : Hp) : Fr b H H := fun _ _ h _ => h
theorem Fr.trans {b : Addr} {H H1 H2 : Hp} (x : Fr b H H1) (y : Fr b H1 H2) : Fr b H H2 := fun a o h n => y a o (x a o h n) n
theorem Fr.ex {b : Addr} {H H1 : Hp} (x : Ex H H1) : Fr b H H1 := fun a o h _ => x a o h
theorem Fr.new {b p : Addr} {H : Hp} {o : HO} (h : H p = none) : Fr b H (upd H p o) := Fr.ex (Ex.new h)
def uIn (K : PySem.W.Frag) (neg : Bool) : R2 := fun x y H Q => match y with
  | .str z => (match x with
    | .str w => (match w.cps.toList with
      | [c] => Q (.bl (if neg then !decide (c ∈ z.cps.toList) else decide (c ∈ z.cps.toList))) H
      | _ => False)
    | _ => False)
  | .ref p => oS K H p fun xs => flatV x = true ∧ xs.all flatV = true ∧ Q (.bl (if neg then !inV x xs else inV x xs)) H
  | _ => False
theorem str_one {w : Str} {c : Nat} (h : w.cps.toList = [c]) : w = ⟨#[c]⟩ := by
  obtain ⟨⟨l⟩⟩ := w
  have h : l = [c] := h
  subst h
  rfl
theorem uIn_sp {K : PySem.W.Frag} {neg : Bool} {x y : V} {H : Hp} {Q : VK} (h : uIn K neg x y H Q) :
    (∃ (c : Nat) (z : Str), x = .str ⟨#[c]⟩ ∧ y = .str z ∧ Q (.bl (if neg then !decide (c ∈ z.cps.toList) else decide (c ∈ z.cps.toList))) H) ∨ rIn K neg x y H Q := by
  unfold uIn at h
  split at h
  · split at h
    · split at h
      · rename_i e
        exact .inl ⟨_, _, by rw [str_one e], rfl, h⟩
      · exact h.elim
    · exact h.elim
  · obtain ⟨xs, e, h1, h2, h3⟩ := h
    exact .inr ⟨_, _, rfl, e, h1, h2, h3⟩
  · exact h.elim
section
variable {X : Cx}
theorem ou_in : OpR X (compareOp .In) (uIn X.K false) := OpRi (op_in_sign.or op_in_seq) fun x y H Q h => uIn_sp h
theorem ou_notin : OpR X (compareOp .NotIn) (uIn X.K true) := OpRi (op_notIn_sign.or op_notIn_seq) fun x y H Q h => uIn_sp h
end
/-- a < b < c -/
def uChain (r r' : R2) (ta tb tc : TE) : TE := fun σ H Q => ta σ H fun x H1 => tb σ H1 fun y H2 => r x y H2 fun z H3 => bV z (tc σ H3 fun w H4 => r' y w H4 Q) (Q (.bl false) H3)
theorem uChain_eq (r r' : R2) (ta tb tc : TE) : uChain r r' ta tb tc = tChain r r' ta tb tc := by
  funext σ H Q; unfold uChain tChain
  congr 1; funext x H1; congr 1; funext y H2
  rw [k_and]
section
variable {X : Cx} {a b c : Expr} {ta tb tc : TE} {pos : Pos}
theorem pue_chain {op op' : CmpOp} {r r' : R2} (ho : OpR X (compareOp op) r) (ho' : OpR X (compareOp op') r') (ha : PE X a ta) (hb : PE X b tb) (hc : PE X c tc) (hl : lastMarks [op, op'] [b, c] = false := by rfl) :
    PE X (.Compare a [op, op'] [b, c] pos) (uChain r r' ta tb tc) := by rw [uChain_eq]; exact pe_chain ho ho' ha hb hc hl
theorem put_chain {op op' : CmpOp} {r r' : R2} (ho : OpR X (compareOp op) r) (ho' : OpR X (compareOp op') r') (ha : PE X a ta) (hb : PE X b tb) (hc : PE X c tc) (hl : lastMarks [op, op'] [b, c] = false := by rfl) :
    PT X (.Compare a [op, op'] [b, c] pos) (uT (uChain r r' ta tb tc)) := by rw [uT_eq', uChain_eq]; exact pt_chain ho ho' ha hb hc hl
end
def uIx (K : PySem.W.Frag) : R2 := fun x y H Q => match x, y with
  | .str z, .int i => z.length ≤ sizeLine ∧ oK (atI z.cps.toList i) fun c => Q (.str ⟨#[c]⟩) H
  | .ref p, .int i => oS K H p fun xs => oK (atI xs i) fun v => Q v H
  | _, _ => False
theorem iu_ix {X : Cx} : IxR X (uIx X.K) := IxRi ix_seq fun x y H Q h => by
  unfold uIx at h
  split at h
  · obtain ⟨h1, h2⟩ := h
    obtain ⟨c, e, h2⟩ := oK_ex h2
    exact .inr (.inr ⟨_, _, _, rfl, rfl, h1, e, h2⟩)
  · obtain ⟨xs, e, h⟩ := h
    obtain ⟨v, e2, h⟩ := oK_ex h
    rcases e with q | q
    · exact .inl ⟨_, _, _, _, rfl, rfl, q, e2, h⟩
    · exact .inr (.inl ⟨_, _, _, _, rfl, rfl, q, e2, h⟩)
  · exact h.elim
def uPart (t : TE) : TO := fun σ H Q => t σ H fun x H1 => match x with | .int i => Q (some i) H1 | _ => False
theorem pou_some {X : Cx} {e : Expr} {te : TE} (h : PE X e te) : PO X (some e) (uPart te) := by
  have : uPart te = tPart te := by
    funext σ H Q; unfold uPart tPart; congr 1; funext x H1
    cases x <;> simp
  rw [this]; exact po_some h
/-- texts and lists -/
def uSl (K : PySem.W.Frag) : V → Option Int → Option Int → Hp → VK → Prop := fun x lo hi H Q => match x with
  | .str z => z.length ≤ sizeLine ∧ Q (.str (cutS z lo hi)) H
  | .ref a => (match rdL K H a with
    | some xs => ∀ p, H p = none → Q (.ref p) (upd H p (.lst (cutV xs lo hi)))
    | none => (match rdT K H a with
      | some xs => ¬ (HT.sIx xs.length 0 lo = 0 ∧ HT.sIx xs.length xs.length hi = xs.length) ∧ ∀ p, H p = none → Q (.ref p) (upd H p (.tup (cutV xs lo hi)))
      | none => False))
  | _ => False
theorem su_sl {X : Cx} : L2.SlR X (uSl X.K) := SlRi (sl_str.or (sl_list.or sl_tup)) fun x lo hi H Q h => by
  unfold uSl at h
  split at h
  · exact .inl ⟨_, rfl, h.1, h.2⟩
  · split at h
    · exact .inr (.inl ⟨_, _, rfl, rdL_sq (by assumption), h⟩)
    · split at h
      · exact .inr (.inr ⟨_, _, rfl, rdT_sq (by assumption), h.1, h.2⟩)
      · exact h.elim
  · exact h.elim
def uLen (K : PySem.W.Frag) : List V → Hp → VK → Prop := fun xs H Q => match xs with
  | [.str z] => z.length ≤ sizeLine ∧ Q (.int z.length) H
  | [.ref p] => oS K H p fun ys => Q (.int ys.length) H
  | _ => False
def uMax2 : List V → Hp → VK → Prop := fun xs H Q => match xs with
  | [.int i, .int j] => Q (.int (if j > i then j else i)) H
  | _ => False
def uMin2 : List V → Hp → VK → Prop := fun xs H Q => match xs with
  | [.int i, .int j] => Q (.int (if j < i then j else i)) H
  | _ => False
section
variable {X : Cx}
theorem cu_len : CallR X (.builtin "len") (uLen X.K) := CallRi call_len fun xs H Q h => by
  unfold uLen at h
  split at h
  · exact ⟨_, _, rfl, ⟨h.1, rfl⟩, h.2⟩
  · obtain ⟨ys, e, h⟩ := h
    rcases e with q | q
    · exact ⟨_, _, rfl, .inl ⟨_, q, rfl⟩, h⟩
    · exact ⟨_, _, rfl, .inr ⟨_, q, rfl⟩, h⟩
  · exact h.elim
theorem cu_max (hc : X.calm = true) : CallR X (.builtin "max") uMax2 := CallRi (call_max2 hc) fun xs H Q h => by
  unfold uMax2 at h
  split at h
  · exact ⟨_, _, rfl, h⟩
  · exact h.elim
theorem cu_min (hc : X.calm = true) : CallR X (.builtin "min") uMin2 := CallRi (call_min2 hc) fun xs H Q h => by
  unfold uMin2 at h
  split at h
  · exact ⟨_, _, rfl, h⟩
  · exact h.elim
end
inductive Ty | non | bl | int | str | lst | tup | dct
  deriving DecidableEq
def Ty.nm : Ty → String | .non => "NoneType" | .bl => "bool" | .int => "int" | .str => "str" | .lst => "list" | .tup => "tuple" | .dct => "dict"
def tyO : HO → Option Ty
  | .lst _ => some .lst
  | .tup _ => some .tup
  | .dK _ => some .dct
  | .dT _ => some .dct
  | .frz _ (.lst _) => some .lst
  | .frz _ (.tup _) => some .tup
  | _ => none
def tyOf (H : Hp) : V → Option Ty
  | .non => some .non | .bl _ => some .bl | .int _ => some .int | .str _ => some .str
  | .ref a => (H a).bind tyO
  | _ => none
theorem tyOf_x {K : PySem.W.Frag} {H : Hp} {v : V} {t : Ty} (h : tyOf H v = some t) : TyX K H v (.type t.nm) := by
  cases v with
  | non => cases h; exact .base .non
  | bl b => cases h; exact .base (.bl b)
  | int i => cases h; exact .base (.int i)
  | str x => cases h; exact .base (.str x)
  | byt b => cases h
  | flt b => cases h
  | ty n => cases h
  | ref a =>
    have h : (H a).bind tyO = some t := h
    cases e : H a with
    | none => rw [e] at h; cases h
    | some o =>
      rw [e] at h
      have h : tyO o = some t := h
      unfold tyO at h
      split at h <;> first | (cases h; done) | (cases h; first | exact .base (.lst e) | exact .base (.tup e) | exact .base (.dK e) | exact .base (.dT e) | exact .base (.frz e) | exact .fTuple e)
/-- is a thing of the one kind a thing of the other -/
def isT (t c : Ty) : Bool := decide (t = c) || (decide (t = .bl) && decide (c = .int))
theorem isT_kit (t c : Ty) : kitB t.nm c.nm = some (isT t c) := by cases t <;> cases c <;> decide +kernel
def uIsi (c : Ty) (te : TE) : TE := fun σ H Q => te σ H fun x H1 => oK (tyOf H1 x) fun t => Q (.bl (isT t c)) H1
def rIsiC (c : Ty) : List V → Hp → VK → Prop := fun xs H Q => match xs with
  | [x, y] => y = .ty c.nm ∧ oK (tyOf H x) fun t => Q (.bl (isT t c)) H
  | _ => False
def uIsiT (cs : List Ty) : List V → Hp → VK → Prop := fun xs H Q => match xs with
  | [x, .ref p] => H p = some (.tup (cs.map fun c => .ty c.nm)) ∧ oK (tyOf H x) fun t => Q (.bl (cs.any (isT t))) H
  | _ => False
theorem kitAny_any {K : PySem.W.Frag} (t : Ty) : ∀ cs : List Ty, PySem.W.kitAny K (.type t.nm) (cs.map fun c => Value.type c.nm) = some (cs.any (isT t))
  | [] => rfl
  | c :: cs => by
    have ih := kitAny_any (K := K) t cs
    have h1 := kit_ty (K := K) (isT_kit t c)
    rw [List.map_cons, List.any_cons]
    cases hb : isT t c with
    | true => exact kitAny_cons (h1.trans (by rw [hb])) (fun z => Bool.noConfusion z) fun _ => rfl
    | false => exact kitAny_cons (h1.trans (by rw [hb])) (fun _ => by rw [Bool.false_or]; exact ih) fun z => Bool.noConfusion z
theorem pairedCls : ∀ cs : List Ty, Paired ClsV (cs.map fun c => V.ty c.nm) (cs.map fun c => Value.type c.nm)
  | [] => .nil
  | c :: cs => .cons (.ty _) (pairedCls cs)
theorem uIsi_eq (c : Ty) (te : TE) : uIsi c te = tCB (rIsiC c) (tCons te (tCons (tC (.ty c.nm)) tNil)) := by
  funext σ H Q
  show te σ H _ = te σ H _
  congr 1; funext x H1
  show _ = (V.ty c.nm = V.ty c.nm ∧ _)
  simp
section
variable {X : Cx} {e : Expr} {te : TE} {p pos q : Pos}
theorem cu_isi (c : Ty) : CallR X (.builtin "isinstance") (rIsiC c) := CallRi call_isi fun xs H Q h => by
  unfold rIsiC at h
  split at h
  · obtain ⟨rfl, h⟩ := h
    obtain ⟨t, e, h⟩ := oK_ex h
    exact ⟨_, _, _, _, _, rfl, .ty _, tyOf_x e, kit_ty (isT_kit _ _), h⟩
  · exact h.elim
theorem cu_isiT (cs : List Ty) : CallR X (.builtin "isinstance") (uIsiT cs) := CallRi call_isiT fun xs H Q h => by
  unfold uIsiT at h
  split at h
  · obtain ⟨h1, h⟩ := h
    obtain ⟨t, e, h⟩ := oK_ex h
    exact ⟨_, _, _, _, _, _, rfl, h1, pairedCls cs, tyOf_x e, kitAny_any _ _, h⟩
  · exact h.elim
theorem pue_isi {n : Str} (c : Ty) (he : PE X e te) (hg : Gl X "isinstance") (hm : X.mg "isinstance" = none) (hn : Gl X n) (hmn : X.mg n = none) (hv : bootBuiltins n = some (.type c.nm)) (hnn : n ≠ "__name__" := by decide) (hnd : (n == ("__debug__" : Str)) = false := by decide)
    (hs1 : starEach [e, .Name n q] X.env = (false, eval e X.env) :: starEach [.Name n q] X.env := by rfl) (hs2 : starEach [.Name n q] X.env = (false, eval (.Name n q) X.env) :: starEach [] X.env := by rfl) (hs3 : ((backTo pos (starEach [.Name n q] X.env)).any fun x => x.fst) = false := by rfl) :
    PE X (.Call (.Name "isinstance" p) [e, .Name n q] [] pos) (uIsi c te) := by
  rw [uIsi_eq]
  have h2 : PE X (.Name n q) (tC (.ty c.nm)) := pe_bltn hn hmn hv rfl hnn hnd
  exact pe_callB (cu_isi c) hg hm (by decide +kernel) (pa_cons he (pa_cons h2 pa_nil hs2) hs1) (by decide) (by decide) hs1 hs3
end
def chars (z : Str) : List V := z.cps.toList.map fun c => V.str ⟨#[c]⟩
/-- the walk over x at H1 -/
def goIt (K : PySem.W.Frag) (x : V) (H1 : Hp) (R : It → Hp → Prop) : Prop := match x with
  | .str z => R (Its z) H1
  | .ref a => (match rdL K H1 a with
    | some _ => R (Itl K a) H1
    | none => (match rdT K H1 a with
      | some _ => R (Itt K a) H1
      | none => False))
  | _ => False
def uIter (K : PySem.W.Frag) (te : TE) : TI := fun σ H R => te σ H fun x H1 => goIt K x H1 R
theorem piu {X : Cx} {tg e : Expr} {te : TE} (he : PE X e te) : PI X tg e (uIter X.K te) := by
  refine ⟨fun pins s σ H R I h => ?_⟩
  refine thn (he.run pins s σ H _ I h) fun v s1 ⟨y, H1, I1, r1, q⟩ => ?_
  dsimp only at q
  unfold goIt at q
  split at q
  · rename_i x
    obtain ⟨t, rfl⟩ := r1
    cases ha : x.cps.all (· < 128)
    · exact wpAny_pyIter_wide ha (pi_one (tk := s1.toks) I1 _ (turn_str _ x t "str_iterator" (.inr rfl)) ⟨_, Heap.get?_push_size _ rfl, rfl, rfl⟩ q)
    · exact wpAny_pyIter_ascii ha (pi_one (tk := s1.toks) I1 _ (turn_str _ x t "str_ascii_iterator" (.inl rfl)) ⟨_, Heap.get?_push_size _ rfl, rfl, rfl⟩ q)
  · rename_i a
    split at q
    · rename_i xs hx
      have hq := rdL_sq hx
      cases r1
      obtain ⟨its, rv, p, hz⟩ := I1.list hq
      refine wpAny_pyIter_list p.isList ?_
      refine ⟨s1.heap.objs.size, [s1.heap.objs.size], _, _, H1, rfl, I1.kept (t' := s1.toks) fun b o e => Heap.get?_push_of_some _ e, turn_list a _, ⟨_, Heap.get?_push_size _ rfl, rfl, rfl⟩, fun b hb => ?_, q⟩
      have e : b = s1.heap.objs.size := by simpa using hb
      subst e
      exact I1.fpOk (Nat.le_refl _) (I1.hok.fresh (Nat.le_refl _))
    · split at q
      · rename_i xs hx
        have hq := rdT_sq hx
        cases r1
        obtain ⟨its, rv, p, hz⟩ := I1.tuple hq
        refine wpAny_pyIter_tuple (show s1.heap.IsTuple a its.toArray from p) ?_
        refine ⟨s1.heap.objs.size, [s1.heap.objs.size], _, _, H1, rfl, I1.kept (t' := s1.toks) fun b o e => Heap.get?_push_of_some _ e, turn_tuple a _, ⟨_, Heap.get?_push_size _ rfl, rfl, rfl⟩, fun b hb => ?_, q⟩
        have e : b = s1.heap.objs.size := by simpa using hb
        subst e
        exact I1.fpOk (Nat.le_refl _) (I1.hok.fresh (Nat.le_refl _))
      · exact q.elim
  · exact q.elim
theorem walk_chars {z : Str} : Walk (Its z) (chars z).length (fun _ => True) (YAt (chars z)) := by
  have hl : (chars z).length = z.cps.size := by unfold chars; simp
  rw [hl]
  refine ⟨fun _ _ hi _ => hi, fun _ _ => Nat.le_refl _, fun i H v H' hi _ y => ?_⟩
  obtain ⟨e, c, hc, rfl⟩ := y
  refine ⟨e, ?_⟩
  unfold chars
  rw [List.getElem?_map, Array.getElem?_toList, hc]
  rfl
/-- what is walked: the value, its items, what must stay -/
inductive Src (K : PySem.W.Frag) : V → It → List V → (Hp → Prop) → Prop
  | str (z : Str) : Src K (.str z) (Its z) (chars z) (fun _ => True)
  | lst (a : Addr) (xs : List V) : Src K (.ref a) (Itl K a) xs (fun H => rdL K H a = some xs)
  | tup (a : Addr) (xs : List V) : Src K (.ref a) (Itt K a) xs (fun H => rdL K H a = none ∧ rdT K H a = some xs)
theorem Src.walk {K : PySem.W.Frag} {x : V} {J : It} {xs : List V} {G : Hp → Prop} (S : Src K x J xs G) : Walk J xs.length G (YAt xs) := by
  cases S with
  | str z => exact walk_chars
  | lst a => exact walk_list.mono (fun _ g => rdL_sq g) fun _ _ _ _ _ _ y => y
  | tup a => exact walk_tup.mono (fun _ g => rdT_sq g.2) fun _ _ _ _ _ _ y => y
theorem Src.go {K : PySem.W.Frag} {x : V} {J : It} {xs : List V} {G : Hp → Prop} (S : Src K x J xs G) {H1 : Hp} (g : G H1) {R : It → Hp → Prop} (h : R J H1) : goIt K x H1 R := by
  cases S with
  | str z => exact h
  | lst a => show match rdL K H1 a with | some _ => _ | none => _; rw [show rdL K H1 a = some xs from g]; exact h
  | tup a =>
    show match rdL K H1 a with | some _ => _ | none => _
    rw [g.1]
    show match rdT K H1 a with | some _ => _ | none => _
    rw [g.2]; exact h
/-- a comprehension over it -/
theorem lc_src {K : PySem.W.Frag} {x : V} {J : It} {xs : List V} {G : Hp → Prop} (S : Src K x J xs G) {g : TG} {tt : TT} {te : TE} {vs : List Nat} {σ : St} {H1 : Hp} {Q : VK} (hG : G H1) (Pv : Addr → Nat → Hp → Prop)
    (h0 : ∀ D, H1 D = none → Pv D 0 (upd H1 D (.lst []))) (hst : ∀ D i H, i ≤ xs.length → Pv D i H → G H)
    (hs : ∀ D i y H, xs[i]? = some y → Pv D i H → g y (wipe σ vs) H fun σ2 H2 => wipe σ2 vs = wipe σ vs ∧ tt σ2 H2 fun b H3 =>
      if b = true then te σ2 H3 fun y H4 => ∃ acc, H4 D = some (.lst acc) ∧ acc.length < sizeLine ∧ Pv D (i + 1) (upd H4 D (.lst (acc ++ [y]))) else Pv D (i + 1) H3) (hd : ∀ D H, H1 D = none → Pv D xs.length H → Q (.ref D) H) :
    goIt K x H1 fun J H1 => ∀ D, H1 D = none → ∃ W : Nat → Nat → Hp → Prop, (∃ m, W 0 m (upd H1 D (.lst []))) ∧ ∀ i m H, W i m H →
      (J.stop i H ∧ Q (.ref D) H) ∨ (J.go i H ∧ ∃ Nx : Hp → Prop, (∀ H', Nx H' → ∃ m', m' < m ∧ W (i + 1) m' H') ∧ ∀ x H', J.yld i H x H' → g x (wipe σ vs) H' fun σ2 H2 => wipe σ2 vs = wipe σ vs ∧ tt σ2 H2 fun b H3 =>
        if b = true then te σ2 H3 fun y H4 => ∃ acc, H4 D = some (.lst acc) ∧ acc.length < sizeLine ∧ Nx (upd H4 D (.lst (acc ++ [y]))) else Nx H3) :=
  S.go hG fun D hD => lc_it S.walk (Pv D) (h0 D hD) (hst D) (fun i y H H' hi p q => by obtain ⟨e, hy⟩ := q; subst e; exact hs D i y _ hy p) fun H p => hd D H hD p
/-- .. whose items are flat: f x where c x -/
theorem take_map {α : Type} {c : V → Bool} {f : V → α} {xs : List V} {i : Nat} {y : V} (h : xs[i]? = some y) :
    (((xs.take (i + 1)).filter c).map f) = ((xs.take i).filter c).map f ++ (if c y then [f y] else []) := by
  rw [List.take_add_one, h, List.filter_append, List.map_append]
  show _ ++ List.map f (List.filter c [y]) = _
  rw [List.filter_cons]
  cases hc : c y <;> simp
theorem lc_flat {K : PySem.W.Frag} {x : V} {J : It} {xs : List V} {G : Hp → Prop} (S : Src K x J xs G) {j : Nat} {tt : TT} {te : TE} {vs : List Nat} {σ : St} {H1 : Hp} {Q : VK} (hG : G H1) (hGx : ∀ H', Ex H1 H' → G H') (c : V → Bool) (f : V → V) (hz : xs.length < sizeLine)
    (hw : ∀ y, wipe ((wipe σ vs).set j (some y)) vs = wipe σ vs)
    (ht : ∀ (i : Nat) y H', xs[i]? = some y → Ex H1 H' → ∀ R : Bool → Hp → Prop, (∀ H2, Ex H' H2 → R (c y) H2) → tt ((wipe σ vs).set j (some y)) H' R)
    (he : ∀ (i : Nat) y H', xs[i]? = some y → c y = true → Ex H1 H' → ∀ R : VK, (∀ H2, Ex H' H2 → R (f y) H2) → te ((wipe σ vs).set j (some y)) H' R)
    (hd : ∀ D H, H1 D = none → Ex H1 H → H D = some (.lst ((xs.filter c).map f)) → Q (.ref D) H) :
    goIt K x H1 fun J H1 => ∀ D, H1 D = none → ∃ W : Nat → Nat → Hp → Prop, (∃ m, W 0 m (upd H1 D (.lst []))) ∧ ∀ i m H, W i m H →
      (J.stop i H ∧ Q (.ref D) H) ∨ (J.go i H ∧ ∃ Nx : Hp → Prop, (∀ H', Nx H' → ∃ m', m' < m ∧ W (i + 1) m' H') ∧ ∀ x H', J.yld i H x H' → gName j x (wipe σ vs) H' fun σ2 H2 => wipe σ2 vs = wipe σ vs ∧ tt σ2 H2 fun b H3 =>
        if b = true then te σ2 H3 fun y H4 => ∃ acc, H4 D = some (.lst acc) ∧ acc.length < sizeLine ∧ Nx (upd H4 D (.lst (acc ++ [y]))) else Nx H3) := by
  refine lc_src S hG (fun D i H => H1 D = none ∧ Ex H1 H ∧ H D = some (.lst (((xs.take i).filter c).map f))) (fun D hD => ⟨hD, Ex.new hD, upd_same⟩) (fun D i H _ p => hGx H p.2.1) ?_ ?_
  · intro D i y H hy ⟨hD, e, hl⟩
    have hi : i < xs.length := (List.getElem?_eq_some_iff.mp hy).1
    refine ⟨hw y, ht i y H hy e _ fun H3 e3 => ?_⟩
    have tm := take_map (c := c) (f := f) hy
    cases hc : c y with
    | false =>
      rw [hc] at tm
      rw [if_neg (by decide)]
      refine ⟨hD, e.trans e3, ?_⟩
      rw [tm]; simp only [Bool.false_eq_true, if_false, List.append_nil]; exact e3 D _ hl
    | true =>
      rw [hc] at tm
      rw [if_pos rfl]
      refine he i y H3 hy hc (e.trans e3) _ fun H4 e4 => ⟨_, e4 D _ (e3 D _ hl), ?_, hD, Ex.mut ((e.trans e3).trans e4) hD, ?_⟩
      · rw [List.length_map]
        have := List.length_filter_le c (xs.take i)
        rw [List.length_take] at this
        omega
      · rw [tm]; simp only [if_true]; exact upd_same
  · intro D H hD ⟨_, e, hl⟩
    rw [List.take_length] at hl
    exact hd D H hD e hl
def uAll (K : PySem.W.Frag) : List V → Hp → VK → Prop := fun xs H Q => match xs with
  | [.ref a] => oK (rdL K H a) fun ys => ∃ bs : List Bool, ys = bs.map V.bl ∧ Q (.bl (bs.all id)) H
  | _ => False
def uList (K : PySem.W.Frag) : List V → Hp → VK → Prop := fun xs H Q => match xs with
  | [.ref a] => oS K H a fun ys => ∀ l, H l = none → Q (.ref l) (upd H l (.lst ys))
  | _ => False
def uTuple (K : PySem.W.Frag) : List V → Hp → VK → Prop := fun xs H Q => match xs with
  | [.ref a] => (match rdL K H a with
    | some ys => ∀ l, H l = none → Q (.ref l) (upd H l (.tup ys))
    | none => (match rdT K H a with
      | some _ => Q (.ref a) H
      | none => False))
  | _ => False
def uJoin (K : PySem.W.Frag) : V → List V → Hp → VK → Prop := fun x xs H Q => match x, xs with
  | .str a, [.ref p] => oS K H p fun vs => ∃ ys : List Str, vs = ys.map V.str ∧ (ys.map (·.length)).sum + ys.length * a.length ≤ 16777216 ∧ Q (.str (Txt.join a ys)) H
  | _, _ => False
/-- a list that may be changed -/
def mutL (H : Hp) (l : Addr) : Option (List V) := match H l with
  | some (.lst xs) => some xs
  | _ => none
theorem mutL_of {H : Hp} {l : Addr} {xs : List V} (h : H l = some (.lst xs)) : mutL H l = some xs := by unfold mutL; rw [h]
theorem of_mutL {H : Hp} {l : Addr} {xs : List V} (h : mutL H l = some xs) : H l = some (.lst xs) := by
  unfold mutL at h
  split at h
  · cases h; assumption
  · cases h
def uAppend : V → List V → Hp → VK → Prop := fun x vs H Q => match x, vs with
  | .ref l, [y] => oK (mutL H l) fun xs => xs.length < sizeLine ∧ Q .non (upd H l (.lst (xs ++ [y])))
  | _, _ => False
def uSetL : V → V → V → Hp → (Hp → Prop) → Prop := fun o i v H Q => match o, i with
  | .ref p, .int k => oK (mutL H p) fun xs => oK (ixN xs.length k) fun j => Q (upd H p (.lst (xs.set j v)))
  | _, _ => False
def tPar2 (i j : Nat) (ta : TA) : TS := fun D σ H => ta σ H fun vs H1 => match vs with
  | [v, w] => D.nx ((σ.set i (some v)).set j (some w)) H1
  | _ => False
def uNeg : V → Hp → VK → Prop := fun x H Q => match x with
  | .int i => Q (.int (-i)) H
  | _ => False
section
variable {X : Cx}
theorem cu_all (hc : X.calm = true) : CallR X (.builtin "all") (uAll X.K) := CallRi (cr_all hc) fun xs H Q h => by
  unfold uAll at h
  split at h
  · obtain ⟨ys, e, bs, rfl, h⟩ := oK_ex h
    exact ⟨_, bs, rfl, rdL_sq e, h⟩
  · exact h.elim
theorem cu_list : CallR X (.type "list") (uList X.K) := CallRi call_list_of fun xs H Q h => by
  unfold uList at h
  split at h
  · obtain ⟨ys, e, h⟩ := h
    exact ⟨_, _, rfl, e, h⟩
  · exact h.elim
theorem cu_tuple : CallR X (.type "tuple") (uTuple X.K) := CallRi call_tuple_of fun xs H Q h => by
  unfold uTuple at h
  split at h
  · split at h
    · exact ⟨_, _, rfl, .inl ⟨rdL_sq (by assumption), h⟩⟩
    · split at h
      · exact ⟨_, _, rfl, .inr ⟨rdT_sq (by assumption), h⟩⟩
      · exact h.elim
  · exact h.elim
theorem mu_join : MtR X "str.join" (uJoin X.K) := MtRi mt_join fun x xs H Q h => by
  unfold uJoin at h
  split at h
  · obtain ⟨vs, e, ys, rfl, h1, h2⟩ := h
    exact ⟨_, _, ys, rfl, rfl, e, h1, h2⟩
  · exact h.elim
theorem mu_append : MtR X "list.append" uAppend := MtRi (r := rAppend) mt_append fun x xs H Q h => by
  unfold uAppend at h
  split at h
  · obtain ⟨xs, e, h1, h2⟩ := oK_ex h
    exact ⟨_, _, _, rfl, rfl, of_mutL e, h1, h2⟩
  · exact h.elim
theorem setu : PSet X uSetL := fun pins s σ H o i v ov iv u Q I ro ri rv h => set_list pins s σ H o i v ov iv u Q I ro ri rv (by
  unfold uSetL at h
  split at h
  · obtain ⟨xs, e, h⟩ := oK_ex h
    obtain ⟨j, e2, h⟩ := oK_ex h
    exact ⟨_, _, _, _, rfl, rfl, of_mutL e, e2, h⟩
  · exact h.elim)
theorem tPar2_eq (i j : Nat) (ta : TA) : tPar2 i j ta = tPar i j ta := by
  funext D σ H
  unfold tPar2 tPar
  congr 1; funext vs H1
  match vs with
  | [] => simp
  | [_] => simp
  | [v, w] => exact propext ⟨fun h => ⟨v, w, rfl, h⟩, fun ⟨_, _, e, h⟩ => by cases e; exact h⟩
  | _ :: _ :: _ :: _ => simp
theorem pus_par {i j : Nat} {x y : Str} {a b : Expr} {ta : TA} {px py pt pos : Pos} {kt k2 pt2} (hc : X.calm = true) (hN : X.N.Nodup) (hi : X.N[i]? = some x) (hj : X.N[j]? = some y) (hij : i ≠ j)
    (hx : X.env.scope.names.lookup x = some .local) (hy : X.env.scope.names.lookup y = some .local) (ha : PA X [a, b] ta)
    (hw : swappedStores [.Tuple [.Name x px, .Name y py] kt pt] (.Tuple [a, b] k2 pt2) X.env = pure (some [x, y]))
    (hs : swapsWithSole [.Tuple [.Name x px, .Name y py] kt pt] (.Tuple [a, b] k2 pt2) pos.line X.env = pure false := by rfl) :
    PS X (.Assign [.Tuple [.Name x px, .Name y py] kt pt] (.Tuple [a, b] k2 pt2) pos) (tPar2 i j ta) := by
  rw [tPar2_eq]; exact ps_par hc hN hi hj hij hx hy ha hw hs
theorem ou_neg : UnR X (unaryOp .USub) uNeg := fun pins s σ H x v Q I r h => un_neg pins s σ H x v Q I r (by
  unfold uNeg at h
  split at h
  · exact ⟨_, rfl, h⟩
  · exact h.elim)
end
abbrev sl (z : Str) : List Nat := z.cps.toList
theorem sl_inj {a b : Str} (h : sl a = sl b) : a = b := by
  obtain ⟨⟨l⟩⟩ := a
  obtain ⟨⟨m⟩⟩ := b
  have h : l = m := h
  subst h; rfl
theorem sl_len (z : Str) : z.length = (sl z).length := rfl
theorem sl_app (a b : Str) : sl (a ++ b) = sl a ++ sl b := TL.tl_append a b
theorem sl_cut (z : Str) (lo hi : Option Int) : sl (cutS z lo hi) = ((sl z).drop (HT.sIx z.length 0 lo)).take (HT.sIx z.length z.length hi - HT.sIx z.length 0 lo) := rfl
theorem sl_join (y : Str) (ps : List Str) : sl (Txt.join y ps) = TL.joinL (sl y) (ps.map sl) := by
  rw [TL.join_eq]; exact TL.tl_join y ps
theorem joinL_nil : ∀ ps : List (List Nat), TL.joinL [] ps = ps.flatten
  | [] => rfl
  | [p] => by simp [TL.joinL]
  | p :: q :: r => by
    show p ++ ([] ++ TL.joinL [] (q :: r)) = _
    rw [joinL_nil (q :: r)]; simp
theorem slen_join0 (ps : List Str) : (Txt.join "" ps).length = (ps.map (·.length)).sum := by
  rw [sl_len, sl_join]
  show (TL.joinL [] _).length = _
  rw [joinL_nil, List.length_flatten, List.map_map]
  rfl
/-- small sizes -/
theorem szl {n : Nat} (h : n ≤ 100000) : n ≤ sizeLine := Nat.le_trans h (by decide)
/-- an item of a list at a drawn place -/
theorem pick {α : Type} {xs : List α} {r : Int} (h0 : 0 ≤ r) (h1 : r < xs.length) : ∃ v, atI xs r = some v ∧ v ∈ xs := by
  have hj : r.toNat < xs.length := by omega
  refine ⟨xs[r.toNat], ?_, List.getElem_mem hj⟩
  unfold atI ixN
  rw [if_pos h0, if_pos h1]
  simp [hj]
def ScriptAt (K : PySem.W.Frag) (H : Hp) (a : Addr) (ns : List Int) : Prop :=
  (∃ o, H a = some (.frz o (.lst (ns.map V.int)))) ∨
    ∃ (o : Obj) (its : Array Value) (n : Nat), K.lookup a = some o ∧ o.cls = .type "list" ∧ o.dict = none ∧ o.data = .seq its n ∧ its.size ≤ sizeLine ∧ Vals (ns.map V.int) its.toList
theorem script_of {K : PySem.W.Frag} {H : Hp} {a : Addr} {ns : List Int} (hO : Only H) (hS : SqL K H a (ns.map V.int)) : ScriptAt K H a ns := by
  rcases hS with (h | ⟨o, h⟩) | h
  · rcases hO a with z | ⟨o, xs, z⟩
    · rw [h] at z; cases z
    · rw [h] at z; cases z
  · exact .inl ⟨o, h⟩
  · exact .inr h
theorem ScriptAt.sq {K : PySem.W.Frag} {H : Hp} {a : Addr} {ns : List Int} (h : ScriptAt K H a ns) : SqL K H a (ns.map V.int) := by
  rcases h with ⟨o, h⟩ | h
  · exact .inl (.inr ⟨o, h⟩)
  · exact .inr h
theorem ScriptAt.ex {K : PySem.W.Frag} {H H' : Hp} {a : Addr} {ns : List Int} (h : ScriptAt K H a ns) (e : Ex H H') : ScriptAt K H' a ns := by
  rcases h with ⟨o, h⟩ | h
  · exact .inl ⟨o, e _ _ h⟩
  · exact .inr h
theorem ScriptAt.fr {K : PySem.W.Frag} {H H' : Hp} {a b : Addr} {ns : List Int} {xs : List V} (h : ScriptAt K H a ns) (e : Fr b H H') (hb : H b = some (.lst xs)) : ScriptAt K H' a ns := by
  rcases h with ⟨o, h⟩ | h
  · exact .inl ⟨o, e _ _ h (ne_of h hb (by intro z; cases z))⟩
  · exact .inr h
/-- all signs are code points -/
def sok (z : Str) : Prop := ∀ c ∈ sl z, c < 1114112
instance (z : Str) : Decidable (sok z) := inferInstanceAs (Decidable (∀ c ∈ sl z, c < 1114112))
end U
namespace U
open PySem PySem.Spec PyProof.Rows L2
structure BaseC (K : PySem.W.Frag) (C0 : Addr) : Prop where
  ga : PySem.W.specialIn K (.ref C0) "__getattribute__" = some (some (.builtin "type.__getattribute__"))
  rd : ∃ mc, PySem.W.readsIn K C0 mc = true ∧ PySem.W.findCls K (.ref C0) mc "__init__" = some (.val (.builtin "ValueError.__init__"))
theorem pe_binit {X : Cx} {x : Str} {C0 : Addr} {e : Expr} {es : List Expr} {ta : TA} {p1 p2 pos : Pos} {pl : Sem Bool} (T0 : BaseC X.K C0) (hg : Gl X x) (hm : X.mg x = some (.ref C0)) (ha : PA X (e :: es) ta)
    (hc : eval (.Call (.Attribute (.Name x p1) "__init__" p2) (e :: es) [] pos) X.env = (do
      let ov ← eval (.Name x p1) X.env
      standAt p2.atName
      let (f, first) ← holding [ov] (getMethod ov "__init__" pl)
      callWith pos f first (backTo pos (starEach (e :: es) X.env)) (backToKw pos (keywordEach [] X.env))) := by rfl)
    (hdb : (x == ("__debug__" : Str)) = false := by decide) (he : starEach (e :: es) X.env = (false, eval e X.env) :: starEach es X.env := by rfl) (hpl : (backTo pos (starEach es X.env)).any (·.1) = false := by rfl) :
    PE X (.Call (.Attribute (.Name x p1) "__init__" p2) (e :: es) [] pos) (tVeI X.K ta) := by
  obtain ⟨mc, hrd, hf⟩ := T0.rd
  constructor
  intro pins s σ H Q I h
  refine PySem.W.methodCall_KW (ld_glob I hg hm ?_ hdb) hc
  refine PySem.W.method_cls I.kIn T0.ga (PySem.W.cls_value I.kIn hrd hf (by decide +kernel) ?_)
  refine PyProof.Rows.callWith_method1 (thn (ha.run pos pins _ σ H _ (I.tok _) h) ?_) he hpl
  rintro us s1 ⟨vs, H1, I1, r1, a, C, ws, rfl, hl, T, ea, q⟩
  match us, r1 with
  | _ :: ur, .cons ra rw' =>
    cases ra
    exact oinit_ok T I1 ea (by rw [← Paired.length rw']; exact szl (by omega)) fun s' J => ⟨.non, H1, J, rfl, q⟩
/-- what the text says of the class x at C with one field f, its __init__ at fI -/
structure ExcC (K : PySem.W.Frag) (mg : Str → Option Value) (x f : Str) (C fI : Addr) : Prop where
  g : mg x = some (.ref C)
  o : OexC K C
  i : PySem.W.findIn K (.ref C) "__init__" = some (some (.ref fI))
  t : PySem.W.typeIn K (.ref fI) = some (.type "function")
  n : PySem.W.findIn K (.ref C) f = some none
  xf : XfC K C
  cl : PySem.W.isClsIn K C = true
/-- the promise of such an __init__ -/
def spI (C : Addr) (f : Str) : Sp := fun vs H Q _ => ∃ (a : Addr) (v : V), vs = [.ref a, v] ∧ H a = some (exo a C none) ∧ ∀ dx, H dx = none → dx ≠ a → Q .non (upd (upd H dx (exd dx [(f, v)])) a (exo a C (some dx)))
theorem len_spI {C : Addr} {f : Str} {vs : List V} {H : Hp} {Q : VK} {E : XK} (h : spI C f vs H Q E) : vs.length = 2 := by
  obtain ⟨a, v, rfl, _⟩ := h; rfl
/-- its body: Base.__init__(self, text); self.f = value -/
def tI (K : PySem.W.Frag) (f : Str) (msg : Str) : TS := tSeq (tDrop (tVeI K (tCons (uVar 0) (tCons (tC (.str msg)) tNil)))) (tOst K f (uVar 0) (uVar 1))
theorem p_init {K : PySem.W.Frag} {mg : Str → Option Value} {x f msg p0 p1 : Str} {C fI : Addr} (T : ExcC K mg x f C fI) {vs : List V} {H : Hp} {Q : VK} {E : XK} (h : spI C f vs H Q E) :
    tI K f msg { nx := fun _ H' => Q .non H', rt := Q } (start [p0, p1] vs) H := by
  obtain ⟨a, v, rfl, ha, k⟩ := h
  refine ⟨a, C, [.str msg], rfl, by show 1 ≤ 1000; decide, T.o, ha, ?_⟩
  exact ⟨a, C, rfl, T.o, T.n, .inl ⟨ha, fun dx hd hne => k dx hd hne⟩⟩
/-- a reading closed under what follows: for rules whose own continuation is to be weakened -/
def mA (t : TA) : TA := fun σ H Q => ∃ R : List V → Hp → Prop, t σ H R ∧ ∀ vs H1, R vs H1 → Q vs H1
theorem pa_m {X : Cx} {es : List Expr} {t : TA} (h : PA X es t) : PA X es (mA t) := ⟨fun pos pins s σ H Q I k => by
  obtain ⟨R, k1, k2⟩ := k
  refine wpAny_mono (h.run pos pins s σ H R I k1) (fun us s1 q => ?_) fun _ _ z => z
  obtain ⟨vs, H1, I1, r1, q1⟩ := q
  exact ⟨vs, H1, I1, r1, k2 _ _ q1⟩⟩
/-- C(e): a new exception with its field -/
def uMk (C : Addr) (f : Str) (ta : TA) : L2.St → Hp → XK → Prop := fun σ H Q => ta σ H fun vs H1 => match vs with
  | [v] => ∀ d, H1 d = none → Q (.ref C) (some d) (upd H1 d (.xd [(f, v)]))
  | _ => False
theorem mk_heap {H1 : Hp} {a dx C : Addr} {f : Str} {v : V} (ha : H1 a = none) (hne : dx ≠ a) :
    upd (del (upd (upd (upd H1 a (exo a C none)) dx (exd dx [(f, v)])) a (exo a C (some dx))) a) dx (.xd [(f, v)]) = upd H1 dx (.xd [(f, v)]) := by
  funext b
  by_cases h1 : b = dx
  · subst h1; rw [upd_same, upd_same]
  · rw [upd_ne h1, upd_ne h1]
    by_cases h2 : b = a
    · subst h2; rw [del_same, ha]
    · rw [del_ne h2, upd_ne h2, upd_ne h1, upd_ne h2]
theorem pmku {X : Cx} {CX : CXT} {x f : Str} {C fI : Addr} {k : Nat} {fd : FuncData} {ps : List Str} {e : Expr} {ta : TA} {p pos : Pos} (T : ExcC X.K X.mg x f C fI) (F1 : FnOk X.prog X.w X.K X.mg X.base CX k fI fd ps (spI C f)) (hr : Room (k + 1) X.A) (hb : Binds X.K fd ps [])
    (hx : Passes CX X (fun _ _ _ => False)) (hg : Gl X x) (ha : PA X [e] ta)
    (hdb : (x == ("__debug__" : Str)) = false := by decide) (he : starEach (e :: []) X.env = (false, eval e X.env) :: starEach [] X.env := by rfl) (hpl : (backTo pos (starEach [] X.env)).any (·.1) = false := by rfl) :
    PMk X (.Call (.Name x p) [e] [] pos) (uMk C f ta) := by
  intro pins s σ H Q I h
  refine pmk_oex T.o T.i T.t F1 hr hb .nil hx hg T.g (pa_m ha) hdb he hpl pins s σ H Q I ⟨_, h, fun vs H1 r => ?_⟩
  match vs, r with
  | [v], r =>
    refine ⟨by show 1 ≤ 1000; decide, fun a hn => ⟨a, v, rfl, upd_same, fun dx hd hne => ⟨rfl, dx, [(f, v)], upd_same, ?_, ?_, ?_⟩⟩⟩
    · rw [upd_ne hne, upd_same]
    · rw [upd_ne hne] at hd; exact hd
    · rw [mk_heap hn hne]
      rw [upd_ne hne] at hd
      exact r dx hd
/-- raise C(e), the wish E of the def -/
def uRaise (C : Addr) (f : Str) (E : XK) (ta : TA) : TS := fun _ σ H => uMk C f ta σ H E
theorem ps_raiseu {X : Cx} {E : XK} {e : Expr} {C : Addr} {f : Str} {ta : TA} {pos : Pos} (hc : X.calm = true) (tk : Takes X (fun cls d _ H => E cls d H)) (he : PMk X e (uMk C f ta)) : PS X (.Raise (some e) none pos) (uRaise C f E ta) := ps_raise hc tk he
structure Cl where
  c : Value
  i : Option Nat
  ts : Addr → Value → Option Addr → TS
def gone (i : Nat) (D : Ends) : Ends := { nx := fun σ H => D.nx (σ.set i none) H, rt := D.rt, bk := fun σ H => D.bk (σ.set i none) H, ct := fun σ H => D.ct (σ.set i none) H }
def clW (K : PySem.W.Frag) (W0 : WX) (D : Ends) : List Cl → WX
  | [] => W0
  | k :: r => fun cls d σ H => oK (PySem.W.exmOne K cls k.c) fun b => bB b (∀ a, H a = none → (match k.i with
    | some i => k.ts a cls d (gone i D) (σ.set i (some (.ref a))) H
    | none => k.ts a cls d D σ H)) (clW K W0 D r cls d σ H)
def uTry (K : PySem.W.Frag) (W0 : WX) (l : List Cl) (tb : WX → TS) : TS := fun D σ H => tb (clW K W0 D l) D σ H
inductive ClsOk (X : Cx) : WX → List ExceptHandler → List Cl → Prop
  | none {W0 : WX} : ClsOk X W0 [] []
  | rest {hs : List ExceptHandler} : ClsOk X (fun _ _ _ _ => False) hs []
  | more {W0 : WX} {x n : Str} {k : Cl} {i : Nat} {st : Stmt} {su : List Stmt} {p1 p2 : Pos} {hs : List ExceptHandler} {l : List Cl} (hc : Names X x k.c) (hki : k.i = some i) (hi : X.N[i]? = some n) (hn : X.env.kindOf n = some .local)
      (hsu : ∀ (a : Addr) (o : Obj) (cls : Value) (d : Option Addr) (pn : List (Addr × Obj)), Zc cls d o → (∃ vs, o.data = .fields vs) → PSs (X.suite a ((a, o) :: pn)) (st :: su) (k.ts a cls d)) (r : ClsOk X W0 hs l) :
      ClsOk X W0 (.ExceptHandler (some (.Name x p1)) (some n) (st :: su) p2 :: hs) (k :: l)
  | only {W0 : WX} {x : Str} {k : Cl} {st : Stmt} {su : List Stmt} {p1 p2 : Pos} {hs : List ExceptHandler} {l : List Cl} (hc : Names X x k.c) (hki : k.i = Option.none)
      (hsu : ∀ (a : Addr) (o : Obj) (cls : Value) (d : Option Addr) (pn : List (Addr × Obj)), Zc cls d o → (∃ vs, o.data = .fields vs) → PSs (X.suite a ((a, o) :: pn)) (st :: su) (k.ts a cls d)) (r : ClsOk X W0 hs l) :
      ClsOk X W0 (.ExceptHandler (some (.Name x p1)) Option.none (st :: su) p2 :: hs) (k :: l)
section
variable {X : Cx} {W0 : WX} {pins : List (Addr × Obj)} {a : Addr}
/-- the clauses, one behind another, with the exception at a -/
theorem clauses_run {B : Heap} {s' sI : Shared} {h3 : Heap} {σ : L2.St} {H : Hp} {cls : Value} {d : Option Addr} {D : Ends} (ok : X.Ok) (hN : X.N.Nodup) (hst : X.stack = X.env :: X.outer) (hf : X.env.frame = some X.env.locals) (tk : Takes X W0)
    (J : Inv X pins σ H sI) (nb : ∀ b o, sI.heap.get? b = some o → b ∉ frs X.stack → B.get? b = some o) (up : sI.heap.UpToSlots h3) (os : s'.os = sI.os) (ag : AllBare s'.gens) (na : H a = none)
    (fl : HandSPX.FlyingZ B (X.env :: X.outer) a (Zc cls d) h3) : ∀ {hs : List ExceptHandler} {l : List Cl}, ClsOk X W0 hs l → clW X.K W0 D l cls d σ H →
      wpAny (model X.prog X.w) X.A (handleBy (.ref a) X.env hs) (SP X pins D) X.xe { s' with heap := h3 } := by
  intro hs l hk
  obtain ⟨o1, v1, g1, z1, d1⟩ := fl.there
  have J1 : Inv X pins σ H { s' with heap := h3 } := J.landed nb fl.1 up os ag
  have off : a ∉ frs (X.env :: X.outer) := fun hm => by
    obtain ⟨_, o, e, nf⟩ := fl.2.2.1.mem hm
    rw [g1] at e; cases e
    exact nf _ d1
  have offL : a ≠ X.env.locals := fun z => off (List.mem_filterMap.mpr ⟨X.env, List.mem_cons_self, by rw [hf, z]⟩)
  have offF : a ∉ X.fs := fun hm => by
    obtain ⟨v, hv, q⟩ := List.mem_filterMap.mp hm
    exact off (List.mem_filterMap.mpr ⟨v, List.mem_cons_of_mem _ hv, q⟩)
  induction hk with
  | rest => intro w; exact w.elim
  | none =>
    intro w
    refine wpAny_handleBy_nil ?_
    obtain ⟨_, _, _, o2, v2, T, _, _, g2, _, d2, t1, _⟩ := id fl
    unfold PySem.passOn
    refine wpAny_bind (wpAny_field g2 d2 t1 ?_)
    rw [if_neg (show ¬ ((Value.ref T == Value.none) = true) from by simp)]
    have out : wpAny (model X.prog X.w) X.A (setFlight (.ref a) X.env.frame) (fun _ s4 => wpAny (model X.prog X.w) X.A (throw (.ref a) : Sem Flow) (SP X pins D) X.xe s4) X.xe { s' with heap := h3 } := by
      rw [hf]
      exact HandSPX.setFlight_upZ fl fun h4 q4 u4 => wpAny_throw (tk _ _ ⟨a, B, sI, pins, σ, H, cls, d, rfl, J, nb, up.trans u4, .inr (.inr (by rw [hst]; exact q4)), na, os, ag, w⟩)
    first
      | exact wpAny_bind (wpAny_pure (wpAny_bind out))
      | exact wpAny_bind out
  | @more W0 x n k i st su p1 p2 hs2 l2 hc hki hi hn hsu r ih =>
    intro w
    obtain ⟨b, hb, w⟩ := oK_ex w
    refine wpAny_handleBy_cons (codeAny_handlers_test ?_) (by intro q; cases q)
    have S1 := J1.suite g1 d1 na offL offF
    have LM := PySem.W.exm_one (M := model X.prog X.w) J1.kIn (fun A Q E s k q => wpAny_typeOf_ref (k _ _ g1) (by rw [z1.1]; exact q)) hb
    have look : ∀ {Q E : Value → Shared → Prop}, Q k.c { s' with heap := h3 } → wpAny (model X.prog X.w) (X.A.mark (some (.ref a))) (eval (.Name x p1) X.env) Q E { s' with heap := h3 } := fun {Q E} q => by
      obtain ⟨y1, y2, y3 | ⟨y3, y4, y5⟩⟩ := hc
      · exact ld_glob (X := X.suite a ((a, o1) :: (X.pn ++ pins))) S1 y1 y3 q y2
      · exact ld_blt (X := X.suite a ((a, o1) :: (X.pn ++ pins))) S1 y1 y3 y4 q y5 y2
    refine look (LM.here ?_)
    cases b with
    | false =>
      show wpAny _ X.A (handleBy (.ref a) X.env hs2) _ _ _
      exact ih tk w
    | true =>
      have w : ∀ a, H a = Option.none → k.ts a cls d (gone i D) (σ.set i (some (.ref a))) H := fun a ha => by have w2 := w a ha; rw [hki] at w2; exact w2
      refine codeAny_handlers_suite_as (HandSPX.lands_againZ fl fun h4 fl4 u4 => ?_)
      obtain ⟨o4, v4, g4, z4, d4⟩ := fl4.there
      have S4 := (show Inv X pins σ H { s' with heap := h4 } from J.landed nb fl4.1 (up.trans u4) os ag).suite g4 d4 na offL offF
      refine store_ok (X := X.suite a ((a, o4) :: (X.pn ++ pins))) (v := .ref a) S4 hN hi (.inl hn) rfl (fun s5 S5 => ?_) (.inr hn)
      refine wpAny_mono ((hsu a o4 cls d (X.pn ++ pins) z4 ⟨_, d4⟩).run [] s5 _ H _ S5 (w a na)) (fun fl s6 q => ?_) (fun _ _ z => z.elim)
      have leave : ∀ {σ6 : L2.St} {H6 : Hp} {R : Shared → Prop}, Inv (X.suite a ((a, o4) :: (X.pn ++ pins))) [] σ6 H6 s6 → (∀ s7, Inv X pins (σ6.set i Option.none) H6 s7 → R s7) →
          wpAny (model X.prog X.w) X.A (do bindName X.env n .none; unbindBehindTheSuite X.env n p2) (fun _ s7 => R s7) X.xe s6 := fun {σ6 H6 R} S6 hq => gone_ok (S6.unsuite ok) hN hi hn hq
      cases fl with
      | ret u =>
        obtain ⟨v6, σ6, H6, S6, r6, q6⟩ := q
        exact leave S6 fun s7 J7 => ⟨v6, _, H6, J7, r6, q6⟩
      | next =>
        obtain ⟨σ6, H6, S6, q6⟩ := q
        exact leave S6 fun s7 J7 => ⟨_, H6, J7, q6⟩
      | brk =>
        obtain ⟨σ6, H6, S6, q6⟩ := q
        exact leave S6 fun s7 J7 => ⟨_, H6, J7, q6⟩
      | cont =>
        obtain ⟨σ6, H6, S6, q6⟩ := q
        exact leave S6 fun s7 J7 => ⟨_, H6, J7, q6⟩
  | @only W0 x k st su p1 p2 hs2 l2 hc hki hsu r ih =>
    intro w
    obtain ⟨b, hb, w⟩ := oK_ex w
    refine wpAny_handleBy_cons (codeAny_handlers_test ?_) (by intro q; cases q)
    have S1 := J1.suite g1 d1 na offL offF
    have LM := PySem.W.exm_one (M := model X.prog X.w) J1.kIn (fun A Q E s k q => wpAny_typeOf_ref (k _ _ g1) (by rw [z1.1]; exact q)) hb
    have look : ∀ {Q E : Value → Shared → Prop}, Q k.c { s' with heap := h3 } → wpAny (model X.prog X.w) (X.A.mark (some (.ref a))) (eval (.Name x p1) X.env) Q E { s' with heap := h3 } := fun {Q E} q => by
      obtain ⟨y1, y2, y3 | ⟨y3, y4, y5⟩⟩ := hc
      · exact ld_glob (X := X.suite a ((a, o1) :: (X.pn ++ pins))) S1 y1 y3 q y2
      · exact ld_blt (X := X.suite a ((a, o1) :: (X.pn ++ pins))) S1 y1 y3 y4 q y5 y2
    refine look (LM.here ?_)
    cases b with
    | false =>
      show wpAny _ X.A (handleBy (.ref a) X.env hs2) _ _ _
      exact ih tk w
    | true =>
      have w : ∀ a, H a = Option.none → k.ts a cls d D σ H := fun a ha => by have w2 := w a ha; rw [hki] at w2; exact w2
      refine codeAny_handlers_suite (HandSPX.lands_againZ fl fun h4 fl4 u4 => ?_)
      obtain ⟨o4, v4, g4, z4, d4⟩ := fl4.there
      have S4 := (show Inv X pins σ H { s' with heap := h4 } from J.landed nb fl4.1 (up.trans u4) os ag).suite g4 d4 na offL offF
      refine wpAny_mono ((hsu a o4 cls d (X.pn ++ pins) z4 ⟨_, d4⟩).run [] _ _ H _ S4 (w a na)) (fun fl s6 q => ?_) (fun _ _ z => z.elim)
      cases fl with
      | ret u =>
        obtain ⟨v6, σ6, H6, S6, r6, q6⟩ := q
        exact ⟨v6, _, H6, S6.unsuite ok, r6, q6⟩
      | next =>
        obtain ⟨σ6, H6, S6, q6⟩ := q
        exact ⟨_, H6, S6.unsuite ok, q6⟩
      | brk =>
        obtain ⟨σ6, H6, S6, q6⟩ := q
        exact ⟨_, H6, S6.unsuite ok, q6⟩
      | cont =>
        obtain ⟨σ6, H6, S6, q6⟩ := q
        exact ⟨_, H6, S6.unsuite ok, q6⟩
theorem pus_try {body : List Stmt} {h0 : ExceptHandler} {hs : List ExceptHandler} {l : List Cl} {pos : Pos} {tb : WX → TS} (hst : X.stack = X.env :: X.outer) (hf : X.env.frame = some X.env.locals) (hN : X.N.Nodup) (tk : Takes X W0)
    (hb : ∀ (W : WX) (pn : List (Addr × Obj)) (xe : Value → Shared → Prop), Takes (X.tr pn xe) W → PassesOwn (model X.prog X.w) X.A X.env xe → PSs (X.tr pn xe) body (tb W)) (hk : ClsOk X W0 (h0 :: hs) l) :
    PS X (.Try body (h0 :: hs) [] [] pos) (uTry X.K W0 l tb) := ⟨fun pins s σ H D I h => by
  have ok := I.ok
  have fr : X.A.frames = some (X.env :: X.outer) := by rw [ok.frames, hst]
  refine wpAny_Try_except (wpAny_mono ((hb (clW X.K W0 D l) (X.pn ++ pins) _ (fun u s' y => ?_) PassesOwn.looking).run [] s σ H D (I.toTry _) h) (fun f s1 q => ?_) fun e s1 q => q)
  · obtain ⟨a, B, sI, _, σ', H', cls, d, rfl, J, nb, up, sky, na, os, ag, w⟩ := y
    show wpAny (model X.prog X.w) X.A (noteFrame (.ref a) X.env) _ _ _
    exact Sky.land Zc.steady fr hf (by rw [← hst]; exact sky) fun h3 fl3 u3 => clauses_run ok hN hst hf tk (J.ofTry ok) nb (up.trans u3) os ag na fl3 hk w
  · cases f with
    | next =>
      obtain ⟨σ', H', J, q⟩ := q
      exact wpAny_execs_nil ⟨σ', H', J.ofTry ok, q⟩
    | ret u =>
      obtain ⟨v, σ', H', J, r, q⟩ := q
      exact ⟨v, σ', H', J.ofTry ok, r, q⟩
    | brk =>
      obtain ⟨σ', H', J, q⟩ := q
      exact ⟨σ', H', J.ofTry ok, q⟩
    | cont =>
      obtain ⟨σ', H', J, q⟩ := q
      exact ⟨σ', H', J.ofTry ok, q⟩⟩
end
/-- n.f in a suite, n in slot i -/
def uXf (K : PySem.W.Frag) (a : Addr) (cls : Value) (d : Option Addr) (i : Nat) (f : Str) : TE := fun σ H Q => ∃ (C dd : Addr) (fs : List (Str × V)) (v : V), cls = .ref C ∧ XfC K C ∧ PySem.W.findIn K (.ref C) f = some none ∧ σ[i]? = some (some (.ref a)) ∧
  d = some dd ∧ H dd = some (.xd fs) ∧ fs.lookup f = some v ∧ Q v H
theorem pue_xf {X : Cx} {a : Addr} {oe : Obj} {cls : Value} {d : Option Addr} {pn : List (Addr × Obj)} (i : Nat) {x n : Str} {p pos : Pos} (hz : Zc cls d oe) (hf : ∃ vs, oe.data = .fields vs) (hN : X.N[i]? = some x := by rfl)
    (hv : Vis X.env.scope x := by exact Or.inl rfl) (hd : (x == ("__debug__" : Str)) = false := by decide) (hcd : (x == ("__classdict__" : Str)) = false := by decide)
    (hb : attributeBase (.Name x p) n X.env (eval (.Name x p) X.env) = eval (.Name x p) X.env := by rfl) : PE (X.suite a ((a, oe) :: pn)) (.Attribute (.Name x p) n pos) (uXf X.K a cls d i n) := ⟨fun pins s σ H Q I h => by
  obtain ⟨C, dd, fs, v, rfl, T, hno, e, rfl, h1, h2, q⟩ := h
  exact (pe_xf T hno hz hf (pe_var (X := X.suite a ((a, oe) :: pn)) hN hv hd hcd) hb).run pins s σ H Q I ⟨_, e, rfl, rfl, dd, fs, v, rfl, h1, h2, q⟩⟩
/-- whether a clause takes an exception -/
theorem exm_of {K : PySem.W.Frag} {S C : Addr} {b : Bool} (h1 : PySem.W.subIn K (.ref C) (.type "BaseException") = some true) (h2 : PySem.W.isClsIn K C = true) (h3 : PySem.W.typeIn K (.ref C) = some (.type "type")) (h4 : PySem.W.subIn K (.ref S) (.ref C) = some b) :
    PySem.W.exmOne K (.ref S) (.ref C) = some b := by
  have y : (PySem.W.clsIn K C).isSome = true := h2
  unfold PySem.W.exmOne
  rw [h1]
  show (if ((PySem.W.clsIn K C).isSome && PySem.W.typeIn K (.ref C) == some (.type "type")) = true then PySem.W.subIn K (.ref S) (.ref C) else none) = some b
  rw [y, h3]
  exact h4
end U
namespace U
open PySem PySem.Spec PyProof.Rows L2
structure FnG (P : Program) (w : World) (K : PySem.W.Frag) (mg : Str → Option Value) (base : Heap) (CX : CXT) (k : Nat) (f : Addr) (fd : FuncData) (ps : List Str) (sp : Sp) : Prop where
  len : ∀ vs H Q E, sp vs H Q E → vs.length = ps.length
  run : ∀ (A : Around) (outer : List Env) (s : Shared) (H : Hp) (args : Args) (us : List Value) (vs : List V) (Q : VK) (E : XK), A.guards = some [] → Room k A → Env0 P w K mg base A outer s H →
    BindsTo s fd args (ps.zip us) → Vals vs us → sp vs H Q E → codeAny (model P w) A (.call (.ref f) args) (CR CX outer P w H s Q E) s
section
variable {P : Program} {w : World} {K : PySem.W.Frag} {mg : Str → Option Value} {base : Heap}
theorem fn_ofG {CX : CXT} {k : Nat} {f : Addr} {x qual : Str} {st : Stmt} {fd : FuncData} {N ps : List Str} {sp : Sp} (F : Fun K x qual st f fd) (S : FnScope N ps (defScope st)) (len : ∀ vs H Q E, sp vs H Q E → vs.length = ps.length)
    (body : ∀ (cdv : Value) (A : Around) (outer : List Env) (s : Shared) (H : Hp) (vs : List V) (Q : VK) (E : XK), A.guards = some [] → Room k (A.deeper (envOfC qual (defScope st) s.heap.objs.size f cdv)) → sp vs H Q E →
      ∃ t, PSs (cxOf CX P w K mg base N qual (defScope st) f cdv A outer s H E) (defBody st) t ∧ t { nx := fun _ H' => Q .non H', rt := Q } (start N vs) H) : FnG P w K mg base CX (k + 1) f fd ps sp := by
  obtain ⟨oc, od, kV, doc, pm, an, cdv, ct, osl, rfl, lk, hcd⟩ := F.ex
  refine ⟨len, fun A outer s H args us vs Q E hg hr e0 hb rv h => ?_⟩
  have kin : K.In s.heap := e0.mod.kin.keeps fun b o z => (e0.bs b o z).1
  have nl : s.heap.NoLimit := e0.mod.nolimit.keeps fun b o z => (e0.bs b o z).1
  obtain ⟨t, ht, hq⟩ := body cdv A outer s H vs Q E hg (hr.deeper _) h
  refine codeAny_call_function hr.depth (kin _ _ lk) rfl S.co S.gen rfl (PySem.W.codeRec_of kin hcd) (hb _ _ _ _ (wpAny_newFunctionEnv_cells S.kind (fun ⟨n, v⟩ hy => ?_) fun env he s1 y => ?_))
  · rcases S.par n (List.of_mem_zip hy).1 with q | q
    · exact .inl q
    · exact .inr ⟨q, PySem.W.cellsFrom_some _ _ _ (.inl q)⟩
  subst he
  refine ⟨nl.keeps y.toInCall.keep, codeAny_func (wpAny_mono (ht.run [] s1 (start N vs) H _ (inv_start S hr.hd e0 (len _ _ _ _ h) rv y) hq) (fun fl s' q => ?_) fun _ _ q => q)⟩
  cases fl with
  | next =>
    obtain ⟨_, H', J, q⟩ := q
    exact ⟨V.non, H', J.os, J.bare, J.base, J.hok, rfl, q⟩
  | ret u =>
    obtain ⟨v, _, H', J, r, q⟩ := q
    exact ⟨v, H', J.os, J.bare, J.base, J.hok, r, q⟩
  | brk =>
    obtain ⟨_, _, _, q⟩ := q
    exact q.elim
  | cont =>
    obtain ⟨_, _, _, q⟩ := q
    exact q.elim
theorem okG {k : Nat} {f : Addr} {x qual : Str} {st : Stmt} {fd : FuncData} {N ps : List Str} {sp : Sp} (F : Fun K x qual st f fd) (S : FnScope N ps (defScope st)) (len : ∀ vs H Q E, sp vs H Q E → vs.length = ps.length)
    (body : ∀ (cdv : Value) (A : Around) (outer : List Env) (s : Shared) (H : Hp) (vs : List V) (Q : VK) (E : XK), A.guards = some [] → Room k (A.deeper (envOfC qual (defScope st) s.heap.objs.size f cdv)) → sp vs H Q E →
      ∃ t, PSs (cxOf CX0 P w K mg base N qual (defScope st) f cdv A outer s H E).nox (defBody st) t ∧ t { nx := fun _ H' => Q .non H', rt := Q } (start N vs) H) : FnG P w K mg base CX0 (k + 1) f fd ps sp :=
  fn_ofG F S len fun cdv A outer s H vs Q E hg hr h => by
    obtain ⟨t, h1, h2⟩ := body cdv A outer s H vs Q E hg hr h
    exact ⟨t, h1.nox, h2⟩
end
section
variable {X : Cx} {CX : CXT} {k : Nat} {f : Addr} {fd : FuncData} {ps : List Str} {sp : Sp} {E : XK} {x : Str} {p pos : Pos} {e : Expr} {es : List Expr} {t : TA}
theorem run_fnG {pins : List (Addr × Obj)} {σ : L2.St} {H : Hp} {s : Shared} {Q : VK} {us : List Value} {vs : List V} (F : FnG X.prog X.w X.K X.mg X.base CX k f fd ps sp) (hg : X.A.guards = some []) (hr : Room k X.A) (hb : Binds X.K fd ps []) (hx : Passes CX X E)
    (I : Inv X pins σ H s) (r : Vals vs us) (h : sp (vs ++ []) H Q E) : wpAny (model X.prog X.w) X.A (call (.ref f) us) (EP X pins σ Q) X.xe s := by
  rw [List.append_nil] at h
  have hl : us.length = ps.length := by rw [← r.length]; exact F.len _ _ _ _ h
  have b := hb s us I.kIn (by rw [List.append_nil]; exact hl)
  rw [List.append_nil] at b
  refine wpAny_call (codeAny_mono (F.run X.A X.stack s H ⟨us, []⟩ us vs Q E hg hr I.env0 b r h) fun r s' q => ?_)
  match r, q with
  | .error er, q => exact hx pins σ H s er s' I q
  | .ok (.ret u), q => exact I.after q
theorem pe_callG (F : FnG X.prog X.w X.K X.mg X.base CX k f fd ps sp) (hgd : X.A.guards = some []) (hr : Room k X.A) (hg : Gl X x) (hm : X.mg x = some (.ref f)) (hk : PySem.W.keepIn X.K (.ref f) = true) (hb : Binds X.K fd ps []) (hx : Passes CX X E)
    (ha : PA X (e :: es) t) (hdb : (x == ("__debug__" : Str)) = false := by decide) (he : starEach (e :: es) X.env = (false, eval e X.env) :: starEach es X.env := by rfl) (hpl : (backTo pos (starEach es X.env)).any (·.1) = false := by rfl) :
    PE X (.Call (.Name x p) (e :: es) [] pos) (tCall sp [] E t) := ⟨fun pins s σ H Q I h => wpAny_Call_Name_kw (ld_glob I hg hm (PySem.W.callWith_K (h₀ := X.base) I.ok.mod.kin hk
      (thn (ha.run pos pins s σ H _ I h) fun us s1 ⟨vs, H1, I1, r, q⟩ => ⟨I1.kIn, run_fnG F hgd hr hb hx I1 r q⟩) he hpl) hdb)⟩
end
theorem law_callG {P : Program} {w : World} {K : PySem.W.Frag} {mg mb : Str → Option Value} {CX : CXT} {k : Nat} {fa a : Addr} {fd : FuncData} {x : Str} {sp : Sp} {s₁ : Shared} {vs : List Value} {ns : List Int}
    (KX : K.In s₁.heap) (hns : s₁.heap.Ns mainGlobals mg) (hb : s₁.heap.Ns builtinsNs mb) (hbb : ∀ x : Str, x ≠ "__name__" → mb x = bootBuiltins x) (nl : s₁.heap.NoLimit) (hg : s₁.gens = #[])
    (ha : s₁.heap.get? a = some { cls := .type "list", data := .seq vs.toArray }) (hi : IntsAre vs ns) (hl : ns.length ≤ sizeLine) (hr : Room k callerA)
    (F : ∀ base : Heap, K.In base → base.Ns mainGlobals mg → FnG P w K mg base CX k fa fd [x] sp) (bind : ∀ (s : Shared) (u : Value), BindsTo s fd ⟨[u], []⟩ [(x, u)])
    (hsp : ∀ H : Hp, Only H → SqL K H a (ns.map V.int) → sp [.ref a] H (fun v _ => v = .bl true) fun _ _ _ => False)
    (hCX : ∀ H e s', CX [] H s₁ (fun _ _ _ => False) e s' → False) :
    codeAny (model P w) callerA (.call (.ref fa) ⟨[.ref a], []⟩) (fun r s' => r = .ok (.ret (.bool true)) ∧ OldK s₁.heap s'.heap ∧ s'.os = s₁.os ∧ AllBare s'.gens) s₁ := by
  have start : ∀ H : Hp, Only H → SqL K H a (ns.map V.int) → HOk P w H s₁.heap → (∀ b, H b ≠ none → b = a) → (H a ≠ none → K.lookup a = none) →
      codeAny (model P w) callerA (.call (.ref fa) ⟨[.ref a], []⟩) (fun r s' => r = .ok (.ret (.bool true)) ∧ OldK s₁.heap s'.heap ∧ s'.os = s₁.os ∧ AllBare s'.gens) s₁ := fun H hO hS hok only free => by
    have atA : ∀ {b : Addr} {u : HO}, H b = some u → b = a := fun {b u} q => only b (by rw [q]; simp)
    have nsH : ∀ {b : Addr} {m : Str → Option Value}, s₁.heap.Ns b m → (hidT s₁.heap H).Ns b m := fun {b m} ⟨o, es, ep, e, d, r⟩ => ⟨o, es, ep, hidT_get e (by
      cases q : H b with
      | none => rfl
      | some u =>
        rw [atA q, ha] at e; cases e
        exact nomatch d), d, r⟩
    have kinH : K.In (hidT s₁.heap H) := fun b o e => hidT_get (KX b o e) (by
      cases q : H b with
      | none => rfl
      | some u =>
        have z := atA q
        subst z
        rw [free (by rw [q]; simp)] at e; cases e)
    have env : Env0 P w K mg (hidT s₁.heap H) callerA [] s₁ H := ⟨rfl, ⟨kinH, nsH hns, ⟨mb, nsH hb, hbb⟩, let ⟨mc, h1, h2⟩ := nl; ⟨mc, nsH h1, h2⟩⟩, fun b o e => of_hidT e, Nat.le_of_eq (hidT_size _ _), trivial,
      fun b hb => absurd (show b ∈ ([] : List Addr) from hb) (by simp), hok, .of_eq hg⟩
    refine codeAny_mono ((F _ kinH (nsH hns)).run callerA [] s₁ H ⟨[.ref a], []⟩ [.ref a] [.ref a] _ _ rfl hr env (bind s₁ (.ref a)) (.cons rfl .nil) (hsp H hO hS)) fun r s' h => ?_
    match r, h with
    | .error er, h => exact (hCX H er s' h).elim
    | .ok (.ret u), h =>
      obtain ⟨v, H', os, bare, un, hok', r', q⟩ := h
      obtain rfl : v = .bl true := q
      obtain rfl : u = Value.bool true := r'
      refine ⟨rfl, OldK.of_keep fun b o e => ?_, os, bare⟩
      cases q : H b with
      | none => exact un.keep b o e q (by intro z; exact absurd (show b ∈ ([] : List Addr) from z) (by simp)) (by simp)
      | some u =>
        rcases hO b with z | ⟨ob, xs, z⟩
        · rw [q] at z; cases z
        · obtain ⟨e1, _⟩ := hok b _ z
          obtain ⟨e2, _⟩ := hok' b _ (un.frzs b ob _ z)
          rw [e] at e1; cases e1
          exact e2
  cases hk : K.lookup a with
  | some o =>
    have e := KX a o hk
    rw [ha] at e
    cases e
    exact start (fun _ => none) (fun _ => .inl rfl) (.inr ⟨_, vs.toArray, _, hk, rfl, rfl, rfl, by rw [List.size_toArray, hi.length]; exact hl, by simpa using vals_ints hi⟩) (fun b u z => nomatch (show (none : Option HO) = some u from z)) (fun b z => absurd rfl z) fun z => absurd rfl z
  | none =>
    let ob : Obj := { cls := .type "list", data := .seq vs.toArray }
    refine start (fun b => if b = a then some (.frz ob (.lst (ns.map V.int))) else none) (fun b => ?_) (.inl (.inr ⟨ob, if_pos rfl⟩)) (fun b u z => ?_) (fun b z => ?_) fun _ => hk
    · by_cases hb : b = a
      · exact .inr ⟨_, _, if_pos hb⟩
      · exact .inl (if_neg hb)
    · by_cases hb : b = a
      · have y := (if_pos hb).symm.trans z
        cases y
        subst hb
        exact ⟨ha, by rw [List.length_map]; exact hl, vs, _, vals_ints hi, ha⟩
      · exact nomatch (if_neg hb).symm.trans z
    · by_cases hb : b = a
      · exact hb
      · exact absurd (if_neg hb) z
theorem walk_ofG {l : PySem.W.OpenLaw} {n k : Nat} {q : Program} {loose : List Str} {XP : (Str → Option Value) → Heap → Prop} {YP : World → Heap → Prop} {d : DefRec} {K : Params → PySem.W.Frag} {x : Str} {sp : World → (Nat → Addr) → Sp}
    (hn : l.most = some n) (hn2 : n ≤ sizeLine) (hdf : d.params.defaults = []) (hr : Room k callerA) (hY : ∀ (w : World) (h : Heap), YP w h → (K w.params).In h)
    (F : ∀ (w : World) (mg : Str → Option Value) (fa : Addr) (h : Heap), (K w.params).In h → h.Ns mainGlobals mg → mg d.name = some (.ref fa) →
      ∃ (ca : Nat → Addr) (fd : FuncData), (∀ (s : Shared) (u : Value), BindsTo s fd ⟨[u], []⟩ [(x, u)]) ∧ ∀ base : Heap, (K w.params).In base → base.Ns mainGlobals mg → FnG l.prog w (K w.params) mg base CX0 k fa fd [x] (sp w ca))
    (hsp : ∀ (w : World) (ca : Nat → Addr) (H : Hp) (a : Addr) (ns : List Int), ns.length ≤ n → Only H → SqL (K w.params) H a (ns.map V.int) → sp w ca [.ref a] H (fun v _ => v = .bl true) fun _ _ _ => False) :
    PySem.W.WalkO q loose XP YP l.row.toRowW d [] (fun f vs => PySem.call f vs) := by
  refine Att.attach_call hn hdf fun w s₀ s₁ mg mb fa o pm cd doc a vs ns G Y ho hd hcd hmg hobj hints hlen hg => ?_
  obtain ⟨ca, fd, hb, hF⟩ := F w mg fa _ (hY w _ Y) G.T.g hmg
  exact law_callG (hY w _ Y) G.T.g G.T.b G.T.builtins G.T.nolimit hg hobj hints (Nat.le_trans hlen hn2) hr hF hb (fun H hO hS => hsp w ca H a ns hlen hO hS) fun _ _ _ z => z
end U
namespace U
open PySem PySem.Spec PyProof.Rows L2
def Sm (K : PySem.W.Frag) (H : Hp) : Nat → V → V → Prop
  | 0 => fun _ _ => False
  | n + 1 => fun x y => (x = y ∧ flatB x = true) ∨ (∃ a, x = .ref a ∧ y = .ref a) ∨ ∃ a b xs ys, x = .ref a ∧ y = .ref b ∧ SqL K H a xs ∧ SqL K H b ys ∧ Paired (Sm K H n) xs ys
section
variable {X : Cx} {pins : List (Addr × Obj)} {σ : L2.St} {H : Hp} {s : Shared}
theorem sm_items {A : Around} {F : V → V → Prop} (ih : ∀ x y v u, F x y → RelV x v → RelV y u → SeqAt.EqAt A s v u true) : ∀ {xs ys : List V} {us ws : List Value}, Paired F xs ys → Vals xs us → Vals ys ws →
    us.length = ws.length ∧ ∀ j (h1 : j < us.length) (h2 : j < ws.length), SeqAt.EqAt A s us[j] ws[j] true
  | _, _, _, _, .nil, .nil, .nil => ⟨rfl, fun j h1 _ => absurd h1 (Nat.not_lt_zero j)⟩
  | _, _, _, _, .cons h t, .cons a1 b1, .cons a2 b2 => by
    obtain ⟨e, k⟩ := sm_items ih t b1 b2
    refine ⟨congrArg Nat.succ e, fun j h1 h2 => ?_⟩
    cases j with
    | zero => exact ih _ _ _ _ h a1 a2
    | succ j => exact k j (Nat.lt_of_succ_lt_succ h1) (Nat.lt_of_succ_lt_succ h2)
theorem sm_lists (I : Inv X pins σ H s) {A : Around} {F : V → V → Prop} (ih : ∀ x y v u, F x y → RelV x v → RelV y u → SeqAt.EqAt A s v u true) {a b : Addr} {xs ys : List V} (ha : SqL X.K H a xs) (hb : SqL X.K H b ys) (p : Paired F xs ys) :
    ∃ us ws : List Value, s.heap.IsList a us.toArray ∧ s.heap.IsList b ws.toArray ∧ us.toArray.size = ws.toArray.size ∧ ∀ j (h1 : j < us.toArray.size) (h2 : j < ws.toArray.size), SeqAt.EqAt A s us.toArray[j] ws.toArray[j] true := by
  obtain ⟨us, r1, p1, _⟩ := I.list ha
  obtain ⟨ws, r2, p2, _⟩ := I.list hb
  obtain ⟨e, k⟩ := sm_items ih p r1 r2
  exact ⟨us, ws, p1.isList, p2.isList, by simpa using e, fun j h1 h2 => by simpa using k j (by simpa using h1) (by simpa using h2)⟩
theorem allT (n : Nat) : ((List.range n).all fun _ => true) = true := List.all_eq_true.mpr fun _ _ => rfl
theorem sm_run (I : Inv X pins σ H s) : ∀ (n : Nat) (A : Around), A.units + n < cLine → ∀ (x y : V) (v u : Value), Sm X.K H n x y → RelV x v → RelV y u → SeqAt.EqAt A s v u true
  | 0, _, _, _, _, _, _, h, _, _ => (show False from h).elim
  | n + 1, A, hu, x, y, v, u, h, rx, ry => by
    rcases h with ⟨rfl, f⟩ | ⟨a, rfl, rfl⟩ | ⟨a, b, xs, ys, rfl, rfl, ha, hb, p⟩
    · exact eqAt_same rx ry f
    · cases (show v = Value.ref a from rx)
      cases (show u = Value.ref a from ry)
      exact SeqAt.EqAt.same _
    · cases (show v = Value.ref a from rx)
      cases (show u = Value.ref b from ry)
      by_cases e : a = b
      · subst e; exact SeqAt.EqAt.same _
      · obtain ⟨us, ws, p1, p2, hz, k⟩ := sm_lists I (A := A.in1) (sm_run I n A.in1 (by show A.units + 1 + n < cLine; omega)) ha hb p
        have r := SeqAt.RcAt.lists (A := A) (e := fun _ => true) p1 p2 hz (by omega) k
        rw [allT] at r
        exact SeqAt.EqAt.of_refs e r
/-- two lists of the same things -/
def SmL (K : PySem.W.Frag) (H : Hp) (x y : V) : Prop := ∃ a b xs ys, x = .ref a ∧ y = .ref b ∧ SqL K H a xs ∧ SqL K H b ys ∧ Paired (Sm K H 40) xs ys
theorem op_eqS (hu : X.A.units + 64 < cLine) : OpR X (compareOp .Eq) (fun x y H Q => SmL X.K H x y ∧ Q (.bl true) H) := fun pins s σ H x y v u Q I rx ry h => by
  obtain ⟨⟨a, b, xs, ys, rfl, rfl, ha, hb, p⟩, q⟩ := h
  cases (show v = Value.ref a from rx)
  cases (show u = Value.ref b from ry)
  obtain ⟨us, ws, p1, p2, hz, k⟩ := sm_lists I (A := X.A.in1) (sm_run I 40 X.A.in1 (by show X.A.units + 1 + 40 < cLine; omega)) ha hb p
  have r := SeqAt.RcAt.lists (A := X.A) (e := fun _ => true) p1 p2 hz (by omega) k
  rw [allT] at r
  exact r X.prog X.w _ _ ⟨.bl true, H, I, rfl, q⟩
theorem op_neS (hu : X.A.units + 64 < cLine) : OpR X (compareOp .NotEq) (fun x y H Q => SmL X.K H x y ∧ Q (.bl false) H) := fun pins s σ H x y v u Q I rx ry h => by
  obtain ⟨⟨a, b, xs, ys, rfl, rfl, ha, hb, p⟩, q⟩ := h
  cases (show v = Value.ref a from rx)
  cases (show u = Value.ref b from ry)
  obtain ⟨us, ws, p1, p2, hz, k⟩ := sm_lists I (A := X.A.in1) (sm_run I 40 X.A.in1 (by show X.A.units + 1 + 40 < cLine; omega)) ha hb p
  have r := SeqAt.RcNeAt.lists (A := X.A) (e := fun _ => true) p1 p2 hz (by omega) k
  rw [allT] at r
  exact r X.prog X.w _ _ ⟨.bl false, H, I, rfl, q⟩
end
def uEq2 (K : PySem.W.Frag) : R2 := fun x y H Q => match scal x y with
  | true => Q (.bl (decide (x = y))) H
  | false => (∃ d e, Dp K H x d ∧ Dp K H y e ∧ SeqAt.shaped d = true ∧ SeqAt.shaped e = true ∧ Q (.bl (PyData.eqv d e)) H) ∨ (SmL K H x y ∧ Q (.bl true) H)
def uNe2 (K : PySem.W.Frag) : R2 := fun x y H Q => match scal x y with
  | true => Q (.bl (!decide (x = y))) H
  | false => (∃ d e, Dp K H x d ∧ Dp K H y e ∧ SeqAt.shaped d = true ∧ SeqAt.shaped e = true ∧ Q (.bl (!PyData.eqv d e)) H) ∨ (SmL K H x y ∧ Q (.bl false) H)
def uInt : List V → Hp → VK → Prop := fun xs H Q => match xs with
  | [.int i] => Q (.int i) H
  | [.bl k] => Q (.int (if k then 1 else 0)) H
  | [.str a] => a.length ≤ 640 ∧ oK (PySem.intText? a) fun n => Q (.int n) H
  | _ => False
section
variable {X : Cx}
theorem ou_eq2 (hu : X.A.units + 64 < cLine) : OpR X (compareOp .Eq) (uEq2 X.K) := OpRi (op_eq.or ((op_eqD hu).or (op_eqS hu))) fun x y H Q h => by
  unfold uEq2 at h
  split at h
  · exact .inl ⟨by assumption, h⟩
  · exact .inr h
theorem ou_ne2 (hu : X.A.units + 64 < cLine) : OpR X (compareOp .NotEq) (uNe2 X.K) := OpRi (op_ne.or ((op_neD hu).or (op_neS hu))) fun x y H Q h => by
  unfold uNe2 at h
  split at h
  · exact .inl ⟨by assumption, h⟩
  · exact .inr h
theorem callR_or {f : Value} {r r' : List V → Hp → VK → Prop} (h : CallR X f r) (h' : CallR X f r') : CallR X f (fun xs H Q => r xs H Q ∨ r' xs H Q) := fun pins s σ H xs us Q I rv q => q.elim (h pins s σ H xs us Q I rv) (h' pins s σ H xs us Q I rv)
theorem cu_int : CallR X (.type "int") uInt := CallRi (callR_or call_int1 call_int_str) fun xs H Q h => by
  unfold uInt at h
  split at h
  · exact .inl (.inl ⟨_, rfl, h⟩)
  · exact .inl (.inr ⟨_, rfl, h⟩)
  · obtain ⟨h1, h⟩ := h
    obtain ⟨n, e, h⟩ := oK_ex h
    exact .inr ⟨_, n, rfl, e, h1, h⟩
  · exact h.elim
end
end U
namespace U
open PySem PySem.Spec PyProof.Rows L2
def letter (c : Nat) : Bool := decide (97 ≤ c) && decide (c ≤ 122)
def isWord (z : Str) : Bool := decide (1 ≤ z.length) && decide (z.length ≤ 30) && z.cps.toList.all letter
def isMarkL : List Nat → Bool
  | [c] => decide (c = 32)
  | [k, i] => (decide (k = 35) || decide (k = 124) || decide (k = 47)) && (decide (48 ≤ i) && decide (i ≤ 51))
  | _ => false
def isMark (z : Str) : Bool := isMarkL z.cps.toList
def small (v : V) : Prop := match v with | .str z => z.length ≤ 1000 | _ => True
/-- a value of a known kind, no long text -/
def Kn (H : Hp) (v : V) : Prop := (tyOf H v).isSome = true ∧ small v
def BoxAt (H : Hp) (b : Addr) (n : Nat) : Prop := ∃ x y z : Int, H b = some (.lst [.int x, .int y, .int z]) ∧ 0 ≤ x ∧ 0 ≤ y ∧ y < 2147483629 ∧ 0 ≤ z ∧ z ≤ n
theorem BoxAt.new {H : Hp} {b p : Addr} {n : Nat} {o : HO} (h : BoxAt H b n) (hp : H p = none) : BoxAt (upd H p o) b n := by
  obtain ⟨x, y, z, e, r⟩ := h
  exact ⟨x, y, z, by rw [upd_ne (ne_of_none e hp)]; exact e, r⟩
theorem BoxAt.ex {H H' : Hp} {b : Addr} {n : Nat} (h : BoxAt H b n) (e : Ex H H') : BoxAt H' b n := by
  obtain ⟨x, y, z, h, r⟩ := h
  exact ⟨x, y, z, e _ _ h, r⟩
theorem BoxAt.le {H : Hp} {b : Addr} {n m : Nat} (h : BoxAt H b n) (e : n ≤ m) : BoxAt H b m := by
  obtain ⟨x, y, z, h, a, b, c, d, f⟩ := h
  exact ⟨x, y, z, h, a, b, c, d, by omega⟩
theorem BoxAt.ne {H : Hp} {b p : Addr} {n : Nat} (h : BoxAt H b n) (hp : H p = none) : p ≠ b := by
  obtain ⟨_, _, _, e, _⟩ := h
  exact (ne_of_none e hp).symm
/-- something else at an address that is no box -/
theorem BoxAt.off {H : Hp} {b p : Addr} {n : Nat} {o : HO} (h : BoxAt H b n) (hp : H p = some o) (ho : ∀ x y z, o ≠ .lst [.int x, .int y, .int z]) : p ≠ b := by
  obtain ⟨x, y, z, e, _⟩ := h
  exact ne_of hp e (ho x y z)
theorem tyOf_ex {H H' : Hp} {v : V} {t : Ty} (h : tyOf H v = some t) (e : Ex H H') : tyOf H' v = some t := by
  cases v with
  | ref a =>
    have h : (H a).bind tyO = some t := h
    cases q : H a with
    | none => rw [q] at h; cases h
    | some o =>
      rw [q] at h
      show (H' a).bind tyO = some t
      rw [e _ _ q]; exact h
  | _ => exact h
theorem Kn.ex {H H' : Hp} {v : V} (h : Kn H v) (e : Ex H H') : Kn H' v := by
  obtain ⟨h1, h2⟩ := h
  obtain ⟨t, ht⟩ := Option.isSome_iff_exists.mp h1
  exact ⟨by rw [tyOf_ex ht e]; rfl, h2⟩
theorem tyOf_fr {H H' : Hp} {b : Addr} {v : V} {t : Ty} (h : tyOf H v = some t) (e : Fr b H H') (hb : v ≠ .ref b) : tyOf H' v = some t := by
  cases v with
  | ref a =>
    have h : (H a).bind tyO = some t := h
    cases q : H a with
    | none => rw [q] at h; cases h
    | some o =>
      rw [q] at h
      show (H' a).bind tyO = some t
      rw [e _ _ q (fun z => hb (by rw [z]))]; exact h
  | _ => exact h
theorem Kn.fr {H H' : Hp} {b : Addr} {v : V} (h : Kn H v) (e : Fr b H H') (hb : v ≠ .ref b) : Kn H' v := by
  obtain ⟨h1, h2⟩ := h
  obtain ⟨t, ht⟩ := Option.isSome_iff_exists.mp h1
  exact ⟨by rw [tyOf_fr ht e hb]; rfl, h2⟩
theorem log_small {i : Int} (h1 : -(10 ^ 40) < i) (h2 : i < 10 ^ 40) : i.natAbs.log2 < 1920 := by
  by_cases h : i.natAbs = 0
  · rw [h]; decide
  · rw [Nat.log2_lt h]
    have : i.natAbs < 10 ^ 40 := by omega
    exact Nat.lt_of_lt_of_le this (by decide +kernel)
theorem len_small {i : Int} (h1 : -(10 ^ 40) < i) (h2 : i < 10 ^ 40) : (Str.ofString (toString i)).length ≤ 41 := by
  have h := int_text_length_le10 (a := i) (k := 40) (by decide) (by omega)
  rw [PySem.ofString_length]
  omega
theorem toList_inj {a b : Str} (h : a.cps.toList = b.cps.toList) : a = b := by
  obtain ⟨⟨l⟩⟩ := a
  obtain ⟨⟨m⟩⟩ := b
  have h : l = m := h
  subst h; rfl
theorem str_len (z : Str) : z.length = z.cps.toList.length := rfl
theorem cps_blank : (Str.ofString " ").cps.toList = [32] := by decide +kernel
theorem cps_kinds : (Str.ofString "#|/").cps.toList = [35, 124, 47] := by decide +kernel
theorem cps_digits : (Str.ofString "0123").cps.toList = [48, 49, 50, 51] := by decide +kernel
theorem cps_letters : (Str.ofString "abcdefghijklmnopqrstuvwxyz").cps.toList = List.range' 97 26 := by decide +kernel
theorem mem_letters (c : Nat) : decide (c ∈ (Str.ofString "abcdefghijklmnopqrstuvwxyz").cps.toList) = letter c := by
  rw [cps_letters]
  unfold letter
  rw [← Bool.decide_and]
  apply decide_eq_decide.mpr
  rw [List.mem_range'_1]
  omega
/-- a text against a fixed one -/
theorem eq_fix (z : Str) (a : String) {l : List Nat} (h : (Str.ofString a).cps.toList = l) : decide (V.str z = V.str (Str.ofString a)) = decide (z.cps.toList = l) := by
  apply decide_eq_decide.mpr
  constructor
  · intro e; injection e with e; rw [e]; exact h
  · intro e; rw [toList_inj (e.trans h.symm)]
theorem isMark_two {z : Str} {k i : Nat} (h : z.cps.toList = [k, i]) : isMark z = (decide (k ∈ [35, 124, 47]) && decide (i ∈ [48, 49, 50, 51])) := by
  unfold isMark
  rw [h]
  unfold isMarkL
  rw [Bool.eq_iff_iff]
  simp
  omega
theorem isMark_other {z : Str} (h1 : z.cps.toList ≠ [32]) (h2 : z.length ≠ 2) : isMark z = false := by
  unfold isMark
  rw [str_len] at h2
  generalize z.cps.toList = l at *
  match l with
  | [] => rfl
  | [c] => simp at h1; simp [isMarkL, h1]
  | [_, _] => exact absurd rfl h2
  | _ :: _ :: _ :: _ => rfl
/-- the forms of a mark -/
theorem mark_forms {z : Str} (h : isMark z = true) : z.cps.toList = [32] ∨ ∃ k i, z.cps.toList = [k, i] ∧ k ∈ [35, 124, 47] ∧ i ∈ [48, 49, 50, 51] := by
  by_cases h1 : z.cps.toList = [32]
  · exact .inl h1
  · by_cases h2 : z.length = 2
    · have h3 : z.cps.toList.length = 2 := h2
      match hz : z.cps.toList, h3 with
      | [k, i], _ =>
        rw [isMark_two hz, Bool.and_eq_true, decide_eq_true_eq, decide_eq_true_eq] at h
        exact .inr ⟨k, i, rfl, h.1, h.2⟩
    · rw [isMark_other h1 h2] at h; cases h
end U
namespace U
open PySem PySem.Spec PyProof.Rows L2
mutual
inductive Dn (b : Addr) (H : Hp) : V → PyData → Prop
  | non : Dn b H .non .none
  | bl (k : Bool) : Dn b H (.bl k) (.bool k)
  | int (i : Int) : Dn b H (.int i) (.int i)
  | str (z : Str) : Dn b H (.str z) (.str z)
  | lst {a : Addr} {xs : List V} {ds : List PyData} : a ≠ b → H a = some (.lst xs) → DnAll b H xs ds → Dn b H (.ref a) (.list ds)
  | tup {a : Addr} {xs : List V} {ds : List PyData} : a ≠ b → H a = some (.tup xs) → DnAll b H xs ds → Dn b H (.ref a) (.tuple ds)
  | dct {a : Addr} : a ≠ b → H a = some (.dK []) → Dn b H (.ref a) (.dict [])
inductive DnAll (b : Addr) (H : Hp) : List V → List PyData → Prop
  | nil : DnAll b H [] []
  | cons {v : V} {vs : List V} {d : PyData} {ds : List PyData} : Dn b H v d → DnAll b H vs ds → DnAll b H (v :: vs) (d :: ds)
end
mutual
theorem Dn.fr {b : Addr} {H H' : Hp} (f : Fr b H H') : ∀ (d : PyData) {v : V}, Dn b H v d → Dn b H' v d
  | .none, _, h => by cases h; exact .non
  | .bool _, _, h => by cases h; exact .bl _
  | .int _, _, h => by cases h; exact .int _
  | .str _, _, h => by cases h; exact .str _
  | .list ds, _, h => by
    cases h with
    | lst h1 h2 h3 => exact .lst h1 (f _ _ h2 h1) (DnAll.fr f ds h3)
  | .tuple ds, _, h => by
    cases h with
    | tup h1 h2 h3 => exact .tup h1 (f _ _ h2 h1) (DnAll.fr f ds h3)
  | .dict _, _, h => by
    cases h with
    | dct h1 h2 => exact .dct h1 (f _ _ h2 h1)
theorem DnAll.fr {b : Addr} {H H' : Hp} (f : Fr b H H') : ∀ (ds : List PyData) {vs : List V}, DnAll b H vs ds → DnAll b H' vs ds
  | [], _, h => by cases h; exact .nil
  | d :: ds, _, h => by
    cases h with
    | cons h1 h2 => exact .cons (Dn.fr f d h1) (DnAll.fr f ds h2)
end
theorem Dn.go {b : Addr} {H H' : Hp} {d : PyData} {v : V} (h : Dn b H v d) (f : Fr b H H') : Dn b H' v d := Dn.fr f d h
theorem Dn.ex {b : Addr} {H H' : Hp} {d : PyData} {v : V} (h : Dn b H v d) (e : Ex H H') : Dn b H' v d := Dn.fr (Fr.ex e) d h
theorem DnAll.go {b : Addr} {H H' : Hp} {ds : List PyData} {vs : List V} (h : DnAll b H vs ds) (f : Fr b H H') : DnAll b H' vs ds := DnAll.fr f ds h
theorem DnAll.ex {b : Addr} {H H' : Hp} {ds : List PyData} {vs : List V} (h : DnAll b H vs ds) (e : Ex H H') : DnAll b H' vs ds := DnAll.fr (Fr.ex e) ds h
theorem DnAll.len {b : Addr} {H : Hp} : ∀ {vs : List V} {ds : List PyData}, DnAll b H vs ds → vs.length = ds.length
  | _, _, .nil => rfl
  | _, _, .cons _ h => by rw [List.length_cons, List.length_cons, h.len]
theorem DnAll.app {b : Addr} {H : Hp} : ∀ {vs ws : List V} {ds es : List PyData}, DnAll b H vs ds → DnAll b H ws es → DnAll b H (vs ++ ws) (ds ++ es)
  | _, _, _, _, .nil, h => h
  | _, _, _, _, .cons h1 h2, h => .cons h1 (h2.app h)
theorem DnAll.drop {b : Addr} {H : Hp} : ∀ (n : Nat) {vs : List V} {ds : List PyData}, DnAll b H vs ds → DnAll b H (vs.drop n) (ds.drop n)
  | 0, _, _, h => by simpa using h
  | n + 1, _, _, .nil => by simpa using DnAll.nil
  | n + 1, _, _, .cons _ h => by simpa using h.drop n
theorem DnAll.take {b : Addr} {H : Hp} : ∀ (n : Nat) {vs : List V} {ds : List PyData}, DnAll b H vs ds → DnAll b H (vs.take n) (ds.take n)
  | 0, _, _, h => by simpa using DnAll.nil
  | n + 1, _, _, .nil => by simpa using DnAll.nil
  | n + 1, _, _, .cons h1 h => by simpa using DnAll.cons h1 (h.take n)
theorem DnAll.at {b : Addr} {H : Hp} : ∀ {vs : List V} {ds : List PyData}, DnAll b H vs ds → ∀ (i : Nat) {v : V}, vs[i]? = some v → ∃ d, ds[i]? = some d ∧ Dn b H v d
  | _, _, .nil, i, v, e => by simp at e
  | _, _, .cons h1 h2, 0, v, e => by
    simp at e; subst e
    exact ⟨_, rfl, h1⟩
  | _, _, .cons h1 h2, i + 1, v, e => by
    obtain ⟨d, h3, h4⟩ := h2.at i (by simpa using e)
    exact ⟨d, by simpa using h3, h4⟩
mutual
theorem Dn.dp {b : Addr} {H : Hp} {K : PySem.W.Frag} : ∀ (d : PyData) {v : V}, Dn b H v d → d.hasDict = false → Dp K H v d
  | .none, _, h, _ => by cases h; exact .non
  | .bool _, _, h, _ => by cases h; exact .bl _
  | .int _, _, h, _ => by cases h; exact .int _
  | .str _, _, h, _ => by cases h; exact .str _
  | .list ds, _, h, g => by
    cases h with
    | lst h1 h2 h3 => exact .lst (.inl (.inl h2)) (DnAll.dp ds h3 (by simpa only [PyData.hasDict] using g))
  | .tuple ds, _, h, g => by
    cases h with
    | tup h1 h2 h3 => exact .tup (.inl (.inl h2)) (DnAll.dp ds h3 (by simpa only [PyData.hasDict] using g))
  | .dict _, _, _, g => by simp only [PyData.hasDict] at g; cases g
theorem DnAll.dp {b : Addr} {H : Hp} {K : PySem.W.Frag} : ∀ (ds : List PyData) {vs : List V}, DnAll b H vs ds → PyData.hasDictAll ds = false → DpAll K H vs ds
  | [], _, h, _ => by cases h; exact .nil
  | d :: ds, _, h, g => by
    cases h with
    | cons h1 h2 =>
      simp only [PyData.hasDictAll, Bool.or_eq_false_iff] at g
      exact .cons (Dn.dp d h1 g.1) (DnAll.dp ds h2 g.2)
end
section
variable {X : Cx} {pins : List (Addr × Obj)} {σ : L2.St} {H : Hp} {s : Shared} {b : Addr}
theorem dk_empty_at (I : Inv X pins σ H s) {a : Addr} (h : H a = some (.dK [])) : (a == sysModules) = false ∧ ∃ (o : Obj) (n : Nat), s.heap.get? a = some o ∧ o.cls = .type "dict" ∧ o.data = .dict #[] n := by
  obtain ⟨_, h2, vs, kv, o, es, ep, g1, g2, g3, _, g5, _⟩ := (show ObjOk X.prog X.w H s.heap a (.dK []) from I.hok a _ h)
  cases kv
  obtain ⟨l⟩ := es
  cases (show Pairs (mixKind X.prog X.w) l [] from g5)
  exact ⟨h2, o, ep, g1, g2.1, g3⟩
end
/-- data that repr takes -/
structure Okd (d : PyData) : Prop where
  sh : d.showable = true
  lv : d.leavesShort 41 = true
  dp : d.depth ≤ 20
  wt : d.weight ≤ 200000
theorem Okd.size {d : PyData} (h : Okd d) : d.shown.length ≤ sizeLine := by
  have := PyData.shown_le 41 (by decide) d h.lv
  have h2 := h.wt
  have h3 : 43 * d.weight ≤ 43 * 200000 := Nat.mul_le_mul_left _ h2
  rw [sizeLine_eq]; omega
end U
namespace U
open PySem PySem.Spec PyProof.Rows L2
def uMul3 : R2 := fun x y H Q => match x, y with
  | .int i, .int j => CMul i j ∧ Q (.int (i * j)) H
  | .str z, .int k => MulOk z k ∧ Q (.str (Txt.mul z k)) H
  | .ref l, .int k => oK (mutL H l) fun xs => -(2 ^ 63) ≤ k ∧ k < 2 ^ 63 ∧ xs.length * k.toNat ≤ sizeLine ∧ ∀ p, H p = none → Q (.ref p) (upd H p (.lst (List.replicate k.toNat xs).flatten))
  | _, _ => False
section
variable {X : Cx}
theorem op_mulS : OpR X (binaryOp .Mult) (fun x y H Q => ∃ z k, x = V.str z ∧ y = .int k ∧ MulOk z k ∧ Q (.str (Txt.mul z k)) H) := fun pins s σ H x y v u Q I rx ry h => by
  obtain ⟨z, k, rfl, rfl, h1, h2⟩ := h
  obtain ⟨t, rfl⟩ := rx
  obtain ⟨t', rfl⟩ := ry
  exact SB.mul h1 fun t2 k2 => ⟨.str _, H, I.tok k2, ⟨_, rfl⟩, h2⟩
theorem ou_mul3 : OpR X (binaryOp .Mult) uMul3 := OpRi (op_mul.or (op_mulS.or op_rep)) fun x y H Q h => by
  unfold uMul3 at h
  split at h
  · exact .inl ⟨_, _, rfl, rfl, h⟩
  · exact .inr (.inl ⟨_, _, rfl, rfl, h⟩)
  · obtain ⟨xs, e, h1, h2, h3, h4⟩ := oK_ex h
    exact .inr (.inr ⟨_, _, xs, rfl, rfl, of_mutL e, h1, h2, h3, h4⟩)
  · exact h.elim
end
def gTs (K : PySem.W.Frag) (n : Nat) (t : TGs) : TG := fun v σ H Q => match v with
  | .ref a => ∃ xs, (SqT K H a xs ∨ SqL K H a xs) ∧ xs.length = n ∧ t xs σ H Q
  | _ => False
theorem pg_ts {X : Cx} {pos : Pos} {es : List Expr} {k : Nat} {t : TGs} {n : Nat} (hc : X.calm = true) (h : PGs X es t)
    (hn : (assignEach es X.env).length = n := by rfl) (hst : (assignEach es X.env).findIdx? (·.1) = none := by rfl) : PG X (.Tuple es k pos) (gTs X.K n t) := ⟨fun pins s σ H v u Q I r hw => by
  cases v with
  | ref a =>
    obtain ⟨xs, h1, h2, h3⟩ := hw
    rcases h1 with h1 | h1
    · exact (pg_tup hc h hn hst).run pins s σ H _ u Q I r ⟨_, _, rfl, h1, h2, h3⟩
    · exact (pg_unl hc h hn hst).run pins s σ H _ u Q I r ⟨_, _, rfl, h1, h2, h3⟩
  | _ => exact hw.elim⟩
end U
namespace U
open PySem PySem.Spec PyProof.Rows L2
abbrev Tk := Str × Str
def tokD (t : Tk) : PyData := .tuple [.str t.1, .str t.2]
def textD (ts : List Tk) : PyData := .list (ts.map tokD)
def markD : PyData → Bool
  | .str z => isMark z
  | _ => false
def wordD : PyData → Bool
  | .str z => isWord z
  | _ => false
def tokenD : PyData → Bool
  | .tuple [x, y] => markD x && wordD y
  | _ => false
def hashD : PyData → Bool
  | .tuple (.str z :: _) => decide ((sl z).head? = some 35)
  | _ => false
def firstD : List PyData → Bool
  | [] => true
  | d :: _ => hashD d
def isTextD : PyData → Bool
  | .list ds => ds.all tokenD && firstD ds
  | .tuple ds => ds.all tokenD && firstD ds
  | _ => false
def GoodT (ts : List Tk) : Prop := (∀ t ∈ ts, isMark t.1 = true ∧ isWord t.2 = true) ∧ ∀ t, ts.head? = some t → (sl t.1).head? = some 35
theorem markD_str {d : PyData} (h : markD d = true) : ∃ z, d = .str z ∧ isMark z = true := by
  cases d <;> first | exact ⟨_, rfl, h⟩ | cases h
theorem wordD_str {d : PyData} (h : wordD d = true) : ∃ z, d = .str z ∧ isWord z = true := by
  cases d <;> first | exact ⟨_, rfl, h⟩ | cases h
theorem tokenD_form {d : PyData} (h : tokenD d = true) : ∃ t : Tk, d = tokD t ∧ isMark t.1 = true ∧ isWord t.2 = true := by
  unfold tokenD at h
  split at h
  · rw [Bool.and_eq_true] at h
    obtain ⟨m, rfl, hm⟩ := markD_str h.1
    obtain ⟨w, rfl, hw⟩ := wordD_str h.2
    exact ⟨(m, w), rfl, hm, hw⟩
  · cases h
theorem row_good (ts : List Tk) : ((ts.map tokD).all tokenD && firstD (ts.map tokD)) = true ↔ GoodT ts := by
  rw [Bool.and_eq_true]
  unfold GoodT
  constructor
  · rintro ⟨h1, h2⟩
    refine ⟨fun t ht => ?_, fun t ht => ?_⟩
    · have := List.all_eq_true.mp h1 (tokD t) (List.mem_map_of_mem ht)
      have : (isMark t.1 && isWord t.2) = true := this
      rwa [Bool.and_eq_true] at this
    · cases ts with
      | nil => cases ht
      | cons u us =>
        cases ht
        exact of_decide_eq_true h2
  · rintro ⟨h1, h2⟩
    refine ⟨List.all_eq_true.mpr fun d hd => ?_, ?_⟩
    · obtain ⟨t, ht, rfl⟩ := List.mem_map.mp hd
      show (isMark t.1 && isWord t.2) = true
      rw [Bool.and_eq_true]; exact h1 t ht
    · cases ts with
      | nil => rfl
      | cons u us => exact decide_eq_true (h2 u rfl)
theorem good_list (ts : List Tk) : isTextD (.list (ts.map tokD)) = true ↔ GoodT ts := row_good ts
theorem good_tuple (ts : List Tk) : isTextD (.tuple (ts.map tokD)) = true ↔ GoodT ts := row_good ts
def tyD : PyData → Ty
  | .none => .non | .bool _ => .bl | .int _ => .int | .str _ => .str | .list _ => .lst | .tuple _ => .tup | .dict _ => .dct
theorem Dn.ty {b : Addr} {H : Hp} {v : V} {d : PyData} (h : Dn b H v d) : tyOf H v = some (tyD d) := by
  cases h with
  | lst _ h _ => show (H _).bind tyO = _; rw [h]; rfl
  | tup _ h _ => show (H _).bind tyO = _; rw [h]; rfl
  | dct _ h => show (H _).bind tyO = _; rw [h]; rfl
  | _ => rfl
theorem wt_mem : ∀ {ds : List PyData} {d : PyData}, d ∈ ds → d.weight + 1 ≤ PyData.weightAll ds
  | d :: ds, e, h => by
    rw [PyData.weightAll]
    rcases List.mem_cons.mp h with rfl | h
    · omega
    · have := wt_mem h; omega
theorem wt_len : ∀ ds : List PyData, ds.length ≤ PyData.weightAll ds
  | [] => Nat.zero_le _
  | d :: ds => by
    have := wt_len ds
    rw [PyData.weightAll, List.length_cons]; omega
theorem wt_list (ds : List PyData) : (PyData.list ds).weight = PyData.weightAll ds := by rw [PyData.weight]
theorem wt_tup (ds : List PyData) : (PyData.tuple ds).weight = PyData.weightAll ds := by rw [PyData.weight]
theorem wt_str (z : Str) : (PyData.str z).weight = z.length := by rw [PyData.weight]; rfl
theorem wt_tok (t : Tk) : (tokD t).weight = t.1.length + t.2.length + 2 := by
  unfold tokD
  rw [wt_tup, PyData.weightAll, PyData.weightAll, PyData.weightAll, wt_str, wt_str]; omega
/-- a row of tokens in the heap -/
def ToksAt (b : Addr) (H : Hp) (vs : List V) (ts : List Tk) : Prop := DnAll b H vs (ts.map tokD)
theorem dn_tok {b : Addr} {H : Hp} {v : V} {t : Tk} (h : Dn b H v (tokD t)) : ∃ r, v = .ref r ∧ r ≠ b ∧ H r = some (.tup [.str t.1, .str t.2]) := by
  unfold tokD at h
  cases h with
  | @tup a xs _ h1 h2 h3 =>
    cases h3 with
    | cons g1 g2 =>
      cases g1
      cases g2 with
      | cons g3 g4 =>
        cases g3
        cases g4
        exact ⟨a, rfl, h1, h2⟩
theorem tok_dn {b : Addr} {H : Hp} {r : Addr} {t : Tk} (h1 : r ≠ b) (h : H r = some (.tup [.str t.1, .str t.2])) : Dn b H (.ref r) (tokD t) := .tup h1 h (.cons (.str _) (.cons (.str _) .nil))
theorem ToksAt.at {b : Addr} {H : Hp} {vs : List V} {ts : List Tk} (h : ToksAt b H vs ts) {i : Nat} {v : V} (e : vs[i]? = some v) : ∃ t r, ts[i]? = some t ∧ v = .ref r ∧ r ≠ b ∧ H r = some (.tup [.str t.1, .str t.2]) := by
  obtain ⟨d, h1, h2⟩ := DnAll.at h i e
  rw [List.getElem?_map] at h1
  cases e2 : ts[i]? with
  | none => rw [e2] at h1; cases h1
  | some t =>
    rw [e2] at h1; cases h1
    obtain ⟨r, h3, h4, h5⟩ := dn_tok h2
    exact ⟨t, r, rfl, h3, h4, h5⟩
theorem ToksAt.len {b : Addr} {H : Hp} {vs : List V} {ts : List Tk} (h : ToksAt b H vs ts) : vs.length = ts.length := by
  have := DnAll.len h
  rwa [List.length_map] at this
/-- a text lies at p -/
def TextAt (b : Addr) (H : Hp) (p : Addr) (ts : List Tk) : Prop := p ≠ b ∧ ∃ vs, H p = some (.lst vs) ∧ ToksAt b H vs ts
theorem TextAt.go {b : Addr} {H H' : Hp} {p : Addr} {ts : List Tk} (h : TextAt b H p ts) (f : Fr b H H') : TextAt b H' p ts := by
  obtain ⟨h1, vs, h2, h3⟩ := h
  exact ⟨h1, vs, f _ _ h2 h1, DnAll.go h3 f⟩
theorem ToksAt.go {b : Addr} {H H' : Hp} {vs : List V} {ts : List Tk} (h : ToksAt b H vs ts) (f : Fr b H H') : ToksAt b H' vs ts := DnAll.go h f
theorem ToksAt.ex {b : Addr} {H H' : Hp} {vs : List V} {ts : List Tk} (h : ToksAt b H vs ts) (f : Ex H H') : ToksAt b H' vs ts := DnAll.ex h f
/-- tokens stay where a list is changed -/
theorem ToksAt.set {b : Addr} {H : Hp} {p : Addr} {xs ys : List V} : ∀ {vs : List V} {ts : List Tk}, ToksAt b H vs ts → H p = some (.lst xs) → ToksAt b (upd H p (.lst ys)) vs ts
  | [], [], _, _ => .nil
  | [], t :: ts, h, _ => nomatch h
  | v :: vs, [], h, _ => nomatch h
  | v :: vs, t :: ts, h, hp => by
    cases h with
    | cons h1 h2 =>
      obtain ⟨r, rfl, hr, e⟩ := dn_tok h1
      refine .cons (tok_dn hr ?_) (ToksAt.set (ts := ts) h2 hp)
      rw [upd_ne (ne_of e hp (by intro z; cases z))]
      exact e
theorem ToksAt.snoc {b : Addr} {H : Hp} {vs : List V} {ts : List Tk} {v : V} {t : Tk} (h : ToksAt b H vs ts) (h1 : Dn b H v (tokD t)) : ToksAt b H (vs ++ [v]) (ts ++ [t]) := by
  show DnAll b H (vs ++ [v]) ((ts ++ [t]).map tokD)
  rw [List.map_append]
  exact DnAll.app h (.cons h1 .nil)
theorem cut_mid {α : Type} (l : List α) (i j : Nat) : (l.drop (min i l.length)).take (min j l.length - min i l.length) = (l.drop i).take (j - i) := by
  by_cases h : i ≤ l.length
  · rw [Nat.min_eq_left h, List.take_eq_take_iff, List.length_drop]; omega
  · rw [show min i l.length = l.length by omega, List.drop_length, List.drop_eq_nil_of_le (show l.length ≤ i by omega)]; simp
theorem sl_upto (z : Str) (j : Nat) : sl (cutS z none (some (j : Int))) = (sl z).take j := by
  rw [sl_cut, HT.sIx_nat, HT.sIx_none]
  have := cut_mid (sl z) 0 j
  simp only [Nat.zero_min, List.drop_zero, Nat.sub_zero] at this ⊢
  exact this
end U
namespace U
open PySem PySem.Spec PyProof.Rows L2
structure Shp (n : Nat) (d : PyData) : Prop where
  sh : d.showable = true
  lv : d.leavesShort 41 = true
  dp : d.depth ≤ n
theorem Shp.okd {n : Nat} {d : PyData} (h : Shp n d) (hn : n ≤ 20) (hw : d.weight ≤ 200000) : Okd d := ⟨h.sh, h.lv, Nat.le_trans h.dp hn, hw⟩
theorem Shp.le {n m : Nat} {d : PyData} (h : Shp n d) (e : n ≤ m) : Shp m d := ⟨h.sh, h.lv, Nat.le_trans h.dp e⟩
theorem Shp.all {n : Nat} : ∀ {ds : List PyData}, (∀ d ∈ ds, Shp n d) → PyData.showableAll ds = true ∧ PyData.leavesShortAll 41 ds = true ∧ PyData.depthAll ds ≤ n
  | [], _ => ⟨by simp only [PyData.showableAll], by simp only [PyData.leavesShortAll], by simp only [PyData.depthAll]; omega⟩
  | d :: ds, h => by
    obtain ⟨h1, h2, h3⟩ := Shp.all fun e he => h e (List.mem_cons_of_mem _ he)
    have h0 := h d List.mem_cons_self
    refine ⟨?_, ?_, ?_⟩
    · simp only [PyData.showableAll, h0.sh, h1, Bool.and_self]
    · simp only [PyData.leavesShortAll, h0.lv, h2, Bool.and_self]
    · simp only [PyData.depthAll]; have := h0.dp; omega
theorem Shp.lst {n : Nat} {ds : List PyData} (h : ∀ d ∈ ds, Shp n d) : Shp (n + 1) (.list ds) := by
  obtain ⟨h1, h2, h3⟩ := Shp.all h
  exact ⟨by simp only [PyData.showable, h1], by simp only [PyData.leavesShort, h2], by simp only [PyData.depth]; omega⟩
theorem Shp.tup {n : Nat} {ds : List PyData} (h : ∀ d ∈ ds, Shp n d) : Shp (n + 1) (.tuple ds) := by
  obtain ⟨h1, h2, h3⟩ := Shp.all h
  exact ⟨by simp only [PyData.showable, h1], by simp only [PyData.leavesShort, h2], by simp only [PyData.depth]; omega⟩
theorem Shp.str {n : Nat} {z : Str} (h : sok z) : Shp n (.str z) := by
  refine ⟨by simp only [PyData.showable], ?_, by simp only [PyData.depth]; omega⟩
  simp only [PyData.leavesShort, List.all_eq_true, decide_eq_true_eq]
  intro c hc
  have := h c hc
  omega
theorem Shp.non {n : Nat} : Shp n .none := ⟨by simp only [PyData.showable], by simp only [PyData.leavesShort], by simp only [PyData.depth]; omega⟩
theorem Shp.bl {n : Nat} (b : Bool) : Shp n (.bool b) := ⟨by simp only [PyData.showable], by simp only [PyData.leavesShort], by simp only [PyData.depth]; omega⟩
theorem Shp.dct {n : Nat} : Shp (n + 1) (.dict []) := ⟨by simp only [PyData.showable, PyData.showableKv], by simp only [PyData.leavesShort, PyData.leavesShortKv], by simp only [PyData.depth, PyData.depthKv]; omega⟩
theorem Shp.int {n : Nat} {i : Int} (h1 : -(10 ^ 40) < i) (h2 : i < 10 ^ 40) : Shp n (.int i) := by
  refine ⟨?_, ?_, by simp only [PyData.depth]; omega⟩
  · simp only [PyData.showable, decide_eq_true_eq]; exact log_small h1 h2
  · simp only [PyData.leavesShort, decide_eq_true_eq]
    have e : PyData.shown (.int i) = Str.ofString (toString i) := by simp [PyData.shown]
    rw [e]; exact len_small h1 h2
theorem wt_non : PyData.none.weight = 0 := by rw [PyData.weight]
theorem wt_bl (b : Bool) : (PyData.bool b).weight = 0 := by rw [PyData.weight]
theorem wt_dct : (PyData.dict []).weight = 0 := by rw [PyData.weight, PyData.weightKv]
theorem wt_cons (d : PyData) (ds : List PyData) : PyData.weightAll (d :: ds) = d.weight + 1 + PyData.weightAll ds := by rw [PyData.weightAll]
theorem wt_nil : PyData.weightAll [] = 0 := by rw [PyData.weightAll]
theorem wt_app : ∀ ds es : List PyData, PyData.weightAll (ds ++ es) = PyData.weightAll ds + PyData.weightAll es
  | [], es => by rw [wt_nil]; simp
  | d :: ds, es => by rw [List.cons_append, wt_cons, wt_cons, wt_app ds es]; omega
def SokT (ts : List Tk) : Prop := ∀ t ∈ ts, sok t.1 ∧ sok t.2
theorem Shp.tok {t : Tk} (h : sok t.1 ∧ sok t.2) : Shp 1 (tokD t) := .tup (n := 0) (by
  intro d hd
  simp only [List.mem_cons, List.not_mem_nil, or_false] at hd
  rcases hd with rfl | rfl
  · exact .str h.1
  · exact .str h.2)
theorem Shp.text {ts : List Tk} (h : SokT ts) : Shp 2 (textD ts) := .lst (n := 1) (by
  intro d hd
  obtain ⟨t, ht, rfl⟩ := List.mem_map.mp hd
  exact .tok (h t ht))
theorem sok_mark {z : Str} (h : isMark z = true) : sok z := by
  intro c hc
  rcases mark_forms h with e | ⟨k, i, e, hk, hi⟩
  · rw [show sl z = [32] from e] at hc; simp at hc; omega
  · rw [show sl z = [k, i] from e] at hc
    simp only [List.mem_cons, List.not_mem_nil, or_false] at hc hk hi
    omega
theorem sok_word {z : Str} (h : isWord z = true) : sok z := by
  intro c hc
  unfold isWord at h
  rw [Bool.and_eq_true] at h
  have := List.all_eq_true.mp h.2 c hc
  unfold letter at this
  simp at this
  omega
theorem mark_len {z : Str} (h : isMark z = true) : z.length ≤ 2 := by
  rw [sl_len]
  rcases mark_forms h with e | ⟨k, i, e, hk, hi⟩
  · rw [show sl z = [32] from e]; decide
  · rw [show sl z = [k, i] from e]; exact Nat.le_refl 2
theorem word_len {z : Str} (h : isWord z = true) : 1 ≤ z.length ∧ z.length ≤ 30 := by
  unfold isWord at h
  simp only [Bool.and_eq_true, decide_eq_true_eq] at h
  exact ⟨h.1.1, h.1.2⟩
theorem GoodT.sok {ts : List Tk} (h : GoodT ts) : SokT ts := fun t ht => ⟨sok_mark (h.1 t ht).1, sok_word (h.1 t ht).2⟩
theorem wt_good : ∀ {ts : List Tk}, (∀ t ∈ ts, isMark t.1 = true ∧ isWord t.2 = true) → PyData.weightAll (ts.map tokD) ≤ 35 * ts.length
  | [], _ => by rw [List.map_nil, wt_nil]; omega
  | t :: ts, h => by
    have ih := wt_good fun u hu => h u (List.mem_cons_of_mem _ hu)
    have h1 := h t List.mem_cons_self
    have := mark_len h1.1
    have := (word_len h1.2).2
    rw [List.map_cons, wt_cons, wt_tok, List.length_cons]; omega
theorem wt_text (ts : List Tk) : (textD ts).weight = PyData.weightAll (ts.map tokD) := by unfold textD; rw [wt_list]
theorem sok_of (s : String) : sok (Str.ofString s) := fun c hc => by
  rw [show sl (Str.ofString s) = s.toList.map Char.toNat from by rw [Str.ofString_eq_toList]] at hc
  obtain ⟨ch, _, rfl⟩ := List.mem_map.mp hc
  have h := ch.valid
  have e : ch.toNat = ch.val.toNat := rfl
  rw [e]
  rcases h with h | h
  · have : ch.val.toNat < 55296 := h
    omega
  · have : ch.val.toNat < 1114112 := h.2
    exact this
end U
namespace PySem
open Sem (wp)
abbrev zipObj (f0 : Value) (f1 : Bool) (TI TO : Addr) : Obj := { cls := .type "zip", dict := none, data := .fields #[f0, .bool f1, .bool false, .ref TI, .ref TO], slots := #[] }
def ZipSt (h : Heap) (z TI TO : Addr) : Prop := ∃ (f0 : Value) (f1 : Bool), (f0 = .none ∨ ∃ a : Nat, f0 = rawInt a) ∧ h.get? z = some (zipObj f0 f1 TI TO)
section
variable {prog : Program} {w : World} {A : Around} {E : Value → Shared → Prop} {s : Shared} {z TI TO i1 i2 : Addr} {fp1 fp2 : List Addr} {n1 n2 i : Nat} {P1 P2 : Nat → Value → Prop} {St1 St2 : Nat → Heap → Prop} {a1 a2 : Value}
theorem wpAny_loadIfAlive' {a : Addr} {Q : Option Obj → Shared → Prop} (h : Q (s.heap.get? a) s) : wpAny (model prog w) A (loadIfAlive a) Q E s := by
  intro Γ p hΓ
  exact h
theorem zip_isFree {f0 : Value} {f1 : Bool} {Q : Bool → Shared → Prop} (h0 : f0 = .none ∨ ∃ a : Nat, f0 = rawInt a) (hz : s.heap.get? z = some (zipObj f0 f1 TI TO))
    (ht : Q true s) (hf : ∀ h' f1', h'.get? z = some (zipObj f0 f1' TI TO) → Heap.SameBut z s.heap h' → Q false { s with heap := h' }) :
    wpAny (model prog w) A (Builtin.SmallTypes.ownedTupleIsFree (.ref z)) Q E s := by
  unfold Builtin.SmallTypes.ownedTupleIsFree
  rcases h0 with h0 | ⟨a, h0⟩
  · subst h0
    exact wpAny_bind (wpAny_field hz rfl (x := .none) rfl (wpAny_pure ht))
  · subst h0
    refine wpAny_bind (wpAny_field hz rfl (x := rawInt a) rfl ?_)
    refine wpAny_bind (wpAny_loadIfAlive' ?_)
    cases s.heap.get? (Int.toNat a) with
    | none => exact wpAny_pure ht
    | some o =>
      refine wpAny_bind (wpAny_field hz rfl (x := .bool f1) rfl ?_)
      cases f1 with
      | true => exact wpAny_bind (wpAny_pure (wpAny_pure (hf s.heap true hz ⟨rfl, fun _ _ => rfl⟩)))
      | false =>
        refine wpAny_bind (wpAny_setField_rec hz (by simp) fun h' hz' hs' => wpAny_pure ?_)
        exact hf h' true hz' hs'
theorem zipA_next_item {Q : Value → Shared → Prop} (S : ZipSep2 z TI TO i1 i2 fp1 fp2) (D1 : Draws prog w A i1 fp1 n1 P1 St1) (D2 : Draws prog w A i2 fp2 n2 P2 St2)
    (hz : ZipSt s.heap z TI TO) (hTI : IsTupOf2 s.heap TI (.ref i1) (.ref i2)) (hTO : IsTupOf2 s.heap TO a1 a2) (st1 : St1 i s.heap) (st2 : St2 i s.heap) (hlt1 : i < n1) (hlt2 : i < n2)
    (hQ : ∀ x1 x2 h' tk, P1 i x1 → P2 i x2 → ZipSt h' z TI TO → (∃ b1 b2, IsTupOf2 h' TO b1 b2) → St1 (i + 1) h' → St2 (i + 1) h' → IsTupOf2 h' s.heap.objs.size x1 x2 → h'.objs.size = s.heap.objs.size + 1 →
      (∀ c o, c ≠ z → c ≠ TO → c ≠ i1 → c ≠ i2 → s.heap.get? c = some o → h'.get? c = some o) → Q (.ref s.heap.objs.size) { s with heap := h', toks := tk }) :
    wpAny (model prog w) A (Builtin.«zip.__next__» ⟨[.ref z], []⟩) (fun fin s' => ∃ v, fin = .done (.ret v) ∧ Q v s') E s := by
  obtain ⟨hp, g, d, tk0, os⟩ := s
  obtain ⟨f0, f1, h0, hz⟩ := hz
  show wpAny _ _ (field (.ref z) 2 >>= _) _ _ _
  refine wpAny_bind (wpAny_field hz rfl (x := .bool false) rfl ?_)
  show wpAny _ _ (field (.ref z) 3 >>= _) _ _ _
  refine wpAny_bind (wpAny_field hz rfl (x := .ref TI) rfl ?_)
  refine wpAny_bind (wpAny_seqItems hTI rfl ?_)
  show wpAny _ _ (Builtin.SmallTypes.ownedTupleIsFree (.ref z) >>= _) _ _ _
  refine wpAny_bind (zip_isFree h0 hz ?_ fun g0 f1' hz0 hs0 => ?_)
  · simp only [if_true]
    refine wpAny_bind (wpAny_rule ?_)
    refine wpAny_bind (wpAny_field hz rfl (x := .ref TO) rfl ?_)
    refine wpAny_bind (wpAny_setField_rec hz (by simp) fun g0 hz0 hs0 => ?_)
    replace hz0 : g0.get? z = some (zipObj .ellipsis f1 TI TO) := hz0
    replace hs0 : Heap.SameBut z hp g0 := hs0
    refine wpAny_bind ?_
    simp only [List.zipIdx_cons, List.zipIdx_nil, List.forIn_cons, List.forIn_nil]
    refine wpAny_bind (wpAny_bind (wpAny_onRaise ?_))
    show wpAny _ _ (Builtin.SmallTypes.nextOf (.ref i1) >>= _) _ _ ⟨g0, g, d, tk0, os⟩
    refine wpAny_bind (D1.item i _ _ _ hlt1 (D1.over st1 hs0 S.zf1) fun x1 p1 tk1 hx1 sn1 hp1 => wpAny_pure ?_)
    replace hp1 : Heap.SameBut i1 g0 p1 := hp1
    have hU1 : IsTupOf2 p1 TO a1 a2 := hp1.extBut _ _ S.Ti1 (hs0.extBut _ _ S.TOz hTO)
    refine wpAny_bind (wpAny_seqItems (s := ⟨p1, g, d, tk1, os⟩) hU1 rfl ?_)
    refine wpAny_bind (updateSeq_IsTupOf2 (s := ⟨p1, g, d, tk1, os⟩) hU1 fun g1 hT1 hs1 => ?_)
    replace hT1 : IsTupOf2 g1 TO x1 a2 := hT1
    replace hs1 : Heap.SameBut TO p1 g1 := hs1
    refine wpAny_bind (wpAny_letGo (wpAny_pure ?_))
    refine wpAny_bind (wpAny_bind (wpAny_onRaise ?_))
    show wpAny _ _ (Builtin.SmallTypes.nextOf (.ref i2) >>= _) _ _ ⟨g1, g, d, tk1, os⟩
    refine wpAny_bind (D2.item i _ _ _ hlt2 (D2.over (D2.over (D2.over st2 hs0 S.zf2) hp1 S.sep1_2) hs1 S.Tf2) fun x2 p2 tk2 hx2 sn2 hp2 => wpAny_pure ?_)
    replace hp2 : Heap.SameBut i2 g1 p2 := hp2
    have hU2 : IsTupOf2 p2 TO x1 a2 := hp2.extBut _ _ S.Ti2 hT1
    refine wpAny_bind (wpAny_seqItems (s := ⟨p2, g, d, tk2, os⟩) hU2 rfl ?_)
    refine wpAny_bind (updateSeq_IsTupOf2 (s := ⟨p2, g, d, tk2, os⟩) hU2 fun g2 hT2 hs2 => ?_)
    replace hT2 : IsTupOf2 g2 TO x1 x2 := hT2
    replace hs2 : Heap.SameBut TO p2 g2 := hs2
    refine wpAny_bind (wpAny_letGo (wpAny_pure (wpAny_pure ?_)))
    refine wpAny_bind (wpAny_seqItems (s := ⟨g2, g, d, tk2, os⟩) hT2 rfl ?_)
    refine wpAny_bind (wpAny_newTuple ?_)
    have hsz : g2.objs.size = hp.objs.size := by rw [hs2.1, hp2.1, hs1.1, hp1.1, hs0.1]
    have hzz : g2.get? z = some (zipObj .ellipsis f1 TI TO) := (hs2.extBut _ _ S.TOz.symm (hp2.extBut _ _ S.zi2 (hs1.extBut _ _ S.TOz.symm (hp1.extBut _ _ S.zi1 hz0))))
    have hkk : ∀ c o, c ≠ z → c ≠ TO → c ≠ i1 → c ≠ i2 → hp.get? c = some o → g2.get? c = some o := fun c o cz cT c1 c2 e =>
      (hs2.extBut _ _ cT (hp2.extBut _ _ c2 (hs1.extBut _ _ cT (hp1.extBut _ _ c1 (hs0.extBut _ _ cz e)))))
    have hj1 : St1 (i + 1) g2 := (D1.over (D1.over (D1.over sn1 hs1 S.Tf1) hp2 S.sep2_1) hs2 S.Tf1)
    have hj2 : St2 (i + 1) g2 := (D2.over sn2 hs2 S.Tf2)
    have hzlt : z < g2.objs.size := Heap.lt_size hzz
    show wpAny _ _ (Builtin.SmallTypes.ownedTupleHandOut (.ref z) (.ref g2.objs.size) >>= _) _ _ ⟨g2.push { cls := .type "tuple", data := .seq #[x1, x2] }, g, d, tk2, os⟩
    refine wpAny_bind ?_
    unfold Builtin.SmallTypes.ownedTupleHandOut
    have hz₆ : (g2.push { cls := .type "tuple", data := .seq #[x1, x2] }).get? z = some (zipObj .ellipsis f1 TI TO) := Heap.get?_push_of_some _ hzz
    refine wpAny_bind (wpAny_setField_rec hz₆ (by simp) fun h₇ hz₇ hs₇ => ?_)
    replace hz₇ : h₇.get? z = some (zipObj (rawInt g2.objs.size) f1 TI TO) := hz₇
    refine wpAny_setField_rec hz₇ (by simp) fun h₈ hz₈ hs₈ => ?_
    replace hz₈ : h₈.get? z = some (zipObj (rawInt g2.objs.size) false TI TO) := hz₈
    replace hs₇ : Heap.SameBut z (g2.push { cls := .type "tuple", data := .seq #[x1, x2] }) h₇ := hs₇
    replace hs₈ : Heap.SameBut z h₇ h₈ := hs₈
    have up : ∀ c o, c ≠ z → g2.get? c = some o → h₈.get? c = some o := fun c o c1 e => hs₈.extBut _ _ c1 (hs₇.extBut _ _ c1 (Heap.get?_push_of_some _ e))
    have hT₈ : IsTupOf2 h₈ g2.objs.size x1 x2 := hs₈.extBut _ _ (Nat.ne_of_gt hzlt) (hs₇.extBut _ _ (Nat.ne_of_gt hzlt) (Heap.get?_push_size _ rfl))
    have hz8 : h₈.objs.size = g2.objs.size + 1 := by rw [hs₈.1, hs₇.1, Heap.size_push]
    rw [hsz] at hz₈ hT₈ hz8
    refine wpAny_pure ⟨_, rfl, ?_⟩
    show Q (.ref g2.objs.size) ⟨h₈, g, d, tk2, os⟩
    rw [hsz]
    exact hQ x1 x2 h₈ tk2 hx1 hx2 ⟨_, _, .inr ⟨_, rfl⟩, hz₈⟩ ⟨_, _, up _ _ S.TOz hT2⟩ (D1.frame _ _ _ hj1 fun b hb o e => up b o (fun q => S.zf1 (q ▸ hb)) e) (D2.frame _ _ _ hj2 fun b hb o e => up b o (fun q => S.zf2 (q ▸ hb)) e) hT₈ hz8 fun c o cz cT c1 c2 e => up c o cz (hkk c o cz cT c1 c2 e)
  · replace hs0 : Heap.SameBut z hp g0 := hs0
    rw [if_neg Bool.false_ne_true]
    refine wpAny_bind ?_
    simp only [← Array.forIn_toList, List.forIn_cons, List.forIn_nil]
    refine wpAny_bind (wpAny_bind (wpAny_holding ?_))
    show wpAny _ _ (Builtin.SmallTypes.nextOf (.ref i1) >>= _) _ _ ⟨g0, g, d, tk0, os⟩
    refine wpAny_bind (D1.item i _ _ _ hlt1 (D1.over st1 hs0 S.zf1) fun x1 p1 tk1 hx1 sn1 hp1 => wpAny_pure ?_)
    replace hp1 : Heap.SameBut i1 g0 p1 := hp1
    refine wpAny_pure ?_
    refine wpAny_bind (wpAny_bind (wpAny_holding ?_))
    show wpAny _ _ (Builtin.SmallTypes.nextOf (.ref i2) >>= _) _ _ ⟨p1, g, d, tk1, os⟩
    refine wpAny_bind (D2.item i _ _ _ hlt2 (D2.over (D2.over st2 hs0 S.zf2) hp1 S.sep1_2) fun x2 p2 tk2 hx2 sn2 hp2 => wpAny_pure ?_)
    replace hp2 : Heap.SameBut i2 p1 p2 := hp2
    refine wpAny_pure (wpAny_pure ?_)
    refine wpAny_bind (wpAny_newTuple ?_ (by show 2 ≤ sizeLine; decide))
    have hsz : p2.objs.size = hp.objs.size := by rw [hp2.1, hp1.1, hs0.1]
    have hzz : p2.get? z = some (zipObj f0 f1' TI TO) := (hp2.extBut _ _ S.zi2 (hp1.extBut _ _ S.zi1 hz0))
    refine wpAny_pure ⟨_, rfl, ?_⟩
    show Q (.ref p2.objs.size) ⟨p2.push { cls := .type "tuple", data := .seq #[x1, x2] }, g, d, tk2, os⟩
    have up : ∀ c o, p2.get? c = some o → (p2.push { cls := .type "tuple", data := .seq #[x1, x2] }).get? c = some o := fun c o e => Heap.get?_push_of_some _ e
    have hT : IsTupOf2 (p2.push { cls := .type "tuple", data := .seq #[x1, x2] }) p2.objs.size x1 x2 := Heap.get?_push_size _ rfl
    rw [hsz] at hT ⊢
    exact hQ x1 x2 _ tk2 hx1 hx2 ⟨_, _, h0, up _ _ hzz⟩ ⟨a1, a2, up _ _ (hp2.extBut _ _ S.Ti2 (hp1.extBut _ _ S.Ti1 (hs0.extBut _ _ S.TOz hTO)))⟩
      (D1.frame _ _ _ (D1.over sn1 hp2 S.sep2_1) fun b hb o e => up b o e) (D2.frame _ _ _ sn2 fun b hb o e => up b o e) hT (by rw [Heap.size_push, hsz])
      fun c o cz cT c1 c2 e => up c o (hp2.extBut _ _ c2 (hp1.extBut _ _ c1 (hs0.extBut _ _ cz e)))
theorem zipA_next_end {Q : Fin → Shared → Prop} (S : ZipSep2 z TI TO i1 i2 fp1 fp2) (D1 : Draws prog w A i1 fp1 n1 P1 St1) (D2 : Draws prog w A i2 fp2 n2 P2 St2)
    (hz : ZipSt s.heap z TI TO) (hTI : IsTupOf2 s.heap TI (.ref i1) (.ref i2)) (hTO : IsTupOf2 s.heap TO a1 a2) (st1 : St1 i s.heap) (st2 : St2 i s.heap) (hle1 : i ≤ n1) (hle2 : i ≤ n2) (hend : i = n1 ∨ i = n2)
    (hE : ∀ h' tk e, (∀ c o, c ≠ z → c ≠ TO → c ≠ i1 → c ≠ i2 → s.heap.get? c = some o → h'.get? c = some o) → (∃ o, h'.get? e = some o ∧ o.cls = .type "StopIteration") → E (.ref e) { s with heap := h', toks := tk }) :
    wpAny (model prog w) A (Builtin.«zip.__next__» ⟨[.ref z], []⟩) Q E s := by
  obtain ⟨hp, g, d, tk0, os⟩ := s
  obtain ⟨f0, f1, h0, hz⟩ := hz
  show wpAny _ _ (field (.ref z) 2 >>= _) _ _ _
  refine wpAny_bind (wpAny_field hz rfl (x := .bool false) rfl ?_)
  show wpAny _ _ (field (.ref z) 3 >>= _) _ _ _
  refine wpAny_bind (wpAny_field hz rfl (x := .ref TI) rfl ?_)
  refine wpAny_bind (wpAny_seqItems hTI rfl ?_)
  show wpAny _ _ (Builtin.SmallTypes.ownedTupleIsFree (.ref z) >>= _) _ _ _
  refine wpAny_bind (zip_isFree h0 hz ?_ fun g0 f1' hz0 hs0 => ?_)
  · simp only [if_true]
    refine wpAny_bind (wpAny_rule ?_)
    refine wpAny_bind (wpAny_field hz rfl (x := .ref TO) rfl ?_)
    refine wpAny_bind (wpAny_setField_rec hz (by simp) fun g0 hz0 hs0 => ?_)
    replace hz0 : g0.get? z = some (zipObj .ellipsis f1 TI TO) := hz0
    replace hs0 : Heap.SameBut z hp g0 := hs0
    refine wpAny_bind ?_
    simp only [List.zipIdx_cons, List.zipIdx_nil, List.forIn_cons, List.forIn_nil]
    refine wpAny_bind (wpAny_bind (wpAny_onRaise ?_))
    show wpAny _ _ (Builtin.SmallTypes.nextOf (.ref i1) >>= _) _ _ ⟨g0, g, d, tk0, os⟩
    by_cases hlt1 : i < n1
    · refine wpAny_bind (D1.item i _ _ _ hlt1 (D1.over st1 hs0 S.zf1) fun x1 p1 tk1 hx1 sn1 hp1 => wpAny_pure ?_)
      replace hp1 : Heap.SameBut i1 g0 p1 := hp1
      have hU1 : IsTupOf2 p1 TO a1 a2 := hp1.extBut _ _ S.Ti1 (hs0.extBut _ _ S.TOz hTO)
      refine wpAny_bind (wpAny_seqItems (s := ⟨p1, g, d, tk1, os⟩) hU1 rfl ?_)
      refine wpAny_bind (updateSeq_IsTupOf2 (s := ⟨p1, g, d, tk1, os⟩) hU1 fun g1 hT1 hs1 => ?_)
      replace hT1 : IsTupOf2 g1 TO x1 a2 := hT1
      replace hs1 : Heap.SameBut TO p1 g1 := hs1
      refine wpAny_bind (wpAny_letGo (wpAny_pure ?_))
      have hi2 : i = n2 := by omega
      refine wpAny_bind (wpAny_bind (wpAny_onRaise ?_))
      show wpAny _ _ (Builtin.SmallTypes.nextOf (.ref i2) >>= _) _ _ ⟨g1, g, d, tk1, os⟩
      refine wpAny_bind (D2.done ⟨g1, g, d, tk1, os⟩ _ _ (by rw [← hi2]; exact (D2.over (D2.over (D2.over st2 hs0 S.zf2) hp1 S.sep1_2) hs1 S.Tf2)) fun q e hq he => ?_)
      replace hq : Heap.ExtBut i2 g1 q := hq
      obtain ⟨oe, hoe, hce⟩ := he
      replace hoe : q.get? e = some oe := hoe
      have hzq : q.get? z = some (zipObj .ellipsis f1 TI TO) := hq _ _ S.zi2 (hs1.extBut _ _ S.TOz.symm (hp1.extBut _ _ S.zi1 hz0))
      have hez : e ≠ z := fun x => by subst x; rw [hzq] at hoe; cases hoe; simp at hce
      refine wpAny_setField_rec (s := ⟨q, g, d, tk1, os⟩) hzq (by simp) fun q' _ hq' => ?_
      replace hq' : Heap.SameBut z q q' := hq'
      exact hE q' tk1 e (fun c o cz cT c1 c2 x => hq'.extBut _ _ cz (hq _ _ c2 (hs1.extBut _ _ cT (hp1.extBut _ _ c1 (hs0.extBut _ _ cz x))))) ⟨oe, hq'.extBut _ _ hez hoe, hce⟩
    · have hi1 : i = n1 := by omega
      refine wpAny_bind (D1.done ⟨g0, g, d, tk0, os⟩ _ _ (by rw [← hi1]; exact (D1.over st1 hs0 S.zf1)) fun q e hq he => ?_)
      replace hq : Heap.ExtBut i1 g0 q := hq
      obtain ⟨oe, hoe, hce⟩ := he
      replace hoe : q.get? e = some oe := hoe
      have hzq : q.get? z = some (zipObj .ellipsis f1 TI TO) := hq _ _ S.zi1 hz0
      have hez : e ≠ z := fun x => by subst x; rw [hzq] at hoe; cases hoe; simp at hce
      refine wpAny_setField_rec (s := ⟨q, g, d, tk0, os⟩) hzq (by simp) fun q' _ hq' => ?_
      replace hq' : Heap.SameBut z q q' := hq'
      exact hE q' tk0 e (fun c o cz cT c1 c2 x => hq'.extBut _ _ cz (hq _ _ c1 (hs0.extBut _ _ cz x))) ⟨oe, hq'.extBut _ _ hez hoe, hce⟩
  · replace hs0 : Heap.SameBut z hp g0 := hs0
    rw [if_neg Bool.false_ne_true]
    refine wpAny_bind ?_
    simp only [← Array.forIn_toList, List.forIn_cons, List.forIn_nil]
    refine wpAny_bind (wpAny_bind (wpAny_holding ?_))
    show wpAny _ _ (Builtin.SmallTypes.nextOf (.ref i1) >>= _) _ _ ⟨g0, g, d, tk0, os⟩
    by_cases hlt1 : i < n1
    · refine wpAny_bind (D1.item i _ _ _ hlt1 (D1.over st1 hs0 S.zf1) fun x1 p1 tk1 hx1 sn1 hp1 => wpAny_pure ?_)
      replace hp1 : Heap.SameBut i1 g0 p1 := hp1
      refine wpAny_pure ?_
      have hi2 : i = n2 := by omega
      refine wpAny_bind (wpAny_bind (wpAny_holding ?_))
      show wpAny _ _ (Builtin.SmallTypes.nextOf (.ref i2) >>= _) _ _ ⟨p1, g, d, tk1, os⟩
      refine wpAny_bind (D2.done ⟨p1, g, d, tk1, os⟩ _ _ (by rw [← hi2]; exact (D2.over (D2.over st2 hs0 S.zf2) hp1 S.sep1_2)) fun q e hq he => ?_)
      replace hq : Heap.ExtBut i2 p1 q := hq
      exact hE q tk1 e (fun c o cz cT c1 c2 x => hq _ _ c2 (hp1.extBut _ _ c1 (hs0.extBut _ _ cz x))) he
    · have hi1 : i = n1 := by omega
      refine wpAny_bind (D1.done ⟨g0, g, d, tk0, os⟩ _ _ (by rw [← hi1]; exact (D1.over st1 hs0 S.zf1)) fun q e hq he => ?_)
      replace hq : Heap.ExtBut i1 g0 q := hq
      exact hE q tk0 e (fun c o cz cT c1 c2 x => hq _ _ c1 (hs0.extBut _ _ cz x)) he
end
end PySem
namespace U
open PySem PySem.Spec PyProof.Rows L2
/-- a list, a tuple, a text -/
inductive Kd | l (a : Addr) | t (a : Addr) | s (z : Str) (k : Tok)
def Kd.v : Kd → V | l a => .ref a | t a => .ref a | s z _ => .str z
def Kd.u : Kd → Value | l a => .ref a | t a => .ref a | s z k => .str z k
def Kd.sq (K : PySem.W.Frag) (H : Hp) : Kd → List V → Prop
  | l a, xs => SqL K H a xs
  | t a, xs => SqT K H a xs
  | s z _, xs => xs = chars z
def Kd.at (h : Heap) (it : Addr) (i : Nat) : Kd → Prop
  | l a => h.IsListIter it a i
  | t a => h.IsTupleIter it a i
  | s z k => h.IsStrIter it (strIterType z) z k i
def Kd.away (c : Addr) : Kd → Prop
  | l a => a ≠ c
  | t a => a ≠ c
  | s _ _ => True
def Kd.obj : Kd → Obj
  | l a => { cls := .type "list_iterator", data := .fields #[.ref a, .int 0 0] }
  | t a => { cls := .type "tuple_iterator", data := .fields #[.ref a, .int 0 0] }
  | s z k => { cls := .type (strIterType z), data := .fields #[.str z k, .int 0 0] }
theorem Kd.at_get {k : Kd} {h : Heap} {it : Addr} {i : Nat} (p : k.at h it i) : ∃ o, h.get? it = some o ∧ ∀ v, o.data ≠ .cell v := by
  cases k <;> (obtain ⟨o, ho, hc, hd⟩ := p; exact ⟨o, ho, fun v q => by rw [hd] at q; cases q⟩)
theorem Kd.at_keep {k : Kd} {h h' : Heap} {it : Addr} {i : Nat} (p : k.at h it i) (q : ∀ o, h.get? it = some o → h'.get? it = some o) : k.at h' it i := by
  cases k with
  | l a => exact Heap.IsListIter.at p q
  | t a => exact Heap.IsTupleIter.at p q
  | s z k => obtain ⟨o, ho, r⟩ := p; exact ⟨o, q o ho, r⟩
theorem Kd.sq_inj {X : Cx} {pins : List (Addr × Obj)} {σ : L2.St} {H : Hp} {s : Shared} (I : Inv X pins σ H s) {k : Kd} {xs ys : List V} (p : k.sq X.K H xs) (q : k.sq X.K H ys) : xs = ys := by
  cases k with
  | l a => exact I.list_inj p q
  | t a => exact I.tuple_inj p q
  | s z k => exact p.trans q.symm
theorem Kd.draws {X : Cx} {pins : List (Addr × Obj)} {σ : L2.St} {H : Hp} {s : Shared} (I : Inv X pins σ H s) {k : Kd} {xs : List V} {it : Addr} (hq : k.sq X.K H xs) (ha : k.away it) {A : Around} (hh : A.handled = none) :
    ∃ (fp : List Addr) (Pv : Nat → Value → Prop) (St : Nat → Heap → Prop), Draws X.prog X.w A it fp xs.length Pv St ∧ it ∈ fp ∧ (∀ c ∈ fp, c = it ∨ ¬ k.away c) ∧ (∀ i, k.at s.heap it i → St i s.heap) ∧ (∀ i h, St i h → k.at h it i) ∧ ∀ i u, Pv i u → ∃ x, xs[i]? = some x ∧ RelV x u := by
  cases k with
  | l a =>
    obtain ⟨its, rv, p, _⟩ := I.list hq
    have e : its.toArray.size = xs.length := by have := rv.length; simp; omega
    have D := Draws.list (prog := X.prog) (w := X.w) hh it a ha its.toArray
    rw [e] at D
    refine ⟨_, _, _, D, by simp, fun c hc => ?_, fun i q => ⟨q, p.isList⟩, fun i h q => q.1, fun i u q => ?_⟩
    · rcases (by simpa using hc : c = it ∨ c = a) with z | z
      · exact .inl z
      · exact .inr fun q => q z.symm
    · have hlt : i < xs.length := by
        have := (Array.getElem?_eq_some_iff.mp q).1
        omega
      obtain ⟨u', hu, ru⟩ := rv.get (show xs[i]? = some xs[i] by simp [hlt])
      rw [show its.toArray[i]? = some u' by simpa using hu] at q
      cases q
      exact ⟨_, by simp [hlt], ru⟩
  | t a =>
    obtain ⟨its, rv, p, _⟩ := I.tuple hq
    have e : its.toArray.size = xs.length := by have := rv.length; simp; omega
    have D := Draws.tuple (prog := X.prog) (w := X.w) hh it a ha its.toArray
    rw [e] at D
    refine ⟨_, _, _, D, by simp, fun c hc => ?_, fun i q => ⟨q, p⟩, fun i h q => q.1, fun i u q => ?_⟩
    · rcases (by simpa using hc : c = it ∨ c = a) with z | z
      · exact .inl z
      · exact .inr fun q => q z.symm
    · have hlt : i < xs.length := by
        have := (Array.getElem?_eq_some_iff.mp q).1
        omega
      obtain ⟨u', hu, ru⟩ := rv.get (show xs[i]? = some xs[i] by simp [hlt])
      rw [show its.toArray[i]? = some u' by simpa using hu] at q
      cases q
      exact ⟨_, by simp [hlt], ru⟩
  | s z k =>
    have D := Draws.text (prog := X.prog) (w := X.w) hh it z k
    have hl : (chars z).length = z.cps.size := by unfold chars; simp
    cases hq
    rw [← hl] at D
    refine ⟨_, _, _, D, by simp, fun c hc => .inl (by simpa using hc), fun i q => q, fun i h q => q, fun i u q => ?_⟩
    obtain ⟨c, t, hc, rfl⟩ := q
    refine ⟨.str ⟨#[c]⟩, ?_, ⟨t, rfl⟩⟩
    unfold chars
    rw [List.getElem?_map, Array.getElem?_toList, hc]
    rfl
theorem Kd.begins {X : Cx} {pins : List (Addr × Obj)} {σ : L2.St} {H : Hp} {s : Shared} (I : Inv X pins σ H s) {k : Kd} {xs : List V} (hq : k.sq X.K H xs) : ∃ Hp', Begins k.u k.obj Hp' ∧ Hp' s.heap := by
  cases k with
  | l a => obtain ⟨its, rv, p, _⟩ := I.list hq; exact ⟨_, begins_list a its.toArray, p.isList⟩
  | t a => obtain ⟨its, rv, p, _⟩ := I.tuple hq; exact ⟨_, begins_tuple a its.toArray, p⟩
  | s z k => exact ⟨_, begins_text z k, trivial⟩
theorem Kd.at0 {k : Kd} {h : Heap} {it : Addr} (q : h.get? it = some k.obj) : k.at h it 0 := by
  cases k <;> exact ⟨_, q, rfl, rfl⟩
theorem Kd.away_of {X : Cx} {pins : List (Addr × Obj)} {σ : L2.St} {H : Hp} {s : Shared} (I : Inv X pins σ H s) {k : Kd} {xs : List V} (hq : k.sq X.K H xs) {c : Addr} (hc : s.heap.objs.size ≤ c) : k.away c := by
  cases k with
  | l a => obtain ⟨its, rv, ⟨o, n, e, _⟩, _⟩ := I.list hq; exact fun z => absurd (Heap.lt_size e) (Nat.not_lt.mpr (by rw [z]; exact hc))
  | t a => obtain ⟨its, rv, ⟨o, e, _⟩, _⟩ := I.tuple hq; exact fun z => absurd (Heap.lt_size e) (Nat.not_lt.mpr (by rw [z]; exact hc))
  | s z k => trivial
/-- .. its next item, or the end -/
structure Inner (P : Program) (w : World) (K : PySem.W.Frag) (J : It) (fp : List Addr) (it : Addr) (tn : Nat → Heap → Prop) : Prop where
  mem : it ∈ fp
  obj : ∀ i h, tn i h → ∀ b ∈ fp, ∃ o, h.get? b = some o ∧ ∀ v, o.data ≠ .cell v
  keep : ∀ i h h', tn i h → (∀ b ∈ fp, ∀ o, h.get? b = some o → h'.get? b = some o) → tn i h'
  item : ∀ (X : Cx), X.prog = P → X.w = w → X.K = K → ∀ (A : Around), A.handled = none → ∀ (i : Nat) (pins : List (Addr × Obj)) (s : Shared) (σ : L2.St) (H : Hp) (E : Value → Shared → Prop), Inv X pins σ H s → (∀ b ∈ fp, FpOk X pins H b) → tn i s.heap → J.go i H →
    wpAny (model P w) A (Builtin.SmallTypes.nextOf (.ref it)) (fun u s2 => ∃ x H', Inv X pins σ H' s2 ∧ RelV x u ∧ J.yld i H x H' ∧ tn (i + 1) s2.heap ∧ ∀ b ∈ fp, H' b = none) E s
  done : ∀ (X : Cx), X.prog = P → X.w = w → X.K = K → ∀ (A : Around), A.handled = none → ∀ (i : Nat) (pins : List (Addr × Obj)) (s : Shared) (σ : L2.St) (H : Hp) (Q : Value → Shared → Prop), Inv X pins σ H s → (∀ b ∈ fp, FpOk X pins H b) → tn i s.heap → J.stop i H →
    wpAny (model P w) A (Builtin.SmallTypes.nextOf (.ref it)) Q (fun e s1 => (∃ b o, e = .ref b ∧ s1.heap.get? b = some o ∧ o.cls = .type "StopIteration") ∧ Inv X pins σ H s1) s
def JKd (K : PySem.W.Frag) (k : Kd) : It :=
  ⟨fun i H => ∃ (xs : List V) (x : V), k.sq K H xs ∧ xs[i]? = some x, fun i H v H' => H' = H ∧ ∀ xs, k.sq K H xs → xs[i]? = some v, fun i H => k.sq K H [] ∧ i = 0 ∨ ∃ xs, k.sq K H xs ∧ xs.length = i⟩
theorem inner_kd {P : Program} {w : World} {K : PySem.W.Frag} (k : Kd) (it : Addr) (ha : k.away it) : Inner P w K (JKd K k) [it] it (fun i h => k.at h it i) where
  mem := by simp
  obj := fun i h st b hb => by
    have e : b = it := by simpa using hb
    subst e; exact Kd.at_get st
  keep := fun i h h' st q => Kd.at_keep st fun o e => q it (by simp) o e
  item := by
    intro X hP hw hK A hh i pins s σ H E I hf st hg
    subst hP hw hK
    obtain ⟨xs, x, hq, hx⟩ := hg
    obtain ⟨fp, Pv, St, D, hm, _, h1, h2, h3⟩ := Kd.draws I hq ha hh
    have hlt : i < xs.length := (List.getElem?_eq_some_iff.mp hx).1
    refine D.item i s _ _ hlt (h1 i st) fun u h' tk hP st' sb => ?_
    obtain ⟨y, hy, ry⟩ := h3 i u hP
    obtain ⟨f0, f1, f2, f3, f4, f5⟩ := hf it (by simp)
    exact ⟨y, H, I.turned (fun b o hb e => sb.extBut b o hb e) f0 f1 f3 f4 f5, ry, ⟨rfl, fun l hl => by rw [Kd.sq_inj I hl hq]; exact hy⟩, h2 _ _ st', fun b hb => (hf b hb).1⟩
  done := by
    intro X hP hw hK A hh i pins s σ H Q I hf st hg
    subst hP hw hK
    obtain ⟨xs, hq, hx⟩ : ∃ xs, k.sq X.K H xs ∧ xs.length = i := by
      rcases hg with ⟨q, e⟩ | q
      · exact ⟨[], q, e.symm⟩
      · exact q
    obtain ⟨fp, Pv, St, D, hm, _, h1, h2, h3⟩ := Kd.draws I hq ha hh
    subst hx
    refine D.done s _ _ (h1 _ st) fun h' e eb he => ?_
    obtain ⟨o, ho, hc⟩ := he
    obtain ⟨f0, f1, f2, f3, f4, f5⟩ := hf it (by simp)
    exact ⟨⟨e, o, rfl, ho, hc⟩, I.turned (t' := s.toks) (fun b o hb q => eb b o hb q) f0 f1 f3 f4 f5⟩
def JZip (K : PySem.W.Frag) (k1 k2 : Kd) : It :=
  ⟨fun i H => ∃ (xs ys : List V) (x y : V), k1.sq K H xs ∧ k2.sq K H ys ∧ xs[i]? = some x ∧ ys[i]? = some y,
    fun i H v H' => ∃ T x y, v = .ref T ∧ H T = none ∧ H' = upd H T (.tup [x, y]) ∧ (∀ xs, k1.sq K H xs → xs[i]? = some x) ∧ ∀ ys, k2.sq K H ys → ys[i]? = some y,
    fun i H => ∃ xs ys : List V, k1.sq K H xs ∧ k2.sq K H ys ∧ i = min xs.length ys.length⟩
structure ZApart (z TI TO i1 i2 : Addr) (k1 k2 : Kd) : Prop where
  TIz : TI ≠ z
  TOz : TO ≠ z
  i1z : i1 ≠ z
  i2z : i2 ≠ z
  TITO : TI ≠ TO
  TIi1 : TI ≠ i1
  TIi2 : TI ≠ i2
  TOi1 : TO ≠ i1
  TOi2 : TO ≠ i2
  i12 : i1 ≠ i2
  a1 : ∀ c, c = z ∨ c = TI ∨ c = TO ∨ c = i1 ∨ c = i2 → k1.away c
  a2 : ∀ c, c = z ∨ c = TI ∨ c = TO ∨ c = i1 ∨ c = i2 → k2.away c
theorem ZApart.sep {z TI TO i1 i2 : Addr} {k1 k2 : Kd} (D : ZApart z TI TO i1 i2 k1 k2) {fp1 fp2 : List Addr} (m1 : i1 ∈ fp1) (m2 : i2 ∈ fp2) (h1 : ∀ c ∈ fp1, c = i1 ∨ ¬ k1.away c) (h2 : ∀ c ∈ fp2, c = i2 ∨ ¬ k2.away c) : ZipSep2 z TI TO i1 i2 fp1 fp2 where
  TIz := D.TIz
  TOz := D.TOz
  TITO := D.TITO
  TIi1 := D.TIi1
  mem1 := m1
  zf1 := fun q => (h1 _ q).elim (fun e => D.i1z e.symm) fun e => e (D.a1 _ (by simp))
  Tf1 := fun q => (h1 _ q).elim (fun e => D.TOi1 e) fun e => e (D.a1 _ (by simp))
  TIi2 := D.TIi2
  mem2 := m2
  zf2 := fun q => (h2 _ q).elim (fun e => D.i2z e.symm) fun e => e (D.a2 _ (by simp))
  Tf2 := fun q => (h2 _ q).elim (fun e => D.TOi2 e) fun e => e (D.a2 _ (by simp))
  sep1_2 := fun q => (h2 _ q).elim (fun e => D.i12 e) fun e => e (D.a2 _ (by simp))
  sep2_1 := fun q => (h1 _ q).elim (fun e => D.i12 e.symm) fun e => e (D.a1 _ (by simp))
def ZTn (z TI TO i1 i2 : Addr) (k1 k2 : Kd) (i : Nat) (h : Heap) : Prop := ZipSt h z TI TO ∧ IsTupOf2 h TI (.ref i1) (.ref i2) ∧ (∃ x y, IsTupOf2 h TO x y) ∧ k1.at h i1 i ∧ k2.at h i2 i
section
variable {z TI TO i1 i2 : Addr} {k1 k2 : Kd}
theorem ZTn.obj {i : Nat} {h : Heap} (st : ZTn z TI TO i1 i2 k1 k2 i h) (c : Addr) (hc : c ∈ [z, TI, TO, i1, i2]) : ∃ o, h.get? c = some o ∧ ∀ v, o.data ≠ .cell v := by
  obtain ⟨⟨f0, f1, _, hz⟩, hTI, ⟨x, y, hTO⟩, h1, h2⟩ := st
  have e' : c = z ∨ c = TI ∨ c = TO ∨ c = i1 ∨ c = i2 := by simpa using hc
  rcases e' with q | q | q | q | q
  · rw [q]; exact ⟨_, hz, fun v q => nomatch q⟩
  · rw [q]; exact ⟨_, hTI, fun v q => nomatch q⟩
  · rw [q]; exact ⟨_, hTO, fun v q => nomatch q⟩
  · rw [q]; exact Kd.at_get h1
  · rw [q]; exact Kd.at_get h2
theorem ZTn.keep {i : Nat} {h h' : Heap} (st : ZTn z TI TO i1 i2 k1 k2 i h) (k : ∀ b ∈ [z, TI, TO, i1, i2], ∀ o, h.get? b = some o → h'.get? b = some o) : ZTn z TI TO i1 i2 k1 k2 i h' := by
  obtain ⟨⟨f0, f1, h0, hz⟩, hTI, ⟨x, y, hTO⟩, h1, h2⟩ := st
  exact ⟨⟨f0, f1, h0, k z (by simp) _ hz⟩, k TI (by simp) _ hTI, ⟨x, y, k TO (by simp) _ hTO⟩, Kd.at_keep h1 fun o q => k i1 (by simp) o q, Kd.at_keep h2 fun o q => k i2 (by simp) o q⟩
/-- the builtin's next -/
theorem ztn_item (D : ZApart z TI TO i1 i2 k1 k2) {X : Cx} {A : Around} (hh : A.handled = none) {i : Nat} {pins : List (Addr × Obj)} {s : Shared} {σ : L2.St} {H : Hp} {E : Value → Shared → Prop} (I : Inv X pins σ H s)
    (hf : ∀ b ∈ [z, TI, TO, i1, i2], FpOk X pins H b) (st : ZTn z TI TO i1 i2 k1 k2 i s.heap) (hg : (JZip X.K k1 k2).go i H) {Q : Value → Shared → Prop}
    (hQ : ∀ h' tk x y u u2, ZTn z TI TO i1 i2 k1 k2 (i + 1) h' → RelV x u → RelV y u2 → IsTupOf2 h' s.heap.objs.size u u2 → (∀ c o, c ∉ [z, TI, TO, i1, i2] → s.heap.get? c = some o → h'.get? c = some o) →
      (JZip X.K k1 k2).yld i H (.ref s.heap.objs.size) (upd H s.heap.objs.size (.tup [x, y])) → (∀ b ∈ [z, TI, TO, i1, i2], b < s.heap.objs.size) → Q (.ref s.heap.objs.size) { s with heap := h', toks := tk }) :
    wpAny (model X.prog X.w) A (Builtin.«zip.__next__» ⟨[.ref z], []⟩) (fun fin s' => ∃ v, fin = .done (.ret v) ∧ Q v s') E s := by
  have hlt : ∀ b ∈ [z, TI, TO, i1, i2], b < s.heap.objs.size := fun b hb => by obtain ⟨o, ho, _⟩ := st.obj b hb; exact Heap.lt_size ho
  obtain ⟨hz, hTI, ⟨x0, y0, hTO⟩, h1, h2⟩ := st
  obtain ⟨xs, ys, x, y, hqx, hqy, hx, hy⟩ := hg
  obtain ⟨fp1, P1, St1, D1, m1, g1, e1, o1, r1⟩ := Kd.draws I hqx (D.a1 i1 (by simp)) hh
  obtain ⟨fp2, P2, St2, D2, m2, g2, e2, o2, r2⟩ := Kd.draws I hqy (D.a2 i2 (by simp)) hh
  refine zipA_next_item (D.sep m1 m2 g1 g2) D1 D2 hz hTI hTO (e1 i h1) (e2 i h2) (List.getElem?_eq_some_iff.mp hx).1 (List.getElem?_eq_some_iff.mp hy).1 fun u u2 h' tk q1 q2 z' hTO' s1 s2 hT hsz hk => ?_
  obtain ⟨x', hx', rx⟩ := r1 i u q1
  obtain ⟨y', hy', ry⟩ := r2 i u2 q2
  refine hQ h' tk x' y' u u2 ⟨z', hk _ _ D.TIz D.TITO D.TIi1 D.TIi2 hTI, hTO', o1 _ _ s1, o2 _ _ s2⟩ rx ry hT (fun c o hc => hk c o (fun q => hc (by simp [q])) (fun q => hc (by simp [q])) (fun q => hc (by simp [q])) (fun q => hc (by simp [q]))) ?_ hlt
  exact ⟨_, x', y', rfl, I.hok.fresh (Nat.le_refl _), rfl, fun l hl => by rw [Kd.sq_inj I hl hqx]; exact hx', fun l hl => by rw [Kd.sq_inj I hl hqy]; exact hy'⟩
theorem ztn_done (D : ZApart z TI TO i1 i2 k1 k2) {X : Cx} {A : Around} (hh : A.handled = none) {i : Nat} {pins : List (Addr × Obj)} {s : Shared} {σ : L2.St} {H : Hp} {E : Value → Shared → Prop} (I : Inv X pins σ H s)
    (hf : ∀ b ∈ [z, TI, TO, i1, i2], FpOk X pins H b) (st : ZTn z TI TO i1 i2 k1 k2 i s.heap) (hg : (JZip X.K k1 k2).stop i H) {Q : PySem.Fin → Shared → Prop}
    (hE : ∀ e h' tk o, h'.get? e = some o → o.cls = .type "StopIteration" → Inv X pins σ H { s with heap := h', toks := tk } → E (.ref e) { s with heap := h', toks := tk }) :
    wpAny (model X.prog X.w) A (Builtin.«zip.__next__» ⟨[.ref z], []⟩) Q E s := by
  obtain ⟨hz, hTI, ⟨x0, y0, hTO⟩, h1, h2⟩ := st
  obtain ⟨xs, ys, hqx, hqy, he⟩ := hg
  obtain ⟨fp1, P1, St1, D1, m1, g1, e1, o1, r1⟩ := Kd.draws I hqx (D.a1 i1 (by simp)) hh
  obtain ⟨fp2, P2, St2, D2, m2, g2, e2, o2, r2⟩ := Kd.draws I hqy (D.a2 i2 (by simp)) hh
  refine zipA_next_end (D.sep m1 m2 g1 g2) D1 D2 hz hTI hTO (e1 i h1) (e2 i h2) (by omega) (by omega) (by omega) fun h' tk e hk hs => ?_
  obtain ⟨o, ho, hc⟩ := hs
  exact hE e h' tk o ho hc (I.turnedL (ch := [z, TI, TO, i1, i2]) (fun c o hb q => hk c o (fun q' => hb (by simp [q'])) (fun q' => hb (by simp [q'])) (fun q' => hb (by simp [q'])) (fun q' => hb (by simp [q'])) q) hf)
end
theorem letGo_zipS {prog : Program} {w : World} {A : Around} {E : Value → Shared → Prop} {s : Shared} {z TI TO : Addr} {tg : Expr} {v : Value} {Q : Unit → Shared → Prop} (hz : ZipSt s.heap z TI TO)
    (hQ : ∀ h', ZipSt h' z TI TO → Heap.SameBut z s.heap h' → Q () { s with heap := h' }) : wpAny (model prog w) A (letOwnedTupleGo tg (.ref z) v) Q E s := by
  have q0 : Q () s := hQ s.heap hz ⟨rfl, fun _ _ => rfl⟩
  obtain ⟨f0, f1, h0, hz⟩ := hz
  unfold letOwnedTupleGo
  cases tg <;> first
    | exact wpAny_pure q0
    | (cases v <;> first
        | exact wpAny_pure q0
        | (refine wpAny_bind (wpAny_load hz ?_)
           dsimp only
           split
           · refine wpAny_bind (wpAny_rule ?_)
             exact wpAny_setField_rec hz (by simp) fun h' he' hs' => hQ h' ⟨.none, f1, .inl rfl, he'⟩ hs'
           · exact wpAny_pure q0))
theorem turn_zipS {P : Program} {w : World} {K : PySem.W.Frag} {tg : Expr} {z TI TO i1 i2 : Addr} {k1 k2 : Kd} (D : ZApart z TI TO i1 i2 k1 k2) : Turn P w K tg (JZip K k1 k2) [z, TI, TO, i1, i2] z (ZTn z TI TO i1 i2 k1 k2) where
  mem := by simp
  obj := fun i h st c hc => st.obj c hc
  keep := fun i h h' st k => st.keep k
  item := by
    intro X hP hw hK hc i pins s σ H E I hf st hg
    subst hP hw hK
    have hT : s.TypeIs (.ref z) "zip" := by obtain ⟨⟨f0, f1, _, hz⟩, _⟩ := st; exact ⟨_, hz, rfl⟩
    unfold pyNext
    refine wpAny_bind (wpAny_attempt (wpAny_callSpecial?_slot (name := Str.ofString "__next__") hT F.slot_zip_next
      (wpAny_call_entry F.slot_zip_next hT F.entry_zip_next (ztn_item (A := X.A.in1) D (I.ok.hd hc) I hf st hg fun h' tk x y u u2 st' rx ry hT hk hy hlt => wpAny_pure ?_) (F.args_zip_next_1 _))))
    obtain ⟨z', sTI, sTO, s1, s2⟩ := id st'
    refine ⟨_, rfl, letGo_zipS (s := { s with heap := h', toks := tk }) z' fun h'' z'' sb => ?_⟩
    replace sb : Heap.SameBut z h' h'' := sb
    have hT2 : IsTupOf2 h'' s.heap.objs.size u u2 := (sb.2 _ (Nat.ne_of_gt (hlt z (by simp)))).trans hT
    have new : ObjOk X.prog X.w (upd H s.heap.objs.size (.tup [x, y])) h'' s.heap.objs.size (.tup [x, y]) :=
      ⟨by show 2 ≤ sizeLine; decide, [u, u2], .cons rx (.cons ry .nil), ⟨_, hT2, rfl, _, rfl⟩⟩
    obtain ⟨x0, y0, sTO⟩ := sTO
    refine ⟨.ref s.heap.objs.size, _, I.turnedNew (ch := [z, TI, TO, i1, i2]) (fun c o hc q => (sb.2 c (fun q' => hc (by simp [q']))).trans (hk c o hc q)) hf (Nat.le_refl _) new, rfl, hy,
      ⟨z'', (sb.2 _ D.TIz).trans sTI, ⟨x0, y0, (sb.2 _ D.TOz).trans sTO⟩, Kd.at_keep s1 fun o q => (sb.2 _ D.i1z).trans q, Kd.at_keep s2 fun o q => (sb.2 _ D.i2z).trans q⟩, fun c hcm => ?_⟩
    rw [upd_ne (Nat.ne_of_lt (hlt c hcm))]
    exact (hf c hcm).1
  done := by
    intro X hP hw hK hc i pins s σ H E I hf st hg
    subst hP hw hK
    have hT : s.TypeIs (.ref z) "zip" := by obtain ⟨⟨f0, f1, _, hz⟩, _⟩ := st; exact ⟨_, hz, rfl⟩
    unfold pyNext
    refine wpAny_bind (wpAny_attempt (wpAny_callSpecial?_slot (name := Str.ofString "__next__") hT F.slot_zip_next
      (wpAny_call_entry F.slot_zip_next hT F.entry_zip_next (ztn_done (A := X.A.in1) D (I.ok.hd hc) I hf st hg fun e h' tk o ho hc I' => ?_) (F.args_zip_next_1 _))))
    refine wpAny_bind (wpAny_isInstance (T := "StopIteration") (b := true) ⟨o, ho, hc⟩ isSubtype_stop ?_)
    exact wpAny_pure ⟨rfl, I'⟩
  self := fun A i s Q E st h => by
    obtain ⟨⟨f0, f1, _, hz⟩, _⟩ := st
    have hT : s.TypeIs (.ref z) "zip" := ⟨_, hz, rfl⟩
    refine wpAny_pyIter_slot hT F.slot_zip_iter (wpAny_call_entry F.slot_zip_iter hT F.entry_zip_iter ?_ (F.args_zip_iter_1 _))
    show wpAny _ _ (ret (.ref z)) _ _ s
    exact wpAny_pure ⟨_, rfl, "zip", _, hT, F.slot_zip_next.lookup, h⟩
def JEnum (J : It) : It := ⟨J.go, fun i H v H' => ∃ T x H1, v = .ref T ∧ J.yld i H x H1 ∧ H1 T = none ∧ H' = upd H1 T (.tup [.int (i : Nat), x]), J.stop⟩
theorem fpOk_pin {X : Cx} {pins : List (Addr × Obj)} {H : Hp} {b e : Addr} {o : Obj} (h : FpOk X pins H b) (hne : e ≠ b) : FpOk X ((e, o) :: pins) H b := by
  obtain ⟨f0, f1, f2, f3, f4, f5⟩ := h
  refine ⟨f0, f1, f2, f3, f4, fun p hp => ?_⟩
  rcases List.mem_append.mp hp with z | z
  · exact f5 p (List.mem_append_left _ z)
  · rcases List.mem_cons.mp z with z | z
    · rw [z]; exact hne
    · exact f5 p (List.mem_append_right _ z)
theorem turn_enumA {P : Program} {w : World} {K : PySem.W.Frag} {elts : List Expr} {kk : Nat} {tpos : Pos} {J : It} {fp : List Addr} {e it : Addr} {tn : Nat → Heap → Prop} (N : Inner P w K J fp it tn) (hef : e ∉ fp) :
    Turn P w K (.Tuple elts kk tpos) (JEnum J) (e :: fp) e (fun i h => (∃ old, IsEnum h e it ((i : Nat) : Int) old) ∧ tn i h) where
  mem := by simp
  obj := fun i h st b hb => by
    obtain ⟨⟨old, he⟩, st⟩ := st
    rcases List.mem_cons.mp hb with z | z
    · rw [z]; exact ⟨_, he, fun v q => nomatch q⟩
    · exact N.obj i h st b z
  keep := fun i h h' st k => let ⟨⟨old, he⟩, hi⟩ := st; ⟨⟨old, k e (by simp) _ he⟩, N.keep i h h' hi fun b hb o q => k b (List.mem_cons_of_mem _ hb) o q⟩
  item := by
    intro X hP hw hK hc i pins s σ H E I hf st hg
    obtain ⟨⟨old, he⟩, st⟩ := st
    have hT : s.TypeIs (.ref e) "enumerate" := ⟨_, he, rfl⟩
    have fe := hf e (by simp)
    have I0 : Inv X ((e, _) :: pins) σ H s := I.pins_of fun p hp => by
      rcases List.mem_cons.mp hp with z | z
      · rw [z]; exact ⟨he, fe.1, fe.2.1, fe.2.2.1, fun v q => nomatch q⟩
      · exact I.pin p (List.mem_append_right _ z)
    unfold pyNext
    refine wpAny_bind (wpAny_attempt (wpAny_callSpecial?_slot (name := Str.ofString "__next__") hT F.slot_enumerate_next
      (wpAny_call_entry F.slot_enumerate_next hT F.entry_enumerate_next ?_ (F.args_enumerate_next_1 _))))
    show wpAny _ _ (field (.ref e) 2 >>= _) _ _ _
    refine wpAny_bind (wpAny_field he rfl (x := .ref it) rfl ?_)
    refine wpAny_bind (wpAny_mono (N.item X hP hw hK X.A.in1 (I.ok.hd hc) i ((e, _) :: pins) s σ H (fun _ _ => False) I0 (fun b hb => fpOk_pin (hf b (List.mem_cons_of_mem _ hb)) fun q => hef (q ▸ hb)) st hg) ?_ fun _ _ q => q.elim)
    rintro u s1 ⟨x, H1, I1, rx, yx, st1, hn1⟩
    subst hP hw hK
    obtain ⟨h₁, g, d, tk, os⟩ := s1
    have he₁ : IsEnum h₁ e it ((i : Nat) : Int) old := (I1.pin (e, _) (List.mem_append_right _ List.mem_cons_self)).1
    show wpAny _ _ (field (.ref e) 3 >>= _) _ _ ⟨h₁, g, d, tk, os⟩
    refine wpAny_bind (wpAny_field he₁ rfl (x := rawInt i) rfl ?_)
    show wpAny _ _ (field (.ref e) 4 >>= _) _ _ ⟨h₁, g, d, tk, os⟩
    refine wpAny_bind (wpAny_field he₁ rfl (x := .none) rfl ?_)
    show wpAny _ _ (mkInt i >>= _) _ _ ⟨h₁, g, d, tk, os⟩
    refine wpAny_bind (wpAny_mkInt ?_)
    show wpAny _ _ (setField (.ref e) 3 (rawInt ((i : Int) + 1)) >>= _) _ _ ⟨h₁, g, d, tk + 1, os⟩
    refine wpAny_bind (wpAny_setField_rec he₁ (by simp) fun h₂ he₂ hs₂ => ?_)
    replace hs₂ : Heap.SameBut e h₁ h₂ := hs₂
    replace he₂ : IsEnum h₂ e it ((i : Int) + 1) old := he₂
    show wpAny _ _ (setField (.ref e) 4 .none >>= _) _ _ ⟨h₂, g, d, tk + 1, os⟩
    refine wpAny_bind (wpAny_setField_rec he₂ (by simp) fun h₃ he₃ hs₃ => ?_)
    replace hs₃ : Heap.SameBut e h₂ h₃ := hs₃
    replace he₃ : IsEnum h₃ e it ((i : Int) + 1) old := he₃
    show wpAny _ _ (newTuple [.int i tk, u] >>= _) _ _ ⟨h₃, g, d, tk + 1, os⟩
    refine wpAny_bind (wpAny_newTuple ?_)
    have he₄ : IsEnum (h₃.push { cls := .type "tuple", data := .seq #[.int i tk, u] }) e it ((i : Int) + 1) old := Heap.get?_push_of_some _ he₃
    generalize hh₄ : h₃.push { cls := .type "tuple", data := .seq #[.int i tk, u] } = h₄ at he₄
    have hsz : h₃.objs.size = h₁.objs.size := by rw [hs₃.1, hs₂.1]
    have hel : e < h₁.objs.size := Heap.lt_size he₁
    have ht₄ : h₄.get? h₁.objs.size = some { cls := .type "tuple", data := .seq #[.int i tk, u] } := by rw [← hh₄, ← hsz]; exact Heap.get?_push_size _ rfl
    have hk₄ : ∀ b o, b ≠ e → h₁.get? b = some o → h₄.get? b = some o := fun b o hbe hb => by
      rw [← hh₄]; exact Heap.get?_push_of_some _ (hs₃.extBut b o hbe (hs₂.extBut b o hbe hb))
    show wpAny _ _ (Builtin.SmallTypes.ownedTupleIsFree (.ref e) >>= _) _ _ ⟨h₄, g, d, tk + 1, os⟩
    rw [hsz]
    clear hh₄ he₃ hs₃ he₂ hs₂ hsz h₃ h₂
    refine wpAny_bind ?_
    unfold Builtin.SmallTypes.ownedTupleIsFree
    refine wpAny_bind (wpAny_field he₄ rfl (x := .none) rfl (wpAny_pure ?_))
    simp only [if_true]
    refine wpAny_bind (wpAny_rule ?_)
    refine wpAny_bind (wpAny_field he₄ rfl (x := old) rfl ?_)
    refine wpAny_bind (wpAny_setField_rec he₄ (by simp) fun h₅ he₅ hs₅ => ?_)
    replace hs₅ : Heap.SameBut e h₄ h₅ := hs₅
    replace he₅ : IsEnum h₅ e it ((i : Int) + 1) u := he₅
    show wpAny _ _ (Builtin.SmallTypes.ownedTupleHandOut (.ref e) (.ref h₁.objs.size) >>= _) _ _ ⟨h₅, g, d, tk + 1, os⟩
    refine wpAny_bind ?_
    unfold Builtin.SmallTypes.ownedTupleHandOut
    refine wpAny_bind (wpAny_setField_rec he₅ (by simp) fun h₆ he₆ hs₆ => ?_)
    replace hs₆ : Heap.SameBut e h₅ h₆ := hs₆
    replace he₆ : IsEnumOut h₆ e it ((i : Int) + 1) u h₁.objs.size := he₆
    refine wpAny_setField_rec he₆ (by simp) fun h₇ he₇ hs₇ => ?_
    replace hs₇ : Heap.SameBut e h₆ h₇ := hs₇
    replace he₇ : IsEnumOut h₇ e it ((i : Int) + 1) u h₁.objs.size := he₇
    refine wpAny_bind (wpAny_letGo (wpAny_pure ⟨_, rfl, wpAny_pure ?_⟩))
    refine ⟨_, rfl, wpAny_letOwnedTupleGo_enum (s := ⟨h₇, g, d, tk + 1, os⟩) he₇ fun h₈ he₈ hs₈ => ?_⟩
    replace hs₈ : Heap.SameBut e h₇ h₈ := hs₈
    have up : ∀ b o, b ≠ e → h₄.get? b = some o → h₈.get? b = some o := fun b o hbe y => hs₈.extBut b o hbe (hs₇.extBut b o hbe (hs₆.extBut b o hbe (hs₅.extBut b o hbe y)))
    have hT8 := up _ _ (Nat.ne_of_gt hel) ht₄
    have new : ObjOk X.prog X.w (upd H1 h₁.objs.size (.tup [.int (i : Nat), x])) h₈ h₁.objs.size (.tup [.int (i : Nat), x]) :=
      ⟨by show 2 ≤ sizeLine; decide, [.int i tk, u], .cons ⟨_, rfl⟩ (.cons rx .nil), ⟨_, hT8, rfl, _, rfl⟩⟩
    have I1' : Inv X pins σ H1 ⟨h₁, g, d, tk, os⟩ := I1.pins_of fun p hp => I1.pin p (List.mem_append_right _ (List.mem_cons_of_mem _ hp))
    have fe1 : FpOk X pins H1 e := ⟨(I1.pin (e, _) (List.mem_append_right _ List.mem_cons_self)).2.1, fe.2⟩
    have I2 := I1'.turnedNew (t' := tk + 1) (ch := [e]) (T := h₁.objs.size) (h' := h₈) (fun b o hb y => up b o (by simpa using hb) (hk₄ b o (by simpa using hb) y)) (fun b hb => by rw [List.mem_singleton.mp hb]; exact fe1) (Nat.le_refl _) new
    refine ⟨.ref h₁.objs.size, _, I2, rfl, ⟨_, x, H1, rfl, yx, I1.hok.fresh (Nat.le_refl _), rfl⟩, ⟨⟨u, ?_⟩, N.keep _ h₁ h₈ st1 fun b hb o y => ?_⟩, fun b hb => ?_⟩
    · have e1 : ((i + 1 : Nat) : Int) = (i : Int) + 1 := by omega
      rw [e1]; exact he₈
    · have hbe : b ≠ e := fun q => hef (q ▸ hb)
      exact up b o hbe (hk₄ b o hbe y)
    · rcases List.mem_cons.mp hb with z | z
      · rw [z, upd_ne (Nat.ne_of_lt hel)]; exact fe1.1
      · obtain ⟨o, ho, _⟩ := N.obj _ _ st1 b z
        rw [upd_ne (Nat.ne_of_lt (Heap.lt_size ho))]; exact hn1 b z
  done := by
    intro X hP hw hK hc i pins s σ H E I hf st hg
    obtain ⟨⟨old, he⟩, st⟩ := st
    have hT : s.TypeIs (.ref e) "enumerate" := ⟨_, he, rfl⟩
    unfold pyNext
    refine wpAny_bind (wpAny_attempt (wpAny_callSpecial?_slot (name := Str.ofString "__next__") hT F.slot_enumerate_next
      (wpAny_call_entry F.slot_enumerate_next hT F.entry_enumerate_next ?_ (F.args_enumerate_next_1 _))))
    show wpAny _ _ (field (.ref e) 2 >>= _) _ _ _
    refine wpAny_bind (wpAny_field he rfl (x := .ref it) rfl ?_)
    refine wpAny_bind (wpAny_mono (N.done X hP hw hK X.A.in1 (I.ok.hd hc) i pins s σ H (fun _ _ => False) I (fun b hb => hf b (List.mem_cons_of_mem _ hb)) st hg) (fun _ _ q => q.elim) fun v s1 q => ?_)
    obtain ⟨⟨b, o, rfl, ho, hc⟩, I1⟩ := q
    refine wpAny_bind (wpAny_isInstance (T := "StopIteration") (b := true) ⟨o, ho, hc⟩ isSubtype_stop ?_)
    exact wpAny_pure ⟨rfl, I1⟩
  self := fun A i s Q E st h => let ⟨⟨_, he⟩, _⟩ := st; wpAny_pyIter_enum he h
end U
namespace PySem
open Sem (wp)
theorem meets_enum_newG (v : Value) (C : Heap → Prop) (it : Heap → Addr) (nh : Heap → Heap)
    (hi : ∀ (prog : Program) (w : World) (A : Around) (E : Value → Shared → Prop) (s : Shared) (Q : Value → Shared → Prop), C s.heap → Q (.ref (it s.heap)) { s with heap := nh s.heap } → wpAny (model prog w) A (pyIter v) Q E s) :
    Meets (Builtin.«enumerate.__new__» ⟨[.type "enumerate", v], []⟩) (fun _ R s => C s.heap ∧
      R (.ok (.ret (.ref (nh s.heap).objs.size))) { s with heap := (nh s.heap).push { cls := .type "enumerate", data := .fields #[.none, .bool false, .ref (it s.heap), rawInt 0, .none, .none] } }) :=
  .of_wp fun prog w A R s h => by
    obtain ⟨hp, g, d, tk, os⟩ := s; obtain ⟨hl, h⟩ := h
    have hsub := sub_enumerate
    have hI : ∀ (A : Around) (E : Value → Shared → Prop) (Q : Value → Shared → Prop), Q (.ref (it hp)) ⟨nh hp, g, d, tk, os⟩ → wpAny (model prog w) A (pyIter v) Q E ⟨hp, g, d, tk, os⟩ := fun A E Q q => hi prog w A E ⟨hp, g, d, tk, os⟩ Q hl q
    wp_walk
    refine wpAny_stack_any fun st => wpAny_pure ?_
    split
    · rename_i c _ _ _ _ _
      cases (c == Value.type "enumerate")
      · wp_walk using hI
        exact ⟨_, rfl, h⟩
      · wp_walk using hI
        exact ⟨_, rfl, h⟩
    · wp_walk using hI
      exact ⟨_, rfl, h⟩
theorem call_enumG {prog : Program} {w : World} {A : Around} {E : Value → Shared → Prop} {s : Shared} {v : Value} {C : Heap → Prop} {it : Heap → Addr} {nh : Heap → Heap} {Q : Value → Shared → Prop}
    (hi : ∀ (prog : Program) (w : World) (A : Around) (E : Value → Shared → Prop) (s : Shared) (Q : Value → Shared → Prop), C s.heap → Q (.ref (it s.heap)) { s with heap := nh s.heap } → wpAny (model prog w) A (pyIter v) Q E s)
    (hC : C s.heap) (h : ∀ h', IsEnum h' (nh s.heap).objs.size (it s.heap) 0 .none → (∀ b o, (nh s.heap).get? b = some o → h'.get? b = some o) → Q (.ref (nh s.heap).objs.size) { s with heap := h' }) :
    wpAny (model prog w) A (call (.type "enumerate") [v]) Q E s := by
  refine callType_new F.called_enumerate (by decide) (F.typeCall_enumerate_1 _) (F.newCall_enumerate_1 _) (fun obj => F.args_object_init_2 obj _) F.entry_enumerate_new
    (meets_enum_newG v C it nh hi) ⟨hC, ?_⟩
  show _ ∧ _
  have he : IsEnum ((nh s.heap).push { cls := .type "enumerate", data := .fields #[.none, .bool false, .ref (it s.heap), rawInt 0, .none, .none] }) (nh s.heap).objs.size (it s.heap) 0 .none := Heap.get?_push_size _ rfl
  exact ⟨⟨_, he, rfl⟩, h _ he fun b o x => Heap.get?_push_of_some _ x⟩
end PySem
namespace U
open PySem PySem.Spec PyProof.Rows L2
def kdOf (K : PySem.W.Frag) (H : Hp) (a : Addr) : Option Kd := match rdL K H a with
  | some _ => some (.l a)
  | none => match rdT K H a with
    | some _ => some (.t a)
    | none => none
theorem kdOf_sq {K : PySem.W.Frag} {H : Hp} {a : Addr} {k : Kd} (h : kdOf K H a = some k) : k.u = .ref a ∧ k.v = .ref a ∧ ∃ xs, k.sq K H xs := by
  unfold kdOf at h
  split at h
  · rename_i xs e; cases h; exact ⟨rfl, rfl, xs, rdL_sq e⟩
  · split at h
    · rename_i xs e; cases h; exact ⟨rfl, rfl, xs, rdT_sq e⟩
    · cases h
def uZip (K : PySem.W.Frag) (ta : TA) : TI := fun σ H R => ta σ H fun vs H1 => match vs with
  | [.ref a, .ref b] => oK (kdOf K H1 a) fun k1 => oK (kdOf K H1 b) fun k2 => R (JZip K k1 k2) H1
  | _ => False
def uEnum (K : PySem.W.Frag) (ta : TA) : TI := fun σ H R => ta σ H fun vs H1 => match vs with
  | [.ref a] => oK (kdOf K H1 a) fun k => R (JEnum (JKd K k)) H1
  | [.str z] => R (JEnum (JKd K (.s z 0))) H1
  | _ => False
theorem zapart (n : Nat) {k1 k2 : Kd} (h1 : ∀ c, n ≤ c → k1.away c) (h2 : ∀ c, n ≤ c → k2.away c) : ZApart (n + 4) (n + 2) (n + 3) n (n + 1) k1 k2 where
  TIz := by show (n + 2 : Nat) ≠ (n + 4 : Nat); omega
  TOz := by show (n + 3 : Nat) ≠ (n + 4 : Nat); omega
  i1z := by show (n : Nat) ≠ (n + 4 : Nat); omega
  i2z := by show (n + 1 : Nat) ≠ (n + 4 : Nat); omega
  TITO := by show (n + 2 : Nat) ≠ (n + 3 : Nat); omega
  TIi1 := by show (n + 2 : Nat) ≠ (n : Nat); omega
  TIi2 := by show (n + 2 : Nat) ≠ (n + 1 : Nat); omega
  TOi1 := by show (n + 3 : Nat) ≠ (n : Nat); omega
  TOi2 := by show (n + 3 : Nat) ≠ (n + 1 : Nat); omega
  i12 := by show (n : Nat) ≠ (n + 1 : Nat); omega
  a1 := fun c hc => h1 c (by rcases hc with h | h | h | h | h <;> rw [h] <;> first | exact Nat.le_refl _ | exact Nat.le_add_right _ _)
  a2 := fun c hc => h2 c (by rcases hc with h | h | h | h | h <;> rw [h] <;> first | exact Nat.le_refl _ | exact Nat.le_add_right _ _)
section
variable {X : Cx} {pins : List (Addr × Obj)} {σ : L2.St} {H : Hp} {s : Shared}
theorem zip_made (I : Inv X pins σ H s) {A : Around} {E : Value → Shared → Prop} {k1 k2 : Kd} {xs ys : List V} (q1 : k1.sq X.K H xs) (q2 : k2.sq X.K H ys) {Q : Value → Shared → Prop}
    (h : ∀ h', ZApart (s.heap.objs.size + 4) (s.heap.objs.size + 2) (s.heap.objs.size + 3) s.heap.objs.size (s.heap.objs.size + 1) k1 k2 → IsZip h' (s.heap.objs.size + 4) (s.heap.objs.size + 2) (s.heap.objs.size + 3) .none →
      ZTn (s.heap.objs.size + 4) (s.heap.objs.size + 2) (s.heap.objs.size + 3) s.heap.objs.size (s.heap.objs.size + 1) k1 k2 0 h' → Inv X pins σ H { s with heap := h' } → h'.objs.size = s.heap.objs.size + 5 →
      (∀ c ∈ [s.heap.objs.size + 4, s.heap.objs.size + 2, s.heap.objs.size + 3, s.heap.objs.size, s.heap.objs.size + 1], FpOk X pins H c) → Q (.ref (s.heap.objs.size + 4)) { s with heap := h' }) :
    wpAny (model X.prog X.w) A (call (.type "zip") [k1.u, k2.u]) Q E s := by
  obtain ⟨C1, B1, c1⟩ := Kd.begins I q1
  obtain ⟨C2, B2, c2⟩ := Kd.begins I q2
  refine zip_begins2 B1 B2 c1 c2 fun h' hz hTI hTO g1 g2 hsz hk => h h' (zapart _ (fun c hc => Kd.away_of I q1 hc) fun c hc => Kd.away_of I q2 hc) hz ⟨⟨_, _, .inl rfl, hz⟩, hTI, ⟨_, _, hTO⟩, Kd.at0 g1, Kd.at0 g2⟩ (I.kept (t' := s.toks) hk) hsz fun c hcm => ?_
  have e' : c = s.heap.objs.size + 4 ∨ c = s.heap.objs.size + 2 ∨ c = s.heap.objs.size + 3 ∨ c = s.heap.objs.size ∨ c = s.heap.objs.size + 1 := by simpa using hcm
  have hle : s.heap.objs.size ≤ c := by
    rcases e' with z | z | z | z | z
    · rw [z]; exact Nat.le_add_right _ _
    · rw [z]; exact Nat.le_add_right _ _
    · rw [z]; exact Nat.le_add_right _ _
    · rw [z]; exact Nat.le_refl _
    · rw [z]; exact Nat.le_add_right _ _
  exact I.fpOk hle (I.hok.fresh hle)
end
theorem pi_zipU {X : Cx} {tg e e2 : Expr} {ta : TA} {p pos : Pos} (hg : Gl X "zip") (hm : X.mg "zip" = none) (ha : PA X [e, e2] ta)
    (hs : starEach [e, e2] X.env = (false, eval e X.env) :: starEach [e2] X.env := by rfl) (hpl : (backTo pos (starEach [e2] X.env)).any (·.1) = false := by rfl) :
    PI X tg (.Call (.Name "zip" p) [e, e2] [] pos) (uZip X.K ta) := by
  refine ⟨fun pins s σ H R I h => ?_⟩
  refine Call_ (ld_blt I hg hm PyProof.Rows.boot_zip (PyProof.Rows.callWith_type1 (thn (ha.run pos pins s σ H _ I h) fun us s1 ⟨vs, H1, I1, r1, q1⟩ => ?_) hs hpl))
  dsimp only at q1
  split at q1
  · rename_i a b
    cases r1 with
    | cons r rr =>
      cases rr with
      | cons r' rr =>
        cases rr
        cases r
        cases r'
        obtain ⟨k1, e1, q1⟩ := oK_ex q1
        obtain ⟨k2, e2, q1⟩ := oK_ex q1
        obtain ⟨u1, _, xs, s1'⟩ := kdOf_sq e1
        obtain ⟨u2, _, ys, s2'⟩ := kdOf_sq e2
        rw [← u1, ← u2]
        refine zip_made I1 s1' s2' fun h' D hz st I2 hsz hf => wpAny_pyIter_zip hz ?_
        exact ⟨_, _, _, _, H1, rfl, I2, turn_zipS D, st, hf, q1⟩
  · exact q1.elim
theorem pi_enumU {X : Cx} {e : Expr} {ta : TA} {p pos tpos : Pos} {elts : List Expr} {kk : Nat} (hg : Gl X "enumerate") (hm : X.mg "enumerate" = none) (ha : PA X [e] ta) (hs : starEach [e] X.env = [(false, eval e X.env)] := by rfl) :
    PI X (.Tuple elts kk tpos) (.Call (.Name "enumerate" p) [e] [] pos) (uEnum X.K ta) := by
  refine ⟨fun pins s σ H R I h => ?_⟩
  refine Call_ (ld_blt I hg hm boot_enumerate (PyProof.Rows.callWith_type1 (thn (ha.run pos pins s σ H _ I h) fun us s1 ⟨vs, H1, I1, r1, q1⟩ => ?_) hs rfl))
  have main : ∀ (k : Kd) (xs : List V), k.sq X.K H1 xs → R (JEnum (JKd X.K k)) H1 → wpAny (model X.prog X.w) X.A (call (.type "enumerate") [k.u]) (fun v s1 => wpAny (model X.prog X.w) X.A (pyIter v) (PIE X pins σ (.Tuple elts kk tpos) R) X.xe s1) X.xe s1 := by
    intro k xs hq q
    obtain ⟨C, B, hC⟩ := Kd.begins I1 hq
    have hz : (s1.heap.push k.obj).objs.size = s1.heap.objs.size + 1 := Heap.size_push ..
    refine call_enumG (C := C) (it := fun h => h.objs.size) (nh := fun h => h.push k.obj) B.iter hC fun h' he hk => wpAny_pyIter_enum he ?_
    rw [hz] at he
    have hk' : ∀ b o, s1.heap.get? b = some o → h'.get? b = some o := fun b o y => hk b o (Heap.get?_push_of_some _ y)
    have fr : ∀ b, s1.heap.objs.size ≤ b → FpOk X pins H1 b := fun b hb => I1.fpOk hb (I1.hok.fresh hb)
    refine ⟨_, [s1.heap.objs.size + 1, s1.heap.objs.size], _, _, H1, by rw [hz], I1.kept (t' := s1.toks) hk', turn_enumA (e := s1.heap.objs.size + 1) (inner_kd k s1.heap.objs.size (Kd.away_of I1 hq (Nat.le_refl _))) (by simp), ⟨⟨.none, he⟩, Kd.at0 (hk _ _ (Heap.get?_push_size _ B.free))⟩, fun b hb => ?_, q⟩
    rcases List.mem_cons.mp hb with z | z
    · rw [z]; exact fr _ (Nat.le_add_right _ _)
    · rw [List.mem_singleton.mp z]; exact fr _ (Nat.le_refl _)
  dsimp only at q1
  split at q1
  · cases r1 with
    | cons r rr =>
      cases rr
      cases r
      obtain ⟨k, e1, q1⟩ := oK_ex q1
      obtain ⟨u1, _, xs, sq⟩ := kdOf_sq e1
      rw [← u1]
      exact main k xs sq q1
  · cases r1 with
    | cons r rr =>
      cases rr
      obtain ⟨t, rfl⟩ := r
      exact main (.s _ t) _ rfl q1
  · exact q1.elim
end U
namespace PySem.F
end PySem.F
namespace U
open PySem PySem.Spec PyProof.Rows L2
theorem Kd.le {X : Cx} {pins : List (Addr × Obj)} {σ : L2.St} {H : Hp} {s : Shared} (I : Inv X pins σ H s) {a : Addr} {xs : List V} (h : rdS X.K H a = some xs) : xs.length ≤ sizeLine := by
  unfold rdS at h
  cases e : rdL X.K H a with
  | some ys => rw [e] at h; cases h; obtain ⟨_, _, _, q⟩ := I.list (rdL_sq e); exact q
  | none => rw [e] at h; obtain ⟨_, _, _, q⟩ := I.tuple (rdT_sq h); exact q
end U
namespace U
open PySem PySem.Spec PyProof.Rows L2
def revS (z : Str) : Str := ⟨z.cps.toList.reverse.toArray⟩
section
variable {K : PySem.W.Frag} {k k1 k2 : Kd} {xs ys : List V}
theorem walk_kd : Walk (JKd K k) xs.length (fun H => k.sq K H xs) (YAt xs) :=
  ⟨fun i _ hi q => ⟨xs, xs[i], q, by simp [hi]⟩, fun _ q => .inr ⟨xs, q, rfl⟩, fun _ _ _ _ _ q y => ⟨y.1, y.2 xs q⟩⟩
theorem walk_enumK : Walk (JEnum (JKd K k)) xs.length (fun H => k.sq K H xs) (YPair (fun i => some (.int (i : Nat))) (fun i => xs[i]?)) := by
  refine ⟨fun i H hi q => walk_kd.goes i H hi q, fun H q => walk_kd.stops H q, fun i H v H' hi q y => ?_⟩
  obtain ⟨T, x, H1, rfl, h1, h2, rfl⟩ := y
  obtain ⟨rfl, h3⟩ := h1
  exact ⟨T, _, x, rfl, h2, rfl, rfl, h3 xs q⟩
theorem walk_zipK {n : Nat} (hn : n = min xs.length ys.length) : Walk (JZip K k1 k2) n (fun H => k1.sq K H xs ∧ k2.sq K H ys) (YPair (fun i => xs[i]?) (fun i => ys[i]?)) := by
  subst hn
  refine ⟨fun i _ hi q => ?_, fun _ q => ⟨xs, ys, q.1, q.2, rfl⟩, fun i H v H' _ q y => ?_⟩
  · have h1 : i < xs.length := by omega
    have h2 : i < ys.length := by omega
    exact ⟨xs, ys, xs[i], ys[i], q.1, q.2, by simp [h1], by simp [h2]⟩
  · obtain ⟨T, x, z, h1, h2, h3, h4, h5⟩ := y
    exact ⟨T, x, z, h1, h2, h3, h4 xs q.1, h5 ys q.2⟩
end
end U
namespace U
open PySem PySem.Spec PyProof.Rows L2
def LnL (K : PySem.W.Frag) (H : Hp) (x y : V) : Prop := ∃ a b xs ys, x = .ref a ∧ y = .ref b ∧ SqL K H a xs ∧ SqL K H b ys ∧ xs.length ≠ ys.length
def uEq3 (K : PySem.W.Frag) : R2 := fun x y H Q => match scal x y with
  | true => Q (.bl (decide (x = y))) H
  | false => (∃ d e, Dp K H x d ∧ Dp K H y e ∧ SeqAt.shaped d = true ∧ SeqAt.shaped e = true ∧ Q (.bl (PyData.eqv d e)) H) ∨ (SmL K H x y ∧ Q (.bl true) H) ∨ (LnL K H x y ∧ Q (.bl false) H)
def uIs3 (neg : Bool) : R2 := fun x y H Q => match y with
  | .non => Q (.bl (if neg then !decide (x = .non) else decide (x = .non))) H
  | .bl k => (match x with
    | .bl j => Q (.bl (if neg then !decide (j = k) else decide (j = k))) H
    | _ => False)
  | _ => False
section
variable {X : Cx}
theorem op_eqLn (hu : X.A.units + 64 < cLine) : OpR X (compareOp .Eq) (fun x y H Q => LnL X.K H x y ∧ Q (.bl false) H) := fun pins s σ H x y v u Q I rx ry h => by
  obtain ⟨⟨a, b, xs, ys, rfl, rfl, ha, hb, p⟩, q⟩ := h
  cases (show v = Value.ref a from rx)
  cases (show u = Value.ref b from ry)
  obtain ⟨us, r1, p1, _⟩ := I.list ha
  obtain ⟨ws, r2, p2, _⟩ := I.list hb
  have l1 := r1.length
  have l2 := r2.length
  exact SeqAt.RcAt.lists_lengths (A := X.A) p1.isList p2.isList (by simp; omega) (by omega) X.prog X.w _ _ ⟨.bl false, H, I, rfl, q⟩
theorem ou_eq3 (hu : X.A.units + 64 < cLine) : OpR X (compareOp .Eq) (uEq3 X.K) := OpRi (op_eq.or ((op_eqD hu).or ((op_eqS hu).or (op_eqLn hu)))) fun x y H Q h => by
  unfold uEq3 at h
  split at h
  · exact .inl ⟨by assumption, h⟩
  · exact .inr h
theorem op_isnotB : OpR X (compareOp .IsNot) (fun x y H Q => ∃ j k, x = .bl j ∧ y = .bl k ∧ Q (.bl (!decide (j = k))) H) := by
  intro pins s σ H x y v u Q I rx ry h
  obtain ⟨j, k, rfl, rfl, q⟩ := h
  cases rx
  cases ry
  cases j <;> cases k <;> exact wpAny_pure (fin_bl I q rfl)
theorem ou_isnot3 : OpR X (compareOp .IsNot) (uIs3 true) := OpRi (op_notN.or op_isnotB) fun x y H Q h => by
  unfold uIs3 at h
  split at h
  · exact .inl ⟨rfl, h⟩
  · split at h
    · exact .inr ⟨_, _, rfl, rfl, h⟩
    · exact h.elim
  · exact h.elim
end
end U
namespace U
open PySem PySem.Spec PyProof.Rows L2
mutual
def pureD : PyData → Bool
  | .str _ => true
  | .int _ => true
  | .list ds => pureAll ds
  | .tuple ds => pureAll ds
  | _ => false
def pureAll : List PyData → Bool
  | [] => true
  | d :: ds => pureD d && pureAll ds
end
mutual
theorem eqv_iff : ∀ (d e : PyData), pureD d = true → pureD e = true → (PyData.eqv d e = true ↔ d = e)
  | .str x, .str y, _, _ => by simp [PyData.eqv]
  | .int x, .int y, _, _ => by simp [PyData.eqv]
  | .list xs, .list ys, h1, h2 => by
    rw [PyData.eqv, eqvAll_iff xs ys (by simpa only [pureD] using h1) (by simpa only [pureD] using h2)]; simp
  | .tuple xs, .tuple ys, h1, h2 => by
    rw [PyData.eqv, eqvAll_iff xs ys (by simpa only [pureD] using h1) (by simpa only [pureD] using h2)]; simp
  | .str _, .int _, _, _ => by simp [PyData.eqv]
  | .str _, .list _, _, _ => by simp [PyData.eqv]
  | .str _, .tuple _, _, _ => by simp [PyData.eqv]
  | .int _, .str _, _, _ => by simp [PyData.eqv]
  | .int _, .list _, _, _ => by simp [PyData.eqv]
  | .int _, .tuple _, _, _ => by simp [PyData.eqv]
  | .list _, .str _, _, _ => by simp [PyData.eqv]
  | .list _, .int _, _, _ => by simp [PyData.eqv]
  | .list _, .tuple _, _, _ => by simp [PyData.eqv]
  | .tuple _, .str _, _, _ => by simp [PyData.eqv]
  | .tuple _, .int _, _, _ => by simp [PyData.eqv]
  | .tuple _, .list _, _, _ => by simp [PyData.eqv]
  | .none, _, h, _ => by simp [pureD] at h
  | .bool _, _, h, _ => by simp [pureD] at h
  | .dict _, _, h, _ => by simp [pureD] at h
  | .str _, .none, _, h => by simp [pureD] at h
  | .str _, .bool _, _, h => by simp [pureD] at h
  | .str _, .dict _, _, h => by simp [pureD] at h
  | .int _, .none, _, h => by simp [pureD] at h
  | .int _, .bool _, _, h => by simp [pureD] at h
  | .int _, .dict _, _, h => by simp [pureD] at h
  | .list _, .none, _, h => by simp [pureD] at h
  | .list _, .bool _, _, h => by simp [pureD] at h
  | .list _, .dict _, _, h => by simp [pureD] at h
  | .tuple _, .none, _, h => by simp [pureD] at h
  | .tuple _, .bool _, _, h => by simp [pureD] at h
  | .tuple _, .dict _, _, h => by simp [pureD] at h
theorem eqvAll_iff : ∀ (xs ys : List PyData), pureAll xs = true → pureAll ys = true → (PyData.eqvAll xs ys = true ↔ xs = ys)
  | [], [], _, _ => by simp [PyData.eqvAll]
  | [], _ :: _, _, _ => by simp [PyData.eqvAll]
  | _ :: _, [], _, _ => by simp [PyData.eqvAll]
  | x :: xs, y :: ys, h1, h2 => by
    simp only [pureAll, Bool.and_eq_true] at h1 h2
    rw [PyData.eqvAll, Bool.and_eq_true, eqv_iff x y h1.1 h2.1, eqvAll_iff xs ys h1.2 h2.2]; simp
end
theorem lay_all : ∀ {ds : List PyData} {n : Nat}, (∀ d ∈ ds, PyData.canLay0 d = true ∧ d.depth ≤ n) → PyData.canLayAll0 ds = true ∧ PyData.depthAll ds ≤ n
  | [], n, _ => ⟨by simp only [PyData.canLayAll0], by simp only [PyData.depthAll]; omega⟩
  | d :: ds, n, h => by
    obtain ⟨h1, h2⟩ := lay_all (ds := ds) (n := n) fun e he => h e (List.mem_cons_of_mem _ he)
    have h0 := h d List.mem_cons_self
    exact ⟨by simp only [PyData.canLayAll0, h0.1, h1, Bool.and_self], by simp only [PyData.depthAll]; have := h0.2; omega⟩
theorem lay_list {ds : List PyData} {n : Nat} (h : ∀ d ∈ ds, PyData.canLay0 d = true ∧ d.depth ≤ n) : PyData.canLay0 (.list ds) = true ∧ (PyData.list ds).depth ≤ n + 1 := by
  obtain ⟨h1, h2⟩ := lay_all h
  exact ⟨by simp only [PyData.canLay0, h1], by simp only [PyData.depth]; omega⟩
theorem lay_int (i : Int) : PyData.canLay0 (.int i) = true ∧ (PyData.int i).depth ≤ 0 := ⟨by simp only [PyData.canLay0], by simp only [PyData.depth]; omega⟩
theorem shaped_of {d : PyData} {n : Nat} (h : PyData.canLay0 d = true ∧ d.depth ≤ n) (hn : n ≤ 64) : SeqAt.shaped d = true := by
  unfold SeqAt.shaped
  rw [h.1, decide_eq_true (Nat.le_trans h.2 hn)]; rfl
mutual
theorem pure_nodict : ∀ d : PyData, pureD d = true → d.hasDict = false
  | .str _, _ => by simp [PyData.hasDict]
  | .int _, _ => by simp [PyData.hasDict]
  | .list ds, h => by rw [PyData.hasDict]; exact pure_nodictAll ds (by simpa only [pureD] using h)
  | .tuple ds, h => by rw [PyData.hasDict]; exact pure_nodictAll ds (by simpa only [pureD] using h)
  | .none, h => by simp [pureD] at h
  | .bool _, h => by simp [pureD] at h
  | .dict _, h => by simp [pureD] at h
theorem pure_nodictAll : ∀ ds : List PyData, pureAll ds = true → PyData.hasDictAll ds = false
  | [], _ => by simp [PyData.hasDictAll]
  | d :: ds, h => by
    simp only [pureAll, Bool.and_eq_true] at h
    simp only [PyData.hasDictAll, pure_nodict d h.1, pure_nodictAll ds h.2, Bool.or_self]
end
theorem pureAll_of : ∀ {ds : List PyData}, (∀ d ∈ ds, pureD d = true) → pureAll ds = true
  | [], _ => by simp [pureAll]
  | d :: ds, h => by simp [pureAll, h d List.mem_cons_self, pureAll_of fun e he => h e (List.mem_cons_of_mem _ he)]
end U
namespace U
open PySem PySem.Spec PyProof.Rows L2
theorem sub_self {X : Cx} {k : Nat} (hr : Room k X.A) : Sub X k X.A := ⟨hr, rfl⟩
/-- one class of a table -/
structure MEnt (X : Cx) (m : Str) (E : L2.St → XK) (n : Nat) (C : Addr) (sp : Sp) : Prop where
  ex : ∃ CX k f, k ≤ n ∧ Cls X.K C ∧ Meth X.K C m f ∧ FnR X.prog X.w X.K X.mg X.base CX k f sp ∧ ∀ σ, PassesAt CX X σ (E σ)
inductive MTab (X : Cx) (m : Str) (E : L2.St → XK) (n : Nat) : List (Addr × Sp) → Prop
  | nil : MTab X m E n []
  | cons {C : Addr} {sp : Sp} {l : List (Addr × Sp)} : MEnt X m E n C sp → MTab X m E n l → MTab X m E n ((C, sp) :: l)
theorem MTab.at' {X : Cx} {m : Str} {E : L2.St → XK} {n : Nat} {C : Addr} {sp : Sp} : ∀ {l : List (Addr × Sp)}, MTab X m E n l → (C, sp) ∈ l → MEnt X m E n C sp
  | _, .cons h r, hm => by
    rcases List.mem_cons.mp hm with e | e
    · cases e; exact h
    · exact r.at' e
end U
namespace U
open PySem PySem.Spec PyProof.Rows L2
end U
namespace U
open PySem PySem.Spec PyProof.Rows L2
/-- a class whose instances can be looked at -/
structure InsF (K : PySem.W.Frag) (C : Addr) : Prop where
  cl : Cls K C
  ha : PySem.W.findIn K (.ref C) "__class__" = some (some (.builtin "object.__class__"))
  hn : PySem.W.specialIn K (.builtin "object.__class__") "__get__" = some (some (.builtin "getset_descriptor.__get__"))
  htk : PySem.W.takesIn K (.builtin "object.__class__") = some true
  hm : PySem.W.mroIn K C (.type "object") = some true
theorem InsF.ty {K : PySem.W.Frag} {C : Addr} (h : InsF K C) {H : Hp} {a dx : Addr} {fs : List (Str × V)} (e : H a = some (.ins C dx fs)) : TyX K H (.ref a) (.ref C) := .base (.ins e h.cl h.ha h.hn h.htk h.hm)
end U
namespace U
open PySem PySem.Spec PyProof.Rows L2
end U
namespace Fx
open PySem PySem.Spec PyProof.Rows L2 U
inductive D where
  | non | bl (b : Bool) | int (i : Int) | str (z : Str) | lst (ds : List D) | tup (ds : List D) | fro (l : Bool) (ds : List D) | dct (kvs : List (Key × D)) | cel (k : Nat) | obj (c : Nat) (fs : List (Str × D)) | cls (c : Nat)
/-- what stands in a cell -/
inductive Ce where
  | lst (ds : List D) | dK (kvs : List (Key × D)) | ins (c : Nat) (fs : List (Str × D))
abbrev Sto := List Ce
/-- a slot: nothing known, a value, a list of one's own, an object that is being made, an exception that was caught -/
inductive Sl where
  | no | val (d : D) | own (ds : List D) | oob (c : Nat) (fs : List (Str × D)) | exn (c : Nat) (fs : List (Str × D))
/-- looked at only, a value, a new list or object -/
inductive Fl where
  | pk | tr | fs
inductive RE where
  | ok (d : D) (f : Fl) (S : Sto) | xc (c : Nat) (fs : List (Str × D)) (S : Sto) | bad
abbrev Ev := List Sl
abbrev FE := Ev → Sto → RE
/-- a list or tuple of the module's top, or the script: read only -/
def NoF (K : PySem.W.Frag) (ι B : List Addr) (H : Hp) (a : Addr) (xs : List V) : Bool → Prop
  | true => (a ∉ ι ∧ a ∉ B ∧ ∃ o, H a = some (.frz o (.lst xs))) ∨ SqL K (fun _ => none) a xs
  | false => (a ∉ ι ∧ a ∉ B ∧ ∃ o, H a = some (.frz o (.tup xs))) ∨ SqT K (fun _ => none) a xs
section
variable (K : PySem.W.Frag) (ca : Nat → Addr) (ι B : List Addr) (H : Hp)
mutual
inductive RV : V → D → Prop
  | non : RV .non .non
  | bl (b : Bool) : RV (.bl b) (.bl b)
  | int (i : Int) : RV (.int i) (.int i)
  | str (z : Str) : RV (.str z) (.str z)
  | lst {a : Addr} {xs : List V} {ds : List D} : a ∉ ι → a ∉ B → H a = some (.lst xs) → RAll xs ds → RV (.ref a) (.lst ds)
  | tup {a : Addr} {xs : List V} {ds : List D} : a ∉ ι → a ∉ B → H a = some (.tup xs) → RAll xs ds → RV (.ref a) (.tup ds)
  | fro {a : Addr} {l : Bool} {xs : List V} {ds : List D} : NoF K ι B H a xs l → RAll xs ds → RV (.ref a) (.fro l ds)
  | dct {a : Addr} {kvs : List (Key × V)} {es : List (Key × D)} : a ∉ ι → a ∉ B → H a = some (.dK kvs) → RKv kvs es → RV (.ref a) (.dct es)
  | cel {a : Addr} {k : Nat} : ι[k]? = some a → RV (.ref a) (.cel k)
  | obj {a dx : Addr} {c : Nat} {fs : List (Str × V)} {es : List (Str × D)} : a ∉ ι → a ∉ B → H a = some (.ins (ca c) dx fs) → RFs fs es → RV (.ref a) (.obj c es)
  | cls (c : Nat) : RV (.ref (ca c)) (.cls c)
inductive RAll : List V → List D → Prop
  | nil : RAll [] []
  | cons {v : V} {d : D} {vs : List V} {ds : List D} : RV v d → RAll vs ds → RAll (v :: vs) (d :: ds)
inductive RKv : List (Key × V) → List (Key × D) → Prop
  | nil : RKv [] []
  | cons {k : Key} {v : V} {d : D} {vs : List (Key × V)} {ds : List (Key × D)} : RV v d → RKv vs ds → RKv ((k, v) :: vs) ((k, d) :: ds)
inductive RFs : List (Str × V) → List (Str × D) → Prop
  | nil : RFs [] []
  | cons {k : Str} {v : V} {d : D} {vs : List (Str × V)} {ds : List (Str × D)} : RV v d → RFs vs ds → RFs ((k, v) :: vs) ((k, d) :: ds)
end
end
/-- what stands at one time stands later -/
structure Per (ι B : List Addr) (H : Hp) (ι' B' : List Addr) (H' : Hp) : Prop where
  at' : ∀ (a : Addr) (o : HO), H a = some o → a ∉ ι → a ∉ B → H' a = some o ∧ a ∉ ι' ∧ a ∉ B'
  ix : ∀ (k : Nat) (a : Addr), ι[k]? = some a → ι'[k]? = some a
theorem Per.refl {ι B : List Addr} {H : Hp} : Per ι B H ι B H := ⟨fun _ _ h1 h2 h3 => ⟨h1, h2, h3⟩, fun _ _ h => h⟩
theorem Per.trans {ι B ι1 B1 ι2 B2 : List Addr} {H H1 H2 : Hp} (a : Per ι B H ι1 B1 H1) (b : Per ι1 B1 H1 ι2 B2 H2) : Per ι B H ι2 B2 H2 :=
  ⟨fun x o h1 h2 h3 => by
    obtain ⟨q1, q2, q3⟩ := a.at' x o h1 h2 h3
    exact b.at' x o q1 q2 q3, fun k x h => b.ix k x (a.ix k x h)⟩
section
variable {K : PySem.W.Frag} {ca : Nat → Addr} {ι B ι' B' : List Addr} {H H' : Hp}
theorem NoF.per {a : Addr} {xs : List V} {l : Bool} (h : NoF K ι B H a xs l) (p : Per ι B H ι' B' H') : NoF K ι' B' H' a xs l := by
  cases l with
  | true =>
    rcases h with ⟨h1, h2, o, h3⟩ | h
    · obtain ⟨q1, q2, q3⟩ := p.at' a _ h3 h1 h2
      exact .inl ⟨q2, q3, o, q1⟩
    · exact .inr h
  | false =>
    rcases h with ⟨h1, h2, o, h3⟩ | h
    · obtain ⟨q1, q2, q3⟩ := p.at' a _ h3 h1 h2
      exact .inl ⟨q2, q3, o, q1⟩
    · exact .inr h
theorem NoF.sq {a : Addr} {xs : List V} {l : Bool} (h : NoF K ι B H a xs l) : SqL K H a xs ∨ SqT K H a xs := by
  cases l with
  | true =>
    rcases h with ⟨_, _, o, h3⟩ | h
    · exact .inl (.inl (.inr ⟨o, h3⟩))
    · rcases h with (h | ⟨_, h⟩) | h
      · cases h
      · cases h
      · exact .inl (.inr h)
  | false =>
    rcases h with ⟨_, _, o, h3⟩ | h
    · exact .inr (.inl (.inr ⟨o, h3⟩))
    · rcases h with (h | ⟨_, h⟩) | h
      · cases h
      · cases h
      · exact .inr (.inr h)
mutual
theorem RV.pe (p : Per ι B H ι' B' H') : ∀ (d : D) {v : V}, RV K ca ι B H v d → RV K ca ι' B' H' v d
  | .non, _, h => by cases h; exact .non
  | .bl _, _, h => by cases h; exact .bl _
  | .int _, _, h => by cases h; exact .int _
  | .str _, _, h => by cases h; exact .str _
  | .lst ds, _, h => by
    cases h with
    | lst h1 h2 h3 h4 =>
      obtain ⟨q1, q2, q3⟩ := p.at' _ _ h3 h1 h2
      exact .lst q2 q3 q1 (RAll.pe p ds h4)
  | .tup ds, _, h => by
    cases h with
    | tup h1 h2 h3 h4 =>
      obtain ⟨q1, q2, q3⟩ := p.at' _ _ h3 h1 h2
      exact .tup q2 q3 q1 (RAll.pe p ds h4)
  | .fro l ds, _, h => by
    cases h with
    | fro h1 h2 => exact .fro (h1.per p) (RAll.pe p ds h2)
  | .dct es, _, h => by
    cases h with
    | dct h1 h2 h3 h4 =>
      obtain ⟨q1, q2, q3⟩ := p.at' _ _ h3 h1 h2
      exact .dct q2 q3 q1 (RKv.pe p es h4)
  | .cel k, _, h => by
    cases h with
    | cel h1 => exact .cel (p.ix _ _ h1)
  | .obj c es, _, h => by
    cases h with
    | obj h1 h2 h3 h4 =>
      obtain ⟨q1, q2, q3⟩ := p.at' _ _ h3 h1 h2
      exact .obj q2 q3 q1 (RFs.pe p es h4)
  | .cls _, _, h => by cases h; exact .cls _
theorem RAll.pe (p : Per ι B H ι' B' H') : ∀ (ds : List D) {vs : List V}, RAll K ca ι B H vs ds → RAll K ca ι' B' H' vs ds
  | [], _, h => by cases h; exact .nil
  | d :: ds, _, h => by
    cases h with
    | cons h1 h2 => exact .cons (RV.pe p d h1) (RAll.pe p ds h2)
theorem RKv.pe (p : Per ι B H ι' B' H') : ∀ (ds : List (Key × D)) {vs : List (Key × V)}, RKv K ca ι B H vs ds → RKv K ca ι' B' H' vs ds
  | [], _, h => by cases h; exact .nil
  | (k, d) :: ds, _, h => by
    cases h with
    | cons h1 h2 => exact .cons (RV.pe p d h1) (RKv.pe p ds h2)
theorem RFs.pe (p : Per ι B H ι' B' H') : ∀ (ds : List (Str × D)) {vs : List (Str × V)}, RFs K ca ι B H vs ds → RFs K ca ι' B' H' vs ds
  | [], _, h => by cases h; exact .nil
  | (k, d) :: ds, _, h => by
    cases h with
    | cons h1 h2 => exact .cons (RV.pe p d h1) (RFs.pe p ds h2)
end
theorem RV.per {d : D} {v : V} (h : RV K ca ι B H v d) (p : Per ι B H ι' B' H') : RV K ca ι' B' H' v d := RV.pe p d h
theorem RAll.per {d : List D} {v : List V} (h : RAll K ca ι B H v d) (p : Per ι B H ι' B' H') : RAll K ca ι' B' H' v d := RAll.pe p d h
theorem RKv.per {d : List (Key × D)} {v : List (Key × V)} (h : RKv K ca ι B H v d) (p : Per ι B H ι' B' H') : RKv K ca ι' B' H' v d := RKv.pe p d h
theorem RFs.per {d : List (Str × D)} {v : List (Str × V)} (h : RFs K ca ι B H v d) (p : Per ι B H ι' B' H') : RFs K ca ι' B' H' v d := RFs.pe p d h
theorem RAll.len : ∀ {ds : List D} {vs : List V}, RAll K ca ι B H vs ds → vs.length = ds.length
  | [], _, h => by cases h; rfl
  | d :: ds, _, h => by
    cases h with
    | cons h1 h2 => rw [List.length_cons, List.length_cons, RAll.len h2]
theorem RAll.app : ∀ {ds es : List D} {vs ws : List V}, RAll K ca ι B H vs ds → RAll K ca ι B H ws es → RAll K ca ι B H (vs ++ ws) (ds ++ es)
  | [], _, _, _, h, g => by cases h; exact g
  | d :: ds, _, _, _, h, g => by
    cases h with
    | cons h1 h2 => exact .cons h1 (RAll.app h2 g)
theorem RAll.drop : ∀ (n : Nat) {ds : List D} {vs : List V}, RAll K ca ι B H vs ds → RAll K ca ι B H (vs.drop n) (ds.drop n)
  | 0, _, _, h => h
  | n + 1, [], _, h => by cases h; exact .nil
  | n + 1, d :: ds, _, h => by
    cases h with
    | cons h1 h2 => exact RAll.drop n h2
theorem RAll.take : ∀ (n : Nat) {ds : List D} {vs : List V}, RAll K ca ι B H vs ds → RAll K ca ι B H (vs.take n) (ds.take n)
  | 0, _, _, h => .nil
  | n + 1, [], _, h => by cases h; exact .nil
  | n + 1, d :: ds, _, h => by
    cases h with
    | cons h1 h2 => exact .cons h1 (RAll.take n h2)
theorem RAll.at : ∀ {ds : List D} {vs : List V} (i : Nat) {d : D}, RAll K ca ι B H vs ds → ds[i]? = some d → ∃ v, vs[i]? = some v ∧ RV K ca ι B H v d
  | [], _, i, _, h, e => by simp at e
  | d :: ds, _, 0, _, h, e => by
    cases h with
    | cons h1 h2 => simp at e; subst e; exact ⟨_, rfl, h1⟩
  | d :: ds, _, i + 1, _, h, e => by
    cases h with
    | cons h1 h2 =>
      obtain ⟨v, q1, q2⟩ := RAll.at i h2 (by simpa using e)
      exact ⟨v, by simpa using q1, q2⟩
theorem RAll.atV : ∀ {ds : List D} {vs : List V} (i : Nat) {v : V}, RAll K ca ι B H vs ds → vs[i]? = some v → ∃ d, ds[i]? = some d ∧ RV K ca ι B H v d
  | [], _, i, _, h, e => by cases h; simp at e
  | d :: ds, _, 0, _, h, e => by
    cases h with
    | cons h1 h2 => simp at e; subst e; exact ⟨_, rfl, h1⟩
  | d :: ds, _, i + 1, _, h, e => by
    cases h with
    | cons h1 h2 =>
      obtain ⟨v, q1, q2⟩ := RAll.atV i h2 (by simpa using e)
      exact ⟨v, by simpa using q1, q2⟩
theorem RAll.set : ∀ {ds : List D} {vs : List V} (i : Nat) {d : D} {v : V}, RAll K ca ι B H vs ds → RV K ca ι B H v d → RAll K ca ι B H (vs.set i v) (ds.set i d)
  | [], _, i, _, _, h, g => by cases h; exact .nil
  | d :: ds, _, 0, _, _, h, g => by
    cases h with
    | cons h1 h2 => exact .cons g h2
  | d :: ds, _, i + 1, _, _, h, g => by
    cases h with
    | cons h1 h2 => exact .cons h1 (RAll.set i h2 g)
theorem RFs.look : ∀ {ds : List (Str × D)} {vs : List (Str × V)} {f : Str}, RFs K ca ι B H vs ds → (∃ d v, ds.lookup f = some d ∧ vs.lookup f = some v ∧ RV K ca ι B H v d) ∨ (ds.lookup f = none ∧ vs.lookup f = none)
  | [], _, f, h => by cases h; exact .inr ⟨rfl, rfl⟩
  | (k, d) :: ds, _, f, h => by
    cases h with
    | cons h1 h2 =>
      rw [List.lookup_cons, List.lookup_cons]
      cases e : f == k with
      | true => exact .inl ⟨d, _, rfl, rfl, h1⟩
      | false => exact RFs.look h2
end
/-- seen only, or a value -/
inductive RT (K : PySem.W.Frag) (ca : Nat → Addr) (ι B : List Addr) (H : Hp) : V → D → Prop
  | v {x : V} {d : D} : RV K ca ι B H x d → RT K ca ι B H x d
  | l {a : Addr} {xs : List V} {ds : List D} : a ∉ ι → H a = some (.lst xs) → RAll K ca ι B H xs ds → RT K ca ι B H (.ref a) (.lst ds)
  | o {a dx : Addr} {c : Nat} {fs : List (Str × V)} {es : List (Str × D)} : a ∉ ι → H a = some (.ins (ca c) dx fs) → RFs K ca ι B H fs es → RT K ca ι B H (.ref a) (.obj c es)
inductive RC (K : PySem.W.Frag) (ca : Nat → Addr) (ι B : List Addr) (H : Hp) (a : Addr) : Ce → Prop
  | lst {xs : List V} {ds : List D} : H a = some (.lst xs) → RAll K ca ι B H xs ds → RC K ca ι B H a (.lst ds)
  | dK {xs : List (Key × V)} {ds : List (Key × D)} : H a = some (.dK xs) → RKv K ca ι B H xs ds → RC K ca ι B H a (.dK ds)
  | ins {dx : Addr} {c : Nat} {fs : List (Str × V)} {es : List (Str × D)} : H a = some (.ins (ca c) dx fs) → RFs K ca ι B H fs es → RC K ca ι B H a (.ins c es)
structure RS (K : PySem.W.Frag) (ca : Nat → Addr) (ι B : List Addr) (H : Hp) (S : Sto) : Prop where
  len : ι.length = S.length
  at' : ∀ (k : Nat) (a : Addr) (c : Ce), ι[k]? = some a → S[k]? = some c → RC K ca ι B H a c
/-- a new one -/
inductive Fs (K : PySem.W.Frag) (ca : Nat → Addr) (ι B : List Addr) (H0 H : Hp) (S : Sto) : V → D → Prop
  | l {a : Addr} {xs : List V} {ds : List D} : a ∉ ι → a ∉ B → H0 a = none → H a = some (.lst xs) → RAll K ca ι (a :: B) H xs ds → RS K ca ι (a :: B) H S → Fs K ca ι B H0 H S (.ref a) (.lst ds)
  | o {a dx : Addr} {c : Nat} {fs : List (Str × V)} {es : List (Str × D)} : a ∉ ι → a ∉ B → H0 a = none → H a = some (.ins (ca c) dx fs) → RFs K ca ι (a :: B) H fs es → RS K ca ι (a :: B) H S → Fs K ca ι B H0 H S (.ref a) (.obj c es)
def RF (K : PySem.W.Frag) (ca : Nat → Addr) (ι B : List Addr) (H0 H : Hp) (S : Sto) (v : V) (d : D) : Fl → Prop
  | .pk => RT K ca ι B H v d
  | .tr => RV K ca ι B H v d
  | .fs => Fs K ca ι B H0 H S v d
section
variable {K : PySem.W.Frag} {ca : Nat → Addr} {ι B ι' B' : List Addr} {H0 H H' : Hp} {S : Sto} {v : V} {d : D}
theorem Per.less (h : ∀ a ∈ B', a ∈ B) : Per ι B H ι B' H := ⟨fun a o h1 h2 h3 => ⟨h1, h2, fun z => h3 (h a z)⟩, fun _ _ z => z⟩
theorem Fs.rv (h : Fs K ca ι B H0 H S v d) : RV K ca ι B H v d := by
  cases h with
  | l h1 h2 h3 h4 h5 h6 => exact .lst h1 h2 h4 (h5.per (Per.less fun a ha => List.mem_cons_of_mem _ ha))
  | o h1 h2 h3 h4 h5 h6 => exact .obj h1 h2 h4 (h5.per (Per.less fun a ha => List.mem_cons_of_mem _ ha))
theorem RF.rt {f : Fl} (h : RF K ca ι B H0 H S v d f) : RT K ca ι B H v d := by
  cases f with
  | pk => exact h
  | tr => exact .v h
  | fs => exact .v (Fs.rv h)
theorem RF.rv {f : Fl} (h : RF K ca ι B H0 H S v d f) (hf : f ≠ .pk) : RV K ca ι B H v d := by
  cases f with
  | pk => exact absurd rfl hf
  | tr => exact h
  | fs => exact Fs.rv h
theorem Fs.old {H1 : Hp} (h : Fs K ca ι B H0 H S v d) (g : ∀ a, H1 a ≠ none → H0 a ≠ none) : Fs K ca ι B H1 H S v d := by
  have e : ∀ a, H0 a = none → H1 a = none := fun a q => by
    cases z : H1 a with
    | none => rfl
    | some o => exact absurd q (g a (by rw [z]; simp))
  cases h with
  | l h1 h2 h3 h4 h5 h6 => exact .l h1 h2 (e _ h3) h4 h5 h6
  | o h1 h2 h3 h4 h5 h6 => exact .o h1 h2 (e _ h3) h4 h5 h6
theorem RF.old {f : Fl} {H1 : Hp} (h : RF K ca ι B H0 H S v d f) (g : ∀ a, H1 a ≠ none → H0 a ≠ none) : RF K ca ι B H1 H S v d f := by
  cases f with
  | pk => exact h
  | tr => exact h
  | fs => exact Fs.old h g
end
/-- the heap has grown, but for the cells -/
structure Ext (ι : List Addr) (H : Hp) (ι' : List Addr) (H' : Hp) : Prop where
  pre : ι <+: ι'
  keep : ∀ a o, H a = some o → a ∉ ι → H' a = some o
  new : ∀ a ∈ ι', a ∉ ι → H a = none
  dom : ∀ a, H a ≠ none → H' a ≠ none
theorem ix_pre {ι ι' : List Addr} (h : ι <+: ι') {k : Nat} {a : Addr} (e : ι[k]? = some a) : ι'[k]? = some a := by
  obtain ⟨t, rfl⟩ := h
  rw [List.getElem?_append_left (List.getElem?_eq_some_iff.mp e).1]; exact e
section
variable {ι ι1 ι2 B : List Addr} {H H1 H2 : Hp}
theorem Ext.refl : Ext ι H ι H := ⟨List.prefix_rfl, fun _ _ h _ => h, fun _ h n => absurd h n, fun _ h => h⟩
theorem Ext.trans (a : Ext ι H ι1 H1) (b : Ext ι1 H1 ι2 H2) : Ext ι H ι2 H2 := by
  refine ⟨a.pre.trans b.pre, fun x o h n => ?_, fun x h n => ?_, fun x h => b.dom x (a.dom x h)⟩
  · refine b.keep x o (a.keep x o h n) fun z => ?_
    have := a.new x z n
    rw [h] at this; cases this
  · by_cases hx : x ∈ ι1
    · exact a.new x hx n
    · have := b.new x h hx
      cases e : H x with
      | none => rfl
      | some o => exact absurd this (a.dom x (by rw [e]; simp))
theorem Ext.per (e : Ext ι H ι1 H1) : Per ι B H ι1 B H1 :=
  ⟨fun a o h1 h2 h3 => ⟨e.keep a o h1 h2, (fun z => by
    have := e.new a z h2
    rw [h1] at this; cases this), h3⟩, fun _ _ h => ix_pre e.pre h⟩
/-- a new thing at p -/
theorem Ext.new1 {p : Addr} {o : HO} (h : H p = none) : Ext ι H ι (upd H p o) := by
  refine ⟨List.prefix_rfl, fun a u e _ => ?_, fun _ h n => absurd h n, fun a e => ?_⟩
  · rw [upd_ne (ne_of_none e h)]; exact e
  · unfold upd; split
    · simp
    · exact e
theorem Ext.gr (g : ∀ a o, H a = some o → H1 a = some o) : Ext ι H ι H1 := by
  refine ⟨List.prefix_rfl, fun a u e _ => g a u e, fun _ h n => absurd h n, fun a e => ?_⟩
  cases z : H a with
  | none => exact absurd z e
  | some o => rw [g a o z]; simp
end
section
variable {K : PySem.W.Frag} {ca : Nat → Addr} {ι B ι' : List Addr} {H H' : Hp} {v : V} {d : D}
theorem RV.ex (h : RV K ca ι B H v d) (e : Ext ι H ι' H') : RV K ca ι' B H' v d := h.per e.per
theorem RAll.ex {vs : List V} {ds : List D} (h : RAll K ca ι B H vs ds) (e : Ext ι H ι' H') : RAll K ca ι' B H' vs ds := h.per e.per
theorem RFs.ex {vs : List (Str × V)} {ds : List (Str × D)} (h : RFs K ca ι B H vs ds) (e : Ext ι H ι' H') : RFs K ca ι' B H' vs ds := h.per e.per
theorem Ext.off (e : Ext ι H ι' H') {a : Addr} {o : HO} (h : H a = some o) (n : a ∉ ι) : a ∉ ι' := fun z => by
  have := e.new a z n
  rw [h] at this; cases this
theorem RT.ex (h : RT K ca ι B H v d) (e : Ext ι H ι' H') : RT K ca ι' B H' v d := by
  cases h with
  | v h => exact .v (h.ex e)
  | l h1 h2 h3 => exact .l (e.off h2 h1) (e.keep _ _ h2 h1) (h3.ex e)
  | o h1 h2 h3 => exact .o (e.off h2 h1) (e.keep _ _ h2 h1) (h3.ex e)
end
theorem RC.here {K : PySem.W.Frag} {ca : Nat → Addr} {ι B : List Addr} {H : Hp} {a : Addr} {c : Ce} (h : RC K ca ι B H a c) : H a ≠ none := by
  cases h with
  | lst h _ => rw [h]; simp
  | dK h _ => rw [h]; simp
  | ins h _ => rw [h]; simp
theorem RS.here {K : PySem.W.Frag} {ca : Nat → Addr} {ι B : List Addr} {H : Hp} {S : Sto} (h : RS K ca ι B H S) : ∀ a ∈ ι, H a ≠ none := fun a ha => by
  obtain ⟨k, hk, e⟩ := List.getElem_of_mem ha
  have e1 : ι[k]? = some a := by rw [List.getElem?_eq_getElem hk, e]
  have hk2 : k < S.length := by rw [← h.len]; exact hk
  exact (h.at' k a S[k] e1 (List.getElem?_eq_getElem hk2)).here
/-- cells whose own objects stay -/
theorem RC.per {K : PySem.W.Frag} {ca : Nat → Addr} {ι B ι' B' : List Addr} {H H' : Hp} {a : Addr} {c : Ce} (h : RC K ca ι B H a c) (e : H' a = H a) (p : Per ι B H ι' B' H') : RC K ca ι' B' H' a c := by
  cases h with
  | lst h r => exact .lst (e.trans h) (r.per p)
  | dK h r => exact .dK (e.trans h) (r.per p)
  | ins h r => exact .ins (e.trans h) (r.per p)
theorem RS.per {K : PySem.W.Frag} {ca : Nat → Addr} {ι B B' : List Addr} {H H' : Hp} {S : Sto} (h : RS K ca ι B H S) (e : ∀ a ∈ ι, H' a = H a) (p : Per ι B H ι B' H') : RS K ca ι B' H' S :=
  ⟨h.len, fun k a c h1 h2 => (h.at' k a c h1 h2).per (e a (List.mem_of_getElem? h1)) p⟩
theorem RS.gr {K : PySem.W.Frag} {ca : Nat → Addr} {ι B : List Addr} {H H' : Hp} {S : Sto} (h : RS K ca ι B H S) (g : ∀ a o, H a = some o → H' a = some o) : RS K ca ι B H' S :=
  h.per (fun a ha => by
    cases e : H a with
    | none => exact absurd e (h.here a ha)
    | some o => exact g a o e) (Ext.gr g).per
/-- the dict of an exception, if it has one -/
def NI (d : Option Addr) (l : List Addr) : Prop := ∀ a, d = some a → a ∉ l
def XD (H : Hp) (d : Option Addr) (fs : List (Str × V)) : Prop := match d with
  | some a => H a = some (.xd fs)
  | none => fs = []
theorem NI.less {d : Option Addr} {l m : List Addr} (h : NI d m) (s : ∀ a ∈ l, a ∈ m) : NI d l := fun a e z => h a e (s a z)
theorem XD.ex {ι ι' : List Addr} {H H' : Hp} {d : Option Addr} {fs : List (Str × V)} (h : XD H d fs) (n : NI d ι) (e : Ext ι H ι' H') : XD H' d fs := by
  cases d with
  | none => exact h
  | some a => exact e.keep _ _ h (n a rfl)
theorem NI.ex {ι ι' : List Addr} {H H' : Hp} {d : Option Addr} {fs : List (Str × V)} (h : XD H d fs) (n : NI d ι) (e : Ext ι H ι' H') : NI d ι' := fun a q => by
  subst q
  exact e.off h (n a rfl)
theorem XD.per {ι B ι' B' : List Addr} {H H' : Hp} {d : Option Addr} {fs : List (Str × V)} (h : XD H d fs) (n1 : NI d ι) (n2 : NI d B) (p : Per ι B H ι' B' H') : XD H' d fs ∧ NI d ι' ∧ NI d B' := by
  cases d with
  | none => exact ⟨h, (fun a z => nomatch z), (fun a z => nomatch z)⟩
  | some a =>
    obtain ⟨q1, q2, q3⟩ := p.at' a _ h (n1 a rfl) (n2 a rfl)
    exact ⟨q1, fun b z => by cases z; exact q2, fun b z => by cases z; exact q3⟩
structure Fr where
  H0 : Hp
  i0 : List Addr
  B0 : List Addr
structure Gm where
  K : PySem.W.Frag
  ca : Nat → Addr
  x : Option (Addr × Option Addr × Nat)
  me : Option Addr
inductive RSl (G : Gm) (ι B ω : List Addr) (H : Hp) : Sl → Option V → Prop
  | no {o : Option V} : RSl G ι B ω H .no o
  | val {v : V} {d : D} : RV G.K G.ca ι B H v d → RSl G ι B ω H (.val d) (some v)
  | own {a : Addr} {xs : List V} {ds : List D} : a ∈ ω → H a = some (.lst xs) → RAll G.K G.ca ι B H xs ds → RSl G ι B ω H (.own ds) (some (.ref a))
  | oob {a dx : Addr} {c : Nat} {fs : List (Str × V)} {es : List (Str × D)} : a ∈ ω → G.me = some a → H a = some (.ins (G.ca c) dx fs) → RFs G.K G.ca ι B H fs es → RSl G ι B ω H (.oob c es) (some (.ref a))
  | exn {a : Addr} {dd : Option Addr} {c : Nat} {fs : List (Str × V)} {es : List (Str × D)} : G.x = some (a, dd, c) → NI dd ι → NI dd B → XD H dd fs → RFs G.K G.ca ι B H fs es → RSl G ι B ω H (.exn c es) (some (.ref a))
def isOwn : Sl → Bool
  | .own _ => true
  | .oob _ _ => true
  | _ => false
structure Rel (G : Gm) (F : Fr) (ι ω : List Addr) (ρ : Ev) (S : Sto) (σ : L2.St) (H : Hp) : Prop where
  pre : F.i0 <+: ι
  old : ∀ a o, F.H0 a = some o → a ∉ F.i0 → H a = some o
  dom : ∀ a, F.H0 a ≠ none → H a ≠ none
  fri : ∀ a ∈ ι, a ∉ F.i0 → F.H0 a = none
  frw : ∀ a ∈ ω, F.H0 a = none
  b0 : ∀ a ∈ F.B0, F.H0 a ≠ none ∧ a ∉ F.i0
  nd : ι.Nodup
  dj : ∀ a ∈ ω, a ∉ ι
  dw : ∀ a ∈ ω, H a ≠ none
  sto : RS G.K G.ca ι (F.B0 ++ ω) H S
  len : ρ.length = σ.length
  env : ∀ (i : Nat) (s : Sl) (o : Option V), ρ[i]? = some s → σ[i]? = some o → RSl G ι (F.B0 ++ ω) ω H s o
  own : ∀ (i j : Nat) (a : Addr) (s s' : Sl), i ≠ j → ρ[i]? = some s → ρ[j]? = some s' → isOwn s = true → isOwn s' = true → σ[i]? = some (some (.ref a)) → σ[j]? = some (some (.ref a)) → False
section
variable {G : Gm} {F : Fr} {ι ω ι' : List Addr} {ρ : Ev} {S S' : Sto} {σ : L2.St} {H H' : Hp}
theorem RSl.ex {s : Sl} {o : Option V} (h : RSl G ι (F.B0 ++ ω) ω H s o) (dj : ∀ a ∈ ω, a ∉ ι) (e : Ext ι H ι' H') : RSl G ι' (F.B0 ++ ω) ω H' s o := by
  cases h with
  | no => exact .no
  | val h => exact .val (h.ex e)
  | own h1 h2 h3 => exact .own h1 (e.keep _ _ h2 (dj _ h1)) (h3.ex e)
  | oob h1 h0 h2 h3 => exact .oob h1 h0 (e.keep _ _ h2 (dj _ h1)) (h3.ex e)
  | exn h1 h2 h3 h4 h5 => exact .exn h1 (NI.ex h4 h2 e) h3 (h4.ex h2 e) (h5.ex e)
theorem Rel.bi (r : Rel G F ι ω ρ S σ H) : ∀ a ∈ F.B0 ++ ω, a ∉ ι := fun a ha z => by
  rcases List.mem_append.mp ha with h | h
  · obtain ⟨h1, h2⟩ := r.b0 a h
    exact h1 (r.fri a z h2)
  · exact r.dj a h z
theorem Rel.bd (r : Rel G F ι ω ρ S σ H) : ∀ a ∈ F.B0 ++ ω, H a ≠ none := fun a ha => by
  rcases List.mem_append.mp ha with h | h
  · exact r.dom a (r.b0 a h).1
  · exact r.dw a h
theorem Rel.ex (r : Rel G F ι ω ρ S σ H) (e : Ext ι H ι' H') (nd : ι'.Nodup) (s : RS G.K G.ca ι' (F.B0 ++ ω) H' S') : Rel G F ι' ω ρ S' σ H' := by
  have up : ∀ a o, F.H0 a = some o → a ∉ F.i0 → a ∉ ι := fun a o h n z => by
    have := r.fri a z n
    rw [h] at this; cases this
  refine ⟨r.pre.trans e.pre, fun a o h n => e.keep a o (r.old a o h n) (up a o h n), fun a h => e.dom a (r.dom a h), fun a h n => ?_, r.frw, r.b0, nd, fun a h z => ?_, fun a h => e.dom a (r.dw a h), s, r.len, fun i s o h1 h2 => (r.env i s o h1 h2).ex r.dj e, r.own⟩
  · by_cases hx : a ∈ ι
    · exact r.fri a hx n
    · have q := e.new a h hx
      cases z : F.H0 a with
      | none => rfl
      | some o => exact absurd q (r.dom a (by rw [z]; simp))
  · exact r.dw a h (e.new a z (r.dj a h))
/-- the heap alone has grown -/
theorem Rel.gr (r : Rel G F ι ω ρ S σ H) (g : ∀ a o, H a = some o → H' a = some o) : Rel G F ι ω ρ S σ H' := r.ex (Ext.gr g) r.nd (r.sto.gr g)
theorem Rel.new (r : Rel G F ι ω ρ S σ H) {p : Addr} {o : HO} (h : H p = none) : Rel G F ι ω ρ S σ (upd H p o) := r.gr fun a u e => by
  rw [upd_ne (ne_of_none e h)]; exact e
theorem Rel.offi (r : Rel G F ι ω ρ S σ H) {p : Addr} (h : H p = none) : p ∉ ι := fun z => r.sto.here p z h
theorem Rel.offb (r : Rel G F ι ω ρ S σ H) {p : Addr} (h : H p = none) : p ∉ F.B0 ++ ω := fun z => r.bd p z h
end
end Fx
namespace U
open PySem PySem.Spec PyProof.Rows L2
mutual
inductive Dq (K : PySem.W.Frag) (H : Hp) : V → PyData → Prop
  | non : Dq K H .non .none
  | bl (k : Bool) : Dq K H (.bl k) (.bool k)
  | int (i : Int) : Dq K H (.int i) (.int i)
  | str (z : Str) : Dq K H (.str z) (.str z)
  | lst {a : Addr} {xs : List V} {ds : List PyData} : SqL K H a xs → DqAll K H xs ds → Dq K H (.ref a) (.list ds)
  | tup {a : Addr} {xs : List V} {ds : List PyData} : SqT K H a xs → DqAll K H xs ds → Dq K H (.ref a) (.tuple ds)
  | dct {a : Addr} : H a = some (.dK []) → Dq K H (.ref a) (.dict [])
  | dct1 {a : Addr} {z : Str} {i : Int} : H a = some (.dK [(.inr z, .int i)]) → Dq K H (.ref a) (.dict [(.str z, .int i)])
inductive DqAll (K : PySem.W.Frag) (H : Hp) : List V → List PyData → Prop
  | nil : DqAll K H [] []
  | cons {v : V} {vs : List V} {d : PyData} {ds : List PyData} : Dq K H v d → DqAll K H vs ds → DqAll K H (v :: vs) (d :: ds)
end
mutual
theorem Dq.dp {K : PySem.W.Frag} {H : Hp} : ∀ (d : PyData) {v : V}, Dq K H v d → d.hasDict = false → Dp K H v d
  | .none, _, h, _ => by cases h; exact .non
  | .bool _, _, h, _ => by cases h; exact .bl _
  | .int _, _, h, _ => by cases h; exact .int _
  | .str _, _, h, _ => by cases h; exact .str _
  | .list ds, _, h, g => by
    cases h with
    | lst h2 h3 => exact .lst h2 (DqAll.dp ds h3 (by simpa only [PyData.hasDict] using g))
  | .tuple ds, _, h, g => by
    cases h with
    | tup h2 h3 => exact .tup h2 (DqAll.dp ds h3 (by simpa only [PyData.hasDict] using g))
  | .dict _, _, _, g => by simp only [PyData.hasDict] at g; cases g
theorem DqAll.dp {K : PySem.W.Frag} {H : Hp} : ∀ (ds : List PyData) {vs : List V}, DqAll K H vs ds → PyData.hasDictAll ds = false → DpAll K H vs ds
  | [], _, h, _ => by cases h; exact .nil
  | d :: ds, _, h, g => by
    cases h with
    | cons h1 h2 =>
      simp only [PyData.hasDictAll, Bool.or_eq_false_iff] at g
      exact .cons (Dq.dp d h1 g.1) (DqAll.dp ds h2 g.2)
end
section
variable {X : Cx} {pins : List (Addr × Obj)} {σ : L2.St} {H : Hp} {s : Shared}
theorem dk_one_at (I : Inv X pins σ H s) {a : Addr} {z : Str} {i : Int} (h : H a = some (.dK [(.inr z, .int i)])) : (a == sysModules) = false ∧ ∃ (o : Obj) (n : Nat) (en : DictEntry) (t t' : Tok), s.heap.get? a = some o ∧ o.cls = .type "dict" ∧ o.data = .dict #[en] n ∧ en.key = .str z t ∧ en.val = .int i t' := by
  obtain ⟨_, h2, vs, kv, o, es, ep, g1, g2, g3, _, g5, _⟩ := (show ObjOk X.prog X.w H s.heap a (.dK [(.inr z, .int i)]) from I.hok a _ h)
  obtain ⟨l⟩ := es
  match vs, kv with
  | [(kk, w)], .cons k1 .nil =>
    obtain ⟨e1, t', e2⟩ := k1
    cases (show Sum.inr z = kk from e1)
    have e2 : w = Value.int i t' := e2
    subst e2
    have g5 : Pairs (mixKind X.prog X.w) l [(Sum.inr z, Value.int i t')] := g5
    cases g5 with
    | @cons en _ _ _ p1 p2 p3 =>
      cases p3
      rcases keyIs_shape (show keyIs (Sum.inr z) en.key = true from p1) with ⟨j, t, q1, q2⟩ | ⟨x, t, q1, q2⟩
      · cases q1
      · cases q1
        exact ⟨h2, o, ep, en, t, t', g1, g2.1, g3, q2, p2⟩
mutual
theorem Dq.reads (I : Inv X pins σ H s) : ∀ (d : PyData) {v : V} {u : Value}, Dq X.K H v d → RelV v u → ∃ as, Reads s.heap u d as
  | .none, _, _, h, r => by cases h; cases r; exact ⟨_, .none⟩
  | .bool _, _, _, h, r => by cases h; cases r; exact ⟨_, .bool _⟩
  | .int _, _, _, h, r => by cases h; obtain ⟨t, rfl⟩ := r; exact ⟨_, .int _ t⟩
  | .str _, _, _, h, r => by cases h; obtain ⟨t, rfl⟩ := r; exact ⟨_, .str _ t⟩
  | .list ds, _, _, h, r => by
    cases h with
    | lst h2 h3 =>
      cases r
      obtain ⟨us, rv, ⟨o, n, e1, e2, _, e3⟩, _⟩ := I.list h2
      obtain ⟨as, q⟩ := DqAll.reads I ds h3 rv
      exact ⟨_, .list e1 e2 e3 q⟩
  | .tuple ds, _, _, h, r => by
    cases h with
    | tup h2 h3 =>
      cases r
      obtain ⟨us, rv, ⟨o, e1, e2, n, e3⟩, _⟩ := I.tuple h2
      obtain ⟨as, q⟩ := DqAll.reads I ds h3 rv
      exact ⟨_, .tuple e1 e2 e3 q⟩
  | .dict _, _, _, h, r => by
    cases h with
    | dct h2 =>
      cases r
      obtain ⟨_, o, n, e1, e2, e3⟩ := dk_empty_at I h2
      exact ⟨_, .dict e1 e2 e3 .nil .nil⟩
    | dct1 h2 =>
      cases r
      obtain ⟨_, o, n, en, t, t', e1, e2, e3, e4, e5⟩ := dk_one_at I h2
      exact ⟨_, .dict e1 e2 e3 (.cons (by dsimp only; rw [e4]; exact .str _ t) .nil) (.cons (by dsimp only; rw [e5]; exact .int _ t') .nil)⟩
theorem DqAll.reads (I : Inv X pins σ H s) : ∀ (ds : List PyData) {vs : List V} {us : List Value}, DqAll X.K H vs ds → Vals vs us → ∃ as, ReadsAll s.heap us ds as
  | [], _, _, h, r => by cases h; cases r; exact ⟨_, .nil⟩
  | d :: ds, _, _, h, r => by
    cases h with
    | cons h1 h2 =>
      cases r with
      | cons r1 r2 =>
        obtain ⟨as, q1⟩ := Dq.reads I d h1 r1
        obtain ⟨cs, q2⟩ := DqAll.reads I ds h2 r2
        exact ⟨_, .cons q1 q2⟩
end
mutual
theorem Dq.shows (I : Inv X pins σ H s) : ∀ (d : PyData) {v : V} {u : Value}, Dq X.K H v d → RelV v u → d.showable = true → d.shown.length ≤ sizeLine →
    ∃ bs, ReadAtMost s.heap d.depth bs ∧ ReprK X.prog X.w bs s.heap d.depth u d.shown
  | .none, _, _, h, r, _, _ => by
    cases h; cases r
    refine ⟨[], fun _ q => (nomatch q), ?_⟩
    simp only [PyData.shown]; exact .of_is ReprIs.none _ _ _
  | .bool k, _, _, h, r, _, _ => by
    cases h; cases r
    refine ⟨[], fun _ q => (nomatch q), ?_⟩
    simp only [PyData.shown]; exact .of_is (ReprIs.bool k) _ _ _
  | .int i, _, _, h, r, hs, _ => by
    cases h; obtain ⟨t, rfl⟩ := r
    refine ⟨[], fun _ q => (nomatch q), ?_⟩
    have g : i.natAbs.log2 < 1920 := by simpa [PyData.showable] using hs
    simp only [PyData.shown]; exact .of_is (ReprIs.int t g) _ _ _
  | .str z, _, _, h, r, _, hz => by
    cases h; obtain ⟨t, rfl⟩ := r
    refine ⟨[], fun _ q => (nomatch q), ?_⟩
    simp only [PyData.shown] at hz ⊢; exact .of_is (ReprIs.str z t hz) _ _ _
  | .list ds, _, u, h, r, hs, hz => by
    obtain ⟨as, rd⟩ := Dq.reads I (.list ds) h r
    cases h with
    | @lst a xs _ h2 h3 =>
      cases r
      obtain ⟨us, rv, ⟨o, n, e1, e2, _, e3⟩, _⟩ := I.list h2
      simp only [PyData.shown] at hz
      obtain ⟨bs, k1, k2⟩ := DqAll.shows I ds h3 rv (by simpa only [PyData.showable] using hs) (fun t ht => Nat.le_trans (listText_mem_le ht) hz)
      have no : a ∉ bs := not_mem_of_deeper rd (by simp only [PyData.depth]; omega) k1
      refine ⟨a :: bs, ReadAtMost.cons rd (by simp only [PyData.depth]; omega) k1, ?_⟩
      simp only [PyData.depth, PyData.shown]
      cases us with
      | nil =>
        cases rv
        cases h3
        simp only [PyData.shownAll, listText_nil]
        exact .listEmpty e1 e2 e3
      | cons x l => exact .list e1 e2 e3 no (by simpa using k2.length_eq) fun i y e => k2.item i y (by simpa using e)
  | .tuple ds, _, u, h, r, hs, hz => by
    obtain ⟨as, rd⟩ := Dq.reads I (.tuple ds) h r
    cases h with
    | @tup a xs _ h2 h3 =>
      cases r
      obtain ⟨us, rv, ⟨o, e1, e2, n, e3⟩, _⟩ := I.tuple h2
      simp only [PyData.shown] at hz
      obtain ⟨bs, k1, k2⟩ := DqAll.shows I ds h3 rv (by simpa only [PyData.showable] using hs) (fun t ht => Nat.le_trans (tupleText_mem_le ht) hz)
      have no : a ∉ bs := not_mem_of_deeper rd (by simp only [PyData.depth]; omega) k1
      refine ⟨a :: bs, ReadAtMost.cons rd (by simp only [PyData.depth]; omega) k1, ?_⟩
      simp only [PyData.depth, PyData.shown]
      exact .tuple e1 e2 e3 no (by simpa using k2)
  | .dict kvs, _, u, h, r, hs, hz => by
    obtain ⟨as, rd⟩ := Dq.reads I (.dict kvs) h r
    cases h with
    | @dct a h2 =>
      cases r
      obtain ⟨g, o, n, e1, e2, e3⟩ := dk_empty_at I h2
      refine ⟨[a], ReadAtMost.cons (n := 0) rd (Nat.zero_le _) (fun _ q => (nomatch q)), ?_⟩
      simp only [PyData.depth, PyData.shown, PyData.depthKv, PyData.shownKv]
      exact .dict (ps := []) e1 e2 e3 g (by simp) .nil
    | @dct1 a z i h2 =>
      cases r
      obtain ⟨g, o, n, en, t, t', e1, e2, e3, e4, e5⟩ := dk_one_at I h2
      refine ⟨[a], ReadAtMost.cons (n := 0) rd (Nat.zero_le _) (fun _ q => (nomatch q)), ?_⟩
      have hg : i.natAbs.log2 < 1920 := by simpa [PyData.showable, PyData.showableKv] using hs
      have hzz : (PyData.shown (.str z)).length ≤ sizeLine := by
        obtain ⟨p, hp, hl⟩ := PyData.shownKv_key_le [(.str z, .int i)] (PyData.shown (.str z)) (by simp [PyData.shownAll])
        simp only [PyData.shown] at hz
        exact Nat.le_trans hl (Nat.le_trans (dictText_mem_le hp) hz)
      simp only [PyData.depth, PyData.shown, PyData.depthKv, PyData.shownKv] at hzz ⊢
      exact .dict e1 e2 e3 g (by simp) (.cons (by rw [e4]; exact .of_is (ReprIs.str z t hzz) _ _ _) (by rw [e5]; exact .of_is (ReprIs.int t' hg) _ _ _) .nil)
theorem DqAll.shows (I : Inv X pins σ H s) : ∀ (ds : List PyData) {vs : List V} {us : List Value}, DqAll X.K H vs ds → Vals vs us → PyData.showableAll ds = true → (∀ t ∈ PyData.shownAll ds, t.length ≤ sizeLine) →
    ∃ bs, ReadAtMost s.heap (PyData.depthAll ds) bs ∧ ReprAllK X.prog X.w bs s.heap (PyData.depthAll ds) us (PyData.shownAll ds)
  | [], _, _, h, r, _, _ => by
    cases h; cases r
    refine ⟨[], fun _ q => (nomatch q), ?_⟩
    simp only [PyData.shownAll]; exact .nil
  | d :: ds, _, _, h, r, hs, hz => by
    cases h with
    | cons h1 h2 =>
      cases r with
      | cons r1 r2 =>
        simp only [PyData.showableAll, Bool.and_eq_true] at hs
        simp only [PyData.shownAll] at hz
        obtain ⟨b1, a1, k1⟩ := Dq.shows I d h1 r1 hs.1 (hz _ List.mem_cons_self)
        obtain ⟨b2, a2, k2⟩ := DqAll.shows I ds h2 r2 hs.2 fun t ht => hz t (List.mem_cons_of_mem _ ht)
        refine ⟨b1 ++ b2, ?_, ?_⟩
        · simp only [PyData.depthAll]
          exact (a1.mono (Nat.le_max_left _ _)).append (a2.mono (Nat.le_max_right _ _))
        · simp only [PyData.depthAll, PyData.shownAll]
          refine .cons ((k1.more fun c hc => List.mem_append_left _ hc).level_le (Nat.le_max_left _ _)) ?_
          exact k2.more_le (fun c hc => List.mem_append_right _ hc) (Nat.le_max_right _ _)
end
end
/-- data that repr takes, of any leaves -/
structure Okw (d : PyData) : Prop where
  sh : d.showable = true
  dp : d.depth ≤ 20
  sz : d.shown.length ≤ sizeLine
theorem Okd.w {d : PyData} (h : Okd d) : Okw d := ⟨h.sh, h.dp, h.size⟩
def uRepr3 (K : PySem.W.Frag) : List V → Hp → VK → Prop := fun xs H Q => match xs with
  | [v] => ∃ d, Dq K H v d ∧ Okw d ∧ Q (.str d.shown) H
  | _ => False
theorem cu_repr3 {X : Cx} (hg : X.A.guards = some []) (hu : X.A.units + 64 < cLine) : CallR X (.builtin "repr") (uRepr3 X.K) := fun pins s σ H xs us Q I r h => by
  match xs, h with
  | [v], h =>
    obtain ⟨d, hd, ok, q⟩ := h
    match us, r with
    | [u], .cons ru .nil =>
      have fin : ∀ h' tk u', (∀ b o, s.heap.get? b = some o → h'.get? b = some o) → EP X pins σ Q (.str d.shown u') { s with heap := h', toks := tk } := fun h' tk u' kp =>
        ⟨.str d.shown, H, I.un (Un.kept kp) (I.hok.kept kp), ⟨_, rfl⟩, q⟩
      have stay : ∀ tk u', EP X pins σ Q (.str d.shown u') { s with toks := tk } := fun tk u' => fin s.heap tk u' fun _ _ z => z
      obtain ⟨as, rd⟩ := Dq.reads I d hd ru
      have h2 := ok.sz
      have hdp := ok.dp
      cases hd with
      | non =>
        cases ru
        exact PySem.P.repr_of_none (by have e : PyData.shown .none = ("None" : Str) := by simp [PyData.shown]
                                       exact e ▸ stay _ _)
      | bl k =>
        cases ru
        exact PySem.P.repr_of_bool (by have e : PyData.shown (.bool k) = (if k then "True" else "False" : Str) := by simp [PyData.shown]
                                       exact e ▸ stay _ _)
      | int i =>
        obtain ⟨t, rfl⟩ := ru
        have g : i.natAbs.log2 < 1920 := by simpa [PyData.showable] using ok.sh
        exact PySem.P.repr_of_int g (by have e : PyData.shown (.int i) = (toString i : Str) := by simp [PyData.shown]
                                        exact e ▸ stay _ _)
      | str z =>
        obtain ⟨t, rfl⟩ := ru
        have e : PyData.shown (.str z) = reprText z := by simp [PyData.shown]
        exact PySem.P.repr_of_str (by exact e ▸ stay _ _) (e ▸ h2)
      | @lst a ys ds h2' h3 =>
        cases ru
        obtain ⟨us, rv, ⟨o, n, e1, e2, _, e3⟩, _⟩ := I.list h2'
        simp only [PyData.shown] at h2
        obtain ⟨bs, k1, k2⟩ := DqAll.shows I ds h3 rv (by simpa only [PyData.showable] using ok.sh) (fun t ht => Nat.le_trans (listText_mem_le ht) h2)
        have no : a ∉ bs := not_mem_of_deeper rd (by simp only [PyData.depth]; omega) k1
        simp only [PyData.depth] at hdp
        refine call_repr_slot (by omega) ⟨o, e1, e2⟩ F.slot_list_repr.toG ?_
        simp only [PyData.shown] at fin
        cases us with
        | nil =>
          cases rv
          cases h3
          simp only [PyData.shownAll, listText_nil] at fin
          exact call_list_repr_empty ⟨o, e1, e2⟩ e1 e3 ⟨_, _, rfl, fin s.heap _ _ fun _ _ z => z⟩
        | cons x l =>
          exact call_list_reprK e1 e2 e3 no (by simpa using k2.length_eq) (fun i y e => k2.item i y (by simpa using e)) (A := X.A.in1) hg (fun c _ => Clear.nil c) (by show X.A.units + 1 + _ < cLine; omega) (fun _ _ z => z) (fun h' u' tk kp => ⟨_, _, rfl, fin h' tk u' kp⟩) h2
      | @tup a ys ds h2' h3 =>
        cases ru
        obtain ⟨us, rv, ⟨o, e1, e2, n, e3⟩, _⟩ := I.tuple h2'
        simp only [PyData.shown] at h2
        obtain ⟨bs, k1, k2⟩ := DqAll.shows I ds h3 rv (by simpa only [PyData.showable] using ok.sh) (fun t ht => Nat.le_trans (tupleText_mem_le ht) h2)
        have no : a ∉ bs := not_mem_of_deeper rd (by simp only [PyData.depth]; omega) k1
        simp only [PyData.depth] at hdp
        refine call_repr_slot (by omega) ⟨o, e1, e2⟩ F.slot_tuple_repr ?_
        simp only [PyData.shown] at fin
        exact call_tuple_reprK e1 e2 e3 no (by simpa using k2) (A := X.A.in1) hg (fun c _ => Clear.nil c) (by show X.A.units + 1 + _ < cLine; omega) (fun _ _ z => z) (fun h' u' tk kp => ⟨_, _, rfl, fin h' tk u' kp⟩) h2
      | @dct a h2' =>
        cases ru
        obtain ⟨g, o, n, e1, e2, e3⟩ := dk_empty_at I h2'
        simp only [PyData.shown, PyData.shownKv] at h2 fin
        refine call_repr_slot (by omega) ⟨o, e1, e2⟩ F.slot_dict_repr ?_
        exact call_dict_reprK (as := []) (d := 0) (ps := []) e1 e2 e3 g (by simp) .nil (A := X.A.in1) hg (fun c _ => Clear.nil c) (by show X.A.units + 1 + _ < cLine; omega) (fun _ _ z => z) (fun h' u' tk kp => ⟨_, _, rfl, fin h' tk u' kp⟩) h2
      | @dct1 a z i h2' =>
        cases ru
        obtain ⟨g, o, n, en, t, t', e1, e2, e3, e4, e5⟩ := dk_one_at I h2'
        have hgi : i.natAbs.log2 < 1920 := by simpa [PyData.showable, PyData.showableKv] using ok.sh
        have hzz : (PyData.shown (.str z)).length ≤ sizeLine := by
          obtain ⟨p, hp, hl⟩ := PyData.shownKv_key_le [(.str z, .int i)] (PyData.shown (.str z)) (by simp [PyData.shownAll])
          simp only [PyData.shown] at h2
          exact Nat.le_trans hl (Nat.le_trans (dictText_mem_le hp) h2)
        simp only [PyData.shown, PyData.shownKv] at h2 fin hzz
        refine call_repr_slot (by omega) ⟨o, e1, e2⟩ F.slot_dict_repr ?_
        exact call_dict_reprK (as := []) (d := 0) (ps := [_]) e1 e2 e3 g (by simp) (.cons (by rw [e4]; exact .of_is (ReprIs.str z t hzz) _ _ _) (by rw [e5]; exact .of_is (ReprIs.int t' hgi) _ _ _) .nil) (A := X.A.in1) hg (fun c _ => Clear.nil c) (by show X.A.units + 1 + _ < cLine; omega) (fun _ _ z => z) (fun h' u' tk kp => ⟨_, _, rfl, fin h' tk u' kp⟩) h2
end U
namespace Fx
open PySem PySem.Spec PyProof.Rows L2 U
noncomputable section
def bE (r : RE) (k : D → Fl → Sto → RE) : RE := match r with
  | .ok d f S => k d f S
  | .xc c fs S => .xc c fs S
  | .bad => .bad
def PostE (G : Gm) (E : WX) (F : Fr) (ι ω : List Addr) (ρ : Ev) (σ : L2.St) (H : Hp) (Q : VK) : RE → Prop
  | .ok d f S' => ∀ ι' v H', Ext ι H ι' H' → Rel G F ι' ω ρ S' σ H' → RF G.K G.ca ι' (F.B0 ++ ω) H H' S' v d f → Q v H'
  | .xc c fs S' => ∀ ι' dd fv H', Ext ι H ι' H' → Rel G F ι' ω ρ S' σ H' → NI dd ι' → NI dd (F.B0 ++ ω) → XD H' dd fv → RFs G.K G.ca ι' (F.B0 ++ ω) H' fv fs → E (.ref (G.ca c)) dd σ H'
  | .bad => False
def SE (G : Gm) (E : WX) (t : TE) (f : FE) : Prop := ∀ F ι ω ρ S σ H Q, Rel G F ι ω ρ S σ H → PostE G E F ι ω ρ σ H Q (f ρ S) → t σ H Q
section
variable {G : Gm} {E : WX} {F : Fr} {ι ω ι1 : List Addr} {ρ : Ev} {S S1 : Sto} {σ : L2.St} {H H1 : Hp} {Q : VK}
theorem PostE.ex {r : RE} (h : PostE G E F ι ω ρ σ H Q r) (e : Ext ι H ι1 H1) : PostE G E F ι1 ω ρ σ H1 Q r := by
  cases r with
  | ok d f S' => exact fun ι' v H' e' r rf => h ι' v H' (e.trans e') r (rf.old e.dom)
  | xc c fs S' => exact fun ι' dd fv H' e' r n1 n2 h1 h2 => h ι' dd fv H' (e.trans e') r n1 n2 h1 h2
  | bad => exact h
theorem SE.bind {ta : TE} {fa : FE} (ha : SE G E ta fa) (r : Rel G F ι ω ρ S σ H) {k : D → Fl → Sto → RE} (h : PostE G E F ι ω ρ σ H Q (bE (fa ρ S) k)) {R : VK}
    (c : ∀ d f S1 ι1 v H1, Ext ι H ι1 H1 → Rel G F ι1 ω ρ S1 σ H1 → RF G.K G.ca ι1 (F.B0 ++ ω) H H1 S1 v d f → PostE G E F ι1 ω ρ σ H1 Q (k d f S1) → R v H1) : ta σ H R := by
  refine ha F ι ω ρ S σ H R r ?_
  cases e : fa ρ S with
  | ok d f S1 =>
    rw [e] at h
    exact fun ι1 v H1 e1 r1 rf => c d f S1 ι1 v H1 e1 r1 rf (PostE.ex h e1)
  | xc c' fs S1 => rw [e] at h; exact h
  | bad => rw [e] at h; exact h
/-- an answer that changes nothing -/
theorem PostE.now {d : D} {v : V} (h : PostE G E F ι ω ρ σ H Q (.ok d .tr S)) (r : Rel G F ι ω ρ S σ H) (rv : RV G.K G.ca ι (F.B0 ++ ω) H v d) : Q v H := h ι v H Ext.refl r rv
theorem Per.add {B : List Addr} {p : Addr} {o : HO} (hp : H p = none) : Per ι B H ι (p :: B) (upd H p o) :=
  ⟨fun a u h1 h2 h3 => ⟨by rw [upd_ne (ne_of_none h1 hp)]; exact h1, h2, fun z => by
    rcases List.mem_cons.mp z with z | z
    · exact ne_of_none h1 hp z
    · exact h3 z⟩, fun _ _ h => h⟩
theorem Per.new {B : List Addr} {p : Addr} {o : HO} (hp : H p = none) : Per ι B H ι B (upd H p o) := (Ext.new1 hp).per
theorem RS.add {K : PySem.W.Frag} {ca : Nat → Addr} {B : List Addr} {p : Addr} {o : HO} (h : RS K ca ι B H S) (hp : H p = none) : RS K ca ι (p :: B) (upd H p o) S :=
  h.per (fun a ha => upd_ne fun z => h.here a ha (by rw [z]; exact hp)) (Per.add hp)
/-- a new list -/
theorem PostE.newL {ds : List D} {xs : List V} (h : PostE G E F ι ω ρ σ H Q (.ok (.lst ds) .fs S)) (r : Rel G F ι ω ρ S σ H) (rv : RAll G.K G.ca ι (F.B0 ++ ω) H xs ds) (p : Addr) (hp : H p = none) : Q (.ref p) (upd H p (.lst xs)) :=
  h ι (.ref p) _ (Ext.new1 hp) (r.new hp) (.l (r.offi hp) (r.offb hp) hp upd_same (rv.per (Per.add hp)) (r.sto.add hp))
theorem PostE.newT {ds : List D} {xs : List V} (h : PostE G E F ι ω ρ σ H Q (.ok (.tup ds) .tr S)) (r : Rel G F ι ω ρ S σ H) (rv : RAll G.K G.ca ι (F.B0 ++ ω) H xs ds) (p : Addr) (hp : H p = none) : Q (.ref p) (upd H p (.tup xs)) :=
  h ι (.ref p) _ (Ext.new1 hp) (r.new hp) (.tup (r.offi hp) (r.offb hp) upd_same (rv.per (Per.new hp)))
end
def lsOf (S : Sto) : D → Option (List D)
  | .lst ds => some ds
  | .cel k => (match S[k]? with | some (.lst ds) => some ds | _ => none)
  | _ => none
def sqOf (S : Sto) : D → Option (List D)
  | .lst ds => some ds
  | .tup ds => some ds
  | .fro _ ds => some ds
  | .cel k => (match S[k]? with | some (.lst ds) => some ds | _ => none)
  | _ => none
section
variable {G : Gm} {E : WX} {F : Fr} {ι ω : List Addr} {ρ : Ev} {S : Sto} {σ : L2.St} {H : Hp} {v : V} {d : D} {ds : List D}
theorem cel_at (r : RS G.K G.ca ι (F.B0 ++ ω) H S) {k : Nat} {a : Addr} (h : ι[k]? = some a) (e : S[k]? = some (.lst ds)) : ∃ xs, H a = some (.lst xs) ∧ RAll G.K G.ca ι (F.B0 ++ ω) H xs ds := by
  cases r.at' k a _ h e with
  | lst h1 h2 => exact ⟨_, h1, h2⟩
theorem ls_at (r : RS G.K G.ca ι (F.B0 ++ ω) H S) (h : RT G.K G.ca ι (F.B0 ++ ω) H v d) (e : lsOf S d = some ds) : ∃ a xs, v = .ref a ∧ H a = some (.lst xs) ∧ RAll G.K G.ca ι (F.B0 ++ ω) H xs ds := by
  unfold lsOf at e
  split at e
  · cases e
    cases h with
    | v h => cases h with | lst h1 h2 h3 h4 => exact ⟨_, _, rfl, h3, h4⟩
    | l h1 h2 h3 => exact ⟨_, _, rfl, h2, h3⟩
  · split at e
    · cases e
      cases h with
      | v h => cases h with
        | cel h1 =>
          obtain ⟨xs, q1, q2⟩ := cel_at r h1 (by assumption)
          exact ⟨_, _, rfl, q1, q2⟩
    · cases e
  · cases e
theorem sq_at (r : RS G.K G.ca ι (F.B0 ++ ω) H S) (h : RT G.K G.ca ι (F.B0 ++ ω) H v d) (e : sqOf S d = some ds) : ∃ a xs, v = .ref a ∧ (SqL G.K H a xs ∨ SqT G.K H a xs) ∧ RAll G.K G.ca ι (F.B0 ++ ω) H xs ds := by
  unfold sqOf at e
  split at e
  · obtain ⟨a, xs, h1, h2, h3⟩ := ls_at r h (show lsOf S (.lst _) = some ds from e)
    exact ⟨a, xs, h1, .inl (.inl (.inl h2)), h3⟩
  · cases e
    cases h with
    | v h => cases h with | tup h1 h2 h3 h4 => exact ⟨_, _, rfl, .inr (.inl (.inl h3)), h4⟩
  · cases e
    cases h with
    | v h => cases h with | fro h1 h2 => exact ⟨_, _, rfl, h1.sq, h2⟩
  · rename_i k
    obtain ⟨a, xs, h1, h2, h3⟩ := ls_at r h (show lsOf S (.cel k) = some ds from e)
    exact ⟨a, xs, h1, .inl (.inl (.inl h2)), h3⟩
  · cases e
end
def fVar (i : Nat) : FE := fun ρ S => match ρ[i]? with
  | some (.val d) => .ok d .tr S
  | some (.own ds) => .ok (.lst ds) .pk S
  | some (.oob c fs) => .ok (.obj c fs) .pk S
  | _ => .bad
def fC (d : D) : FE := fun _ S => .ok d .tr S
section
variable {G : Gm} {E : WX}
theorem se_var (i : Nat) : SE G E (uVar i) (fVar i) := by
  intro F ι ω ρ S σ H Q r h
  unfold fVar at h
  unfold uVar
  cases e : ρ[i]? with
  | none => rw [e] at h; exact h.elim
  | some s =>
    rw [e] at h
    have hi : i < σ.length := by rw [← r.len]; exact (List.getElem?_eq_some_iff.mp e).1
    have q := r.env i s _ e (List.getElem?_eq_getElem hi)
    have e2 : σ[i]? = some σ[i] := List.getElem?_eq_getElem hi
    rw [e2]
    generalize σ[i] = o at q
    cases q with
    | no => exact h.elim
    | val rv => exact PostE.now h r rv
    | own h1 h2 h3 => exact h ι _ H Ext.refl r (.l (r.dj _ h1) h2 h3)
    | oob h1 h0 h2 h3 => exact h ι _ H Ext.refl r (.o (r.dj _ h1) h2 h3)
    | exn => exact h.elim
theorem se_non : SE G E (tC .non) (fC .non) := fun F ι ω ρ S σ H Q r h => PostE.now h r .non
theorem se_bl (b : Bool) : SE G E (tC (.bl b)) (fC (.bl b)) := fun F ι ω ρ S σ H Q r h => PostE.now h r (.bl b)
theorem se_int (i : Int) : SE G E (tC (.int i)) (fC (.int i)) := fun F ι ω ρ S σ H Q r h => PostE.now h r (.int i)
theorem se_str (z : Str) : SE G E (tC (.str z)) (fC (.str z)) := fun F ι ω ρ S σ H Q r h => PostE.now h r (.str z)
end
def lim : Nat := 1000000
theorem lim_le {n : Nat} (h : n ≤ lim) : n ≤ sizeLine := Nat.le_trans h (by decide)
theorem lim_lt {n : Nat} (h : n < lim) : n < sizeLine := Nat.lt_of_lt_of_le h (by decide)
def fOp (f : D → D → Sto → RE) (ea eb : FE) : FE := fun ρ S => bE (ea ρ S) fun d _ S1 => bE (eb ρ S1) fun e _ S2 => f d e S2
def fUn (f : D → Sto → RE) (ea : FE) : FE := fun ρ S => bE (ea ρ S) fun d _ S1 => f d S1
def SR (G : Gm) (E : WX) (r : R2) (f : D → D → Sto → RE) : Prop := ∀ F ι ω ρ S σ H Q x y d e, Rel G F ι ω ρ S σ H → RT G.K G.ca ι (F.B0 ++ ω) H x d → RT G.K G.ca ι (F.B0 ++ ω) H y e → PostE G E F ι ω ρ σ H Q (f d e S) → r x y H Q
section
variable {G : Gm} {E : WX}
theorem se_op {r : R2} {f : D → D → Sto → RE} {ta tb : TE} {fa fb : FE} (hr : SR G E r f) (ha : SE G E ta fa) (hb : SE G E tb fb) : SE G E (tOp r ta tb) (fOp f fa fb) := by
  intro F ι ω ρ S σ H Q rel h
  refine ha.bind rel h fun d fl S1 ι1 v H1 e1 r1 rf1 h1 => ?_
  refine hb.bind r1 h1 fun e fl2 S2 ι2 w H2 e2 r2 rf2 h2 => ?_
  exact hr F ι2 ω ρ S2 σ H2 Q v w d e r2 (rf1.rt.ex e2) rf2.rt h2
end
open Classical in
def dAdd (d e : D) (S : Sto) : RE := match d, e with
  | .int i, .int j => .ok (.int (i + j)) .tr S
  | .str a, .str b => if a.length + b.length ≤ lim then .ok (.str (a ++ b)) .tr S else .bad
  | d, e => (match lsOf S d, lsOf S e with
    | some a, some b => if a.length + b.length ≤ lim then .ok (.lst (a ++ b)) .fs S else .bad
    | _, _ => .bad)
def dSub (d e : D) (S : Sto) : RE := match d, e with
  | .int i, .int j => .ok (.int (i - j)) .tr S
  | _, _ => .bad
open Classical in
def dMul (d e : D) (S : Sto) : RE := match d, e with
  | .int i, .int j => if CMul i j then .ok (.int (i * j)) .tr S else .bad
  | .str z, .int k => if MulOk z k then .ok (.str (Txt.mul z k)) .tr S else .bad
  | d, .int k => (match lsOf S d with
    | some a => if -(2 ^ 63) ≤ k ∧ k < 2 ^ 63 ∧ a.length * k.toNat ≤ lim then .ok (.lst (List.replicate k.toNat a).flatten) .fs S else .bad
    | _ => .bad)
  | _, _ => .bad
open Classical in
def dFdiv (d e : D) (S : Sto) : RE := match d, e with
  | .int i, .int j => if CDiv i j then .ok (.int (i / j)) .tr S else .bad
  | _, _ => .bad
def dMod (d e : D) (S : Sto) : RE := match d, e with
  | .int i, .int j => if 0 < j then .ok (.int (i % j)) .tr S else .bad
  | _, _ => .bad
open Classical in
def dPow (d e : D) (S : Sto) : RE := match d, e with
  | .int i, .int j => if CPow i j then .ok (.int (i ^ j.toNat)) .tr S else .bad
  | _, _ => .bad
def dCmp (p : Int → Int → Bool) (q : List Nat → List Nat → Bool) (d e : D) (S : Sto) : RE := match d, e with
  | .int i, .int j => .ok (.bl (p i j)) .tr S
  | .str i, .str j => .ok (.bl (q (sl i) (sl j))) .tr S
  | _, _ => .bad
abbrev dLt := dCmp (fun i j => decide (i < j)) (fun i j => decide (i < j))
abbrev dLe := dCmp (fun i j => decide (i ≤ j)) (fun i j => !decide (j < i))
abbrev dGt := dCmp (fun i j => decide (j < i)) (fun i j => decide (j < i))
section
variable {G : Gm} {E : WX}
theorem RT.sInt {K : PySem.W.Frag} {ca : Nat → Addr} {ι B : List Addr} {H : Hp} {v : V} {i : Int} (h : RT K ca ι B H v (.int i)) : v = .int i := by cases h with | v h => cases h; rfl
theorem RT.sStr {K : PySem.W.Frag} {ca : Nat → Addr} {ι B : List Addr} {H : Hp} {v : V} {i : Str} (h : RT K ca ι B H v (.str i)) : v = .str i := by cases h with | v h => cases h; rfl
theorem RT.sBl {K : PySem.W.Frag} {ca : Nat → Addr} {ι B : List Addr} {H : Hp} {v : V} {i : Bool} (h : RT K ca ι B H v (.bl i)) : v = .bl i := by cases h with | v h => cases h; rfl
theorem RT.sNon {K : PySem.W.Frag} {ca : Nat → Addr} {ι B : List Addr} {H : Hp} {v : V} (h : RT K ca ι B H v .non) : v = .non := by cases h with | v h => cases h; rfl
theorem sr_add : SR G E (uAdd G.K) dAdd := by
  intro F ι ω ρ S σ H Q x y d e rel hx hy h
  unfold dAdd at h
  split at h
  · rw [hx.sInt, hy.sInt]; exact PostE.now h rel (.int _)
  · rw [hx.sStr, hy.sStr]
    split at h
    · exact ⟨lim_le (by assumption), PostE.now h rel (.str _)⟩
    · exact h.elim
  · split at h
    · rename_i a b ea eb
      obtain ⟨p, xs, rfl, h1, h2⟩ := ls_at rel.sto hx ea
      obtain ⟨q, ys, rfl, h3, h4⟩ := ls_at rel.sto hy eb
      split at h
      · rename_i hl
        exact ⟨xs, ys, h1, h3, by rw [h2.len, h4.len]; exact lim_le hl, fun p' hp => PostE.newL h rel (h2.app h4) p' hp⟩
      · exact h.elim
    · exact h.elim
theorem sr_sub : SR G E uSub dSub := by
  intro F ι ω ρ S σ H Q x y d e rel hx hy h
  unfold dSub at h
  split at h
  · rw [hx.sInt, hy.sInt]; exact PostE.now h rel (.int _)
  · exact h.elim
theorem rep_all {K : PySem.W.Frag} {ca : Nat → Addr} {ι B : List Addr} {H : Hp} {xs : List V} {ds : List D} (h : RAll K ca ι B H xs ds) : ∀ n : Nat, RAll K ca ι B H (List.replicate n xs).flatten (List.replicate n ds).flatten
  | 0 => .nil
  | n + 1 => by
    rw [List.replicate_succ, List.replicate_succ, List.flatten_cons, List.flatten_cons]
    exact h.app (rep_all h n)
theorem sr_mul : SR G E uMul3 dMul := by
  intro F ι ω ρ S σ H Q x y d e rel hx hy h
  unfold dMul at h
  split at h
  · rw [hx.sInt, hy.sInt]
    split at h
    · exact ⟨by assumption, PostE.now h rel (.int _)⟩
    · exact h.elim
  · rw [hx.sStr, hy.sInt]
    split at h
    · exact ⟨by assumption, PostE.now h rel (.str _)⟩
    · exact h.elim
  · split at h
    · rename_i a ea
      obtain ⟨p, xs, rfl, h1, h2⟩ := ls_at rel.sto hx ea
      rw [hy.sInt]
      split at h
      · rename_i hl
        exact oK_of (mutL_of h1) ⟨hl.1, hl.2.1, by rw [h2.len]; exact lim_le hl.2.2, fun p' hp => PostE.newL h rel (rep_all h2 _) p' hp⟩
      · exact h.elim
    · exact h.elim
  · exact h.elim
theorem sr_fdiv : SR G E uFdiv dFdiv := by
  intro F ι ω ρ S σ H Q x y d e rel hx hy h
  unfold dFdiv at h
  split at h
  · rw [hx.sInt, hy.sInt]
    split at h
    · exact ⟨by assumption, PostE.now h rel (.int _)⟩
    · exact h.elim
  · exact h.elim
theorem sr_mod : SR G E uMod dMod := by
  intro F ι ω ρ S σ H Q x y d e rel hx hy h
  unfold dMod at h
  split at h
  · rw [hx.sInt, hy.sInt]
    split at h
    · exact ⟨by assumption, PostE.now h rel (.int _)⟩
    · exact h.elim
  · exact h.elim
theorem sr_pow : SR G E uPow dPow := by
  intro F ι ω ρ S σ H Q x y d e rel hx hy h
  unfold dPow at h
  split at h
  · rw [hx.sInt, hy.sInt]
    split at h
    · exact ⟨by assumption, PostE.now h rel (.int _)⟩
    · exact h.elim
  · exact h.elim
theorem sr_cmp (p : Int → Int → Bool) (q : List Nat → List Nat → Bool) : SR G E (uCmpI p q) (dCmp p q) := by
  intro F ι ω ρ S σ H Q x y d e rel hx hy h
  unfold dCmp at h
  split at h
  · rw [hx.sInt, hy.sInt]; exact PostE.now h rel (.bl _)
  · rw [hx.sStr, hy.sStr]; exact PostE.now h rel (.bl _)
  · exact h.elim
end
mutual
def tree (c : Nat → Option PyData) : D → Option PyData
  | .non => some .none
  | .bl b => some (.bool b)
  | .int i => some (.int i)
  | .str z => some (.str z)
  | .lst ds => (treeAll c ds).map .list
  | .tup ds => (treeAll c ds).map .tuple
  | .fro _ _ => none
  | .dct [] => some (.dict [])
  | .dct (_ :: _) => none
  | .cel k => c k
  | .obj _ _ => none
  | .cls _ => none
def treeAll (c : Nat → Option PyData) : List D → Option (List PyData)
  | [] => some []
  | d :: ds => (match tree c d, treeAll c ds with | some p, some ps => some (p :: ps) | _, _ => none)
end
def cells : Nat → Sto → Nat → Option PyData
  | 0, _, _ => none
  | n + 1, S, k => (match S[k]? with | some (.lst ds) => (treeAll (cells n S) ds).map .list | _ => none)
def toP (S : Sto) (d : D) : Option PyData := tree (cells 4 S) d
section
variable {K : PySem.W.Frag} {ca : Nat → Addr} {ι B : List Addr} {H : Hp} {c : Nat → Option PyData}
mutual
theorem tree_dq (hc : ∀ k a p, ι[k]? = some a → c k = some p → Dq K H (.ref a) p) : ∀ (d : D) {v : V} {p : PyData}, RV K ca ι B H v d → tree c d = some p → Dq K H v p
  | .non, _, _, h, e => by cases h; simp only [tree] at e; cases e; exact .non
  | .bl _, _, _, h, e => by cases h; simp only [tree] at e; cases e; exact .bl _
  | .int _, _, _, h, e => by cases h; simp only [tree] at e; cases e; exact .int _
  | .str _, _, _, h, e => by cases h; simp only [tree] at e; cases e; exact .str _
  | .lst ds, _, _, h, e => by
    cases h with
    | lst h1 h2 h3 h4 =>
      simp only [tree, Option.map_eq_some_iff] at e
      obtain ⟨ps, e1, rfl⟩ := e
      exact .lst (.inl (.inl h3)) (treeAll_dq hc ds h4 e1)
  | .tup ds, _, _, h, e => by
    cases h with
    | tup h1 h2 h3 h4 =>
      simp only [tree, Option.map_eq_some_iff] at e
      obtain ⟨ps, e1, rfl⟩ := e
      exact .tup (.inl (.inl h3)) (treeAll_dq hc ds h4 e1)
  | .fro _ _, _, _, h, e => by simp only [tree] at e; cases e
  | .dct [], _, _, h, e => by
    cases h with
    | dct h1 h2 h3 h4 =>
      cases h4
      simp only [tree] at e; cases e
      exact .dct h3
  | .dct (_ :: _), _, _, h, e => by simp only [tree] at e; cases e
  | .cel k, _, _, h, e => by
    cases h with
    | cel h1 => simp only [tree] at e; exact hc _ _ _ h1 e
  | .obj _ _, _, _, h, e => by simp only [tree] at e; cases e
  | .cls _, _, _, h, e => by simp only [tree] at e; cases e
theorem treeAll_dq (hc : ∀ k a p, ι[k]? = some a → c k = some p → Dq K H (.ref a) p) : ∀ (ds : List D) {vs : List V} {ps : List PyData}, RAll K ca ι B H vs ds → treeAll c ds = some ps → DqAll K H vs ps
  | [], _, _, h, e => by cases h; simp only [treeAll] at e; cases e; exact .nil
  | d :: ds, _, _, h, e => by
    cases h with
    | cons h1 h2 =>
      simp only [treeAll] at e
      split at e
      · cases e
        exact .cons (tree_dq hc d h1 (by assumption)) (treeAll_dq hc ds h2 (by assumption))
      · cases e
end
theorem cells_dq {S : Sto} (rs : RS K ca ι B H S) : ∀ (n : Nat) (k : Nat) (a : Addr) (p : PyData), ι[k]? = some a → cells n S k = some p → Dq K H (.ref a) p
  | 0, _, _, _, _, e => by unfold cells at e; cases e
  | n + 1, k, a, p, h, e => by
    unfold cells at e
    split at e
    · rename_i ds es
      rw [Option.map_eq_some_iff] at e
      obtain ⟨ps, e1, rfl⟩ := e
      cases rs.at' k a _ h es with
      | lst h1 h2 => exact .lst (.inl (.inl h1)) (treeAll_dq (cells_dq rs n) ds h2 e1)
    · cases e
theorem toP_dq {S : Sto} {v : V} {d : D} {p : PyData} (rs : RS K ca ι B H S) (h : RT K ca ι B H v d) (e : toP S d = some p) : Dq K H v p := by
  unfold toP at e
  cases h with
  | v h => exact tree_dq (cells_dq rs 4) d h e
  | l h1 h2 h3 =>
    simp only [tree, Option.map_eq_some_iff] at e
    obtain ⟨ps, e1, rfl⟩ := e
    exact .lst (.inl (.inl h2)) (treeAll_dq (cells_dq rs 4) _ h3 e1)
  | o => simp only [tree] at e; cases e
end
def scalP : PyData → PyData → Bool
  | .none, .none => true | .none, .int _ => true | .int _, .none => true | .none, .bool _ => true | .bool _, .none => true | .none, .str _ => true | .str _, .none => true
  | .int _, .int _ => true | .bool _, .bool _ => true | .str _, .str _ => true
  | .int _, .str _ => true | .str _, .int _ => true | .bool _, .str _ => true | .str _, .bool _ => true
  | _, _ => false
theorem scal_eqv {K : PySem.W.Frag} {H : Hp} {x y : V} {p q : PyData} (hx : Dq K H x p) (hy : Dq K H y q) (h : scal x y = true) : PyData.eqv p q = decide (x = y) := by
  cases hx <;> cases hy <;> first | (simp [scal] at h; done) | (simp [PyData.eqv]; done) | (simp [PyData.eqv]; rw [Bool.eq_iff_iff]; simp; done)
theorem scalP_scal {K : PySem.W.Frag} {H : Hp} {x y : V} {p q : PyData} (hx : Dq K H x p) (hy : Dq K H y q) : scal x y = scalP p q := by
  cases hx <;> cases hy <;> rfl
/-- == of data -/
def dEqv (neg : Bool) (d e : D) (S : Sto) : RE := match toP S d, toP S e with
  | some p, some q => if (scalP p q || (SeqAt.shaped p && SeqAt.shaped q && !p.hasDict && !q.hasDict)) = true then .ok (.bl (neg ^^ PyData.eqv p q)) .tr S else .bad
  | _, _ => .bad
section
variable {G : Gm} {E : WX}
theorem sr_eq : SR G E (uEq2 G.K) (dEqv false) := by
  intro F ι ω ρ S σ H Q x y d e rel hx hy h
  unfold dEqv at h
  split at h
  · rename_i p q ep eq
    have q1 := toP_dq rel.sto hx ep
    have q2 := toP_dq rel.sto hy eq
    split at h
    · rename_i hc
      unfold uEq2
      cases es : scal x y with
      | true =>
        rw [Bool.false_xor, scal_eqv q1 q2 es] at h
        exact PostE.now h rel (.bl _)
      | false =>
        rw [← scalP_scal q1 q2, es, Bool.false_or] at hc
        simp only [Bool.and_eq_true, Bool.not_eq_true'] at hc
        obtain ⟨⟨⟨h1, h2⟩, h3⟩, h4⟩ := hc
        exact .inl ⟨p, q, q1.dp p h3, q2.dp q h4, h1, h2, by rw [Bool.false_xor] at h; exact PostE.now h rel (.bl _)⟩
    · exact h.elim
  · exact h.elim
theorem sr_ne : SR G E (uNe2 G.K) (dEqv true) := by
  intro F ι ω ρ S σ H Q x y d e rel hx hy h
  unfold dEqv at h
  split at h
  · rename_i p q ep eq
    have q1 := toP_dq rel.sto hx ep
    have q2 := toP_dq rel.sto hy eq
    split at h
    · rename_i hc
      unfold uNe2
      cases es : scal x y with
      | true =>
        rw [Bool.true_xor, scal_eqv q1 q2 es] at h
        exact PostE.now h rel (.bl _)
      | false =>
        rw [← scalP_scal q1 q2, es, Bool.false_or] at hc
        simp only [Bool.and_eq_true, Bool.not_eq_true'] at hc
        obtain ⟨⟨⟨h1, h2⟩, h3⟩, h4⟩ := hc
        exact .inl ⟨p, q, q1.dp p h3, q2.dp q h4, h1, h2, by rw [Bool.true_xor] at h; exact PostE.now h rel (.bl _)⟩
    · exact h.elim
  · exact h.elim
end
end
end Fx
namespace Fx
open PySem PySem.Spec PyProof.Rows L2 U
noncomputable section
inductive RA where
  | ok (ds : List D) (t : Bool) (S : Sto) | xc (c : Nat) (fs : List (Str × D)) (S : Sto) | bad
abbrev FA := Ev → Sto → RA
def RAf (K : PySem.W.Frag) (ca : Nat → Addr) (ι B : List Addr) (H : Hp) (vs : List V) (ds : List D) : Bool → Prop
  | true => RAll K ca ι B H vs ds
  | false => Paired (RT K ca ι B H) vs ds
def PostA (G : Gm) (E : WX) (F : Fr) (ι ω : List Addr) (ρ : Ev) (σ : L2.St) (H : Hp) (Q : List V → Hp → Prop) : RA → Prop
  | .ok ds t S' => ∀ ι' vs H', Ext ι H ι' H' → Rel G F ι' ω ρ S' σ H' → RAf G.K G.ca ι' (F.B0 ++ ω) H' vs ds t → Q vs H'
  | .xc c fs S' => ∀ ι' dd fv H', Ext ι H ι' H' → Rel G F ι' ω ρ S' σ H' → NI dd ι' → NI dd (F.B0 ++ ω) → XD H' dd fv → RFs G.K G.ca ι' (F.B0 ++ ω) H' fv fs → E (.ref (G.ca c)) dd σ H'
  | .bad => False
def SA (G : Gm) (E : WX) (t : TA) (f : FA) : Prop := ∀ F ι ω ρ S σ H Q, Rel G F ι ω ρ S σ H → PostA G E F ι ω ρ σ H Q (f ρ S) → t σ H Q
def Fl.nop : Fl → Bool
  | .pk => false
  | _ => true
def fNil : FA := fun _ S => .ok [] true S
def fCons (fa : FE) (fr : FA) : FA := fun ρ S => match fa ρ S with
  | .ok d f S1 => (match fr ρ S1 with
    | .ok ds t S2 => .ok (d :: ds) (f.nop && t) S2
    | .xc c fs S2 => .xc c fs S2
    | .bad => .bad)
  | .xc c fs S1 => .xc c fs S1
  | .bad => .bad
section
variable {G : Gm} {E : WX} {F : Fr} {ι ω ι1 : List Addr} {ρ : Ev} {S S1 : Sto} {σ : L2.St} {H H1 : Hp} {Q : VK}
theorem PostE.bind {r : RE} {k : D → Fl → Sto → RE} (h : PostE G E F ι ω ρ σ H Q (bE r k)) {R : VK}
    (c : ∀ d f S1 ι1 v H1, Ext ι H ι1 H1 → Rel G F ι1 ω ρ S1 σ H1 → RF G.K G.ca ι1 (F.B0 ++ ω) H H1 S1 v d f → PostE G E F ι1 ω ρ σ H1 Q (k d f S1) → R v H1) : PostE G E F ι ω ρ σ H R r := by
  cases r with
  | ok d f S1 => exact fun ι1 v H1 e1 r1 rf => c d f S1 ι1 v H1 e1 r1 rf (PostE.ex h e1)
  | xc c' fs S1 => exact h
  | bad => exact h
theorem PostA.ex {r : RA} {Q : List V → Hp → Prop} (h : PostA G E F ι ω ρ σ H Q r) (e : Ext ι H ι1 H1) : PostA G E F ι1 ω ρ σ H1 Q r := by
  cases r with
  | ok d f S' => exact fun ι' v H' e' r rf => h ι' v H' (e.trans e') r rf
  | xc c fs S' => exact fun ι' dd fv H' e' r n1 n2 h1 h2 => h ι' dd fv H' (e.trans e') r n1 n2 h1 h2
  | bad => exact h
theorem rall_pair {K : PySem.W.Frag} {ca : Nat → Addr} {ι B : List Addr} {H : Hp} : ∀ {ds : List D} {vs : List V}, RAll K ca ι B H vs ds → Paired (RT K ca ι B H) vs ds
  | [], _, h => by cases h; exact .nil
  | d :: ds, _, h => by
    cases h with
    | cons h1 h2 => exact .cons (.v h1) (rall_pair h2)
theorem RAf.pair {K : PySem.W.Frag} {ca : Nat → Addr} {ι B : List Addr} {H : Hp} {ds : List D} {vs : List V} {t : Bool} (h : RAf K ca ι B H vs ds t) : Paired (RT K ca ι B H) vs ds := by
  cases t with
  | true => exact rall_pair h
  | false => exact h
theorem sa_nil : SA G E tNil fNil := fun F ι ω ρ S σ H Q r h => h ι [] H Ext.refl r .nil
theorem sa_cons {ta : TE} {tr : TA} {fa : FE} {fr : FA} (ha : SE G E ta fa) (hr : SA G E tr fr) : SA G E (tCons ta tr) (fCons fa fr) := by
  intro F ι ω ρ S σ H Q rel h
  refine ha F ι ω ρ S σ H _ rel ?_
  unfold fCons at h
  cases e : fa ρ S with
  | ok d f S1 =>
    rw [e] at h
    intro ι1 v H1 e1 r1 rf
    refine hr F ι1 ω ρ S1 σ H1 _ r1 ?_
    dsimp only at h
    cases e2 : fr ρ S1 with
    | ok ds t S2 =>
      rw [e2] at h
      intro ι2 vs H2 x2 r2 ra
      refine h ι2 (v :: vs) H2 (e1.trans x2) r2 ?_
      cases hf : f.nop && t with
      | true =>
        rw [Bool.and_eq_true] at hf
        obtain ⟨h1, rfl⟩ := hf
        exact .cons ((rf.rv (by intro z; subst z; cases h1)).ex x2) ra
      | false => exact .cons (rf.rt.ex x2) ra.pair
    | xc c fs S2 => rw [e2] at h; exact PostA.ex h e1
    | bad => rw [e2] at h; exact h
  | xc c fs S1 => rw [e] at h; exact h
  | bad => rw [e] at h; exact h
/-- a call of a built-in -/
def fCB (f : List D → Bool → Sto → RE) (fa : FA) : FE := fun ρ S => match fa ρ S with
  | .ok ds t S1 => f ds t S1
  | .xc c fs S1 => .xc c fs S1
  | .bad => .bad
def SC (G : Gm) (E : WX) (r : List V → Hp → VK → Prop) (f : List D → Bool → Sto → RE) : Prop := ∀ F ι ω ρ S σ H Q vs ds t, Rel G F ι ω ρ S σ H → RAf G.K G.ca ι (F.B0 ++ ω) H vs ds t → PostE G E F ι ω ρ σ H Q (f ds t S) → r vs H Q
theorem sa_then {ta : TA} {fa : FA} (ha : SA G E ta fa) (rel : Rel G F ι ω ρ S σ H) {f : List D → Bool → Sto → RE} (h : PostE G E F ι ω ρ σ H Q (fCB f fa ρ S)) {R : List V → Hp → Prop}
    (c : ∀ ds t S1 ι1 vs H1, Ext ι H ι1 H1 → Rel G F ι1 ω ρ S1 σ H1 → RAf G.K G.ca ι1 (F.B0 ++ ω) H1 vs ds t → PostE G E F ι1 ω ρ σ H1 Q (f ds t S1) → R vs H1) : ta σ H R := by
  refine ha F ι ω ρ S σ H R rel ?_
  unfold fCB at h
  cases e : fa ρ S with
  | ok ds t S1 =>
    rw [e] at h
    exact fun ι1 vs H1 e1 r1 ra => c ds t S1 ι1 vs H1 e1 r1 ra (PostE.ex h e1)
  | xc c fs S1 => rw [e] at h; exact h
  | bad => rw [e] at h; exact h
theorem se_cb {r : List V → Hp → VK → Prop} {f : List D → Bool → Sto → RE} {ta : TA} {fa : FA} (hr : SC G E r f) (ha : SA G E ta fa) : SE G E (tCB r ta) (fCB f fa) := by
  intro F ι ω ρ S σ H Q rel h
  exact sa_then ha rel h fun ds t S1 ι1 vs H1 e1 r1 ra h1 => hr F ι1 ω ρ S1 σ H1 Q vs ds t r1 ra h1
def dLst (ds : List D) (t : Bool) (S : Sto) : RE := if (t && decide (ds.length ≤ lim)) = true then .ok (.lst ds) .fs S else .bad
def dTup (ds : List D) (t : Bool) (S : Sto) : RE := if (t && decide (ds.length ≤ lim)) = true then .ok (.tup ds) .tr S else .bad
def fLst (fa : FA) : FE := fCB dLst fa
def fTup (fa : FA) : FE := fCB dTup fa
theorem se_lst {ta : TA} {fa : FA} (ha : SA G E ta fa) : SE G E (tLst ta) (fLst fa) := by
  intro F ι ω ρ S σ H Q rel h
  refine sa_then ha rel h fun ds t S1 ι1 vs H1 e1 r1 ra h1 => ?_
  unfold dLst at h1
  split at h1
  · rename_i hc
    rw [Bool.and_eq_true] at hc
    obtain ⟨rfl, hl⟩ := hc
    exact ⟨by rw [RAll.len ra]; exact lim_le (of_decide_eq_true hl), fun p hp => PostE.newL h1 r1 ra p hp⟩
  · exact h1.elim
theorem se_tup {ta : TA} {fa : FA} (ha : SA G E ta fa) : SE G E (tTup ta) (fTup fa) := by
  intro F ι ω ρ S σ H Q rel h
  refine sa_then ha rel h fun ds t S1 ι1 vs H1 e1 r1 ra h1 => ?_
  unfold dTup at h1
  split at h1
  · rename_i hc
    rw [Bool.and_eq_true] at hc
    obtain ⟨rfl, hl⟩ := hc
    exact ⟨by rw [RAll.len ra]; exact lim_le (of_decide_eq_true hl), fun p hp => PostE.newT h1 r1 ra p hp⟩
  · exact h1.elim
def fDNew : FE := fun _ S => .ok (.dct []) .tr S
theorem se_dnew : SE G E tDNewK fDNew := fun F ι ω ρ S σ H Q rel h p hp => h ι (.ref p) _ (Ext.new1 hp) (rel.new hp) (.dct (rel.offi hp) (rel.offb hp) upd_same .nil)
def flat : D → Option V
  | .non => some .non
  | .bl b => some (.bl b)
  | .int i => some (.int i)
  | .str z => some (.str z)
  | _ => none
def flatAll : List D → Option (List V)
  | [] => some []
  | d :: ds => (match flat d, flatAll ds with | some v, some vs => some (v :: vs) | _, _ => none)
theorem flat_rv {K : PySem.W.Frag} {ca : Nat → Addr} {ι B : List Addr} {H : Hp} {v x : V} {d : D} (h : RV K ca ι B H v d) (e : flat d = some x) : v = x ∧ flatV x = true := by
  cases h <;> first | (cases e; exact ⟨rfl, rfl⟩) | (cases e; done)
theorem flat_rt {K : PySem.W.Frag} {ca : Nat → Addr} {ι B : List Addr} {H : Hp} {v x : V} {d : D} (h : RT K ca ι B H v d) (e : flat d = some x) : v = x ∧ flatV x = true := by
  cases h with
  | v h => exact flat_rv h e
  | l => cases e
  | o => cases e
theorem flat_all {K : PySem.W.Frag} {ca : Nat → Addr} {ι B : List Addr} {H : Hp} : ∀ {ds : List D} {vs xs : List V}, RAll K ca ι B H vs ds → flatAll ds = some xs → vs = xs ∧ xs.all flatV = true
  | [], _, _, h, e => by cases h; simp only [flatAll] at e; cases e; exact ⟨rfl, rfl⟩
  | d :: ds, _, _, h, e => by
    cases h with
    | cons h1 h2 =>
      simp only [flatAll] at e
      split at e
      · cases e
        obtain ⟨rfl, q1⟩ := flat_rv h1 (by assumption)
        obtain ⟨rfl, q2⟩ := flat_all h2 (by assumption)
        exact ⟨rfl, by rw [List.all_cons, q1, q2]; rfl⟩
      · cases e
def dIn (neg : Bool) (d e : D) (S : Sto) : RE := match d, e with
  | .str w, .str z => (match sl w with
    | [c] => .ok (.bl (if neg then !decide (c ∈ sl z) else decide (c ∈ sl z))) .tr S
    | _ => .bad)
  | d, e => (match flat d, sqOf S e with
    | some x, some ds => (match flatAll ds with
      | some vs => .ok (.bl (if neg then !inV x vs else inV x vs)) .tr S
      | none => .bad)
    | _, _ => .bad)
theorem sr_in (neg : Bool) : SR G E (uIn G.K neg) (dIn neg) := by
  intro F ι ω ρ S σ H Q x y d e rel hx hy h
  unfold dIn at h
  split at h
  · rw [hx.sStr, hy.sStr]
    unfold uIn
    split at h
    · rename_i c ec
      have ec' := ec
      dsimp only
      simp only [sl] at ec
      rw [ec]
      exact PostE.now h rel (.bl _)
    · exact h.elim
  · split at h
    · rename_i x' ds e1 e2
      split at h
      · rename_i vs e3
        obtain ⟨rfl, q1⟩ := flat_rt hx e1
        obtain ⟨a, xs, rfl, q2, q3⟩ := sq_at rel.sto hy e2
        obtain ⟨rfl, q4⟩ := flat_all q3 e3
        exact ⟨_, q2, q1, q4, PostE.now h rel (.bl _)⟩
      · exact h.elim
    · exact h.elim
theorem at_rv {K : PySem.W.Frag} {ca : Nat → Addr} {ι B : List Addr} {H : Hp} {vs : List V} {ds : List D} (h : RAll K ca ι B H vs ds) {i : Int} {d : D} (e : atI ds i = some d) : ∃ v, atI vs i = some v ∧ RV K ca ι B H v d := by
  unfold atI at e ⊢
  rw [h.len]
  cases hj : ixN ds.length i with
  | none => rw [hj] at e; cases e
  | some j =>
    rw [hj] at e
    exact h.at j e
def dIx (d e : D) (S : Sto) : RE := match d, e with
  | .str z, .int i => if z.length ≤ lim then (match atI (sl z) i with
    | some c => .ok (.str ⟨#[c]⟩) .tr S
    | none => .bad) else .bad
  | d, .int i => (match sqOf S d with
    | some ds => (match atI ds i with
      | some x => .ok x .tr S
      | none => .bad)
    | none => .bad)
  | _, _ => .bad
theorem sr_ix : SR G E (uIx G.K) dIx := by
  intro F ι ω ρ S σ H Q x y d e rel hx hy h
  unfold dIx at h
  split at h
  · rw [hx.sStr, hy.sInt]
    split at h
    · rename_i hl
      split at h
      · rename_i c ec
        exact ⟨lim_le hl, oK_of ec (PostE.now h rel (.str _))⟩
      · exact h.elim
    · exact h.elim
  · rename_i i _
    rw [hy.sInt]
    split at h
    · rename_i ds e1
      split at h
      · rename_i x' e2
        obtain ⟨a, xs, rfl, q2, q3⟩ := sq_at rel.sto hx e1
        obtain ⟨v, q4, q5⟩ := at_rv q3 e2
        exact ⟨xs, q2, oK_of q4 (PostE.now h rel q5)⟩
      · exact h.elim
    · exact h.elim
  · exact h.elim
inductive RO where
  | ok (o : Option Int) (S : Sto) | xc (c : Nat) (fs : List (Str × D)) (S : Sto) | bad
abbrev FO := Ev → Sto → RO
def PostO (G : Gm) (E : WX) (F : Fr) (ι ω : List Addr) (ρ : Ev) (σ : L2.St) (H : Hp) (Q : Option Int → Hp → Prop) : RO → Prop
  | .ok o S' => ∀ ι' H', Ext ι H ι' H' → Rel G F ι' ω ρ S' σ H' → Q o H'
  | .xc c fs S' => ∀ ι' dd fv H', Ext ι H ι' H' → Rel G F ι' ω ρ S' σ H' → NI dd ι' → NI dd (F.B0 ++ ω) → XD H' dd fv → RFs G.K G.ca ι' (F.B0 ++ ω) H' fv fs → E (.ref (G.ca c)) dd σ H'
  | .bad => False
def SO (G : Gm) (E : WX) (t : TO) (f : FO) : Prop := ∀ F ι ω ρ S σ H Q, Rel G F ι ω ρ S σ H → PostO G E F ι ω ρ σ H Q (f ρ S) → t σ H Q
def fNoPart : FO := fun _ S => .ok none S
def fPart (fe : FE) : FO := fun ρ S => match fe ρ S with
  | .ok (.int i) _ S1 => .ok (some i) S1
  | .ok _ _ _ => .bad
  | .xc c fs S1 => .xc c fs S1
  | .bad => .bad
theorem so_none : SO G E tNoPart fNoPart := fun F ι ω ρ S σ H Q r h => h ι H Ext.refl r
theorem so_some {te : TE} {fe : FE} (he : SE G E te fe) : SO G E (uPart te) (fPart fe) := by
  intro F ι ω ρ S σ H Q r h
  refine he F ι ω ρ S σ H _ r ?_
  unfold fPart at h
  split at h
  · rename_i i f S1 e
    rw [e]
    intro ι1 v H1 e1 r1 rf
    rw [rf.rt.sInt]
    exact h ι1 H1 e1 r1
  · exact h.elim
  · rename_i e; rw [e]; exact h
  · exact h.elim
def cutD (xs : List D) (lo hi : Option Int) : List D := (xs.drop (HT.sIx xs.length 0 lo)).take (HT.sIx xs.length xs.length hi - HT.sIx xs.length 0 lo)
theorem cut_all {K : PySem.W.Frag} {ca : Nat → Addr} {ι B : List Addr} {H : Hp} {vs : List V} {ds : List D} (h : RAll K ca ι B H vs ds) (lo hi : Option Int) : RAll K ca ι B H (cutV vs lo hi) (cutD ds lo hi) := by
  unfold cutV cutD
  rw [h.len]
  exact (h.drop _).take _
def dSl (d : D) (lo hi : Option Int) (S : Sto) : RE := match d with
  | .str z => if z.length ≤ lim then .ok (.str (cutS z lo hi)) .tr S else .bad
  | .tup ds => if HT.sIx ds.length 0 lo = 0 ∧ HT.sIx ds.length ds.length hi = ds.length then .bad else .ok (.tup (cutD ds lo hi)) .tr S
  | d => (match lsOf S d with
    | some ds => .ok (.lst (cutD ds lo hi)) .fs S
    | none => .bad)
def bO (r : RO) (k : Option Int → Sto → RE) : RE := match r with
  | .ok o S => k o S
  | .xc c fs S => .xc c fs S
  | .bad => .bad
def fSl (fe : FE) (lo hi : FO) : FE := fun ρ S => bE (fe ρ S) fun d _ S1 => bO (lo ρ S1) fun l S2 => bO (hi ρ S2) fun u S3 => dSl d l u S3
theorem so_bind {to : TO} {fo : FO} (ho : SO G E to fo) (rel : Rel G F ι ω ρ S σ H) {k : Option Int → Sto → RE} (h : PostE G E F ι ω ρ σ H Q (bO (fo ρ S) k)) {R : Option Int → Hp → Prop}
    (c : ∀ o S1 ι1 H1, Ext ι H ι1 H1 → Rel G F ι1 ω ρ S1 σ H1 → PostE G E F ι1 ω ρ σ H1 Q (k o S1) → R o H1) : to σ H R := by
  refine ho F ι ω ρ S σ H R rel ?_
  cases e : fo ρ S with
  | ok o S1 =>
    rw [e] at h
    exact fun ι1 H1 e1 r1 => c o S1 ι1 H1 e1 r1 (PostE.ex h e1)
  | xc c fs S1 => rw [e] at h; exact h
  | bad => rw [e] at h; exact h
theorem se_sl {te : TE} {fe : FE} {tl th : TO} {fl fh : FO} (he : SE G E te fe) (hl : SO G E tl fl) (hh : SO G E th fh) : SE G E (L2.tSl (uSl G.K) te tl th) (fSl fe fl fh) := by
  intro F ι ω ρ S σ H Q rel h
  refine he.bind rel h fun d f S1 ι1 v H1 e1 r1 rf1 h1 => ?_
  refine so_bind hl r1 h1 fun l S2 ι2 H2 e2 r2 h2 => ?_
  refine so_bind hh r2 h2 fun u S3 ι3 H3 e3 r3 h3 => ?_
  have rt := (rf1.rt.ex e2).ex e3
  unfold dSl at h3
  split at h3
  · rw [rt.sStr]
    split at h3
    · exact ⟨lim_le (by assumption), PostE.now h3 r3 (.str _)⟩
    · exact h3.elim
  · cases rt with
    | v rt =>
      cases rt with
      | @tup a xs ds q1 q2 q3 q4 =>
        split at h3
        · exact h3.elim
        · rename_i hn
          have e1 : rdL G.K H3 a = none := by unfold rdL; rw [q3]
          have e2 : rdT G.K H3 a = some xs := rdT_of q3
          show match rdL G.K H3 a with | some xs => _ | none => _
          rw [e1]
          show match rdT G.K H3 a with | some xs => _ | none => _
          rw [e2]
          exact ⟨by rw [q4.len]; exact hn, fun p hp => PostE.newT h3 r3 (cut_all q4 l u) p hp⟩
  · split at h3
    · rename_i ds ed
      obtain ⟨a, xs, rfl, q1, q2⟩ := ls_at r3.sto rt ed
      show match rdL G.K H3 a with | some xs => _ | none => _
      rw [rdL_of q1]
      exact fun p hp => PostE.newL h3 r3 (cut_all q2 l u) p hp
    · exact h3.elim
def fRev (fe : FE) : FE := fun ρ S => bE (fe ρ S) fun d _ S1 => (match d with
  | .str z => if z.length ≤ lim then .ok (.str (revS z)) .tr S1 else .bad
  | d => (match lsOf S1 d with
    | some ds => .ok (.lst ds.reverse) .fs S1
    | none => .bad))
def tyDf (S : Sto) : D → Option Ty
  | .non => some .non
  | .bl _ => some .bl
  | .int _ => some .int
  | .str _ => some .str
  | .lst _ => some .lst
  | .tup _ => some .tup
  | .dct _ => some .dct
  | .cel k => (match S[k]? with | some (.lst _) => some .lst | some (.dK _) => some .dct | _ => none)
  | _ => none
theorem ty_at {v : V} {d : D} {t : Ty} (rs : RS G.K G.ca ι (F.B0 ++ ω) H S) (h : RT G.K G.ca ι (F.B0 ++ ω) H v d) (e : tyDf S d = some t) : tyOf H v = some t := by
  cases h with
  | v h =>
    cases h with
    | lst h1 h2 h3 h4 => show (H _).bind tyO = _; rw [h3]; exact e
    | tup h1 h2 h3 h4 => show (H _).bind tyO = _; rw [h3]; exact e
    | dct h1 h2 h3 h4 => show (H _).bind tyO = _; rw [h3]; exact e
    | @cel a k h1 =>
      unfold tyDf at e
      dsimp only at e
      split at e
      · rename_i es
        cases rs.at' k a _ h1 es with
        | lst q1 q2 => show (H _).bind tyO = _; rw [q1]; exact e
      · rename_i es
        cases rs.at' k a _ h1 es with
        | dK q1 q2 => show (H _).bind tyO = _; rw [q1]; exact e
      · cases e
    | fro => cases e
    | obj => cases e
    | cls => cases e
    | _ => exact e
  | l h1 h2 h3 => show (H _).bind tyO = _; rw [h2]; exact e
  | o => cases e
def fIsi (c : Ty) (fe : FE) : FE := fun ρ S => bE (fe ρ S) fun d _ S1 => (match tyDf S1 d with
  | some t => .ok (.bl (isT t c)) .tr S1
  | none => .bad)
theorem se_isi (c : Ty) {te : TE} {fe : FE} (he : SE G E te fe) : SE G E (uIsi c te) (fIsi c fe) := by
  intro F ι ω ρ S σ H Q rel h
  refine he.bind rel h fun d f S1 ι1 v H1 e1 r1 rf1 h1 => ?_
  split at h1
  · rename_i t et
    exact oK_of (ty_at r1.sto rf1.rt et) (PostE.now h1 r1 (.bl _))
  · exact h1.elim
def fIsiT (cs : List Ty) (fe : FE) : FE := fun ρ S => bE (fe ρ S) fun d _ S1 => (match tyDf S1 d with
  | some t => .ok (.bl (cs.any (isT t))) .tr S1
  | none => .bad)
theorem se_isiT (cs : List Ty) {te : TE} {fe : FE} {tc : TA} (he : SE G E te fe) (hc : ∀ σ H (R : List V → Hp → Prop), R (cs.map fun c => V.ty c.nm) H → tc σ H R := by intro σ H R h; exact h) (hl : cs.length ≤ 100 := by decide) :
    SE G E (tCB (uIsiT cs) (tCons te (tCons (tTup tc) tNil))) (fIsiT cs fe) := by
  intro F ι ω ρ S σ H Q rel h
  refine he.bind rel h fun d f S1 ι1 v H1 e1 r1 rf1 h1 => ?_
  refine hc σ H1 _ ⟨by rw [List.length_map]; exact szl (by omega), fun p hp => ?_⟩
  split at h1
  · rename_i t et
    have rt := rf1.rt.ex (Ext.new1 (o := .tup (cs.map fun c => V.ty c.nm)) hp)
    refine ⟨upd_same, oK_of (ty_at ((r1.new hp).sto) rt et) ?_⟩
    exact h1 ι1 _ _ (Ext.new1 hp) (r1.new hp) (.bl _)
  · exact h1.elim
end
end
end Fx
namespace Fx
open PySem PySem.Spec PyProof.Rows L2 U
noncomputable section
section
variable {G : Gm} {E : WX} {F : Fr} {ι ω ι1 : List Addr} {ρ : Ev} {S S1 : Sto} {σ : L2.St} {H H1 : Hp} {Q : VK}
theorem pair1 {α β : Type} {P : α → β → Prop} {xs : List α} {y : β} (h : Paired P xs [y]) : ∃ x, xs = [x] ∧ P x y := by
  cases h with
  | cons h1 h2 => cases h2; exact ⟨_, rfl, h1⟩
theorem pair2 {α β : Type} {P : α → β → Prop} {xs : List α} {y z : β} (h : Paired P xs [y, z]) : ∃ x w, xs = [x, w] ∧ P x y ∧ P w z := by
  cases h with
  | cons h1 h2 => obtain ⟨w, rfl, h3⟩ := pair1 h2; exact ⟨_, _, rfl, h1, h3⟩
def dLen (ds : List D) (_ : Bool) (S : Sto) : RE := match ds with
  | [.str z] => if z.length ≤ lim then .ok (.int z.length) .tr S else .bad
  | [d] => (match sqOf S d with
    | some es => .ok (.int es.length) .tr S
    | none => .bad)
  | _ => .bad
theorem sc_len : SC G E (uLen G.K) dLen := by
  intro F ι ω ρ S σ H Q vs ds t rel ha h
  have ha := ha.pair
  unfold dLen at h
  split at h
  · obtain ⟨v, rfl, q⟩ := pair1 ha
    rw [q.sStr]
    split at h
    · exact ⟨lim_le (by assumption), PostE.now h rel (.int _)⟩
    · exact h.elim
  · obtain ⟨v, rfl, q⟩ := pair1 ha
    split at h
    · rename_i es e
      obtain ⟨a, xs, rfl, q1, q2⟩ := sq_at rel.sto q e
      exact ⟨xs, q1, by show Q (.int xs.length) H; rw [q2.len]; exact PostE.now h rel (.int _)⟩
    · exact h.elim
  · exact h.elim
def dMax (ds : List D) (_ : Bool) (S : Sto) : RE := match ds with
  | [.int i, .int j] => .ok (.int (if j > i then j else i)) .tr S
  | _ => .bad
def dMin (ds : List D) (_ : Bool) (S : Sto) : RE := match ds with
  | [.int i, .int j] => .ok (.int (if j < i then j else i)) .tr S
  | _ => .bad
theorem sc_max : SC G E uMax2 dMax := by
  intro F ι ω ρ S σ H Q vs ds t rel ha h
  have ha := ha.pair
  unfold dMax at h
  split at h
  · obtain ⟨v, w, rfl, q1, q2⟩ := pair2 ha
    rw [q1.sInt, q2.sInt]; exact PostE.now h rel (.int _)
  · exact h.elim
theorem sc_min : SC G E uMin2 dMin := by
  intro F ι ω ρ S σ H Q vs ds t rel ha h
  have ha := ha.pair
  unfold dMin at h
  split at h
  · obtain ⟨v, w, rfl, q1, q2⟩ := pair2 ha
    rw [q1.sInt, q2.sInt]; exact PostE.now h rel (.int _)
  · exact h.elim
def bools : List D → Option (List Bool)
  | [] => some []
  | .bl b :: ds => (bools ds).map (b :: ·)
  | _ :: _ => none
theorem bools_rv {K : PySem.W.Frag} {ca : Nat → Addr} {ι B : List Addr} {H : Hp} : ∀ {ds : List D} {vs : List V} {bs : List Bool}, RAll K ca ι B H vs ds → bools ds = some bs → vs = bs.map V.bl
  | [], _, _, h, e => by cases h; simp only [bools] at e; cases e; rfl
  | d :: ds, _, _, h, e => by
    cases h with
    | cons h1 h2 =>
      cases h1 with
      | bl b =>
        simp only [bools, Option.map_eq_some_iff] at e
        obtain ⟨cs, e1, rfl⟩ := e
        rw [bools_rv h2 e1]; rfl
      | _ => simp only [bools] at e; cases e
def dQu (f : List Bool → Bool) (ds : List D) (_ : Bool) (S : Sto) : RE := match ds with
  | [d] => (match lsOf S d with
    | some es => (match bools es with
      | some bs => .ok (.bl (f bs)) .tr S
      | none => .bad)
    | none => .bad)
  | _ => .bad
abbrev dAll := dQu fun bs => bs.all id
theorem sc_all : SC G E (uAll G.K) dAll := by
  intro F ι ω ρ S σ H Q vs ds t rel ha h
  have ha := ha.pair
  unfold dAll dQu at h
  split at h
  · obtain ⟨v, rfl, q⟩ := pair1 ha
    split at h
    · rename_i es e
      split at h
      · rename_i bs eb
        obtain ⟨a, xs, rfl, q1, q2⟩ := ls_at rel.sto q e
        exact oK_of (rdL_of q1) ⟨bs, bools_rv q2 eb, PostE.now h rel (.bl _)⟩
      · exact h.elim
    · exact h.elim
  · exact h.elim
def dList (ds : List D) (_ : Bool) (S : Sto) : RE := match ds with
  | [d] => (match sqOf S d with
    | some es => .ok (.lst es) .fs S
    | none => .bad)
  | _ => .bad
theorem sc_list : SC G E (uList G.K) dList := by
  intro F ι ω ρ S σ H Q vs ds t rel ha h
  have ha := ha.pair
  unfold dList at h
  split at h
  · obtain ⟨v, rfl, q⟩ := pair1 ha
    split at h
    · rename_i es e
      obtain ⟨a, xs, rfl, q1, q2⟩ := sq_at rel.sto q e
      exact ⟨xs, q1, fun l hl => PostE.newL h rel q2 l hl⟩
    · exact h.elim
  · exact h.elim
def dTuple (ds : List D) (_ : Bool) (S : Sto) : RE := match ds with
  | [.tup es] => .ok (.tup es) .tr S
  | [d] => (match lsOf S d with
    | some es => .ok (.tup es) .tr S
    | none => .bad)
  | _ => .bad
theorem sc_tuple : SC G E (uTuple G.K) dTuple := by
  intro F ι ω ρ S σ H Q vs ds t rel ha h
  have ha := ha.pair
  unfold dTuple at h
  split at h
  · obtain ⟨v, rfl, q⟩ := pair1 ha
    cases q with
    | v q =>
      have q0 := q
      cases q with
      | @tup a xs es q1 q2 q3 q4 =>
        have e1 : rdL G.K H a = none := by unfold rdL; rw [q3]
        show match rdL G.K H a with | some xs => _ | none => _
        rw [e1]
        show match rdT G.K H a with | some xs => _ | none => _
        rw [rdT_of q3]
        exact PostE.now h rel q0
  · obtain ⟨v, rfl, q⟩ := pair1 ha
    split at h
    · rename_i es e
      obtain ⟨a, xs, rfl, q1, q2⟩ := ls_at rel.sto q e
      show match rdL G.K H a with | some xs => _ | none => _
      rw [rdL_of q1]
      exact fun l hl => PostE.newT h rel q2 l hl
    · exact h.elim
  · exact h.elim
open Classical in
def dRepr (ds : List D) (_ : Bool) (S : Sto) : RE := match ds with
  | [d] => (match toP S d with
    | some p => if Okw p then .ok (.str p.shown) .tr S else .bad
    | none => .bad)
  | _ => .bad
theorem sc_repr : SC G E (uRepr3 G.K) dRepr := by
  intro F ι ω ρ S σ H Q vs ds t rel ha h
  have ha := ha.pair
  unfold dRepr at h
  split at h
  · obtain ⟨v, rfl, q⟩ := pair1 ha
    split at h
    · rename_i p ep
      split at h
      · rename_i ok
        exact ⟨p, toP_dq rel.sto q ep, ok, PostE.now h rel (.str _)⟩
      · exact h.elim
    · exact h.elim
  · exact h.elim
def dInt (ds : List D) (_ : Bool) (S : Sto) : RE := match ds with
  | [.int i] => .ok (.int i) .tr S
  | [.bl k] => .ok (.int (if k then 1 else 0)) .tr S
  | [.str a] => if a.length ≤ 640 then (match PySem.intText? a with
    | some n => .ok (.int n) .tr S
    | none => .bad) else .bad
  | _ => .bad
theorem sc_int : SC G E uInt dInt := by
  intro F ι ω ρ S σ H Q vs ds t rel ha h
  have ha := ha.pair
  unfold dInt at h
  split at h
  · obtain ⟨v, rfl, q⟩ := pair1 ha
    rw [q.sInt]; exact PostE.now h rel (.int _)
  · obtain ⟨v, rfl, q⟩ := pair1 ha
    rw [q.sBl]; exact PostE.now h rel (.int _)
  · obtain ⟨v, rfl, q⟩ := pair1 ha
    rw [q.sStr]
    split at h
    · rename_i hl
      split at h
      · rename_i n en
        exact ⟨hl, oK_of en (PostE.now h rel (.int _))⟩
      · exact h.elim
    · exact h.elim
  · exact h.elim
def zipD : List D → List D → List D
  | x :: xs, y :: ys => .tup [x, y] :: zipD xs ys
  | _, _ => []
theorem zipD_len : ∀ xs ys : List D, (zipD xs ys).length = min xs.length ys.length
  | [], ys => by simp [zipD]
  | x :: xs, [] => by simp [zipD]
  | x :: xs, y :: ys => by simp only [zipD, List.length_cons, zipD_len xs ys]; omega
theorem zipD_at : ∀ (xs ys : List D) (j : Nat) (x y : D), xs[j]? = some x → ys[j]? = some y → (zipD xs ys)[j]? = some (.tup [x, y])
  | [], _, j, _, _, h, _ => by simp at h
  | _ :: _, [], j, _, _, _, h => by simp at h
  | a :: xs, b :: ys, 0, _, _, h, g => by simp at h g; subst h; subst g; rfl
  | a :: xs, b :: ys, j + 1, _, _, h, g => by
    simp only [zipD, List.getElem?_cons_succ] at h g ⊢
    exact zipD_at xs ys j _ _ h g
def fM1 (f : Str → D → Sto → RE) (fo fe : FE) : FE := fun ρ S => bE (fo ρ S) fun d _ S1 => (match d with
  | .str a => bE (fe ρ S1) fun e _ S2 => f a e S2
  | _ => .bad)
def SM (G : Gm) (E : WX) (r : V → List V → Hp → VK → Prop) (f : Str → D → Sto → RE) : Prop := ∀ F ι ω ρ S σ H Q a y e, Rel G F ι ω ρ S σ H → RT G.K G.ca ι (F.B0 ++ ω) H y e → PostE G E F ι ω ρ σ H Q (f a e S) → r (.str a) [y] H Q
theorem se_m1 {r : V → List V → Hp → VK → Prop} {f : Str → D → Sto → RE} {to te : TE} {fo fe : FE} (hr : SM G E r f) (ho : SE G E to fo) (he : SE G E te fe) : SE G E (tM1 r to te) (fM1 f fo fe) := by
  intro F ι ω ρ S σ H Q rel h
  refine ho.bind rel h fun d f S1 ι1 v H1 e1 r1 rf1 h1 => ?_
  split at h1
  · rename_i a
    rw [rf1.rt.sStr]
    refine ⟨⟨_, rfl⟩, ?_⟩
    refine he.bind r1 h1 fun e f2 S2 ι2 w H2 e2 r2 rf2 h2 => ?_
    exact hr F ι2 ω ρ S2 σ H2 Q a w e r2 rf2.rt h2
  · exact h1.elim
def strsD : List D → Option (List Str)
  | [] => some []
  | .str b :: ds => (strsD ds).map (b :: ·)
  | _ :: _ => none
theorem strs_rv {K : PySem.W.Frag} {ca : Nat → Addr} {ι B : List Addr} {H : Hp} : ∀ {ds : List D} {vs : List V} {bs : List Str}, RAll K ca ι B H vs ds → strsD ds = some bs → vs = bs.map V.str
  | [], _, _, h, e => by cases h; simp only [strsD] at e; cases e; rfl
  | d :: ds, _, _, h, e => by
    cases h with
    | cons h1 h2 =>
      cases h1 with
      | str b =>
        simp only [strsD, Option.map_eq_some_iff] at e
        obtain ⟨cs, e1, rfl⟩ := e
        rw [strs_rv h2 e1]; rfl
      | _ => simp only [strsD] at e; cases e
def dJoin (a : Str) (d : D) (S : Sto) : RE := match sqOf S d with
  | some ds => (match strsD ds with
    | some ys => if (ys.map (·.length)).sum + ys.length * a.length ≤ lim then .ok (.str (Txt.join a ys)) .tr S else .bad
    | none => .bad)
  | none => .bad
theorem sm_join : SM G E (uJoin G.K) dJoin := by
  intro F ι ω ρ S σ H Q a y e rel hy h
  unfold dJoin at h
  split at h
  · rename_i ds ed
    split at h
    · rename_i ys ey
      split at h
      · rename_i hl
        obtain ⟨p, xs, rfl, q1, q2⟩ := sq_at rel.sto hy ed
        exact ⟨xs, q1, ys, strs_rv q2 ey, Nat.le_trans hl (by decide), PostE.now h rel (.str _)⟩
      · exact h.elim
    · exact h.elim
  · exact h.elim
def fNot (fa : FE) : FE := fun ρ S => bE (fa ρ S) fun d _ S1 => (match d with
  | .bl b => .ok (.bl (!b)) .tr S1
  | _ => .bad)
def fAnd (fa fb : FE) : FE := fun ρ S => bE (fa ρ S) fun d _ S1 => (match d with
  | .bl true => fb ρ S1
  | .bl false => .ok (.bl false) .tr S1
  | _ => .bad)
def fOr (fa fb : FE) : FE := fun ρ S => bE (fa ρ S) fun d _ S1 => (match d with
  | .bl true => .ok (.bl true) .tr S1
  | .bl false => fb ρ S1
  | _ => .bad)
def fIf (fc fa fb : FE) : FE := fun ρ S => bE (fc ρ S) fun d _ S1 => (match d with
  | .bl true => fa ρ S1
  | .bl false => fb ρ S1
  | _ => .bad)
def kB (Q : Bool → Hp → Prop) : VK := fun v H1 => match v with
  | .bl b => Q b H1
  | _ => False
def ST (G : Gm) (E : WX) (t : TT) (f : FE) : Prop := ∀ F ι ω ρ S σ H Q, Rel G F ι ω ρ S σ H → PostE G E F ι ω ρ σ H (kB Q) (f ρ S) → t σ H Q
theorem st_val {t : TE} {f : FE} (h : SE G E t f) : ST G E (uT t) f := fun F ι ω ρ S σ H Q rel hp => h F ι ω ρ S σ H _ rel hp
theorem se_not {ta : TE} {fa : FE} (ha : SE G E ta fa) : SE G E (uNotV ta) (fNot fa) := by
  intro F ι ω ρ S σ H Q rel h
  refine ha.bind rel h fun d f S1 ι1 v H1 e1 r1 rf1 h1 => ?_
  split at h1
  · rw [rf1.rt.sBl]; exact PostE.now h1 r1 (.bl _)
  · exact h1.elim
theorem se_and {ta tb : TE} {fa fb : FE} (ha : SE G E ta fa) (hb : SE G E tb fb) : SE G E (uAndV ta tb) (fAnd fa fb) := by
  intro F ι ω ρ S σ H Q rel h
  refine ha.bind rel h fun d f S1 ι1 v H1 e1 r1 rf1 h1 => ?_
  split at h1
  · rw [rf1.rt.sBl]; exact hb F ι1 ω ρ S1 σ H1 Q r1 h1
  · rw [rf1.rt.sBl]; exact PostE.now h1 r1 (.bl _)
  · exact h1.elim
theorem se_or {ta tb : TE} {fa fb : FE} (ha : SE G E ta fa) (hb : SE G E tb fb) : SE G E (uOrV ta tb) (fOr fa fb) := by
  intro F ι ω ρ S σ H Q rel h
  refine ha.bind rel h fun d f S1 ι1 v H1 e1 r1 rf1 h1 => ?_
  split at h1
  · rw [rf1.rt.sBl]; exact PostE.now h1 r1 (.bl _)
  · rw [rf1.rt.sBl]; exact hb F ι1 ω ρ S1 σ H1 Q r1 h1
  · exact h1.elim
theorem ST.bind {ta : TT} {fa : FE} (ha : ST G E ta fa) (r : Rel G F ι ω ρ S σ H) {k : D → Fl → Sto → RE} (h : PostE G E F ι ω ρ σ H Q (bE (fa ρ S) k)) {R : Bool → Hp → Prop}
    (hk : ∀ d f S1, (∀ b, d ≠ .bl b) → k d f S1 = .bad) (c : ∀ b f S1 ι1 H1, Ext ι H ι1 H1 → Rel G F ι1 ω ρ S1 σ H1 → PostE G E F ι1 ω ρ σ H1 Q (k (.bl b) f S1) → R b H1) : ta σ H R := by
  refine ha F ι ω ρ S σ H R r (PostE.bind h fun d f S1 ι1 v H1 e1 r1 rf1 h1 => ?_)
  cases d with
  | bl b => rw [rf1.rt.sBl]; exact c b f S1 ι1 H1 e1 r1 h1
  | _ => rw [hk _ _ _ (by intro b z; cases z)] at h1; exact h1.elim
theorem st_not {ta : TT} {fa : FE} (ha : ST G E ta fa) : ST G E (uNot ta) (fNot fa) := by
  intro F ι ω ρ S σ H Q rel h
  refine ha.bind rel h (fun d f S1 hd => by cases d <;> first | rfl | exact absurd rfl (hd _)) fun b f S1 ι1 H1 e1 r1 h1 => ?_
  exact PostE.now (Q := kB Q) h1 r1 (.bl _)
theorem st_and {ta tb : TT} {fa fb : FE} (ha : ST G E ta fa) (hb : ST G E tb fb) : ST G E (uAnd ta tb) (fAnd fa fb) := by
  intro F ι ω ρ S σ H Q rel h
  refine ha.bind rel h (fun d f S1 hd => by cases d <;> first | rfl | exact absurd rfl (hd _)) fun b f S1 ι1 H1 e1 r1 h1 => ?_
  cases b with
  | true => exact hb F ι1 ω ρ S1 σ H1 Q r1 h1
  | false => exact PostE.now (Q := kB Q) h1 r1 (.bl _)
theorem st_or {ta tb : TT} {fa fb : FE} (ha : ST G E ta fa) (hb : ST G E tb fb) : ST G E (uOr ta tb) (fOr fa fb) := by
  intro F ι ω ρ S σ H Q rel h
  refine ha.bind rel h (fun d f S1 hd => by cases d <;> first | rfl | exact absurd rfl (hd _)) fun b f S1 ι1 H1 e1 r1 h1 => ?_
  cases b with
  | true => exact PostE.now (Q := kB Q) h1 r1 (.bl _)
  | false => exact hb F ι1 ω ρ S1 σ H1 Q r1 h1
theorem st_yes : ST G E tYes (fC (.bl true)) := fun F ι ω ρ S σ H Q r h => PostE.now (Q := kB Q) h r (.bl true)
theorem se_if {tc : TT} {ta tb : TE} {fc fa fb : FE} (hc : ST G E tc fc) (ha : SE G E ta fa) (hb : SE G E tb fb) : SE G E (uIf tc ta tb) (fIf fc fa fb) := by
  intro F ι ω ρ S σ H Q rel h
  refine hc.bind rel h (fun d f S1 hd => by cases d <;> first | rfl | exact absurd rfl (hd _)) fun b f S1 ι1 H1 e1 r1 h1 => ?_
  cases b with
  | true => exact ha F ι1 ω ρ S1 σ H1 Q r1 h1
  | false => exact hb F ι1 ω ρ S1 σ H1 Q r1 h1
def fChain (f f' : D → D → Sto → RE) (ea eb ec : FE) : FE := fun ρ S => bE (ea ρ S) fun d _ S1 => bE (eb ρ S1) fun e _ S2 => bE (f d e S2) fun z _ S3 => (match z with
  | .bl true => bE (ec ρ S3) fun w _ S4 => f' e w S4
  | .bl false => .ok (.bl false) .tr S3
  | _ => .bad)
theorem se_chain {r r' : R2} {f f' : D → D → Sto → RE} {ta tb tc : TE} {fa fb fc : FE} (hr : SR G E r f) (hr' : SR G E r' f') (ha : SE G E ta fa) (hb : SE G E tb fb) (hc : SE G E tc fc) : SE G E (uChain r r' ta tb tc) (fChain f f' fa fb fc) := by
  intro F ι ω ρ S σ H Q rel h
  refine ha.bind rel h fun d fl S1 ι1 v H1 e1 r1 rf1 h1 => ?_
  refine hb.bind r1 h1 fun e fl2 S2 ι2 w H2 e2 r2 rf2 h2 => ?_
  refine hr F ι2 ω ρ S2 σ H2 _ v w d e r2 (rf1.rt.ex e2) rf2.rt (PostE.bind h2 fun z fl3 S3 ι3 u H3 e3 r3 rf3 h3 => ?_)
  split at h3
  · rw [rf3.rt.sBl]
    refine hc.bind r3 h3 fun w' fl4 S4 ι4 u4 H4 e4 r4 rf4 h4 => ?_
    exact hr' F ι4 ω ρ S4 σ H4 Q w u4 e w' r4 ((rf2.rt.ex e3).ex e4) rf4.rt h4
  · rw [rf3.rt.sBl]; exact PostE.now h3 r3 (.bl _)
  · exact h3.elim
def isNon : D → Bool
  | .non => true
  | _ => false
theorem non_dec {K : PySem.W.Frag} {ca : Nat → Addr} {ι B : List Addr} {H : Hp} {v : V} {d : D} (h : RT K ca ι B H v d) : decide (v = .non) = isNon d := by
  cases h with
  | v h => cases h <;> simp [isNon]
  | l => simp [isNon]
  | o => simp [isNon]
def dIs (neg : Bool) (d e : D) (S : Sto) : RE := match e with
  | .non => .ok (.bl (if neg then !isNon d else isNon d)) .tr S
  | .bl k => (match d with
    | .bl j => .ok (.bl (if neg then !decide (j = k) else decide (j = k))) .tr S
    | _ => .bad)
  | _ => .bad
def dIsN (neg : Bool) (d e : D) (S : Sto) : RE := match e with
  | .non => .ok (.bl (if neg then !isNon d else isNon d)) .tr S
  | _ => .bad
theorem sr_is3 (neg : Bool) : SR G E (uIs3 neg) (dIs neg) := by
  intro F ι ω ρ S σ H Q x y d e rel hx hy h
  unfold dIs at h
  split at h
  · rw [hy.sNon]
    show Q (.bl (if neg then !decide (x = .non) else decide (x = .non))) H
    rw [non_dec hx]
    exact PostE.now h rel (.bl _)
  · rw [hy.sBl]
    split at h
    · rw [hx.sBl]
      exact PostE.now h rel (.bl _)
    · exact h.elim
  · exact h.elim
def dNil (neg : Bool) (d e : D) (S : Sto) : RE := match lsOf S d, lsOf S e with
  | some a, some [] => .ok (.bl (neg ^^ a.isEmpty)) .tr S
  | _, _ => dEqv neg d e S
theorem shaped_nil : SeqAt.shaped (.list []) = true := by decide +kernel
theorem eqv_nil2 : PyData.eqv (.list []) (.list []) = true := by decide +kernel
theorem sr_eq3 : SR G E (uEq3 G.K) (dNil false) := by
  intro F ι ω ρ S σ H Q x y d e rel hx hy h
  unfold dNil at h
  split at h
  · rename_i a ea eb
    obtain ⟨p, xs, rfl, h1, h2⟩ := ls_at rel.sto hx ea
    obtain ⟨q, ys, rfl, h3, h4⟩ := ls_at rel.sto hy eb
    cases h4
    rw [Bool.false_xor] at h
    cases a with
    | nil =>
      cases h2
      exact .inl ⟨.list [], .list [], .lst (.inl (.inl h1)) .nil, .lst (.inl (.inl h3)) .nil, shaped_nil, shaped_nil, by rw [eqv_nil2]; exact PostE.now h rel (.bl _)⟩
    | cons a as =>
      cases h2 with
      | cons g1 g2 => exact .inr (.inr ⟨⟨p, q, _, _, rfl, rfl, .inl (.inl h1), .inl (.inl h3), by simp⟩, PostE.now h rel (.bl _)⟩)
  · have := sr_eq F ι ω ρ S σ H Q x y d e rel hx hy h
    unfold uEq2 at this
    unfold uEq3
    cases es : scal x y with
    | true => rw [es] at this; exact this
    | false =>
      rw [es] at this
      rcases this with q | q
      · exact .inl q
      · exact .inr (.inl q)
def dNeg (d : D) (S : Sto) : RE := match d with
  | .int i => .ok (.int (-i)) .tr S
  | _ => .bad
theorem se_neg {ta : TE} {fa : FE} (ha : SE G E ta fa) : SE G E (tUn uNeg ta) (fUn dNeg fa) := by
  intro F ι ω ρ S σ H Q rel h
  refine ha.bind rel h fun d f S1 ι1 v H1 e1 r1 rf1 h1 => ?_
  unfold dNeg at h1
  split at h1
  · rw [rf1.rt.sInt]; exact PostE.now h1 r1 (.int _)
  · exact h1.elim
end
abbrev FF := List D → Sto → RE
def PostF (K : PySem.W.Frag) (ca : Nat → Addr) (ι B : List Addr) (H : Hp) (Q : VK) (E : XK) : RE → Prop
  | .ok d f S' => ∀ ι' v H', Ext ι H ι' H' → ι'.Nodup → RS K ca ι' B H' S' → RF K ca ι' B H H' S' v d f → Q v H'
  | .xc c fs S' => ∀ ι' dd fv H', Ext ι H ι' H' → ι'.Nodup → RS K ca ι' B H' S' → NI dd ι' → NI dd (B) → XD H' dd fv → RFs K ca ι' B H' fv fs → E (.ref (ca c)) dd H'
  | .bad => False
def SpF (K : PySem.W.Frag) (ca : Nat → Addr) (f : FF) : Sp := fun vs H Q E => ∃ ι B S ds, ι.Nodup ∧ (∀ b ∈ B, H b ≠ none ∧ b ∉ ι) ∧ RS K ca ι B H S ∧ RAll K ca ι B H vs ds ∧ PostF K ca ι B H Q E (f ds S)
def fCall (f : FF) (dd : List D) (fa : FA) : FE := fCB (fun ds t S => if t = true then f (ds ++ dd) S else .bad) fa
section
variable {G : Gm} {E : WX} {F : Fr} {ι ω ι1 : List Addr} {ρ : Ev} {S S1 : Sto} {σ : L2.St} {H H1 : Hp} {Q : VK}
theorem spf_of {f : FF} {vs : List V} {ds : List D} {E' : XK} (hE : ∀ cls d H, E cls d σ H → E' cls d H) (rel : Rel G F ι ω ρ S σ H) (ra : RAll G.K G.ca ι (F.B0 ++ ω) H vs ds) (h : PostE G E F ι ω ρ σ H Q (f ds S)) : SpF G.K G.ca f vs H Q E' := by
  refine ⟨ι, F.B0 ++ ω, S, ds, rel.nd, fun b hb => ⟨rel.bd b hb, rel.bi b hb⟩, rel.sto, ra, ?_⟩
  cases e : f ds S with
  | ok d fl S' =>
    rw [e] at h
    exact fun ι' v H' x nd rs rf => h ι' v H' x (rel.ex x nd rs) rf
  | xc c fs S' =>
    rw [e] at h
    exact fun ι' dd fv H' x nd rs n1 n2 h1 h2 => hE _ _ _ (h ι' dd fv H' x (rel.ex x nd rs) n1 n2 h1 h2)
  | bad => rw [e] at h; exact h
/-- scalars by default -/
def vOf : D → V
  | .bl b => .bl b
  | .int i => .int i
  | .str z => .str z
  | _ => .non
def scalD : D → Bool
  | .non => true
  | .bl _ => true
  | .int _ => true
  | .str _ => true
  | _ => false
theorem dflt_all {K : PySem.W.Frag} {ca : Nat → Addr} {ι B : List Addr} {H : Hp} : ∀ {dd : List D}, dd.all scalD = true → RAll K ca ι B H (dd.map vOf) dd
  | [], _ => .nil
  | d :: dd, h => by
    rw [List.all_cons, Bool.and_eq_true] at h
    refine .cons ?_ (dflt_all h.2)
    cases d with
    | non => exact .non
    | bl b => exact .bl b
    | int i => exact .int i
    | str z => exact .str z
    | _ => exact absurd h.1 (by simp [scalD])
theorem se_call {f : FF} {dvs : List V} {dd : List D} {E' : XK} {ta : TA} {fa : FA} (hE : ∀ cls d σ H, E cls d σ H → E' cls d H) (ha : SA G E ta fa) (hd : dvs = dd.map vOf := by rfl) (hs : dd.all scalD = true := by rfl) : SE G E (tCall (SpF G.K G.ca f) dvs E' ta) (fCall f dd fa) := by
  intro F ι ω ρ S σ H Q rel h
  refine sa_then ha rel h fun ds t S1 ι1 vs H1 e1 r1 ra h1 => ?_
  split at h1
  · rename_i ht
    subst ht hd
    exact spf_of (fun cls d H => hE cls d σ H) r1 (RAll.app ra (dflt_all hs)) h1
  · exact h1.elim
end
end
end Fx
namespace Fx
open PySem PySem.Spec PyProof.Rows L2 U
noncomputable section
inductive RSt where
  | nx (ρ : Ev) (S : Sto) | rt (d : D) (f : Fl) (S : Sto) | bk (ρ : Ev) (S : Sto) | ct (ρ : Ev) (S : Sto) | xc (c : Nat) (fs : List (Str × D)) (ρ : Ev) (S : Sto) | bad
abbrev FS := Ev → Sto → RSt
structure ExtS (ι ω : List Addr) (H : Hp) (ι' ω' : List Addr) (H' : Hp) : Prop where
  pre : ι <+: ι'
  keep : ∀ a o, H a = some o → a ∉ ι → a ∉ ω → H' a = some o
  newi : ∀ a ∈ ι', a ∉ ι → H a = none
  neww : ∀ a ∈ ω', a ∉ ω → H a = none
  dom : ∀ a, H a ≠ none → H' a ≠ none
theorem nn {H : Hp} {a : Addr} {o : HO} (h : H a = some o) : H a ≠ none := by rw [h]; simp
theorem none_of {H H1 : Hp} {a : Addr} (d : ∀ a, H a ≠ none → H1 a ≠ none) (h : H1 a = none) : H a = none := by
  cases e : H a with
  | none => rfl
  | some o => exact absurd h (d a (nn e))
section
variable {ι ω ι1 ω1 ι2 ω2 : List Addr} {H H1 H2 : Hp}
theorem ExtS.refl : ExtS ι ω H ι ω H := ⟨List.prefix_rfl, fun _ _ h _ _ => h, fun _ h n => absurd h n, fun _ h n => absurd h n, fun _ h => h⟩
theorem ExtS.trans (a : ExtS ι ω H ι1 ω1 H1) (b : ExtS ι1 ω1 H1 ι2 ω2 H2) : ExtS ι ω H ι2 ω2 H2 := by
  refine ⟨a.pre.trans b.pre, fun x o h n1 n2 => ?_, fun x h n => ?_, fun x h n => ?_, fun x h => b.dom x (a.dom x h)⟩
  · refine b.keep x o (a.keep x o h n1 n2) (fun z => ?_) fun z => ?_
    · have := a.newi x z n1
      rw [h] at this; cases this
    · have := a.neww x z n2
      rw [h] at this; cases this
  · by_cases hx : x ∈ ι1
    · exact a.newi x hx n
    · exact none_of a.dom (b.newi x h hx)
  · by_cases hx : x ∈ ω1
    · exact a.neww x hx n
    · exact none_of a.dom (b.neww x h hx)
theorem Ext.s (e : Ext ι H ι1 H1) : ExtS ι ω H ι1 ω H1 := ⟨e.pre, fun a o h n _ => e.keep a o h n, e.new, fun _ h n => absurd h n, e.dom⟩
theorem ExtS.per {B : List Addr} (e : ExtS ι ω H ι1 ω1 H1) : Per ι (B ++ ω) H ι1 (B ++ ω1) H1 := by
  refine ⟨fun a o h1 h2 h3 => ?_, fun _ _ h => ix_pre e.pre h⟩
  rw [List.mem_append, not_or] at h3
  refine ⟨e.keep a o h1 h2 h3.2, fun z => ?_, fun z => ?_⟩
  · have := e.newi a z h2
    rw [h1] at this; cases this
  · rcases List.mem_append.mp z with z | z
    · exact h3.1 z
    · have := e.neww a z h3.2
      rw [h1] at this; cases this
end
def PostS (G : Gm) (E : WX) (F : Fr) (D : Ends) (ι ω : List Addr) (H : Hp) : RSt → Prop
  | .nx ρ' S' => ∀ ι' ω' σ' H', ExtS ι ω H ι' ω' H' → Rel G F ι' ω' ρ' S' σ' H' → D.nx σ' H'
  | .bk ρ' S' => ∀ ι' ω' σ' H', ExtS ι ω H ι' ω' H' → Rel G F ι' ω' ρ' S' σ' H' → D.bk σ' H'
  | .ct ρ' S' => ∀ ι' ω' σ' H', ExtS ι ω H ι' ω' H' → Rel G F ι' ω' ρ' S' σ' H' → D.ct σ' H'
  | .rt d f S' => ∀ ι' v H', Ext F.i0 F.H0 ι' H' → ι'.Nodup → RS G.K G.ca ι' F.B0 H' S' → RF G.K G.ca ι' F.B0 F.H0 H' S' v d f → D.rt v H'
  | .xc c fs ρ' S' => ∀ ι' ω' σ' dd fv H', ExtS ι ω H ι' ω' H' → Rel G F ι' ω' ρ' S' σ' H' → NI dd ι' → NI dd (F.B0 ++ ω') → XD H' dd fv → RFs G.K G.ca ι' (F.B0 ++ ω') H' fv fs → E (.ref (G.ca c)) dd σ' H'
  | .bad => False
def SS (G : Gm) (E : WX) (t : TS) (f : FS) : Prop := ∀ F D ι ω ρ S σ H, Rel G F ι ω ρ S σ H → PostS G E F D ι ω H (f ρ S) → t D σ H
def bS (r : RSt) (k : Ev → Sto → RSt) : RSt := match r with
  | .nx ρ S => k ρ S
  | r => r
/-- what an expression gives, in a statement -/
def eS (r : RE) (ρ : Ev) (k : D → Fl → Sto → RSt) : RSt := match r with
  | .ok d f S => k d f S
  | .xc c fs S => .xc c fs ρ S
  | .bad => .bad
section
variable {G : Gm} {E : WX} {F : Fr} {D : Ends} {ι ω ι1 ω1 : List Addr} {ρ : Ev} {S S1 : Sto} {σ : L2.St} {H H1 : Hp}
theorem PostS.ex {r : RSt} (h : PostS G E F D ι ω H r) (e : ExtS ι ω H ι1 ω1 H1) : PostS G E F D ι1 ω1 H1 r := by
  cases r with
  | nx ρ' S' => exact fun ι' ω' σ' H' e' rel => h ι' ω' σ' H' (e.trans e') rel
  | bk ρ' S' => exact fun ι' ω' σ' H' e' rel => h ι' ω' σ' H' (e.trans e') rel
  | ct ρ' S' => exact fun ι' ω' σ' H' e' rel => h ι' ω' σ' H' (e.trans e') rel
  | rt d f S' => exact h
  | xc c fs ρ' S' => exact fun ι' ω' σ' dd fv H' e' rel => h ι' ω' σ' dd fv H' (e.trans e') rel
  | bad => exact h
/-- what follows may be wider -/
theorem PostS.mono {D' : Ends} {r : RSt} (h : PostS G E F D ι ω H r) (h1 : ∀ σ H, D.nx σ H → D'.nx σ H) (h2 : ∀ σ H, D.bk σ H → D'.bk σ H) (h3 : ∀ σ H, D.ct σ H → D'.ct σ H) (h4 : ∀ v H, D.rt v H → D'.rt v H) : PostS G E F D' ι ω H r := by
  cases r with
  | nx ρ' S' => exact fun ι' ω' σ' H' e' rel => h1 _ _ (h ι' ω' σ' H' e' rel)
  | bk ρ' S' => exact fun ι' ω' σ' H' e' rel => h2 _ _ (h ι' ω' σ' H' e' rel)
  | ct ρ' S' => exact fun ι' ω' σ' H' e' rel => h3 _ _ (h ι' ω' σ' H' e' rel)
  | rt d f S' => exact fun ι' v H' e nd rs rf => h4 _ _ (h ι' v H' e nd rs rf)
  | xc c fs ρ' S' => exact h
  | bad => exact h
def sSeq (f g : FS) : FS := fun ρ S => bS (f ρ S) g
theorem ss_seq {t u : TS} {f g : FS} (ht : SS G E t f) (hu : SS G E u g) : SS G E (tSeq t u) (sSeq f g) := by
  intro F D ι ω ρ S σ H rel h
  refine ht F _ ι ω ρ S σ H rel ?_
  unfold sSeq at h
  cases e : f ρ S with
  | nx ρ' S' =>
    rw [e] at h
    exact fun ι' ω' σ' H' e' rel' => hu F D ι' ω' ρ' S' σ' H' rel' (PostS.ex h e')
  | bk ρ' S' => rw [e] at h; exact h
  | ct ρ' S' => rw [e] at h; exact h
  | rt d fl S' => rw [e] at h; exact h
  | xc c fs ρ' S' => rw [e] at h; exact h
  | bad => rw [e] at h; exact h
def sNext : FS := fun ρ S => .nx ρ S
def sBreak : FS := fun ρ S => .bk ρ S
def sCont : FS := fun ρ S => .ct ρ S
theorem ss_next : SS G E tNext sNext := fun F D ι ω ρ S σ H rel h => h ι ω σ H ExtS.refl rel
theorem SE.bindS {ta : TE} {fa : FE} (ha : SE G E ta fa) (r : Rel G F ι ω ρ S σ H) {k : Fx.D → Fl → Sto → RSt} (h : PostS G E F D ι ω H (eS (fa ρ S) ρ k)) {R : VK}
    (c : ∀ d f S1 ι1 v H1, Ext ι H ι1 H1 → Rel G F ι1 ω ρ S1 σ H1 → RF G.K G.ca ι1 (F.B0 ++ ω) H H1 S1 v d f → PostS G E F D ι1 ω H1 (k d f S1) → R v H1) : ta σ H R := by
  refine ha F ι ω ρ S σ H R r ?_
  cases e : fa ρ S with
  | ok d f S1 =>
    rw [e] at h
    exact fun ι1 v H1 e1 r1 rf => c d f S1 ι1 v H1 e1 r1 rf (PostS.ex h e1.s)
  | xc c' fs S1 =>
    rw [e] at h
    exact fun ι' dd fv H' x rel' n1 n2 h1 h2 => h ι' ω σ dd fv H' x.s rel' n1 n2 h1 h2
  | bad => rw [e] at h; exact h
theorem ST.bindS {ta : TT} {fa : FE} (ha : ST G E ta fa) (r : Rel G F ι ω ρ S σ H) {k : Fx.D → Fl → Sto → RSt} (h : PostS G E F D ι ω H (eS (fa ρ S) ρ k)) {R : Bool → Hp → Prop} (hk : ∀ d f S1, (∀ b, d ≠ .bl b) → k d f S1 = .bad)
    (c : ∀ b f S1 ι1 H1, Ext ι H ι1 H1 → Rel G F ι1 ω ρ S1 σ H1 → PostS G E F D ι1 ω H1 (k (.bl b) f S1) → R b H1) : ta σ H R := by
  refine ha F ι ω ρ S σ H R r ?_
  cases e : fa ρ S with
  | ok d f S1 =>
    rw [e] at h
    intro ι1 v H1 e1 r1 rf
    cases d with
    | bl b => rw [rf.rt.sBl]; exact c b f S1 ι1 H1 e1 r1 (PostS.ex h e1.s)
    | _ =>
      have h : PostS G E F D ι ω H (k _ f S1) := h
      rw [hk _ _ _ (by intro b z; cases z)] at h
      exact h.elim
  | xc c' fs S1 =>
    rw [e] at h
    exact fun ι' dd fv H' x rel' n1 n2 h1 h2 => h ι' ω σ dd fv H' x.s rel' n1 n2 h1 h2
  | bad => rw [e] at h; exact h
def sExpr (fe : FE) : FS := fun ρ S => eS (fe ρ S) ρ fun _ _ S1 => .nx ρ S1
theorem ss_expr {te : TE} {fe : FE} (he : SE G E te fe) : SS G E (tDrop te) (sExpr fe) := by
  intro F D ι ω ρ S σ H rel h
  exact he.bindS rel h fun d f S1 ι1 v H1 e1 r1 rf h1 => h1 ι1 ω σ H1 ExtS.refl r1
def sIf (fc : FE) (fa fb : FS) : FS := fun ρ S => eS (fc ρ S) ρ fun d _ S1 => (match d with
  | .bl true => fa ρ S1
  | .bl false => fb ρ S1
  | _ => .bad)
theorem ss_if {tc : TT} {ta tb : TS} {fc : FE} {fa fb : FS} (hc : ST G E tc fc) (ha : SS G E ta fa) (hb : SS G E tb fb) : SS G E (uIfS tc ta tb) (sIf fc fa fb) := by
  intro F D ι ω ρ S σ H rel h
  refine hc.bindS rel h (fun d f S1 hd => by cases d <;> first | rfl | exact absurd rfl (hd _)) fun b f S1 ι1 H1 e1 r1 h1 => ?_
  cases b with
  | true => exact ha F D ι1 ω ρ S1 σ H1 r1 h1
  | false => exact hb F D ι1 ω ρ S1 σ H1 r1 h1
theorem Rel.ext0 (r : Rel G F ι ω ρ S σ H) : Ext F.i0 F.H0 ι H := ⟨r.pre, r.old, r.fri, r.dom⟩
theorem RS.less {K : PySem.W.Frag} {ca : Nat → Addr} {B B' : List Addr} (h : RS K ca ι B H S) (s : ∀ a ∈ B', a ∈ B) : RS K ca ι B' H S := h.per (fun _ _ => rfl) (Per.less s)
theorem Rel.offb0 (r : Rel G F ι ω ρ S σ H) {a : Addr} (h : a ∈ ω) : a ∉ F.B0 := fun z => (r.b0 a z).1 (r.frw a h)
theorem rf_out {d : Fx.D} {v : V} {f : Fl} {H0 : Hp} (r : Rel G F ι ω ρ S σ H) (rf : RF G.K G.ca ι (F.B0 ++ ω) H0 H S v d f) (h0 : ∀ a, F.H0 a ≠ none → H0 a ≠ none) (hf : f ≠ .pk) : RF G.K G.ca ι F.B0 F.H0 H S v d f := by
  have s : ∀ a ∈ F.B0, a ∈ F.B0 ++ ω := fun a h => List.mem_append_left _ h
  have s1 : ∀ p, ∀ a ∈ p :: F.B0, a ∈ p :: (F.B0 ++ ω) := fun p a h => by
    rcases List.mem_cons.mp h with h | h
    · subst h; exact List.mem_cons_self
    · exact List.mem_cons_of_mem _ (s a h)
  cases f with
  | pk => exact absurd rfl hf
  | tr => exact RV.per (show RV _ _ _ _ _ _ _ from rf) (Per.less s)
  | fs =>
    have rf : Fs _ _ _ _ _ _ _ _ _ := rf
    cases rf with
    | l h1 h2 h3 h4 h5 h6 => exact .l h1 (fun z => h2 (s _ z)) (none_of h0 h3) h4 (h5.per (Per.less (s1 _))) (h6.less (s1 _))
    | o h1 h2 h3 h4 h5 h6 => exact .o h1 (fun z => h2 (s _ z)) (none_of h0 h3) h4 (h5.per (Per.less (s1 _))) (h6.less (s1 _))
def sRet (fe : FE) : FS := fun ρ S => eS (fe ρ S) ρ fun d f S1 => if f.nop = true then .rt d f S1 else .bad
theorem ss_ret {te : TE} {fe : FE} (he : SE G E te fe) : SS G E (tRet te) (sRet fe) := by
  intro F D ι ω ρ S σ H rel h
  refine he.bindS rel h fun d f S1 ι1 v H1 e1 r1 rf h1 => ?_
  split at h1
  · rename_i hf
    refine h1 ι1 v H1 r1.ext0 r1.nd (r1.sto.less fun a z => List.mem_append_left _ z) (rf_out r1 rf rel.dom (by intro z; subst z; cases hf))
  · exact h1.elim
def sRetN : FS := fun _ S => .rt .non .tr S
/-- a name is returned, a list of one's own too -/
def sRetV (i : Nat) : FS := fun ρ S => match ρ[i]? with
  | some (.val d) => .rt d .tr S
  | some (.own ds) => .rt (.lst ds) .fs S
  | _ => .bad
theorem ss_retV (i : Nat) : SS G E (tRet (uVar i)) (sRetV i) := by
  intro F D ι ω ρ S σ H rel h
  unfold sRetV at h
  show uVar i σ H D.rt
  unfold uVar
  cases e : ρ[i]? with
  | none => rw [e] at h; exact h.elim
  | some s =>
    rw [e] at h
    have hi : i < σ.length := by rw [← rel.len]; exact (List.getElem?_eq_some_iff.mp e).1
    have q := rel.env i s _ e (List.getElem?_eq_getElem hi)
    have e2 : σ[i]? = some σ[i] := List.getElem?_eq_getElem hi
    rw [e2]
    generalize σ[i] = o at q
    have s0 : RS G.K G.ca ι F.B0 H S := rel.sto.less fun a z => List.mem_append_left _ z
    have s1 : ∀ p ∈ ω, ∀ a ∈ p :: F.B0, a ∈ F.B0 ++ ω := fun p hp a h => by
      rcases List.mem_cons.mp h with h | h
      · subst h; exact List.mem_append_right _ hp
      · exact List.mem_append_left _ h
    cases q with
    | no => exact h.elim
    | val rv => exact h ι _ H rel.ext0 rel.nd s0 (rv.per (Per.less fun a z => List.mem_append_left _ z))
    | own h1 h2 h3 => exact h ι _ H rel.ext0 rel.nd s0 (.l (rel.dj _ h1) (rel.offb0 h1) (rel.frw _ h1) h2 (h3.per (Per.less (s1 _ h1))) (rel.sto.less (s1 _ h1)))
    | oob h1 h2 h3 => exact h.elim
    | exn => exact h.elim
theorem Rel.set (r : Rel G F ι ω ρ S σ H) (i : Nat) {v : V} {d : Fx.D} (rv : RV G.K G.ca ι (F.B0 ++ ω) H v d) : Rel G F ι ω (ρ.set i (.val d)) S (σ.set i (some v)) H := by
  refine { r with len := by rw [List.length_set, List.length_set]; exact r.len, env := fun j s o h1 h2 => ?_, own := fun j k a s s' hjk h1 h2 h3 h4 h5 h6 => ?_ }
  · by_cases e : i = j
    · subst e
      have hi : i < ρ.length := by
        have := (List.getElem?_eq_some_iff.mp h1).1
        rwa [List.length_set] at this
      rw [List.getElem?_set_self hi] at h1
      rw [List.getElem?_set_self (by rw [← r.len]; exact hi)] at h2
      cases h1; cases h2
      exact .val rv
    · rw [List.getElem?_set_ne e] at h1 h2
      exact r.env j s o h1 h2
  · by_cases e : i = j
    · subst e
      have hi : i < ρ.length := by
        have := (List.getElem?_eq_some_iff.mp h1).1
        rwa [List.length_set] at this
      rw [List.getElem?_set_self hi] at h1
      cases h1; cases h3
    · by_cases e' : i = k
      · subst e'
        have hi : i < ρ.length := by
          have := (List.getElem?_eq_some_iff.mp h2).1
          rwa [List.length_set] at this
        rw [List.getElem?_set_self hi] at h2
        cases h2; cases h4
      · rw [List.getElem?_set_ne e] at h1 h5
        rw [List.getElem?_set_ne e'] at h2 h6
        exact r.own j k a s s' hjk h1 h2 h3 h4 h5 h6
/-- a slot is forgotten -/
theorem Rel.drop (r : Rel G F ι ω ρ S σ H) (i : Nat) (o : Option V) : Rel G F ι ω (ρ.set i .no) S (σ.set i o) H := by
  refine { r with len := by rw [List.length_set, List.length_set]; exact r.len, env := fun j s o h1 h2 => ?_, own := fun j k a s s' hjk h1 h2 h3 h4 h5 h6 => ?_ }
  · by_cases e : i = j
    · subst e
      have hi : i < ρ.length := by
        have := (List.getElem?_eq_some_iff.mp h1).1
        rwa [List.length_set] at this
      rw [List.getElem?_set_self hi] at h1
      cases h1
      exact .no
    · rw [List.getElem?_set_ne e] at h1 h2
      exact r.env j s o h1 h2
  · by_cases e : i = j
    · subst e
      have hi : i < ρ.length := by
        have := (List.getElem?_eq_some_iff.mp h1).1
        rwa [List.length_set] at this
      rw [List.getElem?_set_self hi] at h1
      cases h1; cases h3
    · by_cases e' : i = k
      · subst e'
        have hi : i < ρ.length := by
          have := (List.getElem?_eq_some_iff.mp h2).1
          rwa [List.length_set] at this
        rw [List.getElem?_set_self hi] at h2
        cases h2; cases h4
      · rw [List.getElem?_set_ne e] at h1 h5
        rw [List.getElem?_set_ne e'] at h2 h6
        exact r.own j k a s s' hjk h1 h2 h3 h4 h5 h6
abbrev FG := Fx.D → Ev → Sto → Option Ev
/-- but for some slots nothing is changed -/
def Wp (js : List Nat) (σ σ' : L2.St) : Prop := ∀ vs : List Nat, (∀ j ∈ js, j ∈ vs) → wipe σ' vs = wipe σ vs
theorem wipe_set : ∀ {vs : List Nat} {i : Nat} {σ : L2.St} {o : Option V}, i ∈ vs → wipe (σ.set i o) vs = wipe σ vs
  | v :: vs, i, σ, o, h => by
    by_cases e : i ∈ vs
    · show (wipe (σ.set i o) vs).set v none = (wipe σ vs).set v none
      rw [wipe_set e]
    · have hv : i = v := by
        rcases List.mem_cons.mp h with z | z
        · exact z
        · exact absurd z e
      subst hv
      have sw : ∀ (us : List Nat), i ∉ us → wipe (σ.set i o) us = (wipe σ us).set i o := by
        intro us
        induction us with
        | nil => intro _; rfl
        | cons u us ih =>
          intro hn
          simp only [List.mem_cons, not_or] at hn
          show (wipe (σ.set i o) us).set u none = ((wipe σ us).set u none).set i o
          rw [ih hn.2, List.set_comm _ _ hn.1]
      show (wipe (σ.set i o) vs).set i none = (wipe σ vs).set i none
      rw [sw vs e, List.set_set]
theorem Wp.name (i : Nat) (σ : L2.St) (o : Option V) : Wp [i] σ (σ.set i o) := fun vs h => wipe_set (h i List.mem_cons_self)
theorem Wp.refl (js : List Nat) (σ : L2.St) : Wp js σ σ := fun _ _ => rfl
theorem Wp.trans {js ks : List Nat} {σ σ1 σ2 : L2.St} (a : Wp js σ σ1) (b : Wp ks σ1 σ2) : Wp (js ++ ks) σ σ2 := fun vs h =>
  (b vs fun j hj => h j (List.mem_append_right _ hj)).trans (a vs fun j hj => h j (List.mem_append_left _ hj))
/-- and what is one's own stays so -/
structure Wq (js : List Nat) (ρ ρ' : Ev) (σ σ' : L2.St) : Prop where
  wp : Wp js σ σ'
  ow : ∀ (i : Nat) (s : Sl), ρ'[i]? = some s → isOwn s = true → ρ[i]? = some s ∧ σ'[i]? = σ[i]?
theorem Wq.trans {js ks : List Nat} {ρ ρ1 ρ2 : Ev} {σ σ1 σ2 : L2.St} (a : Wq js ρ ρ1 σ σ1) (b : Wq ks ρ1 ρ2 σ1 σ2) : Wq (js ++ ks) ρ ρ2 σ σ2 := ⟨a.wp.trans b.wp, fun i s h1 h2 => by
  obtain ⟨q1, q2⟩ := b.ow i s h1 h2
  obtain ⟨q3, q4⟩ := a.ow i s q1 h2
  exact ⟨q3, q2.trans q4⟩⟩
theorem Wq.name (i : Nat) (ρ : Ev) (σ : L2.St) (d : Fx.D) (o : Option V) : Wq [i] ρ (ρ.set i (.val d)) σ (σ.set i o) := ⟨Wp.name i σ o, fun j s h1 h2 => by
  by_cases e : i = j
  · subst e
    have hi : i < ρ.length := by
      have := (List.getElem?_eq_some_iff.mp h1).1
      rwa [List.length_set] at this
    rw [List.getElem?_set_self hi] at h1; cases h1; cases h2
  · rw [List.getElem?_set_ne e] at h1
    exact ⟨h1, List.getElem?_set_ne e⟩⟩
def SG (G : Gm) (g : TG) (js : List Nat) (f : FG) : Prop := ∀ F ι ω ρ S σ H v d Q, Rel G F ι ω ρ S σ H → RV G.K G.ca ι (F.B0 ++ ω) H v d → (match f d ρ S with
  | some ρ' => ∀ σ', Rel G F ι ω ρ' S σ' H → Wq js ρ ρ' σ σ' → Q σ' H
  | none => False) → g v σ H Q
abbrev FGs := List Fx.D → Ev → Sto → Option Ev
def SGs (G : Gm) (g : TGs) (js : List Nat) (f : FGs) : Prop := ∀ F ι ω ρ S σ H vs ds Q, Rel G F ι ω ρ S σ H → RAll G.K G.ca ι (F.B0 ++ ω) H vs ds → (match f ds ρ S with
  | some ρ' => ∀ σ', Rel G F ι ω ρ' S σ' H → Wq js ρ ρ' σ σ' → Q σ' H
  | none => False) → g vs σ H Q
def gN (i : Nat) : FG := fun d ρ _ => some (ρ.set i (.val d))
theorem sg_name (i : Nat) : SG G (gName i) [i] (gN i) := fun F ι ω ρ S σ H v d Q rel rv h => h _ (rel.set i rv) (Wq.name i ρ σ d _)
def gsNil : FGs := fun ds ρ _ => match ds with
  | [] => some ρ
  | _ => none
def gsCons (f : FG) (g : FGs) : FGs := fun ds ρ S => match ds with
  | d :: ds => (match f d ρ S with
    | some ρ1 => g ds ρ1 S
    | none => none)
  | [] => none
theorem sgs_nil : SGs G gNil [] gsNil := by
  intro F ι ω ρ S σ H vs ds Q rel ra h
  cases ds with
  | nil => cases ra; exact ⟨rfl, h σ rel ⟨Wp.refl _ _, fun i s h1 h2 => ⟨h1, rfl⟩⟩⟩
  | cons => exact h.elim
theorem sgs_cons {g : TG} {gs : TGs} {js ks : List Nat} {f : FG} {fs : FGs} (hg : SG G g js f) (hs : SGs G gs ks fs) : SGs G (gCons g gs) (js ++ ks) (gsCons f fs) := by
  intro F ι ω ρ S σ H vs ds Q rel ra h
  cases ds with
  | nil => exact h.elim
  | cons d ds =>
    cases ra with
    | cons r1 r2 =>
      refine ⟨_, _, rfl, hg F ι ω ρ S σ H _ d _ rel r1 ?_⟩
      unfold gsCons at h
      dsimp only at h
      cases e : f d ρ S with
      | none => rw [e] at h; exact h.elim
      | some ρ1 =>
        rw [e] at h
        intro σ' rel' w1
        refine hs F ι ω ρ1 S σ' H _ ds Q rel' r2 ?_
        dsimp only at h
        cases e2 : fs ds ρ1 S with
        | none => rw [e2] at h; exact h.elim
        | some ρ2 =>
          rw [e2] at h
          exact fun σ2 rel2 w2 => h σ2 rel2 (w1.trans w2)
def gT (n : Nat) (fs : FGs) : FG := fun d ρ S => match sqOf S d with
  | some ds => if ds.length = n then fs ds ρ S else none
  | none => none
theorem sg_ts {n : Nat} {gs : TGs} {js : List Nat} {fs : FGs} (hs : SGs G gs js fs) : SG G (gTs G.K n gs) js (gT n fs) := by
  intro F ι ω ρ S σ H v d Q rel rv h
  unfold gT at h
  cases e : sqOf S d with
  | none => rw [e] at h; exact h.elim
  | some ds =>
    rw [e] at h
    obtain ⟨a, xs, rfl, q1, q2⟩ := sq_at rel.sto (.v rv) e
    dsimp only at h
    by_cases hn : ds.length = n
    · rw [if_pos hn] at h
      exact ⟨xs, q1.symm, by rw [q2.len]; exact hn, hs F ι ω ρ S σ H xs ds Q rel q2 h⟩
    · rw [if_neg hn] at h; exact h.elim
def sAsg (fe : FE) (g : FG) : FS := fun ρ S => eS (fe ρ S) ρ fun d f S1 => if f.nop = true then (match g d ρ S1 with
  | some ρ' => .nx ρ' S1
  | none => .bad) else .bad
theorem ss_asg {te : TE} {fe : FE} {g : TG} {fg : FG} {js : List Nat} (he : SE G E te fe) (hg : SG G g js fg) : SS G E (tAsg te g) (sAsg fe fg) := by
  intro F D ι ω ρ S σ H rel h
  refine he.bindS rel h fun d f S1 ι1 v H1 e1 r1 rf h1 => ?_
  split at h1
  · rename_i hf
    refine hg F ι1 ω ρ S1 σ H1 v d _ r1 (rf.rv (by intro z; subst z; cases hf)) ?_
    split at h1
    · rename_i ρ' eg
      exact fun σ' rel' _ => h1 ι1 ω σ' H1 ExtS.refl rel'
    · exact h1.elim
  · exact h1.elim
def sPar (i j : Nat) (fa : FA) : FS := fun ρ S => match fa ρ S with
  | .ok [d, e] true S1 => .nx ((ρ.set i (.val d)).set j (.val e)) S1
  | .xc c fs S1 => .xc c fs ρ S1
  | _ => .bad
theorem ss_par {i j : Nat} {ta : TA} {fa : FA} (ha : SA G E ta fa) : SS G E (tPar2 i j ta) (sPar i j fa) := by
  intro F D ι ω ρ S σ H rel h
  refine ha F ι ω ρ S σ H _ rel ?_
  unfold sPar at h
  split at h
  · rename_i d e S1 ea
    rw [ea]
    intro ι1 vs H1 e1 r1 ra
    cases ra with
    | cons q1 q2 =>
      cases q2 with
      | cons q2 q3 =>
        cases q3
        exact h ι1 ω _ H1 e1.s ((r1.set i q1).set j q2)
  · rename_i c fs S1 ea
    rw [ea]
    exact fun ι' dd fv H' x rel' n1 n2 h1 h2 => h ι' ω σ dd fv H' x.s rel' n1 n2 h1 h2
  · exact h.elim
def sAug (i : Nat) (f : Int → Int → Int) (fe : FE) : FS := fun ρ S => match ρ[i]? with
  | some (.val (.int x)) => eS (fe ρ S) ρ fun d _ S1 => (match d with
    | .int y => .nx (ρ.set i (.val (.int (f x y)))) S1
    | _ => .bad)
  | _ => .bad
theorem slot_val (rel : Rel G F ι ω ρ S σ H) {i : Nat} {d : Fx.D} (e : ρ[i]? = some (.val d)) : ∃ v, σ[i]? = some (some v) ∧ RV G.K G.ca ι (F.B0 ++ ω) H v d := by
  have hi : i < σ.length := by rw [← rel.len]; exact (List.getElem?_eq_some_iff.mp e).1
  have q := rel.env i _ _ e (List.getElem?_eq_getElem hi)
  have e2 : σ[i]? = some σ[i] := List.getElem?_eq_getElem hi
  rw [e2]
  generalize σ[i] = o at q
  cases q with
  | val rv => exact ⟨_, rfl, rv⟩
theorem Rel.own' (r : Rel G F ι ω ρ S σ H) {H1 : Hp} {ι1 : List Addr} {S1 : Sto} (e : Ext ι H ι1 H1) (r1 : Rel G F ι1 ω ρ S1 σ H1) (i : Nat) {a : Addr} {s : Sl} (hs : RSl G ι1 (F.B0 ++ (a :: ω)) (a :: ω) H1 s (some (.ref a))) (h0 : H a = none) (hi : a ∉ ι1) (hd : H1 a ≠ none)
    (hS : RS G.K G.ca ι1 (F.B0 ++ (a :: ω)) H1 S1) : Rel G F ι1 (a :: ω) (ρ.set i s) S1 (σ.set i (some (.ref a))) H1 := by
  have pp : Per ι (F.B0 ++ ω) H ι1 (F.B0 ++ (a :: ω)) H1 := ⟨fun b o h1 h2 h3 => by
    rw [List.mem_append, not_or] at h3
    refine ⟨e.keep b o h1 h2, e.off h1 h2, fun z => ?_⟩
    rcases List.mem_append.mp z with z | z
    · exact h3.1 z
    · rcases List.mem_cons.mp z with z | z
      · subst z; rw [h0] at h1; cases h1
      · exact h3.2 z, fun _ _ h => ix_pre e.pre h⟩
  have up : ∀ s o, RSl G ι (F.B0 ++ ω) ω H s o → RSl G ι1 (F.B0 ++ (a :: ω)) (a :: ω) H1 s o := fun s o h => by
    cases h with
    | no => exact .no
    | val h => exact .val (h.per pp)
    | own h1 h2 h3 => exact .own (List.mem_cons_of_mem _ h1) (e.keep _ _ h2 (r.dj _ h1)) (h3.per pp)
    | oob h1 h0 h2 h3 => exact .oob (List.mem_cons_of_mem _ h1) h0 (e.keep _ _ h2 (r.dj _ h1)) (h3.per pp)
    | exn h1 h2 h3 h4 h5 =>
      obtain ⟨q1, q2, q3⟩ := h4.per h2 h3 pp
      exact .exn h1 q2 q3 q1 (h5.per pp)
  have noa : ∀ (j : Nat) (s : Sl), ρ[j]? = some s → isOwn s = true → σ[j]? = some (some (.ref a)) → False := fun j s h1 h2 h3 => by
    cases r.env j s _ h1 h3 with
    | no => cases h2
    | val => cases h2
    | own q1 q2 q3 => rw [h0] at q2; cases q2
    | oob q1 q0 q2 q3 => rw [h0] at q2; cases q2
    | exn => cases h2
  refine ⟨r1.pre, r1.old, r1.dom, r1.fri, fun b hb => ?_, r1.b0, r1.nd, fun b hb => ?_, fun b hb => ?_, hS, by rw [List.length_set, List.length_set]; exact r.len, fun j s' o h1 h2 => ?_, fun j k b s1 s2 hjk h1 h2 h3 h4 h5 h6 => ?_⟩
  · rcases List.mem_cons.mp hb with z | z
    · subst z; exact none_of r.dom h0
    · exact r1.frw b z
  · rcases List.mem_cons.mp hb with z | z
    · subst z; exact hi
    · exact r1.dj b z
  · rcases List.mem_cons.mp hb with z | z
    · subst z; exact hd
    · exact r1.dw b z
  · by_cases e : i = j
    · subst e
      have hi : i < ρ.length := by
        have := (List.getElem?_eq_some_iff.mp h1).1
        rwa [List.length_set] at this
      rw [List.getElem?_set_self hi] at h1
      rw [List.getElem?_set_self (by rw [← r.len]; exact hi)] at h2
      cases h1; cases h2
      exact hs
    · rw [List.getElem?_set_ne e] at h1 h2
      exact up _ _ (r.env j s' o h1 h2)
  · by_cases e : i = j
    · subst e
      have hi : i < ρ.length := by
        have := (List.getElem?_eq_some_iff.mp h1).1
        rwa [List.length_set] at this
      rw [List.getElem?_set_self (by rw [← r.len]; exact hi)] at h5
      cases h5
      rw [List.getElem?_set_ne hjk] at h2 h6
      exact noa k s2 h2 h4 h6
    · by_cases e' : i = k
      · subst e'
        have hi : i < ρ.length := by
          have := (List.getElem?_eq_some_iff.mp h2).1
          rwa [List.length_set] at this
        rw [List.getElem?_set_self (by rw [← r.len]; exact hi)] at h6
        cases h6
        rw [List.getElem?_set_ne e] at h1 h5
        exact noa j s1 h1 h3 h5
      · rw [List.getElem?_set_ne e] at h1 h5
        rw [List.getElem?_set_ne e'] at h2 h6
        exact r.own j k b s1 s2 hjk h1 h2 h3 h4 h5 h6
def sOwn (i : Nat) (fe : FE) : FS := fun ρ S => eS (fe ρ S) ρ fun d f S1 => (match d, f with
  | .lst ds, .fs => .nx (ρ.set i (.own ds)) S1
  | _, _ => .bad)
theorem mid {a : Addr} {B ω : List Addr} : ∀ x ∈ B ++ (a :: ω), x ∈ a :: (B ++ ω) := fun x h => by
  simp only [List.mem_append, List.mem_cons] at h ⊢
  rcases h with h | h | h
  · exact .inr (.inl h)
  · exact .inl h
  · exact .inr (.inr h)
theorem ss_own {i : Nat} {te : TE} {fe : FE} (he : SE G E te fe) : SS G E (tAsg te (gName i)) (sOwn i fe) := by
  intro F D ι ω ρ S σ H rel h
  refine he F ι ω ρ S σ H _ rel ?_
  unfold sOwn at h
  cases e : fe ρ S with
  | ok d f S1 =>
    rw [e] at h
    dsimp only [eS] at h
    intro ι1 v H1 e1 r1 rf
    split at h
    · have rf : Fs _ _ _ _ _ _ _ _ _ := rf
      cases rf with
      | l h1 h2 h3 h4 h5 h6 =>
        refine h ι1 (_ :: ω) _ H1 ⟨e1.pre, fun a o q n _ => e1.keep a o q n, e1.new, fun a q n => ?_, e1.dom⟩ (rel.own' e1 r1 i (.own List.mem_cons_self h4 (h5.per (Per.less mid))) h3 h1 (nn h4) (h6.less mid))
        rcases List.mem_cons.mp q with z | z
        · subst z; exact h3
        · exact absurd z n
    · exact h.elim
  | xc c' fs S1 =>
    rw [e] at h
    exact fun ι' dd fv H' x rel' n1 n2 h1 h2 => h ι' ω σ dd fv H' x.s rel' n1 n2 h1 h2
  | bad => rw [e] at h; exact h.elim
end
end
end Fx
namespace Fx
open PySem PySem.Spec PyProof.Rows L2 U
noncomputable section
section
variable {G : Gm} {E : WX} {F : Fr} {Dd : Ends} {ι ω ι1 ω1 : List Addr} {ρ : Ev} {S S1 : Sto} {σ : L2.St} {H H1 : Hp}
theorem slot_own (rel : Rel G F ι ω ρ S σ H) {i : Nat} {ds : List D} (e : ρ[i]? = some (.own ds)) : ∃ a xs, σ[i]? = some (some (.ref a)) ∧ a ∈ ω ∧ H a = some (.lst xs) ∧ RAll G.K G.ca ι (F.B0 ++ ω) H xs ds := by
  have hi : i < σ.length := by rw [← rel.len]; exact (List.getElem?_eq_some_iff.mp e).1
  have q := rel.env i _ _ e (List.getElem?_eq_getElem hi)
  have e2 : σ[i]? = some σ[i] := List.getElem?_eq_getElem hi
  rw [e2]
  generalize σ[i] = o at q
  cases q with
  | own h1 h2 h3 => exact ⟨_, _, rfl, h1, h2, h3⟩
theorem Per.upd {B : List Addr} {a : Addr} {o : HO} (h : a ∈ ι ∨ a ∈ B) : Per ι B H ι B (upd H a o) :=
  ⟨fun b u h1 h2 h3 => ⟨by rw [upd_ne (fun z => by subst z; exact h.elim h2 h3)]; exact h1, h2, h3⟩, fun _ _ z => z⟩
/-- what lies at an address of one's own is changed, the slot with it -/
theorem Rel.mut (r : Rel G F ι ω ρ S σ H) {i : Nat} {a : Addr} {s s' : Sl} {o : HO} (e : ρ[i]? = some s) (hs : isOwn s = true) (ea : σ[i]? = some (some (.ref a))) (ha : a ∈ ω) (hs' : RSl G ι (F.B0 ++ ω) ω (upd H a o) s' (some (.ref a))) (io : isOwn s' = true) :
    Rel G F ι ω (ρ.set i s') S σ (upd H a o) := by
  have pp : Per ι (F.B0 ++ ω) H ι (F.B0 ++ ω) (L2.upd H a o) := Per.upd (.inr (List.mem_append_right _ ha))
  have hi : i < ρ.length := (List.getElem?_eq_some_iff.mp e).1
  refine ⟨r.pre, fun b u h n => ?_, fun b h => ?_, r.fri, r.frw, r.b0, r.nd, r.dj, fun b hb => ?_, r.sto.per (fun b hb => upd_ne fun z => r.dj a ha (by rw [← z]; exact hb)) pp, by rw [List.length_set]; exact r.len, fun j t o' h1 h2 => ?_, fun j k b s1 s2 hjk h1 h2 h3 h4 h5 h6 => ?_⟩
  · rw [upd_ne (fun z => by subst z; rw [r.frw _ ha] at h; cases h)]; exact r.old b u h n
  · unfold L2.upd; split
    · simp
    · exact r.dom b h
  · unfold L2.upd; split
    · simp
    · exact r.dw b hb
  · by_cases e' : i = j
    · subst e'
      rw [List.getElem?_set_self hi] at h1
      rw [ea] at h2
      cases h1; cases h2
      exact hs'
    · rw [List.getElem?_set_ne e'] at h1
      have q := r.env j t o' h1 h2
      have ne : isOwn t = true → ∀ b, o' = some (.ref b) → b ≠ a := fun ht b hb z => by
        subst z; subst hb
        exact r.own i j _ s t e' e h1 hs ht ea h2
      cases q with
      | no => exact .no
      | val h => exact .val (h.per pp)
      | own q1 q2 q3 => exact .own q1 (by rw [upd_ne (ne rfl _ rfl)]; exact q2) (q3.per pp)
      | oob q1 q0 q2 q3 => exact .oob q1 q0 (by rw [upd_ne (ne rfl _ rfl)]; exact q2) (q3.per pp)
      | exn q1 q2 q3 q4 q5 =>
        obtain ⟨g1, g2, g3⟩ := q4.per q2 q3 pp
        exact .exn q1 g2 g3 g1 (q5.per pp)
  · have go : ∀ (j : Nat) (t : Sl), (ρ.set i s')[j]? = some t → isOwn t = true → ∃ t', ρ[j]? = some t' ∧ isOwn t' = true := fun j t h1 h2 => by
      by_cases e' : i = j
      · subst e'; exact ⟨s, e, hs⟩
      · rw [List.getElem?_set_ne e'] at h1; exact ⟨t, h1, h2⟩
    obtain ⟨t1, q1, q2⟩ := go j s1 h1 h3
    obtain ⟨t2, q3, q4⟩ := go k s2 h2 h4
    exact r.own j k b t1 t2 hjk q1 q3 q2 q4 h5 h6
theorem ExtS.mut {a : Addr} {o : HO} (ha : a ∈ ω) : ExtS ι ω H ι ω (upd H a o) :=
  ⟨List.prefix_rfl, fun b u h _ n => by rw [upd_ne (fun z => by subst z; exact n ha)]; exact h, fun _ h n => absurd h n, fun _ h n => absurd h n, fun b h => by
    unfold L2.upd; split
    · simp
    · exact h⟩
theorem Rel.mutL (r : Rel G F ι ω ρ S σ H) {i : Nat} {a : Addr} {ds ds' : List D} {xs' : List V} (e : ρ[i]? = some (.own ds)) (ea : σ[i]? = some (some (.ref a))) (ha : a ∈ ω) (ra : RAll G.K G.ca ι (F.B0 ++ ω) H xs' ds') : Rel G F ι ω (ρ.set i (.own ds')) S σ (upd H a (.lst xs')) :=
  r.mut e rfl ea ha (.own ha upd_same (ra.per (Per.upd (.inr (List.mem_append_right _ ha))))) rfl
theorem RS.set {K : PySem.W.Frag} {ca : Nat → Addr} {B : List Addr} {k : Nat} {a : Addr} {o : HO} {c : Ce} (r : RS K ca ι B H S) (nd : ι.Nodup) (e : ι[k]? = some a) (hc : RC K ca ι B (upd H a o) a c) : RS K ca ι B (upd H a o) (S.set k c) := by
  have ha : a ∈ ι := List.mem_of_getElem? e
  have pp : Per ι B H ι B (L2.upd H a o) := Per.upd (.inl ha)
  refine ⟨by rw [List.length_set]; exact r.len, fun j b c' h1 h2 => ?_⟩
  by_cases ej : k = j
  · subst ej
    rw [e] at h1; cases h1
    have hk : k < S.length := by rw [← r.len]; exact (List.getElem?_eq_some_iff.mp e).1
    rw [List.getElem?_set_self hk] at h2; cases h2
    exact hc
  · rw [List.getElem?_set_ne ej] at h2
    refine (r.at' j b c' h1 h2).per (upd_ne fun z => ej ?_) pp
    subst z
    obtain ⟨l1, e1⟩ := List.getElem?_eq_some_iff.mp e
    obtain ⟨l2, e2⟩ := List.getElem?_eq_some_iff.mp h1
    have pw := List.pairwise_iff_getElem.mp nd
    rcases Nat.lt_trichotomy k j with z | z | z
    · exact absurd (e1.trans e2.symm) (pw k j l1 l2 z)
    · exact z
    · exact absurd (e2.trans e1.symm) (pw j k l2 l1 z)
theorem Ext.cel {a : Addr} {o : HO} (ha : a ∈ ι) : Ext ι H ι (upd H a o) :=
  ⟨List.prefix_rfl, fun b u h n => by rw [upd_ne (fun z => by subst z; exact n ha)]; exact h, fun _ h n => absurd h n, fun b h => by
    unfold L2.upd; split
    · simp
    · exact h⟩
theorem Rel.cel (r : Rel G F ι ω ρ S σ H) {k : Nat} {a : Addr} {ds' : List D} {xs' : List V} (e : ι[k]? = some a) (ra : RAll G.K G.ca ι (F.B0 ++ ω) H xs' ds') : Rel G F ι ω ρ (S.set k (.lst ds')) σ (upd H a (.lst xs')) := by
  have ha : a ∈ ι := List.mem_of_getElem? e
  exact r.ex (Ext.cel ha) r.nd (r.sto.set r.nd e (.lst upd_same (ra.per (Per.upd (.inl ha)))))
/-- the list in slot i becomes ds' -/
def putL (i : Nat) (ρ : Ev) (S : Sto) (f : List D → Option (List D)) : RSt := match ρ[i]? with
  | some (.own ds) => (match f ds with
    | some es => .nx (ρ.set i (.own es)) S
    | none => .bad)
  | some (.val (.cel k)) => (match S[k]? with
    | some (.lst ds) => (match f ds with
      | some es => .nx ρ (S.set k (.lst es))
      | none => .bad)
    | _ => .bad)
  | _ => .bad
/-- the list in slot i, and how it may be changed -/
theorem put_ok {i : Nat} {f : List D → Option (List D)} (rel : Rel G F ι ω ρ S σ H) (h : PostS G E F Dd ι ω H (putL i ρ S f)) : ∃ a xs ds es, σ[i]? = some (some (.ref a)) ∧ H a = some (.lst xs) ∧ RAll G.K G.ca ι (F.B0 ++ ω) H xs ds ∧ f ds = some es ∧
    ∀ ys, RAll G.K G.ca ι (F.B0 ++ ω) H ys es → Dd.nx σ (upd H a (.lst ys)) := by
  unfold putL at h
  split at h
  · rename_i ds e
    obtain ⟨a, xs, e1, ha, e2, ra⟩ := slot_own rel e
    split at h
    · rename_i es ef
      exact ⟨a, xs, ds, es, e1, e2, ra, ef, fun ys ry => h ι ω σ _ (ExtS.mut ha) (rel.mutL e e1 ha ry)⟩
    · exact h.elim
  · rename_i k e
    obtain ⟨v, e1, rv⟩ := slot_val rel e
    cases rv with
    | @cel a k hk =>
      split at h
      · rename_i ds es
        obtain ⟨xs, e2, ra⟩ := cel_at rel.sto hk es
        split at h
        · rename_i es' ef
          exact ⟨a, xs, ds, es', e1, e2, ra, ef, fun ys ry => h ι ω σ _ (Ext.cel (List.mem_of_getElem? hk)).s (rel.cel hk ry)⟩
        · exact h.elim
      · exact h.elim
  · exact h.elim
def sApp (i : Nat) (fe : FE) : FS := fun ρ S => eS (fe ρ S) ρ fun d f S1 => if f.nop = true then putL i ρ S1 (fun ds => if ds.length < lim then some (ds ++ [d]) else none) else .bad
/-- slot i holds a list -/
def hasL (i : Nat) (ρ : Ev) (S : Sto) : Bool := match ρ[i]? with
  | some (.own _) => true
  | some (.val (.cel k)) => (match S[k]? with | some (.lst _) => true | _ => false)
  | _ => false
theorem has_ok {i : Nat} (rel : Rel G F ι ω ρ S σ H) (h : hasL i ρ S = true) : ∃ a xs, σ[i]? = some (some (.ref a)) ∧ H a = some (.lst xs) := by
  unfold hasL at h
  split at h
  · rename_i ds e
    obtain ⟨a, xs, e1, ha, e2, ra⟩ := slot_own rel e
    exact ⟨a, xs, e1, e2⟩
  · rename_i k e
    obtain ⟨v, e1, rv⟩ := slot_val rel e
    cases rv with
    | @cel a k hk =>
      split at h
      · rename_i ds es
        obtain ⟨xs, e2, ra⟩ := cel_at rel.sto hk es
        exact ⟨a, xs, e1, e2⟩
      · cases h
  · cases h
/-- ahead of a change the slot is looked at -/
def chk (i : Nat) (f : FS) : FS := fun ρ S => if hasL i ρ S = true then f ρ S else .bad
theorem ss_app {i : Nat} {te : TE} {fe : FE} (he : SE G E te fe) : SS G E (tDrop (tBM G.K "list" uAppend (uVar i) (tCons te tNil))) (chk i (sApp i fe)) := by
  intro F D ι ω ρ S σ H rel h
  unfold chk at h
  split at h
  · rename_i hh
    obtain ⟨a, xs, e1, e2⟩ := has_ok rel hh
    show uVar i σ H fun x H1 => tyV G.K "list" x H1 ∧ tCons te tNil σ H1 fun xs H2 => uAppend x xs H2 fun _ H3 => D.nx σ H3
    unfold uVar
    rw [e1]
    refine ⟨.inl ⟨rfl, xs, .inl (.inl e2)⟩, ?_⟩
    refine he.bindS rel h fun d f S1 ι1 v H1 x1 r1 rf h1 => ?_
    split at h1
    · rename_i hf
      obtain ⟨a', xs', ds, es, q1, q2, q3, q4, q5⟩ := put_ok r1 h1
      rw [e1] at q1; cases q1
      split at q4
      · rename_i hl
        cases q4
        exact oK_of (mutL_of q2) ⟨by rw [q3.len]; exact lim_lt hl, q5 _ (q3.app (.cons (rf.rv (by intro z; subst z; cases hf)) .nil))⟩
      · cases q4
    · exact h1.elim
  · exact h.elim
def sSetI (i : Nat) (fi fe : FE) : FS := fun ρ S => eS (fe ρ S) ρ fun d f S1 => if f.nop = true then (if hasL i ρ S1 = true then eS (fi ρ S1) ρ fun e _ S2 => (match e with
  | .int k => putL i ρ S2 (fun ds => (ixN ds.length k).map fun j => ds.set j d)
  | _ => .bad) else .bad) else .bad
theorem ss_setI {i : Nat} {te ti : TE} {fe fi : FE} (he : SE G E te fe) (hi : SE G E ti fi) : SS G E (tAsg te (gSub (uVar i) ti uSetL)) (sSetI i fi fe) := by
  intro F D ι ω ρ S σ H rel h
  refine he.bindS rel h fun d f S1 ι1 v H1 x1 r1 rf h1 => ?_
  split at h1
  · rename_i hf
    split at h1
    · rename_i hh
      obtain ⟨a, xs, e1, e2⟩ := has_ok r1 hh
      show uVar i σ H1 _
      unfold uVar
      rw [e1]
      refine hi.bindS r1 h1 fun e f2 S2 ι2 w H2 x2 r2 rf2 h2 => ?_
      split at h2
      · rename_i k
        rw [rf2.rt.sInt]
        obtain ⟨a', xs', ds, es, q1, q2, q3, q4, q5⟩ := put_ok r2 h2
        rw [e1] at q1; cases q1
        rw [Option.map_eq_some_iff] at q4
        obtain ⟨j, q6, rfl⟩ := q4
        exact oK_of (mutL_of q2) (oK_of (by rw [q3.len]; exact q6) (q5 _ (q3.set j ((rf.rv (by intro z; subst z; cases hf)).ex x2))))
      · exact h2.elim
    · exact h1.elim
  · exact h1.elim
def frz (i : Nat) (ρ : Ev) : Ev := match ρ[i]? with
  | some (.own ds) => ρ.set i (.val (.lst ds))
  | _ => ρ
def sFrz (i : Nat) (f : FS) : FS := fun ρ S => f (frz i ρ) S
theorem Rel.less (r : Rel G F ι ω ρ S σ H) {i : Nat} {a : Addr} {s : Sl} {d : D} (e : ρ[i]? = some s) (hs : isOwn s = true) (ea : σ[i]? = some (some (.ref a))) (rv : RV G.K G.ca ι (F.B0 ++ ω.filter (· ≠ a)) H (.ref a) d) :
    Rel G F ι (ω.filter (· ≠ a)) (ρ.set i (.val d)) S σ H := by
  have sub : ∀ b ∈ ω.filter (· ≠ a), b ∈ ω := fun b hb => (List.mem_filter.mp hb).1
  have subB : ∀ b ∈ F.B0 ++ ω.filter (· ≠ a), b ∈ F.B0 ++ ω := fun b hb => by
    rcases List.mem_append.mp hb with z | z
    · exact List.mem_append_left _ z
    · exact List.mem_append_right _ (sub b z)
  have pp : Per ι (F.B0 ++ ω) H ι (F.B0 ++ ω.filter (· ≠ a)) H := Per.less subB
  have hi : i < ρ.length := (List.getElem?_eq_some_iff.mp e).1
  refine ⟨r.pre, r.old, r.dom, r.fri, fun b hb => r.frw b (sub b hb), r.b0, r.nd, fun b hb => r.dj b (sub b hb), fun b hb => r.dw b (sub b hb), r.sto.less subB, by rw [List.length_set]; exact r.len, fun j t o' h1 h2 => ?_, fun j k b s1 s2 hjk h1 h2 h3 h4 h5 h6 => ?_⟩
  · by_cases e' : i = j
    · subst e'
      rw [List.getElem?_set_self hi] at h1
      rw [ea] at h2
      cases h1; cases h2
      exact .val rv
    · rw [List.getElem?_set_ne e'] at h1
      have q := r.env j t o' h1 h2
      have ne : isOwn t = true → ∀ b, o' = some (.ref b) → b ≠ a := fun ht b hb z => by
        subst z; subst hb
        exact r.own i j _ s t e' e h1 hs ht ea h2
      cases q with
      | no => exact .no
      | val h => exact .val (h.per pp)
      | own q1 q2 q3 => exact .own (List.mem_filter.mpr ⟨q1, by simpa using ne rfl _ rfl⟩) q2 (q3.per pp)
      | oob q1 q0 q2 q3 => exact .oob (List.mem_filter.mpr ⟨q1, by simpa using ne rfl _ rfl⟩) q0 q2 (q3.per pp)
      | exn q1 q2 q3 q4 q5 => exact .exn q1 q2 (q3.less subB) q4 (q5.per pp)
  · have go : ∀ (j : Nat) (t : Sl), (ρ.set i (.val d))[j]? = some t → isOwn t = true → ρ[j]? = some t := fun j t h1 h2 => by
      by_cases e' : i = j
      · subst e'
        rw [List.getElem?_set_self hi] at h1; cases h1; cases h2
      · rw [List.getElem?_set_ne e'] at h1; exact h1
    exact r.own j k b s1 s2 hjk (go j s1 h1 h3) (go k s2 h2 h4) h3 h4 h5 h6
def fAdo (fe : FE) : FE := fun ρ S => bE (fe ρ S) fun d f S1 => (match d, f with
  | .lst ds, .fs => .ok (.cel S1.length) .tr (S1 ++ [.lst ds])
  | .lst _, _ => .bad
  | d, f => .ok d f S1)
theorem rs_grow {K : PySem.W.Frag} {ca : Nat → Addr} {B : List Addr} {a : Addr} {c : Ce} (r : RS K ca ι (a :: B) H S) (hc : RC K ca (ι ++ [a]) B H a c) : RS K ca (ι ++ [a]) B H (S ++ [c]) := by
  have pp : Per ι (a :: B) H (ι ++ [a]) B H := ⟨fun b o h1 h2 h3 => by
    simp only [List.mem_cons, not_or] at h3
    exact ⟨h1, by simp only [List.mem_append, List.mem_singleton, not_or]; exact ⟨h2, h3.1⟩, h3.2⟩, fun k b h => by
      rw [List.getElem?_append_left (List.getElem?_eq_some_iff.mp h).1]; exact h⟩
  refine ⟨by rw [List.length_append, List.length_append, r.len]; rfl, fun k b c' h1 h2 => ?_⟩
  by_cases hk : k < ι.length
  · rw [List.getElem?_append_left hk] at h1
    rw [List.getElem?_append_left (by rw [← r.len]; exact hk)] at h2
    exact (r.at' k b c' h1 h2).per rfl pp
  · rw [List.getElem?_append_right (by omega)] at h1
    rw [List.getElem?_append_right (by rw [← r.len]; omega)] at h2
    have e0 : k - ι.length = 0 := by
      by_cases z : k - ι.length = 0
      · exact z
      · rw [List.getElem?_eq_none (by simp; omega)] at h1; cases h1
    rw [e0] at h1
    rw [show k - S.length = 0 by rw [← r.len]; exact e0] at h2
    cases h1; cases h2
    exact hc
theorem se_ado {te : TE} {fe : FE} (he : SE G E te fe) : SE G E te (fAdo fe) := by
  intro F ι ω ρ S σ H Q rel h
  refine he F ι ω ρ S σ H Q rel ?_
  unfold fAdo at h
  cases e : fe ρ S with
  | ok d f S1 =>
    rw [e] at h
    dsimp only [bE] at h
    split at h
    · intro ι1 v H1 e1 r1 rf
      have rf : Fs _ _ _ _ _ _ _ _ _ := rf
      cases rf with
      | @l a xs ds h1 h2 h3 h4 h5 h6 =>
        have pp : Per ι1 (a :: (F.B0 ++ ω)) H1 (ι1 ++ [a]) (F.B0 ++ ω) H1 := ⟨fun b o h1 h2 h3 => by
          simp only [List.mem_cons, not_or] at h3
          exact ⟨h1, by simp only [List.mem_append, List.mem_singleton, not_or]; exact ⟨h2, h3.1⟩, h3.2⟩, fun k b h => by
            rw [List.getElem?_append_left (List.getElem?_eq_some_iff.mp h).1]; exact h⟩
        have x2 : Ext ι H (ι1 ++ [a]) H1 := ⟨e1.pre.trans (List.prefix_append _ _), e1.keep, fun b hb n => by
          rcases List.mem_append.mp hb with z | z
          · exact e1.new b z n
          · rw [List.mem_singleton.mp z]; exact h3, e1.dom⟩
        refine h (ι1 ++ [a]) (.ref a) H1 x2 (rel.ex x2 ?_ (rs_grow h6 (.lst h4 (h5.per pp)))) (.cel ?_)
        · rw [List.nodup_append]
          refine ⟨r1.nd, by simp, fun b hb c hc => ?_⟩
          rw [List.mem_singleton.mp hc]
          intro z; subst z; exact h1 hb
        · rw [List.getElem?_append_right (by rw [h6.len]; exact Nat.le_refl _), h6.len]; simp
    · exact h.elim
    · exact h
  | xc c' fs S1 => rw [e] at h; exact h
  | bad => rw [e] at h; exact h
def sRaise (c : Nat) (f : Str) (fa : FA) : FS := fun ρ S => match fa ρ S with
  | .ok [d] true S1 => .xc c [(f, d)] ρ S1
  | .xc c' fs S1 => .xc c' fs ρ S1
  | _ => .bad
theorem ss_raise {c : Nat} {f : Str} {E' : XK} {ta : TA} {fa : FA} (hE : ∀ cls d σ H, E cls d σ H → E' cls d H) (ha : SA G E ta fa) : SS G E (uRaise (G.ca c) f E' ta) (sRaise c f fa) := by
  intro F D ι ω ρ S σ H rel h
  show uMk (G.ca c) f ta σ H E'
  unfold uMk
  refine ha F ι ω ρ S σ H _ rel ?_
  unfold sRaise at h
  split at h
  · rename_i d S1 ea
    rw [ea]
    intro ι1 vs H1 e1 r1 ra
    cases ra with
    | cons q1 q2 =>
      cases q2
      intro dd hd
      refine hE _ _ _ _ (h ι1 ω σ (some dd) [(f, _)] _ ((e1.trans (Ext.new1 hd)).s) (r1.new hd) (fun a z => by cases z; exact r1.offi hd) (fun a z => by cases z; exact r1.offb hd) upd_same (.cons (q1.per (Per.new hd)) .nil))
  · rename_i c' fs S1 ea
    rw [ea]
    exact fun ι' dd fv H' x rel' n1 n2 h1 h2 => h ι' ω σ dd fv H' x.s rel' n1 n2 h1 h2
  · exact h.elim
def sRaise0 (c : Nat) : FS := fun ρ S => .xc c [] ρ S
def isExn : Sl → Bool
  | .exn _ _ => true
  | _ => false
def noExn (ρ : Ev) : Bool := ρ.all fun s => !isExn s
theorem Rel.gm {G' : Gm} (r : Rel G F ι ω ρ S σ H) (hn : noExn ρ = true) (hK : G'.K = G.K) (hc : G'.ca = G.ca) (hm : G'.me = G.me) : Rel G' F ι ω ρ S σ H := by
  obtain ⟨K, ca, x, me⟩ := G
  obtain ⟨K', ca', x', me'⟩ := G'
  cases hK; cases hc; cases hm
  refine ⟨r.pre, r.old, r.dom, r.fri, r.frw, r.b0, r.nd, r.dj, r.dw, r.sto, r.len, fun i s o h1 h2 => ?_, r.own⟩
  have q := r.env i s o h1 h2
  have ns := List.all_eq_true.mp hn s (List.mem_of_getElem? h1)
  cases q with
  | no => exact .no
  | val h => exact .val h
  | own q1 q2 q3 => exact .own q1 q2 q3
  | oob q1 q0 q2 q3 => exact .oob q1 q0 q2 q3
  | exn => cases ns
/-- the clauses -/
def hand (em : Nat → Nat → Option Bool) (c : Nat) (fs : List (Str × D)) (ρ : Ev) (S : Sto) : List (Nat × Option Nat × FS) → RSt
  | [] => .xc c fs ρ S
  | (h, some i, f) :: l => (match em c h with
    | some true => if noExn ρ = true then (match f (ρ.set i (.exn c fs)) S with
      | .nx ρ' S' => if noExn (ρ'.set i .no) = true then .nx (ρ'.set i .no) S' else .bad
      | .bk ρ' S' => if noExn (ρ'.set i .no) = true then .bk (ρ'.set i .no) S' else .bad
      | .ct ρ' S' => if noExn (ρ'.set i .no) = true then .ct (ρ'.set i .no) S' else .bad
      | .rt d fl S' => .rt d fl S'
      | _ => .bad) else .bad
    | some false => hand em c fs ρ S l
    | none => .bad)
  | (h, none, f) :: l => (match em c h with
    | some true => (match f ρ S with
      | .nx ρ' S' => .nx ρ' S'
      | .bk ρ' S' => .bk ρ' S'
      | .ct ρ' S' => .ct ρ' S'
      | .rt d fl S' => .rt d fl S'
      | _ => .bad)
    | some false => hand em c fs ρ S l
    | none => .bad)
def sTry (em : Nat → Nat → Option Bool) (fb : FS) (l : List (Nat × Option Nat × FS)) : FS := fun ρ S => match fb ρ S with
  | .xc c fs ρ' S' => hand em c fs ρ' S' l
  | r => r
inductive ClS (G : Gm) : List Cl → List (Nat × Option Nat × FS) → Prop
  | nil : ClS G [] []
  | cons {k : Cl} {h i : Nat} {f : FS} {l : List Cl} {m : List (Nat × Option Nat × FS)} : k.c = .ref (G.ca h) → k.i = some i → (∀ (a : Addr) (dd : Option Addr) (c : Nat), SS ⟨G.K, G.ca, some (a, dd, c), G.me⟩ (fun _ _ _ _ => False) (k.ts a (.ref (G.ca c)) dd) f) → ClS G l m → ClS G (k :: l) ((h, some i, f) :: m)
  | only {k : Cl} {h : Nat} {f : FS} {l : List Cl} {m : List (Nat × Option Nat × FS)} : k.c = .ref (G.ca h) → k.i = none → (∀ (a : Addr) (dd : Option Addr) (c : Nat), SS G (fun _ _ _ _ => False) (k.ts a (.ref (G.ca c)) dd) f) → ClS G l m → ClS G (k :: l) ((h, none, f) :: m)
theorem Rel.exn {a : Addr} {dd : Option Addr} {c i : Nat} {fv : List (Str × V)} {fs : List (Str × D)} (r : Rel G F ι ω ρ S σ H) (hn : noExn ρ = true) (n1 : NI dd ι) (n2 : NI dd (F.B0 ++ ω)) (h1 : XD H dd fv) (h2 : RFs G.K G.ca ι (F.B0 ++ ω) H fv fs) :
    Rel ⟨G.K, G.ca, some (a, dd, c), G.me⟩ F ι ω (ρ.set i (.exn c fs)) S (σ.set i (some (.ref a))) H := by
  have r' : Rel ⟨G.K, G.ca, some (a, dd, c), G.me⟩ F ι ω ρ S σ H := r.gm hn rfl rfl rfl
  refine { r' with len := by rw [List.length_set, List.length_set]; exact r.len, env := fun j s o q1 q2 => ?_, own := fun j k b s s' hjk q1 q2 q3 q4 q5 q6 => ?_ }
  · by_cases e : i = j
    · subst e
      have hi : i < ρ.length := by
        have := (List.getElem?_eq_some_iff.mp q1).1
        rwa [List.length_set] at this
      rw [List.getElem?_set_self hi] at q1
      rw [List.getElem?_set_self (by rw [← r.len]; exact hi)] at q2
      cases q1; cases q2
      exact .exn rfl n1 n2 h1 h2
    · rw [List.getElem?_set_ne e] at q1 q2
      exact r'.env j s o q1 q2
  · by_cases e : i = j
    · subst e
      have hi : i < ρ.length := by
        have := (List.getElem?_eq_some_iff.mp q1).1
        rwa [List.length_set] at this
      rw [List.getElem?_set_self hi] at q1
      cases q1; cases q3
    · by_cases e' : i = k
      · subst e'
        have hi : i < ρ.length := by
          have := (List.getElem?_eq_some_iff.mp q2).1
          rwa [List.length_set] at this
        rw [List.getElem?_set_self hi] at q2
        cases q2; cases q4
      · rw [List.getElem?_set_ne e] at q1 q5
        rw [List.getElem?_set_ne e'] at q2 q6
        exact r.own j k b s s' hjk q1 q2 q3 q4 q5 q6
theorem hand_ok {em : Nat → Nat → Option Bool} (hem : ∀ c h b, em c h = some b → PySem.W.exmOne G.K (.ref (G.ca c)) (.ref (G.ca h)) = some b) {c : Nat} {fs : List (Str × D)} {W0 : WX} {dd : Option Addr} {fv : List (Str × V)}
    (rel : Rel G F ι ω ρ S σ H) (n1 : NI dd ι) (n2 : NI dd (F.B0 ++ ω)) (h1 : XD H dd fv) (h2 : RFs G.K G.ca ι (F.B0 ++ ω) H fv fs) :
    ∀ {l : List Cl} {m : List (Nat × Option Nat × FS)}, ClS G l m → PostS G W0 F Dd ι ω H (hand em c fs ρ S m) → clW G.K W0 Dd l (.ref (G.ca c)) dd σ H := by
  intro l m hc
  induction hc with
  | nil => exact fun h => h ι ω σ dd fv H ExtS.refl rel n1 n2 h1 h2
  | @cons k h i f l m e1 e2 hs hl ih =>
    intro hp
    unfold hand at hp
    split at hp
    · rename_i ee
      unfold clW
      rw [e1]
      refine oK_of (hem _ _ _ ee) ?_
      show ∀ a, H a = none → _
      intro a ha
      rw [e2]
      show k.ts a _ dd (gone i Dd) _ H
      split at hp
      · rename_i hn
        have r2 := rel.exn (a := a) (c := c) (i := i) hn n1 n2 h1 h2
        refine hs a dd c F (gone i Dd) ι ω (ρ.set i (.exn c fs)) S _ H r2 ?_
        cases er : f (ρ.set i (.exn c fs)) S with
        | nx ρ' S' =>
          rw [er] at hp
          dsimp only at hp
          split at hp
          · rename_i hn2
            exact fun ι' ω' σ' H' x r' => hp ι' ω' _ H' x ((r'.drop i none).gm hn2 rfl rfl rfl)
          · exact hp.elim
        | bk ρ' S' =>
          rw [er] at hp
          dsimp only at hp
          split at hp
          · rename_i hn2
            exact fun ι' ω' σ' H' x r' => hp ι' ω' _ H' x ((r'.drop i none).gm hn2 rfl rfl rfl)
          · exact hp.elim
        | ct ρ' S' =>
          rw [er] at hp
          dsimp only at hp
          split at hp
          · rename_i hn2
            exact fun ι' ω' σ' H' x r' => hp ι' ω' _ H' x ((r'.drop i none).gm hn2 rfl rfl rfl)
          · exact hp.elim
        | rt d fl S' => rw [er] at hp; exact hp
        | xc => rw [er] at hp; exact hp.elim
        | bad => rw [er] at hp; exact hp.elim
      · exact hp.elim
    · rename_i ee
      unfold clW
      rw [e1]
      refine oK_of (hem _ _ _ ee) ?_
      exact ih hp
    · exact hp.elim
  | @only k h f l m e1 e2 hs hl ih =>
    intro hp
    unfold hand at hp
    split at hp
    · rename_i ee
      unfold clW
      rw [e1]
      refine oK_of (hem _ _ _ ee) ?_
      show ∀ a, H a = none → _
      intro a ha
      rw [e2]
      show k.ts a _ dd Dd σ H
      refine hs a dd c F Dd ι ω ρ S σ H rel ?_
      cases er : f ρ S with
      | nx ρ' S' => rw [er] at hp; exact hp
      | bk ρ' S' => rw [er] at hp; exact hp
      | ct ρ' S' => rw [er] at hp; exact hp
      | rt d fl S' => rw [er] at hp; exact hp
      | xc => rw [er] at hp; exact hp.elim
      | bad => rw [er] at hp; exact hp.elim
    · rename_i ee
      unfold clW
      rw [e1]
      refine oK_of (hem _ _ _ ee) ?_
      exact ih hp
    · exact hp.elim
theorem ss_try {em : Nat → Nat → Option Bool} (hem : ∀ c h b, em c h = some b → PySem.W.exmOne G.K (.ref (G.ca c)) (.ref (G.ca h)) = some b) {tb : WX → TS} {fb : FS} {l : List Cl} {m : List (Nat × Option Nat × FS)} (hb : ∀ W, SS G W (tb W) fb) (hl : ClS G l m) :
    SS G E (uTry G.K E l tb) (sTry em fb m) := by
  intro F D ι ω ρ S σ H rel h
  refine hb _ F D ι ω ρ S σ H rel ?_
  unfold sTry at h
  cases e : fb ρ S with
  | xc c fs ρ' S' =>
    rw [e] at h
    exact fun ι' ω' σ' dd fv H' x r' n1 n2 h1 h2 => hand_ok hem r' n1 n2 h1 h2 hl (PostS.ex h x)
  | nx ρ' S' => rw [e] at h; exact h
  | bk ρ' S' => rw [e] at h; exact h
  | ct ρ' S' => rw [e] at h; exact h
  | rt d fl S' => rw [e] at h; exact h
  | bad => rw [e] at h; exact h
def fXf (xf : Nat → Str → Bool) (i : Nat) (f : Str) : FE := fun ρ S => match ρ[i]? with
  | some (.exn c fs) => if xf c f = true then (match fs.lookup f with
    | some d => .ok d .tr S
    | none => .bad) else .bad
  | _ => .bad
theorem se_xf {xf : Nat → Str → Bool} {a : Addr} {dd : Option Addr} {c : Nat} (i : Nat) (f : Str) (hx : G.x = some (a, dd, c)) (hxf : ∀ c f, xf c f = true → XfC G.K (G.ca c) ∧ PySem.W.findIn G.K (.ref (G.ca c)) f = some none) : SE G E (uXf G.K a (.ref (G.ca c)) dd i f) (fXf xf i f) := by
  intro F ι ω ρ S σ H Q rel h
  unfold fXf at h
  split at h
  · rename_i c' fs e
    have hi : i < σ.length := by rw [← rel.len]; exact (List.getElem?_eq_some_iff.mp e).1
    have q := rel.env i _ _ e (List.getElem?_eq_getElem hi)
    have e2 : σ[i]? = some σ[i] := List.getElem?_eq_getElem hi
    generalize σ[i] = o at q e2
    cases q with
    | exn q1 q2 q3 q4 q5 =>
      rw [hx] at q1
      cases q1
      split at h
      · rename_i hc
        split at h
        · rename_i d ed
          obtain ⟨x1, x2⟩ := hxf _ _ hc
          rcases q5.look (f := f) with ⟨d', v, g1, g2, g3⟩ | ⟨g1, g2⟩
          · rw [ed] at g1; cases g1
            cases dd with
            | none => rw [show _ = [] from q4] at g2; cases g2
            | some b => exact ⟨_, b, _, v, rfl, x1, x2, e2, rfl, q4, g2, PostE.now h rel g3⟩
          · rw [ed] at g1; cases g1
        · exact h.elim
      · exact h.elim
  · exact h.elim
end
def runF (n m : Nat) (b : FS) : FF := fun ds S => if ds.length = m then (match b (ds.map .val ++ List.replicate (n - m) .no) S with
  | .nx _ S' => .ok .non .tr S'
  | .rt d f S' => .ok d f S'
  | .xc c fs _ S' => .xc c fs S'
  | _ => .bad) else .bad
section
variable {K : PySem.W.Frag} {ca : Nat → Addr} {H : Hp} {Q : VK} {E : XK} {vs : List V}
theorem run_len {N P : List Str} {b : FS} (h : SpF K ca (runF N.length P.length b) vs H Q E) : vs.length = P.length := by
  obtain ⟨ι, B, S, ds, h1, h2, h3, h4, h5⟩ := h
  unfold runF at h5
  split at h5
  · rename_i e; rw [h4.len]; exact e
  · exact h5.elim
theorem start_rel {ι B : List Addr} {S : Sto} {ds : List D} {N : List Str} (h1 : ι.Nodup) (h2 : ∀ b ∈ B, H b ≠ none ∧ b ∉ ι) (h3 : RS K ca ι B H S) (h4 : RAll K ca ι B H vs ds) :
    Rel ⟨K, ca, none, none⟩ ⟨H, ι, B⟩ ι [] (ds.map .val ++ List.replicate (N.length - ds.length) .no) S (L2.start N vs) H := by
  refine ⟨List.prefix_rfl, fun _ _ h _ => h, fun _ h => h, fun _ h n => absurd h n, fun _ h => (nomatch h), h2, h1, fun _ h => (nomatch h), fun _ h => (nomatch h), ?_, ?_, fun i s o e1 e2 => ?_, fun i j a s s' hij e1 e2 e3 => ?_⟩
  · rw [List.append_nil]; exact h3
  · unfold L2.start; rw [List.length_append, List.length_append, List.length_map, List.length_map, List.length_replicate, List.length_replicate, h4.len]
  · unfold L2.start at e2
    rw [List.append_nil]
    by_cases hi : i < ds.length
    · rw [List.getElem?_append_left (by rw [List.length_map]; exact hi), List.getElem?_map, List.getElem?_eq_getElem hi] at e1
      cases e1
      obtain ⟨v, q1, q2⟩ := h4.at i (List.getElem?_eq_getElem hi)
      rw [List.getElem?_append_left (by rw [List.length_map, h4.len]; exact hi), List.getElem?_map, q1] at e2
      cases e2
      exact .val q2
    · rw [List.getElem?_append_right (by rw [List.length_map]; omega), List.getElem?_replicate] at e1
      split at e1
      · cases e1; exact .no
      · cases e1
  · exfalso
    by_cases hi : i < ds.length
    · rw [List.getElem?_append_left (by rw [List.length_map]; exact hi), List.getElem?_map, List.getElem?_eq_getElem hi] at e1
      cases e1; cases e3
    · rw [List.getElem?_append_right (by rw [List.length_map]; omega), List.getElem?_replicate] at e1
      split at e1
      · cases e1; cases e3
      · cases e1
theorem run_ok {N P : List Str} {t : TS} {b : FS} (hb : SS ⟨K, ca, none, none⟩ (fun cls d _ H => E cls d H) t b) (h : SpF K ca (runF N.length P.length b) vs H Q E) : t { nx := fun _ H' => Q .non H', rt := Q } (L2.start N vs) H := by
  obtain ⟨ι, B, S, ds, h1, h2, h3, h4, h5⟩ := h
  unfold runF at h5
  split at h5
  · rename_i el
    refine hb ⟨H, ι, B⟩ _ ι [] _ S _ H (start_rel h1 h2 h3 h4) ?_
    rw [el]
    cases e : b (ds.map .val ++ List.replicate (N.length - P.length) .no) S with
    | nx ρ' S' =>
      rw [e] at h5
      exact fun ι' ω' σ' H' x r => h5 ι' .non H' r.ext0 r.nd (r.sto.less fun a z => List.mem_append_left _ z) .non
    | rt d f S' => rw [e] at h5; exact h5
    | xc c fs ρ' S' =>
      rw [e] at h5
      exact fun ι' ω' σ' dd fv H' x r n1 n2 g1 g2 => h5 ι' dd fv H' r.ext0 r.nd (r.sto.less fun a z => List.mem_append_left _ z) n1 (n2.less fun a z => List.mem_append_left _ z) g1 (g2.per (Per.less fun a z => List.mem_append_left _ z))
    | bk => rw [e] at h5; exact h5.elim
    | ct => rw [e] at h5; exact h5.elim
    | bad => rw [e] at h5; exact h5.elim
  · exact h5.elim
end
end
end Fx
namespace Fx
open PySem PySem.Spec PyProof.Rows L2 U
noncomputable section
abbrev Gd := Option (Nat × List D)
/-- the walked cell is as it was -/
def gOk : Gd → Sto → Prop
  | none, _ => True
  | some (k, ds), S => S[k]? = some (.lst ds)
structure Wk (K : PySem.W.Frag) (ca : Nat → Addr) (ι1 B1 : List Addr) (H1 : Hp) (J : It) (ds : List D) (g : Gd) : Prop where
  go : ∀ ι2 B2 H2 S2 i, Per ι1 B1 H1 ι2 B2 H2 → RS K ca ι2 B2 H2 S2 → (∀ a ∈ B2, H2 a ≠ none) → gOk g S2 → i < ds.length → J.go i H2
  stop : ∀ ι2 B2 H2 S2, Per ι1 B1 H1 ι2 B2 H2 → RS K ca ι2 B2 H2 S2 → (∀ a ∈ B2, H2 a ≠ none) → gOk g S2 → J.stop ds.length H2
  yld : ∀ ι2 B2 H2 S2 i x H', Per ι1 B1 H1 ι2 B2 H2 → RS K ca ι2 B2 H2 S2 → (∀ a ∈ B2, H2 a ≠ none) → gOk g S2 → i < ds.length → J.yld i H2 x H' → (∀ a o, H2 a = some o → H' a = some o) ∧ ∃ d, ds[i]? = some d ∧ RV K ca ι2 B2 H' x d
inductive RI where
  | ok (ds : List D) (g : Gd) (S : Sto) | xc (c : Nat) (fs : List (Str × D)) (S : Sto) | bad
abbrev FI := Ev → Sto → RI
def PostI (G : Gm) (E : WX) (F : Fr) (ι ω : List Addr) (ρ : Ev) (σ : L2.St) (H : Hp) (R : It → Hp → Prop) : RI → Prop
  | .ok ds g S' => ∀ ι' J H', Ext ι H ι' H' → Rel G F ι' ω ρ S' σ H' → Wk G.K G.ca ι' (F.B0 ++ ω) H' J ds g → R J H'
  | .xc c fs S' => ∀ ι' dd fv H', Ext ι H ι' H' → Rel G F ι' ω ρ S' σ H' → NI dd ι' → NI dd (F.B0 ++ ω) → XD H' dd fv → RFs G.K G.ca ι' (F.B0 ++ ω) H' fv fs → E (.ref (G.ca c)) dd σ H'
  | .bad => False
def SI (G : Gm) (E : WX) (t : TI) (f : FI) : Prop := ∀ F ι ω ρ S σ H R, Rel G F ι ω ρ S σ H → PostI G E F ι ω ρ σ H R (f ρ S) → t σ H R
/-- the items of a value that is walked -/
def charsD (z : Str) : List D := (sl z).map fun c => .str ⟨#[c]⟩
def itemsD (S : Sto) : D → Option (List D × Gd)
  | .str z => some (charsD z, none)
  | .lst ds => some (ds, none)
  | .tup ds => some (ds, none)
  | .cel k => (match S[k]? with | some (.lst ds) => some (ds, some (k, ds)) | _ => none)
  | _ => none
def fIter (fe : FE) : FI := fun ρ S => match fe ρ S with
  | .ok d f S1 => if f.nop = true then (match itemsD S1 d with
    | some (ds, g) => .ok ds g S1
    | none => .bad) else .bad
  | .xc c fs S1 => .xc c fs S1
  | .bad => .bad
theorem rall_chars {K : PySem.W.Frag} {ca : Nat → Addr} {ι B : List Addr} {H : Hp} (z : Str) : RAll K ca ι B H (chars z) (charsD z) := by
  unfold chars charsD
  show RAll K ca ι B H ((sl z).map _) _
  generalize sl z = l
  induction l with
  | nil => exact .nil
  | cons c l ih => exact .cons (.str _) ih
def JK (K : PySem.W.Frag) : Kd → It
  | .l a => Itl K a
  | .t a => Itt K a
  | .s z _ => Its z
/-- a value with its items, now and later -/
structure Sq (K : PySem.W.Frag) (ca : Nat → Addr) (ι1 B1 : List Addr) (H1 : Hp) (v : V) (k : Kd) (ds : List D) (g : Gd) : Prop where
  now : ∀ (R : It → Hp → Prop), R (JK K k) H1 → goIt K v H1 R
  later : ∀ ι2 B2 H2 S2, Per ι1 B1 H1 ι2 B2 H2 → RS K ca ι2 B2 H2 S2 → gOk g S2 → ∃ xs, k.sq K H2 xs ∧ RAll K ca ι2 B2 H2 xs ds
  kd : ∀ a, v = .ref a → kdOf K H1 a = some k
section
variable {G : Gm} {E : WX} {F : Fr} {Dd : Ends} {ι ω ι1 ω1 : List Addr} {ρ : Ev} {S S1 : Sto} {σ : L2.St} {H H1 : Hp}
theorem sq_of {v : V} {d : D} {ds : List D} {g : Gd} (rs : RS G.K G.ca ι (F.B0 ++ ω) H S) (h : RV G.K G.ca ι (F.B0 ++ ω) H v d) (e : itemsD S d = some (ds, g)) : ∃ k, Sq G.K G.ca ι (F.B0 ++ ω) H v k ds g := by
  unfold itemsD at e
  split at e
  · cases e
    cases h
    refine ⟨.s _ 0, fun R h => h, fun ι2 B2 H2 S2 p rs g => ⟨_, rfl, rall_chars _⟩, fun a z => by cases z⟩
  · cases e
    cases h with
    | @lst a xs ds h1 h2 h3 h4 =>
      refine ⟨.l a, fun R h => ?_, fun ι2 B2 H2 S2 p rs g => ⟨xs, .inl (.inl (p.at' _ _ h3 h1 h2).1), h4.per p⟩, fun b z => ?_⟩
      · show match rdL G.K H a with | some _ => _ | none => _
        rw [rdL_of h3]; exact h
      · cases z; unfold kdOf; rw [rdL_of h3]
  · cases e
    cases h with
    | @tup a xs ds h1 h2 h3 h4 =>
      have e1 : rdL G.K H a = none := by unfold rdL; rw [h3]
      refine ⟨.t a, fun R h => ?_, fun ι2 B2 H2 S2 p rs g => ⟨xs, .inl (.inl (p.at' _ _ h3 h1 h2).1), h4.per p⟩, fun b z => ?_⟩
      · show match rdL G.K H a with | some _ => _ | none => _
        rw [e1]
        show match rdT G.K H a with | some _ => _ | none => _
        rw [rdT_of h3]; exact h
      · cases z; unfold kdOf; rw [e1]; dsimp only; rw [rdT_of h3]
  · rename_i k
    split at e
    · rename_i ds' es
      cases e
      cases h with
      | @cel a k hk =>
        obtain ⟨xs, e2, ra⟩ := cel_at rs hk es
        refine ⟨.l a, fun R h => ?_, fun ι2 B2 H2 S2 p rs2 g => ?_, fun b z => ?_⟩
        · show match rdL G.K H a with | some _ => _ | none => _
          rw [rdL_of e2]; exact h
        · have g : S2[k]? = some (.lst ds) := g
          cases rs2.at' k a _ (p.ix _ _ hk) g with
          | lst q1 q2 => exact ⟨_, .inl (.inl q1), q2⟩
        · cases z; unfold kdOf; rw [rdL_of e2]
    · cases e
  · cases e
theorem Sq.wk {K : PySem.W.Frag} {ca : Nat → Addr} {B1 : List Addr} {v : V} {k : Kd} {ds : List D} {g : Gd} (q : Sq K ca ι1 B1 H1 v k ds g) : Wk K ca ι1 B1 H1 (JK K k) ds g := by
  have key : ∀ ι2 B2 H2 S2, Per ι1 B1 H1 ι2 B2 H2 → RS K ca ι2 B2 H2 S2 → gOk g S2 → ∃ xs, RAll K ca ι2 B2 H2 xs ds ∧ ∃ Gx : Hp → Prop, Gx H2 ∧ Walk (JK K k) xs.length Gx (YAt xs) := fun ι2 B2 H2 S2 p rs g => by
    obtain ⟨xs, h1, h2⟩ := q.later ι2 B2 H2 S2 p rs g
    refine ⟨xs, h2, ?_⟩
    cases k with
    | l a => exact ⟨_, h1, walk_list⟩
    | t a => exact ⟨_, h1, walk_tup⟩
    | s z t => exact ⟨fun _ => True, trivial, by rw [show xs = chars z from h1]; exact walk_chars⟩
  refine ⟨fun ι2 B2 H2 S2 i p rs hb g hi => ?_, fun ι2 B2 H2 S2 p rs hb g => ?_, fun ι2 B2 H2 S2 i x H' p rs hb g hi y => ?_⟩
  · obtain ⟨xs, h1, Gx, h2, w⟩ := key ι2 B2 H2 S2 p rs g
    exact w.goes i H2 (by rw [h1.len]; exact hi) h2
  · obtain ⟨xs, h1, Gx, h2, w⟩ := key ι2 B2 H2 S2 p rs g
    rw [← h1.len]; exact w.stops H2 h2
  · obtain ⟨xs, h1, Gx, h2, w⟩ := key ι2 B2 H2 S2 p rs g
    obtain ⟨rfl, h3⟩ := w.yields i H2 x H' (by rw [h1.len]; exact hi) h2 y
    exact ⟨fun _ _ z => z, h1.atV i h3⟩
theorem si_iter {te : TE} {fe : FE} (he : SE G E te fe) : SI G E (uIter G.K te) (fIter fe) := by
  intro F ι ω ρ S σ H R rel h
  refine he F ι ω ρ S σ H _ rel ?_
  unfold fIter at h
  cases e : fe ρ S with
  | ok d f S1 =>
    rw [e] at h
    intro ι1 v H1 e1 r1 rf
    dsimp only at h
    split at h
    · rename_i hf
      split at h
      · rename_i ds g ei
        obtain ⟨k, q⟩ := sq_of r1.sto (rf.rv (by intro z; subst z; cases hf)) ei
        exact q.now _ (h ι1 _ H1 e1 r1 q.wk)
      · exact h.elim
    · exact h.elim
  | xc c fs S1 => rw [e] at h; exact h
  | bad => rw [e] at h; exact h
def rngD (lo : Int) (n : Nat) : List D := (List.range n).map fun i => .int (lo + (i : Nat))
theorem wk_rng {K : PySem.W.Frag} {ca : Nat → Addr} {B1 : List Addr} (lo : Int) (n : Nat) : Wk K ca ι1 B1 H1 (Itr lo n) (rngD lo n) none := by
  have hl : (rngD lo n).length = n := by unfold rngD; rw [List.length_map, List.length_range]
  refine ⟨fun ι2 B2 H2 S2 i p rs hb g hi => ?_, fun ι2 B2 H2 S2 p rs hb g => ?_, fun ι2 B2 H2 S2 i x H' p rs hb g hi y => ?_⟩
  · rw [hl] at hi; exact hi
  · rw [hl]; exact Nat.le_refl n
  · rw [hl] at hi
    obtain ⟨rfl, rfl⟩ := (show H' = H2 ∧ x = .int (lo + (i : Nat)) from y)
    refine ⟨fun _ _ z => z, .int (lo + (i : Nat)), ?_, .int _⟩
    unfold rngD
    rw [List.getElem?_map, List.getElem?_range hi]; rfl
def fRng1 (fa : FA) : FI := fun ρ S => match fa ρ S with
  | .ok [.int j] _ S1 => if -(2 ^ 62) ≤ j ∧ j < 2 ^ 62 then .ok (rngD 0 j.toNat) none S1 else .bad
  | .xc c fs S1 => .xc c fs S1
  | _ => .bad
theorem si_rng1 {ta : TA} {fa : FA} (ha : SA G E ta fa) : SI G E (iRng1 ta) (fRng1 fa) := by
  intro F ι ω ρ S σ H R rel h
  refine ha F ι ω ρ S σ H _ rel ?_
  unfold fRng1 at h
  split at h
  · rename_i j t S1 e
    rw [e]
    intro ι1 vs H1 e1 r1 ra
    obtain ⟨v, rfl, q⟩ := pair1 ra.pair
    rw [q.sInt]
    split at h
    · rename_i hc
      exact ⟨j, rfl, hc.1, hc.2, h ι1 _ H1 e1 r1 (wk_rng 0 _)⟩
    · exact h.elim
  · rename_i e; rw [e]; exact h
  · exact h.elim
def enumD (ds : List D) : List D := ds.mapIdx fun i d => .tup [.int (i : Nat), d]
def fEnum (fa : FA) : FI := fun ρ S => match fa ρ S with
  | .ok [d] true S1 => (match d with
    | .str z => .ok (enumD (charsD z)) none S1
    | d => (match itemsD S1 d with
      | some (ds, g) => .ok (enumD ds) g S1
      | none => .bad))
  | .xc c fs S1 => .xc c fs S1
  | _ => .bad
theorem new_pair {K : PySem.W.Frag} {ca : Nat → Addr} {ι B : List Addr} {T : Addr} {xs : List V} {ds : List D} {S : Sto} (rs : RS K ca ι B H S) (hb : ∀ a ∈ B, H a ≠ none) (hT : H T = none) (ra : RAll K ca ι B H xs ds) : RV K ca ι B (upd H T (.tup xs)) (.ref T) (.tup ds) :=
  .tup (fun z => rs.here T z hT) (fun z => hb T z hT) upd_same (ra.per (Per.new hT))
theorem wk_enum {K : PySem.W.Frag} {ca : Nat → Addr} {B1 : List Addr} {k : Kd} {ds : List D} {g : Gd} (later : ∀ ι2 B2 H2 S2, Per ι1 B1 H1 ι2 B2 H2 → RS K ca ι2 B2 H2 S2 → gOk g S2 → ∃ xs, k.sq K H2 xs ∧ RAll K ca ι2 B2 H2 xs ds) : Wk K ca ι1 B1 H1 (JEnum (JKd K k)) (enumD ds) g := by
  have hl : (enumD ds).length = ds.length := by unfold enumD; simp
  refine ⟨fun ι2 B2 H2 S2 i p rs hb g hi => ?_, fun ι2 B2 H2 S2 p rs hb g => ?_, fun ι2 B2 H2 S2 i x H' p rs hb g hi y => ?_⟩
  · obtain ⟨xs, h1, h2⟩ := later ι2 B2 H2 S2 p rs g
    exact walk_enumK.goes i H2 (by rw [h2.len]; omega) h1
  · obtain ⟨xs, h1, h2⟩ := later ι2 B2 H2 S2 p rs g
    rw [hl, ← h2.len]; exact walk_enumK.stops H2 h1
  · obtain ⟨xs, h1, h2⟩ := later ι2 B2 H2 S2 p rs g
    obtain ⟨T, a, b, rfl, hT, rfl, e1, e2⟩ := walk_enumK.yields i H2 x H' (by rw [h2.len]; omega) h1 y
    cases e1
    obtain ⟨d, e3, rd⟩ := h2.atV i e2
    refine ⟨fun c o z => by rw [upd_ne (ne_of_none z hT)]; exact z, .tup [.int (i : Nat), d], ?_, new_pair rs hb hT (.cons (.int _) (.cons rd .nil))⟩
    unfold enumD
    rw [List.getElem?_mapIdx, e3]; rfl
theorem si_enum {ta : TA} {fa : FA} (ha : SA G E ta fa) : SI G E (uEnum G.K ta) (fEnum fa) := by
  intro F ι ω ρ S σ H R rel h
  refine ha F ι ω ρ S σ H _ rel ?_
  unfold fEnum at h
  split at h
  · rename_i d S1 e
    rw [e]
    intro ι1 vs H1 e1 r1 ra
    have ra : RAll G.K G.ca ι1 (F.B0 ++ ω) H1 vs [d] := ra
    cases ra with
    | cons rv r2 =>
      cases r2
      split at h
      · cases rv
        exact h ι1 _ H1 e1 r1 (wk_enum fun ι2 B2 H2 S2 p rs g => ⟨_, rfl, rall_chars _⟩)
      · rename_i hn
        split at h
        · rename_i ds g ei
          obtain ⟨k, q⟩ := sq_of r1.sto rv ei
          have hv : ∃ a, ‹V› = .ref a := by
            cases rv <;> first | exact ⟨_, rfl⟩ | (exact absurd rfl (hn _)) | (cases ei; done)
          obtain ⟨a, rfl⟩ := hv
          exact oK_of (q.kd a rfl) (h ι1 _ H1 e1 r1 (wk_enum q.later))
        · exact h.elim
  · rename_i e; rw [e]; exact h
  · exact h.elim
open Classical in
def loopS (g : Gd) (set : FG) (body : FS) : List D → Ev → Sto → RSt
  | [], ρ, S => if gOk g S then .nx ρ S else .bad
  | d :: ds, ρ, S => if gOk g S then (match set d ρ S with
    | some ρ1 => (match body ρ1 S with
      | .nx ρ2 S2 => loopS g set body ds ρ2 S2
      | .ct ρ2 S2 => loopS g set body ds ρ2 S2
      | .bk ρ2 S2 => .nx ρ2 S2
      | r => r)
    | none => .bad) else .bad
def sFor (it : FI) (set : FG) (body : FS) : FS := fun ρ S => match it ρ S with
  | .ok ds g S1 => loopS g set body ds ρ S1
  | .xc c fs S1 => .xc c fs ρ S1
  | .bad => .bad
theorem ss_for {wi : TI} {fi : FI} {tg : TG} {fg : FG} {js : List Nat} {tb : TS} {fb : FS} (hi : SI G E wi fi) (hg : SG G tg js fg) (hb : SS G E tb fb) : SS G E (tFor wi tg tb) (sFor fi fg fb) := by
  intro F D ι ω ρ S σ H rel h
  refine hi F ι ω ρ S σ H _ rel ?_
  unfold sFor at h
  cases e : fi ρ S with
  | xc c fs S1 =>
    rw [e] at h
    exact fun ι' dd fv H' x rel' n1 n2 h1 h2 => h ι' ω σ dd fv H' x.s rel' n1 n2 h1 h2
  | bad => rw [e] at h; exact h
  | ok ds g S1 =>
    rw [e] at h
    intro ι1 J H1 e1 r1 wk
    refine ⟨fun i m σ' H' => m = ds.length - i ∧ i ≤ ds.length ∧ ∃ ι' ω' ρ' S', Rel G F ι' ω' ρ' S' σ' H' ∧ ExtS ι1 ω H1 ι' ω' H' ∧ PostS G E F D ι' ω' H' (loopS g fg fb (ds.drop i) ρ' S'),
      ⟨ds.length, by simp, Nat.zero_le _, ι1, ω, ρ, S1, r1, ExtS.refl, by rw [List.drop_zero]; exact PostS.ex h e1.s⟩, ?_⟩
    rintro i m σ' H' ⟨rfl, hle, ι', ω', ρ', S', r', x', p'⟩
    have pp := x'.per (B := F.B0)
    rcases Nat.lt_or_ge i ds.length with hlt | hge
    · rw [List.drop_eq_getElem_cons hlt] at p'
      unfold loopS at p'
      split at p'
      · rename_i gk
        refine .inr ⟨wk.go _ _ _ _ i pp r'.sto r'.bd gk hlt, fun σ2 H2 => ∃ ι2 ω2 ρ2 S2, Rel G F ι2 ω2 ρ2 S2 σ2 H2 ∧ ExtS ι1 ω H1 ι2 ω2 H2 ∧ PostS G E F D ι2 ω2 H2 (loopS g fg fb (ds.drop (i + 1)) ρ2 S2), fun σ2 H2 q => ⟨ds.length - (i + 1), by omega, rfl, hlt, q⟩, fun x H'' y => ?_⟩
        obtain ⟨gr, d, ed, rv⟩ := wk.yld _ _ _ _ i x H'' pp r'.sto r'.bd gk hlt y
        rw [List.getElem?_eq_getElem hlt] at ed
        cases ed
        have r2 := r'.gr gr
        have x2 : ExtS ι' ω' H' ι' ω' H'' := (Ext.gr gr).s
        refine hg F ι' ω' ρ' S' σ' H'' x _ _ r2 rv ?_
        split at p'
        · rename_i ρ1 eg
          try rw [eg]
          intro σ1 rel1 _
          refine hb F _ ι' ω' ρ1 S' σ1 H'' rel1 ?_
          have p2 := PostS.ex p' x2
          cases eb : fb ρ1 S' with
          | nx ρ2 S2 =>
            rw [eb] at p2
            exact fun ι2 ω2 σ2 H2 z rel2 => ⟨ι2, ω2, ρ2, S2, rel2, (x'.trans x2).trans z, PostS.ex p2 z⟩
          | ct ρ2 S2 =>
            rw [eb] at p2
            exact fun ι2 ω2 σ2 H2 z rel2 => ⟨ι2, ω2, ρ2, S2, rel2, (x'.trans x2).trans z, PostS.ex p2 z⟩
          | bk ρ2 S2 => rw [eb] at p2; exact p2
          | rt d fl S2 => rw [eb] at p2; exact p2
          | xc c fs ρ2 S2 => rw [eb] at p2; exact p2
          | bad => rw [eb] at p2; exact p2
        · exact p'.elim
      · exact p'.elim
    · obtain rfl : i = ds.length := by omega
      rw [List.drop_length] at p'
      unfold loopS at p'
      split at p'
      · rename_i gk
        exact .inl ⟨wk.stop _ _ _ _ pp r'.sto r'.bd gk, p' ι' ω' σ' H' ExtS.refl r'⟩
      · exact p'.elim
end
end
end Fx
namespace Fx
open PySem PySem.Spec PyProof.Rows L2 U
noncomputable section
section
variable {G : Gm} {E : WX} {F : Fr} {Dd : Ends} {ι ω ι1 ω1 : List Addr} {ρ : Ev} {S S1 : Sto} {σ : L2.St} {H H1 : Hp}
def wipeE (ρ : Ev) : List Nat → Ev
  | [] => ρ
  | v :: vs => (wipeE ρ vs).set v .no
theorem Rel.wipe (r : Rel G F ι ω ρ S σ H) : ∀ vs : List Nat, Rel G F ι ω (wipeE ρ vs) S (L2.wipe σ vs) H
  | [] => r
  | v :: vs => (r.wipe vs).drop v none
theorem wipe_idem (σ : L2.St) : ∀ vs : List Nat, L2.wipe (L2.wipe σ vs) vs = L2.wipe σ vs := by
  intro vs
  have key : ∀ us : List Nat, (∀ u ∈ us, u ∈ vs) → L2.wipe (L2.wipe σ us) vs = L2.wipe σ vs := by
    intro us
    induction us with
    | nil => intro _; rfl
    | cons u us ih =>
      intro h
      show L2.wipe ((L2.wipe σ us).set u none) vs = _
      rw [wipe_set (h u List.mem_cons_self), ih fun w hw => h w (List.mem_cons_of_mem _ hw)]
  exact key vs fun _ h => h
/-- one turn of a comprehension: what is held, what is in the store -/
abbrev StepC := D → List D → Sto → Option (List D × Sto)
open Classical in
def foldC (g : Gd) (step : StepC) : List D → List D → Sto → Option (List D × Sto)
  | [], acc, S => if gOk g S then some (acc, S) else none
  | d :: ds, acc, S => if gOk g S then (match step d acc S with
    | some (acc', S') => foldC g step ds acc' S'
    | none => none) else none
def step1 (set : FG) (tt te : FE) (ρ0 : Ev) : StepC := fun d acc S => match set d ρ0 S with
  | some ρ1 => (match tt ρ1 S with
    | .ok (.bl true) _ S1 => (match te ρ1 S1 with
      | .ok y f S2 => if (f.nop && decide (acc.length < lim)) = true then some (acc ++ [y], S2) else none
      | _ => none)
    | .ok (.bl false) _ S1 => some (acc, S1)
    | _ => none)
  | none => none
def fLcG (it : FI) (step : Ev → StepC) (vs : List Nat) : FE := fun ρ S => match it ρ S with
  | .ok ds g S1 => (match foldC g (step (wipeE ρ vs)) ds [] S1 with
    | some (acc, S2) => .ok (.lst acc) .fs S2
    | none => .bad)
  | .xc c fs S1 => .xc c fs S1
  | .bad => .bad
def fLc (it : FI) (set : FG) (tt te : FE) (vs : List Nat) : FE := fLcG it (step1 set tt te) vs
/-- what holds at a turn: the new list at Dn, behind what stood at (ι1, H1) -/
structure Ci (G : Gm) (F : Fr) (ω : List Addr) (Dn : Addr) (ι1 : List Addr) (H1 : Hp) (ρ0 : Ev) (σ0 : L2.St) (ι' : List Addr) (acc : List D) (S : Sto) (H : Hp) : Prop where
  rel : Rel G F ι' (Dn :: ω) ρ0 S σ0 H
  ext : Ext ι1 H1 ι' H
  at' : ∃ xs, H Dn = some (.lst xs) ∧ RAll G.K G.ca ι' (F.B0 ++ (Dn :: ω)) H xs acc
  fre : ∀ (i : Nat) (s : Sl), ρ0[i]? = some s → isOwn s = true → σ0[i]? ≠ some (some (.ref Dn))
theorem Rel.mutD (r : Rel G F ι ω ρ S σ H) {a : Addr} {o : HO} (ha : a ∈ ω) (hn : ∀ (i : Nat) (s : Sl), ρ[i]? = some s → isOwn s = true → σ[i]? ≠ some (some (.ref a))) : Rel G F ι ω ρ S σ (upd H a o) := by
  have pp : Per ι (F.B0 ++ ω) H ι (F.B0 ++ ω) (L2.upd H a o) := Per.upd (.inr (List.mem_append_right _ ha))
  refine ⟨r.pre, fun b u h n => ?_, fun b h => ?_, r.fri, r.frw, r.b0, r.nd, r.dj, fun b hb => ?_, r.sto.per (fun b hb => upd_ne fun z => r.dj a ha (by rw [← z]; exact hb)) pp, r.len, fun j t o' h1 h2 => ?_, r.own⟩
  · rw [upd_ne (fun z => by subst z; rw [r.frw _ ha] at h; cases h)]; exact r.old b u h n
  · unfold L2.upd; split
    · simp
    · exact r.dom b h
  · unfold L2.upd; split
    · simp
    · exact r.dw b hb
  · have q := r.env j t o' h1 h2
    have ne : isOwn t = true → ∀ b, o' = some (.ref b) → b ≠ a := fun ht b hb z => by
      subst z; subst hb
      exact hn j t h1 ht h2
    cases q with
    | no => exact .no
    | val h => exact .val (h.per pp)
    | own q1 q2 q3 => exact .own q1 (by rw [upd_ne (ne rfl _ rfl)]; exact q2) (q3.per pp)
    | oob q1 q0 q2 q3 => exact .oob q1 q0 (by rw [upd_ne (ne rfl _ rfl)]; exact q2) (q3.per pp)
    | exn q1 q2 q3 q4 q5 =>
      obtain ⟨g1, g2, g3⟩ := q4.per q2 q3 pp
      exact .exn q1 g2 g3 g1 (q5.per pp)
/-- a walk with what is held -/
theorem fold_ok {K : PySem.W.Frag} {ca : Nat → Addr} {B1 : List Addr} {J : It} {ds : List D} {g : Gd} (wk : Wk K ca ι1 B1 H1 J ds g) {step : StepC} {accF : List D} {SF : Sto} {Qd : Hp → Prop} (Body : V → Hp → (Hp → Prop) → Prop)
    (Pv : List D → Sto → Hp → Prop) (hP : ∀ acc S H, Pv acc S H → ∃ ι2 B2, Per ι1 B1 H1 ι2 B2 H ∧ RS K ca ι2 B2 H S ∧ ∀ a ∈ B2, H a ≠ none)
    (hs : ∀ (i : Nat) d acc acc' S S' H x H', Pv acc S H → gOk g S → i < ds.length → ds[i]? = some d → J.yld i H x H' → step d acc S = some (acc', S') → ∀ Nx : Hp → Prop, (∀ H2, Pv acc' S' H2 → Nx H2) → Body x H' Nx)
    {acc0 : List D} {S0 : Sto} {H0 : Hp} (h0 : Pv acc0 S0 H0) (hf : foldC g step ds acc0 S0 = some (accF, SF)) (hd : ∀ H, Pv accF SF H → Qd H) :
    ∃ W : Nat → Nat → Hp → Prop, (∃ m, W 0 m H0) ∧ ∀ i m H, W i m H → (J.stop i H ∧ Qd H) ∨ (J.go i H ∧ ∃ Nx : Hp → Prop, (∀ H', Nx H' → ∃ m', m' < m ∧ W (i + 1) m' H') ∧ ∀ x H', J.yld i H x H' → Body x H' Nx) := by
  refine ⟨fun i m H => m = ds.length - i ∧ i ≤ ds.length ∧ ∃ acc S, Pv acc S H ∧ foldC g step (ds.drop i) acc S = some (accF, SF), ⟨ds.length, by simp, Nat.zero_le _, acc0, S0, h0, by rw [List.drop_zero]; exact hf⟩, ?_⟩
  rintro i m H ⟨rfl, hle, acc, S, pv, hf⟩
  obtain ⟨ι2, B2, pp, rs, hb⟩ := hP acc S H pv
  rcases Nat.lt_or_ge i ds.length with hlt | hge
  · rw [List.drop_eq_getElem_cons hlt] at hf
    unfold foldC at hf
    split at hf
    · rename_i gk
      split at hf
      · rename_i acc' S' es
        refine .inr ⟨wk.go _ _ _ _ i pp rs hb gk hlt, fun H' => ∃ acc S, Pv acc S H' ∧ foldC g step (ds.drop (i + 1)) acc S = some (accF, SF), fun H' q => ⟨ds.length - (i + 1), by omega, rfl, hlt, q⟩, fun x H' y => ?_⟩
        exact hs i _ acc acc' S S' H x H' pv gk hlt (List.getElem?_eq_getElem hlt) y es _ fun H2 p2 => ⟨acc', S', p2, hf⟩
      · cases hf
    · cases hf
  · obtain rfl : i = ds.length := by omega
    rw [List.drop_length] at hf
    unfold foldC at hf
    split at hf
    · rename_i gk
      cases hf
      exact .inl ⟨wk.stop _ _ _ _ pp rs hb gk, hd H pv⟩
    · cases hf
theorem Ci.lat {Dn : Addr} {ρ0 : Ev} {σ0 : L2.St} {ι' : List Addr} {acc : List D} {ι0 : List Addr} {H0 : Hp} (c : Ci G F ω Dn ι0 H0 ρ0 σ0 ι' acc S H) (hD : H0 Dn = none) : Per ι0 (F.B0 ++ ω) H0 ι' (F.B0 ++ (Dn :: ω)) H := by
  refine ⟨fun a o h1 h2 h3 => ?_, fun _ _ h => ix_pre c.ext.pre h⟩
  rw [List.mem_append, not_or] at h3
  refine ⟨c.ext.keep a o h1 h2, c.ext.off h1 h2, fun z => ?_⟩
  rcases List.mem_append.mp z with z | z
  · exact h3.1 z
  · rcases List.mem_cons.mp z with z | z
    · subst z; rw [hD] at h1; cases h1
    · exact h3.2 z
/-- the new list gets an item -/
theorem Ci.push {Dn : Addr} {ρ0 : Ev} {σ0 : L2.St} {ι' ι2 : List Addr} {acc : List D} {ι0 : List Addr} {H0 H2 : Hp} {S2 : Sto} {y : V} {d : D} (c : Ci G F ω Dn ι0 H0 ρ0 σ0 ι' acc S H) (hD : H0 Dn = none) (x : Ext ι' H ι2 H2) (nd : ι2.Nodup) (rs : RS G.K G.ca ι2 (F.B0 ++ (Dn :: ω)) H2 S2)
    (rv : RV G.K G.ca ι2 (F.B0 ++ (Dn :: ω)) H2 y d) {xs : List V} (hx : H2 Dn = some (.lst xs)) (ra : RAll G.K G.ca ι2 (F.B0 ++ (Dn :: ω)) H2 xs acc) : Ci G F ω Dn ι0 H0 ρ0 σ0 ι2 (acc ++ [d]) S2 (upd H2 Dn (.lst (xs ++ [y]))) := by
  have hm : Dn ∈ Dn :: ω := List.mem_cons_self
  have r2 := c.rel.ex x nd rs
  have e2 := c.ext.trans x
  refine ⟨r2.mutD hm c.fre, ⟨e2.pre, fun a o h n => ?_, e2.new, fun a h => ?_⟩, ⟨_, upd_same, (ra.app (.cons rv .nil)).per (Per.upd (.inr (List.mem_append_right _ hm)))⟩, c.fre⟩
  · rw [upd_ne (fun z => by subst z; rw [hD] at h; cases h)]; exact e2.keep a o h n
  · unfold L2.upd; split
    · simp
    · exact e2.dom a h
theorem Ci.same {Dn : Addr} {ρ0 : Ev} {σ0 : L2.St} {ι' ι2 : List Addr} {acc : List D} {ι0 : List Addr} {H0 H2 : Hp} {S2 : Sto} (c : Ci G F ω Dn ι0 H0 ρ0 σ0 ι' acc S H) (x : Ext ι' H ι2 H2) (nd : ι2.Nodup) (rs : RS G.K G.ca ι2 (F.B0 ++ (Dn :: ω)) H2 S2) : Ci G F ω Dn ι0 H0 ρ0 σ0 ι2 acc S2 H2 := by
  obtain ⟨xs, h1, h2⟩ := c.at'
  have hD : Dn ∉ ι' := c.rel.dj Dn List.mem_cons_self
  exact ⟨c.rel.ex x nd rs, c.ext.trans x, ⟨xs, x.keep _ _ h1 hD, h2.ex x⟩, c.fre⟩
abbrev NoE : WX := fun _ _ _ _ => False
/-- one turn of a comprehension with one clause -/
theorem step1_ok {tg : TG} {fg : FG} {js : List Nat} {tt : TT} {ft : FE} {te : TE} {fe : FE} {vs : List Nat} (hg : SG G tg js fg) (ht : ST G NoE tt ft) (he : SE G NoE te fe) (hj : ∀ j ∈ js, j ∈ vs) {Dn : Addr} {ρ0 : Ev} {σ0 : L2.St} {ι' : List Addr} {acc acc' : List D} {ι0 : List Addr} {H0 H' : Hp} {S S' : Sto} {x : V} {d : D}
    (c : Ci G F ω Dn ι0 H0 ρ0 σ0 ι' acc S H) (hD : H0 Dn = none) (gr : ∀ a o, H a = some o → H' a = some o) (rv : RV G.K G.ca ι' (F.B0 ++ (Dn :: ω)) H' x d) (es : step1 fg ft fe ρ0 d acc S = some (acc', S')) (hw : L2.wipe σ0 vs = σ0)
    {Nx : Hp → Prop} (hn : ∀ ι2 H2, Ci G F ω Dn ι0 H0 ρ0 σ0 ι2 acc' S' H2 → Nx H2) :
    tg x σ0 H' fun σ2 H2 => L2.wipe σ2 vs = σ0 ∧ tt σ2 H2 fun b H3 => if b = true then te σ2 H3 fun y H4 => ∃ acc, H4 Dn = some (.lst acc) ∧ acc.length < sizeLine ∧ Nx (upd H4 Dn (.lst (acc ++ [y]))) else Nx H3 := by
  have c1 := c.same (Ext.gr gr) c.rel.nd (c.rel.sto.gr gr)
  refine hg F ι' (Dn :: ω) ρ0 S σ0 H' x d _ c1.rel rv ?_
  unfold step1 at es
  split at es
  · rename_i ρ1 eg
    try rw [eg]
    intro σ1 rel1 w1
    refine ⟨(w1.wp vs hj).trans hw, ?_⟩
    refine ht F ι' (Dn :: ω) ρ1 S σ1 H' _ rel1 ?_
    split at es
    · rename_i f1 S1 e1
      rw [e1]
      intro ι3 v3 H3 x3 r3 rf3
      rw [rf3.rt.sBl]
      dsimp only [kB]
      rw [if_pos rfl]
      refine he F ι3 (Dn :: ω) ρ1 S1 σ1 H3 _ r3 ?_
      split at es
      · rename_i y f2 S2 e2
        rw [e2]
        intro ι4 v4 H4 x4 r4 rf4
        split at es
        · rename_i hc
          rw [Bool.and_eq_true] at hc
          cases es
          obtain ⟨xs, g1, g2⟩ := c1.at'
          have hDi : Dn ∉ ι' := c1.rel.dj Dn List.mem_cons_self
          have x34 := x3.trans x4
          have k1 : H4 Dn = some (.lst xs) := x34.keep _ _ g1 hDi
          refine ⟨xs, k1, by rw [g2.len]; exact lim_lt (of_decide_eq_true hc.2), hn ι4 _ (c1.push hD x34 r4.nd r4.sto (rf4.rv (by intro z; subst z; exact absurd hc.1 (by decide))) k1 (g2.ex x34))⟩
        · cases es
      · cases es
    · rename_i f1 S1 e1
      cases es
      rw [e1]
      intro ι3 v3 H3 x3 r3 rf3
      rw [rf3.rt.sBl]
      dsimp only [kB]
      rw [if_neg Bool.false_ne_true]
      exact hn ι3 H3 (c1.same x3 r3.nd r3.sto)
    · cases es
  · cases es
/-- the start: the new list -/
theorem Ci.start {Dn : Addr} {vs : List Nat} (r1 : Rel G F ι1 ω ρ S σ H1) (hD : H1 Dn = none) : Ci G F ω Dn ι1 H1 (wipeE ρ vs) (L2.wipe σ vs) ι1 [] S (upd H1 Dn (.lst [])) := by
  have rw' := r1.wipe vs
  have noa : ∀ (i : Nat) (s : Sl), (wipeE ρ vs)[i]? = some s → isOwn s = true → (L2.wipe σ vs)[i]? ≠ some (some (.ref Dn)) := fun i s h1 h2 h3 => by
    cases rw'.env i s _ h1 h3 with
    | no => cases h2
    | val => cases h2
    | own q1 q2 q3 => rw [hD] at q2; cases q2
    | oob q1 q0 q2 q3 => rw [hD] at q2; cases q2
    | exn => cases h2
  have pp : Per ι1 (F.B0 ++ ω) H1 ι1 (F.B0 ++ (Dn :: ω)) (L2.upd H1 Dn (.lst [])) := ⟨fun a o h1 h2 h3 => by
    rw [List.mem_append, not_or] at h3
    refine ⟨by rw [upd_ne (ne_of_none h1 hD)]; exact h1, h2, fun z => ?_⟩
    rcases List.mem_append.mp z with z | z
    · exact h3.1 z
    · rcases List.mem_cons.mp z with z | z
      · exact ne_of_none h1 hD z
      · exact h3.2 z, fun _ _ h => h⟩
  have r2 := rw'.new (o := .lst []) hD
  refine ⟨⟨r2.pre, r2.old, r2.dom, r2.fri, fun b hb => ?_, r2.b0, r2.nd, fun b hb => ?_, fun b hb => ?_, r1.sto.per (fun a ha => upd_ne fun z => r1.sto.here a ha (by rw [z]; exact hD)) pp, r2.len, fun j s o h1 h2 => ?_, r2.own⟩, Ext.new1 hD, ⟨[], upd_same, .nil⟩, noa⟩
  · rcases List.mem_cons.mp hb with z | z
    · subst z; exact none_of r1.dom hD
    · exact r2.frw b z
  · rcases List.mem_cons.mp hb with z | z
    · subst z; exact r1.offi hD
    · exact r2.dj b z
  · rcases List.mem_cons.mp hb with z | z
    · subst z; exact nn upd_same
    · exact r2.dw b z
  · have q := rw'.env j s o h1 h2
    cases q with
    | no => exact .no
    | val h => exact .val (h.per pp)
    | own q1 q2 q3 => exact .own (List.mem_cons_of_mem _ q1) (by rw [upd_ne (ne_of_none q2 hD)]; exact q2) (q3.per pp)
    | oob q1 q0 q2 q3 => exact .oob (List.mem_cons_of_mem _ q1) q0 (by rw [upd_ne (ne_of_none q2 hD)]; exact q2) (q3.per pp)
    | exn q1 q2 q3 q4 q5 =>
      obtain ⟨g1, g2, g3⟩ := q4.per q2 q3 pp
      exact .exn q1 g2 g3 g1 (q5.per pp)
/-- the end: the list is handed on -/
theorem Ci.fin {Dn : Addr} {ρ0 : Ev} {σ0 : L2.St} {ι' : List Addr} {acc : List D} {Q : VK} {S2 : Sto} {Hs : Hp} {ιs : List Addr} (rel : Rel G F ιs ω ρ S σ Hs) (e1 : Ext ιs Hs ι1 H1) (hD : H1 Dn = none) (c : Ci G F ω Dn ι1 H1 ρ0 σ0 ι' acc S2 H) (h : PostE G E F ιs ω ρ σ Hs Q (.ok (.lst acc) .fs S2)) : Q (.ref Dn) H := by
  obtain ⟨xs, h1, h2⟩ := c.at'
  have x := e1.trans c.ext
  have hm : Dn ∈ Dn :: ω := List.mem_cons_self
  have sub : ∀ b ∈ F.B0 ++ ω, b ∈ F.B0 ++ (Dn :: ω) := fun b hb => by
    rcases List.mem_append.mp hb with z | z
    · exact List.mem_append_left _ z
    · exact List.mem_append_right _ (List.mem_cons_of_mem _ z)
  have sub1 : ∀ b ∈ Dn :: (F.B0 ++ ω), b ∈ F.B0 ++ (Dn :: ω) := fun b hb => by
    rcases List.mem_cons.mp hb with z | z
    · subst z; exact List.mem_append_right _ hm
    · exact sub b z
  refine h ι' (.ref Dn) H x (rel.ex x c.rel.nd (c.rel.sto.less sub)) (.l (c.rel.dj Dn hm) (fun z => ?_) (none_of e1.dom hD) h1 (h2.per (Per.less sub1)) (c.rel.sto.less sub1))
  exact absurd (none_of e1.dom hD) (rel.bd Dn z)
theorem se_lcG {wi : TI} {fi : FI} {step : Ev → StepC} {vs : List Nat} {t : TE} {Body : L2.St → Addr → V → Hp → (Hp → Prop) → Prop} (hi : SI G E wi fi)
    (ht : ∀ σ H Q, (wi σ H fun J H1 => ∀ D, H1 D = none → ∃ W : Nat → Nat → Hp → Prop, (∃ m, W 0 m (upd H1 D (.lst []))) ∧ ∀ i m H, W i m H → (J.stop i H ∧ Q (.ref D) H) ∨ (J.go i H ∧ ∃ Nx : Hp → Prop, (∀ H', Nx H' → ∃ m', m' < m ∧ W (i + 1) m' H') ∧ ∀ x H', J.yld i H x H' → Body σ D x H' Nx)) → t σ H Q)
    (hs : ∀ {F : Fr} {ω : List Addr} {Dn : Addr} {ρ : Ev} {σ : L2.St} {ι' : List Addr} {acc acc' : List D} {ι0 : List Addr} {H0 H H' : Hp} {S S' : Sto} {x : V} {d : D}, Ci G F ω Dn ι0 H0 (wipeE ρ vs) (L2.wipe σ vs) ι' acc S H → H0 Dn = none → (∀ a o, H a = some o → H' a = some o) → RV G.K G.ca ι' (F.B0 ++ (Dn :: ω)) H' x d →
      step (wipeE ρ vs) d acc S = some (acc', S') → ∀ (Nx : Hp → Prop), (∀ ι2 H2, Ci G F ω Dn ι0 H0 (wipeE ρ vs) (L2.wipe σ vs) ι2 acc' S' H2 → Nx H2) → Body σ Dn x H' Nx) : SE G E t (fLcG fi step vs) := by
  intro F ι ω ρ S σ H Q rel h
  refine ht σ H Q (hi F ι ω ρ S σ H _ rel ?_)
  unfold fLcG at h
  cases e : fi ρ S with
  | xc c fs S1 => rw [e] at h; exact h
  | bad => rw [e] at h; exact h
  | ok ds g S1 =>
    rw [e] at h
    intro ι1 J H1 e1 r1 wk Dn hD
    dsimp only at h
    split at h
    · rename_i accF SF hf
      refine fold_ok wk (fun x H' Nx => Body σ Dn x H' Nx) (fun acc S H => ∃ ι', Ci G F ω Dn ι1 H1 (wipeE ρ vs) (L2.wipe σ vs) ι' acc S H) (fun acc S H ⟨ι', c⟩ => ⟨ι', F.B0 ++ (Dn :: ω), c.lat hD, c.rel.sto, c.rel.bd⟩) ?_ ⟨ι1, Ci.start r1 hD⟩ hf (fun H ⟨ι', c⟩ => c.fin rel e1 hD h)
      rintro i d acc acc' S2 S3 H2 x H' ⟨ι', c⟩ gk hlt ed y es Nx hN
      obtain ⟨gr, d', ed', rv⟩ := wk.yld _ _ _ _ i x H' (c.lat hD) c.rel.sto c.rel.bd gk hlt y
      rw [ed] at ed'; cases ed'
      exact hs c hD gr rv es _ fun ι2 H2 c2 => hN H2 ⟨ι2, c2⟩
    · exact h.elim
theorem se_lc {wi : TI} {fi : FI} {tg : TG} {fg : FG} {js : List Nat} {tt : TT} {ft : FE} {te : TE} {fe : FE} {vs : List Nat} (hi : SI G E wi fi) (hg : SG G tg js fg) (ht : ST G NoE tt ft) (he : SE G NoE te fe) (hj : ∀ j ∈ js, j ∈ vs := by decide) :
    SE G E (tLc wi tg tt te vs) (fLc fi fg ft fe vs) :=
  se_lcG (Body := fun σ D x H' Nx => tg x (L2.wipe σ vs) H' fun σ2 H2 => L2.wipe σ2 vs = L2.wipe σ vs ∧ tt σ2 H2 fun b H3 => if b = true then te σ2 H3 fun y H4 => ∃ acc, H4 D = some (.lst acc) ∧ acc.length < sizeLine ∧ Nx (upd H4 D (.lst (acc ++ [y]))) else Nx H3)
    hi (fun σ H Q h => h) fun c hD gr rv es _ hn => step1_ok hg ht he hj c hD gr rv es (wipe_idem _ _) hn
end
end
end Fx
namespace Fx
open PySem PySem.Spec PyProof.Rows L2 U
noncomputable section
def noxF (f : FF) : FF := fun ds S => match f ds S with
  | .xc _ _ _ => .bad
  | r => r
def NoX (f : FF) : Prop := ∀ ds S c fs S', f ds S ≠ .xc c fs S'
theorem nox_no (f : FF) : NoX (noxF f) := fun ds S c fs S' e => by
  unfold noxF at e
  split at e
  · cases e
  · rename_i hn; exact hn _ _ _ e
section
variable {K : PySem.W.Frag} {ca : Nat → Addr} {H : Hp} {Q : VK} {E : XK} {vs : List V}
theorem nox_len {N P : List Str} {b : FS} (h : SpF K ca (noxF (runF N.length P.length b)) vs H Q E) : vs.length = P.length := by
  obtain ⟨ι, B, S, ds, h1, h2, h3, h4, h5⟩ := h
  unfold noxF runF at h5
  by_cases e : ds.length = P.length
  · rw [h4.len]; exact e
  · simp only [if_neg e] at h5; exact h5.elim
theorem nox_ok {N P : List Str} {t : TS} {b : FS} (hb : SS ⟨K, ca, none, none⟩ NoE t b) (h : SpF K ca (noxF (runF N.length P.length b)) vs H Q E) : t { nx := fun _ H' => Q .non H', rt := Q } (L2.start N vs) H := by
  obtain ⟨ι, B, S, ds, h1, h2, h3, h4, h5⟩ := h
  refine run_ok (E := E0) (b := b) (P := P) hb ⟨ι, B, S, ds, h1, h2, h3, h4, ?_⟩
  unfold noxF at h5
  cases e : runF N.length P.length b ds S with
  | ok d f S' => rw [e] at h5; exact h5
  | xc c fs S' => rw [e] at h5; exact h5.elim
  | bad => rw [e] at h5; exact h5
end
section
variable {G : Gm} {E : WX}
theorem spf_nox {f : FF} {F : Fr} {ι ω : List Addr} {ρ : Ev} {S : Sto} {σ : L2.St} {H : Hp} {Q : VK} {vs : List V} {ds : List D} {E' : XK} (hf : NoX f) (rel : Rel G F ι ω ρ S σ H) (ra : RAll G.K G.ca ι (F.B0 ++ ω) H vs ds) (h : PostE G E F ι ω ρ σ H Q (f ds S)) : SpF G.K G.ca f vs H Q E' := by
  refine ⟨ι, F.B0 ++ ω, S, ds, rel.nd, fun b hb => ⟨rel.bd b hb, rel.bi b hb⟩, rel.sto, ra, ?_⟩
  cases e : f ds S with
  | ok d fl S' =>
    rw [e] at h
    exact fun ι' v H' x nd rs rf => h ι' v H' x (rel.ex x nd rs) rf
  | xc c fs S' => exact absurd e (hf _ _ _ _ _)
  | bad => rw [e] at h; exact h
theorem se_callN {f : FF} {dvs : List V} {dd : List D} {E' : XK} {ta : TA} {fa : FA} (hf : NoX f) (ha : SA G E ta fa) (hd : dvs = dd.map vOf := by rfl) (hs : dd.all scalD = true := by rfl) : SE G E (tCall (SpF G.K G.ca f) dvs E' ta) (fCall f dd fa) := by
  intro F ι ω ρ S σ H Q rel h
  refine sa_then ha rel h fun ds t S1 ι1 vs H1 e1 r1 ra h1 => ?_
  split at h1
  · rename_i ht
    subst ht hd
    exact spf_nox hf r1 (RAll.app ra (dflt_all hs)) h1
  · exact h1.elim
/-- f(a, k=b) -/
def fCallK (n m : Nat) (f : FF) (gD : List D → List D → List D) (fa fk : FA) : FE := fun ρ S => match fa ρ S with
  | .ok ds true S1 => (match fk ρ S1 with
    | .ok es true S2 => if ds.length = n ∧ es.length = m then f (gD ds es) S2 else .bad
    | .xc c fs S2 => .xc c fs S2
    | _ => .bad)
  | .xc c fs S1 => .xc c fs S1
  | _ => .bad
end
/-- the law at the script -/
def intsD (ns : List Int) : List D := ns.map .int
theorem rall_ints {K : PySem.W.Frag} {ca : Nat → Addr} {ι B : List Addr} {H : Hp} : ∀ ns : List Int, RAll K ca ι B H (ns.map V.int) (intsD ns)
  | [] => .nil
  | n :: ns => .cons (.int n) (rall_ints ns)
theorem law_sp {K : PySem.W.Frag} {ca : Nat → Addr} {f : FF} {H : Hp} {a : Addr} {ns : List Int} (hO : Only H) (hS : SqL K H a (ns.map V.int)) (h : ∃ fl S', f [.fro true (intsD ns)] [] = .ok (.bl true) fl S') : SpF K ca f [.ref a] H (fun v _ => v = .bl true) fun _ _ _ => False := by
  obtain ⟨fl, S', e⟩ := h
  refine ⟨[], [], [], [.fro true (intsD ns)], List.nodup_nil, fun _ h => (nomatch h), ⟨rfl, fun k a c h => (nomatch h)⟩, .cons (.fro ?_ (rall_ints ns)) .nil, ?_⟩
  · rcases script_of hO hS with ⟨o, h⟩ | h
    · exact .inl ⟨by simp, by simp, o, h⟩
    · exact .inr (.inr h)
  · rw [e]
    exact fun ι' v H' _ _ _ rf => rf.rt.sBl
end
end Fx
namespace Fx
open PySem PySem.Spec PyProof.Rows L2 U
theorem fold_flat {g : Gd} {step : StepC} {f : D → List D} {S : Sto} (hg : gOk g S) : ∀ {ds acc : List D}, (∀ d ∈ ds, ∀ acc : List D, acc.length < lim → step d acc S = some (acc ++ f d, S)) → (∀ d ∈ ds, (f d).length ≤ 1) → acc.length + ds.length ≤ lim →
    foldC g step ds acc S = some (acc ++ ds.flatMap f, S)
  | [], acc, _, _, _ => by unfold foldC; rw [if_pos hg]; simp
  | d :: ds, acc, h, h1, hl => by
    rw [List.length_cons] at hl
    unfold foldC
    rw [if_pos hg, h d List.mem_cons_self acc (by omega)]
    have := h1 d List.mem_cons_self
    dsimp only
    rw [fold_flat hg (fun e he => h e (List.mem_cons_of_mem _ he)) (fun e he => h1 e (List.mem_cons_of_mem _ he)) (by rw [List.length_append]; omega), List.append_assoc, List.flatMap_cons]
theorem lc_flat {it : FI} {set : FG} {tt te : FE} {vs : List Nat} {ρ : Ev} {S S1 : Sto} {ds : List D} {g : Gd} {c : D → Bool} {f : D → D} (hi : it ρ S = .ok ds g S1) (hg : gOk g S1) (hl : ds.length ≤ lim)
    (h : ∀ d ∈ ds, ∃ ρ1 f1, set d (wipeE ρ vs) S1 = some ρ1 ∧ tt ρ1 S1 = .ok (.bl (c d)) f1 S1 ∧ (c d = true → ∃ f2, te ρ1 S1 = .ok (f d) f2 S1 ∧ f2.nop = true)) :
    fLc it set tt te vs ρ S = .ok (.lst ((ds.filter c).map f)) .fs S1 := by
  have key : ds.flatMap (fun d => if c d = true then [f d] else []) = (ds.filter c).map f := by
    clear h hl hi
    induction ds with
    | nil => rfl
    | cons d ds ih =>
      rw [List.flatMap_cons, ih, List.filter_cons]
      cases c d <;> simp
  unfold fLc fLcG
  rw [hi]
  dsimp only
  rw [fold_flat (f := fun d => if c d = true then [f d] else []) hg (fun d hd acc ha => ?_) (fun d hd => by split <;> simp) (by simpa using hl), key, List.nil_append]
  obtain ⟨ρ1, f1, e1, e2, e3⟩ := h d hd
  unfold step1
  rw [e1]
  dsimp only
  rw [e2]
  cases hc : c d with
  | true =>
    obtain ⟨f2, e4, e5⟩ := e3 hc
    dsimp only
    rw [e4]
    dsimp only
    rw [e5, decide_eq_true ha]
    rfl
  | false => dsimp only; rw [if_neg Bool.false_ne_true, List.append_nil]
theorem lc_map {it : FI} {set : FG} {te : FE} {vs : List Nat} {ρ : Ev} {S S1 : Sto} {ds : List D} {g : Gd} {f : D → D} (hi : it ρ S = .ok ds g S1) (hg : gOk g S1) (hl : ds.length ≤ lim)
    (h : ∀ d ∈ ds, ∃ ρ1 f2, set d (wipeE ρ vs) S1 = some ρ1 ∧ te ρ1 S1 = .ok (f d) f2 S1 ∧ f2.nop = true) :
    fLc it set (fC (.bl true)) te vs ρ S = .ok (.lst (ds.map f)) .fs S1 := by
  have := lc_flat (tt := fC (.bl true)) (te := te) (c := fun _ => true) (f := f) hi hg hl fun d hd => by
    obtain ⟨ρ1, f2, e1, e2, e3⟩ := h d hd
    exact ⟨ρ1, .tr, e1, rfl, fun _ => ⟨f2, e2, e3⟩⟩
  rw [this, List.filter_eq_self.mpr (fun _ _ => rfl)]
theorem bools_map {α : Type} (f : α → Bool) : ∀ l : List α, bools (l.map fun x => .bl (f x)) = some (l.map f)
  | [] => rfl
  | x :: l => by simp only [List.map_cons, bools, bools_map f l, Option.map_some]
/-- a for without breaks: the state behind each item -/
theorem loop_step {g : Gd} {set : FG} {body : FS} {d : D} {ds : List D} {ρ ρ1 ρ2 : Ev} {S S2 : Sto} (hg : gOk g S) (h1 : set d ρ S = some ρ1) (h2 : body ρ1 S = .nx ρ2 S2) : loopS g set body (d :: ds) ρ S = loopS g set body ds ρ2 S2 := by
  conv => lhs; unfold loopS
  rw [if_pos hg, h1]
  dsimp only
  rw [h2]
theorem loop_cont {g : Gd} {set : FG} {body : FS} {d : D} {ds : List D} {ρ ρ1 ρ2 : Ev} {S S2 : Sto} (hg : gOk g S) (h1 : set d ρ S = some ρ1) (h2 : body ρ1 S = .ct ρ2 S2) : loopS g set body (d :: ds) ρ S = loopS g set body ds ρ2 S2 := by
  conv => lhs; unfold loopS
  rw [if_pos hg, h1]
  dsimp only
  rw [h2]
theorem loop_ret {g : Gd} {set : FG} {body : FS} {d e : D} {ds : List D} {ρ ρ1 : Ev} {S S2 : Sto} {f : Fl} (hg : gOk g S) (h1 : set d ρ S = some ρ1) (h2 : body ρ1 S = .rt e f S2) : loopS g set body (d :: ds) ρ S = .rt e f S2 := by
  conv => lhs; unfold loopS
  rw [if_pos hg, h1]
  dsimp only
  rw [h2]
theorem loop_end {g : Gd} {set : FG} {body : FS} {ρ : Ev} {S : Sto} (hg : gOk g S) : loopS g set body [] ρ S = .nx ρ S := by
  unfold loopS; rw [if_pos hg]
/-- a for whose state keeps a form: I i ρ S ahead of item i -/
theorem loop_inv {g : Gd} {set : FG} {body : FS} (I : Nat → Ev → Sto → Prop) {ds : List D} (hg : ∀ i ρ S, I i ρ S → gOk g S)
    (hs : ∀ i d ρ S, ds[i]? = some d → I i ρ S → ∃ ρ1 ρ2 S2, set d ρ S = some ρ1 ∧ (body ρ1 S = .nx ρ2 S2 ∨ body ρ1 S = .ct ρ2 S2) ∧ I (i + 1) ρ2 S2) {ρ : Ev} {S : Sto} (h0 : I 0 ρ S) : ∃ ρ' S', loopS g set body ds ρ S = .nx ρ' S' ∧ I ds.length ρ' S' := by
  have key : ∀ (n i : Nat) (ρ : Ev) (S : Sto), n = ds.length - i → i ≤ ds.length → I i ρ S → ∃ ρ' S', loopS g set body (ds.drop i) ρ S = .nx ρ' S' ∧ I ds.length ρ' S' := by
    intro n
    induction n with
    | zero =>
      intro i ρ S hn hi h
      obtain rfl : i = ds.length := by omega
      rw [List.drop_length, loop_end (hg _ _ _ h)]
      exact ⟨ρ, S, rfl, h⟩
    | succ n ih =>
      intro i ρ S hn hi h
      have hlt : i < ds.length := by omega
      rw [List.drop_eq_getElem_cons hlt]
      obtain ⟨ρ1, ρ2, S2, e1, e2, e3⟩ := hs i ds[i] ρ S (List.getElem?_eq_getElem hlt) h
      rcases e2 with e2 | e2
      · rw [loop_step (hg _ _ _ h) e1 e2]; exact ih (i + 1) ρ2 S2 (by omega) hlt e3
      · rw [loop_cont (hg _ _ _ h) e1 e2]; exact ih (i + 1) ρ2 S2 (by omega) hlt e3
  have := key ds.length 0 ρ S (by omega) (Nat.zero_le _) h0
  rwa [List.drop_zero] at this
section
mutual
theorem tree_mono {c c' : Nat → Option PyData} (h : ∀ k p, c k = some p → c' k = some p) : ∀ (d : D) {p : PyData}, tree c d = some p → tree c' d = some p
  | .non, _, e => by simpa only [tree] using e
  | .bl _, _, e => by simpa only [tree] using e
  | .int _, _, e => by simpa only [tree] using e
  | .str _, _, e => by simpa only [tree] using e
  | .lst ds, _, e => by
    simp only [tree, Option.map_eq_some_iff] at e ⊢
    obtain ⟨ps, e1, e2⟩ := e
    exact ⟨ps, treeAll_mono h ds e1, e2⟩
  | .tup ds, _, e => by
    simp only [tree, Option.map_eq_some_iff] at e ⊢
    obtain ⟨ps, e1, e2⟩ := e
    exact ⟨ps, treeAll_mono h ds e1, e2⟩
  | .fro _ _, _, e => by simp only [tree] at e; cases e
  | .dct [], _, e => by simpa only [tree] using e
  | .dct (_ :: _), _, e => by simp only [tree] at e; cases e
  | .cel k, _, e => by simp only [tree] at e ⊢; exact h k _ e
  | .obj _ _, _, e => by simp only [tree] at e; cases e
theorem treeAll_mono {c c' : Nat → Option PyData} (h : ∀ k p, c k = some p → c' k = some p) : ∀ (ds : List D) {ps : List PyData}, treeAll c ds = some ps → treeAll c' ds = some ps
  | [], _, e => by simpa only [treeAll] using e
  | d :: ds, _, e => by
    simp only [treeAll] at e ⊢
    split at e
    · rename_i p ps e1 e2
      rw [tree_mono h d e1, treeAll_mono h ds e2]; exact e
    · cases e
end
theorem cells_mono {S : Sto} : ∀ (n : Nat) (k : Nat) (p : PyData), cells n S k = some p → cells (n + 1) S k = some p
  | 0, _, _, e => by unfold cells at e; cases e
  | n + 1, k, p, e => by
    unfold cells at e ⊢
    split at e
    · rename_i ds es
      rw [Option.map_eq_some_iff] at e ⊢
      obtain ⟨ps, e1, e2⟩ := e
      exact ⟨ps, treeAll_mono (cells_mono n) ds e1, e2⟩
    · cases e
/-- d is the data p in the store -/
def Py (S : Sto) (d : D) (p : PyData) : Prop := toP S d = some p
def PyAll (S : Sto) (ds : List D) (ps : List PyData) : Prop := treeAll (cells 4 S) ds = some ps
theorem PyAll.len {S : Sto} : ∀ {ds : List D} {ps : List PyData}, PyAll S ds ps → ds.length = ps.length
  | [], _, h => by unfold PyAll at h; simp only [treeAll] at h; cases h; rfl
  | d :: ds, _, h => by
    unfold PyAll at h
    simp only [treeAll] at h
    split at h
    · rename_i p ps e1 e2
      cases h
      rw [List.length_cons, List.length_cons, PyAll.len e2]
    · cases h
theorem PyAll.at {S : Sto} : ∀ {ds : List D} {ps : List PyData} {i : Nat} {d : D}, PyAll S ds ps → ds[i]? = some d → ∃ p, ps[i]? = some p ∧ Py S d p
  | [], _, i, _, h, e => by simp at e
  | d :: ds, _, i, _, h, e => by
    unfold PyAll at h
    simp only [treeAll] at h
    split at h
    · rename_i p ps e1 e2
      cases h
      cases i with
      | zero => simp at e; subst e; exact ⟨p, rfl, e1⟩
      | succ i => obtain ⟨q, h1, h2⟩ := PyAll.at (ds := ds) e2 (by simpa using e); exact ⟨q, by simpa using h1, h2⟩
    · cases h
theorem PyAll.mem {S : Sto} {ds : List D} {ps : List PyData} {d : D} (h : PyAll S ds ps) (hd : d ∈ ds) : ∃ p ∈ ps, Py S d p := by
  obtain ⟨i, hi, rfl⟩ := List.getElem_of_mem hd
  obtain ⟨p, h1, h2⟩ := h.at (List.getElem?_eq_getElem hi)
  exact ⟨p, List.mem_of_getElem? h1, h2⟩
theorem PyAll.cons {S : Sto} {d : D} {ds : List D} {p : PyData} {ps : List PyData} (h1 : Py S d p) (h2 : PyAll S ds ps) : PyAll S (d :: ds) (p :: ps) := by
  unfold PyAll; unfold Py toP at h1; unfold PyAll at h2
  simp only [treeAll, h1, h2]
theorem PyAll.nil {S : Sto} : PyAll S [] [] := by unfold PyAll; simp only [treeAll]
theorem PyAll.app {S : Sto} : ∀ {ds es : List D} {ps qs : List PyData}, PyAll S ds ps → PyAll S es qs → PyAll S (ds ++ es) (ps ++ qs)
  | [], _, _, _, h, g => by unfold PyAll at h; simp only [treeAll] at h; cases h; exact g
  | d :: ds, _, _, _, h, g => by
    unfold PyAll at h
    simp only [treeAll] at h
    split at h
    · rename_i p ps e1 e2
      cases h
      exact PyAll.cons e1 (PyAll.app e2 g)
    · cases h
theorem py_lst {S : Sto} {ds : List D} {ps : List PyData} (h : PyAll S ds ps) : Py S (.lst ds) (.list ps) := by unfold Py toP; unfold PyAll at h; simp only [tree, h, Option.map_some]
theorem py_tup {S : Sto} {ds : List D} {ps : List PyData} (h : PyAll S ds ps) : Py S (.tup ds) (.tuple ps) := by unfold Py toP; unfold PyAll at h; simp only [tree, h, Option.map_some]
theorem py_str (S : Sto) (z : Str) : Py S (.str z) (.str z) := by unfold Py toP; simp only [tree]
theorem py_int (S : Sto) (z : Int) : Py S (.int z) (.int z) := by unfold Py toP; simp only [tree]
theorem py_bl (S : Sto) (z : Bool) : Py S (.bl z) (.bool z) := by unfold Py toP; simp only [tree]
theorem py_non (S : Sto) : Py S .non .none := by unfold Py toP; simp only [tree]
theorem py_dct (S : Sto) : Py S (.dct []) (.dict []) := by unfold Py toP; simp only [tree]
/-- what a value can be, by its data -/
theorem py_inv {S : Sto} {d : D} {p : PyData} (h : Py S d p) : (p = .none ∧ d = .non) ∨ (∃ b, p = .bool b ∧ d = .bl b) ∨ (∃ i, p = .int i ∧ d = .int i) ∨ (∃ z, p = .str z ∧ d = .str z) ∨
    (∃ ps ds, p = .list ps ∧ PyAll S ds ps ∧ (d = .lst ds ∨ ∃ k, d = .cel k ∧ S[k]? = some (.lst ds))) ∨ (∃ ps ds, p = .tuple ps ∧ PyAll S ds ps ∧ d = .tup ds) ∨ (p = .dict [] ∧ d = .dct []) := by
  unfold Py toP at h
  cases d with
  | non => simp only [tree] at h; cases h; exact .inl ⟨rfl, rfl⟩
  | bl b => simp only [tree] at h; cases h; exact .inr (.inl ⟨b, rfl, rfl⟩)
  | int i => simp only [tree] at h; cases h; exact .inr (.inr (.inl ⟨i, rfl, rfl⟩))
  | str z => simp only [tree] at h; cases h; exact .inr (.inr (.inr (.inl ⟨z, rfl, rfl⟩)))
  | lst ds =>
    simp only [tree, Option.map_eq_some_iff] at h
    obtain ⟨ps, h1, h2⟩ := h
    exact .inr (.inr (.inr (.inr (.inl ⟨ps, ds, h2.symm, h1, .inl rfl⟩))))
  | tup ds =>
    simp only [tree, Option.map_eq_some_iff] at h
    obtain ⟨ps, h1, h2⟩ := h
    exact .inr (.inr (.inr (.inr (.inr (.inl ⟨ps, ds, h2.symm, h1, rfl⟩)))))
  | fro l ds => simp only [tree] at h; cases h
  | dct es =>
    cases es with
    | nil => simp only [tree] at h; cases h; exact .inr (.inr (.inr (.inr (.inr (.inr ⟨rfl, rfl⟩)))))
    | cons => simp only [tree] at h; cases h
  | cel k =>
    simp only [tree] at h
    unfold cells at h
    split at h
    · rename_i ds es
      rw [Option.map_eq_some_iff] at h
      obtain ⟨ps, h1, h2⟩ := h
      exact .inr (.inr (.inr (.inr (.inl ⟨ps, ds, h2.symm, treeAll_mono (cells_mono 3) ds h1, .inr ⟨k, rfl, es⟩⟩))))
    · cases h
  | obj => simp only [tree] at h; cases h
  | cls => simp only [tree] at h; cases h
theorem py_ty {S : Sto} {d : D} {p : PyData} (h : Py S d p) : tyDf S d = some (tyD p) := by
  rcases py_inv h with ⟨rfl, rfl⟩ | ⟨b, rfl, rfl⟩ | ⟨b, rfl, rfl⟩ | ⟨b, rfl, rfl⟩ | ⟨ps, ds, rfl, h1, h2⟩ | ⟨ps, ds, rfl, h1, rfl⟩ | ⟨rfl, rfl⟩
  · rfl
  · rfl
  · rfl
  · rfl
  · rcases h2 with rfl | ⟨k, rfl, e⟩
    · rfl
    · unfold tyDf; dsimp only; rw [e]; rfl
  · rfl
  · rfl
/-- a list or tuple by its data -/
theorem py_sq {S : Sto} {d : D} {p : PyData} {ps : List PyData} (h : Py S d p) (e : p = .list ps ∨ p = .tuple ps) : ∃ ds g, sqOf S d = some ds ∧ itemsD S d = some (ds, g) ∧ gOk g S ∧ PyAll S ds ps := by
  rcases py_inv h with ⟨rfl, rfl⟩ | ⟨b, rfl, rfl⟩ | ⟨b, rfl, rfl⟩ | ⟨b, rfl, rfl⟩ | ⟨qs, ds, rfl, h1, h2⟩ | ⟨qs, ds, rfl, h1, rfl⟩ | ⟨rfl, rfl⟩
  · rcases e with e | e <;> cases e
  · rcases e with e | e <;> cases e
  · rcases e with e | e <;> cases e
  · rcases e with e | e <;> cases e
  · rcases e with e | e <;> cases e
    rcases h2 with rfl | ⟨k, rfl, e⟩
    · exact ⟨ds, none, rfl, rfl, trivial, h1⟩
    · refine ⟨ds, some (k, ds), ?_, ?_, e, h1⟩
      · unfold sqOf; dsimp only; rw [e]
      · unfold itemsD; dsimp only; rw [e]
  · rcases e with e | e <;> cases e
    exact ⟨ds, none, rfl, rfl, trivial, h1⟩
  · rcases e with e | e <;> cases e
end
end Fx
namespace Fx
open PySem PySem.Spec PyProof.Rows L2 U
noncomputable section
section
variable {d e : D} {f fl : Fl} {S S1 S2 : Sto} {ρ ρ1 : Ev} {c : Nat} {fs : List (Str × D)}
theorem bE_ok {k : D → Fl → Sto → RE} : bE (.ok d f S) k = k d f S := rfl
theorem bE_xc {k : D → Fl → Sto → RE} : bE (.xc c fs S) k = .xc c fs S := rfl
theorem bS_nx {k : Ev → Sto → RSt} : bS (.nx ρ S) k = k ρ S := rfl
theorem bS_rt {k : Ev → Sto → RSt} : bS (.rt d f S) k = .rt d f S := rfl
theorem bS_bk {k : Ev → Sto → RSt} : bS (.bk ρ S) k = .bk ρ S := rfl
theorem bS_ct {k : Ev → Sto → RSt} : bS (.ct ρ S) k = .ct ρ S := rfl
theorem bS_xc {k : Ev → Sto → RSt} : bS (.xc c fs ρ S) k = .xc c fs ρ S := rfl
theorem eS_ok {k : D → Fl → Sto → RSt} : eS (.ok d f S) ρ k = k d f S := rfl
theorem eS_xc {k : D → Fl → Sto → RSt} : eS (.xc c fs S) ρ k = .xc c fs ρ S := rfl
theorem v_seq {a b : FS} : sSeq a b ρ S = bS (a ρ S) b := rfl
theorem v_next : sNext ρ S = .nx ρ S := rfl
theorem v_break : sBreak ρ S = .bk ρ S := rfl
theorem v_cont : sCont ρ S = .ct ρ S := rfl
theorem v_c : fC d ρ S = .ok d .tr S := rfl
def kVar (s : Option Sl) (S : Sto) : RE := match s with
  | some (.val d) => .ok d .tr S
  | some (.own ds) => .ok (.lst ds) .pk S
  | some (.oob c fs) => .ok (.obj c fs) .pk S
  | _ => .bad
theorem v_var {i : Nat} : fVar i ρ S = kVar ρ[i]? S := by
  unfold fVar kVar; rfl
theorem kVar_val : kVar (some (.val d)) S = .ok d .tr S := rfl
theorem kVar_own {ds : List D} : kVar (some (.own ds)) S = .ok (.lst ds) .pk S := rfl
theorem kVar_oob : kVar (some (.oob c fs)) S = .ok (.obj c fs) .pk S := rfl
def kOp2 (g : D → D → Sto → RE) (d e : D) (_ : Fl) (S : Sto) : RE := g d e S
def kOp1 (g : D → D → Sto → RE) (eb : FE) (ρ : Ev) (d : D) (_ : Fl) (S : Sto) : RE := bE (eb ρ S) (kOp2 g d)
theorem v_op {g : D → D → Sto → RE} {ea eb : FE} : fOp g ea eb ρ S = bE (ea ρ S) (kOp1 g eb ρ) := rfl
theorem v_op1 {g : D → D → Sto → RE} {eb : FE} : kOp1 g eb ρ d f S = bE (eb ρ S) (kOp2 g d) := rfl
theorem v_op2 {g : D → D → Sto → RE} : kOp2 g d e f S = g d e S := rfl
def kUn (g : D → Sto → RE) (d : D) (_ : Fl) (S : Sto) : RE := g d S
theorem v_un {g : D → Sto → RE} {ea : FE} : fUn g ea ρ S = bE (ea ρ S) (kUn g) := rfl
theorem v_un1 {g : D → Sto → RE} : kUn g d f S = g d S := rfl
def kNot (d : D) (_ : Fl) (S : Sto) : RE := match d with
  | .bl b => .ok (.bl (!b)) .tr S
  | _ => .bad
theorem v_not {ea : FE} : fNot ea ρ S = bE (ea ρ S) kNot := rfl
theorem v_not1 {b : Bool} : kNot (.bl b) f S = .ok (.bl (!b)) .tr S := rfl
def kAnd (eb : FE) (ρ : Ev) (d : D) (_ : Fl) (S : Sto) : RE := match d with
  | .bl true => eb ρ S
  | .bl false => .ok (.bl false) .tr S
  | _ => .bad
theorem v_and {ea eb : FE} : fAnd ea eb ρ S = bE (ea ρ S) (kAnd eb ρ) := rfl
theorem v_andT {eb : FE} : kAnd eb ρ (.bl true) f S = eb ρ S := rfl
theorem v_andF {eb : FE} : kAnd eb ρ (.bl false) f S = .ok (.bl false) .tr S := rfl
def kOr (eb : FE) (ρ : Ev) (d : D) (_ : Fl) (S : Sto) : RE := match d with
  | .bl true => .ok (.bl true) .tr S
  | .bl false => eb ρ S
  | _ => .bad
theorem v_or {ea eb : FE} : fOr ea eb ρ S = bE (ea ρ S) (kOr eb ρ) := rfl
theorem v_orT {eb : FE} : kOr eb ρ (.bl true) f S = .ok (.bl true) .tr S := rfl
theorem v_orF {eb : FE} : kOr eb ρ (.bl false) f S = eb ρ S := rfl
def kIf (ea eb : FE) (ρ : Ev) (d : D) (_ : Fl) (S : Sto) : RE := match d with
  | .bl true => ea ρ S
  | .bl false => eb ρ S
  | _ => .bad
theorem v_if {ec ea eb : FE} : fIf ec ea eb ρ S = bE (ec ρ S) (kIf ea eb ρ) := rfl
theorem v_ifT {ea eb : FE} : kIf ea eb ρ (.bl true) f S = ea ρ S := rfl
theorem v_ifF {ea eb : FE} : kIf ea eb ρ (.bl false) f S = eb ρ S := rfl
def kCh2 (g' : D → D → Sto → RE) (e w : D) (_ : Fl) (S : Sto) : RE := g' e w S
def kCh1 (g' : D → D → Sto → RE) (ec : FE) (ρ : Ev) (e z : D) (_ : Fl) (S : Sto) : RE := match z with
  | .bl true => bE (ec ρ S) (kCh2 g' e)
  | .bl false => .ok (.bl false) .tr S
  | _ => .bad
def kCh0 (g g' : D → D → Sto → RE) (ec : FE) (ρ : Ev) (d e : D) (_ : Fl) (S : Sto) : RE := bE (g d e S) (kCh1 g' ec ρ e)
def kCh (g g' : D → D → Sto → RE) (eb ec : FE) (ρ : Ev) (d : D) (_ : Fl) (S : Sto) : RE := bE (eb ρ S) (kCh0 g g' ec ρ d)
theorem v_chain {g g' : D → D → Sto → RE} {ea eb ec : FE} : fChain g g' ea eb ec ρ S = bE (ea ρ S) (kCh g g' eb ec ρ) := rfl
theorem v_ch {g g' : D → D → Sto → RE} {eb ec : FE} : kCh g g' eb ec ρ d f S = bE (eb ρ S) (kCh0 g g' ec ρ d) := rfl
theorem v_ch0 {g g' : D → D → Sto → RE} {ec : FE} : kCh0 g g' ec ρ d e f S = bE (g d e S) (kCh1 g' ec ρ e) := rfl
theorem v_ch1T {g' : D → D → Sto → RE} {ec : FE} : kCh1 g' ec ρ e (.bl true) f S = bE (ec ρ S) (kCh2 g' e) := rfl
theorem v_ch1F {g' : D → D → Sto → RE} {ec : FE} : kCh1 g' ec ρ e (.bl false) f S = .ok (.bl false) .tr S := rfl
theorem v_ch2 {g' : D → D → Sto → RE} {w : D} : kCh2 g' e w f S = g' e w S := rfl
def rIsi (p : Ty → Bool) (t : Option Ty) (S : Sto) : RE := match t with
  | some t => .ok (.bl (p t)) .tr S
  | none => .bad
def kIsi (p : Ty → Bool) (d : D) (_ : Fl) (S : Sto) : RE := rIsi p (tyDf S d) S
theorem v_isi {t : Ty} {fe : FE} : fIsi t fe ρ S = bE (fe ρ S) (kIsi (fun x => isT x t)) := rfl
theorem v_isiT {cs : List Ty} {fe : FE} : fIsiT cs fe ρ S = bE (fe ρ S) (kIsi (fun x => cs.any (isT x))) := rfl
theorem v_isi1 {p : Ty → Bool} : kIsi p d f S = rIsi p (tyDf S d) S := rfl
theorem v_isi2 {p : Ty → Bool} {t : Ty} : rIsi p (some t) S = .ok (.bl (p t)) .tr S := rfl
theorem ty_non : tyDf S .non = some .non := rfl
theorem ty_bl {b : Bool} : tyDf S (.bl b) = some .bl := rfl
theorem ty_int {i : Int} : tyDf S (.int i) = some .int := rfl
theorem ty_str {z : Str} : tyDf S (.str z) = some .str := rfl
theorem ty_lst {ds : List D} : tyDf S (.lst ds) = some .lst := rfl
theorem ty_tup {ds : List D} : tyDf S (.tup ds) = some .tup := rfl
theorem ty_dct {ds : List (Key × D)} : tyDf S (.dct ds) = some .dct := rfl
theorem tyd_non : tyD .none = .non := rfl
theorem tyd_bl {b : Bool} : tyD (.bool b) = .bl := rfl
theorem tyd_int {i : Int} : tyD (.int i) = .int := rfl
theorem tyd_str {z : Str} : tyD (.str z) = .str := rfl
theorem tyd_lst {ps : List PyData} : tyD (.list ps) = .lst := rfl
theorem tyd_tup {ps : List PyData} : tyD (.tuple ps) = .tup := rfl
theorem tyd_dct {ps : List (PyData × PyData)} : tyD (.dict ps) = .dct := rfl
def bA (r : RA) (k : List D → Bool → Sto → RE) : RE := match r with
  | .ok ds t S1 => k ds t S1
  | .xc c fs S1 => .xc c fs S1
  | .bad => .bad
theorem v_cb {g : List D → Bool → Sto → RE} {fa : FA} : fCB g fa ρ S = bA (fa ρ S) g := rfl
theorem bA_ok {ds : List D} {t : Bool} {k : List D → Bool → Sto → RE} : bA (.ok ds t S) k = k ds t S := rfl
theorem bA_xc {k : List D → Bool → Sto → RE} : bA (.xc c fs S) k = .xc c fs S := rfl
def kCons2 (d : D) (f : Fl) (r : RA) : RA := match r with
  | .ok ds t S2 => .ok (d :: ds) (f.nop && t) S2
  | .xc c fs S2 => .xc c fs S2
  | .bad => .bad
def kCons1 (fr : FA) (ρ : Ev) (r : RE) : RA := match r with
  | .ok d f S1 => kCons2 d f (fr ρ S1)
  | .xc c fs S1 => .xc c fs S1
  | .bad => .bad
theorem v_nil : fNil ρ S = .ok [] true S := rfl
theorem v_cons {fa : FE} {fr : FA} : fCons fa fr ρ S = kCons1 fr ρ (fa ρ S) := by
  unfold fCons kCons1 kCons2
  rfl
theorem v_cons1 {fr : FA} : kCons1 fr ρ (.ok d f S) = kCons2 d f (fr ρ S) := rfl
theorem v_cons1x {fr : FA} : kCons1 fr ρ (.xc c fs S) = .xc c fs S := rfl
theorem v_cons2 {ds : List D} {t : Bool} : kCons2 d f (.ok ds t S) = .ok (d :: ds) (f.nop && t) S := rfl
theorem v_cons2x : kCons2 d f (.xc c fs S) = .xc c fs S := rfl
theorem nop_tr : Fl.nop .tr = true := rfl
theorem nop_fs : Fl.nop .fs = true := rfl
theorem nop_pk : Fl.nop .pk = false := rfl
theorem v_lst {fa : FA} : fLst fa ρ S = bA (fa ρ S) dLst := rfl
theorem v_tup {fa : FA} : fTup fa ρ S = bA (fa ρ S) dTup := rfl
theorem d_lst {ds : List D} (h : ds.length ≤ lim) : dLst ds true S = .ok (.lst ds) .fs S := by unfold dLst; simp [h]
theorem d_tup {ds : List D} (h : ds.length ≤ lim) : dTup ds true S = .ok (.tup ds) .tr S := by unfold dTup; simp [h]
theorem v_dnew : fDNew ρ S = .ok (.dct []) .tr S := rfl
def kCall (g : FF) (dd ds : List D) (t : Bool) (S : Sto) : RE := if t = true then g (ds ++ dd) S else .bad
theorem v_call {g : FF} {dd : List D} {fa : FA} : fCall g dd fa ρ S = bA (fa ρ S) (kCall g dd) := rfl
theorem v_call1 {g : FF} {dd ds : List D} : kCall g dd ds true S = g (ds ++ dd) S := rfl
def kM1b (g : Str → D → Sto → RE) (a : Str) (e : D) (_ : Fl) (S : Sto) : RE := g a e S
def kM1 (g : Str → D → Sto → RE) (fe : FE) (ρ : Ev) (d : D) (_ : Fl) (S : Sto) : RE := match d with
  | .str a => bE (fe ρ S) (kM1b g a)
  | _ => .bad
theorem v_m1 {g : Str → D → Sto → RE} {fo fe : FE} : fM1 g fo fe ρ S = bE (fo ρ S) (kM1 g fe ρ) := rfl
theorem v_m1a {g : Str → D → Sto → RE} {fe : FE} {a : Str} : kM1 g fe ρ (.str a) f S = bE (fe ρ S) (kM1b g a) := rfl
theorem v_m1b {g : Str → D → Sto → RE} {a : Str} : kM1b g a e f S = g a e S := rfl
def kPart (r : RE) : RO := match r with
  | .ok (.int i) _ S1 => .ok (some i) S1
  | .ok _ _ _ => .bad
  | .xc c fs S1 => .xc c fs S1
  | .bad => .bad
theorem v_part {fe : FE} : fPart fe ρ S = kPart (fe ρ S) := rfl
theorem v_part1 {i : Int} : kPart (.ok (.int i) f S) = .ok (some i) S := rfl
theorem v_nopart : fNoPart ρ S = .ok none S := rfl
def kSl2 (d : D) (l u : Option Int) (S : Sto) : RE := dSl d l u S
def kSl1 (d : D) (hi : FO) (ρ : Ev) (l : Option Int) (S : Sto) : RE := bO (hi ρ S) (kSl2 d l)
def kSl (lo hi : FO) (ρ : Ev) (d : D) (_ : Fl) (S : Sto) : RE := bO (lo ρ S) (kSl1 d hi ρ)
theorem v_sl {fe : FE} {lo hi : FO} : fSl fe lo hi ρ S = bE (fe ρ S) (kSl lo hi ρ) := rfl
theorem v_sl0 {lo hi : FO} : kSl lo hi ρ d f S = bO (lo ρ S) (kSl1 d hi ρ) := rfl
theorem v_sl1 {hi : FO} {l : Option Int} : kSl1 d hi ρ l S = bO (hi ρ S) (kSl2 d l) := rfl
theorem v_sl2 {l u : Option Int} : kSl2 d l u S = dSl d l u S := rfl
theorem bO_ok {o : Option Int} {k : Option Int → Sto → RE} : bO (.ok o S) k = k o S := rfl
def kRev (d : D) (_ : Fl) (S1 : Sto) : RE := match d with
  | .str z => if z.length ≤ lim then .ok (.str (revS z)) .tr S1 else .bad
  | d => (match lsOf S1 d with
    | some ds => .ok (.lst ds.reverse) .fs S1
    | none => .bad)
theorem v_rev {fe : FE} : fRev fe ρ S = bE (fe ρ S) kRev := rfl
def kExpr (ρ : Ev) (_ : D) (_ : Fl) (S : Sto) : RSt := .nx ρ S
theorem v_expr {fe : FE} : sExpr fe ρ S = eS (fe ρ S) ρ (kExpr ρ) := rfl
theorem v_expr1 : kExpr ρ d f S = .nx ρ S := rfl
def kIfS (fa fb : FS) (ρ : Ev) (d : D) (_ : Fl) (S : Sto) : RSt := match d with
  | .bl true => fa ρ S
  | .bl false => fb ρ S
  | _ => .bad
theorem v_ifs {fc : FE} {fa fb : FS} : sIf fc fa fb ρ S = eS (fc ρ S) ρ (kIfS fa fb ρ) := rfl
theorem v_ifsT {fa fb : FS} : kIfS fa fb ρ (.bl true) f S = fa ρ S := rfl
theorem v_ifsF {fa fb : FS} : kIfS fa fb ρ (.bl false) f S = fb ρ S := rfl
def kRet (d : D) (f : Fl) (S : Sto) : RSt := if f.nop = true then .rt d f S else .bad
theorem v_ret {fe : FE} : sRet fe ρ S = eS (fe ρ S) ρ kRet := rfl
theorem v_retT : kRet d .tr S = .rt d .tr S := rfl
theorem v_retS : kRet d .fs S = .rt d .fs S := rfl
theorem v_retN : sRetN ρ S = .rt .non .tr S := rfl
def kRetV (s : Option Sl) (S : Sto) : RSt := match s with
  | some (.val d) => .rt d .tr S
  | some (.own ds) => .rt (.lst ds) .fs S
  | _ => .bad
theorem v_retV {i : Nat} : sRetV i ρ S = kRetV ρ[i]? S := by unfold sRetV kRetV; rfl
theorem v_retV1 : kRetV (some (.val d)) S = .rt d .tr S := rfl
theorem v_retV2 {ds : List D} : kRetV (some (.own ds)) S = .rt (.lst ds) .fs S := rfl
def kAsg2 (r : Option Ev) (S : Sto) : RSt := match r with
  | some ρ' => .nx ρ' S
  | none => .bad
def kAsg (g : FG) (ρ : Ev) (d : D) (f : Fl) (S : Sto) : RSt := if f.nop = true then kAsg2 (g d ρ S) S else .bad
theorem v_asg {fe : FE} {g : FG} : sAsg fe g ρ S = eS (fe ρ S) ρ (kAsg g ρ) := rfl
theorem v_asgT {g : FG} : kAsg g ρ d .tr S = kAsg2 (g d ρ S) S := rfl
theorem v_asgS {g : FG} : kAsg g ρ d .fs S = kAsg2 (g d ρ S) S := rfl
theorem v_asgN {g : FG} (h : f.nop = true) : kAsg g ρ d f S = kAsg2 (g d ρ S) S := by unfold kAsg; rw [if_pos h]
theorem v_asg2 : kAsg2 (some ρ) S = .nx ρ S := rfl
theorem v_gn {i : Nat} : gN i d ρ S = some (ρ.set i (.val d)) := rfl
def kGs (g : FGs) (ds : List D) (S : Sto) (r : Option Ev) : Option Ev := match r with
  | some ρ1 => g ds ρ1 S
  | none => none
theorem v_gsNil : gsNil [] ρ S = some ρ := rfl
theorem v_gsCons {g : FG} {gs : FGs} {ds : List D} : gsCons g gs (d :: ds) ρ S = kGs gs ds S (g d ρ S) := by
  unfold gsCons kGs; rfl
theorem v_gs {g : FGs} {ds : List D} : kGs g ds S (some ρ) = g ds ρ S := rfl
def kPar (i j : Nat) (ρ : Ev) (r : RA) : RSt := match r with
  | .ok [d, e] true S1 => .nx ((ρ.set i (.val d)).set j (.val e)) S1
  | .xc c fs S1 => .xc c fs ρ S1
  | _ => .bad
theorem v_par {i j : Nat} {fa : FA} : sPar i j fa ρ S = kPar i j ρ (fa ρ S) := by unfold sPar kPar; rfl
theorem v_par1 {i j : Nat} : kPar i j ρ (.ok [d, e] true S) = .nx ((ρ.set i (.val d)).set j (.val e)) S := rfl
def kAug2 (i : Nat) (g : Int → Int → Int) (x : Int) (ρ : Ev) (d : D) (_ : Fl) (S1 : Sto) : RSt := match d with
  | .int y => .nx (ρ.set i (.val (.int (g x y)))) S1
  | _ => .bad
def kAug (i : Nat) (g : Int → Int → Int) (fe : FE) (ρ : Ev) (S : Sto) (s : Option Sl) : RSt := match s with
  | some (.val (.int x)) => eS (fe ρ S) ρ (kAug2 i g x ρ)
  | _ => .bad
theorem v_aug {i : Nat} {g : Int → Int → Int} {fe : FE} : sAug i g fe ρ S = kAug i g fe ρ S ρ[i]? := by unfold sAug kAug kAug2; rfl
theorem v_aug1 {i : Nat} {g : Int → Int → Int} {fe : FE} {x : Int} : kAug i g fe ρ S (some (.val (.int x))) = eS (fe ρ S) ρ (kAug2 i g x ρ) := rfl
theorem v_aug2 {i : Nat} {g : Int → Int → Int} {x y : Int} : kAug2 i g x ρ (.int y) f S = .nx (ρ.set i (.val (.int (g x y)))) S := rfl
def kOwn (i : Nat) (ρ : Ev) (d : D) (f : Fl) (S1 : Sto) : RSt := match d, f with
  | .lst ds, .fs => .nx (ρ.set i (.own ds)) S1
  | _, _ => .bad
theorem v_own {i : Nat} {fe : FE} : sOwn i fe ρ S = eS (fe ρ S) ρ (kOwn i ρ) := rfl
theorem v_own1 {i : Nat} {ds : List D} : kOwn i ρ (.lst ds) .fs S = .nx (ρ.set i (.own ds)) S := rfl
theorem v_frz {i : Nat} {g : FS} : sFrz i g ρ S = g (frz i ρ) S := rfl
def kFrz (i : Nat) (ρ : Ev) (s : Option Sl) : Ev := match s with
  | some (.own ds) => ρ.set i (.val (.lst ds))
  | _ => ρ
theorem v_frz0 {i : Nat} : frz i ρ = kFrz i ρ ρ[i]? := by unfold frz kFrz; rfl
theorem v_frz1 {i : Nat} {ds : List D} : kFrz i ρ (some (.own ds)) = ρ.set i (.val (.lst ds)) := rfl
theorem v_frz2 {i : Nat} : kFrz i ρ (some (.val d)) = ρ := rfl
theorem v_frz3 {i : Nat} : kFrz i ρ (some .no) = ρ := rfl
theorem v_chk {i : Nat} {g : FS} (h : hasL i ρ S = true) : chk i g ρ S = g ρ S := by unfold chk; rw [if_pos h]
def kApp (i : Nat) (ρ : Ev) (d : D) (f : Fl) (S1 : Sto) : RSt := if f.nop = true then putL i ρ S1 (fun ds => if ds.length < lim then some (ds ++ [d]) else none) else .bad
theorem v_app {i : Nat} {fe : FE} : sApp i fe ρ S = eS (fe ρ S) ρ (kApp i ρ) := rfl
theorem v_app1 {i : Nat} {ds : List D} (hf : f.nop = true) (h : ρ[i]? = some (.own ds)) (hl : ds.length < lim) : kApp i ρ d f S = .nx (ρ.set i (.own (ds ++ [d]))) S := by
  unfold kApp putL; rw [if_pos hf, h]; simp [hl]
theorem v_app2 {i k : Nat} {ds : List D} (hf : f.nop = true) (h : ρ[i]? = some (.val (.cel k))) (hs : S[k]? = some (.lst ds)) (hl : ds.length < lim) : kApp i ρ d f S = .nx ρ (S.set k (.lst (ds ++ [d]))) := by
  unfold kApp putL; rw [if_pos hf, h]; dsimp only; rw [hs]; simp [hl]
def kSet2 (i : Nat) (ρ : Ev) (d e : D) (_ : Fl) (S2 : Sto) : RSt := match e with
  | .int k => putL i ρ S2 (fun ds => (ixN ds.length k).map fun j => ds.set j d)
  | _ => .bad
def kSet (i : Nat) (fi : FE) (ρ : Ev) (d : D) (f : Fl) (S1 : Sto) : RSt := if f.nop = true then (if hasL i ρ S1 = true then eS (fi ρ S1) ρ (kSet2 i ρ d) else .bad) else .bad
theorem v_set {i : Nat} {fi fe : FE} : sSetI i fi fe ρ S = eS (fe ρ S) ρ (kSet i fi ρ) := rfl
theorem v_setC {i k : Nat} {fi : FE} {ds : List D} (hf : f.nop = true) (h : ρ[i]? = some (.val (.cel k))) (hs : S[k]? = some (.lst ds)) : kSet i fi ρ d f S = eS (fi ρ S) ρ (kSet2 i ρ d) := by
  unfold kSet hasL; rw [if_pos hf, h]; simp [hs]
theorem v_setO {i : Nat} {fi : FE} {ds : List D} (hf : f.nop = true) (h : ρ[i]? = some (.own ds)) : kSet i fi ρ d f S = eS (fi ρ S) ρ (kSet2 i ρ d) := by
  unfold kSet hasL; rw [if_pos hf, h]; simp
theorem v_setC2 {i k j : Nat} {n : Int} {ds : List D} (h : ρ[i]? = some (.val (.cel k))) (hs : S[k]? = some (.lst ds)) (hj : ixN ds.length n = some j) : kSet2 i ρ d (.int n) f S = .nx ρ (S.set k (.lst (ds.set j d))) := by
  unfold kSet2 putL; simp only; rw [h]; simp [hs, hj]
theorem v_setO2 {i j : Nat} {n : Int} {ds : List D} (h : ρ[i]? = some (.own ds)) (hj : ixN ds.length n = some j) : kSet2 i ρ d (.int n) f S = .nx (ρ.set i (.own (ds.set j d))) S := by
  unfold kSet2 putL; simp only; rw [h]; simp [hj]
def kAdo (d : D) (f : Fl) (S1 : Sto) : RE := match d, f with
  | .lst ds, .fs => .ok (.cel S1.length) .tr (S1 ++ [.lst ds])
  | .lst _, _ => .bad
  | d, f => .ok d f S1
theorem v_ado {fe : FE} : fAdo fe ρ S = bE (fe ρ S) kAdo := rfl
theorem v_ado1 {ds : List D} : kAdo (.lst ds) .fs S = .ok (.cel S.length) .tr (S ++ [.lst ds]) := rfl
theorem v_ado2 (h : ∀ ds, d ≠ .lst ds) : kAdo d f S = .ok d f S := by
  unfold kAdo
  cases d <;> first | exact absurd rfl (h _) | rfl
def kXf (xf : Nat → Str → Bool) (n : Str) (s : Option Sl) (S : Sto) : RE := match s with
  | some (.exn c fs) => if xf c n = true then (match fs.lookup n with
    | some d => .ok d .tr S
    | none => .bad) else .bad
  | _ => .bad
theorem v_xf {xf : Nat → Str → Bool} {i : Nat} {n : Str} : fXf xf i n ρ S = kXf xf n ρ[i]? S := by unfold fXf kXf; rfl
theorem v_xf1 {xf : Nat → Str → Bool} {n : Str} (h : xf c n = true) (hl : fs.lookup n = some d) : kXf xf n (some (.exn c fs)) S = .ok d .tr S := by
  unfold kXf; simp [h, hl]
def kLoop (g : FG) (b : FS) (ρ : Ev) (r : RI) : RSt := match r with
  | .ok ds gd S1 => loopS gd g b ds ρ S1
  | .xc c fs S1 => .xc c fs ρ S1
  | .bad => .bad
theorem v_for {it : FI} {g : FG} {b : FS} : sFor it g b ρ S = kLoop g b ρ (it ρ S) := rfl
theorem v_for1 {g : FG} {b : FS} {ds : List D} {gd : Gd} : kLoop g b ρ (.ok ds gd S) = loopS gd g b ds ρ S := rfl
theorem v_forx {g : FG} {b : FS} : kLoop g b ρ (.xc c fs S) = .xc c fs ρ S := rfl
def kIter2 (r : Option (List D × Gd)) (S : Sto) : RI := match r with
  | some (ds, g) => .ok ds g S
  | none => .bad
def kIter (r : RE) : RI := match r with
  | .ok d f S1 => if f.nop = true then kIter2 (itemsD S1 d) S1 else .bad
  | .xc c fs S1 => .xc c fs S1
  | .bad => .bad
theorem v_iter {fe : FE} : fIter fe ρ S = kIter (fe ρ S) := by unfold fIter kIter kIter2; rfl
theorem v_iter1 : kIter (.ok d .tr S) = kIter2 (itemsD S d) S := rfl
theorem v_iter1s : kIter (.ok d .fs S) = kIter2 (itemsD S d) S := rfl
theorem v_iter2 {ds : List D} {g : Gd} : kIter2 (some (ds, g)) S = .ok ds g S := rfl
theorem it_str {z : Str} : itemsD S (.str z) = some (charsD z, none) := rfl
theorem it_lst {ds : List D} : itemsD S (.lst ds) = some (ds, none) := rfl
theorem it_tup {ds : List D} : itemsD S (.tup ds) = some (ds, none) := rfl
def kRng1 (r : RA) : RI := match r with
  | .ok [.int j] _ S1 => if -(2 ^ 62) ≤ j ∧ j < 2 ^ 62 then .ok (rngD 0 j.toNat) none S1 else .bad
  | .xc c fs S1 => .xc c fs S1
  | _ => .bad
theorem v_rng1 {fa : FA} : fRng1 fa ρ S = kRng1 (fa ρ S) := by unfold fRng1 kRng1; rfl
theorem v_rng1a {j : Int} {t : Bool} (h1 : -(2 ^ 62) ≤ j) (h2 : j < 2 ^ 62) : kRng1 (.ok [.int j] t S) = .ok (rngD 0 j.toNat) none S := by unfold kRng1; exact if_pos ⟨h1, h2⟩
def kEnum (r : RA) : RI := match r with
  | .ok [d] true S1 => (match d with
    | .str z => .ok (enumD (charsD z)) none S1
    | d => (match itemsD S1 d with
      | some (ds, g) => .ok (enumD ds) g S1
      | none => .bad))
  | .xc c fs S1 => .xc c fs S1
  | _ => .bad
theorem v_enum {fa : FA} : fEnum fa ρ S = kEnum (fa ρ S) := by unfold fEnum kEnum; rfl
theorem v_enumL {ds : List D} : kEnum (.ok [.lst ds] true S) = .ok (enumD ds) none S := rfl
theorem v_enumT {ds : List D} : kEnum (.ok [.tup ds] true S) = .ok (enumD ds) none S := rfl
def kRaise (c : Nat) (n : Str) (ρ : Ev) (r : RA) : RSt := match r with
  | .ok [d] true S1 => .xc c [(n, d)] ρ S1
  | .xc c' fs S1 => .xc c' fs ρ S1
  | _ => .bad
theorem v_raise {n : Str} {fa : FA} : sRaise c n fa ρ S = kRaise c n ρ (fa ρ S) := by unfold sRaise kRaise; rfl
theorem v_raise0 : sRaise0 c ρ S = .xc c [] ρ S := rfl
theorem v_raise1 {n : Str} : kRaise c n ρ (.ok [d] true S) = .xc c [(n, d)] ρ S := rfl
def kTry (em : Nat → Nat → Option Bool) (l : List (Nat × Option Nat × FS)) (r : RSt) : RSt := match r with
  | .xc c fs ρ' S' => hand em c fs ρ' S' l
  | r => r
theorem v_try {em : Nat → Nat → Option Bool} {b : FS} {l : List (Nat × Option Nat × FS)} : sTry em b l ρ S = kTry em l (b ρ S) := by unfold sTry kTry; rfl
theorem v_tryN {em : Nat → Nat → Option Bool} {l : List (Nat × Option Nat × FS)} : kTry em l (.nx ρ S) = .nx ρ S := rfl
theorem v_tryX {em : Nat → Nat → Option Bool} {l : List (Nat × Option Nat × FS)} : kTry em l (.xc c fs ρ S) = hand em c fs ρ S l := rfl
theorem v_handF {em : Nat → Nat → Option Bool} {h : Nat} {i : Option Nat} {b : FS} {l : List (Nat × Option Nat × FS)} (e : em c h = some false) : hand em c fs ρ S ((h, i, b) :: l) = hand em c fs ρ S l := by
  cases i with
  | some i =>
    conv => lhs; unfold hand
    rw [e]
  | none =>
    conv => lhs; unfold hand
    rw [e]
theorem v_handT {em : Nat → Nat → Option Bool} {h i : Nat} {b : FS} {l : List (Nat × Option Nat × FS)} {ρ2 : Ev} (e : em c h = some true) (hn : noExn ρ = true) (hb : b (ρ.set i (.exn c fs)) S = .nx ρ2 S2) (hn2 : noExn (ρ2.set i .no) = true) : hand em c fs ρ S ((h, some i, b) :: l) = .nx (ρ2.set i .no) S2 := by
  conv => lhs; unfold hand
  rw [e]; dsimp only
  rw [if_pos hn, hb]; dsimp only
  rw [if_pos hn2]
def kRun (r : RSt) : RE := match r with
  | .nx _ S' => .ok .non .tr S'
  | .rt d f S' => .ok d f S'
  | .xc c fs _ S' => .xc c fs S'
  | _ => .bad
theorem v_r0 {n : Nat} {b : FS} : runF n 0 b [] S = kRun (b (List.replicate n .no) S) := rfl
theorem v_r1 {n : Nat} {b : FS} {x : D} : runF n 1 b [x] S = kRun (b (.val x :: List.replicate (n - 1) .no) S) := rfl
theorem v_r2 {n : Nat} {b : FS} {x y : D} : runF n 2 b [x, y] S = kRun (b (.val x :: .val y :: List.replicate (n - 2) .no) S) := rfl
theorem v_r3 {n : Nat} {b : FS} {x y z : D} : runF n 3 b [x, y, z] S = kRun (b (.val x :: .val y :: .val z :: List.replicate (n - 3) .no) S) := rfl
theorem v_r4 {n : Nat} {b : FS} {x y z w : D} : runF n 4 b [x, y, z, w] S = kRun (b (.val x :: .val y :: .val z :: .val w :: List.replicate (n - 4) .no) S) := rfl
theorem v_r5 {n : Nat} {b : FS} {x y z w u : D} : runF n 5 b [x, y, z, w, u] S = kRun (b (.val x :: .val y :: .val z :: .val w :: .val u :: List.replicate (n - 5) .no) S) := rfl
def kNox (r : RE) : RE := match r with
  | .xc _ _ _ => .bad
  | r => r
theorem v_nx {g : FF} {ds : List D} : noxF g ds S = kNox (g ds S) := rfl
theorem v_nx1 : kNox (.ok d f S) = .ok d f S := rfl
theorem v_run1 : kRun (.rt d f S) = .ok d f S := rfl
theorem v_run2 : kRun (.nx ρ S) = .ok .non .tr S := rfl
theorem v_run3 : kRun (.xc c fs ρ S) = .xc c fs S := rfl
end
section
variable {S : Sto}
theorem d_eq_str {neg : Bool} {a b : Str} : dEqv neg (.str a) (.str b) S = .ok (.bl (neg ^^ decide (a = b))) .tr S := by
  unfold dEqv toP; simp only [tree, scalP, Bool.true_or, if_true]
  have : PyData.eqv (.str a) (.str b) = decide (a = b) := by simp [PyData.eqv]; rw [Bool.eq_iff_iff]; simp
  rw [this]
theorem d_eq_int {neg : Bool} {a b : Int} : dEqv neg (.int a) (.int b) S = .ok (.bl (neg ^^ decide (a = b))) .tr S := by
  unfold dEqv toP; simp only [tree, scalP, Bool.true_or, if_true]
  have : PyData.eqv (.int a) (.int b) = decide (a = b) := by simp [PyData.eqv]; rw [Bool.eq_iff_iff]; simp
  rw [this]
theorem d_add_int {a b : Int} : dAdd (.int a) (.int b) S = .ok (.int (a + b)) .tr S := rfl
theorem d_add_str {a b : Str} (h : a.length + b.length ≤ lim) : dAdd (.str a) (.str b) S = .ok (.str (a ++ b)) .tr S := by unfold dAdd; simp [h]
theorem d_add_lst {a b : List D} (h : a.length + b.length ≤ lim) : dAdd (.lst a) (.lst b) S = .ok (.lst (a ++ b)) .fs S := by unfold dAdd; simp [h, lsOf]
theorem d_sub {a b : Int} : dSub (.int a) (.int b) S = .ok (.int (a - b)) .tr S := rfl
theorem d_mul {a b : Int} (h : CMul a b) : dMul (.int a) (.int b) S = .ok (.int (a * b)) .tr S := by unfold dMul; simp [h]
theorem d_fdiv {a b : Int} (h : CDiv a b) : dFdiv (.int a) (.int b) S = .ok (.int (a / b)) .tr S := by unfold dFdiv; simp [h]
theorem d_mod {a b : Int} (h : 0 < b) : dMod (.int a) (.int b) S = .ok (.int (a % b)) .tr S := by unfold dMod; simp [h]
theorem d_pow {a b : Int} (h : CPow a b) : dPow (.int a) (.int b) S = .ok (.int (a ^ b.toNat)) .tr S := by unfold dPow; simp [h]
theorem d_cmp {p : Int → Int → Bool} {q : List Nat → List Nat → Bool} {a b : Int} : dCmp p q (.int a) (.int b) S = .ok (.bl (p a b)) .tr S := rfl
theorem d_len_str {z : Str} {t : Bool} (h : z.length ≤ lim) : dLen [.str z] t S = .ok (.int z.length) .tr S := by unfold dLen; simp [h]
theorem d_len_lst {ds : List D} {t : Bool} : dLen [.lst ds] t S = .ok (.int ds.length) .tr S := rfl
theorem d_len_tup {ds : List D} {t : Bool} : dLen [.tup ds] t S = .ok (.int ds.length) .tr S := rfl
theorem d_len_fro {l : Bool} {ds : List D} {t : Bool} : dLen [.fro l ds] t S = .ok (.int ds.length) .tr S := rfl
theorem d_ix_tup {ds : List D} {i : Int} {x : D} (h : atI ds i = some x) : dIx (.tup ds) (.int i) S = .ok x .tr S := by unfold dIx; simp [sqOf, h]
theorem d_ix_lst {ds : List D} {i : Int} {x : D} (h : atI ds i = some x) : dIx (.lst ds) (.int i) S = .ok x .tr S := by unfold dIx; simp [sqOf, h]
theorem d_ix_fro {l : Bool} {ds : List D} {i : Int} {x : D} (h : atI ds i = some x) : dIx (.fro l ds) (.int i) S = .ok x .tr S := by unfold dIx; simp [sqOf, h]
theorem d_ix_cel {k : Nat} {ds : List D} {i : Int} {x : D} (hs : S[k]? = some (.lst ds)) (h : atI ds i = some x) : dIx (.cel k) (.int i) S = .ok x .tr S := by unfold dIx; simp [sqOf, hs, h]
theorem d_ix_str {z : Str} {i : Int} {c : Nat} (hl : z.length ≤ lim) (h : atI (sl z) i = some c) : dIx (.str z) (.int i) S = .ok (.str ⟨#[c]⟩) .tr S := by unfold dIx; simp [hl, h]
theorem d_in_str {neg : Bool} {w z : Str} {c : Nat} (h : sl w = [c]) : dIn neg (.str w) (.str z) S = .ok (.bl (if neg then !decide (c ∈ sl z) else decide (c ∈ sl z))) .tr S := by unfold dIn; simp [h]
theorem d_len_sq {d : D} {ds : List D} {t : Bool} (h : sqOf S d = some ds) : dLen [d] t S = .ok (.int ds.length) .tr S := by
  unfold dLen
  cases d <;> first | (cases h; done) | (simp only [h])
theorem d_ix_sq {d : D} {ds : List D} {i : Int} {x : D} (h : sqOf S d = some ds) (hx : atI ds i = some x) : dIx d (.int i) S = .ok x .tr S := by
  unfold dIx
  cases d <;> first | (cases h; done) | (simp only [h, hx])
theorem d_nil {neg : Bool} {ds : List D} : dNil neg (.lst ds) (.lst []) S = .ok (.bl (neg ^^ ds.isEmpty)) .tr S := rfl
theorem d_mul_str {z : Str} {k : Int} (h : MulOk z k) : dMul (.str z) (.int k) S = .ok (.str (Txt.mul z k)) .tr S := by unfold dMul; simp [h]
theorem d_mul_lst {a : List D} {k : Int} (h1 : -(2 ^ 63) ≤ k) (h2 : k < 2 ^ 63) (h3 : a.length * k.toNat ≤ lim) : dMul (.lst a) (.int k) S = .ok (.lst (List.replicate k.toNat a).flatten) .fs S := by unfold dMul; simp only [lsOf]; exact if_pos ⟨h1, h2, h3⟩
theorem d_max {i j : Int} {t : Bool} : dMax [.int i, .int j] t S = .ok (.int (if j > i then j else i)) .tr S := rfl
theorem d_min {i j : Int} {t : Bool} : dMin [.int i, .int j] t S = .ok (.int (if j < i then j else i)) .tr S := rfl
theorem d_all {es : List D} {bs : List Bool} {t : Bool} (h : bools es = some bs) : dAll [.lst es] t S = .ok (.bl (bs.all id)) .tr S := by unfold dAll dQu; simp [lsOf, h]
theorem d_sl_lst {ds : List D} {lo hi : Option Int} : dSl (.lst ds) lo hi S = .ok (.lst (cutD ds lo hi)) .fs S := rfl
theorem d_sl_str {z : Str} {lo hi : Option Int} (h : z.length ≤ lim) : dSl (.str z) lo hi S = .ok (.str (cutS z lo hi)) .tr S := by unfold dSl; simp [h]
theorem d_join {a : Str} {ds : List D} {ys : List Str} (h : strsD ds = some ys) (hl : (ys.map (·.length)).sum + ys.length * a.length ≤ lim) : dJoin a (.lst ds) S = .ok (.str (Txt.join a ys)) .tr S := by unfold dJoin; simp [sqOf, h, hl]
theorem d_reprW {d : D} {p : PyData} {t : Bool} (h : Py S d p) (ok : Okw p) : dRepr [d] t S = .ok (.str p.shown) .tr S := by unfold dRepr; unfold Py at h; simp [h, ok]
theorem d_repr {d : D} {p : PyData} {t : Bool} (h : Py S d p) (ok : Okd p) : dRepr [d] t S = .ok (.str p.shown) .tr S := d_reprW h ok.w
theorem d_list {ds : List D} {t : Bool} : dList [.lst ds] t S = .ok (.lst ds) .fs S := rfl
theorem d_listT {ds : List D} {t : Bool} : dList [.tup ds] t S = .ok (.lst ds) .fs S := rfl
theorem d_tuple {ds : List D} {t : Bool} : dTuple [.lst ds] t S = .ok (.tup ds) .tr S := rfl
theorem d_isN {neg : Bool} {d : D} : dIsN neg d .non S = .ok (.bl (if neg then !Fx.isNon d else Fx.isNon d)) .tr S := rfl
theorem d_isB {neg j k : Bool} : dIs neg (.bl j) (.bl k) S = .ok (.bl (if neg then !decide (j = k) else decide (j = k))) .tr S := rfl
end
end
end Fx
namespace Fx
open PySem PySem.Spec PyProof.Rows L2 U
noncomputable section
def putD (f : Str) (d : D) : List (Str × D) → List (Str × D)
  | [] => [(f, d)]
  | (g, x) :: r => if g = f then (g, d) :: r else (g, x) :: putD f d r
section
variable {K : PySem.W.Frag} {ca : Nat → Addr} {ι B : List Addr} {H : Hp}
theorem RFs.len : ∀ {es : List (Str × D)} {fs : List (Str × V)}, RFs K ca ι B H fs es → fs.length = es.length
  | [], _, h => by cases h; rfl
  | (g, x) :: es, _, h => by
    cases h with
    | cons h1 h2 => rw [List.length_cons, List.length_cons, RFs.len h2]
end
section
variable {G : Gm} {E : WX} {F : Fr} {Dd : Ends} {ι ω ι1 ω1 : List Addr} {ρ : Ev} {S S1 : Sto} {σ : L2.St} {H H1 : Hp} {Q : VK}
def fFld (cf : Nat → Str → Bool) (f : Str) (fe : FE) : FE := fun ρ S => bE (fe ρ S) fun d _ S1 => (match d with
  | .obj c es => if cf c f = true then (match es.lookup f with
    | some x => .ok x .tr S1
    | none => .bad) else .bad
  | _ => .bad)
def sSetF (cf : Nat → Str → Bool) (i : Nat) (f : Str) (fe : FE) : FS := fun ρ S => eS (fe ρ S) ρ fun d fl S1 => if fl.nop = true then (match ρ[i]? with
  | some (.oob c es) => if (cf c f && decide (es.length < 100)) = true then .nx (ρ.set i (.oob c (putD f d es))) S1 else .bad
  | _ => .bad) else .bad
end
def lookF {α : Type} (c : Nat) : List (Nat × α) → Option α
  | [] => none
  | (k, f) :: l => if k = c then some f else lookF c l
def kMeth (tab : List (Nat × FF)) (m : Str) (fa : FA) (ρ : Ev) (d : D) (f : Fl) (S : Sto) : RE := match d with
  | .obj c es => if (f.nop && (es.lookup m).isNone) = true then (match lookF c tab with
    | some F => fCB (fun ds t S2 => if t = true then F (.obj c es :: ds) S2 else .bad) fa ρ S
    | none => .bad) else .bad
  | _ => .bad
def fMeth (tab : List (Nat × FF)) (m : Str) (fo : FE) (fa : FA) : FE := fun ρ S => bE (fo ρ S) (kMeth tab m fa ρ)
def kSp1 (tab : List (Nat × FF)) (ok : D → Bool) (d : D) (f : Fl) (S : Sto) : RE := match d with
  | .obj c es => if f.nop = true then (match lookF c tab with
    | some F => bE (F [.obj c es] S) fun r fl S2 => if (ok r && fl.nop) = true then .ok r .tr S2 else .bad
    | none => .bad) else .bad
  | _ => .bad
def fSp1 (tab : List (Nat × FF)) (ok : D → Bool) (fo : FE) : FE := fun ρ S => bE (fo ρ S) (kSp1 tab ok)
inductive RIn where
  | ok (es : List (Str × D)) (S : Sto) | xc (c : Nat) (fs : List (Str × D)) (S : Sto) | bad
/-- class, fields so far, arguments behind self -/
abbrev FIn := Nat → List (Str × D) → List D → Sto → RIn
def kRunI (c : Nat) : RSt → RIn
  | .nx ρ' S' => (match ρ'[0]? with
    | some (Sl.oob c' es') => if c' = c then .ok es' S' else .bad
    | _ => .bad)
  | .xc c' fs _ S' => .xc c' fs S'
  | _ => .bad
/-- C(..) -/
def kMk (c : Nat) (f : FIn) (ds : List D) (S : Sto) : RE := match f c [] ds S with
  | .ok es S' => .ok (.obj c es) .fs S'
  | .xc c' fs S' => .xc c' fs S'
  | .bad => .bad
def fMk (c : Nat) (f : FIn) (dd : List D) (fa : FA) : FE := fCB (fun ds t S => if t = true then kMk c f (ds ++ dd) S else .bad) fa
section
variable {G : Gm} {E : WX} {F : Fr} {ι ω : List Addr} {ρ : Ev} {S : Sto} {σ : L2.St} {H : Hp} {Q : VK}
def fMkK (n m : Nat) (c : Nat) (f : FIn) (gD : List D → List D → List D) (fa fk : FA) : FE := fun ρ S => match fa ρ S with
  | .ok ds true S1 => (match fk ρ S1 with
    | .ok es true S2 => if ds.length = n ∧ es.length = m then kMk c f (gD ds es) S2 else .bad
    | .xc c fs S2 => .xc c fs S2
    | _ => .bad)
  | .xc c fs S1 => .xc c fs S1
  | _ => .bad
/-- C.m(..), m a classmethod -/
def fCMeth (c : Nat) (f : FF) (fa : FA) : FE := fCB (fun ds t S => if t = true then f (.cls c :: ds) S else .bad) fa
def fFmt (fe : FE) : FE := fun ρ S => bE (fe ρ S) fun d _ S1 => (match d with
  | .str z => if z.length ≤ lim then .ok (.str z) .tr S1 else .bad
  | .int i => if i.natAbs.log2 < 1920 then .ok (.str (toString i)) .tr S1 else .bad
  | _ => .bad)
def fJs : List FE → Str → FE
  | [], acc => fun _ S => .ok (.str acc) .tr S
  | fe :: fs, acc => fun ρ S => bE (fe ρ S) fun d _ S1 => (match d with
    | .str y => if (acc ++ y).length ≤ lim then fJs fs (acc ++ y) ρ S1 else .bad
    | _ => .bad)
def rgD (a b : Int) : List D := (List.range (b - a).toNat).map fun i => D.int (a + (i : Nat))
def rgOk (a b : Int) : Bool := decide (-1000000 ≤ a ∧ a ≤ 1000000 ∧ -1000000 ≤ b ∧ b ≤ 1000000)
def fLRg (fa fb : FE) : FE := fun ρ S => bE (fa ρ S) fun d _ S1 => (match d with
  | .int a => bE (fb ρ S1) fun e _ S2 => (match e with
    | .int b => if rgOk a b = true then .ok (.lst (rgD a b)) .fs S2 else .bad
    | _ => .bad)
  | _ => .bad)
end
end
end Fx
namespace Fx
open PySem PySem.Spec PyProof.Rows L2 U
noncomputable section
section
variable {ρ : Ev} {S S1 S2 : Sto} {d e : D} {f : Fl} {c : Nat} {fs es : List (Str × D)}
def kFld (cf : Nat → Str → Bool) (n : Str) (d : D) (_ : Fl) (S1 : Sto) : RE := match d with
  | .obj c es => if cf c n = true then (match es.lookup n with
    | some x => .ok x .tr S1
    | none => .bad) else .bad
  | _ => .bad
theorem v_fld {cf : Nat → Str → Bool} {n : Str} {fe : FE} : fFld cf n fe ρ S = bE (fe ρ S) (kFld cf n) := rfl
def kSetF (cf : Nat → Str → Bool) (i : Nat) (n : Str) (ρ : Ev) (d : D) (fl : Fl) (S1 : Sto) : RSt := if fl.nop = true then (match ρ[i]? with
  | some (.oob c es) => if (cf c n && decide (es.length < 100)) = true then .nx (ρ.set i (.oob c (putD n d es))) S1 else .bad
  | _ => .bad) else .bad
theorem v_setF {cf : Nat → Str → Bool} {i : Nat} {n : Str} {fe : FE} : sSetF cf i n fe ρ S = eS (fe ρ S) ρ (kSetF cf i n ρ) := rfl
theorem v_meth {tab : List (Nat × FF)} {m : Str} {fo : FE} {fa : FA} : fMeth tab m fo fa ρ S = bE (fo ρ S) (kMeth tab m fa ρ) := rfl
def kMethA (g : FF) (d : D) (ds : List D) (t : Bool) (S2 : Sto) : RE := if t = true then g (d :: ds) S2 else .bad
theorem v_methA {g : FF} {ds : List D} : kMethA g d ds true S = g (d :: ds) S := rfl
theorem v_sp1 {tab : List (Nat × FF)} {ok : D → Bool} {fo : FE} : fSp1 tab ok fo ρ S = bE (fo ρ S) (kSp1 tab ok) := rfl
theorem v_mk {g : FIn} {dd : List D} {fa : FA} : fMk c g dd fa ρ S = bA (fa ρ S) (fun ds t S => if t = true then kMk c g (ds ++ dd) S else .bad) := rfl
def kMkK2 (n m c : Nat) (g : FIn) (gD : List D → List D → List D) (ds : List D) (r : RA) : RE := match r with
  | .ok es true S2 => if ds.length = n ∧ es.length = m then kMk c g (gD ds es) S2 else .bad
  | .xc c fs S2 => .xc c fs S2
  | _ => .bad
def kMkK (n m c : Nat) (g : FIn) (gD : List D → List D → List D) (fk : FA) (ρ : Ev) (r : RA) : RE := match r with
  | .ok ds true S1 => kMkK2 n m c g gD ds (fk ρ S1)
  | .xc c fs S1 => .xc c fs S1
  | _ => .bad
theorem v_mkK {n m : Nat} {g : FIn} {gD : List D → List D → List D} {fa fk : FA} : fMkK n m c g gD fa fk ρ S = kMkK n m c g gD fk ρ (fa ρ S) := by unfold fMkK kMkK kMkK2; rfl
theorem v_mkK1 {n m : Nat} {g : FIn} {gD : List D → List D → List D} {fk : FA} {ds : List D} : kMkK n m c g gD fk ρ (.ok ds true S) = kMkK2 n m c g gD ds (fk ρ S) := rfl
theorem v_cmeth {g : FF} {fa : FA} : fCMeth c g fa ρ S = bA (fa ρ S) (kMethA g (.cls c)) := rfl
theorem v_runI1 {r : Ev} : kRunI c (.nx (.oob c es :: r) S) = .ok es S := by unfold kRunI; simp
theorem v_runIx {c' : Nat} : kRunI c (.xc c' fs ρ S) = .xc c' fs S := rfl
def kFmt (d : D) (_ : Fl) (S1 : Sto) : RE := match d with
  | .str z => if z.length ≤ lim then .ok (.str z) .tr S1 else .bad
  | .int i => if i.natAbs.log2 < 1920 then .ok (.str (toString i)) .tr S1 else .bad
  | _ => .bad
theorem v_fmt {fe : FE} : fFmt fe ρ S = bE (fe ρ S) kFmt := rfl
def kJs (fs : List FE) (acc : Str) (ρ : Ev) (d : D) (_ : Fl) (S1 : Sto) : RE := match d with
  | .str y => if (acc ++ y).length ≤ lim then fJs fs (acc ++ y) ρ S1 else .bad
  | _ => .bad
theorem v_js0 {acc : Str} : fJs [] acc ρ S = .ok (.str acc) .tr S := rfl
theorem v_js {fe : FE} {fs : List FE} {acc : Str} : fJs (fe :: fs) acc ρ S = bE (fe ρ S) (kJs fs acc ρ) := rfl
def kLRg2 (a : Int) (e : D) (_ : Fl) (S2 : Sto) : RE := match e with
  | .int b => if rgOk a b = true then .ok (.lst (rgD a b)) .fs S2 else .bad
  | _ => .bad
def kLRg (fb : FE) (ρ : Ev) (d : D) (_ : Fl) (S1 : Sto) : RE := match d with
  | .int a => bE (fb ρ S1) (kLRg2 a)
  | _ => .bad
theorem v_lrg {fa fb : FE} : fLRg fa fb ρ S = bE (fa ρ S) (kLRg fb ρ) := rfl
theorem v_lrg1 {fb : FE} {a : Int} : kLRg fb ρ (.int a) f S = bE (fb ρ S) (kLRg2 a) := rfl
/-- keyword calls -/
def kCallK2 (n m : Nat) (g : FF) (gD : List D → List D → List D) (ds : List D) (r : RA) : RE := match r with
  | .ok es true S2 => if ds.length = n ∧ es.length = m then g (gD ds es) S2 else .bad
  | .xc c fs S2 => .xc c fs S2
  | _ => .bad
def kCallK (n m : Nat) (g : FF) (gD : List D → List D → List D) (fk : FA) (ρ : Ev) (r : RA) : RE := match r with
  | .ok ds true S1 => kCallK2 n m g gD ds (fk ρ S1)
  | .xc c fs S1 => .xc c fs S1
  | _ => .bad
theorem v_callK {n m : Nat} {g : FF} {gD : List D → List D → List D} {fa fk : FA} : fCallK n m g gD fa fk ρ S = kCallK n m g gD fk ρ (fa ρ S) := by unfold fCallK kCallK kCallK2; rfl
theorem v_callK1 {n m : Nat} {g : FF} {gD : List D → List D → List D} {fk : FA} {ds : List D} : kCallK n m g gD fk ρ (.ok ds true S) = kCallK2 n m g gD ds (fk ρ S) := rfl
end
end
end Fx
namespace Fx
open PySem PySem.Spec PyProof.Rows L2 U
noncomputable section
section
variable {ρ : Ev} {S : Sto}
theorem d_sl_tup {ds : List D} {lo hi : Option Int} (h : ¬ (HT.sIx ds.length 0 lo = 0 ∧ HT.sIx ds.length ds.length hi = ds.length)) : dSl (.tup ds) lo hi S = .ok (.tup (cutD ds lo hi)) .tr S := by unfold dSl; exact if_neg h
/-- x in a list of texts -/
theorem flat_strs : ∀ zs : List Str, flatAll (zs.map D.str) = some (zs.map V.str)
  | [] => rfl
  | z :: zs => by simp only [List.map_cons, flatAll, flat, flat_strs zs]
theorem inV_strs (z : Str) : ∀ zs : List Str, inV (.str z) (zs.map V.str) = decide (z ∈ zs)
  | [] => rfl
  | w :: zs => by
    have ih := inV_strs z zs
    have e : inV (.str z) ((w :: zs).map V.str) = (eqV (.str w) (.str z) || inV (.str z) (zs.map V.str)) := rfl
    rw [e, ih]
    have e2 : eqV (.str w) (.str z) = decide (w = z) := by
      show (w == z) = _
      rw [Bool.eq_iff_iff]; simp
    rw [e2, ← Bool.decide_or]
    apply decide_eq_decide.mpr
    rw [List.mem_cons]
    exact ⟨fun h => h.imp Eq.symm id, fun h => h.imp Eq.symm id⟩
theorem d_in_strs {z : Str} {zs : List Str} : dIn false (.str z) (.lst (zs.map D.str)) S = .ok (.bl (decide (z ∈ zs))) .tr S := by
  unfold dIn
  simp only [flat, sqOf, flat_strs, inV_strs]
  rfl
theorem d_nin_strs {z : Str} {zs : List Str} : dIn true (.str z) (.lst (zs.map D.str)) S = .ok (.bl (!decide (z ∈ zs))) .tr S := by
  unfold dIn
  simp only [flat, sqOf, flat_strs, inV_strs]
  rfl
theorem d_in_strsT {z : Str} {zs : List Str} : dIn false (.str z) (.tup (zs.map D.str)) S = .ok (.bl (decide (z ∈ zs))) .tr S := by
  unfold dIn
  simp only [flat, sqOf, flat_strs, inV_strs]
  rfl
end
theorem cutD_upto (xs : List D) (j : Nat) : cutD xs none (some (j : Int)) = xs.take j := by
  unfold cutD
  rw [HT.sIx_nat, HT.sIx_none]
  have := cut_mid xs 0 j
  simp only [Nat.zero_min, List.drop_zero, Nat.sub_zero] at this ⊢
  exact this
theorem cutD_from (xs : List D) (i : Nat) : cutD xs (some (i : Int)) none = xs.drop i := by
  unfold cutD
  rw [HT.sIx_nat, HT.sIx_none]
  have := cut_mid xs i xs.length
  rw [Nat.min_self] at this
  rw [this]
  by_cases h : i ≤ xs.length
  · exact List.take_of_length_le (by rw [List.length_drop]; omega)
  · rw [List.drop_eq_nil_of_le (by omega)]; simp
theorem cutD_mid (xs : List D) (i j : Nat) : cutD xs (some (i : Int)) (some (j : Int)) = (xs.drop i).take (j - i) := by
  unfold cutD
  rw [HT.sIx_nat, HT.sIx_nat]; exact cut_mid xs i j
end
end Fx
namespace Fx
open PySem PySem.Spec PyProof.Rows L2 U
noncomputable section
/-- kinds of things -/
inductive Tg where
  | non | bl | int | str | lst | tup | dct | obj (c : Nat)
def tgD (S : Sto) : D → Option Tg
  | .non => some .non
  | .bl _ => some .bl
  | .int _ => some .int
  | .str _ => some .str
  | .lst _ => some .lst
  | .tup _ => some .tup
  | .dct _ => some .dct
  | .obj c _ => some (.obj c)
  | .cel k => (match S[k]? with
    | some (.lst _) => some .lst
    | some (.dK _) => some .dct
    | some (.ins c _) => some (.obj c)
    | none => none)
  | _ => none
def fIsiX (kt : Tg → Option Bool) (fe : FE) : FE := fun ρ S => bE (fe ρ S) fun d _ S1 => (match (tgD S1 d).bind kt with
  | some b => .ok (.bl b) .tr S1
  | none => .bad)
section
variable {G : Gm} {E : WX}
def fBinO (tab : List (Nat × FF)) (rg : Nat → Tg → Bool) (fa fb : FE) : FE := fun ρ S => bE (fa ρ S) fun d f1 S1 => bE (fb ρ S1) fun e f2 S2 => (match d with
  | .obj c es => if (f1.nop && f2.nop) = true then (match lookF c tab, tgD S2 e with
    | some F, some g => if rg c g = true then F [.obj c es, e] S2 else .bad
    | _, _ => .bad) else .bad
  | _ => .bad)
def fInO (neg : Bool) (tab : List (Nat × FF)) (fa fb : FE) : FE := fun ρ S => bE (fa ρ S) fun d f1 S1 => bE (fb ρ S1) fun e f2 S2 => (match e with
  | .obj c es => if (f1.nop && f2.nop) = true then (match lookF c tab with
    | some F => bE (F [.obj c es, d] S2) fun r _ S3 => (match r with
      | .bl k => .ok (.bl (k != neg)) .tr S3
      | _ => .bad)
    | none => .bad) else .bad
  | _ => .bad)
def fEqO (tab : List (Nat × FF)) (fa fb : FE) : FE := fun ρ S => bE (fa ρ S) fun d f1 S1 => bE (fb ρ S1) fun e f2 S2 => (match d, e with
  | .obj c es, .obj c' es' => if (f1.nop && f2.nop && decide (c' = c)) = true then (match lookF c tab with
    | some F => bE (F [.obj c es, .obj c' es'] S2) fun r _ S3 => (match r with
      | .bl k => .ok (.bl k) .tr S3
      | _ => .bad)
    | none => .bad) else .bad
  | _, _ => .bad)
end
section
variable {G : Gm} {E : WX}
def sAugD (i : Nat) (f : D → D → Sto → RE) (fe : FE) : FS := fun ρ S => match ρ[i]? with
  | some (.val x) => eS (fe ρ S) ρ fun d _ S1 => eS (f x d S1) ρ fun r fl S2 => if fl.nop = true then .nx (ρ.set i (.val r)) S2 else .bad
  | _ => .bad
end
def firstIdx (q : PyData) : List PyData → Nat → Option Nat
  | [], _ => none
  | p :: ps, i => if PyData.eqv p q = true then some i else firstIdx q ps (i + 1)
section
variable {G : Gm} {E : WX}
def isLs (S : Sto) : D → Bool
  | .lst _ => true
  | .cel k => (match S[k]? with | some (.lst _) => true | _ => false)
  | _ => false
def kIdxL (d e : D) (S : Sto) : RE := match toP S d, toP S e with
  | some (.list ps), some q => if (SeqAt.shaped (.list ps) && SeqAt.shaped q && !(PyData.list ps).hasDict && !q.hasDict) = true then (match firstIdx q ps 0 with
    | some j => .ok (.int (j : Nat)) .tr S
    | none => .bad) else .bad
  | _, _ => .bad
def fIdxL (fo fe : FE) : FE := fun ρ S => bE (fo ρ S) fun d _ S1 => if isLs S1 d = true then bE (fe ρ S1) fun e _ S2 => kIdxL d e S2 else .bad
end
section
variable {ρ : Ev} {S S1 S2 : Sto} {d e : D} {f f1 f2 fl : Fl} {c : Nat} {fs es : List (Str × D)} {tab : List (Nat × FF)}
def kIsiX (kt : Tg → Option Bool) (d : D) (_ : Fl) (S1 : Sto) : RE := match (tgD S1 d).bind kt with
  | some b => .ok (.bl b) .tr S1
  | none => .bad
theorem v_isiX {kt : Tg → Option Bool} {fe : FE} : fIsiX kt fe ρ S = bE (fe ρ S) (kIsiX kt) := rfl
def kBinO2 (tab : List (Nat × FF)) (rg : Nat → Tg → Bool) (d : D) (f1 : Fl) (e : D) (f2 : Fl) (S2 : Sto) : RE := match d with
  | .obj c es => if (f1.nop && f2.nop) = true then (match lookF c tab, tgD S2 e with
    | some F, some g => if rg c g = true then F [.obj c es, e] S2 else .bad
    | _, _ => .bad) else .bad
  | _ => .bad
def kBinO1 (tab : List (Nat × FF)) (rg : Nat → Tg → Bool) (fb : FE) (ρ : Ev) (d : D) (f1 : Fl) (S1 : Sto) : RE := bE (fb ρ S1) (kBinO2 tab rg d f1)
theorem v_binO {rg : Nat → Tg → Bool} {fa fb : FE} : fBinO tab rg fa fb ρ S = bE (fa ρ S) (kBinO1 tab rg fb ρ) := rfl
theorem v_binO1 {rg : Nat → Tg → Bool} {fb : FE} : kBinO1 tab rg fb ρ d f S = bE (fb ρ S) (kBinO2 tab rg d f) := rfl
def kInO3 (neg : Bool) (r : D) (_ : Fl) (S3 : Sto) : RE := match r with
  | .bl k => .ok (.bl (k != neg)) .tr S3
  | _ => .bad
def kInO2 (neg : Bool) (tab : List (Nat × FF)) (d : D) (f1 : Fl) (e : D) (f2 : Fl) (S2 : Sto) : RE := match e with
  | .obj c es => if (f1.nop && f2.nop) = true then (match lookF c tab with
    | some F => bE (F [.obj c es, d] S2) (kInO3 neg)
    | none => .bad) else .bad
  | _ => .bad
def kInO1 (neg : Bool) (tab : List (Nat × FF)) (fb : FE) (ρ : Ev) (d : D) (f1 : Fl) (S1 : Sto) : RE := bE (fb ρ S1) (kInO2 neg tab d f1)
theorem v_inO {neg : Bool} {fa fb : FE} : fInO neg tab fa fb ρ S = bE (fa ρ S) (kInO1 neg tab fb ρ) := rfl
theorem v_inO1 {neg : Bool} {fb : FE} : kInO1 neg tab fb ρ d f S = bE (fb ρ S) (kInO2 neg tab d f) := rfl
theorem v_inO3 {neg k : Bool} : kInO3 neg (.bl k) f S = .ok (.bl (k != neg)) .tr S := rfl
def kEqO3 (r : D) (_ : Fl) (S3 : Sto) : RE := match r with
  | .bl k => .ok (.bl k) .tr S3
  | _ => .bad
def kEqO2 (tab : List (Nat × FF)) (d : D) (f1 : Fl) (e : D) (f2 : Fl) (S2 : Sto) : RE := match d, e with
  | .obj c es, .obj c' es' => if (f1.nop && f2.nop && decide (c' = c)) = true then (match lookF c tab with
    | some F => bE (F [.obj c es, .obj c' es'] S2) kEqO3
    | none => .bad) else .bad
  | _, _ => .bad
def kEqO1 (tab : List (Nat × FF)) (fb : FE) (ρ : Ev) (d : D) (f1 : Fl) (S1 : Sto) : RE := bE (fb ρ S1) (kEqO2 tab d f1)
theorem v_eqO {fa fb : FE} : fEqO tab fa fb ρ S = bE (fa ρ S) (kEqO1 tab fb ρ) := rfl
theorem v_eqO1 {fb : FE} : kEqO1 tab fb ρ d f S = bE (fb ρ S) (kEqO2 tab d f) := rfl
theorem v_eqO3 {k : Bool} : kEqO3 (.bl k) f S = .ok (.bl k) .tr S := rfl
def kAugD2 (i : Nat) (ρ : Ev) (r : D) (fl : Fl) (S2 : Sto) : RSt := if fl.nop = true then .nx (ρ.set i (.val r)) S2 else .bad
def kAugD1 (i : Nat) (g : D → D → Sto → RE) (ρ : Ev) (x d : D) (_ : Fl) (S1 : Sto) : RSt := eS (g x d S1) ρ (kAugD2 i ρ)
def kAugD (i : Nat) (g : D → D → Sto → RE) (fe : FE) (ρ : Ev) (S : Sto) (s : Option Sl) : RSt := match s with
  | some (.val x) => eS (fe ρ S) ρ (kAugD1 i g ρ x)
  | _ => .bad
theorem v_augD {i : Nat} {g : D → D → Sto → RE} {fe : FE} : sAugD i g fe ρ S = kAugD i g fe ρ S ρ[i]? := by unfold sAugD kAugD kAugD1 kAugD2; rfl
theorem v_augD0 {i : Nat} {g : D → D → Sto → RE} {fe : FE} {x : D} : kAugD i g fe ρ S (some (.val x)) = eS (fe ρ S) ρ (kAugD1 i g ρ x) := rfl
theorem v_augD1 {i : Nat} {g : D → D → Sto → RE} {x : D} : kAugD1 i g ρ x d f S = eS (g x d S) ρ (kAugD2 i ρ) := rfl
theorem v_augD2 {i : Nat} : kAugD2 i ρ d .tr S = .nx (ρ.set i (.val d)) S := rfl
def kIdx2 (d e : D) (_ : Fl) (S : Sto) : RE := kIdxL d e S
def kIdx1 (fe : FE) (ρ : Ev) (d : D) (_ : Fl) (S1 : Sto) : RE := if isLs S1 d = true then bE (fe ρ S1) (kIdx2 d) else .bad
theorem v_idxL {fo fe : FE} : fIdxL fo fe ρ S = bE (fo ρ S) (kIdx1 fe ρ) := rfl
theorem v_idxL1 {fe : FE} {ds : List D} : kIdx1 fe ρ (.lst ds) f S = bE (fe ρ S) (kIdx2 (.lst ds)) := rfl
theorem v_idxL2 : kIdx2 d e f S = kIdxL d e S := rfl
end
end
end Fx
namespace U
open PySem PySem.Spec PyProof.Rows L2 NdefX
/-- statements of a def whose own code is known -/
structure PSA (X : Cx) (c : Code) (b : List Stmt) (t : TS) : Prop where
  run : ∀ (pins : List (Addr × Obj)) (s : Shared) (σ : L2.St) (H : Hp) (D : Ends), Inv X pins σ H s → t D σ H → _root_.PySem.wpAt (model X.prog X.w) X.A c (execs b X.env) (SP X pins D) X.xe s
/-- what the text says for super() in a method at f of the class at D, whose cell is cc and code object cda; f2 the method of the class above -/
structure SupC (P : Program) (K : PySem.W.Frag) (D f2 cc cda : Addr) : Prop where
  cell : ∃ cl cld csl, K.lookup cc = some ⟨cl, cld, .cell (some (.ref D)), csl⟩
  code : ∃ ccl cdd vs ccs file tf, K.lookup cda = some ⟨ccl, cdd, .fields vs, ccs⟩ ∧ vs[2]? = some (.str file tf) ∧ ((P.main.file : Str) == file) = true
  top : (P.main.scope.names.lookup ("super" : Str)).isSome = false
  cls : ∃ cd, PySem.W.clsIn K D = some cd ∧ PySem.W.alongIn K "__init__" ((cd.mro.dropWhile (· != .ref D)).drop 1) = some (some (.ref f2))
  sub : PySem.W.mroIn K D (.ref D) = some true
  opq : PySem.W.nsIn K cStatics "thirdparty.any" = some none
  ty : PySem.W.typeIn K (.ref f2) = some (.type "function")
  fi : PySem.W.fnIn K f2 = true
abbrev nfS (name qual : Str) (params : Arguments) (body : List Stmt) (scope : Scope) (cc cda : Addr) : NF := ⟨name, qual, params, body, scope, [("__class__", cc)], cda⟩
abbrev cxS (CX : CXT) (P : Program) (w : World) (K : PySem.W.Frag) (mg : Str → Option Value) (base : Heap) (N : List Str) (name qual : Str) (params : Arguments) (body : List Stmt) (scope : Scope) (cc cda f : Addr) (A : Around) (outer : List Env) (s : Shared) (H : Hp) (E : XK) : Cx :=
  ncx CX P w K mg base N (nfS name qual params body scope cc cda) f A outer s H E
abbrev envS (name qual : Str) (params : Arguments) (body : List Stmt) (scope : Scope) (cc cda f L : Addr) : Env := envF (nfS name qual params body scope cc cda) f L
theorem fn_ofS {CX : CXT} {P : Program} {w : World} {K : PySem.W.Frag} {mg : Str → Option Value} {base : Heap} {k : Nat} {f cc cda D : Addr} {name qual : Str} {params : Arguments} {body : List Stmt} {scope : Scope} {dV kV doc pm ct oc : Value} {an od : Option Addr}
    {osl : Array (Option Value)} {N ps : List Str} {sp : Sp} (lk : K.lookup f = some ⟨oc, od, .func (PySem.W.ksFn name qual params body scope dV kV doc pm an (.ref cda) ct cc), osl⟩) (hcd : PySem.W.codeIn K (.ref cda) qual = true) (S : NScope N ps ["__class__"] scope)
    (cell : ∃ cl cld csl, K.lookup cc = some ⟨cl, cld, .cell (some (.ref D)), csl⟩) (len : ∀ vs H Q E, sp vs H Q E → vs.length = ps.length)
    (hbody : ∀ (A : Around) (outer : List Env) (s : Shared) (H : Hp) (vs : List V) (Q : VK) (E : XK), Room k (A.deeper (envS name qual params body scope cc cda f s.heap.objs.size)) → sp vs H Q E →
      ∃ t, PSA (cxS CX P w K mg base N name qual params body scope cc cda f A outer s H E) (.func body (envS name qual params body scope cc cda f s.heap.objs.size)) body t ∧ t { nx := fun _ H' => Q .non H', rt := Q } (startF N vs [some (.ref D)]) H) :
    FnOk P w K mg base CX (k + 1) f (PySem.W.ksFn name qual params body scope dV kV doc pm an (.ref cda) ct cc) ps sp := by
  obtain ⟨cl, cld, csl, cell⟩ := cell
  refine ⟨len, fun A outer s H args us vs Q E hr e0 hb r hsp => ?_⟩
  have hl := len _ _ _ _ hsp
  have KX : K.In s.heap := e0.mod.kin.keeps fun b o e => (e0.bs b o e).1
  have lim : s.heap.NoLimit := e0.mod.nolimit.keeps fun b o e => (e0.bs b o e).1
  have C : CellsAt [(("__class__" : Str), cc)] ["__class__"] [some (.ref D)] s.heap H := by
    have one : ∀ {y c}, ([(("__class__" : Str), cc)] : List (Str × Addr)).lookup y = some c → y = "__class__" ∧ c = cc := fun {y c} h => by
      rw [List.lookup_cons] at h
      split at h
      · rename_i z; cases h; exact ⟨by simpa using z, rfl⟩
      · cases h
    refine ⟨rfl, fun y c h => ?_, fun x y c h1 h2 => (one h1).1.trans (one h2).1.symm, fun i y h => ?_⟩
    · obtain ⟨_, rfl⟩ := one h
      exact ⟨(e0.bs _ _ (e0.mod.kin _ _ cell)).2, _, _, KX _ _ cell, rfl⟩
    · cases i with
      | zero =>
        cases h
        exact ⟨cc, rfl, fun v hv => by cases hv; exact ⟨.ref D, rfl, _, KX _ _ cell, rfl⟩⟩
      | succ i => cases h
  refine ks_codeAny_call_defAt (fd := PySem.W.ksFn name qual params body scope dV kV doc pm an (.ref cda) ct cc) (body := body) (binds := ps.zip us) hr.depth (KX _ _ lk) rfl lim (PySem.W.codeRec_of KX hcd) rfl hb S.nocell (fun ⟨n, _⟩ hy => S.par n (List.of_mem_zip hy).1) (fun h₁ hns kp => ?_) S.co S.gen S.kind
  obtain ⟨t, ht, hq⟩ := hbody A outer s H vs Q E (hr.deeper _) hsp
  have I : Inv (cxS CX P w K mg base N name qual params body scope cc cda f A outer s H E) [] (startF N vs [some (.ref D)]) H { s with heap := h₁, toks := s.toks + (ps.zip us).length } := inv_startN S hr.hd e0 hl r C hns kp
  refine ks_wpAt_mono (ht.run [] _ _ H _ I hq) (fun fl s' hs => ?_) fun e s' hs => hs
  have fin : ∀ {σ' : L2.St} {H' : Hp} {v : V} {u : Value}, Inv (cxS CX P w K mg base N name qual params body scope cc cda f A outer s H E) [] σ' H' s' → L2.RelV v u → Q v H' → CE outer P w H s Q u s' :=
    fun {σ' H' v u} J rv q => ⟨v, H', J.os, J.bare, J.base, J.hok, rv, q⟩
  cases fl with
  | ret u =>
    obtain ⟨v, σ', H', J, rv, q⟩ := hs
    exact fin J rv q
  | next =>
    obtain ⟨σ', H', J, q⟩ := hs
    exact fin (v := V.non) (u := Value.none) J rfl q
  | brk =>
    obtain ⟨_, _, _, q⟩ := hs
    exact False.elim q
  | cont =>
    obtain ⟨_, _, _, q⟩ := hs
    exact False.elim q
end U
namespace Fx
open PySem PySem.Spec PyProof.Rows L2 U NdefX
noncomputable section
section
variable {G : Gm} {E : WX} {F : Fr} {Dd : Ends} {ι ω ι' : List Addr} {ρ : Ev} {S S' : Sto} {σ : L2.St} {H H' : Hp} {Q : VK}
def kSup (f : FIn) (ρ : Ev) (ds : List D) (S1 : Sto) : RSt := match ρ[0]? with
  | some (Sl.oob c es) => (match f c es ds S1 with
    | .ok es' S2 => .nx (ρ.set 0 (.oob c es')) S2
    | _ => .bad)
  | _ => .bad
def sSup (c0 : Nat) (f : FIn) (fa : FA) : FS := fun ρ S => match fa ρ S with
  | .ok ds true S1 => (match ρ[0]? with
    | some (Sl.oob c _) => if c = c0 then kSup f ρ ds S1 else .bad
    | _ => .bad)
  | _ => .bad
end
end
end Fx
namespace U
open PySem PySem.Spec PyProof.Rows L2 NdefX
structure PEnt (X : Cx) (m : Str) (n : Nat) (C : Addr) (sp : Sp) : Prop where
  ex : ∃ k f p fd ps, k ≤ n ∧ Cls X.K C ∧ PropOf X.K C m p f ∧ FnOk X.prog X.w X.K X.mg X.base CX0 k f fd ps sp ∧ Binds X.K fd ps []
inductive PTab (X : Cx) (m : Str) (n : Nat) : List (Addr × Sp) → Prop
  | nil : PTab X m n []
  | cons {C : Addr} {sp : Sp} {l : List (Addr × Sp)} : PEnt X m n C sp → PTab X m n l → PTab X m n ((C, sp) :: l)
theorem PTab.at' {X : Cx} {m : Str} {n : Nat} {C : Addr} {sp : Sp} : ∀ {l : List (Addr × Sp)}, PTab X m n l → (C, sp) ∈ l → PEnt X m n C sp
  | _, .cons h r, hm => by
    rcases List.mem_cons.mp hm with e | e
    · cases e; exact h
    · exact r.at' e
structure FunS (P : Program) (K : PySem.W.Frag) (x qual : Str) (st : Stmt) (dvs : List V) (f : Addr) (fd : FuncData) (D f2 : Addr) : Prop where
  ex : ∃ (oc : Value) (od : Option Addr) (dV kV doc pm : Value) (an : Option Addr) (cda cc : Addr) (ct : Value) (osl : Array (Option Value)),
    fd = PySem.W.ksFn x qual (defArgs st) (defBody st) (defScope st) dV kV doc pm an (.ref cda) ct cc ∧ K.lookup f = some ⟨oc, od, .func fd, osl⟩ ∧ PySem.W.codeIn K (.ref cda) qual = true ∧ DflV K dV dvs ∧ SupC P K D f2 cc cda
  kp : PySem.W.keepIn K (.ref f) = true
section
variable {P : Program} {w : World} {K : PySem.W.Frag} {mg : Str → Option Value} {base : Heap} {x qual : Str} {st : Stmt} {dvs : List V} {f D f2 : Addr} {fd : FuncData} {ps : List Str}
theorem FunS.ok {CX : CXT} {N : List Str} {k : Nat} {sp : Sp} (F : FunS P K x qual st dvs f fd D f2) (S : NScope N ps ["__class__"] (defScope st)) (len : ∀ vs H Q E, sp vs H Q E → vs.length = ps.length)
    (hbody : ∀ (cc cda : Addr) (A : Around) (outer : List Env) (s : Shared) (H : Hp) (vs : List V) (Q : VK) (E : XK), SupC P K D f2 cc cda → (∃ oc od fd osl, K.lookup f = some ⟨oc, od, .func fd, osl⟩ ∧ fd.params = defArgs st) → Room k (A.deeper (envS x qual (defArgs st) (defBody st) (defScope st) cc cda f s.heap.objs.size)) → sp vs H Q E →
      ∃ t, PSA (cxS CX P w K mg base N x qual (defArgs st) (defBody st) (defScope st) cc cda f A outer s H E) (.func (defBody st) (envS x qual (defArgs st) (defBody st) (defScope st) cc cda f s.heap.objs.size)) (defBody st) t ∧ t { nx := fun _ H' => Q .non H', rt := Q } (startF N vs [some (.ref D)]) H) :
    FnOk P w K mg base CX (k + 1) f fd ps sp := by
  obtain ⟨oc, od, dV, kV, doc, pm, an, cda, cc, ct, osl, rfl, lk, hcd, _, T⟩ := F.ex
  exact fn_ofS lk hcd S T.cell len fun A outer s H vs Q E hr h => hbody cc cda A outer s H vs Q E T ⟨oc, od, _, osl, lk, rfl⟩ hr h
theorem FunS.binds (F : FunS P K x qual st dvs f fd D f2) (h : ∀ (dV kV doc pm : Value) (an : Option Addr) (cdv ct : Value) (cc : Addr) (us : List Value), us.length = ps.length → bindArgs (PySem.W.ksFn x qual (defArgs st) (defBody st) (defScope st) dV kV doc pm an cdv ct cc) ⟨us, []⟩ = pure (ps.zip us)) : Binds K fd ps [] := by
  obtain ⟨oc, od, dV, kV, doc, pm, an, cda, cc, ct, osl, rfl, lk, hcd, _, T⟩ := F.ex
  exact .all fun us hl => h dV kV doc pm an (.ref cda) ct cc us hl
end
end U
namespace Fx
open PySem PySem.Spec PyProof.Rows L2 U
noncomputable section
section
variable {G : Gm} {E : WX}
def kCallT (tab : List (Nat × FF)) (fa : FA) (ρ : Ev) (d : D) (f : Fl) (S : Sto) : RE := match d with
  | .obj c es => if f.nop = true then (match lookF c tab with
    | some F => fCB (fun ds t S2 => if t = true then F (.obj c es :: ds) S2 else .bad) fa ρ S
    | none => .bad) else .bad
  | _ => .bad
def fCallT (tab : List (Nat × FF)) (fo : FE) (fa : FA) : FE := fun ρ S => bE (fo ρ S) (kCallT tab fa ρ)
def kPropT (tab : List (Nat × FF)) (d : D) (f : Fl) (S : Sto) : RE := match d with
  | .obj c es => if f.nop = true then (match lookF c tab with
    | some F => F [.obj c es] S
    | none => .bad) else .bad
  | _ => .bad
def fPropT (tab : List (Nat × FF)) (fo : FE) : FE := fun ρ S => bE (fo ρ S) (kPropT tab)
def dStrX (ds : List D) (_ : Bool) (S : Sto) : RE := match ds with
  | [.int i] => if i.natAbs.log2 < 1920 then .ok (.str (toString i)) .tr S else .bad
  | [.str z] => .ok (.str z) .tr S
  | _ => .bad
end
section
variable {ρ : Ev} {S S1 S2 : Sto} {d e : D} {f f1 f2 fl : Fl} {c : Nat} {fs es : List (Str × D)} {tab : List (Nat × FF)}
theorem v_callT {fo : FE} {fa : FA} : fCallT tab fo fa ρ S = bE (fo ρ S) (kCallT tab fa ρ) := rfl
theorem v_propT {fo : FE} : fPropT tab fo ρ S = bE (fo ρ S) (kPropT tab) := rfl
theorem d_strX_str {z : Str} {t : Bool} : dStrX [.str z] t S = .ok (.str z) .tr S := rfl
def kSupR (c0 : Nat) (g : FIn) (ρ : Ev) (r : RA) : RSt := match r with
  | .ok ds true S1 => (match ρ[0]? with
    | some (Sl.oob c _) => if c = c0 then kSup g ρ ds S1 else .bad
    | _ => .bad)
  | _ => .bad
theorem v_sup {c0 : Nat} {g : FIn} {fa : FA} : sSup c0 g fa ρ S = kSupR c0 g ρ (fa ρ S) := by unfold sSup kSupR; rfl
end
end
end Fx
namespace U
open PySem PySem.Spec PyProof.Rows L2
end U
namespace Fx
open PySem PySem.Spec PyProof.Rows L2 U
noncomputable section
section
variable {G : Gm} {E : WX} {F : Fr} {Dd : Ends} {ι ω : List Addr} {ρ : Ev} {S : Sto} {σ : L2.St} {H : Hp}
def intsOf : List D → Option (List Int)
  | [] => some []
  | .int b :: ds => (intsOf ds).map (b :: ·)
  | _ :: _ => none
def dSum (ds : List D) (_ : Bool) (S : Sto) : RE := match ds with
  | [d] => (match lsOf S d with
    | some es => (match intsOf es with
      | some ns => .ok (.int ns.sum) .tr S
      | none => .bad)
    | none => .bad)
  | _ => .bad
def sAsgNS (i j : Nat) (fi fe : FE) : FS := fun ρ S => eS (fe ρ S) ρ fun d f S1 => if f.nop = true then (match sqOf S1 d with
  | some [d1, d2] => (if hasL j (ρ.set i (.val d1)) S1 = true then eS (fi (ρ.set i (.val d1)) S1) (ρ.set i (.val d1)) fun e _ S2 => (match e with
    | .int k => putL j (ρ.set i (.val d1)) S2 (fun ds => (ixN ds.length k).map fun m => ds.set m d2)
    | _ => .bad) else .bad)
  | _ => .bad) else .bad
def sAppX (fo fe : FE) : FS := fun ρ S => eS (fo ρ S) ρ fun d _ S1 => (match d with
  | .cel k => (match S1[k]? with
    | some (.lst _) => eS (fe ρ S1) ρ fun v f S2 => if f.nop = true then (match S2[k]? with
      | some (.lst ds) => if ds.length < lim then .nx ρ (S2.set k (.lst (ds ++ [v]))) else .bad
      | _ => .bad) else .bad
    | _ => .bad)
  | _ => .bad)
end
section
variable {ρ : Ev} {S S1 S2 : Sto} {d e v : D} {f f1 f2 fl : Fl}
theorem at0 {α : Type} {c : α} {r : List α} : atI (c :: r) 0 = some c := by
  unfold atI ixN
  rw [if_pos (by decide), if_pos (by show (0 : Int) < ((c :: r).length : Int); rw [List.length_cons]; omega)]
  rfl
theorem at1 {α : Type} {b c : α} {r : List α} : atI (b :: c :: r) 1 = some c := by
  unfold atI ixN
  rw [if_pos (by decide), if_pos (by show (1 : Int) < ((b :: c :: r).length : Int); rw [List.length_cons, List.length_cons]; omega)]
  rfl
theorem at2 {α : Type} {a b c : α} {r : List α} : atI (a :: b :: c :: r) 2 = some c := by
  unfold atI ixN
  rw [if_pos (by decide), if_pos (by show (2 : Int) < ((a :: b :: c :: r).length : Int); rw [List.length_cons, List.length_cons, List.length_cons]; omega)]
  rfl
theorem d_ixl0 {a : D} {r : List D} : dIx (.lst (a :: r)) (.int 0) S = .ok a .tr S := d_ix_lst at0
theorem d_ixl1 {a b : D} {r : List D} : dIx (.lst (a :: b :: r)) (.int 1) S = .ok b .tr S := d_ix_lst at1
theorem d_ixl2 {a b c : D} {r : List D} : dIx (.lst (a :: b :: c :: r)) (.int 2) S = .ok c .tr S := d_ix_lst at2
theorem d_ixt0 {a : D} {r : List D} : dIx (.tup (a :: r)) (.int 0) S = .ok a .tr S := d_ix_tup at0
theorem d_ixt1 {a b : D} {r : List D} : dIx (.tup (a :: b :: r)) (.int 1) S = .ok b .tr S := d_ix_tup at1
theorem d_lst1 {a : D} : dLst [a] true S = .ok (.lst [a]) .fs S := d_lst (by show 1 ≤ lim; decide)
theorem d_lst2 {a b : D} : dLst [a, b] true S = .ok (.lst [a, b]) .fs S := d_lst (by show 2 ≤ lim; decide)
theorem d_lst0 : dLst [] true S = .ok (.lst []) .fs S := d_lst (by show 0 ≤ lim; decide)
theorem d_tup0 : dTup [] true S = .ok (.tup []) .tr S := d_tup (by show 0 ≤ lim; decide)
theorem d_tup1 {a : D} : dTup [a] true S = .ok (.tup [a]) .tr S := d_tup (by show 1 ≤ lim; decide)
theorem d_tup2 {a b : D} : dTup [a, b] true S = .ok (.tup [a, b]) .tr S := d_tup (by show 2 ≤ lim; decide)
theorem d_int_int {i : Int} {t : Bool} : dInt [.int i] t S = .ok (.int i) .tr S := rfl
theorem d_neg {i : Int} : dNeg (.int i) S = .ok (.int (-i)) .tr S := rfl
theorem v_gt2 {fs : FGs} {a b : D} : gT 2 fs (.tup [a, b]) ρ S = fs [a, b] ρ S := rfl
theorem v_gt1 {fs : FGs} {a : D} : gT 1 fs (.tup [a]) ρ S = fs [a] ρ S := rfl
theorem ints_map : ∀ (ns : List Int), intsOf (ns.map D.int) = some ns
  | [] => rfl
  | n :: ns => by show (intsOf (ns.map D.int)).map (n :: ·) = _; rw [ints_map ns]; rfl
theorem d_sum {ns : List Int} {t : Bool} : dSum [.lst (ns.map D.int)] t S = .ok (.int ns.sum) .tr S := by
  unfold dSum; show (match intsOf (ns.map D.int) with | some ns => RE.ok (.int ns.sum) .tr S | none => .bad) = _; rw [ints_map]
def kAsgNS (i j : Nat) (fi : FE) (ρ : Ev) (d : D) (f : Fl) (S1 : Sto) : RSt := if f.nop = true then (match sqOf S1 d with
  | some [d1, d2] => (if hasL j (ρ.set i (.val d1)) S1 = true then eS (fi (ρ.set i (.val d1)) S1) (ρ.set i (.val d1)) fun e _ S2 => (match e with
    | .int k => putL j (ρ.set i (.val d1)) S2 (fun ds => (ixN ds.length k).map fun m => ds.set m d2)
    | _ => .bad) else .bad)
  | _ => .bad) else .bad
theorem v_asgNS {i j : Nat} {fi fe : FE} : sAsgNS i j fi fe ρ S = eS (fe ρ S) ρ (kAsgNS i j fi ρ) := rfl
def kAppX (fe : FE) (ρ : Ev) (d : D) (_ : Fl) (S1 : Sto) : RSt := match d with
  | .cel k => (match S1[k]? with
    | some (.lst _) => eS (fe ρ S1) ρ fun v f S2 => if f.nop = true then (match S2[k]? with
      | some (.lst ds) => if ds.length < lim then .nx ρ (S2.set k (.lst (ds ++ [v]))) else .bad
      | _ => .bad) else .bad
    | _ => .bad)
  | _ => .bad
theorem v_appX {fo fe : FE} : sAppX fo fe ρ S = eS (fo ρ S) ρ (kAppX fe ρ) := rfl
end
end
end Fx
namespace Fx
open PySem PySem.Spec PyProof.Rows L2 U
theorem foldE {α : Type} {g : Gd} {step : StepC} {e : α → D} {f : α → List D} {S : Sto} (hg : gOk g S) : ∀ {l : List α} {acc : List D}, (∀ a ∈ l, ∀ acc : List D, acc.length < lim → step (e a) acc S = some (acc ++ f a, S)) → (∀ a ∈ l, (f a).length ≤ 1) → acc.length + l.length ≤ lim →
    foldC g step (l.map e) acc S = some (acc ++ l.flatMap f, S)
  | [], acc, _, _, _ => by rw [List.map_nil]; unfold foldC; rw [if_pos hg]; simp
  | d :: l, acc, h, h1, hl => by
    rw [List.length_cons] at hl
    rw [List.map_cons]
    unfold foldC
    rw [if_pos hg, h d List.mem_cons_self acc (by omega)]
    have := h1 d List.mem_cons_self
    dsimp only
    rw [foldE hg (fun e he => h e (List.mem_cons_of_mem _ he)) (fun e he => h1 e (List.mem_cons_of_mem _ he)) (by rw [List.length_append]; omega), List.append_assoc, List.flatMap_cons]
theorem flatE {α : Type} (c : α → Bool) (f : α → D) : ∀ l : List α, l.flatMap (fun a => if c a = true then [f a] else []) = (l.filter c).map f
  | [] => rfl
  | a :: l => by
    rw [List.flatMap_cons, flatE c f l]
    cases h : c a with
    | true => rw [if_pos rfl, List.filter_cons_of_pos h]; rfl
    | false => rw [if_neg (by decide), List.filter_cons_of_neg (by rw [h]; decide)]; rfl
theorem lc_flatE {α : Type} {it : FI} {set : FG} {tt te : FE} {vs : List Nat} {ρ : Ev} {S S1 : Sto} {l : List α} {e : α → D} {g : Gd} {c : α → Bool} {f : α → D} (hi : it ρ S = .ok (l.map e) g S1) (hg : gOk g S1) (hl : l.length ≤ lim)
    (h : ∀ a ∈ l, ∃ ρ1 f1, set (e a) (wipeE ρ vs) S1 = some ρ1 ∧ tt ρ1 S1 = .ok (.bl (c a)) f1 S1 ∧ (c a = true → ∃ f2, te ρ1 S1 = .ok (f a) f2 S1 ∧ f2.nop = true)) :
    fLc it set tt te vs ρ S = .ok (.lst ((l.filter c).map f)) .fs S1 := by
  unfold fLc fLcG
  rw [hi]
  try dsimp only
  rw [foldE (f := fun a => if c a = true then [f a] else []) hg (fun a ha acc hlt => by
    obtain ⟨ρ1, f1, e1, e2, e3⟩ := h a ha
    unfold step1
    rw [e1]; try dsimp only
    rw [e2]; try dsimp only
    cases hc : c a with
    | true =>
      obtain ⟨f2, e4, e5⟩ := e3 hc
      try dsimp only
      rw [e4]; try dsimp only
      rw [e5, decide_eq_true hlt]; rfl
    | false =>
      try dsimp only
      rw [if_neg (by decide), List.append_nil]) (fun a _ => by split <;> simp) (by simpa using hl)]
  rw [flatE, List.nil_append]
theorem lc_mapE {α : Type} {it : FI} {set : FG} {te : FE} {vs : List Nat} {ρ : Ev} {S S1 : Sto} {l : List α} {e : α → D} {g : Gd} {f : α → D} (hi : it ρ S = .ok (l.map e) g S1) (hg : gOk g S1) (hl : l.length ≤ lim)
    (h : ∀ a ∈ l, ∃ ρ1 f2, set (e a) (wipeE ρ vs) S1 = some ρ1 ∧ te ρ1 S1 = .ok (f a) f2 S1 ∧ f2.nop = true) :
    fLc it set (fC (.bl true)) te vs ρ S = .ok (.lst (l.map f)) .fs S1 := by
  have := lc_flatE (tt := fC (.bl true)) (te := te) (c := fun _ => true) (f := f) hi hg hl fun a ha => by
    obtain ⟨ρ1, f2, e1, e2, e3⟩ := h a ha
    exact ⟨ρ1, .tr, e1, rfl, fun _ => ⟨f2, e2, e3⟩⟩
  rw [this, List.filter_eq_self.mpr (fun _ _ => rfl)]
section
variable {S : Sto} {k : Nat} {ds : List D}
theorem last_new (c : Ce) : (S ++ [c])[S.length]? = some c := by rw [List.getElem?_append_right (Nat.le_refl _), Nat.sub_self]; rfl
end
def nStr : D → Bool | .str _ => false | _ => true
def kZip2 (a b : Option (List D × Gd)) (S : Sto) : RI := match a, b with
  | some (xs, none), some (ys, g) => .ok (zipD xs ys) g S
  | some (xs, g), some (ys, none) => .ok (zipD xs ys) g S
  | _, _ => .bad
def kZip1 (r : RA) : RI := match r with
  | .ok [d1, d2] true S1 => if (nStr d1 && nStr d2) = true then kZip2 (itemsD S1 d1) (itemsD S1 d2) S1 else .bad
  | .xc c fs S1 => .xc c fs S1
  | _ => .bad
def fZipC (fa : FA) : FI := fun ρ S => kZip1 (fa ρ S)
theorem wk_zipG {K : PySem.W.Frag} {ca : Nat → Addr} {ι1 B1 : List Addr} {H1 : Hp} {k1 k2 : Kd} {xs ys : List D} {g : Gd} (l1 : ∀ ι2 B2 H2 S2, Per ι1 B1 H1 ι2 B2 H2 → RS K ca ι2 B2 H2 S2 → gOk g S2 → ∃ us, k1.sq K H2 us ∧ RAll K ca ι2 B2 H2 us xs)
    (l2 : ∀ ι2 B2 H2 S2, Per ι1 B1 H1 ι2 B2 H2 → RS K ca ι2 B2 H2 S2 → gOk g S2 → ∃ us, k2.sq K H2 us ∧ RAll K ca ι2 B2 H2 us ys) : Wk K ca ι1 B1 H1 (JZip K k1 k2) (zipD xs ys) g := by
  refine ⟨fun ι2 B2 H2 S2 i p rs hb g hi => ?_, fun ι2 B2 H2 S2 p rs hb g => ?_, fun ι2 B2 H2 S2 i x H' p rs hb g hi y => ?_⟩
  · obtain ⟨us, h1, h2⟩ := l1 ι2 B2 H2 S2 p rs g
    obtain ⟨ws, h3, h4⟩ := l2 ι2 B2 H2 S2 p rs g
    rw [zipD_len, ← h2.len, ← h4.len] at hi
    exact (walk_zipK rfl).goes i H2 hi ⟨h1, h3⟩
  · obtain ⟨us, h1, h2⟩ := l1 ι2 B2 H2 S2 p rs g
    obtain ⟨ws, h3, h4⟩ := l2 ι2 B2 H2 S2 p rs g
    rw [zipD_len, ← h2.len, ← h4.len]
    exact (walk_zipK rfl).stops H2 ⟨h1, h3⟩
  · obtain ⟨us, h1, h2⟩ := l1 ι2 B2 H2 S2 p rs g
    obtain ⟨ws, h3, h4⟩ := l2 ι2 B2 H2 S2 p rs g
    rw [zipD_len, ← h2.len, ← h4.len] at hi
    obtain ⟨T, a, b, rfl, hT, rfl, e1, e2⟩ := (walk_zipK rfl).yields i H2 x H' hi ⟨h1, h3⟩ y
    obtain ⟨d1, e3, rd1⟩ := h2.atV i e1
    obtain ⟨d2, e4, rd2⟩ := h4.atV i e2
    exact ⟨fun c o z => by rw [upd_ne (ne_of_none z hT)]; exact z, .tup [d1, d2], zipD_at xs ys i d1 d2 e3 e4, new_pair rs hb hT (.cons rd1 (.cons rd2 .nil))⟩
theorem si_zipC {G : Gm} {E : WX} {ta : TA} {fa : FA} (ha : SA G E ta fa) : SI G E (uZip G.K ta) (fZipC fa) := by
  intro F ι ω ρ S σ H R rel h
  have key : ∀ (d1 d2 : D) (xs ys : List D) (g1 g2 g : Gd) (S1 : Sto), itemsD S1 d1 = some (xs, g1) → itemsD S1 d2 = some (ys, g2) → (∀ S, gOk g S → gOk g1 S) → (∀ S, gOk g S → gOk g2 S) → nStr d1 = true → nStr d2 = true → fa ρ S = .ok [d1, d2] true S1 → PostI G E F ι ω ρ σ H R (.ok (zipD xs ys) g S1) → uZip G.K ta σ H R := fun d1 d2 xs ys g1 g2 g S1 i1 i2 w1 w2 n1 n2 e h => by
    refine ha F ι ω ρ S σ H _ rel ?_
    rw [e]
    intro ι1 vs H1 e1 r1 ra
    have ra : RAll G.K G.ca ι1 (F.B0 ++ ω) H1 vs [d1, d2] := ra
    cases ra with
    | cons rv1 r2 =>
      cases r2 with
      | cons rv2 r3 =>
        cases r3
        obtain ⟨k1, q1⟩ := sq_of r1.sto rv1 i1
        obtain ⟨k2, q2⟩ := sq_of r1.sto rv2 i2
        have hv : ∀ {v d ys}, RV G.K G.ca ι1 (F.B0 ++ ω) H1 v d → itemsD S1 d = some ys → nStr d = true → ∃ a, v = .ref a := fun rv ei hn => by
          cases rv <;> first | exact ⟨_, rfl⟩ | (cases hn; done) | (cases ei; done)
        obtain ⟨a, rfl⟩ := hv rv1 i1 n1
        obtain ⟨b, rfl⟩ := hv rv2 i2 n2
        exact oK_of (q1.kd a rfl) (oK_of (q2.kd b rfl) (h ι1 _ H1 e1 r1 (wk_zipG (fun ι2 B2 H2 S2 p rs g => q1.later ι2 B2 H2 S2 p rs (w1 _ g)) (fun ι2 B2 H2 S2 p rs g => q2.later ι2 B2 H2 S2 p rs (w2 _ g)))))
  unfold fZipC kZip1 at h
  split at h
  · rename_i d1 d2 S1 e
    split at h
    · rename_i hn
      rw [Bool.and_eq_true] at hn
      unfold kZip2 at h
      split at h
      · rename_i i1 i2
        exact key _ _ _ _ _ _ _ _ i1 i2 (fun _ _ => trivial) (fun _ z => z) hn.1 hn.2 e h
      · rename_i i1 i2
        exact key _ _ _ _ _ _ _ _ i1 i2 (fun _ z => z) (fun _ _ => trivial) hn.1 hn.2 e h
      · exact h.elim
    · exact h.elim
  · rename_i e
    refine ha F ι ω ρ S σ H _ rel ?_
    rw [e]; exact h
  · exact h.elim
theorem v_zipC {fa : FA} {ρ : Ev} {S : Sto} : fZipC fa ρ S = kZip1 (fa ρ S) := rfl
end Fx
namespace U
open PySem PySem.Spec PyProof.Rows L2
end U
namespace Fx
open PySem PySem.Spec PyProof.Rows L2 U
end Fx
namespace Fx
open PySem PySem.Spec PyProof.Rows L2 U
section
variable {G : Gm} {E : WX}
/-- a new dict that is a cell -/
def fDNewC : FE := fun _ S => .ok (.cel S.length) .tr (S ++ [.dK []])
end
section
variable {ρ : Ev} {S : Sto} {d e : D} {neg : Bool}
theorem v_dnewC : fDNewC ρ S = .ok (.cel S.length) .tr (S ++ [.dK []]) := rfl
end
end Fx
namespace U
open PySem PySem.Spec PyProof.Rows L2
end U
namespace Fx
open PySem PySem.Spec PyProof.Rows L2 U
def uAddT (K : PySem.W.Frag) : R2 := fun x y H Q => uAdd K x y H Q ∨ rCatA K x y H Q
theorem ou_addT {X : Cx} : OpR X (binaryOp .Add) (uAddT X.K) := OpR.or ou_add op_catA
def uSlT (K : PySem.W.Frag) : V → Option Int → Option Int → Hp → VK → Prop := fun x lo hi H Q => uSl K x lo hi H Q ∨ rSlA K x lo hi H Q
theorem su_slT {X : Cx} : L2.SlR X (uSlT X.K) := SlR.or su_sl sl_tupA
def dAddT (d e : D) (S : Sto) : RE := match d, e with
  | .tup xs, .tup ys => if xs.length + ys.length ≤ lim then .ok (.tup (xs ++ ys)) .tr S else .bad
  | d, e => dAdd d e S
def dSlT (d : D) (lo hi : Option Int) (S : Sto) : RE := match d with
  | .tup ds => .ok (.tup (cutD ds lo hi)) .tr S
  | d => dSl d lo hi S
def fSlT (fe : FE) (lo hi : FO) : FE := fun ρ S => bE (fe ρ S) fun d _ S1 => bO (lo ρ S1) fun l S2 => bO (hi ρ S2) fun u S3 => dSlT d l u S3
section
variable {G : Gm} {E : WX}
theorem rt_tup {K : PySem.W.Frag} {ca : Nat → Addr} {ι B : List Addr} {H : Hp} {v : V} {ds : List D} (h : RT K ca ι B H v (.tup ds)) : ∃ a xs, v = .ref a ∧ H a = some (.tup xs) ∧ RAll K ca ι B H xs ds := by
  cases h with
  | v h => cases h with | tup h1 h2 h3 h4 => exact ⟨_, _, rfl, h3, h4⟩
theorem RT.rvT {K : PySem.W.Frag} {ca : Nat → Addr} {ι B : List Addr} {H : Hp} {v : V} {ds : List D} (h : RT K ca ι B H v (.tup ds)) : RV K ca ι B H v (.tup ds) := by
  cases h with
  | v h => exact h
theorem sr_addT : SR G E (uAddT G.K) dAddT := by
  intro F ι ω ρ S σ H Q x y d e rel hx hy h
  unfold dAddT at h
  split at h
  · rename_i ds es
    split at h
    · rename_i hl
      obtain ⟨a, xs, rfl, h1, h2⟩ := rt_tup hx
      obtain ⟨b, ys, rfl, h3, h4⟩ := rt_tup hy
      refine .inr ⟨a, b, xs, ys, rfl, rfl, .inl (.inl h1), .inl (.inl h3), by rw [h2.len, h4.len]; exact lim_le hl, fun e => ?_, fun _ e => ?_, fun _ _ p hp => PostE.newT h rel (h2.app h4) p hp⟩
      · subst e
        cases h2
        exact PostE.now h rel hy.rvT
      · subst e
        cases h4
        rw [List.append_nil] at h
        exact PostE.now h rel hx.rvT
    · exact h.elim
  · exact .inl (sr_add F ι ω ρ S σ H Q x y _ _ rel hx hy h)
theorem cut_whole {ds : List D} {lo hi : Option Int} (h : HT.sIx ds.length 0 lo = 0 ∧ HT.sIx ds.length ds.length hi = ds.length) : cutD ds lo hi = ds := by
  unfold cutD
  rw [h.1, h.2]
  simp
theorem se_slT {te : TE} {fe : FE} {tl th : TO} {fl fh : FO} (he : SE G E te fe) (hl : SO G E tl fl) (hh : SO G E th fh) : SE G E (L2.tSl (uSlT G.K) te tl th) (fSlT fe fl fh) := by
  intro F ι ω ρ S σ H Q rel h
  refine he.bind rel h fun d f S1 ι1 v H1 e1 r1 rf1 h1 => ?_
  refine so_bind hl r1 h1 fun l S2 ι2 H2 e2 r2 h2 => ?_
  refine so_bind hh r2 h2 fun u S3 ι3 H3 e3 r3 h3 => ?_
  have rt := (rf1.rt.ex e2).ex e3
  unfold dSlT at h3
  split at h3
  · rename_i ds
    obtain ⟨a, xs, rfl, q3, q4⟩ := rt_tup rt
    refine .inr ⟨a, xs, rfl, .inl (.inl q3), fun w => ?_, fun _ p hp => PostE.newT h3 r3 (cut_all q4 l u) p hp⟩
    rw [q4.len] at w
    rw [cut_whole w] at h3
    exact PostE.now h3 r3 rt.rvT
  · refine .inl ?_
    rename_i d' hnt
    unfold dSl at h3
    split at h3
    · rw [rt.sStr]
      split at h3
      · exact ⟨lim_le (by assumption), PostE.now h3 r3 (.str _)⟩
      · exact h3.elim
    · exact absurd rfl (hnt _)
    · split at h3
      · rename_i ds ed
        obtain ⟨a, xs, rfl, q1, q2⟩ := ls_at r3.sto rt ed
        show match rdL G.K H3 a with | some xs => _ | none => _
        rw [rdL_of q1]
        exact fun p hp => PostE.newL h3 r3 (cut_all q2 l u) p hp
      · exact h3.elim
end
section
variable {ρ : Ev} {S : Sto} {d : D} {f : Fl}
theorem d_addTi {a b : Int} : dAddT (.int a) (.int b) S = .ok (.int (a + b)) .tr S := rfl
theorem d_addTs {a b : Str} : dAddT (.str a) (.str b) S = dAdd (.str a) (.str b) S := rfl
theorem d_addTl {a b : List D} : dAddT (.lst a) (.lst b) S = dAdd (.lst a) (.lst b) S := rfl
def kSlT2 (d : D) (l u : Option Int) (S : Sto) : RE := dSlT d l u S
def kSlT1 (d : D) (hi : FO) (ρ : Ev) (l : Option Int) (S : Sto) : RE := bO (hi ρ S) (kSlT2 d l)
def kSlT (lo hi : FO) (ρ : Ev) (d : D) (_ : Fl) (S : Sto) : RE := bO (lo ρ S) (kSlT1 d hi ρ)
theorem v_slT {fe : FE} {lo hi : FO} : fSlT fe lo hi ρ S = bE (fe ρ S) (kSlT lo hi ρ) := rfl
theorem v_slT0 {lo hi : FO} : kSlT lo hi ρ d f S = bO (lo ρ S) (kSlT1 d hi ρ) := rfl
theorem v_slT1 {hi : FO} {l : Option Int} : kSlT1 d hi ρ l S = bO (hi ρ S) (kSlT2 d l) := rfl
theorem v_slT2 {l u : Option Int} : kSlT2 d l u S = dSlT d l u S := rfl
theorem d_slT {ds : List D} {lo hi : Option Int} : dSlT (.tup ds) lo hi S = .ok (.tup (cutD ds lo hi)) .tr S := rfl
theorem d_slTl {ds : List D} {lo hi : Option Int} : dSlT (.lst ds) lo hi S = .ok (.lst (cutD ds lo hi)) .fs S := rfl
end
end Fx
namespace PySem.SeqAt
open PySem PySem.Spec PyProof.Rows
end PySem.SeqAt
namespace Fx
open PySem PySem.Spec PyProof.Rows L2 U
end Fx
namespace U
open PySem PySem.Spec PyProof.Rows L2
end U
namespace Fx
open PySem PySem.Spec PyProof.Rows L2 U
end Fx
namespace PySem.W
open PySem PySem.Spec PySem.Calls PyProof.Rows
end PySem.W
namespace U
open PySem PySem.Spec PyProof.Rows L2
end U
namespace Fx
open PySem PySem.Spec PyProof.Rows L2 U
def kEqX2 (tab : List (Nat × FF)) (nq : Nat → Tg → Bool) (d : D) (f1 : Fl) (e : D) (f2 : Fl) (S2 : Sto) : RE := match d with
  | .obj c es => if (f1.nop && f2.nop) = true then (match lookF c tab, tgD S2 e with
    | some F, some g => if nq c g = true then bE (F [.obj c es, e] S2) kEqO3 else .bad
    | _, _ => .bad) else .bad
  | _ => .bad
def kEqX1 (tab : List (Nat × FF)) (nq : Nat → Tg → Bool) (fb : FE) (ρ : Ev) (d : D) (f1 : Fl) (S1 : Sto) : RE := bE (fb ρ S1) (kEqX2 tab nq d f1)
def fEqX (tab : List (Nat × FF)) (nq : Nat → Tg → Bool) (fa fb : FE) : FE := fun ρ S => bE (fa ρ S) (kEqX1 tab nq fb ρ)
def kNeO3 (r : D) (_ : Fl) (S3 : Sto) : RE := match r with
  | .bl k => .ok (.bl (!k)) .tr S3
  | _ => .bad
def kNeO2 (tab : List (Nat × FF)) (d : D) (f1 : Fl) (e : D) (f2 : Fl) (S2 : Sto) : RE := match d, e with
  | .obj c es, .obj c' es' => if (f1.nop && f2.nop && decide (c' = c)) = true then (match lookF c tab with
    | some F => bE (F [.obj c es, .obj c' es'] S2) kNeO3
    | none => .bad) else .bad
  | _, _ => .bad
def kNeO1 (tab : List (Nat × FF)) (fb : FE) (ρ : Ev) (d : D) (f1 : Fl) (S1 : Sto) : RE := bE (fb ρ S1) (kNeO2 tab d f1)
def fNeO (tab : List (Nat × FF)) (fa fb : FE) : FE := fun ρ S => bE (fa ρ S) (kNeO1 tab fb ρ)
section
variable {ρ : Ev} {S : Sto} {d e : D} {f f1 f2 : Fl} {c : Nat} {es fs : List (Str × D)} {tab : List (Nat × FF)}
theorem v_eqX {nq : Nat → Tg → Bool} {fa fb : FE} : fEqX tab nq fa fb ρ S = bE (fa ρ S) (kEqX1 tab nq fb ρ) := rfl
theorem v_eqX1 {nq : Nat → Tg → Bool} {fb : FE} : kEqX1 tab nq fb ρ d f S = bE (fb ρ S) (kEqX2 tab nq d f) := rfl
theorem v_neO {fa fb : FE} : fNeO tab fa fb ρ S = bE (fa ρ S) (kNeO1 tab fb ρ) := rfl
theorem v_neO1 {fb : FE} : kNeO1 tab fb ρ d f S = bE (fb ρ S) (kNeO2 tab d f) := rfl
theorem v_neO3 {k : Bool} : kNeO3 (.bl k) f S = .ok (.bl (!k)) .tr S := rfl
end
end Fx
namespace U
open PySem PySem.Spec PyProof.Rows L2
end U
namespace PySem.SeqAt
open AutoSeq1 (wpAny_loadPart')
open MeetsSeq
end PySem.SeqAt
namespace U
open PySem PySem.Spec PyProof.Rows L2
end U
namespace U
open PySem PySem.Spec PyProof.Rows L2
end U
namespace U
open PySem PySem.Spec PyProof.Rows L2
end U
namespace U
open PySem PySem.Spec PyProof.Rows L2
end U
namespace Fx
open PySem PySem.Spec PyProof.Rows L2 U
mutual
def ncD : D → Bool
  | .non => true
  | .bl _ => true
  | .int _ => true
  | .str _ => true
  | .lst ds => ncA ds
  | .tup ds => ncA ds
  | .obj _ fs => ncF fs
  | .fro _ _ => false
  | .dct _ => false
  | .cel _ => false
  | .cls _ => false
def ncA : List D → Bool
  | [] => true
  | d :: ds => ncD d && ncA ds
def ncF : List (Str × D) → Bool
  | [] => true
  | (_, d) :: fs => ncD d && ncF fs
end
section
variable {K : PySem.W.Frag} {ca : Nat → Addr} {ι B : List Addr} {H H' : Hp}
mutual
theorem RV.nc (g : ∀ a o, H a = some o → H' a = some o) : ∀ (d : D) {v : V}, ncD d = true → RV K ca ι B H v d → RV K ca [] [] H' v d
  | .non, _, _, h => by cases h; exact .non
  | .bl _, _, _, h => by cases h; exact .bl _
  | .int _, _, _, h => by cases h; exact .int _
  | .str _, _, _, h => by cases h; exact .str _
  | .lst ds, _, n, h => by
    unfold ncD at n
    cases h with
    | lst h1 h2 h3 h4 => exact .lst (List.not_mem_nil) (List.not_mem_nil) (g _ _ h3) (RAll.nc g ds n h4)
  | .tup ds, _, n, h => by
    unfold ncD at n
    cases h with
    | tup h1 h2 h3 h4 => exact .tup (List.not_mem_nil) (List.not_mem_nil) (g _ _ h3) (RAll.nc g ds n h4)
  | .obj c fs, _, n, h => by
    unfold ncD at n
    cases h with
    | obj h1 h2 h3 h4 => exact .obj (List.not_mem_nil) (List.not_mem_nil) (g _ _ h3) (RFs.nc g fs n h4)
  | .fro _ _, _, n, _ => by unfold ncD at n; cases n
  | .dct _, _, n, _ => by unfold ncD at n; cases n
  | .cel _, _, n, _ => by unfold ncD at n; cases n
  | .cls _, _, n, _ => by unfold ncD at n; cases n
theorem RAll.nc (g : ∀ a o, H a = some o → H' a = some o) : ∀ (ds : List D) {vs : List V}, ncA ds = true → RAll K ca ι B H vs ds → RAll K ca [] [] H' vs ds
  | [], _, _, h => by cases h; exact .nil
  | d :: ds, _, n, h => by
    unfold ncA at n
    rw [Bool.and_eq_true] at n
    cases h with
    | cons h1 h2 => exact .cons (RV.nc g d n.1 h1) (RAll.nc g ds n.2 h2)
theorem RFs.nc (g : ∀ a o, H a = some o → H' a = some o) : ∀ (fs : List (Str × D)) {vs : List (Str × V)}, ncF fs = true → RFs K ca ι B H vs fs → RFs K ca [] [] H' vs fs
  | [], _, _, h => by cases h; exact .nil
  | (k, d) :: fs, _, n, h => by
    unfold ncF at n
    rw [Bool.and_eq_true] at n
    cases h with
    | cons h1 h2 => exact .cons (RV.nc g d n.1 h1) (RFs.nc g fs n.2 h2)
end
end
end Fx
namespace Fx
open PySem PySem.Spec PyProof.Rows L2 U
end Fx
namespace U
open PySem PySem.Spec PyProof.Rows L2
end U
namespace Fx
open PySem PySem.Spec PyProof.Rows L2 U
end Fx
namespace U
open PySem PySem.Spec PyProof.Rows L2
end U
namespace Fx
open PySem PySem.Spec PyProof.Rows L2 U
def sNoX (b : FS) : FS := fun ρ S => match b ρ S with
  | .xc _ _ _ _ => .bad
  | r => r
end Fx
namespace U
open PySem PySem.Spec PyProof.Rows L2
end U
namespace Fx
open PySem PySem.Spec PyProof.Rows L2 U
end Fx
namespace U
open PySem PySem.Spec PyProof.Rows L2
end U
namespace Fx
open PySem PySem.Spec PyProof.Rows L2 U
end Fx
namespace PySem.SeqAt
open AutoSeq1 (wpAny_loadPart')
open MeetsSeq
end PySem.SeqAt
namespace U
open PySem PySem.Spec PyProof.Rows L2
end U
namespace U
open PySem PySem.Spec PyProof.Rows L2
end U
namespace Fx
open PySem PySem.Spec PyProof.Rows L2 U
end Fx
namespace Fx
open PySem PySem.Spec PyProof.Rows L2 U
end Fx
namespace Fx
open PySem PySem.Spec PyProof.Rows L2 U
end Fx
namespace U
open PySem PySem.Spec PyProof.Rows L2
end U
namespace Fx
open PySem PySem.Spec PyProof.Rows L2 U
end Fx
namespace PySem
end PySem
namespace U
open PySem PySem.Spec PyProof.Rows L2
end U
namespace Fx
open PySem PySem.Spec PyProof.Rows L2 U
end Fx
namespace U
open PySem PySem.Spec PyProof.Rows L2
end U
namespace Fx
open PySem PySem.Spec PyProof.Rows L2 U
end Fx
namespace GenX
open PySem
def stuckK : Resume → Sem PySem.Fin := fun _ => .unsupported "asleep"
def poison : GenState → GenState
  | .suspended _ l c p fs cl => .suspended stuckK l c p fs cl
  | y => y
def Stk (x : GenState) : Prop := ∃ l c p fs cl, x = .suspended stuckK l c p fs cl
def Cln : GenState → Prop
  | .suspended _ _ _ _ fs _ => splitAtGen fs = none
  | _ => True
def R1 (x y : GenState) : Prop := (x = y ∧ Cln y) ∨ (Stk x ∧ x = poison y)
structure RG (X G : Array GenState) : Prop where
  size : X.size = G.size
  at' : ∀ (i : Nat) (x y : GenState), X[i]? = some x → G[i]? = some y → R1 x y
def Stay (X G X' G' : Array GenState) : Prop := ∀ (i : Nat) (x : GenState), X[i]? = some x → Stk x → X'[i]? = some x ∧ G'[i]? = G[i]?
def EndOk : End → Prop
  | .ret _ => True
  | .susp _ _ _ _ _ _ fs => splitAtGen fs = none
theorem R1.seen {x y : GenState} (h : R1 x y) : x.seen = y.seen := by
  rcases h with ⟨rfl, _⟩ | ⟨_, rfl⟩
  · rfl
  · cases y <;> rfl
theorem R1.bare {x y : GenState} (h : R1 x y) : x.bare = y.bare := by
  rcases h with ⟨rfl, _⟩ | ⟨_, rfl⟩
  · rfl
  · cases y <;> rfl
theorem RG.get {X G : Array GenState} (h : RG X G) {i : Nat} {x : GenState} (e : X[i]? = some x) : ∃ y, G[i]? = some y ∧ R1 x y := by
  have hi := (Array.getElem?_eq_some_iff.mp e).1
  rw [h.size] at hi
  exact ⟨G[i], Array.getElem?_eq_getElem hi, h.at' i x _ e (Array.getElem?_eq_getElem hi)⟩
theorem RG.bare {X G : Array GenState} (h : RG X G) (b : ∀ x ∈ X, x.bare = true) : ∀ y ∈ G, y.bare = true := fun y hy => by
  obtain ⟨i, hi, e⟩ := Array.mem_iff_getElem.mp hy
  have hi' : i < X.size := by rw [h.size]; exact hi
  have := h.at' i _ y (Array.getElem?_eq_getElem hi') (by rw [Array.getElem?_eq_getElem hi, e])
  rw [← this.bare]
  exact b _ (Array.getElem_mem hi')
theorem RG.push {X G : Array GenState} (h : RG X G) {c : GenState} (hc : Cln c) : RG (X.push c) (G.push c) := by
  refine ⟨by rw [Array.size_push, Array.size_push, h.size], fun i x y e1 e2 => ?_⟩
  rw [Array.getElem?_push] at e1 e2
  rw [h.size] at e1
  split at e1
  · rename_i hi
    rw [if_pos hi] at e2
    cases e1; cases e2
    exact .inl ⟨rfl, hc⟩
  · rename_i hi
    rw [if_neg hi] at e2
    exact h.at' i x y e1 e2
theorem set_get {X : Array GenState} {g i : Nat} {a x : GenState} (e : (X.setIfInBounds g a)[i]? = some x) : (i = g ∧ x = a ∧ g < X.size) ∨ (i ≠ g ∧ X[i]? = some x) := by
  by_cases hi : i = g
  · subst hi
    rw [Array.getElem?_setIfInBounds_self] at e
    split at e
    · cases e; exact .inl ⟨rfl, rfl, by assumption⟩
    · cases e
  · rw [Array.getElem?_setIfInBounds_ne (Ne.symm hi)] at e
    exact .inr ⟨hi, e⟩
theorem RG.set {X G : Array GenState} (h : RG X G) {g : Nat} {a : GenState} (ha : Cln a) : RG (X.setIfInBounds g a) (G.setIfInBounds g a) := by
  refine ⟨by rw [Array.size_setIfInBounds, Array.size_setIfInBounds, h.size], fun i x y e1 e2 => ?_⟩
  rcases set_get e1 with ⟨h1, h2, _⟩ | ⟨h1, h2⟩
  · rcases set_get e2 with ⟨h3, h4, _⟩ | ⟨h3, h4⟩
    · exact .inl ⟨h2.trans h4.symm, by rw [h4]; exact ha⟩
    · exact absurd h1 h3
  · rcases set_get e2 with ⟨h3, h4, _⟩ | ⟨h3, h4⟩
    · exact absurd h3 h1
    · exact h.at' i x y h2 h4
theorem Stay.refl {X G : Array GenState} : Stay X G X G := fun _ _ e _ => ⟨e, rfl⟩
theorem Stay.trans {X G X1 G1 X2 G2 : Array GenState} (a : Stay X G X1 G1) (b : Stay X1 G1 X2 G2) : Stay X G X2 G2 := fun i x e k => by
  obtain ⟨h1, h2⟩ := a i x e k
  obtain ⟨h3, h4⟩ := b i x h1 k
  exact ⟨h3, h4.trans h2⟩
theorem Stay.push {X G : Array GenState} (h : RG X G) {c : GenState} : Stay X G (X.push c) (G.push c) := fun i x e _ => by
  have hi := (Array.getElem?_eq_some_iff.mp e).1
  have hi' := hi
  rw [h.size] at hi'
  rw [Array.getElem?_push, if_neg (by omega), Array.getElem?_push, if_neg (by omega)]
  exact ⟨e, rfl⟩
theorem Stay.set {X G : Array GenState} {g : Nat} {a : GenState} (hn : ∀ x, X[g]? = some x → ¬ Stk x) : Stay X G (X.setIfInBounds g a) (G.setIfInBounds g a) := fun i x e k => by
  have : i ≠ g := fun z => by subst z; exact hn x e k
  rw [Array.getElem?_setIfInBounds_ne (Ne.symm this), Array.getElem?_setIfInBounds_ne (Ne.symm this)]
  exact ⟨e, rfl⟩
theorem Stay.wake {X G X1 G1 : Array GenState} {g : Nat} {a : GenState} (hn : ∀ x, X[g]? = some x → ¬ Stk x) (b : Stay (X.setIfInBounds g .running) (G.setIfInBounds g .running) X1 G1) : Stay X G (X1.setIfInBounds g a) (G1.setIfInBounds g a) := fun i x e k => by
  have hi : i ≠ g := fun z => by subst z; exact hn x e k
  have := b i x (by rw [Array.getElem?_setIfInBounds_ne (Ne.symm hi)]; exact e) k
  rw [Array.getElem?_setIfInBounds_ne (Ne.symm hi)] at this
  rw [Array.getElem?_setIfInBounds_ne (Ne.symm hi), Array.getElem?_setIfInBounds_ne (Ne.symm hi)]
  exact this
theorem Cln.end' {e : End} (h : EndOk e) : Cln e.genState := by
  cases e with
  | ret _ => trivial
  | susp v g l k c p fs => exact h
theorem split_app {a b : List Frame} (ha : splitAtGen a = none) (hb : splitAtGen b = none) : splitAtGen (a ++ b) = none := by
  induction a with
  | nil => exact hb
  | cons F a ih =>
    cases F with
    | ret =>
      simp only [splitAtGen, Option.map_eq_none_iff] at ha
      simp only [List.cons_append, splitAtGen, ih ha, Option.map_none]
    | gen => simp only [splitAtGen] at ha; cases ha
theorem no_uns {M : Model} {Γ : Ctx} {p : Pos} {t : Sem PySem.Fin} {fs : List Frame} {s s' : Shared} {e : End} (h : Runs M Γ p t fs s e s') : ∀ w, t ≠ .unsupported w := by
  induction h <;> intro w z <;> cases z <;> exact absurd rfl ((by assumption : ∀ w_1 : String, (Sem.unsupported w : Sem PySem.Fin) ≠ Sem.unsupported w_1) w)
theorem nstk_fresh {c : Code} : ¬ Stk (.fresh c) := fun ⟨_, _, _, _, _, e⟩ => by cases e
theorem r1_fresh {c : Code} {y : GenState} (h : R1 (.fresh c) y) : y = .fresh c := by
  rcases h with ⟨e, _⟩ | ⟨k, _⟩
  · exact e.symm
  · exact absurd k nstk_fresh
theorem r1_run {y : GenState} (h : R1 .running y) : y = .running := by
  rcases h with ⟨e, _⟩ | ⟨⟨_, _, _, _, _, e⟩, _⟩
  · exact e.symm
  · cases e
theorem r1_fin {y : GenState} (h : R1 .finished y) : y = .finished := by
  rcases h with ⟨e, _⟩ | ⟨⟨_, _, _, _, _, e⟩, _⟩
  · exact e.symm
  · cases e
abbrev wg (s : Shared) (G : Array GenState) : Shared := { s with gens := G }
theorem swap {M : Model} {Γ : Ctx} {p : Pos} {t : Sem PySem.Fin} {fs : List Frame} {s s' : Shared} {e : End} (h : Runs M Γ p t fs s e s') :
    splitAtGen fs = none → ∀ G, RG s.gens G → ∃ G', RG s'.gens G' ∧ Stay s.gens G s'.gens G' ∧ EndOk e ∧ Runs M Γ p t fs (wg s G) e (wg s' G') := by
  induction h with
  | done => exact fun _ G r => ⟨G, r, .refl, trivial, .done⟩
  | raise => exact fun _ G r => ⟨G, r, .refl, trivial, .raise⟩
  | again hq _ ih => exact fun hf G r => let ⟨G', a, b, c, d⟩ := ih hf G r; ⟨G', a, b, c, .again hq d⟩
  | rule _ ih => exact fun hf G r => let ⟨G', a, b, c, d⟩ := ih hf G r; ⟨G', a, b, c, .rule d⟩
  | «at» _ ih => exact fun hf G r => let ⟨G', a, b, c, d⟩ := ih hf G r; ⟨G', a, b, c, .at d⟩
  | load ho _ ih => exact fun hf G r => let ⟨G', a, b, c, d⟩ := ih hf G r; ⟨G', a, b, c, .load ho d⟩
  | update ho _ ih => exact fun hf G r => let ⟨G', a, b, c, d⟩ := ih hf G r; ⟨G', a, b, c, .update ho d⟩
  | loadIfAlive _ ih => exact fun hf G r => let ⟨G', a, b, c, d⟩ := ih hf G r; ⟨G', a, b, c, .loadIfAlive d⟩
  | point _ ih => exact fun hf G r => let ⟨G', a, b, c, d⟩ := ih hf G r; ⟨G', a, b, c, .point d⟩
  | alloc _ ih => exact fun hf G r => let ⟨G', a, b, c, d⟩ := ih hf G r; ⟨G', a, b, c, .alloc d⟩
  | fresh _ ih => exact fun hf G r => let ⟨G', a, b, c, d⟩ := ih hf G r; ⟨G', a, b, c, .fresh d⟩
  | ask _ ih => exact fun hf G r => let ⟨G', a, b, c, d⟩ := ih hf G r; ⟨G', a, b, c, .ask d⟩
  | choose hn _ ih => exact fun hf G r => let ⟨G', a, b, c, d⟩ := ih hf G r; ⟨G', a, b, c, .choose hn d⟩
  | os _ ih => exact fun hf G r => let ⟨G', a, b, c, d⟩ := ih hf G r; ⟨G', a, b, c, .os d⟩
  | handled _ ih => exact fun hf G r => let ⟨G', a, b, c, d⟩ := ih hf G r; ⟨G', a, b, c, .handled d⟩
  | genState hg _ ih =>
    intro hf G r
    obtain ⟨y, hy, ry⟩ := r.get hg
    obtain ⟨G', a, b, c, d⟩ := ih hf G r
    rw [ry.seen] at d
    exact ⟨G', a, b, c, .genState hy d⟩
  | stack _ ih => exact fun hf G r => let ⟨G', a, b, c, d⟩ := ih hf G r; ⟨G', a, b, c, .stack d⟩
  | thread _ ih => exact fun hf G r => let ⟨G', a, b, c, d⟩ := ih hf G r; ⟨G', a, b, c, .thread d⟩
  | @newGen _ _ k s _ _ cc _ ih =>
    intro hf G r
    obtain ⟨G', a, b, c, d⟩ := ih hf (G.push (.fresh cc)) (r.push trivial)
    refine ⟨G', a, (Stay.push r).trans b, c, ?_⟩
    refine .newGen ?_
    show Runs M _ _ (k G.size) [] _ _ _
    rw [← r.size]
    exact d
  | call _ _ ih1 ih2 =>
    intro hf G r
    obtain ⟨G1, a1, b1, c1, d1⟩ := ih1 hf G r
    obtain ⟨G', a, b, c, d⟩ := ih2 hf G1 a1
    exact ⟨G', a, b1.trans b, c, .call d1 d⟩
  | callSusp _ ih =>
    intro hf G r
    obtain ⟨G', a, b, c, d⟩ := ih hf G r
    exact ⟨G', a, b, split_app c rfl, .callSusp d⟩
  | yield => exact fun _ G r => ⟨G, r, .refl, rfl, .yield⟩
  | resumeFresh hg _ hq _ ih1 ih2 =>
    intro hf G r
    obtain ⟨y, hy, ry⟩ := r.get hg
    have ey := r1_fresh ry
    subst ey
    obtain ⟨G1, a1, b1, c1, d1⟩ := ih1 rfl _ (r.set (a := .running) trivial)
    obtain ⟨G', a, b, c, d⟩ := ih2 hf _ (a1.set (Cln.end' c1))
    exact ⟨G', a, (Stay.wake (fun x e => by rw [hg] at e; cases e; exact nstk_fresh) b1).trans b, c, .resumeFresh hy d1 hq d⟩
  | @resumeSuspended _ _ _ _ _ _ _ k₀ l₀ c₀ p₀ fs₀ cl _ _ _ _ hg h1 hq _ ih1 ih2 =>
    intro hf G r
    obtain ⟨y, hy, ry⟩ := r.get hg
    rcases ry with ⟨e, k⟩ | ⟨⟨_, _, _, _, _, e⟩, _⟩
    · subst e
      by_cases hk : Stk (.suspended k₀ l₀ c₀ p₀ fs₀ cl)
      · obtain ⟨_, _, _, _, _, e⟩ := hk
        cases e
        exact absurd rfl (no_uns h1 "asleep")
      · obtain ⟨G1, a1, b1, c1, d1⟩ := ih1 k _ (r.set (a := .running) trivial)
        obtain ⟨G', a, b, c, d⟩ := ih2 hf _ (a1.set (Cln.end' c1))
        exact ⟨G', a, (Stay.wake (fun x e => by rw [hg] at e; cases e; exact hk) b1).trans b, c, .resumeSuspended hy d1 hq d⟩
    · cases e
      exact absurd rfl (no_uns h1 "asleep")
  | resumeJustStarted hg hv _ ih =>
    intro hf G r
    obtain ⟨y, hy, ry⟩ := r.get hg
    obtain ⟨G', a, b, c, d⟩ := ih hf G r
    exact ⟨G', a, b, c, .resumeJustStarted (by rw [hy, r1_fresh ry]) hv d⟩
  | resumeThrowFresh hg _ ih =>
    intro hf G r
    obtain ⟨y, hy, ry⟩ := r.get hg
    obtain ⟨G', a, b, c, d⟩ := ih hf _ (r.set (a := .finished) trivial)
    exact ⟨G', a, (Stay.set (fun x e => by rw [hg] at e; cases e; exact nstk_fresh)).trans b, c, .resumeThrowFresh (by show G[_]? = _; rw [hy, r1_fresh ry]) d⟩
  | resumeRunning hg _ ih =>
    intro hf G r
    obtain ⟨y, hy, ry⟩ := r.get hg
    obtain ⟨G', a, b, c, d⟩ := ih hf G r
    exact ⟨G', a, b, c, .resumeRunning (by rw [hy, r1_run ry]) d⟩
  | resumeFinished hg _ ih =>
    intro hf G r
    obtain ⟨y, hy, ry⟩ := r.get hg
    obtain ⟨G', a, b, c, d⟩ := ih hf G r
    exact ⟨G', a, b, c, .resumeFinished (by rw [hy, r1_fin ry]) d⟩
  | @segRet _ _ _ _ _ _ _ _ _ _ fs₀ _ _ _ _ _ _ _ ih1 ih2 =>
    intro hf G r
    have hf' : splitAtGen fs₀ = none := by
      simp only [splitAtGen, Option.map_eq_none_iff] at hf
      exact hf
    obtain ⟨G1, a1, b1, c1, d1⟩ := ih1 rfl G r
    obtain ⟨G', a, b, c, d⟩ := ih2 hf' G1 a1
    exact ⟨G', a, b1.trans b, c, .segRet d1 d⟩
  | segGen _ _ _ _ => intro hf; simp only [splitAtGen] at hf; cases hf
  | segSuspOut hs _ ih =>
    intro hf G r
    obtain ⟨G', a, b, c, d⟩ := ih rfl G r
    exact ⟨G', a, b, split_app c hs, .segSuspOut hs d⟩
  | segSuspGen hs _ _ _ _ _ => intro hf; rw [hf] at hs; cases hs
theorem wakes_swap {M : Model} {Γ : Ctx} {p : Pos} {g : Nat} {r : Resume} {s s' : Shared} {res : GenResult} (h : Wakes M Γ p g r s res s') {G : Array GenState} (R : RG s.gens G) :
    ∃ G', RG s'.gens G' ∧ Stay s.gens G s'.gens G' ∧ Wakes M Γ p g r (wg s G) res (wg s' G') := by
  unfold Wakes at h
  split at h
  · exact h.elim
  · rename_i c hg
    obtain ⟨y, hy, ry⟩ := R.get hg
    have ey := r1_fresh ry
    subst ey
    have hy' : (wg s G).gens[g]? = some (.fresh c) := hy
    split at h
    · obtain ⟨e₁, s₁, h1, hq, hr, rfl⟩ := h
      obtain ⟨G1, a1, b1, c1, d1⟩ := swap h1 rfl _ (R.set (a := .running) trivial)
      refine ⟨_, a1.set (g := g) (Cln.end' c1), Stay.wake (fun x e => by rw [hg] at e; cases e; exact nstk_fresh) b1, ?_⟩
      unfold Wakes
      rw [hy']
      exact ⟨e₁, wg s₁ G1, d1, hq, hr, rfl⟩
    · obtain ⟨hr, rfl⟩ := h
      refine ⟨G, R, .refl, ?_⟩
      unfold Wakes
      rw [hy']
      dsimp only
      split
      · exfalso; simp_all
      · exact ⟨hr, rfl⟩
      · rename_i z; cases z
    · obtain ⟨hr, rfl⟩ := h
      refine ⟨_, R.set (g := g) (a := .finished) trivial, Stay.set (fun x e => by rw [hg] at e; cases e; exact nstk_fresh), ?_⟩
      unfold Wakes
      rw [hy']
      exact ⟨hr, rfl⟩
  · rename_i k₀ l₀ c₀ p₀ fs cl hg
    obtain ⟨e₁, s₁, h1, hq, hr, rfl⟩ := h
    obtain ⟨y, hy, ry⟩ := R.get hg
    rcases ry with ⟨e, k⟩ | ⟨⟨_, _, _, _, _, e⟩, _⟩
    · subst e
      by_cases hk : Stk (.suspended k₀ l₀ c₀ p₀ fs cl)
      · obtain ⟨_, _, _, _, _, e⟩ := hk
        cases e
        exact absurd rfl (no_uns h1 "asleep")
      · obtain ⟨G1, a1, b1, c1, d1⟩ := swap h1 k _ (R.set (a := .running) trivial)
        refine ⟨_, a1.set (g := g) (Cln.end' c1), Stay.wake (fun x e => by rw [hg] at e; cases e; exact hk) b1, ?_⟩
        have hy' : (wg s G).gens[g]? = some (.suspended k₀ l₀ c₀ p₀ fs cl) := hy
        unfold Wakes
        rw [hy']
        exact ⟨e₁, wg s₁ G1, d1, hq, hr, rfl⟩
    · cases e
      exact absurd rfl (no_uns h1 "asleep")
  · rename_i hg
    obtain ⟨hr, rfl⟩ := h
    obtain ⟨y, hy, ry⟩ := R.get hg
    have hy' : (wg s' G).gens[g]? = some .running := by show G[g]? = _; rw [hy, r1_run ry]
    refine ⟨G, R, .refl, ?_⟩
    unfold Wakes
    rw [hy']
    exact ⟨hr, rfl⟩
  · rename_i hg
    obtain ⟨hr, rfl⟩ := h
    obtain ⟨y, hy, ry⟩ := R.get hg
    have hy' : (wg s' G).gens[g]? = some .finished := by show G[g]? = _; rw [hy, r1_fin ry]
    refine ⟨G, R, .refl, ?_⟩
    unfold Wakes
    rw [hy']
    exact ⟨hr, rfl⟩
/-- behind it: the same, and all that could not be woken sleeps on -/
def Sw {α : Type} (X G : Array GenState) (Q : α → Shared → Prop) (a : α) (s' : Shared) : Prop := ∃ X', RG X' s'.gens ∧ Stay X G X' s'.gens ∧ Q a (wg s' X')
theorem Sw.go {α : Type} {X G X1 G1 : Array GenState} {Q : α → Shared → Prop} {a : α} {s' : Shared} (st : Stay X G X1 G1) (h : Sw X1 G1 Q a s') : Sw X G Q a s' := by
  obtain ⟨X', h1, h2, h3⟩ := h
  exact ⟨X', h1, st.trans h2, h3⟩
open Sem (wp) in
theorem wp_swap {α : Type} (M : Model) (Γ : Ctx) (t : Sem α) : ∀ (Q : α → Pos → Shared → Prop) (E : Value → Pos → Shared → Prop) (p : Pos) (s : Shared) (G : Array GenState), RG s.gens G → wp M Γ t Q E p s →
    wp M Γ t (fun a p' s' => Sw s.gens G (fun a s => Q a p' s) a s') (fun e p' s' => Sw s.gens G (fun a s => E a p' s) e s') p (wg s G) := by
  induction t with
  | pure a => intro Q E p s G r h; exact ⟨s.gens, r, .refl, h⟩
  | raise e => intro Q E p s G r h; exact ⟨s.gens, r, .refl, h⟩
  | unsupported _ => intro Q E p s G _ h; exact h
  | finish _ => intro Q E p s G _ h; exact h
  | rule _ k ih => intro Q E p s G r h; exact ih () Q E p s G r h
  | «at» p' k ih => intro Q E p s G r h; exact ih () Q E p' s G r h
  | load a _ k ih => intro Q E p s G r h; obtain ⟨o, ho, h⟩ := h; exact ⟨o, ho, ih o Q E p s G r h⟩
  | update a _ f k ih => intro Q E p s G r h; exact ⟨h.1, ih () Q E p { s with heap := s.heap.update a f } G r h.2⟩
  | loadIfAlive a k ih => intro Q E p s G r h; exact ih _ Q E p s G r h
  | point _ k ih => intro Q E p s G r h; exact ih () Q E p s G r h
  | register _ _ => intro Q E p s G _ h; exact h
  | alloc o k ih => intro Q E p s G r h; exact ih _ Q E p { s with heap := s.heap.push o } G r h
  | fresh k ih => intro Q E p s G r h; exact ih _ Q E p { s with toks := s.toks + 1 } G r h
  | ask k ih => intro Q E p s G r h; exact ih _ Q E p s G r h
  | choose src m k ih => intro Q E p s G r h; exact ⟨h.1, ih _ Q E p { s with drawn := s.drawn.bump src } G r h.2⟩
  | os q _ k ih => intro Q E p s G r h; exact ih _ Q E p { s with os := (Os.step s.os q).1 } G r h
  | call c hd _ _ k ih =>
    intro Q E p s G r h
    obtain ⟨x, s', hr, h⟩ := h
    obtain ⟨G1, a1, b1, _, d1⟩ := swap hr rfl G r
    exact ⟨x, wg s' G1, d1, Sem.wp_mono M Γ _ (fun _ _ _ => Sw.go b1) (fun _ _ _ => Sw.go b1) p _ (ih x Q E p s' G1 a1 h)⟩
  | handled own k ih => intro Q E p s G r h; exact ih _ Q E p s G r h
  | genState g k ih =>
    intro Q E p s G r h
    obtain ⟨st, hs, h⟩ := h
    obtain ⟨y, hy, ry⟩ := r.get hs
    rw [ry.seen] at h
    exact ⟨y, hy, ih _ Q E p s G r h⟩
  | newGen c k ih =>
    intro Q E p s G r h
    have h' := ih _ Q E p { s with gens := s.gens.push (.fresh c) } (G.push (.fresh c)) (RG.push (c := .fresh c) r trivial) h
    show wp M Γ (k G.size) _ _ p _
    rw [← r.size]
    exact Sem.wp_mono M Γ _ (fun _ _ _ => Sw.go (Stay.push r)) (fun _ _ _ => Sw.go (Stay.push r)) p _ h'
  | resume g x _ k ih =>
    intro Q E p s G r h
    obtain ⟨res, s', hw, h⟩ := h
    obtain ⟨G1, a1, b1, d1⟩ := wakes_swap hw r
    exact ⟨res, wg s' G1, d1, Sem.wp_mono M Γ _ (fun _ _ _ => Sw.go b1) (fun _ _ _ => Sw.go b1) p _ (ih res Q E p s' G1 a1 h)⟩
  | yield _ _ _ _ => intro Q E p s G _ h; exact h
  | stack k ih => intro Q E p s G r h; exact ih _ Q E p s G r h
  | fork _ _ => intro Q E p s G _ h; exact h
  | thread k ih => intro Q E p s G r h; exact ih _ Q E p s G r h
  | await _ _ _ _ _ => intro Q E p s G _ h; exact h
theorem rg_poison (G : Array GenState) : RG (G.map poison) G := by
  refine ⟨by rw [Array.size_map], fun i x y e1 e2 => ?_⟩
  rw [Array.getElem?_map, e2] at e1
  cases e1
  cases y with
  | suspended k l c p fs cl => exact .inr ⟨⟨_, _, _, _, _, rfl⟩, rfl⟩
  | fresh c => exact .inl ⟨rfl, trivial⟩
  | running => exact .inl ⟨rfl, trivial⟩
  | finished => exact .inl ⟨rfl, trivial⟩
/-- what sleeps sleeps on -/
def Asleep (G G' : Array GenState) : Prop := ∀ (i : Nat) (x : GenState), G[i]? = some x → x.status = .suspended → G'[i]? = some x
theorem bare_poison {G : Array GenState} (h : ∀ x ∈ G, x.bare = true) : ∀ x ∈ G.map poison, x.bare = true := fun x hx => by
  obtain ⟨y, hy, rfl⟩ := Array.mem_map.mp hx
  have := h y hy
  cases y <;> exact this
/-- THE RULE: whatever runs where nothing that sleeps can be woken leaves it asleep -/
theorem wpAny_asleep {α : Type} {M : Model} {A : Around} {t : Sem α} {Q : α → Shared → Prop} {E : Value → Shared → Prop} {s : Shared} (h : wpAny M A t Q E (wg s (s.gens.map poison))) :
    wpAny M A t (fun a s' => ∃ X', RG X' s'.gens ∧ Asleep s.gens s'.gens ∧ Q a (wg s' X')) (fun e s' => ∃ X', RG X' s'.gens ∧ Asleep s.gens s'.gens ∧ E e (wg s' X')) s := by
  intro Γ p hΓ
  have key : ∀ X' (s' : Shared), Stay (s.gens.map poison) s.gens X' s'.gens → Asleep s.gens s'.gens := fun X' s' st i x e k => by
    cases x with
    | suspended k₀ l c p fs cl =>
      have := (st i (poison (.suspended k₀ l c p fs cl)) (by rw [Array.getElem?_map, e]; rfl) ⟨_, _, _, _, _, rfl⟩).2
      rw [this, e]
    | fresh c => cases k
    | running => cases k
    | finished => cases k
  exact Sem.wp_mono M Γ _ (fun _ _ s' ⟨X', a, b, c⟩ => ⟨X', a, key X' s' b, c⟩) (fun _ _ s' ⟨X', a, b, c⟩ => ⟨X', a, key X' s' b, c⟩) p _ (wp_swap M Γ t _ _ p (wg s (s.gens.map poison)) s.gens (rg_poison _) (h Γ p hΓ))
end GenX
namespace L2
open PySem PySem.Spec PyProof.Rows GenW GenX
def cut (h : Heap) (n : Nat) : Heap := ⟨h.objs.extract 0 n, h.life⟩
theorem cut_size {h : Heap} {n : Nat} : (cut h n).objs.size = min n h.objs.size := by
  unfold cut; simp
theorem cut_in {h : Heap} {n b : Nat} (hb : b < n) : (cut h n).get? b = h.get? b := by
  have : (h.objs.extract 0 n)[b]? = h.objs[b]? := by
    rw [Array.getElem?_extract]
    by_cases z : b < h.objs.size
    · rw [if_pos (by omega), Nat.zero_add]
    · rw [if_neg (by omega), Array.getElem?_eq_none (by omega)]
  unfold cut Heap.get?
  rw [this]
theorem cut_some {h : Heap} {n b : Nat} {o : Obj} (e : (cut h n).get? b = some o) : b < n ∧ h.get? b = some o := by
  have := Heap.lt_size e
  rw [cut_size] at this
  have hb : b < n := Nat.lt_of_lt_of_le this (Nat.min_le_left ..)
  exact ⟨hb, by rw [← cut_in hb]; exact e⟩
theorem cut_all (h : Heap) : cut h h.objs.size = h := by
  unfold cut
  cases h
  simp
/-- the context at a waking at (s, H) -/
abbrev rb (X : Cx) (s : Shared) (H : Hp) : Cx := { X with s_0 := { s with heap := cut s.heap X.env.locals }, H_0 := H, xe := fun _ _ => False }
structure GX (X : Cx) : Prop where
  ex : X.ex = []
  nocell : ∀ x, X.env.cells.lookup x = none
  old : ∀ b ∈ frs X.outer, b < X.env.locals
theorem Inv.wake {X : Cx} (g : GX X) {sj s1 s' : Shared} {Hj H1 H' : Hp} {pins pins' : List (Addr × Obj)} {σ : L2.St} {A0 : Around} (I : Inv (rb X sj Hj) pins σ H1 s1) (e0 : Env0 X.prog X.w X.K X.mg X.base A0 X.outer s' H')
    (hL : ∀ o, s1.heap.get? X.env.locals = some o → s'.heap.get? X.env.locals = some o) (hn : H' X.env.locals = none)
    (hp : ∀ p ∈ X.pn ++ pins', s'.heap.get? p.1 = some p.2 ∧ H' p.1 = none ∧ p.1 ≠ X.env.locals ∧ p.1 ∉ X.fs ∧ ∀ v, p.2.data ≠ .cell v) : Inv (rb X s' H') pins' σ H' s' := by
  have noc : ∀ {x : Str} {c : Addr}, X.env.cells.lookup x = some c → False := fun {x c} e => by rw [g.nocell x] at e; cases e
  have noe : ∀ {b : Addr}, b ∉ X.ex := fun {b} => by rw [g.ex]; exact List.not_mem_nil
  have ok := I.ok
  have bsz : X.base.objs.size ≤ X.env.locals := by
    have := ok.bsz
    have h2 : (cut sj.heap X.env.locals).objs.size ≤ X.env.locals := ok.above
    exact Nat.le_trans this h2
  have low : ∀ b o, X.base.get? b = some o → b < X.env.locals := fun b o e => Nat.lt_of_lt_of_le (Heap.lt_size e) bsz
  have funs : (cut s'.heap X.env.locals).FunFrames X.base X.outer := by
    have : ∀ l : List Env, (∀ b ∈ frs l, b < X.env.locals) → s'.heap.FunFrames X.base l → (cut s'.heap X.env.locals).FunFrames X.base l := by
      intro l
      induction l with
      | nil => intro _ _; trivial
      | cons env r ih =>
        intro hs hl
        obtain ⟨hk, ⟨L, o, hf, hn, ho, hd⟩, hr⟩ := hl
        have hL : L < X.env.locals := hs L (by unfold frs; rw [List.filterMap_cons, hf]; exact List.mem_cons_self)
        exact ⟨hk, ⟨L, o, hf, hn, by rw [cut_in hL]; exact ho, hd⟩, ih (fun b hb => hs b (by
          unfold frs at hb ⊢
          rw [List.filterMap_cons]
          split
          · exact hb
          · exact List.mem_cons_of_mem _ hb)) hr⟩
    exact this X.outer g.old e0.funs
  refine ⟨⟨ok.mod, ok.kind, ok.glob, ok.blt, ?_, ok.inj, ok.has, fun x c _ e => (noc e).elim, ok.hd, ok.frames, ok.stk, fun b hb => absurd hb noe, fun b o e => ⟨?_, (e0.bs b o e).2⟩, ?_, fun _ _ _ => noe, fun b hb => absurd hb noe, funs, e0.frf⟩, rfl, e0.bare,
    ⟨fun b o e n _ _ => (cut_some e).2, fun b o e n _ _ => ⟨o.slots, (cut_some e).2⟩, fun b o e n _ => n, fun b o e _ => ⟨o, (cut_some e).2⟩, fun _ _ e => e, fun _ _ _ e => e, fun b ps e => ⟨#[], by have e : H' b = some (.tbl ps) := e; rw [e]; simp⟩⟩,
    ?_, fun x c e => (noc e).elim, hn, fun x c e => (noc e).elim, hp, e0.hok, I.len⟩
  · show (cut s'.heap X.env.locals).objs.size ≤ X.env.locals
    rw [cut_size]; exact Nat.min_le_left ..
  · show (cut s'.heap X.env.locals).get? b = some o
    rw [cut_in (low b o e)]; exact (e0.bs b o e).1
  · show X.base.objs.size ≤ (cut s'.heap X.env.locals).objs.size
    rw [cut_size]
    exact Nat.le_min.mpr ⟨bsz, e0.bsz⟩
  · obtain ⟨m, ⟨o, es, ep, ho, r⟩, hl⟩ := I.loc
    refine ⟨m, ⟨o, es, ep, hL o ho, r⟩, fun i x v e1 e2 e3 => ?_⟩
    obtain ⟨u, r, l⟩ := hl i x v e1 e2 e3
    refine ⟨u, r, ?_⟩
    rcases l with l | ⟨_, c, e, _⟩
    · exact .inl l
    · exact (noc e).elim
/-- what a run of a generator from (sj, Hj) to (s1, H1) leaves of its consumer's state -/
theorem Inv.seen {X Xc : Cx} (g : GX X) (hs : X.outer = Xc.stack) (hP : X.prog = Xc.prog) (hw : X.w = Xc.w) {sj s1 : Shared} {Hj H1 : Hp} {pc pg : List (Addr × Obj)} {σc σg : L2.St} (Ic : Inv Xc pc σc Hj sj) (Ig : Inv (rb X sj Hj) pg σg H1 s1)
    (mine : ∀ b o, (b = Xc.env.locals ∨ (∃ x, Xc.env.cells.lookup x = some b) ∨ ∃ p ∈ Xc.pn ++ pc, p.1 = b) → sj.heap.get? b = some o → b < X.env.locals ∨ (b, o) ∈ pg) (hsz : Xc.s_0.heap.objs.size ≤ X.env.locals) : Inv Xc pc σc H1 s1 := by
  have noe : ∀ {b : Addr}, b ∉ X.ex := fun {b} => by rw [g.ex]; exact List.not_mem_nil
  have B := Ig.base
  -- an untracked object below, or pinned
  have any : ∀ b o, (b < X.env.locals ∨ (b, o) ∈ pg) → sj.heap.get? b = some o → Hj b = none → (∃ sl, s1.heap.get? b = some { o with slots := sl }) ∧ H1 b = none := fun b o h e n => by
    rcases h with h | h
    · have e' : (cut sj.heap X.env.locals).get? b = some o := by rw [cut_in h]; exact e
      exact ⟨B.any e' n noe, B.free b o e' n noe⟩
    · have := Ig.pin (b, o) (List.mem_append_right _ h)
      exact ⟨⟨o.slots, this.1⟩, this.2.1⟩
  have low : ∀ b o, Xc.s_0.heap.get? b = some o → b < X.env.locals := fun b o e => Nat.lt_of_lt_of_le (Heap.lt_size e) hsz
  have cin : ∀ {b o}, b < X.env.locals → sj.heap.get? b = some o → (cut sj.heap X.env.locals).get? b = some o := fun h e => by rw [cut_in h]; exact e
  have cellK : ∀ x c, Xc.env.cells.lookup x = some c → ∀ v, sj.heap.IsCell c v → s1.heap.IsCell c v := fun x c e v ⟨o, ho, hd⟩ => by
    obtain ⟨⟨sl, q⟩, _⟩ := any c o (mine c o (.inr (.inl ⟨x, e⟩)) ho) ho (Ic.freeC x c e)
    exact ⟨_, q, hd⟩
  have locE : ∃ o es ep, sj.heap.get? Xc.env.locals = some o ∧ o.data = .dict es ep := by
    obtain ⟨m, ⟨o, es, ep, ho, hd, _⟩, _⟩ := Ic.loc
    exact ⟨o, es, ep, ho, hd⟩
  obtain ⟨oL, _, _, eL, _⟩ := locE
  have keepL := any _ oL (mine _ oL (.inl rfl) eL) eL Ic.free
  refine ⟨Ic.ok, Ig.os.trans Ic.os, Ig.bare, ⟨fun b o e n hb hx => ?_, fun b o e n hb hx => ?_, fun b o e n hx => ?_, fun b o e hx => ?_, fun b xs e => B.tups b xs (Ic.base.tups b xs e), fun b o u e => B.frzs b o u (Ic.base.frzs b o u e), fun b ps e => ?_⟩, ?_, fun x c e => ?_, keepL.2, fun x c e => ?_, fun p hp => ?_, ?_, Ic.len⟩
  · have e1 := Ic.base.keep b o e n hb hx
    have n1 := Ic.base.free b o e n hx
    refine B.keep b o (cin (low b o e) e1) n1 (fun z => ?_) noe
    have z : b ∈ frs Xc.stack := by rw [← hs]; exact z
    rcases List.mem_cons.mp (Ic.stkSub b z) with z | z
    · have := Nat.lt_of_lt_of_le (Heap.lt_size e) Ic.ok.above
      rw [z] at this
      exact Nat.lt_irrefl _ this
    · exact hb z
  · obtain ⟨sl, e1⟩ := Ic.base.slot b o e n hb hx
    have n1 := Ic.base.free b o e n hx
    obtain ⟨sl', e2⟩ := B.any (cin (low b o e) e1) n1 noe
    exact ⟨sl', e2⟩
  · obtain ⟨o', e1⟩ := Ic.base.there b o e hx
    exact B.free b o' (cin (low b o e) e1) (Ic.base.free b o e n hx) noe
  · obtain ⟨o', e1⟩ := Ic.base.there b o e hx
    exact B.there b o' (cin (low b o e) e1) noe
  · obtain ⟨m1, e1⟩ := Ic.base.tbls b ps e
    obtain ⟨m2, e2⟩ := B.tbls b _ e1
    exact ⟨m1 ++ m2, by rw [e2, Array.append_assoc]⟩
  · obtain ⟨m, ⟨o, es, ep, ho, r⟩, hl⟩ := Ic.loc
    have eo : o = oL := by rw [eL] at ho; cases ho; rfl
    subst eo
    obtain ⟨sl, q⟩ := keepL.1
    refine ⟨m, ⟨_, es, ep, q, r⟩, fun i x v e1 e2 e3 => ?_⟩
    obtain ⟨u, r, l⟩ := hl i x v e1 e2 e3
    refine ⟨u, r, ?_⟩
    rcases l with l | ⟨k, c, e, z⟩
    · exact .inl l
    · exact .inr ⟨k, c, e, cellK x c e _ z⟩
  · obtain ⟨v, z⟩ := Ic.cell x c e
    exact ⟨v, cellK x c e v z⟩
  · obtain ⟨v, o, ho, hd⟩ := Ic.cell x c e
    exact (any c o (mine c o (.inr (.inl ⟨x, e⟩)) ho) ho (Ic.freeC x c e)).2
  · obtain ⟨e, n, ne, nf, d⟩ := Ic.pin p hp
    have hm := mine p.1 p.2 (.inr (.inr ⟨p, hp, rfl⟩)) e
    refine ⟨?_, (any p.1 p.2 hm e n).2, ne, nf, d⟩
    rcases hm with hm | hm
    · refine B.keep p.1 p.2 (cin hm e) n (fun z => ?_) noe
      have z : p.1 ∈ frs Xc.stack := by rw [← hs]; exact z
      rcases List.mem_cons.mp (Ic.stkSub p.1 z) with z | z
      · exact ne z
      · exact nf z
    · exact (Ig.pin (p.1, p.2) (List.mem_append_right _ hm)).1
  · have := Ig.hok
    rw [← hP, ← hw]
    exact this
end L2
namespace L2
open PySem PySem.Spec PyProof.Rows GenW GenX
/-- the pins that the consumer wants kept stand apart from the generator's own -/
def Apt (X : Cx) (ip ks : List (Addr × Obj)) : Prop := ∀ p ∈ ks, p.1 ≠ X.env.locals ∧ ∀ q ∈ X.pn ++ ip, p.1 ≠ q.1
abbrev CIT (Γ : Type) := Shared → Hp → List (Addr × Obj) → Γ → Prop
def GI1 {Γ : Type} (X : Cx) (CI : CIT Γ) (ip : List (Addr × Obj)) (σ : L2.St) (H : Hp) (s : Shared) (γ : Γ) : Prop := ∃ sj Hj ks, CI sj Hj ks γ ∧ Apt X ip ks ∧ X.env.locals ≤ sj.heap.objs.size ∧ Inv (rb X sj Hj) (ip ++ ks) σ H s
/-- it may be woken at (s', H') -/
structure Wk (X : Cx) (ip : List (Addr × Obj)) (s s' : Shared) (H' : Hp) (ks' : List (Addr × Obj)) : Prop where
  env : ∃ A0, Env0 X.prog X.w X.K X.mg X.base A0 X.outer s' H'
  loc : ∀ o, s.heap.get? X.env.locals = some o → s'.heap.get? X.env.locals = some o
  free : H' X.env.locals = none
  pin : ∀ p ∈ X.pn ++ (ip ++ ks'), s'.heap.get? p.1 = some p.2 ∧ H' p.1 = none ∧ p.1 ≠ X.env.locals ∧ p.1 ∉ X.fs ∧ ∀ v, p.2.data ≠ .cell v
  apt : Apt X ip ks'
theorem GI1.wake {Γ : Type} {X : Cx} (g : GX X) {CI : CIT Γ} {ip ks' : List (Addr × Obj)} {σ : L2.St} {H H' : Hp} {s s' : Shared} {γ γ' : Γ} (h : GI1 X CI ip σ H s γ) (w : Wk X ip s s' H' ks') (c : CI s' H' ks' γ') : GI1 X CI ip σ H' s' γ' := by
  obtain ⟨sj, Hj, ks, _, _, _, I⟩ := h
  obtain ⟨A0, e0⟩ := w.env
  have lt : X.env.locals < s'.heap.objs.size := by
    obtain ⟨m, ⟨o, es, ep, ho, _⟩, _⟩ := I.loc
    exact Heap.lt_size (w.loc o ho)
  exact ⟨s', H', ks', c, w.apt, Nat.le_of_lt lt, I.wake g e0 w.loc w.free w.pin⟩
/-- what is wanted behind a statement; n: how often it may still yield; γ: the consumer's own state -/
structure GEn (Γ : Type) where
  nx : Nat → L2.St → Hp → Γ → Prop
  rt : Nat → V → Hp → Γ → Prop
  bk : Nat → L2.St → Hp → Γ → Prop := fun _ _ _ _ => False
  ct : Nat → L2.St → Hp → Γ → Prop := fun _ _ _ _ => False
  yl : Nat → V → Hp → Γ → (Hp → Γ → Prop) → Prop
abbrev TGm (Γ : Type) := GEn Γ → Nat → L2.St → Hp → Γ → Prop
abbrev YLT (Γ : Type) := Nat → V → Hp → Γ → (Hp → Γ → Prop) → Prop
def GY1 {Γ : Type} (X : Cx) (CI : CIT Γ) (YL : YLT Γ) : Protocol := fun n s₀ v s kap =>
  ∃ ip σ H x γ κ, RelV x v ∧ GI1 X CI ip σ H s γ ∧ (∀ p ∈ ip, X.env.locals < p.1) ∧ YL n x H γ κ ∧ ∀ s' H' ks' γ', Wk X ip s s' H' ks' → CI s' H' ks' γ' → κ H' γ' → kap (.send .none) s' ∧ kap (.send (.bool true)) s'
def GSP1 {Γ : Type} (X : Cx) (CI : CIT Γ) (ip : List (Addr × Obj)) (D : GEn Γ) (n : Nat) (f : Flow) (s : Shared) : Prop :=
  match f with
  | .next => ∃ σ H γ, GI1 X CI ip σ H s γ ∧ D.nx n σ H γ
  | .brk => ∃ σ H γ, GI1 X CI ip σ H s γ ∧ D.bk n σ H γ
  | .cont => ∃ σ H γ, GI1 X CI ip σ H s γ ∧ D.ct n σ H γ
  | .ret u => ∃ v σ H γ, GI1 X CI ip σ H s γ ∧ RelV v u ∧ D.rt n v H γ
structure GC1 (X : Cx) (A : Around) (c : Code) (fs : List Frame) (gd : Bool → Bool) : Prop where
  over : A.over c fs = X.A
  split : splitAtGen fs = none
  guard : fs.any Frame.guarded = false
  gd : gd false = false
def GK1 {Γ : Type} (X : Cx) (A : Around) (R : GenEnd) (CI : CIT Γ) (ip : List (Addr × Obj)) (c : Code) (fs : List Frame) (K : Flow → Sem PySem.Fin) (D : GEn Γ) : Prop :=
  ∀ (n : Nat) (s₀ s : Shared) (f : Flow), GSP1 X CI ip D n f s → Seg (model X.prog X.w) A R (GY1 X CI D.yl) n s₀ c (K f) fs s
structure GS1 (Γ : Type) (X : Cx) (st : Stmt) (t : TGm Γ) : Prop where
  run : ∀ (A : Around) (R : GenEnd) (CI : CIT Γ) (ip : List (Addr × Obj)) (n : Nat) (s₀ : Shared) (c : Code) (fs : List Frame) (K : Flow → Sem PySem.Fin) (J : Value → Sem PySem.Fin) (gd : Bool → Bool) (lv : List Value → List Value) (s : Shared) (σ : L2.St) (H : Hp) (γ : Γ) (D : GEn Γ),
    GC1 X A c fs gd → (∀ p ∈ ip, X.env.locals < p.1) → GK1 X A R CI ip c fs K D → GI1 X CI ip σ H s γ → t D n σ H γ → Seg (model X.prog X.w) A R (GY1 X CI D.yl) n s₀ c ((exec st X.env).wrap K J gd lv) fs s
structure GSs1 (Γ : Type) (X : Cx) (st : List Stmt) (t : TGm Γ) : Prop where
  run : ∀ (A : Around) (R : GenEnd) (CI : CIT Γ) (ip : List (Addr × Obj)) (n : Nat) (s₀ : Shared) (c : Code) (fs : List Frame) (K : Flow → Sem PySem.Fin) (J : Value → Sem PySem.Fin) (gd : Bool → Bool) (lv : List Value → List Value) (s : Shared) (σ : L2.St) (H : Hp) (γ : Γ) (D : GEn Γ),
    GC1 X A c fs gd → (∀ p ∈ ip, X.env.locals < p.1) → GK1 X A R CI ip c fs K D → GI1 X CI ip σ H s γ → t D n σ H γ → Seg (model X.prog X.w) A R (GY1 X CI D.yl) n s₀ c ((execs st X.env).wrap K J gd lv) fs s
def GEn.at {Γ : Type} (D : GEn Γ) (n : Nat) (γ : Γ) : Ends := { nx := fun σ H => D.nx n σ H γ, rt := fun v H => D.rt n v H γ, bk := fun σ H => D.bk n σ H γ, ct := fun σ H => D.ct n σ H γ }
section
variable {Γ : Type} {X : Cx} {st : Stmt} {rest : List Stmt}
/-- a statement that hands out nothing -/
def tPl {Γ : Type} (t : TS) : TGm Γ := fun D n σ H γ => t (D.at n γ) σ H
theorem sp_gsp1 {CI : CIT Γ} {ip ks : List (Addr × Obj)} {sj : Shared} {Hj : Hp} {s : Shared} {D : GEn Γ} {n : Nat} {γ : Γ} {f : Flow} (c : CI sj Hj ks γ) (a : Apt X ip ks) (z : X.env.locals ≤ sj.heap.objs.size) (h : SP (rb X sj Hj) (ip ++ ks) (D.at n γ) f s) : GSP1 X CI ip D n f s := by
  cases f with
  | next => obtain ⟨σ, H, I, q⟩ := h; exact ⟨σ, H, γ, ⟨sj, Hj, ks, c, a, z, I⟩, q⟩
  | brk => obtain ⟨σ, H, I, q⟩ := h; exact ⟨σ, H, γ, ⟨sj, Hj, ks, c, a, z, I⟩, q⟩
  | cont => obtain ⟨σ, H, I, q⟩ := h; exact ⟨σ, H, γ, ⟨sj, Hj, ks, c, a, z, I⟩, q⟩
  | ret u => obtain ⟨v, σ, H, I, r, q⟩ := h; exact ⟨v, σ, H, γ, ⟨sj, Hj, ks, c, a, z, I⟩, r, q⟩
theorem gs1_ps {t : TS} (h : ∀ sj Hj, PS (rb X sj Hj) st t) : GS1 Γ X st (tPl t) := by
  refine ⟨fun A R CI ip n s₀ c fs K J gd lv s σ H γ D g hi k hI ht => ?_⟩
  obtain ⟨sj, Hj, ks, hc, ha, hz, I⟩ := hI
  refine seg_wrap ?_
  rw [g.over]
  exact wpAny_mono ((h sj Hj).run _ s σ H (D.at n γ) I ht) (fun f s' hs => k n s₀ s' f (sp_gsp1 hc ha hz hs)) fun x s' hx => hx.elim
def tG1 {Γ : Type} : TGm Γ := fun D n σ H γ => D.nx n σ H γ
theorem gss1_nil : GSs1 Γ X [] tG1 := by
  refine ⟨fun A R CI ip n s₀ c fs K J gd lv s σ H γ D g hi k hI ht => ?_⟩
  exact seg_execs_nil (k n s₀ s .next ⟨σ, H, γ, hI, ht⟩)
def tGSeq {Γ : Type} (t u : TGm Γ) : TGm Γ := fun D n σ H γ => t { D with nx := fun n' σ' H' γ' => u D n' σ' H' γ' } n σ H γ
theorem gss1_cons {t u : TGm Γ} (a : GS1 Γ X st t) (b : GSs1 Γ X rest u) : GSs1 Γ X (st :: rest) (tGSeq t u) := by
  refine ⟨fun A R CI ip n s₀ c fs K J gd lv s σ H γ D g hi k hI ht => ?_⟩
  refine seg_execs_cons ?_
  refine a.run A R CI ip n s₀ c fs _ J gd lv s σ H γ { D with nx := fun n' σ' H' γ' => u D n' σ' H' γ' } g hi (fun n' s₀' s' f hs => ?_) hI ht
  cases f with
  | next =>
    obtain ⟨σ', H', γ', I', q⟩ := hs
    exact b.run A R CI ip n' s₀' c fs K J gd lv s' σ' H' γ' D g hi k I' q
  | brk => exact k n' s₀' s' .brk hs
  | cont => exact k n' s₀' s' .cont hs
  | ret u => exact k n' s₀' s' (.ret u) hs
def tGIf {Γ : Type} (c : TT) (t u : TGm Γ) : TGm Γ := fun D n σ H γ => c σ H fun b H1 => if b = true then t D n σ H1 γ else u D n σ H1 γ
theorem gs1_if {test : Expr} {body orelse : List Stmt} {pos : Pos} {tc : TT} {t u : TGm Γ} (hc : ∀ sj Hj, PT (rb X sj Hj) test tc) (ha : GSs1 Γ X body t) (hb : GSs1 Γ X orelse u) : GS1 Γ X (.If test body orelse pos) (tGIf tc t u) := by
  refine ⟨fun A R CI ip n s₀ c fs K J gd lv s σ H γ D g hi k hI ht => ?_⟩
  obtain ⟨sj, Hj, ks, hci, hap, hz, I⟩ := hI
  rw [exec_If]
  show Seg _ _ _ _ _ _ _ (.at pos fun _ => ((isTrue test X.env (eval test X.env) >>= fun b => if b = true then execs body X.env else execs orelse X.env)).wrap K J gd lv) _ _
  refine seg_at (seg_bind_wrap ?_)
  rw [g.over]
  refine wpAny_mono ((hc sj Hj).run _ s σ H _ I ht) (fun b s1 hb1 => ?_) fun x s' hx => hx.elim
  obtain ⟨H1, I1, q⟩ := hb1
  cases b with
  | true =>
    rw [if_pos rfl] at q ⊢
    exact ha.run A R CI ip n s₀ c fs K J gd lv s1 σ H1 γ D g hi k ⟨sj, Hj, ks, hci, hap, hz, I1⟩ q
  | false =>
    rw [if_neg Bool.false_ne_true] at q ⊢
    exact hb.run A R CI ip n s₀ c fs K J gd lv s1 σ H1 γ D g hi k ⟨sj, Hj, ks, hci, hap, hz, I1⟩ q
def tGYd {Γ : Type} (te : TE) : TGm Γ := fun D n σ H γ => ∃ m, n = m + 1 ∧ te σ H fun x H1 => D.yl m x H1 γ fun H' γ' => D.nx m σ H' γ'
theorem gs1_yield {e : Expr} {yp pos : Pos} {te : TE} (G : GX X) (he : ∀ sj Hj, PE (rb X sj Hj) e te) (hco : X.env.scope.isCoroutine = false := by rfl) (hin : interactive X.env = false := by rfl) : GS1 Γ X (.Expr (.Yield (some e) yp) pos) (tGYd te) := by
  refine ⟨fun A R CI ip n s₀ c fs K J gd lv s σ H γ D g hi k hI ht => ?_⟩
  obtain ⟨m, rfl, ht⟩ := ht
  obtain ⟨sj, Hj, ks, hci, hap, hz, I⟩ := hI
  refine seg_Expr_Yield g.split g.gd g.guard ?_ hco hin
  rw [g.over]
  refine wpAny_mono ((he sj Hj).run _ s σ H _ I ht) (fun v s' hv => ?_) fun x s' hx => hx.elim
  obtain ⟨x, H1, I1, rv, q⟩ := hv
  have G1 : GI1 X CI ip σ H1 s' γ := ⟨sj, Hj, ks, hci, hap, hz, I1⟩
  intro kap hk
  refine ⟨ip, σ, H1, x, γ, _, rv, G1, hi, q, fun s'' H' ks' γ' w cc q' => ⟨hk .none s'' ?_, hk (.bool true) s'' ?_⟩⟩
  · exact k m s'' s'' .next ⟨σ, H', γ', G1.wake G w cc, q'⟩
  · exact k m s'' s'' .next ⟨σ, H', γ', G1.wake G w cc, q'⟩
end
end L2
namespace L2
open PySem PySem.Spec PyProof.Rows GenW GenX
section
variable {M : Model} {A : Around} {R : GenEnd} {Y : Protocol} {n : Nat} {s₀ : Shared} {c : Code} {fs : List Frame} {s : Shared}
theorem seg_bindOn {α : Type} {m : Sem α} {f : α → Sem PySem.Fin} {hd : Value → Sem Unit} (h : wpAny M (A.over c fs) m (fun a s' => Seg M A R Y n s₀ c ((f a).onRaise hd) fs s') (fun _ _ => False) s) : Seg M A R Y n s₀ c ((m >>= f).onRaise hd) fs s := by
  rw [Sem.onRaise_eq_wrap, Sem.bind_eq_wrap', Sem.wrap_wrap]
  refine seg_wrap (wpAny_mono h (fun a s' h' => ?_) fun _ _ z => z.elim)
  rw [← Sem.onRaise_eq_wrap]
  exact h'
end
theorem gc_loop1 {X : Cx} {A : Around} {c c' : Code} {fs : List Frame} {gd : Bool → Bool} {k : Result → Sem PySem.Fin} {l kp : List Value} {p : Pos} (g : GC1 X A c fs gd) (hw : c'.weight = 0) (hu : c'.cUnits = 0) : GC1 X A c' (.ret k none (gd false) l c p kp :: fs) id where
  over := (over_loop hw hu).trans g.over
  split := by
    show (splitAtGen fs).map _ = none
    rw [g.split]; rfl
  guard := by
    show (gd false || fs.any Frame.guarded) = false
    rw [g.gd, g.guard]; rfl
  gd := rfl
def tGFor {Γ : Type} (wi : TI) (g : TG) (tb : TGm Γ) : TGm Γ := fun D n σ H γ => wi σ H fun J H1 => ∃ W : Nat → Nat → Nat → L2.St → Hp → Γ → Prop, (∃ m, W 0 m n σ H1 γ) ∧ ∀ i m n σ H γ, W i m n σ H γ →
  (J.stop i H ∧ D.nx n σ H γ) ∨ (J.go i H ∧ ∃ N : Nat → L2.St → Hp → Γ → Prop, (∀ n' σ' H' γ', N n' σ' H' γ' → ∃ m', m' < m ∧ W (i + 1) m' n' σ' H' γ') ∧ ∀ x H', J.yld i H x H' → g x σ H' fun σ2 H2 => tb { D with nx := N, ct := N, bk := D.nx } n σ2 H2 γ)
section
variable {Γ : Type} {X : Cx}
/-- the loop, once its iterator has come -/
theorem seg_loop1 {tg : Expr} {body : List Stmt} {g : TG} {tb : TGm Γ} (G : GX X) (hcalm : X.calm = true) (hg : ∀ sj Hj, PG (rb X sj Hj) tg g) (hb : GSs1 Γ X body tb)
    {A : Around} {R : GenEnd} {CI : CIT Γ} {ip : List (Addr × Obj)} {c : Code} {fs : List Frame} {K : Flow → Sem PySem.Fin} {J : Value → Sem PySem.Fin} {gd : Bool → Bool} {lv : List Value → List Value} {D : GEn Γ}
    (gc : GC1 X A c fs gd) (hip : ∀ p ∈ ip, X.env.locals < p.1) (k : GK1 X A R CI ip c fs K D) {it : Addr} {fp : List Addr} {tn : Nat → Heap → Prop} {Jt : It} (T : Turn X.prog X.w X.K tg Jt fp it tn)
    (hfp : ∀ b ∈ fp, X.env.locals < b ∧ b ∉ X.fs ∧ ∀ p ∈ X.pn ++ ip, p.1 ≠ b) (p : Pos) {W : Nat → Nat → Nat → L2.St → Hp → Γ → Prop}
    (turn : ∀ i m n σ H γ, W i m n σ H γ → (Jt.stop i H ∧ D.nx n σ H γ) ∨ (Jt.go i H ∧ ∃ N : Nat → L2.St → Hp → Γ → Prop, (∀ n' σ' H' γ', N n' σ' H' γ' → ∃ m', m' < m ∧ W (i + 1) m' n' σ' H' γ') ∧ ∀ x H', Jt.yld i H x H' → g x σ H' fun σ2 H2 => tb { D with nx := N, ct := N, bk := D.nx } n σ2 H2 γ)) :
    ∀ (m i n : Nat) (s₀ s : Shared) (σ : L2.St) (H : Hp) (γ : Γ), W i m n σ H γ → (∃ sj Hj ks, CI sj Hj ks γ ∧ Apt X ip ks ∧ X.env.locals ≤ sj.heap.objs.size ∧ (∀ b ∈ fp, H b = none ∧ ∀ p ∈ ks, p.1 ≠ b) ∧ Inv (rb X sj Hj) (ip ++ ks) σ H s) → tn i s.heap →
      Seg (model X.prog X.w) A R (GY1 X CI D.yl) n s₀ (.forLoop tg (.ref it) body [] X.env) ((model X.prog X.w).den (.forLoop tg (.ref it) body [] X.env))
        (.ret (fun r => ((match r with | .ok f => (.pure f : Sem Flow) | .error e => .raise e).onRaise (cameBack X.env)).wrap K J gd lv) none (gd false) (lv []) c p [] :: fs) s := by
  have gl := fun (kk : Result → Sem PySem.Fin) => gc_loop1 (k := kk) (c' := .forLoop tg (.ref it) body [] X.env) (l := lv []) (kp := []) (p := p) gc rfl rfl
  have glb := fun (kk : Result → Sem PySem.Fin) => gc_loop1 (k := kk) (c' := .block [] X.env) (l := lv []) (kp := []) (p := p) gc rfl rfl
  intro m
  induction m using Nat.strongRecOn with
  | ind m ih =>
    intro i n s₀ s σ H γ w hI st
    obtain ⟨sj, Hj, ks, hci, hap, hz, hfn, I⟩ := hI
    have ok : ∀ b ∈ fp, FpOk (rb X sj Hj) (ip ++ ks) H b := fun b hb => by
      obtain ⟨f1, f2, f3⟩ := hfp b hb
      refine ⟨(hfn b hb).1, Nat.ne_of_gt f1, f2, .inr ?_, fun x c e => ?_, fun q hq => ?_⟩
      · show (cut sj.heap X.env.locals).objs.size ≤ b
        rw [cut_size]
        exact Nat.le_trans (Nat.min_le_left ..) (Nat.le_of_lt f1)
      · have := G.nocell x
        rw [show X.env.cells.lookup x = some c from e] at this
        cases this
      · rcases List.mem_append.mp hq with z | z
        · exact f3 q (List.mem_append_left _ z)
        · rcases List.mem_append.mp z with z | z
          · exact f3 q (List.mem_append_right _ z)
          · exact (hfn b hb).2 q z
    show Seg _ _ _ _ _ _ _ ((forTurn tg (.ref it) body [] X.env).onRaise (fun x => do noteFrame x X.env; theTreesLotGoes x)) _ _
    simp only [forTurn]
    refine seg_bindOn (wpAny_standAt ?_)
    refine seg_bindOn (wpAny_onRaise ?_)
    rw [(gl _).over]
    rcases turn i m n σ H γ w with ⟨stop, qn⟩ | ⟨go, N, hN, step⟩
    · refine wpAny_mono (T.done (rb X sj Hj) rfl rfl rfl hcalm i (ip ++ ks) s σ H (fun _ _ => False) I ok st stop) (fun r s1 hr => ?_) fun _ _ z => z.elim
      obtain ⟨rfl, I1⟩ := hr
      show Seg _ _ _ _ _ _ _ (.pure (.again (.block [] X.env))) _ _
      refine seg_again rfl ?_
      show Seg _ _ _ _ _ _ _ (.pure (.done .next)) _ _
      exact seg_leaf (.ok .next) (k n s₀ s1 .next ⟨σ, H, γ, ⟨sj, Hj, ks, hci, hap, hz, I1⟩, qn⟩)
    · refine wpAny_mono (T.item (rb X sj Hj) rfl rfl rfl hcalm i (ip ++ ks) s σ H (fun _ _ => False) I ok st go) (fun r s1 hr => ?_) fun _ _ z => z.elim
      obtain ⟨u, rfl, h1⟩ := hr
      refine seg_bindOn ?_
      rw [(gl _).over]
      refine wpAny_mono h1 (fun _ s2 h2 => ?_) fun _ _ z => z.elim
      obtain ⟨x, H2, I2, r2, y2, st2, fn2⟩ := h2
      have I2' : Inv (rb X sj Hj) ((ip ++ pinsAt fp s2.heap) ++ ks) σ H2 s2 := I2.pins_of fun q hq => by
        rcases List.mem_append.mp hq with z | z
        · rcases List.mem_append.mp z with z | z
          · exact I2.pin q (List.mem_append_right _ (List.mem_append_left _ z))
          · obtain ⟨hb, e⟩ := of_pinsAt z
            obtain ⟨o, e', d⟩ := T.obj _ _ st2 q.1 hb
            rw [e] at e'; cases e'
            obtain ⟨f1, f2, f3⟩ := hfp q.1 hb
            exact ⟨e, fn2 q.1 hb, Nat.ne_of_gt f1, f2, d⟩
        · exact I2.pin q (List.mem_append_right _ (List.mem_append_right _ z))
      refine seg_bindOn ?_
      rw [(gl _).over]
      refine wpAny_mono ((hg sj Hj).run _ s2 σ H2 x u _ I2' r2 (step x H2 y2)) (fun _ s3 h3 => ?_) fun _ _ z => z.elim
      obtain ⟨σ3, H3, I3, q3⟩ := h3
      rw [Sem.onRaise_eq_wrap, Sem.bind_eq_wrap', Sem.wrap_wrap]
      refine hb.run A R CI (ip ++ pinsAt fp s2.heap) n s₀ _ _ _ _ _ _ s3 σ3 H3 γ { D with nx := N, ct := N, bk := D.nx } ⟨(gl _).over, (gl _).split, (gl _).guard, rfl⟩ (fun q hq => ?_) (fun n' s₀' s4 f hs => ?_) ⟨sj, Hj, ks, hci, fun q hq => ⟨(hap q hq).1, fun r hr => ?_⟩, hz, I3⟩ q3
      · rcases List.mem_append.mp hq with z | z
        · exact hip q z
        · exact (hfp q.1 (of_pinsAt z).1).1
      · have again : ∀ σ4 H4 γ4, GI1 X CI (ip ++ pinsAt fp s2.heap) σ4 H4 s4 γ4 → N n' σ4 H4 γ4 → Seg (model X.prog X.w) A R (GY1 X CI D.yl) n' s₀' (.forLoop tg (.ref it) body [] X.env) (.pure (.again (.forLoop tg (.ref it) body [] X.env)))
            (.ret (fun r => ((match r with | .ok f => (.pure f : Sem Flow) | .error e => .raise e).onRaise (cameBack X.env)).wrap K J gd lv) none (gd false) (lv []) c p [] :: fs) s4 := fun σ4 H4 γ4 hI4 n4 => by
          obtain ⟨sj', Hj', ks', hci', hap', hz', I4⟩ := hI4
          obtain ⟨m', hm, w4⟩ := hN n' σ4 H4 γ4 n4
          have at' : ∀ b ∈ fp, ∀ o, s2.heap.get? b = some o → s4.heap.get? b = some o ∧ H4 b = none := fun b hb o e =>
            let z := I4.pin (b, o) (List.mem_append_right _ (List.mem_append_left _ (List.mem_append_right _ (mem_pinsAt hb e))))
            ⟨z.1, z.2.1⟩
          refine seg_again rfl (ih m' hm (i + 1) n' s₀' s4 σ4 H4 γ4 w4 ⟨sj', Hj', ks', hci', fun q hq => ⟨(hap' q hq).1, fun r hr => (hap' q hq).2 r ?_⟩, hz', fun b hb => ⟨?_, fun q hq => ?_⟩, I4.pins_of fun q hq => ?_⟩ (T.keep _ _ _ st2 fun b hb o e => (at' b hb o e).1))
          · rcases List.mem_append.mp hr with z | z
            · exact List.mem_append_left _ z
            · exact List.mem_append_right _ (List.mem_append_left _ z)
          · obtain ⟨o, e, _⟩ := T.obj _ _ st2 b hb
            exact (at' b hb o e).2
          · obtain ⟨o, e, _⟩ := T.obj _ _ st2 b hb
            exact (hap' q hq).2 (b, o) (List.mem_append_right _ (List.mem_append_right _ (mem_pinsAt hb e)))
          · rcases List.mem_append.mp hq with z | z
            · exact I4.pin q (List.mem_append_right _ (List.mem_append_left _ (List.mem_append_left _ z)))
            · exact I4.pin q (List.mem_append_right _ (List.mem_append_right _ z))
        have less : ∀ σ4 H4 γ4, GI1 X CI (ip ++ pinsAt fp s2.heap) σ4 H4 s4 γ4 → GI1 X CI ip σ4 H4 s4 γ4 := fun σ4 H4 γ4 hI4 => by
          obtain ⟨sj', Hj', ks', hci', hap', hz', I4⟩ := hI4
          refine ⟨sj', Hj', ks', hci', fun q hq => ⟨(hap' q hq).1, fun r hr => (hap' q hq).2 r ?_⟩, hz', I4.pins_of fun q hq => ?_⟩
          · rcases List.mem_append.mp hr with z | z
            · exact List.mem_append_left _ z
            · exact List.mem_append_right _ (List.mem_append_left _ z)
          · rcases List.mem_append.mp hq with z | z
            · exact I4.pin q (List.mem_append_right _ (List.mem_append_left _ (List.mem_append_left _ z)))
            · exact I4.pin q (List.mem_append_right _ (List.mem_append_right _ z))
        cases f with
        | next => obtain ⟨σ4, H4, γ4, I4, q4⟩ := hs; exact again σ4 H4 γ4 I4 q4
        | cont => obtain ⟨σ4, H4, γ4, I4, q4⟩ := hs; exact again σ4 H4 γ4 I4 q4
        | brk =>
          obtain ⟨σ4, H4, γ4, I4, q4⟩ := hs
          exact seg_leaf (.ok .next) (k n' s₀' s4 .next ⟨σ4, H4, γ4, less _ _ _ I4, q4⟩)
        | ret v =>
          obtain ⟨x4, σ4, H4, γ4, I4, r4, q4⟩ := hs
          exact seg_leaf (.ok (.ret v)) (k n' s₀' s4 (.ret v) ⟨x4, σ4, H4, γ4, less _ _ _ I4, r4, q4⟩)
      · rcases List.mem_append.mp hr with z | z
        · exact (hap q hq).2 r (List.mem_append_left _ z)
        · rcases List.mem_append.mp z with z | z
          · exact (hap q hq).2 r (List.mem_append_right _ z)
          · exact (hfn r.1 (of_pinsAt z).1).2 q hq
end
end L2
namespace L2
open PySem PySem.Spec PyProof.Rows GenW GenX
section
variable {Γ : Type} {X : Cx} {pins : List (Addr × Obj)} {σ : L2.St} {H : Hp} {s : Shared}
theorem Inv.to_rb (hL : X.env.locals = X.s_0.heap.objs.size) (I : Inv X pins σ H s) : Inv (rb X X.s_0 X.H_0) pins σ H s := by
  have e : ({ X.s_0 with heap := cut X.s_0.heap X.env.locals } : Shared) = X.s_0 := by rw [hL, cut_all]
  have ok := I.ok
  show Inv { X with s_0 := { X.s_0 with heap := cut X.s_0.heap X.env.locals }, H_0 := X.H_0, xe := fun _ _ => False } pins σ H s
  rw [e]
  exact ⟨⟨ok.mod, ok.kind, ok.glob, ok.blt, ok.above, ok.inj, ok.has, ok.cab, ok.hd, ok.frames, ok.stk, ok.exf, ok.bs, ok.bsz, ok.noex, ok.exfs, ok.funs, ok.frf⟩, I.os, I.bare, I.base, I.loc, I.cell, I.free, I.freeC, I.pin, I.hok, I.len⟩
structure GB (Γ : Type) (X : Cx) (st : List Stmt) (t : TGm Γ) : Prop where
  run : ∀ (A : Around) (R : GenEnd) (CI : CIT Γ) (n : Nat) (s₀ : Shared) (c : Code) (fs : List Frame) (K : Flow → Sem PySem.Fin) (J : Value → Sem PySem.Fin) (gd : Bool → Bool) (lv : List Value → List Value) (s : Shared) (σ : L2.St) (H : Hp) (γ : Γ) (D : GEn Γ),
    GC1 X A c fs gd → X.env.locals = X.s_0.heap.objs.size → GK1 X A R CI [] c fs K D → (∀ (n : Nat) (s₀ : Shared) (e : Value) (s : Shared), X.xe e s → Seg (model X.prog X.w) A R (GY1 X CI D.yl) n s₀ c (J e) fs s) → CI X.s_0 X.H_0 [] γ → Inv X [] σ H s → t D n σ H γ →
    Seg (model X.prog X.w) A R (GY1 X CI D.yl) n s₀ c ((execs st X.env).wrap K J gd lv) fs s
theorem gi_of (hL : X.env.locals = X.s_0.heap.objs.size) {CI : CIT Γ} {γ : Γ} (c : CI X.s_0 X.H_0 [] γ) (I : Inv X [] σ H s) : GI1 X CI [] σ H s γ :=
  ⟨X.s_0, X.H_0, [], c, fun p hp => absurd hp (by simp), Nat.le_of_eq hL, I.to_rb hL⟩
theorem gb_cons {st : Stmt} {rest : List Stmt} {t : TS} {u : TGm Γ} (a : PS X st t) (b : GB Γ X rest u) : GB Γ X (st :: rest) (tGSeq (tPl t) u) := by
  refine ⟨fun A R CI n s₀ c fs K J gd lv s σ H γ D gc hL k ke hc I ht => ?_⟩
  refine seg_execs_cons (seg_wrap ?_)
  rw [gc.over]
  refine wpAny_mono (a.run _ s σ H _ I ht) (fun f s' hs => ?_) fun x s' hx => ke n s₀ x s' hx
  cases f with
  | next =>
    obtain ⟨σ', H', I', q⟩ := hs
    exact b.run A R CI n s₀ c fs K J gd lv s' σ' H' γ D gc hL k ke hc I' q
  | brk =>
    obtain ⟨σ', H', I', q⟩ := hs
    exact k n s₀ s' .brk ⟨σ', H', γ, gi_of hL hc I', q⟩
  | cont =>
    obtain ⟨σ', H', I', q⟩ := hs
    exact k n s₀ s' .cont ⟨σ', H', γ, gi_of hL hc I', q⟩
  | ret u =>
    obtain ⟨v, σ', H', I', r, q⟩ := hs
    exact k n s₀ s' (.ret u) ⟨v, σ', H', γ, gi_of hL hc I', r, q⟩
/-- a for whose iterator may raise -/
theorem gb_for {tg iter : Expr} {body : List Stmt} {pos : Pos} {wi : TI} {g : TG} {tb : TGm Γ} (G : GX X) (hcalm : X.calm = true) (hi : PI X tg iter wi) (hg : ∀ sj Hj, PG (rb X sj Hj) tg g) (hb : GSs1 Γ X body tb)
    (hs : ∀ x, foldedSetIterable iter X.env x = pure x := by intro _; rfl) : GB Γ X [.For tg iter body [] pos] (tGSeq (tGFor wi g tb) tG1) := by
  refine ⟨fun A R CI n s₀ c fs K J gd lv s σ H γ D gc hL k ke hc I ht => ?_⟩
  refine seg_execs_cons ?_
  have k' : GK1 X A R CI [] c fs (fun f => match f with | .next => (execs [] X.env).wrap K J gd lv | f => K f) { D with nx := fun n' σ' H' γ' => D.nx n' σ' H' γ' } := fun n' s₀' s' f hs => by
    cases f with
    | next => exact seg_execs_nil (k n' s₀' s' .next hs)
    | brk => exact k n' s₀' s' .brk hs
    | cont => exact k n' s₀' s' .cont hs
    | ret u => exact k n' s₀' s' (.ret u) hs
  rw [exec_For]
  show Seg _ _ _ _ _ _ _ (.at pos fun _ => ((eval iter X.env >>= fun v => (foldedSetIterable iter X.env v >>= fun x => (standAt iter.pos >>= fun _ => (holding [x] (pyIter x) >>= fun it => runOwn (.forLoop tg it body [] X.env) X.env)))).wrap _ J gd lv)) _ _
  refine seg_at (seg_bind_wrap ?_)
  rw [gc.over]
  refine wpAny_mono (hi.run _ s σ H _ I ht) (fun v s1 h1 => ?_) fun x s' hx => ke n s₀ x s' hx
  refine seg_bind_wrap (wpAny_of_eq (hs v) ?_)
  refine seg_bind_wrap (wpAny_standAt ?_)
  refine seg_bind_wrap (wpAny_holding ?_)
  rw [gc.over]
  refine wpAny_mono h1 (fun u s2 h2 => ?_) fun x s' hx => ke n s₀ x s' hx
  obtain ⟨it, fp, tn, Jt, H2, rfl, I2, T, st2, f2, W, ⟨m0, w0⟩, turn⟩ := h2
  refine seg_call fun p => ?_
  have low : ∀ b ∈ fp, X.env.locals < b := fun b hb => by
    obtain ⟨_, f1, _, f3, _⟩ := f2 b hb
    rcases f3 with f3 | f3
    · rw [G.ex] at f3; cases f3
    · rw [← hL] at f3
      exact Nat.lt_of_le_of_ne f3 (Ne.symm f1)
  exact seg_loop1 G hcalm hg hb gc (fun q hq => absurd hq (by simp)) k' T (fun b hb => ⟨low b hb, (f2 b hb).2.2.1, fun q hq => (f2 b hb).2.2.2.2.2 q hq⟩) p turn m0 0 n s₀ s2 σ H2 γ w0
    ⟨X.s_0, X.H_0, [], hc, fun q hq => absurd hq (by simp), Nat.le_of_eq hL, fun b hb => ⟨(f2 b hb).1, fun q hq => absurd hq (by simp)⟩, I2.to_rb hL⟩ st2
end
end L2
namespace L2
open PySem PySem.Spec PyProof.Rows GenW GenX
/-- a generator's promise: the heap at the call, the consumer's state, what it does with an item, what it wants at the end, the exception -/
abbrev TGe := (Γ : Type) → Hp → Γ → YLT Γ → (Hp → Γ → Prop) → XK → Prop
abbrev SpGe := (Γ : Type) → List V → Hp → Γ → YLT Γ → (Hp → Γ → Prop) → XK → Prop
def RE1 {Γ : Type} (P : Program) (w : World) (outer : List Env) (H : Hp) (s : Shared) (X : Cx) (CI : CIT Γ) (EN : Hp → Γ → Prop) (E : XK) (a : Addr) (g : Nat) : GenEnd := fun n s₀ r s1 =>
  ((r = .ok (.ret .none) ∨ r = .ok .next) ∧ ∃ σ H' γ, GI1 X CI [] σ H' s1 γ ∧ EN H' γ) ∨ ∃ e, r = .error e ∧ CX P w outer H s E e s1 ∧ s1.heap.IsGen a g
structure GWk (P : Program) (w : World) (K : PySem.W.Frag) (mg : Str → Option Value) (base : Heap) (outer : List Env) (s : Shared) (a : Addr) (go : Obj) (X : Cx) : Prop where
  gx : GX X
  prog : X.prog = P
  w : X.w = w
  K : X.K = K
  mg : X.mg = mg
  base : X.base = base
  outer : X.outer = outer
  loc : X.env.locals = s.heap.objs.size
  pn : X.pn = [(a, go)]
def GMd (P : Program) (w : World) (K : PySem.W.Frag) (mg : Str → Option Value) (base : Heap) (k : Nat) (outer : List Env) (H : Hp) (s : Shared) (tg : TGe) (u : Value) (s' : Shared) : Prop :=
  ∃ (a : Addr) (g : Nat) (c : Code) (go : Obj), u = .ref a ∧ s.heap.objs.size < a ∧ a < s'.heap.objs.size ∧ s'.heap.get? a = some go ∧ (∀ h : Heap, h.get? a = some go → h.IsGen a g) ∧ go.cls = .type "generator" ∧ (∃ vs, go.data = .fields vs) ∧ s'.gens[g]? = some (.fresh c) ∧ s'.os = s.os ∧ AllBare s'.gens ∧ s'.heap.NoLimit ∧
    (∀ b o, s.heap.get? b = some o → s'.heap.get? b = some o) ∧
    ∀ (Γ : Type) (CI : CIT Γ) (YL : YLT Γ) (EN : Hp → Γ → Prop) (E : XK) (γ : Γ), tg Γ H γ YL EN E → ∀ (Aw : Around) (s2 : Shared), Room k Aw → Aw.frames = some outer → (∀ b o, s'.heap.get? b = some o → s2.heap.get? b = some o) → s2.os = s.os → AllBare s2.gens → CI s H [] γ →
      ∃ X, GWk P w K mg base outer s a go X ∧ ∃ N, Seg (model P w) Aw (RE1 P w outer H s X CI EN E a g) (GY1 X CI YL) N s2 c ((model P w).den c) [] s2
structure GFn1 (P : Program) (w : World) (K : PySem.W.Frag) (mg : Str → Option Value) (base : Heap) (k : Nat) (f : Addr) (fd : FuncData) (ps : List Str) (sp : SpGe) : Prop where
  len : ∀ Γ vs H γ YL EN E, sp Γ vs H γ YL EN E → vs.length = ps.length
  run : ∀ (A : Around) (outer : List Env) (s : Shared) (H : Hp) (args : Args) (us : List Value) (vs : List V), Room k A → Env0 P w K mg base A outer s H → BindsTo s fd args (ps.zip us) → Vals vs us → vs.length = ps.length →
    codeAny (model P w) A (.call (.ref f) args) (fun r s' => match r with | .ok (.ret u) => GMd P w K mg base k outer H s (fun Γ => sp Γ vs) u s' | _ => False) s
theorem no_cells : ∀ {names : List (Str × NameKind)} {n : Nat}, (∀ y ∈ names, y.2 ≠ .cell) → cellsFrom n names [] = []
  | [], n, _ => by simp [cellsFrom]
  | (x, kd) :: r, n, h => by
    have h1 := h (x, kd) List.mem_cons_self
    have ih := no_cells (names := r) (n := n) fun y hy => h y (List.mem_cons_of_mem _ hy)
    cases kd <;> first | exact absurd rfl h1 | (simp [cellsFrom]; exact ih) | (unfold cellsFrom; exact ih)
theorem gfn1_of {P : Program} {w : World} {K : PySem.W.Frag} {mg : Str → Option Value} {base : Heap} {k : Nat} {f : Addr} {name qual : Str} {params : Arguments} {body : List Stmt} {scope : Scope} {dV kV doc pm cdv ct oc : Value} {an od : Option Addr}
    {osl : Array (Option Value)} {N ps : List Str} {sp : SpGe} (lk : K.lookup f = some ⟨oc, od, .func (PySem.W.fnOf name qual params body scope dV kV doc pm an cdv ct), osl⟩) (hcd : PySem.W.codeIn K cdv qual = true) (S : GScope N ps scope) (hnc : ∀ y ∈ scope.names, y.2 ≠ .cell)
    (len : ∀ Γ vs H γ YL EN E, sp Γ vs H γ YL EN E → vs.length = ps.length)
    (hbody : ∀ (A : Around) (outer : List Env) (s : Shared) (H : Hp) (vs : List V) (Γ : Type) (γ : Γ) (YL : YLT Γ) (EN : Hp → Γ → Prop) (E : XK) (pn : List (Addr × Obj)), Room k (A.deeper (envOfC qual scope s.heap.objs.size f cdv)) → sp Γ vs H γ YL EN E → GX (gcxOf P w K mg base N qual scope f cdv A outer s H E pn) →
      ∃ t, GB Γ (gcxOf P w K mg base N qual scope f cdv A outer s H E pn) body t ∧ ∃ n, t { nx := fun _ _ H' γ' => EN H' γ', rt := fun _ v H' γ' => v = .non ∧ EN H' γ', yl := YL } n (start N vs) H γ) :
    GFn1 P w K mg base (k + 1) f (PySem.W.fnOf name qual params body scope dV kV doc pm an cdv ct) ps sp := by
  refine ⟨len, fun A outer s H args us vs hr e0 hb r hl => ?_⟩
  have KX : K.In s.heap := e0.mod.kin.keeps fun b o e => (e0.bs b o e).1
  have lim : s.heap.NoLimit := e0.mod.nolimit.keeps fun b o e => (e0.bs b o e).1
  have hkind : ∀ y ∈ ps.zip us, scope.names.lookup y.1 = some .local ∨ (scope.names.lookup y.1 = some .cell ∧ ((cellsFrom (s.heap.objs.size + 1) scope.names []).lookup y.1).isSome = true) := fun ⟨n, v⟩ hy => by
    rcases S.par n (List.of_mem_zip hy).1 with q | q
    · exact .inl q
    · exact .inr ⟨q, PySem.W.cellsFrom_some _ _ _ (.inl q)⟩
  refine codeAny_call_generator hr.depth (KX _ _ lk) rfl S.co S.gen rfl (PySem.W.codeRec_of KX hcd) (hb _ _ _ _ ?_)
  refine wpAny_newFunctionEnv_cells S.kind hkind fun env he s1 x => ?_
  subst he
  have lim1 : s1.heap.NoLimit := lim.keeps x.toInCall.keep
  refine ⟨lim1, ?_⟩
  obtain ⟨h1, tk, es1, hk1⟩ := x.done
  have os1 : s1.os = s.os := by rw [es1]
  have gen1 : s1.gens = s.gens := by rw [es1]
  have lt1 : s.heap.objs.size < s1.heap.objs.size := x.toInCall.ns.lt
  have kp1 : ∀ b o, s.heap.get? b = some o → s1.heap.get? b = some o := x.toInCall.keep
  have main : ∀ (go : Obj) (nm qn : Value) (tk2 : Nat), go.cls = .type "generator" → go.data = .fields #[.int s1.gens.size 0, nm, qn] → go.slots = #[] → (∀ h : Heap, (h.push go).get? h.objs.size = some go) →
      GMd P w K mg base (k + 1) outer H s (fun Γ => sp Γ vs) (.ref s1.heap.objs.size) { s1 with gens := s1.gens.push (.fresh (.func body (envOfC qual scope s.heap.objs.size f cdv))), toks := tk2, heap := s1.heap.push go } := by
    intro go nm qn tk2 hgc hgd0 hgs hgp
    have hgen : ∀ h : Heap, h.get? s1.heap.objs.size = some go → h.IsGen s1.heap.objs.size s1.gens.size := fun h e => ⟨go, nm, qn, e, hgc, hgd0, hgs⟩
    have hpushed : (s1.heap.push go).get? s1.heap.objs.size = some go := hgp _
    refine ⟨s1.heap.objs.size, s1.gens.size, _, go, rfl, lt1, ?_, hpushed, hgen, hgc, ⟨_, hgd0⟩, Array.getElem?_push_size .., os1, ?_, lim1.keeps fun b o e => Heap.get?_push_of_some _ e, fun b o e => Heap.get?_push_of_some _ (kp1 b o e), ?_⟩
    · show _ < (s1.heap.push _).objs.size
      rw [Heap.size_push]; exact Nat.lt_succ_self _
    · exact AllBare.push (by rw [gen1]; exact e0.bare) rfl
    intro Γ CI YL EN E γ hsp Aw s2 hrw hfr hk2 hos hba hci
    have e0w : Env0 P w K mg base Aw outer s H := ⟨hfr, e0.mod, e0.bs, e0.bsz, e0.funs, e0.frf, e0.hok, e0.bare⟩
    have G : GX (gcxOf P w K mg base N qual scope f cdv Aw outer s H E [(s1.heap.objs.size, go)]) := by
      refine ⟨rfl, fun y => ?_, fun b hb' => ?_⟩
      · show (cellsFrom (s.heap.objs.size + 1) scope.names []).lookup y = none
        rw [no_cells hnc]; rfl
      · obtain ⟨_, o, ho, _⟩ := e0.funs.mem hb'
        exact Heap.lt_size ho
    refine ⟨_, ⟨G, rfl, rfl, rfl, rfl, rfl, rfl, rfl, rfl⟩, ?_⟩
    obtain ⟨t, ht, n, hq⟩ := hbody Aw outer s H vs Γ γ YL EN E [(s1.heap.objs.size, go)] (hrw.deeper _) hsp G
    refine ⟨n, ?_⟩
    have I1 : Inv (gcxOf P w K mg base N qual scope f cdv Aw outer s H E []) [] (start N vs) H s1 := inv_startG S hrw.hd e0w hl r x
    have kp2 : ∀ b o, s1.heap.get? b = some o → s2.heap.get? b = some o := fun b o e => hk2 b o (Heap.get?_push_of_some _ e)
    have I2 : Inv (gcxOf P w K mg base N qual scope f cdv Aw outer s H E []) [] (start N vs) H s2 :=
      I1.call' (ch := []) (hos.trans os1.symm) (Un.kept kp2) (I1.hok.kept kp2) hba fun b z => by simp at z
    have hea : s2.heap.get? s1.heap.objs.size = some go := hk2 s1.heap.objs.size go hpushed
    have hgd : ∀ v, go.data ≠ .cell v := fun v q => by rw [hgd0] at q; cases q
    have I3 : Inv (gcxOf P w K mg base N qual scope f cdv Aw outer s H E [(s1.heap.objs.size, go)]) [] (start N vs) H s2 := Inv.pinnedG I2 fun p hp => by
      have z : p ∈ [(s1.heap.objs.size, go)] := by simpa using hp
      rw [List.mem_singleton.mp z]
      exact ⟨hea, I1.hok.fresh (Nat.le_refl _), Nat.ne_of_gt lt1, I1.nofs (Nat.le_refl _), hgd⟩
    refine seg_func ?_
    refine seg_imp (R := RE1 P w outer H s (gcxOf P w K mg base N qual scope f cdv Aw outer s H E [(s1.heap.objs.size, go)]) CI EN E s1.heap.objs.size s1.gens.size) (Y := GY1 (gcxOf P w K mg base N qual scope f cdv Aw outer s H E [(s1.heap.objs.size, go)]) CI YL) (fun _ _ _ _ z => z) (fun n s₀ v s kap kap' hkk hY => ?_) n ?_
    · obtain ⟨ip, σ, H', x', γ', κ, q1, q2, q3, q4, q5⟩ := hY
      exact ⟨ip, σ, H', x', γ', κ, q1, q2, q3, q4, fun s' H' ks' γ' w c z => ⟨hkk _ _ (q5 s' H' ks' γ' w c z).1, hkk _ _ (q5 s' H' ks' γ' w c z).2⟩⟩
    refine ht.run Aw _ CI n s2 _ [] _ _ id id s2 (start N vs) H γ _ ⟨over_func, rfl, rfl, rfl⟩ rfl (fun n s₀ s' fl hs => ?_) (fun n s₀ e s' hx => ?_) hci I3 hq
    · cases fl with
      | next =>
        obtain ⟨σ', H', γ', hI, hQ⟩ := hs
        exact seg_end (.ok (.ret .none)) (.inl ⟨.inl rfl, σ', H', γ', hI, hQ⟩)
      | brk => obtain ⟨_, _, _, _, q⟩ := hs; exact False.elim q
      | cont => obtain ⟨_, _, _, _, q⟩ := hs; exact False.elim q
      | ret u =>
        obtain ⟨v, σ', H', γ', hI, rv, ev, hQ⟩ := hs
        subst ev
        obtain rfl : u = Value.none := rv
        exact seg_end (.ok (.ret .none)) (.inl ⟨.inl rfl, σ', H', γ', hI, hQ⟩)
    · refine seg_wrap ?_
      rw [over_func]
      refine wpAny_mono (show wpAny (model P w) (Aw.deeper (envOfC qual scope s.heap.objs.size f cdv)) (leaving (envOfC qual scope s.heap.objs.size f cdv) e) (fun _ s'' => CX P w outer H s E e s'' ∧ ∀ p ∈ [(s1.heap.objs.size, go)], s''.heap.get? p.1 = some p.2) (fun _ _ => False) s' from hx) (fun _ s'' q => ?_) fun _ s'' q => q.elim
      exact seg_end (.error e) (.inr ⟨e, rfl, q.1, hgen _ (q.2 _ (List.mem_singleton.mpr rfl))⟩)
  exact main _ _ _ _ rfl rfl rfl fun h => Heap.get?_push_size _ rfl
end L2
namespace U
open PySem PySem.Spec PyProof.Rows GenW GenX L2
abbrev NoEnds : Ends := { nx := fun _ _ => False, rt := fun _ _ => False }
/-- an exception that ends no iteration -/
def NSt (K : PySem.W.Frag) (W : WX) : WX := fun cls d σ H => W cls d σ H ∧ PySem.W.subIn K cls (.type "StopIteration") = some false
theorem passNSt {X : Cx} {W : WX} (hx : ∀ σ, PassesAt (L2.CX X.prog X.w) X σ (WE W σ)) (σ : L2.St) : PassesAt (L2.CX X.prog X.w) X σ (WE (NSt X.K W) σ) := fun pins H s e s' I c => by
  obtain ⟨a, B, H', cls, d, h1, h2, h3, h4, h5, h6, h7, hW⟩ := c
  exact hx σ pins H s e s' I ⟨a, B, H', cls, d, h1, h2, h3, h4, h5, h6, h7, hW.1⟩
section
variable {X : Cx} {k n : Nat} {f C : Addr} {fd : FuncData} {ps : List Str} {sp : Sp} {W : WX} {x m : Str} {p pos apos : Pos} {o e : Expr} {es : List Expr} {ta : TE} {t : TA} {pl : Sem Bool}
theorem CX.kin {e : Value} {pins : List (Addr × Obj)} {σ : L2.St} {H : Hp} {sc s' : Shared} {E : XK} (I1 : Inv X pins σ H sc) (hc : L2.CX X.prog X.w X.stack H sc E e s') : X.K.In s'.heap := by
  obtain ⟨a, B, H', cls, d, _, fl, _, ub, _⟩ := id hc
  refine I1.ok.mod.kin.keeps fun b o eb => fl.1 b o (ub.keep b o (I1.bs b o eb).1 (I1.bs b o eb).2 fun hm => ?_)
  rcases List.mem_cons.mp (I1.stkSub b hm) with z | z
  · have h1 := Heap.lt_size eb
    have h2 := Nat.le_trans I1.ok.bsz I1.ok.above
    rw [z] at h1
    exact absurd (Nat.lt_of_lt_of_le h1 h2) (Nat.lt_irrefl _)
  · exact I1.ok.nofr eb z
end
end U
namespace Fx
open PySem PySem.Spec PyProof.Rows L2 U
noncomputable section
def sStop : FS := fun _ _ => .bad
end
end Fx
namespace U
open PySem PySem.Spec PyProof.Rows GenW GenX L2
abbrev xq (X : Cx) : Cx := { X with xe := fun _ _ => False }
section
variable {X : Cx} {pins : List (Addr × Obj)} {σ : L2.St} {H : Hp} {s : Shared}
theorem Inv.q (I : Inv X pins σ H s) : Inv (xq X) pins σ H s := by
  have ok := I.ok
  exact ⟨⟨ok.mod, ok.kind, ok.glob, ok.blt, ok.above, ok.inj, ok.has, ok.cab, ok.hd, ok.frames, ok.stk, ok.exf, ok.bs, ok.bsz, ok.noex, ok.exfs, ok.funs, ok.frf⟩, I.os, I.bare, I.base, I.loc, I.cell, I.free, I.freeC, I.pin, I.hok, I.len⟩
theorem Inv.unq (I : Inv (xq X) pins σ H s) : Inv X pins σ H s := by
  have ok := I.ok
  exact ⟨⟨ok.mod, ok.kind, ok.glob, ok.blt, ok.above, ok.inj, ok.has, ok.cab, ok.hd, ok.frames, ok.stk, ok.exf, ok.bs, ok.bsz, ok.noex, ok.exfs, ok.funs, ok.frf⟩, I.os, I.bare, I.base, I.loc, I.cell, I.free, I.freeC, I.pin, I.hok, I.len⟩
theorem Inv.gens (I : Inv X pins σ H s) {G : Array GenState} (h : AllBare G) : Inv X pins σ H (wg s G) :=
  ⟨I.ok, I.os, h, I.base, I.loc, I.cell, I.free, I.freeC, I.pin, I.hok, I.len⟩
theorem allBare_poison {G : Array GenState} (h : AllBare G) : AllBare (G.map poison) := bare_poison h
theorem run_asleep {α : Type} {t : Sem α} {Q : α → Shared → Prop} (I : Inv X pins σ H s) (h : ∀ s', Inv (xq X) pins σ H s' → s' = wg s (s.gens.map poison) → wpAny (model X.prog X.w) X.A t Q (fun _ _ => False) s') {E : Value → Shared → Prop} :
    wpAny (model X.prog X.w) X.A t (fun a s' => ∃ X', RG X' s'.gens ∧ Asleep s.gens s'.gens ∧ Q a (wg s' X')) E s :=
  wpAny_mono (wpAny_asleep (h _ (Inv.q (Inv.gens I (allBare_poison I.bare))) rfl)) (fun _ _ z => z) fun _ _ z => by
    obtain ⟨_, _, _, z⟩ := z
    exact False.elim z
theorem Inv.back {s' : Shared} {G : Array GenState} (r : RG G s'.gens) (I : Inv (xq X) pins σ H (wg s' G)) : Inv X pins σ H s' := by
  have := Inv.gens (Inv.unq I) (RG.bare r I.bare)
  exact this
end
theorem Asleep.trans {a b c : Array GenState} (h1 : Asleep a b) (h2 : Asleep b c) : Asleep a c := fun i x e k => h2 i x (h1 i x e k) k
/-- an expression that makes a generator: the heap, its promise, the exception -/
abbrev TGx := L2.St → Hp → (Hp → TGe → XK → Prop) → Prop
structure PGx (X : Cx) (n : Nat) (e : Expr) (t : TGx) : Prop where
  run : ∀ (pins : List (Addr × Obj)) (s : Shared) (σ : L2.St) (H : Hp) (C : Hp → TGe → XK → Prop), Inv X pins σ H s → t σ H C → wpAny (model X.prog X.w) X.A (eval e X.env)
    (fun u s' => ∃ (H1 : Hp) (sc : Shared) (E1 : XK) (k : Nat) (tg : TGe), k ≤ n ∧ NoStop X.K E1 ∧ PassesAt (L2.CX X.prog X.w) X σ E1 ∧ Inv X pins σ H1 sc ∧ C H1 tg E1 ∧ GMd X.prog X.w X.K X.mg X.base k X.stack H1 sc tg u s') X.xe s
/-- what the consumer does with an item -/
def ylF (g : TG) (tb : TS) (D : Ends) : YLT L2.St := fun _ x H σ κ => g x σ H fun σ2 H2 => tb { D with nx := fun σ3 H3 => κ H3 σ3, ct := fun σ3 H3 => κ H3 σ3, bk := D.nx } σ2 H2
def tForG (t : TGx) (g : TG) (tb : TS) : TS := fun D σ H => t σ H fun H1 tg E1 => tg L2.St H1 σ (ylF g tb D) (fun H' σ' => D.nx σ' H') E1
section
variable {X : Cx}
theorem ps_forG {tg iter : Expr} {body : List Stmt} {t : TGx} {g : TG} {tb : TS} {pos : Pos} {n0 : Nat} (hp : PassesOwn (model X.prog X.w) X.A X.env X.xe) (hr : Room (n0 + 1) X.A) (hi : PGx X n0 iter t) (hg : PG (xq X) tg g) (hb : PSs (xq X) body tb)
    (hs : ∀ x, foldedSetIterable iter X.env x = pure x := by intro _; rfl) : PS X (.For tg iter body [] pos) (tForG t g tb) := by
  refine ⟨fun pins s σ H D I h => ?_⟩
  refine wpAny_For (thn (hi.run pins s σ H _ I h) fun v s1 ⟨H1, sc, E1, k, tgp, hk, hns, hx, I1, q, a, gn, c, go, ev, h1, h2, ea, hgen, hcls, hdat, hgs, os1, hb1, lim1, kp1, wake⟩ => ?_) hs
  subst ev
  refine wpAny_pyIter_gen (hgen _ ea) ?_
  have hrA : Room k X.A.in1 := by
    refine ⟨hr.hd, ?_, ?_⟩
    · have := hr.dp
      show X.A.depth + 3 * k + 5 < _
      omega
    · have := hr.un
      show X.A.units + 1 + 16 * k + 200 < _
      omega
  have I2 : Inv X pins σ H1 s1 := I1.call' (ch := []) os1 (Un.kept kp1) (I1.hok.kept kp1) hb1 fun b z => by simp at z
  have hroom : X.A.depth < recursionLimit := by have := hr.dp; omega
  -- what is below the generator's frame
  have lowL : X.env.locals < sc.heap.objs.size := by
    obtain ⟨m, ⟨o, es, ep, ho, _⟩, _⟩ := I1.loc
    exact Heap.lt_size ho
  have lowC : ∀ x c, X.env.cells.lookup x = some c → c < sc.heap.objs.size := fun x c e => by
    obtain ⟨v, o, ho, _⟩ := I1.cell x c e
    exact Heap.lt_size ho
  have lowP : ∀ p ∈ X.pn ++ pins, p.1 < sc.heap.objs.size := fun p hp => Heap.lt_size (I1.pin p hp).1
  have lowF : ∀ b ∈ X.fs, b < sc.heap.objs.size := fun b hb => by
    obtain ⟨_, o, ho, _⟩ := I1.ok.funs.mem hb
    exact Nat.lt_of_lt_of_le (Heap.lt_size ho) I1.sz
  obtain ⟨Xg, W, N, hseg⟩ := wake L2.St (fun sj Hj ks γ => ks = [] ∧ Inv X pins γ Hj sj) (ylF g tb D) (fun H' σ' => D.nx σ' H') E1 σ q X.A.in1 (s1.setGen gn .running) hrA I1.ok.frames (fun b o e => e) os1 (allBare_setGen hb1 rfl) ⟨rfl, I1⟩
  have hloc : Xg.env.locals = sc.heap.objs.size := W.loc
  refine codeAny_forLoop_any (fun n s' => ∃ σ' H' gs, Inv X pins σ' H' s' ∧ s'.heap.get? a = some go ∧ H' a = none ∧ s'.gens[gn]? = some gs ∧ gs.Goes (model X.prog X.w) X.A.in1 (RE1 X.prog X.w X.stack H1 sc Xg (fun sj Hj ks γ => ks = [] ∧ Inv X pins γ Hj sj) (fun H' σ' => D.nx σ' H') E1 a gn) (GY1 Xg (fun sj Hj ks γ => ks = [] ∧ Inv X pins γ Hj sj) (ylF g tb D)) n (.send .none) (s'.setGen gn .running))
    ?_ N ⟨σ, H1, .fresh c, I2, ea, I1.hok.fresh (Nat.le_of_lt h1), hgs, rfl, hseg⟩
  rintro n s3 ⟨σ3, H3, gs, I3, ea3, ha3, hgs3, hgo⟩
  have hgl : gn < s3.gens.size := (Array.getElem?_eq_some_iff.mp hgs3).1
  have lim3 : s3.heap.NoLimit := I3.ok.mod.nolimit.keeps fun b o e => (I3.bs b o e).1
  -- what the consumer has behind a stretch
  have seen : ∀ {ip : List (Addr × Obj)} {σg : L2.St} {Hg : Hp} {s₁ : Shared} {γ : L2.St}, GI1 Xg (fun sj Hj ks γ => ks = [] ∧ Inv X pins γ Hj sj) ip σg Hg s₁ γ → Inv X pins γ Hg s₁ ∧ ∃ sj Hj, Inv (rb Xg sj Hj) ip σg Hg s₁ := fun {ip σg Hg s₁ γ} hG => by
    obtain ⟨sj, Hj, ks, ⟨hks, Ic⟩, apt, hz, Ig⟩ := hG
    subst hks
    rw [List.append_nil] at Ig
    refine ⟨Inv.seen W.gx W.outer W.prog W.w Ic Ig (fun b o hbo _ => .inl ?_) ?_, sj, Hj, Ig⟩
    · rw [hloc]
      rcases hbo with rfl | ⟨x, e⟩ | ⟨p, hp', rfl⟩
      · exact lowL
      · exact lowC x b e
      · exact lowP p hp'
    · rw [hloc]
      exact I1.sz
  refine wpAny_passesOwn hp (wpAny_gsz (n := gn + 1) hgl (next_genG (A := X.A) (n := n) (gs := gs) (F := fun n s₀ s1 => ∃ σ H' γ, GI1 Xg (fun sj Hj ks γ => ks = [] ∧ Inv X pins γ Hj sj) [] σ H' s1 γ ∧ D.nx γ H') (Er := fun e s' => L2.CX X.prog X.w X.stack H1 sc E1 e s' ∧ s'.heap.IsGen a gn) (Y := GY1 Xg (fun sj Hj ks γ => ks = [] ∧ Inv X pins γ Hj sj) (ylF g tb D)) hr.hd lim3 hroom (hgen _ ea3) hgs3 hgo (fun v s₁ gs' hbare hv => ?_) (fun s₁ hq h' hk' => ?_) fun e s₁ hq => ?_))
  · intro hsz
    obtain ⟨ip, σg, Hg, x, γ, κ, rx, hG, hip, yl, hkap⟩ := hv
    obtain ⟨Ic, sj, Hj, Ig⟩ := seen hG
    have hsz1 : gn < s₁.gens.size := by
      have q1 : (s₁.setGen gn gs').gens.size = s₁.gens.size := setGen_size _ _ _
      have hsz' : gn + 1 ≤ (s₁.setGen gn gs').gens.size := hsz
      omega
    have I4 : Inv X pins γ Hg (s₁.setGen gn gs') := Inv.gens Ic (allBare_setGen Ic.bare hbare)
    have g4 : (s₁.setGen gn gs').gens[gn]? = some gs' := setGen_at hsz1
    obtain ⟨mm, ⟨oL, es, ep, eL, dL, _⟩, _⟩ := Ig.loc
    have pa : s₁.heap.get? a = some go ∧ Hg a = none ∧ a ≠ Xg.env.locals ∧ a ∉ Xg.fs ∧ ∀ v, go.data ≠ .cell v := Ig.pin (a, go) (List.mem_append_left _ (by show (a, go) ∈ Xg.pn; rw [W.pn]; exact List.mem_singleton.mpr rfl))
    -- the pins that keep the generator
    have pinned : ∀ p ∈ ((a, go) :: (Xg.env.locals, oL) :: ip), s₁.heap.get? p.1 = some p.2 ∧ Hg p.1 = none ∧ sc.heap.objs.size ≤ p.1 ∧ ∀ v, p.2.data ≠ .cell v := fun p hp' => by
      rcases List.mem_cons.mp hp' with rfl | hp'
      · exact ⟨pa.1, pa.2.1, Nat.le_of_lt h1, pa.2.2.2.2⟩
      · rcases List.mem_cons.mp hp' with rfl | hp'
        · exact ⟨eL, Ig.free, by rw [hloc]; exact Nat.le_refl _, fun v z => by rw [dL] at z; cases z⟩
        · have := Ig.pin p (List.mem_append_right _ hp')
          exact ⟨this.1, this.2.1, by rw [← hloc]; exact Nat.le_of_lt (hip p hp'), this.2.2.2.2⟩
    have I5 : Inv X (pins ++ ((a, go) :: (Xg.env.locals, oL) :: ip)) γ Hg (s₁.setGen gn gs') := I4.pins_of fun p hp' => by
      rcases List.mem_append.mp hp' with z | z
      · exact I4.pin p (List.mem_append_right _ z)
      · obtain ⟨q1, q2, q3, q4⟩ := pinned p z
        exact ⟨q1, q2, fun e => by rw [e] at q3; exact absurd lowL (Nat.not_lt_of_le q3), fun e => absurd (lowF _ e) (Nat.not_lt_of_le q3), q4⟩
    obtain ⟨vs, hvs⟩ := hdat
    refine go_of (s := s₁.setGen gn gs') pa.1 hcls hvs (by decide) ?_
    have yl : g x γ Hg fun σ2 H2 => tb { D with nx := fun σ3 H3 => κ H3 σ3, ct := fun σ3 H3 => κ H3 σ3, bk := D.nx } σ2 H2 := yl
    refine wpAny_mono (run_asleep I5 (fun s' I' _ => hg.run _ s' γ Hg x v _ I' rx yl) (E := fun _ _ => False)) (fun _ s5 z => ?_) fun _ _ z => z.elim
    obtain ⟨G5, r5, as5, σ5, H5, I5', tb5⟩ := z
    have I6 := Inv.back r5 I5'
    refine wpAny_mono (run_asleep I6 (fun s' I' _ => hb.run _ s' σ5 H5 _ I' tb5) (E := fun _ _ => False)) (fun f s7 z => ?_) fun _ _ z => z.elim
    obtain ⟨G7, r7, as7, sp7⟩ := z
    -- the generator is waked again
    have again : ∀ {σ7 : L2.St} {H7 : Hp}, Inv X (pins ++ ((a, go) :: (Xg.env.locals, oL) :: ip)) σ7 H7 s7 → κ H7 σ7 → ∃ m, m < n ∧ ∃ σ' H' gs, Inv X pins σ' H' s7 ∧ s7.heap.get? a = some go ∧ H' a = none ∧ s7.gens[gn]? = some gs ∧ gs.Goes (model X.prog X.w) X.A.in1 (RE1 X.prog X.w X.stack H1 sc Xg (fun sj Hj ks γ => ks = [] ∧ Inv X pins γ Hj sj) (fun H' σ' => D.nx σ' H') E1 a gn) (GY1 Xg (fun sj Hj ks γ => ks = [] ∧ Inv X pins γ Hj sj) (ylF g tb D)) m (.send .none) (s7.setGen gn .running) := fun {σ7 H7} I7 k7 => by
      have pin7 : ∀ p ∈ ((a, go) :: (Xg.env.locals, oL) :: ip), s7.heap.get? p.1 = some p.2 ∧ H7 p.1 = none := fun p hp' =>
        let z := I7.pin p (List.mem_append_right _ (List.mem_append_right _ hp'))
        ⟨z.1, z.2.1⟩
      have I8 : Inv X pins σ7 H7 (s7.setGen gn .running) := Inv.gens I7.unpinned (allBare_setGen I7.bare rfl)
      have wk : Wk Xg ip s₁ (s7.setGen gn .running) H7 [] := by
        refine ⟨⟨X.A, ?_⟩, fun o e => ?_, (pin7 (Xg.env.locals, oL) (by simp)).2, fun p hp' => ?_, fun p hp' => absurd hp' (by simp)⟩
        · rw [W.prog, W.w, W.K, W.mg, W.base, W.outer]
          exact I8.env0
        · rw [eL] at e
          cases e
          exact (pin7 (Xg.env.locals, oL) (by simp)).1
        · rw [List.append_nil] at hp'
          have q := Ig.pin p hp'
          have hm : p ∈ ((a, go) :: (Xg.env.locals, oL) :: ip) := by
            rcases List.mem_append.mp hp' with z | z
            · have z : p ∈ Xg.pn := z
              rw [W.pn] at z
              rw [List.mem_singleton.mp z]; exact List.mem_cons_self
            · exact List.mem_cons_of_mem _ (List.mem_cons_of_mem _ z)
          obtain ⟨q1, q2⟩ := pin7 p hm
          exact ⟨q1, q2, q.2.2.1, q.2.2.2.1, q.2.2.2.2⟩
      obtain ⟨k1, k2⟩ := hkap (s7.setGen gn .running) H7 [] σ7 wk ⟨rfl, I8⟩ k7
      cases n with
      | zero => exact False.elim k1
      | succ m =>
        have hst : gs'.status = .suspended := by
          cases gs' with
          | suspended => rfl
          | fresh c => have := k2.1; cases this
          | running => exact False.elim k1
          | finished => exact False.elim k1
        exact ⟨m, Nat.lt_succ_self m, σ7, H7, gs', I7.unpinned, (pin7 (a, go) (by simp)).1, (pin7 (a, go) (by simp)).2, (Asleep.trans as5 as7) gn gs' g4 hst, k1⟩
    cases f with
    | next =>
      obtain ⟨σ7, H7, I7, q7⟩ := sp7
      exact again (Inv.back r7 I7) q7
    | cont =>
      obtain ⟨σ7, H7, I7, q7⟩ := sp7
      exact again (Inv.back r7 I7) q7
    | brk =>
      obtain ⟨σ7, H7, I7, q7⟩ := sp7
      exact ⟨σ7, H7, (Inv.back r7 I7).unpinned, q7⟩
    | ret u =>
      obtain ⟨x7, σ7, H7, I7, r7', q7⟩ := sp7
      exact ⟨x7, σ7, H7, (Inv.back r7 I7).unpinned, r7', q7⟩
  · intro _
    obtain ⟨σg, H', γ, hG, qn⟩ := hq
    obtain ⟨Ic, sj, Hj, Ig⟩ := seen hG
    have I6 : Inv X pins γ H' (s₁.setGen gn .finished) := Inv.gens Ic (allBare_setGen Ic.bare rfl)
    exact wpAny_execs_nil ⟨γ, H', I6.call' (s' := { s₁.setGen gn .finished with heap := h' }) (ch := []) rfl (Un.kept hk') (I6.hok.kept hk') I6.bare fun b z => by simp at z, qn⟩
  · obtain ⟨hc, hg1⟩ := hq
    refine ⟨hg1, notStop_of hns (CX.kin I1 hc) hc, fun _ => hx pins H1 sc e _ I1 ?_⟩
    obtain ⟨a, B, H', cls, d, z1, fl, z2, ub, z3, z4, z5, z6⟩ := hc
    exact ⟨a, B, H', cls, d, z1, fl, z2, ub, z3, z4, allBare_setGen z5 rfl, z6⟩
end
end U
namespace U
open PySem PySem.Spec PyProof.Rows GenW GenX L2
section
variable {X : Cx} {k n np : Nat} {f C : Addr} {fd : FuncData} {ps : List Str} {sp : SpGe} {W : WX} {x m : Str} {p pos apos : Pos} {o e : Expr} {es : List Expr} {ta : TE} {t : TA} {pl : Sem Bool}
theorem run_gx {pins : List (Addr × Obj)} {σ : L2.St} {H : Hp} {s : Shared} {us : List Value} {vs : List V} {E1 : Value → Shared → Prop} {K1 : Hp → TGe → XK → Prop} (F : GFn1 X.prog X.w X.K X.mg X.base k f fd ps sp) (hb : Binds X.K fd ps []) (hk : k ≤ n) (hr : Room n X.A) (hx : ∀ σ, PassesAt (L2.CX X.prog X.w) X σ (WE W σ))
    (I : Inv X pins σ H s) (r : Vals vs us) (hl : vs.length = ps.length) (h : K1 H (fun Γ => sp Γ vs) (WE (NSt X.K W) σ)) :
    wpAny (model X.prog X.w) X.A (call (.ref f) us) (fun u s' => ∃ (H1 : Hp) (sc : Shared) (E1 : XK) (k : Nat) (tg : TGe), k ≤ n ∧ NoStop X.K E1 ∧ PassesAt (L2.CX X.prog X.w) X σ E1 ∧ Inv X pins σ H1 sc ∧ K1 H1 tg E1 ∧ GMd X.prog X.w X.K X.mg X.base k X.stack H1 sc tg u s') E1 s := by
  have hbs := hb s us I.kIn (by rw [List.append_nil, ← r.length]; exact hl)
  rw [List.append_nil] at hbs
  refine wpAny_call (codeAny_mono (F.run X.A X.stack s H ⟨us, []⟩ us vs (hr.mono hk) I.env0 hbs r hl) fun r s' hq => ?_)
  cases r with
  | error e => exact False.elim hq
  | ok fl =>
    cases fl with
    | ret u => exact ⟨H, s, _, k, _, hk, fun cls d H' z => z.2, passNSt hx σ, I, h, hq⟩
    | next => exact False.elim hq
    | brk => exact False.elim hq
    | cont => exact False.elim hq
def tCallX (np : Nat) (sp : SpGe) (E : L2.St → XK) (t : TA) : TGx := fun σ H K1 => t σ H fun vs H1 => vs.length = np ∧ K1 H1 (fun Γ => sp Γ vs) (E σ)
theorem pgx_call (F : GFn1 X.prog X.w X.K X.mg X.base k f fd ps sp) (hg : Gl X x) (hm : X.mg x = some (.ref f)) (hkp : PySem.W.keepIn X.K (.ref f) = true) (hb : Binds X.K fd ps []) (hk : k ≤ n) (hr : Room n X.A) (hx : ∀ σ, PassesAt (L2.CX X.prog X.w) X σ (WE W σ)) (hnp : ps.length = np)
    (ha : PA X (e :: es) t) (hdb : (x == ("__debug__" : Str)) = false := by decide) (he : starEach (e :: es) X.env = (false, eval e X.env) :: starEach es X.env := by rfl) (hpl : (backTo pos (starEach es X.env)).any (·.1) = false := by rfl) :
    PGx X n (.Call (.Name x p) (e :: es) [] pos) (tCallX np sp (WE (NSt X.K W)) t) := by
  refine ⟨fun pins s σ H K1 I h => ?_⟩
  refine wpAny_Call_Name_kw (ld_glob I hg hm ?_ hdb)
  refine PySem.W.callWith_K (h₀ := X.base) I.ok.mod.kin hkp (thn (ha.run pos pins s σ H _ I h) fun us s1 ⟨vs, H1, I1, r, q, q2⟩ => ⟨I1.kIn, ?_⟩) he hpl
  exact run_gx F hb hk hr hx I1 r (q.trans hnp.symm) q2
end
section
variable {P : Program} {w : World} {K : PySem.W.Frag} {mg : Str → Option Value} {base : Heap}
theorem okGx {x qual : Str} {st : Stmt} {f : Addr} {fd : FuncData} {N ps : List Str} {k : Nat} {sp : SpGe} (F : Fun K x qual st f fd) (S : GScope N ps (defScope st)) (hnc : ∀ y ∈ (defScope st).names, y.2 ≠ .cell) (len : ∀ Γ vs H γ YL EN E, sp Γ vs H γ YL EN E → vs.length = ps.length)
    (hbody : ∀ (cdv : Value) (A : Around) (outer : List Env) (s : Shared) (H : Hp) (vs : List V) (Γ : Type) (γ : Γ) (YL : YLT Γ) (EN : Hp → Γ → Prop) (E : XK) (pn : List (Addr × Obj)), Room k (A.deeper (envOfC qual (defScope st) s.heap.objs.size f cdv)) → sp Γ vs H γ YL EN E → GX (gcxOf P w K mg base N qual (defScope st) f cdv A outer s H E pn) →
      ∃ t, GB Γ (gcxOf P w K mg base N qual (defScope st) f cdv A outer s H E pn) (defBody st) t ∧ ∃ n, t { nx := fun _ _ H' γ' => EN H' γ', rt := fun _ v H' γ' => v = .non ∧ EN H' γ', yl := YL } n (start N vs) H γ) : GFn1 P w K mg base (k + 1) f fd ps sp := by
  obtain ⟨oc, od, kV, doc, pm, an, cdv, ct, osl, rfl, lk, hcd⟩ := F.ex
  exact gfn1_of lk hcd S hnc len fun A outer s H vs Γ γ YL EN E pn hr h g => hbody cdv A outer s H vs Γ γ YL EN E pn hr h g
end
end U
namespace Fx
open PySem PySem.Spec PyProof.Rows L2 U
noncomputable section
theorem ni {α : Type} (a : α) : a ∉ ([] : List α) := by simp
section
variable {K : PySem.W.Frag} {ca : Nat → Addr} {ι B B' : List Addr} {H : Hp}
mutual
def noCel : D → Bool
  | .lst ds => noCels ds
  | .tup ds => noCels ds
  | .fro _ ds => noCels ds
  | .dct kvs => noCelK kvs
  | .cel _ => false
  | .obj _ fs => noCelF fs
  | _ => true
def noCels : List D → Bool
  | [] => true
  | d :: ds => noCel d && noCels ds
def noCelK : List (Key × D) → Bool
  | [] => true
  | (_, d) :: ds => noCel d && noCelK ds
def noCelF : List (Str × D) → Bool
  | [] => true
  | (_, d) :: ds => noCel d && noCelF ds
end
theorem nin {ι B : List Addr} {a : Addr} (h1 : a ∉ ι) (h2 : a ∉ B) : a ∉ ι ++ B := fun z => (List.mem_append.mp z).elim h1 h2
mutual
theorem RV.close : ∀ (d : D) {v : V}, noCel d = true → RV K ca ι B H v d → RV K ca [] (ι ++ B) H v d
  | .non, _, _, h => by cases h; exact .non
  | .bl _, _, _, h => by cases h; exact .bl _
  | .int _, _, _, h => by cases h; exact .int _
  | .str _, _, _, h => by cases h; exact .str _
  | .cls _, _, _, h => by cases h; exact .cls _
  | .cel _, _, n, _ => by simp [noCel] at n
  | .lst ds, _, n, h => by
    cases h with
    | lst h1 h2 h3 h4 => exact .lst (ni _) (nin h1 h2) h3 (RAll.close ds (by simpa [noCel] using n) h4)
  | .tup ds, _, n, h => by
    cases h with
    | tup h1 h2 h3 h4 => exact .tup (ni _) (nin h1 h2) h3 (RAll.close ds (by simpa [noCel] using n) h4)
  | .fro l ds, _, n, h => by
    cases h with
    | fro h1 h2 =>
      refine .fro ?_ (RAll.close ds (by simpa [noCel] using n) h2)
      cases l with
      | true =>
        rcases h1 with ⟨q1, q2, o, q3⟩ | q
        · exact .inl ⟨ni _, nin q1 q2, o, q3⟩
        · exact .inr q
      | false =>
        rcases h1 with ⟨q1, q2, o, q3⟩ | q
        · exact .inl ⟨ni _, nin q1 q2, o, q3⟩
        · exact .inr q
  | .dct es, _, n, h => by
    cases h with
    | dct h1 h2 h3 h4 => exact .dct (ni _) (nin h1 h2) h3 (RKv.close es (by simpa [noCel] using n) h4)
  | .obj c es, _, n, h => by
    cases h with
    | obj h1 h2 h3 h4 => exact .obj (ni _) (nin h1 h2) h3 (RFs.close es (by simpa [noCel] using n) h4)
theorem RAll.close : ∀ (ds : List D) {vs : List V}, noCels ds = true → RAll K ca ι B H vs ds → RAll K ca [] (ι ++ B) H vs ds
  | [], _, _, h => by cases h; exact .nil
  | d :: ds, _, n, h => by
    simp only [noCels, Bool.and_eq_true] at n
    cases h with
    | cons h1 h2 => exact .cons (RV.close d n.1 h1) (RAll.close ds n.2 h2)
theorem RKv.close : ∀ (ds : List (Key × D)) {vs : List (Key × V)}, noCelK ds = true → RKv K ca ι B H vs ds → RKv K ca [] (ι ++ B) H vs ds
  | [], _, _, h => by cases h; exact .nil
  | (k, d) :: ds, _, n, h => by
    simp only [noCelK, Bool.and_eq_true] at n
    cases h with
    | cons h1 h2 => exact .cons (RV.close d n.1 h1) (RKv.close ds n.2 h2)
theorem RFs.close : ∀ (ds : List (Str × D)) {vs : List (Str × V)}, noCelF ds = true → RFs K ca ι B H vs ds → RFs K ca [] (ι ++ B) H vs ds
  | [], _, _, h => by cases h; exact .nil
  | (k, d) :: ds, _, n, h => by
    simp only [noCelF, Bool.and_eq_true] at n
    cases h with
    | cons h1 h2 => exact .cons (RV.close d n.1 h1) (RFs.close ds n.2 h2)
end
/-- seen again from where the cells are known -/
theorem Per.open : Per [] (ι ++ B) H ι B H := ⟨fun a o h1 _ h3 => ⟨h1, fun z => h3 (List.mem_append_left _ z), fun z => h3 (List.mem_append_right _ z)⟩, fun k a z => (nomatch z)⟩
end
inductive RGt where
  | nx (ρ : Ev) | bk (ρ : Ev) | ct (ρ : Ev) | bad
/-- an item: a value, or (true) a new list that is given up -/
abbrev Yi := D × Bool
abbrev GnF := Ev → List Yi × RGt
def IV (K : PySem.W.Frag) (ca : Nat → Addr) (B : List Addr) (fr : Addr → Prop) (H : Hp) (x : V) : Yi → Prop
  | (d, false) => RV K ca [] B H x d
  | (d, true) => ∃ a xs ds, x = .ref a ∧ d = .lst ds ∧ a ∉ B ∧ fr a ∧ H a = some (.lst xs) ∧ RAll K ca [] (a :: B) H xs ds
/-- the address that is given up -/
def ad (x : V) (b : Bool) : List Addr := match x, b with
  | .ref a, true => [a]
  | _, _ => []
theorem IV.rv {K : PySem.W.Frag} {ca : Nat → Addr} {B : List Addr} {fr : Addr → Prop} {H : Hp} {x : V} {y : Yi} (h : IV K ca B fr H x y) : RV K ca [] B H x y.1 := by
  obtain ⟨d, b⟩ := y
  cases b with
  | false => exact h
  | true =>
    obtain ⟨a, xs, ds, rfl, rfl, h1, _, h2, h3⟩ := h
    exact .lst (ni _) h1 h2 (h3.per (Per.less fun a z => List.mem_cons_of_mem _ z))
theorem IV.mono {K : PySem.W.Frag} {ca : Nat → Addr} {B : List Addr} {fr fr' : Addr → Prop} {H : Hp} {x : V} {y : Yi} (h : IV K ca B fr H x y) (hf : ∀ a, fr a → fr' a) : IV K ca B fr' H x y := by
  obtain ⟨d, b⟩ := y
  cases b with
  | false => exact h
  | true =>
    obtain ⟨a, xs, ds, h1, h2, h3, h4, h5⟩ := h
    exact ⟨a, xs, ds, h1, h2, h3, hf a h4, h5⟩
theorem IV.fr {K : PySem.W.Frag} {ca : Nat → Addr} {B : List Addr} {fr : Addr → Prop} {H : Hp} {x : V} {y : Yi} (h : IV K ca B fr H x y) {a : Addr} (ha : a ∈ ad x y.2) : fr a := by
  obtain ⟨d, b⟩ := y
  cases b with
  | false => unfold ad at ha; split at ha <;> first | exact absurd ha (ni a) | (rename_i e; cases e)
  | true =>
    obtain ⟨a', xs, ds, rfl, _, _, h4, _⟩ := h
    have ha : a ∈ [a'] := ha
    rw [List.mem_singleton.mp ha]; exact h4
/-- what the consumer keeps of what stood -/
structure Kept (H : Hp) (B : List Addr) (H' : Hp) (B' : List Addr) : Prop where
  at' : ∀ a o, H a = some o → a ∉ B → H' a = some o ∧ a ∉ B'
  dom : ∀ b ∈ B', H' b ≠ none
def PostGn (G : Gm) {Γ : Type} (D : GEn Γ) : List Yi → RGt → Fr → List Addr → Hp → Nat → Γ → Prop
  | [], .nx ρ', F, ω, H, n, γ => ∀ ω' σ' H', ExtS [] ω H [] ω' H' → Rel G F [] ω' ρ' [] σ' H' → D.nx n σ' H' γ
  | [], .bk ρ', F, ω, H, n, γ => ∀ ω' σ' H', ExtS [] ω H [] ω' H' → Rel G F [] ω' ρ' [] σ' H' → D.bk n σ' H' γ
  | [], .ct ρ', F, ω, H, n, γ => ∀ ω' σ' H', ExtS [] ω H [] ω' H' → Rel G F [] ω' ρ' [] σ' H' → D.ct n σ' H' γ
  | [], .bad, _, _, _, _, _ => False
  | y :: ys, r, F, ω, H, n, γ => ∃ m, n = m + 1 ∧ ∀ x H' (κ : Hp → Γ → Prop), (∀ a o, H a = some o → a ∉ ω → H' a = some o) → (∀ a, H a ≠ none → H' a ≠ none) → IV G.K G.ca F.B0 (fun a => H a = none ∨ a ∈ ω) H' x y →
    (∀ H'' γ' B'', Kept H' (ad x y.2 ++ F.B0) H'' B'' → PostGn G D ys r ⟨H'', [], B''⟩ [] H'' m γ' → κ H'' γ') → D.yl m x H' γ κ
section
variable {G : Gm} {Γ : Type} {D : GEn Γ} {F : Fr} {ω ω1 : List Addr} {ρ : Ev} {σ : L2.St} {H H1 : Hp} {n : Nat} {γ : Γ}
theorem ExtS.sub (h : ∀ a ∈ ω1, a ∈ ω) : ExtS [] ω H [] ω1 H := ⟨List.prefix_rfl, fun _ _ q _ _ => q, fun _ q n => absurd q n, fun a q n => absurd (h a q) n, fun _ q => q⟩
theorem PostGn.ex {ys : List Yi} {r : RGt} (h : PostGn G D ys r F ω H n γ) (e : ExtS [] ω H [] ω1 H1) : PostGn G D ys r F ω1 H1 n γ := by
  cases ys with
  | nil =>
    cases r with
    | nx ρ' => exact fun ω' σ' H' e' rel => h ω' σ' H' (e.trans e') rel
    | bk ρ' => exact fun ω' σ' H' e' rel => h ω' σ' H' (e.trans e') rel
    | ct ρ' => exact fun ω' σ' H' e' rel => h ω' σ' H' (e.trans e') rel
    | bad => exact h
  | cons y ys =>
    obtain ⟨m, hm, hy⟩ := h
    refine ⟨m, hm, fun x H' κ k1 k2 rv hκ => ?_⟩
    have q1 : ∀ a o, H a = some o → a ∉ ω → H' a = some o := fun a o q1 q2 => by
      refine k1 a o (e.keep a o q1 (ni _) q2) fun z => ?_
      have := e.neww a z q2
      rw [q1] at this; cases this
    have q3 : ∀ a, (H1 a = none ∨ a ∈ ω1) → (H a = none ∨ a ∈ ω) := fun a z => by
      rcases z with z | z
      · exact .inl (none_of e.dom z)
      · by_cases hz : a ∈ ω
        · exact .inr hz
        · exact .inl (e.neww a z hz)
    exact hy x H' κ q1 (fun a q => k2 a (e.dom a q)) (rv.mono q3) hκ
/-- another end -/
theorem PostGn.map {D' : GEn Γ} {r r' : RGt} (hyl : D'.yl = D.yl) (I : Fr → List Addr → Hp → Prop) (hI : ∀ (F : Fr) (ω : List Addr) (H : Hp) (x : V) (y : Yi) (H' H'' : Hp) (B'' : List Addr), I F ω H → (∀ a o, H a = some o → a ∉ ω → H' a = some o) → IV G.K G.ca F.B0 (fun a => H a = none ∨ a ∈ ω) H' x y → Kept H' (ad x y.2 ++ F.B0) H'' B'' → I ⟨H'', [], B''⟩ [] H'') (zs : List Yi)
    (hend : ∀ F ω H n γ, I F ω H → PostGn G D zs r F ω H n γ → PostGn G D' [] r' F ω H n γ) : ∀ (ys : List Yi) (F : Fr) (ω : List Addr) (H : Hp) (n : Nat) (γ : Γ), I F ω H → PostGn G D (ys ++ zs) r F ω H n γ → PostGn G D' ys r' F ω H n γ
  | [], F, ω, H, n, γ, i, h => hend F ω H n γ i h
  | y :: ys, F, ω, H, n, γ, i, h => by
    obtain ⟨m, hm, hy⟩ := h
    refine ⟨m, hm, fun x H' κ k1 k2 rv hκ => ?_⟩
    rw [hyl]
    exact hy x H' κ k1 k2 rv fun H'' γ' B'' kk post => hκ H'' γ' B'' kk (PostGn.map hyl I hI zs hend ys _ _ _ m γ' (hI F ω H x y H' H'' B'' i k1 rv kk) post)
def noOwn (ρ : Ev) : Bool := ρ.all fun s => match s with
  | .val _ => true
  | .no => true
  | _ => false
theorem noOwn_at {i : Nat} {s : Sl} (h : noOwn ρ = true) (e : ρ[i]? = some s) : (∃ d, s = .val d) ∨ s = .no := by
  have := List.all_eq_true.mp h s (List.mem_of_getElem? e)
  cases s with
  | val d => exact .inl ⟨d, rfl⟩
  | no => exact .inr rfl
  | own ds => cases this
  | oob c fs => cases this
  | exn c fs => cases this
/-- the frame anew at a waking -/
theorem Rel.rebase (r : Rel G F [] ω ρ [] σ H) {ρ' : Ev} (hl : ρ'.length = ρ.length) (hs : ∀ (i : Nat) (s : Sl), ρ'[i]? = some s → s = Sl.no ∨ ρ[i]? = some s) (h : noOwn ρ' = true) (e : ∀ a o, H a = some o → a ∉ ω → H1 a = some o) {x : V} {y : Yi} (iv : IV G.K G.ca F.B0 (fun a => H a = none ∨ a ∈ ω) H1 x y) {H'' : Hp} {B'' : List Addr} (k : Kept H1 (ad x y.2 ++ F.B0) H'' B'') : Rel G ⟨H'', [], B''⟩ [] [] ρ' [] σ H'' := by
  have pp : Per [] (F.B0 ++ ω) H [] B'' H'' := ⟨fun a o h1 _ h3 => by
    rw [List.mem_append, not_or] at h3
    have := k.at' a o (e a o h1 h3.2) fun z => by
      rcases List.mem_append.mp z with z | z
      · rcases iv.fr z with q | q
        · rw [h1] at q; cases q
        · exact h3.2 q
      · exact h3.1 z
    exact ⟨this.1, ni _, this.2⟩, fun _ _ z => z⟩
  refine ⟨List.prefix_rfl, fun _ _ q _ => q, fun _ q => q, fun a q => absurd q (ni a), fun a q => absurd q (ni a), fun b hb => ⟨k.dom b hb, ni _⟩, List.nodup_nil, fun a q => absurd q (ni a), fun a q => absurd q (ni a), ⟨rfl, fun k a c q => (nomatch q)⟩, hl.trans r.len, fun i s o e1 e2 => ?_, fun i j a s s' hij e1 e2 e3 => ?_⟩
  · rcases noOwn_at h e1 with ⟨d, rfl⟩ | rfl
    · rcases hs i _ e1 with z | z
      · cases z
      · have q := r.env i _ o z e2
        cases q with
        | val q =>
          rw [show (Fr.mk H'' [] B'').B0 ++ [] = B'' from List.append_nil _]
          exact .val (q.per pp)
    · exact .no
  · rcases noOwn_at h e1 with ⟨d, rfl⟩ | rfl <;> cases e3
end
/-- a reading of a generator's statement and its function -/
def SGn (G : Gm) (t : (Γ : Type) → TGm Γ) (g : GnF) : Prop := ∀ (Γ : Type) (F : Fr) (D : GEn Γ) (n : Nat) (γ : Γ) (ω : List Addr) (ρ : Ev) (σ : L2.St) (H : Hp), F.i0 = [] → Rel G F [] ω ρ [] σ H → PostGn G D (g ρ).1 (g ρ).2 F ω H n γ → t Γ D n σ H γ
theorem nil_of {G : Gm} {F : Fr} {ι' ω : List Addr} {ρ : Ev} {σ : L2.St} {H : Hp} (r : Rel G F ι' ω ρ [] σ H) : ι' = [] := List.length_eq_zero_iff.mp r.sto.len
def gPl (f : FS) : GnF := fun ρ => match f ρ [] with
  | .nx ρ' [] => ([], .nx ρ')
  | .bk ρ' [] => ([], .bk ρ')
  | .ct ρ' [] => ([], .ct ρ')
  | _ => ([], .bad)
section
variable {G : Gm}
theorem sgn_pl {t : TS} {f : FS} (h : SS G NoE t f) : SGn G (fun Γ => tPl t) (gPl f) := by
  intro Γ F D n γ ω ρ σ H hi rel hp
  refine h F (D.at n γ) [] ω ρ [] σ H rel ?_
  unfold gPl at hp
  cases e : f ρ [] with
  | nx ρ' S' =>
    cases S' with
    | nil => rw [e] at hp; exact fun ι' ω' σ' H' ee rel' => by have := nil_of rel'; subst this; exact hp ω' σ' H' ee rel'
    | cons => rw [e] at hp; exact False.elim hp
  | bk ρ' S' =>
    cases S' with
    | nil => rw [e] at hp; exact fun ι' ω' σ' H' ee rel' => by have := nil_of rel'; subst this; exact hp ω' σ' H' ee rel'
    | cons => rw [e] at hp; exact False.elim hp
  | ct ρ' S' =>
    cases S' with
    | nil => rw [e] at hp; exact fun ι' ω' σ' H' ee rel' => by have := nil_of rel'; subst this; exact hp ω' σ' H' ee rel'
    | cons => rw [e] at hp; exact False.elim hp
  | rt d fl S' => rw [e] at hp; exact False.elim hp
  | xc c fs ρ' S' => rw [e] at hp; exact False.elim hp
  | bad => rw [e] at hp; exact False.elim hp
def gNil : GnF := fun ρ => ([], .nx ρ)
theorem sgn_nil : SGn G (fun Γ => tG1) gNil := fun Γ F D n γ ω ρ σ H hi rel hp => hp ω σ H ExtS.refl rel
def gSeq (g h : GnF) : GnF := fun ρ => match g ρ with
  | (ys, .nx ρ') => (ys ++ (h ρ').1, (h ρ').2)
  | r => r
theorem sgn_seq {t u : (Γ : Type) → TGm Γ} {g h : GnF} (ht : SGn G t g) (hu : SGn G u h) : SGn G (fun Γ => tGSeq (t Γ) (u Γ)) (gSeq g h) := by
  intro Γ F D n γ ω ρ σ H hi rel hp
  refine ht Γ F { D with nx := fun n' σ' H' γ' => u Γ D n' σ' H' γ' } n γ ω ρ σ H hi rel ?_
  unfold gSeq at hp
  cases e : g ρ with
  | mk ys r =>
    rw [e] at hp
    cases r with
    | nx ρ' => exact PostGn.map (D := D) (r := (h ρ').2) (r' := .nx ρ') (D' := { D with nx := fun n' σ' H' γ' => u Γ D n' σ' H' γ' }) rfl (fun F _ _ => F.i0 = []) (fun _ _ _ _ _ _ _ _ _ _ _ _ => rfl) (h ρ').1 (fun F ω H n γ i p => fun ω' σ' H' ee rel' => hu Γ F D n γ ω' ρ' σ' H' i rel' (p.ex ee)) ys F ω H n γ hi hp
    | bk ρ' => exact PostGn.map (D := D) (r := .bk ρ') (r' := .bk ρ') (D' := { D with nx := fun n' σ' H' γ' => u Γ D n' σ' H' γ' }) rfl (fun _ _ _ => True) (fun _ _ _ _ _ _ _ _ _ _ _ _ => trivial) [] (fun F ω H n γ i p => p) ys F ω H n γ trivial (by rw [List.append_nil]; exact hp)
    | ct ρ' => exact PostGn.map (D := D) (r := .ct ρ') (r' := .ct ρ') (D' := { D with nx := fun n' σ' H' γ' => u Γ D n' σ' H' γ' }) rfl (fun _ _ _ => True) (fun _ _ _ _ _ _ _ _ _ _ _ _ => trivial) [] (fun F ω H n γ i p => p) ys F ω H n γ trivial (by rw [List.append_nil]; exact hp)
    | bad => exact PostGn.map (D := D) (r := .bad) (r' := .bad) (D' := { D with nx := fun n' σ' H' γ' => u Γ D n' σ' H' γ' }) rfl (fun _ _ _ => True) (fun _ _ _ _ _ _ _ _ _ _ _ _ => trivial) [] (fun F ω H n γ i p => p) ys F ω H n γ trivial (by rw [List.append_nil]; exact hp)
def gIf (fc : FE) (ga gb : GnF) : GnF := fun ρ => match fc ρ [] with
  | .ok (.bl true) _ [] => ga ρ
  | .ok (.bl false) _ [] => gb ρ
  | _ => ([], .bad)
theorem sgn_if {c : TT} {t u : (Γ : Type) → TGm Γ} {fc : FE} {ga gb : GnF} (hc : ST G NoE c fc) (ht : SGn G t ga) (hu : SGn G u gb) : SGn G (fun Γ => tGIf c (t Γ) (u Γ)) (gIf fc ga gb) := by
  intro Γ F D n γ ω ρ σ H hi rel hp
  refine hc F [] ω ρ [] σ H _ rel ?_
  unfold gIf at hp
  cases e : fc ρ [] with
  | ok d fl S1 =>
    rw [e] at hp
    cases d with
    | bl b =>
      cases S1 with
      | nil =>
        intro ι1 v H1 e1 r1 rf
        have hn := nil_of r1
        subst hn
        rw [rf.rt.sBl]
        cases b with
        | true => exact ht Γ F D n γ ω ρ σ H1 hi r1 (PostGn.ex hp e1.s)
        | false => exact hu Γ F D n γ ω ρ σ H1 hi r1 (PostGn.ex hp e1.s)
      | cons => cases b <;> exact False.elim hp
    | _ => exact False.elim hp
  | xc c' fs S1 => rw [e] at hp; exact False.elim hp
  | bad => rw [e] at hp; exact False.elim hp
def mkY (d : D) (f : Fl) : Option Yi := match d, f with
  | .lst ds, .fs => some (.lst ds, true)
  | d, f => if f.nop = true then some (d, false) else none
theorem mkY_iv {K : PySem.W.Frag} {ca : Nat → Addr} {B0 ω : List Addr} {H0 H : Hp} {v : V} {d : D} {f : Fl} {y : Yi} (h : RF K ca [] (B0 ++ ω) H0 H [] v d f) (e : mkY d f = some y) : IV K ca B0 (fun a => H0 a = none ∨ a ∈ ω) H v y := by
  unfold mkY at e
  split at e
  · cases e
    have h : Fs _ _ _ _ _ _ _ _ _ := h
    cases h with
    | l h1 h2 h3 h4 h5 h6 =>
      exact ⟨_, _, _, rfl, rfl, fun z => h2 (List.mem_append_left _ z), .inl h3, h4, h5.per (Per.less fun a z => by
        rcases List.mem_cons.mp z with z | z
        · rw [z]; exact List.mem_cons_self
        · exact List.mem_cons_of_mem _ (List.mem_append_left _ z))⟩
  · split at e
    · rename_i hf
      cases e
      exact (h.rv (fun e => by rw [e] at hf; cases hf)).per (Per.less fun a z => List.mem_append_left _ z)
    · cases e
def gYd (fe : FE) : GnF := fun ρ => if noOwn ρ = true then (match fe ρ [] with
  | .ok d f [] => (match mkY d f with
    | some y => ([y], .nx ρ)
    | none => ([], .bad))
  | _ => ([], .bad)) else ([], .bad)
theorem sgn_yd {te : TE} {fe : FE} (he : SE G NoE te fe) : SGn G (fun Γ => tGYd te) (gYd fe) := by
  intro Γ F D n γ ω ρ σ H hi rel hp
  unfold gYd at hp
  split at hp
  · rename_i hno
    cases e : fe ρ [] with
    | ok d f S1 =>
      rw [e] at hp
      cases S1 with
      | nil =>
        dsimp only at hp
        split at hp
        · rename_i y hy'
          obtain ⟨m, hm, hy⟩ := hp
          refine ⟨m, hm, he F [] ω ρ [] σ H _ rel ?_⟩
          rw [e]
          intro ι1 v H1 e1 r1 rf
          have hn := nil_of r1
          subst hn
          have iv := mkY_iv rf hy'
          refine hy v H1 _ (fun a o q1 _ => e1.keep a o q1 (ni _)) e1.dom iv fun H'' γ' B'' kk post => ?_
          exact post [] σ H'' ExtS.refl (Rel.rebase rel rfl (fun i s z => .inr z) hno (fun a o q _ => e1.keep a o q (ni _)) iv kk)
        · exact False.elim hp
      | cons => exact False.elim hp
    | xc c fs S1 => rw [e] at hp; exact False.elim hp
    | bad => rw [e] at hp; exact False.elim hp
  · exact False.elim hp
def loopG (set : FG) (body : GnF) : List D → Ev → List Yi × RGt
  | [], ρ => ([], .nx ρ)
  | d :: ds, ρ => match set d ρ [] with
    | some ρ1 => (match body ρ1 with
      | (ys, .nx ρ2) => (ys ++ (loopG set body ds ρ2).1, (loopG set body ds ρ2).2)
      | (ys, .ct ρ2) => (ys ++ (loopG set body ds ρ2).1, (loopG set body ds ρ2).2)
      | (ys, .bk ρ2) => (ys, .nx ρ2)
      | (ys, .bad) => (ys, .bad))
    | none => ([], .bad)
theorem loop_sound {tg : TG} {fg : FG} {js : List Nat} {tb : (Γ : Type) → TGm Γ} {gb : GnF} (hg : SG G tg js fg) (hb : SGn G tb gb) {Γ : Type} {D : GEn Γ} {ds : List Fx.D} {J : It} {B1 : List Addr} {H1 : Hp} (wk : Wk G.K G.ca [] B1 H1 J ds none) {F0 : Fr} {ω0 : List Addr} {ρ0 : Ev} {σ0 : L2.St} {n0 : Nat} {γ0 : Γ}
    (hi : F0.i0 = []) (r0 : Rel G F0 [] ω0 ρ0 [] σ0 H1) (hB : B1 = F0.B0 ++ ω0) (p0 : PostGn G D (loopG fg gb ds ρ0).1 (loopG fg gb ds ρ0).2 F0 ω0 H1 n0 γ0) :
    ∃ W : Nat → Nat → Nat → L2.St → Hp → Γ → Prop, (∃ m, W 0 m n0 σ0 H1 γ0) ∧ ∀ i m n σ H γ, W i m n σ H γ →
      (J.stop i H ∧ D.nx n σ H γ) ∨ (J.go i H ∧ ∃ N : Nat → L2.St → Hp → Γ → Prop, (∀ n' σ' H' γ', N n' σ' H' γ' → ∃ m', m' < m ∧ W (i + 1) m' n' σ' H' γ') ∧ ∀ x H', J.yld i H x H' → tg x σ H' fun σ2 H2 => tb Γ { D with nx := N, ct := N, bk := D.nx } n σ2 H2 γ) := by
  refine ⟨fun i m n σ H γ => m = ds.length - i ∧ i ≤ ds.length ∧ ∃ F ω ρ, F.i0 = [] ∧ Rel G F [] ω ρ [] σ H ∧ Per [] B1 H1 [] (F.B0 ++ ω) H ∧ PostGn G D (loopG fg gb (ds.drop i) ρ).1 (loopG fg gb (ds.drop i) ρ).2 F ω H n γ,
    ⟨ds.length, by simp, Nat.zero_le _, F0, ω0, ρ0, hi, r0, by rw [hB]; exact Per.refl, by rw [List.drop_zero]; exact p0⟩, ?_⟩
  rintro i m n σ H γ ⟨rfl, hle, F, ω, ρ, hi', rel, pp, p⟩
  rcases Nat.lt_or_ge i ds.length with hlt | hge
  · rw [List.drop_eq_getElem_cons hlt] at p
    unfold loopG at p
    obtain ⟨N0, hN0⟩ : ∃ N0 : Nat → L2.St → Hp → Γ → Prop, ∀ n' σ' H' γ', N0 n' σ' H' γ' ↔ ∃ F' ω' ρ', F'.i0 = [] ∧ Rel G F' [] ω' ρ' [] σ' H' ∧ Per [] B1 H1 [] (F'.B0 ++ ω') H' ∧ PostGn G D (loopG fg gb (ds.drop (i + 1)) ρ').1 (loopG fg gb (ds.drop (i + 1)) ρ').2 F' ω' H' n' γ' := ⟨_, fun _ _ _ _ => Iff.rfl⟩
    refine .inr ⟨wk.go _ _ _ [] i pp rel.sto rel.bd trivial hlt, N0, fun n' σ' H' γ' q => ⟨ds.length - (i + 1), by omega, rfl, hlt, (hN0 _ _ _ _).mp q⟩, fun x H'' y => ?_⟩
    obtain ⟨gr, d, ed, rv⟩ := wk.yld _ _ _ [] i x H'' pp rel.sto rel.bd trivial hlt y
    rw [List.getElem?_eq_getElem hlt] at ed
    cases ed
    have r2 := rel.gr gr
    have x2 : ExtS [] ω H [] ω H'' := (Ext.gr gr).s
    refine hg F [] ω ρ [] σ H'' x _ _ r2 rv ?_
    cases eg : fg ds[i] ρ [] with
    | none => rw [eg] at p; exact False.elim p
    | some ρ1 =>
      rw [eg] at p
      dsimp only at p
      intro σ1 rel1 _
      have pp2 : Per [] B1 H1 [] (F.B0 ++ ω) H'' := pp.trans (Ext.gr gr).per
      refine hb Γ F _ n γ ω ρ1 σ1 H'' hi' rel1 ?_
      have hI : ∀ (F : Fr) (ω : List Addr) (H : Hp) (x : V) (y : Yi) (H' H'' : Hp) (B'' : List Addr), (F.i0 = [] ∧ Per [] B1 H1 [] (F.B0 ++ ω) H) → (∀ a o, H a = some o → a ∉ ω → H' a = some o) → IV G.K G.ca F.B0 (fun a => H a = none ∨ a ∈ ω) H' x y → Kept H' (ad x y.2 ++ F.B0) H'' B'' → ((Fr.mk H'' [] B'').i0 = [] ∧ Per [] B1 H1 [] ((Fr.mk H'' [] B'').B0 ++ []) H'') := fun F ω H x y H' H'' B'' i k1 iv kk => by
        refine ⟨rfl, fun a o q1 q2 q3 => ?_, fun k a z => (nomatch z)⟩
        obtain ⟨z1, z2, z3⟩ := i.2.at' a o q1 q2 q3
        rw [List.mem_append, not_or] at z3
        obtain ⟨y1, y2⟩ := kk.at' a o (k1 a o z1 z3.2) fun z => by
          rcases List.mem_append.mp z with z | z
          · rcases iv.fr z with w | w
            · rw [z1] at w; cases w
            · exact z3.2 w
          · exact z3.1 z
        exact ⟨y1, ni _, by rw [List.append_nil]; exact y2⟩
      have again : ∀ (ys : List Yi) (ρ2 : Ev) (r' : RGt), PostGn G D (ys ++ (loopG fg gb (ds.drop (i + 1)) ρ2).1) (loopG fg gb (ds.drop (i + 1)) ρ2).2 F ω H'' n γ →
          (∀ F ω H n γ, (∀ ω' σ' H', ExtS [] ω H [] ω' H' → Rel G F [] ω' ρ2 [] σ' H' → N0 n σ' H' γ) → PostGn G { D with nx := N0, ct := N0, bk := D.nx } [] r' F ω H n γ) → PostGn G { D with nx := N0, ct := N0, bk := D.nx } ys r' F ω H'' n γ := fun ys ρ2 r' hpost hend =>
        PostGn.map (D := D) (D' := { D with nx := N0, ct := N0, bk := D.nx }) rfl (fun F ω H => F.i0 = [] ∧ Per [] B1 H1 [] (F.B0 ++ ω) H) hI (loopG fg gb (ds.drop (i + 1)) ρ2).1 (fun F ω H n γ ii p => hend F ω H n γ fun ω' σ' H' ee rel' => (hN0 n σ' H' γ).mpr ⟨F, ω', ρ2, ii.1, rel', ii.2.trans ee.per, p.ex ee⟩) ys F ω H'' n γ ⟨hi', pp2⟩ hpost
      cases eb : gb ρ1 with
      | mk ys r =>
        rw [eb] at p
        have p2 := PostGn.ex p x2
        cases r with
        | nx ρ2 => exact again ys ρ2 (.nx ρ2) p2 fun F ω H n γ q => q
        | ct ρ2 => exact again ys ρ2 (.ct ρ2) p2 fun F ω H n γ q => q
        | bk ρ2 =>
          have p3 : PostGn G D (ys ++ []) (.nx ρ2) F ω H'' n γ := by rw [List.append_nil]; exact p2
          exact PostGn.map (D := D) (D' := { D with nx := N0, ct := N0, bk := D.nx }) (r := .nx ρ2) (r' := .bk ρ2) rfl (fun _ _ _ => True) (fun _ _ _ _ _ _ _ _ _ _ _ _ => trivial) [] (fun F ω H n γ _ q => q) ys F ω H'' n γ trivial p3
        | bad =>
          have p3 : PostGn G D (ys ++ []) .bad F ω H'' n γ := by rw [List.append_nil]; exact p2
          exact PostGn.map (D := D) (D' := { D with nx := N0, ct := N0, bk := D.nx }) (r := .bad) (r' := .bad) rfl (fun _ _ _ => True) (fun _ _ _ _ _ _ _ _ _ _ _ _ => trivial) [] (fun F ω H n γ _ q => q) ys F ω H'' n γ trivial p3
  · obtain rfl : i = ds.length := by omega
    rw [List.drop_length] at p
    exact .inl ⟨wk.stop _ _ _ [] pp rel.sto rel.bd trivial, p ω σ H ExtS.refl rel⟩
end
end
end Fx
namespace Fx
open PySem PySem.Spec PyProof.Rows L2 U
noncomputable section
/-- the items, one after another; between two of them the consumer runs -/
def Chain (K : PySem.W.Frag) (ca : Nat → Addr) {Γ : Type} (YL : YLT Γ) (EN : Hp → Γ → Prop) : List Yi → List Addr → Hp → Γ → Prop
  | [], _, H, γ => ∀ H', (∀ a o, H a = some o → H' a = some o) → EN H' γ
  | y :: ys, B, H, γ => ∀ x H' (κ : Hp → Γ → Prop), (∀ a o, H a = some o → H' a = some o) → IV K ca B (fun a => H a = none) H' x y → (∀ H'' γ' B'', Kept H' (ad x y.2 ++ B) H'' B'' → Chain K ca YL EN ys B'' H'' γ' → κ H'' γ') → YL ys.length x H' γ κ
inductive RGn where
  | ok (ys : List Yi) | xc (c : Nat) (fs : List (Str × D)) | bad
abbrev FGf := List D → RGn
def PostGF (K : PySem.W.Frag) (ca : Nat → Addr) (B : List Addr) (H : Hp) {Γ : Type} (γ : Γ) (YL : YLT Γ) (EN : Hp → Γ → Prop) (E : XK) : RGn → Prop
  | .ok ys => Chain K ca YL EN ys B H γ
  | .xc c fs => ∀ dd fv H', Ext [] H [] H' → NI dd B → XD H' dd fv → RFs K ca [] B H' fv fs → E (.ref (ca c)) dd H'
  | .bad => False
def SpGF (K : PySem.W.Frag) (ca : Nat → Addr) (f : FGf) : SpGe := fun _ vs H γ YL EN E => ∃ B ds, (∀ b ∈ B, H b ≠ none) ∧ RAll K ca [] B H vs ds ∧ PostGF K ca B H γ YL EN E (f ds)
inductive RGB where
  | go (ys : List Yi) (r : RGt) | xc (c : Nat) (fs : List (Str × D)) | bad
abbrev GbF := Ev → RGB
def PostGB (G : Gm) (E : WX) {Γ : Type} (D : GEn Γ) (F : Fr) (ω : List Addr) (H : Hp) (n : Nat) (γ : Γ) : RGB → Prop
  | .go ys r => PostGn G D ys r F ω H n γ
  | .xc c fs => ∀ ω' ρ' σ' dd fv H', ExtS [] ω H [] ω' H' → Rel G F [] ω' ρ' [] σ' H' → NI dd (F.B0 ++ ω') → XD H' dd fv → RFs G.K G.ca [] (F.B0 ++ ω') H' fv fs → E (.ref (G.ca c)) dd σ' H'
  | .bad => False
def SGB (G : Gm) (E : WX) (t : (Γ : Type) → TGm Γ) (g : GbF) : Prop := ∀ (Γ : Type) (F : Fr) (D : GEn Γ) (n : Nat) (γ : Γ) (ω : List Addr) (ρ : Ev) (σ : L2.St) (H : Hp), F.i0 = [] → Rel G F [] ω ρ [] σ H → PostGB G E D F ω H n γ (g ρ) → t Γ D n σ H γ
def gbCons (f : FS) (g : GbF) : GbF := fun ρ => match f ρ [] with
  | .nx ρ' [] => g ρ'
  | .xc c fs _ [] => .xc c fs
  | _ => .bad
def gbFor (fi : FI) (set : FG) (body : GnF) : GbF := fun ρ => match fi ρ [] with
  | .ok ds none [] => .go (loopG set body ds ρ).1 (loopG set body ds ρ).2
  | .xc c fs [] => .xc c fs
  | _ => .bad
section
variable {G : Gm} {E : WX}
theorem PostGB.ex {Γ : Type} {D : GEn Γ} {F : Fr} {ω ω1 : List Addr} {H H1 : Hp} {n : Nat} {γ : Γ} {r : RGB} (h : PostGB G E D F ω H n γ r) (e : ExtS [] ω H [] ω1 H1) : PostGB G E D F ω1 H1 n γ r := by
  cases r with
  | go ys r => exact PostGn.ex h e
  | xc c fs => exact fun ω' ρ' σ' dd fv H' e' rel => h ω' ρ' σ' dd fv H' (e.trans e') rel
  | bad => exact h
theorem sgb_cons {t : TS} {u : (Γ : Type) → TGm Γ} {f : FS} {g : GbF} (ht : SS G E t f) (hu : SGB G E u g) : SGB G E (fun Γ => tGSeq (tPl t) (u Γ)) (gbCons f g) := by
  intro Γ F D n γ ω ρ σ H hi rel hp
  refine ht F _ [] ω ρ [] σ H rel ?_
  unfold gbCons at hp
  cases e : f ρ [] with
  | nx ρ' S' =>
    cases S' with
    | nil =>
      rw [e] at hp
      exact fun ι' ω' σ' H' ee rel' => by
        have := nil_of rel'
        subst this
        exact hu Γ F D n γ ω' ρ' σ' H' hi rel' (PostGB.ex hp ee)
    | cons => rw [e] at hp; exact False.elim hp
  | xc c fs ρ' S' =>
    cases S' with
    | nil =>
      rw [e] at hp
      exact fun ι' ω' σ' dd fv H' ee rel' n1 n2 xd rf => by
        have := nil_of rel'
        subst this
        exact hp ω' ρ' σ' dd fv H' ee rel' n2 xd rf
    | cons => rw [e] at hp; exact False.elim hp
  | bk ρ' S' => rw [e] at hp; exact False.elim hp
  | ct ρ' S' => rw [e] at hp; exact False.elim hp
  | rt d fl S' => rw [e] at hp; exact False.elim hp
  | bad => rw [e] at hp; exact False.elim hp
theorem sgb_for {wi : TI} {fi : FI} {tg : TG} {fg : FG} {js : List Nat} {tb : (Γ : Type) → TGm Γ} {gb : GnF} (hw : SI G E wi fi) (hg : SG G tg js fg) (hb : SGn G tb gb) : SGB G E (fun Γ => tGSeq (tGFor wi tg (tb Γ)) tG1) (gbFor fi fg gb) := by
  intro Γ F D n γ ω ρ σ H hi rel hp
  refine hw F [] ω ρ [] σ H _ rel ?_
  unfold gbFor at hp
  cases e : fi ρ [] with
  | ok ds g S1 =>
    rw [e] at hp
    cases g with
    | none =>
      cases S1 with
      | nil =>
        intro ι1 J H1 e1 r1 wk
        have hn := nil_of r1
        subst hn
        exact loop_sound (D := { D with nx := fun n' σ' H' γ' => D.nx n' σ' H' γ' }) hg hb wk hi r1 rfl (PostGn.ex hp e1.s)
      | cons => exact False.elim hp
    | some => exact False.elim hp
  | xc c fs S1 =>
    cases S1 with
    | nil =>
      rw [e] at hp
      exact fun ι' dd fv H' ee rel' n1 n2 xd rf => by
        have := nil_of rel'
        subst this
        exact hp ω ρ σ dd fv H' ee.s rel' n2 xd rf
    | cons => rw [e] at hp; exact False.elim hp
  | bad => rw [e] at hp; exact False.elim hp
def runG (n m : Nat) (b : GbF) : FGf := fun ds => if ds.length = m then (match b (ds.map .val ++ List.replicate (n - m) .no) with
  | .go ys (.nx _) => .ok ys
  | .xc c fs => .xc c fs
  | _ => .bad) else .bad
end
section
variable {K : PySem.W.Frag} {ca : Nat → Addr}
theorem runG_len {Γ : Type} {N P : List Str} {b : GbF} {vs : List V} {H : Hp} {γ : Γ} {YL : YLT Γ} {EN : Hp → Γ → Prop} {E : XK} (h : SpGF K ca (runG N.length P.length b) Γ vs H γ YL EN E) : vs.length = P.length := by
  obtain ⟨B, ds, h2, h4, h5⟩ := h
  unfold runG at h5
  split at h5
  · rename_i e; rw [h4.len]; exact e
  · exact h5.elim
theorem chain_post {G : Gm} {Γ : Type} {YL : YLT Γ} {EN : Hp → Γ → Prop} {ρ : Ev} : ∀ (ys : List Yi) (B : List Addr) (H : Hp) (γ : Γ), Chain G.K G.ca YL EN ys B H γ → PostGn G { nx := fun _ _ H' γ' => EN H' γ', rt := fun _ v H' γ' => v = .non ∧ EN H' γ', yl := YL } ys (.nx ρ) ⟨H, [], B⟩ [] H ys.length γ
  | [], B, H, γ, h => fun ω' σ' H' ee _ => h H' fun a o q => ee.keep a o q (ni a) (ni a)
  | y :: ys, B, H, γ, h => ⟨ys.length, rfl, fun x H' κ k1 _ rv hκ => h x H' κ (fun a o q => k1 a o q (ni a)) (rv.mono fun a z => z.elim id fun z => absurd z (ni a)) fun H'' γ' B'' kk ch => hκ H'' γ' B'' kk (chain_post ys B'' H'' γ' ch)⟩
theorem runG_ok {N P : List Str} {t : (Γ : Type) → TGm Γ} {b : GbF} {E : XK} (hb : SGB ⟨K, ca, none, none⟩ (fun cls d _ H => E cls d H) t b) {Γ : Type} {vs : List V} {H : Hp} {γ : Γ} {YL : YLT Γ} {EN : Hp → Γ → Prop} (h : SpGF K ca (runG N.length P.length b) Γ vs H γ YL EN E) :
    ∃ n, t Γ { nx := fun _ _ H' γ' => EN H' γ', rt := fun _ v H' γ' => v = .non ∧ EN H' γ', yl := YL } n (L2.start N vs) H γ := by
  obtain ⟨B, ds, h2, h4, h5⟩ := h
  unfold runG at h5
  split at h5
  · rename_i el
    have rel : Rel ⟨K, ca, none, none⟩ ⟨H, [], B⟩ [] [] (ds.map .val ++ List.replicate (N.length - ds.length) .no) [] (L2.start N vs) H := start_rel (ι := []) List.nodup_nil (fun b hb => ⟨h2 b hb, ni b⟩) ⟨rfl, fun k a c q => (nomatch q)⟩ h4
    rw [el] at rel
    cases e : b (ds.map .val ++ List.replicate (N.length - P.length) .no) with
    | go ys r =>
      rw [e] at h5
      cases r with
      | nx ρ' => exact ⟨ys.length, hb Γ ⟨H, [], B⟩ _ _ γ [] _ _ H rfl rel (by rw [e]; exact chain_post (G := ⟨K, ca, none, none⟩) ys B H γ h5)⟩
      | bk ρ' => exact False.elim h5
      | ct ρ' => exact False.elim h5
      | bad => exact False.elim h5
    | xc c fs =>
      rw [e] at h5
      exact ⟨0, hb Γ ⟨H, [], B⟩ _ _ γ [] _ _ H rfl rel (by
        rw [e]
        intro ω' ρ' σ' dd fv H' ee rel' n2 xd rf
        refine h5 dd fv H' ⟨List.prefix_rfl, fun a o q _ => ee.keep a o q (ni a) (ni a), fun a q => absurd q (ni a), ee.dom⟩ (n2.less fun a z => List.mem_append_left _ z) xd (rf.per (Per.less fun a z => List.mem_append_left _ z)))⟩
    | bad => rw [e] at h5; exact False.elim h5
  · exact h5.elim
end
section
variable {G : Gm} {E : WX}
theorem chain_loop {tg : TG} {fg : FG} {js : List Nat} {tb : TS} {fb : FS} (hg : SG G tg js fg) (hb : SS G NoE tb fb) {F : Fr} {D : Ends} : ∀ (ys : List Yi) (ι ω : List Addr) (ρ : Ev) (S : Sto) (σ : L2.St) (H : Hp), Rel G F ι ω ρ S σ H → PostS G E F D ι ω H (loopS none fg (sNoX fb) (ys.map Prod.fst) ρ S) →
    Chain G.K G.ca (ylF tg tb D) (fun H' σ' => D.nx σ' H') ys (ι ++ (F.B0 ++ ω)) H σ
  | [], ι, ω, ρ, S, σ, H, rel, h => fun H' gr => by
    rw [List.map_nil, loop_end (g := none) trivial] at h
    exact h ι ω σ H' (Ext.gr gr).s (rel.gr gr)
  | d :: ys, ι, ω, ρ, S, σ, H, rel, h => fun x H' κ gr rv hκ => by
    have r2 := rel.gr gr
    have x2 : ExtS ι ω H ι ω H' := (Ext.gr gr).s
    have rv2 : RV G.K G.ca ι (F.B0 ++ ω) H' x d.1 := rv.rv.per Per.open
    rw [List.map_cons] at h
    unfold loopS at h
    rw [if_pos (show gOk none S from trivial)] at h
    refine hg F ι ω ρ S σ H' x d.1 _ r2 rv2 ?_
    cases eg : fg d.1 ρ S with
    | none => rw [eg] at h; exact False.elim h
    | some ρ1 =>
      rw [eg] at h
      dsimp only at h
      intro σ1 rel1 _
      refine hb F _ ι ω ρ1 S σ1 H' rel1 ?_
      have next : ∀ ρ2 S2, PostS G E F D ι ω H (loopS none fg (sNoX fb) (ys.map Prod.fst) ρ2 S2) → ∀ ι' ω' σ' H2, ExtS ι ω H' ι' ω' H2 → Rel G F ι' ω' ρ2 S2 σ' H2 → κ H2 σ' := fun ρ2 S2 hp ι' ω' σ' H2 ee rel' => by
        refine hκ H2 σ' (ι' ++ (F.B0 ++ ω')) ⟨fun a o q1 q2 => ?_, fun b hb' => ?_⟩ (chain_loop hg hb ys ι' ω' ρ2 S2 σ' H2 rel' (PostS.ex hp (x2.trans ee)))
        · have q2' : a ∉ ι ++ (F.B0 ++ ω) := fun z => q2 (List.mem_append_right _ z)
          rw [List.mem_append, not_or] at q2'
          obtain ⟨z1, z2, z3⟩ := (ee.per (B := F.B0)).at' a o q1 q2'.1 q2'.2
          exact ⟨z1, nin z2 z3⟩
        · rcases List.mem_append.mp hb' with z | z
          · exact rel'.sto.here b z
          · exact rel'.bd b z
      unfold sNoX at h
      cases eb : fb ρ1 S with
      | nx ρ2 S2 => rw [eb] at h; exact next ρ2 S2 h
      | ct ρ2 S2 => rw [eb] at h; exact next ρ2 S2 h
      | bk ρ2 S2 =>
        rw [eb] at h
        exact fun ι' ω' σ' H2 ee rel' => h ι' ω' σ' H2 (x2.trans ee) rel'
      | rt d' fl S2 => rw [eb] at h; exact h
      | xc c fs ρ2 S2 => rw [eb] at h; exact False.elim h
      | bad => rw [eb] at h; exact False.elim h
theorem runG_arity {n m : Nat} {b : GbF} : ∀ ds, runG n m b ds ≠ .bad → ds.length = m := fun ds h => by
  unfold runG at h
  split at h
  · assumption
  · exact absurd rfl h
end
end
end Fx
namespace U
open PySem PySem.Spec PyProof.Rows L2
end U
namespace Fx
open PySem PySem.Spec PyProof.Rows L2 U
noncomputable section
section
variable {G : Gm} {E : WX}
abbrev LpF := List Yi → Ev → Sto → RSt
def lpT (fg : FG) (fb : FS) : LpF := fun ys ρ S => loopS none fg (sNoX fb) (ys.map Prod.fst) ρ S
def LpOk (G : Gm) (E : WX) (tg : TG) (tb : TS) (lp : LpF) : Prop := ∀ (F : Fr) (D : Ends) (ys : List Yi) (ι ω : List Addr) (ρ : Ev) (S : Sto) (σ : L2.St) (H : Hp), Rel G F ι ω ρ S σ H → PostS G E F D ι ω H (lp ys ρ S) → Chain G.K G.ca (ylF tg tb D) (fun H' σ' => D.nx σ' H') ys (ι ++ (F.B0 ++ ω)) H σ
theorem lp_t {tg : TG} {fg : FG} {js : List Nat} {tb : TS} {fb : FS} (hg : SG G tg js fg) (hb : SS G NoE tb fb) : LpOk G E tg tb (lpT fg fb) := fun F D ys ι ω ρ S σ H rel h => chain_loop hg hb ys ι ω ρ S σ H rel h
def kLp (cs : List Nat) (lp : LpF) (ρ : Ev) (S : Sto) (r : RGn) : RSt := match r with
  | .ok ys => lp ys ρ S
  | .xc c fs => if cs.elem c = true then .xc c fs ρ S else .bad
  | .bad => .bad
theorem lp_sound {cs : List Nat} (hn : ∀ c ∈ cs, PySem.W.subIn G.K (.ref (G.ca c)) (.type "StopIteration") = some false) {f : FGf} {tg : TG} {tb : TS} {lp : LpF} (hl : LpOk G E tg tb lp) {F : Fr} {D : Ends} {ι ω : List Addr} {ρ : Ev} {S : Sto} {σ : L2.St} {H : Hp} {vs : List V} {ds : List Fx.D}
    (rel : Rel G F ι ω ρ S σ H) (ra : RAll G.K G.ca ι (F.B0 ++ ω) H vs ds) (hc : noCels ds = true) (h : PostS G E F D ι ω H (kLp cs lp ρ S (f ds))) :
    SpGF G.K G.ca f L2.St vs H σ (ylF tg tb D) (fun H' σ' => D.nx σ' H') (WE (NSt G.K E) σ) := by
  refine ⟨ι ++ (F.B0 ++ ω), ds, fun b hb' => (List.mem_append.mp hb').elim (rel.sto.here b) (rel.bd b), RAll.close ds hc ra, ?_⟩
  unfold kLp at h
  cases e : f ds with
  | ok ys => rw [e] at h; exact hl F D ys ι ω ρ S σ H rel h
  | xc c fs =>
    rw [e] at h
    dsimp only at h
    split at h
    · rename_i hcs
      intro dd fv H' ee n2 xd rf
      have gr : ∀ a o, H a = some o → H' a = some o := fun a o q => ee.keep a o q (ni a)
      exact ⟨h ι ω σ dd fv H' (Ext.gr gr).s (rel.gr gr) (n2.less fun a z => List.mem_append_left _ z) (n2.less fun a z => List.mem_append_right _ z) xd (rf.per Per.open), hn c (List.elem_iff.mp hcs)⟩
    · exact False.elim h
  | bad => rw [e] at h; exact False.elim h
end
end
end Fx
namespace U
open PySem PySem.Spec PyProof.Rows L2
end U
namespace Fx
open PySem PySem.Spec PyProof.Rows L2 U
end Fx
namespace DsS
open PySem PySem.Spec PyProof.Rows
def addN (σ : List Str) (z : Str) : List Str := if z ∈ σ then σ else σ ++ [z]
theorem addN_mem (σ : List Str) (z y : Str) : y ∈ addN σ z ↔ y ∈ σ ∨ y = z := by
  unfold addN
  split
  · rename_i h
    exact ⟨.inl, fun q => q.elim id fun e => e ▸ h⟩
  · simp
theorem addN_len (σ : List Str) (z : Str) : (addN σ z).length ≤ σ.length + 1 := by
  unfold addN
  split
  · omega
  · rw [List.length_append]; exact Nat.le_refl _
/-- the set at D holds these texts -/
abbrev HasS (prog : Program) (w : World) (h : Heap) (D : Addr) (σ : List Str) : Prop := h.SetOf (PySem.strKind prog w) D (fun y => decide (y ∈ σ)) σ.length
section
variable {prog : Program} {w : World} {A : Around} {R : Result → Shared → Prop} {J : Addr} {fp wr : List Addr} {G : Array GenState → Array GenState → Prop} {n : Nat} {P : Nat → Value → Prop} {St : Nat → Shared → Prop}
theorem HasS.move {h h' : Heap} {D : Addr} {σ : List Str} (x : HasS prog w h D σ) (k : ∀ o, h.get? D = some o → h'.get? D = some o) : HasS prog w h' D σ := by
  obtain ⟨o, es, ep, t, ho, r⟩ := x
  exact ⟨o, es, ep, t, k o ho, r⟩
theorem HasS.add {h : Heap} {D : Addr} {σ : List Str} {z : Str} (x : h.SetOf (PySem.strKind prog w) D (fun y => decide (y ∈ σ) || decide (y = z)) (if decide (z ∈ σ) = true then σ.length else σ.length + 1)) : HasS prog w h D (addN σ z) :=
  SetOf_congr x (fun y => by rw [← Bool.decide_or]; exact decide_eq_decide.mpr (addN_mem σ z y).symm) (by
    unfold addN
    by_cases q : z ∈ σ
    · rw [if_pos (decide_eq_true q), if_pos q]
    · rw [if_neg (by simpa using q), if_neg q, List.length_append]; rfl)
/-- the turns that are left -/
theorem feed (W : WalksS prog w A.in1 J fp wr G n P St) {D : Addr} (hD : D ∉ fp) (txt : Nat → Str) (hv : ∀ i v, P i v → ∃ t, v = .str (txt i) t) :
    ∀ (r i : Nat) (σ : List Str) (s : Shared), i + r = n → σ.length + r + 1 < scanBound → St i s → HasS prog w s.heap D σ → (∀ s', Moved (D :: wr) G s s' → HasS prog w s'.heap D (((List.range' i r).map txt).foldl addN σ) → R (.ok (.ret .none)) s') →
      codeAny (model prog w) A (.builtin "set.update.loop" ⟨[.ref D, .ref J], []⟩) R s := by
  have out : D ∉ wr := fun q => hD (W.sub _ q)
  intro r
  induction r with
  | zero =>
    intro i σ s e _ hst hs fin
    obtain rfl : i = n := e
    refine codeAny_builtin F.entry_set_update_loop ?_
    rw [Around.under_plainId F.plain_set_update_loop _]
    show wpAny _ A.in1 (pyNext (.ref J) >>= _) _ _ s
    refine wpAny_bind (W.done s _ _ hst fun t mv => ?_)
    show wpAny _ A.in1 (ret Value.none) _ _ t
    exact wpAny_pure (fin t (mv.mono fun b q => List.mem_cons_of_mem _ q) (hs.move fun o q => mv.heap D o out q))
  | succ r ih =>
    intro i σ s e hr hst hs fin
    refine codeAny_builtin F.entry_set_update_loop ?_
    rw [Around.under_plainId F.plain_set_update_loop _]
    show wpAny _ A.in1 (pyNext (.ref J) >>= _) _ _ s
    refine wpAny_bind (W.item i s _ _ (by omega) hst fun v t hp hst' mv => ?_)
    obtain ⟨k, rfl⟩ := hv i v hp
    show wpAny _ A.in1 (holding [Value.str (txt i) k] (setAdd D (.str (txt i) k)) >>= _) _ _ t
    refine wpAny_bind (wpAny_holding ?_)
    unfold setAdd
    refine wpAny_holding (wpAny_bind ((PySem.strKind prog w).pyHash (k := txt i) (strKind_is _ _ _ _) ?_))
    refine wpAny_setAddHashed_of (knd := PySem.strKind prog w) (s := { t with toks := t.toks + 1 }) (strKind_is _ _ _ _) rfl (hs.move fun o q => mv.heap D o out q) (by omega) fun h2 same x => ?_
    have len := addN_len σ (txt i)
    refine wpAny_pure ⟨plainId_quiet F.plain_set_update_loop _, ih (i + 1) (addN σ (txt i)) _ (by omega) (by omega) (W.frame _ t _ _ hst' (Nat.le_succ _) fun b q o z => ?_) (HasS.add x) fun u mv2 hs2 => ?_⟩
    · rw [same.2 b fun z => hD (z ▸ q)]; exact z
    · refine fin u (Moved.trans W.gtrans ((mv.mono fun b q => List.mem_cons_of_mem _ q).then_heap (Nat.le_succ _) fun b o q z => ?_) mv2) hs2
      rw [same.2 b fun z => q (z ▸ List.mem_cons_self)]; exact z
end
def ddS (ws : List Str) : List Str := ws.foldl addN []
/-- a set that is made -/
abbrev emp (b : Bool) : Obj := { cls := .type "set", dict := none, data := .set #[] 0 (.fresh 0 0 b) }
theorem all_texts (xs : List Str) : (List.range' 0 xs.length).map (fun i => xs.getD i Str.empty) = xs := by
  refine List.ext_getElem (by simp) fun i h1 h2 => ?_
  simp only [List.getElem_map, List.getElem_range', List.getD_eq_getElem?_getD]
  rw [Nat.zero_add, Nat.one_mul, List.getElem?_eq_getElem h2]
  rfl
section
variable {prog : Program} {w : World} {A : Around} {E : Value → Shared → Prop} {s : Shared}
set_option maxHeartbeats 3200000 in
/-- set(l), l a list -/
theorem set_list {l : Addr} {us : Array Value} {xs : List Str} {Q : Value → Shared → Prop} (calm : A.handled = none) (hl : s.heap.IsList l us) (hx : StrsAre us.toList xs) (hb : xs.length + 1 < scanBound)
    (fin : ∀ (h : Heap) (k : Nat), HasS prog w h s.heap.objs.size (ddS xs) → (∀ b o, b < s.heap.objs.size → s.heap.get? b = some o → h.get? b = some o) → Q (.ref s.heap.objs.size) { s with heap := h, toks := k }) :
    wpAny (model prog w) A (call (.type "set") [.ref l]) Q E s := by
  have made := PySem.F.called_set.made
  have below := PySem.F.called_set.sub
  obtain ⟨_, _, road⟩ := PySem.F.called_set.mro
  refine wpAny_call (codeAny_of_tree ?_)
  show wpAny _ _ (callAny (.type "set") _) _ _ _
  refine wpAny_pure ⟨Code.quiet_builtin _ (by decide +kernel), codeAny_builtin PySem.F.entry_type_call ?_⟩
  rw [Around.under_plain (weight_type_call_type "set" [.ref l] []) rfl]
  have kind1 := PySem.F.called_set.notType
  have kind2 := PySem.F.called_set.canCreate
  have okc := PySem.F.typeCall_set_1 (.ref l)
  repeat (any_goals (first | assumption | wp_step))

  refine codeAny_mono (code_set_new_1 (.ref l) (E := E) (Q₁ := fun d t => ∃ b : Bool, d = .ref s.heap.objs.size ∧ t = { s with heap := s.heap.push (emp b) }) fun b => ⟨b, rfl, rfl⟩) fun r t hr => ?_
  match r, hr with
  | .error _, hr => exact hr
  | .ok (.ret d), hr =>
    obtain ⟨b, rfl, rfl⟩ := hr
    have new : (s.heap.push (emp b)).get? s.heap.objs.size = some (emp b) := Heap.get?_push_size _ rfl
    have isS : Shared.TypeIs { s with heap := s.heap.push (emp b) } (.ref s.heap.objs.size) "set" := ⟨_, new, rfl⟩
    have found := PySem.F.called_set.init.lookup
    have bound := PySem.F.called_set.init.bind (.ref s.heap.objs.size)
    repeat (any_goals (first | assumption | wp_step))

    refine codeAny_mono (codeAny_call_builtin (R := wants (fun v t => v = .none ∧ ∃ h k, t = { s with heap := h, toks := k } ∧ HasS prog w h s.heap.objs.size (ddS xs) ∧ ∀ b o, b < s.heap.objs.size → s.heap.get? b = some o → h.get? b = some o) E) PySem.F.called_set.init.plain PySem.F.entry_set_init (check_set_init_1 isS ?_)) fun r t hr => ?_
    · obtain ⟨⟨c, dd, dt, sl⟩, ho, hc, m, hd⟩ := hl
      simp only at hc hd
      subst hc; subst hd
      have ho2 : (s.heap.push (emp b)).get? l = some { cls := .type "list", dict := dd, data := .seq us m, slots := sl } := Heap.get?_push_of_some _ ho
      have isL : (s.heap.push (emp b)).IsList l us := ⟨_, ho2, rfl, m, rfl⟩
      have no1 := PySem.F.sub_list_set
      have no2 := PySem.F.sub_list_frozenset
      have no3 : (Value.type "list" == Value.type "dict") = false := by decide
      unfold Builtin.«set.__init__» noKeywords Builtin.Frozenset.updateFrom
      generalize itr : pyIter = it
      wp_walk
      subst itr

      have old : l < s.heap.objs.size := Heap.lt_size ho
      refine wpAny_pyIter_list isL ?_
      refine wpAny_bind (wpAny_runValue ?_)
      have ne : l ≠ (s.heap.push (emp b)).objs.size := by rw [Heap.size_push]; exact Nat.ne_of_lt (Nat.lt_succ_of_lt old)
      have away : s.heap.objs.size ∉ [(s.heap.push (emp b)).objs.size, l] := by
        rw [Heap.size_push]
        simp only [List.mem_cons, List.not_mem_nil, or_false, not_or]
        exact ⟨Nat.ne_of_lt (Nat.lt_succ_self _), Nat.ne_of_gt old⟩
      have size : xs.length = us.size := by rw [← StrsAre.len_eq hx, Array.length_toList]
      have all : ((List.range' 0 us.size).map fun i => xs.getD i Str.empty).foldl addN [] = ddS xs := by rw [← size, all_texts]; rfl
      refine feed (n := us.size) ((Walks.list (by simp [calm]) _ l ne us).toS) away (fun i => xs.getD i Str.empty) (fun i v hv => SS.strs_at hx i v (by rw [Array.getElem?_toList]; exact hv)) us.size 0 [] _ (Nat.zero_add _) (by rw [← size]; simpa using hb) ⟨⟨_, Heap.get?_push_size _ rfl, rfl, rfl⟩, isL.push _⟩ ?_ ?_
      · exact SetOf_congr ((setObjOf_fresh (knd := PySem.strKind prog w) b).setOf (Heap.get?_push_of_some _ new) (by unfold scanBound; omega)) (fun _ => rfl) rfl
      · intro t mv hs
        rw [all] at hs
        obtain ⟨h, g, d, k, os⟩ := t
        obtain rfl : g = s.gens := mv.gens
        obtain rfl : d = s.drawn := mv.drawn
        obtain rfl : os = s.os := mv.os
        show wpAny _ _ _ _ _ _
        refine wpAny_pure ?_
        show wpAny _ _ (ret Value.none) _ _ _
        refine wpAny_pure ⟨rfl, h, k, rfl, hs, fun a o ha e => mv.heap a o ?_ (Heap.get?_push_of_some _ (Heap.get?_push_of_some _ e))⟩
        rw [Heap.size_push]
        simp only [List.mem_cons, List.not_mem_nil, or_false, not_or]
        exact ⟨Nat.ne_of_lt ha, Nat.ne_of_lt (Nat.lt_succ_of_lt ha)⟩

    · match r, hr with
      | .error _, hr => exact hr
      | .ok (.ret v), hr =>
        obtain ⟨rfl, h, k, rfl, hs, keep⟩ := hr
        repeat (any_goals (first | assumption | wp_step))
        exact fin h k hs keep
      | .ok .next, hr => exact hr.elim
      | .ok .brk, hr => exact hr.elim
      | .ok .cont, hr => exact hr.elim
  | .ok .next, hr => exact hr.elim
  | .ok .brk, hr => exact hr.elim
  | .ok .cont, hr => exact hr.elim
end
section
variable {prog : Program} {w : World} {A : Around} {E : Value → Shared → Prop} {s : Shared}
set_option maxHeartbeats 3200000 in
/-- set(l), l a tuple -/
theorem set_tuple {l : Addr} {us : Array Value} {xs : List Str} {Q : Value → Shared → Prop} (calm : A.handled = none) (hl : s.heap.IsTuple l us) (hx : StrsAre us.toList xs) (hb : xs.length + 1 < scanBound)
    (fin : ∀ (h : Heap) (k : Nat), HasS prog w h s.heap.objs.size (ddS xs) → (∀ b o, b < s.heap.objs.size → s.heap.get? b = some o → h.get? b = some o) → Q (.ref s.heap.objs.size) { s with heap := h, toks := k }) :
    wpAny (model prog w) A (call (.type "set") [.ref l]) Q E s := by
  have made := PySem.F.called_set.made
  have below := PySem.F.called_set.sub
  obtain ⟨_, _, road⟩ := PySem.F.called_set.mro
  refine wpAny_call (codeAny_of_tree ?_)
  show wpAny _ _ (callAny (.type "set") _) _ _ _
  refine wpAny_pure ⟨Code.quiet_builtin _ (by decide +kernel), codeAny_builtin PySem.F.entry_type_call ?_⟩
  rw [Around.under_plain (weight_type_call_type "set" [.ref l] []) rfl]
  have kind1 := PySem.F.called_set.notType
  have kind2 := PySem.F.called_set.canCreate
  have okc := PySem.F.typeCall_set_1 (.ref l)
  repeat (any_goals (first | assumption | wp_step))

  refine codeAny_mono (code_set_new_1 (.ref l) (E := E) (Q₁ := fun d t => ∃ b : Bool, d = .ref s.heap.objs.size ∧ t = { s with heap := s.heap.push (emp b) }) fun b => ⟨b, rfl, rfl⟩) fun r t hr => ?_
  match r, hr with
  | .error _, hr => exact hr
  | .ok (.ret d), hr =>
    obtain ⟨b, rfl, rfl⟩ := hr
    have new : (s.heap.push (emp b)).get? s.heap.objs.size = some (emp b) := Heap.get?_push_size _ rfl
    have isS : Shared.TypeIs { s with heap := s.heap.push (emp b) } (.ref s.heap.objs.size) "set" := ⟨_, new, rfl⟩
    have found := PySem.F.called_set.init.lookup
    have bound := PySem.F.called_set.init.bind (.ref s.heap.objs.size)
    repeat (any_goals (first | assumption | wp_step))

    refine codeAny_mono (codeAny_call_builtin (R := wants (fun v t => v = .none ∧ ∃ h k, t = { s with heap := h, toks := k } ∧ HasS prog w h s.heap.objs.size (ddS xs) ∧ ∀ b o, b < s.heap.objs.size → s.heap.get? b = some o → h.get? b = some o) E) PySem.F.called_set.init.plain PySem.F.entry_set_init (check_set_init_1 isS ?_)) fun r t hr => ?_
    · obtain ⟨⟨c, dd, dt, sl⟩, ho, hc, m, hd⟩ := hl
      simp only at hc hd
      subst hc; subst hd
      have ho2 : (s.heap.push (emp b)).get? l = some { cls := .type "tuple", dict := dd, data := .seq us m, slots := sl } := Heap.get?_push_of_some _ ho
      have isL : (s.heap.push (emp b)).IsTuple l us := ⟨_, ho2, rfl, m, rfl⟩
      have no1 := PySem.F.sub_tuple_set
      have no2 := PySem.F.sub_tuple_frozenset
      have no3 : (Value.type "tuple" == Value.type "dict") = false := by decide
      unfold Builtin.«set.__init__» noKeywords Builtin.Frozenset.updateFrom
      generalize itr : pyIter = it
      wp_walk
      subst itr

      have old : l < s.heap.objs.size := Heap.lt_size ho
      refine wpAny_pyIter_tuple isL ?_
      refine wpAny_bind (wpAny_runValue ?_)
      have ne : l ≠ (s.heap.push (emp b)).objs.size := by rw [Heap.size_push]; exact Nat.ne_of_lt (Nat.lt_succ_of_lt old)
      have away : s.heap.objs.size ∉ [(s.heap.push (emp b)).objs.size, l] := by
        rw [Heap.size_push]
        simp only [List.mem_cons, List.not_mem_nil, or_false, not_or]
        exact ⟨Nat.ne_of_lt (Nat.lt_succ_self _), Nat.ne_of_gt old⟩
      have size : xs.length = us.size := by rw [← StrsAre.len_eq hx, Array.length_toList]
      have all : ((List.range' 0 us.size).map fun i => xs.getD i Str.empty).foldl addN [] = ddS xs := by rw [← size, all_texts]; rfl
      refine feed (n := us.size) ((Walks.tuple (by simp [calm]) _ l ne us).toS) away (fun i => xs.getD i Str.empty) (fun i v hv => SS.strs_at hx i v (by rw [Array.getElem?_toList]; exact hv)) us.size 0 [] _ (Nat.zero_add _) (by rw [← size]; simpa using hb) ⟨⟨_, Heap.get?_push_size _ rfl, rfl, rfl⟩, isL.push _⟩ ?_ ?_
      · exact SetOf_congr ((setObjOf_fresh (knd := PySem.strKind prog w) b).setOf (Heap.get?_push_of_some _ new) (by unfold scanBound; omega)) (fun _ => rfl) rfl
      · intro t mv hs
        rw [all] at hs
        obtain ⟨h, g, d, k, os⟩ := t
        obtain rfl : g = s.gens := mv.gens
        obtain rfl : d = s.drawn := mv.drawn
        obtain rfl : os = s.os := mv.os
        show wpAny _ _ _ _ _ _
        refine wpAny_pure ?_
        show wpAny _ _ (ret Value.none) _ _ _
        refine wpAny_pure ⟨rfl, h, k, rfl, hs, fun a o ha e => mv.heap a o ?_ (Heap.get?_push_of_some _ (Heap.get?_push_of_some _ e))⟩
        rw [Heap.size_push]
        simp only [List.mem_cons, List.not_mem_nil, or_false, not_or]
        exact ⟨Nat.ne_of_lt ha, Nat.ne_of_lt (Nat.lt_succ_of_lt ha)⟩

    · match r, hr with
      | .error _, hr => exact hr
      | .ok (.ret v), hr =>
        obtain ⟨rfl, h, k, rfl, hs, keep⟩ := hr
        repeat (any_goals (first | assumption | wp_step))
        exact fin h k hs keep
      | .ok .next, hr => exact hr.elim
      | .ok .brk, hr => exact hr.elim
      | .ok .cont, hr => exact hr.elim
  | .ok .next, hr => exact hr.elim
  | .ok .brk, hr => exact hr.elim
  | .ok .cont, hr => exact hr.elim
end
end DsS
namespace U
open PySem PySem.Spec PyProof.Rows L2
def tLenD (K : PySem.W.Frag) (ta : TE) : TE := fun σ H Q => ta σ H fun x H1 => ∃ (l : Addr) (xs : List Str), x = .ref l ∧ (SqL K H1 l (xs.map V.str) ∨ SqT K H1 l (xs.map V.str)) ∧ xs.length ≤ 3000 ∧ Q (.int ((DsS.ddS xs).length : Nat)) H1
theorem addN_le (σ : List Str) (ws : List Str) : (ws.foldl DsS.addN σ).length ≤ σ.length + ws.length := by
  induction ws generalizing σ with
  | nil => exact Nat.le_refl _
  | cons w ws ih =>
    have h1 := ih (DsS.addN σ w)
    have h2 := DsS.addN_len σ w
    rw [List.foldl_cons, List.length_cons]
    omega
section
variable {X : Cx}
theorem pe_lenD {a : Expr} {ta : TE} {p p2 q pos : Pos} (calm : X.calm = true) (g1 : Gl X "len") (m1 : X.mg "len" = none) (g2 : Gl X "set") (m2 : X.mg "set" = none) (ha : PE X a ta)
    (one : starEach [a] X.env = (false, eval a X.env) :: starEach [] X.env := by rfl) : PE X (.Call (.Name "len" p) [.Call (.Name "set" p2) [a] [] q] [] pos) (tLenD X.K ta) := by
  refine ⟨fun pins s σ H Q I h => ?_⟩
  refine Call_ (ld_blt I g1 m1 boot_len (PyProof.Rows.callWith_builtin1 (PyProof.Rows.args_cons ?_ rfl) rfl rfl))
  refine Call_ (ld_blt I g2 m2 boot_set (PyProof.Rows.callWith_type1 (PyProof.Rows.args_cons ?_ one) one rfl))
  refine thn (ha.run pins s σ H _ I h) fun v t ⟨x, H1, I1, rx, hx⟩ => PyProof.Rows.args_nil ?_
  obtain ⟨l, xs, rfl, sq, hl, q1⟩ := hx
  obtain rfl : v = Value.ref l := rx
  have bound : xs.length + 1 < scanBound := by unfold scanBound; omega
  have few := addN_le [] xs
  rw [List.length_nil] at few
  have last : ∀ (h : Heap) (k : Nat), DsS.HasS X.prog X.w h t.heap.objs.size (DsS.ddS xs) → (∀ b o, b < t.heap.objs.size → t.heap.get? b = some o → h.get? b = some o) →
      wpAny (model X.prog X.w) X.A (spliced (backTo pos (starEach [] X.env))) (fun vs u => wpAny (model X.prog X.w) X.A (call (.builtin "len") (Value.ref t.heap.objs.size :: vs)) (EP X pins σ Q) X.xe u) X.xe { t with heap := h, toks := k } := fun h k hs keep => by
    obtain ⟨o, es, ep, tb, ho, ex, hd, _, _, _, hf, hn⟩ := hs
    have I2 : Inv X pins σ H1 { t with heap := h, toks := k } := I1.kept fun b o e => keep b o (Heap.lt_size e) e
    refine PyProof.Rows.args_nil (call_len_set ho ex hd hf ?_ ⟨.int ((DsS.ddS xs).length : Nat), H1, I2.tok _, ⟨_, by rw [hn]⟩, q1⟩)
    rw [hn]
    have : (DsS.ddS xs).length ≤ 3000 := Nat.le_trans few (by omega)
    omega
  rcases sq with sq | sq
  · obtain ⟨us, r, pl, _⟩ := I1.list sq
    exact DsS.set_list (I1.ok.hd calm) pl.isList (by simpa using strsAre_of r) bound last
  · obtain ⟨us, r, pl, _⟩ := I1.tuple sq
    exact DsS.set_tuple (I1.ok.hd calm) pl (by simpa using strsAre_of r) bound last
end
end U
namespace Fx
open PySem PySem.Spec PyProof.Rows L2 U
noncomputable section
def kLenD (d : D) (_ : Fl) (S : Sto) : RE := match sqOf S d with
  | some ds => (match strsD ds with
    | some ys => if ys.length ≤ 3000 then .ok (.int ((DsS.ddS ys).length : Nat)) .tr S else .bad
    | none => .bad)
  | none => .bad
def fLenD (fe : FE) : FE := fun ρ S => bE (fe ρ S) kLenD
section
variable {G : Gm} {E : WX}
theorem se_lenD {te : TE} {fe : FE} (he : SE G E te fe) : SE G E (tLenD G.K te) (fLenD fe) := by
  intro F ι ω ρ S σ H Q rel h
  refine he.bind rel h fun d f S1 ι1 v H1 x1 r1 rf h1 => ?_
  unfold kLenD at h1
  split at h1
  · rename_i ds ed
    split at h1
    · rename_i ys ey
      split at h1
      · rename_i hl
        obtain ⟨a, xs, rfl, q2, q3⟩ := sq_at r1.sto rf.rt ed
        obtain rfl := strs_rv q3 ey
        exact ⟨a, ys, rfl, q2, hl, PostE.now h1 r1 (.int _)⟩
      · exact h1.elim
    · exact h1.elim
  · exact h1.elim
end
theorem v_lenD {fe : FE} {ρ : Ev} {S : Sto} : fLenD fe ρ S = bE (fe ρ S) kLenD := rfl
theorem d_lenD {d : D} {f : Fl} {S : Sto} {ys : List Str} {ds : List D} (h : sqOf S d = some ds) (e : strsD ds = some ys) (hl : ys.length ≤ 3000) : kLenD d f S = .ok (.int ((DsS.ddS ys).length : Nat)) .tr S := by
  unfold kLenD
  rw [h]
  dsimp only
  rw [e]
  dsimp only
  rw [if_pos hl]
end
end Fx
namespace Fx
open PySem PySem.Spec PyProof.Rows L2 U
noncomputable section
/-- the first stretch, when it ends in an exception -/
def SGR (G : Gm) (E : WX) (t : (Γ : Type) → TGm Γ) (b : FS) : Prop := ∀ (Γ : Type) (F : Fr) (D : GEn Γ) (n : Nat) (γ : Γ) (ι ω : List Addr) (ρ : Ev) (S : Sto) (σ : L2.St) (H : Hp), Rel G F ι ω ρ S σ H → PostS G E F NoEnds ι ω H (b ρ S) → t Γ D n σ H γ
section
variable {G : Gm} {E : WX}
theorem sgr_stop {t : (Γ : Type) → TGm Γ} : SGR G E t sStop := fun Γ F D n γ ι ω ρ S σ H rel h => False.elim h
theorem sgr_cons {t : TS} {u : (Γ : Type) → TGm Γ} {f g : FS} (ht : SS G E t f) (hu : SGR G E u g) : SGR G E (fun Γ => tGSeq (tPl t) (u Γ)) (sSeq f g) := by
  intro Γ F D n γ ι ω ρ S σ H rel h
  refine ht F _ ι ω ρ S σ H rel ?_
  unfold sSeq at h
  cases e : f ρ S with
  | nx ρ' S' =>
    rw [e] at h
    exact fun ι' ω' σ' H' ee rel' => hu Γ F D n γ ι' ω' ρ' S' σ' H' rel' (PostS.ex h ee)
  | xc c fs ρ' S' => rw [e] at h; exact h
  | bk ρ' S' => rw [e] at h; exact fun ι' ω' σ' H' ee rel' => False.elim (h ι' ω' σ' H' ee rel')
  | ct ρ' S' => rw [e] at h; exact fun ι' ω' σ' H' ee rel' => False.elim (h ι' ω' σ' H' ee rel')
  | rt d fl S' => rw [e] at h; exact fun ι' v H' a b c d => False.elim (h ι' v H' a b c d)
  | bad => rw [e] at h; exact False.elim h
end
def SpGF2 (K : PySem.W.Frag) (ca : Nat → Addr) (f : FGf) (fr : FF) : SpGe := fun Γ vs H γ YL EN E => SpGF K ca f Γ vs H γ YL EN E ∨ SpF K ca fr vs H (fun _ _ => False) E
section
variable {K : PySem.W.Frag} {ca : Nat → Addr}
theorem runG2_len {Γ : Type} {N P : List Str} {b : GbF} {br : FS} {vs : List V} {H : Hp} {γ : Γ} {YL : YLT Γ} {EN : Hp → Γ → Prop} {E : XK} (h : SpGF2 K ca (runG N.length P.length b) (runF N.length P.length br) Γ vs H γ YL EN E) : vs.length = P.length := by
  rcases h with h | ⟨ι, B, S, ds, _, _, _, h4, h5⟩
  · exact runG_len h
  · unfold runF at h5
    split at h5
    · rename_i e; rw [h4.len]; exact e
    · exact h5.elim
theorem runG2_ok {N P : List Str} {t : (Γ : Type) → TGm Γ} {b : GbF} {br : FS} {E : XK} (hb : SGB ⟨K, ca, none, none⟩ (fun cls d _ H => E cls d H) t b) (hr : SGR ⟨K, ca, none, none⟩ (fun cls d _ H => E cls d H) t br) {Γ : Type} {vs : List V} {H : Hp} {γ : Γ} {YL : YLT Γ} {EN : Hp → Γ → Prop}
    (h : SpGF2 K ca (runG N.length P.length b) (runF N.length P.length br) Γ vs H γ YL EN E) :
    ∃ n, t Γ { nx := fun _ _ H' γ' => EN H' γ', rt := fun _ v H' γ' => v = .non ∧ EN H' γ', yl := YL } n (L2.start N vs) H γ := by
  rcases h with h | ⟨ι, B, S, ds, h1, h2, h3, h4, h5⟩
  · exact runG_ok hb h
  · refine ⟨0, ?_⟩
    unfold runF at h5
    split at h5
    · rename_i el
      refine hr Γ ⟨H, ι, B⟩ _ 0 γ ι [] _ S _ H (start_rel h1 h2 h3 h4) ?_
      rw [el]
      cases e : br (ds.map .val ++ List.replicate (N.length - P.length) .no) S with
      | nx ρ' S' =>
        rw [e] at h5
        exact fun ι' ω' σ' H' x r => h5 ι' .non H' r.ext0 r.nd (r.sto.less fun a z => List.mem_append_left _ z) .non
      | rt d f S' => rw [e] at h5; exact h5
      | xc c fs ρ' S' =>
        rw [e] at h5
        exact fun ι' ω' σ' dd fv H' x r n1 n2 g1 g2 => h5 ι' dd fv H' r.ext0 r.nd (r.sto.less fun a z => List.mem_append_left _ z) n1 (n2.less fun a z => List.mem_append_left _ z) g1 (g2.per (Per.less fun a z => List.mem_append_left _ z))
      | bk => rw [e] at h5; exact h5.elim
      | ct => rw [e] at h5; exact h5.elim
      | bad => rw [e] at h5; exact h5.elim
    · exact h5.elim
end
theorem runF_ar {n m : Nat} {b : FS} {ds : List D} {S : Sto} (h : runF n m b ds S ≠ .bad) : ds.length = m := by
  unfold runF at h
  split at h
  · rename_i e; exact e
  · exact absurd rfl h
def kLp2 (cs : List Nat) (ρ : Ev) (r : RE) : RSt := match r with
  | .xc c fs S2 => if cs.elem c = true then .xc c fs ρ S2 else .bad
  | _ => .bad
def sLp2 (cs : List Nat) (f : FGf) (fr : FF) (fa : FA) (lp : LpF) : FS := fun ρ S => match fa ρ S with
  | .ok ds true S1 => if noCels ds = true then kLp cs lp ρ S1 (f ds) else kLp2 cs ρ (fr ds S1)
  | .xc c fs S1 => if cs.elem c = true then .xc c fs ρ S1 else .bad
  | _ => .bad
section
variable {G : Gm} {E : WX}
theorem ss_lp2 {cs : List Nat} (hn : ∀ c ∈ cs, PySem.W.subIn G.K (.ref (G.ca c)) (.type "StopIteration") = some false) {np : Nat} {f : FGf} {fr : FF} (hf : ∀ ds, f ds ≠ .bad → ds.length = np) (hfr : ∀ ds S, fr ds S ≠ .bad → ds.length = np) {ta : TA} {fa : FA} {tg : TG} {tb : TS} {lp : LpF} (ha : SA G (NSt G.K E) ta fa) (hl : LpOk G E tg tb lp) :
    SS G E (tForG (tCallX np (SpGF2 G.K G.ca f fr) (WE (NSt G.K E)) ta) tg tb) (sLp2 cs f fr fa lp) := by
  intro F D ι ω ρ S σ H rel h
  refine ha F ι ω ρ S σ H _ rel ?_
  unfold sLp2 at h
  cases e : fa ρ S with
  | ok ds t S1 =>
    rw [e] at h
    cases t with
    | true =>
      dsimp only at h
      split at h
      · rename_i hc
        intro ι1 vs H1 e1 r1 ra
        have h1 := PostS.ex h e1.s
        refine ⟨?_, .inl (lp_sound hn hl r1 ra hc h1)⟩
        rw [RAll.len ra]
        refine hf ds fun eb => ?_
        rw [eb] at h
        exact False.elim h
      · intro ι1 vs H1 e1 r1 ra
        have h1 := PostS.ex h e1.s
        refine ⟨?_, .inr ?_⟩
        · rw [RAll.len ra]
          refine hfr ds S1 fun eb => ?_
          rw [eb] at h
          exact False.elim h
        · refine spf_of (E := NSt G.K E) (fun _ _ _ z => z) r1 ra ?_
          unfold kLp2 at h1
          cases er : fr ds S1 with
          | ok d fl S2 => rw [er] at h1; exact False.elim h1
          | xc c fs S2 =>
            rw [er] at h1
            dsimp only at h1
            split at h1
            · rename_i hcs
              exact fun ι' dd fv H' ee rel' n1 n2 xd rf => ⟨h1 ι' ω σ dd fv H' ee.s rel' n1 n2 xd rf, hn c (List.elem_iff.mp hcs)⟩
            · exact False.elim h1
          | bad => rw [er] at h1; exact False.elim h1
    | false => exact False.elim h
  | xc c fs S1 =>
    rw [e] at h
    dsimp only at h
    split at h
    · rename_i hcs
      exact fun ι' dd fv H' ee rel' n1 n2 xd rf => ⟨h ι' ω σ dd fv H' ee.s rel' n1 n2 xd rf, hn c (List.elem_iff.mp hcs)⟩
    · exact False.elim h
  | bad => rw [e] at h; exact False.elim h
end
end
end Fx
namespace HotX
open PySem PySem.Spec PyProof.Rows
end HotX
namespace L2M
open PySem PySem.Spec PyProof.Rows L2
/-- the context that an exception bears: None, or an old exception whose context is None -/
def CtxB (B : Heap) (H : Hp) (a : Addr) (v : Option Value) : Prop := v = some .none ∨ ∃ (x : Addr) (o : Obj) (vs : Array Value), v = some (.ref x) ∧ x ≠ a ∧ B.get? x = some o ∧ H x = none ∧ o.data = .fields vs ∧ vs[2]? = some .none
def Zm (B : Heap) (H : Hp) (a : Addr) (cls : Value) (d : Option Addr) : Obj → Prop := fun o => o.cls = cls ∧ o.dict = d ∧ ∀ vs : Array Value, o.data = .fields vs → CtxB B H a vs[2]?
theorem steady_two {Pr : Option Value → Prop} : PXN.Steady1 (fun o => ∀ vs : Array Value, o.data = .fields vs → Pr vs[2]?) := fun o v h => by
  obtain ⟨c, d, dt, sl⟩ := o
  cases dt with
  | fields us =>
    intro vs e
    have e2 : us.setIfInBounds 1 v = vs := Data.fields.inj e
    have e3 : (us.setIfInBounds 1 v)[2]? = us[2]? := by simp [Array.getElem?_setIfInBounds]
    rw [← e2, e3]
    exact h us rfl
  | _ =>
    intro vs e
    cases e
theorem Zm.steady {B : Heap} {H : Hp} {a : Addr} {cls : Value} {d : Option Addr} : PXN.Steady1 (Zm B H a cls d) := fun o v h => ⟨PXN.steady_cls o v h.1, PXN.steady_dict o v h.2.1, steady_two o v h.2.2⟩
/-- behind a call that let an exception out: its context is told -/
def CX (P : Program) (w : World) (outer : List Env) (H : Hp) (s : Shared) (E : XK) (u : Value) (t : Shared) : Prop :=
  ∃ (a : Addr) (B : Heap) (H' : Hp) (cls : Value) (d : Option Addr), u = .ref a ∧ HandSPX.FlyingZ B outer a (Zm B H' a cls d) t.heap ∧ HOk P w H' B ∧ UB (frs outer) H H' s.heap B t.heap ∧ H' a = none ∧ t.os = s.os ∧ AllBare t.gens ∧ E cls d H'
/-- in the air of X -/
def XE (X : Cx) (W : WX) (u : Value) (t : Shared) : Prop :=
  ∃ (a : Addr) (B : Heap) (sI : Shared) (pins : List (Addr × Obj)) (σ : L2.St) (H : Hp) (cls : Value) (d : Option Addr), u = .ref a ∧ Inv X pins σ H sI ∧ (∀ b o, sI.heap.get? b = some o → b ∉ frs X.stack → B.get? b = some o) ∧
    sI.heap.UpToSlots t.heap ∧ Sky B X.stack a (Zm B H a cls d) X.env.locals t.heap ∧ H a = none ∧ t.os = sI.os ∧ AllBare t.gens ∧ W cls d σ H
section
variable {X : Cx} {pins : List (Addr × Obj)} {σ : L2.St} {H : Hp} {sI s t : Shared} {B : Heap} {W : WX} {E : XK}
/-- a new one is in our air -/
theorem XE.new {a : Addr} {oe : Obj} {vs : Array Value} {cls : Value} {d : Option Addr} (I : Inv X pins σ H sI) (k : ∀ b o, sI.heap.get? b = some o → t.heap.get? b = some o) (hne : sI.heap.get? a = none) (he : t.heap.get? a = some oe)
    (hz : Zm (PySem.W.hideAll sI.heap (frs X.stack)) H a cls d oe) (hd : oe.data = .fields vs) (h1 : vs[1]? = some .none) (na : H a = none) (os : t.os = sI.os) (ag : AllBare t.gens) (w : W cls d σ H) : XE X W (.ref a) t := by
  refine ⟨a, PySem.W.hideAll sI.heap (frs X.stack), sI, pins, σ, H, cls, d, rfl, I, fun b o e hb => PySem.W.hideAll_get _ e hb, Heap.UpToSlots.of_keeps k,
    .inl ⟨fun b o e => k b o (PySem.W.of_hideAll _ e), ?_, ?_, oe, vs, he, hz, hd, h1⟩, na, os, ag, w⟩
  · cases q : (PySem.W.hideAll sI.heap (frs X.stack)).get? a with
    | none => rfl
    | some o =>
      have z := PySem.W.of_hideAll _ q
      rw [hne] at z
      cases z
  · exact Heap.FunFrames.of_keeps (fun b o e _ => ⟨o, k b o e, rfl⟩) (funFrames_none I.stack fun b hb => PySem.W.hideAll_none _ hb)
end
end L2M
namespace U
open PySem PySem.Spec PyProof.Rows L2
end U
namespace U
open PySem PySem.Spec PyProof.Rows L2
end U
namespace Lw
open PySem PySem.Spec PyProof.Rows L2 U Fx
noncomputable section
def em_ : Nat → Nat → Option Bool
  | 2, 2 => some true
  | 2, 1 => some false
  | 1, 2 => some false
  | 1, 1 => some true
  | _, _ => none
def xf_ : Nat → Str → Bool
  | 1, f => decide (f = "value")
  | 2, f => decide (f = "value")
  | _, _ => false
def b_is_integer : FS := sRet (fAnd (fIsi .int (fVar 0)) (fAnd (fNot (fIsi .bl (fVar 0))) (fChain dLe dLe (fVar 1) (fVar 0) (fVar 2))))
def F_is_integer : FF := noxF (runF 3 3 b_is_integer)
def b_is_word : FS := sSeq (sIf (fOr (fNot (fIsi .str (fVar 0))) (fNot (fChain dLe dLe (fC (.int 1)) (fCB dLen (fCons (fVar 0) (fNil))) (fC (.int 30))))) (sRet (fC (.bl false))) (sNext)) (sRet (fCB dAll (fCons (fLc (fIter (fVar 0)) (gN 1) (fC (.bl true)) (fOp (dIn false) (fVar 1) (fC (.str "abcdefghijklmnopqrstuvwxyz"))) [1]) (fNil))))
def F_is_word : FF := noxF (runF 2 1 b_is_word)
def b_is_mark : FS := sSeq (sIf (fNot (fIsi .str (fVar 0))) (sRet (fC (.bl false))) (sNext)) (sRet (fOr (fOp (dEqv false) (fVar 0) (fC (.str " "))) (fAnd (fOp (dEqv false) (fCB dLen (fCons (fVar 0) (fNil))) (fC (.int 2))) (fAnd (fOp (dIn false) (fOp dIx (fVar 0) (fC (.int 0))) (fC (.str "#|/"))) (fOp (dIn false) (fOp dIx (fVar 0) (fC (.int 1))) (fC (.str "0123")))))))
def F_is_mark : FF := noxF (runF 1 1 b_is_mark)
def b_is_of : FS := sSeq (sAsg (fVar 0) (gT 3 (gsCons (gN 3) (gsCons (gN 4) (gsCons (gN 5) (gsNil)))))) (sRet (fAnd (fOp (dIn false) (fVar 1) (fVar 3)) (fChain dLe dLe (fVar 4) (fVar 2) (fVar 5))))
def F_is_of : FF := noxF (runF 6 3 b_is_of)
def b__law_cell : FS := sSeq (sIf (fOp dLt (fVar 1) (fCB dLen (fCons (fVar 0) (fNil)))) (sRet (fOp dIx (fVar 0) (fVar 1))) (sNext)) (sRet (fOp dAdd (fOp dMul (fC (.int 7919)) (fVar 1)) (fC (.int 31))))
def F__law_cell : FF := noxF (runF 2 2 b__law_cell)
def b__law_purse : FS := sRet (fLst (fCons (fCB dMax (fCons (fC (.int 0)) (fCons (fOp dSub (fVar 0) (fOp dPow (fC (.int 10)) (fC (.int 18)))) (fNil)))) (fCons (fOp dMod (fVar 0) (fC (.int 2147483629))) (fCons (fC (.int 0)) (fNil)))))
def F__law_purse : FF := noxF (runF 1 1 b__law_purse)
def b__law_take : FS := sSeq (sIf (fOp dGt (fOp dIx (fVar 0) (fC (.int 0))) (fC (.int 0))) (sSeq (sAsg (fOp dMod (fOp dIx (fVar 0) (fC (.int 0))) (fVar 1)) (gN 2)) (sSeq (sSetI 0 (fC (.int 0)) (fOp dFdiv (fOp dIx (fVar 0) (fC (.int 0))) (fVar 1))) (sRetV 2))) (sNext)) (sSeq (sSetI 0 (fC (.int 2)) (fOp dAdd (fOp dIx (fVar 0) (fC (.int 2))) (fC (.int 1)))) (sSeq (sAsg (fOp dMod (fOp dPow (fOp dAdd (fOp dAdd (fOp dIx (fVar 0) (fC (.int 1))) (fOp dMul (fC (.int 7919)) (fOp dIx (fVar 0) (fC (.int 2))))) (fC (.int 174))) (fC (.int 5))) (fC (.int 2147483647))) (gN 3)) (sSeq (sAsg (fOp dMod (fOp dPow (fOp dAdd (fVar 3) (fOp dMul (fC (.int 104729)) (fOp dIx (fVar 0) (fC (.int 2))))) (fC (.int 3))) (fC (.int 2147483587))) (gN 3)) (sRet (fOp dMod (fOp dFdiv (fVar 3) (fC (.int 16))) (fVar 1))))))
def F__law_take : FF := noxF (runF 4 2 b__law_take)
def b__law_all_marks : FS := sRet (fLst (fCons (fC (.str " ")) (fCons (fC (.str "#0")) (fCons (fC (.str "#1")) (fCons (fC (.str "#2")) (fCons (fC (.str "#3")) (fCons (fC (.str "|0")) (fCons (fC (.str "|1")) (fCons (fC (.str "|2")) (fCons (fC (.str "|3")) (fCons (fC (.str "/0")) (fCons (fC (.str "/1")) (fCons (fC (.str "/2")) (fCons (fC (.str "/3")) (fNil)))))))))))))))
def F__law_all_marks : FF := noxF (runF 0 0 b__law_all_marks)
def b__law_is_length : FS := sRet (fAnd (fIsi .int (fVar 0)) (fAnd (fNot (fIsi .bl (fVar 0))) (fChain dLe dLe (fC (.int 1)) (fVar 0) (fC (.int 30)))))
def F__law_is_length : FF := noxF (runF 1 1 b__law_is_length)
def b__law_due : FS := sSeq (sAsg (fLst (fNil)) (gN 2)) (sSeq (sFor (fRng1 (fCons (fOp dSub (fOp dAdd (fCB dLen (fCons (fVar 0) (fNil))) (fC (.int 1))) (fCB dLen (fCons (fVar 1) (fNil)))) (fNil))) (gN 3) (sSeq (sAsg (fC (.bl true)) (gN 4)) (sSeq (sFor (fEnum (fCons (fVar 1) (fNil))) (gT 2 (gsCons (gN 5) (gsCons (gT 3 (gsCons (gN 6) (gsCons (gN 7) (gsCons (gN 8) (gsNil))))) (gsNil)))) (sSeq (sAsg (fOp dIx (fVar 0) (fOp dAdd (fVar 3) (fVar 5))) (gT 2 (gsCons (gN 9) (gsCons (gN 10) (gsNil))))) (sAsg (fAnd (fVar 4) (fAnd (fOp (dIn false) (fVar 9) (fVar 6)) (fChain dLe dLe (fVar 7) (fCB dLen (fCons (fVar 10) (fNil))) (fVar 8)))) (gN 4)))) (sAsg (fOp dAdd (fVar 2) (fOp dMul (fLst (fCons (fVar 3) (fNil))) (fCB dInt (fCons (fVar 4) (fNil))))) (gN 2))))) (sRetV 2))
def F__law_due : FF := noxF (runF 11 2 b__law_due)
def b_is_token : FS := sRet (fAnd (fIsi .tup (fVar 0)) (fAnd (fOp (dEqv false) (fCB dLen (fCons (fVar 0) (fNil))) (fC (.int 2))) (fAnd (fCall F_is_mark [] (fCons (fOp dIx (fVar 0) (fC (.int 0))) (fNil))) (fCall F_is_word [] (fCons (fOp dIx (fVar 0) (fC (.int 1))) (fNil))))))
def F_is_token : FF := noxF (runF 1 1 b_is_token)
def b_is_item : FS := sSeq (sIf (fOr (fNot (fIsi .tup (fVar 0))) (fOp (dEqv true) (fCB dLen (fCons (fVar 0) (fNil))) (fC (.int 3)))) (sRet (fC (.bl false))) (sNext)) (sSeq (sAsg (fVar 0) (gT 3 (gsCons (gN 1) (gsCons (gN 2) (gsCons (gN 3) (gsNil)))))) (sSeq (sIf (fOr (fNot (fIsiT [.lst, .tup] (fVar 1))) (fOr (fOp (dEqv false) (fCB dLen (fCons (fVar 1) (fNil))) (fC (.int 0))) (fNot (fCB dAll (fCons (fLc (fIter (fVar 1)) (gN 4) (fC (.bl true)) (fCall F_is_mark [] (fCons (fVar 4) (fNil))) [4]) (fNil)))))) (sRet (fC (.bl false))) (sNext)) (sSeq (sIf (fOr (fNot (fCall F_is_integer [] (fCons (fVar 2) (fCons (fC (.int 1)) (fCons (fC (.int 30)) (fNil)))))) (fNot (fCall F_is_integer [] (fCons (fVar 3) (fCons (fVar 2) (fCons (fC (.int 30)) (fNil))))))) (sRet (fC (.bl false))) (sNext)) (sRet (fOp (dEqv false) (fLenD (fVar 1)) (fCB dLen (fCons (fVar 1) (fNil))))))))
def F_is_item : FF := noxF (runF 5 1 b_is_item)
def b__law_mark : FS := sSeq (sIf (fOp (dEqv false) (fCall F__law_take [] (fCons (fVar 0) (fCons (fC (.int 3)) (fNil)))) (fC (.int 0))) (sRet (fC (.str " "))) (sNext)) (sRet (fOp dAdd (fOp dIx (fC (.str "#|/")) (fCall F__law_take [] (fCons (fVar 0) (fCons (fC (.int 3)) (fNil))))) (fOp dIx (fC (.str "0123")) (fCall F__law_take [] (fCons (fVar 0) (fCons (fC (.int 4)) (fNil)))))))
def F__law_mark : FF := noxF (runF 1 1 b__law_mark)
def b__law_word : FS := sSeq (sAsg (fC (.str "abcdefghijklmnopqrstuvwxyz")) (gN 2)) (sRet (fM1 dJoin (fC (.str "")) (fLc (fRng1 (fCons (fOp dAdd (fC (.int 1)) (fCall F__law_take [] (fCons (fVar 0) (fCons (fVar 1) (fNil))))) (fNil))) (gN 3) (fC (.bl true)) (fOp dIx (fVar 2) (fCall F__law_take [] (fCons (fVar 0) (fCons (fC (.int 26)) (fNil))))) [3])))
def F__law_word : FF := noxF (runF 4 2 b__law_word)
def b__law_good_item : FS := sSeq (sIf (fOr (fNot (fIsi .tup (fVar 0))) (fOr (fOp (dEqv true) (fCB dLen (fCons (fVar 0) (fNil))) (fC (.int 3))) (fOr (fNot (fIsiT [.lst, .tup] (fOp dIx (fVar 0) (fC (.int 0))))) (fOp (dEqv false) (fCB dLen (fCons (fOp dIx (fVar 0) (fC (.int 0))) (fNil))) (fC (.int 0)))))) (sRet (fC (.bl false))) (sNext)) (sSeq (sFor (fEnum (fCons (fOp dIx (fVar 0) (fC (.int 0))) (fNil))) (gT 2 (gsCons (gN 1) (gsCons (gN 2) (gsNil)))) (sIf (fOr (fNot (fIsi .str (fVar 2))) (fOr (fOp (dIn true) (fVar 2) (fCall F__law_all_marks [] (fNil))) (fOp (dIn false) (fVar 2) (fSl (fOp dIx (fVar 0) (fC (.int 0))) (fNoPart) (fPart (fVar 1)))))) (sRet (fC (.bl false))) (sNext))) (sRet (fAnd (fCall F__law_is_length [] (fCons (fOp dIx (fVar 0) (fC (.int 1))) (fNil))) (fAnd (fCall F__law_is_length [] (fCons (fOp dIx (fVar 0) (fC (.int 2))) (fNil))) (fOp dLe (fOp dIx (fVar 0) (fC (.int 1))) (fOp dIx (fVar 0) (fC (.int 2))))))))
def F__law_good_item : FF := noxF (runF 3 1 b__law_good_item)
def b__law_spoilt_10 : FS := sRetV 2
def b__law_spoilt_9 : FS := sSeq (sSetI 2 (fVar 3) (fOp dIx (fVar 9) (fOp dSub (fVar 7) (fC (.int 2))))) b__law_spoilt_10
def b__law_spoilt_8 : FS := sSeq (sAsg (fOp dAdd (fVar 9) (fLst (fCons (fTup (fCons (fOp dAdd (fVar 4) (fLst (fCons (fVar 8) (fNil)))) (fCons (fVar 5) (fCons (fVar 6) (fNil))))) (fCons (fTup (fCons (fVar 4) (fCons (fVar 8) (fCons (fVar 6) (fNil))))) (fCons (fTup (fCons (fVar 4) (fCons (fVar 5) (fCons (fVar 8) (fNil))))) (fCons (fTup (fCons (fVar 4) (fCons (fC (.int 1)) (fCons (fC (.int 31)) (fNil))))) (fCons (fTup (fCons (fVar 4) (fCons (fC (.int 1)) (fCons (fC (.bl true)) (fNil))))) (fNil)))))))) (gN 9)) b__law_spoilt_9
def b__law_spoilt_7 : FS := sSeq (sAsg (fLst (fCons (fTup (fCons (fVar 4) (fCons (fOp dAdd (fVar 6) (fC (.int 1))) (fCons (fVar 6) (fNil))))) (fCons (fTup (fCons (fOp dAdd (fVar 4) (fSl (fVar 4) (fNoPart) (fPart (fC (.int 1))))) (fCons (fVar 5) (fCons (fVar 6) (fNil))))) (fCons (fTup (fCons (fLst (fNil)) (fCons (fVar 5) (fCons (fVar 6) (fNil))))) (fCons (fTup (fCons (fVar 4) (fCons (fVar 5) (fNil)))) (fCons (fLst (fCons (fVar 4) (fCons (fVar 5) (fCons (fVar 6) (fNil))))) (fNil))))))) (gN 9)) b__law_spoilt_8
def b__law_spoilt_6 : FS := sSeq (sIf (fOp (dEqv false) (fVar 7) (fC (.int 1))) (sRet (fOp dIx (fLst (fCons (fC .non) (fCons (fAdo (fLst (fNil))) (fCons (fDNew) (fCons (fC (.str "pattern")) (fCons (fOp dIx (fVar 2) (fC (.int 0))) (fCons (fC (.int 7)) (fCons (fTup (fCons (fTup (fCons (fVar 4) (fCons (fVar 5) (fCons (fVar 6) (fNil))))) (fCons (fC .non) (fNil)))) (fNil))))))))) (fCall F__law_take [] (fCons (fVar 0) (fCons (fC (.int 7)) (fNil)))))) (sNext)) b__law_spoilt_7
def b__law_spoilt_5 : FS := sSeq (sIf (fOp (dEqv false) (fVar 7) (fC (.int 0))) (sRet (fOp dAdd (fOp dAdd (fOp dAdd (fOp dAdd (fOp dAdd (fOp dAdd (fVar 2) (fVar 2)) (fVar 2)) (fVar 2)) (fVar 2)) (fVar 2)) (fVar 2))) (sNext)) b__law_spoilt_6
def b__law_spoilt_4 : FS := sSeq (sAsg (fOp dIx (fLst (fCons (fC .non) (fCons (fC (.bl true)) (fCons (fC (.str "a")) (fCons (fC (.int 0)) (fCons (fC (.int 31)) (fCons (fUn dNeg (fC (.int 1))) (fCons (fC (.str "1")) (fCons (fLst (fNil)) (fCons (fDNew) (fCons (fC (.str "#4")) (fCons (fOp dPow (fC (.int 10)) (fC (.int 20))) (fNil))))))))))))) (fCall F__law_take [] (fCons (fVar 0) (fCons (fC (.int 11)) (fNil))))) (gN 8)) b__law_spoilt_5
def b__law_spoilt_3 : FS := sSeq (sPar 4 7 (fCons (fCB dList (fCons (fVar 4) (fNil))) (fCons (fCall F__law_take [] (fCons (fVar 0) (fCons (fC (.int 12)) (fNil)))) (fNil)))) b__law_spoilt_4
def b__law_spoilt_2 : FS := sSeq (sAsg (fOp dIx (fVar 2) (fVar 3)) (gT 3 (gsCons (gN 4) (gsCons (gN 5) (gsCons (gN 6) (gsNil)))))) b__law_spoilt_3
def b__law_spoilt_1 : FS := sSeq (sAsg (fCall F__law_take [] (fCons (fVar 0) (fCons (fCB dLen (fCons (fVar 2) (fNil))) (fNil)))) (gN 3)) b__law_spoilt_2
def b__law_spoilt : FS := sSeq (sOwn 2 (fCB dList (fCons (fVar 1) (fNil)))) b__law_spoilt_1
def F__law_spoilt : FF := noxF (runF 10 2 b__law_spoilt)
def b_is_text : FS := sSeq (sIf (fOr (fNot (fIsiT [.lst, .tup] (fVar 0))) (fNot (fCB dAll (fCons (fLc (fIter (fVar 0)) (gN 1) (fC (.bl true)) (fCall F_is_token [] (fCons (fVar 1) (fNil))) [1]) (fNil))))) (sRet (fC (.bl false))) (sNext)) (sRet (fOr (fOp (dEqv false) (fCB dLen (fCons (fVar 0) (fNil))) (fC (.int 0))) (fOp (dEqv false) (fOp dIx (fOp dIx (fOp dIx (fVar 0) (fC (.int 0))) (fC (.int 0))) (fC (.int 0))) (fC (.str "#")))))
def F_is_text : FF := noxF (runF 2 1 b_is_text)
def b_is_pattern : FS := sSeq (sIf (fOr (fNot (fIsiT [.lst, .tup] (fVar 0))) (fNot (fChain dLe dLe (fC (.int 1)) (fCB dLen (fCons (fVar 0) (fNil))) (fC (.int 6))))) (sRet (fC (.bl false))) (sNext)) (sRet (fCB dAll (fCons (fLc (fIter (fVar 0)) (gN 1) (fC (.bl true)) (fCall F_is_item [] (fCons (fVar 1) (fNil))) [1]) (fNil))))
def F_is_pattern : FF := noxF (runF 2 1 b_is_pattern)
def b__law_text : FS := sSeq (sOwn 3 (fLst (fNil))) (sSeq (sFor (fRng1 (fCons (fVar 1) (fNil))) (gN 4) (sSeq (sAsg (fIf (fOp dGt (fVar 4) (fC (.int 0))) (fCall F__law_mark [] (fCons (fVar 0) (fNil))) (fOp dAdd (fC (.str "#")) (fOp dIx (fC (.str "0123")) (fCall F__law_take [] (fCons (fVar 0) (fCons (fC (.int 4)) (fNil))))))) (gN 5)) (chk 3 (sApp 3 (fTup (fCons (fVar 5) (fCons (fCall F__law_word [] (fCons (fVar 0) (fCons (fVar 2) (fNil)))) (fNil)))))))) (sRetV 3))
def F__law_text : FF := noxF (runF 6 3 b__law_text)
def b__law_good : FS := sSeq (sIf (fOr (fNot (fIsiT [.lst, .tup] (fVar 0))) (fNot (fChain dLe dLe (fC (.int 1)) (fCB dLen (fCons (fVar 0) (fNil))) (fC (.int 6))))) (sRet (fC (.bl false))) (sNext)) (sRet (fOp (dNil false) (fLc (fIter (fVar 0)) (gN 1) (fNot (fCall F__law_good_item [] (fCons (fVar 1) (fNil)))) (fVar 1) [1]) (fLst (fNil))))
def F__law_good : FF := noxF (runF 2 1 b__law_good)
def b__law_pattern_6 : FS := sRetV 5
def b__law_pattern_5 : FS := sSeq (sFor (fIter (fVar 4)) (gT 2 (gsCons (gN 6) (gsCons (gN 7) (gsNil)))) (sSeq (sAsg (fLst (fCons (fVar 6) (fNil))) (gN 8)) (sSeq (sFor (fRng1 (fCons (fCall F__law_take [] (fCons (fVar 0) (fCons (fC (.int 5)) (fNil)))) (fNil))) (gN 9) (sSeq (sAsg (fCall F__law_mark [] (fCons (fVar 0) (fNil))) (gN 10)) (sAsg (fOp dAdd (fVar 8) (fOp dMul (fLst (fCons (fVar 10) (fNil))) (fCB dInt (fCons (fOp (dIn true) (fVar 10) (fVar 8)) (fNil))))) (gN 8)))) (sSeq (sAsg (fCB dMax (fCons (fC (.int 1)) (fCons (fOp dSub (fCB dLen (fCons (fVar 7) (fNil))) (fCall F__law_take [] (fCons (fVar 0) (fCons (fC (.int 4)) (fNil))))) (fNil)))) (gN 11)) (sSeq (sAsg (fCall F__law_take [] (fCons (fVar 0) (fCons (fCB dLen (fCons (fVar 8) (fNil))) (fNil)))) (gN 12)) (sSeq (sAsg (fOp dAdd (fSl (fVar 8) (fPart (fVar 12)) (fNoPart)) (fSl (fVar 8) (fNoPart) (fPart (fVar 12)))) (gN 8)) (chk 5 (sApp 5 (fTup (fCons (fOp dIx (fLst (fCons (fVar 8) (fCons (fCB dTuple (fCons (fVar 8) (fNil))) (fNil)))) (fCall F__law_take [] (fCons (fVar 0) (fCons (fC (.int 2)) (fNil))))) (fCons (fVar 11) (fCons (fCB dMin (fCons (fC (.int 30)) (fCons (fOp dAdd (fCB dLen (fCons (fVar 7) (fNil))) (fCall F__law_take [] (fCons (fVar 0) (fCons (fC (.int 4)) (fNil))))) (fNil)))) (fNil))))))))))))) b__law_pattern_6
def b__law_pattern_4 : FS := sSeq (sOwn 5 (fLst (fNil))) b__law_pattern_5
def b__law_pattern_3 : FS := sSeq (sIf (fOp (dNil false) (fVar 4) (fLst (fNil))) (sAsg (fLc (fRng1 (fCons (fVar 2) (fNil))) (gN 9) (fC (.bl true)) (fTup (fCons (fCall F__law_mark [] (fCons (fVar 0) (fNil))) (fCons (fOp dMul (fC (.str "a")) (fOp dAdd (fC (.int 1)) (fCall F__law_take [] (fCons (fVar 0) (fCons (fC (.int 6)) (fNil)))))) (fNil)))) [9]) (gN 4)) (sNext)) b__law_pattern_4
def b__law_pattern_2 : FS := sSeq (sAsg (fIf (fOp dGt (fCall F__law_take [] (fCons (fVar 0) (fCons (fC (.int 3)) (fNil)))) (fC (.int 0))) (fSl (fVar 1) (fPart (fVar 3)) (fPart (fOp dAdd (fVar 3) (fVar 2)))) (fLst (fNil))) (gN 4)) b__law_pattern_3
def b__law_pattern_1 : FS := sSeq (sAsg (fCall F__law_take [] (fCons (fVar 0) (fCons (fOp dAdd (fCB dLen (fCons (fVar 1) (fNil))) (fC (.int 1))) (fNil)))) (gN 3)) b__law_pattern_2
def b__law_pattern : FS := sSeq (sAsg (fOp dAdd (fC (.int 1)) (fCall F__law_take [] (fCons (fVar 0) (fCons (fC (.int 6)) (fNil))))) (gN 2)) b__law_pattern_1
def F__law_pattern : FF := noxF (runF 13 2 b__law_pattern)
def b_need_text : FS := sIf (fNot (fCall F_is_text [] (fCons (fVar 0) (fNil)))) (sRaise 1 "value" (fCons (fVar 0) (fNil))) (sNext)
def F_need_text : FF := runF 1 1 b_need_text
def b_need_pattern : FS := sIf (fNot (fCall F_is_pattern [] (fCons (fVar 0) (fNil)))) (sRaise 2 "value" (fCons (fVar 0) (fNil))) (sNext)
def F_need_pattern : FF := runF 1 1 b_need_pattern
def b_pattern_places : GbF := gbCons (sExpr (fCall F_need_text [] (fCons (fVar 0) (fNil)))) (gbCons (sExpr (fCall F_need_pattern [] (fCons (fVar 1) (fNil)))) (gbFor (fRng1 (fCons (fOp dSub (fOp dAddT (fCB dLen (fCons (fVar 0) (fNil))) (fC (.int 1))) (fCB dLen (fCons (fVar 1) (fNil)))) (fNil))) (gN 2) (gSeq (gPl (sAsg (fSlT (fVar 0) (fPart (fVar 2)) (fPart (fOp dAddT (fVar 2) (fCB dLen (fCons (fVar 1) (fNil)))))) (gN 3))) (gSeq (gIf (fCB dAll (fCons (fLc (fZipC (fCons (fVar 1) (fCons (fVar 3) (fNil)))) (gT 2 (gsCons (gN 4) (gsCons (gT 2 (gsCons (gN 5) (gsCons (gN 6) (gsNil)))) (gsNil)))) (fC (.bl true)) (fCall F_is_of [] (fCons (fVar 4) (fCons (fVar 5) (fCons (fCB dLen (fCons (fVar 6) (fNil))) (fNil))))) [4, 5, 6]) (fNil))) (gSeq (gYd (fVar 2)) (gNil)) (gNil)) (gNil)))))
def F_pattern_places : FGf := runG 7 2 b_pattern_places
def br_pattern_places : FS := sSeq (sExpr (fCall F_need_text [] (fCons (fVar 0) (fNil)))) (sSeq (sExpr (fCall F_need_pattern [] (fCons (fVar 1) (fNil)))) (sStop))
def Fr_pattern_places : FF := runF 7 2 br_pattern_places
def b__law_told_2 : FS := sRetV 2
def b__law_told_1 : FS := sSeq (sTry em_ (sLp2 [1, 2] F_pattern_places Fr_pattern_places (fCons (fVar 0) (fCons (fVar 1) (fNil))) (lpT (gN 3) (chk 2 (sApp 2 (fVar 3))))) [(1, some 4, sOwn 2 (fOp dAdd (fVar 2) (fLst (fCons (fC (.str "text")) (fCons (fXf xf_ 4 "value") (fNil)))))), (2, some 4, sOwn 2 (fOp dAdd (fVar 2) (fLst (fCons (fC (.str "row")) (fCons (fXf xf_ 4 "value") (fNil))))))]) b__law_told_2
def b__law_told : FS := sSeq (sOwn 2 (fLst (fNil))) b__law_told_1
def F__law_told : FF := noxF (runF 5 2 b__law_told)
def b__law_right_3 : FS := sRet (fC (.bl true))
def b__law_right_2 : FS := sSeq (sFor (fRng1 (fCons (fC (.int 3)) (fNil))) (gN 2) (sSeq (sAsg (fCall F__law_pattern [] (fCons (fVar 0) (fCons (fVar 1) (fNil)))) (gN 3)) (sSeq (sAsg (fCB dRepr (fCons (fLst (fCons (fVar 1) (fCons (fVar 3) (fNil)))) (fNil))) (gN 4)) (sSeq (sIf (fOr (fOp (dIs true) (fCall F_is_pattern [] (fCons (fVar 3) (fNil))) (fC (.bl true))) (fOp (dIs true) (fCall F_is_pattern [] (fCons (fCB dTuple (fCons (fVar 3) (fNil))) (fNil))) (fC (.bl true)))) (sRet (fC (.bl false))) (sNext)) (sSeq (sIf (fOr (fOp (dEqv true) (fCall F__law_told [] (fCons (fVar 1) (fCons (fVar 3) (fNil)))) (fCall F__law_due [] (fCons (fVar 1) (fCons (fVar 3) (fNil))))) (fOp (dEqv true) (fCB dRepr (fCons (fLst (fCons (fVar 1) (fCons (fVar 3) (fNil)))) (fNil))) (fVar 4))) (sRet (fC (.bl false))) (sNext)) (sSeq (sIf (fOp (dEqv true) (fCall F__law_told [] (fCons (fCB dTuple (fCons (fVar 1) (fNil))) (fCons (fCB dTuple (fCons (fVar 3) (fNil))) (fNil)))) (fCall F__law_due [] (fCons (fVar 1) (fCons (fVar 3) (fNil))))) (sRet (fC (.bl false))) (sNext)) (sSeq (sAsg (fAdo (fCall F__law_spoilt [] (fCons (fVar 0) (fCons (fVar 3) (fNil))))) (gN 5)) (sSeq (sIf (fOp (dEqv true) (fCB dRepr (fCons (fCall F_is_pattern [] (fCons (fVar 5) (fNil))) (fNil))) (fCB dRepr (fCons (fCall F__law_good [] (fCons (fVar 5) (fNil))) (fNil)))) (sRet (fC (.bl false))) (sNext)) (sSeq (sIf (fAnd (fNot (fCall F__law_good [] (fCons (fVar 5) (fNil)))) (fOp (dEqv true) (fCB dRepr (fCons (fCall F__law_told [] (fCons (fVar 1) (fCons (fVar 5) (fNil)))) (fNil))) (fCB dRepr (fCons (fLst (fCons (fC (.str "row")) (fCons (fVar 5) (fNil)))) (fNil))))) (sRet (fC (.bl false))) (sNext)) (sSeq (sAsg (fOp dIx (fLst (fCons (fC .non) (fCons (fC (.str "a")) (fCons (fOp dAdd (fVar 1) (fLst (fCons (fTup (fCons (fC (.str "#4")) (fCons (fC (.str "a")) (fNil)))) (fNil)))) (fCons (fOp dAdd (fLst (fCons (fTup (fCons (fC (.str "|0")) (fCons (fC (.str "a")) (fNil)))) (fNil))) (fVar 1)) (fCons (fC (.int 7)) (fCons (fOp dAdd (fLst (fCons (fLst (fCons (fC (.str "#0")) (fCons (fC (.str "a")) (fNil)))) (fNil))) (fVar 1)) (fNil)))))))) (fCall F__law_take [] (fCons (fVar 0) (fCons (fC (.int 6)) (fNil))))) (gN 6)) (sSeq (sIf (fOp (dEqv true) (fCB dRepr (fCons (fCall F__law_told [] (fCons (fVar 6) (fCons (fVar 5) (fNil)))) (fNil))) (fCB dRepr (fCons (fLst (fCons (fC (.str "text")) (fCons (fVar 6) (fNil)))) (fNil)))) (sRet (fC (.bl false))) (sNext)) (sSeq (sAsg (fCall F__law_told [] (fCons (fVar 1) (fCons (fVar 5) (fNil)))) (gN 7)) (sIf (fAnd (fIsi .lst (fVar 5)) (fNot (fCall F__law_good [] (fCons (fVar 5) (fNil))))) (sSeq (chk 5 (sApp 5 (fC (.str "late")))) (sIf (fOp (dEqv true) (fCB dRepr (fCons (fVar 7) (fNil))) (fCB dRepr (fCons (fLst (fCons (fC (.str "row")) (fCons (fVar 5) (fNil)))) (fNil)))) (sRet (fC (.bl false))) (sNext))) (sNext)))))))))))))) b__law_right_3
def b__law_right_1 : FS := sSeq (sIf (fOp (dEqv false) (fCall F__law_take [] (fCons (fVar 0) (fCons (fC (.int 2)) (fNil)))) (fC (.int 0))) (sAsg (fOp dAdd (fSl (fVar 1) (fNoPart) (fPart (fC (.int 1)))) (fLc (fIter (fSl (fVar 1) (fPart (fC (.int 1))) (fNoPart))) (gT 2 (gsCons (gN 9) (gsCons (gN 8) (gsNil)))) (fC (.bl true)) (fTup (fCons (fOp dIx (fLst (fCons (fC (.str " ")) (fCons (fC (.str "/0")) (fNil)))) (fCall F__law_take [] (fCons (fVar 0) (fCons (fC (.int 2)) (fNil))))) (fCons (fSl (fVar 8) (fNoPart) (fPart (fC (.int 2)))) (fNil)))) [9, 8])) (gN 1)) (sNext)) b__law_right_2
def b__law_right : FS := sSeq (sAsg (fCall F__law_text [] (fCons (fVar 0) (fCons (fCall F__law_take [] (fCons (fVar 0) (fCons (fC (.int 25)) (fNil)))) (fCons (fOp dIx (fLst (fCons (fC (.int 2)) (fCons (fC (.int 5)) (fCons (fC (.int 30)) (fNil))))) (fCall F__law_take [] (fCons (fVar 0) (fCons (fC (.int 3)) (fNil))))) (fNil))))) (gN 1)) b__law_right_1
def F__law_right : FF := noxF (runF 10 1 b__law_right)
def b_law : FS := sSeq (sFor (fRng1 (fCons (fCB dMax (fCons (fC (.int 2)) (fCons (fCB dMin (fCons (fC (.int 16)) (fCons (fCB dLen (fCons (fVar 0) (fNil))) (fNil)))) (fNil)))) (fNil))) (gN 1) (sIf (fNot (fCall F__law_right [] (fCons (fAdo (fCall F__law_purse [] (fCons (fCall F__law_cell [] (fCons (fVar 0) (fCons (fVar 1) (fNil)))) (fNil)))) (fNil)))) (sRet (fC (.bl false))) (sNext))) (sRet (fC (.bl true)))
def F_law : FF := noxF (runF 2 1 b_law)
end
def topS (i : Nat) : Stmt := PySem.Challenge.pw_reflows_k74_patterns_in_texts.main.body.getD i (.Pass ⟨0, 0, 0, 0⟩)
abbrev s_is_integer : Stmt := topS 8
abbrev N_is_integer : List Str := ["value", "low", "high"]
abbrev P_is_integer : List Str := ["value", "low", "high"]
theorem sc_is_integer : FnScope N_is_integer P_is_integer (defScope s_is_integer) := ⟨rfl, rfl, rfl, by decide +kernel, rfl, by decide +kernel, by decide +kernel⟩
abbrev s_is_word : Stmt := topS 9
abbrev N_is_word : List Str := ["value", "sign"]
abbrev P_is_word : List Str := ["value"]
theorem sc_is_word : FnScope N_is_word P_is_word (defScope s_is_word) := ⟨rfl, rfl, rfl, by decide +kernel, rfl, by decide +kernel, by decide +kernel⟩
abbrev s_is_mark : Stmt := topS 10
abbrev N_is_mark : List Str := ["value"]
abbrev P_is_mark : List Str := ["value"]
theorem sc_is_mark : FnScope N_is_mark P_is_mark (defScope s_is_mark) := ⟨rfl, rfl, rfl, by decide +kernel, rfl, by decide +kernel, by decide +kernel⟩
abbrev s_is_token : Stmt := topS 11
abbrev N_is_token : List Str := ["value"]
abbrev P_is_token : List Str := ["value"]
theorem sc_is_token : FnScope N_is_token P_is_token (defScope s_is_token) := ⟨rfl, rfl, rfl, by decide +kernel, rfl, by decide +kernel, by decide +kernel⟩
abbrev s_is_text : Stmt := topS 13
abbrev N_is_text : List Str := ["value", "token"]
abbrev P_is_text : List Str := ["value"]
theorem sc_is_text : FnScope N_is_text P_is_text (defScope s_is_text) := ⟨rfl, rfl, rfl, by decide +kernel, rfl, by decide +kernel, by decide +kernel⟩
abbrev s_need_text : Stmt := topS 14
abbrev N_need_text : List Str := ["text"]
abbrev P_need_text : List Str := ["text"]
theorem sc_need_text : FnScope N_need_text P_need_text (defScope s_need_text) := ⟨rfl, rfl, rfl, by decide +kernel, rfl, by decide +kernel, by decide +kernel⟩
abbrev s_is_item : Stmt := topS 17
abbrev N_is_item : List Str := ["value", "marks", "least", "most", "mark"]
abbrev P_is_item : List Str := ["value"]
theorem sc_is_item : FnScope N_is_item P_is_item (defScope s_is_item) := ⟨rfl, rfl, rfl, by decide +kernel, rfl, by decide +kernel, by decide +kernel⟩
abbrev s_is_pattern : Stmt := topS 18
abbrev N_is_pattern : List Str := ["value", "item"]
abbrev P_is_pattern : List Str := ["value"]
theorem sc_is_pattern : FnScope N_is_pattern P_is_pattern (defScope s_is_pattern) := ⟨rfl, rfl, rfl, by decide +kernel, rfl, by decide +kernel, by decide +kernel⟩
abbrev s_need_pattern : Stmt := topS 19
abbrev N_need_pattern : List Str := ["pattern"]
abbrev P_need_pattern : List Str := ["pattern"]
theorem sc_need_pattern : FnScope N_need_pattern P_need_pattern (defScope s_need_pattern) := ⟨rfl, rfl, rfl, by decide +kernel, rfl, by decide +kernel, by decide +kernel⟩
abbrev s_is_of : Stmt := topS 20
abbrev N_is_of : List Str := ["item", "mark", "length", "marks", "least", "most"]
abbrev P_is_of : List Str := ["item", "mark", "length"]
theorem sc_is_of : FnScope N_is_of P_is_of (defScope s_is_of) := ⟨rfl, rfl, rfl, by decide +kernel, rfl, by decide +kernel, by decide +kernel⟩
abbrev s_pattern_places : Stmt := topS 21
abbrev N_pattern_places : List Str := ["text", "pattern", "index", "tokens", "item", "mark", "word"]
abbrev P_pattern_places : List Str := ["text", "pattern"]
abbrev lvK_pattern_places : Nat := 5
theorem sc_pattern_places : GScope N_pattern_places P_pattern_places (defScope s_pattern_places) := ⟨rfl, rfl, rfl, by decide +kernel, rfl, by decide +kernel, by decide +kernel⟩
abbrev s__law_cell : Stmt := topS 23
abbrev N__law_cell : List Str := ["_law_script", "_law_k"]
abbrev P__law_cell : List Str := ["_law_script", "_law_k"]
theorem sc__law_cell : FnScope N__law_cell P__law_cell (defScope s__law_cell) := ⟨rfl, rfl, rfl, by decide +kernel, rfl, by decide +kernel, by decide +kernel⟩
abbrev s__law_purse : Stmt := topS 24
abbrev N__law_purse : List Str := ["_law_cell_here"]
abbrev P__law_purse : List Str := ["_law_cell_here"]
theorem sc__law_purse : FnScope N__law_purse P__law_purse (defScope s__law_purse) := ⟨rfl, rfl, rfl, by decide +kernel, rfl, by decide +kernel, by decide +kernel⟩
abbrev s__law_take : Stmt := topS 25
abbrev N__law_take : List Str := ["_law_purse_here", "_law_many", "_law_digit", "_law_number"]
abbrev P__law_take : List Str := ["_law_purse_here", "_law_many"]
theorem sc__law_take : FnScope N__law_take P__law_take (defScope s__law_take) := ⟨rfl, rfl, rfl, by decide +kernel, rfl, by decide +kernel, by decide +kernel⟩
abbrev s__law_all_marks : Stmt := topS 26
abbrev N__law_all_marks : List Str := []
abbrev P__law_all_marks : List Str := []
theorem sc__law_all_marks : FnScope N__law_all_marks P__law_all_marks (defScope s__law_all_marks) := ⟨rfl, rfl, rfl, by decide +kernel, rfl, by decide +kernel, by decide +kernel⟩
abbrev s__law_mark : Stmt := topS 27
abbrev N__law_mark : List Str := ["_law_purse_here"]
abbrev P__law_mark : List Str := ["_law_purse_here"]
theorem sc__law_mark : FnScope N__law_mark P__law_mark (defScope s__law_mark) := ⟨rfl, rfl, rfl, by decide +kernel, rfl, by decide +kernel, by decide +kernel⟩
abbrev s__law_word : Stmt := topS 28
abbrev N__law_word : List Str := ["_law_purse_here", "_law_most", "_law_letters", "_law_k"]
abbrev P__law_word : List Str := ["_law_purse_here", "_law_most"]
theorem sc__law_word : FnScope N__law_word P__law_word (defScope s__law_word) := ⟨rfl, rfl, rfl, by decide +kernel, rfl, by decide +kernel, by decide +kernel⟩
abbrev s__law_text : Stmt := topS 29
abbrev N__law_text : List Str := ["_law_purse_here", "_law_many", "_law_most", "_law_text_here", "_law_k", "_law_mark_here"]
abbrev P__law_text : List Str := ["_law_purse_here", "_law_many", "_law_most"]
theorem sc__law_text : FnScope N__law_text P__law_text (defScope s__law_text) := ⟨rfl, rfl, rfl, by decide +kernel, rfl, by decide +kernel, by decide +kernel⟩
abbrev s__law_is_length : Stmt := topS 30
abbrev N__law_is_length : List Str := ["_law_value"]
abbrev P__law_is_length : List Str := ["_law_value"]
theorem sc__law_is_length : FnScope N__law_is_length P__law_is_length (defScope s__law_is_length) := ⟨rfl, rfl, rfl, by decide +kernel, rfl, by decide +kernel, by decide +kernel⟩
abbrev s__law_good_item : Stmt := topS 31
abbrev N__law_good_item : List Str := ["_law_item", "_law_k", "_law_mark_here"]
abbrev P__law_good_item : List Str := ["_law_item"]
theorem sc__law_good_item : FnScope N__law_good_item P__law_good_item (defScope s__law_good_item) := ⟨rfl, rfl, rfl, by decide +kernel, rfl, by decide +kernel, by decide +kernel⟩
abbrev s__law_good : Stmt := topS 32
abbrev N__law_good : List Str := ["_law_value", "_law_item"]
abbrev P__law_good : List Str := ["_law_value"]
theorem sc__law_good : FnScope N__law_good P__law_good (defScope s__law_good) := ⟨rfl, rfl, rfl, by decide +kernel, rfl, by decide +kernel, by decide +kernel⟩
abbrev s__law_pattern : Stmt := topS 33
abbrev N__law_pattern : List Str := ["_law_purse_here", "_law_text_here", "_law_many", "_law_at", "_law_row", "_law_items", "_law_mark_here", "_law_word_here", "_law_marks", "_law_k", "_law_more", "_law_low", "_law_turn"]
abbrev P__law_pattern : List Str := ["_law_purse_here", "_law_text_here"]
theorem sc__law_pattern : FnScope N__law_pattern P__law_pattern (defScope s__law_pattern) := ⟨rfl, rfl, rfl, by decide +kernel, rfl, by decide +kernel, by decide +kernel⟩
abbrev s__law_spoilt : Stmt := topS 34
abbrev N__law_spoilt : List Str := ["_law_purse_here", "_law_pattern_here", "_law_items", "_law_at", "_law_marks", "_law_low", "_law_high", "_law_way", "_law_odd", "_law_some"]
abbrev P__law_spoilt : List Str := ["_law_purse_here", "_law_pattern_here"]
theorem sc__law_spoilt : FnScope N__law_spoilt P__law_spoilt (defScope s__law_spoilt) := ⟨rfl, rfl, rfl, by decide +kernel, rfl, by decide +kernel, by decide +kernel⟩
abbrev s__law_told : Stmt := topS 35
abbrev N__law_told : List Str := ["_law_text_here", "_law_pattern_here", "_law_found", "_law_index", "e"]
abbrev P__law_told : List Str := ["_law_text_here", "_law_pattern_here"]
theorem sc__law_told : FnScope N__law_told P__law_told (defScope s__law_told) := ⟨rfl, rfl, rfl, by decide +kernel, rfl, by decide +kernel, by decide +kernel⟩
abbrev s__law_due : Stmt := topS 36
abbrev N__law_due : List Str := ["_law_text_here", "_law_pattern_here", "_law_found", "_law_index", "_law_right_here", "_law_k", "_law_marks", "_law_low", "_law_high", "_law_mark_here", "_law_word_here"]
abbrev P__law_due : List Str := ["_law_text_here", "_law_pattern_here"]
theorem sc__law_due : FnScope N__law_due P__law_due (defScope s__law_due) := ⟨rfl, rfl, rfl, by decide +kernel, rfl, by decide +kernel, by decide +kernel⟩
abbrev s__law_right : Stmt := topS 37
abbrev N__law_right : List Str := ["_law_purse_here", "_law_text_here", "_law_turn", "_law_pattern_here", "_law_kept", "_law_odd", "_law_bad", "_law_told_here", "_law_word_here", "_law_mark_here"]
abbrev P__law_right : List Str := ["_law_purse_here"]
theorem sc__law_right : FnScope N__law_right P__law_right (defScope s__law_right) := ⟨rfl, rfl, rfl, by decide +kernel, rfl, by decide +kernel, by decide +kernel⟩
abbrev s_law : Stmt := topS 38
abbrev N_law : List Str := ["_law_script", "_law_k"]
abbrev P_law : List Str := ["_law_script"]
theorem sc_law : FnScope N_law P_law (defScope s_law) := ⟨rfl, rfl, rfl, by decide +kernel, rfl, by decide +kernel, by decide +kernel⟩
abbrev sI_InvalidText : Stmt := inClass (topS 2) 0
theorem scI_InvalidText : FnScope ["self", "value"] ["self", "value"] (defScope sI_InvalidText) := ⟨rfl, rfl, rfl, by decide +kernel, rfl, by decide +kernel, by decide +kernel⟩
abbrev sI_InvalidRow : Stmt := inClass (topS 3) 0
theorem scI_InvalidRow : FnScope ["self", "value"] ["self", "value"] (defScope sI_InvalidRow) := ⟨rfl, rfl, rfl, by decide +kernel, rfl, by decide +kernel, by decide +kernel⟩
def sp_is_integer (K : PySem.W.Frag) (ca : Nat → Addr) : Sp := SpF K ca F_is_integer
def sp_is_word (K : PySem.W.Frag) (ca : Nat → Addr) : Sp := SpF K ca F_is_word
def sp_is_mark (K : PySem.W.Frag) (ca : Nat → Addr) : Sp := SpF K ca F_is_mark
def sp_is_token (K : PySem.W.Frag) (ca : Nat → Addr) : Sp := SpF K ca F_is_token
def sp_is_text (K : PySem.W.Frag) (ca : Nat → Addr) : Sp := SpF K ca F_is_text
def sp_need_text (K : PySem.W.Frag) (ca : Nat → Addr) : Sp := SpF K ca F_need_text
def sp_is_item (K : PySem.W.Frag) (ca : Nat → Addr) : Sp := SpF K ca F_is_item
def sp_is_pattern (K : PySem.W.Frag) (ca : Nat → Addr) : Sp := SpF K ca F_is_pattern
def sp_need_pattern (K : PySem.W.Frag) (ca : Nat → Addr) : Sp := SpF K ca F_need_pattern
def sp_is_of (K : PySem.W.Frag) (ca : Nat → Addr) : Sp := SpF K ca F_is_of
def sp_pattern_places (K : PySem.W.Frag) (ca : Nat → Addr) : SpGe := SpGF2 K ca F_pattern_places Fr_pattern_places
def sp__law_cell (K : PySem.W.Frag) (ca : Nat → Addr) : Sp := SpF K ca F__law_cell
def sp__law_purse (K : PySem.W.Frag) (ca : Nat → Addr) : Sp := SpF K ca F__law_purse
def sp__law_take (K : PySem.W.Frag) (ca : Nat → Addr) : Sp := SpF K ca F__law_take
def sp__law_all_marks (K : PySem.W.Frag) (ca : Nat → Addr) : Sp := SpF K ca F__law_all_marks
def sp__law_mark (K : PySem.W.Frag) (ca : Nat → Addr) : Sp := SpF K ca F__law_mark
def sp__law_word (K : PySem.W.Frag) (ca : Nat → Addr) : Sp := SpF K ca F__law_word
def sp__law_text (K : PySem.W.Frag) (ca : Nat → Addr) : Sp := SpF K ca F__law_text
def sp__law_is_length (K : PySem.W.Frag) (ca : Nat → Addr) : Sp := SpF K ca F__law_is_length
def sp__law_good_item (K : PySem.W.Frag) (ca : Nat → Addr) : Sp := SpF K ca F__law_good_item
def sp__law_good (K : PySem.W.Frag) (ca : Nat → Addr) : Sp := SpF K ca F__law_good
def sp__law_pattern (K : PySem.W.Frag) (ca : Nat → Addr) : Sp := SpF K ca F__law_pattern
def sp__law_spoilt (K : PySem.W.Frag) (ca : Nat → Addr) : Sp := SpF K ca F__law_spoilt
def sp__law_told (K : PySem.W.Frag) (ca : Nat → Addr) : Sp := SpF K ca F__law_told
def sp__law_due (K : PySem.W.Frag) (ca : Nat → Addr) : Sp := SpF K ca F__law_due
def sp__law_right (K : PySem.W.Frag) (ca : Nat → Addr) : Sp := SpF K ca F__law_right
def sp_law (K : PySem.W.Frag) (ca : Nat → Addr) : Sp := SpF K ca F_law
def t_is_integer (K : PySem.W.Frag) (ca : Nat → Addr) : TS := tRet (uAndV (uIsi .int (uVar 0)) (uAndV (uNotV (uIsi .bl (uVar 0))) (uChain uLe uLe (uVar 1) (uVar 0) (uVar 2))))
def t_is_word (K : PySem.W.Frag) (ca : Nat → Addr) : TS := tSeq (uIfS (uOr (uNot (uT (uIsi .str (uVar 0)))) (uNot (uT (uChain uLe uLe (tC (.int 1)) (tCB (uLen K) (tCons (uVar 0) (tNil))) (tC (.int 30)))))) (tRet (tC (.bl false))) (tNext)) (tRet (tCB (uAll K) (tCons (tLc (uIter K (uVar 0)) (gName 1) (tYes) (tOp (uIn K false) (uVar 1) (tC (.str "abcdefghijklmnopqrstuvwxyz"))) [1]) (tNil))))
def t_is_mark (K : PySem.W.Frag) (ca : Nat → Addr) : TS := tSeq (uIfS (uNot (uT (uIsi .str (uVar 0)))) (tRet (tC (.bl false))) (tNext)) (tRet (uOrV (tOp (uEq2 K) (uVar 0) (tC (.str " "))) (uAndV (tOp (uEq2 K) (tCB (uLen K) (tCons (uVar 0) (tNil))) (tC (.int 2))) (uAndV (tOp (uIn K false) (tOp (uIx K) (uVar 0) (tC (.int 0))) (tC (.str "#|/"))) (tOp (uIn K false) (tOp (uIx K) (uVar 0) (tC (.int 1))) (tC (.str "0123")))))))
def t_is_token (K : PySem.W.Frag) (ca : Nat → Addr) : TS := tRet (uAndV (uIsi .tup (uVar 0)) (uAndV (tOp (uEq2 K) (tCB (uLen K) (tCons (uVar 0) (tNil))) (tC (.int 2))) (uAndV (tCall (sp_is_mark K ca) [] E0 (tCons (tOp (uIx K) (uVar 0) (tC (.int 0))) (tNil))) (tCall (sp_is_word K ca) [] E0 (tCons (tOp (uIx K) (uVar 0) (tC (.int 1))) (tNil))))))
def t_is_text (K : PySem.W.Frag) (ca : Nat → Addr) : TS := tSeq (uIfS (uOr (uNot (uT (tCB (uIsiT [.lst, .tup]) (tCons (uVar 0) (tCons (tTup (tCons (tC (.ty "list")) (tCons (tC (.ty "tuple")) (tNil)))) tNil))))) (uNot (uT (tCB (uAll K) (tCons (tLc (uIter K (uVar 0)) (gName 1) (tYes) (tCall (sp_is_token K ca) [] E0 (tCons (uVar 1) (tNil))) [1]) (tNil)))))) (tRet (tC (.bl false))) (tNext)) (tRet (uOrV (tOp (uEq2 K) (tCB (uLen K) (tCons (uVar 0) (tNil))) (tC (.int 0))) (tOp (uEq2 K) (tOp (uIx K) (tOp (uIx K) (tOp (uIx K) (uVar 0) (tC (.int 0))) (tC (.int 0))) (tC (.int 0))) (tC (.str "#")))))
def t_need_text (K : PySem.W.Frag) (ca : Nat → Addr) (E : XK) : TS := uIfS (uNot (uT (tCall (sp_is_text K ca) [] E0 (tCons (uVar 0) (tNil))))) (uRaise (ca 1) "value" E (tCons (uVar 0) (tNil))) (tNext)
def t_is_item (K : PySem.W.Frag) (ca : Nat → Addr) : TS := tSeq (uIfS (uOr (uNot (uT (uIsi .tup (uVar 0)))) (uT (tOp (uNe2 K) (tCB (uLen K) (tCons (uVar 0) (tNil))) (tC (.int 3))))) (tRet (tC (.bl false))) (tNext)) (tSeq (tAsg (uVar 0) (gTs K 3 (gCons (gName 1) (gCons (gName 2) (gCons (gName 3) (gNil)))))) (tSeq (uIfS (uOr (uNot (uT (tCB (uIsiT [.lst, .tup]) (tCons (uVar 1) (tCons (tTup (tCons (tC (.ty "list")) (tCons (tC (.ty "tuple")) (tNil)))) tNil))))) (uOr (uT (tOp (uEq2 K) (tCB (uLen K) (tCons (uVar 1) (tNil))) (tC (.int 0)))) (uNot (uT (tCB (uAll K) (tCons (tLc (uIter K (uVar 1)) (gName 4) (tYes) (tCall (sp_is_mark K ca) [] E0 (tCons (uVar 4) (tNil))) [4]) (tNil))))))) (tRet (tC (.bl false))) (tNext)) (tSeq (uIfS (uOr (uNot (uT (tCall (sp_is_integer K ca) [] E0 (tCons (uVar 2) (tCons (tC (.int 1)) (tCons (tC (.int 30)) (tNil))))))) (uNot (uT (tCall (sp_is_integer K ca) [] E0 (tCons (uVar 3) (tCons (uVar 2) (tCons (tC (.int 30)) (tNil)))))))) (tRet (tC (.bl false))) (tNext)) (tRet (tOp (uEq2 K) (tLenD K (uVar 1)) (tCB (uLen K) (tCons (uVar 1) (tNil))))))))
def t_is_pattern (K : PySem.W.Frag) (ca : Nat → Addr) : TS := tSeq (uIfS (uOr (uNot (uT (tCB (uIsiT [.lst, .tup]) (tCons (uVar 0) (tCons (tTup (tCons (tC (.ty "list")) (tCons (tC (.ty "tuple")) (tNil)))) tNil))))) (uNot (uT (uChain uLe uLe (tC (.int 1)) (tCB (uLen K) (tCons (uVar 0) (tNil))) (tC (.int 6)))))) (tRet (tC (.bl false))) (tNext)) (tRet (tCB (uAll K) (tCons (tLc (uIter K (uVar 0)) (gName 1) (tYes) (tCall (sp_is_item K ca) [] E0 (tCons (uVar 1) (tNil))) [1]) (tNil))))
def t_need_pattern (K : PySem.W.Frag) (ca : Nat → Addr) (E : XK) : TS := uIfS (uNot (uT (tCall (sp_is_pattern K ca) [] E0 (tCons (uVar 0) (tNil))))) (uRaise (ca 2) "value" E (tCons (uVar 0) (tNil))) (tNext)
def t_is_of (K : PySem.W.Frag) (ca : Nat → Addr) : TS := tSeq (tAsg (uVar 0) (gTs K 3 (gCons (gName 3) (gCons (gName 4) (gCons (gName 5) (gNil)))))) (tRet (uAndV (tOp (uIn K false) (uVar 1) (uVar 3)) (uChain uLe uLe (uVar 4) (uVar 2) (uVar 5))))
def t_pattern_places (K : PySem.W.Frag) (ca : Nat → Addr) (E : XK) : (Γ : Type) → TGm Γ := fun Γ => tGSeq (tPl (tDrop (tCall (sp_need_text K ca) [] E (tCons (uVar 0) (tNil))))) (tGSeq (tPl (tDrop (tCall (sp_need_pattern K ca) [] E (tCons (uVar 1) (tNil))))) (tGSeq (tGFor (iRng1 (tCons (tOp uSub (tOp (uAddT K) (tCB (uLen K) (tCons (uVar 0) (tNil))) (tC (.int 1))) (tCB (uLen K) (tCons (uVar 1) (tNil)))) (tNil))) (gName 2) (tGSeq (tPl (tAsg (L2.tSl (uSlT K) (uVar 0) (uPart (uVar 2)) (uPart (tOp (uAddT K) (uVar 2) (tCB (uLen K) (tCons (uVar 1) (tNil)))))) (gName 3))) (tGSeq (tGIf (uT (tCB (uAll K) (tCons (tLc (uZip K (tCons (uVar 1) (tCons (uVar 3) (tNil)))) (gTs K 2 (gCons (gName 4) (gCons (gTs K 2 (gCons (gName 5) (gCons (gName 6) (gNil)))) (gNil)))) (tYes) (tCall (sp_is_of K ca) [] E0 (tCons (uVar 4) (tCons (uVar 5) (tCons (tCB (uLen K) (tCons (uVar 6) (tNil))) (tNil))))) [4, 5, 6]) (tNil)))) (tGSeq (tGYd (uVar 2)) (tG1)) (tG1)) (tG1)))) tG1))
def t__law_cell (K : PySem.W.Frag) (ca : Nat → Addr) : TS := tSeq (uIfS (uT (tOp uLt (uVar 1) (tCB (uLen K) (tCons (uVar 0) (tNil))))) (tRet (tOp (uIx K) (uVar 0) (uVar 1))) (tNext)) (tRet (tOp (uAdd K) (tOp uMul3 (tC (.int 7919)) (uVar 1)) (tC (.int 31))))
def t__law_purse (K : PySem.W.Frag) (ca : Nat → Addr) : TS := tRet (tLst (tCons (tCB uMax2 (tCons (tC (.int 0)) (tCons (tOp uSub (uVar 0) (tOp uPow (tC (.int 10)) (tC (.int 18)))) (tNil)))) (tCons (tOp uMod (uVar 0) (tC (.int 2147483629))) (tCons (tC (.int 0)) (tNil)))))
def t__law_take (K : PySem.W.Frag) (ca : Nat → Addr) : TS := tSeq (uIfS (uT (tOp uGt (tOp (uIx K) (uVar 0) (tC (.int 0))) (tC (.int 0)))) (tSeq (tAsg (tOp uMod (tOp (uIx K) (uVar 0) (tC (.int 0))) (uVar 1)) (gName 2)) (tSeq (tAsg (tOp uFdiv (tOp (uIx K) (uVar 0) (tC (.int 0))) (uVar 1)) (gSub (uVar 0) (tC (.int 0)) uSetL)) (tRet (uVar 2)))) (tNext)) (tSeq (tAsg (tOp (uAdd K) (tOp (uIx K) (uVar 0) (tC (.int 2))) (tC (.int 1))) (gSub (uVar 0) (tC (.int 2)) uSetL)) (tSeq (tAsg (tOp uMod (tOp uPow (tOp (uAdd K) (tOp (uAdd K) (tOp (uIx K) (uVar 0) (tC (.int 1))) (tOp uMul3 (tC (.int 7919)) (tOp (uIx K) (uVar 0) (tC (.int 2))))) (tC (.int 174))) (tC (.int 5))) (tC (.int 2147483647))) (gName 3)) (tSeq (tAsg (tOp uMod (tOp uPow (tOp (uAdd K) (uVar 3) (tOp uMul3 (tC (.int 104729)) (tOp (uIx K) (uVar 0) (tC (.int 2))))) (tC (.int 3))) (tC (.int 2147483587))) (gName 3)) (tRet (tOp uMod (tOp uFdiv (uVar 3) (tC (.int 16))) (uVar 1))))))
def t__law_all_marks (K : PySem.W.Frag) (ca : Nat → Addr) : TS := tRet (tLst (tCons (tC (.str " ")) (tCons (tC (.str "#0")) (tCons (tC (.str "#1")) (tCons (tC (.str "#2")) (tCons (tC (.str "#3")) (tCons (tC (.str "|0")) (tCons (tC (.str "|1")) (tCons (tC (.str "|2")) (tCons (tC (.str "|3")) (tCons (tC (.str "/0")) (tCons (tC (.str "/1")) (tCons (tC (.str "/2")) (tCons (tC (.str "/3")) (tNil)))))))))))))))
def t__law_mark (K : PySem.W.Frag) (ca : Nat → Addr) : TS := tSeq (uIfS (uT (tOp (uEq2 K) (tCall (sp__law_take K ca) [] E0 (tCons (uVar 0) (tCons (tC (.int 3)) (tNil)))) (tC (.int 0)))) (tRet (tC (.str " "))) (tNext)) (tRet (tOp (uAdd K) (tOp (uIx K) (tC (.str "#|/")) (tCall (sp__law_take K ca) [] E0 (tCons (uVar 0) (tCons (tC (.int 3)) (tNil))))) (tOp (uIx K) (tC (.str "0123")) (tCall (sp__law_take K ca) [] E0 (tCons (uVar 0) (tCons (tC (.int 4)) (tNil)))))))
def t__law_word (K : PySem.W.Frag) (ca : Nat → Addr) : TS := tSeq (tAsg (tC (.str "abcdefghijklmnopqrstuvwxyz")) (gName 2)) (tRet (tM1 (uJoin K) (tC (.str "")) (tLc (iRng1 (tCons (tOp (uAdd K) (tC (.int 1)) (tCall (sp__law_take K ca) [] E0 (tCons (uVar 0) (tCons (uVar 1) (tNil))))) (tNil))) (gName 3) (tYes) (tOp (uIx K) (uVar 2) (tCall (sp__law_take K ca) [] E0 (tCons (uVar 0) (tCons (tC (.int 26)) (tNil))))) [3])))
def t__law_text (K : PySem.W.Frag) (ca : Nat → Addr) : TS := tSeq (tAsg (tLst (tNil)) (gName 3)) (tSeq (tFor (iRng1 (tCons (uVar 1) (tNil))) (gName 4) (tSeq (tAsg (uIf (uT (tOp uGt (uVar 4) (tC (.int 0)))) (tCall (sp__law_mark K ca) [] E0 (tCons (uVar 0) (tNil))) (tOp (uAdd K) (tC (.str "#")) (tOp (uIx K) (tC (.str "0123")) (tCall (sp__law_take K ca) [] E0 (tCons (uVar 0) (tCons (tC (.int 4)) (tNil))))))) (gName 5)) (tDrop (tBM K "list" uAppend (uVar 3) (tCons (tTup (tCons (uVar 5) (tCons (tCall (sp__law_word K ca) [] E0 (tCons (uVar 0) (tCons (uVar 2) (tNil)))) (tNil)))) (tNil)))))) (tRet (uVar 3)))
def t__law_is_length (K : PySem.W.Frag) (ca : Nat → Addr) : TS := tRet (uAndV (uIsi .int (uVar 0)) (uAndV (uNotV (uIsi .bl (uVar 0))) (uChain uLe uLe (tC (.int 1)) (uVar 0) (tC (.int 30)))))
def t__law_good_item (K : PySem.W.Frag) (ca : Nat → Addr) : TS := tSeq (uIfS (uOr (uNot (uT (uIsi .tup (uVar 0)))) (uOr (uT (tOp (uNe2 K) (tCB (uLen K) (tCons (uVar 0) (tNil))) (tC (.int 3)))) (uOr (uNot (uT (tCB (uIsiT [.lst, .tup]) (tCons (tOp (uIx K) (uVar 0) (tC (.int 0))) (tCons (tTup (tCons (tC (.ty "list")) (tCons (tC (.ty "tuple")) (tNil)))) tNil))))) (uT (tOp (uEq2 K) (tCB (uLen K) (tCons (tOp (uIx K) (uVar 0) (tC (.int 0))) (tNil))) (tC (.int 0))))))) (tRet (tC (.bl false))) (tNext)) (tSeq (tFor (uEnum K (tCons (tOp (uIx K) (uVar 0) (tC (.int 0))) (tNil))) (gTs K 2 (gCons (gName 1) (gCons (gName 2) (gNil)))) (uIfS (uOr (uNot (uT (uIsi .str (uVar 2)))) (uOr (uT (tOp (uIn K true) (uVar 2) (tCall (sp__law_all_marks K ca) [] E0 tNil))) (uT (tOp (uIn K false) (uVar 2) (L2.tSl (uSl K) (tOp (uIx K) (uVar 0) (tC (.int 0))) (tNoPart) (uPart (uVar 1))))))) (tRet (tC (.bl false))) (tNext))) (tRet (uAndV (tCall (sp__law_is_length K ca) [] E0 (tCons (tOp (uIx K) (uVar 0) (tC (.int 1))) (tNil))) (uAndV (tCall (sp__law_is_length K ca) [] E0 (tCons (tOp (uIx K) (uVar 0) (tC (.int 2))) (tNil))) (tOp uLe (tOp (uIx K) (uVar 0) (tC (.int 1))) (tOp (uIx K) (uVar 0) (tC (.int 2))))))))
def t__law_good (K : PySem.W.Frag) (ca : Nat → Addr) : TS := tSeq (uIfS (uOr (uNot (uT (tCB (uIsiT [.lst, .tup]) (tCons (uVar 0) (tCons (tTup (tCons (tC (.ty "list")) (tCons (tC (.ty "tuple")) (tNil)))) tNil))))) (uNot (uT (uChain uLe uLe (tC (.int 1)) (tCB (uLen K) (tCons (uVar 0) (tNil))) (tC (.int 6)))))) (tRet (tC (.bl false))) (tNext)) (tRet (tOp (uEq3 K) (tLc (uIter K (uVar 0)) (gName 1) (uNot (uT (tCall (sp__law_good_item K ca) [] E0 (tCons (uVar 1) (tNil))))) (uVar 1) [1]) (tLst (tNil))))
def t__law_pattern (K : PySem.W.Frag) (ca : Nat → Addr) : TS := tSeq (tAsg (tOp (uAdd K) (tC (.int 1)) (tCall (sp__law_take K ca) [] E0 (tCons (uVar 0) (tCons (tC (.int 6)) (tNil))))) (gName 2)) (tSeq (tAsg (tCall (sp__law_take K ca) [] E0 (tCons (uVar 0) (tCons (tOp (uAdd K) (tCB (uLen K) (tCons (uVar 1) (tNil))) (tC (.int 1))) (tNil)))) (gName 3)) (tSeq (tAsg (uIf (uT (tOp uGt (tCall (sp__law_take K ca) [] E0 (tCons (uVar 0) (tCons (tC (.int 3)) (tNil)))) (tC (.int 0)))) (L2.tSl (uSl K) (uVar 1) (uPart (uVar 3)) (uPart (tOp (uAdd K) (uVar 3) (uVar 2)))) (tLst (tNil))) (gName 4)) (tSeq (uIfS (uT (tOp (uEq3 K) (uVar 4) (tLst (tNil)))) (tAsg (tLc (iRng1 (tCons (uVar 2) (tNil))) (gName 9) (tYes) (tTup (tCons (tCall (sp__law_mark K ca) [] E0 (tCons (uVar 0) (tNil))) (tCons (tOp uMul3 (tC (.str "a")) (tOp (uAdd K) (tC (.int 1)) (tCall (sp__law_take K ca) [] E0 (tCons (uVar 0) (tCons (tC (.int 6)) (tNil)))))) (tNil)))) [9]) (gName 4)) (tNext)) (tSeq (tAsg (tLst (tNil)) (gName 5)) (tSeq (tFor (uIter K (uVar 4)) (gTs K 2 (gCons (gName 6) (gCons (gName 7) (gNil)))) (tSeq (tAsg (tLst (tCons (uVar 6) (tNil))) (gName 8)) (tSeq (tFor (iRng1 (tCons (tCall (sp__law_take K ca) [] E0 (tCons (uVar 0) (tCons (tC (.int 5)) (tNil)))) (tNil))) (gName 9) (tSeq (tAsg (tCall (sp__law_mark K ca) [] E0 (tCons (uVar 0) (tNil))) (gName 10)) (tAsg (tOp (uAdd K) (uVar 8) (tOp uMul3 (tLst (tCons (uVar 10) (tNil))) (tCB uInt (tCons (tOp (uIn K true) (uVar 10) (uVar 8)) (tNil))))) (gName 8)))) (tSeq (tAsg (tCB uMax2 (tCons (tC (.int 1)) (tCons (tOp uSub (tCB (uLen K) (tCons (uVar 7) (tNil))) (tCall (sp__law_take K ca) [] E0 (tCons (uVar 0) (tCons (tC (.int 4)) (tNil))))) (tNil)))) (gName 11)) (tSeq (tAsg (tCall (sp__law_take K ca) [] E0 (tCons (uVar 0) (tCons (tCB (uLen K) (tCons (uVar 8) (tNil))) (tNil)))) (gName 12)) (tSeq (tAsg (tOp (uAdd K) (L2.tSl (uSl K) (uVar 8) (uPart (uVar 12)) (tNoPart)) (L2.tSl (uSl K) (uVar 8) (tNoPart) (uPart (uVar 12)))) (gName 8)) (tDrop (tBM K "list" uAppend (uVar 5) (tCons (tTup (tCons (tOp (uIx K) (tLst (tCons (uVar 8) (tCons (tCB (uTuple K) (tCons (uVar 8) (tNil))) (tNil)))) (tCall (sp__law_take K ca) [] E0 (tCons (uVar 0) (tCons (tC (.int 2)) (tNil))))) (tCons (uVar 11) (tCons (tCB uMin2 (tCons (tC (.int 30)) (tCons (tOp (uAdd K) (tCB (uLen K) (tCons (uVar 7) (tNil))) (tCall (sp__law_take K ca) [] E0 (tCons (uVar 0) (tCons (tC (.int 4)) (tNil))))) (tNil)))) (tNil))))) (tNil)))))))))) (tRet (uVar 5)))))))
def t__law_spoilt (K : PySem.W.Frag) (ca : Nat → Addr) : TS := tSeq (tAsg (tCB (uList K) (tCons (uVar 1) (tNil))) (gName 2)) (tSeq (tAsg (tCall (sp__law_take K ca) [] E0 (tCons (uVar 0) (tCons (tCB (uLen K) (tCons (uVar 2) (tNil))) (tNil)))) (gName 3)) (tSeq (tAsg (tOp (uIx K) (uVar 2) (uVar 3)) (gTs K 3 (gCons (gName 4) (gCons (gName 5) (gCons (gName 6) (gNil)))))) (tSeq (tPar2 4 7 (tCons (tCB (uList K) (tCons (uVar 4) (tNil))) (tCons (tCall (sp__law_take K ca) [] E0 (tCons (uVar 0) (tCons (tC (.int 12)) (tNil)))) (tNil)))) (tSeq (tAsg (tOp (uIx K) (tLst (tCons (tC .non) (tCons (tC (.bl true)) (tCons (tC (.str "a")) (tCons (tC (.int 0)) (tCons (tC (.int 31)) (tCons (tUn uNeg (tC (.int 1))) (tCons (tC (.str "1")) (tCons (tLst (tNil)) (tCons (tDNewK) (tCons (tC (.str "#4")) (tCons (tOp uPow (tC (.int 10)) (tC (.int 20))) (tNil))))))))))))) (tCall (sp__law_take K ca) [] E0 (tCons (uVar 0) (tCons (tC (.int 11)) (tNil))))) (gName 8)) (tSeq (uIfS (uT (tOp (uEq2 K) (uVar 7) (tC (.int 0)))) (tRet (tOp (uAdd K) (tOp (uAdd K) (tOp (uAdd K) (tOp (uAdd K) (tOp (uAdd K) (tOp (uAdd K) (uVar 2) (uVar 2)) (uVar 2)) (uVar 2)) (uVar 2)) (uVar 2)) (uVar 2))) (tNext)) (tSeq (uIfS (uT (tOp (uEq2 K) (uVar 7) (tC (.int 1)))) (tRet (tOp (uIx K) (tLst (tCons (tC .non) (tCons (tLst (tNil)) (tCons (tDNewK) (tCons (tC (.str "pattern")) (tCons (tOp (uIx K) (uVar 2) (tC (.int 0))) (tCons (tC (.int 7)) (tCons (tTup (tCons (tTup (tCons (uVar 4) (tCons (uVar 5) (tCons (uVar 6) (tNil))))) (tCons (tC .non) (tNil)))) (tNil))))))))) (tCall (sp__law_take K ca) [] E0 (tCons (uVar 0) (tCons (tC (.int 7)) (tNil)))))) (tNext)) (tSeq (tAsg (tLst (tCons (tTup (tCons (uVar 4) (tCons (tOp (uAdd K) (uVar 6) (tC (.int 1))) (tCons (uVar 6) (tNil))))) (tCons (tTup (tCons (tOp (uAdd K) (uVar 4) (L2.tSl (uSl K) (uVar 4) (tNoPart) (uPart (tC (.int 1))))) (tCons (uVar 5) (tCons (uVar 6) (tNil))))) (tCons (tTup (tCons (tLst (tNil)) (tCons (uVar 5) (tCons (uVar 6) (tNil))))) (tCons (tTup (tCons (uVar 4) (tCons (uVar 5) (tNil)))) (tCons (tLst (tCons (uVar 4) (tCons (uVar 5) (tCons (uVar 6) (tNil))))) (tNil))))))) (gName 9)) (tSeq (tAsg (tOp (uAdd K) (uVar 9) (tLst (tCons (tTup (tCons (tOp (uAdd K) (uVar 4) (tLst (tCons (uVar 8) (tNil)))) (tCons (uVar 5) (tCons (uVar 6) (tNil))))) (tCons (tTup (tCons (uVar 4) (tCons (uVar 8) (tCons (uVar 6) (tNil))))) (tCons (tTup (tCons (uVar 4) (tCons (uVar 5) (tCons (uVar 8) (tNil))))) (tCons (tTup (tCons (uVar 4) (tCons (tC (.int 1)) (tCons (tC (.int 31)) (tNil))))) (tCons (tTup (tCons (uVar 4) (tCons (tC (.int 1)) (tCons (tC (.bl true)) (tNil))))) (tNil)))))))) (gName 9)) (tSeq (tAsg (tOp (uIx K) (uVar 9) (tOp uSub (uVar 7) (tC (.int 2)))) (gSub (uVar 2) (uVar 3) uSetL)) (tRet (uVar 2)))))))))))
def t__law_told (K : PySem.W.Frag) (ca : Nat → Addr) : TS := tSeq (tAsg (tLst (tNil)) (gName 2)) (tSeq (uTry K (fun _ _ _ _ => False) [⟨.ref (ca 1), some 4, fun a cls d => tAsg (tOp (uAdd K) (uVar 2) (tLst (tCons (tC (.str "text")) (tCons (uXf K a cls d 4 "value") (tNil))))) (gName 2)⟩, ⟨.ref (ca 2), some 4, fun a cls d => tAsg (tOp (uAdd K) (uVar 2) (tLst (tCons (tC (.str "row")) (tCons (uXf K a cls d 4 "value") (tNil))))) (gName 2)⟩] (fun W => tForG (tCallX 2 (sp_pattern_places K ca) (WE (NSt K W)) (tCons (uVar 0) (tCons (uVar 1) (tNil)))) (gName 3) (tDrop (tBM K "list" uAppend (uVar 2) (tCons (uVar 3) (tNil)))))) (tRet (uVar 2)))
def t__law_due (K : PySem.W.Frag) (ca : Nat → Addr) : TS := tSeq (tAsg (tLst (tNil)) (gName 2)) (tSeq (tFor (iRng1 (tCons (tOp uSub (tOp (uAdd K) (tCB (uLen K) (tCons (uVar 0) (tNil))) (tC (.int 1))) (tCB (uLen K) (tCons (uVar 1) (tNil)))) (tNil))) (gName 3) (tSeq (tAsg (tC (.bl true)) (gName 4)) (tSeq (tFor (uEnum K (tCons (uVar 1) (tNil))) (gTs K 2 (gCons (gName 5) (gCons (gTs K 3 (gCons (gName 6) (gCons (gName 7) (gCons (gName 8) (gNil))))) (gNil)))) (tSeq (tAsg (tOp (uIx K) (uVar 0) (tOp (uAdd K) (uVar 3) (uVar 5))) (gTs K 2 (gCons (gName 9) (gCons (gName 10) (gNil))))) (tAsg (uAndV (uVar 4) (uAndV (tOp (uIn K false) (uVar 9) (uVar 6)) (uChain uLe uLe (uVar 7) (tCB (uLen K) (tCons (uVar 10) (tNil))) (uVar 8)))) (gName 4)))) (tAsg (tOp (uAdd K) (uVar 2) (tOp uMul3 (tLst (tCons (uVar 3) (tNil))) (tCB uInt (tCons (uVar 4) (tNil))))) (gName 2))))) (tRet (uVar 2)))
def t__law_right (K : PySem.W.Frag) (ca : Nat → Addr) : TS := tSeq (tAsg (tCall (sp__law_text K ca) [] E0 (tCons (uVar 0) (tCons (tCall (sp__law_take K ca) [] E0 (tCons (uVar 0) (tCons (tC (.int 25)) (tNil)))) (tCons (tOp (uIx K) (tLst (tCons (tC (.int 2)) (tCons (tC (.int 5)) (tCons (tC (.int 30)) (tNil))))) (tCall (sp__law_take K ca) [] E0 (tCons (uVar 0) (tCons (tC (.int 3)) (tNil))))) (tNil))))) (gName 1)) (tSeq (uIfS (uT (tOp (uEq2 K) (tCall (sp__law_take K ca) [] E0 (tCons (uVar 0) (tCons (tC (.int 2)) (tNil)))) (tC (.int 0)))) (tAsg (tOp (uAdd K) (L2.tSl (uSl K) (uVar 1) (tNoPart) (uPart (tC (.int 1)))) (tLc (uIter K (L2.tSl (uSl K) (uVar 1) (uPart (tC (.int 1))) (tNoPart))) (gTs K 2 (gCons (gName 9) (gCons (gName 8) (gNil)))) (tYes) (tTup (tCons (tOp (uIx K) (tLst (tCons (tC (.str " ")) (tCons (tC (.str "/0")) (tNil)))) (tCall (sp__law_take K ca) [] E0 (tCons (uVar 0) (tCons (tC (.int 2)) (tNil))))) (tCons (L2.tSl (uSl K) (uVar 8) (tNoPart) (uPart (tC (.int 2)))) (tNil)))) [9, 8])) (gName 1)) (tNext)) (tSeq (tFor (iRng1 (tCons (tC (.int 3)) (tNil))) (gName 2) (tSeq (tAsg (tCall (sp__law_pattern K ca) [] E0 (tCons (uVar 0) (tCons (uVar 1) (tNil)))) (gName 3)) (tSeq (tAsg (tCB (uRepr3 K) (tCons (tLst (tCons (uVar 1) (tCons (uVar 3) (tNil)))) (tNil))) (gName 4)) (tSeq (uIfS (uOr (uT (tOp (uIs3 true) (tCall (sp_is_pattern K ca) [] E0 (tCons (uVar 3) (tNil))) (tC (.bl true)))) (uT (tOp (uIs3 true) (tCall (sp_is_pattern K ca) [] E0 (tCons (tCB (uTuple K) (tCons (uVar 3) (tNil))) (tNil))) (tC (.bl true))))) (tRet (tC (.bl false))) (tNext)) (tSeq (uIfS (uOr (uT (tOp (uNe2 K) (tCall (sp__law_told K ca) [] E0 (tCons (uVar 1) (tCons (uVar 3) (tNil)))) (tCall (sp__law_due K ca) [] E0 (tCons (uVar 1) (tCons (uVar 3) (tNil)))))) (uT (tOp (uNe2 K) (tCB (uRepr3 K) (tCons (tLst (tCons (uVar 1) (tCons (uVar 3) (tNil)))) (tNil))) (uVar 4)))) (tRet (tC (.bl false))) (tNext)) (tSeq (uIfS (uT (tOp (uNe2 K) (tCall (sp__law_told K ca) [] E0 (tCons (tCB (uTuple K) (tCons (uVar 1) (tNil))) (tCons (tCB (uTuple K) (tCons (uVar 3) (tNil))) (tNil)))) (tCall (sp__law_due K ca) [] E0 (tCons (uVar 1) (tCons (uVar 3) (tNil)))))) (tRet (tC (.bl false))) (tNext)) (tSeq (tAsg (tCall (sp__law_spoilt K ca) [] E0 (tCons (uVar 0) (tCons (uVar 3) (tNil)))) (gName 5)) (tSeq (uIfS (uT (tOp (uNe2 K) (tCB (uRepr3 K) (tCons (tCall (sp_is_pattern K ca) [] E0 (tCons (uVar 5) (tNil))) (tNil))) (tCB (uRepr3 K) (tCons (tCall (sp__law_good K ca) [] E0 (tCons (uVar 5) (tNil))) (tNil))))) (tRet (tC (.bl false))) (tNext)) (tSeq (uIfS (uAnd (uNot (uT (tCall (sp__law_good K ca) [] E0 (tCons (uVar 5) (tNil))))) (uT (tOp (uNe2 K) (tCB (uRepr3 K) (tCons (tCall (sp__law_told K ca) [] E0 (tCons (uVar 1) (tCons (uVar 5) (tNil)))) (tNil))) (tCB (uRepr3 K) (tCons (tLst (tCons (tC (.str "row")) (tCons (uVar 5) (tNil)))) (tNil)))))) (tRet (tC (.bl false))) (tNext)) (tSeq (tAsg (tOp (uIx K) (tLst (tCons (tC .non) (tCons (tC (.str "a")) (tCons (tOp (uAdd K) (uVar 1) (tLst (tCons (tTup (tCons (tC (.str "#4")) (tCons (tC (.str "a")) (tNil)))) (tNil)))) (tCons (tOp (uAdd K) (tLst (tCons (tTup (tCons (tC (.str "|0")) (tCons (tC (.str "a")) (tNil)))) (tNil))) (uVar 1)) (tCons (tC (.int 7)) (tCons (tOp (uAdd K) (tLst (tCons (tLst (tCons (tC (.str "#0")) (tCons (tC (.str "a")) (tNil)))) (tNil))) (uVar 1)) (tNil)))))))) (tCall (sp__law_take K ca) [] E0 (tCons (uVar 0) (tCons (tC (.int 6)) (tNil))))) (gName 6)) (tSeq (uIfS (uT (tOp (uNe2 K) (tCB (uRepr3 K) (tCons (tCall (sp__law_told K ca) [] E0 (tCons (uVar 6) (tCons (uVar 5) (tNil)))) (tNil))) (tCB (uRepr3 K) (tCons (tLst (tCons (tC (.str "text")) (tCons (uVar 6) (tNil)))) (tNil))))) (tRet (tC (.bl false))) (tNext)) (tSeq (tAsg (tCall (sp__law_told K ca) [] E0 (tCons (uVar 1) (tCons (uVar 5) (tNil)))) (gName 7)) (uIfS (uAnd (uT (uIsi .lst (uVar 5))) (uNot (uT (tCall (sp__law_good K ca) [] E0 (tCons (uVar 5) (tNil)))))) (tSeq (tDrop (tBM K "list" uAppend (uVar 5) (tCons (tC (.str "late")) (tNil)))) (uIfS (uT (tOp (uNe2 K) (tCB (uRepr3 K) (tCons (uVar 7) (tNil))) (tCB (uRepr3 K) (tCons (tLst (tCons (tC (.str "row")) (tCons (uVar 5) (tNil)))) (tNil))))) (tRet (tC (.bl false))) (tNext))) (tNext)))))))))))))) (tRet (tC (.bl true)))))
def t_law (K : PySem.W.Frag) (ca : Nat → Addr) : TS := tSeq (tFor (iRng1 (tCons (tCB uMax2 (tCons (tC (.int 2)) (tCons (tCB uMin2 (tCons (tC (.int 16)) (tCons (tCB (uLen K) (tCons (uVar 0) (tNil))) (tNil)))) (tNil)))) (tNil))) (gName 1) (uIfS (uNot (uT (tCall (sp__law_right K ca) [] E0 (tCons (tCall (sp__law_purse K ca) [] E0 (tCons (tCall (sp__law_cell K ca) [] E0 (tCons (uVar 0) (tCons (uVar 1) (tNil)))) (tNil))) (tNil))))) (tRet (tC (.bl false))) (tNext))) (tRet (tC (.bl true)))
structure Ct (K : PySem.W.Frag) (ca : Nat → Addr) : Prop where
  yes : True
  x_InvalidText : XfC K (ca 1)
  n_InvalidText : PySem.W.findIn K (.ref (ca 1)) "value" = some none
  x_InvalidRow : XfC K (ca 2)
  n_InvalidRow : PySem.W.findIn K (.ref (ca 2)) "value" = some none
  e_InvalidRow_InvalidRow : PySem.W.exmOne K (.ref (ca 2)) (.ref (ca 2)) = some true
  e_InvalidRow_InvalidText : PySem.W.exmOne K (.ref (ca 2)) (.ref (ca 1)) = some false
  e_InvalidText_InvalidRow : PySem.W.exmOne K (.ref (ca 1)) (.ref (ca 2)) = some false
  e_InvalidText_InvalidText : PySem.W.exmOne K (.ref (ca 1)) (.ref (ca 1)) = some true
  ns_InvalidRow : PySem.W.subIn K (.ref (ca 2)) (.type "StopIteration") = some false
  ns_InvalidText : PySem.W.subIn K (.ref (ca 1)) (.type "StopIteration") = some false
structure Tx (P : Program) (K : PySem.W.Frag) (mg : Str → Option Value) (a : Nat → Addr) (d : Nat → FuncData) (ca : Nat → Addr) : Prop where
  ct : Ct K ca
  f_is_integer : Fun K "is_integer" "is_integer" s_is_integer (a 0) (d 0)
  b_is_integer : Binds K (d 0) P_is_integer []
  m_is_integer : mg "is_integer" = some (.ref (a 0))
  f_is_word : Fun K "is_word" "is_word" s_is_word (a 1) (d 1)
  b_is_word : Binds K (d 1) P_is_word []
  m_is_word : mg "is_word" = some (.ref (a 1))
  f_is_mark : Fun K "is_mark" "is_mark" s_is_mark (a 2) (d 2)
  b_is_mark : Binds K (d 2) P_is_mark []
  m_is_mark : mg "is_mark" = some (.ref (a 2))
  f_is_token : Fun K "is_token" "is_token" s_is_token (a 3) (d 3)
  b_is_token : Binds K (d 3) P_is_token []
  m_is_token : mg "is_token" = some (.ref (a 3))
  f_is_text : Fun K "is_text" "is_text" s_is_text (a 4) (d 4)
  b_is_text : Binds K (d 4) P_is_text []
  m_is_text : mg "is_text" = some (.ref (a 4))
  f_need_text : Fun K "need_text" "need_text" s_need_text (a 5) (d 5)
  b_need_text : Binds K (d 5) P_need_text []
  m_need_text : mg "need_text" = some (.ref (a 5))
  f_is_item : Fun K "is_item" "is_item" s_is_item (a 6) (d 6)
  b_is_item : Binds K (d 6) P_is_item []
  m_is_item : mg "is_item" = some (.ref (a 6))
  f_is_pattern : Fun K "is_pattern" "is_pattern" s_is_pattern (a 7) (d 7)
  b_is_pattern : Binds K (d 7) P_is_pattern []
  m_is_pattern : mg "is_pattern" = some (.ref (a 7))
  f_need_pattern : Fun K "need_pattern" "need_pattern" s_need_pattern (a 8) (d 8)
  b_need_pattern : Binds K (d 8) P_need_pattern []
  m_need_pattern : mg "need_pattern" = some (.ref (a 8))
  f_is_of : Fun K "is_of" "is_of" s_is_of (a 9) (d 9)
  b_is_of : Binds K (d 9) P_is_of []
  m_is_of : mg "is_of" = some (.ref (a 9))
  f_pattern_places : Fun K "pattern_places" "pattern_places" s_pattern_places (a 10) (d 10)
  b_pattern_places : Binds K (d 10) P_pattern_places []
  m_pattern_places : mg "pattern_places" = some (.ref (a 10))
  f__law_cell : Fun K "_law_cell" "_law_cell" s__law_cell (a 11) (d 11)
  b__law_cell : Binds K (d 11) P__law_cell []
  m__law_cell : mg "_law_cell" = some (.ref (a 11))
  f__law_purse : Fun K "_law_purse" "_law_purse" s__law_purse (a 12) (d 12)
  b__law_purse : Binds K (d 12) P__law_purse []
  m__law_purse : mg "_law_purse" = some (.ref (a 12))
  f__law_take : Fun K "_law_take" "_law_take" s__law_take (a 13) (d 13)
  b__law_take : Binds K (d 13) P__law_take []
  m__law_take : mg "_law_take" = some (.ref (a 13))
  f__law_all_marks : Fun K "_law_all_marks" "_law_all_marks" s__law_all_marks (a 14) (d 14)
  b__law_all_marks : Binds K (d 14) P__law_all_marks []
  m__law_all_marks : mg "_law_all_marks" = some (.ref (a 14))
  f__law_mark : Fun K "_law_mark" "_law_mark" s__law_mark (a 15) (d 15)
  b__law_mark : Binds K (d 15) P__law_mark []
  m__law_mark : mg "_law_mark" = some (.ref (a 15))
  f__law_word : Fun K "_law_word" "_law_word" s__law_word (a 16) (d 16)
  b__law_word : Binds K (d 16) P__law_word []
  m__law_word : mg "_law_word" = some (.ref (a 16))
  f__law_text : Fun K "_law_text" "_law_text" s__law_text (a 17) (d 17)
  b__law_text : Binds K (d 17) P__law_text []
  m__law_text : mg "_law_text" = some (.ref (a 17))
  f__law_is_length : Fun K "_law_is_length" "_law_is_length" s__law_is_length (a 18) (d 18)
  b__law_is_length : Binds K (d 18) P__law_is_length []
  m__law_is_length : mg "_law_is_length" = some (.ref (a 18))
  f__law_good_item : Fun K "_law_good_item" "_law_good_item" s__law_good_item (a 19) (d 19)
  b__law_good_item : Binds K (d 19) P__law_good_item []
  m__law_good_item : mg "_law_good_item" = some (.ref (a 19))
  f__law_good : Fun K "_law_good" "_law_good" s__law_good (a 20) (d 20)
  b__law_good : Binds K (d 20) P__law_good []
  m__law_good : mg "_law_good" = some (.ref (a 20))
  f__law_pattern : Fun K "_law_pattern" "_law_pattern" s__law_pattern (a 21) (d 21)
  b__law_pattern : Binds K (d 21) P__law_pattern []
  m__law_pattern : mg "_law_pattern" = some (.ref (a 21))
  f__law_spoilt : Fun K "_law_spoilt" "_law_spoilt" s__law_spoilt (a 22) (d 22)
  b__law_spoilt : Binds K (d 22) P__law_spoilt []
  m__law_spoilt : mg "_law_spoilt" = some (.ref (a 22))
  f__law_told : Fun K "_law_told" "_law_told" s__law_told (a 23) (d 23)
  b__law_told : Binds K (d 23) P__law_told []
  m__law_told : mg "_law_told" = some (.ref (a 23))
  f__law_due : Fun K "_law_due" "_law_due" s__law_due (a 24) (d 24)
  b__law_due : Binds K (d 24) P__law_due []
  m__law_due : mg "_law_due" = some (.ref (a 24))
  f__law_right : Fun K "_law_right" "_law_right" s__law_right (a 25) (d 25)
  b__law_right : Binds K (d 25) P__law_right []
  m__law_right : mg "_law_right" = some (.ref (a 25))
  f_law : Fun K "law" "law" s_law (a 26) (d 26)
  b_law : Binds K (d 26) P_law []
  m_law : mg "law" = some (.ref (a 26))
  x_InvalidText : U.ExcC K mg "InvalidText" "value" (ca 1) (a 27)
  F_InvalidText : Fun K "__init__" "InvalidText.__init__" sI_InvalidText (a 27) (d 27)
  i_InvalidText : Binds K (d 27) ["self", "value"] []
  m_InvalidText : mg "InvalidText" = some (.ref (ca 1))
  x_InvalidRow : U.ExcC K mg "InvalidRow" "value" (ca 2) (a 28)
  F_InvalidRow : Fun K "__init__" "InvalidRow.__init__" sI_InvalidRow (a 28) (d 28)
  i_InvalidRow : Binds K (d 28) ["self", "value"] []
  m_InvalidRow : mg "InvalidRow" = some (.ref (ca 2))
  y_ReflowError : U.BaseC K (ca 0)
  w_ReflowError : mg "ReflowError" = some (.ref (ca 0))
  z_all : mg "all" = none
  z_bool : mg "bool" = none
  z_enumerate : mg "enumerate" = none
  z_int : mg "int" = none
  z_isinstance : mg "isinstance" = none
  z_len : mg "len" = none
  z_list : mg "list" = none
  z_max : mg "max" = none
  z_min : mg "min" = none
  z_range : mg "range" = none
  z_repr : mg "repr" = none
  z_set : mg "set" = none
  z_str : mg "str" = none
  z_tuple : mg "tuple" = none
  z_zip : mg "zip" = none
  c_KINDS : ∃ t, mg "KINDS" = some (.str "#|/" t)
  c_LETTERS : ∃ t, mg "LETTERS" = some (.str "abcdefghijklmnopqrstuvwxyz" t)
  c_MOST_ITEMS : ∃ t, mg "MOST_ITEMS" = some (.int (6) t)
  c_MOST_LETTERS : ∃ t, mg "MOST_LETTERS" = some (.int (30) t)
section
variable {K : PySem.W.Frag} {ca : Nat → Addr}
theorem hem_ (T : Ct K ca) : ∀ c h b, em_ c h = some b → PySem.W.exmOne K (.ref (ca c)) (.ref (ca h)) = some b := by
  intro c h b e; unfold em_ at e; split at e
  · cases e; exact T.e_InvalidRow_InvalidRow
  · cases e; exact T.e_InvalidRow_InvalidText
  · cases e; exact T.e_InvalidText_InvalidRow
  · cases e; exact T.e_InvalidText_InvalidText
  · cases e
theorem hxf_ (T : Ct K ca) : ∀ c f, xf_ c f = true → XfC K (ca c) ∧ PySem.W.findIn K (.ref (ca c)) f = some none := by
  intro c f e; unfold xf_ at e; split at e
  · have e := of_decide_eq_true e; subst e; exact ⟨T.x_InvalidText, T.n_InvalidText⟩
  · have e := of_decide_eq_true e; subst e; exact ⟨T.x_InvalidRow, T.n_InvalidRow⟩
  · cases e
theorem hns_pattern_places (T : Ct K ca) : ∀ c ∈ ([1, 2] : List Nat), PySem.W.subIn K (.ref (ca c)) (.type "StopIteration") = some false := by
  intro c hc; simp only [List.mem_cons, List.not_mem_nil, or_false] at hc
  rcases hc with rfl | rfl
  · exact T.ns_InvalidText
  · exact T.ns_InvalidRow
theorem a_is_integer (T : Ct K ca) : SS ⟨K, ca, none, none⟩ NoE (t_is_integer K ca) b_is_integer :=
  ss_ret (se_and (se_isi .int (se_var 0)) (se_and (se_not (se_isi .bl (se_var 0))) (se_chain (sr_cmp _ _) (sr_cmp _ _) (se_var 1) (se_var 0) (se_var 2))))
theorem len_is_integer {vs : List V} {H : Hp} {Q : VK} {E : XK} (h : sp_is_integer K ca vs H Q E) : vs.length = P_is_integer.length := nox_len (N := N_is_integer) (P := P_is_integer) h
theorem p_is_integer (T : Ct K ca) {vs : List V} {H : Hp} {Q : VK} {E : XK} (h : sp_is_integer K ca vs H Q E) : t_is_integer K ca { nx := fun _ H' => Q .non H', rt := Q } (L2.start N_is_integer vs) H := nox_ok (N := N_is_integer) (P := P_is_integer) (a_is_integer T) h
theorem a_is_word (T : Ct K ca) : SS ⟨K, ca, none, none⟩ NoE (t_is_word K ca) b_is_word :=
  ss_seq (ss_if (st_or (st_not (st_val (se_isi .str (se_var 0)))) (st_not (st_val (se_chain (sr_cmp _ _) (sr_cmp _ _) (se_int _) (se_cb sc_len (sa_cons (se_var 0) (sa_nil))) (se_int _))))) (ss_ret (se_bl _)) (ss_next)) (ss_ret (se_cb sc_all (sa_cons (se_lc (si_iter (se_var 0)) (sg_name 1) (st_yes) (se_op (sr_in false) (se_var 1) (se_str _))) (sa_nil))))
theorem len_is_word {vs : List V} {H : Hp} {Q : VK} {E : XK} (h : sp_is_word K ca vs H Q E) : vs.length = P_is_word.length := nox_len (N := N_is_word) (P := P_is_word) h
theorem p_is_word (T : Ct K ca) {vs : List V} {H : Hp} {Q : VK} {E : XK} (h : sp_is_word K ca vs H Q E) : t_is_word K ca { nx := fun _ H' => Q .non H', rt := Q } (L2.start N_is_word vs) H := nox_ok (N := N_is_word) (P := P_is_word) (a_is_word T) h
theorem a_is_mark (T : Ct K ca) : SS ⟨K, ca, none, none⟩ NoE (t_is_mark K ca) b_is_mark :=
  ss_seq (ss_if (st_not (st_val (se_isi .str (se_var 0)))) (ss_ret (se_bl _)) (ss_next)) (ss_ret (se_or (se_op sr_eq (se_var 0) (se_str _)) (se_and (se_op sr_eq (se_cb sc_len (sa_cons (se_var 0) (sa_nil))) (se_int _)) (se_and (se_op (sr_in false) (se_op sr_ix (se_var 0) (se_int _)) (se_str _)) (se_op (sr_in false) (se_op sr_ix (se_var 0) (se_int _)) (se_str _))))))
theorem len_is_mark {vs : List V} {H : Hp} {Q : VK} {E : XK} (h : sp_is_mark K ca vs H Q E) : vs.length = P_is_mark.length := nox_len (N := N_is_mark) (P := P_is_mark) h
theorem p_is_mark (T : Ct K ca) {vs : List V} {H : Hp} {Q : VK} {E : XK} (h : sp_is_mark K ca vs H Q E) : t_is_mark K ca { nx := fun _ H' => Q .non H', rt := Q } (L2.start N_is_mark vs) H := nox_ok (N := N_is_mark) (P := P_is_mark) (a_is_mark T) h
theorem a_is_token (T : Ct K ca) : SS ⟨K, ca, none, none⟩ NoE (t_is_token K ca) b_is_token :=
  ss_ret (se_and (se_isi .tup (se_var 0)) (se_and (se_op sr_eq (se_cb sc_len (sa_cons (se_var 0) (sa_nil))) (se_int _)) (se_and (se_callN (nox_no _) (sa_cons (se_op sr_ix (se_var 0) (se_int _)) (sa_nil))) (se_callN (nox_no _) (sa_cons (se_op sr_ix (se_var 0) (se_int _)) (sa_nil))))))
theorem len_is_token {vs : List V} {H : Hp} {Q : VK} {E : XK} (h : sp_is_token K ca vs H Q E) : vs.length = P_is_token.length := nox_len (N := N_is_token) (P := P_is_token) h
theorem p_is_token (T : Ct K ca) {vs : List V} {H : Hp} {Q : VK} {E : XK} (h : sp_is_token K ca vs H Q E) : t_is_token K ca { nx := fun _ H' => Q .non H', rt := Q } (L2.start N_is_token vs) H := nox_ok (N := N_is_token) (P := P_is_token) (a_is_token T) h
theorem a_is_text (T : Ct K ca) : SS ⟨K, ca, none, none⟩ NoE (t_is_text K ca) b_is_text :=
  ss_seq (ss_if (st_or (st_not (st_val (se_isiT [.lst, .tup] (se_var 0)))) (st_not (st_val (se_cb sc_all (sa_cons (se_lc (si_iter (se_var 0)) (sg_name 1) (st_yes) (se_callN (nox_no _) (sa_cons (se_var 1) (sa_nil)))) (sa_nil)))))) (ss_ret (se_bl _)) (ss_next)) (ss_ret (se_or (se_op sr_eq (se_cb sc_len (sa_cons (se_var 0) (sa_nil))) (se_int _)) (se_op sr_eq (se_op sr_ix (se_op sr_ix (se_op sr_ix (se_var 0) (se_int _)) (se_int _)) (se_int _)) (se_str _))))
theorem len_is_text {vs : List V} {H : Hp} {Q : VK} {E : XK} (h : sp_is_text K ca vs H Q E) : vs.length = P_is_text.length := nox_len (N := N_is_text) (P := P_is_text) h
theorem p_is_text (T : Ct K ca) {vs : List V} {H : Hp} {Q : VK} {E : XK} (h : sp_is_text K ca vs H Q E) : t_is_text K ca { nx := fun _ H' => Q .non H', rt := Q } (L2.start N_is_text vs) H := nox_ok (N := N_is_text) (P := P_is_text) (a_is_text T) h
theorem a_need_text (T : Ct K ca) {E : XK} : SS ⟨K, ca, none, none⟩ (fun cls d _ H => E cls d H) (t_need_text K ca E) b_need_text :=
  ss_if (st_not (st_val (se_callN (nox_no _) (sa_cons (se_var 0) (sa_nil))))) (ss_raise (fun _ _ _ _ h => h) (sa_cons (se_var 0) (sa_nil))) (ss_next)
theorem len_need_text {vs : List V} {H : Hp} {Q : VK} {E : XK} (h : sp_need_text K ca vs H Q E) : vs.length = P_need_text.length := run_len (N := N_need_text) (P := P_need_text) h
theorem p_need_text (T : Ct K ca) {vs : List V} {H : Hp} {Q : VK} {E : XK} (h : sp_need_text K ca vs H Q E) : t_need_text K ca E { nx := fun _ H' => Q .non H', rt := Q } (L2.start N_need_text vs) H := run_ok (N := N_need_text) (P := P_need_text) (a_need_text T) h
theorem a_is_item (T : Ct K ca) : SS ⟨K, ca, none, none⟩ NoE (t_is_item K ca) b_is_item :=
  ss_seq (ss_if (st_or (st_not (st_val (se_isi .tup (se_var 0)))) (st_val (se_op sr_ne (se_cb sc_len (sa_cons (se_var 0) (sa_nil))) (se_int _)))) (ss_ret (se_bl _)) (ss_next)) (ss_seq (ss_asg (se_var 0) (sg_ts (sgs_cons (sg_name 1) (sgs_cons (sg_name 2) (sgs_cons (sg_name 3) (sgs_nil)))))) (ss_seq (ss_if (st_or (st_not (st_val (se_isiT [.lst, .tup] (se_var 1)))) (st_or (st_val (se_op sr_eq (se_cb sc_len (sa_cons (se_var 1) (sa_nil))) (se_int _))) (st_not (st_val (se_cb sc_all (sa_cons (se_lc (si_iter (se_var 1)) (sg_name 4) (st_yes) (se_callN (nox_no _) (sa_cons (se_var 4) (sa_nil)))) (sa_nil))))))) (ss_ret (se_bl _)) (ss_next)) (ss_seq (ss_if (st_or (st_not (st_val (se_callN (nox_no _) (sa_cons (se_var 2) (sa_cons (se_int _) (sa_cons (se_int _) (sa_nil))))))) (st_not (st_val (se_callN (nox_no _) (sa_cons (se_var 3) (sa_cons (se_var 2) (sa_cons (se_int _) (sa_nil)))))))) (ss_ret (se_bl _)) (ss_next)) (ss_ret (se_op sr_eq (se_lenD (se_var 1)) (se_cb sc_len (sa_cons (se_var 1) (sa_nil))))))))
theorem len_is_item {vs : List V} {H : Hp} {Q : VK} {E : XK} (h : sp_is_item K ca vs H Q E) : vs.length = P_is_item.length := nox_len (N := N_is_item) (P := P_is_item) h
theorem p_is_item (T : Ct K ca) {vs : List V} {H : Hp} {Q : VK} {E : XK} (h : sp_is_item K ca vs H Q E) : t_is_item K ca { nx := fun _ H' => Q .non H', rt := Q } (L2.start N_is_item vs) H := nox_ok (N := N_is_item) (P := P_is_item) (a_is_item T) h
theorem a_is_pattern (T : Ct K ca) : SS ⟨K, ca, none, none⟩ NoE (t_is_pattern K ca) b_is_pattern :=
  ss_seq (ss_if (st_or (st_not (st_val (se_isiT [.lst, .tup] (se_var 0)))) (st_not (st_val (se_chain (sr_cmp _ _) (sr_cmp _ _) (se_int _) (se_cb sc_len (sa_cons (se_var 0) (sa_nil))) (se_int _))))) (ss_ret (se_bl _)) (ss_next)) (ss_ret (se_cb sc_all (sa_cons (se_lc (si_iter (se_var 0)) (sg_name 1) (st_yes) (se_callN (nox_no _) (sa_cons (se_var 1) (sa_nil)))) (sa_nil))))
theorem len_is_pattern {vs : List V} {H : Hp} {Q : VK} {E : XK} (h : sp_is_pattern K ca vs H Q E) : vs.length = P_is_pattern.length := nox_len (N := N_is_pattern) (P := P_is_pattern) h
theorem p_is_pattern (T : Ct K ca) {vs : List V} {H : Hp} {Q : VK} {E : XK} (h : sp_is_pattern K ca vs H Q E) : t_is_pattern K ca { nx := fun _ H' => Q .non H', rt := Q } (L2.start N_is_pattern vs) H := nox_ok (N := N_is_pattern) (P := P_is_pattern) (a_is_pattern T) h
theorem a_need_pattern (T : Ct K ca) {E : XK} : SS ⟨K, ca, none, none⟩ (fun cls d _ H => E cls d H) (t_need_pattern K ca E) b_need_pattern :=
  ss_if (st_not (st_val (se_callN (nox_no _) (sa_cons (se_var 0) (sa_nil))))) (ss_raise (fun _ _ _ _ h => h) (sa_cons (se_var 0) (sa_nil))) (ss_next)
theorem len_need_pattern {vs : List V} {H : Hp} {Q : VK} {E : XK} (h : sp_need_pattern K ca vs H Q E) : vs.length = P_need_pattern.length := run_len (N := N_need_pattern) (P := P_need_pattern) h
theorem p_need_pattern (T : Ct K ca) {vs : List V} {H : Hp} {Q : VK} {E : XK} (h : sp_need_pattern K ca vs H Q E) : t_need_pattern K ca E { nx := fun _ H' => Q .non H', rt := Q } (L2.start N_need_pattern vs) H := run_ok (N := N_need_pattern) (P := P_need_pattern) (a_need_pattern T) h
theorem a_is_of (T : Ct K ca) : SS ⟨K, ca, none, none⟩ NoE (t_is_of K ca) b_is_of :=
  ss_seq (ss_asg (se_var 0) (sg_ts (sgs_cons (sg_name 3) (sgs_cons (sg_name 4) (sgs_cons (sg_name 5) (sgs_nil)))))) (ss_ret (se_and (se_op (sr_in false) (se_var 1) (se_var 3)) (se_chain (sr_cmp _ _) (sr_cmp _ _) (se_var 4) (se_var 2) (se_var 5))))
theorem len_is_of {vs : List V} {H : Hp} {Q : VK} {E : XK} (h : sp_is_of K ca vs H Q E) : vs.length = P_is_of.length := nox_len (N := N_is_of) (P := P_is_of) h
theorem p_is_of (T : Ct K ca) {vs : List V} {H : Hp} {Q : VK} {E : XK} (h : sp_is_of K ca vs H Q E) : t_is_of K ca { nx := fun _ H' => Q .non H', rt := Q } (L2.start N_is_of vs) H := nox_ok (N := N_is_of) (P := P_is_of) (a_is_of T) h
theorem ar_pattern_places (T : Ct K ca) {E : XK} : SGR ⟨K, ca, none, none⟩ (fun cls d _ H => E cls d H) (t_pattern_places K ca E) br_pattern_places :=
  sgr_cons (ss_expr (se_call (fun _ _ _ _ h => h) (sa_cons (se_var 0) (sa_nil)))) (sgr_cons (ss_expr (se_call (fun _ _ _ _ h => h) (sa_cons (se_var 1) (sa_nil)))) (sgr_stop))
theorem a_pattern_places (T : Ct K ca) {E : XK} : SGB ⟨K, ca, none, none⟩ (fun cls d _ H => E cls d H) (t_pattern_places K ca E) b_pattern_places :=
  sgb_cons (ss_expr (se_call (fun _ _ _ _ h => h) (sa_cons (se_var 0) (sa_nil)))) (sgb_cons (ss_expr (se_call (fun _ _ _ _ h => h) (sa_cons (se_var 1) (sa_nil)))) (sgb_for (si_rng1 (sa_cons (se_op sr_sub (se_op sr_addT (se_cb sc_len (sa_cons (se_var 0) (sa_nil))) (se_int _)) (se_cb sc_len (sa_cons (se_var 1) (sa_nil)))) (sa_nil))) (sg_name 2) (sgn_seq (sgn_pl (ss_asg (se_slT (se_var 0) (so_some (se_var 2)) (so_some (se_op sr_addT (se_var 2) (se_cb sc_len (sa_cons (se_var 1) (sa_nil)))))) (sg_name 3))) (sgn_seq (sgn_if (st_val (se_cb sc_all (sa_cons (se_lc (si_zipC (sa_cons (se_var 1) (sa_cons (se_var 3) (sa_nil)))) (sg_ts (sgs_cons (sg_name 4) (sgs_cons (sg_ts (sgs_cons (sg_name 5) (sgs_cons (sg_name 6) (sgs_nil)))) (sgs_nil)))) (st_yes) (se_callN (nox_no _) (sa_cons (se_var 4) (sa_cons (se_var 5) (sa_cons (se_cb sc_len (sa_cons (se_var 6) (sa_nil))) (sa_nil)))))) (sa_nil)))) (sgn_seq (sgn_yd (se_var 2)) (sgn_nil)) (sgn_nil)) (sgn_nil)))))
theorem len_pattern_places {Γ : Type} {vs : List V} {H : Hp} {γ : Γ} {YL : YLT Γ} {EN : Hp → Γ → Prop} {E : XK} (h : sp_pattern_places K ca Γ vs H γ YL EN E) : vs.length = P_pattern_places.length := runG2_len (N := N_pattern_places) (P := P_pattern_places) h
theorem p_pattern_places (T : Ct K ca) {Γ : Type} {vs : List V} {H : Hp} {γ : Γ} {YL : YLT Γ} {EN : Hp → Γ → Prop} {E : XK} (h : sp_pattern_places K ca Γ vs H γ YL EN E) : ∃ n, t_pattern_places K ca E Γ { nx := fun _ _ H' γ' => EN H' γ', rt := fun _ v H' γ' => v = .non ∧ EN H' γ', yl := YL } n (L2.start N_pattern_places vs) H γ := runG2_ok (N := N_pattern_places) (P := P_pattern_places) (a_pattern_places T) (ar_pattern_places T) h
theorem a__law_cell (T : Ct K ca) : SS ⟨K, ca, none, none⟩ NoE (t__law_cell K ca) b__law_cell :=
  ss_seq (ss_if (st_val (se_op (sr_cmp _ _) (se_var 1) (se_cb sc_len (sa_cons (se_var 0) (sa_nil))))) (ss_ret (se_op sr_ix (se_var 0) (se_var 1))) (ss_next)) (ss_ret (se_op sr_add (se_op sr_mul (se_int _) (se_var 1)) (se_int _)))
theorem len__law_cell {vs : List V} {H : Hp} {Q : VK} {E : XK} (h : sp__law_cell K ca vs H Q E) : vs.length = P__law_cell.length := nox_len (N := N__law_cell) (P := P__law_cell) h
theorem p__law_cell (T : Ct K ca) {vs : List V} {H : Hp} {Q : VK} {E : XK} (h : sp__law_cell K ca vs H Q E) : t__law_cell K ca { nx := fun _ H' => Q .non H', rt := Q } (L2.start N__law_cell vs) H := nox_ok (N := N__law_cell) (P := P__law_cell) (a__law_cell T) h
theorem a__law_purse (T : Ct K ca) : SS ⟨K, ca, none, none⟩ NoE (t__law_purse K ca) b__law_purse :=
  ss_ret (se_lst (sa_cons (se_cb sc_max (sa_cons (se_int _) (sa_cons (se_op sr_sub (se_var 0) (se_op sr_pow (se_int _) (se_int _))) (sa_nil)))) (sa_cons (se_op sr_mod (se_var 0) (se_int _)) (sa_cons (se_int _) (sa_nil)))))
theorem len__law_purse {vs : List V} {H : Hp} {Q : VK} {E : XK} (h : sp__law_purse K ca vs H Q E) : vs.length = P__law_purse.length := nox_len (N := N__law_purse) (P := P__law_purse) h
theorem p__law_purse (T : Ct K ca) {vs : List V} {H : Hp} {Q : VK} {E : XK} (h : sp__law_purse K ca vs H Q E) : t__law_purse K ca { nx := fun _ H' => Q .non H', rt := Q } (L2.start N__law_purse vs) H := nox_ok (N := N__law_purse) (P := P__law_purse) (a__law_purse T) h
theorem a__law_take (T : Ct K ca) : SS ⟨K, ca, none, none⟩ NoE (t__law_take K ca) b__law_take :=
  ss_seq (ss_if (st_val (se_op (sr_cmp _ _) (se_op sr_ix (se_var 0) (se_int _)) (se_int _))) (ss_seq (ss_asg (se_op sr_mod (se_op sr_ix (se_var 0) (se_int _)) (se_var 1)) (sg_name 2)) (ss_seq (ss_setI (se_op sr_fdiv (se_op sr_ix (se_var 0) (se_int _)) (se_var 1)) (se_int _)) (ss_retV 2))) (ss_next)) (ss_seq (ss_setI (se_op sr_add (se_op sr_ix (se_var 0) (se_int _)) (se_int _)) (se_int _)) (ss_seq (ss_asg (se_op sr_mod (se_op sr_pow (se_op sr_add (se_op sr_add (se_op sr_ix (se_var 0) (se_int _)) (se_op sr_mul (se_int _) (se_op sr_ix (se_var 0) (se_int _)))) (se_int _)) (se_int _)) (se_int _)) (sg_name 3)) (ss_seq (ss_asg (se_op sr_mod (se_op sr_pow (se_op sr_add (se_var 3) (se_op sr_mul (se_int _) (se_op sr_ix (se_var 0) (se_int _)))) (se_int _)) (se_int _)) (sg_name 3)) (ss_ret (se_op sr_mod (se_op sr_fdiv (se_var 3) (se_int _)) (se_var 1))))))
theorem len__law_take {vs : List V} {H : Hp} {Q : VK} {E : XK} (h : sp__law_take K ca vs H Q E) : vs.length = P__law_take.length := nox_len (N := N__law_take) (P := P__law_take) h
theorem p__law_take (T : Ct K ca) {vs : List V} {H : Hp} {Q : VK} {E : XK} (h : sp__law_take K ca vs H Q E) : t__law_take K ca { nx := fun _ H' => Q .non H', rt := Q } (L2.start N__law_take vs) H := nox_ok (N := N__law_take) (P := P__law_take) (a__law_take T) h
theorem a__law_all_marks (T : Ct K ca) : SS ⟨K, ca, none, none⟩ NoE (t__law_all_marks K ca) b__law_all_marks :=
  ss_ret (se_lst (sa_cons (se_str _) (sa_cons (se_str _) (sa_cons (se_str _) (sa_cons (se_str _) (sa_cons (se_str _) (sa_cons (se_str _) (sa_cons (se_str _) (sa_cons (se_str _) (sa_cons (se_str _) (sa_cons (se_str _) (sa_cons (se_str _) (sa_cons (se_str _) (sa_cons (se_str _) (sa_nil)))))))))))))))
theorem len__law_all_marks {vs : List V} {H : Hp} {Q : VK} {E : XK} (h : sp__law_all_marks K ca vs H Q E) : vs.length = P__law_all_marks.length := nox_len (N := N__law_all_marks) (P := P__law_all_marks) h
theorem p__law_all_marks (T : Ct K ca) {vs : List V} {H : Hp} {Q : VK} {E : XK} (h : sp__law_all_marks K ca vs H Q E) : t__law_all_marks K ca { nx := fun _ H' => Q .non H', rt := Q } (L2.start N__law_all_marks vs) H := nox_ok (N := N__law_all_marks) (P := P__law_all_marks) (a__law_all_marks T) h
theorem a__law_mark (T : Ct K ca) : SS ⟨K, ca, none, none⟩ NoE (t__law_mark K ca) b__law_mark :=
  ss_seq (ss_if (st_val (se_op sr_eq (se_callN (nox_no _) (sa_cons (se_var 0) (sa_cons (se_int _) (sa_nil)))) (se_int _))) (ss_ret (se_str _)) (ss_next)) (ss_ret (se_op sr_add (se_op sr_ix (se_str _) (se_callN (nox_no _) (sa_cons (se_var 0) (sa_cons (se_int _) (sa_nil))))) (se_op sr_ix (se_str _) (se_callN (nox_no _) (sa_cons (se_var 0) (sa_cons (se_int _) (sa_nil)))))))
theorem len__law_mark {vs : List V} {H : Hp} {Q : VK} {E : XK} (h : sp__law_mark K ca vs H Q E) : vs.length = P__law_mark.length := nox_len (N := N__law_mark) (P := P__law_mark) h
theorem p__law_mark (T : Ct K ca) {vs : List V} {H : Hp} {Q : VK} {E : XK} (h : sp__law_mark K ca vs H Q E) : t__law_mark K ca { nx := fun _ H' => Q .non H', rt := Q } (L2.start N__law_mark vs) H := nox_ok (N := N__law_mark) (P := P__law_mark) (a__law_mark T) h
theorem a__law_word (T : Ct K ca) : SS ⟨K, ca, none, none⟩ NoE (t__law_word K ca) b__law_word :=
  ss_seq (ss_asg (se_str _) (sg_name 2)) (ss_ret (se_m1 sm_join (se_str _) (se_lc (si_rng1 (sa_cons (se_op sr_add (se_int _) (se_callN (nox_no _) (sa_cons (se_var 0) (sa_cons (se_var 1) (sa_nil))))) (sa_nil))) (sg_name 3) (st_yes) (se_op sr_ix (se_var 2) (se_callN (nox_no _) (sa_cons (se_var 0) (sa_cons (se_int _) (sa_nil))))))))
theorem len__law_word {vs : List V} {H : Hp} {Q : VK} {E : XK} (h : sp__law_word K ca vs H Q E) : vs.length = P__law_word.length := nox_len (N := N__law_word) (P := P__law_word) h
theorem p__law_word (T : Ct K ca) {vs : List V} {H : Hp} {Q : VK} {E : XK} (h : sp__law_word K ca vs H Q E) : t__law_word K ca { nx := fun _ H' => Q .non H', rt := Q } (L2.start N__law_word vs) H := nox_ok (N := N__law_word) (P := P__law_word) (a__law_word T) h
theorem a__law_text (T : Ct K ca) : SS ⟨K, ca, none, none⟩ NoE (t__law_text K ca) b__law_text :=
  ss_seq (ss_own (se_lst (sa_nil))) (ss_seq (ss_for (si_rng1 (sa_cons (se_var 1) (sa_nil))) (sg_name 4) (ss_seq (ss_asg (se_if (st_val (se_op (sr_cmp _ _) (se_var 4) (se_int _))) (se_callN (nox_no _) (sa_cons (se_var 0) (sa_nil))) (se_op sr_add (se_str _) (se_op sr_ix (se_str _) (se_callN (nox_no _) (sa_cons (se_var 0) (sa_cons (se_int _) (sa_nil))))))) (sg_name 5)) (ss_app (se_tup (sa_cons (se_var 5) (sa_cons (se_callN (nox_no _) (sa_cons (se_var 0) (sa_cons (se_var 2) (sa_nil)))) (sa_nil))))))) (ss_retV 3))
theorem len__law_text {vs : List V} {H : Hp} {Q : VK} {E : XK} (h : sp__law_text K ca vs H Q E) : vs.length = P__law_text.length := nox_len (N := N__law_text) (P := P__law_text) h
theorem p__law_text (T : Ct K ca) {vs : List V} {H : Hp} {Q : VK} {E : XK} (h : sp__law_text K ca vs H Q E) : t__law_text K ca { nx := fun _ H' => Q .non H', rt := Q } (L2.start N__law_text vs) H := nox_ok (N := N__law_text) (P := P__law_text) (a__law_text T) h
theorem a__law_is_length (T : Ct K ca) : SS ⟨K, ca, none, none⟩ NoE (t__law_is_length K ca) b__law_is_length :=
  ss_ret (se_and (se_isi .int (se_var 0)) (se_and (se_not (se_isi .bl (se_var 0))) (se_chain (sr_cmp _ _) (sr_cmp _ _) (se_int _) (se_var 0) (se_int _))))
theorem len__law_is_length {vs : List V} {H : Hp} {Q : VK} {E : XK} (h : sp__law_is_length K ca vs H Q E) : vs.length = P__law_is_length.length := nox_len (N := N__law_is_length) (P := P__law_is_length) h
theorem p__law_is_length (T : Ct K ca) {vs : List V} {H : Hp} {Q : VK} {E : XK} (h : sp__law_is_length K ca vs H Q E) : t__law_is_length K ca { nx := fun _ H' => Q .non H', rt := Q } (L2.start N__law_is_length vs) H := nox_ok (N := N__law_is_length) (P := P__law_is_length) (a__law_is_length T) h
theorem a__law_good_item (T : Ct K ca) : SS ⟨K, ca, none, none⟩ NoE (t__law_good_item K ca) b__law_good_item :=
  ss_seq (ss_if (st_or (st_not (st_val (se_isi .tup (se_var 0)))) (st_or (st_val (se_op sr_ne (se_cb sc_len (sa_cons (se_var 0) (sa_nil))) (se_int _))) (st_or (st_not (st_val (se_isiT [.lst, .tup] (se_op sr_ix (se_var 0) (se_int _))))) (st_val (se_op sr_eq (se_cb sc_len (sa_cons (se_op sr_ix (se_var 0) (se_int _)) (sa_nil))) (se_int _)))))) (ss_ret (se_bl _)) (ss_next)) (ss_seq (ss_for (si_enum (sa_cons (se_op sr_ix (se_var 0) (se_int _)) (sa_nil))) (sg_ts (sgs_cons (sg_name 1) (sgs_cons (sg_name 2) (sgs_nil)))) (ss_if (st_or (st_not (st_val (se_isi .str (se_var 2)))) (st_or (st_val (se_op (sr_in true) (se_var 2) (se_callN (nox_no _) (sa_nil)))) (st_val (se_op (sr_in false) (se_var 2) (se_sl (se_op sr_ix (se_var 0) (se_int _)) (so_none) (so_some (se_var 1))))))) (ss_ret (se_bl _)) (ss_next))) (ss_ret (se_and (se_callN (nox_no _) (sa_cons (se_op sr_ix (se_var 0) (se_int _)) (sa_nil))) (se_and (se_callN (nox_no _) (sa_cons (se_op sr_ix (se_var 0) (se_int _)) (sa_nil))) (se_op (sr_cmp _ _) (se_op sr_ix (se_var 0) (se_int _)) (se_op sr_ix (se_var 0) (se_int _)))))))
theorem len__law_good_item {vs : List V} {H : Hp} {Q : VK} {E : XK} (h : sp__law_good_item K ca vs H Q E) : vs.length = P__law_good_item.length := nox_len (N := N__law_good_item) (P := P__law_good_item) h
theorem p__law_good_item (T : Ct K ca) {vs : List V} {H : Hp} {Q : VK} {E : XK} (h : sp__law_good_item K ca vs H Q E) : t__law_good_item K ca { nx := fun _ H' => Q .non H', rt := Q } (L2.start N__law_good_item vs) H := nox_ok (N := N__law_good_item) (P := P__law_good_item) (a__law_good_item T) h
theorem a__law_good (T : Ct K ca) : SS ⟨K, ca, none, none⟩ NoE (t__law_good K ca) b__law_good :=
  ss_seq (ss_if (st_or (st_not (st_val (se_isiT [.lst, .tup] (se_var 0)))) (st_not (st_val (se_chain (sr_cmp _ _) (sr_cmp _ _) (se_int _) (se_cb sc_len (sa_cons (se_var 0) (sa_nil))) (se_int _))))) (ss_ret (se_bl _)) (ss_next)) (ss_ret (se_op sr_eq3 (se_lc (si_iter (se_var 0)) (sg_name 1) (st_not (st_val (se_callN (nox_no _) (sa_cons (se_var 1) (sa_nil))))) (se_var 1)) (se_lst (sa_nil))))
theorem len__law_good {vs : List V} {H : Hp} {Q : VK} {E : XK} (h : sp__law_good K ca vs H Q E) : vs.length = P__law_good.length := nox_len (N := N__law_good) (P := P__law_good) h
theorem p__law_good (T : Ct K ca) {vs : List V} {H : Hp} {Q : VK} {E : XK} (h : sp__law_good K ca vs H Q E) : t__law_good K ca { nx := fun _ H' => Q .non H', rt := Q } (L2.start N__law_good vs) H := nox_ok (N := N__law_good) (P := P__law_good) (a__law_good T) h
theorem a__law_pattern (T : Ct K ca) : SS ⟨K, ca, none, none⟩ NoE (t__law_pattern K ca) b__law_pattern :=
  ss_seq (ss_asg (se_op sr_add (se_int _) (se_callN (nox_no _) (sa_cons (se_var 0) (sa_cons (se_int _) (sa_nil))))) (sg_name 2)) (ss_seq (ss_asg (se_callN (nox_no _) (sa_cons (se_var 0) (sa_cons (se_op sr_add (se_cb sc_len (sa_cons (se_var 1) (sa_nil))) (se_int _)) (sa_nil)))) (sg_name 3)) (ss_seq (ss_asg (se_if (st_val (se_op (sr_cmp _ _) (se_callN (nox_no _) (sa_cons (se_var 0) (sa_cons (se_int _) (sa_nil)))) (se_int _))) (se_sl (se_var 1) (so_some (se_var 3)) (so_some (se_op sr_add (se_var 3) (se_var 2)))) (se_lst (sa_nil))) (sg_name 4)) (ss_seq (ss_if (st_val (se_op sr_eq3 (se_var 4) (se_lst (sa_nil)))) (ss_asg (se_lc (si_rng1 (sa_cons (se_var 2) (sa_nil))) (sg_name 9) (st_yes) (se_tup (sa_cons (se_callN (nox_no _) (sa_cons (se_var 0) (sa_nil))) (sa_cons (se_op sr_mul (se_str _) (se_op sr_add (se_int _) (se_callN (nox_no _) (sa_cons (se_var 0) (sa_cons (se_int _) (sa_nil)))))) (sa_nil))))) (sg_name 4)) (ss_next)) (ss_seq (ss_own (se_lst (sa_nil))) (ss_seq (ss_for (si_iter (se_var 4)) (sg_ts (sgs_cons (sg_name 6) (sgs_cons (sg_name 7) (sgs_nil)))) (ss_seq (ss_asg (se_lst (sa_cons (se_var 6) (sa_nil))) (sg_name 8)) (ss_seq (ss_for (si_rng1 (sa_cons (se_callN (nox_no _) (sa_cons (se_var 0) (sa_cons (se_int _) (sa_nil)))) (sa_nil))) (sg_name 9) (ss_seq (ss_asg (se_callN (nox_no _) (sa_cons (se_var 0) (sa_nil))) (sg_name 10)) (ss_asg (se_op sr_add (se_var 8) (se_op sr_mul (se_lst (sa_cons (se_var 10) (sa_nil))) (se_cb sc_int (sa_cons (se_op (sr_in true) (se_var 10) (se_var 8)) (sa_nil))))) (sg_name 8)))) (ss_seq (ss_asg (se_cb sc_max (sa_cons (se_int _) (sa_cons (se_op sr_sub (se_cb sc_len (sa_cons (se_var 7) (sa_nil))) (se_callN (nox_no _) (sa_cons (se_var 0) (sa_cons (se_int _) (sa_nil))))) (sa_nil)))) (sg_name 11)) (ss_seq (ss_asg (se_callN (nox_no _) (sa_cons (se_var 0) (sa_cons (se_cb sc_len (sa_cons (se_var 8) (sa_nil))) (sa_nil)))) (sg_name 12)) (ss_seq (ss_asg (se_op sr_add (se_sl (se_var 8) (so_some (se_var 12)) (so_none)) (se_sl (se_var 8) (so_none) (so_some (se_var 12)))) (sg_name 8)) (ss_app (se_tup (sa_cons (se_op sr_ix (se_lst (sa_cons (se_var 8) (sa_cons (se_cb sc_tuple (sa_cons (se_var 8) (sa_nil))) (sa_nil)))) (se_callN (nox_no _) (sa_cons (se_var 0) (sa_cons (se_int _) (sa_nil))))) (sa_cons (se_var 11) (sa_cons (se_cb sc_min (sa_cons (se_int _) (sa_cons (se_op sr_add (se_cb sc_len (sa_cons (se_var 7) (sa_nil))) (se_callN (nox_no _) (sa_cons (se_var 0) (sa_cons (se_int _) (sa_nil))))) (sa_nil)))) (sa_nil)))))))))))) (ss_retV 5))))))
theorem len__law_pattern {vs : List V} {H : Hp} {Q : VK} {E : XK} (h : sp__law_pattern K ca vs H Q E) : vs.length = P__law_pattern.length := nox_len (N := N__law_pattern) (P := P__law_pattern) h
theorem p__law_pattern (T : Ct K ca) {vs : List V} {H : Hp} {Q : VK} {E : XK} (h : sp__law_pattern K ca vs H Q E) : t__law_pattern K ca { nx := fun _ H' => Q .non H', rt := Q } (L2.start N__law_pattern vs) H := nox_ok (N := N__law_pattern) (P := P__law_pattern) (a__law_pattern T) h
theorem a__law_spoilt (T : Ct K ca) : SS ⟨K, ca, none, none⟩ NoE (t__law_spoilt K ca) b__law_spoilt :=
  ss_seq (ss_own (se_cb sc_list (sa_cons (se_var 1) (sa_nil)))) (ss_seq (ss_asg (se_callN (nox_no _) (sa_cons (se_var 0) (sa_cons (se_cb sc_len (sa_cons (se_var 2) (sa_nil))) (sa_nil)))) (sg_name 3)) (ss_seq (ss_asg (se_op sr_ix (se_var 2) (se_var 3)) (sg_ts (sgs_cons (sg_name 4) (sgs_cons (sg_name 5) (sgs_cons (sg_name 6) (sgs_nil)))))) (ss_seq (ss_par (sa_cons (se_cb sc_list (sa_cons (se_var 4) (sa_nil))) (sa_cons (se_callN (nox_no _) (sa_cons (se_var 0) (sa_cons (se_int _) (sa_nil)))) (sa_nil)))) (ss_seq (ss_asg (se_op sr_ix (se_lst (sa_cons (se_non) (sa_cons (se_bl _) (sa_cons (se_str _) (sa_cons (se_int _) (sa_cons (se_int _) (sa_cons (se_neg (se_int _)) (sa_cons (se_str _) (sa_cons (se_lst (sa_nil)) (sa_cons (se_dnew) (sa_cons (se_str _) (sa_cons (se_op sr_pow (se_int _) (se_int _)) (sa_nil))))))))))))) (se_callN (nox_no _) (sa_cons (se_var 0) (sa_cons (se_int _) (sa_nil))))) (sg_name 8)) (ss_seq (ss_if (st_val (se_op sr_eq (se_var 7) (se_int _))) (ss_ret (se_op sr_add (se_op sr_add (se_op sr_add (se_op sr_add (se_op sr_add (se_op sr_add (se_var 2) (se_var 2)) (se_var 2)) (se_var 2)) (se_var 2)) (se_var 2)) (se_var 2))) (ss_next)) (ss_seq (ss_if (st_val (se_op sr_eq (se_var 7) (se_int _))) (ss_ret (se_op sr_ix (se_lst (sa_cons (se_non) (sa_cons (se_ado (se_lst (sa_nil))) (sa_cons (se_dnew) (sa_cons (se_str _) (sa_cons (se_op sr_ix (se_var 2) (se_int _)) (sa_cons (se_int _) (sa_cons (se_tup (sa_cons (se_tup (sa_cons (se_var 4) (sa_cons (se_var 5) (sa_cons (se_var 6) (sa_nil))))) (sa_cons (se_non) (sa_nil)))) (sa_nil))))))))) (se_callN (nox_no _) (sa_cons (se_var 0) (sa_cons (se_int _) (sa_nil)))))) (ss_next)) (ss_seq (ss_asg (se_lst (sa_cons (se_tup (sa_cons (se_var 4) (sa_cons (se_op sr_add (se_var 6) (se_int _)) (sa_cons (se_var 6) (sa_nil))))) (sa_cons (se_tup (sa_cons (se_op sr_add (se_var 4) (se_sl (se_var 4) (so_none) (so_some (se_int _)))) (sa_cons (se_var 5) (sa_cons (se_var 6) (sa_nil))))) (sa_cons (se_tup (sa_cons (se_lst (sa_nil)) (sa_cons (se_var 5) (sa_cons (se_var 6) (sa_nil))))) (sa_cons (se_tup (sa_cons (se_var 4) (sa_cons (se_var 5) (sa_nil)))) (sa_cons (se_lst (sa_cons (se_var 4) (sa_cons (se_var 5) (sa_cons (se_var 6) (sa_nil))))) (sa_nil))))))) (sg_name 9)) (ss_seq (ss_asg (se_op sr_add (se_var 9) (se_lst (sa_cons (se_tup (sa_cons (se_op sr_add (se_var 4) (se_lst (sa_cons (se_var 8) (sa_nil)))) (sa_cons (se_var 5) (sa_cons (se_var 6) (sa_nil))))) (sa_cons (se_tup (sa_cons (se_var 4) (sa_cons (se_var 8) (sa_cons (se_var 6) (sa_nil))))) (sa_cons (se_tup (sa_cons (se_var 4) (sa_cons (se_var 5) (sa_cons (se_var 8) (sa_nil))))) (sa_cons (se_tup (sa_cons (se_var 4) (sa_cons (se_int _) (sa_cons (se_int _) (sa_nil))))) (sa_cons (se_tup (sa_cons (se_var 4) (sa_cons (se_int _) (sa_cons (se_bl _) (sa_nil))))) (sa_nil)))))))) (sg_name 9)) (ss_seq (ss_setI (se_op sr_ix (se_var 9) (se_op sr_sub (se_var 7) (se_int _))) (se_var 3)) (ss_retV 2))))))))))
theorem len__law_spoilt {vs : List V} {H : Hp} {Q : VK} {E : XK} (h : sp__law_spoilt K ca vs H Q E) : vs.length = P__law_spoilt.length := nox_len (N := N__law_spoilt) (P := P__law_spoilt) h
theorem p__law_spoilt (T : Ct K ca) {vs : List V} {H : Hp} {Q : VK} {E : XK} (h : sp__law_spoilt K ca vs H Q E) : t__law_spoilt K ca { nx := fun _ H' => Q .non H', rt := Q } (L2.start N__law_spoilt vs) H := nox_ok (N := N__law_spoilt) (P := P__law_spoilt) (a__law_spoilt T) h
theorem a__law_told (T : Ct K ca) : SS ⟨K, ca, none, none⟩ NoE (t__law_told K ca) b__law_told :=
  ss_seq (ss_own (se_lst (sa_nil))) (ss_seq (ss_try (hem_ T) (fun W => ss_lp2 (hns_pattern_places T) (fun ds h => runG_arity ds h) (fun ds S h => runF_ar h) (sa_cons (se_var 0) (sa_cons (se_var 1) (sa_nil))) (lp_t (sg_name 3) (ss_app (se_var 3)))) (.cons rfl rfl (fun a dd c => ss_own (se_op sr_add (se_var 2) (se_lst (sa_cons (se_str _) (sa_cons (se_xf 4 "value" rfl (hxf_ T)) (sa_nil)))))) (.cons rfl rfl (fun a dd c => ss_own (se_op sr_add (se_var 2) (se_lst (sa_cons (se_str _) (sa_cons (se_xf 4 "value" rfl (hxf_ T)) (sa_nil)))))) (.nil)))) (ss_retV 2))
theorem len__law_told {vs : List V} {H : Hp} {Q : VK} {E : XK} (h : sp__law_told K ca vs H Q E) : vs.length = P__law_told.length := nox_len (N := N__law_told) (P := P__law_told) h
theorem p__law_told (T : Ct K ca) {vs : List V} {H : Hp} {Q : VK} {E : XK} (h : sp__law_told K ca vs H Q E) : t__law_told K ca { nx := fun _ H' => Q .non H', rt := Q } (L2.start N__law_told vs) H := nox_ok (N := N__law_told) (P := P__law_told) (a__law_told T) h
theorem a__law_due (T : Ct K ca) : SS ⟨K, ca, none, none⟩ NoE (t__law_due K ca) b__law_due :=
  ss_seq (ss_asg (se_lst (sa_nil)) (sg_name 2)) (ss_seq (ss_for (si_rng1 (sa_cons (se_op sr_sub (se_op sr_add (se_cb sc_len (sa_cons (se_var 0) (sa_nil))) (se_int _)) (se_cb sc_len (sa_cons (se_var 1) (sa_nil)))) (sa_nil))) (sg_name 3) (ss_seq (ss_asg (se_bl _) (sg_name 4)) (ss_seq (ss_for (si_enum (sa_cons (se_var 1) (sa_nil))) (sg_ts (sgs_cons (sg_name 5) (sgs_cons (sg_ts (sgs_cons (sg_name 6) (sgs_cons (sg_name 7) (sgs_cons (sg_name 8) (sgs_nil))))) (sgs_nil)))) (ss_seq (ss_asg (se_op sr_ix (se_var 0) (se_op sr_add (se_var 3) (se_var 5))) (sg_ts (sgs_cons (sg_name 9) (sgs_cons (sg_name 10) (sgs_nil))))) (ss_asg (se_and (se_var 4) (se_and (se_op (sr_in false) (se_var 9) (se_var 6)) (se_chain (sr_cmp _ _) (sr_cmp _ _) (se_var 7) (se_cb sc_len (sa_cons (se_var 10) (sa_nil))) (se_var 8)))) (sg_name 4)))) (ss_asg (se_op sr_add (se_var 2) (se_op sr_mul (se_lst (sa_cons (se_var 3) (sa_nil))) (se_cb sc_int (sa_cons (se_var 4) (sa_nil))))) (sg_name 2))))) (ss_retV 2))
theorem len__law_due {vs : List V} {H : Hp} {Q : VK} {E : XK} (h : sp__law_due K ca vs H Q E) : vs.length = P__law_due.length := nox_len (N := N__law_due) (P := P__law_due) h
theorem p__law_due (T : Ct K ca) {vs : List V} {H : Hp} {Q : VK} {E : XK} (h : sp__law_due K ca vs H Q E) : t__law_due K ca { nx := fun _ H' => Q .non H', rt := Q } (L2.start N__law_due vs) H := nox_ok (N := N__law_due) (P := P__law_due) (a__law_due T) h
theorem a__law_right (T : Ct K ca) : SS ⟨K, ca, none, none⟩ NoE (t__law_right K ca) b__law_right :=
  ss_seq (ss_asg (se_callN (nox_no _) (sa_cons (se_var 0) (sa_cons (se_callN (nox_no _) (sa_cons (se_var 0) (sa_cons (se_int _) (sa_nil)))) (sa_cons (se_op sr_ix (se_lst (sa_cons (se_int _) (sa_cons (se_int _) (sa_cons (se_int _) (sa_nil))))) (se_callN (nox_no _) (sa_cons (se_var 0) (sa_cons (se_int _) (sa_nil))))) (sa_nil))))) (sg_name 1)) (ss_seq (ss_if (st_val (se_op sr_eq (se_callN (nox_no _) (sa_cons (se_var 0) (sa_cons (se_int _) (sa_nil)))) (se_int _))) (ss_asg (se_op sr_add (se_sl (se_var 1) (so_none) (so_some (se_int _))) (se_lc (si_iter (se_sl (se_var 1) (so_some (se_int _)) (so_none))) (sg_ts (sgs_cons (sg_name 9) (sgs_cons (sg_name 8) (sgs_nil)))) (st_yes) (se_tup (sa_cons (se_op sr_ix (se_lst (sa_cons (se_str _) (sa_cons (se_str _) (sa_nil)))) (se_callN (nox_no _) (sa_cons (se_var 0) (sa_cons (se_int _) (sa_nil))))) (sa_cons (se_sl (se_var 8) (so_none) (so_some (se_int _))) (sa_nil)))))) (sg_name 1)) (ss_next)) (ss_seq (ss_for (si_rng1 (sa_cons (se_int _) (sa_nil))) (sg_name 2) (ss_seq (ss_asg (se_callN (nox_no _) (sa_cons (se_var 0) (sa_cons (se_var 1) (sa_nil)))) (sg_name 3)) (ss_seq (ss_asg (se_cb sc_repr (sa_cons (se_lst (sa_cons (se_var 1) (sa_cons (se_var 3) (sa_nil)))) (sa_nil))) (sg_name 4)) (ss_seq (ss_if (st_or (st_val (se_op (sr_is3 true) (se_callN (nox_no _) (sa_cons (se_var 3) (sa_nil))) (se_bl _))) (st_val (se_op (sr_is3 true) (se_callN (nox_no _) (sa_cons (se_cb sc_tuple (sa_cons (se_var 3) (sa_nil))) (sa_nil))) (se_bl _)))) (ss_ret (se_bl _)) (ss_next)) (ss_seq (ss_if (st_or (st_val (se_op sr_ne (se_callN (nox_no _) (sa_cons (se_var 1) (sa_cons (se_var 3) (sa_nil)))) (se_callN (nox_no _) (sa_cons (se_var 1) (sa_cons (se_var 3) (sa_nil)))))) (st_val (se_op sr_ne (se_cb sc_repr (sa_cons (se_lst (sa_cons (se_var 1) (sa_cons (se_var 3) (sa_nil)))) (sa_nil))) (se_var 4)))) (ss_ret (se_bl _)) (ss_next)) (ss_seq (ss_if (st_val (se_op sr_ne (se_callN (nox_no _) (sa_cons (se_cb sc_tuple (sa_cons (se_var 1) (sa_nil))) (sa_cons (se_cb sc_tuple (sa_cons (se_var 3) (sa_nil))) (sa_nil)))) (se_callN (nox_no _) (sa_cons (se_var 1) (sa_cons (se_var 3) (sa_nil)))))) (ss_ret (se_bl _)) (ss_next)) (ss_seq (ss_asg (se_ado (se_callN (nox_no _) (sa_cons (se_var 0) (sa_cons (se_var 3) (sa_nil))))) (sg_name 5)) (ss_seq (ss_if (st_val (se_op sr_ne (se_cb sc_repr (sa_cons (se_callN (nox_no _) (sa_cons (se_var 5) (sa_nil))) (sa_nil))) (se_cb sc_repr (sa_cons (se_callN (nox_no _) (sa_cons (se_var 5) (sa_nil))) (sa_nil))))) (ss_ret (se_bl _)) (ss_next)) (ss_seq (ss_if (st_and (st_not (st_val (se_callN (nox_no _) (sa_cons (se_var 5) (sa_nil))))) (st_val (se_op sr_ne (se_cb sc_repr (sa_cons (se_callN (nox_no _) (sa_cons (se_var 1) (sa_cons (se_var 5) (sa_nil)))) (sa_nil))) (se_cb sc_repr (sa_cons (se_lst (sa_cons (se_str _) (sa_cons (se_var 5) (sa_nil)))) (sa_nil)))))) (ss_ret (se_bl _)) (ss_next)) (ss_seq (ss_asg (se_op sr_ix (se_lst (sa_cons (se_non) (sa_cons (se_str _) (sa_cons (se_op sr_add (se_var 1) (se_lst (sa_cons (se_tup (sa_cons (se_str _) (sa_cons (se_str _) (sa_nil)))) (sa_nil)))) (sa_cons (se_op sr_add (se_lst (sa_cons (se_tup (sa_cons (se_str _) (sa_cons (se_str _) (sa_nil)))) (sa_nil))) (se_var 1)) (sa_cons (se_int _) (sa_cons (se_op sr_add (se_lst (sa_cons (se_lst (sa_cons (se_str _) (sa_cons (se_str _) (sa_nil)))) (sa_nil))) (se_var 1)) (sa_nil)))))))) (se_callN (nox_no _) (sa_cons (se_var 0) (sa_cons (se_int _) (sa_nil))))) (sg_name 6)) (ss_seq (ss_if (st_val (se_op sr_ne (se_cb sc_repr (sa_cons (se_callN (nox_no _) (sa_cons (se_var 6) (sa_cons (se_var 5) (sa_nil)))) (sa_nil))) (se_cb sc_repr (sa_cons (se_lst (sa_cons (se_str _) (sa_cons (se_var 6) (sa_nil)))) (sa_nil))))) (ss_ret (se_bl _)) (ss_next)) (ss_seq (ss_asg (se_callN (nox_no _) (sa_cons (se_var 1) (sa_cons (se_var 5) (sa_nil)))) (sg_name 7)) (ss_if (st_and (st_val (se_isi .lst (se_var 5))) (st_not (st_val (se_callN (nox_no _) (sa_cons (se_var 5) (sa_nil)))))) (ss_seq (ss_app (se_str _)) (ss_if (st_val (se_op sr_ne (se_cb sc_repr (sa_cons (se_var 7) (sa_nil))) (se_cb sc_repr (sa_cons (se_lst (sa_cons (se_str _) (sa_cons (se_var 5) (sa_nil)))) (sa_nil))))) (ss_ret (se_bl _)) (ss_next))) (ss_next)))))))))))))) (ss_ret (se_bl _))))
theorem len__law_right {vs : List V} {H : Hp} {Q : VK} {E : XK} (h : sp__law_right K ca vs H Q E) : vs.length = P__law_right.length := nox_len (N := N__law_right) (P := P__law_right) h
theorem p__law_right (T : Ct K ca) {vs : List V} {H : Hp} {Q : VK} {E : XK} (h : sp__law_right K ca vs H Q E) : t__law_right K ca { nx := fun _ H' => Q .non H', rt := Q } (L2.start N__law_right vs) H := nox_ok (N := N__law_right) (P := P__law_right) (a__law_right T) h
theorem a_law (T : Ct K ca) : SS ⟨K, ca, none, none⟩ NoE (t_law K ca) b_law :=
  ss_seq (ss_for (si_rng1 (sa_cons (se_cb sc_max (sa_cons (se_int _) (sa_cons (se_cb sc_min (sa_cons (se_int _) (sa_cons (se_cb sc_len (sa_cons (se_var 0) (sa_nil))) (sa_nil)))) (sa_nil)))) (sa_nil))) (sg_name 1) (ss_if (st_not (st_val (se_callN (nox_no _) (sa_cons (se_ado (se_callN (nox_no _) (sa_cons (se_callN (nox_no _) (sa_cons (se_var 0) (sa_cons (se_var 1) (sa_nil)))) (sa_nil)))) (sa_nil))))) (ss_ret (se_bl _)) (ss_next))) (ss_ret (se_bl _))
theorem len_law {vs : List V} {H : Hp} {Q : VK} {E : XK} (h : sp_law K ca vs H Q E) : vs.length = P_law.length := nox_len (N := N_law) (P := P_law) h
theorem p_law (T : Ct K ca) {vs : List V} {H : Hp} {Q : VK} {E : XK} (h : sp_law K ca vs H Q E) : t_law K ca { nx := fun _ H' => Q .non H', rt := Q } (L2.start N_law vs) H := nox_ok (N := N_law) (P := P_law) (a_law T) h
end
section
variable {P : Program} {w : World} {K : PySem.W.Frag} {mg : Str → Option Value} {base : Heap} {a : Nat → Addr} {d : Nat → FuncData} {ca : Nat → Addr}
theorem okI_InvalidText (T : Tx P K mg a d ca) : FnOk P w K mg base CX0 1 (a 27) (d 27) ["self", "value"] (U.spI (ca 1) "value") :=
  T.F_InvalidText.ok scI_InvalidText (fun vs H Q E h => U.len_spI h) (fun cdv A outer s H vs Q E hr h => ⟨U.tI K "value" "not a text, or not the writing of one", pss_cons (ps_expr (U.pe_binit T.y_ReflowError rfl T.w_ReflowError (pa_cons (U.pu 0) (pa_cons pe_str pa_nil)))) (pss_one (ps_ost (U.pu 0) (U.pu 1))), U.p_init T.x_InvalidText h⟩)
theorem okI_InvalidRow (T : Tx P K mg a d ca) : FnOk P w K mg base CX0 1 (a 28) (d 28) ["self", "value"] (U.spI (ca 2) "value") :=
  T.F_InvalidRow.ok scI_InvalidRow (fun vs H Q E h => U.len_spI h) (fun cdv A outer s H vs Q E hr h => ⟨U.tI K "value" "not a row that is asked for", pss_cons (ps_expr (U.pe_binit T.y_ReflowError rfl T.w_ReflowError (pa_cons (U.pu 0) (pa_cons pe_str pa_nil)))) (pss_one (ps_ost (U.pu 0) (U.pu 1))), U.p_init T.x_InvalidRow h⟩)
theorem v_is_integer (T : Tx P K mg a d ca)      {fa : Addr} {cdv : Value} {A : Around} {outer : List Env} {s : Shared} {H : Hp} {E : XK} (hr : Room 0 (A.deeper (envOfC "is_integer" (defScope s_is_integer) s.heap.objs.size fa cdv))) :
    PSs ((cxOf CX0 P w K mg base N_is_integer "is_integer" (defScope s_is_integer) fa cdv A outer s H E).nox) (defBody s_is_integer) (t_is_integer K ca) :=
  pss_one (ps_ret (pue_and (pue_isi .int (pu 0) rfl T.z_isinstance rfl T.z_int (by decide +kernel)) (pue_and (pue_not (pue_isi .bl (pu 0) rfl T.z_isinstance rfl T.z_bool (by decide +kernel))) (pe_one (pue_chain ou_le ou_le (pu 1) (pu 0) (pu 2))))))
theorem v_is_word (T : Tx P K mg a d ca)      {fa : Addr} {cdv : Value} {A : Around} {outer : List Env} {s : Shared} {H : Hp} {E : XK} (hr : Room 0 (A.deeper (envOfC "is_word" (defScope s_is_word) s.heap.objs.size fa cdv))) :
    PSs ((cxOf CX0 P w K mg base N_is_word "is_word" (defScope s_is_word) fa cdv A outer s H E).nox) (defBody s_is_word) (t_is_word K ca) :=
  pss_cons (pus_if (PW.pt (puw_or (put_not (put_val (pue_isi .str (pu 0) rfl T.z_isinstance rfl T.z_str (by decide +kernel)))) (pw_or1 (put_not (put_chain ou_le ou_le (pe_int) (pe_callB cu_len (by rfl) T.z_len (by decide +kernel) (pa_cons (pu 0) (pa_nil))) (pe_glob rfl T.c_MOST_LETTERS.choose_spec ⟨_, rfl⟩)))))) (pss_one (ps_ret (pe_bl))) (pss_nil)) (pss_one (ps_ret (pe_callB (cu_all rfl) (by rfl) T.z_all (by decide +kernel) (pa_cons (pe_lc (own := [("sign", 1)]) (g := gName 1) (tt := tYes) (te := tOp (uIn K false) (uVar 1) (tC (.str "abcdefghijklmnopqrstuvwxyz"))) rfl sc_is_word.nd (piu (pu 0)) (blkOk_by (own := [("sign", 1)]) (N := N_is_word) (sc := defScope s_is_word) (by decide +kernel)) (fun _ _ _ _ _ => pg_name (i := 1) sc_is_word.nd rfl (Or.inl rfl)) (fun _ _ _ _ _ => pts_nil) (fun _ _ _ _ _ => pe_cmpR ou_in (pu 1) (pe_glob rfl T.c_LETTERS.choose_spec ⟨_, rfl⟩) (by rfl))) (pa_nil)))))
theorem v_is_mark (T : Tx P K mg a d ca)      {fa : Addr} {cdv : Value} {A : Around} {outer : List Env} {s : Shared} {H : Hp} {E : XK} (hr : Room 0 (A.deeper (envOfC "is_mark" (defScope s_is_mark) s.heap.objs.size fa cdv))) :
    PSs ((cxOf CX0 P w K mg base N_is_mark "is_mark" (defScope s_is_mark) fa cdv A outer s H E).nox) (defBody s_is_mark) (t_is_mark K ca) :=
  pss_cons (pus_if (put_not (put_val (pue_isi .str (pu 0) rfl T.z_isinstance rfl T.z_str (by decide +kernel)))) (pss_one (ps_ret (pe_bl))) (pss_nil)) (pss_one (ps_ret (pue_or (pe_cmpR (ou_eq2 hr.units) (pu 0) (pe_str) (nomark _)) (pe_one (pue_and (pe_cmpR (ou_eq2 hr.units) (pe_callB cu_len (by rfl) T.z_len (by decide +kernel) (pa_cons (pu 0) (pa_nil))) (pe_int) (nomark _)) (pue_and (pe_cmpR ou_in (pe_ix iu_ix (pu 0) (pe_int) (fun _ _ => rfl)) (pe_glob rfl T.c_KINDS.choose_spec ⟨_, rfl⟩) (by rfl)) (pe_one (pe_cmpR ou_in (pe_ix iu_ix (pu 0) (pe_int) (fun _ _ => rfl)) (pe_str) (by rfl)))))))))
theorem v_is_token (T : Tx P K mg a d ca) (G_is_word : FnOk P w K mg base CX0 1 (a 1) (d 1) P_is_word (sp_is_word K ca)) (G_is_mark : FnOk P w K mg base CX0 1 (a 2) (d 2) P_is_mark (sp_is_mark K ca))     {fa : Addr} {cdv : Value} {A : Around} {outer : List Env} {s : Shared} {H : Hp} {E : XK} (hr : Room 1 (A.deeper (envOfC "is_token" (defScope s_is_token) s.heap.objs.size fa cdv))) :
    PSs ((cxOf CX0 P w K mg base N_is_token "is_token" (defScope s_is_token) fa cdv A outer s H E).nox) (defBody s_is_token) (t_is_token K ca) :=
  pss_one (ps_ret (pue_and (pue_isi .tup (pu 0) rfl T.z_isinstance rfl T.z_tuple (by decide +kernel)) (pue_and (pe_cmpR (ou_eq2 hr.units) (pe_callB cu_len (by rfl) T.z_len (by decide +kernel) (pa_cons (pu 0) (pa_nil))) (pe_int) (nomark _)) (pue_and (pe_call G_is_mark (hr.mono (by decide)) rfl T.m_is_mark T.f_is_mark.kp T.b_is_mark .nil pass0 (pa_cons (pe_ix iu_ix (pu 0) (pe_int) (fun _ _ => rfl)) (pa_nil))) (pe_one (pe_call G_is_word (hr.mono (by decide)) rfl T.m_is_word T.f_is_word.kp T.b_is_word .nil pass0 (pa_cons (pe_ix iu_ix (pu 0) (pe_int) (fun _ _ => rfl)) (pa_nil))))))))
theorem v_is_text (T : Tx P K mg a d ca) (G_is_token : FnOk P w K mg base CX0 2 (a 3) (d 3) P_is_token (sp_is_token K ca))     {fa : Addr} {cdv : Value} {A : Around} {outer : List Env} {s : Shared} {H : Hp} {E : XK} (hr : Room 2 (A.deeper (envOfC "is_text" (defScope s_is_text) s.heap.objs.size fa cdv))) :
    PSs ((cxOf CX0 P w K mg base N_is_text "is_text" (defScope s_is_text) fa cdv A outer s H E).nox) (defBody s_is_text) (t_is_text K ca) :=
  pss_cons (pus_if (PW.pt (puw_or (put_not (put_val (pe_callB (cu_isiT [.lst, .tup]) rfl T.z_isinstance (by decide +kernel) (pa_cons (pu 0) (pa_cons (pe_tup (pa_cons (pe_bltn rfl T.z_list (by decide +kernel) rfl) (pa_cons (pe_bltn rfl T.z_tuple (by decide +kernel) rfl) (pa_nil)))) pa_nil))))) (pw_or1 (put_not (put_val (pe_callB (cu_all rfl) (by rfl) T.z_all (by decide +kernel) (pa_cons (pe_lc (own := [("token", 1)]) (g := gName 1) (tt := tYes) (te := tCall (sp_is_token K ca) [] E0 (tCons (uVar 1) (tNil))) rfl sc_is_text.nd (piu (pu 0)) (blkOk_by (own := [("token", 1)]) (N := N_is_text) (sc := defScope s_is_text) (by decide +kernel)) (fun _ _ _ _ _ => pg_name (i := 1) sc_is_text.nd rfl (Or.inl rfl)) (fun _ _ _ _ _ => pts_nil) (fun _ _ _ _ _ => pe_call G_is_token (hr.mono (by decide)) rfl T.m_is_token T.f_is_token.kp T.b_is_token .nil pass0 (pa_cons (pu 1) (pa_nil)))) (pa_nil)))))))) (pss_one (ps_ret (pe_bl))) (pss_nil)) (pss_one (ps_ret (pue_or (pe_cmpR (ou_eq2 hr.units) (pe_callB cu_len (by rfl) T.z_len (by decide +kernel) (pa_cons (pu 0) (pa_nil))) (pe_int) (nomark _)) (pe_one (pe_cmpR (ou_eq2 hr.units) (pe_ix iu_ix (pe_ix iu_ix (pe_ix iu_ix (pu 0) (pe_int) (fun _ _ => rfl)) (pe_int) (fun _ _ => rfl)) (pe_int) (fun _ _ => rfl)) (pe_str) (nomark _))))))
theorem v_need_text (T : Tx P K mg a d ca) (G_is_text : FnOk P w K mg base CX0 3 (a 4) (d 4) P_is_text (sp_is_text K ca)) (I_InvalidText : FnOk P w K mg base CX0 1 (a 27) (d 27) ["self", "value"] (U.spI (ca 1) "value"))    {fa : Addr} {cdv : Value} {A : Around} {outer : List Env} {s : Shared} {H : Hp} {E : XK} (hr : Room 3 (A.deeper (envOfC "need_text" (defScope s_need_text) s.heap.objs.size fa cdv))) :
    PSs (cxOf (L2.CX P w) P w K mg base N_need_text "need_text" (defScope s_need_text) fa cdv A outer s H E) (defBody s_need_text) (t_need_text K ca E) :=
  pss_one (pus_if (put_not (put_val (pe_call G_is_text (hr.mono (by decide)) rfl T.m_is_text T.f_is_text.kp T.b_is_text .nil pass0 (pa_cons (pu 0) (pa_nil))))) (pss_one (ps_raiseu rfl (takes_of rfl rfl rfl rfl) (pmku T.x_InvalidText I_InvalidText (hr.mono (by decide)) T.i_InvalidText pass0 rfl (pa_cons (pu 0) (pa_nil))))) (pss_nil))
theorem v_is_item (T : Tx P K mg a d ca) (G_is_integer : FnOk P w K mg base CX0 1 (a 0) (d 0) P_is_integer (sp_is_integer K ca)) (G_is_mark : FnOk P w K mg base CX0 1 (a 2) (d 2) P_is_mark (sp_is_mark K ca))     {fa : Addr} {cdv : Value} {A : Around} {outer : List Env} {s : Shared} {H : Hp} {E : XK} (hr : Room 1 (A.deeper (envOfC "is_item" (defScope s_is_item) s.heap.objs.size fa cdv))) :
    PSs ((cxOf CX0 P w K mg base N_is_item "is_item" (defScope s_is_item) fa cdv A outer s H E).nox) (defBody s_is_item) (t_is_item K ca) :=
  pss_cons (pus_if (PW.pt (puw_or (put_not (put_val (pue_isi .tup (pu 0) rfl T.z_isinstance rfl T.z_tuple (by decide +kernel)))) (pw_or1 (put_cmp (ou_ne2 hr.units) (pe_callB cu_len (by rfl) T.z_len (by decide +kernel) (pa_cons (pu 0) (pa_nil))) (pe_int) (nomark _))))) (pss_one (ps_ret (pe_bl))) (pss_nil)) (pss_cons (ps_asg (pu 0) (pg_ts rfl (pgs_cons (pg_name (i := 1) sc_is_item.nd rfl (Or.inl rfl)) (pgs_cons (pg_name (i := 2) sc_is_item.nd rfl (Or.inl rfl)) (pgs_cons (pg_name (i := 3) sc_is_item.nd rfl (Or.inl rfl)) (pgs_nil)))))) (pss_cons (pus_if (PW.pt (puw_or (put_not (put_val (pe_callB (cu_isiT [.lst, .tup]) rfl T.z_isinstance (by decide +kernel) (pa_cons (pu 1) (pa_cons (pe_tup (pa_cons (pe_bltn rfl T.z_list (by decide +kernel) rfl) (pa_cons (pe_bltn rfl T.z_tuple (by decide +kernel) rfl) (pa_nil)))) pa_nil))))) (puw_or (put_cmp (ou_eq2 hr.units) (pe_callB cu_len (by rfl) T.z_len (by decide +kernel) (pa_cons (pu 1) (pa_nil))) (pe_int) (nomark _)) (pw_or1 (put_not (put_val (pe_callB (cu_all rfl) (by rfl) T.z_all (by decide +kernel) (pa_cons (pe_lc (own := [("mark", 4)]) (g := gName 4) (tt := tYes) (te := tCall (sp_is_mark K ca) [] E0 (tCons (uVar 4) (tNil))) rfl sc_is_item.nd (piu (pu 1)) (blkOk_by (own := [("mark", 4)]) (N := N_is_item) (sc := defScope s_is_item) (by decide +kernel)) (fun _ _ _ _ _ => pg_name (i := 4) sc_is_item.nd rfl (Or.inl rfl)) (fun _ _ _ _ _ => pts_nil) (fun _ _ _ _ _ => pe_call G_is_mark (hr.mono (by decide)) rfl T.m_is_mark T.f_is_mark.kp T.b_is_mark .nil pass0 (pa_cons (pu 4) (pa_nil)))) (pa_nil))))))))) (pss_one (ps_ret (pe_bl))) (pss_nil)) (pss_cons (pus_if (PW.pt (puw_or (put_not (put_val (pe_call G_is_integer (hr.mono (by decide)) rfl T.m_is_integer T.f_is_integer.kp T.b_is_integer .nil pass0 (pa_cons (pu 2) (pa_cons (pe_int) (pa_cons (pe_glob rfl T.c_MOST_LETTERS.choose_spec ⟨_, rfl⟩) (pa_nil))))))) (pw_or1 (put_not (put_val (pe_call G_is_integer (hr.mono (by decide)) rfl T.m_is_integer T.f_is_integer.kp T.b_is_integer .nil pass0 (pa_cons (pu 3) (pa_cons (pu 2) (pa_cons (pe_glob rfl T.c_MOST_LETTERS.choose_spec ⟨_, rfl⟩) (pa_nil)))))))))) (pss_one (ps_ret (pe_bl))) (pss_nil)) (pss_one (ps_ret (pe_cmpR (ou_eq2 hr.units) (pe_lenD rfl rfl T.z_len rfl T.z_set (pu 1)) (pe_callB cu_len (by rfl) T.z_len (by decide +kernel) (pa_cons (pu 1) (pa_nil))) (nomark _)))))))
theorem v_is_pattern (T : Tx P K mg a d ca) (G_is_item : FnOk P w K mg base CX0 2 (a 6) (d 6) P_is_item (sp_is_item K ca))     {fa : Addr} {cdv : Value} {A : Around} {outer : List Env} {s : Shared} {H : Hp} {E : XK} (hr : Room 2 (A.deeper (envOfC "is_pattern" (defScope s_is_pattern) s.heap.objs.size fa cdv))) :
    PSs ((cxOf CX0 P w K mg base N_is_pattern "is_pattern" (defScope s_is_pattern) fa cdv A outer s H E).nox) (defBody s_is_pattern) (t_is_pattern K ca) :=
  pss_cons (pus_if (PW.pt (puw_or (put_not (put_val (pe_callB (cu_isiT [.lst, .tup]) rfl T.z_isinstance (by decide +kernel) (pa_cons (pu 0) (pa_cons (pe_tup (pa_cons (pe_bltn rfl T.z_list (by decide +kernel) rfl) (pa_cons (pe_bltn rfl T.z_tuple (by decide +kernel) rfl) (pa_nil)))) pa_nil))))) (pw_or1 (put_not (put_chain ou_le ou_le (pe_int) (pe_callB cu_len (by rfl) T.z_len (by decide +kernel) (pa_cons (pu 0) (pa_nil))) (pe_glob rfl T.c_MOST_ITEMS.choose_spec ⟨_, rfl⟩)))))) (pss_one (ps_ret (pe_bl))) (pss_nil)) (pss_one (ps_ret (pe_callB (cu_all rfl) (by rfl) T.z_all (by decide +kernel) (pa_cons (pe_lc (own := [("item", 1)]) (g := gName 1) (tt := tYes) (te := tCall (sp_is_item K ca) [] E0 (tCons (uVar 1) (tNil))) rfl sc_is_pattern.nd (piu (pu 0)) (blkOk_by (own := [("item", 1)]) (N := N_is_pattern) (sc := defScope s_is_pattern) (by decide +kernel)) (fun _ _ _ _ _ => pg_name (i := 1) sc_is_pattern.nd rfl (Or.inl rfl)) (fun _ _ _ _ _ => pts_nil) (fun _ _ _ _ _ => pe_call G_is_item (hr.mono (by decide)) rfl T.m_is_item T.f_is_item.kp T.b_is_item .nil pass0 (pa_cons (pu 1) (pa_nil)))) (pa_nil)))))
theorem v_need_pattern (T : Tx P K mg a d ca) (G_is_pattern : FnOk P w K mg base CX0 3 (a 7) (d 7) P_is_pattern (sp_is_pattern K ca)) (I_InvalidRow : FnOk P w K mg base CX0 1 (a 28) (d 28) ["self", "value"] (U.spI (ca 2) "value"))    {fa : Addr} {cdv : Value} {A : Around} {outer : List Env} {s : Shared} {H : Hp} {E : XK} (hr : Room 3 (A.deeper (envOfC "need_pattern" (defScope s_need_pattern) s.heap.objs.size fa cdv))) :
    PSs (cxOf (L2.CX P w) P w K mg base N_need_pattern "need_pattern" (defScope s_need_pattern) fa cdv A outer s H E) (defBody s_need_pattern) (t_need_pattern K ca E) :=
  pss_one (pus_if (put_not (put_val (pe_call G_is_pattern (hr.mono (by decide)) rfl T.m_is_pattern T.f_is_pattern.kp T.b_is_pattern .nil pass0 (pa_cons (pu 0) (pa_nil))))) (pss_one (ps_raiseu rfl (takes_of rfl rfl rfl rfl) (pmku T.x_InvalidRow I_InvalidRow (hr.mono (by decide)) T.i_InvalidRow pass0 rfl (pa_cons (pu 0) (pa_nil))))) (pss_nil))
theorem v_is_of (T : Tx P K mg a d ca)      {fa : Addr} {cdv : Value} {A : Around} {outer : List Env} {s : Shared} {H : Hp} {E : XK} (hr : Room 0 (A.deeper (envOfC "is_of" (defScope s_is_of) s.heap.objs.size fa cdv))) :
    PSs ((cxOf CX0 P w K mg base N_is_of "is_of" (defScope s_is_of) fa cdv A outer s H E).nox) (defBody s_is_of) (t_is_of K ca) :=
  pss_cons (ps_asg (pu 0) (pg_ts rfl (pgs_cons (pg_name (i := 3) sc_is_of.nd rfl (Or.inl rfl)) (pgs_cons (pg_name (i := 4) sc_is_of.nd rfl (Or.inl rfl)) (pgs_cons (pg_name (i := 5) sc_is_of.nd rfl (Or.inl rfl)) (pgs_nil)))))) (pss_one (ps_ret (pue_and (pe_cmpR ou_in (pu 1) (pu 3) (by rfl)) (pe_one (pue_chain ou_le ou_le (pu 4) (pu 2) (pu 5))))))
theorem v_pattern_places (T : Tx P K mg a d ca) (G_need_text : FnOk P w K mg base (L2.CX P w) 4 (a 5) (d 5) P_need_text (sp_need_text K ca)) (G_need_pattern : FnOk P w K mg base (L2.CX P w) 4 (a 8) (d 8) P_need_pattern (sp_need_pattern K ca)) (G_is_of : FnOk P w K mg base CX0 1 (a 9) (d 9) P_is_of (sp_is_of K ca))     {fa : Addr} {cdv : Value} {A : Around} {outer : List Env} {s : Shared} {H : Hp} {E : XK} {pn : List (Addr × Obj)} {Γ : Type} (gx : GX (gcxOf P w K mg base N_pattern_places "pattern_places" (defScope s_pattern_places) fa cdv A outer s H E pn)) (hr : Room 4 (A.deeper (envOfC "pattern_places" (defScope s_pattern_places) s.heap.objs.size fa cdv))) :
    GB Γ (gcxOf P w K mg base N_pattern_places "pattern_places" (defScope s_pattern_places) fa cdv A outer s H E pn) (defBody s_pattern_places) (t_pattern_places K ca E Γ) :=
  gb_cons (ps_expr (pe_call G_need_text (hr.mono (by decide)) rfl T.m_need_text T.f_need_text.kp T.b_need_text .nil (passes_call takes_gcx (fun _ _ _ _ h => h)) (pa_cons (pu 0) (pa_nil)))) (gb_cons (ps_expr (pe_call G_need_pattern (hr.mono (by decide)) rfl T.m_need_pattern T.f_need_pattern.kp T.b_need_pattern .nil (passes_call takes_gcx (fun _ _ _ _ h => h)) (pa_cons (pu 1) (pa_nil)))) (gb_for gx rfl (pi_range1 rfl T.z_range (pa_cons (pe_op ou_sub (pe_op ou_addT (pe_callB cu_len (by rfl) T.z_len (by decide +kernel) (pa_cons (pu 0) (pa_nil))) (pe_int)) (pe_callB cu_len (by rfl) T.z_len (by decide +kernel) (pa_cons (pu 1) (pa_nil)))) (pa_nil))) (fun sj Hj => pg_name (i := 2) sc_pattern_places.nd rfl (Or.inl rfl)) (gss1_cons (gs1_ps (fun sj Hj => ps_set (i := 3) sc_pattern_places.nd rfl (Or.inl rfl) (pe_slice su_slT (pu 0) (pou_some (pu 2)) (pou_some (pe_op ou_addT (pu 2) (pe_callB cu_len (by rfl) T.z_len (by decide +kernel) (pa_cons (pu 1) (pa_nil)))))))) (gss1_cons (gs1_if (fun sj Hj => put_val (pe_callB (cu_all rfl) (by rfl) T.z_all (by decide +kernel) (pa_cons (pe_lc (own := [("item", 4), ("mark", 5), ("word", 6)]) (g := gTs K 2 (gCons (gName 4) (gCons (gTs K 2 (gCons (gName 5) (gCons (gName 6) (gNil)))) (gNil)))) (tt := tYes) (te := tCall (sp_is_of K ca) [] E0 (tCons (uVar 4) (tCons (uVar 5) (tCons (tCB (uLen K) (tCons (uVar 6) (tNil))) (tNil))))) rfl sc_pattern_places.nd (pi_zipU rfl T.z_zip (pa_cons (pu 1) (pa_cons (pu 3) (pa_nil)))) (blkOk_by (own := [("item", 4), ("mark", 5), ("word", 6)]) (N := N_pattern_places) (sc := defScope s_pattern_places) (by decide +kernel)) (fun _ _ _ _ _ => pg_ts rfl (pgs_cons (pg_name (i := 4) sc_pattern_places.nd rfl (Or.inl rfl)) (pgs_cons (pg_ts rfl (pgs_cons (pg_name (i := 5) sc_pattern_places.nd rfl (Or.inl rfl)) (pgs_cons (pg_name (i := 6) sc_pattern_places.nd rfl (Or.inl rfl)) (pgs_nil)))) (pgs_nil)))) (fun _ _ _ _ _ => pts_nil) (fun _ _ _ _ _ => pe_call G_is_of (hr.mono (by decide)) rfl T.m_is_of T.f_is_of.kp T.b_is_of .nil pass0 (pa_cons (pu 4) (pa_cons (pu 5) (pa_cons (pe_callB cu_len (by rfl) T.z_len (by decide +kernel) (pa_cons (pu 6) (pa_nil))) (pa_nil)))))) (pa_nil)))) (gss1_cons (gs1_yield gx (fun sj Hj => pu 2)) (gss1_nil)) (gss1_nil)) (gss1_nil)))))
theorem v__law_cell (T : Tx P K mg a d ca)      {fa : Addr} {cdv : Value} {A : Around} {outer : List Env} {s : Shared} {H : Hp} {E : XK} (hr : Room 0 (A.deeper (envOfC "_law_cell" (defScope s__law_cell) s.heap.objs.size fa cdv))) :
    PSs ((cxOf CX0 P w K mg base N__law_cell "_law_cell" (defScope s__law_cell) fa cdv A outer s H E).nox) (defBody s__law_cell) (t__law_cell K ca) :=
  pss_cons (pus_if (put_cmp ou_lt (pu 1) (pe_callB cu_len (by rfl) T.z_len (by decide +kernel) (pa_cons (pu 0) (pa_nil))) (nomark _)) (pss_one (ps_ret (pe_ix iu_ix (pu 0) (pu 1) (fun _ _ => rfl)))) (pss_nil)) (pss_one (ps_ret (pe_op ou_add (pe_op ou_mul3 (pe_int) (pu 1)) (pe_int))))
theorem v__law_purse (T : Tx P K mg a d ca)      {fa : Addr} {cdv : Value} {A : Around} {outer : List Env} {s : Shared} {H : Hp} {E : XK} (hr : Room 0 (A.deeper (envOfC "_law_purse" (defScope s__law_purse) s.heap.objs.size fa cdv))) :
    PSs ((cxOf CX0 P w K mg base N__law_purse "_law_purse" (defScope s__law_purse) fa cdv A outer s H E).nox) (defBody s__law_purse) (t__law_purse K ca) :=
  pss_one (ps_ret (pe_lst (pa_cons (pe_callB (cu_max rfl) (by rfl) T.z_max (by decide +kernel) (pa_cons (pe_int) (pa_cons (pe_op ou_sub (pu 0) (pe_op ou_pow (pe_int) (pe_int))) (pa_nil)))) (pa_cons (pe_op ou_mod (pu 0) (pe_int)) (pa_cons (pe_int) (pa_nil))))))
theorem v__law_take (T : Tx P K mg a d ca)      {fa : Addr} {cdv : Value} {A : Around} {outer : List Env} {s : Shared} {H : Hp} {E : XK} (hr : Room 0 (A.deeper (envOfC "_law_take" (defScope s__law_take) s.heap.objs.size fa cdv))) :
    PSs ((cxOf CX0 P w K mg base N__law_take "_law_take" (defScope s__law_take) fa cdv A outer s H E).nox) (defBody s__law_take) (t__law_take K ca) :=
  pss_cons (pus_if (put_cmp ou_gt (pe_ix iu_ix (pu 0) (pe_int) (fun _ _ => rfl)) (pe_int) (nomark _)) (pss_cons (ps_set (i := 2) sc__law_take.nd rfl (Or.inl rfl) (pe_op ou_mod (pe_ix iu_ix (pu 0) (pe_int) (fun _ _ => rfl)) (pu 1))) (pss_cons (ps_asg (pe_op ou_fdiv (pe_ix iu_ix (pu 0) (pe_int) (fun _ _ => rfl)) (pu 1)) (pg_sub (pu 0) (pe_int) setu)) (pss_one (ps_ret (pu 2))))) (pss_nil)) (pss_cons (ps_asg (pe_op ou_add (pe_ix iu_ix (pu 0) (pe_int) (fun _ _ => rfl)) (pe_int)) (pg_sub (pu 0) (pe_int) setu)) (pss_cons (ps_set (i := 3) sc__law_take.nd rfl (Or.inl rfl) (pe_op ou_mod (pe_op ou_pow (pe_op ou_add (pe_op ou_add (pe_ix iu_ix (pu 0) (pe_int) (fun _ _ => rfl)) (pe_op ou_mul3 (pe_int) (pe_ix iu_ix (pu 0) (pe_int) (fun _ _ => rfl)))) (pe_int)) (pe_int)) (pe_int))) (pss_cons (ps_set (i := 3) sc__law_take.nd rfl (Or.inl rfl) (pe_op ou_mod (pe_op ou_pow (pe_op ou_add (pu 3) (pe_op ou_mul3 (pe_int) (pe_ix iu_ix (pu 0) (pe_int) (fun _ _ => rfl)))) (pe_int)) (pe_int))) (pss_one (ps_ret (pe_op ou_mod (pe_op ou_fdiv (pu 3) (pe_int)) (pu 1)))))))
theorem v__law_all_marks (T : Tx P K mg a d ca)      {fa : Addr} {cdv : Value} {A : Around} {outer : List Env} {s : Shared} {H : Hp} {E : XK} (hr : Room 0 (A.deeper (envOfC "_law_all_marks" (defScope s__law_all_marks) s.heap.objs.size fa cdv))) :
    PSs ((cxOf CX0 P w K mg base N__law_all_marks "_law_all_marks" (defScope s__law_all_marks) fa cdv A outer s H E).nox) (defBody s__law_all_marks) (t__law_all_marks K ca) :=
  pss_one (ps_ret (pe_lst (pa_cons (pe_str) (pa_cons (pe_str) (pa_cons (pe_str) (pa_cons (pe_str) (pa_cons (pe_str) (pa_cons (pe_str) (pa_cons (pe_str) (pa_cons (pe_str) (pa_cons (pe_str) (pa_cons (pe_str) (pa_cons (pe_str) (pa_cons (pe_str) (pa_cons (pe_str) (pa_nil))))))))))))))))
theorem v__law_mark (T : Tx P K mg a d ca) (G__law_take : FnOk P w K mg base CX0 1 (a 13) (d 13) P__law_take (sp__law_take K ca))     {fa : Addr} {cdv : Value} {A : Around} {outer : List Env} {s : Shared} {H : Hp} {E : XK} (hr : Room 1 (A.deeper (envOfC "_law_mark" (defScope s__law_mark) s.heap.objs.size fa cdv))) :
    PSs ((cxOf CX0 P w K mg base N__law_mark "_law_mark" (defScope s__law_mark) fa cdv A outer s H E).nox) (defBody s__law_mark) (t__law_mark K ca) :=
  pss_cons (pus_if (put_cmp (ou_eq2 hr.units) (pe_call G__law_take (hr.mono (by decide)) rfl T.m__law_take T.f__law_take.kp T.b__law_take .nil pass0 (pa_cons (pu 0) (pa_cons (pe_int) (pa_nil)))) (pe_int) (nomark _)) (pss_one (ps_ret (pe_str))) (pss_nil)) (pss_one (ps_ret (pe_op ou_add (pe_ix iu_ix (pe_str) (pe_call G__law_take (hr.mono (by decide)) rfl T.m__law_take T.f__law_take.kp T.b__law_take .nil pass0 (pa_cons (pu 0) (pa_cons (pe_int) (pa_nil)))) (fun _ _ => rfl)) (pe_ix iu_ix (pe_str) (pe_call G__law_take (hr.mono (by decide)) rfl T.m__law_take T.f__law_take.kp T.b__law_take .nil pass0 (pa_cons (pu 0) (pa_cons (pe_int) (pa_nil)))) (fun _ _ => rfl)))))
theorem v__law_word (T : Tx P K mg a d ca) (G__law_take : FnOk P w K mg base CX0 1 (a 13) (d 13) P__law_take (sp__law_take K ca))     {fa : Addr} {cdv : Value} {A : Around} {outer : List Env} {s : Shared} {H : Hp} {E : XK} (hr : Room 1 (A.deeper (envOfC "_law_word" (defScope s__law_word) s.heap.objs.size fa cdv))) :
    PSs ((cxOf CX0 P w K mg base N__law_word "_law_word" (defScope s__law_word) fa cdv A outer s H E).nox) (defBody s__law_word) (t__law_word K ca) :=
  pss_cons (ps_set (i := 2) sc__law_word.nd rfl (Or.inr rfl) (pe_str)) (pss_one (ps_ret (pe_m1 F.slot_str_join F.type_str_join mu_join (pe_str) (pe_lc (own := [("_law_k", 3)]) (g := gName 3) (tt := tYes) (te := tOp (uIx K) (uVar 2) (tCall (sp__law_take K ca) [] E0 (tCons (uVar 0) (tCons (tC (.int 26)) (tNil))))) rfl sc__law_word.nd (pi_range1 rfl T.z_range (pa_cons (pe_op ou_add (pe_int) (pe_call G__law_take (hr.mono (by decide)) rfl T.m__law_take T.f__law_take.kp T.b__law_take .nil pass0 (pa_cons (pu 0) (pa_cons (pu 1) (pa_nil))))) (pa_nil))) (blkOk_by (own := [("_law_k", 3)]) (N := N__law_word) (sc := defScope s__law_word) (by decide +kernel)) (fun _ _ _ _ _ => pg_name (i := 3) sc__law_word.nd rfl (Or.inl rfl)) (fun _ _ _ _ _ => pts_nil) (fun _ _ _ _ _ => pe_ix iu_ix (pu 2) (pe_call G__law_take (hr.mono (by decide)) rfl T.m__law_take T.f__law_take.kp T.b__law_take .nil pass0 (pa_cons (pu 0) (pa_cons (pe_int) (pa_nil)))) (fun _ _ => rfl))))))
theorem v__law_text (T : Tx P K mg a d ca) (G__law_take : FnOk P w K mg base CX0 1 (a 13) (d 13) P__law_take (sp__law_take K ca)) (G__law_mark : FnOk P w K mg base CX0 2 (a 15) (d 15) P__law_mark (sp__law_mark K ca)) (G__law_word : FnOk P w K mg base CX0 2 (a 16) (d 16) P__law_word (sp__law_word K ca))     {fa : Addr} {cdv : Value} {A : Around} {outer : List Env} {s : Shared} {H : Hp} {E : XK} (hr : Room 2 (A.deeper (envOfC "_law_text" (defScope s__law_text) s.heap.objs.size fa cdv))) :
    PSs ((cxOf CX0 P w K mg base N__law_text "_law_text" (defScope s__law_text) fa cdv A outer s H E).nox) (defBody s__law_text) (t__law_text K ca) :=
  pss_cons (ps_set (i := 3) sc__law_text.nd rfl (Or.inl rfl) (pe_lst (pa_nil))) (pss_cons (ps_for PassesOwn.never rfl (pi_range1 rfl T.z_range (pa_cons (pu 1) (pa_nil))) (pg_name (i := 4) sc__law_text.nd rfl (Or.inl rfl)) (pss_cons (ps_set (i := 5) sc__law_text.nd rfl (Or.inl rfl) (pue_if (put_cmp ou_gt (pu 4) (pe_int) (nomark _)) (pe_call G__law_mark (hr.mono (by decide)) rfl T.m__law_mark T.f__law_mark.kp T.b__law_mark .nil pass0 (pa_cons (pu 0) (pa_nil))) (pe_op ou_add (pe_str) (pe_ix iu_ix (pe_str) (pe_call G__law_take (hr.mono (by decide)) rfl T.m__law_take T.f__law_take.kp T.b__law_take .nil pass0 (pa_cons (pu 0) (pa_cons (pe_int) (pa_nil)))) (fun _ _ => rfl))))) (pss_one (ps_expr (pe_bm PySem.F.plainAttrs_list PySem.F.slot_list_append PySem.F.type_list_append mu_append (pu 3) (pa_cons (pe_tup (pa_cons (pu 5) (pa_cons (pe_call G__law_word (hr.mono (by decide)) rfl T.m__law_word T.f__law_word.kp T.b__law_word .nil pass0 (pa_cons (pu 0) (pa_cons (pu 2) (pa_nil)))) (pa_nil)))) (pa_nil))))))) (pss_one (ps_ret (pu 3))))
theorem v__law_is_length (T : Tx P K mg a d ca)      {fa : Addr} {cdv : Value} {A : Around} {outer : List Env} {s : Shared} {H : Hp} {E : XK} (hr : Room 0 (A.deeper (envOfC "_law_is_length" (defScope s__law_is_length) s.heap.objs.size fa cdv))) :
    PSs ((cxOf CX0 P w K mg base N__law_is_length "_law_is_length" (defScope s__law_is_length) fa cdv A outer s H E).nox) (defBody s__law_is_length) (t__law_is_length K ca) :=
  pss_one (ps_ret (pue_and (pue_isi .int (pu 0) rfl T.z_isinstance rfl T.z_int (by decide +kernel)) (pue_and (pue_not (pue_isi .bl (pu 0) rfl T.z_isinstance rfl T.z_bool (by decide +kernel))) (pe_one (pue_chain ou_le ou_le (pe_int) (pu 0) (pe_int))))))
theorem v__law_good_item (T : Tx P K mg a d ca) (G__law_all_marks : FnOk P w K mg base CX0 1 (a 14) (d 14) P__law_all_marks (sp__law_all_marks K ca)) (G__law_is_length : FnOk P w K mg base CX0 1 (a 18) (d 18) P__law_is_length (sp__law_is_length K ca))     {fa : Addr} {cdv : Value} {A : Around} {outer : List Env} {s : Shared} {H : Hp} {E : XK} (hr : Room 1 (A.deeper (envOfC "_law_good_item" (defScope s__law_good_item) s.heap.objs.size fa cdv))) :
    PSs ((cxOf CX0 P w K mg base N__law_good_item "_law_good_item" (defScope s__law_good_item) fa cdv A outer s H E).nox) (defBody s__law_good_item) (t__law_good_item K ca) :=
  pss_cons (pus_if (PW.pt (puw_or (put_not (put_val (pue_isi .tup (pu 0) rfl T.z_isinstance rfl T.z_tuple (by decide +kernel)))) (puw_or (put_cmp (ou_ne2 hr.units) (pe_callB cu_len (by rfl) T.z_len (by decide +kernel) (pa_cons (pu 0) (pa_nil))) (pe_int) (nomark _)) (puw_or (put_not (put_val (pe_callB (cu_isiT [.lst, .tup]) rfl T.z_isinstance (by decide +kernel) (pa_cons (pe_ix iu_ix (pu 0) (pe_int) (fun _ _ => rfl)) (pa_cons (pe_tup (pa_cons (pe_bltn rfl T.z_list (by decide +kernel) rfl) (pa_cons (pe_bltn rfl T.z_tuple (by decide +kernel) rfl) (pa_nil)))) pa_nil))))) (pw_or1 (put_cmp (ou_eq2 hr.units) (pe_callB cu_len (by rfl) T.z_len (by decide +kernel) (pa_cons (pe_ix iu_ix (pu 0) (pe_int) (fun _ _ => rfl)) (pa_nil))) (pe_int) (nomark _))))))) (pss_one (ps_ret (pe_bl))) (pss_nil)) (pss_cons (ps_for PassesOwn.never rfl (pi_enumU rfl T.z_enumerate (pa_cons (pe_ix iu_ix (pu 0) (pe_int) (fun _ _ => rfl)) (pa_nil))) (pg_ts rfl (pgs_cons (pg_name (i := 1) sc__law_good_item.nd rfl (Or.inl rfl)) (pgs_cons (pg_name (i := 2) sc__law_good_item.nd rfl (Or.inl rfl)) (pgs_nil)))) (pss_one (pus_if (PW.pt (puw_or (put_not (put_val (pue_isi .str (pu 2) rfl T.z_isinstance rfl T.z_str (by decide +kernel)))) (puw_or (put_cmp ou_notin (pu 2) (pe_call0 G__law_all_marks (hr.mono (by decide)) rfl T.m__law_all_marks T.f__law_all_marks.kp T.b__law_all_marks .nil pass0) (by rfl)) (pw_or1 (put_cmp ou_in (pu 2) (pe_slice su_sl (pe_ix iu_ix (pu 0) (pe_int) (fun _ _ => rfl)) (po_none) (pou_some (pu 1))) (by rfl)))))) (pss_one (ps_ret (pe_bl))) (pss_nil)))) (pss_one (ps_ret (pue_and (pe_call G__law_is_length (hr.mono (by decide)) rfl T.m__law_is_length T.f__law_is_length.kp T.b__law_is_length .nil pass0 (pa_cons (pe_ix iu_ix (pu 0) (pe_int) (fun _ _ => rfl)) (pa_nil))) (pue_and (pe_call G__law_is_length (hr.mono (by decide)) rfl T.m__law_is_length T.f__law_is_length.kp T.b__law_is_length .nil pass0 (pa_cons (pe_ix iu_ix (pu 0) (pe_int) (fun _ _ => rfl)) (pa_nil))) (pe_one (pe_cmpR ou_le (pe_ix iu_ix (pu 0) (pe_int) (fun _ _ => rfl)) (pe_ix iu_ix (pu 0) (pe_int) (fun _ _ => rfl)) (nomark _))))))))
theorem v__law_good (T : Tx P K mg a d ca) (G__law_good_item : FnOk P w K mg base CX0 2 (a 19) (d 19) P__law_good_item (sp__law_good_item K ca))     {fa : Addr} {cdv : Value} {A : Around} {outer : List Env} {s : Shared} {H : Hp} {E : XK} (hr : Room 2 (A.deeper (envOfC "_law_good" (defScope s__law_good) s.heap.objs.size fa cdv))) :
    PSs ((cxOf CX0 P w K mg base N__law_good "_law_good" (defScope s__law_good) fa cdv A outer s H E).nox) (defBody s__law_good) (t__law_good K ca) :=
  pss_cons (pus_if (PW.pt (puw_or (put_not (put_val (pe_callB (cu_isiT [.lst, .tup]) rfl T.z_isinstance (by decide +kernel) (pa_cons (pu 0) (pa_cons (pe_tup (pa_cons (pe_bltn rfl T.z_list (by decide +kernel) rfl) (pa_cons (pe_bltn rfl T.z_tuple (by decide +kernel) rfl) (pa_nil)))) pa_nil))))) (pw_or1 (put_not (put_chain ou_le ou_le (pe_int) (pe_callB cu_len (by rfl) T.z_len (by decide +kernel) (pa_cons (pu 0) (pa_nil))) (pe_int)))))) (pss_one (ps_ret (pe_bl))) (pss_nil)) (pss_one (ps_ret (pe_cmpR (ou_eq3 hr.units) (pe_lc (own := [("_law_item", 1)]) (g := gName 1) (tt := uNot (uT (tCall (sp__law_good_item K ca) [] E0 (tCons (uVar 1) (tNil))))) (te := uVar 1) rfl sc__law_good.nd (piu (pu 0)) (blkOk_by (own := [("_law_item", 1)]) (N := N__law_good) (sc := defScope s__law_good) (by decide +kernel)) (fun _ _ _ _ _ => pg_name (i := 1) sc__law_good.nd rfl (Or.inl rfl)) (fun _ _ _ _ _ => pts_one (put_not (put_val (pe_call G__law_good_item (hr.mono (by decide)) rfl T.m__law_good_item T.f__law_good_item.kp T.b__law_good_item .nil pass0 (pa_cons (pu 1) (pa_nil)))))) (fun _ _ _ _ _ => pu 1)) (pe_lst (pa_nil)) (nomark _))))
theorem v__law_pattern (T : Tx P K mg a d ca) (G__law_take : FnOk P w K mg base CX0 1 (a 13) (d 13) P__law_take (sp__law_take K ca)) (G__law_mark : FnOk P w K mg base CX0 2 (a 15) (d 15) P__law_mark (sp__law_mark K ca))     {fa : Addr} {cdv : Value} {A : Around} {outer : List Env} {s : Shared} {H : Hp} {E : XK} (hr : Room 2 (A.deeper (envOfC "_law_pattern" (defScope s__law_pattern) s.heap.objs.size fa cdv))) :
    PSs ((cxOf CX0 P w K mg base N__law_pattern "_law_pattern" (defScope s__law_pattern) fa cdv A outer s H E).nox) (defBody s__law_pattern) (t__law_pattern K ca) :=
  pss_cons (ps_set (i := 2) sc__law_pattern.nd rfl (Or.inl rfl) (pe_op ou_add (pe_int) (pe_call G__law_take (hr.mono (by decide)) rfl T.m__law_take T.f__law_take.kp T.b__law_take .nil pass0 (pa_cons (pu 0) (pa_cons (pe_int) (pa_nil)))))) (pss_cons (ps_set (i := 3) sc__law_pattern.nd rfl (Or.inl rfl) (pe_call G__law_take (hr.mono (by decide)) rfl T.m__law_take T.f__law_take.kp T.b__law_take .nil pass0 (pa_cons (pu 0) (pa_cons (pe_op ou_add (pe_callB cu_len (by rfl) T.z_len (by decide +kernel) (pa_cons (pu 1) (pa_nil))) (pe_int)) (pa_nil))))) (pss_cons (ps_set (i := 4) sc__law_pattern.nd rfl (Or.inl rfl) (pue_if (put_cmp ou_gt (pe_call G__law_take (hr.mono (by decide)) rfl T.m__law_take T.f__law_take.kp T.b__law_take .nil pass0 (pa_cons (pu 0) (pa_cons (pe_int) (pa_nil)))) (pe_int) (nomark _)) (pe_slice su_sl (pu 1) (pou_some (pu 3)) (pou_some (pe_op ou_add (pu 3) (pu 2)))) (pe_lst (pa_nil)))) (pss_cons (pus_if (put_cmp (ou_eq3 hr.units) (pu 4) (pe_lst (pa_nil)) (nomark _)) (pss_one (ps_setLc (i := 4) (own := [("_law_k", 9)]) (g := gName 9) (tt := tYes) (te := tTup (tCons (tCall (sp__law_mark K ca) [] E0 (tCons (uVar 0) (tNil))) (tCons (tOp uMul3 (tC (.str "a")) (tOp (uAdd K) (tC (.int 1)) (tCall (sp__law_take K ca) [] E0 (tCons (uVar 0) (tCons (tC (.int 6)) (tNil)))))) (tNil)))) rfl sc__law_pattern.nd rfl rfl (sw_true rfl rfl rfl (by decide +kernel)) (pi_range1 rfl T.z_range (pa_cons (pu 2) (pa_nil))) (blkOk_by (own := [("_law_k", 9)]) (N := N__law_pattern) (sc := defScope s__law_pattern) (by decide +kernel)) (fun _ _ _ _ _ => pg_name (i := 9) sc__law_pattern.nd rfl (Or.inl rfl)) (fun _ _ _ _ _ => pts_nil) (fun _ _ _ _ _ => pe_tup (pa_cons (pe_call G__law_mark (hr.mono (by decide)) rfl T.m__law_mark T.f__law_mark.kp T.b__law_mark .nil pass0 (pa_cons (pu 0) (pa_nil))) (pa_cons (pe_op ou_mul3 (pe_str) (pe_op ou_add (pe_int) (pe_call G__law_take (hr.mono (by decide)) rfl T.m__law_take T.f__law_take.kp T.b__law_take .nil pass0 (pa_cons (pu 0) (pa_cons (pe_int) (pa_nil)))))) (pa_nil)))))) (pss_nil)) (pss_cons (ps_set (i := 5) sc__law_pattern.nd rfl (Or.inl rfl) (pe_lst (pa_nil))) (pss_cons (ps_for PassesOwn.never rfl (piu (pu 4)) (pg_ts rfl (pgs_cons (pg_name (i := 6) sc__law_pattern.nd rfl (Or.inl rfl)) (pgs_cons (pg_name (i := 7) sc__law_pattern.nd rfl (Or.inl rfl)) (pgs_nil)))) (pss_cons (ps_set (i := 8) sc__law_pattern.nd rfl (Or.inl rfl) (pe_lst (pa_cons (pu 6) (pa_nil)))) (pss_cons (ps_for PassesOwn.never rfl (pi_range1 rfl T.z_range (pa_cons (pe_call G__law_take (hr.mono (by decide)) rfl T.m__law_take T.f__law_take.kp T.b__law_take .nil pass0 (pa_cons (pu 0) (pa_cons (pe_int) (pa_nil)))) (pa_nil))) (pg_name (i := 9) sc__law_pattern.nd rfl (Or.inl rfl)) (pss_cons (ps_set (i := 10) sc__law_pattern.nd rfl (Or.inl rfl) (pe_call G__law_mark (hr.mono (by decide)) rfl T.m__law_mark T.f__law_mark.kp T.b__law_mark .nil pass0 (pa_cons (pu 0) (pa_nil)))) (pss_one (ps_set (i := 8) sc__law_pattern.nd rfl (Or.inl rfl) (pe_op ou_add (pu 8) (pe_op ou_mul3 (pe_lst (pa_cons (pu 10) (pa_nil))) (pe_callTy cu_int (by rfl) T.z_int (by decide +kernel) (pa_cons (pe_cmpR ou_notin (pu 10) (pu 8) (by rfl)) (pa_nil))))))))) (pss_cons (ps_set (i := 11) sc__law_pattern.nd rfl (Or.inl rfl) (pe_callB (cu_max rfl) (by rfl) T.z_max (by decide +kernel) (pa_cons (pe_int) (pa_cons (pe_op ou_sub (pe_callB cu_len (by rfl) T.z_len (by decide +kernel) (pa_cons (pu 7) (pa_nil))) (pe_call G__law_take (hr.mono (by decide)) rfl T.m__law_take T.f__law_take.kp T.b__law_take .nil pass0 (pa_cons (pu 0) (pa_cons (pe_int) (pa_nil))))) (pa_nil))))) (pss_cons (ps_set (i := 12) sc__law_pattern.nd rfl (Or.inl rfl) (pe_call G__law_take (hr.mono (by decide)) rfl T.m__law_take T.f__law_take.kp T.b__law_take .nil pass0 (pa_cons (pu 0) (pa_cons (pe_callB cu_len (by rfl) T.z_len (by decide +kernel) (pa_cons (pu 8) (pa_nil))) (pa_nil))))) (pss_cons (ps_set (i := 8) sc__law_pattern.nd rfl (Or.inl rfl) (pe_op ou_add (pe_slice su_sl (pu 8) (pou_some (pu 12)) (po_none)) (pe_slice su_sl (pu 8) (po_none) (pou_some (pu 12))))) (pss_one (ps_expr (pe_bm PySem.F.plainAttrs_list PySem.F.slot_list_append PySem.F.type_list_append mu_append (pu 5) (pa_cons (pe_tup (pa_cons (pe_ix iu_ix (pe_lst (pa_cons (pu 8) (pa_cons (pe_callTy cu_tuple (by rfl) T.z_tuple (by decide +kernel) (pa_cons (pu 8) (pa_nil))) (pa_nil)))) (pe_call G__law_take (hr.mono (by decide)) rfl T.m__law_take T.f__law_take.kp T.b__law_take .nil pass0 (pa_cons (pu 0) (pa_cons (pe_int) (pa_nil)))) (fun _ _ => rfl)) (pa_cons (pu 11) (pa_cons (pe_callB (cu_min rfl) (by rfl) T.z_min (by decide +kernel) (pa_cons (pe_int) (pa_cons (pe_op ou_add (pe_callB cu_len (by rfl) T.z_len (by decide +kernel) (pa_cons (pu 7) (pa_nil))) (pe_call G__law_take (hr.mono (by decide)) rfl T.m__law_take T.f__law_take.kp T.b__law_take .nil pass0 (pa_cons (pu 0) (pa_cons (pe_int) (pa_nil))))) (pa_nil)))) (pa_nil))))) (pa_nil))))))))))) (pss_one (ps_ret (pu 5))))))))
theorem v__law_spoilt (T : Tx P K mg a d ca) (G__law_take : FnOk P w K mg base CX0 1 (a 13) (d 13) P__law_take (sp__law_take K ca))     {fa : Addr} {cdv : Value} {A : Around} {outer : List Env} {s : Shared} {H : Hp} {E : XK} (hr : Room 1 (A.deeper (envOfC "_law_spoilt" (defScope s__law_spoilt) s.heap.objs.size fa cdv))) :
    PSs ((cxOf CX0 P w K mg base N__law_spoilt "_law_spoilt" (defScope s__law_spoilt) fa cdv A outer s H E).nox) (defBody s__law_spoilt) (t__law_spoilt K ca) :=
  pss_cons (ps_set (i := 2) sc__law_spoilt.nd rfl (Or.inl rfl) (pe_callTy cu_list (by rfl) T.z_list (by decide +kernel) (pa_cons (pu 1) (pa_nil)))) (pss_cons (ps_set (i := 3) sc__law_spoilt.nd rfl (Or.inl rfl) (pe_call G__law_take (hr.mono (by decide)) rfl T.m__law_take T.f__law_take.kp T.b__law_take .nil pass0 (pa_cons (pu 0) (pa_cons (pe_callB cu_len (by rfl) T.z_len (by decide +kernel) (pa_cons (pu 2) (pa_nil))) (pa_nil))))) (pss_cons (ps_asg (pe_ix iu_ix (pu 2) (pu 3) (fun _ _ => rfl)) (pg_ts rfl (pgs_cons (pg_name (i := 4) sc__law_spoilt.nd rfl (Or.inl rfl)) (pgs_cons (pg_name (i := 5) sc__law_spoilt.nd rfl (Or.inl rfl)) (pgs_cons (pg_name (i := 6) sc__law_spoilt.nd rfl (Or.inl rfl)) (pgs_nil)))))) (pss_cons (pus_par (i := 4) (j := 7) rfl sc__law_spoilt.nd rfl rfl (by decide) rfl rfl (pa_cons (pe_callTy cu_list (by rfl) T.z_list (by decide +kernel) (pa_cons (pu 4) (pa_nil))) (pa_cons (pe_call G__law_take (hr.mono (by decide)) rfl T.m__law_take T.f__law_take.kp T.b__law_take .nil pass0 (pa_cons (pu 0) (pa_cons (pe_int) (pa_nil)))) (pa_nil))) (by rfl)) (pss_cons (ps_set (i := 8) sc__law_spoilt.nd rfl (Or.inl rfl) (pe_ix iu_ix (pe_lst (pa_cons (pe_non) (pa_cons (pe_bl) (pa_cons (pe_str) (pa_cons (pe_int) (pa_cons (pe_int) (pa_cons (pe_un ou_neg (pe_int)) (pa_cons (pe_str) (pa_cons (pe_lst (pa_nil)) (pa_cons (pe_dnewK) (pa_cons (pe_str) (pa_cons (pe_op ou_pow (pe_int) (pe_int)) (pa_nil))))))))))))) (pe_call G__law_take (hr.mono (by decide)) rfl T.m__law_take T.f__law_take.kp T.b__law_take .nil pass0 (pa_cons (pu 0) (pa_cons (pe_int) (pa_nil)))) (fun _ _ => rfl))) (pss_cons (pus_if (put_cmp (ou_eq2 hr.units) (pu 7) (pe_int) (nomark _)) (pss_one (ps_ret (pe_op ou_add (pe_op ou_add (pe_op ou_add (pe_op ou_add (pe_op ou_add (pe_op ou_add (pu 2) (pu 2)) (pu 2)) (pu 2)) (pu 2)) (pu 2)) (pu 2)))) (pss_nil)) (pss_cons (pus_if (put_cmp (ou_eq2 hr.units) (pu 7) (pe_int) (nomark _)) (pss_one (ps_ret (pe_ix iu_ix (pe_lst (pa_cons (pe_non) (pa_cons (pe_lst (pa_nil)) (pa_cons (pe_dnewK) (pa_cons (pe_str) (pa_cons (pe_ix iu_ix (pu 2) (pe_int) (fun _ _ => rfl)) (pa_cons (pe_int) (pa_cons (pe_tup (pa_cons (pe_tup (pa_cons (pu 4) (pa_cons (pu 5) (pa_cons (pu 6) (pa_nil))))) (pa_cons (pe_non) (pa_nil)))) (pa_nil))))))))) (pe_call G__law_take (hr.mono (by decide)) rfl T.m__law_take T.f__law_take.kp T.b__law_take .nil pass0 (pa_cons (pu 0) (pa_cons (pe_int) (pa_nil)))) (fun _ _ => rfl)))) (pss_nil)) (pss_cons (ps_set (i := 9) sc__law_spoilt.nd rfl (Or.inl rfl) (pe_lst (pa_cons (pe_tup (pa_cons (pu 4) (pa_cons (pe_op ou_add (pu 6) (pe_int)) (pa_cons (pu 6) (pa_nil))))) (pa_cons (pe_tup (pa_cons (pe_op ou_add (pu 4) (pe_slice su_sl (pu 4) (po_none) (pou_some (pe_int)))) (pa_cons (pu 5) (pa_cons (pu 6) (pa_nil))))) (pa_cons (pe_tup (pa_cons (pe_lst (pa_nil)) (pa_cons (pu 5) (pa_cons (pu 6) (pa_nil))))) (pa_cons (pe_tup (pa_cons (pu 4) (pa_cons (pu 5) (pa_nil)))) (pa_cons (pe_lst (pa_cons (pu 4) (pa_cons (pu 5) (pa_cons (pu 6) (pa_nil))))) (pa_nil)))))))) (pss_cons (ps_set (i := 9) sc__law_spoilt.nd rfl (Or.inl rfl) (pe_op ou_add (pu 9) (pe_lst (pa_cons (pe_tup (pa_cons (pe_op ou_add (pu 4) (pe_lst (pa_cons (pu 8) (pa_nil)))) (pa_cons (pu 5) (pa_cons (pu 6) (pa_nil))))) (pa_cons (pe_tup (pa_cons (pu 4) (pa_cons (pu 8) (pa_cons (pu 6) (pa_nil))))) (pa_cons (pe_tup (pa_cons (pu 4) (pa_cons (pu 5) (pa_cons (pu 8) (pa_nil))))) (pa_cons (pe_tup (pa_cons (pu 4) (pa_cons (pe_int) (pa_cons (pe_int) (pa_nil))))) (pa_cons (pe_tup (pa_cons (pu 4) (pa_cons (pe_int) (pa_cons (pe_bl) (pa_nil))))) (pa_nil))))))))) (pss_cons (ps_asg (pe_ix iu_ix (pu 9) (pe_op ou_sub (pu 7) (pe_int)) (fun _ _ => rfl)) (pg_sub (pu 2) (pu 3) setu)) (pss_one (ps_ret (pu 2))))))))))))
theorem v__law_told (T : Tx P K mg a d ca) (G_pattern_places : GFn1 P w K mg base 5 (a 10) (d 10) P_pattern_places (sp_pattern_places K ca))     {fa : Addr} {cdv : Value} {A : Around} {outer : List Env} {s : Shared} {H : Hp} {E : XK} (hr : Room 6 (A.deeper (envOfC "_law_told" (defScope s__law_told) s.heap.objs.size fa cdv))) :
    PSs ((cxOf CX0 P w K mg base N__law_told "_law_told" (defScope s__law_told) fa cdv A outer s H E).nox) (defBody s__law_told) (t__law_told K ca) :=
  pss_cons (ps_set (i := 2) sc__law_told.nd rfl (Or.inl rfl) (pe_lst (pa_nil))) (pss_cons (pus_try (W0 := (fun _ _ _ _ => False)) (tb := fun W => tForG (tCallX 2 (sp_pattern_places K ca) (WE (NSt K W)) (tCons (uVar 0) (tCons (uVar 1) (tNil)))) (gName 3) (tDrop (tBM K "list" uAppend (uVar 2) (tCons (uVar 3) (tNil))))) rfl rfl sc__law_told.nd takes0 (fun W pn xe tk po => pss_one (ps_forG (n0 := lvK_pattern_places) po (hr.mono (by decide)) (pgx_call G_pattern_places rfl T.m_pattern_places T.f_pattern_places.kp T.b_pattern_places (by decide) (hr.mono (by decide)) (fun σ => passAt tk σ) rfl (pa_cons (pu 0) (pa_cons (pu 1) (pa_nil)))) (pg_name (i := 3) sc__law_told.nd rfl (Or.inl rfl)) (pss_one (ps_expr (pe_bm PySem.F.plainAttrs_list PySem.F.slot_list_append PySem.F.type_list_append mu_append (pu 2) (pa_cons (pu 3) (pa_nil))))))) (.more (k := ⟨.ref (ca 1), some 4, fun a cls d => tAsg (tOp (uAdd K) (uVar 2) (tLst (tCons (tC (.str "text")) (tCons (uXf K a cls d 4 "value") (tNil))))) (gName 2)⟩) ⟨rfl, by decide, Or.inl T.m_InvalidText⟩ rfl rfl rfl (fun a oe cls d pn hz hf => pss_one (ps_set (i := 2) sc__law_told.nd rfl (Or.inl rfl) (pe_op ou_add (pu 2) (pe_lst (pa_cons (pe_str) (pa_cons (pue_xf 4 hz hf) (pa_nil))))))) (.more (k := ⟨.ref (ca 2), some 4, fun a cls d => tAsg (tOp (uAdd K) (uVar 2) (tLst (tCons (tC (.str "row")) (tCons (uXf K a cls d 4 "value") (tNil))))) (gName 2)⟩) ⟨rfl, by decide, Or.inl T.m_InvalidRow⟩ rfl rfl rfl (fun a oe cls d pn hz hf => pss_one (ps_set (i := 2) sc__law_told.nd rfl (Or.inl rfl) (pe_op ou_add (pu 2) (pe_lst (pa_cons (pe_str) (pa_cons (pue_xf 4 hz hf) (pa_nil))))))) (.rest)))) (pss_one (ps_ret (pu 2))))
theorem v__law_due (T : Tx P K mg a d ca)      {fa : Addr} {cdv : Value} {A : Around} {outer : List Env} {s : Shared} {H : Hp} {E : XK} (hr : Room 0 (A.deeper (envOfC "_law_due" (defScope s__law_due) s.heap.objs.size fa cdv))) :
    PSs ((cxOf CX0 P w K mg base N__law_due "_law_due" (defScope s__law_due) fa cdv A outer s H E).nox) (defBody s__law_due) (t__law_due K ca) :=
  pss_cons (ps_set (i := 2) sc__law_due.nd rfl (Or.inl rfl) (pe_lst (pa_nil))) (pss_cons (ps_for PassesOwn.never rfl (pi_range1 rfl T.z_range (pa_cons (pe_op ou_sub (pe_op ou_add (pe_callB cu_len (by rfl) T.z_len (by decide +kernel) (pa_cons (pu 0) (pa_nil))) (pe_int)) (pe_callB cu_len (by rfl) T.z_len (by decide +kernel) (pa_cons (pu 1) (pa_nil)))) (pa_nil))) (pg_name (i := 3) sc__law_due.nd rfl (Or.inl rfl)) (pss_cons (ps_set (i := 4) sc__law_due.nd rfl (Or.inl rfl) (pe_bl)) (pss_cons (ps_for PassesOwn.never rfl (pi_enumU rfl T.z_enumerate (pa_cons (pu 1) (pa_nil))) (pg_ts rfl (pgs_cons (pg_name (i := 5) sc__law_due.nd rfl (Or.inl rfl)) (pgs_cons (pg_ts rfl (pgs_cons (pg_name (i := 6) sc__law_due.nd rfl (Or.inl rfl)) (pgs_cons (pg_name (i := 7) sc__law_due.nd rfl (Or.inl rfl)) (pgs_cons (pg_name (i := 8) sc__law_due.nd rfl (Or.inl rfl)) (pgs_nil))))) (pgs_nil)))) (pss_cons (ps_asg (pe_ix iu_ix (pu 0) (pe_op ou_add (pu 3) (pu 5)) (fun _ _ => rfl)) (pg_ts rfl (pgs_cons (pg_name (i := 9) sc__law_due.nd rfl (Or.inl rfl)) (pgs_cons (pg_name (i := 10) sc__law_due.nd rfl (Or.inl rfl)) (pgs_nil))))) (pss_one (ps_set (i := 4) sc__law_due.nd rfl (Or.inl rfl) (pue_and (pu 4) (pue_and (pe_cmpR ou_in (pu 9) (pu 6) (by rfl)) (pe_one (pue_chain ou_le ou_le (pu 7) (pe_callB cu_len (by rfl) T.z_len (by decide +kernel) (pa_cons (pu 10) (pa_nil))) (pu 8))))))))) (pss_one (ps_set (i := 2) sc__law_due.nd rfl (Or.inl rfl) (pe_op ou_add (pu 2) (pe_op ou_mul3 (pe_lst (pa_cons (pu 3) (pa_nil))) (pe_callTy cu_int (by rfl) T.z_int (by decide +kernel) (pa_cons (pu 4) (pa_nil)))))))))) (pss_one (ps_ret (pu 2))))
theorem v__law_right (T : Tx P K mg a d ca) (G_is_pattern : FnOk P w K mg base CX0 3 (a 7) (d 7) P_is_pattern (sp_is_pattern K ca)) (G__law_take : FnOk P w K mg base CX0 1 (a 13) (d 13) P__law_take (sp__law_take K ca)) (G__law_text : FnOk P w K mg base CX0 3 (a 17) (d 17) P__law_text (sp__law_text K ca)) (G__law_good : FnOk P w K mg base CX0 3 (a 20) (d 20) P__law_good (sp__law_good K ca)) (G__law_pattern : FnOk P w K mg base CX0 3 (a 21) (d 21) P__law_pattern (sp__law_pattern K ca)) (G__law_spoilt : FnOk P w K mg base CX0 2 (a 22) (d 22) P__law_spoilt (sp__law_spoilt K ca)) (G__law_told : FnOk P w K mg base CX0 7 (a 23) (d 23) P__law_told (sp__law_told K ca)) (G__law_due : FnOk P w K mg base CX0 1 (a 24) (d 24) P__law_due (sp__law_due K ca))     {fa : Addr} {cdv : Value} {A : Around} {outer : List Env} {s : Shared} {H : Hp} {E : XK} (hgd : (A.deeper (envOfC "_law_right" (defScope s__law_right) s.heap.objs.size fa cdv)).guards = some []) (hr : Room 7 (A.deeper (envOfC "_law_right" (defScope s__law_right) s.heap.objs.size fa cdv))) :
    PSs ((cxOf CX0 P w K mg base N__law_right "_law_right" (defScope s__law_right) fa cdv A outer s H E).nox) (defBody s__law_right) (t__law_right K ca) :=
  pss_cons (ps_set (i := 1) sc__law_right.nd rfl (Or.inl rfl) (pe_call G__law_text (hr.mono (by decide)) rfl T.m__law_text T.f__law_text.kp T.b__law_text .nil pass0 (pa_cons (pu 0) (pa_cons (pe_call G__law_take (hr.mono (by decide)) rfl T.m__law_take T.f__law_take.kp T.b__law_take .nil pass0 (pa_cons (pu 0) (pa_cons (pe_int) (pa_nil)))) (pa_cons (pe_ix iu_ix (pe_lst (pa_cons (pe_int) (pa_cons (pe_int) (pa_cons (pe_int) (pa_nil))))) (pe_call G__law_take (hr.mono (by decide)) rfl T.m__law_take T.f__law_take.kp T.b__law_take .nil pass0 (pa_cons (pu 0) (pa_cons (pe_int) (pa_nil)))) (fun _ _ => rfl)) (pa_nil)))))) (pss_cons (pus_if (put_cmp (ou_eq2 hr.units) (pe_call G__law_take (hr.mono (by decide)) rfl T.m__law_take T.f__law_take.kp T.b__law_take .nil pass0 (pa_cons (pu 0) (pa_cons (pe_int) (pa_nil)))) (pe_int) (nomark _)) (pss_one (ps_set (i := 1) sc__law_right.nd rfl (Or.inl rfl) (pe_op ou_add (pe_slice su_sl (pu 1) (po_none) (pou_some (pe_int))) (pe_lc (own := [("_law_mark_here", 9), ("_law_word_here", 8)]) (g := gTs K 2 (gCons (gName 9) (gCons (gName 8) (gNil)))) (tt := tYes) (te := tTup (tCons (tOp (uIx K) (tLst (tCons (tC (.str " ")) (tCons (tC (.str "/0")) (tNil)))) (tCall (sp__law_take K ca) [] E0 (tCons (uVar 0) (tCons (tC (.int 2)) (tNil))))) (tCons (L2.tSl (uSl K) (uVar 8) (tNoPart) (uPart (tC (.int 2)))) (tNil)))) rfl sc__law_right.nd (piu (pe_slice su_sl (pu 1) (pou_some (pe_int)) (po_none))) (blkOk_by (own := [("_law_mark_here", 9), ("_law_word_here", 8)]) (N := N__law_right) (sc := defScope s__law_right) (by decide +kernel)) (fun _ _ _ _ _ => pg_ts rfl (pgs_cons (pg_name (i := 9) sc__law_right.nd rfl (Or.inl rfl)) (pgs_cons (pg_name (i := 8) sc__law_right.nd rfl (Or.inl rfl)) (pgs_nil)))) (fun _ _ _ _ _ => pts_nil) (fun _ _ _ _ _ => pe_tup (pa_cons (pe_ix iu_ix (pe_lst (pa_cons (pe_str) (pa_cons (pe_str) (pa_nil)))) (pe_call G__law_take (hr.mono (by decide)) rfl T.m__law_take T.f__law_take.kp T.b__law_take .nil pass0 (pa_cons (pu 0) (pa_cons (pe_int) (pa_nil)))) (fun _ _ => rfl)) (pa_cons (pe_slice su_sl (pu 8) (po_none) (pou_some (pe_int))) (pa_nil)))))))) (pss_nil)) (pss_cons (ps_for PassesOwn.never rfl (pi_range1 rfl T.z_range (pa_cons (pe_int) (pa_nil))) (pg_name (i := 2) sc__law_right.nd rfl (Or.inl rfl)) (pss_cons (ps_set (i := 3) sc__law_right.nd rfl (Or.inl rfl) (pe_call G__law_pattern (hr.mono (by decide)) rfl T.m__law_pattern T.f__law_pattern.kp T.b__law_pattern .nil pass0 (pa_cons (pu 0) (pa_cons (pu 1) (pa_nil))))) (pss_cons (ps_set (i := 4) sc__law_right.nd rfl (Or.inl rfl) (pe_callB (cu_repr3 hgd hr.units) (by rfl) T.z_repr (by decide +kernel) (pa_cons (pe_lst (pa_cons (pu 1) (pa_cons (pu 3) (pa_nil)))) (pa_nil)))) (pss_cons (pus_if (PW.pt (puw_or (put_cmp ou_isnot3 (pe_call G_is_pattern (hr.mono (by decide)) rfl T.m_is_pattern T.f_is_pattern.kp T.b_is_pattern .nil pass0 (pa_cons (pu 3) (pa_nil))) (pe_bl) (nomark _)) (pw_or1 (put_cmp ou_isnot3 (pe_call G_is_pattern (hr.mono (by decide)) rfl T.m_is_pattern T.f_is_pattern.kp T.b_is_pattern .nil pass0 (pa_cons (pe_callTy cu_tuple (by rfl) T.z_tuple (by decide +kernel) (pa_cons (pu 3) (pa_nil))) (pa_nil))) (pe_bl) (nomark _))))) (pss_one (ps_ret (pe_bl))) (pss_nil)) (pss_cons (pus_if (PW.pt (puw_or (put_cmp (ou_ne2 hr.units) (pe_call G__law_told (hr.mono (by decide)) rfl T.m__law_told T.f__law_told.kp T.b__law_told .nil pass0 (pa_cons (pu 1) (pa_cons (pu 3) (pa_nil)))) (pe_call G__law_due (hr.mono (by decide)) rfl T.m__law_due T.f__law_due.kp T.b__law_due .nil pass0 (pa_cons (pu 1) (pa_cons (pu 3) (pa_nil)))) (nomark _)) (pw_or1 (put_cmp (ou_ne2 hr.units) (pe_callB (cu_repr3 hgd hr.units) (by rfl) T.z_repr (by decide +kernel) (pa_cons (pe_lst (pa_cons (pu 1) (pa_cons (pu 3) (pa_nil)))) (pa_nil))) (pu 4) (nomark _))))) (pss_one (ps_ret (pe_bl))) (pss_nil)) (pss_cons (pus_if (put_cmp (ou_ne2 hr.units) (pe_call G__law_told (hr.mono (by decide)) rfl T.m__law_told T.f__law_told.kp T.b__law_told .nil pass0 (pa_cons (pe_callTy cu_tuple (by rfl) T.z_tuple (by decide +kernel) (pa_cons (pu 1) (pa_nil))) (pa_cons (pe_callTy cu_tuple (by rfl) T.z_tuple (by decide +kernel) (pa_cons (pu 3) (pa_nil))) (pa_nil)))) (pe_call G__law_due (hr.mono (by decide)) rfl T.m__law_due T.f__law_due.kp T.b__law_due .nil pass0 (pa_cons (pu 1) (pa_cons (pu 3) (pa_nil)))) (nomark _)) (pss_one (ps_ret (pe_bl))) (pss_nil)) (pss_cons (ps_set (i := 5) sc__law_right.nd rfl (Or.inl rfl) (pe_call G__law_spoilt (hr.mono (by decide)) rfl T.m__law_spoilt T.f__law_spoilt.kp T.b__law_spoilt .nil pass0 (pa_cons (pu 0) (pa_cons (pu 3) (pa_nil))))) (pss_cons (pus_if (put_cmp (ou_ne2 hr.units) (pe_callB (cu_repr3 hgd hr.units) (by rfl) T.z_repr (by decide +kernel) (pa_cons (pe_call G_is_pattern (hr.mono (by decide)) rfl T.m_is_pattern T.f_is_pattern.kp T.b_is_pattern .nil pass0 (pa_cons (pu 5) (pa_nil))) (pa_nil))) (pe_callB (cu_repr3 hgd hr.units) (by rfl) T.z_repr (by decide +kernel) (pa_cons (pe_call G__law_good (hr.mono (by decide)) rfl T.m__law_good T.f__law_good.kp T.b__law_good .nil pass0 (pa_cons (pu 5) (pa_nil))) (pa_nil))) (nomark _)) (pss_one (ps_ret (pe_bl))) (pss_nil)) (pss_cons (pus_if (PW.pt (puw_and (put_not (put_val (pe_call G__law_good (hr.mono (by decide)) rfl T.m__law_good T.f__law_good.kp T.b__law_good .nil pass0 (pa_cons (pu 5) (pa_nil))))) (pw_and1 (put_cmp (ou_ne2 hr.units) (pe_callB (cu_repr3 hgd hr.units) (by rfl) T.z_repr (by decide +kernel) (pa_cons (pe_call G__law_told (hr.mono (by decide)) rfl T.m__law_told T.f__law_told.kp T.b__law_told .nil pass0 (pa_cons (pu 1) (pa_cons (pu 5) (pa_nil)))) (pa_nil))) (pe_callB (cu_repr3 hgd hr.units) (by rfl) T.z_repr (by decide +kernel) (pa_cons (pe_lst (pa_cons (pe_str) (pa_cons (pu 5) (pa_nil)))) (pa_nil))) (nomark _))))) (pss_one (ps_ret (pe_bl))) (pss_nil)) (pss_cons (ps_set (i := 6) sc__law_right.nd rfl (Or.inl rfl) (pe_ix iu_ix (pe_lst (pa_cons (pe_non) (pa_cons (pe_str) (pa_cons (pe_op ou_add (pu 1) (pe_lst (pa_cons (pe_tup (pa_cons (pe_str) (pa_cons (pe_str) (pa_nil)))) (pa_nil)))) (pa_cons (pe_op ou_add (pe_lst (pa_cons (pe_tup (pa_cons (pe_str) (pa_cons (pe_str) (pa_nil)))) (pa_nil))) (pu 1)) (pa_cons (pe_int) (pa_cons (pe_op ou_add (pe_lst (pa_cons (pe_lst (pa_cons (pe_str) (pa_cons (pe_str) (pa_nil)))) (pa_nil))) (pu 1)) (pa_nil)))))))) (pe_call G__law_take (hr.mono (by decide)) rfl T.m__law_take T.f__law_take.kp T.b__law_take .nil pass0 (pa_cons (pu 0) (pa_cons (pe_int) (pa_nil)))) (fun _ _ => rfl))) (pss_cons (pus_if (put_cmp (ou_ne2 hr.units) (pe_callB (cu_repr3 hgd hr.units) (by rfl) T.z_repr (by decide +kernel) (pa_cons (pe_call G__law_told (hr.mono (by decide)) rfl T.m__law_told T.f__law_told.kp T.b__law_told .nil pass0 (pa_cons (pu 6) (pa_cons (pu 5) (pa_nil)))) (pa_nil))) (pe_callB (cu_repr3 hgd hr.units) (by rfl) T.z_repr (by decide +kernel) (pa_cons (pe_lst (pa_cons (pe_str) (pa_cons (pu 6) (pa_nil)))) (pa_nil))) (nomark _)) (pss_one (ps_ret (pe_bl))) (pss_nil)) (pss_cons (ps_set (i := 7) sc__law_right.nd rfl (Or.inl rfl) (pe_call G__law_told (hr.mono (by decide)) rfl T.m__law_told T.f__law_told.kp T.b__law_told .nil pass0 (pa_cons (pu 1) (pa_cons (pu 5) (pa_nil))))) (pss_one (pus_if (PW.pt (puw_and (put_val (pue_isi .lst (pu 5) rfl T.z_isinstance rfl T.z_list (by decide +kernel))) (pw_and1 (put_not (put_val (pe_call G__law_good (hr.mono (by decide)) rfl T.m__law_good T.f__law_good.kp T.b__law_good .nil pass0 (pa_cons (pu 5) (pa_nil)))))))) (pss_cons (ps_expr (pe_bm PySem.F.plainAttrs_list PySem.F.slot_list_append PySem.F.type_list_append mu_append (pu 5) (pa_cons (pe_str) (pa_nil)))) (pss_one (pus_if (put_cmp (ou_ne2 hr.units) (pe_callB (cu_repr3 hgd hr.units) (by rfl) T.z_repr (by decide +kernel) (pa_cons (pu 7) (pa_nil))) (pe_callB (cu_repr3 hgd hr.units) (by rfl) T.z_repr (by decide +kernel) (pa_cons (pe_lst (pa_cons (pe_str) (pa_cons (pu 5) (pa_nil)))) (pa_nil))) (nomark _)) (pss_one (ps_ret (pe_bl))) (pss_nil)))) (pss_nil))))))))))))))) (pss_one (ps_ret (pe_bl)))))
theorem v_law (T : Tx P K mg a d ca) (G__law_cell : FnOk P w K mg base CX0 1 (a 11) (d 11) P__law_cell (sp__law_cell K ca)) (G__law_purse : FnOk P w K mg base CX0 1 (a 12) (d 12) P__law_purse (sp__law_purse K ca)) (G__law_right : U.FnG P w K mg base CX0 8 (a 25) (d 25) P__law_right (sp__law_right K ca))     {fa : Addr} {cdv : Value} {A : Around} {outer : List Env} {s : Shared} {H : Hp} {E : XK} (hgd : (A.deeper (envOfC "law" (defScope s_law) s.heap.objs.size fa cdv)).guards = some []) (hr : Room 8 (A.deeper (envOfC "law" (defScope s_law) s.heap.objs.size fa cdv))) :
    PSs ((cxOf CX0 P w K mg base N_law "law" (defScope s_law) fa cdv A outer s H E).nox) (defBody s_law) (t_law K ca) :=
  pss_cons (ps_for PassesOwn.never rfl (pi_range1 rfl T.z_range (pa_cons (pe_callB (cu_max rfl) (by rfl) T.z_max (by decide +kernel) (pa_cons (pe_int) (pa_cons (pe_callB (cu_min rfl) (by rfl) T.z_min (by decide +kernel) (pa_cons (pe_int) (pa_cons (pe_callB cu_len (by rfl) T.z_len (by decide +kernel) (pa_cons (pu 0) (pa_nil))) (pa_nil)))) (pa_nil)))) (pa_nil))) (pg_name (i := 1) sc_law.nd rfl (Or.inl rfl)) (pss_one (pus_if (put_not (put_val (pe_callG G__law_right hgd (hr.mono (by decide)) rfl T.m__law_right T.f__law_right.kp T.b__law_right pass0 (pa_cons (pe_call G__law_purse (hr.mono (by decide)) rfl T.m__law_purse T.f__law_purse.kp T.b__law_purse .nil pass0 (pa_cons (pe_call G__law_cell (hr.mono (by decide)) rfl T.m__law_cell T.f__law_cell.kp T.b__law_cell .nil pass0 (pa_cons (pu 0) (pa_cons (pu 1) (pa_nil)))) (pa_nil))) (pa_nil))))) (pss_one (ps_ret (pe_bl))) (pss_nil)))) (pss_one (ps_ret (pe_bl)))
end
section
variable {P : Program} {w : World} {K : PySem.W.Frag} {mg : Str → Option Value} {base : Heap} {a : Nat → Addr} {d : Nat → FuncData} {ca : Nat → Addr}
theorem ok_is_integer (T : Tx P K mg a d ca) : FnOk P w K mg base CX0 1 (a 0) (d 0) P_is_integer (sp_is_integer K ca) :=
  T.f_is_integer.ok sc_is_integer (fun vs H Q E h => len_is_integer h) (fun cdv A outer s H vs Q E hr h => ⟨t_is_integer K ca, v_is_integer T  hr, p_is_integer T.ct h⟩)
theorem ok_is_word (T : Tx P K mg a d ca) : FnOk P w K mg base CX0 1 (a 1) (d 1) P_is_word (sp_is_word K ca) :=
  T.f_is_word.ok sc_is_word (fun vs H Q E h => len_is_word h) (fun cdv A outer s H vs Q E hr h => ⟨t_is_word K ca, v_is_word T  hr, p_is_word T.ct h⟩)
theorem ok_is_mark (T : Tx P K mg a d ca) : FnOk P w K mg base CX0 1 (a 2) (d 2) P_is_mark (sp_is_mark K ca) :=
  T.f_is_mark.ok sc_is_mark (fun vs H Q E h => len_is_mark h) (fun cdv A outer s H vs Q E hr h => ⟨t_is_mark K ca, v_is_mark T  hr, p_is_mark T.ct h⟩)
theorem ok_is_of (T : Tx P K mg a d ca) : FnOk P w K mg base CX0 1 (a 9) (d 9) P_is_of (sp_is_of K ca) :=
  T.f_is_of.ok sc_is_of (fun vs H Q E h => len_is_of h) (fun cdv A outer s H vs Q E hr h => ⟨t_is_of K ca, v_is_of T  hr, p_is_of T.ct h⟩)
theorem ok__law_cell (T : Tx P K mg a d ca) : FnOk P w K mg base CX0 1 (a 11) (d 11) P__law_cell (sp__law_cell K ca) :=
  T.f__law_cell.ok sc__law_cell (fun vs H Q E h => len__law_cell h) (fun cdv A outer s H vs Q E hr h => ⟨t__law_cell K ca, v__law_cell T  hr, p__law_cell T.ct h⟩)
theorem ok__law_purse (T : Tx P K mg a d ca) : FnOk P w K mg base CX0 1 (a 12) (d 12) P__law_purse (sp__law_purse K ca) :=
  T.f__law_purse.ok sc__law_purse (fun vs H Q E h => len__law_purse h) (fun cdv A outer s H vs Q E hr h => ⟨t__law_purse K ca, v__law_purse T  hr, p__law_purse T.ct h⟩)
theorem ok__law_take (T : Tx P K mg a d ca) : FnOk P w K mg base CX0 1 (a 13) (d 13) P__law_take (sp__law_take K ca) :=
  T.f__law_take.ok sc__law_take (fun vs H Q E h => len__law_take h) (fun cdv A outer s H vs Q E hr h => ⟨t__law_take K ca, v__law_take T  hr, p__law_take T.ct h⟩)
theorem ok__law_all_marks (T : Tx P K mg a d ca) : FnOk P w K mg base CX0 1 (a 14) (d 14) P__law_all_marks (sp__law_all_marks K ca) :=
  T.f__law_all_marks.ok sc__law_all_marks (fun vs H Q E h => len__law_all_marks h) (fun cdv A outer s H vs Q E hr h => ⟨t__law_all_marks K ca, v__law_all_marks T  hr, p__law_all_marks T.ct h⟩)
theorem ok__law_is_length (T : Tx P K mg a d ca) : FnOk P w K mg base CX0 1 (a 18) (d 18) P__law_is_length (sp__law_is_length K ca) :=
  T.f__law_is_length.ok sc__law_is_length (fun vs H Q E h => len__law_is_length h) (fun cdv A outer s H vs Q E hr h => ⟨t__law_is_length K ca, v__law_is_length T  hr, p__law_is_length T.ct h⟩)
theorem ok__law_due (T : Tx P K mg a d ca) : FnOk P w K mg base CX0 1 (a 24) (d 24) P__law_due (sp__law_due K ca) :=
  T.f__law_due.ok sc__law_due (fun vs H Q E h => len__law_due h) (fun cdv A outer s H vs Q E hr h => ⟨t__law_due K ca, v__law_due T  hr, p__law_due T.ct h⟩)
theorem ok_is_token (T : Tx P K mg a d ca) : FnOk P w K mg base CX0 2 (a 3) (d 3) P_is_token (sp_is_token K ca) :=
  T.f_is_token.ok sc_is_token (fun vs H Q E h => len_is_token h) (fun cdv A outer s H vs Q E hr h => ⟨t_is_token K ca, v_is_token T (ok_is_word T) (ok_is_mark T) hr, p_is_token T.ct h⟩)
theorem ok_is_item (T : Tx P K mg a d ca) : FnOk P w K mg base CX0 2 (a 6) (d 6) P_is_item (sp_is_item K ca) :=
  T.f_is_item.ok sc_is_item (fun vs H Q E h => len_is_item h) (fun cdv A outer s H vs Q E hr h => ⟨t_is_item K ca, v_is_item T (ok_is_integer T) (ok_is_mark T) hr, p_is_item T.ct h⟩)
theorem ok__law_mark (T : Tx P K mg a d ca) : FnOk P w K mg base CX0 2 (a 15) (d 15) P__law_mark (sp__law_mark K ca) :=
  T.f__law_mark.ok sc__law_mark (fun vs H Q E h => len__law_mark h) (fun cdv A outer s H vs Q E hr h => ⟨t__law_mark K ca, v__law_mark T (ok__law_take T) hr, p__law_mark T.ct h⟩)
theorem ok__law_word (T : Tx P K mg a d ca) : FnOk P w K mg base CX0 2 (a 16) (d 16) P__law_word (sp__law_word K ca) :=
  T.f__law_word.ok sc__law_word (fun vs H Q E h => len__law_word h) (fun cdv A outer s H vs Q E hr h => ⟨t__law_word K ca, v__law_word T (ok__law_take T) hr, p__law_word T.ct h⟩)
theorem ok__law_good_item (T : Tx P K mg a d ca) : FnOk P w K mg base CX0 2 (a 19) (d 19) P__law_good_item (sp__law_good_item K ca) :=
  T.f__law_good_item.ok sc__law_good_item (fun vs H Q E h => len__law_good_item h) (fun cdv A outer s H vs Q E hr h => ⟨t__law_good_item K ca, v__law_good_item T (ok__law_all_marks T) (ok__law_is_length T) hr, p__law_good_item T.ct h⟩)
theorem ok__law_spoilt (T : Tx P K mg a d ca) : FnOk P w K mg base CX0 2 (a 22) (d 22) P__law_spoilt (sp__law_spoilt K ca) :=
  T.f__law_spoilt.ok sc__law_spoilt (fun vs H Q E h => len__law_spoilt h) (fun cdv A outer s H vs Q E hr h => ⟨t__law_spoilt K ca, v__law_spoilt T (ok__law_take T) hr, p__law_spoilt T.ct h⟩)
theorem ok_is_text (T : Tx P K mg a d ca) : FnOk P w K mg base CX0 3 (a 4) (d 4) P_is_text (sp_is_text K ca) :=
  T.f_is_text.ok sc_is_text (fun vs H Q E h => len_is_text h) (fun cdv A outer s H vs Q E hr h => ⟨t_is_text K ca, v_is_text T (ok_is_token T) hr, p_is_text T.ct h⟩)
theorem ok_is_pattern (T : Tx P K mg a d ca) : FnOk P w K mg base CX0 3 (a 7) (d 7) P_is_pattern (sp_is_pattern K ca) :=
  T.f_is_pattern.ok sc_is_pattern (fun vs H Q E h => len_is_pattern h) (fun cdv A outer s H vs Q E hr h => ⟨t_is_pattern K ca, v_is_pattern T (ok_is_item T) hr, p_is_pattern T.ct h⟩)
theorem ok__law_text (T : Tx P K mg a d ca) : FnOk P w K mg base CX0 3 (a 17) (d 17) P__law_text (sp__law_text K ca) :=
  T.f__law_text.ok sc__law_text (fun vs H Q E h => len__law_text h) (fun cdv A outer s H vs Q E hr h => ⟨t__law_text K ca, v__law_text T (ok__law_take T) (ok__law_mark T) (ok__law_word T) hr, p__law_text T.ct h⟩)
theorem ok__law_good (T : Tx P K mg a d ca) : FnOk P w K mg base CX0 3 (a 20) (d 20) P__law_good (sp__law_good K ca) :=
  T.f__law_good.ok sc__law_good (fun vs H Q E h => len__law_good h) (fun cdv A outer s H vs Q E hr h => ⟨t__law_good K ca, v__law_good T (ok__law_good_item T) hr, p__law_good T.ct h⟩)
theorem ok__law_pattern (T : Tx P K mg a d ca) : FnOk P w K mg base CX0 3 (a 21) (d 21) P__law_pattern (sp__law_pattern K ca) :=
  T.f__law_pattern.ok sc__law_pattern (fun vs H Q E h => len__law_pattern h) (fun cdv A outer s H vs Q E hr h => ⟨t__law_pattern K ca, v__law_pattern T (ok__law_take T) (ok__law_mark T) hr, p__law_pattern T.ct h⟩)
theorem ok_need_text (T : Tx P K mg a d ca) : FnOk P w K mg base (L2.CX P w) 4 (a 5) (d 5) P_need_text (sp_need_text K ca) :=
  T.f_need_text.okX sc_need_text (fun vs H Q E h => len_need_text h) (fun cdv A outer s H vs Q E hr h => ⟨t_need_text K ca E, v_need_text T (ok_is_text T) (okI_InvalidText T) hr, p_need_text T.ct h⟩)
theorem ok_need_pattern (T : Tx P K mg a d ca) : FnOk P w K mg base (L2.CX P w) 4 (a 8) (d 8) P_need_pattern (sp_need_pattern K ca) :=
  T.f_need_pattern.okX sc_need_pattern (fun vs H Q E h => len_need_pattern h) (fun cdv A outer s H vs Q E hr h => ⟨t_need_pattern K ca E, v_need_pattern T (ok_is_pattern T) (okI_InvalidRow T) hr, p_need_pattern T.ct h⟩)
theorem ok_pattern_places (T : Tx P K mg a d ca) : GFn1 P w K mg base 5 (a 10) (d 10) P_pattern_places (sp_pattern_places K ca) :=
  okGx T.f_pattern_places sc_pattern_places (by decide +kernel) (fun Γ vs H γ YL EN E h => len_pattern_places h) (fun cdv A outer s H vs Γ γ YL EN E pn hr h gx => ⟨t_pattern_places K ca E Γ, v_pattern_places T (ok_need_text T) (ok_need_pattern T) (ok_is_of T) gx hr, p_pattern_places T.ct h⟩)
theorem ok__law_told (T : Tx P K mg a d ca) : FnOk P w K mg base CX0 7 (a 23) (d 23) P__law_told (sp__law_told K ca) :=
  T.f__law_told.ok sc__law_told (fun vs H Q E h => len__law_told h) (fun cdv A outer s H vs Q E hr h => ⟨t__law_told K ca, v__law_told T (ok_pattern_places T) hr, p__law_told T.ct h⟩)
theorem ok__law_right (T : Tx P K mg a d ca) : U.FnG P w K mg base CX0 8 (a 25) (d 25) P__law_right (sp__law_right K ca) :=
  U.okG T.f__law_right sc__law_right (fun vs H Q E h => len__law_right h) (fun cdv A outer s H vs Q E hg hr h => ⟨t__law_right K ca, v__law_right T (ok_is_pattern T) (ok__law_take T) (ok__law_text T) (ok__law_good T) (ok__law_pattern T) (ok__law_spoilt T) (ok__law_told T) (ok__law_due T) hg hr, p__law_right T.ct h⟩)
theorem ok_law (T : Tx P K mg a d ca) : U.FnG P w K mg base CX0 9 (a 26) (d 26) P_law (sp_law K ca) :=
  U.okG T.f_law sc_law (fun vs H Q E h => len_law h) (fun cdv A outer s H vs Q E hg hr h => ⟨t_law K ca, v_law T (ok__law_cell T) (ok__law_purse T) (ok__law_right T) hg hr, p_law T.ct h⟩)
end
local macro_rules | `(tactic| walk_at "ev") => `(tactic| simp -implicitDefEqProofs only [Fx.v_slT, Fx.v_slT0, Fx.v_slT1, Fx.v_slT2, Fx.d_slT, Fx.d_slTl, Fx.d_addTi, Fx.d_addTs, Fx.d_addTl, Fx.v_dnewC, Fx.v_zipC, Fx.v_callT, Fx.v_propT, Fx.v_sup, Fx.v_asgNS, Fx.v_appX, Fx.d_strX_str, Fx.d_sum, Fx.v_isiX, Fx.v_binO, Fx.v_binO1, Fx.v_inO, Fx.v_inO1, Fx.v_inO3, Fx.v_eqO, Fx.v_eqO1, Fx.v_eqO3, Fx.v_augD, Fx.v_augD0, Fx.v_augD1, Fx.v_augD2, Fx.v_idxL, Fx.v_idxL1, Fx.v_idxL2, Fx.v_raise0, Fx.v_fld, Fx.v_setF, Fx.v_meth, Fx.v_methA, Fx.v_sp1, Fx.v_mk, Fx.v_mkK, Fx.v_mkK1, Fx.v_cmeth, Fx.v_runI1, Fx.v_runIx, Fx.v_fmt, Fx.v_js0, Fx.v_js, Fx.v_lrg, Fx.v_lrg1, Fx.v_callK, Fx.v_callK1, Fx.bE_ok, Fx.bE_xc, Fx.bS_nx, Fx.bS_rt, Fx.bS_bk, Fx.bS_ct, Fx.bS_xc, Fx.eS_ok, Fx.eS_xc, Fx.v_seq, Fx.v_next, Fx.v_break, Fx.v_cont, Fx.v_c, Fx.v_var, Fx.kVar_val, Fx.kVar_own, Fx.kVar_oob, Fx.v_op, Fx.v_op1, Fx.v_op2, Fx.v_un, Fx.v_un1, Fx.v_not, Fx.v_not1, Fx.v_and, Fx.v_andT, Fx.v_andF, Fx.v_or, Fx.v_orT, Fx.v_orF, Fx.v_if, Fx.v_ifT, Fx.v_ifF, Fx.v_chain, Fx.v_ch, Fx.v_ch0, Fx.v_ch1T, Fx.v_ch1F, Fx.v_ch2, Fx.v_isi, Fx.v_isiT, Fx.v_isi1, Fx.v_isi2, Fx.ty_non, Fx.ty_bl, Fx.ty_int, Fx.ty_str, Fx.ty_lst, Fx.ty_tup, Fx.ty_dct, Fx.v_cb, Fx.bA_ok, Fx.bA_xc, Fx.v_nil, Fx.v_cons, Fx.v_cons1, Fx.v_cons1x, Fx.v_cons2, Fx.v_cons2x, Fx.nop_tr, Fx.nop_fs, Fx.nop_pk, Fx.v_lst, Fx.v_tup, Fx.v_dnew, Fx.v_call, Fx.v_call1, Fx.v_m1, Fx.v_m1a, Fx.v_m1b, Fx.v_part, Fx.v_part1, Fx.v_nopart, Fx.v_sl, Fx.v_sl0, Fx.v_sl1, Fx.v_sl2, Fx.bO_ok, Fx.v_rev, Fx.v_expr, Fx.v_expr1, Fx.v_ifs, Fx.v_ifsT, Fx.v_ifsF, Fx.v_ret, Fx.v_retT, Fx.v_retS, Fx.v_retN, Fx.v_retV, Fx.v_retV1, Fx.v_retV2, Fx.v_asg, Fx.v_asgT, Fx.v_asgS, Fx.v_asg2, Fx.v_gn, Fx.v_gsNil, Fx.v_gsCons, Fx.v_gs, Fx.v_par, Fx.v_par1, Fx.v_aug, Fx.v_aug1, Fx.v_aug2, Fx.v_own, Fx.v_own1, Fx.v_frz, Fx.v_frz0, Fx.v_frz1, Fx.v_frz2, Fx.v_frz3, Fx.v_app, Fx.v_ado, Fx.v_ado1, Fx.v_xf, Fx.v_set, Fx.v_for, Fx.v_for1, Fx.v_forx, Fx.v_iter, Fx.v_iter1, Fx.v_iter1s, Fx.v_iter2, Fx.it_str, Fx.it_lst, Fx.it_tup, Fx.v_rng1, Fx.v_enum, Fx.v_enumL, Fx.v_enumT, Fx.v_raise, Fx.v_raise1, Fx.v_try, Fx.v_tryN, Fx.v_tryX, Fx.v_run1, Fx.v_run2, Fx.v_run3, Fx.v_r0, Fx.v_r1, Fx.v_r2, Fx.v_r3, Fx.v_r4, Fx.v_r5, Fx.v_nx, Fx.v_nx1, Fx.d_eq_str, Fx.d_eq_int, Fx.d_add_int, Fx.d_sub, Fx.d_cmp, Fx.d_len_lst, Fx.d_len_tup, Fx.d_len_fro, Fx.d_nil, Fx.d_max, Fx.d_min, Fx.d_sl_lst, Fx.d_list, Fx.d_listT, Fx.d_tuple, Fx.d_isN, Fx.d_isB, List.map_cons, List.map_nil, List.length_cons, List.length_nil, List.replicate, List.cons_append, List.nil_append, List.append_nil, List.getElem?_cons_zero, List.getElem?_cons_succ, List.set, Nat.reduceAdd, Nat.reduceSub, Nat.zero_add, if_true, if_false, reduceIte, Bool.not_true, Bool.not_false, Bool.and_true, Bool.true_and, Bool.and_self, Bool.false_xor, Bool.true_xor, Bool.false_eq_true, isT, Fx.tyd_non, Fx.tyd_bl, Fx.tyd_int, Fx.tyd_str, Fx.tyd_lst, Fx.tyd_tup, Fx.tyd_dct, reduceCtorEq, decide_true, decide_false, Bool.or_false, Bool.or_true, Bool.false_or, Bool.true_or, Bool.and_false, Bool.false_and, List.any_cons, List.any_nil])
theorem py_istr {S : Sto} {d : D} {z : Str} (h : Py S d (.str z)) : d = .str z := by
  rcases py_inv h with ⟨e, _⟩ | ⟨b, e, _⟩ | ⟨b, e, _⟩ | ⟨b, e, r⟩ | ⟨ps, ds, e, _⟩ | ⟨ps, ds, e, _⟩ | ⟨e, _⟩ <;> cases e
  exact r
theorem py_iint {S : Sto} {d : D} {z : Int} (h : Py S d (.int z)) : d = .int z := by
  rcases py_inv h with ⟨e, _⟩ | ⟨b, e, _⟩ | ⟨b, e, r⟩ | ⟨b, e, r⟩ | ⟨ps, ds, e, _⟩ | ⟨ps, ds, e, _⟩ | ⟨e, _⟩ <;> cases e
  exact r
theorem py_itup {S : Sto} {d : D} {ps : List PyData} (h : Py S d (.tuple ps)) : ∃ ds, d = .tup ds ∧ PyAll S ds ps := by
  rcases py_inv h with ⟨e, _⟩ | ⟨b, e, _⟩ | ⟨b, e, r⟩ | ⟨b, e, r⟩ | ⟨ps, ds, e, _⟩ | ⟨ps, ds, e, h1, h2⟩ | ⟨e, _⟩ <;> cases e
  exact ⟨ds, h2, h1⟩
theorem lim_of {n : Nat} (h : n ≤ 200000) : n ≤ lim := Nat.le_trans h (by decide)
theorem eq_str (z : Str) (a : String) {l : List Nat} (h : sl (Str.ofString a) = l) : decide (z = Str.ofString a) = decide (sl z = l) := by
  have := eq_fix z a h
  rw [← this]
  simp
theorem pick0 {α : Type} (c : α) (r : List α) : atI (c :: r) 0 = some c := by
  unfold atI ixN
  rw [if_pos (by decide), if_pos (by show (0 : Int) < ((c :: r).length : Int); rw [List.length_cons]; omega)]
  rfl
theorem pick1 {α : Type} (b c : α) (r : List α) : atI (b :: c :: r) 1 = some c := by
  unfold atI ixN
  rw [if_pos (by decide), if_pos (by show (1 : Int) < ((b :: c :: r).length : Int); rw [List.length_cons, List.length_cons]; omega)]
  rfl
theorem pick_at {α : Type} {r : List α} {i : Nat} {x : α} (h : r[i]? = some x) : atI r (i : Nat) = some x := by
  have hi := (List.getElem?_eq_some_iff.mp h).1
  unfold atI ixN
  rw [if_pos (by omega), if_pos (by omega)]
  exact h
theorem rng_len (lo : Int) (n : Nat) : (rngD lo n).length = n := by unfold rngD; rw [List.length_map, List.length_range]
theorem rng_at {lo : Int} {n i : Nat} (h : i < n) : (rngD lo n)[i]? = some (.int (lo + (i : Nat))) := by
  unfold rngD; rw [List.getElem?_map, List.getElem?_range h]; rfl
/-- a comprehension that changes the store: what holds of items and store, turn by turn -/
theorem fold_inv {g : Gd} {step : StepC} {ds : List D} (I : Nat → List D → Sto → Prop) (hg : ∀ i acc S, I i acc S → gOk g S)
    (hs : ∀ i d acc S, ds[i]? = some d → I i acc S → ∃ acc' S', step d acc S = some (acc', S') ∧ I (i + 1) acc' S') {acc : List D} {S : Sto} (h0 : I 0 acc S) : ∃ acc' S', foldC g step ds acc S = some (acc', S') ∧ I ds.length acc' S' := by
  have key : ∀ (n i : Nat) (acc : List D) (S : Sto), n = ds.length - i → i ≤ ds.length → I i acc S → ∃ acc' S', foldC g step (ds.drop i) acc S = some (acc', S') ∧ I ds.length acc' S' := by
    intro n
    induction n with
    | zero =>
      intro i acc S hn hi h
      obtain rfl : i = ds.length := by omega
      rw [List.drop_length]
      unfold foldC
      rw [if_pos (hg _ _ _ h)]
      exact ⟨acc, S, rfl, h⟩
    | succ n ih =>
      intro i acc S hn hi h
      have hlt : i < ds.length := by omega
      rw [List.drop_eq_getElem_cons hlt]
      obtain ⟨acc', S', e1, e2⟩ := hs i ds[i] acc S (List.getElem?_eq_getElem hlt) h
      unfold foldC
      rw [if_pos (hg _ _ _ h), e1]
      exact ih (i + 1) acc' S' (by omega) hlt e2
  have := key ds.length 0 acc S (by omega) (Nat.zero_le _) h0
  rwa [List.drop_zero] at this
theorem lc_inv {it : FI} {step : Ev → StepC} {vs : List Nat} {ρ : Ev} {S S1 : Sto} {ds : List D} {g : Gd} (hi : it ρ S = .ok ds g S1) (I : Nat → List D → Sto → Prop) (hg : ∀ i acc S, I i acc S → gOk g S)
    (hs : ∀ i d acc S, ds[i]? = some d → I i acc S → ∃ acc' S', step (wipeE ρ vs) d acc S = some (acc', S') ∧ I (i + 1) acc' S') (h0 : I 0 [] S1) : ∃ acc' S', fLcG it step vs ρ S = .ok (.lst acc') .fs S' ∧ I ds.length acc' S' := by
  obtain ⟨acc', S', e1, e2⟩ := fold_inv I hg hs h0
  refine ⟨acc', S', ?_, e2⟩
  unfold fLcG
  rw [hi]
  dsimp only
  rw [e1]
theorem step_one {set : FG} {te : FE} {ρ ρ1 : Ev} {d y : D} {acc : List D} {S S2 : Sto} {f : Fl} (h1 : set d ρ S = some ρ1) (h2 : te ρ1 S = .ok y f S2) (hf : f.nop = true) (hl : acc.length < lim) : step1 set (fC (.bl true)) te ρ d acc S = some (acc ++ [y], S2) := by
  unfold step1
  rw [h1]; dsimp only
  rw [v_c]; dsimp only
  rw [h2]; dsimp only
  rw [hf, decide_eq_true hl]; rfl
theorem strsD_map (zs : List Str) : strsD (zs.map D.str) = some zs := by
  induction zs with
  | nil => rfl
  | cons z zs ih => simp only [List.map_cons, strsD, ih, Option.map_some]
theorem bools_py {S : Sto} {f : PyData → Bool} : ∀ {ds : List D} {ps : List PyData}, PyAll S ds ps → bools (ds.map fun e => match toP S e with | some q => D.bl (f q) | none => .non) = some (ps.map f)
  | [], ps, h4 => by
    have := h4.len
    cases ps with
    | nil => rfl
    | cons => simp at this
  | x :: ds, ps, h4 => by
    have hl := h4.len
    cases ps with
    | nil => simp at hl
    | cons q ps =>
      unfold PyAll at h4
      simp only [treeAll] at h4
      split at h4
      · rename_i q' ps' e1 e2
        cases h4
        simp only [List.map_cons, bools]
        rw [show toP S x = some q from e1]
        simp only [bools]
        rw [bools_py (ds := ds) e2]
        rfl
      · cases h4
/-- [f(x) for x in v] where f looks at data -/
theorem lc_py {S : Sto} {d : D} {p : PyData} {ps : List PyData} {F : FF} {f : PyData → Bool} {ρ : Ev} {i j : Nat} (h : Py S d p) (hp : p = .list ps ∨ p = .tuple ps) (hw : PyData.weightAll ps ≤ 200000) (hF : ∀ e q, Py S e q → q.weight ≤ 200000 → F [e] S = .ok (.bl (f q)) .tr S)
    (hi : ρ[i]? = some (.val d)) (hj : ∀ e, ((wipeE ρ [j]).set j (.val e))[j]? = some (.val e)) : ∃ ds, sqOf S d = some ds ∧ PyAll S ds ps ∧ fLc (fIter (fVar i)) (gN j) (fC (.bl true)) (fCall F [] (fCons (fVar j) fNil)) [j] ρ S = .ok (.lst (ds.map fun e => match toP S e with | some q => D.bl (f q) | none => .non)) .fs S := by
  obtain ⟨ds, g, h1, h2, h3, h4⟩ := py_sq h hp
  refine ⟨ds, h1, h4, lc_map (S1 := S) (g := g) ?_ h3 (by rw [h4.len]; exact lim_of (Nat.le_trans (wt_len ps) hw)) fun e he => ?_⟩
  · rw [v_iter, Fx.v_var, hi, kVar_val, v_iter1, h2]; rfl
  · obtain ⟨q, hq, hp⟩ := h4.mem he
    refine ⟨_, .tr, rfl, ?_, rfl⟩
    rw [v_call, v_cons, Fx.v_var, hj e]
    walk_at "ev"
    rw [hF e q hp (by have := wt_mem hq; omega), show toP S e = some q from hp]
def tokV (t : Tk) : D := .tup [.str t.1, .str t.2]
theorem py_tok (S : Sto) (t : Tk) : Py S (tokV t) (tokD t) := py_tup (.cons (py_str S _) (.cons (py_str S _) .nil))
theorem py_toks (S : Sto) : ∀ ts : List Tk, PyAll S (ts.map tokV) (ts.map tokD)
  | [] => .nil
  | t :: ts => .cons (py_tok S t) (py_toks S ts)
theorem py_text (S : Sto) (ts : List Tk) : Py S (.lst (ts.map tokV)) (textD ts) := py_lst (py_toks S ts)
theorem py_textT (S : Sto) (ts : List Tk) : Py S (.tup (ts.map tokV)) (.tuple (ts.map tokD)) := py_tup (py_toks S ts)
theorem sign_pick {a : String} {l : List Nat} (hl : sl (Str.ofString a) = l) {r : Int} {S : Sto} (h0 : 0 ≤ r) (h1 : r < l.length) (hz : l.length ≤ 1000) : ∃ c, c ∈ l ∧ dIx (.str (Str.ofString a)) (.int r) S = .ok (.str ⟨#[c]⟩) .tr S := by
  obtain ⟨c, e, hm⟩ := pick (xs := sl (Str.ofString a)) h0 (by rw [hl]; exact h1)
  refine ⟨c, by rw [← hl]; exact hm, d_ix_str ?_ e⟩
  rw [sl_len, hl]; exact Nat.le_trans hz (by decide)
theorem two_mark {a b : Nat} (ha : a ∈ [35, 124, 47]) (hb : b ∈ [48, 49, 50, 51]) : isMark (⟨#[a]⟩ ++ ⟨#[b]⟩) = true := by
  have e : (⟨#[a]⟩ ++ ⟨#[b]⟩ : Str).cps.toList = [a, b] := sl_app ⟨#[a]⟩ ⟨#[b]⟩
  rw [isMark_two e, decide_eq_true ha, decide_eq_true hb]; rfl
theorem letters_word {zs : List Str} (h : ∀ z ∈ zs, ∃ c, z = ⟨#[c]⟩ ∧ letter c = true) (h1 : 1 ≤ zs.length) (h2 : zs.length ≤ 30) : isWord (Txt.join "" zs) = true ∧ (Txt.join "" zs).length = zs.length := by
  have hl : (Txt.join "" zs).length = zs.length := by
    rw [slen_join0]
    have : ∀ l : List Str, (∀ z ∈ l, ∃ c, z = ⟨#[c]⟩ ∧ letter c = true) → (l.map (·.length)).sum = l.length := by
      intro l
      induction l with
      | nil => intro _; rfl
      | cons z l ih =>
        intro h
        obtain ⟨c, rfl, _⟩ := h z List.mem_cons_self
        rw [List.map_cons, List.sum_cons, ih fun w hw => h w (List.mem_cons_of_mem _ hw), List.length_cons]
        show 1 + l.length = _
        omega
    exact this zs h
  refine ⟨?_, hl⟩
  unfold isWord
  rw [hl, decide_eq_true h1, decide_eq_true h2, Bool.true_and, Bool.true_and, List.all_eq_true]
  intro c hc
  have hc : c ∈ sl (Txt.join "" zs) := hc
  rw [sl_join] at hc
  have hc : c ∈ TL.joinL [] (zs.map sl) := hc
  rw [joinL_nil, List.mem_flatten] at hc
  obtain ⟨l, hl, hc⟩ := hc
  obtain ⟨p, hp, rfl⟩ := List.mem_map.mp hl
  obtain ⟨c', rfl, h'⟩ := h p hp
  have : c = c' := by simpa [sl] using hc
  rw [this]; exact h'
theorem good_snoc {ts : List Tk} {t : Tk} (h : GoodT ts) (hm : isMark t.1 = true) (hw : isWord t.2 = true) (h0 : ts = [] → (sl t.1).head? = some 35) : GoodT (ts ++ [t]) := by
  refine ⟨fun u hu => ?_, fun u hu => ?_⟩
  · rcases List.mem_append.mp hu with q | q
    · exact h.1 u q
    · rw [List.mem_singleton.mp q]; exact ⟨hm, hw⟩
  · cases ts with
    | nil => cases hu; exact h0 rfl
    | cons v vs => cases hu; exact h.2 _ rfl
def Box (S : Sto) (k n : Nat) : Prop := ∃ x y z : Int, S[k]? = some (.lst [.int x, .int y, .int z]) ∧ 0 ≤ x ∧ 0 ≤ y ∧ y < 2147483629 ∧ 0 ≤ z ∧ z ≤ n
/-- but for the cell k the store has grown -/
def Fk (k : Nat) (S S' : Sto) : Prop := S.length ≤ S'.length ∧ ∀ j c, j ≠ k → S[j]? = some c → S'[j]? = some c
theorem Fk.refl (k : Nat) (S : Sto) : Fk k S S := ⟨Nat.le_refl _, fun _ _ _ h => h⟩
theorem Fk.trans {k : Nat} {S S1 S2 : Sto} (a : Fk k S S1) (b : Fk k S1 S2) : Fk k S S2 := ⟨Nat.le_trans a.1 b.1, fun j c n h => b.2 j c n (a.2 j c n h)⟩
theorem Fk.set (k : Nat) (S : Sto) (c : Ce) : Fk k S (S.set k c) := ⟨by rw [List.length_set]; exact Nat.le_refl _, fun j e n h => by rw [List.getElem?_set_ne (Ne.symm n)]; exact h⟩
theorem Box.lt {S : Sto} {k n : Nat} (h : Box S k n) : k < S.length := by
  obtain ⟨x, y, z, e, _⟩ := h
  exact (List.getElem?_eq_some_iff.mp e).1
theorem Box.le {S : Sto} {k n m : Nat} (h : Box S k n) (e : n ≤ m) : Box S k m := by
  obtain ⟨x, y, z, h1, h2, h3, h4, h5, h6⟩ := h
  exact ⟨x, y, z, h1, h2, h3, h4, h5, by omega⟩
theorem f_is_mark {S : Sto} {d : D} {p : PyData} (h : Py S d p) (hw : p.weight ≤ 200000) : F_is_mark [d] S = .ok (.bl (markD p)) .tr S := by
  unfold F_is_mark b_is_mark
  walk_at "ev"
  rw [py_ty h]
  cases p with
  | str z =>
    cases py_istr h
    rw [wt_str] at hw
    walk_at "ev"
    show _ = RE.ok (.bl (isMark z)) _ _
    rw [eq_str z " " cps_blank]
    by_cases h1 : sl z = [32]
    · have e : isMark z = true := by unfold isMark; rw [show z.cps.toList = [32] from h1]; rfl
      rw [decide_eq_true h1, e]; walk_at "ev"
    · rw [decide_eq_false h1]
      walk_at "ev"
      rw [d_len_str (lim_of hw)]
      walk_at "ev"
      by_cases h2 : z.length = 2
      · have hl : (sl z).length = 2 := h2
        obtain ⟨a, b, hz⟩ : ∃ a b, sl z = [a, b] := by
          match hs : sl z, hl with
          | [a, b], _ => exact ⟨a, b, rfl⟩
        rw [decide_eq_true (show (z.length : Int) = 2 by omega)]
        walk_at "ev"
        rw [d_ix_str (lim_of hw) (show atI (sl z) 0 = some a by rw [hz]; exact pick0 _ _)]
        walk_at "ev"
        rw [d_in_str (c := a) rfl, isMark_two hz]
        walk_at "ev"
        rw [show sl (Str.ofString "#|/") = [35, 124, 47] from cps_kinds]
        by_cases h3 : a ∈ [35, 124, 47]
        · rw [decide_eq_true h3]
          walk_at "ev"
          rw [d_ix_str (lim_of hw) (show atI (sl z) 1 = some b by rw [hz]; exact pick1 _ _ _)]
          walk_at "ev"
          rw [d_in_str (c := b) rfl, show sl (Str.ofString "0123") = [48, 49, 50, 51] from cps_digits]
          walk_at "ev"
        · rw [decide_eq_false h3]
          walk_at "ev"
      · rw [decide_eq_false (show ¬ (z.length : Int) = 2 by omega), isMark_other h1 h2]
        walk_at "ev"
  | _ => walk_at "ev"; rfl
theorem f_is_word {S : Sto} {d : D} {p : PyData} (h : Py S d p) (hw : p.weight ≤ 200000) : F_is_word [d] S = .ok (.bl (wordD p)) .tr S := by
  unfold F_is_word b_is_word
  walk_at "ev"
  rw [py_ty h]
  cases p with
  | str z =>
    cases py_istr h
    rw [wt_str] at hw
    walk_at "ev"
    show _ = RE.ok (.bl (isWord z)) _ _
    unfold isWord
    rw [d_len_str (lim_of hw)]
    walk_at "ev"
    by_cases h1 : 1 ≤ z.length
    · rw [decide_eq_true (show (1 : Int) ≤ (z.length : Int) by omega), decide_eq_true h1]
      walk_at "ev"
      by_cases h2 : z.length ≤ 30
      · rw [decide_eq_true (show (z.length : Int) ≤ 30 by omega), decide_eq_true h2]
        walk_at "ev"
        have e := lc_map (it := fIter (fVar 0)) (set := gN 1) (te := fOp (dIn false) (fVar 1) (fC (.str "abcdefghijklmnopqrstuvwxyz"))) (vs := [1]) (ρ := [.val (.str z), .no]) (S := S) (S1 := S) (ds := charsD z) (g := none) (f := fun d => match d with | .str w => .bl ((sl w).all letter) | _ => .non)
          (by walk_at "ev") trivial (by unfold charsD; rw [List.length_map]; exact lim_of hw) (fun d hd => by
            unfold charsD at hd
            obtain ⟨c, hc, rfl⟩ := List.mem_map.mp hd
            refine ⟨[.val (.str z), .val (.str ⟨#[c]⟩)], .tr, rfl, ?_, rfl⟩
            walk_at "ev"
            rw [d_in_str (c := c) rfl, mem_letters]
            simp [sl])
        rw [e]
        walk_at "ev"
        rw [d_all (bs := (sl z).map letter) (by
          unfold charsD
          rw [List.map_map]
          have := bools_map letter (sl z)
          rw [← this]
          congr 1
          apply List.map_congr_left
          intro c _
          simp [sl])]
        walk_at "ev"
        rw [List.all_map]
        rfl
      · rw [decide_eq_false (show ¬ (z.length : Int) ≤ 30 by omega), decide_eq_false h2]
        walk_at "ev"
    · rw [decide_eq_false (show ¬ (1 : Int) ≤ (z.length : Int) by omega), decide_eq_false h1]
      walk_at "ev"
  | _ => walk_at "ev"; rfl
theorem f_is_token {S : Sto} {d : D} {p : PyData} (h : Py S d p) (hw : p.weight ≤ 200000) : F_is_token [d] S = .ok (.bl (tokenD p)) .tr S := by
  unfold F_is_token b_is_token
  walk_at "ev"
  rw [py_ty h]
  cases p with
  | tuple ps =>
    obtain ⟨ds, rfl, ha⟩ := py_itup h
    rw [wt_tup] at hw
    walk_at "ev"
    rw [ha.len]
    by_cases h1 : ps.length = 2
    · match ps, h1 with
      | [x, y], _ =>
        rw [PyData.weightAll, PyData.weightAll, PyData.weightAll] at hw
        have hl := ha.len
        match ds, hl with
        | [a, b], _ =>
          obtain ⟨x', q1, rx⟩ := ha.at (i := 0) rfl
          obtain ⟨y', q2, ry⟩ := ha.at (i := 1) rfl
          cases q1; cases q2
          rw [decide_eq_true (show (([x, y] : List PyData).length : Int) = 2 by rfl)]
          walk_at "ev"
          rw [d_ix_tup (pick0 _ _)]
          walk_at "ev"
          rw [f_is_mark rx (by omega)]
          walk_at "ev"
          show _ = RE.ok (.bl (markD x && wordD y)) _ _
          cases markD x with
          | false => walk_at "ev"
          | true =>
            walk_at "ev"
            rw [d_ix_tup (pick1 _ _ _)]
            walk_at "ev"
            rw [f_is_word ry (by omega)]
            walk_at "ev"
    · rw [decide_eq_false (show ¬ (ps.length : Int) = 2 by omega)]
      walk_at "ev"
      have : tokenD (.tuple ps) = false := by
        unfold tokenD; split
        · rename_i e; cases e; exact absurd rfl h1
        · rfl
      rw [this]
  | _ => walk_at "ev"; rfl
theorem f_is_text {S : Sto} {d : D} {p : PyData} (h : Py S d p) (hw : p.weight ≤ 200000) : F_is_text [d] S = .ok (.bl (isTextD p)) .tr S := by
  have row : ∀ ps, (p = .list ps ∨ p = .tuple ps) → PyData.weightAll ps ≤ 200000 → F_is_text [d] S = .ok (.bl (ps.all tokenD && firstD ps)) .tr S := fun ps hp hw => by
    unfold F_is_text b_is_text
    walk_at "ev"
    rw [py_ty h]
    obtain ⟨ds, h1, h4, e⟩ := lc_py (F := F_is_token) (f := tokenD) (ρ := [.val d, .no]) (i := 0) (j := 1) h hp hw (fun e q => f_is_token) rfl (fun _ => rfl)
    have ht : (decide (tyD p = Ty.lst) || decide (tyD p = Ty.tup)) = true := by rcases hp with rfl | rfl <;> rfl
    rw [v_isi2, ht]
    walk_at "ev"
    rw [e]
    walk_at "ev"
    rw [d_all (bools_py h4)]
    walk_at "ev"
    rw [List.all_map]
    cases ha : ps.all (id ∘ tokenD) with
    | false =>
      have : ps.all tokenD = false := ha
      rw [this]; walk_at "ev"
    | true =>
      have ha : ps.all tokenD = true := ha
      rw [ha]
      walk_at "ev"
      rw [d_len_sq h1]
      walk_at "ev"
      cases ps with
      | nil =>
        have := h4.len
        rw [decide_eq_true (show (ds.length : Int) = 0 by rw [this]; rfl)]
        walk_at "ev"
        rfl
      | cons q ps =>
        have hl := h4.len
        rw [decide_eq_false (show ¬ (ds.length : Int) = 0 by rw [hl, List.length_cons]; omega)]
        walk_at "ev"
        cases ds with
        | nil => simp at hl
        | cons x ds =>
          obtain ⟨q', e1, px⟩ := h4.at (i := 0) rfl
          cases e1
          rw [List.all_cons, Bool.and_eq_true] at ha
          obtain ⟨t, rfl, hm, hw'⟩ := tokenD_form ha.1
          obtain ⟨es, rfl, pa⟩ := py_itup px
          have hl2 := pa.len
          match es, hl2 with
          | [a, b], _ =>
            obtain ⟨a', e2, pa1⟩ := pa.at (i := 0) rfl
            cases e2
            cases py_istr pa1
            rw [d_ix_sq h1 (pick0 _ _)]
            walk_at "ev"
            rw [d_ix_tup (pick0 _ _)]
            walk_at "ev"
            have hml := mark_len hm
            have hz : ∃ c r, sl t.1 = c :: r := by
              rcases mark_forms hm with e | ⟨k, i, e, _⟩
              · exact ⟨_, _, e⟩
              · exact ⟨_, _, e⟩
            obtain ⟨c, r, hz⟩ := hz
            rw [d_ix_str (show t.1.length ≤ lim from Nat.le_trans hml (by decide)) (by rw [hz]; exact pick0 _ _)]
            walk_at "ev"
            rw [eq_str _ "#" (l := [35]) (by decide +kernel)]
            show _ = RE.ok (.bl (decide ((sl t.1).head? = some 35))) _ _
            rw [hz]
            congr 2
            rw [Bool.eq_iff_iff]
            simp [sl]
  cases p with
  | list ps => rw [wt_list] at hw; exact row ps (.inl rfl) hw
  | tuple ps => rw [wt_tup] at hw; exact row ps (.inr rfl) hw
  | _ => unfold F_is_text b_is_text; walk_at "ev"; rw [py_ty h]; walk_at "ev"; rfl
/-- the number of the class InvalidText -/
theorem f_need_text {S : Sto} {d : D} {p : PyData} (h : Py S d p) (hw : p.weight ≤ 200000) : F_need_text [d] S = if isTextD p = true then .ok .non .tr S else .xc 1 [("value", d)] S := by
  unfold F_need_text b_need_text
  walk_at "ev"
  rw [f_is_text h hw]
  walk_at "ev"
  cases isTextD p <;> (walk_at "ev"; try rfl)
theorem f_cell {ns : List Int} {k : Int} {S : Sto} (h0 : 0 ≤ k) (h1 : k ≤ 1000) : ∃ n, F__law_cell [.fro true (intsD ns), .int k] S = .ok (.int n) .tr S := by
  unfold F__law_cell b__law_cell
  walk_at "ev"
  by_cases hk : k < (intsD ns).length
  · rw [decide_eq_true hk]
    walk_at "ev"
    obtain ⟨v, e, hm⟩ := pick h0 hk
    unfold intsD at hm
    obtain ⟨n, _, rfl⟩ := List.mem_map.mp hm
    rw [d_ix_fro e]
    walk_at "ev"
    exact ⟨n, rfl⟩
  · rw [decide_eq_false hk]
    walk_at "ev"
    rw [d_mul (.inl ⟨by decide, by decide⟩)]
    walk_at "ev"
    exact ⟨_, rfl⟩
theorem f_purse {c : Int} {S : Sto} : ∃ ds, F__law_purse [.int c] S = .ok (.lst ds) .fs S ∧ ∃ x y : Int, ds = [.int x, .int y, .int 0] ∧ 0 ≤ x ∧ 0 ≤ y ∧ y < 2147483629 := by
  unfold F__law_purse b__law_purse
  walk_at "ev"
  rw [d_pow ⟨by decide, by decide, by decide⟩]
  walk_at "ev"
  rw [d_mod (by decide)]
  walk_at "ev"
  rw [d_lst (by show 3 ≤ lim; decide)]
  walk_at "ev"
  refine ⟨_, rfl, _, _, rfl, ?_, Int.emod_nonneg _ (by decide), Int.emod_lt_of_pos _ (by decide)⟩
  split <;> omega
theorem f_take {S : Sto} {k n : Nat} {m : Int} (hb : Box S k n) (hn : n ≤ 1000000) (hm : 0 < m) (hm2 : m ≤ 100000000) : ∃ r S', F__law_take [.cel k, .int m] S = .ok (.int r) .tr S' ∧ 0 ≤ r ∧ r < m ∧ Box S' k (n + 1) ∧ Fk k S S' := by
  obtain ⟨x, y, z, hs, h1, h2, h3, h4, h5⟩ := hb
  have hk : k < S.length := (List.getElem?_eq_some_iff.mp hs).1
  unfold F__law_take b__law_take
  walk_at "ev"
  rw [d_ix_cel hs (pick0 _ _)]
  walk_at "ev"
  by_cases hx : 0 < x
  · rw [decide_eq_true hx]
    walk_at "ev"
    rw [d_ix_cel hs (pick0 _ _)]
    walk_at "ev"
    rw [d_mod hm]
    walk_at "ev"
    rw [d_ix_cel hs (pick0 _ _)]
    walk_at "ev"
    rw [d_fdiv ⟨hm, by omega⟩]
    walk_at "ev"
    rw [v_setC rfl rfl hs]
    walk_at "ev"
    rw [v_setC2 (j := 0) rfl hs rfl]
    walk_at "ev"
    refine ⟨_, _, rfl, Int.emod_nonneg _ (by omega), Int.emod_lt_of_pos _ hm, ⟨x / m, y, z, by rw [List.getElem?_set_self hk], Int.ediv_nonneg h1 (by omega), h2, h3, h4, by omega⟩, Fk.set _ _ _⟩
  · rw [decide_eq_false hx]
    walk_at "ev"
    rw [d_ix_cel hs (show atI [D.int x, .int y, .int z] 2 = some (.int z) from rfl)]
    walk_at "ev"
    rw [v_setC rfl rfl hs]
    walk_at "ev"
    rw [v_setC2 (j := 2) rfl hs rfl]
    walk_at "ev"
    have hs' : (S.set k (.lst [.int x, .int y, .int (z + 1)]))[k]? = some (.lst [.int x, .int y, .int (z + 1)]) := by rw [List.getElem?_set_self hk]
    rw [d_ix_cel hs' (show atI [D.int x, .int y, .int (z + 1)] 1 = some (.int y) from rfl)]
    walk_at "ev"
    rw [d_ix_cel hs' (show atI [D.int x, .int y, .int (z + 1)] 2 = some (.int (z + 1)) from rfl)]
    walk_at "ev"
    rw [d_mul (.inl ⟨by decide, by decide⟩)]
    walk_at "ev"
    rw [d_pow ⟨by decide, by decide, by omega⟩]
    walk_at "ev"
    rw [d_mod (by decide)]
    walk_at "ev"
    rw [d_ix_cel hs' (show atI [D.int x, .int y, .int (z + 1)] 2 = some (.int (z + 1)) from rfl)]
    walk_at "ev"
    rw [d_mul (.inl ⟨by decide, by decide⟩)]
    walk_at "ev"
    have b1 := Int.emod_nonneg ((y + 7919 * (z + 1) + 174) ^ (5 : Int).toNat) (show (2147483647 : Int) ≠ 0 by decide)
    have b2 := Int.emod_lt_of_pos ((y + 7919 * (z + 1) + 174) ^ (5 : Int).toNat) (show (0 : Int) < 2147483647 by decide)
    rw [d_pow ⟨by decide, by decide, by omega⟩]
    walk_at "ev"
    rw [d_mod (by decide)]
    walk_at "ev"
    rw [d_fdiv ⟨by decide, by decide⟩]
    walk_at "ev"
    rw [d_mod hm]
    walk_at "ev"
    exact ⟨_, _, rfl, Int.emod_nonneg _ (by omega), Int.emod_lt_of_pos _ hm, ⟨x, y, z + 1, hs', h1, h2, h3, by omega, by omega⟩, Fk.set _ _ _⟩
def allMarks : List Str := [" ", "#0", "#1", "#2", "#3", "|0", "|1", "|2", "|3", "/0", "/1", "/2", "/3"]
theorem f_all_marks {S : Sto} : F__law_all_marks [] S = .ok (.lst (allMarks.map D.str)) .fs S := by
  unfold F__law_all_marks b__law_all_marks
  walk_at "ev"
  rw [d_lst (by decide)]
  walk_at "ev"
  rfl
theorem f_mark {S : Sto} {k n : Nat} (hb : Box S k n) (hn : n ≤ 900000) : ∃ z S', F__law_mark [.cel k] S = .ok (.str z) .tr S' ∧ isMark z = true ∧ Box S' k (n + 3) ∧ Fk k S S' := by
  unfold F__law_mark b__law_mark
  walk_at "ev"
  obtain ⟨r, S1, e1, r0, r1, b1, f1⟩ := f_take (m := 3) hb (by omega) (by decide) (by decide)
  rw [e1]
  walk_at "ev"
  by_cases hr : r = 0
  · rw [decide_eq_true hr]
    walk_at "ev"
    exact ⟨_, _, rfl, by decide +kernel, b1.le (by omega), f1⟩
  · rw [decide_eq_false hr]
    walk_at "ev"
    obtain ⟨r2, S2, e2, p0, p1, b2, f2⟩ := f_take (m := 3) b1 (by omega) (by decide) (by decide)
    rw [e2]
    walk_at "ev"
    obtain ⟨c, hc, ec⟩ := sign_pick (S := S2) cps_kinds p0 p1 (by decide)
    rw [ec]
    walk_at "ev"
    obtain ⟨r3, S3, e3, q0, q1, b3, f3⟩ := f_take (m := 4) b2 (by omega) (by decide) (by decide)
    rw [e3]
    walk_at "ev"
    obtain ⟨i, hi, ei⟩ := sign_pick (S := S3) cps_digits q0 q1 (by decide)
    rw [ei]
    walk_at "ev"
    rw [d_add_str (a := ⟨#[c]⟩) (b := ⟨#[i]⟩) (show 1 + 1 ≤ lim by decide)]
    walk_at "ev"
    exact ⟨_, _, rfl, two_mark hc hi, b3, (f1.trans f2).trans f3⟩
theorem f_word {S : Sto} {k n : Nat} {m : Int} (hb : Box S k n) (hn : n ≤ 900000) (hm : 0 < m) (hm2 : m ≤ 30) : ∃ z S', F__law_word [.cel k, .int m] S = .ok (.str z) .tr S' ∧ isWord z = true ∧ (z.length : Int) ≤ m ∧ Box S' k (n + 31) ∧ Fk k S S' := by
  unfold F__law_word b__law_word
  walk_at "ev"
  obtain ⟨r, S1, e1, r0, r1, b1, f1⟩ := f_take (m := m) hb (by omega) hm (by omega)
  have hit : fRng1 (fCons (fOp dAdd (fC (.int 1)) (fCall F__law_take [] (fCons (fVar 0) (fCons (fVar 1) fNil)))) fNil) [.val (.cel k), .val (.int m), .val (.str "abcdefghijklmnopqrstuvwxyz"), .no] S = .ok (rngD 0 (1 + r).toNat) none S1 := by
    walk_at "ev"
    rw [e1]
    walk_at "ev"
    rw [v_rng1a (by omega) (by omega)]
  obtain ⟨acc, S2, e2, zs, hacc, hz, hlen, b2, f2⟩ := lc_inv (vs := [3]) (step := step1 (gN 3) (fC (.bl true)) (fOp dIx (fVar 2) (fCall F__law_take [] (fCons (fVar 0) (fCons (fC (.int 26)) fNil))))) hit
    (fun i acc S' => ∃ zs : List Str, acc = zs.map D.str ∧ (∀ z ∈ zs, ∃ c, z = ⟨#[c]⟩ ∧ letter c = true) ∧ zs.length = i ∧ Box S' k (n + 1 + i) ∧ Fk k S S') (fun _ _ _ _ => trivial) (by
      rintro i d acc S' hd ⟨zs, rfl, hz, rfl, bz, fz⟩
      have hi := (List.getElem?_eq_some_iff.mp hd).1
      rw [rng_len] at hi
      obtain ⟨r2, S3, e3, p0, p1, b3, f3⟩ := f_take (m := 26) bz (by omega) (by decide) (by decide)
      obtain ⟨c, hc, ec⟩ := sign_pick (S := S3) cps_letters p0 p1 (by decide)
      refine ⟨_, S3, step_one rfl (f := .tr) ?_ rfl (by rw [List.length_map]; exact Nat.lt_of_lt_of_le (show zs.length < 100 by omega) (by decide)), zs ++ [⟨#[c]⟩], by rw [List.map_append]; rfl, ?_, by rw [List.length_append]; rfl, b3.le (by omega), fz.trans f3⟩
      · show fOp dIx (fVar 2) _ [.val (.cel k), .val (.int m), .val (.str "abcdefghijklmnopqrstuvwxyz"), .val d] S' = _
        walk_at "ev"
        rw [e3]
        walk_at "ev"
        exact ec
      · intro z hz'
        rcases List.mem_append.mp hz' with q | q
        · exact hz z q
        · rw [List.mem_singleton.mp q]
          refine ⟨c, rfl, ?_⟩
          rw [← mem_letters]
          exact decide_eq_true (by rw [cps_letters]; exact hc)) ⟨[], rfl, by simp, rfl, b1.le (by omega), f1⟩
  rw [rng_len] at hlen b2
  show ∃ z S', kNox (kRun (eS (bE (fLcG _ (step1 (gN 3) (fC (.bl true)) (fOp dIx (fVar 2) (fCall F__law_take [] (fCons (fVar 0) (fCons (fC (.int 26)) fNil))))) [3] _ S) _) _ _)) = _ ∧ _
  rw [e2]
  walk_at "ev"
  have hzl : zs.length ≤ 30 := by omega
  obtain ⟨hw, hl⟩ := letters_word hz (by omega) hzl
  rw [hacc, d_join (strsD_map zs) (by
    have := slen_join0 zs
    rw [hl] at this
    rw [← this]
    have : (Str.ofString "").length = 0 := by decide +kernel
    rw [this]
    exact Nat.le_trans (show zs.length + zs.length * 0 ≤ 30 by omega) (by decide))]
  walk_at "ev"
  exact ⟨_, _, rfl, hw, by rw [hl]; omega, b2.le (by omega), f2⟩
theorem f_text {S : Sto} {k n : Nat} {many most : Int} (hb : Box S k n) (hn : n ≤ 800000) (h0 : 0 ≤ many) (h1 : many ≤ 1000) (h2 : 0 < most) (h3 : most ≤ 30) :
    ∃ ts S', F__law_text [.cel k, .int many, .int most] S = .ok (.lst (ts.map tokV)) .fs S' ∧ GoodT ts ∧ (ts.length : Int) = many ∧ (∀ t ∈ ts, (t.2.length : Int) ≤ most) ∧ Box S' k (n + 40 * many.toNat) ∧ Fk k S S' := by
  unfold F__law_text b__law_text
  walk_at "ev"
  rw [d_lst (by decide)]
  walk_at "ev"
  rw [v_rng1a (by omega) (by omega)]
  walk_at "ev"
  obtain ⟨ρ', S', e, ts, s1, s2, rfl, hl, hg, hw, b', f'⟩ := loop_inv (g := none) (set := gN 4) (ds := rngD 0 many.toNat)
    (body := sSeq (sAsg (fIf (fOp dGt (fVar 4) (fC (.int 0))) (fCall F__law_mark [] (fCons (fVar 0) fNil)) (fOp dAdd (fC (.str "#")) (fOp dIx (fC (.str "0123")) (fCall F__law_take [] (fCons (fVar 0) (fCons (fC (.int 4)) fNil)))))) (gN 5)) (chk 3 (sApp 3 (fTup (fCons (fVar 5) (fCons (fCall F__law_word [] (fCons (fVar 0) (fCons (fVar 2) fNil))) fNil))))))
    (fun i ρ S' => ∃ ts s1 s2, ρ = [.val (.cel k), .val (.int many), .val (.int most), .own (ts.map tokV), s1, s2] ∧ ts.length = i ∧ GoodT ts ∧ (∀ t ∈ ts, (t.2.length : Int) ≤ most) ∧ Box S' k (n + 40 * i) ∧ Fk k S S') (fun _ _ _ _ => trivial) (by
      rintro i d ρ S1 hd ⟨ts, s1, s2, rfl, rfl, hg, hw, b1, f1⟩
      have hi := (List.getElem?_eq_some_iff.mp hd).1
      rw [rng_len] at hi
      rw [rng_at hi] at hd
      cases hd
      have mk : ∃ z S2, fIf (fOp dGt (fVar 4) (fC (.int 0))) (fCall F__law_mark [] (fCons (fVar 0) fNil)) (fOp dAdd (fC (.str "#")) (fOp dIx (fC (.str "0123")) (fCall F__law_take [] (fCons (fVar 0) (fCons (fC (.int 4)) fNil))))) [.val (.cel k), .val (.int many), .val (.int most), .own (ts.map tokV), .val (.int (0 + (ts.length : Nat))), s2] S1 = .ok (.str z) .tr S2 ∧ isMark z = true ∧ (ts = [] → (sl z).head? = some 35) ∧ Box S2 k (n + 40 * ts.length + 3) ∧ Fk k S1 S2 := by
        walk_at "ev"
        by_cases ht : ts = []
        · subst ht
          rw [decide_eq_false (by decide)]
          walk_at "ev"
          obtain ⟨r, S2, e2, p0, p1, b2, f2⟩ := f_take (m := 4) b1 (by omega) (by decide) (by decide)
          rw [e2]
          walk_at "ev"
          obtain ⟨c, hc, ec⟩ := sign_pick (S := S2) cps_digits p0 p1 (by decide)
          rw [ec]
          walk_at "ev"
          rw [d_add_str (a := Str.ofString "#") (b := ⟨#[c]⟩) (show 1 + 1 ≤ lim by decide)]
          refine ⟨_, _, rfl, two_mark (a := 35) (by decide) hc, fun _ => ?_, b2.le (by simp only [List.length_nil]; omega), f2⟩
          show (sl ((⟨#[35]⟩ : Str) ++ ⟨#[c]⟩)).head? = _
          rw [sl_app]; rfl
        · have : 0 < ts.length := by cases ts with | nil => exact absurd rfl ht | cons => simp
          rw [decide_eq_true (by omega)]
          walk_at "ev"
          obtain ⟨z, S2, e2, hm, b2, f2⟩ := f_mark b1 (by omega)
          rw [e2]
          exact ⟨z, S2, rfl, hm, fun q => absurd q ht, b2, f2⟩
      obtain ⟨z, S2, ez, hm, hh, b2, f2⟩ := mk
      obtain ⟨w, S3, ew, hw', hwl, b3, f3⟩ := f_word b2 (by omega) h2 h3
      refine ⟨_, _, S3, rfl, .inl ?_, ts ++ [(z, w)], .val (.int (0 + (ts.length : Nat))), .val (.str z), rfl, by rw [List.length_append]; rfl, good_snoc hg hm hw' hh, fun t ht => ?_, b3.le (by omega), (f1.trans f2).trans f3⟩
      · show sSeq _ _ [.val (.cel k), .val (.int many), .val (.int most), .own (ts.map tokV), .val (.int (0 + (ts.length : Nat))), s2] S1 = _
        rw [v_seq, v_asg, ez]
        walk_at "ev"
        rw [v_chk rfl]
        walk_at "ev"
        rw [ew]
        walk_at "ev"
        rw [d_tup (ds := [_, _]) (show 2 ≤ lim by decide)]
        walk_at "ev"
        rw [v_app1 (ds := ts.map tokV) rfl rfl (by rw [List.length_map]; exact Nat.lt_of_lt_of_le (show ts.length < 1000 by omega) (by decide)), List.map_append]
        rfl
      · rcases List.mem_append.mp ht with q | q
        · exact hw t q
        · rw [List.mem_singleton.mp q]; exact hwl) (ρ := [.val (.cel k), .val (.int many), .val (.int most), .own [], .no, .no]) (S := S) ⟨[], .no, .no, rfl, rfl, ⟨fun _ h => (nomatch h), fun _ h => (nomatch h)⟩, fun _ h => (nomatch h), hb.le (by omega), Fk.refl _ _⟩
  rw [rng_len] at hl b'
  rw [e]
  walk_at "ev"
  exact ⟨ts, S', rfl, hg, by omega, hw, b', f'⟩
abbrev blank : Str := Str.ofString " "
theorem d_eq_pure {neg b : Bool} {S : Sto} {d e : D} {p q : PyData} (hd : Py S d p) (he : Py S e q) (pd : pureD p = true) (pe : pureD q = true) (sd : SeqAt.shaped p = true) (se : SeqAt.shaped q = true) (hb : b = true ↔ p = q) : dEqv neg d e S = .ok (.bl (neg ^^ b)) .tr S := by
  unfold dEqv
  rw [show toP S d = some p from hd, show toP S e = some q from he]
  dsimp only
  rw [if_pos (by rw [sd, se, pure_nodict p pd, pure_nodict q pe]; simp)]
  congr 3
  rw [Bool.eq_iff_iff, eqv_iff p q pd pe, hb]
theorem py_strs (S : Sto) : ∀ zs : List Str, PyAll S (zs.map D.str) (zs.map PyData.str)
  | [] => .nil
  | z :: zs => .cons (py_str S z) (py_strs S zs)
theorem py_ints (S : Sto) : ∀ zs : List Int, PyAll S (zs.map D.int) (zs.map PyData.int)
  | [] => .nil
  | z :: zs => .cons (py_int S z) (py_ints S zs)
theorem map_inj {α β : Type} {f : α → β} (hf : ∀ a b, f a = f b → a = b) : ∀ {l m : List α}, l.map f = m.map f → l = m
  | [], [], _ => rfl
  | [], _ :: _, h => by cases h
  | _ :: _, [], h => by cases h
  | a :: l, b :: m, h => by
    rw [List.map_cons, List.map_cons] at h
    injection h with h1 h2
    rw [hf a b h1, map_inj hf h2]
theorem pure_ints (a : List Int) : pureD (.list (a.map PyData.int)) = true := by
  simp only [pureD]
  exact pureAll_of fun d hd => by obtain ⟨i, _, rfl⟩ := List.mem_map.mp hd; simp only [pureD]
theorem shaped_ints (a : List Int) : SeqAt.shaped (.list (a.map PyData.int)) = true := shaped_of (lay_list (n := 0) fun d hd => by obtain ⟨i, _, rfl⟩ := List.mem_map.mp hd; exact lay_int i) (by decide)
theorem d_eq_ints {neg : Bool} {S : Sto} (a b : List Int) : dEqv neg (.lst (a.map D.int)) (.lst (b.map D.int)) S = .ok (.bl (neg ^^ decide (a = b))) .tr S :=
  d_eq_pure (py_lst (py_ints S a)) (py_lst (py_ints S b)) (pure_ints a) (pure_ints b) (shaped_ints a) (shaped_ints b) (by
    rw [decide_eq_true_eq]
    exact ⟨fun h => by rw [h], fun h => map_inj (f := PyData.int) (fun _ _ e => by injection e) (by injection h)⟩)
local macro_rules | `(tactic| walk_at "ex") => `(tactic| simp -implicitDefEqProofs only [Fx.v_slT, Fx.v_slT0, Fx.v_slT1, Fx.v_slT2, Fx.d_slT, Fx.d_slTl, Fx.d_addTi, Fx.d_addTs, Fx.d_addTl, Fx.v_dnewC, Fx.v_zipC, Fx.d_ixl0, Fx.d_ixl1, Fx.d_ixl2, Fx.d_ixt0, Fx.d_ixt1, Fx.d_lst0, Fx.d_lst1, Fx.d_lst2, Fx.d_tup0, Fx.d_tup1, Fx.d_tup2, Fx.d_int_int, Fx.d_neg, Fx.v_gt2, Fx.v_gt1, Fx.v_callT, Fx.v_propT, Fx.v_sup, Fx.v_asgNS, Fx.v_appX, Fx.d_strX_str, Fx.d_sum, Fx.v_isiX, Fx.v_binO, Fx.v_binO1, Fx.v_inO, Fx.v_inO1, Fx.v_inO3, Fx.v_eqO, Fx.v_eqO1, Fx.v_eqO3, Fx.v_eqX, Fx.v_eqX1, Fx.v_neO, Fx.v_neO1, Fx.v_neO3, Fx.v_augD, Fx.v_augD0, Fx.v_augD1, Fx.v_augD2, Fx.v_idxL, Fx.v_idxL1, Fx.v_idxL2, Fx.v_raise0, Fx.v_fld, Fx.v_setF, Fx.v_meth, Fx.v_methA, Fx.v_sp1, Fx.v_mk, Fx.v_mkK, Fx.v_mkK1, Fx.v_cmeth, Fx.v_runI1, Fx.v_runIx, Fx.v_fmt, Fx.v_js0, Fx.v_js, Fx.v_lrg, Fx.v_lrg1, Fx.v_callK, Fx.v_callK1, Fx.bE_ok, Fx.bE_xc, Fx.bS_nx, Fx.bS_rt, Fx.bS_bk, Fx.bS_ct, Fx.bS_xc, Fx.eS_ok, Fx.eS_xc, Fx.v_seq, Fx.v_next, Fx.v_break, Fx.v_cont, Fx.v_c, Fx.v_var, Fx.kVar_val, Fx.kVar_own, Fx.kVar_oob, Fx.v_op, Fx.v_op1, Fx.v_op2, Fx.v_un, Fx.v_un1, Fx.v_not, Fx.v_not1, Fx.v_and, Fx.v_andT, Fx.v_andF, Fx.v_or, Fx.v_orT, Fx.v_orF, Fx.v_if, Fx.v_ifT, Fx.v_ifF, Fx.v_chain, Fx.v_ch, Fx.v_ch0, Fx.v_ch1T, Fx.v_ch1F, Fx.v_ch2, Fx.v_isi, Fx.v_isiT, Fx.v_isi1, Fx.v_isi2, Fx.ty_non, Fx.ty_bl, Fx.ty_int, Fx.ty_str, Fx.ty_lst, Fx.ty_tup, Fx.ty_dct, Fx.v_cb, Fx.bA_ok, Fx.bA_xc, Fx.v_nil, Fx.v_cons, Fx.v_cons1, Fx.v_cons1x, Fx.v_cons2, Fx.v_cons2x, Fx.nop_tr, Fx.nop_fs, Fx.nop_pk, Fx.v_lst, Fx.v_tup, Fx.v_dnew, Fx.v_call, Fx.v_call1, Fx.v_m1, Fx.v_m1a, Fx.v_m1b, Fx.v_part, Fx.v_part1, Fx.v_nopart, Fx.v_sl, Fx.v_sl0, Fx.v_sl1, Fx.v_sl2, Fx.bO_ok, Fx.v_rev, Fx.v_expr, Fx.v_expr1, Fx.v_ifs, Fx.v_ifsT, Fx.v_ifsF, Fx.v_ret, Fx.v_retT, Fx.v_retS, Fx.v_retN, Fx.v_retV, Fx.v_retV1, Fx.v_retV2, Fx.v_asg, Fx.v_asgT, Fx.v_asgS, Fx.v_asg2, Fx.v_gn, Fx.v_gsNil, Fx.v_gsCons, Fx.v_gs, Fx.v_par, Fx.v_par1, Fx.v_aug, Fx.v_aug1, Fx.v_aug2, Fx.v_own, Fx.v_own1, Fx.v_frz, Fx.v_frz0, Fx.v_frz1, Fx.v_frz2, Fx.v_frz3, Fx.v_app, Fx.v_ado, Fx.v_ado1, Fx.v_xf, Fx.v_set, Fx.v_for, Fx.v_for1, Fx.v_forx, Fx.v_iter, Fx.v_iter1, Fx.v_iter1s, Fx.v_iter2, Fx.it_str, Fx.it_lst, Fx.it_tup, Fx.v_rng1, Fx.v_enum, Fx.v_enumL, Fx.v_enumT, Fx.v_raise, Fx.v_raise1, Fx.v_try, Fx.v_tryN, Fx.v_tryX, Fx.v_run1, Fx.v_run2, Fx.v_run3, Fx.v_r0, Fx.v_r1, Fx.v_r2, Fx.v_r3, Fx.v_r4, Fx.v_r5, Fx.v_nx, Fx.v_nx1, Fx.d_eq_str, Fx.d_eq_int, Fx.d_add_int, Fx.d_sub, Fx.d_cmp, Fx.d_len_lst, Fx.d_len_tup, Fx.d_len_fro, Fx.d_nil, Fx.d_max, Fx.d_min, Fx.d_sl_lst, Fx.d_list, Fx.d_listT, Fx.d_tuple, Fx.d_isN, Fx.d_isB, List.map_cons, List.map_nil, List.length_cons, List.length_nil, List.replicate, List.cons_append, List.nil_append, List.append_nil, List.getElem?_cons_zero, List.getElem?_cons_succ, List.set, Nat.reduceAdd, Nat.reduceSub, Nat.zero_add, if_true, if_false, reduceIte, Bool.not_true, Bool.not_false, Bool.and_true, Bool.true_and, Bool.and_self, Bool.false_xor, Bool.true_xor, Bool.false_eq_true, isT, Fx.tyd_non, Fx.tyd_bl, Fx.tyd_int, Fx.tyd_str, Fx.tyd_lst, Fx.tyd_tup, Fx.tyd_dct, reduceCtorEq, decide_true, decide_false, Bool.or_false, Bool.or_true, Bool.false_or, Bool.true_or, Bool.and_false, Bool.false_and, List.any_cons, List.any_nil])
theorem f_is_integer {S : Sto} {i lo hi : Int} : F_is_integer [.int i, .int lo, .int hi] S = .ok (.bl (decide (lo ≤ i) && decide (i ≤ hi))) .tr S := by
  unfold F_is_integer b_is_integer
  walk_at "ev"
  cases h : decide (lo ≤ i) with
  | false => walk_at "ev"
  | true => walk_at "ev"
def intP (p : PyData) (lo hi : Int) : Bool := match p with
  | .int i => decide (lo ≤ i) && decide (i ≤ hi)
  | _ => false
theorem f_is_int {S : Sto} {d : D} {p : PyData} {lo hi : Int} (h : Py S d p) : F_is_integer [d, .int lo, .int hi] S = .ok (.bl (intP p lo hi)) .tr S := by
  cases p with
  | int i => cases py_iint h; exact f_is_integer
  | bool b => unfold F_is_integer b_is_integer; walk_at "ev"; rw [py_ty h]; walk_at "ev"; rw [py_ty h]; walk_at "ev"; rfl
  | _ => unfold F_is_integer b_is_integer; walk_at "ev"; rw [py_ty h]; walk_at "ev"; rfl
theorem f_is_length {S : Sto} {d : D} {p : PyData} (h : Py S d p) : F__law_is_length [d] S = .ok (.bl (intP p 1 30)) .tr S := by
  cases p with
  | int i =>
    cases py_iint h
    unfold F__law_is_length b__law_is_length
    walk_at "ev"
    unfold intP
    cases hd : decide (1 ≤ i) with
    | false => walk_at "ev"; rw [hd]; rfl
    | true => walk_at "ev"; rw [hd]; rfl
  | bool b => unfold F__law_is_length b__law_is_length; walk_at "ev"; rw [py_ty h]; walk_at "ev"; rw [py_ty h]; walk_at "ev"; rfl
  | _ => unfold F__law_is_length b__law_is_length; walk_at "ev"; rw [py_ty h]; walk_at "ev"; rfl
theorem dd_app : ∀ (ws σ : List Str), (∃ us, ws.foldl DsS.addN σ = σ ++ us ∧ us.length ≤ ws.length) ∧ ((σ ++ ws).Nodup → ws.foldl DsS.addN σ = σ ++ ws) ∧ (σ.Nodup → (ws.foldl DsS.addN σ).length = σ.length + ws.length → (σ ++ ws).Nodup)
  | [], σ => ⟨⟨[], by simp, Nat.le_refl _⟩, fun _ => by simp, fun h _ => by simpa using h⟩
  | w :: ws, σ => by
    obtain ⟨⟨us, e1, l1⟩, h1, h2⟩ := dd_app ws (DsS.addN σ w)
    by_cases hw : w ∈ σ
    · have ea : DsS.addN σ w = σ := by unfold DsS.addN; rw [if_pos hw]
      rw [ea] at e1 h1 h2
      refine ⟨⟨us, by rw [List.foldl_cons, ea]; exact e1, by rw [List.length_cons]; omega⟩, fun hn => ?_, fun hs hl => ?_⟩
      · rw [List.nodup_append] at hn
        exact absurd rfl (hn.2.2 w hw w List.mem_cons_self)
      · rw [List.foldl_cons, ea, e1, List.length_append, List.length_cons] at hl
        omega
    · have ea : DsS.addN σ w = σ ++ [w] := by unfold DsS.addN; rw [if_neg hw]
      rw [ea] at e1 h1 h2
      refine ⟨⟨w :: us, by rw [List.foldl_cons, ea, e1, List.append_assoc]; rfl, by rw [List.length_cons, List.length_cons]; omega⟩, fun hn => ?_, fun hs hl => ?_⟩
      · rw [List.foldl_cons, ea, h1 (by rw [List.append_assoc]; exact hn), List.append_assoc]; rfl
      · have hs2 : (σ ++ [w]).Nodup := by
          rw [List.nodup_append]
          exact ⟨hs, by simp, fun a ha b hb e => by rw [List.mem_singleton] at hb; subst hb; subst e; exact hw ha⟩
        have := h2 hs2 (by rw [List.foldl_cons, ea] at hl; rw [hl, List.length_append, List.length_cons, List.length_singleton]; omega)
        rw [List.append_assoc] at this
        exact this
theorem dd_nodup (ws : List Str) : decide ((((DsS.ddS ws).length : Nat) : Int) = ((ws.length : Nat) : Int)) = decide ws.Nodup := by
  obtain ⟨_, h1, h2⟩ := dd_app ws []
  refine decide_eq_decide.mpr ⟨fun h => ?_, fun h => ?_⟩
  · have := h2 List.nodup_nil (by show (DsS.ddS ws).length = _; rw [List.length_nil]; omega)
    simpa using this
  · have := h1 (by simpa using h)
    have e : DsS.ddS ws = ws := this
    rw [e]
def rowP : PyData → Option (List PyData)
  | .list ps => some ps
  | .tuple ps => some ps
  | _ => none
def strP : PyData → Str
  | .str z => z
  | _ => Str.empty
def marksP (ps : List PyData) : Bool := !ps.isEmpty && (ps.all markD && decide (ps.map strP).Nodup)
def atLeast : PyData → Int
  | .int i => i
  | _ => 0
def itemP : PyData → Bool
  | .tuple [m, a, b] => (match rowP m with | some ps => marksP ps | none => false) && (intP a 1 30 && intP b (atLeast a) 30)
  | _ => false
theorem mark_str {p : PyData} (h : markD p = true) : p = .str (strP p) ∧ isMark (strP p) = true := by
  cases p <;> first | exact ⟨rfl, h⟩ | cases h
theorem marks_strs {S : Sto} : ∀ {ds : List D} {ps : List PyData}, PyAll S ds ps → ps.all markD = true → ds = (ps.map strP).map D.str
  | [], ps, h, _ => by
    have := h.len
    cases ps with
    | nil => rfl
    | cons => simp at this
  | d :: ds, ps, h, hm => by
    have hl := h.len
    cases ps with
    | nil => simp at hl
    | cons p ps =>
      rw [List.all_cons, Bool.and_eq_true] at hm
      obtain ⟨q, e, hp⟩ := h.at (i := 0) (d := d) rfl
      cases e
      rw [(mark_str hm.1).1] at hp
      unfold PyAll at h
      simp only [treeAll] at h
      split at h
      · rename_i q' ps' e1 e2
        cases h
        rw [py_istr hp, marks_strs (ds := ds) e2 hm.2]; rfl
      · cases h
local macro_rules | `(tactic| walk_at "kk") => `(tactic| simp -implicitDefEqProofs only [v_lenD, Fx.v_slT, Fx.v_slT0, Fx.v_slT1, Fx.v_slT2, Fx.d_slT, Fx.d_slTl, Fx.d_addTi, Fx.d_addTs, Fx.d_addTl, Fx.v_dnewC, Fx.v_zipC, Fx.d_ixl0, Fx.d_ixl1, Fx.d_ixl2, Fx.d_ixt0, Fx.d_ixt1, Fx.d_lst0, Fx.d_lst1, Fx.d_lst2, Fx.d_tup0, Fx.d_tup1, Fx.d_tup2, Fx.d_int_int, Fx.d_neg, Fx.v_gt2, Fx.v_gt1, Fx.v_callT, Fx.v_propT, Fx.v_sup, Fx.v_asgNS, Fx.v_appX, Fx.d_strX_str, Fx.d_sum, Fx.v_isiX, Fx.v_binO, Fx.v_binO1, Fx.v_inO, Fx.v_inO1, Fx.v_inO3, Fx.v_eqO, Fx.v_eqO1, Fx.v_eqO3, Fx.v_eqX, Fx.v_eqX1, Fx.v_neO, Fx.v_neO1, Fx.v_neO3, Fx.v_augD, Fx.v_augD0, Fx.v_augD1, Fx.v_augD2, Fx.v_idxL, Fx.v_idxL1, Fx.v_idxL2, Fx.v_raise0, Fx.v_fld, Fx.v_setF, Fx.v_meth, Fx.v_methA, Fx.v_sp1, Fx.v_mk, Fx.v_mkK, Fx.v_mkK1, Fx.v_cmeth, Fx.v_runI1, Fx.v_runIx, Fx.v_fmt, Fx.v_js0, Fx.v_js, Fx.v_lrg, Fx.v_lrg1, Fx.v_callK, Fx.v_callK1, Fx.bE_ok, Fx.bE_xc, Fx.bS_nx, Fx.bS_rt, Fx.bS_bk, Fx.bS_ct, Fx.bS_xc, Fx.eS_ok, Fx.eS_xc, Fx.v_seq, Fx.v_next, Fx.v_break, Fx.v_cont, Fx.v_c, Fx.v_var, Fx.kVar_val, Fx.kVar_own, Fx.kVar_oob, Fx.v_op, Fx.v_op1, Fx.v_op2, Fx.v_un, Fx.v_un1, Fx.v_not, Fx.v_not1, Fx.v_and, Fx.v_andT, Fx.v_andF, Fx.v_or, Fx.v_orT, Fx.v_orF, Fx.v_if, Fx.v_ifT, Fx.v_ifF, Fx.v_chain, Fx.v_ch, Fx.v_ch0, Fx.v_ch1T, Fx.v_ch1F, Fx.v_ch2, Fx.v_isi, Fx.v_isiT, Fx.v_isi1, Fx.v_isi2, Fx.ty_non, Fx.ty_bl, Fx.ty_int, Fx.ty_str, Fx.ty_lst, Fx.ty_tup, Fx.ty_dct, Fx.v_cb, Fx.bA_ok, Fx.bA_xc, Fx.v_nil, Fx.v_cons, Fx.v_cons1, Fx.v_cons1x, Fx.v_cons2, Fx.v_cons2x, Fx.nop_tr, Fx.nop_fs, Fx.nop_pk, Fx.v_lst, Fx.v_tup, Fx.v_dnew, Fx.v_call, Fx.v_call1, Fx.v_m1, Fx.v_m1a, Fx.v_m1b, Fx.v_part, Fx.v_part1, Fx.v_nopart, Fx.v_sl, Fx.v_sl0, Fx.v_sl1, Fx.v_sl2, Fx.bO_ok, Fx.v_rev, Fx.v_expr, Fx.v_expr1, Fx.v_ifs, Fx.v_ifsT, Fx.v_ifsF, Fx.v_ret, Fx.v_retT, Fx.v_retS, Fx.v_retN, Fx.v_retV, Fx.v_retV1, Fx.v_retV2, Fx.v_asg, Fx.v_asgT, Fx.v_asgS, Fx.v_asg2, Fx.v_gn, Fx.v_gsNil, Fx.v_gsCons, Fx.v_gs, Fx.v_par, Fx.v_par1, Fx.v_aug, Fx.v_aug1, Fx.v_aug2, Fx.v_own, Fx.v_own1, Fx.v_frz, Fx.v_frz0, Fx.v_frz1, Fx.v_frz2, Fx.v_frz3, Fx.v_app, Fx.v_ado, Fx.v_ado1, Fx.v_xf, Fx.v_set, Fx.v_for, Fx.v_for1, Fx.v_forx, Fx.v_iter, Fx.v_iter1, Fx.v_iter1s, Fx.v_iter2, Fx.it_str, Fx.it_lst, Fx.it_tup, Fx.v_rng1, Fx.v_enum, Fx.v_enumL, Fx.v_enumT, Fx.v_raise, Fx.v_raise1, Fx.v_try, Fx.v_tryN, Fx.v_tryX, Fx.v_run1, Fx.v_run2, Fx.v_run3, Fx.v_r0, Fx.v_r1, Fx.v_r2, Fx.v_r3, Fx.v_r4, Fx.v_r5, Fx.v_nx, Fx.v_nx1, Fx.d_eq_str, Fx.d_eq_int, Fx.d_add_int, Fx.d_sub, Fx.d_cmp, Fx.d_len_lst, Fx.d_len_tup, Fx.d_len_fro, Fx.d_nil, Fx.d_max, Fx.d_min, Fx.d_sl_lst, Fx.d_list, Fx.d_listT, Fx.d_tuple, Fx.d_isN, Fx.d_isB, List.map_cons, List.map_nil, List.length_cons, List.length_nil, List.replicate, List.cons_append, List.nil_append, List.append_nil, List.getElem?_cons_zero, List.getElem?_cons_succ, List.set, Nat.reduceAdd, Nat.reduceSub, Nat.zero_add, if_true, if_false, reduceIte, Bool.not_true, Bool.not_false, Bool.and_true, Bool.true_and, Bool.and_self, Bool.false_xor, Bool.true_xor, Bool.false_eq_true, isT, Fx.tyd_non, Fx.tyd_bl, Fx.tyd_int, Fx.tyd_str, Fx.tyd_lst, Fx.tyd_tup, Fx.tyd_dct, reduceCtorEq, decide_true, decide_false, Bool.or_false, Bool.or_true, Bool.false_or, Bool.true_or, Bool.and_false, Bool.false_and, List.any_cons, List.any_nil])
theorem f_is_item {S : Sto} {d : D} {p : PyData} (h : Py S d p) (hw : p.weight ≤ 3000) : F_is_item [d] S = .ok (.bl (itemP p)) .tr S := by
  unfold F_is_item b_is_item
  walk_at "kk"
  rw [py_ty h]
  cases p with
  | tuple ps =>
    obtain ⟨ds, rfl, ha⟩ := py_itup h
    rw [wt_tup] at hw
    walk_at "kk"
    rw [ha.len]
    by_cases h3 : ps.length = 3
    · match ps, h3 with
      | [m, a, b], _ =>
        rw [PyData.weightAll, PyData.weightAll, PyData.weightAll, PyData.weightAll] at hw
        have hl := ha.len
        match ds, hl with
        | [dm, da, db], _ =>
          obtain ⟨m', q1, rm⟩ := ha.at (i := 0) rfl
          obtain ⟨a', q2, ra⟩ := ha.at (i := 1) rfl
          obtain ⟨b', q3, rb⟩ := ha.at (i := 2) rfl
          cases q1; cases q2; cases q3
          rw [decide_eq_true (show (([m, a, b] : List PyData).length : Int) = 3 by rfl)]
          walk_at "kk"
          rw [show ∀ (g : FGs) (ρ : Ev), gT 3 g (.tup [dm, da, db]) ρ S = g [dm, da, db] ρ S from fun _ _ => rfl]
          walk_at "kk"
          rw [py_ty rm]
          have row : ∀ qs, rowP m = some qs → (m = .list qs ∨ m = .tuple qs) := fun qs e => by
            cases m <;> first | (cases e; first | exact .inl rfl | exact .inr rfl) | cases e
          cases em : rowP m with
          | none =>
            have et : (decide (tyD m = Ty.lst) || decide (tyD m = Ty.tup)) = false := by cases m <;> first | rfl | cases em
            rw [v_isi2, et]
            walk_at "kk"
            show _ = RE.ok (.bl ((match rowP m with | some ps => marksP ps | none => false) && _)) _ _
            rw [em]; rfl
          | some qs =>
            have hm := row qs em
            have hwq : PyData.weightAll qs ≤ 3000 := by
              rcases hm with rfl | rfl
              · rw [wt_list] at hw; omega
              · rw [wt_tup] at hw; omega
            rw [v_isi2, show (decide (tyD m = Ty.lst) || decide (tyD m = Ty.tup)) = true by rcases hm with rfl | rfl <;> rfl]
            walk_at "kk"
            obtain ⟨es, h1, h4, e⟩ := lc_py (F := F_is_mark) (f := markD) (ρ := [.val (.tup [dm, da, db]), .val dm, .val da, .val db, .no]) (i := 1) (j := 4) rm hm (by omega) (fun e q => f_is_mark) rfl (fun _ => rfl)
            rw [d_len_sq h1]
            walk_at "kk"
            rw [h4.len]
            have goal : itemP (.tuple [m, a, b]) = (marksP qs && (intP a 1 30 && intP b (atLeast a) 30)) := by
              show ((match rowP m with | some ps => marksP ps | none => false) && _) = _
              rw [em]
            rw [goal]
            unfold marksP
            by_cases hq : qs = []
            · rw [decide_eq_true (show (qs.length : Int) = 0 by rw [hq]; rfl)]
              walk_at "kk"
              rw [hq]
              rfl
            · have hl0 := List.length_pos_iff.mpr hq
              rw [decide_eq_false (show ¬ (qs.length : Int) = 0 by omega), show qs.isEmpty = false by cases qs <;> first | exact absurd rfl hq | rfl]
              walk_at "kk"
              rw [e]
              walk_at "kk"
              rw [d_all (bools_py h4)]
              walk_at "kk"
              rw [List.all_map]
              cases hA : qs.all (id ∘ markD) with
              | false =>
                have hA : qs.all markD = false := hA
                rw [hA]
                walk_at "kk"
              | true =>
                have hA : qs.all markD = true := hA
                rw [hA]
                walk_at "kk"
                rw [f_is_int ra]
                walk_at "kk"
                cases hI : intP a 1 30 with
                | false =>
                  walk_at "kk"
                | true =>
                  obtain ⟨i, rfl⟩ : ∃ i, a = .int i := by cases a <;> first | exact ⟨_, rfl⟩ | cases hI
                  cases py_iint ra
                  walk_at "kk"
                  rw [f_is_int rb]
                  walk_at "kk"
                  show _ = RE.ok (.bl (_ && (true && intP b i 30))) _ _
                  cases hJ : intP b i 30 with
                  | false =>
                    walk_at "kk"
                  | true =>
                    walk_at "kk"
                    have hs := marks_strs h4 hA
                    have hle : (qs.map strP).length ≤ 3000 := by rw [List.length_map]; exact Nat.le_trans (wt_len _) hwq
                    rw [d_lenD h1 (by rw [hs]; exact strsD_map _) hle]
                    walk_at "kk"
                    rw [d_len_sq h1]
                    walk_at "kk"
                    rw [h4.len, ← List.length_map (f := strP), dd_nodup]
    · rw [decide_eq_false (show ¬ (ps.length : Int) = 3 by omega)]
      walk_at "kk"
      have : itemP (.tuple ps) = false := by
        unfold itemP; split
        · rename_i e; cases e; exact absurd rfl h3
        · rfl
      rw [this]
  | _ => walk_at "kk"; rfl
abbrev line : Str := Str.ofString "_"
theorem allM_mark : ∀ z ∈ allMarks, isMark z = true := by decide +kernel
theorem allM_mem : ∀ z : Str, isMark z = true → z ∈ allMarks := by
  intro z h
  rcases mark_forms h with e | ⟨k, i, e, hk, hi⟩
  · have : z = blank := sl_inj (by rw [show sl z = [32] from e]; exact cps_blank.symm)
    rw [this]; decide +kernel
  · have ez : z = ⟨#[k, i]⟩ := sl_inj (by rw [show sl z = [k, i] from e])
    rw [ez]
    simp only [List.mem_cons, List.not_mem_nil, or_false] at hk hi
    rcases hk with rfl | rfl | rfl <;> rcases hi with rfl | rfl | rfl | rfl <;> decide +kernel
def patP (p : PyData) : Bool := match rowP p with
  | some ps => decide (1 ≤ ps.length) && (decide (ps.length ≤ 6) && ps.all itemP)
  | none => false
theorem row_is {p : PyData} {qs : List PyData} (e : rowP p = some qs) : p = .list qs ∨ p = .tuple qs := by
  cases p <;> first | (cases e; first | exact .inl rfl | exact .inr rfl) | cases e
theorem row_wt {p : PyData} {qs : List PyData} (e : rowP p = some qs) : PyData.weightAll qs = p.weight := by
  rcases row_is e with rfl | rfl
  · rw [wt_list]
  · rw [wt_tup]
theorem row_no {p : PyData} (e : rowP p = none) : (decide (tyD p = Ty.lst) || decide (tyD p = Ty.tup)) = false := by cases p <;> first | rfl | cases e
theorem row_yes {p : PyData} {qs : List PyData} (e : rowP p = some qs) : (decide (tyD p = Ty.lst) || decide (tyD p = Ty.tup)) = true := by rcases row_is e with rfl | rfl <;> rfl
def bD (S : Sto) (f : PyData → Bool) (e : D) : D := match toP S e with
  | some q => .bl (f q)
  | none => .non
theorem bools_D {S : Sto} {f : PyData → Bool} {ds : List D} {ps : List PyData} (h : PyAll S ds ps) : bools (ds.map (bD S f)) = some (ps.map f) := bools_py h
/-- [f(x) for x in v], f a look at small data -/
theorem lc_small {S : Sto} {d : D} {p : PyData} {ps : List PyData} {F : FF} {f : PyData → Bool} {ρ : Ev} {i j : Nat} (h : Py S d p) (hp : p = .list ps ∨ p = .tuple ps) (hw : PyData.weightAll ps ≤ 3000) (hF : ∀ e q, Py S e q → q.weight ≤ 3000 → F [e] S = .ok (.bl (f q)) .tr S)
    (hi : ρ[i]? = some (.val d)) (hj : ∀ e, ((wipeE ρ [j]).set j (.val e))[j]? = some (.val e)) : ∃ ds, sqOf S d = some ds ∧ PyAll S ds ps ∧ fLc (fIter (fVar i)) (gN j) (fC (.bl true)) (fCall F [] (fCons (fVar j) fNil)) [j] ρ S = .ok (.lst (ds.map (bD S f))) .fs S := by
  obtain ⟨ds, g, h1, h2, h3, h4⟩ := py_sq h hp
  refine ⟨ds, h1, h4, lc_map (S1 := S) (g := g) ?_ h3 (by rw [h4.len]; exact lim_of (Nat.le_trans (wt_len ps) (by omega))) fun e he => ?_⟩
  · rw [v_iter, Fx.v_var, hi, kVar_val, v_iter1, h2]; rfl
  · obtain ⟨q, hq, hp⟩ := h4.mem he
    refine ⟨_, .tr, rfl, ?_, rfl⟩
    rw [v_call, v_cons, Fx.v_var, hj e]
    walk_at "ev"
    rw [hF e q hp (by have := wt_mem hq; omega)]
    unfold bD
    rw [show toP S e = some q from hp]
theorem f_is_pattern {S : Sto} {d : D} {p : PyData} (h : Py S d p) (hw : p.weight ≤ 3000) : F_is_pattern [d] S = .ok (.bl (patP p)) .tr S := by
  unfold F_is_pattern b_is_pattern
  walk_at "kk"
  rw [py_ty h]
  unfold patP
  cases er : rowP p with
  | none =>
    rw [v_isi2, row_no er]
    walk_at "kk"
  | some qs =>
    rw [v_isi2, row_yes er]
    walk_at "kk"
    obtain ⟨es, h1, h4, e⟩ := lc_small (F := F_is_item) (f := itemP) (ρ := [.val d, .no]) (i := 0) (j := 1) h (row_is er) (by rw [row_wt er]; exact hw) (fun e q => f_is_item) rfl (fun _ => rfl)
    rw [d_len_sq h1]
    walk_at "kk"
    rw [h4.len]
    rw [show decide ((1 : Int) ≤ ((qs.length : Nat) : Int)) = decide (1 ≤ qs.length) from decide_eq_decide.mpr (by omega)]
    cases c1 : decide (1 ≤ qs.length) with
    | false => walk_at "kk"
    | true =>
      walk_at "kk"
      rw [show decide (((qs.length : Nat) : Int) ≤ 6) = decide (qs.length ≤ 6) from decide_eq_decide.mpr (by omega)]
      cases c2 : decide (qs.length ≤ 6) with
      | false => walk_at "kk"
      | true =>
        walk_at "kk"
        rw [e]
        walk_at "kk"
        rw [d_all (bools_D h4)]
        walk_at "kk"
        rw [List.all_map]
        rfl
theorem f_need_pattern {S : Sto} {d : D} {p : PyData} (h : Py S d p) (hw : p.weight ≤ 3000) : F_need_pattern [d] S = if patP p = true then .ok .non .tr S else .xc 2 [("value", d)] S := by
  unfold F_need_pattern b_need_pattern
  walk_at "kk"
  rw [f_is_pattern h hw]
  walk_at "kk"
  cases patP p <;> (walk_at "kk"; try rfl)
def goodM : List Str → List PyData → Bool
  | _, [] => true
  | zs, .str z :: qs => isMark z && (!decide (z ∈ zs) && goodM (zs ++ [z]) qs)
  | _, _ :: _ => false
theorem goodM_eq : ∀ (qs : List PyData) (zs : List Str), zs.Nodup → goodM zs qs = (qs.all markD && decide (zs ++ qs.map strP).Nodup)
  | [], zs, h => by
    show true = _
    rw [List.map_nil, List.append_nil, decide_eq_true h]; rfl
  | q :: qs, zs, h => by
    have other : (∀ z, q ≠ .str z) → goodM zs (q :: qs) = (List.all (q :: qs) markD && decide (zs ++ (q :: qs).map strP).Nodup) := fun hq => by
      rw [show goodM zs (q :: qs) = false by cases q <;> first | rfl | exact absurd rfl (hq _), List.all_cons, show markD q = false by cases q <;> first | rfl | exact absurd rfl (hq _)]; rfl
    cases q with
    | str z =>
      show (isMark z && (!decide (z ∈ zs) && goodM (zs ++ [z]) qs)) = ((isMark z && qs.all markD) && decide (zs ++ (z :: qs.map strP)).Nodup)
      by_cases hz : z ∈ zs
      · rw [decide_eq_true hz, decide_eq_false (p := (zs ++ (z :: qs.map strP)).Nodup) (fun hn => by
          rw [List.nodup_append] at hn
          exact hn.2.2 z hz z List.mem_cons_self rfl)]
        simp
      · have hn2 : (zs ++ [z]).Nodup := by
          rw [List.nodup_append]
          exact ⟨h, by simp, fun a ha b hb e => by rw [List.mem_singleton] at hb; subst hb; subst e; exact hz ha⟩
        rw [decide_eq_false hz, goodM_eq qs (zs ++ [z]) hn2, List.append_assoc]
        show (isMark z && (true && (qs.all markD && decide (zs ++ (z :: qs.map strP)).Nodup))) = _
        rw [Bool.true_and, Bool.and_assoc]
    | _ => exact other fun z e => by cases e
theorem marks_iff (z : Str) : decide (z ∈ allMarks) = isMark z := by
  cases e : isMark z with
  | true => exact decide_eq_true (allM_mem z e)
  | false => exact decide_eq_false fun h => by rw [allM_mark z h] at e; cases e
theorem py_unc {S : Sto} {d : D} {ds : List D} {qs : List PyData} (h : PyAll S (d :: ds) qs) : ∃ q ps, qs = q :: ps ∧ Py S d q ∧ PyAll S ds ps := by
  have hl := h.len
  cases qs with
  | nil => simp at hl
  | cons q ps =>
    obtain ⟨q', e, hp⟩ := h.at (i := 0) (d := d) rfl
    cases e
    unfold PyAll at h
    simp only [treeAll] at h
    split at h
    · rename_i q' ps' e1 e2
      cases h
      exact ⟨_, _, rfl, hp, e2⟩
    · cases h
noncomputable abbrev giB : FS := sIf (fOr (fNot (fIsi .str (fVar 2))) (fOr (fOp (dIn true) (fVar 2) (fCall F__law_all_marks [] (fNil))) (fOp (dIn false) (fVar 2) (fSl (fOp dIx (fVar 0) (fC (.int 0))) (fNoPart) (fPart (fVar 1)))))) (sRet (fC (.bl false))) (sNext)
noncomputable abbrev giG : FG := gT 2 (gsCons (gN 1) (gsCons (gN 2) (gsNil)))
def enF : Nat → List D → List D
  | _, [] => []
  | n, d :: r => .tup [.int ((n : Nat) : Int), d] :: enF (n + 1) r
theorem enF_enum : ∀ (zs : List D) (n : Nat), zs.mapIdx (fun i d => D.tup [.int (((i + n : Nat)) : Int), d]) = enF n zs
  | [], n => rfl
  | z :: zs, n => by
    rw [List.mapIdx_cons]
    show D.tup [.int ((0 + n : Nat) : Int), z] :: _ = D.tup [.int ((n : Nat) : Int), z] :: enF (n + 1) zs
    rw [Nat.zero_add, ← enF_enum zs (n + 1)]
    congr 2
    funext i d
    rw [show i + 1 + n = i + (n + 1) by omega]
theorem enumD_enF (zs : List D) : enumD zs = enF 0 zs := enF_enum zs 0
def RowD (M : D) (ds : List D) : Prop := M = .lst ds ∨ M = .tup ds
theorem gi_sl {M : D} {ds : List D} {zs : List Str} {es : List D} {S : Sto} (h : RowD M ds) (e : ds = zs.map D.str ++ es) (hn : es ≠ []) : ∃ N f, dSl M none (some ((zs.length : Nat) : Int)) S = .ok N f S ∧ RowD N (zs.map D.str) := by
  have hc : cutD ds none (some ((zs.length : Nat) : Int)) = zs.map D.str := by
    rw [cutD_upto, e, List.take_left' (List.length_map _)]
  rcases h with rfl | rfl
  · exact ⟨_, _, d_sl_lst, .inl (by rw [hc])⟩
  · refine ⟨_, _, d_sl_tup fun h => ?_, .inr (by rw [hc])⟩
    have h2 := h.2
    have hl : ds.length = zs.length + es.length := by rw [e, List.length_append, List.length_map]
    have := List.length_pos_iff.mpr hn
    rw [HT.sIx_nat] at h2
    omega
theorem gi_in {N : D} {zs : List Str} {z : Str} {S : Sto} (h : RowD N (zs.map D.str)) : dIn false (.str z) N S = .ok (.bl (decide (z ∈ zs))) .tr S := by
  rcases h with rfl | rfl
  · exact d_in_strs
  · exact d_in_strsT
theorem gi_loop {M a b : D} {ds : List D} {S : Sto} (hM : RowD M ds) : ∀ (qs : List PyData) (es : List D) (zs : List Str) (s1 s2 : Sl), ds = zs.map D.str ++ es → PyAll S es qs →
    (∃ t1 t2, goodM zs qs = true ∧ loopS none giG giB (enF zs.length es) [.val (.tup [M, a, b]), s1, s2] S = .nx [.val (.tup [M, a, b]), t1, t2] S) ∨ (goodM zs qs = false ∧ loopS none giG giB (enF zs.length es) [.val (.tup [M, a, b]), s1, s2] S = .rt (.bl false) .tr S)
  | [], es, zs, s1, s2, _, h => by
    have := h.len
    cases es with
    | nil => exact .inl ⟨_, _, rfl, by unfold enF; rw [loop_end (g := none) trivial]⟩
    | cons => simp at this
  | q :: qs, es, zs, s1, s2, e, h => by
    have := h.len
    cases es with
    | nil => simp at this
    | cons d es =>
      obtain ⟨q', ps', eq, hd, h'⟩ := py_unc h
      cases eq
      obtain ⟨N, f, e1, hN⟩ := gi_sl (S := S) hM e (by simp)
      show (∃ t1 t2, _ ∧ loopS none giG giB (.tup [.int ((zs.length : Nat) : Int), d] :: enF (zs.length + 1) es) _ S = _) ∨ (_ ∧ loopS none giG giB (.tup [.int ((zs.length : Nat) : Int), d] :: enF (zs.length + 1) es) _ S = _)
      have bad : (∀ z, q = .str z → isMark z = true → z ∈ zs) → goodM zs (q :: qs) = false ∧ loopS none giG giB (.tup [.int ((zs.length : Nat) : Int), d] :: enF (zs.length + 1) es) [.val (.tup [M, a, b]), s1, s2] S = .rt (.bl false) .tr S := fun hb => by
        cases q with
        | str z =>
          cases py_istr hd
          refine ⟨?_, loop_ret (g := none) (S2 := S) (ρ1 := [.val (.tup [M, a, b]), .val (.int ((zs.length : Nat) : Int)), .val (.str z)]) trivial rfl ?_⟩
          · show (isMark z && (!decide (z ∈ zs) && _)) = false
            cases hz : isMark z with
            | false => rfl
            | true => rw [decide_eq_true (hb z rfl hz)]; rfl
          · walk_at "kk"
            rw [f_all_marks]
            walk_at "kk"
            rw [d_nin_strs, marks_iff]
            walk_at "kk"
            cases hz : isMark z with
            | false => walk_at "kk"
            | true =>
              walk_at "kk"
              rw [e1]
              walk_at "kk"
              rw [gi_in hN, decide_eq_true (hb z rfl hz)]
              walk_at "kk"
        | _ =>
          refine ⟨rfl, loop_ret (g := none) (S2 := S) (ρ1 := [.val (.tup [M, a, b]), .val (.int ((zs.length : Nat) : Int)), .val d]) trivial rfl ?_⟩
          walk_at "kk"
          rw [py_ty hd]
          walk_at "kk"
      by_cases hq : ∃ z, q = .str z ∧ isMark z = true ∧ z ∉ zs
      · obtain ⟨z, rfl, hz, hn⟩ := hq
        cases py_istr hd
        have step : loopS none giG giB (.tup [.int ((zs.length : Nat) : Int), .str z] :: enF (zs.length + 1) es) [.val (.tup [M, a, b]), s1, s2] S = loopS none giG giB (enF (zs.length + 1) es) [.val (.tup [M, a, b]), .val (.int ((zs.length : Nat) : Int)), .val (.str z)] S := loop_step (g := none) (S2 := S) (ρ1 := [.val (.tup [M, a, b]), .val (.int ((zs.length : Nat) : Int)), .val (.str z)]) trivial rfl (by
          walk_at "kk"
          rw [f_all_marks]
          walk_at "kk"
          rw [d_nin_strs, marks_iff, hz]
          walk_at "kk"
          rw [e1]
          walk_at "kk"
          rw [gi_in hN, decide_eq_false hn]
          walk_at "kk")
        rw [step]
        have ih := gi_loop (a := a) (b := b) hM qs es (zs ++ [z]) (.val (.int ((zs.length : Nat) : Int))) (.val (.str z)) (by rw [e, List.map_append, List.append_assoc]; rfl) h'
        rw [List.length_append, List.length_singleton] at ih
        have eg : goodM zs (.str z :: qs) = goodM (zs ++ [z]) qs := by
          show (isMark z && (!decide (z ∈ zs) && goodM (zs ++ [z]) qs)) = _
          rw [hz, decide_eq_false hn]; rfl
        rw [eg]
        exact ih
      · exact .inr (bad fun z e1 e2 => Classical.byContradiction fun h => hq ⟨z, e1, e2, h⟩)
theorem f_good_item {S : Sto} {d : D} {p : PyData} (h : Py S d p) (hc : noCel d = true) : F__law_good_item [d] S = .ok (.bl (itemP p)) .tr S := by
  unfold F__law_good_item b__law_good_item
  walk_at "kk"
  rw [py_ty h]
  cases p with
  | tuple ps =>
    obtain ⟨ds, rfl, ha⟩ := py_itup h
    walk_at "kk"
    rw [ha.len]
    by_cases h3 : ps.length = 3
    · match ps, h3 with
      | [m, a, b], _ =>
        have hl := ha.len
        match ds, hl with
        | [dm, da, db], _ =>
          obtain ⟨m', q1, rm⟩ := ha.at (i := 0) rfl
          obtain ⟨a', q2, ra⟩ := ha.at (i := 1) rfl
          obtain ⟨b', q3, rb⟩ := ha.at (i := 2) rfl
          cases q1; cases q2; cases q3
          have x0 : dIx (.tup [dm, da, db]) (.int 0) S = .ok dm .tr S := rfl
          have x1 : dIx (.tup [dm, da, db]) (.int 1) S = .ok da .tr S := rfl
          have x2 : dIx (.tup [dm, da, db]) (.int 2) S = .ok db .tr S := rfl
          rw [decide_eq_true (show (([m, a, b] : List PyData).length : Int) = 3 by rfl)]
          walk_at "kk"
          try rw [x0]
          try walk_at "kk"
          rw [py_ty rm]
          cases em : rowP m with
          | none =>
            rw [v_isi2, row_no em]
            walk_at "kk"
            show _ = RE.ok (.bl ((match rowP m with | some ps => marksP ps | none => false) && _)) _ _
            rw [em]; rfl
          | some qs =>
            rw [v_isi2, row_yes em]
            walk_at "kk"
            obtain ⟨es, g, h1, h2, h3, h4⟩ := py_sq rm (row_is em)
            have hM : RowD dm es := by
              rcases row_is em with rfl | rfl
              · cases dm with
                | lst _ => cases h1; exact .inl rfl
                | tup _ => cases h1; exact .inr rfl
                | cel _ => unfold noCel noCels noCel at hc; simp at hc
                | fro _ _ => unfold Py toP at rm; simp [tree] at rm
                | _ => cases h1
              · obtain ⟨es', rfl, _⟩ := py_itup rm
                cases h1
                exact .inr rfl
            rw [d_len_sq h1]
            walk_at "kk"
            rw [h4.len]
            have goal : itemP (.tuple [m, a, b]) = (marksP qs && (intP a 1 30 && intP b (atLeast a) 30)) := by
              show ((match rowP m with | some ps => marksP ps | none => false) && _) = _
              rw [em]
            rw [goal]
            unfold marksP
            by_cases hq : qs = []
            · rw [decide_eq_true (show (qs.length : Int) = 0 by rw [hq]; rfl)]
              walk_at "kk"
              rw [hq]
              rfl
            · have hl0 := List.length_pos_iff.mpr hq
              rw [decide_eq_false (show ¬ (qs.length : Int) = 0 by omega), show qs.isEmpty = false by cases qs <;> first | exact absurd rfl hq | rfl]
              walk_at "kk"
              have ee : kEnum (.ok [dm] true S) = .ok (enF 0 es) none S := by
                rcases hM with rfl | rfl
                · rw [v_enumL, enumD_enF]
                · rw [v_enumT, enumD_enF]
              rw [ee]
              walk_at "kk"
              have hgm := goodM_eq qs [] List.nodup_nil
              rw [List.nil_append] at hgm
              rcases gi_loop (a := da) (b := db) hM qs es [] .no .no rfl h4 with ⟨t1, t2, eg, el⟩ | ⟨eg, el⟩
              · rw [eg] at hgm
                rw [show ([] : List Str).length = 0 from rfl] at el
                rw [el, ← hgm]
                walk_at "kk"
                try rw [x1]
                try walk_at "kk"
                rw [f_is_length ra]
                walk_at "kk"
                cases hI : intP a 1 30 with
                | false => walk_at "kk"
                | true =>
                  walk_at "kk"
                  try rw [x2]
                  try walk_at "kk"
                  rw [f_is_length rb]
                  walk_at "kk"
                  obtain ⟨i, rfl⟩ : ∃ i, a = .int i := by cases a <;> first | exact ⟨_, rfl⟩ | cases hI
                  cases py_iint ra
                  have hI' : (decide (1 ≤ i) && decide (i ≤ 30)) = true := hI
                  rw [Bool.and_eq_true, decide_eq_true_eq, decide_eq_true_eq] at hI'
                  show _ = RE.ok (.bl (intP b i 30)) _ _
                  cases hJ : intP b 1 30 with
                  | false =>
                    walk_at "kk"
                    have : intP b i 30 = false := by
                      cases b with
                      | int j =>
                        have hJ' : (decide (1 ≤ j) && decide (j ≤ 30)) = false := hJ
                        show (decide (i ≤ j) && decide (j ≤ 30)) = false
                        rw [Bool.and_eq_false_iff, decide_eq_false_iff_not, decide_eq_false_iff_not] at hJ' ⊢
                        omega
                      | _ => rfl
                    rw [this]
                  | true =>
                    obtain ⟨j, rfl⟩ : ∃ j, b = .int j := by cases b <;> first | exact ⟨_, rfl⟩ | cases hJ
                    cases py_iint rb
                    have hJ' : (decide (1 ≤ j) && decide (j ≤ 30)) = true := hJ
                    rw [Bool.and_eq_true, decide_eq_true_eq, decide_eq_true_eq] at hJ'
                    walk_at "kk"
                    try rw [x1]
                    try walk_at "kk"
                    try rw [x2]
                    try walk_at "kk"
                    show _ = RE.ok (.bl (decide (i ≤ j) && decide (j ≤ 30))) _ _
                    rw [decide_eq_true hJ'.2, Bool.and_true]
              · rw [eg] at hgm
                rw [show ([] : List Str).length = 0 from rfl] at el
                rw [el, ← hgm]
                walk_at "kk"
    · rw [decide_eq_false (show ¬ (ps.length : Int) = 3 by omega)]
      walk_at "kk"
      have : itemP (.tuple ps) = false := by
        unfold itemP; split
        · rename_i e; cases e; exact absurd rfl h3
        · rfl
      rw [this]
  | _ => walk_at "kk"; rfl
theorem ncs_mem : ∀ {ds : List D}, noCels ds = true → ∀ d ∈ ds, noCel d = true
  | e :: ds, h, d, hd => by
    unfold noCels at h
    rw [Bool.and_eq_true] at h
    rcases List.mem_cons.mp hd with rfl | z
    · exact h.1
    · exact ncs_mem h.2 d z
theorem f_good {S : Sto} {d : D} {p : PyData} (h : Py S d p) (hc : ∀ ds, sqOf S d = some ds → noCels ds = true) (hw : p.weight ≤ 3000) : F__law_good [d] S = .ok (.bl (patP p)) .tr S := by
  unfold F__law_good b__law_good
  walk_at "kk"
  rw [py_ty h]
  unfold patP
  cases er : rowP p with
  | none =>
    rw [v_isi2, row_no er]
    walk_at "kk"
  | some qs =>
    rw [v_isi2, row_yes er]
    walk_at "kk"
    obtain ⟨es, g, h1, h2, h3, h4⟩ := py_sq h (row_is er)
    rw [d_len_sq h1]
    walk_at "kk"
    rw [h4.len]
    rw [show decide ((1 : Int) ≤ ((qs.length : Nat) : Int)) = decide (1 ≤ qs.length) from decide_eq_decide.mpr (by omega)]
    cases c1 : decide (1 ≤ qs.length) with
    | false => walk_at "kk"
    | true =>
      walk_at "kk"
      rw [show decide (((qs.length : Nat) : Int) ≤ 6) = decide (qs.length ≤ 6) from decide_eq_decide.mpr (by omega)]
      cases c2 : decide (qs.length ≤ 6) with
      | false => walk_at "kk"
      | true =>
        walk_at "kk"
        have hl : qs.length ≤ 6 := of_decide_eq_true c2
        rw [lc_flat (S1 := S) (ds := es) (g := g) (c := fun e => match toP S e with | some q => !itemP q | none => true) (f := fun e => e) (by
          rw [v_iter, Fx.v_var]
          show kIter (kVar (some (.val d)) S) = _
          rw [kVar_val, v_iter1, h2]; rfl) h3 (by rw [h4.len]; exact Nat.le_trans hl (by decide)) (fun e he => by
          obtain ⟨q, hq, hp⟩ := h4.mem he
          refine ⟨[.val d, .val e], .tr, rfl, ?_, fun _ => ⟨.tr, rfl, rfl⟩⟩
          walk_at "kk"
          rw [f_good_item hp (ncs_mem (hc es h1) e he)]
          walk_at "kk"
          rw [show toP S e = some q from hp])]
        walk_at "kk"
        have key : ∀ (es : List D) (qs : List PyData), PyAll S es qs → (es.filter fun e => match toP S e with | some q => !itemP q | none => true).isEmpty = qs.all itemP := by
          intro es
          induction es with
          | nil => intro qs hq; have := hq.len; cases qs with | nil => rfl | cons => simp at this
          | cons e es ih =>
            intro qs hq
            obtain ⟨q, ps, rfl, hp, h'⟩ := py_unc hq
            rw [List.all_cons, ← ih ps h']
            cases hi : itemP q with
            | true =>
              rw [List.filter_cons_of_neg (by rw [show toP S e = some q from hp]; simp [hi])]; rfl
            | false =>
              rw [List.filter_cons_of_pos (by rw [show toP S e = some q from hp]; simp [hi])]; rfl
        rw [List.map_id', key es qs h4]
structure Itm where
  l : Bool
  ms : List Str
  lo : Int
  hi : Int
def rowD (l : Bool) (ms : List Str) : D := if l then .lst (ms.map D.str) else .tup (ms.map D.str)
def rowQ (l : Bool) (ms : List Str) : PyData := if l then .list (ms.map PyData.str) else .tuple (ms.map PyData.str)
def Itm.v (i : Itm) : D := .tup [rowD i.l i.ms, .int i.lo, .int i.hi]
def Itm.p (i : Itm) : PyData := .tuple [rowQ i.l i.ms, .int i.lo, .int i.hi]
structure OkI (i : Itm) : Prop where
  ne : i.ms ≠ []
  mks : ∀ z ∈ i.ms, isMark z = true
  nd : i.ms.Nodup
  len : i.ms.length ≤ 5
  b1 : 1 ≤ i.lo
  b2 : i.lo ≤ i.hi
  b3 : i.hi ≤ 30
theorem py_row (S : Sto) (l : Bool) (ms : List Str) : Py S (rowD l ms) (rowQ l ms) := by
  cases l with
  | true => exact py_lst (py_strs S ms)
  | false => exact py_tup (py_strs S ms)
theorem py_itm (S : Sto) (i : Itm) : Py S i.v i.p := py_tup (.cons (py_row S _ _) (.cons (py_int S _) (.cons (py_int S _) .nil)))
theorem py_itms (S : Sto) : ∀ its : List Itm, PyAll S (its.map Itm.v) (its.map Itm.p)
  | [] => .nil
  | i :: its => .cons (py_itm S i) (py_itms S its)
theorem row_q (l : Bool) (ms : List Str) : rowP (rowQ l ms) = some (ms.map PyData.str) := by cases l <;> rfl
theorem strs_map (ms : List Str) : (ms.map PyData.str).map strP = ms := by
  rw [List.map_map]
  exact List.map_id' ms
theorem marks_q (ms : List Str) : marksP (ms.map PyData.str) = (!ms.isEmpty && (ms.all isMark && decide ms.Nodup)) := by
  unfold marksP
  rw [strs_map, List.all_map, List.isEmpty_map]
  rfl
theorem item_row (l : Bool) (ms : List Str) (a b : PyData) : itemP (.tuple [rowQ l ms, a, b]) = ((!ms.isEmpty && (ms.all isMark && decide ms.Nodup)) && (intP a 1 30 && intP b (atLeast a) 30)) := by
  show ((match rowP (rowQ l ms) with | some ps => marksP ps | none => false) && _) = _
  rw [row_q, ← marks_q]
theorem item_ok {i : Itm} (h : OkI i) : itemP i.p = true := by
  unfold Itm.p
  rw [item_row]
  have h1 : i.ms.all isMark = true := List.all_eq_true.mpr h.mks
  have h2 : intP (.int i.lo) 1 30 = true := by
    show (decide (1 ≤ i.lo) && decide (i.lo ≤ 30)) = true
    have := h.b1; have := h.b2; have := h.b3
    rw [decide_eq_true (by omega), decide_eq_true (by omega)]; rfl
  have h3 : intP (.int i.hi) (atLeast (.int i.lo)) 30 = true := by
    show (decide (i.lo ≤ i.hi) && decide (i.hi ≤ 30)) = true
    rw [decide_eq_true h.b2, decide_eq_true h.b3]; rfl
  rw [h1, h2, h3, decide_eq_true h.nd, show i.ms.isEmpty = false by cases e : i.ms <;> first | exact absurd e h.ne | rfl]; rfl
theorem wt_strs : ∀ {ms : List Str}, (∀ z ∈ ms, isMark z = true) → PyData.weightAll (ms.map PyData.str) ≤ 4 * ms.length
  | [], _ => by rw [List.map_nil, wt_nil]; omega
  | m :: ms, h => by
    have ih := wt_strs fun u hu => h u (List.mem_cons_of_mem _ hu)
    have := mark_len (h m List.mem_cons_self)
    rw [List.map_cons, wt_cons, wt_str, List.length_cons]; omega
theorem wt_rowQ (l : Bool) (ms : List Str) : (rowQ l ms).weight = PyData.weightAll (ms.map PyData.str) := by cases l <;> first | exact wt_tup _ | exact wt_list _
theorem wt_lt {i : Int} {b : Nat} (h1 : -(2 ^ b) < i) (h2 : i < 2 ^ b) : (PyData.int i).weight ≤ b := by
  rw [PyData.weight]
  have hn : i.natAbs < 2 ^ b := by
    have : ((2 ^ b : Nat) : Int) = 2 ^ b := by simp
    omega
  split
  · omega
  · rename_i h
    have h0 : i.natAbs ≠ 0 := fun z => h (by simpa using z)
    exact (Nat.log2_lt h0).mpr hn
theorem wt_itm {i : Itm} (h : OkI i) : i.p.weight ≤ 40 := by
  unfold Itm.p
  have h1 := wt_strs h.mks
  have h2 := h.len
  have h3 : (PyData.int i.lo).weight ≤ 5 := wt_lt (by have := h.b1; omega) (by have := h.b2; have := h.b3; omega)
  have h4 : (PyData.int i.hi).weight ≤ 5 := wt_lt (by have := h.b1; have := h.b2; omega) (by have := h.b3; omega)
  rw [wt_tup, wt_cons, wt_cons, wt_cons, wt_nil, wt_rowQ]
  omega
theorem wt_itms : ∀ {its : List Itm}, (∀ i ∈ its, OkI i) → PyData.weightAll (its.map Itm.p) ≤ 41 * its.length
  | [], _ => by rw [List.map_nil, wt_nil]; omega
  | i :: its, h => by
    have ih := wt_itms fun u hu => h u (List.mem_cons_of_mem _ hu)
    have := wt_itm (h i List.mem_cons_self)
    rw [List.map_cons, wt_cons, List.length_cons]; omega
theorem nc_strs : ∀ ms : List Str, noCels (ms.map D.str) = true
  | [] => rfl
  | m :: ms => by
    have := nc_strs ms
    simp only [List.map_cons, noCels, noCel, this, Bool.and_self]
theorem nc_row (l : Bool) (ms : List Str) : noCel (rowD l ms) = true := by
  cases l <;> (show noCels _ = true; exact nc_strs ms)
theorem nc_itm (i : Itm) : noCel i.v = true := by
  show noCels [rowD i.l i.ms, .int i.lo, .int i.hi] = true
  simp only [noCels, nc_row]; rfl
theorem nc_itms : ∀ its : List Itm, noCels (its.map Itm.v) = true
  | [] => rfl
  | i :: its => by
    have := nc_itms its
    simp only [List.map_cons, noCels, nc_itm, this, Bool.and_self]
theorem pat_its {its : List Itm} (h : ∀ i ∈ its, OkI i) (h1 : 1 ≤ its.length) (h2 : its.length ≤ 6) : patP (.list (its.map Itm.p)) = true ∧ patP (.tuple (its.map Itm.p)) = true := by
  have key : (decide (1 ≤ (its.map Itm.p).length) && (decide ((its.map Itm.p).length ≤ 6) && (its.map Itm.p).all itemP)) = true := by
    rw [List.length_map, decide_eq_true h1, decide_eq_true h2, List.all_map]
    exact List.all_eq_true.mpr fun i hi => item_ok (h i hi)
  exact ⟨key, key⟩
def isOf (i : Itm) (z : Str) (n : Int) : Bool := decide (z ∈ i.ms) && (decide (i.lo ≤ n) && decide (n ≤ i.hi))
theorem d_in_row {S : Sto} {z : Str} {l : Bool} {ms : List Str} : dIn false (.str z) (rowD l ms) S = .ok (.bl (decide (z ∈ ms))) .tr S := by
  cases l with
  | true => exact d_in_strs
  | false => exact d_in_strsT
theorem v_gt3 {a b c : D} {g : FGs} {ρ : Ev} {S : Sto} : gT 3 g (.tup [a, b, c]) ρ S = g [a, b, c] ρ S := rfl
theorem v_gt3l {a b c : D} {g : FGs} {ρ : Ev} {S : Sto} : gT 3 g (.lst [a, b, c]) ρ S = g [a, b, c] ρ S := rfl
local macro_rules | `(tactic| walk_at "kk") => `(tactic| simp -implicitDefEqProofs only [v_lenD, v_gt3, v_gt3l, Fx.v_slT, Fx.v_slT0, Fx.v_slT1, Fx.v_slT2, Fx.d_slT, Fx.d_slTl, Fx.d_addTi, Fx.d_addTs, Fx.d_addTl, Fx.v_dnewC, Fx.v_zipC, Fx.d_ixl0, Fx.d_ixl1, Fx.d_ixl2, Fx.d_ixt0, Fx.d_ixt1, Fx.d_lst0, Fx.d_lst1, Fx.d_lst2, Fx.d_tup0, Fx.d_tup1, Fx.d_tup2, Fx.d_int_int, Fx.d_neg, Fx.v_gt2, Fx.v_gt1, Fx.v_callT, Fx.v_propT, Fx.v_sup, Fx.v_asgNS, Fx.v_appX, Fx.d_strX_str, Fx.d_sum, Fx.v_isiX, Fx.v_binO, Fx.v_binO1, Fx.v_inO, Fx.v_inO1, Fx.v_inO3, Fx.v_eqO, Fx.v_eqO1, Fx.v_eqO3, Fx.v_eqX, Fx.v_eqX1, Fx.v_neO, Fx.v_neO1, Fx.v_neO3, Fx.v_augD, Fx.v_augD0, Fx.v_augD1, Fx.v_augD2, Fx.v_idxL, Fx.v_idxL1, Fx.v_idxL2, Fx.v_raise0, Fx.v_fld, Fx.v_setF, Fx.v_meth, Fx.v_methA, Fx.v_sp1, Fx.v_mk, Fx.v_mkK, Fx.v_mkK1, Fx.v_cmeth, Fx.v_runI1, Fx.v_runIx, Fx.v_fmt, Fx.v_js0, Fx.v_js, Fx.v_lrg, Fx.v_lrg1, Fx.v_callK, Fx.v_callK1, Fx.bE_ok, Fx.bE_xc, Fx.bS_nx, Fx.bS_rt, Fx.bS_bk, Fx.bS_ct, Fx.bS_xc, Fx.eS_ok, Fx.eS_xc, Fx.v_seq, Fx.v_next, Fx.v_break, Fx.v_cont, Fx.v_c, Fx.v_var, Fx.kVar_val, Fx.kVar_own, Fx.kVar_oob, Fx.v_op, Fx.v_op1, Fx.v_op2, Fx.v_un, Fx.v_un1, Fx.v_not, Fx.v_not1, Fx.v_and, Fx.v_andT, Fx.v_andF, Fx.v_or, Fx.v_orT, Fx.v_orF, Fx.v_if, Fx.v_ifT, Fx.v_ifF, Fx.v_chain, Fx.v_ch, Fx.v_ch0, Fx.v_ch1T, Fx.v_ch1F, Fx.v_ch2, Fx.v_isi, Fx.v_isiT, Fx.v_isi1, Fx.v_isi2, Fx.ty_non, Fx.ty_bl, Fx.ty_int, Fx.ty_str, Fx.ty_lst, Fx.ty_tup, Fx.ty_dct, Fx.v_cb, Fx.bA_ok, Fx.bA_xc, Fx.v_nil, Fx.v_cons, Fx.v_cons1, Fx.v_cons1x, Fx.v_cons2, Fx.v_cons2x, Fx.nop_tr, Fx.nop_fs, Fx.nop_pk, Fx.v_lst, Fx.v_tup, Fx.v_dnew, Fx.v_call, Fx.v_call1, Fx.v_m1, Fx.v_m1a, Fx.v_m1b, Fx.v_part, Fx.v_part1, Fx.v_nopart, Fx.v_sl, Fx.v_sl0, Fx.v_sl1, Fx.v_sl2, Fx.bO_ok, Fx.v_rev, Fx.v_expr, Fx.v_expr1, Fx.v_ifs, Fx.v_ifsT, Fx.v_ifsF, Fx.v_ret, Fx.v_retT, Fx.v_retS, Fx.v_retN, Fx.v_retV, Fx.v_retV1, Fx.v_retV2, Fx.v_asg, Fx.v_asgT, Fx.v_asgS, Fx.v_asg2, Fx.v_gn, Fx.v_gsNil, Fx.v_gsCons, Fx.v_gs, Fx.v_par, Fx.v_par1, Fx.v_aug, Fx.v_aug1, Fx.v_aug2, Fx.v_own, Fx.v_own1, Fx.v_frz, Fx.v_frz0, Fx.v_frz1, Fx.v_frz2, Fx.v_frz3, Fx.v_app, Fx.v_ado, Fx.v_ado1, Fx.v_xf, Fx.v_set, Fx.v_for, Fx.v_for1, Fx.v_forx, Fx.v_iter, Fx.v_iter1, Fx.v_iter1s, Fx.v_iter2, Fx.it_str, Fx.it_lst, Fx.it_tup, Fx.v_rng1, Fx.v_enum, Fx.v_enumL, Fx.v_enumT, Fx.v_raise, Fx.v_raise1, Fx.v_try, Fx.v_tryN, Fx.v_tryX, Fx.v_run1, Fx.v_run2, Fx.v_run3, Fx.v_r0, Fx.v_r1, Fx.v_r2, Fx.v_r3, Fx.v_r4, Fx.v_r5, Fx.v_nx, Fx.v_nx1, Fx.d_eq_str, Fx.d_eq_int, Fx.d_add_int, Fx.d_sub, Fx.d_cmp, Fx.d_len_lst, Fx.d_len_tup, Fx.d_len_fro, Fx.d_nil, Fx.d_max, Fx.d_min, Fx.d_sl_lst, Fx.d_list, Fx.d_listT, Fx.d_tuple, Fx.d_isN, Fx.d_isB, List.map_cons, List.map_nil, List.length_cons, List.length_nil, List.replicate, List.cons_append, List.nil_append, List.append_nil, List.getElem?_cons_zero, List.getElem?_cons_succ, List.set, Nat.reduceAdd, Nat.reduceSub, Nat.zero_add, if_true, if_false, reduceIte, Bool.not_true, Bool.not_false, Bool.and_true, Bool.true_and, Bool.and_self, Bool.false_xor, Bool.true_xor, Bool.false_eq_true, isT, Fx.tyd_non, Fx.tyd_bl, Fx.tyd_int, Fx.tyd_str, Fx.tyd_lst, Fx.tyd_tup, Fx.tyd_dct, reduceCtorEq, decide_true, decide_false, Bool.or_false, Bool.or_true, Bool.false_or, Bool.true_or, Bool.and_false, Bool.false_and, List.any_cons, List.any_nil])
theorem f_is_of {S : Sto} {i : Itm} {z : Str} {n : Int} : F_is_of [i.v, .str z, .int n] S = .ok (.bl (isOf i z n)) .tr S := by
  unfold F_is_of b_is_of Itm.v isOf
  walk_at "kk"
  rw [d_in_row]
  walk_at "kk"
  cases decide (z ∈ i.ms) with
  | false => walk_at "kk"
  | true =>
    walk_at "kk"
    cases decide (i.lo ≤ n) with
    | false => walk_at "kk"
    | true => walk_at "kk"
def tkOf (x : Itm × Tk) : Bool := isOf x.1 x.2.1 ((x.2.2.length : Nat) : Int)
def hit (ts : List Tk) (its : List Itm) (k : Nat) : Bool := (its.zip (ts.drop k)).all tkOf
def plc (ts : List Tk) (its : List Itm) : List Nat := (List.range (ts.length + 1 - its.length)).filter (hit ts its)
theorem zip_take {α β : Type} : ∀ (l : List α) (m : List β), l.zip (m.take l.length) = l.zip m
  | [], m => by simp
  | a :: l, [] => by simp
  | a :: l, b :: m => by
    rw [List.length_cons, List.take_succ_cons, List.zip_cons_cons, List.zip_cons_cons, zip_take l m]
theorem zipD_two {α β : Type} {e : α → D} {f : β → D} : ∀ (l : List α) (m : List β), zipD (l.map e) (m.map f) = (l.zip m).map fun x => .tup [e x.1, f x.2]
  | [], m => by cases m <;> rfl
  | a :: l, [] => rfl
  | a :: l, b :: m => by
    have := zipD_two (e := e) (f := f) l m
    rw [List.map_cons, List.map_cons, List.zip_cons_cons, List.map_cons, ← this]
    rfl
def IsT (v : D) (ts : List Tk) : Prop := v = .lst (ts.map tokV) ∨ v = .tup (ts.map tokV)
def IsP (v : D) (its : List Itm) : Prop := v = .lst (its.map Itm.v) ∨ v = .tup (its.map Itm.v)
theorem wt_gd {ts : List Tk} (hg : GoodT ts) (hl : ts.length ≤ 1000) : (textD ts).weight ≤ 200000 ∧ (PyData.tuple (ts.map tokD)).weight ≤ 200000 := by
  have h1 : PyData.weightAll (ts.map tokD) ≤ 35 * ts.length := U.wt_good hg.1
  have h2 := wt_text ts
  have h3 : (PyData.tuple (ts.map tokD)).weight = (textD ts).weight := rfl
  omega
theorem IsT.need {v : D} {ts : List Tk} {S : Sto} (h : IsT v ts) (hg : GoodT ts) (hl : ts.length ≤ 1000) : F_need_text [v] S = .ok .non .tr S := by
  have hw := wt_gd hg hl
  rcases h with rfl | rfl
  · rw [f_need_text (py_text S ts) hw.1, if_pos (show isTextD (textD ts) = true from (good_list ts).mpr hg)]
  · rw [f_need_text (py_textT S ts) hw.2, if_pos ((good_tuple ts).mpr hg)]
theorem IsP.need {v : D} {its : List Itm} {S : Sto} (h : IsP v its) (hg : ∀ i ∈ its, OkI i) (h1 : 1 ≤ its.length) (h2 : its.length ≤ 6) : F_need_pattern [v] S = .ok .non .tr S := by
  have hw := wt_itms hg
  have hp := pat_its hg h1 h2
  rcases h with rfl | rfl
  · rw [f_need_pattern (py_lst (py_itms S its)) (by rw [wt_list]; omega), if_pos hp.1]
  · rw [f_need_pattern (py_tup (py_itms S its)) (by rw [wt_tup]; omega), if_pos hp.2]
theorem nc_toks : ∀ us : List Tk, noCels (us.map tokV) = true
  | [] => rfl
  | u :: us => by rw [List.map_cons]; unfold noCels; rw [nc_toks us]; rfl
theorem IsT.nc {v : D} {ts : List Tk} (h : IsT v ts) : noCel v = true := by
  rcases h with rfl | rfl <;> exact nc_toks ts
theorem IsP.nc {v : D} {its : List Itm} (h : IsP v its) : noCel v = true := by
  rcases h with rfl | rfl <;> exact nc_itms its
theorem IsT.len {v : D} {ts : List Tk} {S : Sto} {t : Bool} (h : IsT v ts) : dLen [v] t S = .ok (.int ((ts.length : Nat) : Int)) .tr S := by
  rcases h with rfl | rfl
  · rw [d_len_lst, List.length_map]
  · rw [d_len_tup, List.length_map]
theorem IsP.len {v : D} {its : List Itm} {S : Sto} {t : Bool} (h : IsP v its) : dLen [v] t S = .ok (.int ((its.length : Nat) : Int)) .tr S := by
  rcases h with rfl | rfl
  · rw [d_len_lst, List.length_map]
  · rw [d_len_tup, List.length_map]
theorem IsT.cut {v : D} {ts : List Tk} {S : Sto} (h : IsT v ts) (a b : Nat) : ∃ w f, dSlT v (some ((a : Nat) : Int)) (some ((b : Nat) : Int)) S = .ok w f S ∧ f.nop = true ∧ IsT w ((ts.drop a).take (b - a)) := by
  rcases h with rfl | rfl
  · refine ⟨_, _, d_slTl, rfl, .inl ?_⟩
    rw [cutD_mid, List.map_take, List.map_drop]
  · refine ⟨_, _, d_slT, rfl, .inr ?_⟩
    rw [cutD_mid, List.map_take, List.map_drop]
theorem zip_pt {S : Sto} {v w : D} {its : List Itm} {ts : List Tk} (h : IsP v its) (g : IsT w ts) : kZip1 (.ok [v, w] true S) = .ok ((its.zip ts).map fun x => .tup [x.1.v, tokV x.2]) none S := by
  rw [← zipD_two]
  rcases h with rfl | rfl <;> rcases g with rfl | rfl <;> rfl
noncomputable abbrev ppT : FE := fCB dAll (fCons (fLc (fZipC (fCons (fVar 1) (fCons (fVar 3) (fNil)))) (gT 2 (gsCons (gN 4) (gsCons (gT 2 (gsCons (gN 5) (gsCons (gN 6) (gsNil)))) (gsNil)))) (fC (.bl true)) (fCall F_is_of [] (fCons (fVar 4) (fCons (fVar 5) (fCons (fCB dLen (fCons (fVar 6) (fNil))) (fNil))))) [4, 5, 6]) (fNil))
noncomputable abbrev ppB : GnF := gSeq (gPl (sAsg (fSlT (fVar 0) (fPart (fVar 2)) (fPart (fOp dAddT (fVar 2) (fCB dLen (fCons (fVar 1) (fNil)))))) (gN 3))) (gSeq (gIf ppT (gSeq (gYd (fVar 2)) (Fx.gNil)) (Fx.gNil)) (Fx.gNil))
theorem pp_test {S : Sto} {v p w : D} {its : List Itm} {us : List Tk} (hp : IsP p its) (hw : IsT w us) (hl : its.length ≤ 6) (hg : ∀ t ∈ us, t.2.length ≤ 30) {d : D} : ppT [.val v, .val p, .val d, .val w, .no, .no, .no] S = .ok (.bl ((its.zip us).all tkOf)) .tr S := by
  unfold ppT
  walk_at "kk"
  rw [lc_mapE (S1 := S) (l := its.zip us) (e := fun x => .tup [x.1.v, tokV x.2]) (g := none) (f := fun x => .bl (tkOf x)) (by
    rw [v_zipC, v_cons, Fx.v_var]
    show kZip1 (kCons1 _ _ (kVar (some (.val p)) S)) = _
    walk_at "kk"
    exact zip_pt hp hw) trivial (by rw [List.length_zip]; exact Nat.le_trans (Nat.min_le_left _ _) (Nat.le_trans hl (by decide))) (fun x hx => by
    obtain ⟨i, t⟩ := x
    have ht := List.of_mem_zip hx
    refine ⟨[.val v, .val p, .val d, .val w, .val i.v, .val (.str t.1), .val (.str t.2)], .tr, ?_, ?_, rfl⟩
    · rfl
    · walk_at "kk"
      rw [d_len_str (lim_of (Nat.le_trans (hg t ht.2) (by decide)))]
      walk_at "kk"
      rw [f_is_of]; rfl)]
  walk_at "kk"
  rw [d_all (bools_map tkOf _), List.all_map]
  rfl
theorem pp_loop {v p : D} {ts : List Tk} {its : List Itm} (hv : IsT v ts) (hp : IsP p its) (hl : its.length ≤ 6) (hg : ∀ t ∈ ts, t.2.length ≤ 30) : ∀ (l : List Nat) (s2 s3 : Sl), (s2 = .no ∨ ∃ d, s2 = .val d) → (s3 = .no ∨ ∃ d, s3 = .val d) → ∃ s2' s3', loopG (gN 2) ppB (l.map fun k => .int ((k : Nat) : Int)) [.val v, .val p, s2, s3, .no, .no, .no] = ((l.filter (hit ts its)).map (fun k => (.int ((k : Nat) : Int), false)), .nx [.val v, .val p, s2', s3', .no, .no, .no])
  | [], s2, s3, _, _ => ⟨s2, s3, rfl⟩
  | k :: l, s2, s3, h2, h3 => by
    obtain ⟨w, f, ew, hf, hw⟩ := hv.cut (S := []) k (k + its.length)
    rw [Nat.add_sub_cancel_left] at hw
    have e1 : gPl (sAsg (fSlT (fVar 0) (fPart (fVar 2)) (fPart (fOp dAddT (fVar 2) (fCB dLen (fCons (fVar 1) (fNil)))))) (gN 3)) [.val v, .val p, .val (.int ((k : Nat) : Int)), s3, .no, .no, .no] = ([], .nx [.val v, .val p, .val (.int ((k : Nat) : Int)), .val w, .no, .no, .no]) := by
      unfold gPl
      walk_at "kk"
      rw [hp.len]
      walk_at "kk"
      rw [show ((k : Nat) : Int) + ((its.length : Nat) : Int) = (((k + its.length : Nat) : Nat) : Int) by omega, ew]
      walk_at "kk"
      rw [v_asgN hf]
      rfl
    have e2 := pp_test (S := []) (v := v) (d := .int ((k : Nat) : Int)) hp hw hl (fun t ht => hg t (List.mem_of_mem_drop (List.mem_of_mem_take ht)))
    rw [zip_take] at e2
    obtain ⟨s2', s3', ih⟩ := pp_loop hv hp hl hg l (.val (.int ((k : Nat) : Int))) (.val w) (.inr ⟨_, rfl⟩) (.inr ⟨_, rfl⟩)
    refine ⟨s2', s3', ?_⟩
    have eb : ppB [.val v, .val p, .val (.int ((k : Nat) : Int)), s3, .no, .no, .no] = ((if hit ts its k = true then [(.int ((k : Nat) : Int), false)] else []), .nx [.val v, .val p, .val (.int ((k : Nat) : Int)), .val w, .no, .no, .no]) := by
      unfold ppB
      rw [show ∀ g h : GnF, gSeq g h [.val v, .val p, .val (.int ((k : Nat) : Int)), s3, .no, .no, .no] = (match g [.val v, .val p, .val (.int ((k : Nat) : Int)), s3, .no, .no, .no] with | (ys, .nx ρ') => (ys ++ (h ρ').1, (h ρ').2) | r => r) from fun _ _ => rfl, e1]
      dsimp only
      unfold gSeq gIf
      rw [e2]
      show (_ ++ _, _) = _
      cases hh : hit ts its k with
      | true =>
        rw [show (its.zip (ts.drop k)).all tkOf = true from hh]
        rfl
      | false =>
        rw [show (its.zip (ts.drop k)).all tkOf = false from hh]
        rfl
    rw [List.map_cons]
    conv => lhs; unfold loopG
    rw [show gN 2 (.int ((k : Nat) : Int)) [.val v, .val p, s2, s3, .no, .no, .no] [] = some [.val v, .val p, .val (.int ((k : Nat) : Int)), s3, .no, .no, .no] from rfl]
    dsimp only
    rw [eb]
    dsimp only
    rw [ih]
    cases hh : hit ts its k with
    | true => rw [List.filter_cons_of_pos hh]; rfl
    | false => rw [List.filter_cons_of_neg (by rw [hh]; decide)]; rfl
theorem rng0 (n : Nat) : rngD 0 n = (List.range n).map fun k => .int ((k : Nat) : Int) := by
  unfold rngD
  exact List.map_congr_left fun k _ => by rw [Int.zero_add]
theorem good_len {ts : List Tk} (hg : GoodT ts) : ∀ t ∈ ts, t.2.length ≤ 30 := fun t ht => (word_len (hg.1 t ht).2).2
theorem f_places {v p : D} {ts : List Tk} {its : List Itm} (hv : IsT v ts) (hp : IsP p its) (hg : GoodT ts) (ho : ∀ i ∈ its, OkI i) (hl : ts.length ≤ 1000) (h1 : 1 ≤ its.length) (h2 : its.length ≤ 6) : F_pattern_places [v, p] = .ok ((plc ts its).map fun k => (.int ((k : Nat) : Int), false)) := by
  unfold F_pattern_places runG
  rw [if_pos (show [v, p].length = 2 from rfl)]
  show (match b_pattern_places [.val v, .val p, .no, .no, .no, .no, .no] with | .go ys (.nx _) => _ | .xc c fs => _ | _ => _) = _
  have e1 : sExpr (fCall F_need_text [] (fCons (fVar 0) (fNil))) [.val v, .val p, .no, .no, .no, .no, .no] [] = .nx [.val v, .val p, .no, .no, .no, .no, .no] [] := by
    walk_at "ex"
    rw [hv.need hg hl]
    walk_at "ex"
  have e2 : sExpr (fCall F_need_pattern [] (fCons (fVar 1) (fNil))) [.val v, .val p, .no, .no, .no, .no, .no] [] = .nx [.val v, .val p, .no, .no, .no, .no, .no] [] := by
    walk_at "ex"
    rw [hp.need ho h1 h2]
    walk_at "ex"
  have e3 : fRng1 (fCons (fOp dSub (fOp dAddT (fCB dLen (fCons (fVar 0) (fNil))) (fC (.int 1))) (fCB dLen (fCons (fVar 1) (fNil)))) (fNil)) [.val v, .val p, .no, .no, .no, .no, .no] [] = .ok ((List.range (ts.length + 1 - its.length)).map fun k => .int ((k : Nat) : Int)) none [] := by
    walk_at "ex"
    rw [hv.len]
    walk_at "ex"
    rw [hp.len]
    walk_at "ex"
    rw [v_rng1a (by omega) (by omega), ← rng0]
    rw [show (((ts.length : Nat) : Int) + 1 - ((its.length : Nat) : Int)).toNat = ts.length + 1 - its.length by omega]
  obtain ⟨s2, s3, e4⟩ := pp_loop hv hp h2 (good_len hg) (List.range (ts.length + 1 - its.length)) .no .no (.inl rfl) (.inl rfl)
  unfold b_pattern_places gbCons
  rw [e1]
  dsimp only
  rw [e2]
  dsimp only
  unfold gbFor
  rw [e3]
  dsimp only
  rw [e4]
  rfl
section
variable {S : Sto}
noncomputable abbrev duG : FG := gT 2 (gsCons (gN 5) (gsCons (gT 3 (gsCons (gN 6) (gsCons (gN 7) (gsCons (gN 8) (gsNil))))) (gsNil)))
noncomputable abbrev duB : FS := sSeq (sAsg (fOp dIx (fVar 0) (fOp dAdd (fVar 3) (fVar 5))) (gT 2 (gsCons (gN 9) (gsCons (gN 10) (gsNil))))) (sAsg (fAnd (fVar 4) (fAnd (fOp (dIn false) (fVar 9) (fVar 6)) (fChain dLe dLe (fVar 7) (fCB dLen (fCons (fVar 10) (fNil))) (fVar 8)))) (gN 4))
theorem du_body {ts : List Tk} {P F : D} {x n : Nat} {b : Bool} {i : Itm} {t : Tk} (ht : ts[x + n]? = some t) (hl : t.2.length ≤ 30) {s9 s10 : Sl} :
    duB [.val (.lst (ts.map tokV)), .val P, .val F, .val (.int ((x : Nat) : Int)), .val (.bl b), .val (.int ((n : Nat) : Int)), .val (rowD i.l i.ms), .val (.int i.lo), .val (.int i.hi), s9, s10] S = .nx [.val (.lst (ts.map tokV)), .val P, .val F, .val (.int ((x : Nat) : Int)), .val (.bl (b && tkOf (i, t))), .val (.int ((n : Nat) : Int)), .val (rowD i.l i.ms), .val (.int i.lo), .val (.int i.hi), .val (.str t.1), .val (.str t.2)] S := by
  have e0 : dIx (.lst (ts.map tokV)) (.int (((x : Nat) : Int) + ((n : Nat) : Int))) S = .ok (tokV t) .tr S := by
    refine d_ix_lst ?_
    rw [show ((x : Nat) : Int) + ((n : Nat) : Int) = ((x + n : Nat) : Int) by omega]
    exact pick_at (by rw [List.getElem?_map, ht]; rfl)
  generalize ts.map tokV = T at e0 ⊢
  unfold duB
  walk_at "kk"
  rw [e0]
  unfold tokV
  walk_at "kk"
  rw [show tkOf (i, t) = (decide (t.1 ∈ i.ms) && (decide (i.lo ≤ ((t.2.length : Nat) : Int)) && decide (((t.2.length : Nat) : Int) ≤ i.hi))) from rfl]
  cases b with
  | false => walk_at "kk"
  | true =>
    walk_at "kk"
    rw [d_in_row]
    walk_at "kk"
    cases decide (t.1 ∈ i.ms) with
    | false => walk_at "kk"
    | true =>
      walk_at "kk"
      rw [d_len_str (lim_of (Nat.le_trans hl (by decide)))]
      walk_at "kk"
      cases decide (i.lo ≤ ((t.2.length : Nat) : Int)) with
      | false => walk_at "kk"
      | true => walk_at "kk"
theorem du_in {ts : List Tk} {P F : D} {x : Nat} (hg : ∀ t ∈ ts, t.2.length ≤ 30) : ∀ (its : List Itm) (n : Nat) (b : Bool) (s5 s6 s7 s8 s9 s10 : Sl), x + n + its.length ≤ ts.length →
    ∃ t5 t6 t7 t8 t9 t10, loopS none duG duB (enF n (its.map Itm.v)) [.val (.lst (ts.map tokV)), .val P, .val F, .val (.int ((x : Nat) : Int)), .val (.bl b), s5, s6, s7, s8, s9, s10] S = .nx [.val (.lst (ts.map tokV)), .val P, .val F, .val (.int ((x : Nat) : Int)), .val (.bl (b && (its.zip (ts.drop (x + n))).all tkOf)), t5, t6, t7, t8, t9, t10] S
  | [], n, b, s5, s6, s7, s8, s9, s10, _ => ⟨s5, s6, s7, s8, s9, s10, by
    rw [show enF n (([] : List Itm).map Itm.v) = [] from rfl, loop_end (g := none) trivial]
    simp⟩
  | i :: its, n, b, s5, s6, s7, s8, s9, s10, hl => by
    rw [List.length_cons] at hl
    have hx : x + n < ts.length := by omega
    obtain ⟨t5, t6, t7, t8, t9, t10, ih⟩ := du_in (P := P) (F := F) (x := x) hg its (n + 1) (b && tkOf (i, ts[x + n])) (.val (.int ((n : Nat) : Int))) (.val (rowD i.l i.ms)) (.val (.int i.lo)) (.val (.int i.hi)) (.val (.str ts[x + n].1)) (.val (.str ts[x + n].2)) (by omega)
    refine ⟨t5, t6, t7, t8, t9, t10, ?_⟩
    rw [show enF n ((i :: its).map Itm.v) = .tup [.int ((n : Nat) : Int), i.v] :: enF (n + 1) (its.map Itm.v) from rfl]
    have hb := du_body (S := S) (P := P) (F := F) (b := b) (i := i) (List.getElem?_eq_getElem hx) (hg _ (List.getElem_mem hx)) (s9 := s9) (s10 := s10)
    rw [loop_step (g := none) (S2 := S) (ρ1 := [.val (.lst (ts.map tokV)), .val P, .val F, .val (.int ((x : Nat) : Int)), .val (.bl b), .val (.int ((n : Nat) : Int)), .val (rowD i.l i.ms), .val (.int i.lo), .val (.int i.hi), s9, s10]) trivial rfl hb, ih]
    rw [List.drop_eq_getElem_cons hx, List.zip_cons_cons, List.all_cons, ← Bool.and_assoc]
    rfl
def fnd (ts : List Tk) (its : List Itm) (l : List Nat) : List D := (l.filter (hit ts its)).map fun k => .int ((k : Nat) : Int)
noncomputable abbrev duO : FS := sSeq (sAsg (fC (.bl true)) (gN 4)) (sSeq (sFor (fEnum (fCons (fVar 1) (fNil))) duG duB) (sAsg (fOp dAdd (fVar 2) (fOp dMul (fLst (fCons (fVar 3) (fNil))) (fCB dInt (fCons (fVar 4) (fNil))))) (gN 2)))
theorem du_out {ts : List Tk} {its : List Itm} (hg : ∀ t ∈ ts, t.2.length ≤ 30) (hlt : ts.length ≤ 1000) : ∀ (l p : List Nat) (s3 s4 s5 s6 s7 s8 s9 s10 : Sl), (∀ x ∈ l, x + its.length ≤ ts.length) → p.length + l.length ≤ 2000 →
    ∃ t3 t4 t5 t6 t7 t8 t9 t10, loopS none (gN 3) duO (l.map fun k => .int ((k : Nat) : Int)) [.val (.lst (ts.map tokV)), .val (.lst (its.map Itm.v)), .val (.lst (fnd ts its p)), s3, s4, s5, s6, s7, s8, s9, s10] S = .nx [.val (.lst (ts.map tokV)), .val (.lst (its.map Itm.v)), .val (.lst (fnd ts its (p ++ l))), t3, t4, t5, t6, t7, t8, t9, t10] S
  | [], p, s3, s4, s5, s6, s7, s8, s9, s10, _, _ => ⟨s3, s4, s5, s6, s7, s8, s9, s10, by rw [List.append_nil, List.map_nil, loop_end (g := none) trivial]⟩
  | x :: l, p, s3, s4, s5, s6, s7, s8, s9, s10, hx, hl => by
    rw [List.length_cons] at hl
    have h0 := hx x List.mem_cons_self
    obtain ⟨t5, t6, t7, t8, t9, t10, ein⟩ := du_in (S := S) (P := .lst (its.map Itm.v)) (F := .lst (fnd ts its p)) (x := x) hg its 0 true s5 s6 s7 s8 s9 s10 (by omega)
    obtain ⟨u3, u4, u5, u6, u7, u8, u9, u10, ih⟩ := du_out (its := its) hg hlt l (p ++ [x]) (.val (.int ((x : Nat) : Int))) (.val (.bl (hit ts its x))) t5 t6 t7 t8 t9 t10 (fun y hy => hx y (List.mem_cons_of_mem _ hy)) (by rw [List.length_append, List.length_singleton]; omega)
    refine ⟨u3, u4, u5, u6, u7, u8, u9, u10, ?_⟩
    have eh : (true && (its.zip (ts.drop (x + 0))).all tkOf) = hit ts its x := by rw [Bool.true_and, Nat.add_zero]; rfl
    rw [eh] at ein
    rw [List.map_cons, loop_step (g := none) (S2 := S) (ρ1 := [.val (.lst (ts.map tokV)), .val (.lst (its.map Itm.v)), .val (.lst (fnd ts its p)), .val (.int ((x : Nat) : Int)), s4, s5, s6, s7, s8, s9, s10]) (ρ2 := [.val (.lst (ts.map tokV)), .val (.lst (its.map Itm.v)), .val (.lst (fnd ts its (p ++ [x]))), .val (.int ((x : Nat) : Int)), .val (.bl (hit ts its x)), t5, t6, t7, t8, t9, t10]) trivial rfl (by
      have en : enumD (its.map Itm.v) = enF 0 (its.map Itm.v) := enumD_enF _
      have hp : fnd ts its (p ++ [x]) = fnd ts its p ++ (if hit ts its x = true then [.int ((x : Nat) : Int)] else []) := by
        unfold fnd
        rw [List.filter_append, List.map_append]
        congr 1
        cases hh : hit ts its x with
        | true => rw [List.filter_cons_of_pos hh]; rfl
        | false => rw [List.filter_cons_of_neg (by rw [hh]; decide)]; rfl
      have hfl : (fnd ts its p).length ≤ p.length := by unfold fnd; rw [List.length_map]; exact List.length_filter_le _ _
      rw [hp]
      generalize its.map Itm.v = P at en ein ⊢
      generalize ts.map tokV = T at ein ⊢
      generalize fnd ts its p = F at ein hfl ⊢
      unfold duO
      walk_at "kk"
      rw [en, ein]
      walk_at "kk"
      cases hit ts its x with
      | true =>
        rw [show dInt [.bl true] true S = .ok (.int 1) .tr S from rfl]
        walk_at "kk"
        rw [d_mul_lst (by decide) (by decide) (by show 1 * 1 ≤ lim; decide)]
        walk_at "kk"
        rw [d_add_lst (by show F.length + 1 ≤ lim; exact Nat.le_trans (show _ ≤ 3000 by omega) (by decide))]
        walk_at "kk"
        rfl
      | false =>
        rw [show dInt [.bl false] true S = .ok (.int 0) .tr S from rfl]
        walk_at "kk"
        rw [d_mul_lst (by decide) (by decide) (by show 1 * 0 ≤ lim; decide)]
        walk_at "kk"
        rw [d_add_lst (by show F.length + 0 ≤ lim; exact Nat.le_trans (show _ ≤ 3000 by omega) (by decide))]
        walk_at "kk"
        rw [show ∀ z : D, (List.replicate (Int.toNat 0) [z]).flatten = [] from fun _ => rfl, List.append_nil]), ih, List.append_assoc]
    rfl
def plD (ts : List Tk) (its : List Itm) : List D := (plc ts its).map fun k => .int ((k : Nat) : Int)
theorem f_due {ts : List Tk} {its : List Itm} (hg : ∀ t ∈ ts, t.2.length ≤ 30) (hl : ts.length ≤ 1000) (h2 : its.length ≤ 6) (h1 : 1 ≤ its.length) : F__law_due [.lst (ts.map tokV), .lst (its.map Itm.v)] S = .ok (.lst (plD ts its)) .tr S := by
  obtain ⟨u3, u4, u5, u6, u7, u8, u9, u10, e⟩ := du_out (S := S) (its := its) hg hl (List.range (ts.length + 1 - its.length)) [] .no .no .no .no .no .no .no .no (fun x hx => by have := List.mem_range.mp hx; omega) (by rw [List.length_range, List.length_nil]; omega)
  rw [List.nil_append] at e
  have lT : (ts.map tokV).length = ts.length := List.length_map _
  have lP : (its.map Itm.v).length = its.length := List.length_map _
  unfold F__law_due b__law_due
  generalize its.map Itm.v = P at e lP ⊢
  generalize ts.map tokV = T at e lT ⊢
  walk_at "kk"
  rw [lT, lP, v_rng1a (by omega) (by omega), rng0, show (((ts.length : Nat) : Int) + 1 - ((its.length : Nat) : Int)).toNat = ts.length + 1 - its.length by omega]
  walk_at "kk"
  rw [show fnd ts its [] = [] from rfl] at e
  rw [e]
  walk_at "kk"
  rfl
noncomputable abbrev tlB : FS := chk 2 (sApp 2 (fVar 3))
theorem tl_loop {a b : D} : ∀ (l : List Nat) (acc : List D) (s3 : Sl), acc.length + l.length ≤ 2000 → ∃ t3, loopS none (gN 3) (sNoX tlB) (l.map fun k => .int ((k : Nat) : Int)) [.val a, .val b, .own acc, s3, .no] S = .nx [.val a, .val b, .own (acc ++ l.map fun k => .int ((k : Nat) : Int)), t3, .no] S
  | [], acc, s3, _ => ⟨s3, by rw [List.map_nil, List.append_nil, loop_end (g := none) trivial]⟩
  | x :: l, acc, s3, h => by
    rw [List.length_cons] at h
    obtain ⟨t3, ih⟩ := tl_loop (a := a) (b := b) l (acc ++ [.int ((x : Nat) : Int)]) (.val (.int ((x : Nat) : Int))) (by rw [List.length_append, List.length_singleton]; omega)
    refine ⟨t3, ?_⟩
    rw [List.map_cons, loop_step (g := none) (S2 := S) (ρ1 := [.val a, .val b, .own acc, .val (.int ((x : Nat) : Int)), .no]) (ρ2 := [.val a, .val b, .own (acc ++ [.int ((x : Nat) : Int)]), .val (.int ((x : Nat) : Int)), .no]) trivial rfl (by
      unfold sNoX tlB
      rw [v_chk rfl]
      walk_at "kk"
      rw [v_app1 (ds := acc) rfl rfl (Nat.lt_of_le_of_lt (show _ ≤ 2000 by omega) (by decide))]
      rfl), ih, List.append_assoc]
    rfl
theorem f_told {v p : D} {ts : List Tk} {its : List Itm} (hv : IsT v ts) (hp : IsP p its) (hg : GoodT ts) (ho : ∀ i ∈ its, OkI i) (hl : ts.length ≤ 1000) (h1 : 1 ≤ its.length) (h2 : its.length ≤ 6) : F__law_told [v, p] S = .ok (.lst (plD ts its)) .fs S := by
  have hpl : (plc ts its).length ≤ 1001 := by
    have : (plc ts its).length ≤ ts.length + 1 - its.length := by unfold plc; exact Nat.le_trans (List.length_filter_le _ _) (by rw [List.length_range]; exact Nat.le_refl _)
    omega
  obtain ⟨t3, e⟩ := tl_loop (S := S) (a := v) (b := p) (plc ts its) [] .no (by rw [List.length_nil]; omega)
  rw [List.nil_append] at e
  unfold F__law_told b__law_told
  walk_at "kk"
  unfold b__law_told_1
  have es : ∀ lp : LpF, sLp2 [1, 2] F_pattern_places Fr_pattern_places (fCons (fVar 0) (fCons (fVar 1) (fNil))) lp [.val v, .val p, .own [], .no, .no] S = lp ((plc ts its).map fun k => (.int ((k : Nat) : Int), false)) [.val v, .val p, .own [], .no, .no] S := fun lp => by
    unfold sLp2
    rw [show fCons (fVar 0) (fCons (fVar 1) fNil) [.val v, .val p, .own [], .no, .no] S = .ok [v, p] true S from rfl]
    dsimp only
    rw [if_pos (show noCels [v, p] = true by simp only [noCels, hv.nc, hp.nc]; rfl), f_places hv hp hg ho hl h1 h2]
    rfl
  walk_at "kk"
  rw [es]
  unfold lpT
  rw [List.map_map]
  rw [show ((plc ts its).map (Prod.fst ∘ fun k => ((.int ((k : Nat) : Int), false) : Yi))) = (plc ts its).map fun k => .int ((k : Nat) : Int) from rfl, e]
  rw [v_tryN]
  unfold b__law_told_2
  walk_at "kk"
  rfl
end
mutual
theorem tree_nc {c c' : Nat → Option PyData} : ∀ (d : D), noCel d = true → tree c d = tree c' d
  | .non, _ => by simp only [tree]
  | .bl _, _ => by simp only [tree]
  | .int _, _ => by simp only [tree]
  | .str _, _ => by simp only [tree]
  | .lst ds, h => by simp only [tree]; rw [treeAll_nc ds (by simpa only [noCel] using h)]
  | .tup ds, h => by simp only [tree]; rw [treeAll_nc ds (by simpa only [noCel] using h)]
  | .fro _ _, _ => by simp only [tree]
  | .dct [], _ => by simp only [tree]
  | .dct (_ :: _), _ => by simp only [tree]
  | .cel k, h => by simp only [noCel] at h; cases h
  | .obj _ _, _ => by simp only [tree]
  | .cls _, _ => by simp only [tree]
theorem treeAll_nc {c c' : Nat → Option PyData} : ∀ (ds : List D), noCels ds = true → treeAll c ds = treeAll c' ds
  | [], _ => by simp only [treeAll]
  | d :: ds, h => by
    simp only [noCels, Bool.and_eq_true] at h
    simp only [treeAll]
    rw [tree_nc d h.1, treeAll_nc ds h.2]
end
theorem py_nc {S S' : Sto} {d : D} {p : PyData} (h : Py S d p) (hn : noCel d = true) : Py S' d p := by
  unfold Py toP at h ⊢
  rw [tree_nc d hn (c' := cells 4 S)]; exact h
section
variable {S : Sto}
theorem lp_text {v o : D} {p : PyData} (hv : Py S v p) (hc : noCel v = true) (hw : p.weight ≤ 200000) (hb : isTextD p = false) (lp : LpF) : sLp2 [1, 2] F_pattern_places Fr_pattern_places (fCons (fVar 0) (fCons (fVar 1) (fNil))) lp [.val v, .val o, .own [], .no, .no] S = .xc 1 [("value", v)] [.val v, .val o, .own [], .no, .no] S := by
  have need : ∀ S', Py S' v p → sExpr (fCall F_need_text [] (fCons (fVar 0) (fNil))) [.val v, .val o, .no, .no, .no, .no, .no] S' = .xc 1 [("value", v)] [.val v, .val o, .no, .no, .no, .no, .no] S' := fun S' hp => by
    walk_at "ex"
    rw [f_need_text hp hw, hb]
    rfl
  unfold sLp2
  rw [show fCons (fVar 0) (fCons (fVar 1) fNil) [.val v, .val o, .own [], .no, .no] S = .ok [v, o] true S from rfl]
  dsimp only
  cases ho : noCels [v, o] with
  | true =>
    rw [if_pos rfl]
    have e : F_pattern_places [v, o] = .xc 1 [("value", v)] := by
      unfold F_pattern_places runG
      rw [if_pos (show [v, o].length = 2 from rfl)]
      show (match b_pattern_places [.val v, .val o, .no, .no, .no, .no, .no] with | .go ys (.nx _) => _ | .xc c fs => _ | _ => _) = _
      unfold b_pattern_places gbCons
      rw [need [] (py_nc hv hc)]
    rw [e]; rfl
  | false =>
    rw [if_neg (by decide)]
    have e : Fr_pattern_places [v, o] S = .xc 1 [("value", v)] S := by
      unfold Fr_pattern_places runF
      rw [if_pos (show [v, o].length = 2 from rfl)]
      show (match br_pattern_places [.val v, .val o, .no, .no, .no, .no, .no] S with | .nx _ S' => _ | .rt d f S' => _ | .xc c fs _ S' => _ | _ => _) = _
      unfold br_pattern_places sSeq
      rw [need S hv]; rfl
    rw [e]; rfl
theorem lp_row {v o : D} {ts : List Tk} {p : PyData} (hv : IsT v ts) (hg : GoodT ts) (hl : ts.length ≤ 1000) (ho : Py S o p) (hw : p.weight ≤ 3000) (hb : patP p = false) (lp : LpF) : sLp2 [1, 2] F_pattern_places Fr_pattern_places (fCons (fVar 0) (fCons (fVar 1) (fNil))) lp [.val v, .val o, .own [], .no, .no] S = .xc 2 [("value", o)] [.val v, .val o, .own [], .no, .no] S := by
  have n1 : ∀ S', sExpr (fCall F_need_text [] (fCons (fVar 0) (fNil))) [.val v, .val o, .no, .no, .no, .no, .no] S' = .nx [.val v, .val o, .no, .no, .no, .no, .no] S' := fun S' => by
    walk_at "ex"
    rw [hv.need hg hl]
    walk_at "ex"
  have n2 : ∀ S', Py S' o p → sExpr (fCall F_need_pattern [] (fCons (fVar 1) (fNil))) [.val v, .val o, .no, .no, .no, .no, .no] S' = .xc 2 [("value", o)] [.val v, .val o, .no, .no, .no, .no, .no] S' := fun S' hp => by
    walk_at "ex"
    rw [f_need_pattern hp hw, hb]
    rfl
  unfold sLp2
  rw [show fCons (fVar 0) (fCons (fVar 1) fNil) [.val v, .val o, .own [], .no, .no] S = .ok [v, o] true S from rfl]
  dsimp only
  cases hn : noCels [v, o] with
  | true =>
    rw [if_pos rfl]
    have hno : noCel o = true := by
      simp only [noCels, Bool.and_eq_true, and_true] at hn
      exact hn.2
    have e : F_pattern_places [v, o] = .xc 2 [("value", o)] := by
      unfold F_pattern_places runG
      rw [if_pos (show [v, o].length = 2 from rfl)]
      show (match b_pattern_places [.val v, .val o, .no, .no, .no, .no, .no] with | .go ys (.nx _) => _ | .xc c fs => _ | _ => _) = _
      unfold b_pattern_places gbCons
      rw [n1 []]
      dsimp only
      rw [n2 [] (py_nc ho hno)]
    rw [e]; rfl
  | false =>
    rw [if_neg (by decide)]
    have e : Fr_pattern_places [v, o] S = .xc 2 [("value", o)] S := by
      unfold Fr_pattern_places runF
      rw [if_pos (show [v, o].length = 2 from rfl)]
      show (match br_pattern_places [.val v, .val o, .no, .no, .no, .no, .no] S with | .nx _ S' => _ | .rt d f S' => _ | .xc c fs _ S' => _ | _ => _) = _
      unfold br_pattern_places sSeq
      rw [n1 S, bS_nx, n2 S ho]; rfl
    rw [e]; rfl
theorem f_told_text {v o : D} {p : PyData} (hv : Py S v p) (hc : noCel v = true) (hw : p.weight ≤ 200000) (hb : isTextD p = false) : F__law_told [v, o] S = .ok (.lst [.str (Str.ofString "text"), v]) .fs S := by
  unfold F__law_told b__law_told
  walk_at "kk"
  unfold b__law_told_1
  walk_at "kk"
  rw [lp_text hv hc hw hb]
  rw [v_tryX, v_handT (ρ2 := [.val v, .val o, .own [.str (Str.ofString "text"), v], .no, .exn 1 [("value", v)]]) (S2 := S) rfl rfl (by
    walk_at "kk"
    rw [v_xf1 (d := v) (by decide +kernel) rfl]
    walk_at "kk"
    rw [d_add_lst (by show 0 + 2 ≤ lim; decide)]
    walk_at "kk") rfl]
  unfold b__law_told_2
  walk_at "kk"
theorem f_told_row {v o : D} {ts : List Tk} {p : PyData} (hv : IsT v ts) (hg : GoodT ts) (hl : ts.length ≤ 1000) (ho : Py S o p) (hw : p.weight ≤ 3000) (hb : patP p = false) : F__law_told [v, o] S = .ok (.lst [.str (Str.ofString "row"), o]) .fs S := by
  unfold F__law_told b__law_told
  walk_at "kk"
  unfold b__law_told_1
  walk_at "kk"
  rw [lp_row hv hg hl ho hw hb]
  rw [v_tryX, v_handF rfl, v_handT (ρ2 := [.val v, .val o, .own [.str (Str.ofString "row"), o], .no, .exn 2 [("value", o)]]) (S2 := S) rfl rfl (by
    walk_at "kk"
    rw [v_xf1 (d := o) (by decide +kernel) rfl]
    walk_at "kk"
    rw [d_add_lst (by show 0 + 2 ≤ lim; decide)]
    walk_at "kk") rfl]
  unfold b__law_told_2
  walk_at "kk"
end
abbrev aS : Str := Str.ofString "a"
theorem mul_facts : ∀ i < 31, 1 ≤ i → isWord (Txt.mul aS ((i : Nat) : Int)) = true ∧ (Txt.mul aS ((i : Nat) : Int)).length = i := by decide +kernel
theorem mul_word {n : Int} (h1 : 1 ≤ n) (h2 : n ≤ 30) : isWord (Txt.mul aS n) = true ∧ (((Txt.mul aS n).length : Nat) : Int) = n := by
  obtain ⟨m, rfl⟩ : ∃ m : Nat, n = (m : Int) := ⟨n.toNat, by omega⟩
  obtain ⟨h3, h4⟩ := mul_facts m (by omega) (by omega)
  exact ⟨h3, by rw [h4]⟩
theorem aS_eq : aS = ⟨#[97]⟩ := by decide +kernel
theorem mul_ok {n : Int} (h1 : 1 ≤ n) (h2 : n ≤ 30) : MulOk aS n := by
  rw [aS_eq]
  refine ⟨?_, fun h2 _ => ?_, fun _ _ => ?_⟩
  · rw [decide_eq_false (by omega), decide_eq_false (by omega)]; rfl
  · have : (2 ^ 63 - 1 : Int) / n ≥ 1 := by
      rw [ge_iff_le, Int.le_ediv_iff_mul_le (by omega)]; omega
    have e : (Str.length ⟨#[97]⟩ : Int) = 1 := rfl
    rw [e]; omega
  · unfold Builtin.Str.tooLong
    have e : Str.length ⟨#[97]⟩ = 1 := rfl
    rw [e]
    have : sizeLine = 16777216 := sizeLine_eq
    simp
    omega
structure GM (ms : List Str) : Prop where
  ne : ms ≠ []
  mks : ∀ z ∈ ms, isMark z = true
  nd : ms.Nodup
noncomputable abbrev mkB : FS := sSeq (sAsg (fCall F__law_mark [] (fCons (fVar 0) (fNil))) (gN 10)) (sAsg (fOp dAdd (fVar 8) (fOp dMul (fLst (fCons (fVar 10) (fNil))) (fCB dInt (fCons (fOp (dIn true) (fVar 10) (fVar 8)) (fNil))))) (gN 8))
theorem GM.snoc {ms : List Str} {z : Str} (h : GM ms) (hz : isMark z = true) (hn : z ∉ ms) : GM (ms ++ [z]) := by
  refine ⟨by simp, fun w hw => ?_, ?_⟩
  · rcases List.mem_append.mp hw with q | q
    · exact h.mks w q
    · rw [List.mem_singleton.mp q]; exact hz
  · rw [List.nodup_append]
    exact ⟨h.nd, by simp, fun a ha b hb e => by rw [List.mem_singleton] at hb; subst hb; subst e; exact hn ha⟩
theorem pt_marks {k n : Nat} {T O m w s1 s3 s4 s11 s12 : Sl} {ms : List Str} {S : Sto} (hb : Box S k n) (hn : n ≤ 800000) (hg : GM ms) (hl : ms.length = 1) {r : Nat} (hr : r ≤ 4) {s9 s10 : Sl} : ∃ ms' t9 t10 S', loopS none (gN 9) mkB (rngD 0 r) [.val (.cel k), T, s1, s3, s4, O, m, w, .val (.lst (ms.map D.str)), s9, s10, s11, s12] S = .nx [.val (.cel k), T, s1, s3, s4, O, m, w, .val (.lst (ms'.map D.str)), t9, t10, s11, s12] S' ∧ GM ms' ∧ ms'.length ≤ 5 ∧ Box S' k (n + 12) ∧ Fk k S S' := by
  obtain ⟨ρ', S', e, ms', t9, t10, rfl, h1, h2, h3, h4⟩ := loop_inv (g := none) (set := gN 9) (ds := rngD 0 r) (body := mkB)
    (fun i ρ S' => ∃ ms' t9 t10, ρ = [.val (.cel k), T, s1, s3, s4, O, m, w, .val (.lst (ms'.map D.str)), t9, t10, s11, s12] ∧ GM ms' ∧ ms'.length ≤ 1 + i ∧ Box S' k (n + 3 * i) ∧ Fk k S S') (fun _ _ _ _ => trivial) (by
      rintro i d ρ S1 hd ⟨ms1, t9, t10, rfl, h1, h2, h3, h4⟩
      have hi := (List.getElem?_eq_some_iff.mp hd).1
      rw [rng_len] at hi
      obtain ⟨z, S2, e2, hz, b2, f2⟩ := f_mark h3 (by omega)
      by_cases hm : z ∈ ms1
      · refine ⟨[.val (.cel k), T, s1, s3, s4, O, m, w, .val (.lst (ms1.map D.str)), .val d, t10, s11, s12], [.val (.cel k), T, s1, s3, s4, O, m, w, .val (.lst (ms1.map D.str)), .val d, .val (.str z), s11, s12], S2, rfl, .inl ?_, ms1, _, _, rfl, h1, by omega, b2.le (by omega), h4.trans f2⟩
        unfold mkB
        walk_at "kk"
        rw [e2]
        walk_at "kk"
        rw [d_nin_strs, decide_eq_true hm]
        walk_at "kk"
        rw [show dInt [.bl false] true S2 = .ok (.int 0) .tr S2 from rfl]
        walk_at "kk"
        rw [d_mul_lst (by decide) (by decide) (by show 1 * 0 ≤ lim; decide)]
        walk_at "kk"
        rw [d_add_lst (by show _ + 0 ≤ lim; rw [List.length_map]; exact Nat.le_trans (show _ ≤ 30 by omega) (by decide))]
        walk_at "kk"
        rw [show ∀ z : D, (List.replicate (Int.toNat 0) [z]).flatten = [] from fun _ => rfl, List.append_nil]
      · refine ⟨[.val (.cel k), T, s1, s3, s4, O, m, w, .val (.lst (ms1.map D.str)), .val d, t10, s11, s12], [.val (.cel k), T, s1, s3, s4, O, m, w, .val (.lst ((ms1 ++ [z]).map D.str)), .val d, .val (.str z), s11, s12], S2, rfl, .inl ?_, ms1 ++ [z], _, _, rfl, h1.snoc hz hm, by rw [List.length_append, List.length_singleton]; omega, b2.le (by omega), h4.trans f2⟩
        unfold mkB
        walk_at "kk"
        rw [e2]
        walk_at "kk"
        rw [d_nin_strs, decide_eq_false hm]
        walk_at "kk"
        rw [show dInt [.bl true] true S2 = .ok (.int 1) .tr S2 from rfl]
        walk_at "kk"
        rw [d_mul_lst (by decide) (by decide) (by show 1 * 1 ≤ lim; decide)]
        walk_at "kk"
        rw [d_add_lst (by show _ + 1 ≤ lim; rw [List.length_map]; exact Nat.le_trans (show _ ≤ 30 by omega) (by decide))]
        walk_at "kk"
        rw [List.map_append]
        rfl) (ρ := [.val (.cel k), T, s1, s3, s4, O, m, w, .val (.lst (ms.map D.str)), s9, s10, s11, s12]) (S := S) ⟨ms, s9, s10, rfl, hg, by omega, hb, Fk.refl _ _⟩
  rw [rng_len] at h2 h3
  exact ⟨ms', t9, t10, S', e, h1, by omega, h3.le (by omega), h4⟩
theorem GM.rot {ms : List Str} (h : GM ms) (j : Nat) : GM (ms.drop j ++ ms.take j) := by
  have hp : (ms.drop j ++ ms.take j).Perm ms := by
    have := List.perm_append_comm (l₁ := ms.drop j) (l₂ := ms.take j)
    rwa [List.take_append_drop] at this
  refine ⟨fun e => ?_, fun z hz => h.mks z (hp.mem_iff.mp hz), hp.nodup_iff.mpr h.nd⟩
  rw [e] at hp
  exact h.ne hp.nil_eq.symm
noncomputable abbrev ptB : FS := sSeq (sAsg (fLst (fCons (fVar 6) (fNil))) (gN 8)) (sSeq (sFor (fRng1 (fCons (fCall F__law_take [] (fCons (fVar 0) (fCons (fC (.int 5)) (fNil)))) (fNil))) (gN 9) mkB) (sSeq (sAsg (fCB dMax (fCons (fC (.int 1)) (fCons (fOp dSub (fCB dLen (fCons (fVar 7) (fNil))) (fCall F__law_take [] (fCons (fVar 0) (fCons (fC (.int 4)) (fNil))))) (fNil)))) (gN 11)) (sSeq (sAsg (fCall F__law_take [] (fCons (fVar 0) (fCons (fCB dLen (fCons (fVar 8) (fNil))) (fNil)))) (gN 12)) (sSeq (sAsg (fOp dAdd (fSl (fVar 8) (fPart (fVar 12)) (fNoPart)) (fSl (fVar 8) (fNoPart) (fPart (fVar 12)))) (gN 8)) (chk 5 (sApp 5 (fTup (fCons (fOp dIx (fLst (fCons (fVar 8) (fCons (fCB dTuple (fCons (fVar 8) (fNil))) (fNil)))) (fCall F__law_take [] (fCons (fVar 0) (fCons (fC (.int 2)) (fNil))))) (fCons (fVar 11) (fCons (fCB dMin (fCons (fC (.int 30)) (fCons (fOp dAdd (fCB dLen (fCons (fVar 7) (fNil))) (fCall F__law_take [] (fCons (fVar 0) (fCons (fC (.int 4)) (fNil))))) (fNil)))) (fNil)))))))))))
theorem pt_body {k n : Nat} {T s2 s3 s4 s8 s9 s10 s11 s12 : Sl} {its : List Itm} {t : Tk} {S : Sto} (hb : Box S k n) (hn : n ≤ 700000) (ht : isMark t.1 = true ∧ isWord t.2 = true) (hl : its.length ≤ 100) : ∃ i t8 t9 t10 t11 t12 S', ptB [.val (.cel k), T, s2, s3, s4, .own (its.map Itm.v), .val (.str t.1), .val (.str t.2), s8, s9, s10, s11, s12] S = .nx [.val (.cel k), T, s2, s3, s4, .own ((its ++ [i]).map Itm.v), .val (.str t.1), .val (.str t.2), t8, t9, t10, t11, t12] S' ∧ OkI i ∧ Box S' k (n + 20) ∧ Fk k S S' := by
  have hwl := word_len ht.2
  obtain ⟨r, S1, e1, r0, r1, b1, f1⟩ := f_take (m := 5) hb (by omega) (by decide) (by decide)
  have g0 : GM [t.1] := ⟨by simp, fun z hz => by rw [List.mem_singleton.mp hz]; exact ht.1, by simp⟩
  obtain ⟨ms, t9, t10, S2, e2, g2, l2, b2, f2⟩ := pt_marks (T := T) (O := .own (its.map Itm.v)) (m := .val (.str t.1)) (w := .val (.str t.2)) (s1 := s2) (s3 := s3) (s4 := s4) (s11 := s11) (s12 := s12) b1 (by omega) g0 rfl (r := r.toNat) (by omega) (s9 := s9) (s10 := s10)
  obtain ⟨a, S3, e3, a0, a1, b3, f3⟩ := f_take (m := 4) b2 (by omega) (by decide) (by decide)
  have hml : 1 ≤ ms.length := List.length_pos_iff.mpr g2.ne
  obtain ⟨j, S4, e4, j0, j1, b4, f4⟩ := f_take (m := ((ms.length : Nat) : Int)) b3 (by omega) (by omega) (by omega)
  obtain ⟨c, S5, e5, c0, c1, b5, f5⟩ := f_take (m := 2) b4 (by omega) (by decide) (by decide)
  obtain ⟨h, S6, e6, h0, h1, b6, f6⟩ := f_take (m := 4) b5 (by omega) (by decide) (by decide)
  have lo_eq : ∃ lo : Int, (if ((t.2.length : Nat) : Int) - a > 1 then ((t.2.length : Nat) : Int) - a else 1) = lo ∧ 1 ≤ lo ∧ lo ≤ ((t.2.length : Nat) : Int) := ⟨_, rfl, by split <;> omega, by split <;> omega⟩
  obtain ⟨lo, elo, q1, q2⟩ := lo_eq
  have hi_eq : ∃ hi : Int, (if ((t.2.length : Nat) : Int) + h < 30 then ((t.2.length : Nat) : Int) + h else 30) = hi ∧ ((t.2.length : Nat) : Int) ≤ hi ∧ hi ≤ 30 := ⟨_, rfl, by split <;> omega, by split <;> omega⟩
  obtain ⟨hi, ehi, q3, q4⟩ := hi_eq
  have hrl : (ms.drop j.toNat ++ ms.take j.toNat).length = ms.length := by
    rw [List.length_append, List.length_drop, List.length_take]; omega
  have hj : j = ((j.toNat : Nat) : Int) := by omega
  have ecut : ∀ M : List D, M = ms.map D.str → Fx.cutD M (some j) none ++ Fx.cutD M none (some j) = (ms.drop j.toNat ++ ms.take j.toNat).map D.str := fun M hM => by
    rw [hM, hj, cutD_from, cutD_upto, List.map_append, List.map_drop, List.map_take]
    rfl
  have ecl : ∀ M : List D, M = ms.map D.str → (Fx.cutD M (some j) none).length + (Fx.cutD M none (some j)).length ≤ lim := fun M hM => by
    rw [← List.length_append, ecut M hM, List.length_map, hrl]
    exact Nat.le_trans l2 (by decide)
  obtain ⟨b, eb⟩ : ∃ b : Bool, ∀ M : List D, dIx (.lst [.lst M, .tup M]) (.int c) S5 = .ok (if b then .lst M else .tup M) .tr S5 := by
    have : c = 0 ∨ c = 1 := by omega
    rcases this with rfl | rfl
    · exact ⟨true, fun M => rfl⟩
    · exact ⟨false, fun M => rfl⟩
  refine ⟨⟨b, ms.drop j.toNat ++ ms.take j.toNat, lo, hi⟩, .val (.lst ((ms.drop j.toNat ++ ms.take j.toNat).map D.str)), t9, t10, .val (.int lo), .val (.int j), S6, ?_, ⟨(g2.rot _).ne, (g2.rot _).mks, (g2.rot _).nd, by rw [hrl]; exact l2, q1, (by show lo ≤ hi; omega), q4⟩, b6.le (by omega), ((((f1.trans f2).trans f3).trans f4).trans f5).trans f6⟩
  have eI : (its ++ [(⟨b, ms.drop j.toNat ++ ms.take j.toNat, lo, hi⟩ : Itm)]).map Itm.v = its.map Itm.v ++ [.tup [if b then .lst ((ms.drop j.toNat ++ ms.take j.toNat).map D.str) else .tup ((ms.drop j.toNat ++ ms.take j.toNat).map D.str), .int lo, .int hi]] := by
    rw [List.map_append]; rfl
  rw [eI]
  have hil : (its.map Itm.v).length ≤ 100 := by rw [List.length_map]; exact hl
  generalize its.map Itm.v = O at e2 hil ⊢
  have hMl : (ms.map D.str).length = ms.length := List.length_map _
  have ecut := ecut _ rfl
  have ecl := ecl _ rfl
  rw [show [t.1].map D.str = [.str t.1] from rfl] at e2
  unfold ptB
  walk_at "kk"
  rw [e1]
  walk_at "kk"
  rw [v_rng1a (by omega) (by omega)]
  walk_at "kk"
  rw [e2]
  generalize ms.map D.str = M at hMl ecut ecl ⊢
  generalize (ms.drop j.toNat ++ ms.take j.toNat).map D.str = N at ecut ⊢
  walk_at "kk"
  rw [d_len_str (lim_of (Nat.le_trans hwl.2 (by decide)))]
  walk_at "kk"
  rw [e3]
  walk_at "kk"
  rw [elo, hMl, e4]
  walk_at "kk"
  rw [d_add_lst ecl, ecut]
  walk_at "kk"
  rw [v_chk rfl]
  walk_at "kk"
  rw [e5]
  walk_at "kk"
  rw [eb]
  walk_at "kk"
  rw [d_len_str (lim_of (Nat.le_trans hwl.2 (by decide)))]
  walk_at "kk"
  rw [e6]
  walk_at "kk"
  rw [ehi]
  rw [d_tup (ds := [_, _, _]) (show 3 ≤ lim by decide)]
  walk_at "kk"
  rw [v_app1 (ds := O) rfl rfl (Nat.lt_of_le_of_lt hil (by decide))]
  rfl
section
variable {S : Sto} {k n : Nat}
def Okt (us : List Tk) : Prop := ∀ t ∈ us, isMark t.1 = true ∧ isWord t.2 = true
theorem pt_loop {T s2 s3 : Sl} {us : List Tk} (hb : Box S k n) (hn : n ≤ 600000) (hu : Okt us) (hl : us.length ≤ 6) (h1 : 1 ≤ us.length) {s4 : Sl} : ∃ (its : List Itm) (t6 t7 t8 t9 t10 t11 t12 : Sl) (S' : Sto), loopS none (gT 2 (gsCons (gN 6) (gsCons (gN 7) (gsNil)))) ptB (us.map tokV) [.val (.cel k), T, s2, s3, s4, .own [], .no, .no, .no, .no, .no, .no, .no] S = .nx [.val (.cel k), T, s2, s3, s4, .own (its.map Itm.v), t6, t7, t8, t9, t10, t11, t12] S' ∧ (∀ i ∈ its, OkI i) ∧ 1 ≤ its.length ∧ its.length ≤ 6 ∧ Box S' k (n + 120) ∧ Fk k S S' := by
  obtain ⟨ρ', S', e, its, t6, t7, t8, t9, t10, t11, t12, rfl, q1, q2, q3, q4⟩ := loop_inv (g := none) (set := gT 2 (gsCons (gN 6) (gsCons (gN 7) (gsNil)))) (ds := us.map tokV) (body := ptB)
    (fun i ρ S' => ∃ (its : List Itm) (t6 t7 t8 t9 t10 t11 t12 : Sl), ρ = [.val (.cel k), T, s2, s3, s4, .own (its.map Itm.v), t6, t7, t8, t9, t10, t11, t12] ∧ (∀ i ∈ its, OkI i) ∧ its.length = i ∧ Box S' k (n + 20 * i) ∧ Fk k S S') (fun _ _ _ _ => trivial) (by
      rintro i d ρ S1 hd ⟨its, t6, t7, t8, t9, t10, t11, t12, rfl, q1, q2, q3, q4⟩
      have hi := (List.getElem?_eq_some_iff.mp hd).1
      rw [List.length_map] at hi
      rw [List.getElem?_map, List.getElem?_eq_getElem hi] at hd
      cases hd
      obtain ⟨j, u8, u9, u10, u11, u12, S2, eb, hj, b2, f2⟩ := pt_body (T := T) (s2 := s2) (s3 := s3) (s4 := s4) (its := its) q3 (by omega) (hu _ (List.getElem_mem hi)) (by omega) (s8 := t8) (s9 := t9) (s10 := t10) (s11 := t11) (s12 := t12)
      refine ⟨_, _, S2, rfl, .inl eb, its ++ [j], _, _, u8, u9, u10, u11, u12, rfl, fun x hx => ?_, by rw [List.length_append, List.length_singleton, q2], b2.le (by omega), q4.trans f2⟩
      rcases List.mem_append.mp hx with z | z
      · exact q1 x z
      · rw [List.mem_singleton.mp z]; exact hj) (ρ := [.val (.cel k), T, s2, s3, s4, .own [], .no, .no, .no, .no, .no, .no, .no]) (S := S) ⟨[], .no, .no, .no, .no, .no, .no, .no, rfl, fun _ h => (nomatch h), rfl, hb, Fk.refl _ _⟩
  rw [List.length_map] at q2 q3
  exact ⟨its, t6, t7, t8, t9, t10, t11, t12, S', e, q1, by omega, by omega, q3.le (by omega), q4⟩
theorem pt_4 {T s2 s3 : Sl} {us : List Tk} (hb : Box S k n) (hn : n ≤ 600000) (hu : Okt us) (hl : us.length ≤ 6) (h1 : 1 ≤ us.length) : ∃ (its : List Itm) (S' : Sto), kNox (kRun (b__law_pattern_4 [.val (.cel k), T, s2, s3, .val (.lst (us.map tokV)), .no, .no, .no, .no, .no, .no, .no, .no] S)) = .ok (.lst (its.map Itm.v)) .fs S' ∧ (∀ i ∈ its, OkI i) ∧ 1 ≤ its.length ∧ its.length ≤ 6 ∧ Box S' k (n + 120) ∧ Fk k S S' := by
  obtain ⟨its, t6, t7, t8, t9, t10, t11, t12, S', e, r⟩ := pt_loop (T := T) (s2 := s2) (s3 := s3) (s4 := .val (.lst (us.map tokV))) hb hn hu hl h1
  refine ⟨its, S', ?_, r⟩
  generalize us.map tokV = U at e ⊢
  unfold b__law_pattern_4
  walk_at "kk"
  unfold b__law_pattern_5
  walk_at "kk"
  rw [e]
  walk_at "kk"
  unfold b__law_pattern_6
  walk_at "kk"
/-- a row of one's own -/
theorem pt_own {T s3 : Sl} {m : Nat} (hb : Box S k n) (hn : n ≤ 600000) (h1 : 1 ≤ m) (h2 : m ≤ 6) {a5 a6 a7 a8 a9 a10 a11 a12 s4 : Sl} : ∃ (us : List Tk) (S' : Sto), fLc (fRng1 (fCons (fVar 2) (fNil))) (gN 9) (fC (.bl true)) (fTup (fCons (fCall F__law_mark [] (fCons (fVar 0) (fNil))) (fCons (fOp dMul (fC (.str "a")) (fOp dAdd (fC (.int 1)) (fCall F__law_take [] (fCons (fVar 0) (fCons (fC (.int 6)) (fNil)))))) (fNil)))) [9] [.val (.cel k), T, .val (.int ((m : Nat) : Int)), s3, s4, a5, a6, a7, a8, a9, a10, a11, a12] S = .ok (.lst (us.map tokV)) .fs S' ∧ Okt us ∧ us.length = m ∧ Box S' k (n + 24) ∧ Fk k S S' := by
  obtain ⟨acc, S2, e2, us, hacc, hz, hlen, b2, f2⟩ := lc_inv (vs := [9]) (it := fRng1 (fCons (fVar 2) (fNil))) (ρ := [.val (.cel k), T, .val (.int ((m : Nat) : Int)), s3, s4, a5, a6, a7, a8, a9, a10, a11, a12]) (S := S) (S1 := S) (g := none) (ds := rngD 0 m)
    (step := step1 (gN 9) (fC (.bl true)) (fTup (fCons (fCall F__law_mark [] (fCons (fVar 0) (fNil))) (fCons (fOp dMul (fC (.str "a")) (fOp dAdd (fC (.int 1)) (fCall F__law_take [] (fCons (fVar 0) (fCons (fC (.int 6)) (fNil)))))) (fNil)))))
    (by walk_at "kk"; rw [v_rng1a (by omega) (by omega)]; rfl)
    (fun i acc S' => ∃ us : List Tk, acc = us.map tokV ∧ Okt us ∧ us.length = i ∧ Box S' k (n + 4 * i) ∧ Fk k S S') (fun _ _ _ _ => trivial) (by
      rintro i d acc S' hd ⟨us, rfl, hz, rfl, bz, fz⟩
      have hi := (List.getElem?_eq_some_iff.mp hd).1
      rw [rng_len] at hi
      obtain ⟨z, S3, e3, hm, b3, f3⟩ := f_mark bz (by omega)
      obtain ⟨r, S4, e4, r0, r1, b4, f4⟩ := f_take (m := 6) b3 (by omega) (by decide) (by decide)
      refine ⟨_, S4, step_one (y := tokV (z, Txt.mul aS (1 + r))) (f := .tr) rfl ?_ rfl (by rw [List.length_map]; exact Nat.lt_of_lt_of_le (show us.length < 100 by omega) (by decide)), us ++ [(z, Txt.mul aS (1 + r))], by rw [List.map_append]; rfl, fun t ht => ?_, by rw [List.length_append]; rfl, b4.le (by omega), (fz.trans f3).trans f4⟩
      · show fTup _ [.val (.cel k), T, .val (.int ((m : Nat) : Int)), s3, s4, a5, a6, a7, a8, .val d, a10, a11, a12] S' = _
        walk_at "kk"
        rw [e3]
        walk_at "kk"
        rw [e4]
        walk_at "kk"
        rw [d_mul_str (mul_ok (by omega) (by omega))]
        walk_at "kk"
        rfl
      · rcases List.mem_append.mp ht with q | q
        · exact hz t q
        · rw [List.mem_singleton.mp q]; exact ⟨hm, (mul_word (by omega) (by omega)).1⟩) ⟨[], rfl, fun _ h => (nomatch h), rfl, hb, Fk.refl _ _⟩
  rw [rng_len] at hlen b2
  exact ⟨us, S2, by rw [← hacc]; exact e2, hz, hlen, b2.le (by omega), f2⟩
theorem f_pattern {ts : List Tk} (hb : Box S k n) (hn : n ≤ 500000) (ho : Okt ts) (hl : ts.length ≤ 1000) : ∃ (its : List Itm) (S' : Sto), F__law_pattern [.cel k, .lst (ts.map tokV)] S = .ok (.lst (its.map Itm.v)) .fs S' ∧ (∀ i ∈ its, OkI i) ∧ 1 ≤ its.length ∧ its.length ≤ 6 ∧ Box S' k (n + 200) ∧ Fk k S S' := by
  have lT : (ts.map tokV).length = ts.length := List.length_map _
  obtain ⟨m, S1, e1, m0, m1, b1, f1⟩ := f_take (m := 6) hb (by omega) (by decide) (by decide)
  obtain ⟨a, S2, e2, a0, a1, b2, f2⟩ := f_take (m := ((ts.length : Nat) : Int) + 1) b1 (by omega) (by omega) (by omega)
  obtain ⟨w, S3, e3, w0, w1, b3, f3⟩ := f_take (m := 3) b2 (by omega) (by decide) (by decide)
  have hm : 1 + m = (((1 + m).toNat : Nat) : Int) := by omega
  have row : ∃ (us : List Tk) (S4 : RE), kNox (kRun (b__law_pattern_3 [.val (.cel k), .val (.lst (ts.map tokV)), .val (.int (1 + m)), .val (.int a), .val (.lst (us.map tokV)), .no, .no, .no, .no, .no, .no, .no, .no] S3)) = S4 ∧ Okt us ∧ us.length ≤ 6 ∧ kNox (kRun (b__law_pattern_2 [.val (.cel k), .val (.lst (ts.map tokV)), .val (.int (1 + m)), .val (.int a), .no, .no, .no, .no, .no, .no, .no, .no, .no] S2)) = S4 := by
    by_cases hw : 0 < w
    · refine ⟨(ts.drop a.toNat).take (1 + m).toNat, _, rfl, fun t ht => ho t (List.mem_of_mem_drop (List.mem_of_mem_take ht)), by rw [List.length_take]; omega, ?_⟩
      have ec : Fx.cutD (ts.map tokV) (some a) (some (a + (1 + m))) = ((ts.drop a.toNat).take (1 + m).toNat).map tokV := by
        rw [show a = ((a.toNat : Nat) : Int) by omega, show ((a.toNat : Nat) : Int) + (1 + m) = ((a.toNat + (1 + m).toNat : Nat) : Int) by omega, cutD_mid, List.map_take, List.map_drop]
        rw [Int.toNat_natCast, Nat.add_sub_cancel_left]
      generalize ((ts.drop a.toNat).take (1 + m).toNat).map tokV = R at ec ⊢
      generalize ts.map tokV = T at ec ⊢
      conv => lhs; unfold b__law_pattern_2
      walk_at "kk"
      rw [e3]
      walk_at "kk"
      rw [decide_eq_true hw]
      walk_at "kk"
      rw [ec]
    · refine ⟨[], _, rfl, fun _ h => (nomatch h), by simp, ?_⟩
      generalize ts.map tokV = T
      conv => lhs; unfold b__law_pattern_2
      walk_at "kk"
      rw [e3]
      walk_at "kk"
      rw [decide_eq_false hw]
      walk_at "kk"
  obtain ⟨us, R, eR, hu, hul, e4⟩ := row
  have fin : ∃ (its : List Itm) (S' : Sto), R = .ok (.lst (its.map Itm.v)) .fs S' ∧ (∀ i ∈ its, OkI i) ∧ 1 ≤ its.length ∧ its.length ≤ 6 ∧ Box S' k (n + 200) ∧ Fk k S S' := by
    by_cases hz : us = []
    · obtain ⟨vs, S4, e5, hv, hvl, b4, f4⟩ := pt_own (T := .val (.lst (ts.map tokV))) (s3 := .val (.int a)) (s4 := .val (.lst [])) (m := (1 + m).toNat) b3 (by omega) (by omega) (by omega) (a5 := .no) (a6 := .no) (a7 := .no) (a8 := .no) (a9 := .no) (a10 := .no) (a11 := .no) (a12 := .no)
      obtain ⟨its, S5, e6, q1, q2, q3, b5, f5⟩ := pt_4 (T := .val (.lst (ts.map tokV))) (s2 := .val (.int (1 + m))) (s3 := .val (.int a)) b4 (by omega) hv (by omega) (by omega)
      refine ⟨its, S5, ?_, q1, q2, q3, b5.le (by omega), (((f1.trans f2).trans f3).trans f4).trans f5⟩
      rw [← eR, hz]
      generalize ts.map tokV = T at e5 e6 ⊢
      rw [← hm] at e5
      unfold b__law_pattern_3
      walk_at "kk"
      rw [show ([] : List D).isEmpty = true from rfl]
      walk_at "kk"
      rw [e5]
      walk_at "kk"
      exact e6
    · obtain ⟨its, S5, e6, q1, q2, q3, b5, f5⟩ := pt_4 (T := .val (.lst (ts.map tokV))) (s2 := .val (.int (1 + m))) (s3 := .val (.int a)) b3 (by omega) hu hul (List.length_pos_iff.mpr hz)
      refine ⟨its, S5, ?_, q1, q2, q3, b5.le (by omega), (((f1.trans f2).trans f3)).trans f5⟩
      rw [← eR]
      have hn : (us.map tokV).isEmpty = false := by cases us <;> first | exact absurd rfl hz | rfl
      generalize us.map tokV = U at hn e6 ⊢
      generalize ts.map tokV = T at e6 ⊢
      unfold b__law_pattern_3
      walk_at "kk"
      rw [hn]
      walk_at "kk"
      exact e6
  obtain ⟨its, S', eq, r⟩ := fin
  refine ⟨its, S', ?_, r⟩
  rw [← eq, ← e4]
  unfold F__law_pattern b__law_pattern
  generalize ts.map tokV = T at lT ⊢
  walk_at "kk"
  rw [e1]
  walk_at "kk"
  unfold b__law_pattern_1
  walk_at "kk"
  rw [lT, e2]
  walk_at "kk"
end
structure OddI (o : D) (p : PyData) : Prop where
  py : ∀ S, Py S o p
  nc : noCel o = true
  nmk : markD p = false
  nt : ∀ lo : Int, 1 ≤ lo → intP p lo 30 = false
  sh : Shp 1 p
  wt : p.weight ≤ 100
structure BadI (e : D) (q : PyData) : Prop where
  py : ∀ S, Py S e q
  nc : noCel e = true
  it : itemP q = false
  sh : Shp 4 q
  wt : q.weight ≤ 300
theorem wt_sm {i : Int} (h1 : -(10 ^ 21) < i) (h2 : i < 10 ^ 21) : (PyData.int i).weight ≤ 70 := by
  refine wt_lt ?_ ?_
  · have : (10 : Int) ^ 21 < 2 ^ 70 := by decide
    omega
  · have : (10 : Int) ^ 21 < 2 ^ 70 := by decide
    omega
theorem shp_sm {n : Nat} {i : Int} (h1 : -(10 ^ 21) < i) (h2 : i < 10 ^ 21) : Shp n (.int i) := by
  have : (10 : Int) ^ 21 < 10 ^ 40 := by decide
  exact Shp.int (by omega) (by omega)
theorem odd_int {i : Int} (h1 : -(10 ^ 21) < i) (h2 : i < 10 ^ 21) (h : i < 1 ∨ 30 < i) : OddI (.int i) (.int i) := by
  refine ⟨fun S => py_int S _, rfl, rfl, fun lo hlo => ?_, shp_sm h1 h2, Nat.le_trans (wt_sm h1 h2) (by decide)⟩
  show (decide (lo ≤ i) && decide (i ≤ 30)) = false
  rw [Bool.and_eq_false_iff, decide_eq_false_iff_not, decide_eq_false_iff_not]
  omega
theorem odd_str (s : String) (h : isMark (Str.ofString s) = false) (hl : (Str.ofString s).length ≤ 100) : OddI (.str (Str.ofString s)) (.str (Str.ofString s)) :=
  ⟨fun S => py_str S _, rfl, h, fun _ _ => rfl, .str (sok_of s), by rw [wt_str]; exact hl⟩
theorem odd_pick {S : Sto} {r : Int} (h0 : 0 ≤ r) (h1 : r < 11) : ∃ o p, dIx (.lst [.non, .bl true, .str (Str.ofString "a"), .int 0, .int 31, .int (-1), .str (Str.ofString "1"), .lst [], .dct [], .str (Str.ofString "#4"), .int (10 ^ 20)]) (.int r) S = .ok o .tr S ∧ OddI o p := by
  have : r = 0 ∨ r = 1 ∨ r = 2 ∨ r = 3 ∨ r = 4 ∨ r = 5 ∨ r = 6 ∨ r = 7 ∨ r = 8 ∨ r = 9 ∨ r = 10 := by omega
  rcases this with rfl | rfl | rfl | rfl | rfl | rfl | rfl | rfl | rfl | rfl | rfl
  · exact ⟨_, _, rfl, fun S => py_non S, rfl, rfl, fun _ _ => rfl, .non, by rw [wt_non]; decide⟩
  · exact ⟨_, _, rfl, fun S => py_bl S true, rfl, rfl, fun _ _ => rfl, .bl true, by rw [wt_bl]; decide⟩
  · exact ⟨_, _, rfl, odd_str "a" (by decide +kernel) (by decide +kernel)⟩
  · exact ⟨_, _, rfl, odd_int (by decide) (by decide) (.inl (by decide))⟩
  · exact ⟨_, _, rfl, odd_int (by decide) (by decide) (.inr (by decide))⟩
  · exact ⟨_, _, rfl, odd_int (by decide) (by decide) (.inl (by decide))⟩
  · exact ⟨_, _, rfl, odd_str "1" (by decide +kernel) (by decide +kernel)⟩
  · exact ⟨_, _, rfl, fun S => py_lst .nil, rfl, rfl, fun _ _ => rfl, .lst fun _ h => (nomatch h), by rw [wt_list, wt_nil]; decide⟩
  · exact ⟨_, _, rfl, fun S => py_dct S, rfl, rfl, fun _ _ => rfl, .dct, by rw [wt_dct]; decide⟩
  · exact ⟨_, _, rfl, odd_str "#4" (by decide +kernel) (by decide +kernel)⟩
  · exact ⟨_, _, rfl, odd_int (by decide) (by decide) (.inr (by decide))⟩
section
variable {S : Sto} {k n : Nat}
theorem py3 {a b c : D} {p q r : PyData} (h1 : ∀ S, Py S a p) (h2 : ∀ S, Py S b q) (h3 : ∀ S, Py S c r) (S : Sto) : Py S (.tup [a, b, c]) (.tuple [p, q, r]) := py_tup (.cons (h1 S) (.cons (h2 S) (.cons (h3 S) .nil)))
theorem nc3 {a b c : D} (h1 : noCel a = true) (h2 : noCel b = true) (h3 : noCel c = true) : noCel (.tup [a, b, c]) = true := by
  show noCels [a, b, c] = true
  simp only [noCels, h1, h2, h3]; rfl
theorem wt3 {p q r : PyData} : (PyData.tuple [p, q, r]).weight = p.weight + q.weight + r.weight + 3 := by
  rw [wt_tup, wt_cons, wt_cons, wt_cons, wt_nil]; omega
theorem shp3 {m : Nat} {p q r : PyData} (h1 : Shp m p) (h2 : Shp m q) (h3 : Shp m r) : Shp (m + 1) (.tuple [p, q, r]) := .tup fun d hd => by
  simp only [List.mem_cons, List.not_mem_nil, or_false] at hd
  rcases hd with rfl | rfl | rfl <;> assumption
theorem shp_strs {ms : List Str} (h : ∀ z ∈ ms, isMark z = true) {m : Nat} : ∀ d ∈ ms.map PyData.str, Shp m d := fun d hd => by
  obtain ⟨z, hz, rfl⟩ := List.mem_map.mp hd
  exact .str (sok_mark (h z hz))
theorem bad3 {ps : List PyData} {L : List D} {a b : D} {p q : PyData} (hL : ∀ S, PyAll S L ps) (nL : noCels L = true) (sL : ∀ d ∈ ps, Shp 2 d) (wL : PyData.weightAll ps ≤ 150) (ha : ∀ S, Py S a p) (na : noCel a = true) (sa : Shp 2 p) (wa : p.weight ≤ 70) (hb : ∀ S, Py S b q) (nb : noCel b = true) (sb : Shp 2 q) (wb : q.weight ≤ 70)
    (hi : (marksP ps && (intP p 1 30 && intP q (atLeast p) 30)) = false) : BadI (.tup [.lst L, a, b]) (.tuple [.list ps, p, q]) := by
  refine ⟨py3 (fun S => py_lst (hL S)) ha hb, nc3 nL na nb, ?_, shp3 (.lst sL) (sa.le (by decide)) (sb.le (by decide)), by rw [wt3, wt_list]; omega⟩
  show ((match rowP (.list ps) with | some ps => marksP ps | none => false) && _) = false
  exact hi
/-- the ten items that are none -/
theorem bad_pick {i : Itm} {o : D} {op : PyData} (hi : OkI i) (ho : OddI o op) {w : Int} (h2 : 0 ≤ w) (h3 : w < 10) : ∃ e q, dIx (.lst [.tup [.lst (i.ms.map D.str), .int (i.hi + 1), .int i.hi], .tup [.lst (i.ms.map D.str ++ Fx.cutD (i.ms.map D.str) none (some 1)), .int i.lo, .int i.hi], .tup [.lst [], .int i.lo, .int i.hi], .tup [.lst (i.ms.map D.str), .int i.lo], .lst [.lst (i.ms.map D.str), .int i.lo, .int i.hi],
    .tup [.lst (i.ms.map D.str ++ [o]), .int i.lo, .int i.hi], .tup [.lst (i.ms.map D.str), o, .int i.hi], .tup [.lst (i.ms.map D.str), .int i.lo, o], .tup [.lst (i.ms.map D.str), .int 1, .int 31], .tup [.lst (i.ms.map D.str), .int 1, .bl true]]) (.int w) S = .ok e .tr S ∧ BadI e q := by
  have b1 := hi.b1
  have b2 := hi.b2
  have b3 := hi.b3
  have hL : ∀ S, PyAll S (i.ms.map D.str) (i.ms.map PyData.str) := fun S => py_strs S _
  have nL := nc_strs i.ms
  have sL : ∀ d ∈ i.ms.map PyData.str, Shp 2 d := shp_strs hi.mks
  have wL := wt_strs hi.mks
  have ml := hi.len
  have sm : ∀ j : Int, -2 ≤ j → j ≤ 40 → -(10 ^ 21) < j ∧ j < 10 ^ 21 := fun j q1 q2 => by
    have : (40 : Int) < 10 ^ 21 := by decide
    constructor <;> omega
  have si : ∀ j : Int, -2 ≤ j → j ≤ 40 → Shp 2 (.int j) ∧ (PyData.int j).weight ≤ 70 := fun j q1 q2 => ⟨shp_sm (sm j q1 q2).1 (sm j q1 q2).2, wt_sm (sm j q1 q2).1 (sm j q1 q2).2⟩
  have h10 : w = 0 ∨ w = 1 ∨ w = 2 ∨ w = 3 ∨ w = 4 ∨ w = 5 ∨ w = 6 ∨ w = 7 ∨ w = 8 ∨ w = 9 := by omega
  rcases h10 with rfl | rfl | rfl | rfl | rfl | rfl | rfl | rfl | rfl | rfl
  · refine ⟨_, _, rfl, bad3 hL nL sL (by omega) (fun S => py_int S _) rfl (si (i.hi + 1) (by omega) (by omega)).1 (si (i.hi + 1) (by omega) (by omega)).2 (fun S => py_int S _) rfl (si i.hi (by omega) (by omega)).1 (si i.hi (by omega) (by omega)).2 ?_⟩
    rw [show intP (.int i.hi) (atLeast (.int (i.hi + 1))) 30 = false by
      show (decide (i.hi + 1 ≤ i.hi) && _) = false
      rw [decide_eq_false (by omega)]; rfl, Bool.and_false, Bool.and_false]
  · have hd : Fx.cutD (i.ms.map D.str) none (some 1) = (i.ms.take 1).map D.str := by rw [show (1 : Int) = ((1 : Nat) : Int) from rfl, cutD_upto, List.map_take]
    have hm2 : ∀ z ∈ i.ms ++ i.ms.take 1, isMark z = true := fun z hz => by
      rcases List.mem_append.mp hz with q | q
      · exact hi.mks z q
      · exact hi.mks z (List.mem_of_mem_take q)
    have e1 : i.ms.map D.str ++ Fx.cutD (i.ms.map D.str) none (some 1) = (i.ms ++ i.ms.take 1).map D.str := by rw [hd, List.map_append]
    have hw2 := wt_strs hm2
    have hl2 : (i.ms ++ i.ms.take 1).length ≤ 6 := by rw [List.length_append, List.length_take]; omega
    refine ⟨_, .tuple [.list ((i.ms ++ i.ms.take 1).map PyData.str), .int i.lo, .int i.hi], rfl, ?_⟩
    rw [e1]
    refine bad3 (fun S => py_strs S _) (nc_strs _) (shp_strs hm2) (by omega) (fun S => py_int S _) rfl (si i.lo (by omega) (by omega)).1 (si i.lo (by omega) (by omega)).2 (fun S => py_int S _) rfl (si i.hi (by omega) (by omega)).1 (si i.hi (by omega) (by omega)).2 ?_
    rw [marks_q, decide_eq_false (p := (i.ms ++ i.ms.take 1).Nodup) (fun hn => by
      cases e : i.ms with
      | nil => exact hi.ne e
      | cons a r =>
        rw [e, List.nodup_append] at hn
        exact hn.2.2 a List.mem_cons_self a List.mem_cons_self rfl), Bool.and_false, Bool.and_false, Bool.false_and]
  · exact ⟨_, _, rfl, bad3 (L := []) (ps := []) (fun S => .nil) rfl (fun _ h => (nomatch h)) (by rw [wt_nil]; decide) (fun S => py_int S _) rfl (si i.lo (by omega) (by omega)).1 (si i.lo (by omega) (by omega)).2 (fun S => py_int S _) rfl (si i.hi (by omega) (by omega)).1 (si i.hi (by omega) (by omega)).2 rfl⟩
  · refine ⟨_, .tuple [.list (i.ms.map PyData.str), .int i.lo], rfl, fun S => py_tup (.cons (py_lst (hL S)) (.cons (py_int S _) .nil)), ?_, rfl, .tup (n := 3) fun d hd => ?_, by rw [wt_tup, wt_cons, wt_cons, wt_nil, wt_list]; have := (si i.lo (by omega) (by omega)).2; omega⟩
    · show noCels [.lst (i.ms.map D.str), .int i.lo] = true
      simp only [noCels, noCel, nL]; rfl
    · simp only [List.mem_cons, List.not_mem_nil, or_false] at hd
      rcases hd with rfl | rfl
      · exact .lst sL
      · exact (si i.lo (by omega) (by omega)).1.le (by decide)
  · refine ⟨_, .list [.list (i.ms.map PyData.str), .int i.lo, .int i.hi], rfl, fun S => py_lst (.cons (py_lst (hL S)) (.cons (py_int S _) (.cons (py_int S _) .nil))), ?_, rfl, .lst (n := 3) fun d hd => ?_, by rw [wt_list, wt_cons, wt_cons, wt_cons, wt_nil, wt_list]; have := (si i.lo (by omega) (by omega)).2; have := (si i.hi (by omega) (by omega)).2; omega⟩
    · show noCels [.lst (i.ms.map D.str), .int i.lo, .int i.hi] = true
      simp only [noCels, noCel, nL]; rfl
    · simp only [List.mem_cons, List.not_mem_nil, or_false] at hd
      rcases hd with rfl | rfl | rfl
      · exact .lst sL
      · exact (si i.lo (by omega) (by omega)).1.le (by decide)
      · exact (si i.hi (by omega) (by omega)).1.le (by decide)
  · refine ⟨_, .tuple [.list (i.ms.map PyData.str ++ [op]), .int i.lo, .int i.hi], rfl, bad3 (fun S => (hL S).app (.cons (ho.py S) .nil)) ?_ (fun d hd => ?_) (by rw [wt_app, wt_cons, wt_nil]; have := ho.wt; omega) (fun S => py_int S _) rfl (si i.lo (by omega) (by omega)).1 (si i.lo (by omega) (by omega)).2 (fun S => py_int S _) rfl (si i.hi (by omega) (by omega)).1 (si i.hi (by omega) (by omega)).2 ?_⟩
    · have : ∀ ds : List D, noCels ds = true → noCels (ds ++ [o]) = true := fun ds => by
        induction ds with
        | nil => intro _; simp only [List.nil_append, noCels, ho.nc]; rfl
        | cons d ds ih =>
          intro h
          simp only [noCels, Bool.and_eq_true] at h
          simp only [List.cons_append, noCels, h.1, ih h.2]; rfl
      exact this _ nL
    · rcases List.mem_append.mp hd with q | q
      · exact sL d q
      · rw [List.mem_singleton.mp q]; exact ho.sh.le (by decide)
    · unfold marksP
      rw [show (i.ms.map PyData.str ++ [op]).all markD = false by rw [List.all_append, List.all_cons, ho.nmk]; simp, Bool.false_and, Bool.and_false, Bool.false_and]
  · refine ⟨_, .tuple [.list (i.ms.map PyData.str), op, .int i.hi], rfl, py3 (fun S => py_lst (hL S)) ho.py (fun S => py_int S _), nc3 nL ho.nc rfl, ?_, shp3 (.lst sL) (ho.sh.le (by decide)) ((si i.hi (by omega) (by omega)).1.le (by decide)), by rw [wt3, wt_list]; have := ho.wt; have := (si i.hi (by omega) (by omega)).2; omega⟩
    show (_ && (intP op 1 30 && _)) = false
    rw [ho.nt 1 (by decide), Bool.false_and, Bool.and_false]
  · refine ⟨_, .tuple [.list (i.ms.map PyData.str), .int i.lo, op], rfl, py3 (fun S => py_lst (hL S)) (fun S => py_int S _) ho.py, nc3 nL rfl ho.nc, ?_, shp3 (.lst sL) ((si i.lo (by omega) (by omega)).1.le (by decide)) (ho.sh.le (by decide)), by rw [wt3, wt_list]; have := ho.wt; have := (si i.lo (by omega) (by omega)).2; omega⟩
    show (_ && (_ && intP op i.lo 30)) = false
    rw [ho.nt i.lo b1, Bool.and_false, Bool.and_false]
  · refine ⟨_, _, rfl, bad3 hL nL sL (by omega) (fun S => py_int S 1) rfl (si 1 (by omega) (by omega)).1 (si 1 (by omega) (by omega)).2 (fun S => py_int S 31) rfl (si 31 (by omega) (by omega)).1 (si 31 (by omega) (by omega)).2 ?_⟩
    rw [show intP (.int 31) (atLeast (.int 1)) 30 = false from by decide, Bool.and_false, Bool.and_false]
  · refine ⟨_, _, rfl, bad3 hL nL sL (by omega) (fun S => py_int S 1) rfl (si 1 (by omega) (by omega)).1 (si 1 (by omega) (by omega)).2 (fun S => py_bl S true) rfl (.bl true) (by rw [wt_bl]; decide) ?_⟩
    rw [show intP (.bool true) (atLeast (.int 1)) 30 = false from rfl, Bool.and_false, Bool.and_false]
end
theorem sp_t3 {S : Sto} {a b c : D} : dTup [a, b, c] true S = .ok (.tup [a, b, c]) .tr S := d_tup (show 3 ≤ lim by decide)
theorem sp_l3 {S : Sto} {a b c : D} : dLst [a, b, c] true S = .ok (.lst [a, b, c]) .fs S := d_lst (show 3 ≤ lim by decide)
theorem sp_l5 {S : Sto} {a b c d e : D} : dLst [a, b, c, d, e] true S = .ok (.lst [a, b, c, d, e]) .fs S := d_lst (show 5 ≤ lim by decide)
local macro_rules | `(tactic| walk_at "kk") => `(tactic| simp -implicitDefEqProofs only [v_lenD, v_gt3, v_gt3l, sp_t3, sp_l3, sp_l5, Fx.v_slT, Fx.v_slT0, Fx.v_slT1, Fx.v_slT2, Fx.d_slT, Fx.d_slTl, Fx.d_addTi, Fx.d_addTs, Fx.d_addTl, Fx.v_dnewC, Fx.v_zipC, Fx.d_ixl0, Fx.d_ixl1, Fx.d_ixl2, Fx.d_ixt0, Fx.d_ixt1, Fx.d_lst0, Fx.d_lst1, Fx.d_lst2, Fx.d_tup0, Fx.d_tup1, Fx.d_tup2, Fx.d_int_int, Fx.d_neg, Fx.v_gt2, Fx.v_gt1, Fx.v_callT, Fx.v_propT, Fx.v_sup, Fx.v_asgNS, Fx.v_appX, Fx.d_strX_str, Fx.d_sum, Fx.v_isiX, Fx.v_binO, Fx.v_binO1, Fx.v_inO, Fx.v_inO1, Fx.v_inO3, Fx.v_eqO, Fx.v_eqO1, Fx.v_eqO3, Fx.v_eqX, Fx.v_eqX1, Fx.v_neO, Fx.v_neO1, Fx.v_neO3, Fx.v_augD, Fx.v_augD0, Fx.v_augD1, Fx.v_augD2, Fx.v_idxL, Fx.v_idxL1, Fx.v_idxL2, Fx.v_raise0, Fx.v_fld, Fx.v_setF, Fx.v_meth, Fx.v_methA, Fx.v_sp1, Fx.v_mk, Fx.v_mkK, Fx.v_mkK1, Fx.v_cmeth, Fx.v_runI1, Fx.v_runIx, Fx.v_fmt, Fx.v_js0, Fx.v_js, Fx.v_lrg, Fx.v_lrg1, Fx.v_callK, Fx.v_callK1, Fx.bE_ok, Fx.bE_xc, Fx.bS_nx, Fx.bS_rt, Fx.bS_bk, Fx.bS_ct, Fx.bS_xc, Fx.eS_ok, Fx.eS_xc, Fx.v_seq, Fx.v_next, Fx.v_break, Fx.v_cont, Fx.v_c, Fx.v_var, Fx.kVar_val, Fx.kVar_own, Fx.kVar_oob, Fx.v_op, Fx.v_op1, Fx.v_op2, Fx.v_un, Fx.v_un1, Fx.v_not, Fx.v_not1, Fx.v_and, Fx.v_andT, Fx.v_andF, Fx.v_or, Fx.v_orT, Fx.v_orF, Fx.v_if, Fx.v_ifT, Fx.v_ifF, Fx.v_chain, Fx.v_ch, Fx.v_ch0, Fx.v_ch1T, Fx.v_ch1F, Fx.v_ch2, Fx.v_isi, Fx.v_isiT, Fx.v_isi1, Fx.v_isi2, Fx.ty_non, Fx.ty_bl, Fx.ty_int, Fx.ty_str, Fx.ty_lst, Fx.ty_tup, Fx.ty_dct, Fx.v_cb, Fx.bA_ok, Fx.bA_xc, Fx.v_nil, Fx.v_cons, Fx.v_cons1, Fx.v_cons1x, Fx.v_cons2, Fx.v_cons2x, Fx.nop_tr, Fx.nop_fs, Fx.nop_pk, Fx.v_lst, Fx.v_tup, Fx.v_dnew, Fx.v_call, Fx.v_call1, Fx.v_m1, Fx.v_m1a, Fx.v_m1b, Fx.v_part, Fx.v_part1, Fx.v_nopart, Fx.v_sl, Fx.v_sl0, Fx.v_sl1, Fx.v_sl2, Fx.bO_ok, Fx.v_rev, Fx.v_expr, Fx.v_expr1, Fx.v_ifs, Fx.v_ifsT, Fx.v_ifsF, Fx.v_ret, Fx.v_retT, Fx.v_retS, Fx.v_retN, Fx.v_retV, Fx.v_retV1, Fx.v_retV2, Fx.v_asg, Fx.v_asgT, Fx.v_asgS, Fx.v_asg2, Fx.v_gn, Fx.v_gsNil, Fx.v_gsCons, Fx.v_gs, Fx.v_par, Fx.v_par1, Fx.v_aug, Fx.v_aug1, Fx.v_aug2, Fx.v_own, Fx.v_own1, Fx.v_frz, Fx.v_frz0, Fx.v_frz1, Fx.v_frz2, Fx.v_frz3, Fx.v_app, Fx.v_ado, Fx.v_ado1, Fx.v_xf, Fx.v_set, Fx.v_for, Fx.v_for1, Fx.v_forx, Fx.v_iter, Fx.v_iter1, Fx.v_iter1s, Fx.v_iter2, Fx.it_str, Fx.it_lst, Fx.it_tup, Fx.v_rng1, Fx.v_enum, Fx.v_enumL, Fx.v_enumT, Fx.v_raise, Fx.v_raise1, Fx.v_try, Fx.v_tryN, Fx.v_tryX, Fx.v_run1, Fx.v_run2, Fx.v_run3, Fx.v_r0, Fx.v_r1, Fx.v_r2, Fx.v_r3, Fx.v_r4, Fx.v_r5, Fx.v_nx, Fx.v_nx1, Fx.d_eq_str, Fx.d_eq_int, Fx.d_add_int, Fx.d_sub, Fx.d_cmp, Fx.d_len_lst, Fx.d_len_tup, Fx.d_len_fro, Fx.d_nil, Fx.d_max, Fx.d_min, Fx.d_sl_lst, Fx.d_list, Fx.d_listT, Fx.d_tuple, Fx.d_isN, Fx.d_isB, List.map_cons, List.map_nil, List.length_cons, List.length_nil, List.replicate, List.cons_append, List.nil_append, List.append_nil, List.getElem?_cons_zero, List.getElem?_cons_succ, List.set, Nat.reduceAdd, Nat.reduceSub, Nat.zero_add, if_true, if_false, reduceIte, Bool.not_true, Bool.not_false, Bool.and_true, Bool.true_and, Bool.and_self, Bool.false_xor, Bool.true_xor, Bool.false_eq_true, isT, Fx.tyd_non, Fx.tyd_bl, Fx.tyd_int, Fx.tyd_str, Fx.tyd_lst, Fx.tyd_tup, Fx.tyd_dct, reduceCtorEq, decide_true, decide_false, Bool.or_false, Bool.or_true, Bool.false_or, Bool.true_or, Bool.and_false, Bool.false_and, List.any_cons, List.any_nil])
section
variable {S : Sto} {k n : Nat}
structure OddR (S : Sto) (k : Nat) (d : D) (p : PyData) : Prop where
  py : Py S d p
  nc : ∀ ds, sqOf S d = some ds → noCels ds = true
  pat : patP p = false
  wt : p.weight ≤ 2900
  sh : Shp 6 p
  cel : (∃ j ds ps, d = .cel j ∧ j ≠ k ∧ S[j]? = some (.lst ds) ∧ noCels ds = true ∧ PyAll S ds ps ∧ p = .list ps ∧ ds.length ≤ 100) ∨ (noCel d = true ∧ tyD p ≠ .lst)
theorem py_celN {S : Sto} {j : Nat} {ds : List D} {ps : List PyData} (h : S[j]? = some (.lst ds)) (hn : noCels ds = true) (hp : PyAll S ds ps) : Py S (.cel j) (.list ps) := by
  unfold Py toP
  simp only [tree]
  unfold cells
  rw [h]
  dsimp only
  unfold PyAll at hp
  rw [treeAll_nc ds hn (c' := cells 4 S), hp]; rfl
theorem pya_nc {S S' : Sto} {ds : List D} {ps : List PyData} (h : PyAll S ds ps) (hn : noCels ds = true) : PyAll S' ds ps := by
  unfold PyAll at h ⊢
  rw [treeAll_nc ds hn (c' := cells 4 S)]; exact h
/-- a new list, adopted -/
theorem odd_lst {ds : List D} {ps : List PyData} (hb : Box S k n) (hp : PyAll S ds ps) (hn : noCels ds = true) (hl : ds.length ≤ 100) (hpat : patP (.list ps) = false) (hw : PyData.weightAll ps ≤ 2900) (hs : ∀ d ∈ ps, Shp 5 d) : OddR (S ++ [.lst ds]) k (.cel S.length) (.list ps) ∧ Box (S ++ [.lst ds]) k n := by
  have h1 : (S ++ [Ce.lst ds])[S.length]? = some (.lst ds) := last_new _
  have h2 := pya_nc (S' := S ++ [Ce.lst ds]) hp hn
  refine ⟨⟨py_celN h1 hn h2, fun es he => ?_, hpat, by rw [wt_list]; exact hw, .lst hs, .inl ⟨_, ds, ps, rfl, fun e => ?_, h1, hn, h2, rfl, hl⟩⟩, ?_⟩
  · unfold sqOf at he
    simp only [h1] at he
    cases he; exact hn
  · have := hb.lt; omega
  · obtain ⟨x, y, z, e, r⟩ := hb
    exact ⟨x, y, z, by rw [List.getElem?_append_left (List.getElem?_eq_some_iff.mp e).1]; exact e, r⟩
theorem Fk.app (k : Nat) (S : Sto) (c : Ce) : Fk k S (S ++ [c]) := ⟨by rw [List.length_append]; omega, fun j e _ h => by rw [List.getElem?_append_left (List.getElem?_eq_some_iff.mp h).1]; exact h⟩
theorem odd_els {d : D} {p : PyData} (hp : Py S d p) (hn : noCel d = true) (ht : tyD p ≠ .lst) (hpat : patP p = false) (hw : p.weight ≤ 2900) (hs : Shp 6 p) : OddR S k d p := by
  refine ⟨hp, fun ds he => ?_, hpat, hw, hs, .inr ⟨hn, ht⟩⟩
  cases d with
  | lst es => cases he; exact hn
  | tup es => cases he; exact hn
  | fro l es => cases he; exact hn
  | cel j => simp only [noCel] at hn; cases hn
  | _ => cases he
abbrev Adopted (S : Sto) (k n : Nat) (r : RE) : Prop := ∃ d p S', bE r kAdo = .ok d .tr S' ∧ OddR S' k d p ∧ Box S' k (n + 10) ∧ Fk k S S'
theorem ncs_app : ∀ {a b : List D}, noCels a = true → noCels b = true → noCels (a ++ b) = true
  | [], b, _, h => h
  | d :: a, b, h, h2 => by
    simp only [noCels, Bool.and_eq_true] at h
    simp only [List.cons_append, noCels, h.1, ncs_app h.2 h2]; rfl
theorem pya_set : ∀ {ds : List D} {ps : List PyData} {e : D} {q : PyData} (i : Nat), PyAll S ds ps → Py S e q → PyAll S (ds.set i e) (ps.set i q)
  | [], ps, e, q, i, h, _ => by
    have := h.len
    cases ps with
    | nil => exact h
    | cons => simp at this
  | d :: ds, ps, e, q, 0, h, g => by
    obtain ⟨p', ps', rfl, _, h2⟩ := py_unc h
    exact .cons g h2
  | d :: ds, ps, e, q, i + 1, h, g => by
    obtain ⟨p', ps', rfl, h1, h2⟩ := py_unc h
    exact .cons h1 (pya_set i h2 g)
theorem ncs_set : ∀ {ds : List D} {e : D} (i : Nat), noCels ds = true → noCel e = true → noCels (ds.set i e) = true
  | [], _, _, h, _ => h
  | d :: ds, e, 0, h, g => by
    simp only [noCels, Bool.and_eq_true] at h
    show (noCel e && noCels ds) = true
    rw [g, h.2]; rfl
  | d :: ds, e, i + 1, h, g => by
    simp only [noCels, Bool.and_eq_true] at h
    show (noCel d && noCels (ds.set i e)) = true
    rw [h.1, ncs_set i h.2 g]; rfl
theorem wt_set : ∀ {ps : List PyData} {q : PyData} (i : Nat), PyData.weightAll (ps.set i q) ≤ PyData.weightAll ps + q.weight
  | [], q, i => Nat.le_add_right _ _
  | p :: ps, q, 0 => by
    show PyData.weightAll (q :: ps) ≤ _
    rw [wt_cons, wt_cons]; omega
  | p :: ps, q, i + 1 => by
    have := wt_set (ps := ps) (q := q) i
    show PyData.weightAll (p :: ps.set i q) ≤ _
    rw [wt_cons, wt_cons]; omega
theorem all_set {q : PyData} (h : itemP q = false) : ∀ {ps : List PyData} {i : Nat}, i < ps.length → (ps.set i q).all itemP = false
  | p :: ps, 0, _ => by
    show (itemP q && ps.all itemP) = false
    rw [h]; rfl
  | p :: ps, i + 1, hi => by
    show (itemP p && (ps.set i q).all itemP) = false
    rw [all_set h (by simpa using hi), Bool.and_false]
/-- seven times all of them -/
theorem sp_all {its : List Itm} (hb : Box S k n) (ho : ∀ i ∈ its, OkI i) (h1 : 1 ≤ its.length) (h2 : its.length ≤ 6) {a1 a3 a4 a5 a6 a7 a8 a9 : Sl} : fOp dAdd (fOp dAdd (fOp dAdd (fOp dAdd (fOp dAdd (fOp dAdd (fVar 2) (fVar 2)) (fVar 2)) (fVar 2)) (fVar 2)) (fVar 2)) (fVar 2) [.val (.cel k), a1, .own (its.map Itm.v), a3, a4, a5, a6, a7, a8, a9] S = .ok (.lst ((its ++ its ++ its ++ its ++ its ++ its ++ its).map Itm.v)) .fs S := by
  have hl : (its.map Itm.v).length ≤ 6 := by rw [List.length_map]; exact h2
  have e : (its ++ its ++ its ++ its ++ its ++ its ++ its).map Itm.v = its.map Itm.v ++ its.map Itm.v ++ its.map Itm.v ++ its.map Itm.v ++ its.map Itm.v ++ its.map Itm.v ++ its.map Itm.v := by simp only [List.map_append]
  rw [e]
  generalize its.map Itm.v = P at hl ⊢
  have lm : ∀ m : Nat, m ≤ 100 → m ≤ lim := fun m h => Nat.le_trans h (by decide)
  walk_at "kk"
  rw [d_add_lst (lm _ (by omega))]
  walk_at "kk"
  rw [d_add_lst (lm _ (by simp only [List.length_append]; omega))]
  walk_at "kk"
  rw [d_add_lst (lm _ (by simp only [List.length_append]; omega))]
  walk_at "kk"
  rw [d_add_lst (lm _ (by simp only [List.length_append]; omega))]
  walk_at "kk"
  rw [d_add_lst (lm _ (by simp only [List.length_append]; omega))]
  walk_at "kk"
  rw [d_add_lst (lm _ (by simp only [List.length_append]; omega))]
theorem shp_itm {i : Itm} (h : OkI i) : Shp 5 i.p := by
  have b1 := h.b1
  have b2 := h.b2
  have b3 := h.b3
  have : (40 : Int) < 10 ^ 21 := by decide
  have hr : Shp 4 (rowQ i.l i.ms) := by
    cases i.l with
    | true => exact .lst (n := 3) (shp_strs h.mks)
    | false => exact .tup (n := 3) (shp_strs h.mks)
  exact shp3 hr (shp_sm (by omega) (by omega)) (shp_sm (by omega) (by omega))
theorem sp_8 {its : List Itm} {i : Itm} {o : D} {op : PyData} {a w : Int} (hb : Box S k n) (ho : ∀ j ∈ its, OkI j) (h2 : its.length ≤ 6) (hi : OkI i) (hoo : OddI o op) (ha0 : 0 ≤ a) (ha : a < its.length) (w0 : 2 ≤ w) (w1 : w < 12) {a1 : Sl} : Adopted S k n (kNox (kRun (b__law_spoilt_7 [.val (.cel k), a1, .own (its.map Itm.v), .val (.int a), .val (.lst (i.ms.map D.str)), .val (.int i.lo), .val (.int i.hi), .val (.int w), .val o, .no] S))) := by
  obtain ⟨e, q, ee, he⟩ := bad_pick (S := S) hi hoo (w := w - 2) (by omega) (by omega)
  have hlm : (i.ms.map D.str).length ≤ 5 := by rw [List.length_map]; exact hi.len
  have hra : kNox (kRun (b__law_spoilt_7 [.val (.cel k), a1, .own (its.map Itm.v), .val (.int a), .val (.lst (i.ms.map D.str)), .val (.int i.lo), .val (.int i.hi), .val (.int w), .val o, .no] S)) = .ok (.lst ((its.map Itm.v).set a.toNat e)) .fs S := by
    have hPl : (its.map Itm.v).length = its.length := List.length_map _
    generalize its.map Itm.v = P at hPl ⊢
    generalize i.ms.map D.str = M at ee hlm ⊢
    have hix : ixN P.length a = some a.toNat := by
      unfold ixN
      rw [if_pos ha0, if_pos (by rw [hPl]; exact ha)]
    unfold b__law_spoilt_7
    walk_at "kk"
    rw [d_add_lst (by
      have : (Fx.cutD M none (some 1)).length ≤ 5 := by
        rw [show (1 : Int) = ((1 : Nat) : Int) from rfl, cutD_upto, List.length_take]; omega
      exact Nat.le_trans (show _ ≤ 10 by omega) (by decide))]
    walk_at "kk"
    unfold b__law_spoilt_8
    walk_at "kk"
    rw [d_add_lst (by show _ + 1 ≤ lim; exact Nat.le_trans (show _ ≤ 10 by omega) (by decide))]
    walk_at "kk"
    rw [d_add_lst (by show 5 + 5 ≤ lim; decide)]
    walk_at "kk"
    unfold b__law_spoilt_9
    walk_at "kk"
    rw [show dIx _ (.int (w - 2)) S = _ from ee]
    walk_at "kk"
    rw [v_setO (ds := P) rfl rfl]
    walk_at "kk"
    rw [v_setO2 (ds := P) rfl hix]
    walk_at "kk"
    unfold b__law_spoilt_10
    walk_at "kk"
  rw [hra]
  have hw := wt_itms ho
  have hlen : ((its.map Itm.v).set a.toNat e).length ≤ 100 := by rw [List.length_set, List.length_map]; omega
  obtain ⟨r1, r2⟩ := odd_lst hb (pya_set a.toNat (py_itms S its) (he.py S)) (ncs_set a.toNat (nc_itms its) he.nc) hlen (by
    unfold patP
    show (decide _ && (decide _ && ((its.map Itm.p).set a.toNat q).all itemP)) = false
    rw [all_set he.it (by rw [List.length_map]; omega), Bool.and_false, Bool.and_false]) (by
      have := wt_set (ps := its.map Itm.p) (q := q) a.toNat
      have := he.wt
      omega) (fun d hd => by
        rcases List.mem_or_eq_of_mem_set hd with z | z
        · obtain ⟨j, hj, rfl⟩ := List.mem_map.mp z
          exact shp_itm (ho j hj)
        · rw [z]; exact he.sh.le (by decide))
  exact ⟨_, _, _, rfl, r1, r2.le (by omega), Fk.app k S _⟩
theorem row_list {l : Bool} {ms : List Str} {t : Bool} : ∃ f, dList [rowD l ms] t S = .ok (.lst (ms.map D.str)) f S ∧ f.nop = true := by
  cases l with
  | true => exact ⟨_, d_list, rfl⟩
  | false => exact ⟨_, d_listT, rfl⟩
theorem patP_tup3 {l : Bool} {ms : List Str} {b c : PyData} (h : ∀ m ∈ ms, True) : patP (.tuple [rowQ l ms, b, c]) = false := by
  unfold patP
  show (decide _ && (decide _ && (itemP (rowQ l ms) && _))) = false
  have : itemP (rowQ l ms) = false := by
    cases l with
    | true => rfl
    | false =>
      match ms with
      | [] => rfl
      | [_] => rfl
      | [_, _] => rfl
      | [_, _, _] => rfl
      | _ :: _ :: _ :: _ :: _ => rfl
  rw [this, Bool.false_and, Bool.and_false, Bool.and_false]
theorem sp_5 {its : List Itm} {i : Itm} {o : D} {op : PyData} {a w : Int} (hb : Box S k n) (hn : n ≤ 800000) (ho : ∀ j ∈ its, OkI j) (h1 : 1 ≤ its.length) (h2 : its.length ≤ 6) (hi : OkI i) (hoo : OddI o op) (ha0 : 0 ≤ a) (ha : a < its.length) (w0 : 0 ≤ w) (w1 : w < 12) {a1 : Sl} : Adopted S k (n + 1) (kNox (kRun (b__law_spoilt_5 [.val (.cel k), a1, .own (its.map Itm.v), .val (.int a), .val (.lst (i.ms.map D.str)), .val (.int i.lo), .val (.int i.hi), .val (.int w), .val o, .no] S))) := by
  by_cases hw0 : w = 0
  · subst hw0
    have e := sp_all hb ho h1 h2 (a1 := a1) (a3 := .val (.int a)) (a4 := .val (.lst (i.ms.map D.str))) (a5 := .val (.int i.lo)) (a6 := .val (.int i.hi)) (a7 := .val (.int 0)) (a8 := .val o) (a9 := .no)
    have hO : ∀ j ∈ its ++ its ++ its ++ its ++ its ++ its ++ its, OkI j := fun j hj => by
      simp only [List.mem_append, or_self] at hj
      exact ho j hj
    have hlen : (its ++ its ++ its ++ its ++ its ++ its ++ its).length = 7 * its.length := by simp only [List.length_append]; omega
    have hra : kNox (kRun (b__law_spoilt_5 [.val (.cel k), a1, .own (its.map Itm.v), .val (.int a), .val (.lst (i.ms.map D.str)), .val (.int i.lo), .val (.int i.hi), .val (.int 0), .val o, .no] S)) = .ok (.lst ((its ++ its ++ its ++ its ++ its ++ its ++ its).map Itm.v)) .fs S := by
      generalize (its ++ its ++ its ++ its ++ its ++ its ++ its).map Itm.v = R at e ⊢
      generalize its.map Itm.v = P at e ⊢
      generalize i.ms.map D.str = M at e ⊢
      unfold b__law_spoilt_5
      rw [v_seq, v_ifs]
      rw [show fOp (dEqv false) (fVar 7) (fC (.int 0)) [.val (.cel k), a1, .own P, .val (.int a), .val (.lst M), .val (.int i.lo), .val (.int i.hi), .val (.int 0), .val o, .no] S = .ok (.bl true) .tr S by walk_at "kk"]
      rw [eS_ok, v_ifsT, v_ret, e]
      walk_at "kk"
    rw [hra]
    generalize hJ : its ++ its ++ its ++ its ++ its ++ its ++ its = J at hO hlen
    obtain ⟨r1, r2⟩ := odd_lst hb (py_itms S J) (nc_itms J) (by rw [List.length_map]; omega) (by
      unfold patP
      show (decide _ && (decide ((J.map Itm.p).length ≤ 6) && _)) = false
      rw [List.length_map, decide_eq_false (p := J.length ≤ 6) (by omega), Bool.false_and, Bool.and_false]) (by have := wt_itms hO; omega) (fun d hd => by
        obtain ⟨j, hj, rfl⟩ := List.mem_map.mp hd
        exact shp_itm (hO j hj))
    exact ⟨_, _, _, rfl, r1, r2.le (by omega), Fk.app k S _⟩
  · have e5 : ∀ P M : List D, kNox (kRun (b__law_spoilt_5 [.val (.cel k), a1, .own P, .val (.int a), .val (.lst M), .val (.int i.lo), .val (.int i.hi), .val (.int w), .val o, .no] S)) = kNox (kRun (b__law_spoilt_6 [.val (.cel k), a1, .own P, .val (.int a), .val (.lst M), .val (.int i.lo), .val (.int i.hi), .val (.int w), .val o, .no] S)) := fun P M => by
      conv => lhs; unfold b__law_spoilt_5
      walk_at "kk"
      rw [decide_eq_false hw0]
      walk_at "kk"
    rw [e5]
    by_cases hw1 : w = 1
    · subst hw1
      obtain ⟨i0, itr, rfl⟩ : ∃ i0 itr, its = i0 :: itr := by cases its with | nil => simp at h1 | cons i0 itr => exact ⟨_, _, rfl⟩
      have hi0 := ho i0 List.mem_cons_self
      have hb' : Box (S ++ [.lst []]) k n := by
        obtain ⟨x, y, z, e, r⟩ := hb
        exact ⟨x, y, z, by rw [List.getElem?_append_left (List.getElem?_eq_some_iff.mp e).1]; exact e, r⟩
      obtain ⟨r, S1, e1, r0, r1, b1, f1⟩ := f_take (m := 7) hb' (by omega) (by decide) (by decide)
      have hfk : Fk k S S1 := (Fk.app k S _).trans f1
      have ecel : S1[S.length]? = some (.lst []) := f1.2 _ _ (by have := hb.lt; omega) (last_new _)
      have e6 : kNox (kRun (b__law_spoilt_6 [.val (.cel k), a1, .own ((i0 :: itr).map Itm.v), .val (.int a), .val (.lst (i.ms.map D.str)), .val (.int i.lo), .val (.int i.hi), .val (.int 1), .val o, .no] S)) = kNox (kRun (bS (eS (dIx (.lst [.non, .cel S.length, .dct [], .str (Str.ofString "pattern"), i0.v, .int 7, .tup [.tup [.lst (i.ms.map D.str), .int i.lo, .int i.hi], .non]]) (.int r) S1) [.val (.cel k), a1, .own ((i0 :: itr).map Itm.v), .val (.int a), .val (.lst (i.ms.map D.str)), .val (.int i.lo), .val (.int i.hi), .val (.int 1), .val o, .no] kRet) b__law_spoilt_7)) := by
        rw [List.map_cons]
        generalize itr.map Itm.v = P
        generalize i.ms.map D.str = M
        generalize i0.v = I0
        unfold b__law_spoilt_6
        walk_at "kk"
        rw [d_lst (ds := [_, _, _, _, _, _, _]) (show 7 ≤ lim by decide)]
        walk_at "kk"
        rw [e1]
        walk_at "kk"
      rw [e6]
      have els : ∀ (d : D) (p : PyData), Py S1 d p → noCel d = true → tyD p ≠ .lst → patP p = false → p.weight ≤ 2900 → Shp 6 p → d ≠ .cel 0 → Adopted S k (n + 1) (.ok d .tr S1) := fun d p h1 h2 h3 h4 h5 h6 _ => by
        refine ⟨d, p, S1, ?_, odd_els h1 h2 h3 h4 h5 h6, b1.le (by omega), hfk⟩
        have nl : ∀ ds, d ≠ .lst ds := fun ds z => by
          subst z
          rcases py_inv h1 with ⟨_, e⟩ | ⟨_, _, e⟩ | ⟨_, _, e⟩ | ⟨_, _, e⟩ | ⟨ps, ds', e, _⟩ | ⟨ps, ds', e, _, e2⟩ | ⟨_, e⟩
          · cases e
          · cases e
          · cases e
          · cases e
          · exact h3 (by rw [e]; rfl)
          · cases e2
          · cases e
        rw [bE_ok, v_ado2 nl]
      have h7 : r = 0 ∨ r = 1 ∨ r = 2 ∨ r = 3 ∨ r = 4 ∨ r = 5 ∨ r = 6 := by omega
      rcases h7 with rfl | rfl | rfl | rfl | rfl | rfl | rfl
      · exact els .non .none (py_non _) rfl (by decide) rfl (by rw [wt_non]; decide) .non (by simp)
      · refine ⟨.cel S.length, .list [], S1, rfl, ⟨py_celN ecel rfl .nil, fun ds he => ?_, rfl, by rw [wt_list, wt_nil]; decide, .lst (n := 5) fun _ h => (nomatch h), .inl ⟨_, [], [], rfl, (by have := hb.lt; omega), ecel, rfl, .nil, rfl, by decide⟩⟩, b1.le (by omega), hfk⟩
        unfold sqOf at he
        simp only [ecel] at he
        cases he; rfl
      · exact els (.dct []) (.dict []) (py_dct _) rfl (by decide) rfl (by rw [wt_dct]; decide) .dct (by simp)
      · exact els (.str (Str.ofString "pattern")) (.str (Str.ofString "pattern")) (py_str _ _) rfl (by decide) rfl (by rw [wt_str]; decide +kernel) (.str (sok_of _)) (by simp)
      · exact els i0.v i0.p (py_itm _ i0) (nc_itm i0) (by show Ty.tup ≠ Ty.lst; decide) (patP_tup3 fun _ _ => trivial) (Nat.le_trans (wt_itm hi0) (by decide)) ((shp_itm hi0).le (by decide)) (by unfold Itm.v; simp)
      · exact els (.int 7) (.int 7) (py_int _ _) rfl (by decide) rfl (Nat.le_trans (wt_sm (by decide) (by decide)) (by decide)) (shp_sm (by decide) (by decide)) (by simp)
      · have hI : OkI ⟨true, i.ms, i.lo, i.hi⟩ := ⟨hi.ne, hi.mks, hi.nd, hi.len, hi.b1, hi.b2, hi.b3⟩
        refine els (.tup [(⟨true, i.ms, i.lo, i.hi⟩ : Itm).v, .non]) (.tuple [(⟨true, i.ms, i.lo, i.hi⟩ : Itm).p, .none]) (py_tup (.cons (py_itm _ _) (.cons (py_non _) .nil))) ?_ (by show Ty.tup ≠ Ty.lst; decide) ?_ ?_ ?_ (by simp)
        · show noCels [_, _] = true
          simp only [noCels, nc_itm]; rfl
        · unfold patP
          show (decide _ && (decide _ && (_ && (itemP .none && _)))) = false
          rw [show itemP .none = false from rfl, Bool.false_and, Bool.and_false, Bool.and_false, Bool.and_false]
        · have := wt_itm hI
          rw [wt_tup, wt_cons, wt_cons, wt_nil, wt_non]; omega
        · refine .tup (n := 5) fun d hd => ?_
          simp only [List.mem_cons, List.not_mem_nil, or_false] at hd
          rcases hd with rfl | rfl
          · exact shp_itm hI
          · exact .non
    · have e6 : ∀ P M : List D, kNox (kRun (b__law_spoilt_6 [.val (.cel k), a1, .own P, .val (.int a), .val (.lst M), .val (.int i.lo), .val (.int i.hi), .val (.int w), .val o, .no] S)) = kNox (kRun (b__law_spoilt_7 [.val (.cel k), a1, .own P, .val (.int a), .val (.lst M), .val (.int i.lo), .val (.int i.hi), .val (.int w), .val o, .no] S)) := fun P M => by
        conv => lhs; unfold b__law_spoilt_6
        walk_at "kk"
        rw [decide_eq_false hw1]
        walk_at "kk"
      rw [e6]
      obtain ⟨d, p, S', r1, r2, r3, r4⟩ := sp_8 (a1 := a1) hb ho h2 hi hoo ha0 ha (w := w) (by omega) w1
      exact ⟨d, p, S', r1, r2, r3.le (by omega), r4⟩
theorem f_spoilt {its : List Itm} (hb : Box S k n) (hn : n ≤ 700000) (ho : ∀ j ∈ its, OkI j) (h1 : 1 ≤ its.length) (h2 : its.length ≤ 6) : Adopted S k (n + 4) (F__law_spoilt [.cel k, .lst (its.map Itm.v)] S) := by
  obtain ⟨a, S1, e1, a0, a1, b1, f1⟩ := f_take (m := ((its.length : Nat) : Int)) hb (by omega) (by omega) (by omega)
  obtain ⟨w, S2, e2, w0, w1, b2, f2⟩ := f_take (m := 12) b1 (by omega) (by decide) (by decide)
  obtain ⟨r, S3, e3, r0, r1, b3, f3⟩ := f_take (m := 11) b2 (by omega) (by decide) (by decide)
  obtain ⟨o, op, eo, hoo⟩ := odd_pick (S := S3) r0 r1
  have hai : a.toNat < its.length := by omega
  have hi := ho _ (List.getElem_mem hai)
  obtain ⟨i, hI⟩ : ∃ i, i = its[a.toNat] := ⟨_, rfl⟩
  rw [← hI] at hi
  have eix : dIx (.lst (its.map Itm.v)) (.int a) S1 = .ok i.v .tr S1 := by
    refine d_ix_lst ?_
    rw [show a = ((a.toNat : Nat) : Int) by omega]
    exact pick_at (by rw [List.getElem?_map, List.getElem?_eq_getElem hai, hI]; rfl)
  obtain ⟨f, er, hf⟩ := row_list (S := S1) (l := i.l) (ms := i.ms) (t := true)
  obtain ⟨d, p, S', q1, q2, q3, q4⟩ := sp_5 (a1 := .val (.lst (its.map Itm.v))) b3 (by omega) ho h1 h2 hi hoo a0 a1 w0 w1
  refine ⟨d, p, S', ?_, q2, q3.le (by omega), ((f1.trans f2).trans f3).trans q4⟩
  rw [← q1]
  congr 1
  have lP : (its.map Itm.v).length = its.length := List.length_map _
  generalize its.map Itm.v = P at eix lP ⊢
  unfold Itm.v at eix
  generalize i.ms.map D.str = M at er ⊢
  unfold F__law_spoilt b__law_spoilt
  walk_at "kk"
  unfold b__law_spoilt_1
  walk_at "kk"
  rw [lP, e1]
  walk_at "kk"
  unfold b__law_spoilt_2
  walk_at "kk"
  rw [eix]
  walk_at "kk"
  unfold b__law_spoilt_3
  walk_at "kk"
  rw [er]
  walk_at "kk"
  rw [e2]
  walk_at "kk"
  rw [hf]
  walk_at "kk"
  conv => lhs; unfold b__law_spoilt_4
  walk_at "kk"
  rw [d_pow ⟨by decide, by decide, by decide⟩]
  walk_at "kk"
  rw [d_lst (ds := [_, _, _, _, _, _, _, _, _, _, _]) (show 11 ≤ lim by decide)]
  walk_at "kk"
  rw [e3]
  walk_at "kk"
  rw [show (10 : Int) ^ Int.toNat 20 = 10 ^ 20 from rfl, eo]
  walk_at "kk"
end
noncomputable def rt_11 : FS := sIf (fAnd (fIsi .lst (fVar 5)) (fNot (fCall F__law_good [] (fCons (fVar 5) (fNil))))) (sSeq (chk 5 (sApp 5 (fC (.str "late")))) (sIf (fOp (dEqv true) (fCB dRepr (fCons (fVar 7) (fNil))) (fCB dRepr (fCons (fLst (fCons (fC (.str "row")) (fCons (fVar 5) (fNil)))) (fNil)))) (sRet (fC (.bl false))) (sNext))) (sNext)
noncomputable def rt_10 : FS := sSeq (sAsg (fCall F__law_told [] (fCons (fVar 1) (fCons (fVar 5) (fNil)))) (gN 7)) rt_11
noncomputable def rt_9 : FS := sSeq (sIf (fOp (dEqv true) (fCB dRepr (fCons (fCall F__law_told [] (fCons (fVar 6) (fCons (fVar 5) (fNil)))) (fNil))) (fCB dRepr (fCons (fLst (fCons (fC (.str "text")) (fCons (fVar 6) (fNil)))) (fNil)))) (sRet (fC (.bl false))) (sNext)) rt_10
noncomputable def rt_8 : FS := sSeq (sAsg (fOp dIx (fLst (fCons (fC .non) (fCons (fC (.str "a")) (fCons (fOp dAdd (fVar 1) (fLst (fCons (fTup (fCons (fC (.str "#4")) (fCons (fC (.str "a")) (fNil)))) (fNil)))) (fCons (fOp dAdd (fLst (fCons (fTup (fCons (fC (.str "|0")) (fCons (fC (.str "a")) (fNil)))) (fNil))) (fVar 1)) (fCons (fC (.int 7)) (fCons (fOp dAdd (fLst (fCons (fLst (fCons (fC (.str "#0")) (fCons (fC (.str "a")) (fNil)))) (fNil))) (fVar 1)) (fNil)))))))) (fCall F__law_take [] (fCons (fVar 0) (fCons (fC (.int 6)) (fNil))))) (gN 6)) rt_9
noncomputable def rt_7 : FS := sSeq (sIf (fAnd (fNot (fCall F__law_good [] (fCons (fVar 5) (fNil)))) (fOp (dEqv true) (fCB dRepr (fCons (fCall F__law_told [] (fCons (fVar 1) (fCons (fVar 5) (fNil)))) (fNil))) (fCB dRepr (fCons (fLst (fCons (fC (.str "row")) (fCons (fVar 5) (fNil)))) (fNil))))) (sRet (fC (.bl false))) (sNext)) rt_8
noncomputable def rt_6 : FS := sSeq (sIf (fOp (dEqv true) (fCB dRepr (fCons (fCall F_is_pattern [] (fCons (fVar 5) (fNil))) (fNil))) (fCB dRepr (fCons (fCall F__law_good [] (fCons (fVar 5) (fNil))) (fNil)))) (sRet (fC (.bl false))) (sNext)) rt_7
noncomputable def rt_5 : FS := sSeq (sAsg (fAdo (fCall F__law_spoilt [] (fCons (fVar 0) (fCons (fVar 3) (fNil))))) (gN 5)) rt_6
noncomputable def rt_4 : FS := sSeq (sIf (fOp (dEqv true) (fCall F__law_told [] (fCons (fCB dTuple (fCons (fVar 1) (fNil))) (fCons (fCB dTuple (fCons (fVar 3) (fNil))) (fNil)))) (fCall F__law_due [] (fCons (fVar 1) (fCons (fVar 3) (fNil))))) (sRet (fC (.bl false))) (sNext)) rt_5
noncomputable def rt_3 : FS := sSeq (sIf (fOr (fOp (dEqv true) (fCall F__law_told [] (fCons (fVar 1) (fCons (fVar 3) (fNil)))) (fCall F__law_due [] (fCons (fVar 1) (fCons (fVar 3) (fNil))))) (fOp (dEqv true) (fCB dRepr (fCons (fLst (fCons (fVar 1) (fCons (fVar 3) (fNil)))) (fNil))) (fVar 4))) (sRet (fC (.bl false))) (sNext)) rt_4
noncomputable def rt_2 : FS := sSeq (sIf (fOr (fOp (dIs true) (fCall F_is_pattern [] (fCons (fVar 3) (fNil))) (fC (.bl true))) (fOp (dIs true) (fCall F_is_pattern [] (fCons (fCB dTuple (fCons (fVar 3) (fNil))) (fNil))) (fC (.bl true)))) (sRet (fC (.bl false))) (sNext)) rt_3
noncomputable def rt_1 : FS := sSeq (sAsg (fCB dRepr (fCons (fLst (fCons (fVar 1) (fCons (fVar 3) (fNil)))) (fNil))) (gN 4)) rt_2
noncomputable def rt_0 : FS := sSeq (sAsg (fCall F__law_pattern [] (fCons (fVar 0) (fCons (fVar 1) (fNil)))) (gN 3)) rt_1
section
variable {S : Sto} {k n : Nat}
theorem okd_two {tag : Str} {p : PyData} (ht : sok tag) (hl : tag.length ≤ 100) (h : Shp 8 p) (hw : p.weight ≤ 190000) : Okd (.list [.str tag, p]) := by
  refine Shp.okd (.lst (n := 8) (fun e he => ?_)) (by decide) ?_
  · simp only [List.mem_cons, List.not_mem_nil, or_false] at he
    rcases he with rfl | rfl
    · exact .str ht
    · exact h
  · rw [wt_list, wt_cons, wt_cons, wt_nil, wt_str]; omega
theorem py_two {tag : Str} {d : D} {p : PyData} (h : Py S d p) : Py S (.lst [.str tag, d]) (.list [.str tag, p]) := py_lst (.cons (py_str S _) (.cons h .nil))
theorem odd_good {d : D} {p : PyData} (h : OddR S k d p) : F__law_good [d] S = .ok (.bl false) .tr S := by
  rw [f_good h.py h.nc (by have := h.wt; omega), h.pat]
theorem odd_pat {d : D} {p : PyData} (h : OddR S k d p) : F_is_pattern [d] S = .ok (.bl false) .tr S := by
  rw [f_is_pattern h.py (by have := h.wt; omega), h.pat]
theorem box_set {S : Sto} (h : Box S k n) {j : Nat} (hj : j ≠ k) (c : Ce) : Box (S.set j c) k n := by
  obtain ⟨x, y, z, e, r⟩ := h
  exact ⟨x, y, z, by rw [List.getElem?_set_ne hj]; exact e, r⟩
abbrev RwO (d : D) : D := .lst [.str (Str.ofString "row"), d]
theorem r_11 {d : D} {p : PyData} (h : OddR S k d p) (hb : Box S k n) {T P s2 s4 s6 : Sl} : ∃ S', rt_11 [.val (.cel k), T, s2, P, s4, .val d, s6, .val (RwO d), .no, .no] S = .nx [.val (.cel k), T, s2, P, s4, .val d, s6, .val (RwO d), .no, .no] S' ∧ Box S' k n := by
  have hg := odd_good h
  have ht := py_ty h.py
  unfold rt_11
  walk_at "kk"
  rw [ht]
  rcases h.cel with ⟨j, ds, ps, rfl, hj, hs, hn, hp, rfl, hl⟩ | ⟨hn, hne⟩
  · walk_at "kk"
    rw [hg]
    walk_at "kk"
    have hx : hasL 5 [.val (.cel k), T, s2, P, s4, .val (.cel j), s6, .val (RwO (.cel j)), .no, .no] S = true := by
      unfold hasL
      show (match (some (Sl.val (.cel j))) with | some (.own _) => true | some (.val (.cel k)) => _ | _ => false) = true
      dsimp only
      rw [hs]
    rw [v_chk hx]
    walk_at "kk"
    rw [v_app2 (ds := ds) rfl rfl hs (Nat.lt_of_le_of_lt hl (by decide))]
    walk_at "kk"
    have hs2 : (S.set j (.lst (ds ++ [.str (Str.ofString "late")])))[j]? = some (.lst (ds ++ [.str (Str.ofString "late")])) := by rw [List.getElem?_set_self (List.getElem?_eq_some_iff.mp hs).1]
    have hpy : Py (S.set j (.lst (ds ++ [.str (Str.ofString "late")]))) (.cel j) (.list (ps ++ [.str (Str.ofString "late")])) := py_celN hs2 (ncs_app hn rfl) (.app (pya_nc hp hn) (.cons (py_str _ _) .nil))
    have hok : Okd (.list [.str (Str.ofString "row"), .list (ps ++ [.str (Str.ofString "late")])]) := by
      refine okd_two (sok_of _) (by decide +kernel) ⟨?_, ?_, ?_⟩ ?_
      · have h1 := h.sh.sh
        simp only [PyData.showable] at h1 ⊢
        have : ∀ qs : List PyData, PyData.showableAll qs = true → PyData.showableAll (qs ++ [.str (Str.ofString "late")]) = true := fun qs => by
          induction qs with
          | nil => intro _; simp only [List.nil_append, PyData.showableAll, PyData.showable]; rfl
          | cons q qs ih =>
            intro z
            simp only [PyData.showableAll, Bool.and_eq_true] at z
            simp only [List.cons_append, PyData.showableAll, z.1, ih z.2]; rfl
        exact this ps h1
      · have h1 := h.sh.lv
        simp only [PyData.leavesShort] at h1 ⊢
        have : ∀ qs : List PyData, PyData.leavesShortAll 41 qs = true → PyData.leavesShortAll 41 (qs ++ [.str (Str.ofString "late")]) = true := fun qs => by
          induction qs with
          | nil => intro _; simp only [List.nil_append, PyData.leavesShortAll, (Shp.str (n := 0) (sok_of "late")).lv]; rfl
          | cons q qs ih =>
            intro z
            simp only [PyData.leavesShortAll, Bool.and_eq_true] at z
            simp only [List.cons_append, PyData.leavesShortAll, z.1, ih z.2]; rfl
        exact this ps h1
      · have h1 := h.sh.dp
        simp only [PyData.depth] at h1 ⊢
        have : ∀ qs : List PyData, PyData.depthAll (qs ++ [.str (Str.ofString "late")]) ≤ PyData.depthAll qs := fun qs => by
          induction qs with
          | nil => simp only [List.nil_append, PyData.depthAll, PyData.depth]; omega
          | cons q qs ih =>
            simp only [List.cons_append, PyData.depthAll]; omega
        have := this ps
        omega
      · have hw := h.wt
        rw [wt_list] at hw
        rw [wt_list, wt_app, wt_cons, wt_nil, wt_str, show (Str.ofString "late").length = 4 by decide +kernel]
        omega
    rw [d_repr (py_two hpy) hok]
    walk_at "kk"
    rw [d_repr (py_two hpy) hok]
    walk_at "kk"
    exact ⟨_, rfl, box_set hb hj _⟩
  · refine ⟨S, ?_, hb⟩
    rw [v_isi2, decide_eq_false hne]
    walk_at "kk"
structure BadT (S : Sto) (d : D) (p : PyData) : Prop where
  py : Py S d p
  nc : noCel d = true
  no : isTextD p = false
  sh : Shp 8 p
  wt : p.weight ≤ 5000
theorem r_9 {d b : D} {p q : PyData} {ts : List Tk} {T : D} (hT : IsT T ts) (hg : GoodT ts) (hl : ts.length ≤ 1000) (h : OddR S k d p) (hB : BadT S b q) (hb : Box S k n) {P s2 s4 s7 : Sl} : ∃ t7 S', rt_9 [.val (.cel k), .val T, s2, P, s4, .val d, .val b, s7, .no, .no] S = .nx [.val (.cel k), .val T, s2, P, s4, .val d, .val b, t7, .no, .no] S' ∧ Box S' k n := by
  obtain ⟨S', e, r⟩ := r_11 (T := .val T) (P := P) (s2 := s2) (s4 := s4) (s6 := .val b) h hb
  refine ⟨.val (RwO d), S', ?_, r⟩
  unfold rt_9
  walk_at "kk"
  rw [f_told_text hB.py hB.nc (by have := hB.wt; omega) hB.no]
  walk_at "kk"
  rw [d_repr (py_two hB.py) (okd_two (sok_of _) (by decide +kernel) hB.sh (by have := hB.wt; omega))]
  walk_at "kk"
  rw [d_repr (py_two hB.py) (okd_two (sok_of _) (by decide +kernel) hB.sh (by have := hB.wt; omega))]
  walk_at "kk"
  unfold rt_10
  walk_at "kk"
  rw [f_told_row hT hg hl h.py (by have := h.wt; omega) h.pat]
  walk_at "kk"
  exact e
theorem py_textA {S : Sto} {ts : List Tk} : PyAll S (ts.map tokV) (ts.map tokD) := py_toks S ts
theorem shp_toks {ts : List Tk} (hg : GoodT ts) {m : Nat} : ∀ d ∈ ts.map tokD, Shp (m + 1) d := fun d hd => by
  obtain ⟨t, ht, rfl⟩ := List.mem_map.mp hd
  exact (Shp.tok (hg.sok t ht)).le (by omega)
theorem wt_tk (a b : String) (h : (Str.ofString a).length + (Str.ofString b).length ≤ 10) : (tokD (Str.ofString a, Str.ofString b)).weight ≤ 12 := by rw [wt_tok]; show (Str.ofString a).length + (Str.ofString b).length + 2 ≤ 12; omega
theorem bad_text {ts : List Tk} (hg : GoodT ts) (hl : ts.length ≤ 100) {r : Int} (h0 : 0 ≤ r) (h1 : r < 6) : ∃ b q, dIx (.lst [.non, .str (Str.ofString "a"), .lst (ts.map tokV ++ [tokV (Str.ofString "#4", Str.ofString "a")]), .lst (tokV (Str.ofString "|0", Str.ofString "a") :: ts.map tokV), .int 7, .lst (.lst [.str (Str.ofString "#0"), .str (Str.ofString "a")] :: ts.map tokV)]) (.int r) S = .ok b .tr S ∧ BadT S b q := by
  have hw : PyData.weightAll (ts.map tokD) ≤ 35 * ts.length := U.wt_good hg.1
  have h6 : r = 0 ∨ r = 1 ∨ r = 2 ∨ r = 3 ∨ r = 4 ∨ r = 5 := by omega
  rcases h6 with rfl | rfl | rfl | rfl | rfl | rfl
  · exact ⟨_, _, rfl, py_non S, rfl, rfl, .non, by rw [wt_non]; decide⟩
  · exact ⟨_, _, rfl, py_str S _, rfl, rfl, .str (sok_of _), by rw [wt_str]; decide +kernel⟩
  · refine ⟨_, .list (ts.map tokD ++ [tokD (Str.ofString "#4", Str.ofString "a")]), rfl, py_lst (py_textA.app (.cons (py_tok S _) .nil)), ncs_app (nc_toks ts) rfl, ?_, .lst (n := 7) fun d hd => ?_, ?_⟩
    · show ((ts.map tokD ++ [tokD (Str.ofString "#4", Str.ofString "a")]).all tokenD && _) = false
      rw [List.all_append, List.all_cons, show tokenD (tokD (Str.ofString "#4", Str.ofString "a")) = false by decide +kernel]
      simp
    · rcases List.mem_append.mp hd with z | z
      · exact shp_toks hg d z
      · rw [List.mem_singleton.mp z]; exact (Shp.tok ⟨sok_of _, sok_of _⟩).le (by decide)
    · have := wt_tk "#4" "a" (by decide +kernel)
      rw [wt_list, wt_app, wt_cons, wt_nil]; omega
  · refine ⟨_, .list (tokD (Str.ofString "|0", Str.ofString "a") :: ts.map tokD), rfl, py_lst (.cons (py_tok S _) py_textA), ?_, ?_, .lst (n := 7) fun d hd => ?_, ?_⟩
    · show (noCel (tokV (Str.ofString "|0", Str.ofString "a")) && noCels (ts.map tokV)) = true
      rw [nc_toks]; rfl
    · show (_ && firstD (tokD (Str.ofString "|0", Str.ofString "a") :: ts.map tokD)) = false
      rw [show firstD (tokD (Str.ofString "|0", Str.ofString "a") :: ts.map tokD) = false by
        show hashD (.tuple [.str (Str.ofString "|0"), .str (Str.ofString "a")]) = false
        unfold hashD
        decide +kernel, Bool.and_false]
    · rcases List.mem_cons.mp hd with z | z
      · rw [z]; exact (Shp.tok ⟨sok_of _, sok_of _⟩).le (by decide)
      · exact shp_toks hg d z
    · have := wt_tk "|0" "a" (by decide +kernel)
      rw [wt_list, wt_cons]; omega
  · exact ⟨_, _, rfl, py_int S 7, rfl, rfl, shp_sm (by decide) (by decide), Nat.le_trans (wt_sm (by decide) (by decide)) (by decide)⟩
  · refine ⟨_, .list (.list [.str (Str.ofString "#0"), .str (Str.ofString "a")] :: ts.map tokD), rfl, py_lst (.cons (py_lst (.cons (py_str S _) (.cons (py_str S _) .nil))) py_textA), ?_, ?_, .lst (n := 7) fun d hd => ?_, ?_⟩
    · show (noCel (.lst [.str (Str.ofString "#0"), .str (Str.ofString "a")]) && noCels (ts.map tokV)) = true
      rw [nc_toks]; rfl
    · rfl
    · rcases List.mem_cons.mp hd with z | z
      · rw [z]
        refine .lst (n := 6) fun e he => ?_
        simp only [List.mem_cons, List.not_mem_nil, or_false] at he
        rcases he with rfl | rfl <;> exact .str (sok_of _)
      · exact shp_toks hg d z
    · rw [wt_list, wt_cons, wt_list, wt_cons, wt_cons, wt_nil, wt_str, wt_str, show (Str.ofString "#0").length = 2 by decide +kernel, show (Str.ofString "a").length = 1 by decide +kernel]; omega
theorem r_6 {d : D} {p : PyData} {ts : List Tk} (hg : GoodT ts) (hl : ts.length ≤ 100) (h : OddR S k d p) (hb : Box S k n) (hn : n ≤ 800000) {P s2 s4 s6 s7 : Sl} : ∃ t6 t7 S', rt_6 [.val (.cel k), .val (.lst (ts.map tokV)), s2, P, s4, .val d, s6, s7, .no, .no] S = .nx [.val (.cel k), .val (.lst (ts.map tokV)), s2, P, s4, .val d, t6, t7, .no, .no] S' ∧ Box S' k (n + 1) := by
  have hg1 := odd_good h
  have hT : IsT (.lst (ts.map tokV)) ts := .inl rfl
  have htl := f_told_row hT hg (by omega) h.py (by have := h.wt; omega) h.pat
  obtain ⟨r, S1, e1, r0, r1, b1, f1⟩ := f_take (m := 6) hb (by omega) (by decide) (by decide)
  have h' : OddR S1 k d p := by
    rcases h.cel with ⟨j, ds, ps, rfl, hj, hs, hn, hp, rfl, hl⟩ | ⟨hn, hne⟩
    · have hs' := f1.2 _ _ hj hs
      refine ⟨py_celN hs' hn (pya_nc hp hn), fun es he => ?_, h.pat, h.wt, h.sh, .inl ⟨j, ds, ps, rfl, hj, hs', hn, pya_nc hp hn, rfl, hl⟩⟩
      unfold sqOf at he
      simp only [hs'] at he
      cases he; exact hn
    · exact odd_els (py_nc h.py hn) hn hne h.pat h.wt h.sh
  obtain ⟨b, q, eb, hB⟩ := bad_text (S := S1) hg hl r0 r1
  obtain ⟨t7, S', e9, b9⟩ := r_9 (P := P) (s2 := s2) (s4 := s4) (s7 := s7) hT hg (by omega) h' hB b1
  refine ⟨.val b, t7, S', ?_, b9⟩
  have hlT : (ts.map tokV).length ≤ 100 := by rw [List.length_map]; exact hl
  generalize ts.map tokV = T at htl eb e9 hlT ⊢
  have hf : Okd (.bool false) := Shp.okd (n := 0) (.bl false) (by decide) (by rw [wt_bl]; decide)
  unfold rt_6
  walk_at "kk"
  rw [odd_pat h]
  walk_at "kk"
  rw [d_repr (py_bl S false) hf]
  walk_at "kk"
  rw [hg1]
  walk_at "kk"
  rw [d_repr (py_bl S false) hf]
  walk_at "kk"
  unfold rt_7
  walk_at "kk"
  rw [hg1]
  walk_at "kk"
  rw [htl]
  have ok : Okd (.list [.str (Str.ofString "row"), p]) := okd_two (sok_of _) (by decide +kernel) (h.sh.le (by decide)) (by have := h.wt; omega)
  walk_at "kk"
  rw [d_repr (py_two h.py) ok]
  walk_at "kk"
  rw [d_repr (py_two h.py) ok]
  walk_at "kk"
  unfold rt_8
  walk_at "kk"
  rw [d_add_lst (by show _ + 1 ≤ lim; exact Nat.le_trans (show _ ≤ 200 by omega) (by decide))]
  walk_at "kk"
  rw [d_add_lst (by show 1 + _ ≤ lim; exact Nat.le_trans (show _ ≤ 200 by omega) (by decide))]
  walk_at "kk"
  rw [d_add_lst (by show 1 + _ ≤ lim; exact Nat.le_trans (show _ ≤ 200 by omega) (by decide))]
  walk_at "kk"
  rw [d_lst (ds := [_, _, _, _, _, _]) (show 6 ≤ lim by decide)]
  walk_at "kk"
  rw [e1]
  walk_at "kk"
  unfold tokV at eb
  rw [eb]
  walk_at "kk"
  exact e9
end
section
variable {S : Sto} {k n : Nat}
theorem r_0 {ts : List Tk} (hg : GoodT ts) (hl : ts.length ≤ 100) (hb : Box S k n) (hn : n ≤ 400000) {s2 s3 s4 s5 s6 s7 : Sl} : ∃ t3 t4 t5 t6 t7 S', rt_0 [.val (.cel k), .val (.lst (ts.map tokV)), s2, s3, s4, s5, s6, s7, .no, .no] S = .nx [.val (.cel k), .val (.lst (ts.map tokV)), s2, t3, t4, t5, t6, t7, .no, .no] S' ∧ Box S' k (n + 300) := by
  obtain ⟨its, S1, e1, hi, h1, h2, b1, f1⟩ := f_pattern (ts := ts) hb (by omega) hg.1 (by omega)
  obtain ⟨d, p, S2, ea, ho, b2, f2⟩ := f_spoilt b1 (by omega) hi h1 h2
  obtain ⟨t6, t7, S3, e6, b6⟩ := r_6 (P := .val (.lst (its.map Itm.v))) (s2 := s2) (s4 := .val (.str (PyData.list [textD ts, .list (its.map Itm.p)]).shown)) (s6 := s6) (s7 := s7) hg hl ho b2 (by omega)
  refine ⟨.val (.lst (its.map Itm.v)), .val (.str (PyData.list [textD ts, .list (its.map Itm.p)]).shown), .val d, t6, t7, S3, ?_, b6.le (by omega)⟩
  have hw1 := wt_text ts
  have hw2 : PyData.weightAll (ts.map tokD) ≤ 35 * ts.length := U.wt_good hg.1
  have hw3 := wt_itms hi
  have hpy : Py S1 (.lst [.lst (ts.map tokV), .lst (its.map Itm.v)]) (.list [textD ts, .list (its.map Itm.p)]) := py_lst (.cons (py_text S1 ts) (.cons (py_lst (py_itms S1 its)) .nil))
  have hok : Okd (.list [textD ts, .list (its.map Itm.p)]) := by
    refine Shp.okd (.lst (n := 8) fun e he => ?_) (by decide) (by rw [wt_list, wt_cons, wt_cons, wt_nil, wt_list]; omega)
    simp only [List.mem_cons, List.not_mem_nil, or_false] at he
    rcases he with rfl | rfl
    · exact (Shp.text hg.sok).le (by decide)
    · refine .lst (n := 7) fun e he => ?_
      obtain ⟨i, hi', rfl⟩ := List.mem_map.mp he
      exact (shp_itm (hi i hi')).le (by decide)
  have hp := pat_its hi h1 h2
  have ep := f_is_pattern (S := S1) (py_lst (py_itms S1 its)) (by rw [wt_list]; omega)
  have ep2 := f_is_pattern (S := S1) (py_tup (py_itms S1 its)) (by rw [wt_tup]; omega)
  rw [hp.1] at ep
  rw [hp.2] at ep2
  have et := f_told (S := S1) (.inl rfl) (.inl rfl) hg hi (by omega) h1 h2
  have et2 := f_told (S := S1) (.inr rfl) (.inr rfl) hg hi (by omega) h1 h2
  have ed := f_due (S := S1) (its := its) (good_len hg) (by omega) h2 h1
  have eq : dEqv true (.lst (plD ts its)) (.lst (plD ts its)) S1 = .ok (.bl false) .tr S1 := by
    have := d_eq_ints (neg := true) (S := S1) ((plc ts its).map fun k => ((k : Nat) : Int)) ((plc ts its).map fun k => ((k : Nat) : Int))
    rw [List.map_map, decide_eq_true rfl] at this
    exact this
  generalize plD ts its = L at et et2 ed eq
  generalize its.map Itm.v = I at e1 ea e6 hpy ep ep2 et et2 ed ⊢
  generalize ts.map tokV = T at e1 e6 hpy et et2 ed ⊢
  unfold rt_0
  walk_at "kk"
  rw [e1]
  walk_at "kk"
  unfold rt_1
  walk_at "kk"
  rw [d_repr hpy hok]
  walk_at "kk"
  unfold rt_2
  walk_at "kk"
  rw [ep]
  walk_at "kk"
  rw [ep2]
  walk_at "kk"
  unfold rt_3
  walk_at "kk"
  rw [et]
  walk_at "kk"
  rw [ed]
  walk_at "kk"
  rw [eq]
  walk_at "kk"
  rw [d_repr hpy hok]
  walk_at "kk"
  unfold rt_4
  walk_at "kk"
  rw [et2]
  walk_at "kk"
  rw [ed]
  walk_at "kk"
  rw [eq]
  walk_at "kk"
  unfold rt_5
  walk_at "kk"
  rw [ea]
  walk_at "kk"
  exact e6
theorem r_loop {ts : List Tk} (hg : GoodT ts) (hl : ts.length ≤ 100) (hb : Box S k n) (hn : n ≤ 300000) : ∃ S', kNox (kRun (b__law_right_2 [.val (.cel k), .val (.lst (ts.map tokV)), .no, .no, .no, .no, .no, .no, .no, .no] S)) = .ok (.bl true) .tr S' := by
  obtain ⟨ρ', S', e, t2, t3, t4, t5, t6, t7, rfl, b'⟩ := loop_inv (g := none) (set := gN 2) (ds := rngD 0 3) (body := rt_0)
    (fun i ρ S' => ∃ t2 t3 t4 t5 t6 t7, ρ = [.val (.cel k), .val (.lst (ts.map tokV)), t2, t3, t4, t5, t6, t7, .no, .no] ∧ Box S' k (n + 300 * i)) (fun _ _ _ _ => trivial) (by
      rintro i d ρ S1 hd ⟨t2, t3, t4, t5, t6, t7, rfl, h3⟩
      have hi := (List.getElem?_eq_some_iff.mp hd).1
      rw [rng_len] at hi
      obtain ⟨u3, u4, u5, u6, u7, S2, e2, b2⟩ := r_0 hg hl h3 (by omega) (s2 := .val d) (s3 := t3) (s4 := t4) (s5 := t5) (s6 := t6) (s7 := t7)
      exact ⟨_, _, S2, rfl, .inl e2, _, _, _, _, _, _, rfl, b2.le (by omega)⟩) (ρ := [.val (.cel k), .val (.lst (ts.map tokV)), .no, .no, .no, .no, .no, .no, .no, .no]) (S := S) ⟨_, _, _, _, _, _, rfl, hb⟩
  refine ⟨S', ?_⟩
  generalize ts.map tokV = T at e ⊢
  unfold b__law_right_2
  rw [v_seq, v_for, show fRng1 (fCons (fC (.int 3)) (fNil)) [.val (.cel k), .val (.lst T), .no, .no, .no, .no, .no, .no, .no, .no] S = .ok (rngD 0 3) none S by walk_at "kk"; rw [v_rng1a (by decide) (by decide)]; rfl, v_for1]
  refine Eq.trans (congrArg (fun r => kNox (kRun (bS r b__law_right_3))) e) ?_
  walk_at "kk"
  unfold b__law_right_3
  walk_at "kk"
theorem cut_word {z : Str} (h : isWord z = true) : isWord (cutS z none (some 2)) = true ∧ z.length ≤ lim := by
  have hl := word_len h
  refine ⟨?_, Nat.le_trans hl.2 (by decide)⟩
  have e : sl (cutS z none (some 2)) = (sl z).take 2 := sl_upto z 2
  have el : (cutS z none (some 2)).length = min 2 z.length := by rw [sl_len, e, List.length_take, ← sl_len]
  unfold isWord at h ⊢
  simp only [Bool.and_eq_true, decide_eq_true_eq] at h ⊢
  refine ⟨⟨by omega, by omega⟩, ?_⟩
  have h2 := h.2
  rw [List.all_eq_true] at h2 ⊢
  intro c hc
  have hc : c ∈ sl (cutS z none (some 2)) := hc
  rw [e] at hc
  exact h2 c (List.mem_of_mem_take hc)
theorem tx_lc {ts : List Tk} (ho : Okt ts) (hl : ts.length ≤ 100) (hb : Box S k n) (hn : n ≤ 300000) {a2 a3 a4 a5 a6 a7 a8 a9 : Sl} : ∃ us S', fLc (fIter (fSl (fVar 1) (fPart (fC (.int 1))) (fNoPart))) (gT 2 (gsCons (gN 9) (gsCons (gN 8) (gsNil)))) (fC (.bl true)) (fTup (fCons (fOp dIx (fLst (fCons (fC (.str " ")) (fCons (fC (.str "/0")) (fNil)))) (fCall F__law_take [] (fCons (fVar 0) (fCons (fC (.int 2)) (fNil))))) (fCons (fSl (fVar 8) (fNoPart) (fPart (fC (.int 2)))) (fNil)))) [9, 8] [.val (.cel k), .val (.lst (ts.map tokV)), a2, a3, a4, a5, a6, a7, a8, a9] S = .ok (.lst (us.map tokV)) .fs S' ∧ Okt us ∧ us.length = ts.length - 1 ∧ Box S' k (n + 100) := by
  have hd1 : Fx.cutD (ts.map tokV) (some 1) none = (ts.drop 1).map tokV := by rw [show (1 : Int) = ((1 : Nat) : Int) from rfl, cutD_from, List.map_drop]
  obtain ⟨acc, S2, e2, us, hacc, hz, hlen, b2⟩ := lc_inv (vs := [9, 8]) (it := fIter (fSl (fVar 1) (fPart (fC (.int 1))) (fNoPart))) (ρ := [.val (.cel k), .val (.lst (ts.map tokV)), a2, a3, a4, a5, a6, a7, a8, a9]) (S := S) (S1 := S) (g := none) (ds := (ts.drop 1).map tokV)
    (step := step1 (gT 2 (gsCons (gN 9) (gsCons (gN 8) (gsNil)))) (fC (.bl true)) (fTup (fCons (fOp dIx (fLst (fCons (fC (.str " ")) (fCons (fC (.str "/0")) (fNil)))) (fCall F__law_take [] (fCons (fVar 0) (fCons (fC (.int 2)) (fNil))))) (fCons (fSl (fVar 8) (fNoPart) (fPart (fC (.int 2)))) (fNil)))))
    (by
      generalize ts.map tokV = T at hd1 ⊢
      walk_at "kk"
      rw [hd1])
    (fun i acc S' => ∃ us : List Tk, acc = us.map tokV ∧ Okt us ∧ us.length = i ∧ Box S' k (n + i)) (fun _ _ _ _ => trivial) (by
      rintro i d acc S' hd ⟨us, rfl, hz, rfl, bz⟩
      have hi := (List.getElem?_eq_some_iff.mp hd).1
      rw [List.length_map] at hi
      rw [List.getElem?_map, List.getElem?_eq_getElem hi] at hd
      cases hd
      have ht := ho _ (List.mem_of_mem_drop (List.getElem_mem hi))
      have hlen : us.length < 100 := by rw [List.length_drop] at hi; omega
      generalize (ts.drop 1)[us.length] = t at ht ⊢
      obtain ⟨r, S3, e3, r0, r1, b3, f3⟩ := f_take (m := 2) bz (by omega) (by decide) (by decide)
      obtain ⟨c1, c2⟩ := cut_word ht.2
      obtain ⟨m, em, hm⟩ : ∃ m : Str, dIx (.lst [.str (Str.ofString " "), .str (Str.ofString "/0")]) (.int r) S3 = .ok (.str m) .tr S3 ∧ isMark m = true := by
        have : r = 0 ∨ r = 1 := by omega
        rcases this with rfl | rfl
        · exact ⟨_, rfl, by decide +kernel⟩
        · exact ⟨_, rfl, by decide +kernel⟩
      refine ⟨_, S3, step_one (ρ1 := [.val (.cel k), .val (.lst (ts.map tokV)), a2, a3, a4, a5, a6, a7, .val (.str t.2), .val (.str t.1)]) (y := tokV (m, cutS t.2 none (some 2))) (f := .tr) rfl ?_ rfl (by rw [List.length_map]; exact Nat.lt_of_lt_of_le hlen (by decide)), us ++ [(m, cutS t.2 none (some 2))], by rw [List.map_append]; rfl, fun t' ht' => ?_, by rw [List.length_append]; rfl, b3.le (by omega)⟩
      · generalize ts.map tokV = T
        walk_at "kk"
        rw [e3]
        walk_at "kk"
        rw [em]
        walk_at "kk"
        rw [d_sl_str c2]
        walk_at "kk"
        rfl
      · rcases List.mem_append.mp ht' with q | q
        · exact hz t' q
        · rw [List.mem_singleton.mp q]; exact ⟨hm, c1⟩) ⟨[], rfl, fun _ h => (nomatch h), rfl, hb⟩
  rw [List.length_map, List.length_drop] at hlen b2
  exact ⟨us, S2, by rw [← hacc]; exact e2, hz, hlen, b2.le (by omega)⟩
theorem f_right (hb : Box S k n) (hn : n ≤ 1000) : ∃ S', F__law_right [.cel k] S = .ok (.bl true) .tr S' := by
  obtain ⟨r, S1, e1, r0, r1, b1, f1⟩ := f_take (m := 25) hb (by omega) (by decide) (by decide)
  obtain ⟨q, S2, e2, q0, q1, b2, f2⟩ := f_take (m := 3) b1 (by omega) (by decide) (by decide)
  obtain ⟨c, ec, hc⟩ : ∃ c : Int, dIx (.lst [.int 2, .int 5, .int 30]) (.int q) S2 = .ok (.int c) .tr S2 ∧ 0 < c ∧ c ≤ 30 := by
    have : q = 0 ∨ q = 1 ∨ q = 2 := by omega
    rcases this with rfl | rfl | rfl
    · exact ⟨_, d_ix_lst (pick_at (i := 0) rfl), by decide, by decide⟩
    · exact ⟨_, d_ix_lst (pick_at (i := 1) rfl), by decide, by decide⟩
    · exact ⟨_, d_ix_lst (pick_at (i := 2) rfl), by decide, by decide⟩
  obtain ⟨ts, S3, e3, hg, hlen, _, b3, f3⟩ := f_text (many := r) (most := c) b2 (by omega) r0 (by omega) hc.1 hc.2
  obtain ⟨w, S4, e4, w0, w1, b4, f4⟩ := f_take (m := 2) b3 (by omega) (by decide) (by decide)
  have fin : ∃ S', kNox (kRun (b__law_right_1 [.val (.cel k), .val (.lst (ts.map tokV)), .no, .no, .no, .no, .no, .no, .no, .no] S3)) = .ok (.bl true) .tr S' := by
    by_cases hw : w = 0
    · obtain ⟨us, S5, e5, hu, hul, b5⟩ := tx_lc (ts := ts) hg.1 (by omega) b4 (by omega) (a2 := .no) (a3 := .no) (a4 := .no) (a5 := .no) (a6 := .no) (a7 := .no) (a8 := .no) (a9 := .no)
      have hgn : GoodT (ts.take 1 ++ us) := by
        refine ⟨fun t ht => ?_, fun t ht => ?_⟩
        · rcases List.mem_append.mp ht with z | z
          · exact hg.1 t (List.mem_of_mem_take z)
          · exact hu t z
        · cases ts with
          | nil =>
            have : us = [] := List.length_eq_zero_iff.mp hul
            rw [this] at ht; cases ht
          | cons a r => exact hg.2 t ht
      have hln : (ts.take 1 ++ us).length ≤ 100 := by rw [List.length_append, List.length_take]; omega
      obtain ⟨S', e6⟩ := r_loop hgn hln b5 (by omega)
      refine ⟨S', ?_⟩
      have hd1 : Fx.cutD (ts.map tokV) none (some 1) ++ us.map tokV = (ts.take 1 ++ us).map tokV := by rw [show (1 : Int) = ((1 : Nat) : Int) from rfl, cutD_upto, List.map_append, List.map_take]
      have hd2 : (Fx.cutD (ts.map tokV) none (some 1)).length + (us.map tokV).length ≤ lim := by
        rw [← List.length_append, hd1, List.length_map]; exact Nat.le_trans hln (by decide)
      rw [← hd1] at e6
      generalize ts.map tokV = T at e5 e6 hd2 ⊢
      generalize us.map tokV = U at e5 e6 hd2 ⊢
      unfold b__law_right_1
      walk_at "kk"
      rw [e4]
      walk_at "kk"
      rw [decide_eq_true hw]
      walk_at "kk"
      rw [e5]
      walk_at "kk"
      rw [d_add_lst hd2]
      walk_at "kk"
      exact e6
    · obtain ⟨S', e6⟩ := r_loop hg (by omega) b4 (by omega)
      refine ⟨S', ?_⟩
      generalize ts.map tokV = T at e6 ⊢
      unfold b__law_right_1
      walk_at "kk"
      rw [e4]
      walk_at "kk"
      rw [decide_eq_false hw]
      walk_at "kk"
      exact e6
  obtain ⟨S', e⟩ := fin
  refine ⟨S', ?_⟩
  generalize ts.map tokV = T at e3 e
  unfold F__law_right b__law_right
  walk_at "kk"
  rw [e1]
  walk_at "kk"
  rw [e2]
  walk_at "kk"
  rw [ec]
  walk_at "kk"
  rw [e3]
  walk_at "kk"
  exact e
end
theorem law_true (ns : List Int) (hl : ns.length ≤ 63) : ∃ fl S', F_law [.fro true (intsD ns)] [] = .ok (.bl true) fl S' := by
  unfold F_law b_law
  walk_at "ev"
  have hil : (intsD ns).length ≤ 63 := by unfold intsD; rw [List.length_map]; exact hl
  generalize hN : (if (if ((intsD ns).length : Int) < 16 then ((intsD ns).length : Int) else 16) > 2 then (if ((intsD ns).length : Int) < 16 then ((intsD ns).length : Int) else 16) else 2) = N
  have hN' : 0 ≤ N ∧ N ≤ 32 := by rw [← hN]; split <;> split <;> omega
  rw [v_rng1a (by omega) (by omega)]
  walk_at "ev"
  obtain ⟨ρ', S', e, s1, rfl⟩ := loop_inv (g := none) (set := gN 1) (ds := rngD 0 N.toNat)
    (body := sIf (fNot (fCall F__law_right [] (fCons (fAdo (fCall F__law_purse [] (fCons (fCall F__law_cell [] (fCons (fVar 0) (fCons (fVar 1) (fNil)))) (fNil)))) (fNil)))) (sRet (fC (.bl false))) (sNext))
    (fun i ρ S' => ∃ s1, ρ = [.val (.fro true (intsD ns)), s1]) (fun _ _ _ _ => trivial) (by
      rintro i d ρ S1 hd ⟨s1, rfl⟩
      have hi := (List.getElem?_eq_some_iff.mp hd).1
      rw [rng_len] at hi
      rw [rng_at hi] at hd
      cases hd
      rw [Int.zero_add]
      obtain ⟨c, ec⟩ := f_cell (ns := ns) (k := ((i : Nat) : Int)) (S := S1) (by omega) (by omega)
      obtain ⟨ds, ep, x, y, rfl, hx, hy, hy2⟩ := f_purse (c := c) (S := S1)
      have hb : Box (S1 ++ [.lst [.int x, .int y, .int 0]]) S1.length 0 := ⟨x, y, 0, by rw [List.getElem?_append_right (Nat.le_refl _), Nat.sub_self]; rfl, hx, hy, hy2, by decide, by decide⟩
      obtain ⟨S2, e2⟩ := f_right hb (by decide)
      refine ⟨[.val (.fro true (intsD ns)), .val (.int ((i : Nat) : Int))], [.val (.fro true (intsD ns)), .val (.int ((i : Nat) : Int))], S2, rfl, .inl ?_, .val (.int ((i : Nat) : Int)), rfl⟩
      walk_at "ev"
      rw [ec]
      walk_at "ev"
      rw [ep]
      walk_at "ev"
      rw [e2]
      walk_at "ev") (ρ := [.val (.fro true (intsD ns)), .no]) (S := []) ⟨_, rfl⟩
  rw [e]
  walk_at "ev"
  exact ⟨_, _, rfl⟩
theorem all_mk {l : PySem.W.OpenLaw} {w : World} {K : PySem.W.Frag} {h : Heap} {mg : Str → Option Value} {fa : Addr} (X : K.In h) (G : h.Ns mainGlobals mg) (hfa : mg "law" = some (.ref fa))
    {C0 : Addr}
    {C1 : Addr}
    {C2 : Addr}
    {f0 : Addr} {od0 an0 : Option Addr} {sl0 : Array (Option Value)} {oc0 dc0 pm0 cd0 ct0 : Value} {kV0 : Value}
    {f1 : Addr} {od1 an1 : Option Addr} {sl1 : Array (Option Value)} {oc1 dc1 pm1 cd1 ct1 : Value} {kV1 : Value}
    {f2 : Addr} {od2 an2 : Option Addr} {sl2 : Array (Option Value)} {oc2 dc2 pm2 cd2 ct2 : Value} {kV2 : Value}
    {f3 : Addr} {od3 an3 : Option Addr} {sl3 : Array (Option Value)} {oc3 dc3 pm3 cd3 ct3 : Value} {kV3 : Value}
    {f4 : Addr} {od4 an4 : Option Addr} {sl4 : Array (Option Value)} {oc4 dc4 pm4 cd4 ct4 : Value} {kV4 : Value}
    {f5 : Addr} {od5 an5 : Option Addr} {sl5 : Array (Option Value)} {oc5 dc5 pm5 cd5 ct5 : Value} {kV5 : Value}
    {f6 : Addr} {od6 an6 : Option Addr} {sl6 : Array (Option Value)} {oc6 dc6 pm6 cd6 ct6 : Value} {kV6 : Value}
    {f7 : Addr} {od7 an7 : Option Addr} {sl7 : Array (Option Value)} {oc7 dc7 pm7 cd7 ct7 : Value} {kV7 : Value}
    {f8 : Addr} {od8 an8 : Option Addr} {sl8 : Array (Option Value)} {oc8 dc8 pm8 cd8 ct8 : Value} {kV8 : Value}
    {f9 : Addr} {od9 an9 : Option Addr} {sl9 : Array (Option Value)} {oc9 dc9 pm9 cd9 ct9 : Value} {kV9 : Value}
    {f10 : Addr} {od10 an10 : Option Addr} {sl10 : Array (Option Value)} {oc10 dc10 pm10 cd10 ct10 : Value} {kV10 : Value}
    {f11 : Addr} {od11 an11 : Option Addr} {sl11 : Array (Option Value)} {oc11 dc11 pm11 cd11 ct11 : Value} {kV11 : Value}
    {f12 : Addr} {od12 an12 : Option Addr} {sl12 : Array (Option Value)} {oc12 dc12 pm12 cd12 ct12 : Value} {kV12 : Value}
    {f13 : Addr} {od13 an13 : Option Addr} {sl13 : Array (Option Value)} {oc13 dc13 pm13 cd13 ct13 : Value} {kV13 : Value}
    {f14 : Addr} {od14 an14 : Option Addr} {sl14 : Array (Option Value)} {oc14 dc14 pm14 cd14 ct14 : Value} {kV14 : Value}
    {f15 : Addr} {od15 an15 : Option Addr} {sl15 : Array (Option Value)} {oc15 dc15 pm15 cd15 ct15 : Value} {kV15 : Value}
    {f16 : Addr} {od16 an16 : Option Addr} {sl16 : Array (Option Value)} {oc16 dc16 pm16 cd16 ct16 : Value} {kV16 : Value}
    {f17 : Addr} {od17 an17 : Option Addr} {sl17 : Array (Option Value)} {oc17 dc17 pm17 cd17 ct17 : Value} {kV17 : Value}
    {f18 : Addr} {od18 an18 : Option Addr} {sl18 : Array (Option Value)} {oc18 dc18 pm18 cd18 ct18 : Value} {kV18 : Value}
    {f19 : Addr} {od19 an19 : Option Addr} {sl19 : Array (Option Value)} {oc19 dc19 pm19 cd19 ct19 : Value} {kV19 : Value}
    {f20 : Addr} {od20 an20 : Option Addr} {sl20 : Array (Option Value)} {oc20 dc20 pm20 cd20 ct20 : Value} {kV20 : Value}
    {f21 : Addr} {od21 an21 : Option Addr} {sl21 : Array (Option Value)} {oc21 dc21 pm21 cd21 ct21 : Value} {kV21 : Value}
    {f22 : Addr} {od22 an22 : Option Addr} {sl22 : Array (Option Value)} {oc22 dc22 pm22 cd22 ct22 : Value} {kV22 : Value}
    {f23 : Addr} {od23 an23 : Option Addr} {sl23 : Array (Option Value)} {oc23 dc23 pm23 cd23 ct23 : Value} {kV23 : Value}
    {f24 : Addr} {od24 an24 : Option Addr} {sl24 : Array (Option Value)} {oc24 dc24 pm24 cd24 ct24 : Value} {kV24 : Value}
    {f25 : Addr} {od25 an25 : Option Addr} {sl25 : Array (Option Value)} {oc25 dc25 pm25 cd25 ct25 : Value} {kV25 : Value}
    {f26 : Addr} {od26 an26 : Option Addr} {sl26 : Array (Option Value)} {oc26 dc26 pm26 cd26 ct26 : Value} {kV26 : Value}
    {nm1 q1 : Str} {NN1 : Addr} {bs1 : List Value} {sn1 : List Str} {sub1 : List Value} {ab1 : Bool} {col1 : Option Bool} {dd1 : Option Addr} {m01 m11 m21 m31 m51 : Option Value}
    {f27 : Addr} {od27 an27 : Option Addr} {sl27 : Array (Option Value)} {oc27 kV27 dc27 pm27 cd27 ct27 : Value}
    {nm2 q2 : Str} {NN2 : Addr} {bs2 : List Value} {sn2 : List Str} {sub2 : List Value} {ab2 : Bool} {col2 : Option Bool} {dd2 : Option Addr} {m02 m12 m22 m32 m52 : Option Value}
    {f28 : Addr} {od28 an28 : Option Addr} {sl28 : Array (Option Value)} {oc28 kV28 dc28 pm28 cd28 ct28 : Value}
    {tk0 : Tok}
    {tk1 : Tok}
    {tk2 : Tok}
    {tk3 : Tok}
    (gC0 : PySem.W.nsIn K mainGlobals "ReflowError" = some (some (.ref C0)))
    (gC1 : PySem.W.nsIn K mainGlobals "InvalidText" = some (some (.ref C1)))
    (gC2 : PySem.W.nsIn K mainGlobals "InvalidRow" = some (some (.ref C2)))
    (a0 : PySem.W.nsIn K mainGlobals "is_integer" = some (some (.ref f0)))
    (l0 : K.lookup f0 = some ⟨oc0, od0, .func (PySem.W.fnOf "is_integer" "is_integer" (defArgs s_is_integer) (defBody s_is_integer) (defScope s_is_integer) .none kV0 dc0 pm0 an0 cd0 ct0), sl0⟩)
    (c0 : PySem.W.codeIn K cd0 "is_integer" = true)
    (k0 : PySem.W.keepIn K (.ref f0) = true)
    (a1 : PySem.W.nsIn K mainGlobals "is_word" = some (some (.ref f1)))
    (l1 : K.lookup f1 = some ⟨oc1, od1, .func (PySem.W.fnOf "is_word" "is_word" (defArgs s_is_word) (defBody s_is_word) (defScope s_is_word) .none kV1 dc1 pm1 an1 cd1 ct1), sl1⟩)
    (c1 : PySem.W.codeIn K cd1 "is_word" = true)
    (k1 : PySem.W.keepIn K (.ref f1) = true)
    (a2 : PySem.W.nsIn K mainGlobals "is_mark" = some (some (.ref f2)))
    (l2 : K.lookup f2 = some ⟨oc2, od2, .func (PySem.W.fnOf "is_mark" "is_mark" (defArgs s_is_mark) (defBody s_is_mark) (defScope s_is_mark) .none kV2 dc2 pm2 an2 cd2 ct2), sl2⟩)
    (c2 : PySem.W.codeIn K cd2 "is_mark" = true)
    (k2 : PySem.W.keepIn K (.ref f2) = true)
    (a3 : PySem.W.nsIn K mainGlobals "is_token" = some (some (.ref f3)))
    (l3 : K.lookup f3 = some ⟨oc3, od3, .func (PySem.W.fnOf "is_token" "is_token" (defArgs s_is_token) (defBody s_is_token) (defScope s_is_token) .none kV3 dc3 pm3 an3 cd3 ct3), sl3⟩)
    (c3 : PySem.W.codeIn K cd3 "is_token" = true)
    (k3 : PySem.W.keepIn K (.ref f3) = true)
    (a4 : PySem.W.nsIn K mainGlobals "is_text" = some (some (.ref f4)))
    (l4 : K.lookup f4 = some ⟨oc4, od4, .func (PySem.W.fnOf "is_text" "is_text" (defArgs s_is_text) (defBody s_is_text) (defScope s_is_text) .none kV4 dc4 pm4 an4 cd4 ct4), sl4⟩)
    (c4 : PySem.W.codeIn K cd4 "is_text" = true)
    (k4 : PySem.W.keepIn K (.ref f4) = true)
    (a5 : PySem.W.nsIn K mainGlobals "need_text" = some (some (.ref f5)))
    (l5 : K.lookup f5 = some ⟨oc5, od5, .func (PySem.W.fnOf "need_text" "need_text" (defArgs s_need_text) (defBody s_need_text) (defScope s_need_text) .none kV5 dc5 pm5 an5 cd5 ct5), sl5⟩)
    (c5 : PySem.W.codeIn K cd5 "need_text" = true)
    (k5 : PySem.W.keepIn K (.ref f5) = true)
    (a6 : PySem.W.nsIn K mainGlobals "is_item" = some (some (.ref f6)))
    (l6 : K.lookup f6 = some ⟨oc6, od6, .func (PySem.W.fnOf "is_item" "is_item" (defArgs s_is_item) (defBody s_is_item) (defScope s_is_item) .none kV6 dc6 pm6 an6 cd6 ct6), sl6⟩)
    (c6 : PySem.W.codeIn K cd6 "is_item" = true)
    (k6 : PySem.W.keepIn K (.ref f6) = true)
    (a7 : PySem.W.nsIn K mainGlobals "is_pattern" = some (some (.ref f7)))
    (l7 : K.lookup f7 = some ⟨oc7, od7, .func (PySem.W.fnOf "is_pattern" "is_pattern" (defArgs s_is_pattern) (defBody s_is_pattern) (defScope s_is_pattern) .none kV7 dc7 pm7 an7 cd7 ct7), sl7⟩)
    (c7 : PySem.W.codeIn K cd7 "is_pattern" = true)
    (k7 : PySem.W.keepIn K (.ref f7) = true)
    (a8 : PySem.W.nsIn K mainGlobals "need_pattern" = some (some (.ref f8)))
    (l8 : K.lookup f8 = some ⟨oc8, od8, .func (PySem.W.fnOf "need_pattern" "need_pattern" (defArgs s_need_pattern) (defBody s_need_pattern) (defScope s_need_pattern) .none kV8 dc8 pm8 an8 cd8 ct8), sl8⟩)
    (c8 : PySem.W.codeIn K cd8 "need_pattern" = true)
    (k8 : PySem.W.keepIn K (.ref f8) = true)
    (a9 : PySem.W.nsIn K mainGlobals "is_of" = some (some (.ref f9)))
    (l9 : K.lookup f9 = some ⟨oc9, od9, .func (PySem.W.fnOf "is_of" "is_of" (defArgs s_is_of) (defBody s_is_of) (defScope s_is_of) .none kV9 dc9 pm9 an9 cd9 ct9), sl9⟩)
    (c9 : PySem.W.codeIn K cd9 "is_of" = true)
    (k9 : PySem.W.keepIn K (.ref f9) = true)
    (a10 : PySem.W.nsIn K mainGlobals "pattern_places" = some (some (.ref f10)))
    (l10 : K.lookup f10 = some ⟨oc10, od10, .func (PySem.W.fnOf "pattern_places" "pattern_places" (defArgs s_pattern_places) (defBody s_pattern_places) (defScope s_pattern_places) .none kV10 dc10 pm10 an10 cd10 ct10), sl10⟩)
    (c10 : PySem.W.codeIn K cd10 "pattern_places" = true)
    (k10 : PySem.W.keepIn K (.ref f10) = true)
    (a11 : PySem.W.nsIn K mainGlobals "_law_cell" = some (some (.ref f11)))
    (l11 : K.lookup f11 = some ⟨oc11, od11, .func (PySem.W.fnOf "_law_cell" "_law_cell" (defArgs s__law_cell) (defBody s__law_cell) (defScope s__law_cell) .none kV11 dc11 pm11 an11 cd11 ct11), sl11⟩)
    (c11 : PySem.W.codeIn K cd11 "_law_cell" = true)
    (k11 : PySem.W.keepIn K (.ref f11) = true)
    (a12 : PySem.W.nsIn K mainGlobals "_law_purse" = some (some (.ref f12)))
    (l12 : K.lookup f12 = some ⟨oc12, od12, .func (PySem.W.fnOf "_law_purse" "_law_purse" (defArgs s__law_purse) (defBody s__law_purse) (defScope s__law_purse) .none kV12 dc12 pm12 an12 cd12 ct12), sl12⟩)
    (c12 : PySem.W.codeIn K cd12 "_law_purse" = true)
    (k12 : PySem.W.keepIn K (.ref f12) = true)
    (a13 : PySem.W.nsIn K mainGlobals "_law_take" = some (some (.ref f13)))
    (l13 : K.lookup f13 = some ⟨oc13, od13, .func (PySem.W.fnOf "_law_take" "_law_take" (defArgs s__law_take) (defBody s__law_take) (defScope s__law_take) .none kV13 dc13 pm13 an13 cd13 ct13), sl13⟩)
    (c13 : PySem.W.codeIn K cd13 "_law_take" = true)
    (k13 : PySem.W.keepIn K (.ref f13) = true)
    (a14 : PySem.W.nsIn K mainGlobals "_law_all_marks" = some (some (.ref f14)))
    (l14 : K.lookup f14 = some ⟨oc14, od14, .func (PySem.W.fnOf "_law_all_marks" "_law_all_marks" (defArgs s__law_all_marks) (defBody s__law_all_marks) (defScope s__law_all_marks) .none kV14 dc14 pm14 an14 cd14 ct14), sl14⟩)
    (c14 : PySem.W.codeIn K cd14 "_law_all_marks" = true)
    (k14 : PySem.W.keepIn K (.ref f14) = true)
    (a15 : PySem.W.nsIn K mainGlobals "_law_mark" = some (some (.ref f15)))
    (l15 : K.lookup f15 = some ⟨oc15, od15, .func (PySem.W.fnOf "_law_mark" "_law_mark" (defArgs s__law_mark) (defBody s__law_mark) (defScope s__law_mark) .none kV15 dc15 pm15 an15 cd15 ct15), sl15⟩)
    (c15 : PySem.W.codeIn K cd15 "_law_mark" = true)
    (k15 : PySem.W.keepIn K (.ref f15) = true)
    (a16 : PySem.W.nsIn K mainGlobals "_law_word" = some (some (.ref f16)))
    (l16 : K.lookup f16 = some ⟨oc16, od16, .func (PySem.W.fnOf "_law_word" "_law_word" (defArgs s__law_word) (defBody s__law_word) (defScope s__law_word) .none kV16 dc16 pm16 an16 cd16 ct16), sl16⟩)
    (c16 : PySem.W.codeIn K cd16 "_law_word" = true)
    (k16 : PySem.W.keepIn K (.ref f16) = true)
    (a17 : PySem.W.nsIn K mainGlobals "_law_text" = some (some (.ref f17)))
    (l17 : K.lookup f17 = some ⟨oc17, od17, .func (PySem.W.fnOf "_law_text" "_law_text" (defArgs s__law_text) (defBody s__law_text) (defScope s__law_text) .none kV17 dc17 pm17 an17 cd17 ct17), sl17⟩)
    (c17 : PySem.W.codeIn K cd17 "_law_text" = true)
    (k17 : PySem.W.keepIn K (.ref f17) = true)
    (a18 : PySem.W.nsIn K mainGlobals "_law_is_length" = some (some (.ref f18)))
    (l18 : K.lookup f18 = some ⟨oc18, od18, .func (PySem.W.fnOf "_law_is_length" "_law_is_length" (defArgs s__law_is_length) (defBody s__law_is_length) (defScope s__law_is_length) .none kV18 dc18 pm18 an18 cd18 ct18), sl18⟩)
    (c18 : PySem.W.codeIn K cd18 "_law_is_length" = true)
    (k18 : PySem.W.keepIn K (.ref f18) = true)
    (a19 : PySem.W.nsIn K mainGlobals "_law_good_item" = some (some (.ref f19)))
    (l19 : K.lookup f19 = some ⟨oc19, od19, .func (PySem.W.fnOf "_law_good_item" "_law_good_item" (defArgs s__law_good_item) (defBody s__law_good_item) (defScope s__law_good_item) .none kV19 dc19 pm19 an19 cd19 ct19), sl19⟩)
    (c19 : PySem.W.codeIn K cd19 "_law_good_item" = true)
    (k19 : PySem.W.keepIn K (.ref f19) = true)
    (a20 : PySem.W.nsIn K mainGlobals "_law_good" = some (some (.ref f20)))
    (l20 : K.lookup f20 = some ⟨oc20, od20, .func (PySem.W.fnOf "_law_good" "_law_good" (defArgs s__law_good) (defBody s__law_good) (defScope s__law_good) .none kV20 dc20 pm20 an20 cd20 ct20), sl20⟩)
    (c20 : PySem.W.codeIn K cd20 "_law_good" = true)
    (k20 : PySem.W.keepIn K (.ref f20) = true)
    (a21 : PySem.W.nsIn K mainGlobals "_law_pattern" = some (some (.ref f21)))
    (l21 : K.lookup f21 = some ⟨oc21, od21, .func (PySem.W.fnOf "_law_pattern" "_law_pattern" (defArgs s__law_pattern) (defBody s__law_pattern) (defScope s__law_pattern) .none kV21 dc21 pm21 an21 cd21 ct21), sl21⟩)
    (c21 : PySem.W.codeIn K cd21 "_law_pattern" = true)
    (k21 : PySem.W.keepIn K (.ref f21) = true)
    (a22 : PySem.W.nsIn K mainGlobals "_law_spoilt" = some (some (.ref f22)))
    (l22 : K.lookup f22 = some ⟨oc22, od22, .func (PySem.W.fnOf "_law_spoilt" "_law_spoilt" (defArgs s__law_spoilt) (defBody s__law_spoilt) (defScope s__law_spoilt) .none kV22 dc22 pm22 an22 cd22 ct22), sl22⟩)
    (c22 : PySem.W.codeIn K cd22 "_law_spoilt" = true)
    (k22 : PySem.W.keepIn K (.ref f22) = true)
    (a23 : PySem.W.nsIn K mainGlobals "_law_told" = some (some (.ref f23)))
    (l23 : K.lookup f23 = some ⟨oc23, od23, .func (PySem.W.fnOf "_law_told" "_law_told" (defArgs s__law_told) (defBody s__law_told) (defScope s__law_told) .none kV23 dc23 pm23 an23 cd23 ct23), sl23⟩)
    (c23 : PySem.W.codeIn K cd23 "_law_told" = true)
    (k23 : PySem.W.keepIn K (.ref f23) = true)
    (a24 : PySem.W.nsIn K mainGlobals "_law_due" = some (some (.ref f24)))
    (l24 : K.lookup f24 = some ⟨oc24, od24, .func (PySem.W.fnOf "_law_due" "_law_due" (defArgs s__law_due) (defBody s__law_due) (defScope s__law_due) .none kV24 dc24 pm24 an24 cd24 ct24), sl24⟩)
    (c24 : PySem.W.codeIn K cd24 "_law_due" = true)
    (k24 : PySem.W.keepIn K (.ref f24) = true)
    (a25 : PySem.W.nsIn K mainGlobals "_law_right" = some (some (.ref f25)))
    (l25 : K.lookup f25 = some ⟨oc25, od25, .func (PySem.W.fnOf "_law_right" "_law_right" (defArgs s__law_right) (defBody s__law_right) (defScope s__law_right) .none kV25 dc25 pm25 an25 cd25 ct25), sl25⟩)
    (c25 : PySem.W.codeIn K cd25 "_law_right" = true)
    (k25 : PySem.W.keepIn K (.ref f25) = true)
    (a26 : PySem.W.nsIn K mainGlobals "law" = some (some (.ref f26)))
    (l26 : K.lookup f26 = some ⟨oc26, od26, .func (PySem.W.fnOf "law" "law" (defArgs s_law) (defBody s_law) (defScope s_law) .none kV26 dc26 pm26 an26 cd26 ct26), sl26⟩)
    (c26 : PySem.W.codeIn K cd26 "law" = true)
    (k26 : PySem.W.keepIn K (.ref f26) = true)
    (bg0 : PySem.W.specialIn K (.ref C0) "__getattribute__" = some (some (.builtin "type.__getattribute__")))
    (br0 : PySem.W.readsIn K C0 (.type "type") = true)
    (bf0 : PySem.W.findCls K (.ref C0) (.type "type") "__init__" = some (.val (.builtin "ValueError.__init__")))
    (xL1 : K.lookup C1 = some (excClassObj nm1 q1 C1 NN1 bs1 [.ref C0, .type "ValueError", .type "Exception", .type "BaseException", .type "object"] true sn1 sub1 ab1 col1 dd1 m01 m11 m21 m31 m51 "ValueError.__new__"))
    (sa1 : PySem.W.findIn K (.ref C1) "__setattr__" = some (some (.builtin "object.__setattr__")))
    (ga1 : PySem.W.findIn K (.ref C1) "__getattribute__" = some (some (.builtin "BaseException.__getattribute__")))
    (gg1 : PySem.W.findIn K (.ref C1) "__getattr__" = some none)
    (nb1 : PySem.W.findIn K (.ref C1) "value" = some none)
    (ai1 : PySem.W.findIn K (.ref C1) "__init__" = some (some (.ref f27)))
    (ti1 : PySem.W.typeIn K (.ref f27) = some (.type "function"))
    (l27 : K.lookup f27 = some ⟨oc27, od27, .func (PySem.W.fnOf "__init__" "InvalidText.__init__" (defArgs sI_InvalidText) (defBody sI_InvalidText) (defScope sI_InvalidText) .none kV27 dc27 pm27 an27 cd27 ct27), sl27⟩)
    (c27 : PySem.W.codeIn K cd27 "InvalidText.__init__" = true)
    (k27 : PySem.W.keepIn K (.ref f27) = true)
    (kC1 : PySem.W.keepIn K (.ref C1) = true)
    (eC1 : PySem.W.subIn K (.ref C1) (.type "BaseException") = some true)
    (tC1 : PySem.W.typeIn K (.ref C1) = some (.type "type"))
    (hC1 : PySem.W.hasDictIn K C1 = true)
    (iC1 : PySem.W.isClsIn K C1 = true)
    (xL2 : K.lookup C2 = some (excClassObj nm2 q2 C2 NN2 bs2 [.ref C0, .type "ValueError", .type "Exception", .type "BaseException", .type "object"] true sn2 sub2 ab2 col2 dd2 m02 m12 m22 m32 m52 "ValueError.__new__"))
    (sa2 : PySem.W.findIn K (.ref C2) "__setattr__" = some (some (.builtin "object.__setattr__")))
    (ga2 : PySem.W.findIn K (.ref C2) "__getattribute__" = some (some (.builtin "BaseException.__getattribute__")))
    (gg2 : PySem.W.findIn K (.ref C2) "__getattr__" = some none)
    (nb2 : PySem.W.findIn K (.ref C2) "value" = some none)
    (ai2 : PySem.W.findIn K (.ref C2) "__init__" = some (some (.ref f28)))
    (ti2 : PySem.W.typeIn K (.ref f28) = some (.type "function"))
    (l28 : K.lookup f28 = some ⟨oc28, od28, .func (PySem.W.fnOf "__init__" "InvalidRow.__init__" (defArgs sI_InvalidRow) (defBody sI_InvalidRow) (defScope sI_InvalidRow) .none kV28 dc28 pm28 an28 cd28 ct28), sl28⟩)
    (c28 : PySem.W.codeIn K cd28 "InvalidRow.__init__" = true)
    (k28 : PySem.W.keepIn K (.ref f28) = true)
    (kC2 : PySem.W.keepIn K (.ref C2) = true)
    (eC2 : PySem.W.subIn K (.ref C2) (.type "BaseException") = some true)
    (tC2 : PySem.W.typeIn K (.ref C2) = some (.type "type"))
    (hC2 : PySem.W.hasDictIn K C2 = true)
    (iC2 : PySem.W.isClsIn K C2 = true)
    (ns2 : PySem.W.subIn K (.ref C2) (.type "StopIteration") = some false)
    (ns1 : PySem.W.subIn K (.ref C1) (.type "StopIteration") = some false)
    (s2_2 : PySem.W.subIn K (.ref C2) (.ref C2) = some true)
    (s2_1 : PySem.W.subIn K (.ref C2) (.ref C1) = some false)
    (s1_2 : PySem.W.subIn K (.ref C1) (.ref C2) = some false)
    (s1_1 : PySem.W.subIn K (.ref C1) (.ref C1) = some true)
    (z0 : PySem.W.nsIn K mainGlobals "all" = some none)
    (z1 : PySem.W.nsIn K mainGlobals "bool" = some none)
    (z2 : PySem.W.nsIn K mainGlobals "enumerate" = some none)
    (z3 : PySem.W.nsIn K mainGlobals "int" = some none)
    (z4 : PySem.W.nsIn K mainGlobals "isinstance" = some none)
    (z5 : PySem.W.nsIn K mainGlobals "len" = some none)
    (z6 : PySem.W.nsIn K mainGlobals "list" = some none)
    (z7 : PySem.W.nsIn K mainGlobals "max" = some none)
    (z8 : PySem.W.nsIn K mainGlobals "min" = some none)
    (z9 : PySem.W.nsIn K mainGlobals "range" = some none)
    (z10 : PySem.W.nsIn K mainGlobals "repr" = some none)
    (z11 : PySem.W.nsIn K mainGlobals "set" = some none)
    (z12 : PySem.W.nsIn K mainGlobals "str" = some none)
    (z13 : PySem.W.nsIn K mainGlobals "tuple" = some none)
    (z14 : PySem.W.nsIn K mainGlobals "zip" = some none)
    (q_0 : PySem.W.nsIn K mainGlobals "KINDS" = some (some (.str "#|/" tk0)))
    (q_1 : PySem.W.nsIn K mainGlobals "LETTERS" = some (some (.str "abcdefghijklmnopqrstuvwxyz" tk1)))
    (q_2 : PySem.W.nsIn K mainGlobals "MOST_ITEMS" = some (some (.int (6) tk2)))
    (q_3 : PySem.W.nsIn K mainGlobals "MOST_LETTERS" = some (some (.int (30) tk3)))
    : ∃ (ca : Nat → Addr) (fd : FuncData), (∀ (s : Shared) (v : Value), BindsTo s fd ⟨[v], []⟩ [("_law_script", v)]) ∧ ∀ base : Heap, K.In base → base.Ns mainGlobals mg → U.FnG l.prog w K mg base CX0 9 fa fd ["_law_script"] (sp_law K ca) := by
  have e := hfa.symm.trans (PySem.W.mg_of X G a26)
  cases e
  have F0 := fun_mk (st := s_is_integer) l0 c0 k0
  have b0 := F0.binds (ps := P_is_integer) fun _ _ _ _ _ _ us hl => match us, hl with | [_, _, _], _ => rfl
  have F1 := fun_mk (st := s_is_word) l1 c1 k1
  have b1 := F1.binds (ps := P_is_word) fun _ _ _ _ _ _ us hl => match us, hl with | [_], _ => rfl
  have F2 := fun_mk (st := s_is_mark) l2 c2 k2
  have b2 := F2.binds (ps := P_is_mark) fun _ _ _ _ _ _ us hl => match us, hl with | [_], _ => rfl
  have F3 := fun_mk (st := s_is_token) l3 c3 k3
  have b3 := F3.binds (ps := P_is_token) fun _ _ _ _ _ _ us hl => match us, hl with | [_], _ => rfl
  have F4 := fun_mk (st := s_is_text) l4 c4 k4
  have b4 := F4.binds (ps := P_is_text) fun _ _ _ _ _ _ us hl => match us, hl with | [_], _ => rfl
  have F5 := fun_mk (st := s_need_text) l5 c5 k5
  have b5 := F5.binds (ps := P_need_text) fun _ _ _ _ _ _ us hl => match us, hl with | [_], _ => rfl
  have F6 := fun_mk (st := s_is_item) l6 c6 k6
  have b6 := F6.binds (ps := P_is_item) fun _ _ _ _ _ _ us hl => match us, hl with | [_], _ => rfl
  have F7 := fun_mk (st := s_is_pattern) l7 c7 k7
  have b7 := F7.binds (ps := P_is_pattern) fun _ _ _ _ _ _ us hl => match us, hl with | [_], _ => rfl
  have F8 := fun_mk (st := s_need_pattern) l8 c8 k8
  have b8 := F8.binds (ps := P_need_pattern) fun _ _ _ _ _ _ us hl => match us, hl with | [_], _ => rfl
  have F9 := fun_mk (st := s_is_of) l9 c9 k9
  have b9 := F9.binds (ps := P_is_of) fun _ _ _ _ _ _ us hl => match us, hl with | [_, _, _], _ => rfl
  have F10 := fun_mk (st := s_pattern_places) l10 c10 k10
  have b10 := F10.binds (ps := P_pattern_places) fun _ _ _ _ _ _ us hl => match us, hl with | [_, _], _ => rfl
  have F11 := fun_mk (st := s__law_cell) l11 c11 k11
  have b11 := F11.binds (ps := P__law_cell) fun _ _ _ _ _ _ us hl => match us, hl with | [_, _], _ => rfl
  have F12 := fun_mk (st := s__law_purse) l12 c12 k12
  have b12 := F12.binds (ps := P__law_purse) fun _ _ _ _ _ _ us hl => match us, hl with | [_], _ => rfl
  have F13 := fun_mk (st := s__law_take) l13 c13 k13
  have b13 := F13.binds (ps := P__law_take) fun _ _ _ _ _ _ us hl => match us, hl with | [_, _], _ => rfl
  have F14 := fun_mk (st := s__law_all_marks) l14 c14 k14
  have b14 := F14.binds (ps := P__law_all_marks) fun _ _ _ _ _ _ us hl => match us, hl with | [], _ => rfl
  have F15 := fun_mk (st := s__law_mark) l15 c15 k15
  have b15 := F15.binds (ps := P__law_mark) fun _ _ _ _ _ _ us hl => match us, hl with | [_], _ => rfl
  have F16 := fun_mk (st := s__law_word) l16 c16 k16
  have b16 := F16.binds (ps := P__law_word) fun _ _ _ _ _ _ us hl => match us, hl with | [_, _], _ => rfl
  have F17 := fun_mk (st := s__law_text) l17 c17 k17
  have b17 := F17.binds (ps := P__law_text) fun _ _ _ _ _ _ us hl => match us, hl with | [_, _, _], _ => rfl
  have F18 := fun_mk (st := s__law_is_length) l18 c18 k18
  have b18 := F18.binds (ps := P__law_is_length) fun _ _ _ _ _ _ us hl => match us, hl with | [_], _ => rfl
  have F19 := fun_mk (st := s__law_good_item) l19 c19 k19
  have b19 := F19.binds (ps := P__law_good_item) fun _ _ _ _ _ _ us hl => match us, hl with | [_], _ => rfl
  have F20 := fun_mk (st := s__law_good) l20 c20 k20
  have b20 := F20.binds (ps := P__law_good) fun _ _ _ _ _ _ us hl => match us, hl with | [_], _ => rfl
  have F21 := fun_mk (st := s__law_pattern) l21 c21 k21
  have b21 := F21.binds (ps := P__law_pattern) fun _ _ _ _ _ _ us hl => match us, hl with | [_, _], _ => rfl
  have F22 := fun_mk (st := s__law_spoilt) l22 c22 k22
  have b22 := F22.binds (ps := P__law_spoilt) fun _ _ _ _ _ _ us hl => match us, hl with | [_, _], _ => rfl
  have F23 := fun_mk (st := s__law_told) l23 c23 k23
  have b23 := F23.binds (ps := P__law_told) fun _ _ _ _ _ _ us hl => match us, hl with | [_, _], _ => rfl
  have F24 := fun_mk (st := s__law_due) l24 c24 k24
  have b24 := F24.binds (ps := P__law_due) fun _ _ _ _ _ _ us hl => match us, hl with | [_, _], _ => rfl
  have F25 := fun_mk (st := s__law_right) l25 c25 k25
  have b25 := F25.binds (ps := P__law_right) fun _ _ _ _ _ _ us hl => match us, hl with | [_], _ => rfl
  have F26 := fun_mk (st := s_law) l26 c26 k26
  have b26 := F26.binds (ps := P_law) fun _ _ _ _ _ _ us hl => match us, hl with | [_], _ => rfl
  have F27 := fun_mk (st := sI_InvalidText) l27 c27 k27
  have b27 := F27.binds (ps := ["self", "value"]) fun _ _ _ _ _ _ us hl => match us, hl with | [_, _], _ => rfl
  have F28 := fun_mk (st := sI_InvalidRow) l28 c28 k28
  have b28 := F28.binds (ps := ["self", "value"]) fun _ _ _ _ _ _ us hl => match us, hl with | [_, _], _ => rfl
  have T : Tx l.prog K mg (fun i => ([f0, f1, f2, f3, f4, f5, f6, f7, f8, f9, f10, f11, f12, f13, f14, f15, f16, f17, f18, f19, f20, f21, f22, f23, f24, f25, fa, f27, f28] : List Addr).getD i 0) (fun i => ([PySem.W.fnOf "is_integer" "is_integer" (defArgs s_is_integer) (defBody s_is_integer) (defScope s_is_integer) .none kV0 dc0 pm0 an0 cd0 ct0, PySem.W.fnOf "is_word" "is_word" (defArgs s_is_word) (defBody s_is_word) (defScope s_is_word) .none kV1 dc1 pm1 an1 cd1 ct1, PySem.W.fnOf "is_mark" "is_mark" (defArgs s_is_mark) (defBody s_is_mark) (defScope s_is_mark) .none kV2 dc2 pm2 an2 cd2 ct2, PySem.W.fnOf "is_token" "is_token" (defArgs s_is_token) (defBody s_is_token) (defScope s_is_token) .none kV3 dc3 pm3 an3 cd3 ct3, PySem.W.fnOf "is_text" "is_text" (defArgs s_is_text) (defBody s_is_text) (defScope s_is_text) .none kV4 dc4 pm4 an4 cd4 ct4, PySem.W.fnOf "need_text" "need_text" (defArgs s_need_text) (defBody s_need_text) (defScope s_need_text) .none kV5 dc5 pm5 an5 cd5 ct5, PySem.W.fnOf "is_item" "is_item" (defArgs s_is_item) (defBody s_is_item) (defScope s_is_item) .none kV6 dc6 pm6 an6 cd6 ct6, PySem.W.fnOf "is_pattern" "is_pattern" (defArgs s_is_pattern) (defBody s_is_pattern) (defScope s_is_pattern) .none kV7 dc7 pm7 an7 cd7 ct7, PySem.W.fnOf "need_pattern" "need_pattern" (defArgs s_need_pattern) (defBody s_need_pattern) (defScope s_need_pattern) .none kV8 dc8 pm8 an8 cd8 ct8, PySem.W.fnOf "is_of" "is_of" (defArgs s_is_of) (defBody s_is_of) (defScope s_is_of) .none kV9 dc9 pm9 an9 cd9 ct9, PySem.W.fnOf "pattern_places" "pattern_places" (defArgs s_pattern_places) (defBody s_pattern_places) (defScope s_pattern_places) .none kV10 dc10 pm10 an10 cd10 ct10, PySem.W.fnOf "_law_cell" "_law_cell" (defArgs s__law_cell) (defBody s__law_cell) (defScope s__law_cell) .none kV11 dc11 pm11 an11 cd11 ct11, PySem.W.fnOf "_law_purse" "_law_purse" (defArgs s__law_purse) (defBody s__law_purse) (defScope s__law_purse) .none kV12 dc12 pm12 an12 cd12 ct12, PySem.W.fnOf "_law_take" "_law_take" (defArgs s__law_take) (defBody s__law_take) (defScope s__law_take) .none kV13 dc13 pm13 an13 cd13 ct13, PySem.W.fnOf "_law_all_marks" "_law_all_marks" (defArgs s__law_all_marks) (defBody s__law_all_marks) (defScope s__law_all_marks) .none kV14 dc14 pm14 an14 cd14 ct14, PySem.W.fnOf "_law_mark" "_law_mark" (defArgs s__law_mark) (defBody s__law_mark) (defScope s__law_mark) .none kV15 dc15 pm15 an15 cd15 ct15, PySem.W.fnOf "_law_word" "_law_word" (defArgs s__law_word) (defBody s__law_word) (defScope s__law_word) .none kV16 dc16 pm16 an16 cd16 ct16, PySem.W.fnOf "_law_text" "_law_text" (defArgs s__law_text) (defBody s__law_text) (defScope s__law_text) .none kV17 dc17 pm17 an17 cd17 ct17, PySem.W.fnOf "_law_is_length" "_law_is_length" (defArgs s__law_is_length) (defBody s__law_is_length) (defScope s__law_is_length) .none kV18 dc18 pm18 an18 cd18 ct18, PySem.W.fnOf "_law_good_item" "_law_good_item" (defArgs s__law_good_item) (defBody s__law_good_item) (defScope s__law_good_item) .none kV19 dc19 pm19 an19 cd19 ct19, PySem.W.fnOf "_law_good" "_law_good" (defArgs s__law_good) (defBody s__law_good) (defScope s__law_good) .none kV20 dc20 pm20 an20 cd20 ct20, PySem.W.fnOf "_law_pattern" "_law_pattern" (defArgs s__law_pattern) (defBody s__law_pattern) (defScope s__law_pattern) .none kV21 dc21 pm21 an21 cd21 ct21, PySem.W.fnOf "_law_spoilt" "_law_spoilt" (defArgs s__law_spoilt) (defBody s__law_spoilt) (defScope s__law_spoilt) .none kV22 dc22 pm22 an22 cd22 ct22, PySem.W.fnOf "_law_told" "_law_told" (defArgs s__law_told) (defBody s__law_told) (defScope s__law_told) .none kV23 dc23 pm23 an23 cd23 ct23, PySem.W.fnOf "_law_due" "_law_due" (defArgs s__law_due) (defBody s__law_due) (defScope s__law_due) .none kV24 dc24 pm24 an24 cd24 ct24, PySem.W.fnOf "_law_right" "_law_right" (defArgs s__law_right) (defBody s__law_right) (defScope s__law_right) .none kV25 dc25 pm25 an25 cd25 ct25, PySem.W.fnOf "law" "law" (defArgs s_law) (defBody s_law) (defScope s_law) .none kV26 dc26 pm26 an26 cd26 ct26, PySem.W.fnOf "__init__" "InvalidText.__init__" (defArgs sI_InvalidText) (defBody sI_InvalidText) (defScope sI_InvalidText) .none kV27 dc27 pm27 an27 cd27 ct27, PySem.W.fnOf "__init__" "InvalidRow.__init__" (defArgs sI_InvalidRow) (defBody sI_InvalidRow) (defScope sI_InvalidRow) .none kV28 dc28 pm28 an28 cd28 ct28] : List FuncData).getD i (PySem.W.fnOf "law" "law" (defArgs s_law) (defBody s_law) (defScope s_law) .none kV26 dc26 pm26 an26 cd26 ct26)) (fun i => ([C0, C1, C2] : List Addr).getD i 0) := {
    ct := { yes := trivial, x_InvalidText := ⟨ga1, gg1, eC1, hC1⟩, n_InvalidText := nb1, x_InvalidRow := ⟨ga2, gg2, eC2, hC2⟩, n_InvalidRow := nb2, e_InvalidRow_InvalidRow := U.exm_of eC2 iC2 tC2 s2_2, e_InvalidRow_InvalidText := U.exm_of eC1 iC1 tC1 s2_1, e_InvalidText_InvalidRow := U.exm_of eC2 iC2 tC2 s1_2, e_InvalidText_InvalidText := U.exm_of eC1 iC1 tC1 s1_1, ns_InvalidRow := ns2, ns_InvalidText := ns1 },
    f_is_integer := F0, b_is_integer := b0, m_is_integer := PySem.W.mg_of X G a0,
    f_is_word := F1, b_is_word := b1, m_is_word := PySem.W.mg_of X G a1,
    f_is_mark := F2, b_is_mark := b2, m_is_mark := PySem.W.mg_of X G a2,
    f_is_token := F3, b_is_token := b3, m_is_token := PySem.W.mg_of X G a3,
    f_is_text := F4, b_is_text := b4, m_is_text := PySem.W.mg_of X G a4,
    f_need_text := F5, b_need_text := b5, m_need_text := PySem.W.mg_of X G a5,
    f_is_item := F6, b_is_item := b6, m_is_item := PySem.W.mg_of X G a6,
    f_is_pattern := F7, b_is_pattern := b7, m_is_pattern := PySem.W.mg_of X G a7,
    f_need_pattern := F8, b_need_pattern := b8, m_need_pattern := PySem.W.mg_of X G a8,
    f_is_of := F9, b_is_of := b9, m_is_of := PySem.W.mg_of X G a9,
    f_pattern_places := F10, b_pattern_places := b10, m_pattern_places := PySem.W.mg_of X G a10,
    f__law_cell := F11, b__law_cell := b11, m__law_cell := PySem.W.mg_of X G a11,
    f__law_purse := F12, b__law_purse := b12, m__law_purse := PySem.W.mg_of X G a12,
    f__law_take := F13, b__law_take := b13, m__law_take := PySem.W.mg_of X G a13,
    f__law_all_marks := F14, b__law_all_marks := b14, m__law_all_marks := PySem.W.mg_of X G a14,
    f__law_mark := F15, b__law_mark := b15, m__law_mark := PySem.W.mg_of X G a15,
    f__law_word := F16, b__law_word := b16, m__law_word := PySem.W.mg_of X G a16,
    f__law_text := F17, b__law_text := b17, m__law_text := PySem.W.mg_of X G a17,
    f__law_is_length := F18, b__law_is_length := b18, m__law_is_length := PySem.W.mg_of X G a18,
    f__law_good_item := F19, b__law_good_item := b19, m__law_good_item := PySem.W.mg_of X G a19,
    f__law_good := F20, b__law_good := b20, m__law_good := PySem.W.mg_of X G a20,
    f__law_pattern := F21, b__law_pattern := b21, m__law_pattern := PySem.W.mg_of X G a21,
    f__law_spoilt := F22, b__law_spoilt := b22, m__law_spoilt := PySem.W.mg_of X G a22,
    f__law_told := F23, b__law_told := b23, m__law_told := PySem.W.mg_of X G a23,
    f__law_due := F24, b__law_due := b24, m__law_due := PySem.W.mg_of X G a24,
    f__law_right := F25, b__law_right := b25, m__law_right := PySem.W.mg_of X G a25,
    f_law := F26, b_law := b26, m_law := PySem.W.mg_of X G a26,
    x_InvalidText := ⟨PySem.W.mg_of X G gC1, ⟨⟨_, _, _, _, _, _, _, _, _, _, _, _, _, _, _, xL1, rfl⟩, sa1, eC1, tC1, kC1⟩, ai1, ti1, nb1, ⟨ga1, gg1, eC1, hC1⟩, iC1⟩,
    F_InvalidText := F27, i_InvalidText := b27, m_InvalidText := PySem.W.mg_of X G gC1,
    x_InvalidRow := ⟨PySem.W.mg_of X G gC2, ⟨⟨_, _, _, _, _, _, _, _, _, _, _, _, _, _, _, xL2, rfl⟩, sa2, eC2, tC2, kC2⟩, ai2, ti2, nb2, ⟨ga2, gg2, eC2, hC2⟩, iC2⟩,
    F_InvalidRow := F28, i_InvalidRow := b28, m_InvalidRow := PySem.W.mg_of X G gC2,
    y_ReflowError := ⟨bg0, _, br0, bf0⟩, w_ReflowError := PySem.W.mg_of X G gC0,
    z_all := PySem.W.mg_none_of X G z0,
    z_bool := PySem.W.mg_none_of X G z1,
    z_enumerate := PySem.W.mg_none_of X G z2,
    z_int := PySem.W.mg_none_of X G z3,
    z_isinstance := PySem.W.mg_none_of X G z4,
    z_len := PySem.W.mg_none_of X G z5,
    z_list := PySem.W.mg_none_of X G z6,
    z_max := PySem.W.mg_none_of X G z7,
    z_min := PySem.W.mg_none_of X G z8,
    z_range := PySem.W.mg_none_of X G z9,
    z_repr := PySem.W.mg_none_of X G z10,
    z_set := PySem.W.mg_none_of X G z11,
    z_str := PySem.W.mg_none_of X G z12,
    z_tuple := PySem.W.mg_none_of X G z13,
    z_zip := PySem.W.mg_none_of X G z14,
    c_KINDS := ⟨_, PySem.W.mg_of X G q_0⟩,
    c_LETTERS := ⟨_, PySem.W.mg_of X G q_1⟩,
    c_MOST_ITEMS := ⟨_, PySem.W.mg_of X G q_2⟩,
    c_MOST_LETTERS := ⟨_, PySem.W.mg_of X G q_3⟩ }
  exact ⟨_, _, fun s v => .of_eq rfl, fun base _ _ => ok_law T⟩
theorem walk {l : PySem.W.OpenLaw} {q : Program} {loose : List Str} {XP : (Str → Option Value) → Heap → Prop} {YP : World → Heap → Prop} {d : DefRec} {K : Params → PySem.W.Frag} (hn : l.most = some 63) (hdf : d.params.defaults = [])
    (hY : ∀ (w : World) (h : Heap), YP w h → (K w.params).In h)
    (F : ∀ (w : World) (mg : Str → Option Value) (fa : Addr) (h : Heap), (K w.params).In h → h.Ns mainGlobals mg → mg d.name = some (.ref fa) →
      ∃ (ca : Nat → Addr) (fd : FuncData), (∀ (s : Shared) (u : Value), BindsTo s fd ⟨[u], []⟩ [("_law_script", u)]) ∧ ∀ base : Heap, (K w.params).In base → base.Ns mainGlobals mg → U.FnG l.prog w (K w.params) mg base CX0 9 fa fd ["_law_script"] (sp_law (K w.params) ca)) :
    PySem.W.WalkO q loose XP YP l.row.toRowW d [] (fun f vs => PySem.call f vs) :=
  U.walk_ofG (n := 63) (k := 9) (x := "_law_script") (sp := fun w ca => sp_law (K w.params) ca) hn (by decide) hdf ⟨rfl, by decide, by decide⟩ hY F (fun _ _ _ a ns hl hO hS => law_sp hO hS (law_true ns hl))
end Lw
open Lean in
local macro_rules | `(tactic| kernel_rfl) => do
  if (← Macro.resolveGlobalName `seenIt).isEmpty then `(tactic| first | (refine Lw.joinH ?_ ?_ ?_; exact Lw.hdA _ _; exact Lw.hdB _ _; exact Lw.hdC _ _) | (open Lw.Mark in kernel_rfl)) else Macro.throwUnsupported
open PySem PySem.W PyProof.Rows
set_option maxRecDepth 100000 in
set_option maxHeartbeats 0 in
theorem PySem.Challenge.cw_reflows_k74_patterns_in_texts_holds : PySem.Challenge.rw_reflows_k74_patterns_in_texts.Holds := by
  w_on; o_law; k_headL; (case hw => w_witness2)
  k_fill
  refine Lw.walk (l := PySem.Challenge.rw_reflows_k74_patterns_in_texts) rfl rfl (fun w h Y => PySem.W.kIn_of Y) ?F
  case F =>
    intro w mg fa h KX G hmg
    refine' Lw.all_mk KX G hmg ?gC0 ?gC1 ?gC2 ?a0 ?l0 ?c0 ?k0 ?a1 ?l1 ?c1 ?k1 ?a2 ?l2 ?c2 ?k2 ?a3 ?l3 ?c3 ?k3 ?a4 ?l4 ?c4 ?k4 ?a5 ?l5 ?c5 ?k5 ?a6 ?l6 ?c6 ?k6 ?a7 ?l7 ?c7 ?k7 ?a8 ?l8 ?c8 ?k8 ?a9 ?l9 ?c9 ?k9 ?a10 ?l10 ?c10 ?k10 ?a11 ?l11 ?c11 ?k11 ?a12 ?l12 ?c12 ?k12 ?a13 ?l13 ?c13 ?k13 ?a14 ?l14 ?c14 ?k14 ?a15 ?l15 ?c15 ?k15 ?a16 ?l16 ?c16 ?k16 ?a17 ?l17 ?c17 ?k17 ?a18 ?l18 ?c18 ?k18 ?a19 ?l19 ?c19 ?k19 ?a20 ?l20 ?c20 ?k20 ?a21 ?l21 ?c21 ?k21 ?a22 ?l22 ?c22 ?k22 ?a23 ?l23 ?c23 ?k23 ?a24 ?l24 ?c24 ?k24 ?a25 ?l25 ?c25 ?k25 ?a26 ?l26 ?c26 ?k26 ?bg0 ?br0 ?bf0 ?xL1 ?sa1 ?ga1 ?gg1 ?nb1 ?ai1 ?ti1 ?l27 ?c27 ?k27 ?kC1 ?eC1 ?tC1 ?hC1 ?iC1 ?xL2 ?sa2 ?ga2 ?gg2 ?nb2 ?ai2 ?ti2 ?l28 ?c28 ?k28 ?kC2 ?eC2 ?tC2 ?hC2 ?iC2 ?ns2 ?ns1 ?s2_2 ?s2_1 ?s1_2 ?s1_1 ?z0 ?z1 ?z2 ?z3 ?z4 ?z5 ?z6 ?z7 ?z8 ?z9 ?z10 ?z11 ?z12 ?z13 ?z14 ?q_0 ?q_1 ?q_2 ?q_3
    (case gC0 => first | k_is | rfl)
    (case gC1 => first | k_is | rfl)
    (case gC2 => first | k_is | rfl)
    (case a0 => first | k_is | rfl)
    (case l0 => first | k_is | rfl)
    (case c0 => first | k_is | rfl)
    (case k0 => first | k_is | rfl)
    (case a1 => first | k_is | rfl)
    (case l1 => first | k_is | rfl)
    (case c1 => first | k_is | rfl)
    (case k1 => first | k_is | rfl)
    (case a2 => first | k_is | rfl)
    (case l2 => first | k_is | rfl)
    (case c2 => first | k_is | rfl)
    (case k2 => first | k_is | rfl)
    (case a3 => first | k_is | rfl)
    (case l3 => first | k_is | rfl)
    (case c3 => first | k_is | rfl)
    (case k3 => first | k_is | rfl)
    (case a4 => first | k_is | rfl)
    (case l4 => first | k_is | rfl)
    (case c4 => first | k_is | rfl)
    (case k4 => first | k_is | rfl)
    (case a5 => first | k_is | rfl)
    (case l5 => first | k_is | rfl)
    (case c5 => first | k_is | rfl)
    (case k5 => first | k_is | rfl)
    (case a6 => first | k_is | rfl)
    (case l6 => first | k_is | rfl)
    (case c6 => first | k_is | rfl)
    (case k6 => first | k_is | rfl)
    (case a7 => first | k_is | rfl)
    (case l7 => first | k_is | rfl)
    (case c7 => first | k_is | rfl)
    (case k7 => first | k_is | rfl)
    (case a8 => first | k_is | rfl)
    (case l8 => first | k_is | rfl)
    (case c8 => first | k_is | rfl)
    (case k8 => first | k_is | rfl)
    (case a9 => first | k_is | rfl)
    (case l9 => first | k_is | rfl)
    (case c9 => first | k_is | rfl)
    (case k9 => first | k_is | rfl)
    (case a10 => first | k_is | rfl)
    (case l10 => first | k_is | rfl)
    (case c10 => first | k_is | rfl)
    (case k10 => first | k_is | rfl)
    (case a11 => first | k_is | rfl)
    (case l11 => first | k_is | rfl)
    (case c11 => first | k_is | rfl)
    (case k11 => first | k_is | rfl)
    (case a12 => first | k_is | rfl)
    (case l12 => first | k_is | rfl)
    (case c12 => first | k_is | rfl)
    (case k12 => first | k_is | rfl)
    (case a13 => first | k_is | rfl)
    (case l13 => first | k_is | rfl)
    (case c13 => first | k_is | rfl)
    (case k13 => first | k_is | rfl)
    (case a14 => first | k_is | rfl)
    (case l14 => first | k_is | rfl)
    (case c14 => first | k_is | rfl)
    (case k14 => first | k_is | rfl)
    (case a15 => first | k_is | rfl)
    (case l15 => first | k_is | rfl)
    (case c15 => first | k_is | rfl)
    (case k15 => first | k_is | rfl)
    (case a16 => first | k_is | rfl)
    (case l16 => first | k_is | rfl)
    (case c16 => first | k_is | rfl)
    (case k16 => first | k_is | rfl)
    (case a17 => first | k_is | rfl)
    (case l17 => first | k_is | rfl)
    (case c17 => first | k_is | rfl)
    (case k17 => first | k_is | rfl)
    (case a18 => first | k_is | rfl)
    (case l18 => first | k_is | rfl)
    (case c18 => first | k_is | rfl)
    (case k18 => first | k_is | rfl)
    (case a19 => first | k_is | rfl)
    (case l19 => first | k_is | rfl)
    (case c19 => first | k_is | rfl)
    (case k19 => first | k_is | rfl)
    (case a20 => first | k_is | rfl)
    (case l20 => first | k_is | rfl)
    (case c20 => first | k_is | rfl)
    (case k20 => first | k_is | rfl)
    (case a21 => first | k_is | rfl)
    (case l21 => first | k_is | rfl)
    (case c21 => first | k_is | rfl)
    (case k21 => first | k_is | rfl)
    (case a22 => first | k_is | rfl)
    (case l22 => first | k_is | rfl)
    (case c22 => first | k_is | rfl)
    (case k22 => first | k_is | rfl)
    (case a23 => first | k_is | rfl)
    (case l23 => first | k_is | rfl)
    (case c23 => first | k_is | rfl)
    (case k23 => first | k_is | rfl)
    (case a24 => first | k_is | rfl)
    (case l24 => first | k_is | rfl)
    (case c24 => first | k_is | rfl)
    (case k24 => first | k_is | rfl)
    (case a25 => first | k_is | rfl)
    (case l25 => first | k_is | rfl)
    (case c25 => first | k_is | rfl)
    (case k25 => first | k_is | rfl)
    (case a26 => first | k_is | rfl)
    (case l26 => first | k_is | rfl)
    (case c26 => first | k_is | rfl)
    (case k26 => first | k_is | rfl)
    (case bg0 => first | k_is | rfl)
    (case br0 => first | k_is | rfl)
    (case bf0 => first | k_is | rfl)
    (case xL1 => first | k_is | rfl)
    (case sa1 => first | k_is | rfl)
    (case ga1 => first | k_is | rfl)
    (case gg1 => first | k_is | rfl)
    (case nb1 => first | k_is | rfl)
    (case ai1 => first | k_is | rfl)
    (case ti1 => first | k_is | rfl)
    (case l27 => first | k_is | rfl)
    (case c27 => first | k_is | rfl)
    (case k27 => first | k_is | rfl)
    (case kC1 => first | k_is | rfl)
    (case eC1 => first | k_is | rfl)
    (case tC1 => first | k_is | rfl)
    (case hC1 => first | k_is | rfl)
    (case iC1 => first | k_is | rfl)
    (case xL2 => first | k_is | rfl)
    (case sa2 => first | k_is | rfl)
    (case ga2 => first | k_is | rfl)
    (case gg2 => first | k_is | rfl)
    (case nb2 => first | k_is | rfl)
    (case ai2 => first | k_is | rfl)
    (case ti2 => first | k_is | rfl)
    (case l28 => first | k_is | rfl)
    (case c28 => first | k_is | rfl)
    (case k28 => first | k_is | rfl)
    (case kC2 => first | k_is | rfl)
    (case eC2 => first | k_is | rfl)
    (case tC2 => first | k_is | rfl)
    (case hC2 => first | k_is | rfl)
    (case iC2 => first | k_is | rfl)
    (case ns2 => first | k_is | rfl)
    (case ns1 => first | k_is | rfl)
    (case s2_2 => first | k_is | rfl)
    (case s2_1 => first | k_is | rfl)
    (case s1_2 => first | k_is | rfl)
    (case s1_1 => first | k_is | rfl)
    (case z0 => first | k_is | rfl)
    (case z1 => first | k_is | rfl)
    (case z2 => first | k_is | rfl)
    (case z3 => first | k_is | rfl)
    (case z4 => first | k_is | rfl)
    (case z5 => first | k_is | rfl)
    (case z6 => first | k_is | rfl)
    (case z7 => first | k_is | rfl)
    (case z8 => first | k_is | rfl)
    (case z9 => first | k_is | rfl)
    (case z10 => first | k_is | rfl)
    (case z11 => first | k_is | rfl)
    (case z12 => first | k_is | rfl)
    (case z13 => first | k_is | rfl)
    (case z14 => first | k_is | rfl)
    (case q_0 => first | k_is | rfl)
    (case q_1 => first | k_is | rfl)
    (case q_2 => first | k_is | rfl)
    (case q_3 => first | k_is | rfl)
