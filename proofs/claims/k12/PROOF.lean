import PyProof.Rows.All
import Wide.All
import OpenK.AllK
import Wide.FinOn
import HandS.ForMost
import HandS.IsInst
import HandS.Walk
import HandS.Flow
import HandS.Zip
import PyProof.NeKinds
import HandS.Exc
import HandS.ExcOwn
import HandS.ExcInit
import HandS.ExcField
import HandS.WordsExc
import HandS.Defaults
import HandS.MakeKwOnly
import HandS.DeepEq
import HandS.Replace
import HandS.RaiseMore
import HandS.Text
import PyProof.ReprRoads
import PyProof.ReprLen
import HandS.Codes
import KE.IntTextLaws
import PyProof.ReprDict
import PyProof.StrBlock2
import HandS.NoneIn
import KE.GoesMore
import KE.GoesEnum
import HandS.GenList
import HandS.Deep
import HandS.Style
import HandS.Property
import HandS.ClsMeth
import HandS.Star
import HandS.FStr
import HandS.OwnEq
import HandS.Conv
import HandS.CallSlots
import KE.KCallOwn
import KE.KOpsOwn
import PyProof.ExcBaseAll.LookupError
import HandS.NestedK
import KE.KSuper
import HandS.TupAny
import HandS.TupMul
import KE.DataFind
import KE.KFmtOwn
import KE.KExcInit
import HandS.IterNext
import HandS.SuiteRaise
import HandS.RaiseFrom
import HandS.ExcInitHot
import KE.KTryMore
import PyProof.AutoSeq1
import PyProof.LongRange
import HandS.List
import HandS.Strs
import KE.OsRunLaw
import PySem.Challenge.RW_reflows_k12_lines_and_widths
set_option Elab.async false
set_option linter.all false
set_option maxRecDepth 100000
set_option maxHeartbeats 0
namespace Lw
open PySem PySem.W PyProof.Rows
theorem joinH {σ α β γ : Type} {o : Option σ} {f : σ → α} {g : σ → β} {h : σ → γ} {a : α} {b : β} {c : γ} (x : o.map f = some a) (y : o.map g = some b) (z : o.map h = some c) : o.map (fun s => (f s, g s, h s)) = some (a, b, c) := by
  cases o with
  | none => cases x
  | some s => cases x; cases y; cases z; rfl
theorem Mark.seenIt : True := trivial
section
open Lean in
local macro_rules | `(tactic| o_headL $H:term) => `(tactic| exact $(mkIdent `f) ($H = $H) _)
theorem hd (f : ∀ (q p : Prop), p) : PySem.Challenge.rw_reflows_k12_lines_and_widths.Holds := by
  w_on; o_law; k_headL
end
section
open HeadRun
abbrev p0 : Program := PySem.Challenge.rw_reflows_k12_lines_and_widths.prog
def qv : Program := view p0 [1, 2, 3, 4, 6, 7, 8, 9, 10, 11, 12, 13, 14, 16, 17, 18, 19, 20, 21, 23, 24, 25, 26, 27, 28, 29, 30, 31, 32, 33]
def xt0 (s : Shared) : Bool := xlAt qv [] s && recOk (RowW.records (OpenRow.toRowW PySem.Challenge.rw_reflows_k12_lines_and_widths.row)) s
theorem hdA (w : World) (os : OsState) : (endF (stepQ (denQ tabQ) p0 w) 3448 p0 w os).map (fun s => looksF p0 (boot_heap w.params) s.abs) = some true := by kernel_rfl
theorem hdB0 (w : World) (os : OsState) : (endF (stepQ (denQ tabQ) p0 w) 3448 p0 w os).map (fun s => (seenQ qv ([].map Str.ofString) (importedModules p0.main.body) xt0 s.abs).1) = some (expectedOf qv) := by kernel_rfl
theorem hdB1 (w : World) (os : OsState) : (endF (stepQ (denQ tabQ) p0 w) 3448 p0 w os).map (fun s => (seenQ qv ([].map Str.ofString) (importedModules p0.main.body) xt0 s.abs).2.2.1) = some true := by kernel_rfl
theorem hdB2 (w : World) (os : OsState) : (endF (stepQ (denQ tabQ) p0 w) 3448 p0 w os).map (fun s => ((seenQ qv ([].map Str.ofString) (importedModules p0.main.body) xt0 s.abs).2.1, (seenQ qv ([].map Str.ofString) (importedModules p0.main.body) xt0 s.abs).2.2.2)) = some (bltViewBooted, true, pinGoodD (drecsOf qv), plainGoodE qv (looseW qv ([].map Str.ofString)), plainGoodD qv ([].map Str.ofString), wideGood qv, clsGoodW qv ([].map Str.ofString)) := by kernel_rfl
theorem joinB {σ α β γ δ : Type} {o : Option σ} {f : σ → α × β × γ × δ} {a : α} {b : β} {c : γ} {d : δ} (x : o.map (fun s => (f s).1) = some a) (y : o.map (fun s => (f s).2.2.1) = some c) (z : o.map (fun s => ((f s).2.1, (f s).2.2.2)) = some (b, d)) : o.map f = some (a, b, c, d) := by
  cases o with
  | none => cases x
  | some s =>
    have e1 : (f s).1 = a := Option.some.inj x
    have e2 : (f s).2.2.1 = c := Option.some.inj y
    have e3 : ((f s).2.1, (f s).2.2.2) = (b, d) := Option.some.inj z
    show some (f s) = _
    rcases e : f s with ⟨p, q, r, t⟩
    rw [e] at e1 e2 e3
    cases e1; cases e2; cases e3; rfl
theorem hdB (w : World) (os : OsState) : (endF (stepQ (denQ tabQ) p0 w) 3448 p0 w os).map (fun s => seenQ qv ([].map Str.ofString) (importedModules p0.main.body) xt0 s.abs) = some (openGood qv ([].map Str.ofString)) := joinB (hdB0 w os) (hdB1 w os) (hdB2 w os)
theorem hdC (w : World) (os : OsState) : (endF (stepQ (denQ tabQ) p0 w) 3448 p0 w os).map (fun s => ([2, 3, 15, 22, 23, 24, 25, 28, 35, 37, 38, 40, 41, 42, 43, 44, 47, 54, 56, 57, 59, 60, 61, 62, 63, 66, 73, 75, 76, 78, 79, 80, 81, 82, 85, 87, 88, 90, 91, 92, 95, 96, 97, 99, 100, 102, 103, 104, 106, 107, 109, 110, 111, 113, 114, 116, 117, 118, 120, 121, 123, 124, 125, 128, 129, 130, 132, 133, 135, 136, 137, 139, 140, 142, 143, 144, 146, 147, 149, 150, 151, 154, 155, 156, 159, 160, 161, 163, 164, 166, 167, 168, 170, 171, 173, 174, 175, 177, 178, 180, 181, 189, 191, 192, 194, 195, 196, 199, 200, 201, 203, 204, 206, 207, 208, 210, 211, 213, 214, 215, 217, 218, 220, 221, 222, 225, 226, 227, 229, 230, 232, 233] : List Addr).map (getT s)) = some ((Lw.hd.heap_39 w.params).map fun x => some x.2) := by kernel_rfl
end
end Lw
set_option Elab.async false
set_option linter.all false
set_option maxRecDepth 100000
set_option maxHeartbeats 4000000
namespace PySem.SeqAt
open AutoSeq1 (wpAny_loadPart')
open MeetsSeq
end PySem.SeqAt
namespace U
open PySem L2
section
variable {X : Cx}
theorem PEi {e : Expr} {t u : TE} (h : PE X e t) (i : ∀ σ H Q, u σ H Q → t σ H Q) : PE X e u := ⟨fun pins s σ H Q I k => h.run pins s σ H Q I (i σ H Q k)⟩
theorem OpRi {f : Value → Value → Sem Value} {r r' : R2} (h : OpR X f r) (i : ∀ x y H Q, r' x y H Q → r x y H Q) : OpR X f r' := fun pins s σ H x y v u Q I rx ry k => h pins s σ H x y v u Q I rx ry (i x y H Q k)
theorem CallRi {f : Value} {r r' : List V → Hp → VK → Prop} (h : CallR X f r) (i : ∀ xs H Q, r' xs H Q → r xs H Q) : CallR X f r' := fun pins s σ H xs us Q I r k => h pins s σ H xs us Q I r (i xs H Q k)
theorem IxRi {r r' : R2} (h : IxR X r) (i : ∀ x y H Q, r' x y H Q → r x y H Q) : IxR X r' := fun value slice pins s σ H x y v u Q I rx ry q hs => h value slice pins s σ H x y v u Q I rx ry (i x y H Q q) hs
theorem SlRi {r r' : V → Option Int → Option Int → Hp → VK → Prop} (h : L2.SlR X r) (i : ∀ x lo hi H Q, r' x lo hi H Q → r x lo hi H Q) : L2.SlR X r' := fun pins s σ H x v vl vu lo hi sl Q I rx hs pl pu q => h pins s σ H x v vl vu lo hi sl Q I rx hs pl pu (i x lo hi H Q q)
theorem MtRi {id : String} {r r' : V → List V → Hp → VK → Prop} (h : MtR X id r) (i : ∀ x xs H Q, r' x xs H Q → r x xs H Q) : MtR X id r' := fun pins s σ H x xs v us Q I rx rs q => h pins s σ H x xs v us Q I rx rs (i x xs H Q q)
end
def bV (x : V) (A B : Prop) : Prop := match x with | .bl true => A | .bl false => B | _ => False
def bB (c : Bool) (A B : Prop) : Prop := match c with | true => A | false => B
def oK {α : Type} (o : Option α) (f : α → Prop) : Prop := match o with | some x => f x | none => False
section
variable {A B : Prop} {α : Type}
theorem oK_of {o : Option α} {f : α → Prop} {x : α} (h : o = some x) (k : f x) : oK o f := by subst h; exact k
theorem oK_ex {o : Option α} {f : α → Prop} (h : oK o f) : ∃ x, o = some x ∧ f x := by
  cases o with
  | none => exact h.elim
  | some x => exact ⟨x, rfl, h⟩
end
def uVar (i : Nat) : TE := fun σ H Q => match σ[i]? with | some (some v) => Q v H | _ => False
def uT (t : TE) : TT := fun σ H Q => t σ H fun x H1 => match x with | .bl k => Q k H1 | _ => False
def uAndV (ta tb : TE) : TE := fun σ H Q => ta σ H fun x H1 => bV x (tb σ H1 Q) (Q (.bl false) H1)
def uOrV (ta tb : TE) : TE := fun σ H Q => ta σ H fun x H1 => bV x (Q (.bl true) H1) (tb σ H1 Q)
def uNotV (ta : TE) : TE := fun σ H Q => ta σ H fun x H1 => match x with | .bl k => Q (.bl (!k)) H1 | _ => False
def uAnd (t u : TT) : TT := fun σ H Q => t σ H fun c H1 => bB c (u σ H1 Q) (Q false H1)
def uOr (t u : TT) : TT := fun σ H Q => t σ H fun c H1 => bB c (Q true H1) (u σ H1 Q)
def uNot (t : TT) : TT := fun σ H Q => t σ H fun c H1 => Q (!c) H1
def uIf (t : TT) (ta tb : TE) : TE := fun σ H Q => t σ H fun c H1 => bB c (ta σ H1 Q) (tb σ H1 Q)
def uIfS (t : TT) (a b : TS) : TS := fun D σ H => t σ H fun c H1 => bB c (a D σ H1) (b D σ H1)
section
variable {X : Cx} {a b : Expr} {ta tb : TE} {pos : Pos} {tA tB' : TT} {rest : List Expr}
theorem pu (i : Nat) {x : Str} {pos : Pos} (hN : X.N[i]? = some x := by rfl) (hv : Vis X.env.scope x := by first | exact Or.inl rfl | exact Or.inr (Or.inl rfl) | exact Or.inr (Or.inr rfl)) (hd : (x == ("__debug__" : Str)) = false := by decide)
    (hcd : (x == ("__classdict__" : Str)) = false := by decide) : PE X (.Name x pos) (uVar i) := PEi (pe_var hN hv hd hcd) fun σ H Q h => by
  unfold uVar at h
  split at h
  · exact ⟨_, by assumption, h⟩
  · exact h.elim
end
theorem k_bl (Q : Bool → Hp → Prop) : (fun (x : V) (H1 : Hp) => match x with | .bl k => Q k H1 | _ => False) = (fun x H1 => ∃ c, x = V.bl c ∧ Q c H1) := by
  funext x H1
  cases x <;> simp
theorem k_and (f : Hp → Prop) (g : Hp → Prop) : (fun (x : V) (H1 : Hp) => bV x (f H1) (g H1)) = (fun x H1 => ∃ c, x = V.bl c ∧ if c = true then f H1 else g H1) := by
  funext x H1
  unfold bV
  cases x with
  | bl b => cases b <;> simp
  | _ => simp
theorem k_b (f : Hp → Prop) (g : Hp → Prop) : (fun (c : Bool) (H1 : Hp) => bB c (f H1) (g H1)) = (fun c H1 => if c = true then f H1 else g H1) := by
  funext c H1
  unfold bB
  cases c <;> simp
section
variable {X : Cx} {a b : Expr} {ta tb : TE} {pos : Pos} {tA tB' : TT} {rest : List Expr}
theorem uT_eq (t : TE) : uT t = tB t := by funext σ H Q; unfold uT tB; rw [k_bl]
theorem uT_eq' (t : TE) : uT t = tTest t := by funext σ H Q; unfold uT tTest; rw [k_bl]
theorem uAndV_eq (ta tb : TE) : uAndV ta tb = tAndV ta tb := by funext σ H Q; unfold uAndV tAndV; rw [k_and]
theorem uOrV_eq (ta tb : TE) : uOrV ta tb = tOrV ta tb := by funext σ H Q; unfold uOrV tOrV; rw [k_and]
theorem uNotV_eq (ta : TE) : uNotV ta = tNotV ta := by
  funext σ H Q; unfold uNotV tNotV
  exact congrArg (ta σ H) (k_bl fun c H1 => Q (.bl (!c)) H1)
theorem uAnd_eq (t u : TT) : uAnd t u = tAnd t u := by funext σ H Q; unfold uAnd tAnd; rw [k_b]
theorem uOr_eq (t u : TT) : uOr t u = tOr t u := by funext σ H Q; unfold uOr tOr; rw [k_b]
theorem uIf_eq (t : TT) (ta tb : TE) : uIf t ta tb = tIf t ta tb := by funext σ H Q; unfold uIf tIf; rw [k_b]
theorem uIfS_eq (t : TT) (a b : TS) : uIfS t a b = tIfS t a b := by funext D σ H; unfold uIfS tIfS; rw [k_b]
theorem put_val {e : Expr} {t : TE} (h : PE X e t) (he : ∀ whole, isTrue e X.env whole = (do let v ← whole; standAt e.pos; holding [v] (truthy v)) := by intro _; rfl) : PT X e (uT t) := by
  rw [uT_eq]; exact pt_val h he
theorem put_cmp {op : CmpOp} {r : R2} (ho : OpR X (compareOp op) r) (ha : PE X a ta) (hb : PE X b tb) (hm : behindInMarks op b = false) : PT X (.Compare a [op] [b] pos) (uT (tOp r ta tb)) := by
  rw [uT_eq']; exact pt_cmpR ho ha hb hm
theorem pue_and (ha : PE X a ta) (hb : PE X (.BoolOp .And (b :: rest) pos) tb) : PE X (.BoolOp .And (a :: b :: rest) pos) (uAndV ta tb) := by rw [uAndV_eq]; exact pe_and ha hb
theorem pue_or (ha : PE X a ta) (hb : PE X (.BoolOp .Or (b :: rest) pos) tb) : PE X (.BoolOp .Or (a :: b :: rest) pos) (uOrV ta tb) := by rw [uOrV_eq]; exact pe_or ha hb
theorem pue_not (ha : PE X a ta) : PE X (.UnaryOp .Not a pos) (uNotV ta) := by rw [uNotV_eq]; exact pe_not ha
theorem puw_and (ha : PT X a tA) (hb : PW X (.BoolOp .And (b :: rest) pos) tB') : PW X (.BoolOp .And (a :: b :: rest) pos) (uAnd tA tB') := by rw [uAnd_eq]; exact pw_and ha hb
theorem puw_or (ha : PT X a tA) (hb : PW X (.BoolOp .Or (b :: rest) pos) tB') : PW X (.BoolOp .Or (a :: b :: rest) pos) (uOr tA tB') := by rw [uOr_eq]; exact pw_or ha hb
theorem put_not (ha : PT X a tA) : PT X (.UnaryOp .Not a pos) (uNot tA) := pt_not ha
theorem pue_if {c : Expr} (hc : PT X c tA) (ha : PE X a ta) (hb : PE X b tb) : PE X (.IfExp c a b pos) (uIf tA ta tb) := by rw [uIf_eq]; exact pe_ifExp hc ha hb
theorem pus_if {c : Expr} {p q : List Stmt} {t u : TS} (hc : PT X c tA) (ha : PSs X p t) (hb : PSs X q u) : PS X (.If c p q pos) (uIfS tA t u) := by rw [uIfS_eq]; exact ps_if hc ha hb
end
def uAdd (K : PySem.W.Frag) : R2 := fun x y H Q => match x, y with
  | .int i, .int j => Q (.int (i + j)) H
  | .str i, .str j => i.length + j.length ≤ sizeLine ∧ Q (.str (i ++ j)) H
  | .ref l, .ref b => ∃ xs zs, H l = some (.lst xs) ∧ H b = some (.lst zs) ∧ xs.length + zs.length ≤ sizeLine ∧ ∀ p, H p = none → Q (.ref p) (upd H p (.lst (xs ++ zs)))
  | _, _ => False
def uSub : R2 := fun x y H Q => match x, y with
  | .int i, .int j => Q (.int (i - j)) H
  | _, _ => False
def uFdiv : R2 := fun x y H Q => match x, y with
  | .int i, .int j => CDiv i j ∧ Q (.int (i / j)) H
  | _, _ => False
def uMod : R2 := fun x y H Q => match x, y with
  | .int i, .int j => 0 < j ∧ Q (.int (i % j)) H
  | _, _ => False
def uPow : R2 := fun x y H Q => match x, y with
  | .int i, .int j => CPow i j ∧ Q (.int (i ^ j.toNat)) H
  | _, _ => False
def uCmpI (p : Int → Int → Bool) (q : List Nat → List Nat → Bool) : R2 := fun x y H Q => match x, y with
  | .int i, .int j => Q (.bl (p i j)) H
  | .str i, .str j => Q (.bl (q i.cps.toList j.cps.toList)) H
  | _, _ => False
abbrev uLt : R2 := uCmpI (fun i j => decide (i < j)) (fun i j => decide (i < j))
abbrev uLe : R2 := uCmpI (fun i j => decide (i ≤ j)) (fun i j => !decide (j < i))
abbrev uGt : R2 := uCmpI (fun i j => decide (j < i)) (fun i j => decide (j < i))
section
variable {X : Cx}
theorem ou_add : OpR X (binaryOp .Add) (uAdd X.K) := OpRi (op_add.or (op_add_str.or op_cat)) fun x y H Q h => by
  unfold uAdd at h
  split at h
  · exact .inl ⟨_, _, rfl, rfl, h⟩
  · exact .inr (.inl ⟨_, _, rfl, rfl, h⟩)
  · obtain ⟨xs, zs, h1, h2, h3, h4⟩ := h
    exact .inr (.inr ⟨_, _, xs, zs, rfl, rfl, h1, h2, h3, h4⟩)
  · exact h.elim
theorem ou_sub : OpR X (binaryOp .Sub) uSub := OpRi op_sub fun x y H Q h => by
  unfold uSub at h
  split at h
  · exact ⟨_, _, rfl, rfl, h⟩
  · exact h.elim
theorem ou_fdiv : OpR X (binaryOp .FloorDiv) uFdiv := OpRi op_fdiv fun x y H Q h => by
  unfold uFdiv at h
  split at h
  · exact ⟨_, _, rfl, rfl, h⟩
  · exact h.elim
theorem ou_mod : OpR X (binaryOp .Mod) uMod := OpRi op_mod fun x y H Q h => by
  unfold uMod at h
  split at h
  · exact ⟨_, _, rfl, rfl, h⟩
  · exact h.elim
theorem ou_pow : OpR X (binaryOp .Pow) uPow := OpRi op_pow fun x y H Q h => by
  unfold uPow at h
  split at h
  · exact ⟨_, _, rfl, rfl, h⟩
  · exact h.elim
theorem uCmp_or {p : Int → Int → Bool} {q : List Nat → List Nat → Bool} {f : Value → Value → Sem Value} (h1 : OpR X f (rI0 fun i j => .bl (p i j))) (h2 : OpR X f (fun x y H Q => ∃ i j, x = .str i ∧ y = .str j ∧ Q (.bl (q i.cps.toList j.cps.toList)) H)) : OpR X f (uCmpI p q) :=
  OpRi (h1.or h2) fun x y H Q h => by
  unfold uCmpI at h
  split at h
  · exact .inl ⟨_, _, rfl, rfl, h⟩
  · exact .inr ⟨_, _, rfl, rfl, h⟩
  · exact h.elim
theorem ou_lt : OpR X (compareOp .Lt) uLt := uCmp_or op_lt op_lt_str
theorem ou_le : OpR X (compareOp .LtE) uLe := uCmp_or op_le op_le_str
theorem ou_gt : OpR X (compareOp .Gt) uGt := uCmp_or op_gt op_gt_str
end
def seqOf (c : String) (o : Obj) : Option (List V) := match o with
  | ⟨.type d, none, .seq its _, _⟩ => if c = d ∧ its.size ≤ sizeLine then its.toList.mapM absV else none
  | _ => none
def kS (K : PySem.W.Frag) (c : String) (a : Addr) : Option (List V) := match K.lookup a with
  | some o => seqOf c o
  | none => none
def rdL (K : PySem.W.Frag) (H : Hp) (a : Addr) : Option (List V) := match H a with
  | some (.lst xs) => some xs
  | some (.frz _ (.lst xs)) => some xs
  | some _ => none
  | none => kS K "list" a
def rdT (K : PySem.W.Frag) (H : Hp) (a : Addr) : Option (List V) := match H a with
  | some (.tup xs) => some xs
  | some (.frz _ (.tup xs)) => some xs
  | some _ => none
  | none => kS K "tuple" a
def rdS (K : PySem.W.Frag) (H : Hp) (a : Addr) : Option (List V) := match rdL K H a with
  | some xs => some xs
  | none => rdT K H a
theorem mapM_vals : ∀ {us : List Value} {xs : List V}, us.mapM absV = some xs → Vals xs us := by
  intro us
  induction us with
  | nil => intro xs h; simp at h; subst h; exact .nil
  | cons u r ih =>
    intro xs h
    rw [List.mapM_cons] at h
    cases e1 : absV u with
    | none => rw [e1] at h; cases h
    | some x =>
      cases e2 : r.mapM absV with
      | none => rw [e1, e2] at h; cases h
      | some ys =>
        rw [e1, e2] at h
        cases h
        refine .cons ?_ (ih e2)
        cases u <;> simp [absV] at e1 <;> subst e1 <;> first | rfl | exact ⟨_, rfl⟩
theorem kS_spec {K : PySem.W.Frag} {c : String} {a : Addr} {xs : List V} (h : kS K c a = some xs) : ∃ (o : Obj) (its : Array Value) (n : Nat), K.lookup a = some o ∧ o.cls = .type c ∧ o.dict = none ∧ o.data = .seq its n ∧ its.size ≤ sizeLine ∧ Vals xs its.toList := by
  unfold kS at h
  split at h
  · rename_i o e
    unfold seqOf at h
    split at h
    · split at h
      · rename_i hc
        obtain ⟨rfl, hz⟩ := hc
        exact ⟨_, _, _, e, rfl, rfl, rfl, hz, mapM_vals h⟩
      · cases h
    · cases h
  · cases h
theorem rdL_sq {K : PySem.W.Frag} {H : Hp} {a : Addr} {xs : List V} (h : rdL K H a = some xs) : SqL K H a xs := by
  unfold rdL at h
  split at h
  · cases h; exact .inl (.inl (by assumption))
  · cases h; exact .inl (.inr ⟨_, by assumption⟩)
  · cases h
  · exact .inr (kS_spec h)
theorem rdT_sq {K : PySem.W.Frag} {H : Hp} {a : Addr} {xs : List V} (h : rdT K H a = some xs) : SqT K H a xs := by
  unfold rdT at h
  split at h
  · cases h; exact .inl (.inl (by assumption))
  · cases h; exact .inl (.inr ⟨_, by assumption⟩)
  · cases h
  · obtain ⟨o, its, n, h1, h2, h3, h4, h5, h6⟩ := kS_spec h
    exact .inr ⟨o, its, n, h1, h2, h4, h5, h6⟩
theorem rdL_of {K : PySem.W.Frag} {H : Hp} {a : Addr} {xs : List V} (h : H a = some (.lst xs)) : rdL K H a = some xs := by unfold rdL; rw [h]
theorem rdT_of {K : PySem.W.Frag} {H : Hp} {a : Addr} {xs : List V} (h : H a = some (.tup xs)) : rdT K H a = some xs := by unfold rdT; rw [h]
/-- a list or a tuple is read -/
def oS (K : PySem.W.Frag) (H : Hp) (p : Addr) (f : List V → Prop) : Prop := ∃ xs, (SqL K H p xs ∨ SqT K H p xs) ∧ f xs
abbrev Ex (H H' : Hp) : Prop := ∀ a o, H a = some o → H' a = some o
theorem Ex.refl (H : Hp) : Ex H H := fun _ _ h => h
theorem Ex.trans {H H1 H2 : Hp} (a : Ex H H1) (b : Ex H1 H2) : Ex H H2 := fun x o h => b x o (a x o h)
theorem Ex.new {H : Hp} {p : Addr} {o : HO} (h : H p = none) : Ex H (upd H p o) := fun a u e => by
  rw [upd_ne (ne_of_none e h)]
  exact e
theorem Ex.mut {H H' : Hp} {p : Addr} {o : HO} (e : Ex H H') (h : H p = none) : Ex H (upd H' p o) := fun a u ha => by
  rw [upd_ne (ne_of_none ha h)]
  exact e a u ha
theorem Ex.free {H H' : Hp} (e : Ex H H') {p : Addr} (h : H' p = none) : H p = none := by
  cases h1 : H p with
  | none => rfl
  | some o => rw [e p o h1] at h; cases h
/-- all but b stays -/
def Fr (b : Addr) (H H' : Hp) : Prop := ∀ a o, H a = some o → a ≠ b → H' a = some o
theorem Fr.refl (b : Addr) (H : Hp) : Fr b H H := fun _ _ h _ => h
theorem Fr.trans {b : Addr} {H H1 H2 : Hp} (x : Fr b H H1) (y : Fr b H1 H2) : Fr b H H2 := fun a o h n => y a o (x a o h n) n
theorem Fr.ex {b : Addr} {H H1 : Hp} (x : Ex H H1) : Fr b H H1 := fun a o h _ => x a o h
theorem Fr.new {b p : Addr} {H : Hp} {o : HO} (h : H p = none) : Fr b H (upd H p o) := Fr.ex (Ex.new h)
def uIn (K : PySem.W.Frag) (neg : Bool) : R2 := fun x y H Q => match y with
  | .str z => (match x with
    | .str w => (match w.cps.toList with
      | [c] => Q (.bl (if neg then !decide (c ∈ z.cps.toList) else decide (c ∈ z.cps.toList))) H
      | _ => False)
    | _ => False)
  | .ref p => oS K H p fun xs => flatV x = true ∧ xs.all flatV = true ∧ Q (.bl (if neg then !inV x xs else inV x xs)) H
  | _ => False
theorem str_one {w : Str} {c : Nat} (h : w.cps.toList = [c]) : w = ⟨#[c]⟩ := by
  obtain ⟨⟨l⟩⟩ := w
  have h : l = [c] := h
  subst h
  rfl
theorem uIn_sp {K : PySem.W.Frag} {neg : Bool} {x y : V} {H : Hp} {Q : VK} (h : uIn K neg x y H Q) :
    (∃ (c : Nat) (z : Str), x = .str ⟨#[c]⟩ ∧ y = .str z ∧ Q (.bl (if neg then !decide (c ∈ z.cps.toList) else decide (c ∈ z.cps.toList))) H) ∨ rIn K neg x y H Q := by
  unfold uIn at h
  split at h
  · split at h
    · split at h
      · rename_i e
        exact .inl ⟨_, _, by rw [str_one e], rfl, h⟩
      · exact h.elim
    · exact h.elim
  · obtain ⟨xs, e, h1, h2, h3⟩ := h
    exact .inr ⟨_, _, rfl, e, h1, h2, h3⟩
  · exact h.elim
section
variable {X : Cx}
theorem ou_in : OpR X (compareOp .In) (uIn X.K false) := OpRi (op_in_sign.or op_in_seq) fun x y H Q h => uIn_sp h
end
/-- a < b < c -/
def uChain (r r' : R2) (ta tb tc : TE) : TE := fun σ H Q => ta σ H fun x H1 => tb σ H1 fun y H2 => r x y H2 fun z H3 => bV z (tc σ H3 fun w H4 => r' y w H4 Q) (Q (.bl false) H3)
theorem uChain_eq (r r' : R2) (ta tb tc : TE) : uChain r r' ta tb tc = tChain r r' ta tb tc := by
  funext σ H Q; unfold uChain tChain
  congr 1; funext x H1; congr 1; funext y H2
  rw [k_and]
section
variable {X : Cx} {a b c : Expr} {ta tb tc : TE} {pos : Pos}
theorem pue_chain {op op' : CmpOp} {r r' : R2} (ho : OpR X (compareOp op) r) (ho' : OpR X (compareOp op') r') (ha : PE X a ta) (hb : PE X b tb) (hc : PE X c tc) (hl : lastMarks [op, op'] [b, c] = false := by rfl) :
    PE X (.Compare a [op, op'] [b, c] pos) (uChain r r' ta tb tc) := by rw [uChain_eq]; exact pe_chain ho ho' ha hb hc hl
theorem put_chain {op op' : CmpOp} {r r' : R2} (ho : OpR X (compareOp op) r) (ho' : OpR X (compareOp op') r') (ha : PE X a ta) (hb : PE X b tb) (hc : PE X c tc) (hl : lastMarks [op, op'] [b, c] = false := by rfl) :
    PT X (.Compare a [op, op'] [b, c] pos) (uT (uChain r r' ta tb tc)) := by rw [uT_eq', uChain_eq]; exact pt_chain ho ho' ha hb hc hl
end
def uIx (K : PySem.W.Frag) : R2 := fun x y H Q => match x, y with
  | .str z, .int i => z.length ≤ sizeLine ∧ oK (atI z.cps.toList i) fun c => Q (.str ⟨#[c]⟩) H
  | .ref p, .int i => oS K H p fun xs => oK (atI xs i) fun v => Q v H
  | _, _ => False
theorem iu_ix {X : Cx} : IxR X (uIx X.K) := IxRi ix_seq fun x y H Q h => by
  unfold uIx at h
  split at h
  · obtain ⟨h1, h2⟩ := h
    obtain ⟨c, e, h2⟩ := oK_ex h2
    exact .inr (.inr ⟨_, _, _, rfl, rfl, h1, e, h2⟩)
  · obtain ⟨xs, e, h⟩ := h
    obtain ⟨v, e2, h⟩ := oK_ex h
    rcases e with q | q
    · exact .inl ⟨_, _, _, _, rfl, rfl, q, e2, h⟩
    · exact .inr (.inl ⟨_, _, _, _, rfl, rfl, q, e2, h⟩)
  · exact h.elim
def uPart (t : TE) : TO := fun σ H Q => t σ H fun x H1 => match x with | .int i => Q (some i) H1 | _ => False
theorem pou_some {X : Cx} {e : Expr} {te : TE} (h : PE X e te) : PO X (some e) (uPart te) := by
  have : uPart te = tPart te := by
    funext σ H Q; unfold uPart tPart; congr 1; funext x H1
    cases x <;> simp
  rw [this]; exact po_some h
/-- texts and lists -/
def uSl (K : PySem.W.Frag) : V → Option Int → Option Int → Hp → VK → Prop := fun x lo hi H Q => match x with
  | .str z => z.length ≤ sizeLine ∧ Q (.str (cutS z lo hi)) H
  | .ref a => (match rdL K H a with
    | some xs => ∀ p, H p = none → Q (.ref p) (upd H p (.lst (cutV xs lo hi)))
    | none => (match rdT K H a with
      | some xs => ¬ (HT.sIx xs.length 0 lo = 0 ∧ HT.sIx xs.length xs.length hi = xs.length) ∧ ∀ p, H p = none → Q (.ref p) (upd H p (.tup (cutV xs lo hi)))
      | none => False))
  | _ => False
theorem su_sl {X : Cx} : L2.SlR X (uSl X.K) := SlRi (sl_str.or (sl_list.or sl_tup)) fun x lo hi H Q h => by
  unfold uSl at h
  split at h
  · exact .inl ⟨_, rfl, h.1, h.2⟩
  · split at h
    · exact .inr (.inl ⟨_, _, rfl, rdL_sq (by assumption), h⟩)
    · split at h
      · exact .inr (.inr ⟨_, _, rfl, rdT_sq (by assumption), h.1, h.2⟩)
      · exact h.elim
  · exact h.elim
def uLen (K : PySem.W.Frag) : List V → Hp → VK → Prop := fun xs H Q => match xs with
  | [.str z] => z.length ≤ sizeLine ∧ Q (.int z.length) H
  | [.ref p] => oS K H p fun ys => Q (.int ys.length) H
  | _ => False
def uMax2 : List V → Hp → VK → Prop := fun xs H Q => match xs with
  | [.int i, .int j] => Q (.int (if j > i then j else i)) H
  | _ => False
def uMin2 : List V → Hp → VK → Prop := fun xs H Q => match xs with
  | [.int i, .int j] => Q (.int (if j < i then j else i)) H
  | _ => False
section
variable {X : Cx}
theorem cu_len : CallR X (.builtin "len") (uLen X.K) := CallRi call_len fun xs H Q h => by
  unfold uLen at h
  split at h
  · exact ⟨_, _, rfl, ⟨h.1, rfl⟩, h.2⟩
  · obtain ⟨ys, e, h⟩ := h
    rcases e with q | q
    · exact ⟨_, _, rfl, .inl ⟨_, q, rfl⟩, h⟩
    · exact ⟨_, _, rfl, .inr ⟨_, q, rfl⟩, h⟩
  · exact h.elim
theorem cu_max (hc : X.calm = true) : CallR X (.builtin "max") uMax2 := CallRi (call_max2 hc) fun xs H Q h => by
  unfold uMax2 at h
  split at h
  · exact ⟨_, _, rfl, h⟩
  · exact h.elim
theorem cu_min (hc : X.calm = true) : CallR X (.builtin "min") uMin2 := CallRi (call_min2 hc) fun xs H Q h => by
  unfold uMin2 at h
  split at h
  · exact ⟨_, _, rfl, h⟩
  · exact h.elim
end
inductive Ty | non | bl | int | str | lst | tup | dct
  deriving DecidableEq
def Ty.nm : Ty → String | .non => "NoneType" | .bl => "bool" | .int => "int" | .str => "str" | .lst => "list" | .tup => "tuple" | .dct => "dict"
def tyO : HO → Option Ty
  | .lst _ => some .lst
  | .tup _ => some .tup
  | .dK _ => some .dct
  | .dT _ => some .dct
  | .frz _ (.lst _) => some .lst
  | .frz _ (.tup _) => some .tup
  | _ => none
def tyOf (H : Hp) : V → Option Ty
  | .non => some .non | .bl _ => some .bl | .int _ => some .int | .str _ => some .str
  | .ref a => (H a).bind tyO
  | _ => none
theorem tyOf_x {K : PySem.W.Frag} {H : Hp} {v : V} {t : Ty} (h : tyOf H v = some t) : TyX K H v (.type t.nm) := by
  cases v with
  | non => cases h; exact .base .non
  | bl b => cases h; exact .base (.bl b)
  | int i => cases h; exact .base (.int i)
  | str x => cases h; exact .base (.str x)
  | byt b => cases h
  | flt b => cases h
  | ty n => cases h
  | ref a =>
    have h : (H a).bind tyO = some t := h
    cases e : H a with
    | none => rw [e] at h; cases h
    | some o =>
      rw [e] at h
      have h : tyO o = some t := h
      unfold tyO at h
      split at h <;> first | (cases h; done) | (cases h; first | exact .base (.lst e) | exact .base (.tup e) | exact .base (.dK e) | exact .base (.dT e) | exact .base (.frz e) | exact .fTuple e)
/-- is a thing of the one kind a thing of the other -/
def isT (t c : Ty) : Bool := decide (t = c) || (decide (t = .bl) && decide (c = .int))
theorem isT_kit (t c : Ty) : kitB t.nm c.nm = some (isT t c) := by cases t <;> cases c <;> decide +kernel
def uIsi (c : Ty) (te : TE) : TE := fun σ H Q => te σ H fun x H1 => oK (tyOf H1 x) fun t => Q (.bl (isT t c)) H1
def rIsiC (c : Ty) : List V → Hp → VK → Prop := fun xs H Q => match xs with
  | [x, y] => y = .ty c.nm ∧ oK (tyOf H x) fun t => Q (.bl (isT t c)) H
  | _ => False
def uIsiT (cs : List Ty) : List V → Hp → VK → Prop := fun xs H Q => match xs with
  | [x, .ref p] => H p = some (.tup (cs.map fun c => .ty c.nm)) ∧ oK (tyOf H x) fun t => Q (.bl (cs.any (isT t))) H
  | _ => False
theorem kitAny_any {K : PySem.W.Frag} (t : Ty) : ∀ cs : List Ty, PySem.W.kitAny K (.type t.nm) (cs.map fun c => Value.type c.nm) = some (cs.any (isT t))
  | [] => rfl
  | c :: cs => by
    have ih := kitAny_any (K := K) t cs
    have h1 := kit_ty (K := K) (isT_kit t c)
    rw [List.map_cons, List.any_cons]
    cases hb : isT t c with
    | true => exact kitAny_cons (h1.trans (by rw [hb])) (fun z => Bool.noConfusion z) fun _ => rfl
    | false => exact kitAny_cons (h1.trans (by rw [hb])) (fun _ => by rw [Bool.false_or]; exact ih) fun z => Bool.noConfusion z
theorem pairedCls : ∀ cs : List Ty, Paired ClsV (cs.map fun c => V.ty c.nm) (cs.map fun c => Value.type c.nm)
  | [] => .nil
  | c :: cs => .cons (.ty _) (pairedCls cs)
theorem uIsi_eq (c : Ty) (te : TE) : uIsi c te = tCB (rIsiC c) (tCons te (tCons (tC (.ty c.nm)) tNil)) := by
  funext σ H Q
  show te σ H _ = te σ H _
  congr 1; funext x H1
  show _ = (V.ty c.nm = V.ty c.nm ∧ _)
  simp
section
variable {X : Cx} {e : Expr} {te : TE} {p pos q : Pos}
theorem cu_isi (c : Ty) : CallR X (.builtin "isinstance") (rIsiC c) := CallRi call_isi fun xs H Q h => by
  unfold rIsiC at h
  split at h
  · obtain ⟨rfl, h⟩ := h
    obtain ⟨t, e, h⟩ := oK_ex h
    exact ⟨_, _, _, _, _, rfl, .ty _, tyOf_x e, kit_ty (isT_kit _ _), h⟩
  · exact h.elim
theorem cu_isiT (cs : List Ty) : CallR X (.builtin "isinstance") (uIsiT cs) := CallRi call_isiT fun xs H Q h => by
  unfold uIsiT at h
  split at h
  · obtain ⟨h1, h⟩ := h
    obtain ⟨t, e, h⟩ := oK_ex h
    exact ⟨_, _, _, _, _, _, rfl, h1, pairedCls cs, tyOf_x e, kitAny_any _ _, h⟩
  · exact h.elim
theorem pue_isi {n : Str} (c : Ty) (he : PE X e te) (hg : Gl X "isinstance") (hm : X.mg "isinstance" = none) (hn : Gl X n) (hmn : X.mg n = none) (hv : bootBuiltins n = some (.type c.nm)) (hnn : n ≠ "__name__" := by decide) (hnd : (n == ("__debug__" : Str)) = false := by decide)
    (hs1 : starEach [e, .Name n q] X.env = (false, eval e X.env) :: starEach [.Name n q] X.env := by rfl) (hs2 : starEach [.Name n q] X.env = (false, eval (.Name n q) X.env) :: starEach [] X.env := by rfl) (hs3 : ((backTo pos (starEach [.Name n q] X.env)).any fun x => x.fst) = false := by rfl) :
    PE X (.Call (.Name "isinstance" p) [e, .Name n q] [] pos) (uIsi c te) := by
  rw [uIsi_eq]
  have h2 : PE X (.Name n q) (tC (.ty c.nm)) := pe_bltn hn hmn hv rfl hnn hnd
  exact pe_callB (cu_isi c) hg hm (by decide +kernel) (pa_cons he (pa_cons h2 pa_nil hs2) hs1) (by decide) (by decide) hs1 hs3
end
def chars (z : Str) : List V := z.cps.toList.map fun c => V.str ⟨#[c]⟩
/-- what a walk over a value gives -/
def items (K : PySem.W.Frag) (H : Hp) : V → Option (List V)
  | .str z => some (chars z)
  | .ref a => rdS K H a
  | _ => none
/-- the walk over x at H1 -/
def goIt (K : PySem.W.Frag) (x : V) (H1 : Hp) (R : It → Hp → Prop) : Prop := match x with
  | .str z => R (Its z) H1
  | .ref a => (match rdL K H1 a with
    | some _ => R (Itl K a) H1
    | none => (match rdT K H1 a with
      | some _ => R (Itt K a) H1
      | none => False))
  | _ => False
def uIter (K : PySem.W.Frag) (te : TE) : TI := fun σ H R => te σ H fun x H1 => goIt K x H1 R
theorem piu {X : Cx} {tg e : Expr} {te : TE} (he : PE X e te) : PI X tg e (uIter X.K te) := by
  refine ⟨fun pins s σ H R I h => ?_⟩
  refine thn (he.run pins s σ H _ I h) fun v s1 ⟨y, H1, I1, r1, q⟩ => ?_
  dsimp only at q
  unfold goIt at q
  split at q
  · rename_i x
    obtain ⟨t, rfl⟩ := r1
    cases ha : x.cps.all (· < 128)
    · exact wpAny_pyIter_wide ha (pi_one (tk := s1.toks) I1 _ (turn_str _ x t "str_iterator" (.inr rfl)) ⟨_, Heap.get?_push_size _ rfl, rfl, rfl⟩ q)
    · exact wpAny_pyIter_ascii ha (pi_one (tk := s1.toks) I1 _ (turn_str _ x t "str_ascii_iterator" (.inl rfl)) ⟨_, Heap.get?_push_size _ rfl, rfl, rfl⟩ q)
  · rename_i a
    split at q
    · rename_i xs hx
      have hq := rdL_sq hx
      cases r1
      obtain ⟨its, rv, p, hz⟩ := I1.list hq
      refine wpAny_pyIter_list p.isList ?_
      refine ⟨s1.heap.objs.size, [s1.heap.objs.size], _, _, H1, rfl, I1.kept (t' := s1.toks) fun b o e => Heap.get?_push_of_some _ e, turn_list a _, ⟨_, Heap.get?_push_size _ rfl, rfl, rfl⟩, fun b hb => ?_, q⟩
      have e : b = s1.heap.objs.size := by simpa using hb
      subst e
      exact I1.fpOk (Nat.le_refl _) (I1.hok.fresh (Nat.le_refl _))
    · split at q
      · rename_i xs hx
        have hq := rdT_sq hx
        cases r1
        obtain ⟨its, rv, p, hz⟩ := I1.tuple hq
        refine wpAny_pyIter_tuple (show s1.heap.IsTuple a its.toArray from p) ?_
        refine ⟨s1.heap.objs.size, [s1.heap.objs.size], _, _, H1, rfl, I1.kept (t' := s1.toks) fun b o e => Heap.get?_push_of_some _ e, turn_tuple a _, ⟨_, Heap.get?_push_size _ rfl, rfl, rfl⟩, fun b hb => ?_, q⟩
        have e : b = s1.heap.objs.size := by simpa using hb
        subst e
        exact I1.fpOk (Nat.le_refl _) (I1.hok.fresh (Nat.le_refl _))
      · exact q.elim
  · exact q.elim
theorem walk_chars {z : Str} : Walk (Its z) (chars z).length (fun _ => True) (YAt (chars z)) := by
  have hl : (chars z).length = z.cps.size := by unfold chars; simp
  rw [hl]
  refine ⟨fun _ _ hi _ => hi, fun _ _ => Nat.le_refl _, fun i H v H' hi _ y => ?_⟩
  obtain ⟨e, c, hc, rfl⟩ := y
  refine ⟨e, ?_⟩
  unfold chars
  rw [List.getElem?_map, Array.getElem?_toList, hc]
  rfl
/-- what is walked: the value, its items, what must stay -/
inductive Src (K : PySem.W.Frag) : V → It → List V → (Hp → Prop) → Prop
  | str (z : Str) : Src K (.str z) (Its z) (chars z) (fun _ => True)
  | lst (a : Addr) (xs : List V) : Src K (.ref a) (Itl K a) xs (fun H => rdL K H a = some xs)
  | tup (a : Addr) (xs : List V) : Src K (.ref a) (Itt K a) xs (fun H => rdL K H a = none ∧ rdT K H a = some xs)
theorem Src.walk {K : PySem.W.Frag} {x : V} {J : It} {xs : List V} {G : Hp → Prop} (S : Src K x J xs G) : Walk J xs.length G (YAt xs) := by
  cases S with
  | str z => exact walk_chars
  | lst a => exact walk_list.mono (fun _ g => rdL_sq g) fun _ _ _ _ _ _ y => y
  | tup a => exact walk_tup.mono (fun _ g => rdT_sq g.2) fun _ _ _ _ _ _ y => y
theorem Src.go {K : PySem.W.Frag} {x : V} {J : It} {xs : List V} {G : Hp → Prop} (S : Src K x J xs G) {H1 : Hp} (g : G H1) {R : It → Hp → Prop} (h : R J H1) : goIt K x H1 R := by
  cases S with
  | str z => exact h
  | lst a => show match rdL K H1 a with | some _ => _ | none => _; rw [show rdL K H1 a = some xs from g]; exact h
  | tup a =>
    show match rdL K H1 a with | some _ => _ | none => _
    rw [g.1]
    show match rdT K H1 a with | some _ => _ | none => _
    rw [g.2]; exact h
/-- a comprehension over it -/
theorem lc_src {K : PySem.W.Frag} {x : V} {J : It} {xs : List V} {G : Hp → Prop} (S : Src K x J xs G) {g : TG} {tt : TT} {te : TE} {vs : List Nat} {σ : St} {H1 : Hp} {Q : VK} (hG : G H1) (Pv : Addr → Nat → Hp → Prop)
    (h0 : ∀ D, H1 D = none → Pv D 0 (upd H1 D (.lst []))) (hst : ∀ D i H, i ≤ xs.length → Pv D i H → G H)
    (hs : ∀ D i y H, xs[i]? = some y → Pv D i H → g y (wipe σ vs) H fun σ2 H2 => wipe σ2 vs = wipe σ vs ∧ tt σ2 H2 fun b H3 =>
      if b = true then te σ2 H3 fun y H4 => ∃ acc, H4 D = some (.lst acc) ∧ acc.length < sizeLine ∧ Pv D (i + 1) (upd H4 D (.lst (acc ++ [y]))) else Pv D (i + 1) H3) (hd : ∀ D H, H1 D = none → Pv D xs.length H → Q (.ref D) H) :
    goIt K x H1 fun J H1 => ∀ D, H1 D = none → ∃ W : Nat → Nat → Hp → Prop, (∃ m, W 0 m (upd H1 D (.lst []))) ∧ ∀ i m H, W i m H →
      (J.stop i H ∧ Q (.ref D) H) ∨ (J.go i H ∧ ∃ Nx : Hp → Prop, (∀ H', Nx H' → ∃ m', m' < m ∧ W (i + 1) m' H') ∧ ∀ x H', J.yld i H x H' → g x (wipe σ vs) H' fun σ2 H2 => wipe σ2 vs = wipe σ vs ∧ tt σ2 H2 fun b H3 =>
        if b = true then te σ2 H3 fun y H4 => ∃ acc, H4 D = some (.lst acc) ∧ acc.length < sizeLine ∧ Nx (upd H4 D (.lst (acc ++ [y]))) else Nx H3) :=
  S.go hG fun D hD => lc_it S.walk (Pv D) (h0 D hD) (hst D) (fun i y H H' hi p q => by obtain ⟨e, hy⟩ := q; subst e; exact hs D i y _ hy p) fun H p => hd D H hD p
/-- .. whose items are flat: f x where c x -/
theorem take_map {α : Type} {c : V → Bool} {f : V → α} {xs : List V} {i : Nat} {y : V} (h : xs[i]? = some y) :
    (((xs.take (i + 1)).filter c).map f) = ((xs.take i).filter c).map f ++ (if c y then [f y] else []) := by
  rw [List.take_add_one, h, List.filter_append, List.map_append]
  show _ ++ List.map f (List.filter c [y]) = _
  rw [List.filter_cons]
  cases hc : c y <;> simp
theorem lc_flat {K : PySem.W.Frag} {x : V} {J : It} {xs : List V} {G : Hp → Prop} (S : Src K x J xs G) {j : Nat} {tt : TT} {te : TE} {vs : List Nat} {σ : St} {H1 : Hp} {Q : VK} (hG : G H1) (hGx : ∀ H', Ex H1 H' → G H') (c : V → Bool) (f : V → V) (hz : xs.length < sizeLine)
    (hw : ∀ y, wipe ((wipe σ vs).set j (some y)) vs = wipe σ vs)
    (ht : ∀ (i : Nat) y H', xs[i]? = some y → Ex H1 H' → ∀ R : Bool → Hp → Prop, (∀ H2, Ex H' H2 → R (c y) H2) → tt ((wipe σ vs).set j (some y)) H' R)
    (he : ∀ (i : Nat) y H', xs[i]? = some y → c y = true → Ex H1 H' → ∀ R : VK, (∀ H2, Ex H' H2 → R (f y) H2) → te ((wipe σ vs).set j (some y)) H' R)
    (hd : ∀ D H, H1 D = none → Ex H1 H → H D = some (.lst ((xs.filter c).map f)) → Q (.ref D) H) :
    goIt K x H1 fun J H1 => ∀ D, H1 D = none → ∃ W : Nat → Nat → Hp → Prop, (∃ m, W 0 m (upd H1 D (.lst []))) ∧ ∀ i m H, W i m H →
      (J.stop i H ∧ Q (.ref D) H) ∨ (J.go i H ∧ ∃ Nx : Hp → Prop, (∀ H', Nx H' → ∃ m', m' < m ∧ W (i + 1) m' H') ∧ ∀ x H', J.yld i H x H' → gName j x (wipe σ vs) H' fun σ2 H2 => wipe σ2 vs = wipe σ vs ∧ tt σ2 H2 fun b H3 =>
        if b = true then te σ2 H3 fun y H4 => ∃ acc, H4 D = some (.lst acc) ∧ acc.length < sizeLine ∧ Nx (upd H4 D (.lst (acc ++ [y]))) else Nx H3) := by
  refine lc_src S hG (fun D i H => H1 D = none ∧ Ex H1 H ∧ H D = some (.lst (((xs.take i).filter c).map f))) (fun D hD => ⟨hD, Ex.new hD, upd_same⟩) (fun D i H _ p => hGx H p.2.1) ?_ ?_
  · intro D i y H hy ⟨hD, e, hl⟩
    have hi : i < xs.length := (List.getElem?_eq_some_iff.mp hy).1
    refine ⟨hw y, ht i y H hy e _ fun H3 e3 => ?_⟩
    have tm := take_map (c := c) (f := f) hy
    cases hc : c y with
    | false =>
      rw [hc] at tm
      rw [if_neg (by decide)]
      refine ⟨hD, e.trans e3, ?_⟩
      rw [tm]; simp only [Bool.false_eq_true, if_false, List.append_nil]; exact e3 D _ hl
    | true =>
      rw [hc] at tm
      rw [if_pos rfl]
      refine he i y H3 hy hc (e.trans e3) _ fun H4 e4 => ⟨_, e4 D _ (e3 D _ hl), ?_, hD, Ex.mut ((e.trans e3).trans e4) hD, ?_⟩
      · rw [List.length_map]
        have := List.length_filter_le c (xs.take i)
        rw [List.length_take] at this
        omega
      · rw [tm]; simp only [if_true]; exact upd_same
  · intro D H hD ⟨_, e, hl⟩
    rw [List.take_length] at hl
    exact hd D H hD e hl
def uAll (K : PySem.W.Frag) : List V → Hp → VK → Prop := fun xs H Q => match xs with
  | [.ref a] => oK (rdL K H a) fun ys => ∃ bs : List Bool, ys = bs.map V.bl ∧ Q (.bl (bs.all id)) H
  | _ => False
def uTuple (K : PySem.W.Frag) : List V → Hp → VK → Prop := fun xs H Q => match xs with
  | [.ref a] => (match rdL K H a with
    | some ys => ∀ l, H l = none → Q (.ref l) (upd H l (.tup ys))
    | none => (match rdT K H a with
      | some _ => Q (.ref a) H
      | none => False))
  | _ => False
def uJoin (K : PySem.W.Frag) : V → List V → Hp → VK → Prop := fun x xs H Q => match x, xs with
  | .str a, [.ref p] => oS K H p fun vs => ∃ ys : List Str, vs = ys.map V.str ∧ (ys.map (·.length)).sum + ys.length * a.length ≤ 16777216 ∧ Q (.str (Txt.join a ys)) H
  | _, _ => False
/-- a list that may be changed -/
def mutL (H : Hp) (l : Addr) : Option (List V) := match H l with
  | some (.lst xs) => some xs
  | _ => none
theorem mutL_of {H : Hp} {l : Addr} {xs : List V} (h : H l = some (.lst xs)) : mutL H l = some xs := by unfold mutL; rw [h]
theorem of_mutL {H : Hp} {l : Addr} {xs : List V} (h : mutL H l = some xs) : H l = some (.lst xs) := by
  unfold mutL at h
  split at h
  · cases h; assumption
  · cases h
def uAppend : V → List V → Hp → VK → Prop := fun x vs H Q => match x, vs with
  | .ref l, [y] => oK (mutL H l) fun xs => xs.length < sizeLine ∧ Q .non (upd H l (.lst (xs ++ [y])))
  | _, _ => False
def uSetL : V → V → V → Hp → (Hp → Prop) → Prop := fun o i v H Q => match o, i with
  | .ref p, .int k => oK (mutL H p) fun xs => oK (ixN xs.length k) fun j => Q (upd H p (.lst (xs.set j v)))
  | _, _ => False
def uNeg : V → Hp → VK → Prop := fun x H Q => match x with
  | .int i => Q (.int (-i)) H
  | _ => False
section
variable {X : Cx}
theorem cu_all (hc : X.calm = true) : CallR X (.builtin "all") (uAll X.K) := CallRi (cr_all hc) fun xs H Q h => by
  unfold uAll at h
  split at h
  · obtain ⟨ys, e, bs, rfl, h⟩ := oK_ex h
    exact ⟨_, bs, rfl, rdL_sq e, h⟩
  · exact h.elim
theorem cu_tuple : CallR X (.type "tuple") (uTuple X.K) := CallRi call_tuple_of fun xs H Q h => by
  unfold uTuple at h
  split at h
  · split at h
    · exact ⟨_, _, rfl, .inl ⟨rdL_sq (by assumption), h⟩⟩
    · split at h
      · exact ⟨_, _, rfl, .inr ⟨rdT_sq (by assumption), h⟩⟩
      · exact h.elim
  · exact h.elim
theorem mu_join : MtR X "str.join" (uJoin X.K) := MtRi mt_join fun x xs H Q h => by
  unfold uJoin at h
  split at h
  · obtain ⟨vs, e, ys, rfl, h1, h2⟩ := h
    exact ⟨_, _, ys, rfl, rfl, e, h1, h2⟩
  · exact h.elim
theorem mu_append : MtR X "list.append" uAppend := MtRi (r := rAppend) mt_append fun x xs H Q h => by
  unfold uAppend at h
  split at h
  · obtain ⟨xs, e, h1, h2⟩ := oK_ex h
    exact ⟨_, _, _, rfl, rfl, of_mutL e, h1, h2⟩
  · exact h.elim
theorem setu : PSet X uSetL := fun pins s σ H o i v ov iv u Q I ro ri rv h => set_list pins s σ H o i v ov iv u Q I ro ri rv (by
  unfold uSetL at h
  split at h
  · obtain ⟨xs, e, h⟩ := oK_ex h
    obtain ⟨j, e2, h⟩ := oK_ex h
    exact ⟨_, _, _, _, rfl, rfl, of_mutL e, e2, h⟩
  · exact h.elim)
theorem ou_neg : UnR X (unaryOp .USub) uNeg := fun pins s σ H x v Q I r h => un_neg pins s σ H x v Q I r (by
  unfold uNeg at h
  split at h
  · exact ⟨_, rfl, h⟩
  · exact h.elim)
end
abbrev sl (z : Str) : List Nat := z.cps.toList
theorem sl_inj {a b : Str} (h : sl a = sl b) : a = b := by
  obtain ⟨⟨l⟩⟩ := a
  obtain ⟨⟨m⟩⟩ := b
  have h : l = m := h
  subst h; rfl
theorem sl_len (z : Str) : z.length = (sl z).length := rfl
theorem sl_app (a b : Str) : sl (a ++ b) = sl a ++ sl b := TL.tl_append a b
theorem sl_join (y : Str) (ps : List Str) : sl (Txt.join y ps) = TL.joinL (sl y) (ps.map sl) := by
  rw [TL.join_eq]; exact TL.tl_join y ps
theorem joinL_nil : ∀ ps : List (List Nat), TL.joinL [] ps = ps.flatten
  | [] => rfl
  | [p] => by simp [TL.joinL]
  | p :: q :: r => by
    show p ++ ([] ++ TL.joinL [] (q :: r)) = _
    rw [joinL_nil (q :: r)]; simp
theorem slen_join0 (ps : List Str) : (Txt.join "" ps).length = (ps.map (·.length)).sum := by
  rw [sl_len, sl_join]
  show (TL.joinL [] _).length = _
  rw [joinL_nil, List.length_flatten, List.map_map]
  rfl
/-- small sizes -/
theorem szl {n : Nat} (h : n ≤ 100000) : n ≤ sizeLine := Nat.le_trans h (by decide)
/-- an item of a list at a drawn place -/
theorem pick {α : Type} {xs : List α} {r : Int} (h0 : 0 ≤ r) (h1 : r < xs.length) : ∃ v, atI xs r = some v ∧ v ∈ xs := by
  have hj : r.toNat < xs.length := by omega
  refine ⟨xs[r.toNat], ?_, List.getElem_mem hj⟩
  unfold atI ixN
  rw [if_pos h0, if_pos h1]
  simp [hj]
def ScriptAt (K : PySem.W.Frag) (H : Hp) (a : Addr) (ns : List Int) : Prop :=
  (∃ o, H a = some (.frz o (.lst (ns.map V.int)))) ∨
    ∃ (o : Obj) (its : Array Value) (n : Nat), K.lookup a = some o ∧ o.cls = .type "list" ∧ o.dict = none ∧ o.data = .seq its n ∧ its.size ≤ sizeLine ∧ Vals (ns.map V.int) its.toList
theorem script_of {K : PySem.W.Frag} {H : Hp} {a : Addr} {ns : List Int} (hO : Only H) (hS : SqL K H a (ns.map V.int)) : ScriptAt K H a ns := by
  rcases hS with (h | ⟨o, h⟩) | h
  · rcases hO a with z | ⟨o, xs, z⟩
    · rw [h] at z; cases z
    · rw [h] at z; cases z
  · exact .inl ⟨o, h⟩
  · exact .inr h
theorem ScriptAt.sq {K : PySem.W.Frag} {H : Hp} {a : Addr} {ns : List Int} (h : ScriptAt K H a ns) : SqL K H a (ns.map V.int) := by
  rcases h with ⟨o, h⟩ | h
  · exact .inl (.inr ⟨o, h⟩)
  · exact .inr h
theorem ScriptAt.ex {K : PySem.W.Frag} {H H' : Hp} {a : Addr} {ns : List Int} (h : ScriptAt K H a ns) (e : Ex H H') : ScriptAt K H' a ns := by
  rcases h with ⟨o, h⟩ | h
  · exact .inl ⟨o, e _ _ h⟩
  · exact .inr h
theorem ScriptAt.fr {K : PySem.W.Frag} {H H' : Hp} {a b : Addr} {ns : List Int} {xs : List V} (h : ScriptAt K H a ns) (e : Fr b H H') (hb : H b = some (.lst xs)) : ScriptAt K H' a ns := by
  rcases h with ⟨o, h⟩ | h
  · exact .inl ⟨o, e _ _ h (ne_of h hb (by intro z; cases z))⟩
  · exact .inr h
/-- all signs are code points -/
def sok (z : Str) : Prop := ∀ c ∈ sl z, c < 1114112
instance (z : Str) : Decidable (sok z) := inferInstanceAs (Decidable (∀ c ∈ sl z, c < 1114112))
end U
namespace U
open PySem PySem.Spec PyProof.Rows L2
structure BaseC (K : PySem.W.Frag) (C0 : Addr) : Prop where
  ga : PySem.W.specialIn K (.ref C0) "__getattribute__" = some (some (.builtin "type.__getattribute__"))
  rd : ∃ mc, PySem.W.readsIn K C0 mc = true ∧ PySem.W.findCls K (.ref C0) mc "__init__" = some (.val (.builtin "ValueError.__init__"))
theorem pe_binit {X : Cx} {x : Str} {C0 : Addr} {e : Expr} {es : List Expr} {ta : TA} {p1 p2 pos : Pos} {pl : Sem Bool} (T0 : BaseC X.K C0) (hg : Gl X x) (hm : X.mg x = some (.ref C0)) (ha : PA X (e :: es) ta)
    (hc : eval (.Call (.Attribute (.Name x p1) "__init__" p2) (e :: es) [] pos) X.env = (do
      let ov ← eval (.Name x p1) X.env
      standAt p2.atName
      let (f, first) ← holding [ov] (getMethod ov "__init__" pl)
      callWith pos f first (backTo pos (starEach (e :: es) X.env)) (backToKw pos (keywordEach [] X.env))) := by rfl)
    (hdb : (x == ("__debug__" : Str)) = false := by decide) (he : starEach (e :: es) X.env = (false, eval e X.env) :: starEach es X.env := by rfl) (hpl : (backTo pos (starEach es X.env)).any (·.1) = false := by rfl) :
    PE X (.Call (.Attribute (.Name x p1) "__init__" p2) (e :: es) [] pos) (tVeI X.K ta) := by
  obtain ⟨mc, hrd, hf⟩ := T0.rd
  constructor
  intro pins s σ H Q I h
  refine PySem.W.methodCall_KW (ld_glob I hg hm ?_ hdb) hc
  refine PySem.W.method_cls I.kIn T0.ga (PySem.W.cls_value I.kIn hrd hf (by decide +kernel) ?_)
  refine PyProof.Rows.callWith_method1 (thn (ha.run pos pins _ σ H _ (I.tok _) h) ?_) he hpl
  rintro us s1 ⟨vs, H1, I1, r1, a, C, ws, rfl, hl, T, ea, q⟩
  match us, r1 with
  | _ :: ur, .cons ra rw' =>
    cases ra
    exact oinit_ok T I1 ea (by rw [← Paired.length rw']; exact szl (by omega)) fun s' J => ⟨.non, H1, J, rfl, q⟩
/-- what the text says of the class x at C with one field f, its __init__ at fI -/
structure ExcC (K : PySem.W.Frag) (mg : Str → Option Value) (x f : Str) (C fI : Addr) : Prop where
  g : mg x = some (.ref C)
  o : OexC K C
  i : PySem.W.findIn K (.ref C) "__init__" = some (some (.ref fI))
  t : PySem.W.typeIn K (.ref fI) = some (.type "function")
  n : PySem.W.findIn K (.ref C) f = some none
  xf : XfC K C
  cl : PySem.W.isClsIn K C = true
/-- the promise of such an __init__ -/
def spI (C : Addr) (f : Str) : Sp := fun vs H Q _ => ∃ (a : Addr) (v : V), vs = [.ref a, v] ∧ H a = some (exo a C none) ∧ ∀ dx, H dx = none → dx ≠ a → Q .non (upd (upd H dx (exd dx [(f, v)])) a (exo a C (some dx)))
theorem len_spI {C : Addr} {f : Str} {vs : List V} {H : Hp} {Q : VK} {E : XK} (h : spI C f vs H Q E) : vs.length = 2 := by
  obtain ⟨a, v, rfl, _⟩ := h; rfl
/-- its body: Base.__init__(self, text); self.f = value -/
def tI (K : PySem.W.Frag) (f : Str) (msg : Str) : TS := tSeq (tDrop (tVeI K (tCons (uVar 0) (tCons (tC (.str msg)) tNil)))) (tOst K f (uVar 0) (uVar 1))
theorem p_init {K : PySem.W.Frag} {mg : Str → Option Value} {x f msg p0 p1 : Str} {C fI : Addr} (T : ExcC K mg x f C fI) {vs : List V} {H : Hp} {Q : VK} {E : XK} (h : spI C f vs H Q E) :
    tI K f msg { nx := fun _ H' => Q .non H', rt := Q } (start [p0, p1] vs) H := by
  obtain ⟨a, v, rfl, ha, k⟩ := h
  refine ⟨a, C, [.str msg], rfl, by show 1 ≤ 1000; decide, T.o, ha, ?_⟩
  exact ⟨a, C, rfl, T.o, T.n, .inl ⟨ha, fun dx hd hne => k dx hd hne⟩⟩
/-- a reading closed under what follows: for rules whose own continuation is to be weakened -/
def mA (t : TA) : TA := fun σ H Q => ∃ R : List V → Hp → Prop, t σ H R ∧ ∀ vs H1, R vs H1 → Q vs H1
theorem pa_m {X : Cx} {es : List Expr} {t : TA} (h : PA X es t) : PA X es (mA t) := ⟨fun pos pins s σ H Q I k => by
  obtain ⟨R, k1, k2⟩ := k
  refine wpAny_mono (h.run pos pins s σ H R I k1) (fun us s1 q => ?_) fun _ _ z => z
  obtain ⟨vs, H1, I1, r1, q1⟩ := q
  exact ⟨vs, H1, I1, r1, k2 _ _ q1⟩⟩
/-- C(e): a new exception with its field -/
def uMk (C : Addr) (f : Str) (ta : TA) : L2.St → Hp → XK → Prop := fun σ H Q => ta σ H fun vs H1 => match vs with
  | [v] => ∀ d, H1 d = none → Q (.ref C) (some d) (upd H1 d (.xd [(f, v)]))
  | _ => False
theorem mk_heap {H1 : Hp} {a dx C : Addr} {f : Str} {v : V} (ha : H1 a = none) (hne : dx ≠ a) :
    upd (del (upd (upd (upd H1 a (exo a C none)) dx (exd dx [(f, v)])) a (exo a C (some dx))) a) dx (.xd [(f, v)]) = upd H1 dx (.xd [(f, v)]) := by
  funext b
  by_cases h1 : b = dx
  · subst h1; rw [upd_same, upd_same]
  · rw [upd_ne h1, upd_ne h1]
    by_cases h2 : b = a
    · subst h2; rw [del_same, ha]
    · rw [del_ne h2, upd_ne h2, upd_ne h1, upd_ne h2]
theorem pmku {X : Cx} {CX : CXT} {x f : Str} {C fI : Addr} {k : Nat} {fd : FuncData} {ps : List Str} {e : Expr} {ta : TA} {p pos : Pos} (T : ExcC X.K X.mg x f C fI) (F1 : FnOk X.prog X.w X.K X.mg X.base CX k fI fd ps (spI C f)) (hr : Room (k + 1) X.A) (hb : Binds X.K fd ps [])
    (hx : Passes CX X (fun _ _ _ => False)) (hg : Gl X x) (ha : PA X [e] ta)
    (hdb : (x == ("__debug__" : Str)) = false := by decide) (he : starEach (e :: []) X.env = (false, eval e X.env) :: starEach [] X.env := by rfl) (hpl : (backTo pos (starEach [] X.env)).any (·.1) = false := by rfl) :
    PMk X (.Call (.Name x p) [e] [] pos) (uMk C f ta) := by
  intro pins s σ H Q I h
  refine pmk_oex T.o T.i T.t F1 hr hb .nil hx hg T.g (pa_m ha) hdb he hpl pins s σ H Q I ⟨_, h, fun vs H1 r => ?_⟩
  match vs, r with
  | [v], r =>
    refine ⟨by show 1 ≤ 1000; decide, fun a hn => ⟨a, v, rfl, upd_same, fun dx hd hne => ⟨rfl, dx, [(f, v)], upd_same, ?_, ?_, ?_⟩⟩⟩
    · rw [upd_ne hne, upd_same]
    · rw [upd_ne hne] at hd; exact hd
    · rw [mk_heap hn hne]
      rw [upd_ne hne] at hd
      exact r dx hd
/-- raise C(e), the wish E of the def -/
def uRaise (C : Addr) (f : Str) (E : XK) (ta : TA) : TS := fun _ σ H => uMk C f ta σ H E
theorem ps_raiseu {X : Cx} {E : XK} {e : Expr} {C : Addr} {f : Str} {ta : TA} {pos : Pos} (hc : X.calm = true) (tk : Takes X (fun cls d _ H => E cls d H)) (he : PMk X e (uMk C f ta)) : PS X (.Raise (some e) none pos) (uRaise C f E ta) := ps_raise hc tk he
structure Cl where
  c : Value
  i : Option Nat
  ts : Addr → Value → Option Addr → TS
def gone (i : Nat) (D : Ends) : Ends := { nx := fun σ H => D.nx (σ.set i none) H, rt := D.rt, bk := fun σ H => D.bk (σ.set i none) H, ct := fun σ H => D.ct (σ.set i none) H }
def clW (K : PySem.W.Frag) (W0 : WX) (D : Ends) : List Cl → WX
  | [] => W0
  | k :: r => fun cls d σ H => oK (PySem.W.exmOne K cls k.c) fun b => bB b (∀ a, H a = none → (match k.i with
    | some i => k.ts a cls d (gone i D) (σ.set i (some (.ref a))) H
    | none => k.ts a cls d D σ H)) (clW K W0 D r cls d σ H)
def uTry (K : PySem.W.Frag) (W0 : WX) (l : List Cl) (tb : WX → TS) : TS := fun D σ H => tb (clW K W0 D l) D σ H
inductive ClsOk (X : Cx) : WX → List ExceptHandler → List Cl → Prop
  | none {W0 : WX} : ClsOk X W0 [] []
  | rest {hs : List ExceptHandler} : ClsOk X (fun _ _ _ _ => False) hs []
  | more {W0 : WX} {x n : Str} {k : Cl} {i : Nat} {st : Stmt} {su : List Stmt} {p1 p2 : Pos} {hs : List ExceptHandler} {l : List Cl} (hc : Names X x k.c) (hki : k.i = some i) (hi : X.N[i]? = some n) (hn : X.env.kindOf n = some .local)
      (hsu : ∀ (a : Addr) (o : Obj) (cls : Value) (d : Option Addr) (pn : List (Addr × Obj)), Zc cls d o → (∃ vs, o.data = .fields vs) → PSs (X.suite a ((a, o) :: pn)) (st :: su) (k.ts a cls d)) (r : ClsOk X W0 hs l) :
      ClsOk X W0 (.ExceptHandler (some (.Name x p1)) (some n) (st :: su) p2 :: hs) (k :: l)
  | only {W0 : WX} {x : Str} {k : Cl} {st : Stmt} {su : List Stmt} {p1 p2 : Pos} {hs : List ExceptHandler} {l : List Cl} (hc : Names X x k.c) (hki : k.i = Option.none)
      (hsu : ∀ (a : Addr) (o : Obj) (cls : Value) (d : Option Addr) (pn : List (Addr × Obj)), Zc cls d o → (∃ vs, o.data = .fields vs) → PSs (X.suite a ((a, o) :: pn)) (st :: su) (k.ts a cls d)) (r : ClsOk X W0 hs l) :
      ClsOk X W0 (.ExceptHandler (some (.Name x p1)) Option.none (st :: su) p2 :: hs) (k :: l)
section
variable {X : Cx} {W0 : WX} {pins : List (Addr × Obj)} {a : Addr}
/-- the clauses, one behind another, with the exception at a -/
theorem clauses_run {B : Heap} {s' sI : Shared} {h3 : Heap} {σ : L2.St} {H : Hp} {cls : Value} {d : Option Addr} {D : Ends} (ok : X.Ok) (hN : X.N.Nodup) (hst : X.stack = X.env :: X.outer) (hf : X.env.frame = some X.env.locals) (tk : Takes X W0)
    (J : Inv X pins σ H sI) (nb : ∀ b o, sI.heap.get? b = some o → b ∉ frs X.stack → B.get? b = some o) (up : sI.heap.UpToSlots h3) (os : s'.os = sI.os) (ag : AllBare s'.gens) (na : H a = none)
    (fl : HandSPX.FlyingZ B (X.env :: X.outer) a (Zc cls d) h3) : ∀ {hs : List ExceptHandler} {l : List Cl}, ClsOk X W0 hs l → clW X.K W0 D l cls d σ H →
      wpAny (model X.prog X.w) X.A (handleBy (.ref a) X.env hs) (SP X pins D) X.xe { s' with heap := h3 } := by
  intro hs l hk
  obtain ⟨o1, v1, g1, z1, d1⟩ := fl.there
  have J1 : Inv X pins σ H { s' with heap := h3 } := J.landed nb fl.1 up os ag
  have off : a ∉ frs (X.env :: X.outer) := fun hm => by
    obtain ⟨_, o, e, nf⟩ := fl.2.2.1.mem hm
    rw [g1] at e; cases e
    exact nf _ d1
  have offL : a ≠ X.env.locals := fun z => off (List.mem_filterMap.mpr ⟨X.env, List.mem_cons_self, by rw [hf, z]⟩)
  have offF : a ∉ X.fs := fun hm => by
    obtain ⟨v, hv, q⟩ := List.mem_filterMap.mp hm
    exact off (List.mem_filterMap.mpr ⟨v, List.mem_cons_of_mem _ hv, q⟩)
  induction hk with
  | rest => intro w; exact w.elim
  | none =>
    intro w
    refine wpAny_handleBy_nil ?_
    obtain ⟨_, _, _, o2, v2, T, _, _, g2, _, d2, t1, _⟩ := id fl
    unfold PySem.passOn
    refine wpAny_bind (wpAny_field g2 d2 t1 ?_)
    rw [if_neg (show ¬ ((Value.ref T == Value.none) = true) from by simp)]
    have out : wpAny (model X.prog X.w) X.A (setFlight (.ref a) X.env.frame) (fun _ s4 => wpAny (model X.prog X.w) X.A (throw (.ref a) : Sem Flow) (SP X pins D) X.xe s4) X.xe { s' with heap := h3 } := by
      rw [hf]
      exact HandSPX.setFlight_upZ fl fun h4 q4 u4 => wpAny_throw (tk _ _ ⟨a, B, sI, pins, σ, H, cls, d, rfl, J, nb, up.trans u4, .inr (.inr (by rw [hst]; exact q4)), na, os, ag, w⟩)
    first
      | exact wpAny_bind (wpAny_pure (wpAny_bind out))
      | exact wpAny_bind out
  | @more W0 x n k i st su p1 p2 hs2 l2 hc hki hi hn hsu r ih =>
    intro w
    obtain ⟨b, hb, w⟩ := oK_ex w
    refine wpAny_handleBy_cons (codeAny_handlers_test ?_) (by intro q; cases q)
    have S1 := J1.suite g1 d1 na offL offF
    have LM := PySem.W.exm_one (M := model X.prog X.w) J1.kIn (fun A Q E s k q => wpAny_typeOf_ref (k _ _ g1) (by rw [z1.1]; exact q)) hb
    have look : ∀ {Q E : Value → Shared → Prop}, Q k.c { s' with heap := h3 } → wpAny (model X.prog X.w) (X.A.mark (some (.ref a))) (eval (.Name x p1) X.env) Q E { s' with heap := h3 } := fun {Q E} q => by
      obtain ⟨y1, y2, y3 | ⟨y3, y4, y5⟩⟩ := hc
      · exact ld_glob (X := X.suite a ((a, o1) :: (X.pn ++ pins))) S1 y1 y3 q y2
      · exact ld_blt (X := X.suite a ((a, o1) :: (X.pn ++ pins))) S1 y1 y3 y4 q y5 y2
    refine look (LM.here ?_)
    cases b with
    | false =>
      show wpAny _ X.A (handleBy (.ref a) X.env hs2) _ _ _
      exact ih tk w
    | true =>
      have w : ∀ a, H a = Option.none → k.ts a cls d (gone i D) (σ.set i (some (.ref a))) H := fun a ha => by have w2 := w a ha; rw [hki] at w2; exact w2
      refine codeAny_handlers_suite_as (HandSPX.lands_againZ fl fun h4 fl4 u4 => ?_)
      obtain ⟨o4, v4, g4, z4, d4⟩ := fl4.there
      have S4 := (show Inv X pins σ H { s' with heap := h4 } from J.landed nb fl4.1 (up.trans u4) os ag).suite g4 d4 na offL offF
      refine store_ok (X := X.suite a ((a, o4) :: (X.pn ++ pins))) (v := .ref a) S4 hN hi (.inl hn) rfl (fun s5 S5 => ?_) (.inr hn)
      refine wpAny_mono ((hsu a o4 cls d (X.pn ++ pins) z4 ⟨_, d4⟩).run [] s5 _ H _ S5 (w a na)) (fun fl s6 q => ?_) (fun _ _ z => z.elim)
      have leave : ∀ {σ6 : L2.St} {H6 : Hp} {R : Shared → Prop}, Inv (X.suite a ((a, o4) :: (X.pn ++ pins))) [] σ6 H6 s6 → (∀ s7, Inv X pins (σ6.set i Option.none) H6 s7 → R s7) →
          wpAny (model X.prog X.w) X.A (do bindName X.env n .none; unbindBehindTheSuite X.env n p2) (fun _ s7 => R s7) X.xe s6 := fun {σ6 H6 R} S6 hq => gone_ok (S6.unsuite ok) hN hi hn hq
      cases fl with
      | ret u =>
        obtain ⟨v6, σ6, H6, S6, r6, q6⟩ := q
        exact leave S6 fun s7 J7 => ⟨v6, _, H6, J7, r6, q6⟩
      | next =>
        obtain ⟨σ6, H6, S6, q6⟩ := q
        exact leave S6 fun s7 J7 => ⟨_, H6, J7, q6⟩
      | brk =>
        obtain ⟨σ6, H6, S6, q6⟩ := q
        exact leave S6 fun s7 J7 => ⟨_, H6, J7, q6⟩
      | cont =>
        obtain ⟨σ6, H6, S6, q6⟩ := q
        exact leave S6 fun s7 J7 => ⟨_, H6, J7, q6⟩
  | @only W0 x k st su p1 p2 hs2 l2 hc hki hsu r ih =>
    intro w
    obtain ⟨b, hb, w⟩ := oK_ex w
    refine wpAny_handleBy_cons (codeAny_handlers_test ?_) (by intro q; cases q)
    have S1 := J1.suite g1 d1 na offL offF
    have LM := PySem.W.exm_one (M := model X.prog X.w) J1.kIn (fun A Q E s k q => wpAny_typeOf_ref (k _ _ g1) (by rw [z1.1]; exact q)) hb
    have look : ∀ {Q E : Value → Shared → Prop}, Q k.c { s' with heap := h3 } → wpAny (model X.prog X.w) (X.A.mark (some (.ref a))) (eval (.Name x p1) X.env) Q E { s' with heap := h3 } := fun {Q E} q => by
      obtain ⟨y1, y2, y3 | ⟨y3, y4, y5⟩⟩ := hc
      · exact ld_glob (X := X.suite a ((a, o1) :: (X.pn ++ pins))) S1 y1 y3 q y2
      · exact ld_blt (X := X.suite a ((a, o1) :: (X.pn ++ pins))) S1 y1 y3 y4 q y5 y2
    refine look (LM.here ?_)
    cases b with
    | false =>
      show wpAny _ X.A (handleBy (.ref a) X.env hs2) _ _ _
      exact ih tk w
    | true =>
      have w : ∀ a, H a = Option.none → k.ts a cls d D σ H := fun a ha => by have w2 := w a ha; rw [hki] at w2; exact w2
      refine codeAny_handlers_suite (HandSPX.lands_againZ fl fun h4 fl4 u4 => ?_)
      obtain ⟨o4, v4, g4, z4, d4⟩ := fl4.there
      have S4 := (show Inv X pins σ H { s' with heap := h4 } from J.landed nb fl4.1 (up.trans u4) os ag).suite g4 d4 na offL offF
      refine wpAny_mono ((hsu a o4 cls d (X.pn ++ pins) z4 ⟨_, d4⟩).run [] _ _ H _ S4 (w a na)) (fun fl s6 q => ?_) (fun _ _ z => z.elim)
      cases fl with
      | ret u =>
        obtain ⟨v6, σ6, H6, S6, r6, q6⟩ := q
        exact ⟨v6, _, H6, S6.unsuite ok, r6, q6⟩
      | next =>
        obtain ⟨σ6, H6, S6, q6⟩ := q
        exact ⟨_, H6, S6.unsuite ok, q6⟩
      | brk =>
        obtain ⟨σ6, H6, S6, q6⟩ := q
        exact ⟨_, H6, S6.unsuite ok, q6⟩
      | cont =>
        obtain ⟨σ6, H6, S6, q6⟩ := q
        exact ⟨_, H6, S6.unsuite ok, q6⟩
theorem pus_try {body : List Stmt} {h0 : ExceptHandler} {hs : List ExceptHandler} {l : List Cl} {pos : Pos} {tb : WX → TS} (hst : X.stack = X.env :: X.outer) (hf : X.env.frame = some X.env.locals) (hN : X.N.Nodup) (tk : Takes X W0)
    (hb : ∀ (W : WX) (pn : List (Addr × Obj)) (xe : Value → Shared → Prop), Takes (X.tr pn xe) W → PassesOwn (model X.prog X.w) X.A X.env xe → PSs (X.tr pn xe) body (tb W)) (hk : ClsOk X W0 (h0 :: hs) l) :
    PS X (.Try body (h0 :: hs) [] [] pos) (uTry X.K W0 l tb) := ⟨fun pins s σ H D I h => by
  have ok := I.ok
  have fr : X.A.frames = some (X.env :: X.outer) := by rw [ok.frames, hst]
  refine wpAny_Try_except (wpAny_mono ((hb (clW X.K W0 D l) (X.pn ++ pins) _ (fun u s' y => ?_) PassesOwn.looking).run [] s σ H D (I.toTry _) h) (fun f s1 q => ?_) fun e s1 q => q)
  · obtain ⟨a, B, sI, _, σ', H', cls, d, rfl, J, nb, up, sky, na, os, ag, w⟩ := y
    show wpAny (model X.prog X.w) X.A (noteFrame (.ref a) X.env) _ _ _
    exact Sky.land Zc.steady fr hf (by rw [← hst]; exact sky) fun h3 fl3 u3 => clauses_run ok hN hst hf tk (J.ofTry ok) nb (up.trans u3) os ag na fl3 hk w
  · cases f with
    | next =>
      obtain ⟨σ', H', J, q⟩ := q
      exact wpAny_execs_nil ⟨σ', H', J.ofTry ok, q⟩
    | ret u =>
      obtain ⟨v, σ', H', J, r, q⟩ := q
      exact ⟨v, σ', H', J.ofTry ok, r, q⟩
    | brk =>
      obtain ⟨σ', H', J, q⟩ := q
      exact ⟨σ', H', J.ofTry ok, q⟩
    | cont =>
      obtain ⟨σ', H', J, q⟩ := q
      exact ⟨σ', H', J.ofTry ok, q⟩⟩
end
/-- n.f in a suite, n in slot i -/
def uXf (K : PySem.W.Frag) (a : Addr) (cls : Value) (d : Option Addr) (i : Nat) (f : Str) : TE := fun σ H Q => ∃ (C dd : Addr) (fs : List (Str × V)) (v : V), cls = .ref C ∧ XfC K C ∧ PySem.W.findIn K (.ref C) f = some none ∧ σ[i]? = some (some (.ref a)) ∧
  d = some dd ∧ H dd = some (.xd fs) ∧ fs.lookup f = some v ∧ Q v H
theorem pue_xf {X : Cx} {a : Addr} {oe : Obj} {cls : Value} {d : Option Addr} {pn : List (Addr × Obj)} (i : Nat) {x n : Str} {p pos : Pos} (hz : Zc cls d oe) (hf : ∃ vs, oe.data = .fields vs) (hN : X.N[i]? = some x := by rfl)
    (hv : Vis X.env.scope x := by exact Or.inl rfl) (hd : (x == ("__debug__" : Str)) = false := by decide) (hcd : (x == ("__classdict__" : Str)) = false := by decide)
    (hb : attributeBase (.Name x p) n X.env (eval (.Name x p) X.env) = eval (.Name x p) X.env := by rfl) : PE (X.suite a ((a, oe) :: pn)) (.Attribute (.Name x p) n pos) (uXf X.K a cls d i n) := ⟨fun pins s σ H Q I h => by
  obtain ⟨C, dd, fs, v, rfl, T, hno, e, rfl, h1, h2, q⟩ := h
  exact (pe_xf T hno hz hf (pe_var (X := X.suite a ((a, oe) :: pn)) hN hv hd hcd) hb).run pins s σ H Q I ⟨_, e, rfl, rfl, dd, fs, v, rfl, h1, h2, q⟩⟩
/-- whether a clause takes an exception -/
theorem exm_of {K : PySem.W.Frag} {S C : Addr} {b : Bool} (h1 : PySem.W.subIn K (.ref C) (.type "BaseException") = some true) (h2 : PySem.W.isClsIn K C = true) (h3 : PySem.W.typeIn K (.ref C) = some (.type "type")) (h4 : PySem.W.subIn K (.ref S) (.ref C) = some b) :
    PySem.W.exmOne K (.ref S) (.ref C) = some b := by
  have y : (PySem.W.clsIn K C).isSome = true := h2
  unfold PySem.W.exmOne
  rw [h1]
  show (if ((PySem.W.clsIn K C).isSome && PySem.W.typeIn K (.ref C) == some (.type "type")) = true then PySem.W.subIn K (.ref S) (.ref C) else none) = some b
  rw [y, h3]
  exact h4
end U
namespace U
open PySem PySem.Spec PyProof.Rows L2
structure FnG (P : Program) (w : World) (K : PySem.W.Frag) (mg : Str → Option Value) (base : Heap) (CX : CXT) (k : Nat) (f : Addr) (fd : FuncData) (ps : List Str) (sp : Sp) : Prop where
  len : ∀ vs H Q E, sp vs H Q E → vs.length = ps.length
  run : ∀ (A : Around) (outer : List Env) (s : Shared) (H : Hp) (args : Args) (us : List Value) (vs : List V) (Q : VK) (E : XK), A.guards = some [] → Room k A → Env0 P w K mg base A outer s H →
    BindsTo s fd args (ps.zip us) → Vals vs us → sp vs H Q E → codeAny (model P w) A (.call (.ref f) args) (CR CX outer P w H s Q E) s
section
variable {P : Program} {w : World} {K : PySem.W.Frag} {mg : Str → Option Value} {base : Heap}
theorem fn_ofG {CX : CXT} {k : Nat} {f : Addr} {x qual : Str} {st : Stmt} {fd : FuncData} {N ps : List Str} {sp : Sp} (F : Fun K x qual st f fd) (S : FnScope N ps (defScope st)) (len : ∀ vs H Q E, sp vs H Q E → vs.length = ps.length)
    (body : ∀ (cdv : Value) (A : Around) (outer : List Env) (s : Shared) (H : Hp) (vs : List V) (Q : VK) (E : XK), A.guards = some [] → Room k (A.deeper (envOfC qual (defScope st) s.heap.objs.size f cdv)) → sp vs H Q E →
      ∃ t, PSs (cxOf CX P w K mg base N qual (defScope st) f cdv A outer s H E) (defBody st) t ∧ t { nx := fun _ H' => Q .non H', rt := Q } (start N vs) H) : FnG P w K mg base CX (k + 1) f fd ps sp := by
  obtain ⟨oc, od, kV, doc, pm, an, cdv, ct, osl, rfl, lk, hcd⟩ := F.ex
  refine ⟨len, fun A outer s H args us vs Q E hg hr e0 hb rv h => ?_⟩
  have kin : K.In s.heap := e0.mod.kin.keeps fun b o z => (e0.bs b o z).1
  have nl : s.heap.NoLimit := e0.mod.nolimit.keeps fun b o z => (e0.bs b o z).1
  obtain ⟨t, ht, hq⟩ := body cdv A outer s H vs Q E hg (hr.deeper _) h
  refine codeAny_call_function hr.depth (kin _ _ lk) rfl S.co S.gen rfl (PySem.W.codeRec_of kin hcd) (hb _ _ _ _ (wpAny_newFunctionEnv_cells S.kind (fun ⟨n, v⟩ hy => ?_) fun env he s1 y => ?_))
  · rcases S.par n (List.of_mem_zip hy).1 with q | q
    · exact .inl q
    · exact .inr ⟨q, PySem.W.cellsFrom_some _ _ _ (.inl q)⟩
  subst he
  refine ⟨nl.keeps y.toInCall.keep, codeAny_func (wpAny_mono (ht.run [] s1 (start N vs) H _ (inv_start S hr.hd e0 (len _ _ _ _ h) rv y) hq) (fun fl s' q => ?_) fun _ _ q => q)⟩
  cases fl with
  | next =>
    obtain ⟨_, H', J, q⟩ := q
    exact ⟨V.non, H', J.os, J.bare, J.base, J.hok, rfl, q⟩
  | ret u =>
    obtain ⟨v, _, H', J, r, q⟩ := q
    exact ⟨v, H', J.os, J.bare, J.base, J.hok, r, q⟩
  | brk =>
    obtain ⟨_, _, _, q⟩ := q
    exact q.elim
  | cont =>
    obtain ⟨_, _, _, q⟩ := q
    exact q.elim
theorem okG {k : Nat} {f : Addr} {x qual : Str} {st : Stmt} {fd : FuncData} {N ps : List Str} {sp : Sp} (F : Fun K x qual st f fd) (S : FnScope N ps (defScope st)) (len : ∀ vs H Q E, sp vs H Q E → vs.length = ps.length)
    (body : ∀ (cdv : Value) (A : Around) (outer : List Env) (s : Shared) (H : Hp) (vs : List V) (Q : VK) (E : XK), A.guards = some [] → Room k (A.deeper (envOfC qual (defScope st) s.heap.objs.size f cdv)) → sp vs H Q E →
      ∃ t, PSs (cxOf CX0 P w K mg base N qual (defScope st) f cdv A outer s H E).nox (defBody st) t ∧ t { nx := fun _ H' => Q .non H', rt := Q } (start N vs) H) : FnG P w K mg base CX0 (k + 1) f fd ps sp :=
  fn_ofG F S len fun cdv A outer s H vs Q E hg hr h => by
    obtain ⟨t, h1, h2⟩ := body cdv A outer s H vs Q E hg hr h
    exact ⟨t, h1.nox, h2⟩
end
section
variable {X : Cx} {CX : CXT} {k : Nat} {f : Addr} {fd : FuncData} {ps : List Str} {sp : Sp} {E : XK} {x : Str} {p pos : Pos} {e : Expr} {es : List Expr} {t : TA}
theorem run_fnG {pins : List (Addr × Obj)} {σ : L2.St} {H : Hp} {s : Shared} {Q : VK} {us : List Value} {vs : List V} (F : FnG X.prog X.w X.K X.mg X.base CX k f fd ps sp) (hg : X.A.guards = some []) (hr : Room k X.A) (hb : Binds X.K fd ps []) (hx : Passes CX X E)
    (I : Inv X pins σ H s) (r : Vals vs us) (h : sp (vs ++ []) H Q E) : wpAny (model X.prog X.w) X.A (call (.ref f) us) (EP X pins σ Q) X.xe s := by
  rw [List.append_nil] at h
  have hl : us.length = ps.length := by rw [← r.length]; exact F.len _ _ _ _ h
  have b := hb s us I.kIn (by rw [List.append_nil]; exact hl)
  rw [List.append_nil] at b
  refine wpAny_call (codeAny_mono (F.run X.A X.stack s H ⟨us, []⟩ us vs Q E hg hr I.env0 b r h) fun r s' q => ?_)
  match r, q with
  | .error er, q => exact hx pins σ H s er s' I q
  | .ok (.ret u), q => exact I.after q
theorem pe_callG (F : FnG X.prog X.w X.K X.mg X.base CX k f fd ps sp) (hgd : X.A.guards = some []) (hr : Room k X.A) (hg : Gl X x) (hm : X.mg x = some (.ref f)) (hk : PySem.W.keepIn X.K (.ref f) = true) (hb : Binds X.K fd ps []) (hx : Passes CX X E)
    (ha : PA X (e :: es) t) (hdb : (x == ("__debug__" : Str)) = false := by decide) (he : starEach (e :: es) X.env = (false, eval e X.env) :: starEach es X.env := by rfl) (hpl : (backTo pos (starEach es X.env)).any (·.1) = false := by rfl) :
    PE X (.Call (.Name x p) (e :: es) [] pos) (tCall sp [] E t) := ⟨fun pins s σ H Q I h => wpAny_Call_Name_kw (ld_glob I hg hm (PySem.W.callWith_K (h₀ := X.base) I.ok.mod.kin hk
      (thn (ha.run pos pins s σ H _ I h) fun us s1 ⟨vs, H1, I1, r, q⟩ => ⟨I1.kIn, run_fnG F hgd hr hb hx I1 r q⟩) he hpl) hdb)⟩
end
theorem law_callG {P : Program} {w : World} {K : PySem.W.Frag} {mg mb : Str → Option Value} {CX : CXT} {k : Nat} {fa a : Addr} {fd : FuncData} {x : Str} {sp : Sp} {s₁ : Shared} {vs : List Value} {ns : List Int}
    (KX : K.In s₁.heap) (hns : s₁.heap.Ns mainGlobals mg) (hb : s₁.heap.Ns builtinsNs mb) (hbb : ∀ x : Str, x ≠ "__name__" → mb x = bootBuiltins x) (nl : s₁.heap.NoLimit) (hg : s₁.gens = #[])
    (ha : s₁.heap.get? a = some { cls := .type "list", data := .seq vs.toArray }) (hi : IntsAre vs ns) (hl : ns.length ≤ sizeLine) (hr : Room k callerA)
    (F : ∀ base : Heap, K.In base → base.Ns mainGlobals mg → FnG P w K mg base CX k fa fd [x] sp) (bind : ∀ (s : Shared) (u : Value), BindsTo s fd ⟨[u], []⟩ [(x, u)])
    (hsp : ∀ H : Hp, Only H → SqL K H a (ns.map V.int) → sp [.ref a] H (fun v _ => v = .bl true) fun _ _ _ => False)
    (hCX : ∀ H e s', CX [] H s₁ (fun _ _ _ => False) e s' → False) :
    codeAny (model P w) callerA (.call (.ref fa) ⟨[.ref a], []⟩) (fun r s' => r = .ok (.ret (.bool true)) ∧ OldK s₁.heap s'.heap ∧ s'.os = s₁.os ∧ AllBare s'.gens) s₁ := by
  have start : ∀ H : Hp, Only H → SqL K H a (ns.map V.int) → HOk P w H s₁.heap → (∀ b, H b ≠ none → b = a) → (H a ≠ none → K.lookup a = none) →
      codeAny (model P w) callerA (.call (.ref fa) ⟨[.ref a], []⟩) (fun r s' => r = .ok (.ret (.bool true)) ∧ OldK s₁.heap s'.heap ∧ s'.os = s₁.os ∧ AllBare s'.gens) s₁ := fun H hO hS hok only free => by
    have atA : ∀ {b : Addr} {u : HO}, H b = some u → b = a := fun {b u} q => only b (by rw [q]; simp)
    have nsH : ∀ {b : Addr} {m : Str → Option Value}, s₁.heap.Ns b m → (hidT s₁.heap H).Ns b m := fun {b m} ⟨o, es, ep, e, d, r⟩ => ⟨o, es, ep, hidT_get e (by
      cases q : H b with
      | none => rfl
      | some u =>
        rw [atA q, ha] at e; cases e
        exact nomatch d), d, r⟩
    have kinH : K.In (hidT s₁.heap H) := fun b o e => hidT_get (KX b o e) (by
      cases q : H b with
      | none => rfl
      | some u =>
        have z := atA q
        subst z
        rw [free (by rw [q]; simp)] at e; cases e)
    have env : Env0 P w K mg (hidT s₁.heap H) callerA [] s₁ H := ⟨rfl, ⟨kinH, nsH hns, ⟨mb, nsH hb, hbb⟩, let ⟨mc, h1, h2⟩ := nl; ⟨mc, nsH h1, h2⟩⟩, fun b o e => of_hidT e, Nat.le_of_eq (hidT_size _ _), trivial,
      fun b hb => absurd (show b ∈ ([] : List Addr) from hb) (by simp), hok, .of_eq hg⟩
    refine codeAny_mono ((F _ kinH (nsH hns)).run callerA [] s₁ H ⟨[.ref a], []⟩ [.ref a] [.ref a] _ _ rfl hr env (bind s₁ (.ref a)) (.cons rfl .nil) (hsp H hO hS)) fun r s' h => ?_
    match r, h with
    | .error er, h => exact (hCX H er s' h).elim
    | .ok (.ret u), h =>
      obtain ⟨v, H', os, bare, un, hok', r', q⟩ := h
      obtain rfl : v = .bl true := q
      obtain rfl : u = Value.bool true := r'
      refine ⟨rfl, OldK.of_keep fun b o e => ?_, os, bare⟩
      cases q : H b with
      | none => exact un.keep b o e q (by intro z; exact absurd (show b ∈ ([] : List Addr) from z) (by simp)) (by simp)
      | some u =>
        rcases hO b with z | ⟨ob, xs, z⟩
        · rw [q] at z; cases z
        · obtain ⟨e1, _⟩ := hok b _ z
          obtain ⟨e2, _⟩ := hok' b _ (un.frzs b ob _ z)
          rw [e] at e1; cases e1
          exact e2
  cases hk : K.lookup a with
  | some o =>
    have e := KX a o hk
    rw [ha] at e
    cases e
    exact start (fun _ => none) (fun _ => .inl rfl) (.inr ⟨_, vs.toArray, _, hk, rfl, rfl, rfl, by rw [List.size_toArray, hi.length]; exact hl, by simpa using vals_ints hi⟩) (fun b u z => nomatch (show (none : Option HO) = some u from z)) (fun b z => absurd rfl z) fun z => absurd rfl z
  | none =>
    let ob : Obj := { cls := .type "list", data := .seq vs.toArray }
    refine start (fun b => if b = a then some (.frz ob (.lst (ns.map V.int))) else none) (fun b => ?_) (.inl (.inr ⟨ob, if_pos rfl⟩)) (fun b u z => ?_) (fun b z => ?_) fun _ => hk
    · by_cases hb : b = a
      · exact .inr ⟨_, _, if_pos hb⟩
      · exact .inl (if_neg hb)
    · by_cases hb : b = a
      · have y := (if_pos hb).symm.trans z
        cases y
        subst hb
        exact ⟨ha, by rw [List.length_map]; exact hl, vs, _, vals_ints hi, ha⟩
      · exact nomatch (if_neg hb).symm.trans z
    · by_cases hb : b = a
      · exact hb
      · exact absurd (if_neg hb) z
theorem walk_ofG {l : PySem.W.OpenLaw} {n k : Nat} {q : Program} {loose : List Str} {XP : (Str → Option Value) → Heap → Prop} {YP : World → Heap → Prop} {d : DefRec} {K : Params → PySem.W.Frag} {x : Str} {sp : World → (Nat → Addr) → Sp}
    (hn : l.most = some n) (hn2 : n ≤ sizeLine) (hdf : d.params.defaults = []) (hr : Room k callerA) (hY : ∀ (w : World) (h : Heap), YP w h → (K w.params).In h)
    (F : ∀ (w : World) (mg : Str → Option Value) (fa : Addr) (h : Heap), (K w.params).In h → h.Ns mainGlobals mg → mg d.name = some (.ref fa) →
      ∃ (ca : Nat → Addr) (fd : FuncData), (∀ (s : Shared) (u : Value), BindsTo s fd ⟨[u], []⟩ [(x, u)]) ∧ ∀ base : Heap, (K w.params).In base → base.Ns mainGlobals mg → FnG l.prog w (K w.params) mg base CX0 k fa fd [x] (sp w ca))
    (hsp : ∀ (w : World) (ca : Nat → Addr) (H : Hp) (a : Addr) (ns : List Int), ns.length ≤ n → Only H → SqL (K w.params) H a (ns.map V.int) → sp w ca [.ref a] H (fun v _ => v = .bl true) fun _ _ _ => False) :
    PySem.W.WalkO q loose XP YP l.row.toRowW d [] (fun f vs => PySem.call f vs) := by
  refine Att.attach_call hn hdf fun w s₀ s₁ mg mb fa o pm cd doc a vs ns G Y ho hd hcd hmg hobj hints hlen hg => ?_
  obtain ⟨ca, fd, hb, hF⟩ := F w mg fa _ (hY w _ Y) G.T.g hmg
  exact law_callG (hY w _ Y) G.T.g G.T.b G.T.builtins G.T.nolimit hg hobj hints (Nat.le_trans hlen hn2) hr hF hb (fun H hO hS => hsp w ca H a ns hlen hO hS) fun _ _ _ z => z
end U
namespace U
open PySem PySem.Spec PyProof.Rows L2
def Sm (K : PySem.W.Frag) (H : Hp) : Nat → V → V → Prop
  | 0 => fun _ _ => False
  | n + 1 => fun x y => (x = y ∧ flatB x = true) ∨ (∃ a, x = .ref a ∧ y = .ref a) ∨ ∃ a b xs ys, x = .ref a ∧ y = .ref b ∧ SqL K H a xs ∧ SqL K H b ys ∧ Paired (Sm K H n) xs ys
section
variable {X : Cx} {pins : List (Addr × Obj)} {σ : L2.St} {H : Hp} {s : Shared}
theorem sm_items {A : Around} {F : V → V → Prop} (ih : ∀ x y v u, F x y → RelV x v → RelV y u → SeqAt.EqAt A s v u true) : ∀ {xs ys : List V} {us ws : List Value}, Paired F xs ys → Vals xs us → Vals ys ws →
    us.length = ws.length ∧ ∀ j (h1 : j < us.length) (h2 : j < ws.length), SeqAt.EqAt A s us[j] ws[j] true
  | _, _, _, _, .nil, .nil, .nil => ⟨rfl, fun j h1 _ => absurd h1 (Nat.not_lt_zero j)⟩
  | _, _, _, _, .cons h t, .cons a1 b1, .cons a2 b2 => by
    obtain ⟨e, k⟩ := sm_items ih t b1 b2
    refine ⟨congrArg Nat.succ e, fun j h1 h2 => ?_⟩
    cases j with
    | zero => exact ih _ _ _ _ h a1 a2
    | succ j => exact k j (Nat.lt_of_succ_lt_succ h1) (Nat.lt_of_succ_lt_succ h2)
theorem sm_lists (I : Inv X pins σ H s) {A : Around} {F : V → V → Prop} (ih : ∀ x y v u, F x y → RelV x v → RelV y u → SeqAt.EqAt A s v u true) {a b : Addr} {xs ys : List V} (ha : SqL X.K H a xs) (hb : SqL X.K H b ys) (p : Paired F xs ys) :
    ∃ us ws : List Value, s.heap.IsList a us.toArray ∧ s.heap.IsList b ws.toArray ∧ us.toArray.size = ws.toArray.size ∧ ∀ j (h1 : j < us.toArray.size) (h2 : j < ws.toArray.size), SeqAt.EqAt A s us.toArray[j] ws.toArray[j] true := by
  obtain ⟨us, r1, p1, _⟩ := I.list ha
  obtain ⟨ws, r2, p2, _⟩ := I.list hb
  obtain ⟨e, k⟩ := sm_items ih p r1 r2
  exact ⟨us, ws, p1.isList, p2.isList, by simpa using e, fun j h1 h2 => by simpa using k j (by simpa using h1) (by simpa using h2)⟩
theorem allT (n : Nat) : ((List.range n).all fun _ => true) = true := List.all_eq_true.mpr fun _ _ => rfl
theorem sm_run (I : Inv X pins σ H s) : ∀ (n : Nat) (A : Around), A.units + n < cLine → ∀ (x y : V) (v u : Value), Sm X.K H n x y → RelV x v → RelV y u → SeqAt.EqAt A s v u true
  | 0, _, _, _, _, _, _, h, _, _ => (show False from h).elim
  | n + 1, A, hu, x, y, v, u, h, rx, ry => by
    rcases h with ⟨rfl, f⟩ | ⟨a, rfl, rfl⟩ | ⟨a, b, xs, ys, rfl, rfl, ha, hb, p⟩
    · exact eqAt_same rx ry f
    · cases (show v = Value.ref a from rx)
      cases (show u = Value.ref a from ry)
      exact SeqAt.EqAt.same _
    · cases (show v = Value.ref a from rx)
      cases (show u = Value.ref b from ry)
      by_cases e : a = b
      · subst e; exact SeqAt.EqAt.same _
      · obtain ⟨us, ws, p1, p2, hz, k⟩ := sm_lists I (A := A.in1) (sm_run I n A.in1 (by show A.units + 1 + n < cLine; omega)) ha hb p
        have r := SeqAt.RcAt.lists (A := A) (e := fun _ => true) p1 p2 hz (by omega) k
        rw [allT] at r
        exact SeqAt.EqAt.of_refs e r
/-- two lists of the same things -/
def SmL (K : PySem.W.Frag) (H : Hp) (x y : V) : Prop := ∃ a b xs ys, x = .ref a ∧ y = .ref b ∧ SqL K H a xs ∧ SqL K H b ys ∧ Paired (Sm K H 40) xs ys
theorem op_eqS (hu : X.A.units + 64 < cLine) : OpR X (compareOp .Eq) (fun x y H Q => SmL X.K H x y ∧ Q (.bl true) H) := fun pins s σ H x y v u Q I rx ry h => by
  obtain ⟨⟨a, b, xs, ys, rfl, rfl, ha, hb, p⟩, q⟩ := h
  cases (show v = Value.ref a from rx)
  cases (show u = Value.ref b from ry)
  obtain ⟨us, ws, p1, p2, hz, k⟩ := sm_lists I (A := X.A.in1) (sm_run I 40 X.A.in1 (by show X.A.units + 1 + 40 < cLine; omega)) ha hb p
  have r := SeqAt.RcAt.lists (A := X.A) (e := fun _ => true) p1 p2 hz (by omega) k
  rw [allT] at r
  exact r X.prog X.w _ _ ⟨.bl true, H, I, rfl, q⟩
theorem op_neS (hu : X.A.units + 64 < cLine) : OpR X (compareOp .NotEq) (fun x y H Q => SmL X.K H x y ∧ Q (.bl false) H) := fun pins s σ H x y v u Q I rx ry h => by
  obtain ⟨⟨a, b, xs, ys, rfl, rfl, ha, hb, p⟩, q⟩ := h
  cases (show v = Value.ref a from rx)
  cases (show u = Value.ref b from ry)
  obtain ⟨us, ws, p1, p2, hz, k⟩ := sm_lists I (A := X.A.in1) (sm_run I 40 X.A.in1 (by show X.A.units + 1 + 40 < cLine; omega)) ha hb p
  have r := SeqAt.RcNeAt.lists (A := X.A) (e := fun _ => true) p1 p2 hz (by omega) k
  rw [allT] at r
  exact r X.prog X.w _ _ ⟨.bl false, H, I, rfl, q⟩
end
def uEq2 (K : PySem.W.Frag) : R2 := fun x y H Q => match scal x y with
  | true => Q (.bl (decide (x = y))) H
  | false => (∃ d e, Dp K H x d ∧ Dp K H y e ∧ SeqAt.shaped d = true ∧ SeqAt.shaped e = true ∧ Q (.bl (PyData.eqv d e)) H) ∨ (SmL K H x y ∧ Q (.bl true) H)
def uNe2 (K : PySem.W.Frag) : R2 := fun x y H Q => match scal x y with
  | true => Q (.bl (!decide (x = y))) H
  | false => (∃ d e, Dp K H x d ∧ Dp K H y e ∧ SeqAt.shaped d = true ∧ SeqAt.shaped e = true ∧ Q (.bl (!PyData.eqv d e)) H) ∨ (SmL K H x y ∧ Q (.bl false) H)
def uInt : List V → Hp → VK → Prop := fun xs H Q => match xs with
  | [.int i] => Q (.int i) H
  | [.bl k] => Q (.int (if k then 1 else 0)) H
  | [.str a] => a.length ≤ 640 ∧ oK (PySem.intText? a) fun n => Q (.int n) H
  | _ => False
section
variable {X : Cx}
theorem ou_eq2 (hu : X.A.units + 64 < cLine) : OpR X (compareOp .Eq) (uEq2 X.K) := OpRi (op_eq.or ((op_eqD hu).or (op_eqS hu))) fun x y H Q h => by
  unfold uEq2 at h
  split at h
  · exact .inl ⟨by assumption, h⟩
  · exact .inr h
theorem ou_ne2 (hu : X.A.units + 64 < cLine) : OpR X (compareOp .NotEq) (uNe2 X.K) := OpRi (op_ne.or ((op_neD hu).or (op_neS hu))) fun x y H Q h => by
  unfold uNe2 at h
  split at h
  · exact .inl ⟨by assumption, h⟩
  · exact .inr h
theorem callR_or {f : Value} {r r' : List V → Hp → VK → Prop} (h : CallR X f r) (h' : CallR X f r') : CallR X f (fun xs H Q => r xs H Q ∨ r' xs H Q) := fun pins s σ H xs us Q I rv q => q.elim (h pins s σ H xs us Q I rv) (h' pins s σ H xs us Q I rv)
theorem cu_int : CallR X (.type "int") uInt := CallRi (callR_or call_int1 call_int_str) fun xs H Q h => by
  unfold uInt at h
  split at h
  · exact .inl (.inl ⟨_, rfl, h⟩)
  · exact .inl (.inr ⟨_, rfl, h⟩)
  · obtain ⟨h1, h⟩ := h
    obtain ⟨n, e, h⟩ := oK_ex h
    exact .inr ⟨_, n, rfl, e, h1, h⟩
  · exact h.elim
end
end U
namespace U
open PySem PySem.Spec PyProof.Rows L2
def letter (c : Nat) : Bool := decide (97 ≤ c) && decide (c ≤ 122)
def isWord (z : Str) : Bool := decide (1 ≤ z.length) && decide (z.length ≤ 30) && z.cps.toList.all letter
def isMarkL : List Nat → Bool
  | [c] => decide (c = 32)
  | [k, i] => (decide (k = 35) || decide (k = 124) || decide (k = 47)) && (decide (48 ≤ i) && decide (i ≤ 51))
  | _ => false
def isMark (z : Str) : Bool := isMarkL z.cps.toList
def small (v : V) : Prop := match v with | .str z => z.length ≤ 1000 | _ => True
/-- a value of a known kind, no long text -/
def Kn (H : Hp) (v : V) : Prop := (tyOf H v).isSome = true ∧ small v
def BoxAt (H : Hp) (b : Addr) (n : Nat) : Prop := ∃ x y z : Int, H b = some (.lst [.int x, .int y, .int z]) ∧ 0 ≤ x ∧ 0 ≤ y ∧ y < 2147483629 ∧ 0 ≤ z ∧ z ≤ n
theorem BoxAt.new {H : Hp} {b p : Addr} {n : Nat} {o : HO} (h : BoxAt H b n) (hp : H p = none) : BoxAt (upd H p o) b n := by
  obtain ⟨x, y, z, e, r⟩ := h
  exact ⟨x, y, z, by rw [upd_ne (ne_of_none e hp)]; exact e, r⟩
theorem BoxAt.ex {H H' : Hp} {b : Addr} {n : Nat} (h : BoxAt H b n) (e : Ex H H') : BoxAt H' b n := by
  obtain ⟨x, y, z, h, r⟩ := h
  exact ⟨x, y, z, e _ _ h, r⟩
theorem BoxAt.le {H : Hp} {b : Addr} {n m : Nat} (h : BoxAt H b n) (e : n ≤ m) : BoxAt H b m := by
  obtain ⟨x, y, z, h, a, b, c, d, f⟩ := h
  exact ⟨x, y, z, h, a, b, c, d, by omega⟩
/-- something else at an address that is no box -/
theorem BoxAt.off {H : Hp} {b p : Addr} {n : Nat} {o : HO} (h : BoxAt H b n) (hp : H p = some o) (ho : ∀ x y z, o ≠ .lst [.int x, .int y, .int z]) : p ≠ b := by
  obtain ⟨x, y, z, e, _⟩ := h
  exact ne_of hp e (ho x y z)
theorem tyOf_ex {H H' : Hp} {v : V} {t : Ty} (h : tyOf H v = some t) (e : Ex H H') : tyOf H' v = some t := by
  cases v with
  | ref a =>
    have h : (H a).bind tyO = some t := h
    cases q : H a with
    | none => rw [q] at h; cases h
    | some o =>
      rw [q] at h
      show (H' a).bind tyO = some t
      rw [e _ _ q]; exact h
  | _ => exact h
theorem Kn.ex {H H' : Hp} {v : V} (h : Kn H v) (e : Ex H H') : Kn H' v := by
  obtain ⟨h1, h2⟩ := h
  obtain ⟨t, ht⟩ := Option.isSome_iff_exists.mp h1
  exact ⟨by rw [tyOf_ex ht e]; rfl, h2⟩
theorem tyOf_fr {H H' : Hp} {b : Addr} {v : V} {t : Ty} (h : tyOf H v = some t) (e : Fr b H H') (hb : v ≠ .ref b) : tyOf H' v = some t := by
  cases v with
  | ref a =>
    have h : (H a).bind tyO = some t := h
    cases q : H a with
    | none => rw [q] at h; cases h
    | some o =>
      rw [q] at h
      show (H' a).bind tyO = some t
      rw [e _ _ q (fun z => hb (by rw [z]))]; exact h
  | _ => exact h
theorem Kn.fr {H H' : Hp} {b : Addr} {v : V} (h : Kn H v) (e : Fr b H H') (hb : v ≠ .ref b) : Kn H' v := by
  obtain ⟨h1, h2⟩ := h
  obtain ⟨t, ht⟩ := Option.isSome_iff_exists.mp h1
  exact ⟨by rw [tyOf_fr ht e hb]; rfl, h2⟩
theorem log_small {i : Int} (h1 : -(10 ^ 40) < i) (h2 : i < 10 ^ 40) : i.natAbs.log2 < 1920 := by
  by_cases h : i.natAbs = 0
  · rw [h]; decide
  · rw [Nat.log2_lt h]
    have : i.natAbs < 10 ^ 40 := by omega
    exact Nat.lt_of_lt_of_le this (by decide +kernel)
theorem len_small {i : Int} (h1 : -(10 ^ 40) < i) (h2 : i < 10 ^ 40) : (Str.ofString (toString i)).length ≤ 41 := by
  have h := int_text_length_le10 (a := i) (k := 40) (by decide) (by omega)
  rw [PySem.ofString_length]
  omega
theorem toList_inj {a b : Str} (h : a.cps.toList = b.cps.toList) : a = b := by
  obtain ⟨⟨l⟩⟩ := a
  obtain ⟨⟨m⟩⟩ := b
  have h : l = m := h
  subst h; rfl
theorem str_len (z : Str) : z.length = z.cps.toList.length := rfl
theorem cps_blank : (Str.ofString " ").cps.toList = [32] := by decide +kernel
theorem cps_kinds : (Str.ofString "#|/").cps.toList = [35, 124, 47] := by decide +kernel
theorem cps_digits : (Str.ofString "0123").cps.toList = [48, 49, 50, 51] := by decide +kernel
theorem cps_letters : (Str.ofString "abcdefghijklmnopqrstuvwxyz").cps.toList = List.range' 97 26 := by decide +kernel
theorem mem_letters (c : Nat) : decide (c ∈ (Str.ofString "abcdefghijklmnopqrstuvwxyz").cps.toList) = letter c := by
  rw [cps_letters]
  unfold letter
  rw [← Bool.decide_and]
  apply decide_eq_decide.mpr
  rw [List.mem_range'_1]
  omega
/-- a text against a fixed one -/
theorem eq_fix (z : Str) (a : String) {l : List Nat} (h : (Str.ofString a).cps.toList = l) : decide (V.str z = V.str (Str.ofString a)) = decide (z.cps.toList = l) := by
  apply decide_eq_decide.mpr
  constructor
  · intro e; injection e with e; rw [e]; exact h
  · intro e; rw [toList_inj (e.trans h.symm)]
theorem isMark_two {z : Str} {k i : Nat} (h : z.cps.toList = [k, i]) : isMark z = (decide (k ∈ [35, 124, 47]) && decide (i ∈ [48, 49, 50, 51])) := by
  unfold isMark
  rw [h]
  unfold isMarkL
  rw [Bool.eq_iff_iff]
  simp
  omega
theorem isMark_other {z : Str} (h1 : z.cps.toList ≠ [32]) (h2 : z.length ≠ 2) : isMark z = false := by
  unfold isMark
  rw [str_len] at h2
  generalize z.cps.toList = l at *
  match l with
  | [] => rfl
  | [c] => simp at h1; simp [isMarkL, h1]
  | [_, _] => exact absurd rfl h2
  | _ :: _ :: _ :: _ => rfl
/-- the forms of a mark -/
theorem mark_forms {z : Str} (h : isMark z = true) : z.cps.toList = [32] ∨ ∃ k i, z.cps.toList = [k, i] ∧ k ∈ [35, 124, 47] ∧ i ∈ [48, 49, 50, 51] := by
  by_cases h1 : z.cps.toList = [32]
  · exact .inl h1
  · by_cases h2 : z.length = 2
    · have h3 : z.cps.toList.length = 2 := h2
      match hz : z.cps.toList, h3 with
      | [k, i], _ =>
        rw [isMark_two hz, Bool.and_eq_true, decide_eq_true_eq, decide_eq_true_eq] at h
        exact .inr ⟨k, i, rfl, h.1, h.2⟩
    · rw [isMark_other h1 h2] at h; cases h
end U
namespace U
open PySem PySem.Spec PyProof.Rows L2
mutual
inductive Dn (b : Addr) (H : Hp) : V → PyData → Prop
  | non : Dn b H .non .none
  | bl (k : Bool) : Dn b H (.bl k) (.bool k)
  | int (i : Int) : Dn b H (.int i) (.int i)
  | str (z : Str) : Dn b H (.str z) (.str z)
  | lst {a : Addr} {xs : List V} {ds : List PyData} : a ≠ b → H a = some (.lst xs) → DnAll b H xs ds → Dn b H (.ref a) (.list ds)
  | tup {a : Addr} {xs : List V} {ds : List PyData} : a ≠ b → H a = some (.tup xs) → DnAll b H xs ds → Dn b H (.ref a) (.tuple ds)
  | dct {a : Addr} : a ≠ b → H a = some (.dK []) → Dn b H (.ref a) (.dict [])
inductive DnAll (b : Addr) (H : Hp) : List V → List PyData → Prop
  | nil : DnAll b H [] []
  | cons {v : V} {vs : List V} {d : PyData} {ds : List PyData} : Dn b H v d → DnAll b H vs ds → DnAll b H (v :: vs) (d :: ds)
end
mutual
theorem Dn.fr {b : Addr} {H H' : Hp} (f : Fr b H H') : ∀ (d : PyData) {v : V}, Dn b H v d → Dn b H' v d
  | .none, _, h => by cases h; exact .non
  | .bool _, _, h => by cases h; exact .bl _
  | .int _, _, h => by cases h; exact .int _
  | .str _, _, h => by cases h; exact .str _
  | .list ds, _, h => by
    cases h with
    | lst h1 h2 h3 => exact .lst h1 (f _ _ h2 h1) (DnAll.fr f ds h3)
  | .tuple ds, _, h => by
    cases h with
    | tup h1 h2 h3 => exact .tup h1 (f _ _ h2 h1) (DnAll.fr f ds h3)
  | .dict _, _, h => by
    cases h with
    | dct h1 h2 => exact .dct h1 (f _ _ h2 h1)
theorem DnAll.fr {b : Addr} {H H' : Hp} (f : Fr b H H') : ∀ (ds : List PyData) {vs : List V}, DnAll b H vs ds → DnAll b H' vs ds
  | [], _, h => by cases h; exact .nil
  | d :: ds, _, h => by
    cases h with
    | cons h1 h2 => exact .cons (Dn.fr f d h1) (DnAll.fr f ds h2)
end
theorem Dn.go {b : Addr} {H H' : Hp} {d : PyData} {v : V} (h : Dn b H v d) (f : Fr b H H') : Dn b H' v d := Dn.fr f d h
theorem Dn.ex {b : Addr} {H H' : Hp} {d : PyData} {v : V} (h : Dn b H v d) (e : Ex H H') : Dn b H' v d := Dn.fr (Fr.ex e) d h
theorem DnAll.go {b : Addr} {H H' : Hp} {ds : List PyData} {vs : List V} (h : DnAll b H vs ds) (f : Fr b H H') : DnAll b H' vs ds := DnAll.fr f ds h
theorem DnAll.ex {b : Addr} {H H' : Hp} {ds : List PyData} {vs : List V} (h : DnAll b H vs ds) (e : Ex H H') : DnAll b H' vs ds := DnAll.fr (Fr.ex e) ds h
theorem DnAll.len {b : Addr} {H : Hp} : ∀ {vs : List V} {ds : List PyData}, DnAll b H vs ds → vs.length = ds.length
  | _, _, .nil => rfl
  | _, _, .cons _ h => by rw [List.length_cons, List.length_cons, h.len]
theorem DnAll.app {b : Addr} {H : Hp} : ∀ {vs ws : List V} {ds es : List PyData}, DnAll b H vs ds → DnAll b H ws es → DnAll b H (vs ++ ws) (ds ++ es)
  | _, _, _, _, .nil, h => h
  | _, _, _, _, .cons h1 h2, h => .cons h1 (h2.app h)
theorem DnAll.drop {b : Addr} {H : Hp} : ∀ (n : Nat) {vs : List V} {ds : List PyData}, DnAll b H vs ds → DnAll b H (vs.drop n) (ds.drop n)
  | 0, _, _, h => by simpa using h
  | n + 1, _, _, .nil => by simpa using DnAll.nil
  | n + 1, _, _, .cons _ h => by simpa using h.drop n
theorem DnAll.take {b : Addr} {H : Hp} : ∀ (n : Nat) {vs : List V} {ds : List PyData}, DnAll b H vs ds → DnAll b H (vs.take n) (ds.take n)
  | 0, _, _, h => by simpa using DnAll.nil
  | n + 1, _, _, .nil => by simpa using DnAll.nil
  | n + 1, _, _, .cons h1 h => by simpa using DnAll.cons h1 (h.take n)
theorem DnAll.at {b : Addr} {H : Hp} : ∀ {vs : List V} {ds : List PyData}, DnAll b H vs ds → ∀ (i : Nat) {v : V}, vs[i]? = some v → ∃ d, ds[i]? = some d ∧ Dn b H v d
  | _, _, .nil, i, v, e => by simp at e
  | _, _, .cons h1 h2, 0, v, e => by
    simp at e; subst e
    exact ⟨_, rfl, h1⟩
  | _, _, .cons h1 h2, i + 1, v, e => by
    obtain ⟨d, h3, h4⟩ := h2.at i (by simpa using e)
    exact ⟨d, by simpa using h3, h4⟩
mutual
theorem Dn.dp {b : Addr} {H : Hp} {K : PySem.W.Frag} : ∀ (d : PyData) {v : V}, Dn b H v d → d.hasDict = false → Dp K H v d
  | .none, _, h, _ => by cases h; exact .non
  | .bool _, _, h, _ => by cases h; exact .bl _
  | .int _, _, h, _ => by cases h; exact .int _
  | .str _, _, h, _ => by cases h; exact .str _
  | .list ds, _, h, g => by
    cases h with
    | lst h1 h2 h3 => exact .lst (.inl (.inl h2)) (DnAll.dp ds h3 (by simpa only [PyData.hasDict] using g))
  | .tuple ds, _, h, g => by
    cases h with
    | tup h1 h2 h3 => exact .tup (.inl (.inl h2)) (DnAll.dp ds h3 (by simpa only [PyData.hasDict] using g))
  | .dict _, _, _, g => by simp only [PyData.hasDict] at g; cases g
theorem DnAll.dp {b : Addr} {H : Hp} {K : PySem.W.Frag} : ∀ (ds : List PyData) {vs : List V}, DnAll b H vs ds → PyData.hasDictAll ds = false → DpAll K H vs ds
  | [], _, h, _ => by cases h; exact .nil
  | d :: ds, _, h, g => by
    cases h with
    | cons h1 h2 =>
      simp only [PyData.hasDictAll, Bool.or_eq_false_iff] at g
      exact .cons (Dn.dp d h1 g.1) (DnAll.dp ds h2 g.2)
end
section
variable {X : Cx} {pins : List (Addr × Obj)} {σ : L2.St} {H : Hp} {s : Shared} {b : Addr}
theorem dk_empty_at (I : Inv X pins σ H s) {a : Addr} (h : H a = some (.dK [])) : (a == sysModules) = false ∧ ∃ (o : Obj) (n : Nat), s.heap.get? a = some o ∧ o.cls = .type "dict" ∧ o.data = .dict #[] n := by
  obtain ⟨_, h2, vs, kv, o, es, ep, g1, g2, g3, _, g5, _⟩ := (show ObjOk X.prog X.w H s.heap a (.dK []) from I.hok a _ h)
  cases kv
  obtain ⟨l⟩ := es
  cases (show Pairs (mixKind X.prog X.w) l [] from g5)
  exact ⟨h2, o, ep, g1, g2.1, g3⟩
end
/-- data that repr takes -/
structure Okd (d : PyData) : Prop where
  sh : d.showable = true
  lv : d.leavesShort 41 = true
  dp : d.depth ≤ 20
  wt : d.weight ≤ 200000
theorem Okd.size {d : PyData} (h : Okd d) : d.shown.length ≤ sizeLine := by
  have := PyData.shown_le 41 (by decide) d h.lv
  have h2 := h.wt
  have h3 : 43 * d.weight ≤ 43 * 200000 := Nat.mul_le_mul_left _ h2
  rw [sizeLine_eq]; omega
end U
namespace U
open PySem PySem.Spec PyProof.Rows L2
def uMul3 : R2 := fun x y H Q => match x, y with
  | .int i, .int j => CMul i j ∧ Q (.int (i * j)) H
  | .str z, .int k => MulOk z k ∧ Q (.str (Txt.mul z k)) H
  | .ref l, .int k => oK (mutL H l) fun xs => -(2 ^ 63) ≤ k ∧ k < 2 ^ 63 ∧ xs.length * k.toNat ≤ sizeLine ∧ ∀ p, H p = none → Q (.ref p) (upd H p (.lst (List.replicate k.toNat xs).flatten))
  | _, _ => False
section
variable {X : Cx}
theorem op_mulS : OpR X (binaryOp .Mult) (fun x y H Q => ∃ z k, x = V.str z ∧ y = .int k ∧ MulOk z k ∧ Q (.str (Txt.mul z k)) H) := fun pins s σ H x y v u Q I rx ry h => by
  obtain ⟨z, k, rfl, rfl, h1, h2⟩ := h
  obtain ⟨t, rfl⟩ := rx
  obtain ⟨t', rfl⟩ := ry
  exact SB.mul h1 fun t2 k2 => ⟨.str _, H, I.tok k2, ⟨_, rfl⟩, h2⟩
theorem ou_mul3 : OpR X (binaryOp .Mult) uMul3 := OpRi (op_mul.or (op_mulS.or op_rep)) fun x y H Q h => by
  unfold uMul3 at h
  split at h
  · exact .inl ⟨_, _, rfl, rfl, h⟩
  · exact .inr (.inl ⟨_, _, rfl, rfl, h⟩)
  · obtain ⟨xs, e, h1, h2, h3, h4⟩ := oK_ex h
    exact .inr (.inr ⟨_, _, xs, rfl, rfl, of_mutL e, h1, h2, h3, h4⟩)
  · exact h.elim
end
def gTs (K : PySem.W.Frag) (n : Nat) (t : TGs) : TG := fun v σ H Q => match v with
  | .ref a => ∃ xs, (SqT K H a xs ∨ SqL K H a xs) ∧ xs.length = n ∧ t xs σ H Q
  | _ => False
theorem pg_ts {X : Cx} {pos : Pos} {es : List Expr} {k : Nat} {t : TGs} {n : Nat} (hc : X.calm = true) (h : PGs X es t)
    (hn : (assignEach es X.env).length = n := by rfl) (hst : (assignEach es X.env).findIdx? (·.1) = none := by rfl) : PG X (.Tuple es k pos) (gTs X.K n t) := ⟨fun pins s σ H v u Q I r hw => by
  cases v with
  | ref a =>
    obtain ⟨xs, h1, h2, h3⟩ := hw
    rcases h1 with h1 | h1
    · exact (pg_tup hc h hn hst).run pins s σ H _ u Q I r ⟨_, _, rfl, h1, h2, h3⟩
    · exact (pg_unl hc h hn hst).run pins s σ H _ u Q I r ⟨_, _, rfl, h1, h2, h3⟩
  | _ => exact hw.elim⟩
def uFind : V → List V → Hp → VK → Prop := fun x vs H Q => match x, vs with
  | .str a, [.str b] => Q (.int (Txt.find a b)) H
  | _, _ => False
section
variable {X : Cx}
theorem mu_find : MtR X "str.find" uFind := MtRi mt_find fun x xs H Q h => by
  unfold uFind at h
  split at h
  · exact ⟨_, _, rfl, rfl, h⟩
  · exact h.elim
end
end U
namespace U
open PySem PySem.Spec PyProof.Rows L2
abbrev Tk := Str × Str
def tokD (t : Tk) : PyData := .tuple [.str t.1, .str t.2]
def textD (ts : List Tk) : PyData := .list (ts.map tokD)
def markD : PyData → Bool
  | .str z => isMark z
  | _ => false
def wordD : PyData → Bool
  | .str z => isWord z
  | _ => false
def tokenD : PyData → Bool
  | .tuple [x, y] => markD x && wordD y
  | _ => false
def hashD : PyData → Bool
  | .tuple (.str z :: _) => decide ((sl z).head? = some 35)
  | _ => false
def firstD : List PyData → Bool
  | [] => true
  | d :: _ => hashD d
def isTextD : PyData → Bool
  | .list ds => ds.all tokenD && firstD ds
  | .tuple ds => ds.all tokenD && firstD ds
  | _ => false
def GoodT (ts : List Tk) : Prop := (∀ t ∈ ts, isMark t.1 = true ∧ isWord t.2 = true) ∧ ∀ t, ts.head? = some t → (sl t.1).head? = some 35
theorem markD_str {d : PyData} (h : markD d = true) : ∃ z, d = .str z ∧ isMark z = true := by
  cases d <;> first | exact ⟨_, rfl, h⟩ | cases h
theorem wordD_str {d : PyData} (h : wordD d = true) : ∃ z, d = .str z ∧ isWord z = true := by
  cases d <;> first | exact ⟨_, rfl, h⟩ | cases h
theorem tokenD_form {d : PyData} (h : tokenD d = true) : ∃ t : Tk, d = tokD t ∧ isMark t.1 = true ∧ isWord t.2 = true := by
  unfold tokenD at h
  split at h
  · rw [Bool.and_eq_true] at h
    obtain ⟨m, rfl, hm⟩ := markD_str h.1
    obtain ⟨w, rfl, hw⟩ := wordD_str h.2
    exact ⟨(m, w), rfl, hm, hw⟩
  · cases h
theorem row_good (ts : List Tk) : ((ts.map tokD).all tokenD && firstD (ts.map tokD)) = true ↔ GoodT ts := by
  rw [Bool.and_eq_true]
  unfold GoodT
  constructor
  · rintro ⟨h1, h2⟩
    refine ⟨fun t ht => ?_, fun t ht => ?_⟩
    · have := List.all_eq_true.mp h1 (tokD t) (List.mem_map_of_mem ht)
      have : (isMark t.1 && isWord t.2) = true := this
      rwa [Bool.and_eq_true] at this
    · cases ts with
      | nil => cases ht
      | cons u us =>
        cases ht
        exact of_decide_eq_true h2
  · rintro ⟨h1, h2⟩
    refine ⟨List.all_eq_true.mpr fun d hd => ?_, ?_⟩
    · obtain ⟨t, ht, rfl⟩ := List.mem_map.mp hd
      show (isMark t.1 && isWord t.2) = true
      rw [Bool.and_eq_true]; exact h1 t ht
    · cases ts with
      | nil => rfl
      | cons u us => exact decide_eq_true (h2 u rfl)
theorem good_list (ts : List Tk) : isTextD (.list (ts.map tokD)) = true ↔ GoodT ts := row_good ts
theorem good_tuple (ts : List Tk) : isTextD (.tuple (ts.map tokD)) = true ↔ GoodT ts := row_good ts
def tyD : PyData → Ty
  | .none => .non | .bool _ => .bl | .int _ => .int | .str _ => .str | .list _ => .lst | .tuple _ => .tup | .dict _ => .dct
theorem Dn.ty {b : Addr} {H : Hp} {v : V} {d : PyData} (h : Dn b H v d) : tyOf H v = some (tyD d) := by
  cases h with
  | lst _ h _ => show (H _).bind tyO = _; rw [h]; rfl
  | tup _ h _ => show (H _).bind tyO = _; rw [h]; rfl
  | dct _ h => show (H _).bind tyO = _; rw [h]; rfl
  | _ => rfl
theorem wt_mem : ∀ {ds : List PyData} {d : PyData}, d ∈ ds → d.weight + 1 ≤ PyData.weightAll ds
  | d :: ds, e, h => by
    rw [PyData.weightAll]
    rcases List.mem_cons.mp h with rfl | h
    · omega
    · have := wt_mem h; omega
theorem wt_len : ∀ ds : List PyData, ds.length ≤ PyData.weightAll ds
  | [] => Nat.zero_le _
  | d :: ds => by
    have := wt_len ds
    rw [PyData.weightAll, List.length_cons]; omega
theorem wt_list (ds : List PyData) : (PyData.list ds).weight = PyData.weightAll ds := by rw [PyData.weight]
theorem wt_tup (ds : List PyData) : (PyData.tuple ds).weight = PyData.weightAll ds := by rw [PyData.weight]
theorem wt_str (z : Str) : (PyData.str z).weight = z.length := by rw [PyData.weight]; rfl
theorem wt_tok (t : Tk) : (tokD t).weight = t.1.length + t.2.length + 2 := by
  unfold tokD
  rw [wt_tup, PyData.weightAll, PyData.weightAll, PyData.weightAll, wt_str, wt_str]; omega
/-- a row of tokens in the heap -/
def ToksAt (b : Addr) (H : Hp) (vs : List V) (ts : List Tk) : Prop := DnAll b H vs (ts.map tokD)
theorem dn_tok {b : Addr} {H : Hp} {v : V} {t : Tk} (h : Dn b H v (tokD t)) : ∃ r, v = .ref r ∧ r ≠ b ∧ H r = some (.tup [.str t.1, .str t.2]) := by
  unfold tokD at h
  cases h with
  | @tup a xs _ h1 h2 h3 =>
    cases h3 with
    | cons g1 g2 =>
      cases g1
      cases g2 with
      | cons g3 g4 =>
        cases g3
        cases g4
        exact ⟨a, rfl, h1, h2⟩
theorem tok_dn {b : Addr} {H : Hp} {r : Addr} {t : Tk} (h1 : r ≠ b) (h : H r = some (.tup [.str t.1, .str t.2])) : Dn b H (.ref r) (tokD t) := .tup h1 h (.cons (.str _) (.cons (.str _) .nil))
theorem ToksAt.at {b : Addr} {H : Hp} {vs : List V} {ts : List Tk} (h : ToksAt b H vs ts) {i : Nat} {v : V} (e : vs[i]? = some v) : ∃ t r, ts[i]? = some t ∧ v = .ref r ∧ r ≠ b ∧ H r = some (.tup [.str t.1, .str t.2]) := by
  obtain ⟨d, h1, h2⟩ := DnAll.at h i e
  rw [List.getElem?_map] at h1
  cases e2 : ts[i]? with
  | none => rw [e2] at h1; cases h1
  | some t =>
    rw [e2] at h1; cases h1
    obtain ⟨r, h3, h4, h5⟩ := dn_tok h2
    exact ⟨t, r, rfl, h3, h4, h5⟩
theorem ToksAt.len {b : Addr} {H : Hp} {vs : List V} {ts : List Tk} (h : ToksAt b H vs ts) : vs.length = ts.length := by
  have := DnAll.len h
  rwa [List.length_map] at this
/-- a text lies at p -/
def TextAt (b : Addr) (H : Hp) (p : Addr) (ts : List Tk) : Prop := p ≠ b ∧ ∃ vs, H p = some (.lst vs) ∧ ToksAt b H vs ts
theorem TextAt.dn {b : Addr} {H : Hp} {p : Addr} {ts : List Tk} (h : TextAt b H p ts) : Dn b H (.ref p) (textD ts) := by
  obtain ⟨h1, vs, h2, h3⟩ := h
  exact .lst h1 h2 h3
theorem TextAt.go {b : Addr} {H H' : Hp} {p : Addr} {ts : List Tk} (h : TextAt b H p ts) (f : Fr b H H') : TextAt b H' p ts := by
  obtain ⟨h1, vs, h2, h3⟩ := h
  exact ⟨h1, vs, f _ _ h2 h1, DnAll.go h3 f⟩
theorem ToksAt.go {b : Addr} {H H' : Hp} {vs : List V} {ts : List Tk} (h : ToksAt b H vs ts) (f : Fr b H H') : ToksAt b H' vs ts := DnAll.go h f
theorem ToksAt.ex {b : Addr} {H H' : Hp} {vs : List V} {ts : List Tk} (h : ToksAt b H vs ts) (f : Ex H H') : ToksAt b H' vs ts := DnAll.ex h f
/-- tokens stay where a list is changed -/
theorem ToksAt.set {b : Addr} {H : Hp} {p : Addr} {xs ys : List V} : ∀ {vs : List V} {ts : List Tk}, ToksAt b H vs ts → H p = some (.lst xs) → ToksAt b (upd H p (.lst ys)) vs ts
  | [], [], _, _ => .nil
  | [], t :: ts, h, _ => nomatch h
  | v :: vs, [], h, _ => nomatch h
  | v :: vs, t :: ts, h, hp => by
    cases h with
    | cons h1 h2 =>
      obtain ⟨r, rfl, hr, e⟩ := dn_tok h1
      refine .cons (tok_dn hr ?_) (ToksAt.set (ts := ts) h2 hp)
      rw [upd_ne (ne_of e hp (by intro z; cases z))]
      exact e
theorem cut_mid {α : Type} (l : List α) (i j : Nat) : (l.drop (min i l.length)).take (min j l.length - min i l.length) = (l.drop i).take (j - i) := by
  by_cases h : i ≤ l.length
  · rw [Nat.min_eq_left h, List.take_eq_take_iff, List.length_drop]; omega
  · rw [show min i l.length = l.length by omega, List.drop_length, List.drop_eq_nil_of_le (show l.length ≤ i by omega)]; simp
end U
namespace U
open PySem PySem.Spec PyProof.Rows L2
structure Shp (n : Nat) (d : PyData) : Prop where
  sh : d.showable = true
  lv : d.leavesShort 41 = true
  dp : d.depth ≤ n
theorem Shp.okd {n : Nat} {d : PyData} (h : Shp n d) (hn : n ≤ 20) (hw : d.weight ≤ 200000) : Okd d := ⟨h.sh, h.lv, Nat.le_trans h.dp hn, hw⟩
theorem Shp.le {n m : Nat} {d : PyData} (h : Shp n d) (e : n ≤ m) : Shp m d := ⟨h.sh, h.lv, Nat.le_trans h.dp e⟩
theorem Shp.all {n : Nat} : ∀ {ds : List PyData}, (∀ d ∈ ds, Shp n d) → PyData.showableAll ds = true ∧ PyData.leavesShortAll 41 ds = true ∧ PyData.depthAll ds ≤ n
  | [], _ => ⟨by simp only [PyData.showableAll], by simp only [PyData.leavesShortAll], by simp only [PyData.depthAll]; omega⟩
  | d :: ds, h => by
    obtain ⟨h1, h2, h3⟩ := Shp.all fun e he => h e (List.mem_cons_of_mem _ he)
    have h0 := h d List.mem_cons_self
    refine ⟨?_, ?_, ?_⟩
    · simp only [PyData.showableAll, h0.sh, h1, Bool.and_self]
    · simp only [PyData.leavesShortAll, h0.lv, h2, Bool.and_self]
    · simp only [PyData.depthAll]; have := h0.dp; omega
theorem Shp.lst {n : Nat} {ds : List PyData} (h : ∀ d ∈ ds, Shp n d) : Shp (n + 1) (.list ds) := by
  obtain ⟨h1, h2, h3⟩ := Shp.all h
  exact ⟨by simp only [PyData.showable, h1], by simp only [PyData.leavesShort, h2], by simp only [PyData.depth]; omega⟩
theorem Shp.tup {n : Nat} {ds : List PyData} (h : ∀ d ∈ ds, Shp n d) : Shp (n + 1) (.tuple ds) := by
  obtain ⟨h1, h2, h3⟩ := Shp.all h
  exact ⟨by simp only [PyData.showable, h1], by simp only [PyData.leavesShort, h2], by simp only [PyData.depth]; omega⟩
theorem Shp.str {n : Nat} {z : Str} (h : sok z) : Shp n (.str z) := by
  refine ⟨by simp only [PyData.showable], ?_, by simp only [PyData.depth]; omega⟩
  simp only [PyData.leavesShort, List.all_eq_true, decide_eq_true_eq]
  intro c hc
  have := h c hc
  omega
theorem Shp.non {n : Nat} : Shp n .none := ⟨by simp only [PyData.showable], by simp only [PyData.leavesShort], by simp only [PyData.depth]; omega⟩
theorem Shp.bl {n : Nat} (b : Bool) : Shp n (.bool b) := ⟨by simp only [PyData.showable], by simp only [PyData.leavesShort], by simp only [PyData.depth]; omega⟩
theorem Shp.dct {n : Nat} : Shp (n + 1) (.dict []) := ⟨by simp only [PyData.showable, PyData.showableKv], by simp only [PyData.leavesShort, PyData.leavesShortKv], by simp only [PyData.depth, PyData.depthKv]; omega⟩
theorem Shp.int {n : Nat} {i : Int} (h1 : -(10 ^ 40) < i) (h2 : i < 10 ^ 40) : Shp n (.int i) := by
  refine ⟨?_, ?_, by simp only [PyData.depth]; omega⟩
  · simp only [PyData.showable, decide_eq_true_eq]; exact log_small h1 h2
  · simp only [PyData.leavesShort, decide_eq_true_eq]
    have e : PyData.shown (.int i) = Str.ofString (toString i) := by simp [PyData.shown]
    rw [e]; exact len_small h1 h2
theorem wt_non : PyData.none.weight = 0 := by rw [PyData.weight]
theorem wt_bl (b : Bool) : (PyData.bool b).weight = 0 := by rw [PyData.weight]
theorem wt_dct : (PyData.dict []).weight = 0 := by rw [PyData.weight, PyData.weightKv]
theorem wt_cons (d : PyData) (ds : List PyData) : PyData.weightAll (d :: ds) = d.weight + 1 + PyData.weightAll ds := by rw [PyData.weightAll]
theorem wt_nil : PyData.weightAll [] = 0 := by rw [PyData.weightAll]
theorem wt_app : ∀ ds es : List PyData, PyData.weightAll (ds ++ es) = PyData.weightAll ds + PyData.weightAll es
  | [], es => by rw [wt_nil]; simp
  | d :: ds, es => by rw [List.cons_append, wt_cons, wt_cons, wt_app ds es]; omega
def SokT (ts : List Tk) : Prop := ∀ t ∈ ts, sok t.1 ∧ sok t.2
theorem Shp.tok {t : Tk} (h : sok t.1 ∧ sok t.2) : Shp 1 (tokD t) := .tup (n := 0) (by
  intro d hd
  simp only [List.mem_cons, List.not_mem_nil, or_false] at hd
  rcases hd with rfl | rfl
  · exact .str h.1
  · exact .str h.2)
theorem Shp.text {ts : List Tk} (h : SokT ts) : Shp 2 (textD ts) := .lst (n := 1) (by
  intro d hd
  obtain ⟨t, ht, rfl⟩ := List.mem_map.mp hd
  exact .tok (h t ht))
theorem sok_mark {z : Str} (h : isMark z = true) : sok z := by
  intro c hc
  rcases mark_forms h with e | ⟨k, i, e, hk, hi⟩
  · rw [show sl z = [32] from e] at hc; simp at hc; omega
  · rw [show sl z = [k, i] from e] at hc
    simp only [List.mem_cons, List.not_mem_nil, or_false] at hc hk hi
    omega
theorem sok_word {z : Str} (h : isWord z = true) : sok z := by
  intro c hc
  unfold isWord at h
  rw [Bool.and_eq_true] at h
  have := List.all_eq_true.mp h.2 c hc
  unfold letter at this
  simp at this
  omega
theorem mark_len {z : Str} (h : isMark z = true) : z.length ≤ 2 := by
  rw [sl_len]
  rcases mark_forms h with e | ⟨k, i, e, hk, hi⟩
  · rw [show sl z = [32] from e]; decide
  · rw [show sl z = [k, i] from e]; exact Nat.le_refl 2
theorem word_len {z : Str} (h : isWord z = true) : 1 ≤ z.length ∧ z.length ≤ 30 := by
  unfold isWord at h
  simp only [Bool.and_eq_true, decide_eq_true_eq] at h
  exact ⟨h.1.1, h.1.2⟩
theorem GoodT.sok {ts : List Tk} (h : GoodT ts) : SokT ts := fun t ht => ⟨sok_mark (h.1 t ht).1, sok_word (h.1 t ht).2⟩
theorem wt_good : ∀ {ts : List Tk}, (∀ t ∈ ts, isMark t.1 = true ∧ isWord t.2 = true) → PyData.weightAll (ts.map tokD) ≤ 35 * ts.length
  | [], _ => by rw [List.map_nil, wt_nil]; omega
  | t :: ts, h => by
    have ih := wt_good fun u hu => h u (List.mem_cons_of_mem _ hu)
    have h1 := h t List.mem_cons_self
    have := mark_len h1.1
    have := (word_len h1.2).2
    rw [List.map_cons, wt_cons, wt_tok, List.length_cons]; omega
theorem wt_text (ts : List Tk) : (textD ts).weight = PyData.weightAll (ts.map tokD) := by unfold textD; rw [wt_list]
theorem sok_of (s : String) : sok (Str.ofString s) := fun c hc => by
  rw [show sl (Str.ofString s) = s.toList.map Char.toNat from by rw [Str.ofString_eq_toList]] at hc
  obtain ⟨ch, _, rfl⟩ := List.mem_map.mp hc
  have h := ch.valid
  have e : ch.toNat = ch.val.toNat := rfl
  rw [e]
  rcases h with h | h
  · have : ch.val.toNat < 55296 := h
    omega
  · have : ch.val.toNat < 1114112 := h.2
    exact this
end U
namespace PySem
open Sem (wp)
abbrev zipObj (f0 : Value) (f1 : Bool) (TI TO : Addr) : Obj := { cls := .type "zip", dict := none, data := .fields #[f0, .bool f1, .bool false, .ref TI, .ref TO], slots := #[] }
def ZipSt (h : Heap) (z TI TO : Addr) : Prop := ∃ (f0 : Value) (f1 : Bool), (f0 = .none ∨ ∃ a : Nat, f0 = rawInt a) ∧ h.get? z = some (zipObj f0 f1 TI TO)
end PySem
namespace U
open PySem PySem.Spec PyProof.Rows L2
/-- a list, a tuple, a text -/
inductive Kd | l (a : Addr) | t (a : Addr) | s (z : Str) (k : Tok)
def Kd.v : Kd → V | l a => .ref a | t a => .ref a | s z _ => .str z
def Kd.u : Kd → Value | l a => .ref a | t a => .ref a | s z k => .str z k
def Kd.sq (K : PySem.W.Frag) (H : Hp) : Kd → List V → Prop
  | l a, xs => SqL K H a xs
  | t a, xs => SqT K H a xs
  | s z _, xs => xs = chars z
def Kd.at (h : Heap) (it : Addr) (i : Nat) : Kd → Prop
  | l a => h.IsListIter it a i
  | t a => h.IsTupleIter it a i
  | s z k => h.IsStrIter it (strIterType z) z k i
def Kd.away (c : Addr) : Kd → Prop
  | l a => a ≠ c
  | t a => a ≠ c
  | s _ _ => True
def Kd.obj : Kd → Obj
  | l a => { cls := .type "list_iterator", data := .fields #[.ref a, .int 0 0] }
  | t a => { cls := .type "tuple_iterator", data := .fields #[.ref a, .int 0 0] }
  | s z k => { cls := .type (strIterType z), data := .fields #[.str z k, .int 0 0] }
theorem Kd.at_get {k : Kd} {h : Heap} {it : Addr} {i : Nat} (p : k.at h it i) : ∃ o, h.get? it = some o ∧ ∀ v, o.data ≠ .cell v := by
  cases k <;> (obtain ⟨o, ho, hc, hd⟩ := p; exact ⟨o, ho, fun v q => by rw [hd] at q; cases q⟩)
theorem Kd.at_keep {k : Kd} {h h' : Heap} {it : Addr} {i : Nat} (p : k.at h it i) (q : ∀ o, h.get? it = some o → h'.get? it = some o) : k.at h' it i := by
  cases k with
  | l a => exact Heap.IsListIter.at p q
  | t a => exact Heap.IsTupleIter.at p q
  | s z k => obtain ⟨o, ho, r⟩ := p; exact ⟨o, q o ho, r⟩
theorem Kd.sq_inj {X : Cx} {pins : List (Addr × Obj)} {σ : L2.St} {H : Hp} {s : Shared} (I : Inv X pins σ H s) {k : Kd} {xs ys : List V} (p : k.sq X.K H xs) (q : k.sq X.K H ys) : xs = ys := by
  cases k with
  | l a => exact I.list_inj p q
  | t a => exact I.tuple_inj p q
  | s z k => exact p.trans q.symm
theorem Kd.draws {X : Cx} {pins : List (Addr × Obj)} {σ : L2.St} {H : Hp} {s : Shared} (I : Inv X pins σ H s) {k : Kd} {xs : List V} {it : Addr} (hq : k.sq X.K H xs) (ha : k.away it) {A : Around} (hh : A.handled = none) :
    ∃ (fp : List Addr) (Pv : Nat → Value → Prop) (St : Nat → Heap → Prop), Draws X.prog X.w A it fp xs.length Pv St ∧ it ∈ fp ∧ (∀ c ∈ fp, c = it ∨ ¬ k.away c) ∧ (∀ i, k.at s.heap it i → St i s.heap) ∧ (∀ i h, St i h → k.at h it i) ∧ ∀ i u, Pv i u → ∃ x, xs[i]? = some x ∧ RelV x u := by
  cases k with
  | l a =>
    obtain ⟨its, rv, p, _⟩ := I.list hq
    have e : its.toArray.size = xs.length := by have := rv.length; simp; omega
    have D := Draws.list (prog := X.prog) (w := X.w) hh it a ha its.toArray
    rw [e] at D
    refine ⟨_, _, _, D, by simp, fun c hc => ?_, fun i q => ⟨q, p.isList⟩, fun i h q => q.1, fun i u q => ?_⟩
    · rcases (by simpa using hc : c = it ∨ c = a) with z | z
      · exact .inl z
      · exact .inr fun q => q z.symm
    · have hlt : i < xs.length := by
        have := (Array.getElem?_eq_some_iff.mp q).1
        omega
      obtain ⟨u', hu, ru⟩ := rv.get (show xs[i]? = some xs[i] by simp [hlt])
      rw [show its.toArray[i]? = some u' by simpa using hu] at q
      cases q
      exact ⟨_, by simp [hlt], ru⟩
  | t a =>
    obtain ⟨its, rv, p, _⟩ := I.tuple hq
    have e : its.toArray.size = xs.length := by have := rv.length; simp; omega
    have D := Draws.tuple (prog := X.prog) (w := X.w) hh it a ha its.toArray
    rw [e] at D
    refine ⟨_, _, _, D, by simp, fun c hc => ?_, fun i q => ⟨q, p⟩, fun i h q => q.1, fun i u q => ?_⟩
    · rcases (by simpa using hc : c = it ∨ c = a) with z | z
      · exact .inl z
      · exact .inr fun q => q z.symm
    · have hlt : i < xs.length := by
        have := (Array.getElem?_eq_some_iff.mp q).1
        omega
      obtain ⟨u', hu, ru⟩ := rv.get (show xs[i]? = some xs[i] by simp [hlt])
      rw [show its.toArray[i]? = some u' by simpa using hu] at q
      cases q
      exact ⟨_, by simp [hlt], ru⟩
  | s z k =>
    have D := Draws.text (prog := X.prog) (w := X.w) hh it z k
    have hl : (chars z).length = z.cps.size := by unfold chars; simp
    cases hq
    rw [← hl] at D
    refine ⟨_, _, _, D, by simp, fun c hc => .inl (by simpa using hc), fun i q => q, fun i h q => q, fun i u q => ?_⟩
    obtain ⟨c, t, hc, rfl⟩ := q
    refine ⟨.str ⟨#[c]⟩, ?_, ⟨t, rfl⟩⟩
    unfold chars
    rw [List.getElem?_map, Array.getElem?_toList, hc]
    rfl
theorem Kd.begins {X : Cx} {pins : List (Addr × Obj)} {σ : L2.St} {H : Hp} {s : Shared} (I : Inv X pins σ H s) {k : Kd} {xs : List V} (hq : k.sq X.K H xs) : ∃ Hp', Begins k.u k.obj Hp' ∧ Hp' s.heap := by
  cases k with
  | l a => obtain ⟨its, rv, p, _⟩ := I.list hq; exact ⟨_, begins_list a its.toArray, p.isList⟩
  | t a => obtain ⟨its, rv, p, _⟩ := I.tuple hq; exact ⟨_, begins_tuple a its.toArray, p⟩
  | s z k => exact ⟨_, begins_text z k, trivial⟩
theorem Kd.at0 {k : Kd} {h : Heap} {it : Addr} (q : h.get? it = some k.obj) : k.at h it 0 := by
  cases k <;> exact ⟨_, q, rfl, rfl⟩
theorem Kd.away_of {X : Cx} {pins : List (Addr × Obj)} {σ : L2.St} {H : Hp} {s : Shared} (I : Inv X pins σ H s) {k : Kd} {xs : List V} (hq : k.sq X.K H xs) {c : Addr} (hc : s.heap.objs.size ≤ c) : k.away c := by
  cases k with
  | l a => obtain ⟨its, rv, ⟨o, n, e, _⟩, _⟩ := I.list hq; exact fun z => absurd (Heap.lt_size e) (Nat.not_lt.mpr (by rw [z]; exact hc))
  | t a => obtain ⟨its, rv, ⟨o, e, _⟩, _⟩ := I.tuple hq; exact fun z => absurd (Heap.lt_size e) (Nat.not_lt.mpr (by rw [z]; exact hc))
  | s z k => trivial
/-- .. its next item, or the end -/
structure Inner (P : Program) (w : World) (K : PySem.W.Frag) (J : It) (fp : List Addr) (it : Addr) (tn : Nat → Heap → Prop) : Prop where
  mem : it ∈ fp
  obj : ∀ i h, tn i h → ∀ b ∈ fp, ∃ o, h.get? b = some o ∧ ∀ v, o.data ≠ .cell v
  keep : ∀ i h h', tn i h → (∀ b ∈ fp, ∀ o, h.get? b = some o → h'.get? b = some o) → tn i h'
  item : ∀ (X : Cx), X.prog = P → X.w = w → X.K = K → ∀ (A : Around), A.handled = none → ∀ (i : Nat) (pins : List (Addr × Obj)) (s : Shared) (σ : L2.St) (H : Hp) (E : Value → Shared → Prop), Inv X pins σ H s → (∀ b ∈ fp, FpOk X pins H b) → tn i s.heap → J.go i H →
    wpAny (model P w) A (Builtin.SmallTypes.nextOf (.ref it)) (fun u s2 => ∃ x H', Inv X pins σ H' s2 ∧ RelV x u ∧ J.yld i H x H' ∧ tn (i + 1) s2.heap ∧ ∀ b ∈ fp, H' b = none) E s
  done : ∀ (X : Cx), X.prog = P → X.w = w → X.K = K → ∀ (A : Around), A.handled = none → ∀ (i : Nat) (pins : List (Addr × Obj)) (s : Shared) (σ : L2.St) (H : Hp) (Q : Value → Shared → Prop), Inv X pins σ H s → (∀ b ∈ fp, FpOk X pins H b) → tn i s.heap → J.stop i H →
    wpAny (model P w) A (Builtin.SmallTypes.nextOf (.ref it)) Q (fun e s1 => (∃ b o, e = .ref b ∧ s1.heap.get? b = some o ∧ o.cls = .type "StopIteration") ∧ Inv X pins σ H s1) s
def JKd (K : PySem.W.Frag) (k : Kd) : It :=
  ⟨fun i H => ∃ (xs : List V) (x : V), k.sq K H xs ∧ xs[i]? = some x, fun i H v H' => H' = H ∧ ∀ xs, k.sq K H xs → xs[i]? = some v, fun i H => k.sq K H [] ∧ i = 0 ∨ ∃ xs, k.sq K H xs ∧ xs.length = i⟩
theorem inner_kd {P : Program} {w : World} {K : PySem.W.Frag} (k : Kd) (it : Addr) (ha : k.away it) : Inner P w K (JKd K k) [it] it (fun i h => k.at h it i) where
  mem := by simp
  obj := fun i h st b hb => by
    have e : b = it := by simpa using hb
    subst e; exact Kd.at_get st
  keep := fun i h h' st q => Kd.at_keep st fun o e => q it (by simp) o e
  item := by
    intro X hP hw hK A hh i pins s σ H E I hf st hg
    subst hP hw hK
    obtain ⟨xs, x, hq, hx⟩ := hg
    obtain ⟨fp, Pv, St, D, hm, _, h1, h2, h3⟩ := Kd.draws I hq ha hh
    have hlt : i < xs.length := (List.getElem?_eq_some_iff.mp hx).1
    refine D.item i s _ _ hlt (h1 i st) fun u h' tk hP st' sb => ?_
    obtain ⟨y, hy, ry⟩ := h3 i u hP
    obtain ⟨f0, f1, f2, f3, f4, f5⟩ := hf it (by simp)
    exact ⟨y, H, I.turned (fun b o hb e => sb.extBut b o hb e) f0 f1 f3 f4 f5, ry, ⟨rfl, fun l hl => by rw [Kd.sq_inj I hl hq]; exact hy⟩, h2 _ _ st', fun b hb => (hf b hb).1⟩
  done := by
    intro X hP hw hK A hh i pins s σ H Q I hf st hg
    subst hP hw hK
    obtain ⟨xs, hq, hx⟩ : ∃ xs, k.sq X.K H xs ∧ xs.length = i := by
      rcases hg with ⟨q, e⟩ | q
      · exact ⟨[], q, e.symm⟩
      · exact q
    obtain ⟨fp, Pv, St, D, hm, _, h1, h2, h3⟩ := Kd.draws I hq ha hh
    subst hx
    refine D.done s _ _ (h1 _ st) fun h' e eb he => ?_
    obtain ⟨o, ho, hc⟩ := he
    obtain ⟨f0, f1, f2, f3, f4, f5⟩ := hf it (by simp)
    exact ⟨⟨e, o, rfl, ho, hc⟩, I.turned (t' := s.toks) (fun b o hb q => eb b o hb q) f0 f1 f3 f4 f5⟩
def ZTn (z TI TO i1 i2 : Addr) (k1 k2 : Kd) (i : Nat) (h : Heap) : Prop := ZipSt h z TI TO ∧ IsTupOf2 h TI (.ref i1) (.ref i2) ∧ (∃ x y, IsTupOf2 h TO x y) ∧ k1.at h i1 i ∧ k2.at h i2 i
section
variable {z TI TO i1 i2 : Addr} {k1 k2 : Kd}
theorem ZTn.obj {i : Nat} {h : Heap} (st : ZTn z TI TO i1 i2 k1 k2 i h) (c : Addr) (hc : c ∈ [z, TI, TO, i1, i2]) : ∃ o, h.get? c = some o ∧ ∀ v, o.data ≠ .cell v := by
  obtain ⟨⟨f0, f1, _, hz⟩, hTI, ⟨x, y, hTO⟩, h1, h2⟩ := st
  have e' : c = z ∨ c = TI ∨ c = TO ∨ c = i1 ∨ c = i2 := by simpa using hc
  rcases e' with q | q | q | q | q
  · rw [q]; exact ⟨_, hz, fun v q => nomatch q⟩
  · rw [q]; exact ⟨_, hTI, fun v q => nomatch q⟩
  · rw [q]; exact ⟨_, hTO, fun v q => nomatch q⟩
  · rw [q]; exact Kd.at_get h1
  · rw [q]; exact Kd.at_get h2
theorem ZTn.keep {i : Nat} {h h' : Heap} (st : ZTn z TI TO i1 i2 k1 k2 i h) (k : ∀ b ∈ [z, TI, TO, i1, i2], ∀ o, h.get? b = some o → h'.get? b = some o) : ZTn z TI TO i1 i2 k1 k2 i h' := by
  obtain ⟨⟨f0, f1, h0, hz⟩, hTI, ⟨x, y, hTO⟩, h1, h2⟩ := st
  exact ⟨⟨f0, f1, h0, k z (by simp) _ hz⟩, k TI (by simp) _ hTI, ⟨x, y, k TO (by simp) _ hTO⟩, Kd.at_keep h1 fun o q => k i1 (by simp) o q, Kd.at_keep h2 fun o q => k i2 (by simp) o q⟩
end
def JEnum (J : It) : It := ⟨J.go, fun i H v H' => ∃ T x H1, v = .ref T ∧ J.yld i H x H1 ∧ H1 T = none ∧ H' = upd H1 T (.tup [.int (i : Nat), x]), J.stop⟩
theorem fpOk_pin {X : Cx} {pins : List (Addr × Obj)} {H : Hp} {b e : Addr} {o : Obj} (h : FpOk X pins H b) (hne : e ≠ b) : FpOk X ((e, o) :: pins) H b := by
  obtain ⟨f0, f1, f2, f3, f4, f5⟩ := h
  refine ⟨f0, f1, f2, f3, f4, fun p hp => ?_⟩
  rcases List.mem_append.mp hp with z | z
  · exact f5 p (List.mem_append_left _ z)
  · rcases List.mem_cons.mp z with z | z
    · rw [z]; exact hne
    · exact f5 p (List.mem_append_right _ z)
theorem turn_enumA {P : Program} {w : World} {K : PySem.W.Frag} {elts : List Expr} {kk : Nat} {tpos : Pos} {J : It} {fp : List Addr} {e it : Addr} {tn : Nat → Heap → Prop} (N : Inner P w K J fp it tn) (hef : e ∉ fp) :
    Turn P w K (.Tuple elts kk tpos) (JEnum J) (e :: fp) e (fun i h => (∃ old, IsEnum h e it ((i : Nat) : Int) old) ∧ tn i h) where
  mem := by simp
  obj := fun i h st b hb => by
    obtain ⟨⟨old, he⟩, st⟩ := st
    rcases List.mem_cons.mp hb with z | z
    · rw [z]; exact ⟨_, he, fun v q => nomatch q⟩
    · exact N.obj i h st b z
  keep := fun i h h' st k => let ⟨⟨old, he⟩, hi⟩ := st; ⟨⟨old, k e (by simp) _ he⟩, N.keep i h h' hi fun b hb o q => k b (List.mem_cons_of_mem _ hb) o q⟩
  item := by
    intro X hP hw hK hc i pins s σ H E I hf st hg
    obtain ⟨⟨old, he⟩, st⟩ := st
    have hT : s.TypeIs (.ref e) "enumerate" := ⟨_, he, rfl⟩
    have fe := hf e (by simp)
    have I0 : Inv X ((e, _) :: pins) σ H s := I.pins_of fun p hp => by
      rcases List.mem_cons.mp hp with z | z
      · rw [z]; exact ⟨he, fe.1, fe.2.1, fe.2.2.1, fun v q => nomatch q⟩
      · exact I.pin p (List.mem_append_right _ z)
    unfold pyNext
    refine wpAny_bind (wpAny_attempt (wpAny_callSpecial?_slot (name := Str.ofString "__next__") hT F.slot_enumerate_next
      (wpAny_call_entry F.slot_enumerate_next hT F.entry_enumerate_next ?_ (F.args_enumerate_next_1 _))))
    show wpAny _ _ (field (.ref e) 2 >>= _) _ _ _
    refine wpAny_bind (wpAny_field he rfl (x := .ref it) rfl ?_)
    refine wpAny_bind (wpAny_mono (N.item X hP hw hK X.A.in1 (I.ok.hd hc) i ((e, _) :: pins) s σ H (fun _ _ => False) I0 (fun b hb => fpOk_pin (hf b (List.mem_cons_of_mem _ hb)) fun q => hef (q ▸ hb)) st hg) ?_ fun _ _ q => q.elim)
    rintro u s1 ⟨x, H1, I1, rx, yx, st1, hn1⟩
    subst hP hw hK
    obtain ⟨h₁, g, d, tk, os⟩ := s1
    have he₁ : IsEnum h₁ e it ((i : Nat) : Int) old := (I1.pin (e, _) (List.mem_append_right _ List.mem_cons_self)).1
    show wpAny _ _ (field (.ref e) 3 >>= _) _ _ ⟨h₁, g, d, tk, os⟩
    refine wpAny_bind (wpAny_field he₁ rfl (x := rawInt i) rfl ?_)
    show wpAny _ _ (field (.ref e) 4 >>= _) _ _ ⟨h₁, g, d, tk, os⟩
    refine wpAny_bind (wpAny_field he₁ rfl (x := .none) rfl ?_)
    show wpAny _ _ (mkInt i >>= _) _ _ ⟨h₁, g, d, tk, os⟩
    refine wpAny_bind (wpAny_mkInt ?_)
    show wpAny _ _ (setField (.ref e) 3 (rawInt ((i : Int) + 1)) >>= _) _ _ ⟨h₁, g, d, tk + 1, os⟩
    refine wpAny_bind (wpAny_setField_rec he₁ (by simp) fun h₂ he₂ hs₂ => ?_)
    replace hs₂ : Heap.SameBut e h₁ h₂ := hs₂
    replace he₂ : IsEnum h₂ e it ((i : Int) + 1) old := he₂
    show wpAny _ _ (setField (.ref e) 4 .none >>= _) _ _ ⟨h₂, g, d, tk + 1, os⟩
    refine wpAny_bind (wpAny_setField_rec he₂ (by simp) fun h₃ he₃ hs₃ => ?_)
    replace hs₃ : Heap.SameBut e h₂ h₃ := hs₃
    replace he₃ : IsEnum h₃ e it ((i : Int) + 1) old := he₃
    show wpAny _ _ (newTuple [.int i tk, u] >>= _) _ _ ⟨h₃, g, d, tk + 1, os⟩
    refine wpAny_bind (wpAny_newTuple ?_)
    have he₄ : IsEnum (h₃.push { cls := .type "tuple", data := .seq #[.int i tk, u] }) e it ((i : Int) + 1) old := Heap.get?_push_of_some _ he₃
    generalize hh₄ : h₃.push { cls := .type "tuple", data := .seq #[.int i tk, u] } = h₄ at he₄
    have hsz : h₃.objs.size = h₁.objs.size := by rw [hs₃.1, hs₂.1]
    have hel : e < h₁.objs.size := Heap.lt_size he₁
    have ht₄ : h₄.get? h₁.objs.size = some { cls := .type "tuple", data := .seq #[.int i tk, u] } := by rw [← hh₄, ← hsz]; exact Heap.get?_push_size _ rfl
    have hk₄ : ∀ b o, b ≠ e → h₁.get? b = some o → h₄.get? b = some o := fun b o hbe hb => by
      rw [← hh₄]; exact Heap.get?_push_of_some _ (hs₃.extBut b o hbe (hs₂.extBut b o hbe hb))
    show wpAny _ _ (Builtin.SmallTypes.ownedTupleIsFree (.ref e) >>= _) _ _ ⟨h₄, g, d, tk + 1, os⟩
    rw [hsz]
    clear hh₄ he₃ hs₃ he₂ hs₂ hsz h₃ h₂
    refine wpAny_bind ?_
    unfold Builtin.SmallTypes.ownedTupleIsFree
    refine wpAny_bind (wpAny_field he₄ rfl (x := .none) rfl (wpAny_pure ?_))
    simp only [if_true]
    refine wpAny_bind (wpAny_rule ?_)
    refine wpAny_bind (wpAny_field he₄ rfl (x := old) rfl ?_)
    refine wpAny_bind (wpAny_setField_rec he₄ (by simp) fun h₅ he₅ hs₅ => ?_)
    replace hs₅ : Heap.SameBut e h₄ h₅ := hs₅
    replace he₅ : IsEnum h₅ e it ((i : Int) + 1) u := he₅
    show wpAny _ _ (Builtin.SmallTypes.ownedTupleHandOut (.ref e) (.ref h₁.objs.size) >>= _) _ _ ⟨h₅, g, d, tk + 1, os⟩
    refine wpAny_bind ?_
    unfold Builtin.SmallTypes.ownedTupleHandOut
    refine wpAny_bind (wpAny_setField_rec he₅ (by simp) fun h₆ he₆ hs₆ => ?_)
    replace hs₆ : Heap.SameBut e h₅ h₆ := hs₆
    replace he₆ : IsEnumOut h₆ e it ((i : Int) + 1) u h₁.objs.size := he₆
    refine wpAny_setField_rec he₆ (by simp) fun h₇ he₇ hs₇ => ?_
    replace hs₇ : Heap.SameBut e h₆ h₇ := hs₇
    replace he₇ : IsEnumOut h₇ e it ((i : Int) + 1) u h₁.objs.size := he₇
    refine wpAny_bind (wpAny_letGo (wpAny_pure ⟨_, rfl, wpAny_pure ?_⟩))
    refine ⟨_, rfl, wpAny_letOwnedTupleGo_enum (s := ⟨h₇, g, d, tk + 1, os⟩) he₇ fun h₈ he₈ hs₈ => ?_⟩
    replace hs₈ : Heap.SameBut e h₇ h₈ := hs₈
    have up : ∀ b o, b ≠ e → h₄.get? b = some o → h₈.get? b = some o := fun b o hbe y => hs₈.extBut b o hbe (hs₇.extBut b o hbe (hs₆.extBut b o hbe (hs₅.extBut b o hbe y)))
    have hT8 := up _ _ (Nat.ne_of_gt hel) ht₄
    have new : ObjOk X.prog X.w (upd H1 h₁.objs.size (.tup [.int (i : Nat), x])) h₈ h₁.objs.size (.tup [.int (i : Nat), x]) :=
      ⟨by show 2 ≤ sizeLine; decide, [.int i tk, u], .cons ⟨_, rfl⟩ (.cons rx .nil), ⟨_, hT8, rfl, _, rfl⟩⟩
    have I1' : Inv X pins σ H1 ⟨h₁, g, d, tk, os⟩ := I1.pins_of fun p hp => I1.pin p (List.mem_append_right _ (List.mem_cons_of_mem _ hp))
    have fe1 : FpOk X pins H1 e := ⟨(I1.pin (e, _) (List.mem_append_right _ List.mem_cons_self)).2.1, fe.2⟩
    have I2 := I1'.turnedNew (t' := tk + 1) (ch := [e]) (T := h₁.objs.size) (h' := h₈) (fun b o hb y => up b o (by simpa using hb) (hk₄ b o (by simpa using hb) y)) (fun b hb => by rw [List.mem_singleton.mp hb]; exact fe1) (Nat.le_refl _) new
    refine ⟨.ref h₁.objs.size, _, I2, rfl, ⟨_, x, H1, rfl, yx, I1.hok.fresh (Nat.le_refl _), rfl⟩, ⟨⟨u, ?_⟩, N.keep _ h₁ h₈ st1 fun b hb o y => ?_⟩, fun b hb => ?_⟩
    · have e1 : ((i + 1 : Nat) : Int) = (i : Int) + 1 := by omega
      rw [e1]; exact he₈
    · have hbe : b ≠ e := fun q => hef (q ▸ hb)
      exact up b o hbe (hk₄ b o hbe y)
    · rcases List.mem_cons.mp hb with z | z
      · rw [z, upd_ne (Nat.ne_of_lt hel)]; exact fe1.1
      · obtain ⟨o, ho, _⟩ := N.obj _ _ st1 b z
        rw [upd_ne (Nat.ne_of_lt (Heap.lt_size ho))]; exact hn1 b z
  done := by
    intro X hP hw hK hc i pins s σ H E I hf st hg
    obtain ⟨⟨old, he⟩, st⟩ := st
    have hT : s.TypeIs (.ref e) "enumerate" := ⟨_, he, rfl⟩
    unfold pyNext
    refine wpAny_bind (wpAny_attempt (wpAny_callSpecial?_slot (name := Str.ofString "__next__") hT F.slot_enumerate_next
      (wpAny_call_entry F.slot_enumerate_next hT F.entry_enumerate_next ?_ (F.args_enumerate_next_1 _))))
    show wpAny _ _ (field (.ref e) 2 >>= _) _ _ _
    refine wpAny_bind (wpAny_field he rfl (x := .ref it) rfl ?_)
    refine wpAny_bind (wpAny_mono (N.done X hP hw hK X.A.in1 (I.ok.hd hc) i pins s σ H (fun _ _ => False) I (fun b hb => hf b (List.mem_cons_of_mem _ hb)) st hg) (fun _ _ q => q.elim) fun v s1 q => ?_)
    obtain ⟨⟨b, o, rfl, ho, hc⟩, I1⟩ := q
    refine wpAny_bind (wpAny_isInstance (T := "StopIteration") (b := true) ⟨o, ho, hc⟩ isSubtype_stop ?_)
    exact wpAny_pure ⟨rfl, I1⟩
  self := fun A i s Q E st h => let ⟨⟨_, he⟩, _⟩ := st; wpAny_pyIter_enum he h
end U
namespace PySem
open Sem (wp)
theorem meets_enum_newG (v : Value) (C : Heap → Prop) (it : Heap → Addr) (nh : Heap → Heap)
    (hi : ∀ (prog : Program) (w : World) (A : Around) (E : Value → Shared → Prop) (s : Shared) (Q : Value → Shared → Prop), C s.heap → Q (.ref (it s.heap)) { s with heap := nh s.heap } → wpAny (model prog w) A (pyIter v) Q E s) :
    Meets (Builtin.«enumerate.__new__» ⟨[.type "enumerate", v], []⟩) (fun _ R s => C s.heap ∧
      R (.ok (.ret (.ref (nh s.heap).objs.size))) { s with heap := (nh s.heap).push { cls := .type "enumerate", data := .fields #[.none, .bool false, .ref (it s.heap), rawInt 0, .none, .none] } }) :=
  .of_wp fun prog w A R s h => by
    obtain ⟨hp, g, d, tk, os⟩ := s; obtain ⟨hl, h⟩ := h
    have hsub := sub_enumerate
    have hI : ∀ (A : Around) (E : Value → Shared → Prop) (Q : Value → Shared → Prop), Q (.ref (it hp)) ⟨nh hp, g, d, tk, os⟩ → wpAny (model prog w) A (pyIter v) Q E ⟨hp, g, d, tk, os⟩ := fun A E Q q => hi prog w A E ⟨hp, g, d, tk, os⟩ Q hl q
    wp_walk
    refine wpAny_stack_any fun st => wpAny_pure ?_
    split
    · rename_i c _ _ _ _ _
      cases (c == Value.type "enumerate")
      · wp_walk using hI
        exact ⟨_, rfl, h⟩
      · wp_walk using hI
        exact ⟨_, rfl, h⟩
    · wp_walk using hI
      exact ⟨_, rfl, h⟩
theorem call_enumG {prog : Program} {w : World} {A : Around} {E : Value → Shared → Prop} {s : Shared} {v : Value} {C : Heap → Prop} {it : Heap → Addr} {nh : Heap → Heap} {Q : Value → Shared → Prop}
    (hi : ∀ (prog : Program) (w : World) (A : Around) (E : Value → Shared → Prop) (s : Shared) (Q : Value → Shared → Prop), C s.heap → Q (.ref (it s.heap)) { s with heap := nh s.heap } → wpAny (model prog w) A (pyIter v) Q E s)
    (hC : C s.heap) (h : ∀ h', IsEnum h' (nh s.heap).objs.size (it s.heap) 0 .none → (∀ b o, (nh s.heap).get? b = some o → h'.get? b = some o) → Q (.ref (nh s.heap).objs.size) { s with heap := h' }) :
    wpAny (model prog w) A (call (.type "enumerate") [v]) Q E s := by
  refine callType_new F.called_enumerate (by decide) (F.typeCall_enumerate_1 _) (F.newCall_enumerate_1 _) (fun obj => F.args_object_init_2 obj _) F.entry_enumerate_new
    (meets_enum_newG v C it nh hi) ⟨hC, ?_⟩
  show _ ∧ _
  have he : IsEnum ((nh s.heap).push { cls := .type "enumerate", data := .fields #[.none, .bool false, .ref (it s.heap), rawInt 0, .none, .none] }) (nh s.heap).objs.size (it s.heap) 0 .none := Heap.get?_push_size _ rfl
  exact ⟨⟨_, he, rfl⟩, h _ he fun b o x => Heap.get?_push_of_some _ x⟩
end PySem
namespace U
open PySem PySem.Spec PyProof.Rows L2
def kdOf (K : PySem.W.Frag) (H : Hp) (a : Addr) : Option Kd := match rdL K H a with
  | some _ => some (.l a)
  | none => match rdT K H a with
    | some _ => some (.t a)
    | none => none
theorem kdOf_sq {K : PySem.W.Frag} {H : Hp} {a : Addr} {k : Kd} (h : kdOf K H a = some k) : k.u = .ref a ∧ k.v = .ref a ∧ ∃ xs, k.sq K H xs := by
  unfold kdOf at h
  split at h
  · rename_i xs e; cases h; exact ⟨rfl, rfl, xs, rdL_sq e⟩
  · split at h
    · rename_i xs e; cases h; exact ⟨rfl, rfl, xs, rdT_sq e⟩
    · cases h
def uEnum (K : PySem.W.Frag) (ta : TA) : TI := fun σ H R => ta σ H fun vs H1 => match vs with
  | [.ref a] => oK (kdOf K H1 a) fun k => R (JEnum (JKd K k)) H1
  | [.str z] => R (JEnum (JKd K (.s z 0))) H1
  | _ => False
theorem pi_enumU {X : Cx} {e : Expr} {ta : TA} {p pos tpos : Pos} {elts : List Expr} {kk : Nat} (hg : Gl X "enumerate") (hm : X.mg "enumerate" = none) (ha : PA X [e] ta) (hs : starEach [e] X.env = [(false, eval e X.env)] := by rfl) :
    PI X (.Tuple elts kk tpos) (.Call (.Name "enumerate" p) [e] [] pos) (uEnum X.K ta) := by
  refine ⟨fun pins s σ H R I h => ?_⟩
  refine Call_ (ld_blt I hg hm boot_enumerate (PyProof.Rows.callWith_type1 (thn (ha.run pos pins s σ H _ I h) fun us s1 ⟨vs, H1, I1, r1, q1⟩ => ?_) hs rfl))
  have main : ∀ (k : Kd) (xs : List V), k.sq X.K H1 xs → R (JEnum (JKd X.K k)) H1 → wpAny (model X.prog X.w) X.A (call (.type "enumerate") [k.u]) (fun v s1 => wpAny (model X.prog X.w) X.A (pyIter v) (PIE X pins σ (.Tuple elts kk tpos) R) X.xe s1) X.xe s1 := by
    intro k xs hq q
    obtain ⟨C, B, hC⟩ := Kd.begins I1 hq
    have hz : (s1.heap.push k.obj).objs.size = s1.heap.objs.size + 1 := Heap.size_push ..
    refine call_enumG (C := C) (it := fun h => h.objs.size) (nh := fun h => h.push k.obj) B.iter hC fun h' he hk => wpAny_pyIter_enum he ?_
    rw [hz] at he
    have hk' : ∀ b o, s1.heap.get? b = some o → h'.get? b = some o := fun b o y => hk b o (Heap.get?_push_of_some _ y)
    have fr : ∀ b, s1.heap.objs.size ≤ b → FpOk X pins H1 b := fun b hb => I1.fpOk hb (I1.hok.fresh hb)
    refine ⟨_, [s1.heap.objs.size + 1, s1.heap.objs.size], _, _, H1, by rw [hz], I1.kept (t' := s1.toks) hk', turn_enumA (e := s1.heap.objs.size + 1) (inner_kd k s1.heap.objs.size (Kd.away_of I1 hq (Nat.le_refl _))) (by simp), ⟨⟨.none, he⟩, Kd.at0 (hk _ _ (Heap.get?_push_size _ B.free))⟩, fun b hb => ?_, q⟩
    rcases List.mem_cons.mp hb with z | z
    · rw [z]; exact fr _ (Nat.le_add_right _ _)
    · rw [List.mem_singleton.mp z]; exact fr _ (Nat.le_refl _)
  dsimp only at q1
  split at q1
  · cases r1 with
    | cons r rr =>
      cases rr
      cases r
      obtain ⟨k, e1, q1⟩ := oK_ex q1
      obtain ⟨u1, _, xs, sq⟩ := kdOf_sq e1
      rw [← u1]
      exact main k xs sq q1
  · cases r1 with
    | cons r rr =>
      cases rr
      obtain ⟨t, rfl⟩ := r
      exact main (.s _ t) _ rfl q1
  · exact q1.elim
end U
namespace PySem.F
end PySem.F
namespace U
open PySem PySem.Spec PyProof.Rows L2
theorem Kd.le {X : Cx} {pins : List (Addr × Obj)} {σ : L2.St} {H : Hp} {s : Shared} (I : Inv X pins σ H s) {a : Addr} {xs : List V} (h : rdS X.K H a = some xs) : xs.length ≤ sizeLine := by
  unfold rdS at h
  cases e : rdL X.K H a with
  | some ys => rw [e] at h; cases h; obtain ⟨_, _, _, q⟩ := I.list (rdL_sq e); exact q
  | none => rw [e] at h; obtain ⟨_, _, _, q⟩ := I.tuple (rdT_sq h); exact q
end U
namespace U
open PySem PySem.Spec PyProof.Rows L2
def revS (z : Str) : Str := ⟨z.cps.toList.reverse.toArray⟩
section
variable {K : PySem.W.Frag} {k k1 k2 : Kd} {xs ys : List V}
theorem walk_kd : Walk (JKd K k) xs.length (fun H => k.sq K H xs) (YAt xs) :=
  ⟨fun i _ hi q => ⟨xs, xs[i], q, by simp [hi]⟩, fun _ q => .inr ⟨xs, q, rfl⟩, fun _ _ _ _ _ q y => ⟨y.1, y.2 xs q⟩⟩
theorem walk_enumK : Walk (JEnum (JKd K k)) xs.length (fun H => k.sq K H xs) (YPair (fun i => some (.int (i : Nat))) (fun i => xs[i]?)) := by
  refine ⟨fun i H hi q => walk_kd.goes i H hi q, fun H q => walk_kd.stops H q, fun i H v H' hi q y => ?_⟩
  obtain ⟨T, x, H1, rfl, h1, h2, rfl⟩ := y
  obtain ⟨rfl, h3⟩ := h1
  exact ⟨T, _, x, rfl, h2, rfl, rfl, h3 xs q⟩
end
end U
namespace U
open PySem PySem.Spec PyProof.Rows L2
end U
namespace U
open PySem PySem.Spec PyProof.Rows L2
mutual
def pureD : PyData → Bool
  | .str _ => true
  | .int _ => true
  | .list ds => pureAll ds
  | .tuple ds => pureAll ds
  | _ => false
def pureAll : List PyData → Bool
  | [] => true
  | d :: ds => pureD d && pureAll ds
end
mutual
theorem eqv_iff : ∀ (d e : PyData), pureD d = true → pureD e = true → (PyData.eqv d e = true ↔ d = e)
  | .str x, .str y, _, _ => by simp [PyData.eqv]
  | .int x, .int y, _, _ => by simp [PyData.eqv]
  | .list xs, .list ys, h1, h2 => by
    rw [PyData.eqv, eqvAll_iff xs ys (by simpa only [pureD] using h1) (by simpa only [pureD] using h2)]; simp
  | .tuple xs, .tuple ys, h1, h2 => by
    rw [PyData.eqv, eqvAll_iff xs ys (by simpa only [pureD] using h1) (by simpa only [pureD] using h2)]; simp
  | .str _, .int _, _, _ => by simp [PyData.eqv]
  | .str _, .list _, _, _ => by simp [PyData.eqv]
  | .str _, .tuple _, _, _ => by simp [PyData.eqv]
  | .int _, .str _, _, _ => by simp [PyData.eqv]
  | .int _, .list _, _, _ => by simp [PyData.eqv]
  | .int _, .tuple _, _, _ => by simp [PyData.eqv]
  | .list _, .str _, _, _ => by simp [PyData.eqv]
  | .list _, .int _, _, _ => by simp [PyData.eqv]
  | .list _, .tuple _, _, _ => by simp [PyData.eqv]
  | .tuple _, .str _, _, _ => by simp [PyData.eqv]
  | .tuple _, .int _, _, _ => by simp [PyData.eqv]
  | .tuple _, .list _, _, _ => by simp [PyData.eqv]
  | .none, _, h, _ => by simp [pureD] at h
  | .bool _, _, h, _ => by simp [pureD] at h
  | .dict _, _, h, _ => by simp [pureD] at h
  | .str _, .none, _, h => by simp [pureD] at h
  | .str _, .bool _, _, h => by simp [pureD] at h
  | .str _, .dict _, _, h => by simp [pureD] at h
  | .int _, .none, _, h => by simp [pureD] at h
  | .int _, .bool _, _, h => by simp [pureD] at h
  | .int _, .dict _, _, h => by simp [pureD] at h
  | .list _, .none, _, h => by simp [pureD] at h
  | .list _, .bool _, _, h => by simp [pureD] at h
  | .list _, .dict _, _, h => by simp [pureD] at h
  | .tuple _, .none, _, h => by simp [pureD] at h
  | .tuple _, .bool _, _, h => by simp [pureD] at h
  | .tuple _, .dict _, _, h => by simp [pureD] at h
theorem eqvAll_iff : ∀ (xs ys : List PyData), pureAll xs = true → pureAll ys = true → (PyData.eqvAll xs ys = true ↔ xs = ys)
  | [], [], _, _ => by simp [PyData.eqvAll]
  | [], _ :: _, _, _ => by simp [PyData.eqvAll]
  | _ :: _, [], _, _ => by simp [PyData.eqvAll]
  | x :: xs, y :: ys, h1, h2 => by
    simp only [pureAll, Bool.and_eq_true] at h1 h2
    rw [PyData.eqvAll, Bool.and_eq_true, eqv_iff x y h1.1 h2.1, eqvAll_iff xs ys h1.2 h2.2]; simp
end
theorem lay_all : ∀ {ds : List PyData} {n : Nat}, (∀ d ∈ ds, PyData.canLay0 d = true ∧ d.depth ≤ n) → PyData.canLayAll0 ds = true ∧ PyData.depthAll ds ≤ n
  | [], n, _ => ⟨by simp only [PyData.canLayAll0], by simp only [PyData.depthAll]; omega⟩
  | d :: ds, n, h => by
    obtain ⟨h1, h2⟩ := lay_all (ds := ds) (n := n) fun e he => h e (List.mem_cons_of_mem _ he)
    have h0 := h d List.mem_cons_self
    exact ⟨by simp only [PyData.canLayAll0, h0.1, h1, Bool.and_self], by simp only [PyData.depthAll]; have := h0.2; omega⟩
theorem lay_list {ds : List PyData} {n : Nat} (h : ∀ d ∈ ds, PyData.canLay0 d = true ∧ d.depth ≤ n) : PyData.canLay0 (.list ds) = true ∧ (PyData.list ds).depth ≤ n + 1 := by
  obtain ⟨h1, h2⟩ := lay_all h
  exact ⟨by simp only [PyData.canLay0, h1], by simp only [PyData.depth]; omega⟩
theorem lay_tup {ds : List PyData} {n : Nat} (h : ∀ d ∈ ds, PyData.canLay0 d = true ∧ d.depth ≤ n) : PyData.canLay0 (.tuple ds) = true ∧ (PyData.tuple ds).depth ≤ n + 1 := by
  obtain ⟨h1, h2⟩ := lay_all h
  exact ⟨by simp only [PyData.canLay0, h1], by simp only [PyData.depth]; omega⟩
theorem lay_str {z : Str} (h : sok z) : PyData.canLay0 (.str z) = true ∧ (PyData.str z).depth ≤ 0 := by
  refine ⟨?_, by simp only [PyData.depth]; omega⟩
  simp only [PyData.canLay0, PyData.strOk]
  rw [Array.all_eq_true']
  intro c hc
  exact decide_eq_true (h c (Array.mem_def.mp hc))
theorem lay_int (i : Int) : PyData.canLay0 (.int i) = true ∧ (PyData.int i).depth ≤ 0 := ⟨by simp only [PyData.canLay0], by simp only [PyData.depth]; omega⟩
theorem lay_tok {t : Tk} (h : sok t.1 ∧ sok t.2) : PyData.canLay0 (tokD t) = true ∧ (tokD t).depth ≤ 1 := lay_tup (n := 0) (by
  intro d hd
  simp only [List.mem_cons, List.not_mem_nil, or_false] at hd
  rcases hd with rfl | rfl
  · exact lay_str h.1
  · exact lay_str h.2)
theorem lay_text {ts : List Tk} (h : SokT ts) : PyData.canLay0 (textD ts) = true ∧ (textD ts).depth ≤ 2 := lay_list (n := 1) (by
  intro d hd
  obtain ⟨t, ht, rfl⟩ := List.mem_map.mp hd
  exact lay_tok (h t ht))
theorem shaped_of {d : PyData} {n : Nat} (h : PyData.canLay0 d = true ∧ d.depth ≤ n) (hn : n ≤ 64) : SeqAt.shaped d = true := by
  unfold SeqAt.shaped
  rw [h.1, decide_eq_true (Nat.le_trans h.2 hn)]; rfl
mutual
theorem pure_nodict : ∀ d : PyData, pureD d = true → d.hasDict = false
  | .str _, _ => by simp [PyData.hasDict]
  | .int _, _ => by simp [PyData.hasDict]
  | .list ds, h => by rw [PyData.hasDict]; exact pure_nodictAll ds (by simpa only [pureD] using h)
  | .tuple ds, h => by rw [PyData.hasDict]; exact pure_nodictAll ds (by simpa only [pureD] using h)
  | .none, h => by simp [pureD] at h
  | .bool _, h => by simp [pureD] at h
  | .dict _, h => by simp [pureD] at h
theorem pure_nodictAll : ∀ ds : List PyData, pureAll ds = true → PyData.hasDictAll ds = false
  | [], _ => by simp [PyData.hasDictAll]
  | d :: ds, h => by
    simp only [pureAll, Bool.and_eq_true] at h
    simp only [PyData.hasDictAll, pure_nodict d h.1, pure_nodictAll ds h.2, Bool.or_self]
end
theorem pureAll_of : ∀ {ds : List PyData}, (∀ d ∈ ds, pureD d = true) → pureAll ds = true
  | [], _ => by simp [pureAll]
  | d :: ds, h => by simp [pureAll, h d List.mem_cons_self, pureAll_of fun e he => h e (List.mem_cons_of_mem _ he)]
theorem pure_tok (t : Tk) : pureD (tokD t) = true := by simp [tokD, pureD, pureAll]
theorem pure_text (ts : List Tk) : pureD (textD ts) = true := by
  unfold textD; rw [pureD]
  exact pureAll_of fun d hd => by obtain ⟨t, _, rfl⟩ := List.mem_map.mp hd; exact pure_tok t
end U
namespace U
open PySem PySem.Spec PyProof.Rows L2
theorem sub_self {X : Cx} {k : Nat} (hr : Room k X.A) : Sub X k X.A := ⟨hr, rfl⟩
/-- one class of a table -/
structure MEnt (X : Cx) (m : Str) (E : L2.St → XK) (n : Nat) (C : Addr) (sp : Sp) : Prop where
  ex : ∃ CX k f, k ≤ n ∧ Cls X.K C ∧ Meth X.K C m f ∧ FnR X.prog X.w X.K X.mg X.base CX k f sp ∧ ∀ σ, PassesAt CX X σ (E σ)
inductive MTab (X : Cx) (m : Str) (E : L2.St → XK) (n : Nat) : List (Addr × Sp) → Prop
  | nil : MTab X m E n []
  | cons {C : Addr} {sp : Sp} {l : List (Addr × Sp)} : MEnt X m E n C sp → MTab X m E n l → MTab X m E n ((C, sp) :: l)
theorem MTab.at' {X : Cx} {m : Str} {E : L2.St → XK} {n : Nat} {C : Addr} {sp : Sp} : ∀ {l : List (Addr × Sp)}, MTab X m E n l → (C, sp) ∈ l → MEnt X m E n C sp
  | _, .cons h r, hm => by
    rcases List.mem_cons.mp hm with e | e
    · cases e; exact h
    · exact r.at' e
end U
namespace U
open PySem PySem.Spec PyProof.Rows L2
end U
namespace U
open PySem PySem.Spec PyProof.Rows L2
/-- a class whose instances can be looked at -/
structure InsF (K : PySem.W.Frag) (C : Addr) : Prop where
  cl : Cls K C
  ha : PySem.W.findIn K (.ref C) "__class__" = some (some (.builtin "object.__class__"))
  hn : PySem.W.specialIn K (.builtin "object.__class__") "__get__" = some (some (.builtin "getset_descriptor.__get__"))
  htk : PySem.W.takesIn K (.builtin "object.__class__") = some true
  hm : PySem.W.mroIn K C (.type "object") = some true
theorem InsF.ty {K : PySem.W.Frag} {C : Addr} (h : InsF K C) {H : Hp} {a dx : Addr} {fs : List (Str × V)} (e : H a = some (.ins C dx fs)) : TyX K H (.ref a) (.ref C) := .base (.ins e h.cl h.ha h.hn h.htk h.hm)
end U
namespace U
open PySem PySem.Spec PyProof.Rows L2
end U
namespace Fx
open PySem PySem.Spec PyProof.Rows L2 U
inductive D where
  | non | bl (b : Bool) | int (i : Int) | str (z : Str) | lst (ds : List D) | tup (ds : List D) | fro (l : Bool) (ds : List D) | dct (kvs : List (Key × D)) | cel (k : Nat) | obj (c : Nat) (fs : List (Str × D)) | cls (c : Nat)
/-- what stands in a cell -/
inductive Ce where
  | lst (ds : List D) | dK (kvs : List (Key × D)) | ins (c : Nat) (fs : List (Str × D))
abbrev Sto := List Ce
/-- a slot: nothing known, a value, a list of one's own, an object that is being made, an exception that was caught -/
inductive Sl where
  | no | val (d : D) | own (ds : List D) | oob (c : Nat) (fs : List (Str × D)) | exn (c : Nat) (fs : List (Str × D))
/-- looked at only, a value, a new list or object -/
inductive Fl where
  | pk | tr | fs
inductive RE where
  | ok (d : D) (f : Fl) (S : Sto) | xc (c : Nat) (fs : List (Str × D)) (S : Sto) | bad
abbrev Ev := List Sl
abbrev FE := Ev → Sto → RE
/-- a list or tuple of the module's top, or the script: read only -/
def NoF (K : PySem.W.Frag) (ι B : List Addr) (H : Hp) (a : Addr) (xs : List V) : Bool → Prop
  | true => (a ∉ ι ∧ a ∉ B ∧ ∃ o, H a = some (.frz o (.lst xs))) ∨ SqL K (fun _ => none) a xs
  | false => (a ∉ ι ∧ a ∉ B ∧ ∃ o, H a = some (.frz o (.tup xs))) ∨ SqT K (fun _ => none) a xs
section
variable (K : PySem.W.Frag) (ca : Nat → Addr) (ι B : List Addr) (H : Hp)
mutual
inductive RV : V → D → Prop
  | non : RV .non .non
  | bl (b : Bool) : RV (.bl b) (.bl b)
  | int (i : Int) : RV (.int i) (.int i)
  | str (z : Str) : RV (.str z) (.str z)
  | lst {a : Addr} {xs : List V} {ds : List D} : a ∉ ι → a ∉ B → H a = some (.lst xs) → RAll xs ds → RV (.ref a) (.lst ds)
  | tup {a : Addr} {xs : List V} {ds : List D} : a ∉ ι → a ∉ B → H a = some (.tup xs) → RAll xs ds → RV (.ref a) (.tup ds)
  | fro {a : Addr} {l : Bool} {xs : List V} {ds : List D} : NoF K ι B H a xs l → RAll xs ds → RV (.ref a) (.fro l ds)
  | dct {a : Addr} {kvs : List (Key × V)} {es : List (Key × D)} : a ∉ ι → a ∉ B → H a = some (.dK kvs) → RKv kvs es → RV (.ref a) (.dct es)
  | cel {a : Addr} {k : Nat} : ι[k]? = some a → RV (.ref a) (.cel k)
  | obj {a dx : Addr} {c : Nat} {fs : List (Str × V)} {es : List (Str × D)} : a ∉ ι → a ∉ B → H a = some (.ins (ca c) dx fs) → RFs fs es → RV (.ref a) (.obj c es)
  | cls (c : Nat) : RV (.ref (ca c)) (.cls c)
inductive RAll : List V → List D → Prop
  | nil : RAll [] []
  | cons {v : V} {d : D} {vs : List V} {ds : List D} : RV v d → RAll vs ds → RAll (v :: vs) (d :: ds)
inductive RKv : List (Key × V) → List (Key × D) → Prop
  | nil : RKv [] []
  | cons {k : Key} {v : V} {d : D} {vs : List (Key × V)} {ds : List (Key × D)} : RV v d → RKv vs ds → RKv ((k, v) :: vs) ((k, d) :: ds)
inductive RFs : List (Str × V) → List (Str × D) → Prop
  | nil : RFs [] []
  | cons {k : Str} {v : V} {d : D} {vs : List (Str × V)} {ds : List (Str × D)} : RV v d → RFs vs ds → RFs ((k, v) :: vs) ((k, d) :: ds)
end
end
/-- what stands at one time stands later -/
structure Per (ι B : List Addr) (H : Hp) (ι' B' : List Addr) (H' : Hp) : Prop where
  at' : ∀ (a : Addr) (o : HO), H a = some o → a ∉ ι → a ∉ B → H' a = some o ∧ a ∉ ι' ∧ a ∉ B'
  ix : ∀ (k : Nat) (a : Addr), ι[k]? = some a → ι'[k]? = some a
theorem Per.refl {ι B : List Addr} {H : Hp} : Per ι B H ι B H := ⟨fun _ _ h1 h2 h3 => ⟨h1, h2, h3⟩, fun _ _ h => h⟩
theorem Per.trans {ι B ι1 B1 ι2 B2 : List Addr} {H H1 H2 : Hp} (a : Per ι B H ι1 B1 H1) (b : Per ι1 B1 H1 ι2 B2 H2) : Per ι B H ι2 B2 H2 :=
  ⟨fun x o h1 h2 h3 => by
    obtain ⟨q1, q2, q3⟩ := a.at' x o h1 h2 h3
    exact b.at' x o q1 q2 q3, fun k x h => b.ix k x (a.ix k x h)⟩
section
variable {K : PySem.W.Frag} {ca : Nat → Addr} {ι B ι' B' : List Addr} {H H' : Hp}
theorem NoF.per {a : Addr} {xs : List V} {l : Bool} (h : NoF K ι B H a xs l) (p : Per ι B H ι' B' H') : NoF K ι' B' H' a xs l := by
  cases l with
  | true =>
    rcases h with ⟨h1, h2, o, h3⟩ | h
    · obtain ⟨q1, q2, q3⟩ := p.at' a _ h3 h1 h2
      exact .inl ⟨q2, q3, o, q1⟩
    · exact .inr h
  | false =>
    rcases h with ⟨h1, h2, o, h3⟩ | h
    · obtain ⟨q1, q2, q3⟩ := p.at' a _ h3 h1 h2
      exact .inl ⟨q2, q3, o, q1⟩
    · exact .inr h
theorem NoF.sq {a : Addr} {xs : List V} {l : Bool} (h : NoF K ι B H a xs l) : SqL K H a xs ∨ SqT K H a xs := by
  cases l with
  | true =>
    rcases h with ⟨_, _, o, h3⟩ | h
    · exact .inl (.inl (.inr ⟨o, h3⟩))
    · rcases h with (h | ⟨_, h⟩) | h
      · cases h
      · cases h
      · exact .inl (.inr h)
  | false =>
    rcases h with ⟨_, _, o, h3⟩ | h
    · exact .inr (.inl (.inr ⟨o, h3⟩))
    · rcases h with (h | ⟨_, h⟩) | h
      · cases h
      · cases h
      · exact .inr (.inr h)
mutual
theorem RV.pe (p : Per ι B H ι' B' H') : ∀ (d : D) {v : V}, RV K ca ι B H v d → RV K ca ι' B' H' v d
  | .non, _, h => by cases h; exact .non
  | .bl _, _, h => by cases h; exact .bl _
  | .int _, _, h => by cases h; exact .int _
  | .str _, _, h => by cases h; exact .str _
  | .lst ds, _, h => by
    cases h with
    | lst h1 h2 h3 h4 =>
      obtain ⟨q1, q2, q3⟩ := p.at' _ _ h3 h1 h2
      exact .lst q2 q3 q1 (RAll.pe p ds h4)
  | .tup ds, _, h => by
    cases h with
    | tup h1 h2 h3 h4 =>
      obtain ⟨q1, q2, q3⟩ := p.at' _ _ h3 h1 h2
      exact .tup q2 q3 q1 (RAll.pe p ds h4)
  | .fro l ds, _, h => by
    cases h with
    | fro h1 h2 => exact .fro (h1.per p) (RAll.pe p ds h2)
  | .dct es, _, h => by
    cases h with
    | dct h1 h2 h3 h4 =>
      obtain ⟨q1, q2, q3⟩ := p.at' _ _ h3 h1 h2
      exact .dct q2 q3 q1 (RKv.pe p es h4)
  | .cel k, _, h => by
    cases h with
    | cel h1 => exact .cel (p.ix _ _ h1)
  | .obj c es, _, h => by
    cases h with
    | obj h1 h2 h3 h4 =>
      obtain ⟨q1, q2, q3⟩ := p.at' _ _ h3 h1 h2
      exact .obj q2 q3 q1 (RFs.pe p es h4)
  | .cls _, _, h => by cases h; exact .cls _
theorem RAll.pe (p : Per ι B H ι' B' H') : ∀ (ds : List D) {vs : List V}, RAll K ca ι B H vs ds → RAll K ca ι' B' H' vs ds
  | [], _, h => by cases h; exact .nil
  | d :: ds, _, h => by
    cases h with
    | cons h1 h2 => exact .cons (RV.pe p d h1) (RAll.pe p ds h2)
theorem RKv.pe (p : Per ι B H ι' B' H') : ∀ (ds : List (Key × D)) {vs : List (Key × V)}, RKv K ca ι B H vs ds → RKv K ca ι' B' H' vs ds
  | [], _, h => by cases h; exact .nil
  | (k, d) :: ds, _, h => by
    cases h with
    | cons h1 h2 => exact .cons (RV.pe p d h1) (RKv.pe p ds h2)
theorem RFs.pe (p : Per ι B H ι' B' H') : ∀ (ds : List (Str × D)) {vs : List (Str × V)}, RFs K ca ι B H vs ds → RFs K ca ι' B' H' vs ds
  | [], _, h => by cases h; exact .nil
  | (k, d) :: ds, _, h => by
    cases h with
    | cons h1 h2 => exact .cons (RV.pe p d h1) (RFs.pe p ds h2)
end
theorem RV.per {d : D} {v : V} (h : RV K ca ι B H v d) (p : Per ι B H ι' B' H') : RV K ca ι' B' H' v d := RV.pe p d h
theorem RAll.per {d : List D} {v : List V} (h : RAll K ca ι B H v d) (p : Per ι B H ι' B' H') : RAll K ca ι' B' H' v d := RAll.pe p d h
theorem RKv.per {d : List (Key × D)} {v : List (Key × V)} (h : RKv K ca ι B H v d) (p : Per ι B H ι' B' H') : RKv K ca ι' B' H' v d := RKv.pe p d h
theorem RFs.per {d : List (Str × D)} {v : List (Str × V)} (h : RFs K ca ι B H v d) (p : Per ι B H ι' B' H') : RFs K ca ι' B' H' v d := RFs.pe p d h
theorem RAll.len : ∀ {ds : List D} {vs : List V}, RAll K ca ι B H vs ds → vs.length = ds.length
  | [], _, h => by cases h; rfl
  | d :: ds, _, h => by
    cases h with
    | cons h1 h2 => rw [List.length_cons, List.length_cons, RAll.len h2]
theorem RAll.app : ∀ {ds es : List D} {vs ws : List V}, RAll K ca ι B H vs ds → RAll K ca ι B H ws es → RAll K ca ι B H (vs ++ ws) (ds ++ es)
  | [], _, _, _, h, g => by cases h; exact g
  | d :: ds, _, _, _, h, g => by
    cases h with
    | cons h1 h2 => exact .cons h1 (RAll.app h2 g)
theorem RAll.drop : ∀ (n : Nat) {ds : List D} {vs : List V}, RAll K ca ι B H vs ds → RAll K ca ι B H (vs.drop n) (ds.drop n)
  | 0, _, _, h => h
  | n + 1, [], _, h => by cases h; exact .nil
  | n + 1, d :: ds, _, h => by
    cases h with
    | cons h1 h2 => exact RAll.drop n h2
theorem RAll.take : ∀ (n : Nat) {ds : List D} {vs : List V}, RAll K ca ι B H vs ds → RAll K ca ι B H (vs.take n) (ds.take n)
  | 0, _, _, h => .nil
  | n + 1, [], _, h => by cases h; exact .nil
  | n + 1, d :: ds, _, h => by
    cases h with
    | cons h1 h2 => exact .cons h1 (RAll.take n h2)
theorem RAll.at : ∀ {ds : List D} {vs : List V} (i : Nat) {d : D}, RAll K ca ι B H vs ds → ds[i]? = some d → ∃ v, vs[i]? = some v ∧ RV K ca ι B H v d
  | [], _, i, _, h, e => by simp at e
  | d :: ds, _, 0, _, h, e => by
    cases h with
    | cons h1 h2 => simp at e; subst e; exact ⟨_, rfl, h1⟩
  | d :: ds, _, i + 1, _, h, e => by
    cases h with
    | cons h1 h2 =>
      obtain ⟨v, q1, q2⟩ := RAll.at i h2 (by simpa using e)
      exact ⟨v, by simpa using q1, q2⟩
theorem RAll.atV : ∀ {ds : List D} {vs : List V} (i : Nat) {v : V}, RAll K ca ι B H vs ds → vs[i]? = some v → ∃ d, ds[i]? = some d ∧ RV K ca ι B H v d
  | [], _, i, _, h, e => by cases h; simp at e
  | d :: ds, _, 0, _, h, e => by
    cases h with
    | cons h1 h2 => simp at e; subst e; exact ⟨_, rfl, h1⟩
  | d :: ds, _, i + 1, _, h, e => by
    cases h with
    | cons h1 h2 =>
      obtain ⟨v, q1, q2⟩ := RAll.atV i h2 (by simpa using e)
      exact ⟨v, by simpa using q1, q2⟩
theorem RAll.set : ∀ {ds : List D} {vs : List V} (i : Nat) {d : D} {v : V}, RAll K ca ι B H vs ds → RV K ca ι B H v d → RAll K ca ι B H (vs.set i v) (ds.set i d)
  | [], _, i, _, _, h, g => by cases h; exact .nil
  | d :: ds, _, 0, _, _, h, g => by
    cases h with
    | cons h1 h2 => exact .cons g h2
  | d :: ds, _, i + 1, _, _, h, g => by
    cases h with
    | cons h1 h2 => exact .cons h1 (RAll.set i h2 g)
theorem RFs.look : ∀ {ds : List (Str × D)} {vs : List (Str × V)} {f : Str}, RFs K ca ι B H vs ds → (∃ d v, ds.lookup f = some d ∧ vs.lookup f = some v ∧ RV K ca ι B H v d) ∨ (ds.lookup f = none ∧ vs.lookup f = none)
  | [], _, f, h => by cases h; exact .inr ⟨rfl, rfl⟩
  | (k, d) :: ds, _, f, h => by
    cases h with
    | cons h1 h2 =>
      rw [List.lookup_cons, List.lookup_cons]
      cases e : f == k with
      | true => exact .inl ⟨d, _, rfl, rfl, h1⟩
      | false => exact RFs.look h2
end
/-- seen only, or a value -/
inductive RT (K : PySem.W.Frag) (ca : Nat → Addr) (ι B : List Addr) (H : Hp) : V → D → Prop
  | v {x : V} {d : D} : RV K ca ι B H x d → RT K ca ι B H x d
  | l {a : Addr} {xs : List V} {ds : List D} : a ∉ ι → H a = some (.lst xs) → RAll K ca ι B H xs ds → RT K ca ι B H (.ref a) (.lst ds)
  | o {a dx : Addr} {c : Nat} {fs : List (Str × V)} {es : List (Str × D)} : a ∉ ι → H a = some (.ins (ca c) dx fs) → RFs K ca ι B H fs es → RT K ca ι B H (.ref a) (.obj c es)
inductive RC (K : PySem.W.Frag) (ca : Nat → Addr) (ι B : List Addr) (H : Hp) (a : Addr) : Ce → Prop
  | lst {xs : List V} {ds : List D} : H a = some (.lst xs) → RAll K ca ι B H xs ds → RC K ca ι B H a (.lst ds)
  | dK {xs : List (Key × V)} {ds : List (Key × D)} : H a = some (.dK xs) → RKv K ca ι B H xs ds → RC K ca ι B H a (.dK ds)
  | ins {dx : Addr} {c : Nat} {fs : List (Str × V)} {es : List (Str × D)} : H a = some (.ins (ca c) dx fs) → RFs K ca ι B H fs es → RC K ca ι B H a (.ins c es)
structure RS (K : PySem.W.Frag) (ca : Nat → Addr) (ι B : List Addr) (H : Hp) (S : Sto) : Prop where
  len : ι.length = S.length
  at' : ∀ (k : Nat) (a : Addr) (c : Ce), ι[k]? = some a → S[k]? = some c → RC K ca ι B H a c
/-- a new one -/
inductive Fs (K : PySem.W.Frag) (ca : Nat → Addr) (ι B : List Addr) (H0 H : Hp) (S : Sto) : V → D → Prop
  | l {a : Addr} {xs : List V} {ds : List D} : a ∉ ι → a ∉ B → H0 a = none → H a = some (.lst xs) → RAll K ca ι (a :: B) H xs ds → RS K ca ι (a :: B) H S → Fs K ca ι B H0 H S (.ref a) (.lst ds)
  | o {a dx : Addr} {c : Nat} {fs : List (Str × V)} {es : List (Str × D)} : a ∉ ι → a ∉ B → H0 a = none → H a = some (.ins (ca c) dx fs) → RFs K ca ι (a :: B) H fs es → RS K ca ι (a :: B) H S → Fs K ca ι B H0 H S (.ref a) (.obj c es)
def RF (K : PySem.W.Frag) (ca : Nat → Addr) (ι B : List Addr) (H0 H : Hp) (S : Sto) (v : V) (d : D) : Fl → Prop
  | .pk => RT K ca ι B H v d
  | .tr => RV K ca ι B H v d
  | .fs => Fs K ca ι B H0 H S v d
section
variable {K : PySem.W.Frag} {ca : Nat → Addr} {ι B ι' B' : List Addr} {H0 H H' : Hp} {S : Sto} {v : V} {d : D}
theorem Per.less (h : ∀ a ∈ B', a ∈ B) : Per ι B H ι B' H := ⟨fun a o h1 h2 h3 => ⟨h1, h2, fun z => h3 (h a z)⟩, fun _ _ z => z⟩
theorem Fs.rv (h : Fs K ca ι B H0 H S v d) : RV K ca ι B H v d := by
  cases h with
  | l h1 h2 h3 h4 h5 h6 => exact .lst h1 h2 h4 (h5.per (Per.less fun a ha => List.mem_cons_of_mem _ ha))
  | o h1 h2 h3 h4 h5 h6 => exact .obj h1 h2 h4 (h5.per (Per.less fun a ha => List.mem_cons_of_mem _ ha))
theorem RF.rt {f : Fl} (h : RF K ca ι B H0 H S v d f) : RT K ca ι B H v d := by
  cases f with
  | pk => exact h
  | tr => exact .v h
  | fs => exact .v (Fs.rv h)
theorem RF.rv {f : Fl} (h : RF K ca ι B H0 H S v d f) (hf : f ≠ .pk) : RV K ca ι B H v d := by
  cases f with
  | pk => exact absurd rfl hf
  | tr => exact h
  | fs => exact Fs.rv h
theorem Fs.old {H1 : Hp} (h : Fs K ca ι B H0 H S v d) (g : ∀ a, H1 a ≠ none → H0 a ≠ none) : Fs K ca ι B H1 H S v d := by
  have e : ∀ a, H0 a = none → H1 a = none := fun a q => by
    cases z : H1 a with
    | none => rfl
    | some o => exact absurd q (g a (by rw [z]; simp))
  cases h with
  | l h1 h2 h3 h4 h5 h6 => exact .l h1 h2 (e _ h3) h4 h5 h6
  | o h1 h2 h3 h4 h5 h6 => exact .o h1 h2 (e _ h3) h4 h5 h6
theorem RF.old {f : Fl} {H1 : Hp} (h : RF K ca ι B H0 H S v d f) (g : ∀ a, H1 a ≠ none → H0 a ≠ none) : RF K ca ι B H1 H S v d f := by
  cases f with
  | pk => exact h
  | tr => exact h
  | fs => exact Fs.old h g
end
/-- the heap has grown, but for the cells -/
structure Ext (ι : List Addr) (H : Hp) (ι' : List Addr) (H' : Hp) : Prop where
  pre : ι <+: ι'
  keep : ∀ a o, H a = some o → a ∉ ι → H' a = some o
  new : ∀ a ∈ ι', a ∉ ι → H a = none
  dom : ∀ a, H a ≠ none → H' a ≠ none
theorem ix_pre {ι ι' : List Addr} (h : ι <+: ι') {k : Nat} {a : Addr} (e : ι[k]? = some a) : ι'[k]? = some a := by
  obtain ⟨t, rfl⟩ := h
  rw [List.getElem?_append_left (List.getElem?_eq_some_iff.mp e).1]; exact e
section
variable {ι ι1 ι2 B : List Addr} {H H1 H2 : Hp}
theorem Ext.refl : Ext ι H ι H := ⟨List.prefix_rfl, fun _ _ h _ => h, fun _ h n => absurd h n, fun _ h => h⟩
theorem Ext.trans (a : Ext ι H ι1 H1) (b : Ext ι1 H1 ι2 H2) : Ext ι H ι2 H2 := by
  refine ⟨a.pre.trans b.pre, fun x o h n => ?_, fun x h n => ?_, fun x h => b.dom x (a.dom x h)⟩
  · refine b.keep x o (a.keep x o h n) fun z => ?_
    have := a.new x z n
    rw [h] at this; cases this
  · by_cases hx : x ∈ ι1
    · exact a.new x hx n
    · have := b.new x h hx
      cases e : H x with
      | none => rfl
      | some o => exact absurd this (a.dom x (by rw [e]; simp))
theorem Ext.per (e : Ext ι H ι1 H1) : Per ι B H ι1 B H1 :=
  ⟨fun a o h1 h2 h3 => ⟨e.keep a o h1 h2, (fun z => by
    have := e.new a z h2
    rw [h1] at this; cases this), h3⟩, fun _ _ h => ix_pre e.pre h⟩
/-- a new thing at p -/
theorem Ext.new1 {p : Addr} {o : HO} (h : H p = none) : Ext ι H ι (upd H p o) := by
  refine ⟨List.prefix_rfl, fun a u e _ => ?_, fun _ h n => absurd h n, fun a e => ?_⟩
  · rw [upd_ne (ne_of_none e h)]; exact e
  · unfold upd; split
    · simp
    · exact e
theorem Ext.gr (g : ∀ a o, H a = some o → H1 a = some o) : Ext ι H ι H1 := by
  refine ⟨List.prefix_rfl, fun a u e _ => g a u e, fun _ h n => absurd h n, fun a e => ?_⟩
  cases z : H a with
  | none => exact absurd z e
  | some o => rw [g a o z]; simp
end
section
variable {K : PySem.W.Frag} {ca : Nat → Addr} {ι B ι' : List Addr} {H H' : Hp} {v : V} {d : D}
theorem RV.ex (h : RV K ca ι B H v d) (e : Ext ι H ι' H') : RV K ca ι' B H' v d := h.per e.per
theorem RAll.ex {vs : List V} {ds : List D} (h : RAll K ca ι B H vs ds) (e : Ext ι H ι' H') : RAll K ca ι' B H' vs ds := h.per e.per
theorem RFs.ex {vs : List (Str × V)} {ds : List (Str × D)} (h : RFs K ca ι B H vs ds) (e : Ext ι H ι' H') : RFs K ca ι' B H' vs ds := h.per e.per
theorem Ext.off (e : Ext ι H ι' H') {a : Addr} {o : HO} (h : H a = some o) (n : a ∉ ι) : a ∉ ι' := fun z => by
  have := e.new a z n
  rw [h] at this; cases this
theorem RT.ex (h : RT K ca ι B H v d) (e : Ext ι H ι' H') : RT K ca ι' B H' v d := by
  cases h with
  | v h => exact .v (h.ex e)
  | l h1 h2 h3 => exact .l (e.off h2 h1) (e.keep _ _ h2 h1) (h3.ex e)
  | o h1 h2 h3 => exact .o (e.off h2 h1) (e.keep _ _ h2 h1) (h3.ex e)
end
theorem RC.here {K : PySem.W.Frag} {ca : Nat → Addr} {ι B : List Addr} {H : Hp} {a : Addr} {c : Ce} (h : RC K ca ι B H a c) : H a ≠ none := by
  cases h with
  | lst h _ => rw [h]; simp
  | dK h _ => rw [h]; simp
  | ins h _ => rw [h]; simp
theorem RS.here {K : PySem.W.Frag} {ca : Nat → Addr} {ι B : List Addr} {H : Hp} {S : Sto} (h : RS K ca ι B H S) : ∀ a ∈ ι, H a ≠ none := fun a ha => by
  obtain ⟨k, hk, e⟩ := List.getElem_of_mem ha
  have e1 : ι[k]? = some a := by rw [List.getElem?_eq_getElem hk, e]
  have hk2 : k < S.length := by rw [← h.len]; exact hk
  exact (h.at' k a S[k] e1 (List.getElem?_eq_getElem hk2)).here
/-- cells whose own objects stay -/
theorem RC.per {K : PySem.W.Frag} {ca : Nat → Addr} {ι B ι' B' : List Addr} {H H' : Hp} {a : Addr} {c : Ce} (h : RC K ca ι B H a c) (e : H' a = H a) (p : Per ι B H ι' B' H') : RC K ca ι' B' H' a c := by
  cases h with
  | lst h r => exact .lst (e.trans h) (r.per p)
  | dK h r => exact .dK (e.trans h) (r.per p)
  | ins h r => exact .ins (e.trans h) (r.per p)
theorem RS.per {K : PySem.W.Frag} {ca : Nat → Addr} {ι B B' : List Addr} {H H' : Hp} {S : Sto} (h : RS K ca ι B H S) (e : ∀ a ∈ ι, H' a = H a) (p : Per ι B H ι B' H') : RS K ca ι B' H' S :=
  ⟨h.len, fun k a c h1 h2 => (h.at' k a c h1 h2).per (e a (List.mem_of_getElem? h1)) p⟩
theorem RS.gr {K : PySem.W.Frag} {ca : Nat → Addr} {ι B : List Addr} {H H' : Hp} {S : Sto} (h : RS K ca ι B H S) (g : ∀ a o, H a = some o → H' a = some o) : RS K ca ι B H' S :=
  h.per (fun a ha => by
    cases e : H a with
    | none => exact absurd e (h.here a ha)
    | some o => exact g a o e) (Ext.gr g).per
/-- the dict of an exception, if it has one -/
def NI (d : Option Addr) (l : List Addr) : Prop := ∀ a, d = some a → a ∉ l
def XD (H : Hp) (d : Option Addr) (fs : List (Str × V)) : Prop := match d with
  | some a => H a = some (.xd fs)
  | none => fs = []
theorem NI.less {d : Option Addr} {l m : List Addr} (h : NI d m) (s : ∀ a ∈ l, a ∈ m) : NI d l := fun a e z => h a e (s a z)
theorem XD.ex {ι ι' : List Addr} {H H' : Hp} {d : Option Addr} {fs : List (Str × V)} (h : XD H d fs) (n : NI d ι) (e : Ext ι H ι' H') : XD H' d fs := by
  cases d with
  | none => exact h
  | some a => exact e.keep _ _ h (n a rfl)
theorem NI.ex {ι ι' : List Addr} {H H' : Hp} {d : Option Addr} {fs : List (Str × V)} (h : XD H d fs) (n : NI d ι) (e : Ext ι H ι' H') : NI d ι' := fun a q => by
  subst q
  exact e.off h (n a rfl)
theorem XD.per {ι B ι' B' : List Addr} {H H' : Hp} {d : Option Addr} {fs : List (Str × V)} (h : XD H d fs) (n1 : NI d ι) (n2 : NI d B) (p : Per ι B H ι' B' H') : XD H' d fs ∧ NI d ι' ∧ NI d B' := by
  cases d with
  | none => exact ⟨h, (fun a z => nomatch z), (fun a z => nomatch z)⟩
  | some a =>
    obtain ⟨q1, q2, q3⟩ := p.at' a _ h (n1 a rfl) (n2 a rfl)
    exact ⟨q1, fun b z => by cases z; exact q2, fun b z => by cases z; exact q3⟩
structure Fr where
  H0 : Hp
  i0 : List Addr
  B0 : List Addr
structure Gm where
  K : PySem.W.Frag
  ca : Nat → Addr
  x : Option (Addr × Option Addr × Nat)
  me : Option Addr
inductive RSl (G : Gm) (ι B ω : List Addr) (H : Hp) : Sl → Option V → Prop
  | no {o : Option V} : RSl G ι B ω H .no o
  | val {v : V} {d : D} : RV G.K G.ca ι B H v d → RSl G ι B ω H (.val d) (some v)
  | own {a : Addr} {xs : List V} {ds : List D} : a ∈ ω → H a = some (.lst xs) → RAll G.K G.ca ι B H xs ds → RSl G ι B ω H (.own ds) (some (.ref a))
  | oob {a dx : Addr} {c : Nat} {fs : List (Str × V)} {es : List (Str × D)} : a ∈ ω → G.me = some a → H a = some (.ins (G.ca c) dx fs) → RFs G.K G.ca ι B H fs es → RSl G ι B ω H (.oob c es) (some (.ref a))
  | exn {a : Addr} {dd : Option Addr} {c : Nat} {fs : List (Str × V)} {es : List (Str × D)} : G.x = some (a, dd, c) → NI dd ι → NI dd B → XD H dd fs → RFs G.K G.ca ι B H fs es → RSl G ι B ω H (.exn c es) (some (.ref a))
def isOwn : Sl → Bool
  | .own _ => true
  | .oob _ _ => true
  | _ => false
structure Rel (G : Gm) (F : Fr) (ι ω : List Addr) (ρ : Ev) (S : Sto) (σ : L2.St) (H : Hp) : Prop where
  pre : F.i0 <+: ι
  old : ∀ a o, F.H0 a = some o → a ∉ F.i0 → H a = some o
  dom : ∀ a, F.H0 a ≠ none → H a ≠ none
  fri : ∀ a ∈ ι, a ∉ F.i0 → F.H0 a = none
  frw : ∀ a ∈ ω, F.H0 a = none
  b0 : ∀ a ∈ F.B0, F.H0 a ≠ none ∧ a ∉ F.i0
  nd : ι.Nodup
  dj : ∀ a ∈ ω, a ∉ ι
  dw : ∀ a ∈ ω, H a ≠ none
  sto : RS G.K G.ca ι (F.B0 ++ ω) H S
  len : ρ.length = σ.length
  env : ∀ (i : Nat) (s : Sl) (o : Option V), ρ[i]? = some s → σ[i]? = some o → RSl G ι (F.B0 ++ ω) ω H s o
  own : ∀ (i j : Nat) (a : Addr) (s s' : Sl), i ≠ j → ρ[i]? = some s → ρ[j]? = some s' → isOwn s = true → isOwn s' = true → σ[i]? = some (some (.ref a)) → σ[j]? = some (some (.ref a)) → False
section
variable {G : Gm} {F : Fr} {ι ω ι' : List Addr} {ρ : Ev} {S S' : Sto} {σ : L2.St} {H H' : Hp}
theorem RSl.ex {s : Sl} {o : Option V} (h : RSl G ι (F.B0 ++ ω) ω H s o) (dj : ∀ a ∈ ω, a ∉ ι) (e : Ext ι H ι' H') : RSl G ι' (F.B0 ++ ω) ω H' s o := by
  cases h with
  | no => exact .no
  | val h => exact .val (h.ex e)
  | own h1 h2 h3 => exact .own h1 (e.keep _ _ h2 (dj _ h1)) (h3.ex e)
  | oob h1 h0 h2 h3 => exact .oob h1 h0 (e.keep _ _ h2 (dj _ h1)) (h3.ex e)
  | exn h1 h2 h3 h4 h5 => exact .exn h1 (NI.ex h4 h2 e) h3 (h4.ex h2 e) (h5.ex e)
theorem Rel.bi (r : Rel G F ι ω ρ S σ H) : ∀ a ∈ F.B0 ++ ω, a ∉ ι := fun a ha z => by
  rcases List.mem_append.mp ha with h | h
  · obtain ⟨h1, h2⟩ := r.b0 a h
    exact h1 (r.fri a z h2)
  · exact r.dj a h z
theorem Rel.bd (r : Rel G F ι ω ρ S σ H) : ∀ a ∈ F.B0 ++ ω, H a ≠ none := fun a ha => by
  rcases List.mem_append.mp ha with h | h
  · exact r.dom a (r.b0 a h).1
  · exact r.dw a h
theorem Rel.ex (r : Rel G F ι ω ρ S σ H) (e : Ext ι H ι' H') (nd : ι'.Nodup) (s : RS G.K G.ca ι' (F.B0 ++ ω) H' S') : Rel G F ι' ω ρ S' σ H' := by
  have up : ∀ a o, F.H0 a = some o → a ∉ F.i0 → a ∉ ι := fun a o h n z => by
    have := r.fri a z n
    rw [h] at this; cases this
  refine ⟨r.pre.trans e.pre, fun a o h n => e.keep a o (r.old a o h n) (up a o h n), fun a h => e.dom a (r.dom a h), fun a h n => ?_, r.frw, r.b0, nd, fun a h z => ?_, fun a h => e.dom a (r.dw a h), s, r.len, fun i s o h1 h2 => (r.env i s o h1 h2).ex r.dj e, r.own⟩
  · by_cases hx : a ∈ ι
    · exact r.fri a hx n
    · have q := e.new a h hx
      cases z : F.H0 a with
      | none => rfl
      | some o => exact absurd q (r.dom a (by rw [z]; simp))
  · exact r.dw a h (e.new a z (r.dj a h))
/-- the heap alone has grown -/
theorem Rel.gr (r : Rel G F ι ω ρ S σ H) (g : ∀ a o, H a = some o → H' a = some o) : Rel G F ι ω ρ S σ H' := r.ex (Ext.gr g) r.nd (r.sto.gr g)
theorem Rel.new (r : Rel G F ι ω ρ S σ H) {p : Addr} {o : HO} (h : H p = none) : Rel G F ι ω ρ S σ (upd H p o) := r.gr fun a u e => by
  rw [upd_ne (ne_of_none e h)]; exact e
theorem Rel.offi (r : Rel G F ι ω ρ S σ H) {p : Addr} (h : H p = none) : p ∉ ι := fun z => r.sto.here p z h
theorem Rel.offb (r : Rel G F ι ω ρ S σ H) {p : Addr} (h : H p = none) : p ∉ F.B0 ++ ω := fun z => r.bd p z h
end
end Fx
namespace U
open PySem PySem.Spec PyProof.Rows L2
mutual
inductive Dq (K : PySem.W.Frag) (H : Hp) : V → PyData → Prop
  | non : Dq K H .non .none
  | bl (k : Bool) : Dq K H (.bl k) (.bool k)
  | int (i : Int) : Dq K H (.int i) (.int i)
  | str (z : Str) : Dq K H (.str z) (.str z)
  | lst {a : Addr} {xs : List V} {ds : List PyData} : SqL K H a xs → DqAll K H xs ds → Dq K H (.ref a) (.list ds)
  | tup {a : Addr} {xs : List V} {ds : List PyData} : SqT K H a xs → DqAll K H xs ds → Dq K H (.ref a) (.tuple ds)
  | dct {a : Addr} : H a = some (.dK []) → Dq K H (.ref a) (.dict [])
  | dct1 {a : Addr} {z : Str} {i : Int} : H a = some (.dK [(.inr z, .int i)]) → Dq K H (.ref a) (.dict [(.str z, .int i)])
inductive DqAll (K : PySem.W.Frag) (H : Hp) : List V → List PyData → Prop
  | nil : DqAll K H [] []
  | cons {v : V} {vs : List V} {d : PyData} {ds : List PyData} : Dq K H v d → DqAll K H vs ds → DqAll K H (v :: vs) (d :: ds)
end
mutual
theorem Dq.dp {K : PySem.W.Frag} {H : Hp} : ∀ (d : PyData) {v : V}, Dq K H v d → d.hasDict = false → Dp K H v d
  | .none, _, h, _ => by cases h; exact .non
  | .bool _, _, h, _ => by cases h; exact .bl _
  | .int _, _, h, _ => by cases h; exact .int _
  | .str _, _, h, _ => by cases h; exact .str _
  | .list ds, _, h, g => by
    cases h with
    | lst h2 h3 => exact .lst h2 (DqAll.dp ds h3 (by simpa only [PyData.hasDict] using g))
  | .tuple ds, _, h, g => by
    cases h with
    | tup h2 h3 => exact .tup h2 (DqAll.dp ds h3 (by simpa only [PyData.hasDict] using g))
  | .dict _, _, _, g => by simp only [PyData.hasDict] at g; cases g
theorem DqAll.dp {K : PySem.W.Frag} {H : Hp} : ∀ (ds : List PyData) {vs : List V}, DqAll K H vs ds → PyData.hasDictAll ds = false → DpAll K H vs ds
  | [], _, h, _ => by cases h; exact .nil
  | d :: ds, _, h, g => by
    cases h with
    | cons h1 h2 =>
      simp only [PyData.hasDictAll, Bool.or_eq_false_iff] at g
      exact .cons (Dq.dp d h1 g.1) (DqAll.dp ds h2 g.2)
end
section
variable {X : Cx} {pins : List (Addr × Obj)} {σ : L2.St} {H : Hp} {s : Shared}
theorem dk_one_at (I : Inv X pins σ H s) {a : Addr} {z : Str} {i : Int} (h : H a = some (.dK [(.inr z, .int i)])) : (a == sysModules) = false ∧ ∃ (o : Obj) (n : Nat) (en : DictEntry) (t t' : Tok), s.heap.get? a = some o ∧ o.cls = .type "dict" ∧ o.data = .dict #[en] n ∧ en.key = .str z t ∧ en.val = .int i t' := by
  obtain ⟨_, h2, vs, kv, o, es, ep, g1, g2, g3, _, g5, _⟩ := (show ObjOk X.prog X.w H s.heap a (.dK [(.inr z, .int i)]) from I.hok a _ h)
  obtain ⟨l⟩ := es
  match vs, kv with
  | [(kk, w)], .cons k1 .nil =>
    obtain ⟨e1, t', e2⟩ := k1
    cases (show Sum.inr z = kk from e1)
    have e2 : w = Value.int i t' := e2
    subst e2
    have g5 : Pairs (mixKind X.prog X.w) l [(Sum.inr z, Value.int i t')] := g5
    cases g5 with
    | @cons en _ _ _ p1 p2 p3 =>
      cases p3
      rcases keyIs_shape (show keyIs (Sum.inr z) en.key = true from p1) with ⟨j, t, q1, q2⟩ | ⟨x, t, q1, q2⟩
      · cases q1
      · cases q1
        exact ⟨h2, o, ep, en, t, t', g1, g2.1, g3, q2, p2⟩
mutual
theorem Dq.reads (I : Inv X pins σ H s) : ∀ (d : PyData) {v : V} {u : Value}, Dq X.K H v d → RelV v u → ∃ as, Reads s.heap u d as
  | .none, _, _, h, r => by cases h; cases r; exact ⟨_, .none⟩
  | .bool _, _, _, h, r => by cases h; cases r; exact ⟨_, .bool _⟩
  | .int _, _, _, h, r => by cases h; obtain ⟨t, rfl⟩ := r; exact ⟨_, .int _ t⟩
  | .str _, _, _, h, r => by cases h; obtain ⟨t, rfl⟩ := r; exact ⟨_, .str _ t⟩
  | .list ds, _, _, h, r => by
    cases h with
    | lst h2 h3 =>
      cases r
      obtain ⟨us, rv, ⟨o, n, e1, e2, _, e3⟩, _⟩ := I.list h2
      obtain ⟨as, q⟩ := DqAll.reads I ds h3 rv
      exact ⟨_, .list e1 e2 e3 q⟩
  | .tuple ds, _, _, h, r => by
    cases h with
    | tup h2 h3 =>
      cases r
      obtain ⟨us, rv, ⟨o, e1, e2, n, e3⟩, _⟩ := I.tuple h2
      obtain ⟨as, q⟩ := DqAll.reads I ds h3 rv
      exact ⟨_, .tuple e1 e2 e3 q⟩
  | .dict _, _, _, h, r => by
    cases h with
    | dct h2 =>
      cases r
      obtain ⟨_, o, n, e1, e2, e3⟩ := dk_empty_at I h2
      exact ⟨_, .dict e1 e2 e3 .nil .nil⟩
    | dct1 h2 =>
      cases r
      obtain ⟨_, o, n, en, t, t', e1, e2, e3, e4, e5⟩ := dk_one_at I h2
      exact ⟨_, .dict e1 e2 e3 (.cons (by dsimp only; rw [e4]; exact .str _ t) .nil) (.cons (by dsimp only; rw [e5]; exact .int _ t') .nil)⟩
theorem DqAll.reads (I : Inv X pins σ H s) : ∀ (ds : List PyData) {vs : List V} {us : List Value}, DqAll X.K H vs ds → Vals vs us → ∃ as, ReadsAll s.heap us ds as
  | [], _, _, h, r => by cases h; cases r; exact ⟨_, .nil⟩
  | d :: ds, _, _, h, r => by
    cases h with
    | cons h1 h2 =>
      cases r with
      | cons r1 r2 =>
        obtain ⟨as, q1⟩ := Dq.reads I d h1 r1
        obtain ⟨cs, q2⟩ := DqAll.reads I ds h2 r2
        exact ⟨_, .cons q1 q2⟩
end
mutual
theorem Dq.shows (I : Inv X pins σ H s) : ∀ (d : PyData) {v : V} {u : Value}, Dq X.K H v d → RelV v u → d.showable = true → d.shown.length ≤ sizeLine →
    ∃ bs, ReadAtMost s.heap d.depth bs ∧ ReprK X.prog X.w bs s.heap d.depth u d.shown
  | .none, _, _, h, r, _, _ => by
    cases h; cases r
    refine ⟨[], fun _ q => (nomatch q), ?_⟩
    simp only [PyData.shown]; exact .of_is ReprIs.none _ _ _
  | .bool k, _, _, h, r, _, _ => by
    cases h; cases r
    refine ⟨[], fun _ q => (nomatch q), ?_⟩
    simp only [PyData.shown]; exact .of_is (ReprIs.bool k) _ _ _
  | .int i, _, _, h, r, hs, _ => by
    cases h; obtain ⟨t, rfl⟩ := r
    refine ⟨[], fun _ q => (nomatch q), ?_⟩
    have g : i.natAbs.log2 < 1920 := by simpa [PyData.showable] using hs
    simp only [PyData.shown]; exact .of_is (ReprIs.int t g) _ _ _
  | .str z, _, _, h, r, _, hz => by
    cases h; obtain ⟨t, rfl⟩ := r
    refine ⟨[], fun _ q => (nomatch q), ?_⟩
    simp only [PyData.shown] at hz ⊢; exact .of_is (ReprIs.str z t hz) _ _ _
  | .list ds, _, u, h, r, hs, hz => by
    obtain ⟨as, rd⟩ := Dq.reads I (.list ds) h r
    cases h with
    | @lst a xs _ h2 h3 =>
      cases r
      obtain ⟨us, rv, ⟨o, n, e1, e2, _, e3⟩, _⟩ := I.list h2
      simp only [PyData.shown] at hz
      obtain ⟨bs, k1, k2⟩ := DqAll.shows I ds h3 rv (by simpa only [PyData.showable] using hs) (fun t ht => Nat.le_trans (listText_mem_le ht) hz)
      have no : a ∉ bs := not_mem_of_deeper rd (by simp only [PyData.depth]; omega) k1
      refine ⟨a :: bs, ReadAtMost.cons rd (by simp only [PyData.depth]; omega) k1, ?_⟩
      simp only [PyData.depth, PyData.shown]
      cases us with
      | nil =>
        cases rv
        cases h3
        simp only [PyData.shownAll, listText_nil]
        exact .listEmpty e1 e2 e3
      | cons x l => exact .list e1 e2 e3 no (by simpa using k2.length_eq) fun i y e => k2.item i y (by simpa using e)
  | .tuple ds, _, u, h, r, hs, hz => by
    obtain ⟨as, rd⟩ := Dq.reads I (.tuple ds) h r
    cases h with
    | @tup a xs _ h2 h3 =>
      cases r
      obtain ⟨us, rv, ⟨o, e1, e2, n, e3⟩, _⟩ := I.tuple h2
      simp only [PyData.shown] at hz
      obtain ⟨bs, k1, k2⟩ := DqAll.shows I ds h3 rv (by simpa only [PyData.showable] using hs) (fun t ht => Nat.le_trans (tupleText_mem_le ht) hz)
      have no : a ∉ bs := not_mem_of_deeper rd (by simp only [PyData.depth]; omega) k1
      refine ⟨a :: bs, ReadAtMost.cons rd (by simp only [PyData.depth]; omega) k1, ?_⟩
      simp only [PyData.depth, PyData.shown]
      exact .tuple e1 e2 e3 no (by simpa using k2)
  | .dict kvs, _, u, h, r, hs, hz => by
    obtain ⟨as, rd⟩ := Dq.reads I (.dict kvs) h r
    cases h with
    | @dct a h2 =>
      cases r
      obtain ⟨g, o, n, e1, e2, e3⟩ := dk_empty_at I h2
      refine ⟨[a], ReadAtMost.cons (n := 0) rd (Nat.zero_le _) (fun _ q => (nomatch q)), ?_⟩
      simp only [PyData.depth, PyData.shown, PyData.depthKv, PyData.shownKv]
      exact .dict (ps := []) e1 e2 e3 g (by simp) .nil
    | @dct1 a z i h2 =>
      cases r
      obtain ⟨g, o, n, en, t, t', e1, e2, e3, e4, e5⟩ := dk_one_at I h2
      refine ⟨[a], ReadAtMost.cons (n := 0) rd (Nat.zero_le _) (fun _ q => (nomatch q)), ?_⟩
      have hg : i.natAbs.log2 < 1920 := by simpa [PyData.showable, PyData.showableKv] using hs
      have hzz : (PyData.shown (.str z)).length ≤ sizeLine := by
        obtain ⟨p, hp, hl⟩ := PyData.shownKv_key_le [(.str z, .int i)] (PyData.shown (.str z)) (by simp [PyData.shownAll])
        simp only [PyData.shown] at hz
        exact Nat.le_trans hl (Nat.le_trans (dictText_mem_le hp) hz)
      simp only [PyData.depth, PyData.shown, PyData.depthKv, PyData.shownKv] at hzz ⊢
      exact .dict e1 e2 e3 g (by simp) (.cons (by rw [e4]; exact .of_is (ReprIs.str z t hzz) _ _ _) (by rw [e5]; exact .of_is (ReprIs.int t' hg) _ _ _) .nil)
theorem DqAll.shows (I : Inv X pins σ H s) : ∀ (ds : List PyData) {vs : List V} {us : List Value}, DqAll X.K H vs ds → Vals vs us → PyData.showableAll ds = true → (∀ t ∈ PyData.shownAll ds, t.length ≤ sizeLine) →
    ∃ bs, ReadAtMost s.heap (PyData.depthAll ds) bs ∧ ReprAllK X.prog X.w bs s.heap (PyData.depthAll ds) us (PyData.shownAll ds)
  | [], _, _, h, r, _, _ => by
    cases h; cases r
    refine ⟨[], fun _ q => (nomatch q), ?_⟩
    simp only [PyData.shownAll]; exact .nil
  | d :: ds, _, _, h, r, hs, hz => by
    cases h with
    | cons h1 h2 =>
      cases r with
      | cons r1 r2 =>
        simp only [PyData.showableAll, Bool.and_eq_true] at hs
        simp only [PyData.shownAll] at hz
        obtain ⟨b1, a1, k1⟩ := Dq.shows I d h1 r1 hs.1 (hz _ List.mem_cons_self)
        obtain ⟨b2, a2, k2⟩ := DqAll.shows I ds h2 r2 hs.2 fun t ht => hz t (List.mem_cons_of_mem _ ht)
        refine ⟨b1 ++ b2, ?_, ?_⟩
        · simp only [PyData.depthAll]
          exact (a1.mono (Nat.le_max_left _ _)).append (a2.mono (Nat.le_max_right _ _))
        · simp only [PyData.depthAll, PyData.shownAll]
          refine .cons ((k1.more fun c hc => List.mem_append_left _ hc).level_le (Nat.le_max_left _ _)) ?_
          exact k2.more_le (fun c hc => List.mem_append_right _ hc) (Nat.le_max_right _ _)
end
end
/-- data that repr takes, of any leaves -/
structure Okw (d : PyData) : Prop where
  sh : d.showable = true
  dp : d.depth ≤ 20
  sz : d.shown.length ≤ sizeLine
theorem Okd.w {d : PyData} (h : Okd d) : Okw d := ⟨h.sh, h.dp, h.size⟩
def uRepr3 (K : PySem.W.Frag) : List V → Hp → VK → Prop := fun xs H Q => match xs with
  | [v] => ∃ d, Dq K H v d ∧ Okw d ∧ Q (.str d.shown) H
  | _ => False
theorem cu_repr3 {X : Cx} (hg : X.A.guards = some []) (hu : X.A.units + 64 < cLine) : CallR X (.builtin "repr") (uRepr3 X.K) := fun pins s σ H xs us Q I r h => by
  match xs, h with
  | [v], h =>
    obtain ⟨d, hd, ok, q⟩ := h
    match us, r with
    | [u], .cons ru .nil =>
      have fin : ∀ h' tk u', (∀ b o, s.heap.get? b = some o → h'.get? b = some o) → EP X pins σ Q (.str d.shown u') { s with heap := h', toks := tk } := fun h' tk u' kp =>
        ⟨.str d.shown, H, I.un (Un.kept kp) (I.hok.kept kp), ⟨_, rfl⟩, q⟩
      have stay : ∀ tk u', EP X pins σ Q (.str d.shown u') { s with toks := tk } := fun tk u' => fin s.heap tk u' fun _ _ z => z
      obtain ⟨as, rd⟩ := Dq.reads I d hd ru
      have h2 := ok.sz
      have hdp := ok.dp
      cases hd with
      | non =>
        cases ru
        exact PySem.P.repr_of_none (by have e : PyData.shown .none = ("None" : Str) := by simp [PyData.shown]
                                       exact e ▸ stay _ _)
      | bl k =>
        cases ru
        exact PySem.P.repr_of_bool (by have e : PyData.shown (.bool k) = (if k then "True" else "False" : Str) := by simp [PyData.shown]
                                       exact e ▸ stay _ _)
      | int i =>
        obtain ⟨t, rfl⟩ := ru
        have g : i.natAbs.log2 < 1920 := by simpa [PyData.showable] using ok.sh
        exact PySem.P.repr_of_int g (by have e : PyData.shown (.int i) = (toString i : Str) := by simp [PyData.shown]
                                        exact e ▸ stay _ _)
      | str z =>
        obtain ⟨t, rfl⟩ := ru
        have e : PyData.shown (.str z) = reprText z := by simp [PyData.shown]
        exact PySem.P.repr_of_str (by exact e ▸ stay _ _) (e ▸ h2)
      | @lst a ys ds h2' h3 =>
        cases ru
        obtain ⟨us, rv, ⟨o, n, e1, e2, _, e3⟩, _⟩ := I.list h2'
        simp only [PyData.shown] at h2
        obtain ⟨bs, k1, k2⟩ := DqAll.shows I ds h3 rv (by simpa only [PyData.showable] using ok.sh) (fun t ht => Nat.le_trans (listText_mem_le ht) h2)
        have no : a ∉ bs := not_mem_of_deeper rd (by simp only [PyData.depth]; omega) k1
        simp only [PyData.depth] at hdp
        refine call_repr_slot (by omega) ⟨o, e1, e2⟩ F.slot_list_repr.toG ?_
        simp only [PyData.shown] at fin
        cases us with
        | nil =>
          cases rv
          cases h3
          simp only [PyData.shownAll, listText_nil] at fin
          exact call_list_repr_empty ⟨o, e1, e2⟩ e1 e3 ⟨_, _, rfl, fin s.heap _ _ fun _ _ z => z⟩
        | cons x l =>
          exact call_list_reprK e1 e2 e3 no (by simpa using k2.length_eq) (fun i y e => k2.item i y (by simpa using e)) (A := X.A.in1) hg (fun c _ => Clear.nil c) (by show X.A.units + 1 + _ < cLine; omega) (fun _ _ z => z) (fun h' u' tk kp => ⟨_, _, rfl, fin h' tk u' kp⟩) h2
      | @tup a ys ds h2' h3 =>
        cases ru
        obtain ⟨us, rv, ⟨o, e1, e2, n, e3⟩, _⟩ := I.tuple h2'
        simp only [PyData.shown] at h2
        obtain ⟨bs, k1, k2⟩ := DqAll.shows I ds h3 rv (by simpa only [PyData.showable] using ok.sh) (fun t ht => Nat.le_trans (tupleText_mem_le ht) h2)
        have no : a ∉ bs := not_mem_of_deeper rd (by simp only [PyData.depth]; omega) k1
        simp only [PyData.depth] at hdp
        refine call_repr_slot (by omega) ⟨o, e1, e2⟩ F.slot_tuple_repr ?_
        simp only [PyData.shown] at fin
        exact call_tuple_reprK e1 e2 e3 no (by simpa using k2) (A := X.A.in1) hg (fun c _ => Clear.nil c) (by show X.A.units + 1 + _ < cLine; omega) (fun _ _ z => z) (fun h' u' tk kp => ⟨_, _, rfl, fin h' tk u' kp⟩) h2
      | @dct a h2' =>
        cases ru
        obtain ⟨g, o, n, e1, e2, e3⟩ := dk_empty_at I h2'
        simp only [PyData.shown, PyData.shownKv] at h2 fin
        refine call_repr_slot (by omega) ⟨o, e1, e2⟩ F.slot_dict_repr ?_
        exact call_dict_reprK (as := []) (d := 0) (ps := []) e1 e2 e3 g (by simp) .nil (A := X.A.in1) hg (fun c _ => Clear.nil c) (by show X.A.units + 1 + _ < cLine; omega) (fun _ _ z => z) (fun h' u' tk kp => ⟨_, _, rfl, fin h' tk u' kp⟩) h2
      | @dct1 a z i h2' =>
        cases ru
        obtain ⟨g, o, n, en, t, t', e1, e2, e3, e4, e5⟩ := dk_one_at I h2'
        have hgi : i.natAbs.log2 < 1920 := by simpa [PyData.showable, PyData.showableKv] using ok.sh
        have hzz : (PyData.shown (.str z)).length ≤ sizeLine := by
          obtain ⟨p, hp, hl⟩ := PyData.shownKv_key_le [(.str z, .int i)] (PyData.shown (.str z)) (by simp [PyData.shownAll])
          simp only [PyData.shown] at h2
          exact Nat.le_trans hl (Nat.le_trans (dictText_mem_le hp) h2)
        simp only [PyData.shown, PyData.shownKv] at h2 fin hzz
        refine call_repr_slot (by omega) ⟨o, e1, e2⟩ F.slot_dict_repr ?_
        exact call_dict_reprK (as := []) (d := 0) (ps := [_]) e1 e2 e3 g (by simp) (.cons (by rw [e4]; exact .of_is (ReprIs.str z t hzz) _ _ _) (by rw [e5]; exact .of_is (ReprIs.int t' hgi) _ _ _) .nil) (A := X.A.in1) hg (fun c _ => Clear.nil c) (by show X.A.units + 1 + _ < cLine; omega) (fun _ _ z => z) (fun h' u' tk kp => ⟨_, _, rfl, fin h' tk u' kp⟩) h2
end U
namespace Fx
open PySem PySem.Spec PyProof.Rows L2 U
noncomputable section
def bE (r : RE) (k : D → Fl → Sto → RE) : RE := match r with
  | .ok d f S => k d f S
  | .xc c fs S => .xc c fs S
  | .bad => .bad
def PostE (G : Gm) (E : WX) (F : Fr) (ι ω : List Addr) (ρ : Ev) (σ : L2.St) (H : Hp) (Q : VK) : RE → Prop
  | .ok d f S' => ∀ ι' v H', Ext ι H ι' H' → Rel G F ι' ω ρ S' σ H' → RF G.K G.ca ι' (F.B0 ++ ω) H H' S' v d f → Q v H'
  | .xc c fs S' => ∀ ι' dd fv H', Ext ι H ι' H' → Rel G F ι' ω ρ S' σ H' → NI dd ι' → NI dd (F.B0 ++ ω) → XD H' dd fv → RFs G.K G.ca ι' (F.B0 ++ ω) H' fv fs → E (.ref (G.ca c)) dd σ H'
  | .bad => False
def SE (G : Gm) (E : WX) (t : TE) (f : FE) : Prop := ∀ F ι ω ρ S σ H Q, Rel G F ι ω ρ S σ H → PostE G E F ι ω ρ σ H Q (f ρ S) → t σ H Q
section
variable {G : Gm} {E : WX} {F : Fr} {ι ω ι1 : List Addr} {ρ : Ev} {S S1 : Sto} {σ : L2.St} {H H1 : Hp} {Q : VK}
theorem PostE.ex {r : RE} (h : PostE G E F ι ω ρ σ H Q r) (e : Ext ι H ι1 H1) : PostE G E F ι1 ω ρ σ H1 Q r := by
  cases r with
  | ok d f S' => exact fun ι' v H' e' r rf => h ι' v H' (e.trans e') r (rf.old e.dom)
  | xc c fs S' => exact fun ι' dd fv H' e' r n1 n2 h1 h2 => h ι' dd fv H' (e.trans e') r n1 n2 h1 h2
  | bad => exact h
theorem SE.bind {ta : TE} {fa : FE} (ha : SE G E ta fa) (r : Rel G F ι ω ρ S σ H) {k : D → Fl → Sto → RE} (h : PostE G E F ι ω ρ σ H Q (bE (fa ρ S) k)) {R : VK}
    (c : ∀ d f S1 ι1 v H1, Ext ι H ι1 H1 → Rel G F ι1 ω ρ S1 σ H1 → RF G.K G.ca ι1 (F.B0 ++ ω) H H1 S1 v d f → PostE G E F ι1 ω ρ σ H1 Q (k d f S1) → R v H1) : ta σ H R := by
  refine ha F ι ω ρ S σ H R r ?_
  cases e : fa ρ S with
  | ok d f S1 =>
    rw [e] at h
    exact fun ι1 v H1 e1 r1 rf => c d f S1 ι1 v H1 e1 r1 rf (PostE.ex h e1)
  | xc c' fs S1 => rw [e] at h; exact h
  | bad => rw [e] at h; exact h
/-- an answer that changes nothing -/
theorem PostE.now {d : D} {v : V} (h : PostE G E F ι ω ρ σ H Q (.ok d .tr S)) (r : Rel G F ι ω ρ S σ H) (rv : RV G.K G.ca ι (F.B0 ++ ω) H v d) : Q v H := h ι v H Ext.refl r rv
theorem Per.add {B : List Addr} {p : Addr} {o : HO} (hp : H p = none) : Per ι B H ι (p :: B) (upd H p o) :=
  ⟨fun a u h1 h2 h3 => ⟨by rw [upd_ne (ne_of_none h1 hp)]; exact h1, h2, fun z => by
    rcases List.mem_cons.mp z with z | z
    · exact ne_of_none h1 hp z
    · exact h3 z⟩, fun _ _ h => h⟩
theorem Per.new {B : List Addr} {p : Addr} {o : HO} (hp : H p = none) : Per ι B H ι B (upd H p o) := (Ext.new1 hp).per
theorem RS.add {K : PySem.W.Frag} {ca : Nat → Addr} {B : List Addr} {p : Addr} {o : HO} (h : RS K ca ι B H S) (hp : H p = none) : RS K ca ι (p :: B) (upd H p o) S :=
  h.per (fun a ha => upd_ne fun z => h.here a ha (by rw [z]; exact hp)) (Per.add hp)
/-- a new list -/
theorem PostE.newL {ds : List D} {xs : List V} (h : PostE G E F ι ω ρ σ H Q (.ok (.lst ds) .fs S)) (r : Rel G F ι ω ρ S σ H) (rv : RAll G.K G.ca ι (F.B0 ++ ω) H xs ds) (p : Addr) (hp : H p = none) : Q (.ref p) (upd H p (.lst xs)) :=
  h ι (.ref p) _ (Ext.new1 hp) (r.new hp) (.l (r.offi hp) (r.offb hp) hp upd_same (rv.per (Per.add hp)) (r.sto.add hp))
theorem PostE.newT {ds : List D} {xs : List V} (h : PostE G E F ι ω ρ σ H Q (.ok (.tup ds) .tr S)) (r : Rel G F ι ω ρ S σ H) (rv : RAll G.K G.ca ι (F.B0 ++ ω) H xs ds) (p : Addr) (hp : H p = none) : Q (.ref p) (upd H p (.tup xs)) :=
  h ι (.ref p) _ (Ext.new1 hp) (r.new hp) (.tup (r.offi hp) (r.offb hp) upd_same (rv.per (Per.new hp)))
end
def lsOf (S : Sto) : D → Option (List D)
  | .lst ds => some ds
  | .cel k => (match S[k]? with | some (.lst ds) => some ds | _ => none)
  | _ => none
def sqOf (S : Sto) : D → Option (List D)
  | .lst ds => some ds
  | .tup ds => some ds
  | .fro _ ds => some ds
  | .cel k => (match S[k]? with | some (.lst ds) => some ds | _ => none)
  | _ => none
section
variable {G : Gm} {E : WX} {F : Fr} {ι ω : List Addr} {ρ : Ev} {S : Sto} {σ : L2.St} {H : Hp} {v : V} {d : D} {ds : List D}
theorem cel_at (r : RS G.K G.ca ι (F.B0 ++ ω) H S) {k : Nat} {a : Addr} (h : ι[k]? = some a) (e : S[k]? = some (.lst ds)) : ∃ xs, H a = some (.lst xs) ∧ RAll G.K G.ca ι (F.B0 ++ ω) H xs ds := by
  cases r.at' k a _ h e with
  | lst h1 h2 => exact ⟨_, h1, h2⟩
theorem ls_at (r : RS G.K G.ca ι (F.B0 ++ ω) H S) (h : RT G.K G.ca ι (F.B0 ++ ω) H v d) (e : lsOf S d = some ds) : ∃ a xs, v = .ref a ∧ H a = some (.lst xs) ∧ RAll G.K G.ca ι (F.B0 ++ ω) H xs ds := by
  unfold lsOf at e
  split at e
  · cases e
    cases h with
    | v h => cases h with | lst h1 h2 h3 h4 => exact ⟨_, _, rfl, h3, h4⟩
    | l h1 h2 h3 => exact ⟨_, _, rfl, h2, h3⟩
  · split at e
    · cases e
      cases h with
      | v h => cases h with
        | cel h1 =>
          obtain ⟨xs, q1, q2⟩ := cel_at r h1 (by assumption)
          exact ⟨_, _, rfl, q1, q2⟩
    · cases e
  · cases e
theorem sq_at (r : RS G.K G.ca ι (F.B0 ++ ω) H S) (h : RT G.K G.ca ι (F.B0 ++ ω) H v d) (e : sqOf S d = some ds) : ∃ a xs, v = .ref a ∧ (SqL G.K H a xs ∨ SqT G.K H a xs) ∧ RAll G.K G.ca ι (F.B0 ++ ω) H xs ds := by
  unfold sqOf at e
  split at e
  · obtain ⟨a, xs, h1, h2, h3⟩ := ls_at r h (show lsOf S (.lst _) = some ds from e)
    exact ⟨a, xs, h1, .inl (.inl (.inl h2)), h3⟩
  · cases e
    cases h with
    | v h => cases h with | tup h1 h2 h3 h4 => exact ⟨_, _, rfl, .inr (.inl (.inl h3)), h4⟩
  · cases e
    cases h with
    | v h => cases h with | fro h1 h2 => exact ⟨_, _, rfl, h1.sq, h2⟩
  · rename_i k
    obtain ⟨a, xs, h1, h2, h3⟩ := ls_at r h (show lsOf S (.cel k) = some ds from e)
    exact ⟨a, xs, h1, .inl (.inl (.inl h2)), h3⟩
  · cases e
end
def fVar (i : Nat) : FE := fun ρ S => match ρ[i]? with
  | some (.val d) => .ok d .tr S
  | some (.own ds) => .ok (.lst ds) .pk S
  | some (.oob c fs) => .ok (.obj c fs) .pk S
  | _ => .bad
def fC (d : D) : FE := fun _ S => .ok d .tr S
section
variable {G : Gm} {E : WX}
theorem se_var (i : Nat) : SE G E (uVar i) (fVar i) := by
  intro F ι ω ρ S σ H Q r h
  unfold fVar at h
  unfold uVar
  cases e : ρ[i]? with
  | none => rw [e] at h; exact h.elim
  | some s =>
    rw [e] at h
    have hi : i < σ.length := by rw [← r.len]; exact (List.getElem?_eq_some_iff.mp e).1
    have q := r.env i s _ e (List.getElem?_eq_getElem hi)
    have e2 : σ[i]? = some σ[i] := List.getElem?_eq_getElem hi
    rw [e2]
    generalize σ[i] = o at q
    cases q with
    | no => exact h.elim
    | val rv => exact PostE.now h r rv
    | own h1 h2 h3 => exact h ι _ H Ext.refl r (.l (r.dj _ h1) h2 h3)
    | oob h1 h0 h2 h3 => exact h ι _ H Ext.refl r (.o (r.dj _ h1) h2 h3)
    | exn => exact h.elim
theorem se_non : SE G E (tC .non) (fC .non) := fun F ι ω ρ S σ H Q r h => PostE.now h r .non
theorem se_bl (b : Bool) : SE G E (tC (.bl b)) (fC (.bl b)) := fun F ι ω ρ S σ H Q r h => PostE.now h r (.bl b)
theorem se_int (i : Int) : SE G E (tC (.int i)) (fC (.int i)) := fun F ι ω ρ S σ H Q r h => PostE.now h r (.int i)
theorem se_str (z : Str) : SE G E (tC (.str z)) (fC (.str z)) := fun F ι ω ρ S σ H Q r h => PostE.now h r (.str z)
end
def lim : Nat := 1000000
theorem lim_le {n : Nat} (h : n ≤ lim) : n ≤ sizeLine := Nat.le_trans h (by decide)
theorem lim_lt {n : Nat} (h : n < lim) : n < sizeLine := Nat.lt_of_lt_of_le h (by decide)
def fOp (f : D → D → Sto → RE) (ea eb : FE) : FE := fun ρ S => bE (ea ρ S) fun d _ S1 => bE (eb ρ S1) fun e _ S2 => f d e S2
def fUn (f : D → Sto → RE) (ea : FE) : FE := fun ρ S => bE (ea ρ S) fun d _ S1 => f d S1
def SR (G : Gm) (E : WX) (r : R2) (f : D → D → Sto → RE) : Prop := ∀ F ι ω ρ S σ H Q x y d e, Rel G F ι ω ρ S σ H → RT G.K G.ca ι (F.B0 ++ ω) H x d → RT G.K G.ca ι (F.B0 ++ ω) H y e → PostE G E F ι ω ρ σ H Q (f d e S) → r x y H Q
section
variable {G : Gm} {E : WX}
theorem se_op {r : R2} {f : D → D → Sto → RE} {ta tb : TE} {fa fb : FE} (hr : SR G E r f) (ha : SE G E ta fa) (hb : SE G E tb fb) : SE G E (tOp r ta tb) (fOp f fa fb) := by
  intro F ι ω ρ S σ H Q rel h
  refine ha.bind rel h fun d fl S1 ι1 v H1 e1 r1 rf1 h1 => ?_
  refine hb.bind r1 h1 fun e fl2 S2 ι2 w H2 e2 r2 rf2 h2 => ?_
  exact hr F ι2 ω ρ S2 σ H2 Q v w d e r2 (rf1.rt.ex e2) rf2.rt h2
end
open Classical in
def dAdd (d e : D) (S : Sto) : RE := match d, e with
  | .int i, .int j => .ok (.int (i + j)) .tr S
  | .str a, .str b => if a.length + b.length ≤ lim then .ok (.str (a ++ b)) .tr S else .bad
  | d, e => (match lsOf S d, lsOf S e with
    | some a, some b => if a.length + b.length ≤ lim then .ok (.lst (a ++ b)) .fs S else .bad
    | _, _ => .bad)
def dSub (d e : D) (S : Sto) : RE := match d, e with
  | .int i, .int j => .ok (.int (i - j)) .tr S
  | _, _ => .bad
open Classical in
def dMul (d e : D) (S : Sto) : RE := match d, e with
  | .int i, .int j => if CMul i j then .ok (.int (i * j)) .tr S else .bad
  | .str z, .int k => if MulOk z k then .ok (.str (Txt.mul z k)) .tr S else .bad
  | d, .int k => (match lsOf S d with
    | some a => if -(2 ^ 63) ≤ k ∧ k < 2 ^ 63 ∧ a.length * k.toNat ≤ lim then .ok (.lst (List.replicate k.toNat a).flatten) .fs S else .bad
    | _ => .bad)
  | _, _ => .bad
open Classical in
def dFdiv (d e : D) (S : Sto) : RE := match d, e with
  | .int i, .int j => if CDiv i j then .ok (.int (i / j)) .tr S else .bad
  | _, _ => .bad
def dMod (d e : D) (S : Sto) : RE := match d, e with
  | .int i, .int j => if 0 < j then .ok (.int (i % j)) .tr S else .bad
  | _, _ => .bad
open Classical in
def dPow (d e : D) (S : Sto) : RE := match d, e with
  | .int i, .int j => if CPow i j then .ok (.int (i ^ j.toNat)) .tr S else .bad
  | _, _ => .bad
def dCmp (p : Int → Int → Bool) (q : List Nat → List Nat → Bool) (d e : D) (S : Sto) : RE := match d, e with
  | .int i, .int j => .ok (.bl (p i j)) .tr S
  | .str i, .str j => .ok (.bl (q (sl i) (sl j))) .tr S
  | _, _ => .bad
abbrev dLt := dCmp (fun i j => decide (i < j)) (fun i j => decide (i < j))
abbrev dLe := dCmp (fun i j => decide (i ≤ j)) (fun i j => !decide (j < i))
abbrev dGt := dCmp (fun i j => decide (j < i)) (fun i j => decide (j < i))
section
variable {G : Gm} {E : WX}
theorem RT.sInt {K : PySem.W.Frag} {ca : Nat → Addr} {ι B : List Addr} {H : Hp} {v : V} {i : Int} (h : RT K ca ι B H v (.int i)) : v = .int i := by cases h with | v h => cases h; rfl
theorem RT.sStr {K : PySem.W.Frag} {ca : Nat → Addr} {ι B : List Addr} {H : Hp} {v : V} {i : Str} (h : RT K ca ι B H v (.str i)) : v = .str i := by cases h with | v h => cases h; rfl
theorem RT.sBl {K : PySem.W.Frag} {ca : Nat → Addr} {ι B : List Addr} {H : Hp} {v : V} {i : Bool} (h : RT K ca ι B H v (.bl i)) : v = .bl i := by cases h with | v h => cases h; rfl
theorem sr_add : SR G E (uAdd G.K) dAdd := by
  intro F ι ω ρ S σ H Q x y d e rel hx hy h
  unfold dAdd at h
  split at h
  · rw [hx.sInt, hy.sInt]; exact PostE.now h rel (.int _)
  · rw [hx.sStr, hy.sStr]
    split at h
    · exact ⟨lim_le (by assumption), PostE.now h rel (.str _)⟩
    · exact h.elim
  · split at h
    · rename_i a b ea eb
      obtain ⟨p, xs, rfl, h1, h2⟩ := ls_at rel.sto hx ea
      obtain ⟨q, ys, rfl, h3, h4⟩ := ls_at rel.sto hy eb
      split at h
      · rename_i hl
        exact ⟨xs, ys, h1, h3, by rw [h2.len, h4.len]; exact lim_le hl, fun p' hp => PostE.newL h rel (h2.app h4) p' hp⟩
      · exact h.elim
    · exact h.elim
theorem sr_sub : SR G E uSub dSub := by
  intro F ι ω ρ S σ H Q x y d e rel hx hy h
  unfold dSub at h
  split at h
  · rw [hx.sInt, hy.sInt]; exact PostE.now h rel (.int _)
  · exact h.elim
theorem rep_all {K : PySem.W.Frag} {ca : Nat → Addr} {ι B : List Addr} {H : Hp} {xs : List V} {ds : List D} (h : RAll K ca ι B H xs ds) : ∀ n : Nat, RAll K ca ι B H (List.replicate n xs).flatten (List.replicate n ds).flatten
  | 0 => .nil
  | n + 1 => by
    rw [List.replicate_succ, List.replicate_succ, List.flatten_cons, List.flatten_cons]
    exact h.app (rep_all h n)
theorem sr_mul : SR G E uMul3 dMul := by
  intro F ι ω ρ S σ H Q x y d e rel hx hy h
  unfold dMul at h
  split at h
  · rw [hx.sInt, hy.sInt]
    split at h
    · exact ⟨by assumption, PostE.now h rel (.int _)⟩
    · exact h.elim
  · rw [hx.sStr, hy.sInt]
    split at h
    · exact ⟨by assumption, PostE.now h rel (.str _)⟩
    · exact h.elim
  · split at h
    · rename_i a ea
      obtain ⟨p, xs, rfl, h1, h2⟩ := ls_at rel.sto hx ea
      rw [hy.sInt]
      split at h
      · rename_i hl
        exact oK_of (mutL_of h1) ⟨hl.1, hl.2.1, by rw [h2.len]; exact lim_le hl.2.2, fun p' hp => PostE.newL h rel (rep_all h2 _) p' hp⟩
      · exact h.elim
    · exact h.elim
  · exact h.elim
theorem sr_fdiv : SR G E uFdiv dFdiv := by
  intro F ι ω ρ S σ H Q x y d e rel hx hy h
  unfold dFdiv at h
  split at h
  · rw [hx.sInt, hy.sInt]
    split at h
    · exact ⟨by assumption, PostE.now h rel (.int _)⟩
    · exact h.elim
  · exact h.elim
theorem sr_mod : SR G E uMod dMod := by
  intro F ι ω ρ S σ H Q x y d e rel hx hy h
  unfold dMod at h
  split at h
  · rw [hx.sInt, hy.sInt]
    split at h
    · exact ⟨by assumption, PostE.now h rel (.int _)⟩
    · exact h.elim
  · exact h.elim
theorem sr_pow : SR G E uPow dPow := by
  intro F ι ω ρ S σ H Q x y d e rel hx hy h
  unfold dPow at h
  split at h
  · rw [hx.sInt, hy.sInt]
    split at h
    · exact ⟨by assumption, PostE.now h rel (.int _)⟩
    · exact h.elim
  · exact h.elim
theorem sr_cmp (p : Int → Int → Bool) (q : List Nat → List Nat → Bool) : SR G E (uCmpI p q) (dCmp p q) := by
  intro F ι ω ρ S σ H Q x y d e rel hx hy h
  unfold dCmp at h
  split at h
  · rw [hx.sInt, hy.sInt]; exact PostE.now h rel (.bl _)
  · rw [hx.sStr, hy.sStr]; exact PostE.now h rel (.bl _)
  · exact h.elim
end
mutual
def tree (c : Nat → Option PyData) : D → Option PyData
  | .non => some .none
  | .bl b => some (.bool b)
  | .int i => some (.int i)
  | .str z => some (.str z)
  | .lst ds => (treeAll c ds).map .list
  | .tup ds => (treeAll c ds).map .tuple
  | .fro _ _ => none
  | .dct [] => some (.dict [])
  | .dct (_ :: _) => none
  | .cel k => c k
  | .obj _ _ => none
  | .cls _ => none
def treeAll (c : Nat → Option PyData) : List D → Option (List PyData)
  | [] => some []
  | d :: ds => (match tree c d, treeAll c ds with | some p, some ps => some (p :: ps) | _, _ => none)
end
def cells : Nat → Sto → Nat → Option PyData
  | 0, _, _ => none
  | n + 1, S, k => (match S[k]? with | some (.lst ds) => (treeAll (cells n S) ds).map .list | _ => none)
def toP (S : Sto) (d : D) : Option PyData := tree (cells 4 S) d
section
variable {K : PySem.W.Frag} {ca : Nat → Addr} {ι B : List Addr} {H : Hp} {c : Nat → Option PyData}
mutual
theorem tree_dq (hc : ∀ k a p, ι[k]? = some a → c k = some p → Dq K H (.ref a) p) : ∀ (d : D) {v : V} {p : PyData}, RV K ca ι B H v d → tree c d = some p → Dq K H v p
  | .non, _, _, h, e => by cases h; simp only [tree] at e; cases e; exact .non
  | .bl _, _, _, h, e => by cases h; simp only [tree] at e; cases e; exact .bl _
  | .int _, _, _, h, e => by cases h; simp only [tree] at e; cases e; exact .int _
  | .str _, _, _, h, e => by cases h; simp only [tree] at e; cases e; exact .str _
  | .lst ds, _, _, h, e => by
    cases h with
    | lst h1 h2 h3 h4 =>
      simp only [tree, Option.map_eq_some_iff] at e
      obtain ⟨ps, e1, rfl⟩ := e
      exact .lst (.inl (.inl h3)) (treeAll_dq hc ds h4 e1)
  | .tup ds, _, _, h, e => by
    cases h with
    | tup h1 h2 h3 h4 =>
      simp only [tree, Option.map_eq_some_iff] at e
      obtain ⟨ps, e1, rfl⟩ := e
      exact .tup (.inl (.inl h3)) (treeAll_dq hc ds h4 e1)
  | .fro _ _, _, _, h, e => by simp only [tree] at e; cases e
  | .dct [], _, _, h, e => by
    cases h with
    | dct h1 h2 h3 h4 =>
      cases h4
      simp only [tree] at e; cases e
      exact .dct h3
  | .dct (_ :: _), _, _, h, e => by simp only [tree] at e; cases e
  | .cel k, _, _, h, e => by
    cases h with
    | cel h1 => simp only [tree] at e; exact hc _ _ _ h1 e
  | .obj _ _, _, _, h, e => by simp only [tree] at e; cases e
  | .cls _, _, _, h, e => by simp only [tree] at e; cases e
theorem treeAll_dq (hc : ∀ k a p, ι[k]? = some a → c k = some p → Dq K H (.ref a) p) : ∀ (ds : List D) {vs : List V} {ps : List PyData}, RAll K ca ι B H vs ds → treeAll c ds = some ps → DqAll K H vs ps
  | [], _, _, h, e => by cases h; simp only [treeAll] at e; cases e; exact .nil
  | d :: ds, _, _, h, e => by
    cases h with
    | cons h1 h2 =>
      simp only [treeAll] at e
      split at e
      · cases e
        exact .cons (tree_dq hc d h1 (by assumption)) (treeAll_dq hc ds h2 (by assumption))
      · cases e
end
theorem cells_dq {S : Sto} (rs : RS K ca ι B H S) : ∀ (n : Nat) (k : Nat) (a : Addr) (p : PyData), ι[k]? = some a → cells n S k = some p → Dq K H (.ref a) p
  | 0, _, _, _, _, e => by unfold cells at e; cases e
  | n + 1, k, a, p, h, e => by
    unfold cells at e
    split at e
    · rename_i ds es
      rw [Option.map_eq_some_iff] at e
      obtain ⟨ps, e1, rfl⟩ := e
      cases rs.at' k a _ h es with
      | lst h1 h2 => exact .lst (.inl (.inl h1)) (treeAll_dq (cells_dq rs n) ds h2 e1)
    · cases e
theorem toP_dq {S : Sto} {v : V} {d : D} {p : PyData} (rs : RS K ca ι B H S) (h : RT K ca ι B H v d) (e : toP S d = some p) : Dq K H v p := by
  unfold toP at e
  cases h with
  | v h => exact tree_dq (cells_dq rs 4) d h e
  | l h1 h2 h3 =>
    simp only [tree, Option.map_eq_some_iff] at e
    obtain ⟨ps, e1, rfl⟩ := e
    exact .lst (.inl (.inl h2)) (treeAll_dq (cells_dq rs 4) _ h3 e1)
  | o => simp only [tree] at e; cases e
end
def scalP : PyData → PyData → Bool
  | .none, .none => true | .none, .int _ => true | .int _, .none => true | .none, .bool _ => true | .bool _, .none => true | .none, .str _ => true | .str _, .none => true
  | .int _, .int _ => true | .bool _, .bool _ => true | .str _, .str _ => true
  | .int _, .str _ => true | .str _, .int _ => true | .bool _, .str _ => true | .str _, .bool _ => true
  | _, _ => false
theorem scal_eqv {K : PySem.W.Frag} {H : Hp} {x y : V} {p q : PyData} (hx : Dq K H x p) (hy : Dq K H y q) (h : scal x y = true) : PyData.eqv p q = decide (x = y) := by
  cases hx <;> cases hy <;> first | (simp [scal] at h; done) | (simp [PyData.eqv]; done) | (simp [PyData.eqv]; rw [Bool.eq_iff_iff]; simp; done)
theorem scalP_scal {K : PySem.W.Frag} {H : Hp} {x y : V} {p q : PyData} (hx : Dq K H x p) (hy : Dq K H y q) : scal x y = scalP p q := by
  cases hx <;> cases hy <;> rfl
/-- == of data -/
def dEqv (neg : Bool) (d e : D) (S : Sto) : RE := match toP S d, toP S e with
  | some p, some q => if (scalP p q || (SeqAt.shaped p && SeqAt.shaped q && !p.hasDict && !q.hasDict)) = true then .ok (.bl (neg ^^ PyData.eqv p q)) .tr S else .bad
  | _, _ => .bad
section
variable {G : Gm} {E : WX}
theorem sr_eq : SR G E (uEq2 G.K) (dEqv false) := by
  intro F ι ω ρ S σ H Q x y d e rel hx hy h
  unfold dEqv at h
  split at h
  · rename_i p q ep eq
    have q1 := toP_dq rel.sto hx ep
    have q2 := toP_dq rel.sto hy eq
    split at h
    · rename_i hc
      unfold uEq2
      cases es : scal x y with
      | true =>
        rw [Bool.false_xor, scal_eqv q1 q2 es] at h
        exact PostE.now h rel (.bl _)
      | false =>
        rw [← scalP_scal q1 q2, es, Bool.false_or] at hc
        simp only [Bool.and_eq_true, Bool.not_eq_true'] at hc
        obtain ⟨⟨⟨h1, h2⟩, h3⟩, h4⟩ := hc
        exact .inl ⟨p, q, q1.dp p h3, q2.dp q h4, h1, h2, by rw [Bool.false_xor] at h; exact PostE.now h rel (.bl _)⟩
    · exact h.elim
  · exact h.elim
theorem sr_ne : SR G E (uNe2 G.K) (dEqv true) := by
  intro F ι ω ρ S σ H Q x y d e rel hx hy h
  unfold dEqv at h
  split at h
  · rename_i p q ep eq
    have q1 := toP_dq rel.sto hx ep
    have q2 := toP_dq rel.sto hy eq
    split at h
    · rename_i hc
      unfold uNe2
      cases es : scal x y with
      | true =>
        rw [Bool.true_xor, scal_eqv q1 q2 es] at h
        exact PostE.now h rel (.bl _)
      | false =>
        rw [← scalP_scal q1 q2, es, Bool.false_or] at hc
        simp only [Bool.and_eq_true, Bool.not_eq_true'] at hc
        obtain ⟨⟨⟨h1, h2⟩, h3⟩, h4⟩ := hc
        exact .inl ⟨p, q, q1.dp p h3, q2.dp q h4, h1, h2, by rw [Bool.true_xor] at h; exact PostE.now h rel (.bl _)⟩
    · exact h.elim
  · exact h.elim
end
end
end Fx
namespace Fx
open PySem PySem.Spec PyProof.Rows L2 U
noncomputable section
inductive RA where
  | ok (ds : List D) (t : Bool) (S : Sto) | xc (c : Nat) (fs : List (Str × D)) (S : Sto) | bad
abbrev FA := Ev → Sto → RA
def RAf (K : PySem.W.Frag) (ca : Nat → Addr) (ι B : List Addr) (H : Hp) (vs : List V) (ds : List D) : Bool → Prop
  | true => RAll K ca ι B H vs ds
  | false => Paired (RT K ca ι B H) vs ds
def PostA (G : Gm) (E : WX) (F : Fr) (ι ω : List Addr) (ρ : Ev) (σ : L2.St) (H : Hp) (Q : List V → Hp → Prop) : RA → Prop
  | .ok ds t S' => ∀ ι' vs H', Ext ι H ι' H' → Rel G F ι' ω ρ S' σ H' → RAf G.K G.ca ι' (F.B0 ++ ω) H' vs ds t → Q vs H'
  | .xc c fs S' => ∀ ι' dd fv H', Ext ι H ι' H' → Rel G F ι' ω ρ S' σ H' → NI dd ι' → NI dd (F.B0 ++ ω) → XD H' dd fv → RFs G.K G.ca ι' (F.B0 ++ ω) H' fv fs → E (.ref (G.ca c)) dd σ H'
  | .bad => False
def SA (G : Gm) (E : WX) (t : TA) (f : FA) : Prop := ∀ F ι ω ρ S σ H Q, Rel G F ι ω ρ S σ H → PostA G E F ι ω ρ σ H Q (f ρ S) → t σ H Q
def Fl.nop : Fl → Bool
  | .pk => false
  | _ => true
def fNil : FA := fun _ S => .ok [] true S
def fCons (fa : FE) (fr : FA) : FA := fun ρ S => match fa ρ S with
  | .ok d f S1 => (match fr ρ S1 with
    | .ok ds t S2 => .ok (d :: ds) (f.nop && t) S2
    | .xc c fs S2 => .xc c fs S2
    | .bad => .bad)
  | .xc c fs S1 => .xc c fs S1
  | .bad => .bad
section
variable {G : Gm} {E : WX} {F : Fr} {ι ω ι1 : List Addr} {ρ : Ev} {S S1 : Sto} {σ : L2.St} {H H1 : Hp} {Q : VK}
theorem PostE.bind {r : RE} {k : D → Fl → Sto → RE} (h : PostE G E F ι ω ρ σ H Q (bE r k)) {R : VK}
    (c : ∀ d f S1 ι1 v H1, Ext ι H ι1 H1 → Rel G F ι1 ω ρ S1 σ H1 → RF G.K G.ca ι1 (F.B0 ++ ω) H H1 S1 v d f → PostE G E F ι1 ω ρ σ H1 Q (k d f S1) → R v H1) : PostE G E F ι ω ρ σ H R r := by
  cases r with
  | ok d f S1 => exact fun ι1 v H1 e1 r1 rf => c d f S1 ι1 v H1 e1 r1 rf (PostE.ex h e1)
  | xc c' fs S1 => exact h
  | bad => exact h
theorem PostA.ex {r : RA} {Q : List V → Hp → Prop} (h : PostA G E F ι ω ρ σ H Q r) (e : Ext ι H ι1 H1) : PostA G E F ι1 ω ρ σ H1 Q r := by
  cases r with
  | ok d f S' => exact fun ι' v H' e' r rf => h ι' v H' (e.trans e') r rf
  | xc c fs S' => exact fun ι' dd fv H' e' r n1 n2 h1 h2 => h ι' dd fv H' (e.trans e') r n1 n2 h1 h2
  | bad => exact h
theorem rall_pair {K : PySem.W.Frag} {ca : Nat → Addr} {ι B : List Addr} {H : Hp} : ∀ {ds : List D} {vs : List V}, RAll K ca ι B H vs ds → Paired (RT K ca ι B H) vs ds
  | [], _, h => by cases h; exact .nil
  | d :: ds, _, h => by
    cases h with
    | cons h1 h2 => exact .cons (.v h1) (rall_pair h2)
theorem RAf.pair {K : PySem.W.Frag} {ca : Nat → Addr} {ι B : List Addr} {H : Hp} {ds : List D} {vs : List V} {t : Bool} (h : RAf K ca ι B H vs ds t) : Paired (RT K ca ι B H) vs ds := by
  cases t with
  | true => exact rall_pair h
  | false => exact h
theorem sa_nil : SA G E tNil fNil := fun F ι ω ρ S σ H Q r h => h ι [] H Ext.refl r .nil
theorem sa_cons {ta : TE} {tr : TA} {fa : FE} {fr : FA} (ha : SE G E ta fa) (hr : SA G E tr fr) : SA G E (tCons ta tr) (fCons fa fr) := by
  intro F ι ω ρ S σ H Q rel h
  refine ha F ι ω ρ S σ H _ rel ?_
  unfold fCons at h
  cases e : fa ρ S with
  | ok d f S1 =>
    rw [e] at h
    intro ι1 v H1 e1 r1 rf
    refine hr F ι1 ω ρ S1 σ H1 _ r1 ?_
    dsimp only at h
    cases e2 : fr ρ S1 with
    | ok ds t S2 =>
      rw [e2] at h
      intro ι2 vs H2 x2 r2 ra
      refine h ι2 (v :: vs) H2 (e1.trans x2) r2 ?_
      cases hf : f.nop && t with
      | true =>
        rw [Bool.and_eq_true] at hf
        obtain ⟨h1, rfl⟩ := hf
        exact .cons ((rf.rv (by intro z; subst z; cases h1)).ex x2) ra
      | false => exact .cons (rf.rt.ex x2) ra.pair
    | xc c fs S2 => rw [e2] at h; exact PostA.ex h e1
    | bad => rw [e2] at h; exact h
  | xc c fs S1 => rw [e] at h; exact h
  | bad => rw [e] at h; exact h
/-- a call of a built-in -/
def fCB (f : List D → Bool → Sto → RE) (fa : FA) : FE := fun ρ S => match fa ρ S with
  | .ok ds t S1 => f ds t S1
  | .xc c fs S1 => .xc c fs S1
  | .bad => .bad
def SC (G : Gm) (E : WX) (r : List V → Hp → VK → Prop) (f : List D → Bool → Sto → RE) : Prop := ∀ F ι ω ρ S σ H Q vs ds t, Rel G F ι ω ρ S σ H → RAf G.K G.ca ι (F.B0 ++ ω) H vs ds t → PostE G E F ι ω ρ σ H Q (f ds t S) → r vs H Q
theorem sa_then {ta : TA} {fa : FA} (ha : SA G E ta fa) (rel : Rel G F ι ω ρ S σ H) {f : List D → Bool → Sto → RE} (h : PostE G E F ι ω ρ σ H Q (fCB f fa ρ S)) {R : List V → Hp → Prop}
    (c : ∀ ds t S1 ι1 vs H1, Ext ι H ι1 H1 → Rel G F ι1 ω ρ S1 σ H1 → RAf G.K G.ca ι1 (F.B0 ++ ω) H1 vs ds t → PostE G E F ι1 ω ρ σ H1 Q (f ds t S1) → R vs H1) : ta σ H R := by
  refine ha F ι ω ρ S σ H R rel ?_
  unfold fCB at h
  cases e : fa ρ S with
  | ok ds t S1 =>
    rw [e] at h
    exact fun ι1 vs H1 e1 r1 ra => c ds t S1 ι1 vs H1 e1 r1 ra (PostE.ex h e1)
  | xc c fs S1 => rw [e] at h; exact h
  | bad => rw [e] at h; exact h
theorem se_cb {r : List V → Hp → VK → Prop} {f : List D → Bool → Sto → RE} {ta : TA} {fa : FA} (hr : SC G E r f) (ha : SA G E ta fa) : SE G E (tCB r ta) (fCB f fa) := by
  intro F ι ω ρ S σ H Q rel h
  exact sa_then ha rel h fun ds t S1 ι1 vs H1 e1 r1 ra h1 => hr F ι1 ω ρ S1 σ H1 Q vs ds t r1 ra h1
def dLst (ds : List D) (t : Bool) (S : Sto) : RE := if (t && decide (ds.length ≤ lim)) = true then .ok (.lst ds) .fs S else .bad
def dTup (ds : List D) (t : Bool) (S : Sto) : RE := if (t && decide (ds.length ≤ lim)) = true then .ok (.tup ds) .tr S else .bad
def fLst (fa : FA) : FE := fCB dLst fa
def fTup (fa : FA) : FE := fCB dTup fa
theorem se_lst {ta : TA} {fa : FA} (ha : SA G E ta fa) : SE G E (tLst ta) (fLst fa) := by
  intro F ι ω ρ S σ H Q rel h
  refine sa_then ha rel h fun ds t S1 ι1 vs H1 e1 r1 ra h1 => ?_
  unfold dLst at h1
  split at h1
  · rename_i hc
    rw [Bool.and_eq_true] at hc
    obtain ⟨rfl, hl⟩ := hc
    exact ⟨by rw [RAll.len ra]; exact lim_le (of_decide_eq_true hl), fun p hp => PostE.newL h1 r1 ra p hp⟩
  · exact h1.elim
theorem se_tup {ta : TA} {fa : FA} (ha : SA G E ta fa) : SE G E (tTup ta) (fTup fa) := by
  intro F ι ω ρ S σ H Q rel h
  refine sa_then ha rel h fun ds t S1 ι1 vs H1 e1 r1 ra h1 => ?_
  unfold dTup at h1
  split at h1
  · rename_i hc
    rw [Bool.and_eq_true] at hc
    obtain ⟨rfl, hl⟩ := hc
    exact ⟨by rw [RAll.len ra]; exact lim_le (of_decide_eq_true hl), fun p hp => PostE.newT h1 r1 ra p hp⟩
  · exact h1.elim
def fDNew : FE := fun _ S => .ok (.dct []) .tr S
theorem se_dnew : SE G E tDNewK fDNew := fun F ι ω ρ S σ H Q rel h p hp => h ι (.ref p) _ (Ext.new1 hp) (rel.new hp) (.dct (rel.offi hp) (rel.offb hp) upd_same .nil)
def flat : D → Option V
  | .non => some .non
  | .bl b => some (.bl b)
  | .int i => some (.int i)
  | .str z => some (.str z)
  | _ => none
def flatAll : List D → Option (List V)
  | [] => some []
  | d :: ds => (match flat d, flatAll ds with | some v, some vs => some (v :: vs) | _, _ => none)
theorem flat_rv {K : PySem.W.Frag} {ca : Nat → Addr} {ι B : List Addr} {H : Hp} {v x : V} {d : D} (h : RV K ca ι B H v d) (e : flat d = some x) : v = x ∧ flatV x = true := by
  cases h <;> first | (cases e; exact ⟨rfl, rfl⟩) | (cases e; done)
theorem flat_rt {K : PySem.W.Frag} {ca : Nat → Addr} {ι B : List Addr} {H : Hp} {v x : V} {d : D} (h : RT K ca ι B H v d) (e : flat d = some x) : v = x ∧ flatV x = true := by
  cases h with
  | v h => exact flat_rv h e
  | l => cases e
  | o => cases e
theorem flat_all {K : PySem.W.Frag} {ca : Nat → Addr} {ι B : List Addr} {H : Hp} : ∀ {ds : List D} {vs xs : List V}, RAll K ca ι B H vs ds → flatAll ds = some xs → vs = xs ∧ xs.all flatV = true
  | [], _, _, h, e => by cases h; simp only [flatAll] at e; cases e; exact ⟨rfl, rfl⟩
  | d :: ds, _, _, h, e => by
    cases h with
    | cons h1 h2 =>
      simp only [flatAll] at e
      split at e
      · cases e
        obtain ⟨rfl, q1⟩ := flat_rv h1 (by assumption)
        obtain ⟨rfl, q2⟩ := flat_all h2 (by assumption)
        exact ⟨rfl, by rw [List.all_cons, q1, q2]; rfl⟩
      · cases e
def dIn (neg : Bool) (d e : D) (S : Sto) : RE := match d, e with
  | .str w, .str z => (match sl w with
    | [c] => .ok (.bl (if neg then !decide (c ∈ sl z) else decide (c ∈ sl z))) .tr S
    | _ => .bad)
  | d, e => (match flat d, sqOf S e with
    | some x, some ds => (match flatAll ds with
      | some vs => .ok (.bl (if neg then !inV x vs else inV x vs)) .tr S
      | none => .bad)
    | _, _ => .bad)
theorem sr_in (neg : Bool) : SR G E (uIn G.K neg) (dIn neg) := by
  intro F ι ω ρ S σ H Q x y d e rel hx hy h
  unfold dIn at h
  split at h
  · rw [hx.sStr, hy.sStr]
    unfold uIn
    split at h
    · rename_i c ec
      have ec' := ec
      dsimp only
      simp only [sl] at ec
      rw [ec]
      exact PostE.now h rel (.bl _)
    · exact h.elim
  · split at h
    · rename_i x' ds e1 e2
      split at h
      · rename_i vs e3
        obtain ⟨rfl, q1⟩ := flat_rt hx e1
        obtain ⟨a, xs, rfl, q2, q3⟩ := sq_at rel.sto hy e2
        obtain ⟨rfl, q4⟩ := flat_all q3 e3
        exact ⟨_, q2, q1, q4, PostE.now h rel (.bl _)⟩
      · exact h.elim
    · exact h.elim
theorem at_rv {K : PySem.W.Frag} {ca : Nat → Addr} {ι B : List Addr} {H : Hp} {vs : List V} {ds : List D} (h : RAll K ca ι B H vs ds) {i : Int} {d : D} (e : atI ds i = some d) : ∃ v, atI vs i = some v ∧ RV K ca ι B H v d := by
  unfold atI at e ⊢
  rw [h.len]
  cases hj : ixN ds.length i with
  | none => rw [hj] at e; cases e
  | some j =>
    rw [hj] at e
    exact h.at j e
def dIx (d e : D) (S : Sto) : RE := match d, e with
  | .str z, .int i => if z.length ≤ lim then (match atI (sl z) i with
    | some c => .ok (.str ⟨#[c]⟩) .tr S
    | none => .bad) else .bad
  | d, .int i => (match sqOf S d with
    | some ds => (match atI ds i with
      | some x => .ok x .tr S
      | none => .bad)
    | none => .bad)
  | _, _ => .bad
theorem sr_ix : SR G E (uIx G.K) dIx := by
  intro F ι ω ρ S σ H Q x y d e rel hx hy h
  unfold dIx at h
  split at h
  · rw [hx.sStr, hy.sInt]
    split at h
    · rename_i hl
      split at h
      · rename_i c ec
        exact ⟨lim_le hl, oK_of ec (PostE.now h rel (.str _))⟩
      · exact h.elim
    · exact h.elim
  · rename_i i _
    rw [hy.sInt]
    split at h
    · rename_i ds e1
      split at h
      · rename_i x' e2
        obtain ⟨a, xs, rfl, q2, q3⟩ := sq_at rel.sto hx e1
        obtain ⟨v, q4, q5⟩ := at_rv q3 e2
        exact ⟨xs, q2, oK_of q4 (PostE.now h rel q5)⟩
      · exact h.elim
    · exact h.elim
  · exact h.elim
inductive RO where
  | ok (o : Option Int) (S : Sto) | xc (c : Nat) (fs : List (Str × D)) (S : Sto) | bad
abbrev FO := Ev → Sto → RO
def PostO (G : Gm) (E : WX) (F : Fr) (ι ω : List Addr) (ρ : Ev) (σ : L2.St) (H : Hp) (Q : Option Int → Hp → Prop) : RO → Prop
  | .ok o S' => ∀ ι' H', Ext ι H ι' H' → Rel G F ι' ω ρ S' σ H' → Q o H'
  | .xc c fs S' => ∀ ι' dd fv H', Ext ι H ι' H' → Rel G F ι' ω ρ S' σ H' → NI dd ι' → NI dd (F.B0 ++ ω) → XD H' dd fv → RFs G.K G.ca ι' (F.B0 ++ ω) H' fv fs → E (.ref (G.ca c)) dd σ H'
  | .bad => False
def SO (G : Gm) (E : WX) (t : TO) (f : FO) : Prop := ∀ F ι ω ρ S σ H Q, Rel G F ι ω ρ S σ H → PostO G E F ι ω ρ σ H Q (f ρ S) → t σ H Q
def fNoPart : FO := fun _ S => .ok none S
def fPart (fe : FE) : FO := fun ρ S => match fe ρ S with
  | .ok (.int i) _ S1 => .ok (some i) S1
  | .ok _ _ _ => .bad
  | .xc c fs S1 => .xc c fs S1
  | .bad => .bad
theorem so_none : SO G E tNoPart fNoPart := fun F ι ω ρ S σ H Q r h => h ι H Ext.refl r
theorem so_some {te : TE} {fe : FE} (he : SE G E te fe) : SO G E (uPart te) (fPart fe) := by
  intro F ι ω ρ S σ H Q r h
  refine he F ι ω ρ S σ H _ r ?_
  unfold fPart at h
  split at h
  · rename_i i f S1 e
    rw [e]
    intro ι1 v H1 e1 r1 rf
    rw [rf.rt.sInt]
    exact h ι1 H1 e1 r1
  · exact h.elim
  · rename_i e; rw [e]; exact h
  · exact h.elim
def cutD (xs : List D) (lo hi : Option Int) : List D := (xs.drop (HT.sIx xs.length 0 lo)).take (HT.sIx xs.length xs.length hi - HT.sIx xs.length 0 lo)
theorem cut_all {K : PySem.W.Frag} {ca : Nat → Addr} {ι B : List Addr} {H : Hp} {vs : List V} {ds : List D} (h : RAll K ca ι B H vs ds) (lo hi : Option Int) : RAll K ca ι B H (cutV vs lo hi) (cutD ds lo hi) := by
  unfold cutV cutD
  rw [h.len]
  exact (h.drop _).take _
def dSl (d : D) (lo hi : Option Int) (S : Sto) : RE := match d with
  | .str z => if z.length ≤ lim then .ok (.str (cutS z lo hi)) .tr S else .bad
  | .tup ds => if HT.sIx ds.length 0 lo = 0 ∧ HT.sIx ds.length ds.length hi = ds.length then .bad else .ok (.tup (cutD ds lo hi)) .tr S
  | d => (match lsOf S d with
    | some ds => .ok (.lst (cutD ds lo hi)) .fs S
    | none => .bad)
def bO (r : RO) (k : Option Int → Sto → RE) : RE := match r with
  | .ok o S => k o S
  | .xc c fs S => .xc c fs S
  | .bad => .bad
def fSl (fe : FE) (lo hi : FO) : FE := fun ρ S => bE (fe ρ S) fun d _ S1 => bO (lo ρ S1) fun l S2 => bO (hi ρ S2) fun u S3 => dSl d l u S3
theorem so_bind {to : TO} {fo : FO} (ho : SO G E to fo) (rel : Rel G F ι ω ρ S σ H) {k : Option Int → Sto → RE} (h : PostE G E F ι ω ρ σ H Q (bO (fo ρ S) k)) {R : Option Int → Hp → Prop}
    (c : ∀ o S1 ι1 H1, Ext ι H ι1 H1 → Rel G F ι1 ω ρ S1 σ H1 → PostE G E F ι1 ω ρ σ H1 Q (k o S1) → R o H1) : to σ H R := by
  refine ho F ι ω ρ S σ H R rel ?_
  cases e : fo ρ S with
  | ok o S1 =>
    rw [e] at h
    exact fun ι1 H1 e1 r1 => c o S1 ι1 H1 e1 r1 (PostE.ex h e1)
  | xc c fs S1 => rw [e] at h; exact h
  | bad => rw [e] at h; exact h
theorem se_sl {te : TE} {fe : FE} {tl th : TO} {fl fh : FO} (he : SE G E te fe) (hl : SO G E tl fl) (hh : SO G E th fh) : SE G E (L2.tSl (uSl G.K) te tl th) (fSl fe fl fh) := by
  intro F ι ω ρ S σ H Q rel h
  refine he.bind rel h fun d f S1 ι1 v H1 e1 r1 rf1 h1 => ?_
  refine so_bind hl r1 h1 fun l S2 ι2 H2 e2 r2 h2 => ?_
  refine so_bind hh r2 h2 fun u S3 ι3 H3 e3 r3 h3 => ?_
  have rt := (rf1.rt.ex e2).ex e3
  unfold dSl at h3
  split at h3
  · rw [rt.sStr]
    split at h3
    · exact ⟨lim_le (by assumption), PostE.now h3 r3 (.str _)⟩
    · exact h3.elim
  · cases rt with
    | v rt =>
      cases rt with
      | @tup a xs ds q1 q2 q3 q4 =>
        split at h3
        · exact h3.elim
        · rename_i hn
          have e1 : rdL G.K H3 a = none := by unfold rdL; rw [q3]
          have e2 : rdT G.K H3 a = some xs := rdT_of q3
          show match rdL G.K H3 a with | some xs => _ | none => _
          rw [e1]
          show match rdT G.K H3 a with | some xs => _ | none => _
          rw [e2]
          exact ⟨by rw [q4.len]; exact hn, fun p hp => PostE.newT h3 r3 (cut_all q4 l u) p hp⟩
  · split at h3
    · rename_i ds ed
      obtain ⟨a, xs, rfl, q1, q2⟩ := ls_at r3.sto rt ed
      show match rdL G.K H3 a with | some xs => _ | none => _
      rw [rdL_of q1]
      exact fun p hp => PostE.newL h3 r3 (cut_all q2 l u) p hp
    · exact h3.elim
def fRev (fe : FE) : FE := fun ρ S => bE (fe ρ S) fun d _ S1 => (match d with
  | .str z => if z.length ≤ lim then .ok (.str (revS z)) .tr S1 else .bad
  | d => (match lsOf S1 d with
    | some ds => .ok (.lst ds.reverse) .fs S1
    | none => .bad))
def tyDf (S : Sto) : D → Option Ty
  | .non => some .non
  | .bl _ => some .bl
  | .int _ => some .int
  | .str _ => some .str
  | .lst _ => some .lst
  | .tup _ => some .tup
  | .dct _ => some .dct
  | .cel k => (match S[k]? with | some (.lst _) => some .lst | some (.dK _) => some .dct | _ => none)
  | _ => none
theorem ty_at {v : V} {d : D} {t : Ty} (rs : RS G.K G.ca ι (F.B0 ++ ω) H S) (h : RT G.K G.ca ι (F.B0 ++ ω) H v d) (e : tyDf S d = some t) : tyOf H v = some t := by
  cases h with
  | v h =>
    cases h with
    | lst h1 h2 h3 h4 => show (H _).bind tyO = _; rw [h3]; exact e
    | tup h1 h2 h3 h4 => show (H _).bind tyO = _; rw [h3]; exact e
    | dct h1 h2 h3 h4 => show (H _).bind tyO = _; rw [h3]; exact e
    | @cel a k h1 =>
      unfold tyDf at e
      dsimp only at e
      split at e
      · rename_i es
        cases rs.at' k a _ h1 es with
        | lst q1 q2 => show (H _).bind tyO = _; rw [q1]; exact e
      · rename_i es
        cases rs.at' k a _ h1 es with
        | dK q1 q2 => show (H _).bind tyO = _; rw [q1]; exact e
      · cases e
    | fro => cases e
    | obj => cases e
    | cls => cases e
    | _ => exact e
  | l h1 h2 h3 => show (H _).bind tyO = _; rw [h2]; exact e
  | o => cases e
def fIsi (c : Ty) (fe : FE) : FE := fun ρ S => bE (fe ρ S) fun d _ S1 => (match tyDf S1 d with
  | some t => .ok (.bl (isT t c)) .tr S1
  | none => .bad)
theorem se_isi (c : Ty) {te : TE} {fe : FE} (he : SE G E te fe) : SE G E (uIsi c te) (fIsi c fe) := by
  intro F ι ω ρ S σ H Q rel h
  refine he.bind rel h fun d f S1 ι1 v H1 e1 r1 rf1 h1 => ?_
  split at h1
  · rename_i t et
    exact oK_of (ty_at r1.sto rf1.rt et) (PostE.now h1 r1 (.bl _))
  · exact h1.elim
def fIsiT (cs : List Ty) (fe : FE) : FE := fun ρ S => bE (fe ρ S) fun d _ S1 => (match tyDf S1 d with
  | some t => .ok (.bl (cs.any (isT t))) .tr S1
  | none => .bad)
theorem se_isiT (cs : List Ty) {te : TE} {fe : FE} {tc : TA} (he : SE G E te fe) (hc : ∀ σ H (R : List V → Hp → Prop), R (cs.map fun c => V.ty c.nm) H → tc σ H R := by intro σ H R h; exact h) (hl : cs.length ≤ 100 := by decide) :
    SE G E (tCB (uIsiT cs) (tCons te (tCons (tTup tc) tNil))) (fIsiT cs fe) := by
  intro F ι ω ρ S σ H Q rel h
  refine he.bind rel h fun d f S1 ι1 v H1 e1 r1 rf1 h1 => ?_
  refine hc σ H1 _ ⟨by rw [List.length_map]; exact szl (by omega), fun p hp => ?_⟩
  split at h1
  · rename_i t et
    have rt := rf1.rt.ex (Ext.new1 (o := .tup (cs.map fun c => V.ty c.nm)) hp)
    refine ⟨upd_same, oK_of (ty_at ((r1.new hp).sto) rt et) ?_⟩
    exact h1 ι1 _ _ (Ext.new1 hp) (r1.new hp) (.bl _)
  · exact h1.elim
end
end
end Fx
namespace Fx
open PySem PySem.Spec PyProof.Rows L2 U
noncomputable section
section
variable {G : Gm} {E : WX} {F : Fr} {ι ω ι1 : List Addr} {ρ : Ev} {S S1 : Sto} {σ : L2.St} {H H1 : Hp} {Q : VK}
theorem pair1 {α β : Type} {P : α → β → Prop} {xs : List α} {y : β} (h : Paired P xs [y]) : ∃ x, xs = [x] ∧ P x y := by
  cases h with
  | cons h1 h2 => cases h2; exact ⟨_, rfl, h1⟩
theorem pair2 {α β : Type} {P : α → β → Prop} {xs : List α} {y z : β} (h : Paired P xs [y, z]) : ∃ x w, xs = [x, w] ∧ P x y ∧ P w z := by
  cases h with
  | cons h1 h2 => obtain ⟨w, rfl, h3⟩ := pair1 h2; exact ⟨_, _, rfl, h1, h3⟩
def dLen (ds : List D) (_ : Bool) (S : Sto) : RE := match ds with
  | [.str z] => if z.length ≤ lim then .ok (.int z.length) .tr S else .bad
  | [d] => (match sqOf S d with
    | some es => .ok (.int es.length) .tr S
    | none => .bad)
  | _ => .bad
theorem sc_len : SC G E (uLen G.K) dLen := by
  intro F ι ω ρ S σ H Q vs ds t rel ha h
  have ha := ha.pair
  unfold dLen at h
  split at h
  · obtain ⟨v, rfl, q⟩ := pair1 ha
    rw [q.sStr]
    split at h
    · exact ⟨lim_le (by assumption), PostE.now h rel (.int _)⟩
    · exact h.elim
  · obtain ⟨v, rfl, q⟩ := pair1 ha
    split at h
    · rename_i es e
      obtain ⟨a, xs, rfl, q1, q2⟩ := sq_at rel.sto q e
      exact ⟨xs, q1, by show Q (.int xs.length) H; rw [q2.len]; exact PostE.now h rel (.int _)⟩
    · exact h.elim
  · exact h.elim
def dMax (ds : List D) (_ : Bool) (S : Sto) : RE := match ds with
  | [.int i, .int j] => .ok (.int (if j > i then j else i)) .tr S
  | _ => .bad
def dMin (ds : List D) (_ : Bool) (S : Sto) : RE := match ds with
  | [.int i, .int j] => .ok (.int (if j < i then j else i)) .tr S
  | _ => .bad
theorem sc_max : SC G E uMax2 dMax := by
  intro F ι ω ρ S σ H Q vs ds t rel ha h
  have ha := ha.pair
  unfold dMax at h
  split at h
  · obtain ⟨v, w, rfl, q1, q2⟩ := pair2 ha
    rw [q1.sInt, q2.sInt]; exact PostE.now h rel (.int _)
  · exact h.elim
theorem sc_min : SC G E uMin2 dMin := by
  intro F ι ω ρ S σ H Q vs ds t rel ha h
  have ha := ha.pair
  unfold dMin at h
  split at h
  · obtain ⟨v, w, rfl, q1, q2⟩ := pair2 ha
    rw [q1.sInt, q2.sInt]; exact PostE.now h rel (.int _)
  · exact h.elim
def bools : List D → Option (List Bool)
  | [] => some []
  | .bl b :: ds => (bools ds).map (b :: ·)
  | _ :: _ => none
theorem bools_rv {K : PySem.W.Frag} {ca : Nat → Addr} {ι B : List Addr} {H : Hp} : ∀ {ds : List D} {vs : List V} {bs : List Bool}, RAll K ca ι B H vs ds → bools ds = some bs → vs = bs.map V.bl
  | [], _, _, h, e => by cases h; simp only [bools] at e; cases e; rfl
  | d :: ds, _, _, h, e => by
    cases h with
    | cons h1 h2 =>
      cases h1 with
      | bl b =>
        simp only [bools, Option.map_eq_some_iff] at e
        obtain ⟨cs, e1, rfl⟩ := e
        rw [bools_rv h2 e1]; rfl
      | _ => simp only [bools] at e; cases e
def dQu (f : List Bool → Bool) (ds : List D) (_ : Bool) (S : Sto) : RE := match ds with
  | [d] => (match lsOf S d with
    | some es => (match bools es with
      | some bs => .ok (.bl (f bs)) .tr S
      | none => .bad)
    | none => .bad)
  | _ => .bad
abbrev dAll := dQu fun bs => bs.all id
theorem sc_all : SC G E (uAll G.K) dAll := by
  intro F ι ω ρ S σ H Q vs ds t rel ha h
  have ha := ha.pair
  unfold dAll dQu at h
  split at h
  · obtain ⟨v, rfl, q⟩ := pair1 ha
    split at h
    · rename_i es e
      split at h
      · rename_i bs eb
        obtain ⟨a, xs, rfl, q1, q2⟩ := ls_at rel.sto q e
        exact oK_of (rdL_of q1) ⟨bs, bools_rv q2 eb, PostE.now h rel (.bl _)⟩
      · exact h.elim
    · exact h.elim
  · exact h.elim
def dList (ds : List D) (_ : Bool) (S : Sto) : RE := match ds with
  | [d] => (match sqOf S d with
    | some es => .ok (.lst es) .fs S
    | none => .bad)
  | _ => .bad
def dTuple (ds : List D) (_ : Bool) (S : Sto) : RE := match ds with
  | [.tup es] => .ok (.tup es) .tr S
  | [d] => (match lsOf S d with
    | some es => .ok (.tup es) .tr S
    | none => .bad)
  | _ => .bad
theorem sc_tuple : SC G E (uTuple G.K) dTuple := by
  intro F ι ω ρ S σ H Q vs ds t rel ha h
  have ha := ha.pair
  unfold dTuple at h
  split at h
  · obtain ⟨v, rfl, q⟩ := pair1 ha
    cases q with
    | v q =>
      have q0 := q
      cases q with
      | @tup a xs es q1 q2 q3 q4 =>
        have e1 : rdL G.K H a = none := by unfold rdL; rw [q3]
        show match rdL G.K H a with | some xs => _ | none => _
        rw [e1]
        show match rdT G.K H a with | some xs => _ | none => _
        rw [rdT_of q3]
        exact PostE.now h rel q0
  · obtain ⟨v, rfl, q⟩ := pair1 ha
    split at h
    · rename_i es e
      obtain ⟨a, xs, rfl, q1, q2⟩ := ls_at rel.sto q e
      show match rdL G.K H a with | some xs => _ | none => _
      rw [rdL_of q1]
      exact fun l hl => PostE.newT h rel q2 l hl
    · exact h.elim
  · exact h.elim
open Classical in
def dRepr (ds : List D) (_ : Bool) (S : Sto) : RE := match ds with
  | [d] => (match toP S d with
    | some p => if Okw p then .ok (.str p.shown) .tr S else .bad
    | none => .bad)
  | _ => .bad
theorem sc_repr : SC G E (uRepr3 G.K) dRepr := by
  intro F ι ω ρ S σ H Q vs ds t rel ha h
  have ha := ha.pair
  unfold dRepr at h
  split at h
  · obtain ⟨v, rfl, q⟩ := pair1 ha
    split at h
    · rename_i p ep
      split at h
      · rename_i ok
        exact ⟨p, toP_dq rel.sto q ep, ok, PostE.now h rel (.str _)⟩
      · exact h.elim
    · exact h.elim
  · exact h.elim
def dInt (ds : List D) (_ : Bool) (S : Sto) : RE := match ds with
  | [.int i] => .ok (.int i) .tr S
  | [.bl k] => .ok (.int (if k then 1 else 0)) .tr S
  | [.str a] => if a.length ≤ 640 then (match PySem.intText? a with
    | some n => .ok (.int n) .tr S
    | none => .bad) else .bad
  | _ => .bad
theorem sc_int : SC G E uInt dInt := by
  intro F ι ω ρ S σ H Q vs ds t rel ha h
  have ha := ha.pair
  unfold dInt at h
  split at h
  · obtain ⟨v, rfl, q⟩ := pair1 ha
    rw [q.sInt]; exact PostE.now h rel (.int _)
  · obtain ⟨v, rfl, q⟩ := pair1 ha
    rw [q.sBl]; exact PostE.now h rel (.int _)
  · obtain ⟨v, rfl, q⟩ := pair1 ha
    rw [q.sStr]
    split at h
    · rename_i hl
      split at h
      · rename_i n en
        exact ⟨hl, oK_of en (PostE.now h rel (.int _))⟩
      · exact h.elim
    · exact h.elim
  · exact h.elim
def zipD : List D → List D → List D
  | x :: xs, y :: ys => .tup [x, y] :: zipD xs ys
  | _, _ => []
def fM1 (f : Str → D → Sto → RE) (fo fe : FE) : FE := fun ρ S => bE (fo ρ S) fun d _ S1 => (match d with
  | .str a => bE (fe ρ S1) fun e _ S2 => f a e S2
  | _ => .bad)
def SM (G : Gm) (E : WX) (r : V → List V → Hp → VK → Prop) (f : Str → D → Sto → RE) : Prop := ∀ F ι ω ρ S σ H Q a y e, Rel G F ι ω ρ S σ H → RT G.K G.ca ι (F.B0 ++ ω) H y e → PostE G E F ι ω ρ σ H Q (f a e S) → r (.str a) [y] H Q
theorem se_m1 {r : V → List V → Hp → VK → Prop} {f : Str → D → Sto → RE} {to te : TE} {fo fe : FE} (hr : SM G E r f) (ho : SE G E to fo) (he : SE G E te fe) : SE G E (tM1 r to te) (fM1 f fo fe) := by
  intro F ι ω ρ S σ H Q rel h
  refine ho.bind rel h fun d f S1 ι1 v H1 e1 r1 rf1 h1 => ?_
  split at h1
  · rename_i a
    rw [rf1.rt.sStr]
    refine ⟨⟨_, rfl⟩, ?_⟩
    refine he.bind r1 h1 fun e f2 S2 ι2 w H2 e2 r2 rf2 h2 => ?_
    exact hr F ι2 ω ρ S2 σ H2 Q a w e r2 rf2.rt h2
  · exact h1.elim
def strsD : List D → Option (List Str)
  | [] => some []
  | .str b :: ds => (strsD ds).map (b :: ·)
  | _ :: _ => none
theorem strs_rv {K : PySem.W.Frag} {ca : Nat → Addr} {ι B : List Addr} {H : Hp} : ∀ {ds : List D} {vs : List V} {bs : List Str}, RAll K ca ι B H vs ds → strsD ds = some bs → vs = bs.map V.str
  | [], _, _, h, e => by cases h; simp only [strsD] at e; cases e; rfl
  | d :: ds, _, _, h, e => by
    cases h with
    | cons h1 h2 =>
      cases h1 with
      | str b =>
        simp only [strsD, Option.map_eq_some_iff] at e
        obtain ⟨cs, e1, rfl⟩ := e
        rw [strs_rv h2 e1]; rfl
      | _ => simp only [strsD] at e; cases e
def dJoin (a : Str) (d : D) (S : Sto) : RE := match sqOf S d with
  | some ds => (match strsD ds with
    | some ys => if (ys.map (·.length)).sum + ys.length * a.length ≤ lim then .ok (.str (Txt.join a ys)) .tr S else .bad
    | none => .bad)
  | none => .bad
theorem sm_join : SM G E (uJoin G.K) dJoin := by
  intro F ι ω ρ S σ H Q a y e rel hy h
  unfold dJoin at h
  split at h
  · rename_i ds ed
    split at h
    · rename_i ys ey
      split at h
      · rename_i hl
        obtain ⟨p, xs, rfl, q1, q2⟩ := sq_at rel.sto hy ed
        exact ⟨xs, q1, ys, strs_rv q2 ey, Nat.le_trans hl (by decide), PostE.now h rel (.str _)⟩
      · exact h.elim
    · exact h.elim
  · exact h.elim
def dFind (a : Str) (d : D) (S : Sto) : RE := match d with
  | .str b => .ok (.int (Txt.find a b)) .tr S
  | _ => .bad
theorem sm_find : SM G E uFind dFind := by
  intro F ι ω ρ S σ H Q a y e rel hy h
  unfold dFind at h
  split at h
  · rw [hy.sStr]; exact PostE.now h rel (.int _)
  · exact h.elim
def fNot (fa : FE) : FE := fun ρ S => bE (fa ρ S) fun d _ S1 => (match d with
  | .bl b => .ok (.bl (!b)) .tr S1
  | _ => .bad)
def fAnd (fa fb : FE) : FE := fun ρ S => bE (fa ρ S) fun d _ S1 => (match d with
  | .bl true => fb ρ S1
  | .bl false => .ok (.bl false) .tr S1
  | _ => .bad)
def fOr (fa fb : FE) : FE := fun ρ S => bE (fa ρ S) fun d _ S1 => (match d with
  | .bl true => .ok (.bl true) .tr S1
  | .bl false => fb ρ S1
  | _ => .bad)
def fIf (fc fa fb : FE) : FE := fun ρ S => bE (fc ρ S) fun d _ S1 => (match d with
  | .bl true => fa ρ S1
  | .bl false => fb ρ S1
  | _ => .bad)
def kB (Q : Bool → Hp → Prop) : VK := fun v H1 => match v with
  | .bl b => Q b H1
  | _ => False
def ST (G : Gm) (E : WX) (t : TT) (f : FE) : Prop := ∀ F ι ω ρ S σ H Q, Rel G F ι ω ρ S σ H → PostE G E F ι ω ρ σ H (kB Q) (f ρ S) → t σ H Q
theorem st_val {t : TE} {f : FE} (h : SE G E t f) : ST G E (uT t) f := fun F ι ω ρ S σ H Q rel hp => h F ι ω ρ S σ H _ rel hp
theorem se_not {ta : TE} {fa : FE} (ha : SE G E ta fa) : SE G E (uNotV ta) (fNot fa) := by
  intro F ι ω ρ S σ H Q rel h
  refine ha.bind rel h fun d f S1 ι1 v H1 e1 r1 rf1 h1 => ?_
  split at h1
  · rw [rf1.rt.sBl]; exact PostE.now h1 r1 (.bl _)
  · exact h1.elim
theorem se_and {ta tb : TE} {fa fb : FE} (ha : SE G E ta fa) (hb : SE G E tb fb) : SE G E (uAndV ta tb) (fAnd fa fb) := by
  intro F ι ω ρ S σ H Q rel h
  refine ha.bind rel h fun d f S1 ι1 v H1 e1 r1 rf1 h1 => ?_
  split at h1
  · rw [rf1.rt.sBl]; exact hb F ι1 ω ρ S1 σ H1 Q r1 h1
  · rw [rf1.rt.sBl]; exact PostE.now h1 r1 (.bl _)
  · exact h1.elim
theorem se_or {ta tb : TE} {fa fb : FE} (ha : SE G E ta fa) (hb : SE G E tb fb) : SE G E (uOrV ta tb) (fOr fa fb) := by
  intro F ι ω ρ S σ H Q rel h
  refine ha.bind rel h fun d f S1 ι1 v H1 e1 r1 rf1 h1 => ?_
  split at h1
  · rw [rf1.rt.sBl]; exact PostE.now h1 r1 (.bl _)
  · rw [rf1.rt.sBl]; exact hb F ι1 ω ρ S1 σ H1 Q r1 h1
  · exact h1.elim
theorem ST.bind {ta : TT} {fa : FE} (ha : ST G E ta fa) (r : Rel G F ι ω ρ S σ H) {k : D → Fl → Sto → RE} (h : PostE G E F ι ω ρ σ H Q (bE (fa ρ S) k)) {R : Bool → Hp → Prop}
    (hk : ∀ d f S1, (∀ b, d ≠ .bl b) → k d f S1 = .bad) (c : ∀ b f S1 ι1 H1, Ext ι H ι1 H1 → Rel G F ι1 ω ρ S1 σ H1 → PostE G E F ι1 ω ρ σ H1 Q (k (.bl b) f S1) → R b H1) : ta σ H R := by
  refine ha F ι ω ρ S σ H R r (PostE.bind h fun d f S1 ι1 v H1 e1 r1 rf1 h1 => ?_)
  cases d with
  | bl b => rw [rf1.rt.sBl]; exact c b f S1 ι1 H1 e1 r1 h1
  | _ => rw [hk _ _ _ (by intro b z; cases z)] at h1; exact h1.elim
theorem st_not {ta : TT} {fa : FE} (ha : ST G E ta fa) : ST G E (uNot ta) (fNot fa) := by
  intro F ι ω ρ S σ H Q rel h
  refine ha.bind rel h (fun d f S1 hd => by cases d <;> first | rfl | exact absurd rfl (hd _)) fun b f S1 ι1 H1 e1 r1 h1 => ?_
  exact PostE.now (Q := kB Q) h1 r1 (.bl _)
theorem st_and {ta tb : TT} {fa fb : FE} (ha : ST G E ta fa) (hb : ST G E tb fb) : ST G E (uAnd ta tb) (fAnd fa fb) := by
  intro F ι ω ρ S σ H Q rel h
  refine ha.bind rel h (fun d f S1 hd => by cases d <;> first | rfl | exact absurd rfl (hd _)) fun b f S1 ι1 H1 e1 r1 h1 => ?_
  cases b with
  | true => exact hb F ι1 ω ρ S1 σ H1 Q r1 h1
  | false => exact PostE.now (Q := kB Q) h1 r1 (.bl _)
theorem st_or {ta tb : TT} {fa fb : FE} (ha : ST G E ta fa) (hb : ST G E tb fb) : ST G E (uOr ta tb) (fOr fa fb) := by
  intro F ι ω ρ S σ H Q rel h
  refine ha.bind rel h (fun d f S1 hd => by cases d <;> first | rfl | exact absurd rfl (hd _)) fun b f S1 ι1 H1 e1 r1 h1 => ?_
  cases b with
  | true => exact PostE.now (Q := kB Q) h1 r1 (.bl _)
  | false => exact hb F ι1 ω ρ S1 σ H1 Q r1 h1
theorem st_yes : ST G E tYes (fC (.bl true)) := fun F ι ω ρ S σ H Q r h => PostE.now (Q := kB Q) h r (.bl true)
theorem se_if {tc : TT} {ta tb : TE} {fc fa fb : FE} (hc : ST G E tc fc) (ha : SE G E ta fa) (hb : SE G E tb fb) : SE G E (uIf tc ta tb) (fIf fc fa fb) := by
  intro F ι ω ρ S σ H Q rel h
  refine hc.bind rel h (fun d f S1 hd => by cases d <;> first | rfl | exact absurd rfl (hd _)) fun b f S1 ι1 H1 e1 r1 h1 => ?_
  cases b with
  | true => exact ha F ι1 ω ρ S1 σ H1 Q r1 h1
  | false => exact hb F ι1 ω ρ S1 σ H1 Q r1 h1
def fChain (f f' : D → D → Sto → RE) (ea eb ec : FE) : FE := fun ρ S => bE (ea ρ S) fun d _ S1 => bE (eb ρ S1) fun e _ S2 => bE (f d e S2) fun z _ S3 => (match z with
  | .bl true => bE (ec ρ S3) fun w _ S4 => f' e w S4
  | .bl false => .ok (.bl false) .tr S3
  | _ => .bad)
theorem se_chain {r r' : R2} {f f' : D → D → Sto → RE} {ta tb tc : TE} {fa fb fc : FE} (hr : SR G E r f) (hr' : SR G E r' f') (ha : SE G E ta fa) (hb : SE G E tb fb) (hc : SE G E tc fc) : SE G E (uChain r r' ta tb tc) (fChain f f' fa fb fc) := by
  intro F ι ω ρ S σ H Q rel h
  refine ha.bind rel h fun d fl S1 ι1 v H1 e1 r1 rf1 h1 => ?_
  refine hb.bind r1 h1 fun e fl2 S2 ι2 w H2 e2 r2 rf2 h2 => ?_
  refine hr F ι2 ω ρ S2 σ H2 _ v w d e r2 (rf1.rt.ex e2) rf2.rt (PostE.bind h2 fun z fl3 S3 ι3 u H3 e3 r3 rf3 h3 => ?_)
  split at h3
  · rw [rf3.rt.sBl]
    refine hc.bind r3 h3 fun w' fl4 S4 ι4 u4 H4 e4 r4 rf4 h4 => ?_
    exact hr' F ι4 ω ρ S4 σ H4 Q w u4 e w' r4 ((rf2.rt.ex e3).ex e4) rf4.rt h4
  · rw [rf3.rt.sBl]; exact PostE.now h3 r3 (.bl _)
  · exact h3.elim
def isNon : D → Bool
  | .non => true
  | _ => false
def dIs (neg : Bool) (d e : D) (S : Sto) : RE := match e with
  | .non => .ok (.bl (if neg then !isNon d else isNon d)) .tr S
  | .bl k => (match d with
    | .bl j => .ok (.bl (if neg then !decide (j = k) else decide (j = k))) .tr S
    | _ => .bad)
  | _ => .bad
def dIsN (neg : Bool) (d e : D) (S : Sto) : RE := match e with
  | .non => .ok (.bl (if neg then !isNon d else isNon d)) .tr S
  | _ => .bad
def dNil (neg : Bool) (d e : D) (S : Sto) : RE := match lsOf S d, lsOf S e with
  | some a, some [] => .ok (.bl (neg ^^ a.isEmpty)) .tr S
  | _, _ => dEqv neg d e S
def dNeg (d : D) (S : Sto) : RE := match d with
  | .int i => .ok (.int (-i)) .tr S
  | _ => .bad
theorem se_neg {ta : TE} {fa : FE} (ha : SE G E ta fa) : SE G E (tUn uNeg ta) (fUn dNeg fa) := by
  intro F ι ω ρ S σ H Q rel h
  refine ha.bind rel h fun d f S1 ι1 v H1 e1 r1 rf1 h1 => ?_
  unfold dNeg at h1
  split at h1
  · rw [rf1.rt.sInt]; exact PostE.now h1 r1 (.int _)
  · exact h1.elim
end
abbrev FF := List D → Sto → RE
def PostF (K : PySem.W.Frag) (ca : Nat → Addr) (ι B : List Addr) (H : Hp) (Q : VK) (E : XK) : RE → Prop
  | .ok d f S' => ∀ ι' v H', Ext ι H ι' H' → ι'.Nodup → RS K ca ι' B H' S' → RF K ca ι' B H H' S' v d f → Q v H'
  | .xc c fs S' => ∀ ι' dd fv H', Ext ι H ι' H' → ι'.Nodup → RS K ca ι' B H' S' → NI dd ι' → NI dd (B) → XD H' dd fv → RFs K ca ι' B H' fv fs → E (.ref (ca c)) dd H'
  | .bad => False
def SpF (K : PySem.W.Frag) (ca : Nat → Addr) (f : FF) : Sp := fun vs H Q E => ∃ ι B S ds, ι.Nodup ∧ (∀ b ∈ B, H b ≠ none ∧ b ∉ ι) ∧ RS K ca ι B H S ∧ RAll K ca ι B H vs ds ∧ PostF K ca ι B H Q E (f ds S)
def fCall (f : FF) (dd : List D) (fa : FA) : FE := fCB (fun ds t S => if t = true then f (ds ++ dd) S else .bad) fa
section
variable {G : Gm} {E : WX} {F : Fr} {ι ω ι1 : List Addr} {ρ : Ev} {S S1 : Sto} {σ : L2.St} {H H1 : Hp} {Q : VK}
theorem spf_of {f : FF} {vs : List V} {ds : List D} {E' : XK} (hE : ∀ cls d H, E cls d σ H → E' cls d H) (rel : Rel G F ι ω ρ S σ H) (ra : RAll G.K G.ca ι (F.B0 ++ ω) H vs ds) (h : PostE G E F ι ω ρ σ H Q (f ds S)) : SpF G.K G.ca f vs H Q E' := by
  refine ⟨ι, F.B0 ++ ω, S, ds, rel.nd, fun b hb => ⟨rel.bd b hb, rel.bi b hb⟩, rel.sto, ra, ?_⟩
  cases e : f ds S with
  | ok d fl S' =>
    rw [e] at h
    exact fun ι' v H' x nd rs rf => h ι' v H' x (rel.ex x nd rs) rf
  | xc c fs S' =>
    rw [e] at h
    exact fun ι' dd fv H' x nd rs n1 n2 h1 h2 => hE _ _ _ (h ι' dd fv H' x (rel.ex x nd rs) n1 n2 h1 h2)
  | bad => rw [e] at h; exact h
/-- scalars by default -/
def vOf : D → V
  | .bl b => .bl b
  | .int i => .int i
  | .str z => .str z
  | _ => .non
def scalD : D → Bool
  | .non => true
  | .bl _ => true
  | .int _ => true
  | .str _ => true
  | _ => false
theorem dflt_all {K : PySem.W.Frag} {ca : Nat → Addr} {ι B : List Addr} {H : Hp} : ∀ {dd : List D}, dd.all scalD = true → RAll K ca ι B H (dd.map vOf) dd
  | [], _ => .nil
  | d :: dd, h => by
    rw [List.all_cons, Bool.and_eq_true] at h
    refine .cons ?_ (dflt_all h.2)
    cases d with
    | non => exact .non
    | bl b => exact .bl b
    | int i => exact .int i
    | str z => exact .str z
    | _ => exact absurd h.1 (by simp [scalD])
theorem se_call {f : FF} {dvs : List V} {dd : List D} {E' : XK} {ta : TA} {fa : FA} (hE : ∀ cls d σ H, E cls d σ H → E' cls d H) (ha : SA G E ta fa) (hd : dvs = dd.map vOf := by rfl) (hs : dd.all scalD = true := by rfl) : SE G E (tCall (SpF G.K G.ca f) dvs E' ta) (fCall f dd fa) := by
  intro F ι ω ρ S σ H Q rel h
  refine sa_then ha rel h fun ds t S1 ι1 vs H1 e1 r1 ra h1 => ?_
  split at h1
  · rename_i ht
    subst ht hd
    exact spf_of (fun cls d H => hE cls d σ H) r1 (RAll.app ra (dflt_all hs)) h1
  · exact h1.elim
theorem se_callS {f : FF} {ta : TA} {fa : FA} (ha : SA G E ta fa) : SE G E (tCallS (SpF G.K G.ca f) (WE E) ta) (fCall f [] fa) := by
  intro F ι ω ρ S σ H Q rel h
  refine sa_then ha rel h fun ds t S1 ι1 vs H1 e1 r1 ra h1 => ?_
  split at h1
  · rename_i ht
    subst ht
    rw [List.append_nil] at h1
    exact spf_of (fun cls d H z => z) r1 ra h1
  · exact h1.elim
end
end
end Fx
namespace Fx
open PySem PySem.Spec PyProof.Rows L2 U
noncomputable section
inductive RSt where
  | nx (ρ : Ev) (S : Sto) | rt (d : D) (f : Fl) (S : Sto) | bk (ρ : Ev) (S : Sto) | ct (ρ : Ev) (S : Sto) | xc (c : Nat) (fs : List (Str × D)) (ρ : Ev) (S : Sto) | bad
abbrev FS := Ev → Sto → RSt
structure ExtS (ι ω : List Addr) (H : Hp) (ι' ω' : List Addr) (H' : Hp) : Prop where
  pre : ι <+: ι'
  keep : ∀ a o, H a = some o → a ∉ ι → a ∉ ω → H' a = some o
  newi : ∀ a ∈ ι', a ∉ ι → H a = none
  neww : ∀ a ∈ ω', a ∉ ω → H a = none
  dom : ∀ a, H a ≠ none → H' a ≠ none
theorem nn {H : Hp} {a : Addr} {o : HO} (h : H a = some o) : H a ≠ none := by rw [h]; simp
theorem none_of {H H1 : Hp} {a : Addr} (d : ∀ a, H a ≠ none → H1 a ≠ none) (h : H1 a = none) : H a = none := by
  cases e : H a with
  | none => rfl
  | some o => exact absurd h (d a (nn e))
section
variable {ι ω ι1 ω1 ι2 ω2 : List Addr} {H H1 H2 : Hp}
theorem ExtS.refl : ExtS ι ω H ι ω H := ⟨List.prefix_rfl, fun _ _ h _ _ => h, fun _ h n => absurd h n, fun _ h n => absurd h n, fun _ h => h⟩
theorem ExtS.trans (a : ExtS ι ω H ι1 ω1 H1) (b : ExtS ι1 ω1 H1 ι2 ω2 H2) : ExtS ι ω H ι2 ω2 H2 := by
  refine ⟨a.pre.trans b.pre, fun x o h n1 n2 => ?_, fun x h n => ?_, fun x h n => ?_, fun x h => b.dom x (a.dom x h)⟩
  · refine b.keep x o (a.keep x o h n1 n2) (fun z => ?_) fun z => ?_
    · have := a.newi x z n1
      rw [h] at this; cases this
    · have := a.neww x z n2
      rw [h] at this; cases this
  · by_cases hx : x ∈ ι1
    · exact a.newi x hx n
    · exact none_of a.dom (b.newi x h hx)
  · by_cases hx : x ∈ ω1
    · exact a.neww x hx n
    · exact none_of a.dom (b.neww x h hx)
theorem Ext.s (e : Ext ι H ι1 H1) : ExtS ι ω H ι1 ω H1 := ⟨e.pre, fun a o h n _ => e.keep a o h n, e.new, fun _ h n => absurd h n, e.dom⟩
theorem ExtS.per {B : List Addr} (e : ExtS ι ω H ι1 ω1 H1) : Per ι (B ++ ω) H ι1 (B ++ ω1) H1 := by
  refine ⟨fun a o h1 h2 h3 => ?_, fun _ _ h => ix_pre e.pre h⟩
  rw [List.mem_append, not_or] at h3
  refine ⟨e.keep a o h1 h2 h3.2, fun z => ?_, fun z => ?_⟩
  · have := e.newi a z h2
    rw [h1] at this; cases this
  · rcases List.mem_append.mp z with z | z
    · exact h3.1 z
    · have := e.neww a z h3.2
      rw [h1] at this; cases this
end
def PostS (G : Gm) (E : WX) (F : Fr) (D : Ends) (ι ω : List Addr) (H : Hp) : RSt → Prop
  | .nx ρ' S' => ∀ ι' ω' σ' H', ExtS ι ω H ι' ω' H' → Rel G F ι' ω' ρ' S' σ' H' → D.nx σ' H'
  | .bk ρ' S' => ∀ ι' ω' σ' H', ExtS ι ω H ι' ω' H' → Rel G F ι' ω' ρ' S' σ' H' → D.bk σ' H'
  | .ct ρ' S' => ∀ ι' ω' σ' H', ExtS ι ω H ι' ω' H' → Rel G F ι' ω' ρ' S' σ' H' → D.ct σ' H'
  | .rt d f S' => ∀ ι' v H', Ext F.i0 F.H0 ι' H' → ι'.Nodup → RS G.K G.ca ι' F.B0 H' S' → RF G.K G.ca ι' F.B0 F.H0 H' S' v d f → D.rt v H'
  | .xc c fs ρ' S' => ∀ ι' ω' σ' dd fv H', ExtS ι ω H ι' ω' H' → Rel G F ι' ω' ρ' S' σ' H' → NI dd ι' → NI dd (F.B0 ++ ω') → XD H' dd fv → RFs G.K G.ca ι' (F.B0 ++ ω') H' fv fs → E (.ref (G.ca c)) dd σ' H'
  | .bad => False
def SS (G : Gm) (E : WX) (t : TS) (f : FS) : Prop := ∀ F D ι ω ρ S σ H, Rel G F ι ω ρ S σ H → PostS G E F D ι ω H (f ρ S) → t D σ H
def bS (r : RSt) (k : Ev → Sto → RSt) : RSt := match r with
  | .nx ρ S => k ρ S
  | r => r
/-- what an expression gives, in a statement -/
def eS (r : RE) (ρ : Ev) (k : D → Fl → Sto → RSt) : RSt := match r with
  | .ok d f S => k d f S
  | .xc c fs S => .xc c fs ρ S
  | .bad => .bad
section
variable {G : Gm} {E : WX} {F : Fr} {D : Ends} {ι ω ι1 ω1 : List Addr} {ρ : Ev} {S S1 : Sto} {σ : L2.St} {H H1 : Hp}
theorem PostS.ex {r : RSt} (h : PostS G E F D ι ω H r) (e : ExtS ι ω H ι1 ω1 H1) : PostS G E F D ι1 ω1 H1 r := by
  cases r with
  | nx ρ' S' => exact fun ι' ω' σ' H' e' rel => h ι' ω' σ' H' (e.trans e') rel
  | bk ρ' S' => exact fun ι' ω' σ' H' e' rel => h ι' ω' σ' H' (e.trans e') rel
  | ct ρ' S' => exact fun ι' ω' σ' H' e' rel => h ι' ω' σ' H' (e.trans e') rel
  | rt d f S' => exact h
  | xc c fs ρ' S' => exact fun ι' ω' σ' dd fv H' e' rel => h ι' ω' σ' dd fv H' (e.trans e') rel
  | bad => exact h
/-- what follows may be wider -/
theorem PostS.mono {D' : Ends} {r : RSt} (h : PostS G E F D ι ω H r) (h1 : ∀ σ H, D.nx σ H → D'.nx σ H) (h2 : ∀ σ H, D.bk σ H → D'.bk σ H) (h3 : ∀ σ H, D.ct σ H → D'.ct σ H) (h4 : ∀ v H, D.rt v H → D'.rt v H) : PostS G E F D' ι ω H r := by
  cases r with
  | nx ρ' S' => exact fun ι' ω' σ' H' e' rel => h1 _ _ (h ι' ω' σ' H' e' rel)
  | bk ρ' S' => exact fun ι' ω' σ' H' e' rel => h2 _ _ (h ι' ω' σ' H' e' rel)
  | ct ρ' S' => exact fun ι' ω' σ' H' e' rel => h3 _ _ (h ι' ω' σ' H' e' rel)
  | rt d f S' => exact fun ι' v H' e nd rs rf => h4 _ _ (h ι' v H' e nd rs rf)
  | xc c fs ρ' S' => exact h
  | bad => exact h
def sSeq (f g : FS) : FS := fun ρ S => bS (f ρ S) g
theorem ss_seq {t u : TS} {f g : FS} (ht : SS G E t f) (hu : SS G E u g) : SS G E (tSeq t u) (sSeq f g) := by
  intro F D ι ω ρ S σ H rel h
  refine ht F _ ι ω ρ S σ H rel ?_
  unfold sSeq at h
  cases e : f ρ S with
  | nx ρ' S' =>
    rw [e] at h
    exact fun ι' ω' σ' H' e' rel' => hu F D ι' ω' ρ' S' σ' H' rel' (PostS.ex h e')
  | bk ρ' S' => rw [e] at h; exact h
  | ct ρ' S' => rw [e] at h; exact h
  | rt d fl S' => rw [e] at h; exact h
  | xc c fs ρ' S' => rw [e] at h; exact h
  | bad => rw [e] at h; exact h
def sNext : FS := fun ρ S => .nx ρ S
def sBreak : FS := fun ρ S => .bk ρ S
def sCont : FS := fun ρ S => .ct ρ S
theorem ss_next : SS G E tNext sNext := fun F D ι ω ρ S σ H rel h => h ι ω σ H ExtS.refl rel
theorem SE.bindS {ta : TE} {fa : FE} (ha : SE G E ta fa) (r : Rel G F ι ω ρ S σ H) {k : Fx.D → Fl → Sto → RSt} (h : PostS G E F D ι ω H (eS (fa ρ S) ρ k)) {R : VK}
    (c : ∀ d f S1 ι1 v H1, Ext ι H ι1 H1 → Rel G F ι1 ω ρ S1 σ H1 → RF G.K G.ca ι1 (F.B0 ++ ω) H H1 S1 v d f → PostS G E F D ι1 ω H1 (k d f S1) → R v H1) : ta σ H R := by
  refine ha F ι ω ρ S σ H R r ?_
  cases e : fa ρ S with
  | ok d f S1 =>
    rw [e] at h
    exact fun ι1 v H1 e1 r1 rf => c d f S1 ι1 v H1 e1 r1 rf (PostS.ex h e1.s)
  | xc c' fs S1 =>
    rw [e] at h
    exact fun ι' dd fv H' x rel' n1 n2 h1 h2 => h ι' ω σ dd fv H' x.s rel' n1 n2 h1 h2
  | bad => rw [e] at h; exact h
theorem ST.bindS {ta : TT} {fa : FE} (ha : ST G E ta fa) (r : Rel G F ι ω ρ S σ H) {k : Fx.D → Fl → Sto → RSt} (h : PostS G E F D ι ω H (eS (fa ρ S) ρ k)) {R : Bool → Hp → Prop} (hk : ∀ d f S1, (∀ b, d ≠ .bl b) → k d f S1 = .bad)
    (c : ∀ b f S1 ι1 H1, Ext ι H ι1 H1 → Rel G F ι1 ω ρ S1 σ H1 → PostS G E F D ι1 ω H1 (k (.bl b) f S1) → R b H1) : ta σ H R := by
  refine ha F ι ω ρ S σ H R r ?_
  cases e : fa ρ S with
  | ok d f S1 =>
    rw [e] at h
    intro ι1 v H1 e1 r1 rf
    cases d with
    | bl b => rw [rf.rt.sBl]; exact c b f S1 ι1 H1 e1 r1 (PostS.ex h e1.s)
    | _ =>
      have h : PostS G E F D ι ω H (k _ f S1) := h
      rw [hk _ _ _ (by intro b z; cases z)] at h
      exact h.elim
  | xc c' fs S1 =>
    rw [e] at h
    exact fun ι' dd fv H' x rel' n1 n2 h1 h2 => h ι' ω σ dd fv H' x.s rel' n1 n2 h1 h2
  | bad => rw [e] at h; exact h
def sExpr (fe : FE) : FS := fun ρ S => eS (fe ρ S) ρ fun _ _ S1 => .nx ρ S1
theorem ss_expr {te : TE} {fe : FE} (he : SE G E te fe) : SS G E (tDrop te) (sExpr fe) := by
  intro F D ι ω ρ S σ H rel h
  exact he.bindS rel h fun d f S1 ι1 v H1 e1 r1 rf h1 => h1 ι1 ω σ H1 ExtS.refl r1
def sIf (fc : FE) (fa fb : FS) : FS := fun ρ S => eS (fc ρ S) ρ fun d _ S1 => (match d with
  | .bl true => fa ρ S1
  | .bl false => fb ρ S1
  | _ => .bad)
theorem ss_if {tc : TT} {ta tb : TS} {fc : FE} {fa fb : FS} (hc : ST G E tc fc) (ha : SS G E ta fa) (hb : SS G E tb fb) : SS G E (uIfS tc ta tb) (sIf fc fa fb) := by
  intro F D ι ω ρ S σ H rel h
  refine hc.bindS rel h (fun d f S1 hd => by cases d <;> first | rfl | exact absurd rfl (hd _)) fun b f S1 ι1 H1 e1 r1 h1 => ?_
  cases b with
  | true => exact ha F D ι1 ω ρ S1 σ H1 r1 h1
  | false => exact hb F D ι1 ω ρ S1 σ H1 r1 h1
theorem Rel.ext0 (r : Rel G F ι ω ρ S σ H) : Ext F.i0 F.H0 ι H := ⟨r.pre, r.old, r.fri, r.dom⟩
theorem RS.less {K : PySem.W.Frag} {ca : Nat → Addr} {B B' : List Addr} (h : RS K ca ι B H S) (s : ∀ a ∈ B', a ∈ B) : RS K ca ι B' H S := h.per (fun _ _ => rfl) (Per.less s)
theorem Rel.offb0 (r : Rel G F ι ω ρ S σ H) {a : Addr} (h : a ∈ ω) : a ∉ F.B0 := fun z => (r.b0 a z).1 (r.frw a h)
theorem rf_out {d : Fx.D} {v : V} {f : Fl} {H0 : Hp} (r : Rel G F ι ω ρ S σ H) (rf : RF G.K G.ca ι (F.B0 ++ ω) H0 H S v d f) (h0 : ∀ a, F.H0 a ≠ none → H0 a ≠ none) (hf : f ≠ .pk) : RF G.K G.ca ι F.B0 F.H0 H S v d f := by
  have s : ∀ a ∈ F.B0, a ∈ F.B0 ++ ω := fun a h => List.mem_append_left _ h
  have s1 : ∀ p, ∀ a ∈ p :: F.B0, a ∈ p :: (F.B0 ++ ω) := fun p a h => by
    rcases List.mem_cons.mp h with h | h
    · subst h; exact List.mem_cons_self
    · exact List.mem_cons_of_mem _ (s a h)
  cases f with
  | pk => exact absurd rfl hf
  | tr => exact RV.per (show RV _ _ _ _ _ _ _ from rf) (Per.less s)
  | fs =>
    have rf : Fs _ _ _ _ _ _ _ _ _ := rf
    cases rf with
    | l h1 h2 h3 h4 h5 h6 => exact .l h1 (fun z => h2 (s _ z)) (none_of h0 h3) h4 (h5.per (Per.less (s1 _))) (h6.less (s1 _))
    | o h1 h2 h3 h4 h5 h6 => exact .o h1 (fun z => h2 (s _ z)) (none_of h0 h3) h4 (h5.per (Per.less (s1 _))) (h6.less (s1 _))
def sRet (fe : FE) : FS := fun ρ S => eS (fe ρ S) ρ fun d f S1 => if f.nop = true then .rt d f S1 else .bad
theorem ss_ret {te : TE} {fe : FE} (he : SE G E te fe) : SS G E (tRet te) (sRet fe) := by
  intro F D ι ω ρ S σ H rel h
  refine he.bindS rel h fun d f S1 ι1 v H1 e1 r1 rf h1 => ?_
  split at h1
  · rename_i hf
    refine h1 ι1 v H1 r1.ext0 r1.nd (r1.sto.less fun a z => List.mem_append_left _ z) (rf_out r1 rf rel.dom (by intro z; subst z; cases hf))
  · exact h1.elim
def sRetN : FS := fun _ S => .rt .non .tr S
/-- a name is returned, a list of one's own too -/
def sRetV (i : Nat) : FS := fun ρ S => match ρ[i]? with
  | some (.val d) => .rt d .tr S
  | some (.own ds) => .rt (.lst ds) .fs S
  | _ => .bad
theorem ss_retV (i : Nat) : SS G E (tRet (uVar i)) (sRetV i) := by
  intro F D ι ω ρ S σ H rel h
  unfold sRetV at h
  show uVar i σ H D.rt
  unfold uVar
  cases e : ρ[i]? with
  | none => rw [e] at h; exact h.elim
  | some s =>
    rw [e] at h
    have hi : i < σ.length := by rw [← rel.len]; exact (List.getElem?_eq_some_iff.mp e).1
    have q := rel.env i s _ e (List.getElem?_eq_getElem hi)
    have e2 : σ[i]? = some σ[i] := List.getElem?_eq_getElem hi
    rw [e2]
    generalize σ[i] = o at q
    have s0 : RS G.K G.ca ι F.B0 H S := rel.sto.less fun a z => List.mem_append_left _ z
    have s1 : ∀ p ∈ ω, ∀ a ∈ p :: F.B0, a ∈ F.B0 ++ ω := fun p hp a h => by
      rcases List.mem_cons.mp h with h | h
      · subst h; exact List.mem_append_right _ hp
      · exact List.mem_append_left _ h
    cases q with
    | no => exact h.elim
    | val rv => exact h ι _ H rel.ext0 rel.nd s0 (rv.per (Per.less fun a z => List.mem_append_left _ z))
    | own h1 h2 h3 => exact h ι _ H rel.ext0 rel.nd s0 (.l (rel.dj _ h1) (rel.offb0 h1) (rel.frw _ h1) h2 (h3.per (Per.less (s1 _ h1))) (rel.sto.less (s1 _ h1)))
    | oob h1 h2 h3 => exact h.elim
    | exn => exact h.elim
theorem Rel.set (r : Rel G F ι ω ρ S σ H) (i : Nat) {v : V} {d : Fx.D} (rv : RV G.K G.ca ι (F.B0 ++ ω) H v d) : Rel G F ι ω (ρ.set i (.val d)) S (σ.set i (some v)) H := by
  refine { r with len := by rw [List.length_set, List.length_set]; exact r.len, env := fun j s o h1 h2 => ?_, own := fun j k a s s' hjk h1 h2 h3 h4 h5 h6 => ?_ }
  · by_cases e : i = j
    · subst e
      have hi : i < ρ.length := by
        have := (List.getElem?_eq_some_iff.mp h1).1
        rwa [List.length_set] at this
      rw [List.getElem?_set_self hi] at h1
      rw [List.getElem?_set_self (by rw [← r.len]; exact hi)] at h2
      cases h1; cases h2
      exact .val rv
    · rw [List.getElem?_set_ne e] at h1 h2
      exact r.env j s o h1 h2
  · by_cases e : i = j
    · subst e
      have hi : i < ρ.length := by
        have := (List.getElem?_eq_some_iff.mp h1).1
        rwa [List.length_set] at this
      rw [List.getElem?_set_self hi] at h1
      cases h1; cases h3
    · by_cases e' : i = k
      · subst e'
        have hi : i < ρ.length := by
          have := (List.getElem?_eq_some_iff.mp h2).1
          rwa [List.length_set] at this
        rw [List.getElem?_set_self hi] at h2
        cases h2; cases h4
      · rw [List.getElem?_set_ne e] at h1 h5
        rw [List.getElem?_set_ne e'] at h2 h6
        exact r.own j k a s s' hjk h1 h2 h3 h4 h5 h6
/-- a slot is forgotten -/
theorem Rel.drop (r : Rel G F ι ω ρ S σ H) (i : Nat) (o : Option V) : Rel G F ι ω (ρ.set i .no) S (σ.set i o) H := by
  refine { r with len := by rw [List.length_set, List.length_set]; exact r.len, env := fun j s o h1 h2 => ?_, own := fun j k a s s' hjk h1 h2 h3 h4 h5 h6 => ?_ }
  · by_cases e : i = j
    · subst e
      have hi : i < ρ.length := by
        have := (List.getElem?_eq_some_iff.mp h1).1
        rwa [List.length_set] at this
      rw [List.getElem?_set_self hi] at h1
      cases h1
      exact .no
    · rw [List.getElem?_set_ne e] at h1 h2
      exact r.env j s o h1 h2
  · by_cases e : i = j
    · subst e
      have hi : i < ρ.length := by
        have := (List.getElem?_eq_some_iff.mp h1).1
        rwa [List.length_set] at this
      rw [List.getElem?_set_self hi] at h1
      cases h1; cases h3
    · by_cases e' : i = k
      · subst e'
        have hi : i < ρ.length := by
          have := (List.getElem?_eq_some_iff.mp h2).1
          rwa [List.length_set] at this
        rw [List.getElem?_set_self hi] at h2
        cases h2; cases h4
      · rw [List.getElem?_set_ne e] at h1 h5
        rw [List.getElem?_set_ne e'] at h2 h6
        exact r.own j k a s s' hjk h1 h2 h3 h4 h5 h6
abbrev FG := Fx.D → Ev → Sto → Option Ev
/-- but for some slots nothing is changed -/
def Wp (js : List Nat) (σ σ' : L2.St) : Prop := ∀ vs : List Nat, (∀ j ∈ js, j ∈ vs) → wipe σ' vs = wipe σ vs
theorem wipe_set : ∀ {vs : List Nat} {i : Nat} {σ : L2.St} {o : Option V}, i ∈ vs → wipe (σ.set i o) vs = wipe σ vs
  | v :: vs, i, σ, o, h => by
    by_cases e : i ∈ vs
    · show (wipe (σ.set i o) vs).set v none = (wipe σ vs).set v none
      rw [wipe_set e]
    · have hv : i = v := by
        rcases List.mem_cons.mp h with z | z
        · exact z
        · exact absurd z e
      subst hv
      have sw : ∀ (us : List Nat), i ∉ us → wipe (σ.set i o) us = (wipe σ us).set i o := by
        intro us
        induction us with
        | nil => intro _; rfl
        | cons u us ih =>
          intro hn
          simp only [List.mem_cons, not_or] at hn
          show (wipe (σ.set i o) us).set u none = ((wipe σ us).set u none).set i o
          rw [ih hn.2, List.set_comm _ _ hn.1]
      show (wipe (σ.set i o) vs).set i none = (wipe σ vs).set i none
      rw [sw vs e, List.set_set]
theorem Wp.name (i : Nat) (σ : L2.St) (o : Option V) : Wp [i] σ (σ.set i o) := fun vs h => wipe_set (h i List.mem_cons_self)
theorem Wp.refl (js : List Nat) (σ : L2.St) : Wp js σ σ := fun _ _ => rfl
theorem Wp.trans {js ks : List Nat} {σ σ1 σ2 : L2.St} (a : Wp js σ σ1) (b : Wp ks σ1 σ2) : Wp (js ++ ks) σ σ2 := fun vs h =>
  (b vs fun j hj => h j (List.mem_append_right _ hj)).trans (a vs fun j hj => h j (List.mem_append_left _ hj))
/-- and what is one's own stays so -/
structure Wq (js : List Nat) (ρ ρ' : Ev) (σ σ' : L2.St) : Prop where
  wp : Wp js σ σ'
  ow : ∀ (i : Nat) (s : Sl), ρ'[i]? = some s → isOwn s = true → ρ[i]? = some s ∧ σ'[i]? = σ[i]?
theorem Wq.trans {js ks : List Nat} {ρ ρ1 ρ2 : Ev} {σ σ1 σ2 : L2.St} (a : Wq js ρ ρ1 σ σ1) (b : Wq ks ρ1 ρ2 σ1 σ2) : Wq (js ++ ks) ρ ρ2 σ σ2 := ⟨a.wp.trans b.wp, fun i s h1 h2 => by
  obtain ⟨q1, q2⟩ := b.ow i s h1 h2
  obtain ⟨q3, q4⟩ := a.ow i s q1 h2
  exact ⟨q3, q2.trans q4⟩⟩
theorem Wq.name (i : Nat) (ρ : Ev) (σ : L2.St) (d : Fx.D) (o : Option V) : Wq [i] ρ (ρ.set i (.val d)) σ (σ.set i o) := ⟨Wp.name i σ o, fun j s h1 h2 => by
  by_cases e : i = j
  · subst e
    have hi : i < ρ.length := by
      have := (List.getElem?_eq_some_iff.mp h1).1
      rwa [List.length_set] at this
    rw [List.getElem?_set_self hi] at h1; cases h1; cases h2
  · rw [List.getElem?_set_ne e] at h1
    exact ⟨h1, List.getElem?_set_ne e⟩⟩
def SG (G : Gm) (g : TG) (js : List Nat) (f : FG) : Prop := ∀ F ι ω ρ S σ H v d Q, Rel G F ι ω ρ S σ H → RV G.K G.ca ι (F.B0 ++ ω) H v d → (match f d ρ S with
  | some ρ' => ∀ σ', Rel G F ι ω ρ' S σ' H → Wq js ρ ρ' σ σ' → Q σ' H
  | none => False) → g v σ H Q
abbrev FGs := List Fx.D → Ev → Sto → Option Ev
def SGs (G : Gm) (g : TGs) (js : List Nat) (f : FGs) : Prop := ∀ F ι ω ρ S σ H vs ds Q, Rel G F ι ω ρ S σ H → RAll G.K G.ca ι (F.B0 ++ ω) H vs ds → (match f ds ρ S with
  | some ρ' => ∀ σ', Rel G F ι ω ρ' S σ' H → Wq js ρ ρ' σ σ' → Q σ' H
  | none => False) → g vs σ H Q
def gN (i : Nat) : FG := fun d ρ _ => some (ρ.set i (.val d))
theorem sg_name (i : Nat) : SG G (gName i) [i] (gN i) := fun F ι ω ρ S σ H v d Q rel rv h => h _ (rel.set i rv) (Wq.name i ρ σ d _)
def gsNil : FGs := fun ds ρ _ => match ds with
  | [] => some ρ
  | _ => none
def gsCons (f : FG) (g : FGs) : FGs := fun ds ρ S => match ds with
  | d :: ds => (match f d ρ S with
    | some ρ1 => g ds ρ1 S
    | none => none)
  | [] => none
theorem sgs_nil : SGs G gNil [] gsNil := by
  intro F ι ω ρ S σ H vs ds Q rel ra h
  cases ds with
  | nil => cases ra; exact ⟨rfl, h σ rel ⟨Wp.refl _ _, fun i s h1 h2 => ⟨h1, rfl⟩⟩⟩
  | cons => exact h.elim
theorem sgs_cons {g : TG} {gs : TGs} {js ks : List Nat} {f : FG} {fs : FGs} (hg : SG G g js f) (hs : SGs G gs ks fs) : SGs G (gCons g gs) (js ++ ks) (gsCons f fs) := by
  intro F ι ω ρ S σ H vs ds Q rel ra h
  cases ds with
  | nil => exact h.elim
  | cons d ds =>
    cases ra with
    | cons r1 r2 =>
      refine ⟨_, _, rfl, hg F ι ω ρ S σ H _ d _ rel r1 ?_⟩
      unfold gsCons at h
      dsimp only at h
      cases e : f d ρ S with
      | none => rw [e] at h; exact h.elim
      | some ρ1 =>
        rw [e] at h
        intro σ' rel' w1
        refine hs F ι ω ρ1 S σ' H _ ds Q rel' r2 ?_
        dsimp only at h
        cases e2 : fs ds ρ1 S with
        | none => rw [e2] at h; exact h.elim
        | some ρ2 =>
          rw [e2] at h
          exact fun σ2 rel2 w2 => h σ2 rel2 (w1.trans w2)
def gT (n : Nat) (fs : FGs) : FG := fun d ρ S => match sqOf S d with
  | some ds => if ds.length = n then fs ds ρ S else none
  | none => none
theorem sg_ts {n : Nat} {gs : TGs} {js : List Nat} {fs : FGs} (hs : SGs G gs js fs) : SG G (gTs G.K n gs) js (gT n fs) := by
  intro F ι ω ρ S σ H v d Q rel rv h
  unfold gT at h
  cases e : sqOf S d with
  | none => rw [e] at h; exact h.elim
  | some ds =>
    rw [e] at h
    obtain ⟨a, xs, rfl, q1, q2⟩ := sq_at rel.sto (.v rv) e
    dsimp only at h
    by_cases hn : ds.length = n
    · rw [if_pos hn] at h
      exact ⟨xs, q1.symm, by rw [q2.len]; exact hn, hs F ι ω ρ S σ H xs ds Q rel q2 h⟩
    · rw [if_neg hn] at h; exact h.elim
def sAsg (fe : FE) (g : FG) : FS := fun ρ S => eS (fe ρ S) ρ fun d f S1 => if f.nop = true then (match g d ρ S1 with
  | some ρ' => .nx ρ' S1
  | none => .bad) else .bad
theorem ss_asg {te : TE} {fe : FE} {g : TG} {fg : FG} {js : List Nat} (he : SE G E te fe) (hg : SG G g js fg) : SS G E (tAsg te g) (sAsg fe fg) := by
  intro F D ι ω ρ S σ H rel h
  refine he.bindS rel h fun d f S1 ι1 v H1 e1 r1 rf h1 => ?_
  split at h1
  · rename_i hf
    refine hg F ι1 ω ρ S1 σ H1 v d _ r1 (rf.rv (by intro z; subst z; cases hf)) ?_
    split at h1
    · rename_i ρ' eg
      exact fun σ' rel' _ => h1 ι1 ω σ' H1 ExtS.refl rel'
    · exact h1.elim
  · exact h1.elim
def sPar (i j : Nat) (fa : FA) : FS := fun ρ S => match fa ρ S with
  | .ok [d, e] true S1 => .nx ((ρ.set i (.val d)).set j (.val e)) S1
  | .xc c fs S1 => .xc c fs ρ S1
  | _ => .bad
def sAug (i : Nat) (f : Int → Int → Int) (fe : FE) : FS := fun ρ S => match ρ[i]? with
  | some (.val (.int x)) => eS (fe ρ S) ρ fun d _ S1 => (match d with
    | .int y => .nx (ρ.set i (.val (.int (f x y)))) S1
    | _ => .bad)
  | _ => .bad
theorem slot_val (rel : Rel G F ι ω ρ S σ H) {i : Nat} {d : Fx.D} (e : ρ[i]? = some (.val d)) : ∃ v, σ[i]? = some (some v) ∧ RV G.K G.ca ι (F.B0 ++ ω) H v d := by
  have hi : i < σ.length := by rw [← rel.len]; exact (List.getElem?_eq_some_iff.mp e).1
  have q := rel.env i _ _ e (List.getElem?_eq_getElem hi)
  have e2 : σ[i]? = some σ[i] := List.getElem?_eq_getElem hi
  rw [e2]
  generalize σ[i] = o at q
  cases q with
  | val rv => exact ⟨_, rfl, rv⟩
theorem Rel.own' (r : Rel G F ι ω ρ S σ H) {H1 : Hp} {ι1 : List Addr} {S1 : Sto} (e : Ext ι H ι1 H1) (r1 : Rel G F ι1 ω ρ S1 σ H1) (i : Nat) {a : Addr} {s : Sl} (hs : RSl G ι1 (F.B0 ++ (a :: ω)) (a :: ω) H1 s (some (.ref a))) (h0 : H a = none) (hi : a ∉ ι1) (hd : H1 a ≠ none)
    (hS : RS G.K G.ca ι1 (F.B0 ++ (a :: ω)) H1 S1) : Rel G F ι1 (a :: ω) (ρ.set i s) S1 (σ.set i (some (.ref a))) H1 := by
  have pp : Per ι (F.B0 ++ ω) H ι1 (F.B0 ++ (a :: ω)) H1 := ⟨fun b o h1 h2 h3 => by
    rw [List.mem_append, not_or] at h3
    refine ⟨e.keep b o h1 h2, e.off h1 h2, fun z => ?_⟩
    rcases List.mem_append.mp z with z | z
    · exact h3.1 z
    · rcases List.mem_cons.mp z with z | z
      · subst z; rw [h0] at h1; cases h1
      · exact h3.2 z, fun _ _ h => ix_pre e.pre h⟩
  have up : ∀ s o, RSl G ι (F.B0 ++ ω) ω H s o → RSl G ι1 (F.B0 ++ (a :: ω)) (a :: ω) H1 s o := fun s o h => by
    cases h with
    | no => exact .no
    | val h => exact .val (h.per pp)
    | own h1 h2 h3 => exact .own (List.mem_cons_of_mem _ h1) (e.keep _ _ h2 (r.dj _ h1)) (h3.per pp)
    | oob h1 h0 h2 h3 => exact .oob (List.mem_cons_of_mem _ h1) h0 (e.keep _ _ h2 (r.dj _ h1)) (h3.per pp)
    | exn h1 h2 h3 h4 h5 =>
      obtain ⟨q1, q2, q3⟩ := h4.per h2 h3 pp
      exact .exn h1 q2 q3 q1 (h5.per pp)
  have noa : ∀ (j : Nat) (s : Sl), ρ[j]? = some s → isOwn s = true → σ[j]? = some (some (.ref a)) → False := fun j s h1 h2 h3 => by
    cases r.env j s _ h1 h3 with
    | no => cases h2
    | val => cases h2
    | own q1 q2 q3 => rw [h0] at q2; cases q2
    | oob q1 q0 q2 q3 => rw [h0] at q2; cases q2
    | exn => cases h2
  refine ⟨r1.pre, r1.old, r1.dom, r1.fri, fun b hb => ?_, r1.b0, r1.nd, fun b hb => ?_, fun b hb => ?_, hS, by rw [List.length_set, List.length_set]; exact r.len, fun j s' o h1 h2 => ?_, fun j k b s1 s2 hjk h1 h2 h3 h4 h5 h6 => ?_⟩
  · rcases List.mem_cons.mp hb with z | z
    · subst z; exact none_of r.dom h0
    · exact r1.frw b z
  · rcases List.mem_cons.mp hb with z | z
    · subst z; exact hi
    · exact r1.dj b z
  · rcases List.mem_cons.mp hb with z | z
    · subst z; exact hd
    · exact r1.dw b z
  · by_cases e : i = j
    · subst e
      have hi : i < ρ.length := by
        have := (List.getElem?_eq_some_iff.mp h1).1
        rwa [List.length_set] at this
      rw [List.getElem?_set_self hi] at h1
      rw [List.getElem?_set_self (by rw [← r.len]; exact hi)] at h2
      cases h1; cases h2
      exact hs
    · rw [List.getElem?_set_ne e] at h1 h2
      exact up _ _ (r.env j s' o h1 h2)
  · by_cases e : i = j
    · subst e
      have hi : i < ρ.length := by
        have := (List.getElem?_eq_some_iff.mp h1).1
        rwa [List.length_set] at this
      rw [List.getElem?_set_self (by rw [← r.len]; exact hi)] at h5
      cases h5
      rw [List.getElem?_set_ne hjk] at h2 h6
      exact noa k s2 h2 h4 h6
    · by_cases e' : i = k
      · subst e'
        have hi : i < ρ.length := by
          have := (List.getElem?_eq_some_iff.mp h2).1
          rwa [List.length_set] at this
        rw [List.getElem?_set_self (by rw [← r.len]; exact hi)] at h6
        cases h6
        rw [List.getElem?_set_ne e] at h1 h5
        exact noa j s1 h1 h3 h5
      · rw [List.getElem?_set_ne e] at h1 h5
        rw [List.getElem?_set_ne e'] at h2 h6
        exact r.own j k b s1 s2 hjk h1 h2 h3 h4 h5 h6
def sOwn (i : Nat) (fe : FE) : FS := fun ρ S => eS (fe ρ S) ρ fun d f S1 => (match d, f with
  | .lst ds, .fs => .nx (ρ.set i (.own ds)) S1
  | _, _ => .bad)
theorem mid {a : Addr} {B ω : List Addr} : ∀ x ∈ B ++ (a :: ω), x ∈ a :: (B ++ ω) := fun x h => by
  simp only [List.mem_append, List.mem_cons] at h ⊢
  rcases h with h | h | h
  · exact .inr (.inl h)
  · exact .inl h
  · exact .inr (.inr h)
theorem ss_own {i : Nat} {te : TE} {fe : FE} (he : SE G E te fe) : SS G E (tAsg te (gName i)) (sOwn i fe) := by
  intro F D ι ω ρ S σ H rel h
  refine he F ι ω ρ S σ H _ rel ?_
  unfold sOwn at h
  cases e : fe ρ S with
  | ok d f S1 =>
    rw [e] at h
    dsimp only [eS] at h
    intro ι1 v H1 e1 r1 rf
    split at h
    · have rf : Fs _ _ _ _ _ _ _ _ _ := rf
      cases rf with
      | l h1 h2 h3 h4 h5 h6 =>
        refine h ι1 (_ :: ω) _ H1 ⟨e1.pre, fun a o q n _ => e1.keep a o q n, e1.new, fun a q n => ?_, e1.dom⟩ (rel.own' e1 r1 i (.own List.mem_cons_self h4 (h5.per (Per.less mid))) h3 h1 (nn h4) (h6.less mid))
        rcases List.mem_cons.mp q with z | z
        · subst z; exact h3
        · exact absurd z n
    · exact h.elim
  | xc c' fs S1 =>
    rw [e] at h
    exact fun ι' dd fv H' x rel' n1 n2 h1 h2 => h ι' ω σ dd fv H' x.s rel' n1 n2 h1 h2
  | bad => rw [e] at h; exact h.elim
end
end
end Fx
namespace Fx
open PySem PySem.Spec PyProof.Rows L2 U
noncomputable section
section
variable {G : Gm} {E : WX} {F : Fr} {Dd : Ends} {ι ω ι1 ω1 : List Addr} {ρ : Ev} {S S1 : Sto} {σ : L2.St} {H H1 : Hp}
theorem slot_own (rel : Rel G F ι ω ρ S σ H) {i : Nat} {ds : List D} (e : ρ[i]? = some (.own ds)) : ∃ a xs, σ[i]? = some (some (.ref a)) ∧ a ∈ ω ∧ H a = some (.lst xs) ∧ RAll G.K G.ca ι (F.B0 ++ ω) H xs ds := by
  have hi : i < σ.length := by rw [← rel.len]; exact (List.getElem?_eq_some_iff.mp e).1
  have q := rel.env i _ _ e (List.getElem?_eq_getElem hi)
  have e2 : σ[i]? = some σ[i] := List.getElem?_eq_getElem hi
  rw [e2]
  generalize σ[i] = o at q
  cases q with
  | own h1 h2 h3 => exact ⟨_, _, rfl, h1, h2, h3⟩
theorem Per.upd {B : List Addr} {a : Addr} {o : HO} (h : a ∈ ι ∨ a ∈ B) : Per ι B H ι B (upd H a o) :=
  ⟨fun b u h1 h2 h3 => ⟨by rw [upd_ne (fun z => by subst z; exact h.elim h2 h3)]; exact h1, h2, h3⟩, fun _ _ z => z⟩
/-- what lies at an address of one's own is changed, the slot with it -/
theorem Rel.mut (r : Rel G F ι ω ρ S σ H) {i : Nat} {a : Addr} {s s' : Sl} {o : HO} (e : ρ[i]? = some s) (hs : isOwn s = true) (ea : σ[i]? = some (some (.ref a))) (ha : a ∈ ω) (hs' : RSl G ι (F.B0 ++ ω) ω (upd H a o) s' (some (.ref a))) (io : isOwn s' = true) :
    Rel G F ι ω (ρ.set i s') S σ (upd H a o) := by
  have pp : Per ι (F.B0 ++ ω) H ι (F.B0 ++ ω) (L2.upd H a o) := Per.upd (.inr (List.mem_append_right _ ha))
  have hi : i < ρ.length := (List.getElem?_eq_some_iff.mp e).1
  refine ⟨r.pre, fun b u h n => ?_, fun b h => ?_, r.fri, r.frw, r.b0, r.nd, r.dj, fun b hb => ?_, r.sto.per (fun b hb => upd_ne fun z => r.dj a ha (by rw [← z]; exact hb)) pp, by rw [List.length_set]; exact r.len, fun j t o' h1 h2 => ?_, fun j k b s1 s2 hjk h1 h2 h3 h4 h5 h6 => ?_⟩
  · rw [upd_ne (fun z => by subst z; rw [r.frw _ ha] at h; cases h)]; exact r.old b u h n
  · unfold L2.upd; split
    · simp
    · exact r.dom b h
  · unfold L2.upd; split
    · simp
    · exact r.dw b hb
  · by_cases e' : i = j
    · subst e'
      rw [List.getElem?_set_self hi] at h1
      rw [ea] at h2
      cases h1; cases h2
      exact hs'
    · rw [List.getElem?_set_ne e'] at h1
      have q := r.env j t o' h1 h2
      have ne : isOwn t = true → ∀ b, o' = some (.ref b) → b ≠ a := fun ht b hb z => by
        subst z; subst hb
        exact r.own i j _ s t e' e h1 hs ht ea h2
      cases q with
      | no => exact .no
      | val h => exact .val (h.per pp)
      | own q1 q2 q3 => exact .own q1 (by rw [upd_ne (ne rfl _ rfl)]; exact q2) (q3.per pp)
      | oob q1 q0 q2 q3 => exact .oob q1 q0 (by rw [upd_ne (ne rfl _ rfl)]; exact q2) (q3.per pp)
      | exn q1 q2 q3 q4 q5 =>
        obtain ⟨g1, g2, g3⟩ := q4.per q2 q3 pp
        exact .exn q1 g2 g3 g1 (q5.per pp)
  · have go : ∀ (j : Nat) (t : Sl), (ρ.set i s')[j]? = some t → isOwn t = true → ∃ t', ρ[j]? = some t' ∧ isOwn t' = true := fun j t h1 h2 => by
      by_cases e' : i = j
      · subst e'; exact ⟨s, e, hs⟩
      · rw [List.getElem?_set_ne e'] at h1; exact ⟨t, h1, h2⟩
    obtain ⟨t1, q1, q2⟩ := go j s1 h1 h3
    obtain ⟨t2, q3, q4⟩ := go k s2 h2 h4
    exact r.own j k b t1 t2 hjk q1 q3 q2 q4 h5 h6
theorem ExtS.mut {a : Addr} {o : HO} (ha : a ∈ ω) : ExtS ι ω H ι ω (upd H a o) :=
  ⟨List.prefix_rfl, fun b u h _ n => by rw [upd_ne (fun z => by subst z; exact n ha)]; exact h, fun _ h n => absurd h n, fun _ h n => absurd h n, fun b h => by
    unfold L2.upd; split
    · simp
    · exact h⟩
theorem Rel.mutL (r : Rel G F ι ω ρ S σ H) {i : Nat} {a : Addr} {ds ds' : List D} {xs' : List V} (e : ρ[i]? = some (.own ds)) (ea : σ[i]? = some (some (.ref a))) (ha : a ∈ ω) (ra : RAll G.K G.ca ι (F.B0 ++ ω) H xs' ds') : Rel G F ι ω (ρ.set i (.own ds')) S σ (upd H a (.lst xs')) :=
  r.mut e rfl ea ha (.own ha upd_same (ra.per (Per.upd (.inr (List.mem_append_right _ ha))))) rfl
theorem RS.set {K : PySem.W.Frag} {ca : Nat → Addr} {B : List Addr} {k : Nat} {a : Addr} {o : HO} {c : Ce} (r : RS K ca ι B H S) (nd : ι.Nodup) (e : ι[k]? = some a) (hc : RC K ca ι B (upd H a o) a c) : RS K ca ι B (upd H a o) (S.set k c) := by
  have ha : a ∈ ι := List.mem_of_getElem? e
  have pp : Per ι B H ι B (L2.upd H a o) := Per.upd (.inl ha)
  refine ⟨by rw [List.length_set]; exact r.len, fun j b c' h1 h2 => ?_⟩
  by_cases ej : k = j
  · subst ej
    rw [e] at h1; cases h1
    have hk : k < S.length := by rw [← r.len]; exact (List.getElem?_eq_some_iff.mp e).1
    rw [List.getElem?_set_self hk] at h2; cases h2
    exact hc
  · rw [List.getElem?_set_ne ej] at h2
    refine (r.at' j b c' h1 h2).per (upd_ne fun z => ej ?_) pp
    subst z
    obtain ⟨l1, e1⟩ := List.getElem?_eq_some_iff.mp e
    obtain ⟨l2, e2⟩ := List.getElem?_eq_some_iff.mp h1
    have pw := List.pairwise_iff_getElem.mp nd
    rcases Nat.lt_trichotomy k j with z | z | z
    · exact absurd (e1.trans e2.symm) (pw k j l1 l2 z)
    · exact z
    · exact absurd (e2.trans e1.symm) (pw j k l2 l1 z)
theorem Ext.cel {a : Addr} {o : HO} (ha : a ∈ ι) : Ext ι H ι (upd H a o) :=
  ⟨List.prefix_rfl, fun b u h n => by rw [upd_ne (fun z => by subst z; exact n ha)]; exact h, fun _ h n => absurd h n, fun b h => by
    unfold L2.upd; split
    · simp
    · exact h⟩
theorem Rel.cel (r : Rel G F ι ω ρ S σ H) {k : Nat} {a : Addr} {ds' : List D} {xs' : List V} (e : ι[k]? = some a) (ra : RAll G.K G.ca ι (F.B0 ++ ω) H xs' ds') : Rel G F ι ω ρ (S.set k (.lst ds')) σ (upd H a (.lst xs')) := by
  have ha : a ∈ ι := List.mem_of_getElem? e
  exact r.ex (Ext.cel ha) r.nd (r.sto.set r.nd e (.lst upd_same (ra.per (Per.upd (.inl ha)))))
/-- the list in slot i becomes ds' -/
def putL (i : Nat) (ρ : Ev) (S : Sto) (f : List D → Option (List D)) : RSt := match ρ[i]? with
  | some (.own ds) => (match f ds with
    | some es => .nx (ρ.set i (.own es)) S
    | none => .bad)
  | some (.val (.cel k)) => (match S[k]? with
    | some (.lst ds) => (match f ds with
      | some es => .nx ρ (S.set k (.lst es))
      | none => .bad)
    | _ => .bad)
  | _ => .bad
/-- the list in slot i, and how it may be changed -/
theorem put_ok {i : Nat} {f : List D → Option (List D)} (rel : Rel G F ι ω ρ S σ H) (h : PostS G E F Dd ι ω H (putL i ρ S f)) : ∃ a xs ds es, σ[i]? = some (some (.ref a)) ∧ H a = some (.lst xs) ∧ RAll G.K G.ca ι (F.B0 ++ ω) H xs ds ∧ f ds = some es ∧
    ∀ ys, RAll G.K G.ca ι (F.B0 ++ ω) H ys es → Dd.nx σ (upd H a (.lst ys)) := by
  unfold putL at h
  split at h
  · rename_i ds e
    obtain ⟨a, xs, e1, ha, e2, ra⟩ := slot_own rel e
    split at h
    · rename_i es ef
      exact ⟨a, xs, ds, es, e1, e2, ra, ef, fun ys ry => h ι ω σ _ (ExtS.mut ha) (rel.mutL e e1 ha ry)⟩
    · exact h.elim
  · rename_i k e
    obtain ⟨v, e1, rv⟩ := slot_val rel e
    cases rv with
    | @cel a k hk =>
      split at h
      · rename_i ds es
        obtain ⟨xs, e2, ra⟩ := cel_at rel.sto hk es
        split at h
        · rename_i es' ef
          exact ⟨a, xs, ds, es', e1, e2, ra, ef, fun ys ry => h ι ω σ _ (Ext.cel (List.mem_of_getElem? hk)).s (rel.cel hk ry)⟩
        · exact h.elim
      · exact h.elim
  · exact h.elim
def sApp (i : Nat) (fe : FE) : FS := fun ρ S => eS (fe ρ S) ρ fun d f S1 => if f.nop = true then putL i ρ S1 (fun ds => if ds.length < lim then some (ds ++ [d]) else none) else .bad
/-- slot i holds a list -/
def hasL (i : Nat) (ρ : Ev) (S : Sto) : Bool := match ρ[i]? with
  | some (.own _) => true
  | some (.val (.cel k)) => (match S[k]? with | some (.lst _) => true | _ => false)
  | _ => false
theorem has_ok {i : Nat} (rel : Rel G F ι ω ρ S σ H) (h : hasL i ρ S = true) : ∃ a xs, σ[i]? = some (some (.ref a)) ∧ H a = some (.lst xs) := by
  unfold hasL at h
  split at h
  · rename_i ds e
    obtain ⟨a, xs, e1, ha, e2, ra⟩ := slot_own rel e
    exact ⟨a, xs, e1, e2⟩
  · rename_i k e
    obtain ⟨v, e1, rv⟩ := slot_val rel e
    cases rv with
    | @cel a k hk =>
      split at h
      · rename_i ds es
        obtain ⟨xs, e2, ra⟩ := cel_at rel.sto hk es
        exact ⟨a, xs, e1, e2⟩
      · cases h
  · cases h
/-- ahead of a change the slot is looked at -/
def chk (i : Nat) (f : FS) : FS := fun ρ S => if hasL i ρ S = true then f ρ S else .bad
theorem ss_app {i : Nat} {te : TE} {fe : FE} (he : SE G E te fe) : SS G E (tDrop (tBM G.K "list" uAppend (uVar i) (tCons te tNil))) (chk i (sApp i fe)) := by
  intro F D ι ω ρ S σ H rel h
  unfold chk at h
  split at h
  · rename_i hh
    obtain ⟨a, xs, e1, e2⟩ := has_ok rel hh
    show uVar i σ H fun x H1 => tyV G.K "list" x H1 ∧ tCons te tNil σ H1 fun xs H2 => uAppend x xs H2 fun _ H3 => D.nx σ H3
    unfold uVar
    rw [e1]
    refine ⟨.inl ⟨rfl, xs, .inl (.inl e2)⟩, ?_⟩
    refine he.bindS rel h fun d f S1 ι1 v H1 x1 r1 rf h1 => ?_
    split at h1
    · rename_i hf
      obtain ⟨a', xs', ds, es, q1, q2, q3, q4, q5⟩ := put_ok r1 h1
      rw [e1] at q1; cases q1
      split at q4
      · rename_i hl
        cases q4
        exact oK_of (mutL_of q2) ⟨by rw [q3.len]; exact lim_lt hl, q5 _ (q3.app (.cons (rf.rv (by intro z; subst z; cases hf)) .nil))⟩
      · cases q4
    · exact h1.elim
  · exact h.elim
def sSetI (i : Nat) (fi fe : FE) : FS := fun ρ S => eS (fe ρ S) ρ fun d f S1 => if f.nop = true then (if hasL i ρ S1 = true then eS (fi ρ S1) ρ fun e _ S2 => (match e with
  | .int k => putL i ρ S2 (fun ds => (ixN ds.length k).map fun j => ds.set j d)
  | _ => .bad) else .bad) else .bad
theorem ss_setI {i : Nat} {te ti : TE} {fe fi : FE} (he : SE G E te fe) (hi : SE G E ti fi) : SS G E (tAsg te (gSub (uVar i) ti uSetL)) (sSetI i fi fe) := by
  intro F D ι ω ρ S σ H rel h
  refine he.bindS rel h fun d f S1 ι1 v H1 x1 r1 rf h1 => ?_
  split at h1
  · rename_i hf
    split at h1
    · rename_i hh
      obtain ⟨a, xs, e1, e2⟩ := has_ok r1 hh
      show uVar i σ H1 _
      unfold uVar
      rw [e1]
      refine hi.bindS r1 h1 fun e f2 S2 ι2 w H2 x2 r2 rf2 h2 => ?_
      split at h2
      · rename_i k
        rw [rf2.rt.sInt]
        obtain ⟨a', xs', ds, es, q1, q2, q3, q4, q5⟩ := put_ok r2 h2
        rw [e1] at q1; cases q1
        rw [Option.map_eq_some_iff] at q4
        obtain ⟨j, q6, rfl⟩ := q4
        exact oK_of (mutL_of q2) (oK_of (by rw [q3.len]; exact q6) (q5 _ (q3.set j ((rf.rv (by intro z; subst z; cases hf)).ex x2))))
      · exact h2.elim
    · exact h1.elim
  · exact h1.elim
def frz (i : Nat) (ρ : Ev) : Ev := match ρ[i]? with
  | some (.own ds) => ρ.set i (.val (.lst ds))
  | _ => ρ
def sFrz (i : Nat) (f : FS) : FS := fun ρ S => f (frz i ρ) S
theorem Rel.less (r : Rel G F ι ω ρ S σ H) {i : Nat} {a : Addr} {s : Sl} {d : D} (e : ρ[i]? = some s) (hs : isOwn s = true) (ea : σ[i]? = some (some (.ref a))) (rv : RV G.K G.ca ι (F.B0 ++ ω.filter (· ≠ a)) H (.ref a) d) :
    Rel G F ι (ω.filter (· ≠ a)) (ρ.set i (.val d)) S σ H := by
  have sub : ∀ b ∈ ω.filter (· ≠ a), b ∈ ω := fun b hb => (List.mem_filter.mp hb).1
  have subB : ∀ b ∈ F.B0 ++ ω.filter (· ≠ a), b ∈ F.B0 ++ ω := fun b hb => by
    rcases List.mem_append.mp hb with z | z
    · exact List.mem_append_left _ z
    · exact List.mem_append_right _ (sub b z)
  have pp : Per ι (F.B0 ++ ω) H ι (F.B0 ++ ω.filter (· ≠ a)) H := Per.less subB
  have hi : i < ρ.length := (List.getElem?_eq_some_iff.mp e).1
  refine ⟨r.pre, r.old, r.dom, r.fri, fun b hb => r.frw b (sub b hb), r.b0, r.nd, fun b hb => r.dj b (sub b hb), fun b hb => r.dw b (sub b hb), r.sto.less subB, by rw [List.length_set]; exact r.len, fun j t o' h1 h2 => ?_, fun j k b s1 s2 hjk h1 h2 h3 h4 h5 h6 => ?_⟩
  · by_cases e' : i = j
    · subst e'
      rw [List.getElem?_set_self hi] at h1
      rw [ea] at h2
      cases h1; cases h2
      exact .val rv
    · rw [List.getElem?_set_ne e'] at h1
      have q := r.env j t o' h1 h2
      have ne : isOwn t = true → ∀ b, o' = some (.ref b) → b ≠ a := fun ht b hb z => by
        subst z; subst hb
        exact r.own i j _ s t e' e h1 hs ht ea h2
      cases q with
      | no => exact .no
      | val h => exact .val (h.per pp)
      | own q1 q2 q3 => exact .own (List.mem_filter.mpr ⟨q1, by simpa using ne rfl _ rfl⟩) q2 (q3.per pp)
      | oob q1 q0 q2 q3 => exact .oob (List.mem_filter.mpr ⟨q1, by simpa using ne rfl _ rfl⟩) q0 q2 (q3.per pp)
      | exn q1 q2 q3 q4 q5 => exact .exn q1 q2 (q3.less subB) q4 (q5.per pp)
  · have go : ∀ (j : Nat) (t : Sl), (ρ.set i (.val d))[j]? = some t → isOwn t = true → ρ[j]? = some t := fun j t h1 h2 => by
      by_cases e' : i = j
      · subst e'
        rw [List.getElem?_set_self hi] at h1; cases h1; cases h2
      · rw [List.getElem?_set_ne e'] at h1; exact h1
    exact r.own j k b s1 s2 hjk (go j s1 h1 h3) (go k s2 h2 h4) h3 h4 h5 h6
theorem frz_rel (r : Rel G F ι ω ρ S σ H) (i : Nat) : ∃ ω', Rel G F ι ω' (frz i ρ) S σ H ∧ ∀ a ∈ ω', a ∈ ω := by
  unfold frz
  split
  · rename_i ds e
    obtain ⟨a, xs, e1, ha, e2, ra⟩ := slot_own r e
    have subB : ∀ b ∈ F.B0 ++ ω.filter (· ≠ a), b ∈ F.B0 ++ ω := fun b hb => by
      rcases List.mem_append.mp hb with z | z
      · exact List.mem_append_left _ z
      · exact List.mem_append_right _ (List.mem_filter.mp z).1
    refine ⟨_, r.less e rfl e1 (.lst (r.dj a ha) (fun z => ?_) e2 (ra.per (Per.less subB))), fun b hb => (List.mem_filter.mp hb).1⟩
    rcases List.mem_append.mp z with z | z
    · exact r.offb0 ha z
    · exact (by simpa using (List.mem_filter.mp z).2)
  · exact ⟨ω, r, fun _ h => h⟩
theorem ss_frz {t : TS} {f : FS} (i : Nat) (h : SS G E t f) : SS G E t (sFrz i f) := by
  intro F D ι ω ρ S σ H rel hp
  obtain ⟨ω', r', sub⟩ := frz_rel rel i
  refine h F D ι ω' (frz i ρ) S σ H r' ?_
  have hp : PostS G E F D ι ω H (f (frz i ρ) S) := hp
  exact PostS.ex hp ⟨List.prefix_rfl, fun _ _ q _ _ => q, fun _ q n => absurd q n, fun a q n => absurd (sub a q) n, fun _ q => q⟩
def fAdo (fe : FE) : FE := fun ρ S => bE (fe ρ S) fun d f S1 => (match d, f with
  | .lst ds, .fs => .ok (.cel S1.length) .tr (S1 ++ [.lst ds])
  | .lst _, _ => .bad
  | d, f => .ok d f S1)
theorem rs_grow {K : PySem.W.Frag} {ca : Nat → Addr} {B : List Addr} {a : Addr} {c : Ce} (r : RS K ca ι (a :: B) H S) (hc : RC K ca (ι ++ [a]) B H a c) : RS K ca (ι ++ [a]) B H (S ++ [c]) := by
  have pp : Per ι (a :: B) H (ι ++ [a]) B H := ⟨fun b o h1 h2 h3 => by
    simp only [List.mem_cons, not_or] at h3
    exact ⟨h1, by simp only [List.mem_append, List.mem_singleton, not_or]; exact ⟨h2, h3.1⟩, h3.2⟩, fun k b h => by
      rw [List.getElem?_append_left (List.getElem?_eq_some_iff.mp h).1]; exact h⟩
  refine ⟨by rw [List.length_append, List.length_append, r.len]; rfl, fun k b c' h1 h2 => ?_⟩
  by_cases hk : k < ι.length
  · rw [List.getElem?_append_left hk] at h1
    rw [List.getElem?_append_left (by rw [← r.len]; exact hk)] at h2
    exact (r.at' k b c' h1 h2).per rfl pp
  · rw [List.getElem?_append_right (by omega)] at h1
    rw [List.getElem?_append_right (by rw [← r.len]; omega)] at h2
    have e0 : k - ι.length = 0 := by
      by_cases z : k - ι.length = 0
      · exact z
      · rw [List.getElem?_eq_none (by simp; omega)] at h1; cases h1
    rw [e0] at h1
    rw [show k - S.length = 0 by rw [← r.len]; exact e0] at h2
    cases h1; cases h2
    exact hc
theorem se_ado {te : TE} {fe : FE} (he : SE G E te fe) : SE G E te (fAdo fe) := by
  intro F ι ω ρ S σ H Q rel h
  refine he F ι ω ρ S σ H Q rel ?_
  unfold fAdo at h
  cases e : fe ρ S with
  | ok d f S1 =>
    rw [e] at h
    dsimp only [bE] at h
    split at h
    · intro ι1 v H1 e1 r1 rf
      have rf : Fs _ _ _ _ _ _ _ _ _ := rf
      cases rf with
      | @l a xs ds h1 h2 h3 h4 h5 h6 =>
        have pp : Per ι1 (a :: (F.B0 ++ ω)) H1 (ι1 ++ [a]) (F.B0 ++ ω) H1 := ⟨fun b o h1 h2 h3 => by
          simp only [List.mem_cons, not_or] at h3
          exact ⟨h1, by simp only [List.mem_append, List.mem_singleton, not_or]; exact ⟨h2, h3.1⟩, h3.2⟩, fun k b h => by
            rw [List.getElem?_append_left (List.getElem?_eq_some_iff.mp h).1]; exact h⟩
        have x2 : Ext ι H (ι1 ++ [a]) H1 := ⟨e1.pre.trans (List.prefix_append _ _), e1.keep, fun b hb n => by
          rcases List.mem_append.mp hb with z | z
          · exact e1.new b z n
          · rw [List.mem_singleton.mp z]; exact h3, e1.dom⟩
        refine h (ι1 ++ [a]) (.ref a) H1 x2 (rel.ex x2 ?_ (rs_grow h6 (.lst h4 (h5.per pp)))) (.cel ?_)
        · rw [List.nodup_append]
          refine ⟨r1.nd, by simp, fun b hb c hc => ?_⟩
          rw [List.mem_singleton.mp hc]
          intro z; subst z; exact h1 hb
        · rw [List.getElem?_append_right (by rw [h6.len]; exact Nat.le_refl _), h6.len]; simp
    · exact h.elim
    · exact h
  | xc c' fs S1 => rw [e] at h; exact h
  | bad => rw [e] at h; exact h
def sRaise (c : Nat) (f : Str) (fa : FA) : FS := fun ρ S => match fa ρ S with
  | .ok [d] true S1 => .xc c [(f, d)] ρ S1
  | .xc c' fs S1 => .xc c' fs ρ S1
  | _ => .bad
theorem ss_raise {c : Nat} {f : Str} {E' : XK} {ta : TA} {fa : FA} (hE : ∀ cls d σ H, E cls d σ H → E' cls d H) (ha : SA G E ta fa) : SS G E (uRaise (G.ca c) f E' ta) (sRaise c f fa) := by
  intro F D ι ω ρ S σ H rel h
  show uMk (G.ca c) f ta σ H E'
  unfold uMk
  refine ha F ι ω ρ S σ H _ rel ?_
  unfold sRaise at h
  split at h
  · rename_i d S1 ea
    rw [ea]
    intro ι1 vs H1 e1 r1 ra
    cases ra with
    | cons q1 q2 =>
      cases q2
      intro dd hd
      refine hE _ _ _ _ (h ι1 ω σ (some dd) [(f, _)] _ ((e1.trans (Ext.new1 hd)).s) (r1.new hd) (fun a z => by cases z; exact r1.offi hd) (fun a z => by cases z; exact r1.offb hd) upd_same (.cons (q1.per (Per.new hd)) .nil))
  · rename_i c' fs S1 ea
    rw [ea]
    exact fun ι' dd fv H' x rel' n1 n2 h1 h2 => h ι' ω σ dd fv H' x.s rel' n1 n2 h1 h2
  · exact h.elim
def sRaise0 (c : Nat) : FS := fun ρ S => .xc c [] ρ S
def isExn : Sl → Bool
  | .exn _ _ => true
  | _ => false
def noExn (ρ : Ev) : Bool := ρ.all fun s => !isExn s
theorem Rel.gm {G' : Gm} (r : Rel G F ι ω ρ S σ H) (hn : noExn ρ = true) (hK : G'.K = G.K) (hc : G'.ca = G.ca) (hm : G'.me = G.me) : Rel G' F ι ω ρ S σ H := by
  obtain ⟨K, ca, x, me⟩ := G
  obtain ⟨K', ca', x', me'⟩ := G'
  cases hK; cases hc; cases hm
  refine ⟨r.pre, r.old, r.dom, r.fri, r.frw, r.b0, r.nd, r.dj, r.dw, r.sto, r.len, fun i s o h1 h2 => ?_, r.own⟩
  have q := r.env i s o h1 h2
  have ns := List.all_eq_true.mp hn s (List.mem_of_getElem? h1)
  cases q with
  | no => exact .no
  | val h => exact .val h
  | own q1 q2 q3 => exact .own q1 q2 q3
  | oob q1 q0 q2 q3 => exact .oob q1 q0 q2 q3
  | exn => cases ns
/-- the clauses -/
def hand (em : Nat → Nat → Option Bool) (c : Nat) (fs : List (Str × D)) (ρ : Ev) (S : Sto) : List (Nat × Option Nat × FS) → RSt
  | [] => .xc c fs ρ S
  | (h, some i, f) :: l => (match em c h with
    | some true => if noExn ρ = true then (match f (ρ.set i (.exn c fs)) S with
      | .nx ρ' S' => if noExn (ρ'.set i .no) = true then .nx (ρ'.set i .no) S' else .bad
      | .bk ρ' S' => if noExn (ρ'.set i .no) = true then .bk (ρ'.set i .no) S' else .bad
      | .ct ρ' S' => if noExn (ρ'.set i .no) = true then .ct (ρ'.set i .no) S' else .bad
      | .rt d fl S' => .rt d fl S'
      | _ => .bad) else .bad
    | some false => hand em c fs ρ S l
    | none => .bad)
  | (h, none, f) :: l => (match em c h with
    | some true => (match f ρ S with
      | .nx ρ' S' => .nx ρ' S'
      | .bk ρ' S' => .bk ρ' S'
      | .ct ρ' S' => .ct ρ' S'
      | .rt d fl S' => .rt d fl S'
      | _ => .bad)
    | some false => hand em c fs ρ S l
    | none => .bad)
def sTry (em : Nat → Nat → Option Bool) (fb : FS) (l : List (Nat × Option Nat × FS)) : FS := fun ρ S => match fb ρ S with
  | .xc c fs ρ' S' => hand em c fs ρ' S' l
  | r => r
inductive ClS (G : Gm) : List Cl → List (Nat × Option Nat × FS) → Prop
  | nil : ClS G [] []
  | cons {k : Cl} {h i : Nat} {f : FS} {l : List Cl} {m : List (Nat × Option Nat × FS)} : k.c = .ref (G.ca h) → k.i = some i → (∀ (a : Addr) (dd : Option Addr) (c : Nat), SS ⟨G.K, G.ca, some (a, dd, c), G.me⟩ (fun _ _ _ _ => False) (k.ts a (.ref (G.ca c)) dd) f) → ClS G l m → ClS G (k :: l) ((h, some i, f) :: m)
  | only {k : Cl} {h : Nat} {f : FS} {l : List Cl} {m : List (Nat × Option Nat × FS)} : k.c = .ref (G.ca h) → k.i = none → (∀ (a : Addr) (dd : Option Addr) (c : Nat), SS G (fun _ _ _ _ => False) (k.ts a (.ref (G.ca c)) dd) f) → ClS G l m → ClS G (k :: l) ((h, none, f) :: m)
theorem Rel.exn {a : Addr} {dd : Option Addr} {c i : Nat} {fv : List (Str × V)} {fs : List (Str × D)} (r : Rel G F ι ω ρ S σ H) (hn : noExn ρ = true) (n1 : NI dd ι) (n2 : NI dd (F.B0 ++ ω)) (h1 : XD H dd fv) (h2 : RFs G.K G.ca ι (F.B0 ++ ω) H fv fs) :
    Rel ⟨G.K, G.ca, some (a, dd, c), G.me⟩ F ι ω (ρ.set i (.exn c fs)) S (σ.set i (some (.ref a))) H := by
  have r' : Rel ⟨G.K, G.ca, some (a, dd, c), G.me⟩ F ι ω ρ S σ H := r.gm hn rfl rfl rfl
  refine { r' with len := by rw [List.length_set, List.length_set]; exact r.len, env := fun j s o q1 q2 => ?_, own := fun j k b s s' hjk q1 q2 q3 q4 q5 q6 => ?_ }
  · by_cases e : i = j
    · subst e
      have hi : i < ρ.length := by
        have := (List.getElem?_eq_some_iff.mp q1).1
        rwa [List.length_set] at this
      rw [List.getElem?_set_self hi] at q1
      rw [List.getElem?_set_self (by rw [← r.len]; exact hi)] at q2
      cases q1; cases q2
      exact .exn rfl n1 n2 h1 h2
    · rw [List.getElem?_set_ne e] at q1 q2
      exact r'.env j s o q1 q2
  · by_cases e : i = j
    · subst e
      have hi : i < ρ.length := by
        have := (List.getElem?_eq_some_iff.mp q1).1
        rwa [List.length_set] at this
      rw [List.getElem?_set_self hi] at q1
      cases q1; cases q3
    · by_cases e' : i = k
      · subst e'
        have hi : i < ρ.length := by
          have := (List.getElem?_eq_some_iff.mp q2).1
          rwa [List.length_set] at this
        rw [List.getElem?_set_self hi] at q2
        cases q2; cases q4
      · rw [List.getElem?_set_ne e] at q1 q5
        rw [List.getElem?_set_ne e'] at q2 q6
        exact r.own j k b s s' hjk q1 q2 q3 q4 q5 q6
theorem hand_ok {em : Nat → Nat → Option Bool} (hem : ∀ c h b, em c h = some b → PySem.W.exmOne G.K (.ref (G.ca c)) (.ref (G.ca h)) = some b) {c : Nat} {fs : List (Str × D)} {W0 : WX} {dd : Option Addr} {fv : List (Str × V)}
    (rel : Rel G F ι ω ρ S σ H) (n1 : NI dd ι) (n2 : NI dd (F.B0 ++ ω)) (h1 : XD H dd fv) (h2 : RFs G.K G.ca ι (F.B0 ++ ω) H fv fs) :
    ∀ {l : List Cl} {m : List (Nat × Option Nat × FS)}, ClS G l m → PostS G W0 F Dd ι ω H (hand em c fs ρ S m) → clW G.K W0 Dd l (.ref (G.ca c)) dd σ H := by
  intro l m hc
  induction hc with
  | nil => exact fun h => h ι ω σ dd fv H ExtS.refl rel n1 n2 h1 h2
  | @cons k h i f l m e1 e2 hs hl ih =>
    intro hp
    unfold hand at hp
    split at hp
    · rename_i ee
      unfold clW
      rw [e1]
      refine oK_of (hem _ _ _ ee) ?_
      show ∀ a, H a = none → _
      intro a ha
      rw [e2]
      show k.ts a _ dd (gone i Dd) _ H
      split at hp
      · rename_i hn
        have r2 := rel.exn (a := a) (c := c) (i := i) hn n1 n2 h1 h2
        refine hs a dd c F (gone i Dd) ι ω (ρ.set i (.exn c fs)) S _ H r2 ?_
        cases er : f (ρ.set i (.exn c fs)) S with
        | nx ρ' S' =>
          rw [er] at hp
          dsimp only at hp
          split at hp
          · rename_i hn2
            exact fun ι' ω' σ' H' x r' => hp ι' ω' _ H' x ((r'.drop i none).gm hn2 rfl rfl rfl)
          · exact hp.elim
        | bk ρ' S' =>
          rw [er] at hp
          dsimp only at hp
          split at hp
          · rename_i hn2
            exact fun ι' ω' σ' H' x r' => hp ι' ω' _ H' x ((r'.drop i none).gm hn2 rfl rfl rfl)
          · exact hp.elim
        | ct ρ' S' =>
          rw [er] at hp
          dsimp only at hp
          split at hp
          · rename_i hn2
            exact fun ι' ω' σ' H' x r' => hp ι' ω' _ H' x ((r'.drop i none).gm hn2 rfl rfl rfl)
          · exact hp.elim
        | rt d fl S' => rw [er] at hp; exact hp
        | xc => rw [er] at hp; exact hp.elim
        | bad => rw [er] at hp; exact hp.elim
      · exact hp.elim
    · rename_i ee
      unfold clW
      rw [e1]
      refine oK_of (hem _ _ _ ee) ?_
      exact ih hp
    · exact hp.elim
  | @only k h f l m e1 e2 hs hl ih =>
    intro hp
    unfold hand at hp
    split at hp
    · rename_i ee
      unfold clW
      rw [e1]
      refine oK_of (hem _ _ _ ee) ?_
      show ∀ a, H a = none → _
      intro a ha
      rw [e2]
      show k.ts a _ dd Dd σ H
      refine hs a dd c F Dd ι ω ρ S σ H rel ?_
      cases er : f ρ S with
      | nx ρ' S' => rw [er] at hp; exact hp
      | bk ρ' S' => rw [er] at hp; exact hp
      | ct ρ' S' => rw [er] at hp; exact hp
      | rt d fl S' => rw [er] at hp; exact hp
      | xc => rw [er] at hp; exact hp.elim
      | bad => rw [er] at hp; exact hp.elim
    · rename_i ee
      unfold clW
      rw [e1]
      refine oK_of (hem _ _ _ ee) ?_
      exact ih hp
    · exact hp.elim
theorem ss_try {em : Nat → Nat → Option Bool} (hem : ∀ c h b, em c h = some b → PySem.W.exmOne G.K (.ref (G.ca c)) (.ref (G.ca h)) = some b) {tb : WX → TS} {fb : FS} {l : List Cl} {m : List (Nat × Option Nat × FS)} (hb : ∀ W, SS G W (tb W) fb) (hl : ClS G l m) :
    SS G E (uTry G.K E l tb) (sTry em fb m) := by
  intro F D ι ω ρ S σ H rel h
  refine hb _ F D ι ω ρ S σ H rel ?_
  unfold sTry at h
  cases e : fb ρ S with
  | xc c fs ρ' S' =>
    rw [e] at h
    exact fun ι' ω' σ' dd fv H' x r' n1 n2 h1 h2 => hand_ok hem r' n1 n2 h1 h2 hl (PostS.ex h x)
  | nx ρ' S' => rw [e] at h; exact h
  | bk ρ' S' => rw [e] at h; exact h
  | ct ρ' S' => rw [e] at h; exact h
  | rt d fl S' => rw [e] at h; exact h
  | bad => rw [e] at h; exact h
def fXf (xf : Nat → Str → Bool) (i : Nat) (f : Str) : FE := fun ρ S => match ρ[i]? with
  | some (.exn c fs) => if xf c f = true then (match fs.lookup f with
    | some d => .ok d .tr S
    | none => .bad) else .bad
  | _ => .bad
theorem se_xf {xf : Nat → Str → Bool} {a : Addr} {dd : Option Addr} {c : Nat} (i : Nat) (f : Str) (hx : G.x = some (a, dd, c)) (hxf : ∀ c f, xf c f = true → XfC G.K (G.ca c) ∧ PySem.W.findIn G.K (.ref (G.ca c)) f = some none) : SE G E (uXf G.K a (.ref (G.ca c)) dd i f) (fXf xf i f) := by
  intro F ι ω ρ S σ H Q rel h
  unfold fXf at h
  split at h
  · rename_i c' fs e
    have hi : i < σ.length := by rw [← rel.len]; exact (List.getElem?_eq_some_iff.mp e).1
    have q := rel.env i _ _ e (List.getElem?_eq_getElem hi)
    have e2 : σ[i]? = some σ[i] := List.getElem?_eq_getElem hi
    generalize σ[i] = o at q e2
    cases q with
    | exn q1 q2 q3 q4 q5 =>
      rw [hx] at q1
      cases q1
      split at h
      · rename_i hc
        split at h
        · rename_i d ed
          obtain ⟨x1, x2⟩ := hxf _ _ hc
          rcases q5.look (f := f) with ⟨d', v, g1, g2, g3⟩ | ⟨g1, g2⟩
          · rw [ed] at g1; cases g1
            cases dd with
            | none => rw [show _ = [] from q4] at g2; cases g2
            | some b => exact ⟨_, b, _, v, rfl, x1, x2, e2, rfl, q4, g2, PostE.now h rel g3⟩
          · rw [ed] at g1; cases g1
        · exact h.elim
      · exact h.elim
  · exact h.elim
end
def runF (n m : Nat) (b : FS) : FF := fun ds S => if ds.length = m then (match b (ds.map .val ++ List.replicate (n - m) .no) S with
  | .nx _ S' => .ok .non .tr S'
  | .rt d f S' => .ok d f S'
  | .xc c fs _ S' => .xc c fs S'
  | _ => .bad) else .bad
section
variable {K : PySem.W.Frag} {ca : Nat → Addr} {H : Hp} {Q : VK} {E : XK} {vs : List V}
theorem run_len {N P : List Str} {b : FS} (h : SpF K ca (runF N.length P.length b) vs H Q E) : vs.length = P.length := by
  obtain ⟨ι, B, S, ds, h1, h2, h3, h4, h5⟩ := h
  unfold runF at h5
  split at h5
  · rename_i e; rw [h4.len]; exact e
  · exact h5.elim
theorem start_rel {ι B : List Addr} {S : Sto} {ds : List D} {N : List Str} (h1 : ι.Nodup) (h2 : ∀ b ∈ B, H b ≠ none ∧ b ∉ ι) (h3 : RS K ca ι B H S) (h4 : RAll K ca ι B H vs ds) :
    Rel ⟨K, ca, none, none⟩ ⟨H, ι, B⟩ ι [] (ds.map .val ++ List.replicate (N.length - ds.length) .no) S (L2.start N vs) H := by
  refine ⟨List.prefix_rfl, fun _ _ h _ => h, fun _ h => h, fun _ h n => absurd h n, fun _ h => (nomatch h), h2, h1, fun _ h => (nomatch h), fun _ h => (nomatch h), ?_, ?_, fun i s o e1 e2 => ?_, fun i j a s s' hij e1 e2 e3 => ?_⟩
  · rw [List.append_nil]; exact h3
  · unfold L2.start; rw [List.length_append, List.length_append, List.length_map, List.length_map, List.length_replicate, List.length_replicate, h4.len]
  · unfold L2.start at e2
    rw [List.append_nil]
    by_cases hi : i < ds.length
    · rw [List.getElem?_append_left (by rw [List.length_map]; exact hi), List.getElem?_map, List.getElem?_eq_getElem hi] at e1
      cases e1
      obtain ⟨v, q1, q2⟩ := h4.at i (List.getElem?_eq_getElem hi)
      rw [List.getElem?_append_left (by rw [List.length_map, h4.len]; exact hi), List.getElem?_map, q1] at e2
      cases e2
      exact .val q2
    · rw [List.getElem?_append_right (by rw [List.length_map]; omega), List.getElem?_replicate] at e1
      split at e1
      · cases e1; exact .no
      · cases e1
  · exfalso
    by_cases hi : i < ds.length
    · rw [List.getElem?_append_left (by rw [List.length_map]; exact hi), List.getElem?_map, List.getElem?_eq_getElem hi] at e1
      cases e1; cases e3
    · rw [List.getElem?_append_right (by rw [List.length_map]; omega), List.getElem?_replicate] at e1
      split at e1
      · cases e1; cases e3
      · cases e1
theorem run_ok {N P : List Str} {t : TS} {b : FS} (hb : SS ⟨K, ca, none, none⟩ (fun cls d _ H => E cls d H) t b) (h : SpF K ca (runF N.length P.length b) vs H Q E) : t { nx := fun _ H' => Q .non H', rt := Q } (L2.start N vs) H := by
  obtain ⟨ι, B, S, ds, h1, h2, h3, h4, h5⟩ := h
  unfold runF at h5
  split at h5
  · rename_i el
    refine hb ⟨H, ι, B⟩ _ ι [] _ S _ H (start_rel h1 h2 h3 h4) ?_
    rw [el]
    cases e : b (ds.map .val ++ List.replicate (N.length - P.length) .no) S with
    | nx ρ' S' =>
      rw [e] at h5
      exact fun ι' ω' σ' H' x r => h5 ι' .non H' r.ext0 r.nd (r.sto.less fun a z => List.mem_append_left _ z) .non
    | rt d f S' => rw [e] at h5; exact h5
    | xc c fs ρ' S' =>
      rw [e] at h5
      exact fun ι' ω' σ' dd fv H' x r n1 n2 g1 g2 => h5 ι' dd fv H' r.ext0 r.nd (r.sto.less fun a z => List.mem_append_left _ z) n1 (n2.less fun a z => List.mem_append_left _ z) g1 (g2.per (Per.less fun a z => List.mem_append_left _ z))
    | bk => rw [e] at h5; exact h5.elim
    | ct => rw [e] at h5; exact h5.elim
    | bad => rw [e] at h5; exact h5.elim
  · exact h5.elim
end
end
end Fx
namespace Fx
open PySem PySem.Spec PyProof.Rows L2 U
noncomputable section
abbrev Gd := Option (Nat × List D)
/-- the walked cell is as it was -/
def gOk : Gd → Sto → Prop
  | none, _ => True
  | some (k, ds), S => S[k]? = some (.lst ds)
structure Wk (K : PySem.W.Frag) (ca : Nat → Addr) (ι1 B1 : List Addr) (H1 : Hp) (J : It) (ds : List D) (g : Gd) : Prop where
  go : ∀ ι2 B2 H2 S2 i, Per ι1 B1 H1 ι2 B2 H2 → RS K ca ι2 B2 H2 S2 → (∀ a ∈ B2, H2 a ≠ none) → gOk g S2 → i < ds.length → J.go i H2
  stop : ∀ ι2 B2 H2 S2, Per ι1 B1 H1 ι2 B2 H2 → RS K ca ι2 B2 H2 S2 → (∀ a ∈ B2, H2 a ≠ none) → gOk g S2 → J.stop ds.length H2
  yld : ∀ ι2 B2 H2 S2 i x H', Per ι1 B1 H1 ι2 B2 H2 → RS K ca ι2 B2 H2 S2 → (∀ a ∈ B2, H2 a ≠ none) → gOk g S2 → i < ds.length → J.yld i H2 x H' → (∀ a o, H2 a = some o → H' a = some o) ∧ ∃ d, ds[i]? = some d ∧ RV K ca ι2 B2 H' x d
inductive RI where
  | ok (ds : List D) (g : Gd) (S : Sto) | xc (c : Nat) (fs : List (Str × D)) (S : Sto) | bad
abbrev FI := Ev → Sto → RI
def PostI (G : Gm) (E : WX) (F : Fr) (ι ω : List Addr) (ρ : Ev) (σ : L2.St) (H : Hp) (R : It → Hp → Prop) : RI → Prop
  | .ok ds g S' => ∀ ι' J H', Ext ι H ι' H' → Rel G F ι' ω ρ S' σ H' → Wk G.K G.ca ι' (F.B0 ++ ω) H' J ds g → R J H'
  | .xc c fs S' => ∀ ι' dd fv H', Ext ι H ι' H' → Rel G F ι' ω ρ S' σ H' → NI dd ι' → NI dd (F.B0 ++ ω) → XD H' dd fv → RFs G.K G.ca ι' (F.B0 ++ ω) H' fv fs → E (.ref (G.ca c)) dd σ H'
  | .bad => False
def SI (G : Gm) (E : WX) (t : TI) (f : FI) : Prop := ∀ F ι ω ρ S σ H R, Rel G F ι ω ρ S σ H → PostI G E F ι ω ρ σ H R (f ρ S) → t σ H R
/-- the items of a value that is walked -/
def charsD (z : Str) : List D := (sl z).map fun c => .str ⟨#[c]⟩
def itemsD (S : Sto) : D → Option (List D × Gd)
  | .str z => some (charsD z, none)
  | .lst ds => some (ds, none)
  | .tup ds => some (ds, none)
  | .cel k => (match S[k]? with | some (.lst ds) => some (ds, some (k, ds)) | _ => none)
  | _ => none
def fIter (fe : FE) : FI := fun ρ S => match fe ρ S with
  | .ok d f S1 => if f.nop = true then (match itemsD S1 d with
    | some (ds, g) => .ok ds g S1
    | none => .bad) else .bad
  | .xc c fs S1 => .xc c fs S1
  | .bad => .bad
theorem rall_chars {K : PySem.W.Frag} {ca : Nat → Addr} {ι B : List Addr} {H : Hp} (z : Str) : RAll K ca ι B H (chars z) (charsD z) := by
  unfold chars charsD
  show RAll K ca ι B H ((sl z).map _) _
  generalize sl z = l
  induction l with
  | nil => exact .nil
  | cons c l ih => exact .cons (.str _) ih
def JK (K : PySem.W.Frag) : Kd → It
  | .l a => Itl K a
  | .t a => Itt K a
  | .s z _ => Its z
/-- a value with its items, now and later -/
structure Sq (K : PySem.W.Frag) (ca : Nat → Addr) (ι1 B1 : List Addr) (H1 : Hp) (v : V) (k : Kd) (ds : List D) (g : Gd) : Prop where
  now : ∀ (R : It → Hp → Prop), R (JK K k) H1 → goIt K v H1 R
  later : ∀ ι2 B2 H2 S2, Per ι1 B1 H1 ι2 B2 H2 → RS K ca ι2 B2 H2 S2 → gOk g S2 → ∃ xs, k.sq K H2 xs ∧ RAll K ca ι2 B2 H2 xs ds
  kd : ∀ a, v = .ref a → kdOf K H1 a = some k
section
variable {G : Gm} {E : WX} {F : Fr} {Dd : Ends} {ι ω ι1 ω1 : List Addr} {ρ : Ev} {S S1 : Sto} {σ : L2.St} {H H1 : Hp}
theorem sq_of {v : V} {d : D} {ds : List D} {g : Gd} (rs : RS G.K G.ca ι (F.B0 ++ ω) H S) (h : RV G.K G.ca ι (F.B0 ++ ω) H v d) (e : itemsD S d = some (ds, g)) : ∃ k, Sq G.K G.ca ι (F.B0 ++ ω) H v k ds g := by
  unfold itemsD at e
  split at e
  · cases e
    cases h
    refine ⟨.s _ 0, fun R h => h, fun ι2 B2 H2 S2 p rs g => ⟨_, rfl, rall_chars _⟩, fun a z => by cases z⟩
  · cases e
    cases h with
    | @lst a xs ds h1 h2 h3 h4 =>
      refine ⟨.l a, fun R h => ?_, fun ι2 B2 H2 S2 p rs g => ⟨xs, .inl (.inl (p.at' _ _ h3 h1 h2).1), h4.per p⟩, fun b z => ?_⟩
      · show match rdL G.K H a with | some _ => _ | none => _
        rw [rdL_of h3]; exact h
      · cases z; unfold kdOf; rw [rdL_of h3]
  · cases e
    cases h with
    | @tup a xs ds h1 h2 h3 h4 =>
      have e1 : rdL G.K H a = none := by unfold rdL; rw [h3]
      refine ⟨.t a, fun R h => ?_, fun ι2 B2 H2 S2 p rs g => ⟨xs, .inl (.inl (p.at' _ _ h3 h1 h2).1), h4.per p⟩, fun b z => ?_⟩
      · show match rdL G.K H a with | some _ => _ | none => _
        rw [e1]
        show match rdT G.K H a with | some _ => _ | none => _
        rw [rdT_of h3]; exact h
      · cases z; unfold kdOf; rw [e1]; dsimp only; rw [rdT_of h3]
  · rename_i k
    split at e
    · rename_i ds' es
      cases e
      cases h with
      | @cel a k hk =>
        obtain ⟨xs, e2, ra⟩ := cel_at rs hk es
        refine ⟨.l a, fun R h => ?_, fun ι2 B2 H2 S2 p rs2 g => ?_, fun b z => ?_⟩
        · show match rdL G.K H a with | some _ => _ | none => _
          rw [rdL_of e2]; exact h
        · have g : S2[k]? = some (.lst ds) := g
          cases rs2.at' k a _ (p.ix _ _ hk) g with
          | lst q1 q2 => exact ⟨_, .inl (.inl q1), q2⟩
        · cases z; unfold kdOf; rw [rdL_of e2]
    · cases e
  · cases e
theorem Sq.wk {K : PySem.W.Frag} {ca : Nat → Addr} {B1 : List Addr} {v : V} {k : Kd} {ds : List D} {g : Gd} (q : Sq K ca ι1 B1 H1 v k ds g) : Wk K ca ι1 B1 H1 (JK K k) ds g := by
  have key : ∀ ι2 B2 H2 S2, Per ι1 B1 H1 ι2 B2 H2 → RS K ca ι2 B2 H2 S2 → gOk g S2 → ∃ xs, RAll K ca ι2 B2 H2 xs ds ∧ ∃ Gx : Hp → Prop, Gx H2 ∧ Walk (JK K k) xs.length Gx (YAt xs) := fun ι2 B2 H2 S2 p rs g => by
    obtain ⟨xs, h1, h2⟩ := q.later ι2 B2 H2 S2 p rs g
    refine ⟨xs, h2, ?_⟩
    cases k with
    | l a => exact ⟨_, h1, walk_list⟩
    | t a => exact ⟨_, h1, walk_tup⟩
    | s z t => exact ⟨fun _ => True, trivial, by rw [show xs = chars z from h1]; exact walk_chars⟩
  refine ⟨fun ι2 B2 H2 S2 i p rs hb g hi => ?_, fun ι2 B2 H2 S2 p rs hb g => ?_, fun ι2 B2 H2 S2 i x H' p rs hb g hi y => ?_⟩
  · obtain ⟨xs, h1, Gx, h2, w⟩ := key ι2 B2 H2 S2 p rs g
    exact w.goes i H2 (by rw [h1.len]; exact hi) h2
  · obtain ⟨xs, h1, Gx, h2, w⟩ := key ι2 B2 H2 S2 p rs g
    rw [← h1.len]; exact w.stops H2 h2
  · obtain ⟨xs, h1, Gx, h2, w⟩ := key ι2 B2 H2 S2 p rs g
    obtain ⟨rfl, h3⟩ := w.yields i H2 x H' (by rw [h1.len]; exact hi) h2 y
    exact ⟨fun _ _ z => z, h1.atV i h3⟩
theorem si_iter {te : TE} {fe : FE} (he : SE G E te fe) : SI G E (uIter G.K te) (fIter fe) := by
  intro F ι ω ρ S σ H R rel h
  refine he F ι ω ρ S σ H _ rel ?_
  unfold fIter at h
  cases e : fe ρ S with
  | ok d f S1 =>
    rw [e] at h
    intro ι1 v H1 e1 r1 rf
    dsimp only at h
    split at h
    · rename_i hf
      split at h
      · rename_i ds g ei
        obtain ⟨k, q⟩ := sq_of r1.sto (rf.rv (by intro z; subst z; cases hf)) ei
        exact q.now _ (h ι1 _ H1 e1 r1 q.wk)
      · exact h.elim
    · exact h.elim
  | xc c fs S1 => rw [e] at h; exact h
  | bad => rw [e] at h; exact h
def rngD (lo : Int) (n : Nat) : List D := (List.range n).map fun i => .int (lo + (i : Nat))
theorem wk_rng {K : PySem.W.Frag} {ca : Nat → Addr} {B1 : List Addr} (lo : Int) (n : Nat) : Wk K ca ι1 B1 H1 (Itr lo n) (rngD lo n) none := by
  have hl : (rngD lo n).length = n := by unfold rngD; rw [List.length_map, List.length_range]
  refine ⟨fun ι2 B2 H2 S2 i p rs hb g hi => ?_, fun ι2 B2 H2 S2 p rs hb g => ?_, fun ι2 B2 H2 S2 i x H' p rs hb g hi y => ?_⟩
  · rw [hl] at hi; exact hi
  · rw [hl]; exact Nat.le_refl n
  · rw [hl] at hi
    obtain ⟨rfl, rfl⟩ := (show H' = H2 ∧ x = .int (lo + (i : Nat)) from y)
    refine ⟨fun _ _ z => z, .int (lo + (i : Nat)), ?_, .int _⟩
    unfold rngD
    rw [List.getElem?_map, List.getElem?_range hi]; rfl
def fRng1 (fa : FA) : FI := fun ρ S => match fa ρ S with
  | .ok [.int j] _ S1 => if -(2 ^ 62) ≤ j ∧ j < 2 ^ 62 then .ok (rngD 0 j.toNat) none S1 else .bad
  | .xc c fs S1 => .xc c fs S1
  | _ => .bad
theorem si_rng1 {ta : TA} {fa : FA} (ha : SA G E ta fa) : SI G E (iRng1 ta) (fRng1 fa) := by
  intro F ι ω ρ S σ H R rel h
  refine ha F ι ω ρ S σ H _ rel ?_
  unfold fRng1 at h
  split at h
  · rename_i j t S1 e
    rw [e]
    intro ι1 vs H1 e1 r1 ra
    obtain ⟨v, rfl, q⟩ := pair1 ra.pair
    rw [q.sInt]
    split at h
    · rename_i hc
      exact ⟨j, rfl, hc.1, hc.2, h ι1 _ H1 e1 r1 (wk_rng 0 _)⟩
    · exact h.elim
  · rename_i e; rw [e]; exact h
  · exact h.elim
def enumD (ds : List D) : List D := ds.mapIdx fun i d => .tup [.int (i : Nat), d]
def fEnum (fa : FA) : FI := fun ρ S => match fa ρ S with
  | .ok [d] true S1 => (match d with
    | .str z => .ok (enumD (charsD z)) none S1
    | d => (match itemsD S1 d with
      | some (ds, g) => .ok (enumD ds) g S1
      | none => .bad))
  | .xc c fs S1 => .xc c fs S1
  | _ => .bad
theorem new_pair {K : PySem.W.Frag} {ca : Nat → Addr} {ι B : List Addr} {T : Addr} {xs : List V} {ds : List D} {S : Sto} (rs : RS K ca ι B H S) (hb : ∀ a ∈ B, H a ≠ none) (hT : H T = none) (ra : RAll K ca ι B H xs ds) : RV K ca ι B (upd H T (.tup xs)) (.ref T) (.tup ds) :=
  .tup (fun z => rs.here T z hT) (fun z => hb T z hT) upd_same (ra.per (Per.new hT))
theorem wk_enum {K : PySem.W.Frag} {ca : Nat → Addr} {B1 : List Addr} {k : Kd} {ds : List D} {g : Gd} (later : ∀ ι2 B2 H2 S2, Per ι1 B1 H1 ι2 B2 H2 → RS K ca ι2 B2 H2 S2 → gOk g S2 → ∃ xs, k.sq K H2 xs ∧ RAll K ca ι2 B2 H2 xs ds) : Wk K ca ι1 B1 H1 (JEnum (JKd K k)) (enumD ds) g := by
  have hl : (enumD ds).length = ds.length := by unfold enumD; simp
  refine ⟨fun ι2 B2 H2 S2 i p rs hb g hi => ?_, fun ι2 B2 H2 S2 p rs hb g => ?_, fun ι2 B2 H2 S2 i x H' p rs hb g hi y => ?_⟩
  · obtain ⟨xs, h1, h2⟩ := later ι2 B2 H2 S2 p rs g
    exact walk_enumK.goes i H2 (by rw [h2.len]; omega) h1
  · obtain ⟨xs, h1, h2⟩ := later ι2 B2 H2 S2 p rs g
    rw [hl, ← h2.len]; exact walk_enumK.stops H2 h1
  · obtain ⟨xs, h1, h2⟩ := later ι2 B2 H2 S2 p rs g
    obtain ⟨T, a, b, rfl, hT, rfl, e1, e2⟩ := walk_enumK.yields i H2 x H' (by rw [h2.len]; omega) h1 y
    cases e1
    obtain ⟨d, e3, rd⟩ := h2.atV i e2
    refine ⟨fun c o z => by rw [upd_ne (ne_of_none z hT)]; exact z, .tup [.int (i : Nat), d], ?_, new_pair rs hb hT (.cons (.int _) (.cons rd .nil))⟩
    unfold enumD
    rw [List.getElem?_mapIdx, e3]; rfl
theorem si_enum {ta : TA} {fa : FA} (ha : SA G E ta fa) : SI G E (uEnum G.K ta) (fEnum fa) := by
  intro F ι ω ρ S σ H R rel h
  refine ha F ι ω ρ S σ H _ rel ?_
  unfold fEnum at h
  split at h
  · rename_i d S1 e
    rw [e]
    intro ι1 vs H1 e1 r1 ra
    have ra : RAll G.K G.ca ι1 (F.B0 ++ ω) H1 vs [d] := ra
    cases ra with
    | cons rv r2 =>
      cases r2
      split at h
      · cases rv
        exact h ι1 _ H1 e1 r1 (wk_enum fun ι2 B2 H2 S2 p rs g => ⟨_, rfl, rall_chars _⟩)
      · rename_i hn
        split at h
        · rename_i ds g ei
          obtain ⟨k, q⟩ := sq_of r1.sto rv ei
          have hv : ∃ a, ‹V› = .ref a := by
            cases rv <;> first | exact ⟨_, rfl⟩ | (exact absurd rfl (hn _)) | (cases ei; done)
          obtain ⟨a, rfl⟩ := hv
          exact oK_of (q.kd a rfl) (h ι1 _ H1 e1 r1 (wk_enum q.later))
        · exact h.elim
  · rename_i e; rw [e]; exact h
  · exact h.elim
open Classical in
def loopS (g : Gd) (set : FG) (body : FS) : List D → Ev → Sto → RSt
  | [], ρ, S => if gOk g S then .nx ρ S else .bad
  | d :: ds, ρ, S => if gOk g S then (match set d ρ S with
    | some ρ1 => (match body ρ1 S with
      | .nx ρ2 S2 => loopS g set body ds ρ2 S2
      | .ct ρ2 S2 => loopS g set body ds ρ2 S2
      | .bk ρ2 S2 => .nx ρ2 S2
      | r => r)
    | none => .bad) else .bad
def sFor (it : FI) (set : FG) (body : FS) : FS := fun ρ S => match it ρ S with
  | .ok ds g S1 => loopS g set body ds ρ S1
  | .xc c fs S1 => .xc c fs ρ S1
  | .bad => .bad
theorem ss_for {wi : TI} {fi : FI} {tg : TG} {fg : FG} {js : List Nat} {tb : TS} {fb : FS} (hi : SI G E wi fi) (hg : SG G tg js fg) (hb : SS G E tb fb) : SS G E (tFor wi tg tb) (sFor fi fg fb) := by
  intro F D ι ω ρ S σ H rel h
  refine hi F ι ω ρ S σ H _ rel ?_
  unfold sFor at h
  cases e : fi ρ S with
  | xc c fs S1 =>
    rw [e] at h
    exact fun ι' dd fv H' x rel' n1 n2 h1 h2 => h ι' ω σ dd fv H' x.s rel' n1 n2 h1 h2
  | bad => rw [e] at h; exact h
  | ok ds g S1 =>
    rw [e] at h
    intro ι1 J H1 e1 r1 wk
    refine ⟨fun i m σ' H' => m = ds.length - i ∧ i ≤ ds.length ∧ ∃ ι' ω' ρ' S', Rel G F ι' ω' ρ' S' σ' H' ∧ ExtS ι1 ω H1 ι' ω' H' ∧ PostS G E F D ι' ω' H' (loopS g fg fb (ds.drop i) ρ' S'),
      ⟨ds.length, by simp, Nat.zero_le _, ι1, ω, ρ, S1, r1, ExtS.refl, by rw [List.drop_zero]; exact PostS.ex h e1.s⟩, ?_⟩
    rintro i m σ' H' ⟨rfl, hle, ι', ω', ρ', S', r', x', p'⟩
    have pp := x'.per (B := F.B0)
    rcases Nat.lt_or_ge i ds.length with hlt | hge
    · rw [List.drop_eq_getElem_cons hlt] at p'
      unfold loopS at p'
      split at p'
      · rename_i gk
        refine .inr ⟨wk.go _ _ _ _ i pp r'.sto r'.bd gk hlt, fun σ2 H2 => ∃ ι2 ω2 ρ2 S2, Rel G F ι2 ω2 ρ2 S2 σ2 H2 ∧ ExtS ι1 ω H1 ι2 ω2 H2 ∧ PostS G E F D ι2 ω2 H2 (loopS g fg fb (ds.drop (i + 1)) ρ2 S2), fun σ2 H2 q => ⟨ds.length - (i + 1), by omega, rfl, hlt, q⟩, fun x H'' y => ?_⟩
        obtain ⟨gr, d, ed, rv⟩ := wk.yld _ _ _ _ i x H'' pp r'.sto r'.bd gk hlt y
        rw [List.getElem?_eq_getElem hlt] at ed
        cases ed
        have r2 := r'.gr gr
        have x2 : ExtS ι' ω' H' ι' ω' H'' := (Ext.gr gr).s
        refine hg F ι' ω' ρ' S' σ' H'' x _ _ r2 rv ?_
        split at p'
        · rename_i ρ1 eg
          try rw [eg]
          intro σ1 rel1 _
          refine hb F _ ι' ω' ρ1 S' σ1 H'' rel1 ?_
          have p2 := PostS.ex p' x2
          cases eb : fb ρ1 S' with
          | nx ρ2 S2 =>
            rw [eb] at p2
            exact fun ι2 ω2 σ2 H2 z rel2 => ⟨ι2, ω2, ρ2, S2, rel2, (x'.trans x2).trans z, PostS.ex p2 z⟩
          | ct ρ2 S2 =>
            rw [eb] at p2
            exact fun ι2 ω2 σ2 H2 z rel2 => ⟨ι2, ω2, ρ2, S2, rel2, (x'.trans x2).trans z, PostS.ex p2 z⟩
          | bk ρ2 S2 => rw [eb] at p2; exact p2
          | rt d fl S2 => rw [eb] at p2; exact p2
          | xc c fs ρ2 S2 => rw [eb] at p2; exact p2
          | bad => rw [eb] at p2; exact p2
        · exact p'.elim
      · exact p'.elim
    · obtain rfl : i = ds.length := by omega
      rw [List.drop_length] at p'
      unfold loopS at p'
      split at p'
      · rename_i gk
        exact .inl ⟨wk.stop _ _ _ _ pp r'.sto r'.bd gk, p' ι' ω' σ' H' ExtS.refl r'⟩
      · exact p'.elim
end
end
end Fx
namespace Fx
open PySem PySem.Spec PyProof.Rows L2 U
noncomputable section
section
variable {G : Gm} {E : WX} {F : Fr} {Dd : Ends} {ι ω ι1 ω1 : List Addr} {ρ : Ev} {S S1 : Sto} {σ : L2.St} {H H1 : Hp}
def wipeE (ρ : Ev) : List Nat → Ev
  | [] => ρ
  | v :: vs => (wipeE ρ vs).set v .no
theorem Rel.wipe (r : Rel G F ι ω ρ S σ H) : ∀ vs : List Nat, Rel G F ι ω (wipeE ρ vs) S (L2.wipe σ vs) H
  | [] => r
  | v :: vs => (r.wipe vs).drop v none
theorem wipe_idem (σ : L2.St) : ∀ vs : List Nat, L2.wipe (L2.wipe σ vs) vs = L2.wipe σ vs := by
  intro vs
  have key : ∀ us : List Nat, (∀ u ∈ us, u ∈ vs) → L2.wipe (L2.wipe σ us) vs = L2.wipe σ vs := by
    intro us
    induction us with
    | nil => intro _; rfl
    | cons u us ih =>
      intro h
      show L2.wipe ((L2.wipe σ us).set u none) vs = _
      rw [wipe_set (h u List.mem_cons_self), ih fun w hw => h w (List.mem_cons_of_mem _ hw)]
  exact key vs fun _ h => h
/-- one turn of a comprehension: what is held, what is in the store -/
abbrev StepC := D → List D → Sto → Option (List D × Sto)
open Classical in
def foldC (g : Gd) (step : StepC) : List D → List D → Sto → Option (List D × Sto)
  | [], acc, S => if gOk g S then some (acc, S) else none
  | d :: ds, acc, S => if gOk g S then (match step d acc S with
    | some (acc', S') => foldC g step ds acc' S'
    | none => none) else none
def step1 (set : FG) (tt te : FE) (ρ0 : Ev) : StepC := fun d acc S => match set d ρ0 S with
  | some ρ1 => (match tt ρ1 S with
    | .ok (.bl true) _ S1 => (match te ρ1 S1 with
      | .ok y f S2 => if (f.nop && decide (acc.length < lim)) = true then some (acc ++ [y], S2) else none
      | _ => none)
    | .ok (.bl false) _ S1 => some (acc, S1)
    | _ => none)
  | none => none
def fLcG (it : FI) (step : Ev → StepC) (vs : List Nat) : FE := fun ρ S => match it ρ S with
  | .ok ds g S1 => (match foldC g (step (wipeE ρ vs)) ds [] S1 with
    | some (acc, S2) => .ok (.lst acc) .fs S2
    | none => .bad)
  | .xc c fs S1 => .xc c fs S1
  | .bad => .bad
def fLc (it : FI) (set : FG) (tt te : FE) (vs : List Nat) : FE := fLcG it (step1 set tt te) vs
/-- what holds at a turn: the new list at Dn, behind what stood at (ι1, H1) -/
structure Ci (G : Gm) (F : Fr) (ω : List Addr) (Dn : Addr) (ι1 : List Addr) (H1 : Hp) (ρ0 : Ev) (σ0 : L2.St) (ι' : List Addr) (acc : List D) (S : Sto) (H : Hp) : Prop where
  rel : Rel G F ι' (Dn :: ω) ρ0 S σ0 H
  ext : Ext ι1 H1 ι' H
  at' : ∃ xs, H Dn = some (.lst xs) ∧ RAll G.K G.ca ι' (F.B0 ++ (Dn :: ω)) H xs acc
  fre : ∀ (i : Nat) (s : Sl), ρ0[i]? = some s → isOwn s = true → σ0[i]? ≠ some (some (.ref Dn))
theorem Rel.mutD (r : Rel G F ι ω ρ S σ H) {a : Addr} {o : HO} (ha : a ∈ ω) (hn : ∀ (i : Nat) (s : Sl), ρ[i]? = some s → isOwn s = true → σ[i]? ≠ some (some (.ref a))) : Rel G F ι ω ρ S σ (upd H a o) := by
  have pp : Per ι (F.B0 ++ ω) H ι (F.B0 ++ ω) (L2.upd H a o) := Per.upd (.inr (List.mem_append_right _ ha))
  refine ⟨r.pre, fun b u h n => ?_, fun b h => ?_, r.fri, r.frw, r.b0, r.nd, r.dj, fun b hb => ?_, r.sto.per (fun b hb => upd_ne fun z => r.dj a ha (by rw [← z]; exact hb)) pp, r.len, fun j t o' h1 h2 => ?_, r.own⟩
  · rw [upd_ne (fun z => by subst z; rw [r.frw _ ha] at h; cases h)]; exact r.old b u h n
  · unfold L2.upd; split
    · simp
    · exact r.dom b h
  · unfold L2.upd; split
    · simp
    · exact r.dw b hb
  · have q := r.env j t o' h1 h2
    have ne : isOwn t = true → ∀ b, o' = some (.ref b) → b ≠ a := fun ht b hb z => by
      subst z; subst hb
      exact hn j t h1 ht h2
    cases q with
    | no => exact .no
    | val h => exact .val (h.per pp)
    | own q1 q2 q3 => exact .own q1 (by rw [upd_ne (ne rfl _ rfl)]; exact q2) (q3.per pp)
    | oob q1 q0 q2 q3 => exact .oob q1 q0 (by rw [upd_ne (ne rfl _ rfl)]; exact q2) (q3.per pp)
    | exn q1 q2 q3 q4 q5 =>
      obtain ⟨g1, g2, g3⟩ := q4.per q2 q3 pp
      exact .exn q1 g2 g3 g1 (q5.per pp)
/-- a walk with what is held -/
theorem fold_ok {K : PySem.W.Frag} {ca : Nat → Addr} {B1 : List Addr} {J : It} {ds : List D} {g : Gd} (wk : Wk K ca ι1 B1 H1 J ds g) {step : StepC} {accF : List D} {SF : Sto} {Qd : Hp → Prop} (Body : V → Hp → (Hp → Prop) → Prop)
    (Pv : List D → Sto → Hp → Prop) (hP : ∀ acc S H, Pv acc S H → ∃ ι2 B2, Per ι1 B1 H1 ι2 B2 H ∧ RS K ca ι2 B2 H S ∧ ∀ a ∈ B2, H a ≠ none)
    (hs : ∀ (i : Nat) d acc acc' S S' H x H', Pv acc S H → gOk g S → i < ds.length → ds[i]? = some d → J.yld i H x H' → step d acc S = some (acc', S') → ∀ Nx : Hp → Prop, (∀ H2, Pv acc' S' H2 → Nx H2) → Body x H' Nx)
    {acc0 : List D} {S0 : Sto} {H0 : Hp} (h0 : Pv acc0 S0 H0) (hf : foldC g step ds acc0 S0 = some (accF, SF)) (hd : ∀ H, Pv accF SF H → Qd H) :
    ∃ W : Nat → Nat → Hp → Prop, (∃ m, W 0 m H0) ∧ ∀ i m H, W i m H → (J.stop i H ∧ Qd H) ∨ (J.go i H ∧ ∃ Nx : Hp → Prop, (∀ H', Nx H' → ∃ m', m' < m ∧ W (i + 1) m' H') ∧ ∀ x H', J.yld i H x H' → Body x H' Nx) := by
  refine ⟨fun i m H => m = ds.length - i ∧ i ≤ ds.length ∧ ∃ acc S, Pv acc S H ∧ foldC g step (ds.drop i) acc S = some (accF, SF), ⟨ds.length, by simp, Nat.zero_le _, acc0, S0, h0, by rw [List.drop_zero]; exact hf⟩, ?_⟩
  rintro i m H ⟨rfl, hle, acc, S, pv, hf⟩
  obtain ⟨ι2, B2, pp, rs, hb⟩ := hP acc S H pv
  rcases Nat.lt_or_ge i ds.length with hlt | hge
  · rw [List.drop_eq_getElem_cons hlt] at hf
    unfold foldC at hf
    split at hf
    · rename_i gk
      split at hf
      · rename_i acc' S' es
        refine .inr ⟨wk.go _ _ _ _ i pp rs hb gk hlt, fun H' => ∃ acc S, Pv acc S H' ∧ foldC g step (ds.drop (i + 1)) acc S = some (accF, SF), fun H' q => ⟨ds.length - (i + 1), by omega, rfl, hlt, q⟩, fun x H' y => ?_⟩
        exact hs i _ acc acc' S S' H x H' pv gk hlt (List.getElem?_eq_getElem hlt) y es _ fun H2 p2 => ⟨acc', S', p2, hf⟩
      · cases hf
    · cases hf
  · obtain rfl : i = ds.length := by omega
    rw [List.drop_length] at hf
    unfold foldC at hf
    split at hf
    · rename_i gk
      cases hf
      exact .inl ⟨wk.stop _ _ _ _ pp rs hb gk, hd H pv⟩
    · cases hf
theorem Ci.lat {Dn : Addr} {ρ0 : Ev} {σ0 : L2.St} {ι' : List Addr} {acc : List D} {ι0 : List Addr} {H0 : Hp} (c : Ci G F ω Dn ι0 H0 ρ0 σ0 ι' acc S H) (hD : H0 Dn = none) : Per ι0 (F.B0 ++ ω) H0 ι' (F.B0 ++ (Dn :: ω)) H := by
  refine ⟨fun a o h1 h2 h3 => ?_, fun _ _ h => ix_pre c.ext.pre h⟩
  rw [List.mem_append, not_or] at h3
  refine ⟨c.ext.keep a o h1 h2, c.ext.off h1 h2, fun z => ?_⟩
  rcases List.mem_append.mp z with z | z
  · exact h3.1 z
  · rcases List.mem_cons.mp z with z | z
    · subst z; rw [hD] at h1; cases h1
    · exact h3.2 z
/-- the new list gets an item -/
theorem Ci.push {Dn : Addr} {ρ0 : Ev} {σ0 : L2.St} {ι' ι2 : List Addr} {acc : List D} {ι0 : List Addr} {H0 H2 : Hp} {S2 : Sto} {y : V} {d : D} (c : Ci G F ω Dn ι0 H0 ρ0 σ0 ι' acc S H) (hD : H0 Dn = none) (x : Ext ι' H ι2 H2) (nd : ι2.Nodup) (rs : RS G.K G.ca ι2 (F.B0 ++ (Dn :: ω)) H2 S2)
    (rv : RV G.K G.ca ι2 (F.B0 ++ (Dn :: ω)) H2 y d) {xs : List V} (hx : H2 Dn = some (.lst xs)) (ra : RAll G.K G.ca ι2 (F.B0 ++ (Dn :: ω)) H2 xs acc) : Ci G F ω Dn ι0 H0 ρ0 σ0 ι2 (acc ++ [d]) S2 (upd H2 Dn (.lst (xs ++ [y]))) := by
  have hm : Dn ∈ Dn :: ω := List.mem_cons_self
  have r2 := c.rel.ex x nd rs
  have e2 := c.ext.trans x
  refine ⟨r2.mutD hm c.fre, ⟨e2.pre, fun a o h n => ?_, e2.new, fun a h => ?_⟩, ⟨_, upd_same, (ra.app (.cons rv .nil)).per (Per.upd (.inr (List.mem_append_right _ hm)))⟩, c.fre⟩
  · rw [upd_ne (fun z => by subst z; rw [hD] at h; cases h)]; exact e2.keep a o h n
  · unfold L2.upd; split
    · simp
    · exact e2.dom a h
theorem Ci.same {Dn : Addr} {ρ0 : Ev} {σ0 : L2.St} {ι' ι2 : List Addr} {acc : List D} {ι0 : List Addr} {H0 H2 : Hp} {S2 : Sto} (c : Ci G F ω Dn ι0 H0 ρ0 σ0 ι' acc S H) (x : Ext ι' H ι2 H2) (nd : ι2.Nodup) (rs : RS G.K G.ca ι2 (F.B0 ++ (Dn :: ω)) H2 S2) : Ci G F ω Dn ι0 H0 ρ0 σ0 ι2 acc S2 H2 := by
  obtain ⟨xs, h1, h2⟩ := c.at'
  have hD : Dn ∉ ι' := c.rel.dj Dn List.mem_cons_self
  exact ⟨c.rel.ex x nd rs, c.ext.trans x, ⟨xs, x.keep _ _ h1 hD, h2.ex x⟩, c.fre⟩
abbrev NoE : WX := fun _ _ _ _ => False
/-- one turn of a comprehension with one clause -/
theorem step1_ok {tg : TG} {fg : FG} {js : List Nat} {tt : TT} {ft : FE} {te : TE} {fe : FE} {vs : List Nat} (hg : SG G tg js fg) (ht : ST G NoE tt ft) (he : SE G NoE te fe) (hj : ∀ j ∈ js, j ∈ vs) {Dn : Addr} {ρ0 : Ev} {σ0 : L2.St} {ι' : List Addr} {acc acc' : List D} {ι0 : List Addr} {H0 H' : Hp} {S S' : Sto} {x : V} {d : D}
    (c : Ci G F ω Dn ι0 H0 ρ0 σ0 ι' acc S H) (hD : H0 Dn = none) (gr : ∀ a o, H a = some o → H' a = some o) (rv : RV G.K G.ca ι' (F.B0 ++ (Dn :: ω)) H' x d) (es : step1 fg ft fe ρ0 d acc S = some (acc', S')) (hw : L2.wipe σ0 vs = σ0)
    {Nx : Hp → Prop} (hn : ∀ ι2 H2, Ci G F ω Dn ι0 H0 ρ0 σ0 ι2 acc' S' H2 → Nx H2) :
    tg x σ0 H' fun σ2 H2 => L2.wipe σ2 vs = σ0 ∧ tt σ2 H2 fun b H3 => if b = true then te σ2 H3 fun y H4 => ∃ acc, H4 Dn = some (.lst acc) ∧ acc.length < sizeLine ∧ Nx (upd H4 Dn (.lst (acc ++ [y]))) else Nx H3 := by
  have c1 := c.same (Ext.gr gr) c.rel.nd (c.rel.sto.gr gr)
  refine hg F ι' (Dn :: ω) ρ0 S σ0 H' x d _ c1.rel rv ?_
  unfold step1 at es
  split at es
  · rename_i ρ1 eg
    try rw [eg]
    intro σ1 rel1 w1
    refine ⟨(w1.wp vs hj).trans hw, ?_⟩
    refine ht F ι' (Dn :: ω) ρ1 S σ1 H' _ rel1 ?_
    split at es
    · rename_i f1 S1 e1
      rw [e1]
      intro ι3 v3 H3 x3 r3 rf3
      rw [rf3.rt.sBl]
      dsimp only [kB]
      rw [if_pos rfl]
      refine he F ι3 (Dn :: ω) ρ1 S1 σ1 H3 _ r3 ?_
      split at es
      · rename_i y f2 S2 e2
        rw [e2]
        intro ι4 v4 H4 x4 r4 rf4
        split at es
        · rename_i hc
          rw [Bool.and_eq_true] at hc
          cases es
          obtain ⟨xs, g1, g2⟩ := c1.at'
          have hDi : Dn ∉ ι' := c1.rel.dj Dn List.mem_cons_self
          have x34 := x3.trans x4
          have k1 : H4 Dn = some (.lst xs) := x34.keep _ _ g1 hDi
          refine ⟨xs, k1, by rw [g2.len]; exact lim_lt (of_decide_eq_true hc.2), hn ι4 _ (c1.push hD x34 r4.nd r4.sto (rf4.rv (by intro z; subst z; exact absurd hc.1 (by decide))) k1 (g2.ex x34))⟩
        · cases es
      · cases es
    · rename_i f1 S1 e1
      cases es
      rw [e1]
      intro ι3 v3 H3 x3 r3 rf3
      rw [rf3.rt.sBl]
      dsimp only [kB]
      rw [if_neg Bool.false_ne_true]
      exact hn ι3 H3 (c1.same x3 r3.nd r3.sto)
    · cases es
  · cases es
/-- the start: the new list -/
theorem Ci.start {Dn : Addr} {vs : List Nat} (r1 : Rel G F ι1 ω ρ S σ H1) (hD : H1 Dn = none) : Ci G F ω Dn ι1 H1 (wipeE ρ vs) (L2.wipe σ vs) ι1 [] S (upd H1 Dn (.lst [])) := by
  have rw' := r1.wipe vs
  have noa : ∀ (i : Nat) (s : Sl), (wipeE ρ vs)[i]? = some s → isOwn s = true → (L2.wipe σ vs)[i]? ≠ some (some (.ref Dn)) := fun i s h1 h2 h3 => by
    cases rw'.env i s _ h1 h3 with
    | no => cases h2
    | val => cases h2
    | own q1 q2 q3 => rw [hD] at q2; cases q2
    | oob q1 q0 q2 q3 => rw [hD] at q2; cases q2
    | exn => cases h2
  have pp : Per ι1 (F.B0 ++ ω) H1 ι1 (F.B0 ++ (Dn :: ω)) (L2.upd H1 Dn (.lst [])) := ⟨fun a o h1 h2 h3 => by
    rw [List.mem_append, not_or] at h3
    refine ⟨by rw [upd_ne (ne_of_none h1 hD)]; exact h1, h2, fun z => ?_⟩
    rcases List.mem_append.mp z with z | z
    · exact h3.1 z
    · rcases List.mem_cons.mp z with z | z
      · exact ne_of_none h1 hD z
      · exact h3.2 z, fun _ _ h => h⟩
  have r2 := rw'.new (o := .lst []) hD
  refine ⟨⟨r2.pre, r2.old, r2.dom, r2.fri, fun b hb => ?_, r2.b0, r2.nd, fun b hb => ?_, fun b hb => ?_, r1.sto.per (fun a ha => upd_ne fun z => r1.sto.here a ha (by rw [z]; exact hD)) pp, r2.len, fun j s o h1 h2 => ?_, r2.own⟩, Ext.new1 hD, ⟨[], upd_same, .nil⟩, noa⟩
  · rcases List.mem_cons.mp hb with z | z
    · subst z; exact none_of r1.dom hD
    · exact r2.frw b z
  · rcases List.mem_cons.mp hb with z | z
    · subst z; exact r1.offi hD
    · exact r2.dj b z
  · rcases List.mem_cons.mp hb with z | z
    · subst z; exact nn upd_same
    · exact r2.dw b z
  · have q := rw'.env j s o h1 h2
    cases q with
    | no => exact .no
    | val h => exact .val (h.per pp)
    | own q1 q2 q3 => exact .own (List.mem_cons_of_mem _ q1) (by rw [upd_ne (ne_of_none q2 hD)]; exact q2) (q3.per pp)
    | oob q1 q0 q2 q3 => exact .oob (List.mem_cons_of_mem _ q1) q0 (by rw [upd_ne (ne_of_none q2 hD)]; exact q2) (q3.per pp)
    | exn q1 q2 q3 q4 q5 =>
      obtain ⟨g1, g2, g3⟩ := q4.per q2 q3 pp
      exact .exn q1 g2 g3 g1 (q5.per pp)
/-- the end: the list is handed on -/
theorem Ci.fin {Dn : Addr} {ρ0 : Ev} {σ0 : L2.St} {ι' : List Addr} {acc : List D} {Q : VK} {S2 : Sto} {Hs : Hp} {ιs : List Addr} (rel : Rel G F ιs ω ρ S σ Hs) (e1 : Ext ιs Hs ι1 H1) (hD : H1 Dn = none) (c : Ci G F ω Dn ι1 H1 ρ0 σ0 ι' acc S2 H) (h : PostE G E F ιs ω ρ σ Hs Q (.ok (.lst acc) .fs S2)) : Q (.ref Dn) H := by
  obtain ⟨xs, h1, h2⟩ := c.at'
  have x := e1.trans c.ext
  have hm : Dn ∈ Dn :: ω := List.mem_cons_self
  have sub : ∀ b ∈ F.B0 ++ ω, b ∈ F.B0 ++ (Dn :: ω) := fun b hb => by
    rcases List.mem_append.mp hb with z | z
    · exact List.mem_append_left _ z
    · exact List.mem_append_right _ (List.mem_cons_of_mem _ z)
  have sub1 : ∀ b ∈ Dn :: (F.B0 ++ ω), b ∈ F.B0 ++ (Dn :: ω) := fun b hb => by
    rcases List.mem_cons.mp hb with z | z
    · subst z; exact List.mem_append_right _ hm
    · exact sub b z
  refine h ι' (.ref Dn) H x (rel.ex x c.rel.nd (c.rel.sto.less sub)) (.l (c.rel.dj Dn hm) (fun z => ?_) (none_of e1.dom hD) h1 (h2.per (Per.less sub1)) (c.rel.sto.less sub1))
  exact absurd (none_of e1.dom hD) (rel.bd Dn z)
theorem se_lcG {wi : TI} {fi : FI} {step : Ev → StepC} {vs : List Nat} {t : TE} {Body : L2.St → Addr → V → Hp → (Hp → Prop) → Prop} (hi : SI G E wi fi)
    (ht : ∀ σ H Q, (wi σ H fun J H1 => ∀ D, H1 D = none → ∃ W : Nat → Nat → Hp → Prop, (∃ m, W 0 m (upd H1 D (.lst []))) ∧ ∀ i m H, W i m H → (J.stop i H ∧ Q (.ref D) H) ∨ (J.go i H ∧ ∃ Nx : Hp → Prop, (∀ H', Nx H' → ∃ m', m' < m ∧ W (i + 1) m' H') ∧ ∀ x H', J.yld i H x H' → Body σ D x H' Nx)) → t σ H Q)
    (hs : ∀ {F : Fr} {ω : List Addr} {Dn : Addr} {ρ : Ev} {σ : L2.St} {ι' : List Addr} {acc acc' : List D} {ι0 : List Addr} {H0 H H' : Hp} {S S' : Sto} {x : V} {d : D}, Ci G F ω Dn ι0 H0 (wipeE ρ vs) (L2.wipe σ vs) ι' acc S H → H0 Dn = none → (∀ a o, H a = some o → H' a = some o) → RV G.K G.ca ι' (F.B0 ++ (Dn :: ω)) H' x d →
      step (wipeE ρ vs) d acc S = some (acc', S') → ∀ (Nx : Hp → Prop), (∀ ι2 H2, Ci G F ω Dn ι0 H0 (wipeE ρ vs) (L2.wipe σ vs) ι2 acc' S' H2 → Nx H2) → Body σ Dn x H' Nx) : SE G E t (fLcG fi step vs) := by
  intro F ι ω ρ S σ H Q rel h
  refine ht σ H Q (hi F ι ω ρ S σ H _ rel ?_)
  unfold fLcG at h
  cases e : fi ρ S with
  | xc c fs S1 => rw [e] at h; exact h
  | bad => rw [e] at h; exact h
  | ok ds g S1 =>
    rw [e] at h
    intro ι1 J H1 e1 r1 wk Dn hD
    dsimp only at h
    split at h
    · rename_i accF SF hf
      refine fold_ok wk (fun x H' Nx => Body σ Dn x H' Nx) (fun acc S H => ∃ ι', Ci G F ω Dn ι1 H1 (wipeE ρ vs) (L2.wipe σ vs) ι' acc S H) (fun acc S H ⟨ι', c⟩ => ⟨ι', F.B0 ++ (Dn :: ω), c.lat hD, c.rel.sto, c.rel.bd⟩) ?_ ⟨ι1, Ci.start r1 hD⟩ hf (fun H ⟨ι', c⟩ => c.fin rel e1 hD h)
      rintro i d acc acc' S2 S3 H2 x H' ⟨ι', c⟩ gk hlt ed y es Nx hN
      obtain ⟨gr, d', ed', rv⟩ := wk.yld _ _ _ _ i x H' (c.lat hD) c.rel.sto c.rel.bd gk hlt y
      rw [ed] at ed'; cases ed'
      exact hs c hD gr rv es _ fun ι2 H2 c2 => hN H2 ⟨ι2, c2⟩
    · exact h.elim
theorem se_lc {wi : TI} {fi : FI} {tg : TG} {fg : FG} {js : List Nat} {tt : TT} {ft : FE} {te : TE} {fe : FE} {vs : List Nat} (hi : SI G E wi fi) (hg : SG G tg js fg) (ht : ST G NoE tt ft) (he : SE G NoE te fe) (hj : ∀ j ∈ js, j ∈ vs := by decide) :
    SE G E (tLc wi tg tt te vs) (fLc fi fg ft fe vs) :=
  se_lcG (Body := fun σ D x H' Nx => tg x (L2.wipe σ vs) H' fun σ2 H2 => L2.wipe σ2 vs = L2.wipe σ vs ∧ tt σ2 H2 fun b H3 => if b = true then te σ2 H3 fun y H4 => ∃ acc, H4 D = some (.lst acc) ∧ acc.length < sizeLine ∧ Nx (upd H4 D (.lst (acc ++ [y]))) else Nx H3)
    hi (fun σ H Q h => h) fun c hD gr rv es _ hn => step1_ok hg ht he hj c hD gr rv es (wipe_idem _ _) hn
end
end
end Fx
namespace Fx
open PySem PySem.Spec PyProof.Rows L2 U
noncomputable section
def noxF (f : FF) : FF := fun ds S => match f ds S with
  | .xc _ _ _ => .bad
  | r => r
def NoX (f : FF) : Prop := ∀ ds S c fs S', f ds S ≠ .xc c fs S'
theorem nox_no (f : FF) : NoX (noxF f) := fun ds S c fs S' e => by
  unfold noxF at e
  split at e
  · cases e
  · rename_i hn; exact hn _ _ _ e
section
variable {K : PySem.W.Frag} {ca : Nat → Addr} {H : Hp} {Q : VK} {E : XK} {vs : List V}
theorem nox_len {N P : List Str} {b : FS} (h : SpF K ca (noxF (runF N.length P.length b)) vs H Q E) : vs.length = P.length := by
  obtain ⟨ι, B, S, ds, h1, h2, h3, h4, h5⟩ := h
  unfold noxF runF at h5
  by_cases e : ds.length = P.length
  · rw [h4.len]; exact e
  · simp only [if_neg e] at h5; exact h5.elim
theorem nox_ok {N P : List Str} {t : TS} {b : FS} (hb : SS ⟨K, ca, none, none⟩ NoE t b) (h : SpF K ca (noxF (runF N.length P.length b)) vs H Q E) : t { nx := fun _ H' => Q .non H', rt := Q } (L2.start N vs) H := by
  obtain ⟨ι, B, S, ds, h1, h2, h3, h4, h5⟩ := h
  refine run_ok (E := E0) (b := b) (P := P) hb ⟨ι, B, S, ds, h1, h2, h3, h4, ?_⟩
  unfold noxF at h5
  cases e : runF N.length P.length b ds S with
  | ok d f S' => rw [e] at h5; exact h5
  | xc c fs S' => rw [e] at h5; exact h5.elim
  | bad => rw [e] at h5; exact h5
end
section
variable {G : Gm} {E : WX}
theorem spf_nox {f : FF} {F : Fr} {ι ω : List Addr} {ρ : Ev} {S : Sto} {σ : L2.St} {H : Hp} {Q : VK} {vs : List V} {ds : List D} {E' : XK} (hf : NoX f) (rel : Rel G F ι ω ρ S σ H) (ra : RAll G.K G.ca ι (F.B0 ++ ω) H vs ds) (h : PostE G E F ι ω ρ σ H Q (f ds S)) : SpF G.K G.ca f vs H Q E' := by
  refine ⟨ι, F.B0 ++ ω, S, ds, rel.nd, fun b hb => ⟨rel.bd b hb, rel.bi b hb⟩, rel.sto, ra, ?_⟩
  cases e : f ds S with
  | ok d fl S' =>
    rw [e] at h
    exact fun ι' v H' x nd rs rf => h ι' v H' x (rel.ex x nd rs) rf
  | xc c fs S' => exact absurd e (hf _ _ _ _ _)
  | bad => rw [e] at h; exact h
theorem se_callN {f : FF} {dvs : List V} {dd : List D} {E' : XK} {ta : TA} {fa : FA} (hf : NoX f) (ha : SA G E ta fa) (hd : dvs = dd.map vOf := by rfl) (hs : dd.all scalD = true := by rfl) : SE G E (tCall (SpF G.K G.ca f) dvs E' ta) (fCall f dd fa) := by
  intro F ι ω ρ S σ H Q rel h
  refine sa_then ha rel h fun ds t S1 ι1 vs H1 e1 r1 ra h1 => ?_
  split at h1
  · rename_i ht
    subst ht hd
    exact spf_nox hf r1 (RAll.app ra (dflt_all hs)) h1
  · exact h1.elim
/-- f(a, k=b) -/
def fCallK (n m : Nat) (f : FF) (gD : List D → List D → List D) (fa fk : FA) : FE := fun ρ S => match fa ρ S with
  | .ok ds true S1 => (match fk ρ S1 with
    | .ok es true S2 => if ds.length = n ∧ es.length = m then f (gD ds es) S2 else .bad
    | .xc c fs S2 => .xc c fs S2
    | _ => .bad)
  | .xc c fs S1 => .xc c fs S1
  | _ => .bad
end
/-- the law at the script -/
def intsD (ns : List Int) : List D := ns.map .int
theorem rall_ints {K : PySem.W.Frag} {ca : Nat → Addr} {ι B : List Addr} {H : Hp} : ∀ ns : List Int, RAll K ca ι B H (ns.map V.int) (intsD ns)
  | [] => .nil
  | n :: ns => .cons (.int n) (rall_ints ns)
theorem law_sp {K : PySem.W.Frag} {ca : Nat → Addr} {f : FF} {H : Hp} {a : Addr} {ns : List Int} (hO : Only H) (hS : SqL K H a (ns.map V.int)) (h : ∃ fl S', f [.fro true (intsD ns)] [] = .ok (.bl true) fl S') : SpF K ca f [.ref a] H (fun v _ => v = .bl true) fun _ _ _ => False := by
  obtain ⟨fl, S', e⟩ := h
  refine ⟨[], [], [], [.fro true (intsD ns)], List.nodup_nil, fun _ h => (nomatch h), ⟨rfl, fun k a c h => (nomatch h)⟩, .cons (.fro ?_ (rall_ints ns)) .nil, ?_⟩
  · rcases script_of hO hS with ⟨o, h⟩ | h
    · exact .inl ⟨by simp, by simp, o, h⟩
    · exact .inr (.inr h)
  · rw [e]
    exact fun ι' v H' _ _ _ rf => rf.rt.sBl
end
end Fx
namespace Fx
open PySem PySem.Spec PyProof.Rows L2 U
theorem fold_flat {g : Gd} {step : StepC} {f : D → List D} {S : Sto} (hg : gOk g S) : ∀ {ds acc : List D}, (∀ d ∈ ds, ∀ acc : List D, acc.length < lim → step d acc S = some (acc ++ f d, S)) → (∀ d ∈ ds, (f d).length ≤ 1) → acc.length + ds.length ≤ lim →
    foldC g step ds acc S = some (acc ++ ds.flatMap f, S)
  | [], acc, _, _, _ => by unfold foldC; rw [if_pos hg]; simp
  | d :: ds, acc, h, h1, hl => by
    rw [List.length_cons] at hl
    unfold foldC
    rw [if_pos hg, h d List.mem_cons_self acc (by omega)]
    have := h1 d List.mem_cons_self
    dsimp only
    rw [fold_flat hg (fun e he => h e (List.mem_cons_of_mem _ he)) (fun e he => h1 e (List.mem_cons_of_mem _ he)) (by rw [List.length_append]; omega), List.append_assoc, List.flatMap_cons]
theorem lc_flat {it : FI} {set : FG} {tt te : FE} {vs : List Nat} {ρ : Ev} {S S1 : Sto} {ds : List D} {g : Gd} {c : D → Bool} {f : D → D} (hi : it ρ S = .ok ds g S1) (hg : gOk g S1) (hl : ds.length ≤ lim)
    (h : ∀ d ∈ ds, ∃ ρ1 f1, set d (wipeE ρ vs) S1 = some ρ1 ∧ tt ρ1 S1 = .ok (.bl (c d)) f1 S1 ∧ (c d = true → ∃ f2, te ρ1 S1 = .ok (f d) f2 S1 ∧ f2.nop = true)) :
    fLc it set tt te vs ρ S = .ok (.lst ((ds.filter c).map f)) .fs S1 := by
  have key : ds.flatMap (fun d => if c d = true then [f d] else []) = (ds.filter c).map f := by
    clear h hl hi
    induction ds with
    | nil => rfl
    | cons d ds ih =>
      rw [List.flatMap_cons, ih, List.filter_cons]
      cases c d <;> simp
  unfold fLc fLcG
  rw [hi]
  dsimp only
  rw [fold_flat (f := fun d => if c d = true then [f d] else []) hg (fun d hd acc ha => ?_) (fun d hd => by split <;> simp) (by simpa using hl), key, List.nil_append]
  obtain ⟨ρ1, f1, e1, e2, e3⟩ := h d hd
  unfold step1
  rw [e1]
  dsimp only
  rw [e2]
  cases hc : c d with
  | true =>
    obtain ⟨f2, e4, e5⟩ := e3 hc
    dsimp only
    rw [e4]
    dsimp only
    rw [e5, decide_eq_true ha]
    rfl
  | false => dsimp only; rw [if_neg Bool.false_ne_true, List.append_nil]
theorem lc_map {it : FI} {set : FG} {te : FE} {vs : List Nat} {ρ : Ev} {S S1 : Sto} {ds : List D} {g : Gd} {f : D → D} (hi : it ρ S = .ok ds g S1) (hg : gOk g S1) (hl : ds.length ≤ lim)
    (h : ∀ d ∈ ds, ∃ ρ1 f2, set d (wipeE ρ vs) S1 = some ρ1 ∧ te ρ1 S1 = .ok (f d) f2 S1 ∧ f2.nop = true) :
    fLc it set (fC (.bl true)) te vs ρ S = .ok (.lst (ds.map f)) .fs S1 := by
  have := lc_flat (tt := fC (.bl true)) (te := te) (c := fun _ => true) (f := f) hi hg hl fun d hd => by
    obtain ⟨ρ1, f2, e1, e2, e3⟩ := h d hd
    exact ⟨ρ1, .tr, e1, rfl, fun _ => ⟨f2, e2, e3⟩⟩
  rw [this, List.filter_eq_self.mpr (fun _ _ => rfl)]
theorem bools_map {α : Type} (f : α → Bool) : ∀ l : List α, bools (l.map fun x => .bl (f x)) = some (l.map f)
  | [] => rfl
  | x :: l => by simp only [List.map_cons, bools, bools_map f l, Option.map_some]
/-- a for without breaks: the state behind each item -/
theorem loop_step {g : Gd} {set : FG} {body : FS} {d : D} {ds : List D} {ρ ρ1 ρ2 : Ev} {S S2 : Sto} (hg : gOk g S) (h1 : set d ρ S = some ρ1) (h2 : body ρ1 S = .nx ρ2 S2) : loopS g set body (d :: ds) ρ S = loopS g set body ds ρ2 S2 := by
  conv => lhs; unfold loopS
  rw [if_pos hg, h1]
  dsimp only
  rw [h2]
theorem loop_cont {g : Gd} {set : FG} {body : FS} {d : D} {ds : List D} {ρ ρ1 ρ2 : Ev} {S S2 : Sto} (hg : gOk g S) (h1 : set d ρ S = some ρ1) (h2 : body ρ1 S = .ct ρ2 S2) : loopS g set body (d :: ds) ρ S = loopS g set body ds ρ2 S2 := by
  conv => lhs; unfold loopS
  rw [if_pos hg, h1]
  dsimp only
  rw [h2]
theorem loop_end {g : Gd} {set : FG} {body : FS} {ρ : Ev} {S : Sto} (hg : gOk g S) : loopS g set body [] ρ S = .nx ρ S := by
  unfold loopS; rw [if_pos hg]
/-- a for whose state keeps a form: I i ρ S ahead of item i -/
theorem loop_inv {g : Gd} {set : FG} {body : FS} (I : Nat → Ev → Sto → Prop) {ds : List D} (hg : ∀ i ρ S, I i ρ S → gOk g S)
    (hs : ∀ i d ρ S, ds[i]? = some d → I i ρ S → ∃ ρ1 ρ2 S2, set d ρ S = some ρ1 ∧ (body ρ1 S = .nx ρ2 S2 ∨ body ρ1 S = .ct ρ2 S2) ∧ I (i + 1) ρ2 S2) {ρ : Ev} {S : Sto} (h0 : I 0 ρ S) : ∃ ρ' S', loopS g set body ds ρ S = .nx ρ' S' ∧ I ds.length ρ' S' := by
  have key : ∀ (n i : Nat) (ρ : Ev) (S : Sto), n = ds.length - i → i ≤ ds.length → I i ρ S → ∃ ρ' S', loopS g set body (ds.drop i) ρ S = .nx ρ' S' ∧ I ds.length ρ' S' := by
    intro n
    induction n with
    | zero =>
      intro i ρ S hn hi h
      obtain rfl : i = ds.length := by omega
      rw [List.drop_length, loop_end (hg _ _ _ h)]
      exact ⟨ρ, S, rfl, h⟩
    | succ n ih =>
      intro i ρ S hn hi h
      have hlt : i < ds.length := by omega
      rw [List.drop_eq_getElem_cons hlt]
      obtain ⟨ρ1, ρ2, S2, e1, e2, e3⟩ := hs i ds[i] ρ S (List.getElem?_eq_getElem hlt) h
      rcases e2 with e2 | e2
      · rw [loop_step (hg _ _ _ h) e1 e2]; exact ih (i + 1) ρ2 S2 (by omega) hlt e3
      · rw [loop_cont (hg _ _ _ h) e1 e2]; exact ih (i + 1) ρ2 S2 (by omega) hlt e3
  have := key ds.length 0 ρ S (by omega) (Nat.zero_le _) h0
  rwa [List.drop_zero] at this
section
mutual
theorem tree_mono {c c' : Nat → Option PyData} (h : ∀ k p, c k = some p → c' k = some p) : ∀ (d : D) {p : PyData}, tree c d = some p → tree c' d = some p
  | .non, _, e => by simpa only [tree] using e
  | .bl _, _, e => by simpa only [tree] using e
  | .int _, _, e => by simpa only [tree] using e
  | .str _, _, e => by simpa only [tree] using e
  | .lst ds, _, e => by
    simp only [tree, Option.map_eq_some_iff] at e ⊢
    obtain ⟨ps, e1, e2⟩ := e
    exact ⟨ps, treeAll_mono h ds e1, e2⟩
  | .tup ds, _, e => by
    simp only [tree, Option.map_eq_some_iff] at e ⊢
    obtain ⟨ps, e1, e2⟩ := e
    exact ⟨ps, treeAll_mono h ds e1, e2⟩
  | .fro _ _, _, e => by simp only [tree] at e; cases e
  | .dct [], _, e => by simpa only [tree] using e
  | .dct (_ :: _), _, e => by simp only [tree] at e; cases e
  | .cel k, _, e => by simp only [tree] at e ⊢; exact h k _ e
  | .obj _ _, _, e => by simp only [tree] at e; cases e
theorem treeAll_mono {c c' : Nat → Option PyData} (h : ∀ k p, c k = some p → c' k = some p) : ∀ (ds : List D) {ps : List PyData}, treeAll c ds = some ps → treeAll c' ds = some ps
  | [], _, e => by simpa only [treeAll] using e
  | d :: ds, _, e => by
    simp only [treeAll] at e ⊢
    split at e
    · rename_i p ps e1 e2
      rw [tree_mono h d e1, treeAll_mono h ds e2]; exact e
    · cases e
end
theorem cells_mono {S : Sto} : ∀ (n : Nat) (k : Nat) (p : PyData), cells n S k = some p → cells (n + 1) S k = some p
  | 0, _, _, e => by unfold cells at e; cases e
  | n + 1, k, p, e => by
    unfold cells at e ⊢
    split at e
    · rename_i ds es
      rw [Option.map_eq_some_iff] at e ⊢
      obtain ⟨ps, e1, e2⟩ := e
      exact ⟨ps, treeAll_mono (cells_mono n) ds e1, e2⟩
    · cases e
/-- d is the data p in the store -/
def Py (S : Sto) (d : D) (p : PyData) : Prop := toP S d = some p
def PyAll (S : Sto) (ds : List D) (ps : List PyData) : Prop := treeAll (cells 4 S) ds = some ps
theorem PyAll.len {S : Sto} : ∀ {ds : List D} {ps : List PyData}, PyAll S ds ps → ds.length = ps.length
  | [], _, h => by unfold PyAll at h; simp only [treeAll] at h; cases h; rfl
  | d :: ds, _, h => by
    unfold PyAll at h
    simp only [treeAll] at h
    split at h
    · rename_i p ps e1 e2
      cases h
      rw [List.length_cons, List.length_cons, PyAll.len e2]
    · cases h
theorem PyAll.at {S : Sto} : ∀ {ds : List D} {ps : List PyData} {i : Nat} {d : D}, PyAll S ds ps → ds[i]? = some d → ∃ p, ps[i]? = some p ∧ Py S d p
  | [], _, i, _, h, e => by simp at e
  | d :: ds, _, i, _, h, e => by
    unfold PyAll at h
    simp only [treeAll] at h
    split at h
    · rename_i p ps e1 e2
      cases h
      cases i with
      | zero => simp at e; subst e; exact ⟨p, rfl, e1⟩
      | succ i => obtain ⟨q, h1, h2⟩ := PyAll.at (ds := ds) e2 (by simpa using e); exact ⟨q, by simpa using h1, h2⟩
    · cases h
theorem PyAll.mem {S : Sto} {ds : List D} {ps : List PyData} {d : D} (h : PyAll S ds ps) (hd : d ∈ ds) : ∃ p ∈ ps, Py S d p := by
  obtain ⟨i, hi, rfl⟩ := List.getElem_of_mem hd
  obtain ⟨p, h1, h2⟩ := h.at (List.getElem?_eq_getElem hi)
  exact ⟨p, List.mem_of_getElem? h1, h2⟩
theorem PyAll.cons {S : Sto} {d : D} {ds : List D} {p : PyData} {ps : List PyData} (h1 : Py S d p) (h2 : PyAll S ds ps) : PyAll S (d :: ds) (p :: ps) := by
  unfold PyAll; unfold Py toP at h1; unfold PyAll at h2
  simp only [treeAll, h1, h2]
theorem PyAll.nil {S : Sto} : PyAll S [] [] := by unfold PyAll; simp only [treeAll]
theorem PyAll.app {S : Sto} : ∀ {ds es : List D} {ps qs : List PyData}, PyAll S ds ps → PyAll S es qs → PyAll S (ds ++ es) (ps ++ qs)
  | [], _, _, _, h, g => by unfold PyAll at h; simp only [treeAll] at h; cases h; exact g
  | d :: ds, _, _, _, h, g => by
    unfold PyAll at h
    simp only [treeAll] at h
    split at h
    · rename_i p ps e1 e2
      cases h
      exact PyAll.cons e1 (PyAll.app e2 g)
    · cases h
theorem py_lst {S : Sto} {ds : List D} {ps : List PyData} (h : PyAll S ds ps) : Py S (.lst ds) (.list ps) := by unfold Py toP; unfold PyAll at h; simp only [tree, h, Option.map_some]
theorem py_tup {S : Sto} {ds : List D} {ps : List PyData} (h : PyAll S ds ps) : Py S (.tup ds) (.tuple ps) := by unfold Py toP; unfold PyAll at h; simp only [tree, h, Option.map_some]
theorem py_str (S : Sto) (z : Str) : Py S (.str z) (.str z) := by unfold Py toP; simp only [tree]
theorem py_int (S : Sto) (z : Int) : Py S (.int z) (.int z) := by unfold Py toP; simp only [tree]
theorem py_bl (S : Sto) (z : Bool) : Py S (.bl z) (.bool z) := by unfold Py toP; simp only [tree]
theorem py_non (S : Sto) : Py S .non .none := by unfold Py toP; simp only [tree]
theorem py_dct (S : Sto) : Py S (.dct []) (.dict []) := by unfold Py toP; simp only [tree]
/-- what a value can be, by its data -/
theorem py_inv {S : Sto} {d : D} {p : PyData} (h : Py S d p) : (p = .none ∧ d = .non) ∨ (∃ b, p = .bool b ∧ d = .bl b) ∨ (∃ i, p = .int i ∧ d = .int i) ∨ (∃ z, p = .str z ∧ d = .str z) ∨
    (∃ ps ds, p = .list ps ∧ PyAll S ds ps ∧ (d = .lst ds ∨ ∃ k, d = .cel k ∧ S[k]? = some (.lst ds))) ∨ (∃ ps ds, p = .tuple ps ∧ PyAll S ds ps ∧ d = .tup ds) ∨ (p = .dict [] ∧ d = .dct []) := by
  unfold Py toP at h
  cases d with
  | non => simp only [tree] at h; cases h; exact .inl ⟨rfl, rfl⟩
  | bl b => simp only [tree] at h; cases h; exact .inr (.inl ⟨b, rfl, rfl⟩)
  | int i => simp only [tree] at h; cases h; exact .inr (.inr (.inl ⟨i, rfl, rfl⟩))
  | str z => simp only [tree] at h; cases h; exact .inr (.inr (.inr (.inl ⟨z, rfl, rfl⟩)))
  | lst ds =>
    simp only [tree, Option.map_eq_some_iff] at h
    obtain ⟨ps, h1, h2⟩ := h
    exact .inr (.inr (.inr (.inr (.inl ⟨ps, ds, h2.symm, h1, .inl rfl⟩))))
  | tup ds =>
    simp only [tree, Option.map_eq_some_iff] at h
    obtain ⟨ps, h1, h2⟩ := h
    exact .inr (.inr (.inr (.inr (.inr (.inl ⟨ps, ds, h2.symm, h1, rfl⟩)))))
  | fro l ds => simp only [tree] at h; cases h
  | dct es =>
    cases es with
    | nil => simp only [tree] at h; cases h; exact .inr (.inr (.inr (.inr (.inr (.inr ⟨rfl, rfl⟩)))))
    | cons => simp only [tree] at h; cases h
  | cel k =>
    simp only [tree] at h
    unfold cells at h
    split at h
    · rename_i ds es
      rw [Option.map_eq_some_iff] at h
      obtain ⟨ps, h1, h2⟩ := h
      exact .inr (.inr (.inr (.inr (.inl ⟨ps, ds, h2.symm, treeAll_mono (cells_mono 3) ds h1, .inr ⟨k, rfl, es⟩⟩))))
    · cases h
  | obj => simp only [tree] at h; cases h
  | cls => simp only [tree] at h; cases h
theorem py_ty {S : Sto} {d : D} {p : PyData} (h : Py S d p) : tyDf S d = some (tyD p) := by
  rcases py_inv h with ⟨rfl, rfl⟩ | ⟨b, rfl, rfl⟩ | ⟨b, rfl, rfl⟩ | ⟨b, rfl, rfl⟩ | ⟨ps, ds, rfl, h1, h2⟩ | ⟨ps, ds, rfl, h1, rfl⟩ | ⟨rfl, rfl⟩
  · rfl
  · rfl
  · rfl
  · rfl
  · rcases h2 with rfl | ⟨k, rfl, e⟩
    · rfl
    · unfold tyDf; dsimp only; rw [e]; rfl
  · rfl
  · rfl
/-- a list or tuple by its data -/
theorem py_sq {S : Sto} {d : D} {p : PyData} {ps : List PyData} (h : Py S d p) (e : p = .list ps ∨ p = .tuple ps) : ∃ ds g, sqOf S d = some ds ∧ itemsD S d = some (ds, g) ∧ gOk g S ∧ PyAll S ds ps := by
  rcases py_inv h with ⟨rfl, rfl⟩ | ⟨b, rfl, rfl⟩ | ⟨b, rfl, rfl⟩ | ⟨b, rfl, rfl⟩ | ⟨qs, ds, rfl, h1, h2⟩ | ⟨qs, ds, rfl, h1, rfl⟩ | ⟨rfl, rfl⟩
  · rcases e with e | e <;> cases e
  · rcases e with e | e <;> cases e
  · rcases e with e | e <;> cases e
  · rcases e with e | e <;> cases e
  · rcases e with e | e <;> cases e
    rcases h2 with rfl | ⟨k, rfl, e⟩
    · exact ⟨ds, none, rfl, rfl, trivial, h1⟩
    · refine ⟨ds, some (k, ds), ?_, ?_, e, h1⟩
      · unfold sqOf; dsimp only; rw [e]
      · unfold itemsD; dsimp only; rw [e]
  · rcases e with e | e <;> cases e
    exact ⟨ds, none, rfl, rfl, trivial, h1⟩
  · rcases e with e | e <;> cases e
end
end Fx
namespace Fx
open PySem PySem.Spec PyProof.Rows L2 U
noncomputable section
section
variable {d e : D} {f fl : Fl} {S S1 S2 : Sto} {ρ ρ1 : Ev} {c : Nat} {fs : List (Str × D)}
theorem bE_ok {k : D → Fl → Sto → RE} : bE (.ok d f S) k = k d f S := rfl
theorem bE_xc {k : D → Fl → Sto → RE} : bE (.xc c fs S) k = .xc c fs S := rfl
theorem bS_nx {k : Ev → Sto → RSt} : bS (.nx ρ S) k = k ρ S := rfl
theorem bS_rt {k : Ev → Sto → RSt} : bS (.rt d f S) k = .rt d f S := rfl
theorem bS_bk {k : Ev → Sto → RSt} : bS (.bk ρ S) k = .bk ρ S := rfl
theorem bS_ct {k : Ev → Sto → RSt} : bS (.ct ρ S) k = .ct ρ S := rfl
theorem bS_xc {k : Ev → Sto → RSt} : bS (.xc c fs ρ S) k = .xc c fs ρ S := rfl
theorem eS_ok {k : D → Fl → Sto → RSt} : eS (.ok d f S) ρ k = k d f S := rfl
theorem eS_xc {k : D → Fl → Sto → RSt} : eS (.xc c fs S) ρ k = .xc c fs ρ S := rfl
theorem v_seq {a b : FS} : sSeq a b ρ S = bS (a ρ S) b := rfl
theorem v_next : sNext ρ S = .nx ρ S := rfl
theorem v_break : sBreak ρ S = .bk ρ S := rfl
theorem v_cont : sCont ρ S = .ct ρ S := rfl
theorem v_c : fC d ρ S = .ok d .tr S := rfl
def kVar (s : Option Sl) (S : Sto) : RE := match s with
  | some (.val d) => .ok d .tr S
  | some (.own ds) => .ok (.lst ds) .pk S
  | some (.oob c fs) => .ok (.obj c fs) .pk S
  | _ => .bad
theorem v_var {i : Nat} : fVar i ρ S = kVar ρ[i]? S := by
  unfold fVar kVar; rfl
theorem kVar_val : kVar (some (.val d)) S = .ok d .tr S := rfl
theorem kVar_own {ds : List D} : kVar (some (.own ds)) S = .ok (.lst ds) .pk S := rfl
theorem kVar_oob : kVar (some (.oob c fs)) S = .ok (.obj c fs) .pk S := rfl
def kOp2 (g : D → D → Sto → RE) (d e : D) (_ : Fl) (S : Sto) : RE := g d e S
def kOp1 (g : D → D → Sto → RE) (eb : FE) (ρ : Ev) (d : D) (_ : Fl) (S : Sto) : RE := bE (eb ρ S) (kOp2 g d)
theorem v_op {g : D → D → Sto → RE} {ea eb : FE} : fOp g ea eb ρ S = bE (ea ρ S) (kOp1 g eb ρ) := rfl
theorem v_op1 {g : D → D → Sto → RE} {eb : FE} : kOp1 g eb ρ d f S = bE (eb ρ S) (kOp2 g d) := rfl
theorem v_op2 {g : D → D → Sto → RE} : kOp2 g d e f S = g d e S := rfl
def kUn (g : D → Sto → RE) (d : D) (_ : Fl) (S : Sto) : RE := g d S
theorem v_un {g : D → Sto → RE} {ea : FE} : fUn g ea ρ S = bE (ea ρ S) (kUn g) := rfl
theorem v_un1 {g : D → Sto → RE} : kUn g d f S = g d S := rfl
def kNot (d : D) (_ : Fl) (S : Sto) : RE := match d with
  | .bl b => .ok (.bl (!b)) .tr S
  | _ => .bad
theorem v_not {ea : FE} : fNot ea ρ S = bE (ea ρ S) kNot := rfl
theorem v_not1 {b : Bool} : kNot (.bl b) f S = .ok (.bl (!b)) .tr S := rfl
def kAnd (eb : FE) (ρ : Ev) (d : D) (_ : Fl) (S : Sto) : RE := match d with
  | .bl true => eb ρ S
  | .bl false => .ok (.bl false) .tr S
  | _ => .bad
theorem v_and {ea eb : FE} : fAnd ea eb ρ S = bE (ea ρ S) (kAnd eb ρ) := rfl
theorem v_andT {eb : FE} : kAnd eb ρ (.bl true) f S = eb ρ S := rfl
theorem v_andF {eb : FE} : kAnd eb ρ (.bl false) f S = .ok (.bl false) .tr S := rfl
def kOr (eb : FE) (ρ : Ev) (d : D) (_ : Fl) (S : Sto) : RE := match d with
  | .bl true => .ok (.bl true) .tr S
  | .bl false => eb ρ S
  | _ => .bad
theorem v_or {ea eb : FE} : fOr ea eb ρ S = bE (ea ρ S) (kOr eb ρ) := rfl
theorem v_orT {eb : FE} : kOr eb ρ (.bl true) f S = .ok (.bl true) .tr S := rfl
theorem v_orF {eb : FE} : kOr eb ρ (.bl false) f S = eb ρ S := rfl
def kIf (ea eb : FE) (ρ : Ev) (d : D) (_ : Fl) (S : Sto) : RE := match d with
  | .bl true => ea ρ S
  | .bl false => eb ρ S
  | _ => .bad
theorem v_if {ec ea eb : FE} : fIf ec ea eb ρ S = bE (ec ρ S) (kIf ea eb ρ) := rfl
theorem v_ifT {ea eb : FE} : kIf ea eb ρ (.bl true) f S = ea ρ S := rfl
theorem v_ifF {ea eb : FE} : kIf ea eb ρ (.bl false) f S = eb ρ S := rfl
def kCh2 (g' : D → D → Sto → RE) (e w : D) (_ : Fl) (S : Sto) : RE := g' e w S
def kCh1 (g' : D → D → Sto → RE) (ec : FE) (ρ : Ev) (e z : D) (_ : Fl) (S : Sto) : RE := match z with
  | .bl true => bE (ec ρ S) (kCh2 g' e)
  | .bl false => .ok (.bl false) .tr S
  | _ => .bad
def kCh0 (g g' : D → D → Sto → RE) (ec : FE) (ρ : Ev) (d e : D) (_ : Fl) (S : Sto) : RE := bE (g d e S) (kCh1 g' ec ρ e)
def kCh (g g' : D → D → Sto → RE) (eb ec : FE) (ρ : Ev) (d : D) (_ : Fl) (S : Sto) : RE := bE (eb ρ S) (kCh0 g g' ec ρ d)
theorem v_chain {g g' : D → D → Sto → RE} {ea eb ec : FE} : fChain g g' ea eb ec ρ S = bE (ea ρ S) (kCh g g' eb ec ρ) := rfl
theorem v_ch {g g' : D → D → Sto → RE} {eb ec : FE} : kCh g g' eb ec ρ d f S = bE (eb ρ S) (kCh0 g g' ec ρ d) := rfl
theorem v_ch0 {g g' : D → D → Sto → RE} {ec : FE} : kCh0 g g' ec ρ d e f S = bE (g d e S) (kCh1 g' ec ρ e) := rfl
theorem v_ch1T {g' : D → D → Sto → RE} {ec : FE} : kCh1 g' ec ρ e (.bl true) f S = bE (ec ρ S) (kCh2 g' e) := rfl
theorem v_ch1F {g' : D → D → Sto → RE} {ec : FE} : kCh1 g' ec ρ e (.bl false) f S = .ok (.bl false) .tr S := rfl
theorem v_ch2 {g' : D → D → Sto → RE} {w : D} : kCh2 g' e w f S = g' e w S := rfl
def rIsi (p : Ty → Bool) (t : Option Ty) (S : Sto) : RE := match t with
  | some t => .ok (.bl (p t)) .tr S
  | none => .bad
def kIsi (p : Ty → Bool) (d : D) (_ : Fl) (S : Sto) : RE := rIsi p (tyDf S d) S
theorem v_isi {t : Ty} {fe : FE} : fIsi t fe ρ S = bE (fe ρ S) (kIsi (fun x => isT x t)) := rfl
theorem v_isiT {cs : List Ty} {fe : FE} : fIsiT cs fe ρ S = bE (fe ρ S) (kIsi (fun x => cs.any (isT x))) := rfl
theorem v_isi1 {p : Ty → Bool} : kIsi p d f S = rIsi p (tyDf S d) S := rfl
theorem v_isi2 {p : Ty → Bool} {t : Ty} : rIsi p (some t) S = .ok (.bl (p t)) .tr S := rfl
theorem ty_non : tyDf S .non = some .non := rfl
theorem ty_bl {b : Bool} : tyDf S (.bl b) = some .bl := rfl
theorem ty_int {i : Int} : tyDf S (.int i) = some .int := rfl
theorem ty_str {z : Str} : tyDf S (.str z) = some .str := rfl
theorem ty_lst {ds : List D} : tyDf S (.lst ds) = some .lst := rfl
theorem ty_tup {ds : List D} : tyDf S (.tup ds) = some .tup := rfl
theorem ty_dct {ds : List (Key × D)} : tyDf S (.dct ds) = some .dct := rfl
theorem tyd_non : tyD .none = .non := rfl
theorem tyd_bl {b : Bool} : tyD (.bool b) = .bl := rfl
theorem tyd_int {i : Int} : tyD (.int i) = .int := rfl
theorem tyd_str {z : Str} : tyD (.str z) = .str := rfl
theorem tyd_lst {ps : List PyData} : tyD (.list ps) = .lst := rfl
theorem tyd_tup {ps : List PyData} : tyD (.tuple ps) = .tup := rfl
theorem tyd_dct {ps : List (PyData × PyData)} : tyD (.dict ps) = .dct := rfl
def bA (r : RA) (k : List D → Bool → Sto → RE) : RE := match r with
  | .ok ds t S1 => k ds t S1
  | .xc c fs S1 => .xc c fs S1
  | .bad => .bad
theorem v_cb {g : List D → Bool → Sto → RE} {fa : FA} : fCB g fa ρ S = bA (fa ρ S) g := rfl
theorem bA_ok {ds : List D} {t : Bool} {k : List D → Bool → Sto → RE} : bA (.ok ds t S) k = k ds t S := rfl
theorem bA_xc {k : List D → Bool → Sto → RE} : bA (.xc c fs S) k = .xc c fs S := rfl
def kCons2 (d : D) (f : Fl) (r : RA) : RA := match r with
  | .ok ds t S2 => .ok (d :: ds) (f.nop && t) S2
  | .xc c fs S2 => .xc c fs S2
  | .bad => .bad
def kCons1 (fr : FA) (ρ : Ev) (r : RE) : RA := match r with
  | .ok d f S1 => kCons2 d f (fr ρ S1)
  | .xc c fs S1 => .xc c fs S1
  | .bad => .bad
theorem v_nil : fNil ρ S = .ok [] true S := rfl
theorem v_cons {fa : FE} {fr : FA} : fCons fa fr ρ S = kCons1 fr ρ (fa ρ S) := by
  unfold fCons kCons1 kCons2
  rfl
theorem v_cons1 {fr : FA} : kCons1 fr ρ (.ok d f S) = kCons2 d f (fr ρ S) := rfl
theorem v_cons1x {fr : FA} : kCons1 fr ρ (.xc c fs S) = .xc c fs S := rfl
theorem v_cons2 {ds : List D} {t : Bool} : kCons2 d f (.ok ds t S) = .ok (d :: ds) (f.nop && t) S := rfl
theorem v_cons2x : kCons2 d f (.xc c fs S) = .xc c fs S := rfl
theorem nop_tr : Fl.nop .tr = true := rfl
theorem nop_fs : Fl.nop .fs = true := rfl
theorem nop_pk : Fl.nop .pk = false := rfl
theorem v_lst {fa : FA} : fLst fa ρ S = bA (fa ρ S) dLst := rfl
theorem v_tup {fa : FA} : fTup fa ρ S = bA (fa ρ S) dTup := rfl
theorem d_lst {ds : List D} (h : ds.length ≤ lim) : dLst ds true S = .ok (.lst ds) .fs S := by unfold dLst; simp [h]
theorem d_tup {ds : List D} (h : ds.length ≤ lim) : dTup ds true S = .ok (.tup ds) .tr S := by unfold dTup; simp [h]
theorem v_dnew : fDNew ρ S = .ok (.dct []) .tr S := rfl
def kCall (g : FF) (dd ds : List D) (t : Bool) (S : Sto) : RE := if t = true then g (ds ++ dd) S else .bad
theorem v_call {g : FF} {dd : List D} {fa : FA} : fCall g dd fa ρ S = bA (fa ρ S) (kCall g dd) := rfl
theorem v_call1 {g : FF} {dd ds : List D} : kCall g dd ds true S = g (ds ++ dd) S := rfl
def kM1b (g : Str → D → Sto → RE) (a : Str) (e : D) (_ : Fl) (S : Sto) : RE := g a e S
def kM1 (g : Str → D → Sto → RE) (fe : FE) (ρ : Ev) (d : D) (_ : Fl) (S : Sto) : RE := match d with
  | .str a => bE (fe ρ S) (kM1b g a)
  | _ => .bad
theorem v_m1 {g : Str → D → Sto → RE} {fo fe : FE} : fM1 g fo fe ρ S = bE (fo ρ S) (kM1 g fe ρ) := rfl
theorem v_m1a {g : Str → D → Sto → RE} {fe : FE} {a : Str} : kM1 g fe ρ (.str a) f S = bE (fe ρ S) (kM1b g a) := rfl
theorem v_m1b {g : Str → D → Sto → RE} {a : Str} : kM1b g a e f S = g a e S := rfl
def kPart (r : RE) : RO := match r with
  | .ok (.int i) _ S1 => .ok (some i) S1
  | .ok _ _ _ => .bad
  | .xc c fs S1 => .xc c fs S1
  | .bad => .bad
theorem v_part {fe : FE} : fPart fe ρ S = kPart (fe ρ S) := rfl
theorem v_part1 {i : Int} : kPart (.ok (.int i) f S) = .ok (some i) S := rfl
theorem v_nopart : fNoPart ρ S = .ok none S := rfl
def kSl2 (d : D) (l u : Option Int) (S : Sto) : RE := dSl d l u S
def kSl1 (d : D) (hi : FO) (ρ : Ev) (l : Option Int) (S : Sto) : RE := bO (hi ρ S) (kSl2 d l)
def kSl (lo hi : FO) (ρ : Ev) (d : D) (_ : Fl) (S : Sto) : RE := bO (lo ρ S) (kSl1 d hi ρ)
theorem v_sl {fe : FE} {lo hi : FO} : fSl fe lo hi ρ S = bE (fe ρ S) (kSl lo hi ρ) := rfl
theorem v_sl0 {lo hi : FO} : kSl lo hi ρ d f S = bO (lo ρ S) (kSl1 d hi ρ) := rfl
theorem v_sl1 {hi : FO} {l : Option Int} : kSl1 d hi ρ l S = bO (hi ρ S) (kSl2 d l) := rfl
theorem v_sl2 {l u : Option Int} : kSl2 d l u S = dSl d l u S := rfl
theorem bO_ok {o : Option Int} {k : Option Int → Sto → RE} : bO (.ok o S) k = k o S := rfl
def kRev (d : D) (_ : Fl) (S1 : Sto) : RE := match d with
  | .str z => if z.length ≤ lim then .ok (.str (revS z)) .tr S1 else .bad
  | d => (match lsOf S1 d with
    | some ds => .ok (.lst ds.reverse) .fs S1
    | none => .bad)
theorem v_rev {fe : FE} : fRev fe ρ S = bE (fe ρ S) kRev := rfl
def kExpr (ρ : Ev) (_ : D) (_ : Fl) (S : Sto) : RSt := .nx ρ S
theorem v_expr {fe : FE} : sExpr fe ρ S = eS (fe ρ S) ρ (kExpr ρ) := rfl
theorem v_expr1 : kExpr ρ d f S = .nx ρ S := rfl
def kIfS (fa fb : FS) (ρ : Ev) (d : D) (_ : Fl) (S : Sto) : RSt := match d with
  | .bl true => fa ρ S
  | .bl false => fb ρ S
  | _ => .bad
theorem v_ifs {fc : FE} {fa fb : FS} : sIf fc fa fb ρ S = eS (fc ρ S) ρ (kIfS fa fb ρ) := rfl
theorem v_ifsT {fa fb : FS} : kIfS fa fb ρ (.bl true) f S = fa ρ S := rfl
theorem v_ifsF {fa fb : FS} : kIfS fa fb ρ (.bl false) f S = fb ρ S := rfl
def kRet (d : D) (f : Fl) (S : Sto) : RSt := if f.nop = true then .rt d f S else .bad
theorem v_ret {fe : FE} : sRet fe ρ S = eS (fe ρ S) ρ kRet := rfl
theorem v_retT : kRet d .tr S = .rt d .tr S := rfl
theorem v_retS : kRet d .fs S = .rt d .fs S := rfl
theorem v_retN : sRetN ρ S = .rt .non .tr S := rfl
def kRetV (s : Option Sl) (S : Sto) : RSt := match s with
  | some (.val d) => .rt d .tr S
  | some (.own ds) => .rt (.lst ds) .fs S
  | _ => .bad
theorem v_retV {i : Nat} : sRetV i ρ S = kRetV ρ[i]? S := by unfold sRetV kRetV; rfl
theorem v_retV1 : kRetV (some (.val d)) S = .rt d .tr S := rfl
theorem v_retV2 {ds : List D} : kRetV (some (.own ds)) S = .rt (.lst ds) .fs S := rfl
def kAsg2 (r : Option Ev) (S : Sto) : RSt := match r with
  | some ρ' => .nx ρ' S
  | none => .bad
def kAsg (g : FG) (ρ : Ev) (d : D) (f : Fl) (S : Sto) : RSt := if f.nop = true then kAsg2 (g d ρ S) S else .bad
theorem v_asg {fe : FE} {g : FG} : sAsg fe g ρ S = eS (fe ρ S) ρ (kAsg g ρ) := rfl
theorem v_asgT {g : FG} : kAsg g ρ d .tr S = kAsg2 (g d ρ S) S := rfl
theorem v_asgS {g : FG} : kAsg g ρ d .fs S = kAsg2 (g d ρ S) S := rfl
theorem v_asg2 : kAsg2 (some ρ) S = .nx ρ S := rfl
theorem v_gn {i : Nat} : gN i d ρ S = some (ρ.set i (.val d)) := rfl
def kGs (g : FGs) (ds : List D) (S : Sto) (r : Option Ev) : Option Ev := match r with
  | some ρ1 => g ds ρ1 S
  | none => none
theorem v_gsNil : gsNil [] ρ S = some ρ := rfl
theorem v_gsCons {g : FG} {gs : FGs} {ds : List D} : gsCons g gs (d :: ds) ρ S = kGs gs ds S (g d ρ S) := by
  unfold gsCons kGs; rfl
theorem v_gs {g : FGs} {ds : List D} : kGs g ds S (some ρ) = g ds ρ S := rfl
def kPar (i j : Nat) (ρ : Ev) (r : RA) : RSt := match r with
  | .ok [d, e] true S1 => .nx ((ρ.set i (.val d)).set j (.val e)) S1
  | .xc c fs S1 => .xc c fs ρ S1
  | _ => .bad
theorem v_par {i j : Nat} {fa : FA} : sPar i j fa ρ S = kPar i j ρ (fa ρ S) := by unfold sPar kPar; rfl
theorem v_par1 {i j : Nat} : kPar i j ρ (.ok [d, e] true S) = .nx ((ρ.set i (.val d)).set j (.val e)) S := rfl
def kAug2 (i : Nat) (g : Int → Int → Int) (x : Int) (ρ : Ev) (d : D) (_ : Fl) (S1 : Sto) : RSt := match d with
  | .int y => .nx (ρ.set i (.val (.int (g x y)))) S1
  | _ => .bad
def kAug (i : Nat) (g : Int → Int → Int) (fe : FE) (ρ : Ev) (S : Sto) (s : Option Sl) : RSt := match s with
  | some (.val (.int x)) => eS (fe ρ S) ρ (kAug2 i g x ρ)
  | _ => .bad
theorem v_aug {i : Nat} {g : Int → Int → Int} {fe : FE} : sAug i g fe ρ S = kAug i g fe ρ S ρ[i]? := by unfold sAug kAug kAug2; rfl
theorem v_aug1 {i : Nat} {g : Int → Int → Int} {fe : FE} {x : Int} : kAug i g fe ρ S (some (.val (.int x))) = eS (fe ρ S) ρ (kAug2 i g x ρ) := rfl
theorem v_aug2 {i : Nat} {g : Int → Int → Int} {x y : Int} : kAug2 i g x ρ (.int y) f S = .nx (ρ.set i (.val (.int (g x y)))) S := rfl
def kOwn (i : Nat) (ρ : Ev) (d : D) (f : Fl) (S1 : Sto) : RSt := match d, f with
  | .lst ds, .fs => .nx (ρ.set i (.own ds)) S1
  | _, _ => .bad
theorem v_own {i : Nat} {fe : FE} : sOwn i fe ρ S = eS (fe ρ S) ρ (kOwn i ρ) := rfl
theorem v_own1 {i : Nat} {ds : List D} : kOwn i ρ (.lst ds) .fs S = .nx (ρ.set i (.own ds)) S := rfl
theorem v_frz {i : Nat} {g : FS} : sFrz i g ρ S = g (frz i ρ) S := rfl
def kFrz (i : Nat) (ρ : Ev) (s : Option Sl) : Ev := match s with
  | some (.own ds) => ρ.set i (.val (.lst ds))
  | _ => ρ
theorem v_frz0 {i : Nat} : frz i ρ = kFrz i ρ ρ[i]? := by unfold frz kFrz; rfl
theorem v_frz1 {i : Nat} {ds : List D} : kFrz i ρ (some (.own ds)) = ρ.set i (.val (.lst ds)) := rfl
theorem v_frz2 {i : Nat} : kFrz i ρ (some (.val d)) = ρ := rfl
theorem v_frz3 {i : Nat} : kFrz i ρ (some .no) = ρ := rfl
theorem v_chk {i : Nat} {g : FS} (h : hasL i ρ S = true) : chk i g ρ S = g ρ S := by unfold chk; rw [if_pos h]
def kApp (i : Nat) (ρ : Ev) (d : D) (f : Fl) (S1 : Sto) : RSt := if f.nop = true then putL i ρ S1 (fun ds => if ds.length < lim then some (ds ++ [d]) else none) else .bad
theorem v_app {i : Nat} {fe : FE} : sApp i fe ρ S = eS (fe ρ S) ρ (kApp i ρ) := rfl
theorem v_app1 {i : Nat} {ds : List D} (hf : f.nop = true) (h : ρ[i]? = some (.own ds)) (hl : ds.length < lim) : kApp i ρ d f S = .nx (ρ.set i (.own (ds ++ [d]))) S := by
  unfold kApp putL; rw [if_pos hf, h]; simp [hl]
theorem v_app2 {i k : Nat} {ds : List D} (hf : f.nop = true) (h : ρ[i]? = some (.val (.cel k))) (hs : S[k]? = some (.lst ds)) (hl : ds.length < lim) : kApp i ρ d f S = .nx ρ (S.set k (.lst (ds ++ [d]))) := by
  unfold kApp putL; rw [if_pos hf, h]; dsimp only; rw [hs]; simp [hl]
def kSet2 (i : Nat) (ρ : Ev) (d e : D) (_ : Fl) (S2 : Sto) : RSt := match e with
  | .int k => putL i ρ S2 (fun ds => (ixN ds.length k).map fun j => ds.set j d)
  | _ => .bad
def kSet (i : Nat) (fi : FE) (ρ : Ev) (d : D) (f : Fl) (S1 : Sto) : RSt := if f.nop = true then (if hasL i ρ S1 = true then eS (fi ρ S1) ρ (kSet2 i ρ d) else .bad) else .bad
theorem v_set {i : Nat} {fi fe : FE} : sSetI i fi fe ρ S = eS (fe ρ S) ρ (kSet i fi ρ) := rfl
theorem v_setC {i k : Nat} {fi : FE} {ds : List D} (hf : f.nop = true) (h : ρ[i]? = some (.val (.cel k))) (hs : S[k]? = some (.lst ds)) : kSet i fi ρ d f S = eS (fi ρ S) ρ (kSet2 i ρ d) := by
  unfold kSet hasL; rw [if_pos hf, h]; simp [hs]
theorem v_setC2 {i k j : Nat} {n : Int} {ds : List D} (h : ρ[i]? = some (.val (.cel k))) (hs : S[k]? = some (.lst ds)) (hj : ixN ds.length n = some j) : kSet2 i ρ d (.int n) f S = .nx ρ (S.set k (.lst (ds.set j d))) := by
  unfold kSet2 putL; simp only; rw [h]; simp [hs, hj]
def kAdo (d : D) (f : Fl) (S1 : Sto) : RE := match d, f with
  | .lst ds, .fs => .ok (.cel S1.length) .tr (S1 ++ [.lst ds])
  | .lst _, _ => .bad
  | d, f => .ok d f S1
theorem v_ado {fe : FE} : fAdo fe ρ S = bE (fe ρ S) kAdo := rfl
theorem v_ado1 {ds : List D} : kAdo (.lst ds) .fs S = .ok (.cel S.length) .tr (S ++ [.lst ds]) := rfl
def kXf (xf : Nat → Str → Bool) (n : Str) (s : Option Sl) (S : Sto) : RE := match s with
  | some (.exn c fs) => if xf c n = true then (match fs.lookup n with
    | some d => .ok d .tr S
    | none => .bad) else .bad
  | _ => .bad
theorem v_xf {xf : Nat → Str → Bool} {i : Nat} {n : Str} : fXf xf i n ρ S = kXf xf n ρ[i]? S := by unfold fXf kXf; rfl
theorem v_xf1 {xf : Nat → Str → Bool} {n : Str} (h : xf c n = true) (hl : fs.lookup n = some d) : kXf xf n (some (.exn c fs)) S = .ok d .tr S := by
  unfold kXf; simp [h, hl]
def kLoop (g : FG) (b : FS) (ρ : Ev) (r : RI) : RSt := match r with
  | .ok ds gd S1 => loopS gd g b ds ρ S1
  | .xc c fs S1 => .xc c fs ρ S1
  | .bad => .bad
theorem v_for {it : FI} {g : FG} {b : FS} : sFor it g b ρ S = kLoop g b ρ (it ρ S) := rfl
theorem v_for1 {g : FG} {b : FS} {ds : List D} {gd : Gd} : kLoop g b ρ (.ok ds gd S) = loopS gd g b ds ρ S := rfl
theorem v_forx {g : FG} {b : FS} : kLoop g b ρ (.xc c fs S) = .xc c fs ρ S := rfl
def kIter2 (r : Option (List D × Gd)) (S : Sto) : RI := match r with
  | some (ds, g) => .ok ds g S
  | none => .bad
def kIter (r : RE) : RI := match r with
  | .ok d f S1 => if f.nop = true then kIter2 (itemsD S1 d) S1 else .bad
  | .xc c fs S1 => .xc c fs S1
  | .bad => .bad
theorem v_iter {fe : FE} : fIter fe ρ S = kIter (fe ρ S) := by unfold fIter kIter kIter2; rfl
theorem v_iter1 : kIter (.ok d .tr S) = kIter2 (itemsD S d) S := rfl
theorem v_iter1s : kIter (.ok d .fs S) = kIter2 (itemsD S d) S := rfl
theorem v_iter2 {ds : List D} {g : Gd} : kIter2 (some (ds, g)) S = .ok ds g S := rfl
theorem it_str {z : Str} : itemsD S (.str z) = some (charsD z, none) := rfl
theorem it_lst {ds : List D} : itemsD S (.lst ds) = some (ds, none) := rfl
theorem it_tup {ds : List D} : itemsD S (.tup ds) = some (ds, none) := rfl
def kRng1 (r : RA) : RI := match r with
  | .ok [.int j] _ S1 => if -(2 ^ 62) ≤ j ∧ j < 2 ^ 62 then .ok (rngD 0 j.toNat) none S1 else .bad
  | .xc c fs S1 => .xc c fs S1
  | _ => .bad
theorem v_rng1 {fa : FA} : fRng1 fa ρ S = kRng1 (fa ρ S) := by unfold fRng1 kRng1; rfl
theorem v_rng1a {j : Int} {t : Bool} (h1 : -(2 ^ 62) ≤ j) (h2 : j < 2 ^ 62) : kRng1 (.ok [.int j] t S) = .ok (rngD 0 j.toNat) none S := by unfold kRng1; exact if_pos ⟨h1, h2⟩
def kEnum (r : RA) : RI := match r with
  | .ok [d] true S1 => (match d with
    | .str z => .ok (enumD (charsD z)) none S1
    | d => (match itemsD S1 d with
      | some (ds, g) => .ok (enumD ds) g S1
      | none => .bad))
  | .xc c fs S1 => .xc c fs S1
  | _ => .bad
theorem v_enum {fa : FA} : fEnum fa ρ S = kEnum (fa ρ S) := by unfold fEnum kEnum; rfl
theorem v_enumL {ds : List D} : kEnum (.ok [.lst ds] true S) = .ok (enumD ds) none S := rfl
theorem v_enumT {ds : List D} : kEnum (.ok [.tup ds] true S) = .ok (enumD ds) none S := rfl
def kRaise (c : Nat) (n : Str) (ρ : Ev) (r : RA) : RSt := match r with
  | .ok [d] true S1 => .xc c [(n, d)] ρ S1
  | .xc c' fs S1 => .xc c' fs ρ S1
  | _ => .bad
theorem v_raise {n : Str} {fa : FA} : sRaise c n fa ρ S = kRaise c n ρ (fa ρ S) := by unfold sRaise kRaise; rfl
theorem v_raise0 : sRaise0 c ρ S = .xc c [] ρ S := rfl
theorem v_raise1 {n : Str} : kRaise c n ρ (.ok [d] true S) = .xc c [(n, d)] ρ S := rfl
def kTry (em : Nat → Nat → Option Bool) (l : List (Nat × Option Nat × FS)) (r : RSt) : RSt := match r with
  | .xc c fs ρ' S' => hand em c fs ρ' S' l
  | r => r
theorem v_try {em : Nat → Nat → Option Bool} {b : FS} {l : List (Nat × Option Nat × FS)} : sTry em b l ρ S = kTry em l (b ρ S) := by unfold sTry kTry; rfl
theorem v_tryN {em : Nat → Nat → Option Bool} {l : List (Nat × Option Nat × FS)} : kTry em l (.nx ρ S) = .nx ρ S := rfl
theorem v_tryX {em : Nat → Nat → Option Bool} {l : List (Nat × Option Nat × FS)} : kTry em l (.xc c fs ρ S) = hand em c fs ρ S l := rfl
theorem v_handF {em : Nat → Nat → Option Bool} {h : Nat} {i : Option Nat} {b : FS} {l : List (Nat × Option Nat × FS)} (e : em c h = some false) : hand em c fs ρ S ((h, i, b) :: l) = hand em c fs ρ S l := by
  cases i with
  | some i =>
    conv => lhs; unfold hand
    rw [e]
  | none =>
    conv => lhs; unfold hand
    rw [e]
theorem v_handT {em : Nat → Nat → Option Bool} {h i : Nat} {b : FS} {l : List (Nat × Option Nat × FS)} {ρ2 : Ev} (e : em c h = some true) (hn : noExn ρ = true) (hb : b (ρ.set i (.exn c fs)) S = .nx ρ2 S2) (hn2 : noExn (ρ2.set i .no) = true) : hand em c fs ρ S ((h, some i, b) :: l) = .nx (ρ2.set i .no) S2 := by
  conv => lhs; unfold hand
  rw [e]; dsimp only
  rw [if_pos hn, hb]; dsimp only
  rw [if_pos hn2]
def kRun (r : RSt) : RE := match r with
  | .nx _ S' => .ok .non .tr S'
  | .rt d f S' => .ok d f S'
  | .xc c fs _ S' => .xc c fs S'
  | _ => .bad
theorem v_r0 {n : Nat} {b : FS} : runF n 0 b [] S = kRun (b (List.replicate n .no) S) := rfl
theorem v_r1 {n : Nat} {b : FS} {x : D} : runF n 1 b [x] S = kRun (b (.val x :: List.replicate (n - 1) .no) S) := rfl
theorem v_r2 {n : Nat} {b : FS} {x y : D} : runF n 2 b [x, y] S = kRun (b (.val x :: .val y :: List.replicate (n - 2) .no) S) := rfl
theorem v_r3 {n : Nat} {b : FS} {x y z : D} : runF n 3 b [x, y, z] S = kRun (b (.val x :: .val y :: .val z :: List.replicate (n - 3) .no) S) := rfl
theorem v_r4 {n : Nat} {b : FS} {x y z w : D} : runF n 4 b [x, y, z, w] S = kRun (b (.val x :: .val y :: .val z :: .val w :: List.replicate (n - 4) .no) S) := rfl
theorem v_r5 {n : Nat} {b : FS} {x y z w u : D} : runF n 5 b [x, y, z, w, u] S = kRun (b (.val x :: .val y :: .val z :: .val w :: .val u :: List.replicate (n - 5) .no) S) := rfl
def kNox (r : RE) : RE := match r with
  | .xc _ _ _ => .bad
  | r => r
theorem v_nx {g : FF} {ds : List D} : noxF g ds S = kNox (g ds S) := rfl
theorem v_nx1 : kNox (.ok d f S) = .ok d f S := rfl
theorem v_run1 : kRun (.rt d f S) = .ok d f S := rfl
theorem v_run2 : kRun (.nx ρ S) = .ok .non .tr S := rfl
theorem v_run3 : kRun (.xc c fs ρ S) = .xc c fs S := rfl
end
section
variable {S : Sto}
theorem d_eq_str {neg : Bool} {a b : Str} : dEqv neg (.str a) (.str b) S = .ok (.bl (neg ^^ decide (a = b))) .tr S := by
  unfold dEqv toP; simp only [tree, scalP, Bool.true_or, if_true]
  have : PyData.eqv (.str a) (.str b) = decide (a = b) := by simp [PyData.eqv]; rw [Bool.eq_iff_iff]; simp
  rw [this]
theorem d_eq_int {neg : Bool} {a b : Int} : dEqv neg (.int a) (.int b) S = .ok (.bl (neg ^^ decide (a = b))) .tr S := by
  unfold dEqv toP; simp only [tree, scalP, Bool.true_or, if_true]
  have : PyData.eqv (.int a) (.int b) = decide (a = b) := by simp [PyData.eqv]; rw [Bool.eq_iff_iff]; simp
  rw [this]
theorem d_add_int {a b : Int} : dAdd (.int a) (.int b) S = .ok (.int (a + b)) .tr S := rfl
theorem d_add_str {a b : Str} (h : a.length + b.length ≤ lim) : dAdd (.str a) (.str b) S = .ok (.str (a ++ b)) .tr S := by unfold dAdd; simp [h]
theorem d_add_lst {a b : List D} (h : a.length + b.length ≤ lim) : dAdd (.lst a) (.lst b) S = .ok (.lst (a ++ b)) .fs S := by unfold dAdd; simp [h, lsOf]
theorem d_sub {a b : Int} : dSub (.int a) (.int b) S = .ok (.int (a - b)) .tr S := rfl
theorem d_mul {a b : Int} (h : CMul a b) : dMul (.int a) (.int b) S = .ok (.int (a * b)) .tr S := by unfold dMul; simp [h]
theorem d_fdiv {a b : Int} (h : CDiv a b) : dFdiv (.int a) (.int b) S = .ok (.int (a / b)) .tr S := by unfold dFdiv; simp [h]
theorem d_mod {a b : Int} (h : 0 < b) : dMod (.int a) (.int b) S = .ok (.int (a % b)) .tr S := by unfold dMod; simp [h]
theorem d_pow {a b : Int} (h : CPow a b) : dPow (.int a) (.int b) S = .ok (.int (a ^ b.toNat)) .tr S := by unfold dPow; simp [h]
theorem d_cmp {p : Int → Int → Bool} {q : List Nat → List Nat → Bool} {a b : Int} : dCmp p q (.int a) (.int b) S = .ok (.bl (p a b)) .tr S := rfl
theorem d_len_str {z : Str} {t : Bool} (h : z.length ≤ lim) : dLen [.str z] t S = .ok (.int z.length) .tr S := by unfold dLen; simp [h]
theorem d_len_lst {ds : List D} {t : Bool} : dLen [.lst ds] t S = .ok (.int ds.length) .tr S := rfl
theorem d_len_tup {ds : List D} {t : Bool} : dLen [.tup ds] t S = .ok (.int ds.length) .tr S := rfl
theorem d_len_fro {l : Bool} {ds : List D} {t : Bool} : dLen [.fro l ds] t S = .ok (.int ds.length) .tr S := rfl
theorem d_ix_tup {ds : List D} {i : Int} {x : D} (h : atI ds i = some x) : dIx (.tup ds) (.int i) S = .ok x .tr S := by unfold dIx; simp [sqOf, h]
theorem d_ix_lst {ds : List D} {i : Int} {x : D} (h : atI ds i = some x) : dIx (.lst ds) (.int i) S = .ok x .tr S := by unfold dIx; simp [sqOf, h]
theorem d_ix_fro {l : Bool} {ds : List D} {i : Int} {x : D} (h : atI ds i = some x) : dIx (.fro l ds) (.int i) S = .ok x .tr S := by unfold dIx; simp [sqOf, h]
theorem d_ix_cel {k : Nat} {ds : List D} {i : Int} {x : D} (hs : S[k]? = some (.lst ds)) (h : atI ds i = some x) : dIx (.cel k) (.int i) S = .ok x .tr S := by unfold dIx; simp [sqOf, hs, h]
theorem d_ix_str {z : Str} {i : Int} {c : Nat} (hl : z.length ≤ lim) (h : atI (sl z) i = some c) : dIx (.str z) (.int i) S = .ok (.str ⟨#[c]⟩) .tr S := by unfold dIx; simp [hl, h]
theorem d_in_str {neg : Bool} {w z : Str} {c : Nat} (h : sl w = [c]) : dIn neg (.str w) (.str z) S = .ok (.bl (if neg then !decide (c ∈ sl z) else decide (c ∈ sl z))) .tr S := by unfold dIn; simp [h]
theorem d_len_sq {d : D} {ds : List D} {t : Bool} (h : sqOf S d = some ds) : dLen [d] t S = .ok (.int ds.length) .tr S := by
  unfold dLen
  cases d <;> first | (cases h; done) | (simp only [h])
theorem d_ix_sq {d : D} {ds : List D} {i : Int} {x : D} (h : sqOf S d = some ds) (hx : atI ds i = some x) : dIx d (.int i) S = .ok x .tr S := by
  unfold dIx
  cases d <;> first | (cases h; done) | (simp only [h, hx])
theorem d_nil {neg : Bool} {ds : List D} : dNil neg (.lst ds) (.lst []) S = .ok (.bl (neg ^^ ds.isEmpty)) .tr S := rfl
theorem d_max {i j : Int} {t : Bool} : dMax [.int i, .int j] t S = .ok (.int (if j > i then j else i)) .tr S := rfl
theorem d_min {i j : Int} {t : Bool} : dMin [.int i, .int j] t S = .ok (.int (if j < i then j else i)) .tr S := rfl
theorem d_all {es : List D} {bs : List Bool} {t : Bool} (h : bools es = some bs) : dAll [.lst es] t S = .ok (.bl (bs.all id)) .tr S := by unfold dAll dQu; simp [lsOf, h]
theorem d_sl_lst {ds : List D} {lo hi : Option Int} : dSl (.lst ds) lo hi S = .ok (.lst (cutD ds lo hi)) .fs S := rfl
theorem d_join {a : Str} {ds : List D} {ys : List Str} (h : strsD ds = some ys) (hl : (ys.map (·.length)).sum + ys.length * a.length ≤ lim) : dJoin a (.lst ds) S = .ok (.str (Txt.join a ys)) .tr S := by unfold dJoin; simp [sqOf, h, hl]
theorem d_reprW {d : D} {p : PyData} {t : Bool} (h : Py S d p) (ok : Okw p) : dRepr [d] t S = .ok (.str p.shown) .tr S := by unfold dRepr; unfold Py at h; simp [h, ok]
theorem d_repr {d : D} {p : PyData} {t : Bool} (h : Py S d p) (ok : Okd p) : dRepr [d] t S = .ok (.str p.shown) .tr S := d_reprW h ok.w
theorem d_list {ds : List D} {t : Bool} : dList [.lst ds] t S = .ok (.lst ds) .fs S := rfl
theorem d_listT {ds : List D} {t : Bool} : dList [.tup ds] t S = .ok (.lst ds) .fs S := rfl
theorem d_tuple {ds : List D} {t : Bool} : dTuple [.lst ds] t S = .ok (.tup ds) .tr S := rfl
theorem d_isN {neg : Bool} {d : D} : dIsN neg d .non S = .ok (.bl (if neg then !Fx.isNon d else Fx.isNon d)) .tr S := rfl
theorem d_isB {neg j k : Bool} : dIs neg (.bl j) (.bl k) S = .ok (.bl (if neg then !decide (j = k) else decide (j = k))) .tr S := rfl
end
end
end Fx
namespace Fx
open PySem PySem.Spec PyProof.Rows L2 U
noncomputable section
def putD (f : Str) (d : D) : List (Str × D) → List (Str × D)
  | [] => [(f, d)]
  | (g, x) :: r => if g = f then (g, d) :: r else (g, x) :: putD f d r
section
variable {K : PySem.W.Frag} {ca : Nat → Addr} {ι B : List Addr} {H : Hp}
theorem RFs.len : ∀ {es : List (Str × D)} {fs : List (Str × V)}, RFs K ca ι B H fs es → fs.length = es.length
  | [], _, h => by cases h; rfl
  | (g, x) :: es, _, h => by
    cases h with
    | cons h1 h2 => rw [List.length_cons, List.length_cons, RFs.len h2]
end
section
variable {G : Gm} {E : WX} {F : Fr} {Dd : Ends} {ι ω ι1 ω1 : List Addr} {ρ : Ev} {S S1 : Sto} {σ : L2.St} {H H1 : Hp} {Q : VK}
def fFld (cf : Nat → Str → Bool) (f : Str) (fe : FE) : FE := fun ρ S => bE (fe ρ S) fun d _ S1 => (match d with
  | .obj c es => if cf c f = true then (match es.lookup f with
    | some x => .ok x .tr S1
    | none => .bad) else .bad
  | _ => .bad)
def sSetF (cf : Nat → Str → Bool) (i : Nat) (f : Str) (fe : FE) : FS := fun ρ S => eS (fe ρ S) ρ fun d fl S1 => if fl.nop = true then (match ρ[i]? with
  | some (.oob c es) => if (cf c f && decide (es.length < 100)) = true then .nx (ρ.set i (.oob c (putD f d es))) S1 else .bad
  | _ => .bad) else .bad
end
def lookF {α : Type} (c : Nat) : List (Nat × α) → Option α
  | [] => none
  | (k, f) :: l => if k = c then some f else lookF c l
def kMeth (tab : List (Nat × FF)) (m : Str) (fa : FA) (ρ : Ev) (d : D) (f : Fl) (S : Sto) : RE := match d with
  | .obj c es => if (f.nop && (es.lookup m).isNone) = true then (match lookF c tab with
    | some F => fCB (fun ds t S2 => if t = true then F (.obj c es :: ds) S2 else .bad) fa ρ S
    | none => .bad) else .bad
  | _ => .bad
def fMeth (tab : List (Nat × FF)) (m : Str) (fo : FE) (fa : FA) : FE := fun ρ S => bE (fo ρ S) (kMeth tab m fa ρ)
def kSp1 (tab : List (Nat × FF)) (ok : D → Bool) (d : D) (f : Fl) (S : Sto) : RE := match d with
  | .obj c es => if f.nop = true then (match lookF c tab with
    | some F => bE (F [.obj c es] S) fun r fl S2 => if (ok r && fl.nop) = true then .ok r .tr S2 else .bad
    | none => .bad) else .bad
  | _ => .bad
def fSp1 (tab : List (Nat × FF)) (ok : D → Bool) (fo : FE) : FE := fun ρ S => bE (fo ρ S) (kSp1 tab ok)
inductive RIn where
  | ok (es : List (Str × D)) (S : Sto) | xc (c : Nat) (fs : List (Str × D)) (S : Sto) | bad
/-- class, fields so far, arguments behind self -/
abbrev FIn := Nat → List (Str × D) → List D → Sto → RIn
def kRunI (c : Nat) : RSt → RIn
  | .nx ρ' S' => (match ρ'[0]? with
    | some (Sl.oob c' es') => if c' = c then .ok es' S' else .bad
    | _ => .bad)
  | .xc c' fs _ S' => .xc c' fs S'
  | _ => .bad
/-- C(..) -/
def kMk (c : Nat) (f : FIn) (ds : List D) (S : Sto) : RE := match f c [] ds S with
  | .ok es S' => .ok (.obj c es) .fs S'
  | .xc c' fs S' => .xc c' fs S'
  | .bad => .bad
def fMk (c : Nat) (f : FIn) (dd : List D) (fa : FA) : FE := fCB (fun ds t S => if t = true then kMk c f (ds ++ dd) S else .bad) fa
section
variable {G : Gm} {E : WX} {F : Fr} {ι ω : List Addr} {ρ : Ev} {S : Sto} {σ : L2.St} {H : Hp} {Q : VK}
def fMkK (n m : Nat) (c : Nat) (f : FIn) (gD : List D → List D → List D) (fa fk : FA) : FE := fun ρ S => match fa ρ S with
  | .ok ds true S1 => (match fk ρ S1 with
    | .ok es true S2 => if ds.length = n ∧ es.length = m then kMk c f (gD ds es) S2 else .bad
    | .xc c fs S2 => .xc c fs S2
    | _ => .bad)
  | .xc c fs S1 => .xc c fs S1
  | _ => .bad
/-- C.m(..), m a classmethod -/
def fCMeth (c : Nat) (f : FF) (fa : FA) : FE := fCB (fun ds t S => if t = true then f (.cls c :: ds) S else .bad) fa
def fFmt (fe : FE) : FE := fun ρ S => bE (fe ρ S) fun d _ S1 => (match d with
  | .str z => if z.length ≤ lim then .ok (.str z) .tr S1 else .bad
  | .int i => if i.natAbs.log2 < 1920 then .ok (.str (toString i)) .tr S1 else .bad
  | _ => .bad)
def fJs : List FE → Str → FE
  | [], acc => fun _ S => .ok (.str acc) .tr S
  | fe :: fs, acc => fun ρ S => bE (fe ρ S) fun d _ S1 => (match d with
    | .str y => if (acc ++ y).length ≤ lim then fJs fs (acc ++ y) ρ S1 else .bad
    | _ => .bad)
def rgD (a b : Int) : List D := (List.range (b - a).toNat).map fun i => D.int (a + (i : Nat))
def rgOk (a b : Int) : Bool := decide (-1000000 ≤ a ∧ a ≤ 1000000 ∧ -1000000 ≤ b ∧ b ≤ 1000000)
def fLRg (fa fb : FE) : FE := fun ρ S => bE (fa ρ S) fun d _ S1 => (match d with
  | .int a => bE (fb ρ S1) fun e _ S2 => (match e with
    | .int b => if rgOk a b = true then .ok (.lst (rgD a b)) .fs S2 else .bad
    | _ => .bad)
  | _ => .bad)
end
end
end Fx
namespace Fx
open PySem PySem.Spec PyProof.Rows L2 U
noncomputable section
section
variable {ρ : Ev} {S S1 S2 : Sto} {d e : D} {f : Fl} {c : Nat} {fs es : List (Str × D)}
def kFld (cf : Nat → Str → Bool) (n : Str) (d : D) (_ : Fl) (S1 : Sto) : RE := match d with
  | .obj c es => if cf c n = true then (match es.lookup n with
    | some x => .ok x .tr S1
    | none => .bad) else .bad
  | _ => .bad
theorem v_fld {cf : Nat → Str → Bool} {n : Str} {fe : FE} : fFld cf n fe ρ S = bE (fe ρ S) (kFld cf n) := rfl
def kSetF (cf : Nat → Str → Bool) (i : Nat) (n : Str) (ρ : Ev) (d : D) (fl : Fl) (S1 : Sto) : RSt := if fl.nop = true then (match ρ[i]? with
  | some (.oob c es) => if (cf c n && decide (es.length < 100)) = true then .nx (ρ.set i (.oob c (putD n d es))) S1 else .bad
  | _ => .bad) else .bad
theorem v_setF {cf : Nat → Str → Bool} {i : Nat} {n : Str} {fe : FE} : sSetF cf i n fe ρ S = eS (fe ρ S) ρ (kSetF cf i n ρ) := rfl
theorem v_meth {tab : List (Nat × FF)} {m : Str} {fo : FE} {fa : FA} : fMeth tab m fo fa ρ S = bE (fo ρ S) (kMeth tab m fa ρ) := rfl
def kMethA (g : FF) (d : D) (ds : List D) (t : Bool) (S2 : Sto) : RE := if t = true then g (d :: ds) S2 else .bad
theorem v_methA {g : FF} {ds : List D} : kMethA g d ds true S = g (d :: ds) S := rfl
theorem v_sp1 {tab : List (Nat × FF)} {ok : D → Bool} {fo : FE} : fSp1 tab ok fo ρ S = bE (fo ρ S) (kSp1 tab ok) := rfl
theorem v_mk {g : FIn} {dd : List D} {fa : FA} : fMk c g dd fa ρ S = bA (fa ρ S) (fun ds t S => if t = true then kMk c g (ds ++ dd) S else .bad) := rfl
def kMkK2 (n m c : Nat) (g : FIn) (gD : List D → List D → List D) (ds : List D) (r : RA) : RE := match r with
  | .ok es true S2 => if ds.length = n ∧ es.length = m then kMk c g (gD ds es) S2 else .bad
  | .xc c fs S2 => .xc c fs S2
  | _ => .bad
def kMkK (n m c : Nat) (g : FIn) (gD : List D → List D → List D) (fk : FA) (ρ : Ev) (r : RA) : RE := match r with
  | .ok ds true S1 => kMkK2 n m c g gD ds (fk ρ S1)
  | .xc c fs S1 => .xc c fs S1
  | _ => .bad
theorem v_mkK {n m : Nat} {g : FIn} {gD : List D → List D → List D} {fa fk : FA} : fMkK n m c g gD fa fk ρ S = kMkK n m c g gD fk ρ (fa ρ S) := by unfold fMkK kMkK kMkK2; rfl
theorem v_mkK1 {n m : Nat} {g : FIn} {gD : List D → List D → List D} {fk : FA} {ds : List D} : kMkK n m c g gD fk ρ (.ok ds true S) = kMkK2 n m c g gD ds (fk ρ S) := rfl
theorem v_cmeth {g : FF} {fa : FA} : fCMeth c g fa ρ S = bA (fa ρ S) (kMethA g (.cls c)) := rfl
theorem v_runI1 {r : Ev} : kRunI c (.nx (.oob c es :: r) S) = .ok es S := by unfold kRunI; simp
theorem v_runIx {c' : Nat} : kRunI c (.xc c' fs ρ S) = .xc c' fs S := rfl
def kFmt (d : D) (_ : Fl) (S1 : Sto) : RE := match d with
  | .str z => if z.length ≤ lim then .ok (.str z) .tr S1 else .bad
  | .int i => if i.natAbs.log2 < 1920 then .ok (.str (toString i)) .tr S1 else .bad
  | _ => .bad
theorem v_fmt {fe : FE} : fFmt fe ρ S = bE (fe ρ S) kFmt := rfl
def kJs (fs : List FE) (acc : Str) (ρ : Ev) (d : D) (_ : Fl) (S1 : Sto) : RE := match d with
  | .str y => if (acc ++ y).length ≤ lim then fJs fs (acc ++ y) ρ S1 else .bad
  | _ => .bad
theorem v_js0 {acc : Str} : fJs [] acc ρ S = .ok (.str acc) .tr S := rfl
theorem v_js {fe : FE} {fs : List FE} {acc : Str} : fJs (fe :: fs) acc ρ S = bE (fe ρ S) (kJs fs acc ρ) := rfl
def kLRg2 (a : Int) (e : D) (_ : Fl) (S2 : Sto) : RE := match e with
  | .int b => if rgOk a b = true then .ok (.lst (rgD a b)) .fs S2 else .bad
  | _ => .bad
def kLRg (fb : FE) (ρ : Ev) (d : D) (_ : Fl) (S1 : Sto) : RE := match d with
  | .int a => bE (fb ρ S1) (kLRg2 a)
  | _ => .bad
theorem v_lrg {fa fb : FE} : fLRg fa fb ρ S = bE (fa ρ S) (kLRg fb ρ) := rfl
theorem v_lrg1 {fb : FE} {a : Int} : kLRg fb ρ (.int a) f S = bE (fb ρ S) (kLRg2 a) := rfl
/-- keyword calls -/
def kCallK2 (n m : Nat) (g : FF) (gD : List D → List D → List D) (ds : List D) (r : RA) : RE := match r with
  | .ok es true S2 => if ds.length = n ∧ es.length = m then g (gD ds es) S2 else .bad
  | .xc c fs S2 => .xc c fs S2
  | _ => .bad
def kCallK (n m : Nat) (g : FF) (gD : List D → List D → List D) (fk : FA) (ρ : Ev) (r : RA) : RE := match r with
  | .ok ds true S1 => kCallK2 n m g gD ds (fk ρ S1)
  | .xc c fs S1 => .xc c fs S1
  | _ => .bad
theorem v_callK {n m : Nat} {g : FF} {gD : List D → List D → List D} {fa fk : FA} : fCallK n m g gD fa fk ρ S = kCallK n m g gD fk ρ (fa ρ S) := by unfold fCallK kCallK kCallK2; rfl
theorem v_callK1 {n m : Nat} {g : FF} {gD : List D → List D → List D} {fk : FA} {ds : List D} : kCallK n m g gD fk ρ (.ok ds true S) = kCallK2 n m g gD ds (fk ρ S) := rfl
end
end
end Fx
namespace Fx
open PySem PySem.Spec PyProof.Rows L2 U
noncomputable section
/-- the last items -/
theorem at_neg {α : Type} {us : List α} {vs : List α} {j : Nat} {x : α} (h : vs[j]? = some x) (k : Int) (hk : k = -((vs.length - j : Nat) : Int)) : atI (us ++ vs) k = some x := by
  have hj := (List.getElem?_eq_some_iff.mp h).1
  unfold atI ixN
  rw [if_neg (by omega), if_pos (by rw [List.length_append]; omega)]
  show (us ++ vs)[_]? = _
  rw [show (k + ((us ++ vs).length : Int)).toNat = us.length + j by rw [List.length_append]; omega]
  rw [List.getElem?_append_right (by omega), Nat.add_sub_cancel_left]
  exact h
theorem cutD_upto (xs : List D) (j : Nat) : cutD xs none (some (j : Int)) = xs.take j := by
  unfold cutD
  rw [HT.sIx_nat, HT.sIx_none]
  have := cut_mid xs 0 j
  simp only [Nat.zero_min, List.drop_zero, Nat.sub_zero] at this ⊢
  exact this
theorem cutD_from (xs : List D) (i : Nat) : cutD xs (some (i : Int)) none = xs.drop i := by
  unfold cutD
  rw [HT.sIx_nat, HT.sIx_none]
  have := cut_mid xs i xs.length
  rw [Nat.min_self] at this
  rw [this]
  by_cases h : i ≤ xs.length
  · exact List.take_of_length_le (by rw [List.length_drop]; omega)
  · rw [List.drop_eq_nil_of_le (by omega)]; simp
end
end Fx
namespace Fx
open PySem PySem.Spec PyProof.Rows L2 U
noncomputable section
/-- kinds of things -/
inductive Tg where
  | non | bl | int | str | lst | tup | dct | obj (c : Nat)
def tgD (S : Sto) : D → Option Tg
  | .non => some .non
  | .bl _ => some .bl
  | .int _ => some .int
  | .str _ => some .str
  | .lst _ => some .lst
  | .tup _ => some .tup
  | .dct _ => some .dct
  | .obj c _ => some (.obj c)
  | .cel k => (match S[k]? with
    | some (.lst _) => some .lst
    | some (.dK _) => some .dct
    | some (.ins c _) => some (.obj c)
    | none => none)
  | _ => none
def fIsiX (kt : Tg → Option Bool) (fe : FE) : FE := fun ρ S => bE (fe ρ S) fun d _ S1 => (match (tgD S1 d).bind kt with
  | some b => .ok (.bl b) .tr S1
  | none => .bad)
section
variable {G : Gm} {E : WX}
def fBinO (tab : List (Nat × FF)) (rg : Nat → Tg → Bool) (fa fb : FE) : FE := fun ρ S => bE (fa ρ S) fun d f1 S1 => bE (fb ρ S1) fun e f2 S2 => (match d with
  | .obj c es => if (f1.nop && f2.nop) = true then (match lookF c tab, tgD S2 e with
    | some F, some g => if rg c g = true then F [.obj c es, e] S2 else .bad
    | _, _ => .bad) else .bad
  | _ => .bad)
def fInO (neg : Bool) (tab : List (Nat × FF)) (fa fb : FE) : FE := fun ρ S => bE (fa ρ S) fun d f1 S1 => bE (fb ρ S1) fun e f2 S2 => (match e with
  | .obj c es => if (f1.nop && f2.nop) = true then (match lookF c tab with
    | some F => bE (F [.obj c es, d] S2) fun r _ S3 => (match r with
      | .bl k => .ok (.bl (k != neg)) .tr S3
      | _ => .bad)
    | none => .bad) else .bad
  | _ => .bad)
def fEqO (tab : List (Nat × FF)) (fa fb : FE) : FE := fun ρ S => bE (fa ρ S) fun d f1 S1 => bE (fb ρ S1) fun e f2 S2 => (match d, e with
  | .obj c es, .obj c' es' => if (f1.nop && f2.nop && decide (c' = c)) = true then (match lookF c tab with
    | some F => bE (F [.obj c es, .obj c' es'] S2) fun r _ S3 => (match r with
      | .bl k => .ok (.bl k) .tr S3
      | _ => .bad)
    | none => .bad) else .bad
  | _, _ => .bad)
end
section
variable {G : Gm} {E : WX}
def sAugD (i : Nat) (f : D → D → Sto → RE) (fe : FE) : FS := fun ρ S => match ρ[i]? with
  | some (.val x) => eS (fe ρ S) ρ fun d _ S1 => eS (f x d S1) ρ fun r fl S2 => if fl.nop = true then .nx (ρ.set i (.val r)) S2 else .bad
  | _ => .bad
end
def firstIdx (q : PyData) : List PyData → Nat → Option Nat
  | [], _ => none
  | p :: ps, i => if PyData.eqv p q = true then some i else firstIdx q ps (i + 1)
section
variable {G : Gm} {E : WX}
def isLs (S : Sto) : D → Bool
  | .lst _ => true
  | .cel k => (match S[k]? with | some (.lst _) => true | _ => false)
  | _ => false
def kIdxL (d e : D) (S : Sto) : RE := match toP S d, toP S e with
  | some (.list ps), some q => if (SeqAt.shaped (.list ps) && SeqAt.shaped q && !(PyData.list ps).hasDict && !q.hasDict) = true then (match firstIdx q ps 0 with
    | some j => .ok (.int (j : Nat)) .tr S
    | none => .bad) else .bad
  | _, _ => .bad
def fIdxL (fo fe : FE) : FE := fun ρ S => bE (fo ρ S) fun d _ S1 => if isLs S1 d = true then bE (fe ρ S1) fun e _ S2 => kIdxL d e S2 else .bad
end
section
variable {ρ : Ev} {S S1 S2 : Sto} {d e : D} {f f1 f2 fl : Fl} {c : Nat} {fs es : List (Str × D)} {tab : List (Nat × FF)}
def kIsiX (kt : Tg → Option Bool) (d : D) (_ : Fl) (S1 : Sto) : RE := match (tgD S1 d).bind kt with
  | some b => .ok (.bl b) .tr S1
  | none => .bad
theorem v_isiX {kt : Tg → Option Bool} {fe : FE} : fIsiX kt fe ρ S = bE (fe ρ S) (kIsiX kt) := rfl
def kBinO2 (tab : List (Nat × FF)) (rg : Nat → Tg → Bool) (d : D) (f1 : Fl) (e : D) (f2 : Fl) (S2 : Sto) : RE := match d with
  | .obj c es => if (f1.nop && f2.nop) = true then (match lookF c tab, tgD S2 e with
    | some F, some g => if rg c g = true then F [.obj c es, e] S2 else .bad
    | _, _ => .bad) else .bad
  | _ => .bad
def kBinO1 (tab : List (Nat × FF)) (rg : Nat → Tg → Bool) (fb : FE) (ρ : Ev) (d : D) (f1 : Fl) (S1 : Sto) : RE := bE (fb ρ S1) (kBinO2 tab rg d f1)
theorem v_binO {rg : Nat → Tg → Bool} {fa fb : FE} : fBinO tab rg fa fb ρ S = bE (fa ρ S) (kBinO1 tab rg fb ρ) := rfl
theorem v_binO1 {rg : Nat → Tg → Bool} {fb : FE} : kBinO1 tab rg fb ρ d f S = bE (fb ρ S) (kBinO2 tab rg d f) := rfl
def kInO3 (neg : Bool) (r : D) (_ : Fl) (S3 : Sto) : RE := match r with
  | .bl k => .ok (.bl (k != neg)) .tr S3
  | _ => .bad
def kInO2 (neg : Bool) (tab : List (Nat × FF)) (d : D) (f1 : Fl) (e : D) (f2 : Fl) (S2 : Sto) : RE := match e with
  | .obj c es => if (f1.nop && f2.nop) = true then (match lookF c tab with
    | some F => bE (F [.obj c es, d] S2) (kInO3 neg)
    | none => .bad) else .bad
  | _ => .bad
def kInO1 (neg : Bool) (tab : List (Nat × FF)) (fb : FE) (ρ : Ev) (d : D) (f1 : Fl) (S1 : Sto) : RE := bE (fb ρ S1) (kInO2 neg tab d f1)
theorem v_inO {neg : Bool} {fa fb : FE} : fInO neg tab fa fb ρ S = bE (fa ρ S) (kInO1 neg tab fb ρ) := rfl
theorem v_inO1 {neg : Bool} {fb : FE} : kInO1 neg tab fb ρ d f S = bE (fb ρ S) (kInO2 neg tab d f) := rfl
theorem v_inO3 {neg k : Bool} : kInO3 neg (.bl k) f S = .ok (.bl (k != neg)) .tr S := rfl
def kEqO3 (r : D) (_ : Fl) (S3 : Sto) : RE := match r with
  | .bl k => .ok (.bl k) .tr S3
  | _ => .bad
def kEqO2 (tab : List (Nat × FF)) (d : D) (f1 : Fl) (e : D) (f2 : Fl) (S2 : Sto) : RE := match d, e with
  | .obj c es, .obj c' es' => if (f1.nop && f2.nop && decide (c' = c)) = true then (match lookF c tab with
    | some F => bE (F [.obj c es, .obj c' es'] S2) kEqO3
    | none => .bad) else .bad
  | _, _ => .bad
def kEqO1 (tab : List (Nat × FF)) (fb : FE) (ρ : Ev) (d : D) (f1 : Fl) (S1 : Sto) : RE := bE (fb ρ S1) (kEqO2 tab d f1)
theorem v_eqO {fa fb : FE} : fEqO tab fa fb ρ S = bE (fa ρ S) (kEqO1 tab fb ρ) := rfl
theorem v_eqO1 {fb : FE} : kEqO1 tab fb ρ d f S = bE (fb ρ S) (kEqO2 tab d f) := rfl
theorem v_eqO3 {k : Bool} : kEqO3 (.bl k) f S = .ok (.bl k) .tr S := rfl
def kAugD2 (i : Nat) (ρ : Ev) (r : D) (fl : Fl) (S2 : Sto) : RSt := if fl.nop = true then .nx (ρ.set i (.val r)) S2 else .bad
def kAugD1 (i : Nat) (g : D → D → Sto → RE) (ρ : Ev) (x d : D) (_ : Fl) (S1 : Sto) : RSt := eS (g x d S1) ρ (kAugD2 i ρ)
def kAugD (i : Nat) (g : D → D → Sto → RE) (fe : FE) (ρ : Ev) (S : Sto) (s : Option Sl) : RSt := match s with
  | some (.val x) => eS (fe ρ S) ρ (kAugD1 i g ρ x)
  | _ => .bad
theorem v_augD {i : Nat} {g : D → D → Sto → RE} {fe : FE} : sAugD i g fe ρ S = kAugD i g fe ρ S ρ[i]? := by unfold sAugD kAugD kAugD1 kAugD2; rfl
theorem v_augD0 {i : Nat} {g : D → D → Sto → RE} {fe : FE} {x : D} : kAugD i g fe ρ S (some (.val x)) = eS (fe ρ S) ρ (kAugD1 i g ρ x) := rfl
theorem v_augD1 {i : Nat} {g : D → D → Sto → RE} {x : D} : kAugD1 i g ρ x d f S = eS (g x d S) ρ (kAugD2 i ρ) := rfl
theorem v_augD2 {i : Nat} : kAugD2 i ρ d .tr S = .nx (ρ.set i (.val d)) S := rfl
def kIdx2 (d e : D) (_ : Fl) (S : Sto) : RE := kIdxL d e S
def kIdx1 (fe : FE) (ρ : Ev) (d : D) (_ : Fl) (S1 : Sto) : RE := if isLs S1 d = true then bE (fe ρ S1) (kIdx2 d) else .bad
theorem v_idxL {fo fe : FE} : fIdxL fo fe ρ S = bE (fo ρ S) (kIdx1 fe ρ) := rfl
theorem v_idxL1 {fe : FE} {ds : List D} : kIdx1 fe ρ (.lst ds) f S = bE (fe ρ S) (kIdx2 (.lst ds)) := rfl
theorem v_idxL2 : kIdx2 d e f S = kIdxL d e S := rfl
end
end
end Fx
namespace U
open PySem PySem.Spec PyProof.Rows L2 NdefX
/-- statements of a def whose own code is known -/
structure PSA (X : Cx) (c : Code) (b : List Stmt) (t : TS) : Prop where
  run : ∀ (pins : List (Addr × Obj)) (s : Shared) (σ : L2.St) (H : Hp) (D : Ends), Inv X pins σ H s → t D σ H → _root_.PySem.wpAt (model X.prog X.w) X.A c (execs b X.env) (SP X pins D) X.xe s
/-- what the text says for super() in a method at f of the class at D, whose cell is cc and code object cda; f2 the method of the class above -/
structure SupC (P : Program) (K : PySem.W.Frag) (D f2 cc cda : Addr) : Prop where
  cell : ∃ cl cld csl, K.lookup cc = some ⟨cl, cld, .cell (some (.ref D)), csl⟩
  code : ∃ ccl cdd vs ccs file tf, K.lookup cda = some ⟨ccl, cdd, .fields vs, ccs⟩ ∧ vs[2]? = some (.str file tf) ∧ ((P.main.file : Str) == file) = true
  top : (P.main.scope.names.lookup ("super" : Str)).isSome = false
  cls : ∃ cd, PySem.W.clsIn K D = some cd ∧ PySem.W.alongIn K "__init__" ((cd.mro.dropWhile (· != .ref D)).drop 1) = some (some (.ref f2))
  sub : PySem.W.mroIn K D (.ref D) = some true
  opq : PySem.W.nsIn K cStatics "thirdparty.any" = some none
  ty : PySem.W.typeIn K (.ref f2) = some (.type "function")
  fi : PySem.W.fnIn K f2 = true
abbrev nfS (name qual : Str) (params : Arguments) (body : List Stmt) (scope : Scope) (cc cda : Addr) : NF := ⟨name, qual, params, body, scope, [("__class__", cc)], cda⟩
abbrev cxS (CX : CXT) (P : Program) (w : World) (K : PySem.W.Frag) (mg : Str → Option Value) (base : Heap) (N : List Str) (name qual : Str) (params : Arguments) (body : List Stmt) (scope : Scope) (cc cda f : Addr) (A : Around) (outer : List Env) (s : Shared) (H : Hp) (E : XK) : Cx :=
  ncx CX P w K mg base N (nfS name qual params body scope cc cda) f A outer s H E
abbrev envS (name qual : Str) (params : Arguments) (body : List Stmt) (scope : Scope) (cc cda f L : Addr) : Env := envF (nfS name qual params body scope cc cda) f L
theorem fn_ofS {CX : CXT} {P : Program} {w : World} {K : PySem.W.Frag} {mg : Str → Option Value} {base : Heap} {k : Nat} {f cc cda D : Addr} {name qual : Str} {params : Arguments} {body : List Stmt} {scope : Scope} {dV kV doc pm ct oc : Value} {an od : Option Addr}
    {osl : Array (Option Value)} {N ps : List Str} {sp : Sp} (lk : K.lookup f = some ⟨oc, od, .func (PySem.W.ksFn name qual params body scope dV kV doc pm an (.ref cda) ct cc), osl⟩) (hcd : PySem.W.codeIn K (.ref cda) qual = true) (S : NScope N ps ["__class__"] scope)
    (cell : ∃ cl cld csl, K.lookup cc = some ⟨cl, cld, .cell (some (.ref D)), csl⟩) (len : ∀ vs H Q E, sp vs H Q E → vs.length = ps.length)
    (hbody : ∀ (A : Around) (outer : List Env) (s : Shared) (H : Hp) (vs : List V) (Q : VK) (E : XK), Room k (A.deeper (envS name qual params body scope cc cda f s.heap.objs.size)) → sp vs H Q E →
      ∃ t, PSA (cxS CX P w K mg base N name qual params body scope cc cda f A outer s H E) (.func body (envS name qual params body scope cc cda f s.heap.objs.size)) body t ∧ t { nx := fun _ H' => Q .non H', rt := Q } (startF N vs [some (.ref D)]) H) :
    FnOk P w K mg base CX (k + 1) f (PySem.W.ksFn name qual params body scope dV kV doc pm an (.ref cda) ct cc) ps sp := by
  obtain ⟨cl, cld, csl, cell⟩ := cell
  refine ⟨len, fun A outer s H args us vs Q E hr e0 hb r hsp => ?_⟩
  have hl := len _ _ _ _ hsp
  have KX : K.In s.heap := e0.mod.kin.keeps fun b o e => (e0.bs b o e).1
  have lim : s.heap.NoLimit := e0.mod.nolimit.keeps fun b o e => (e0.bs b o e).1
  have C : CellsAt [(("__class__" : Str), cc)] ["__class__"] [some (.ref D)] s.heap H := by
    have one : ∀ {y c}, ([(("__class__" : Str), cc)] : List (Str × Addr)).lookup y = some c → y = "__class__" ∧ c = cc := fun {y c} h => by
      rw [List.lookup_cons] at h
      split at h
      · rename_i z; cases h; exact ⟨by simpa using z, rfl⟩
      · cases h
    refine ⟨rfl, fun y c h => ?_, fun x y c h1 h2 => (one h1).1.trans (one h2).1.symm, fun i y h => ?_⟩
    · obtain ⟨_, rfl⟩ := one h
      exact ⟨(e0.bs _ _ (e0.mod.kin _ _ cell)).2, _, _, KX _ _ cell, rfl⟩
    · cases i with
      | zero =>
        cases h
        exact ⟨cc, rfl, fun v hv => by cases hv; exact ⟨.ref D, rfl, _, KX _ _ cell, rfl⟩⟩
      | succ i => cases h
  refine ks_codeAny_call_defAt (fd := PySem.W.ksFn name qual params body scope dV kV doc pm an (.ref cda) ct cc) (body := body) (binds := ps.zip us) hr.depth (KX _ _ lk) rfl lim (PySem.W.codeRec_of KX hcd) rfl hb S.nocell (fun ⟨n, _⟩ hy => S.par n (List.of_mem_zip hy).1) (fun h₁ hns kp => ?_) S.co S.gen S.kind
  obtain ⟨t, ht, hq⟩ := hbody A outer s H vs Q E (hr.deeper _) hsp
  have I : Inv (cxS CX P w K mg base N name qual params body scope cc cda f A outer s H E) [] (startF N vs [some (.ref D)]) H { s with heap := h₁, toks := s.toks + (ps.zip us).length } := inv_startN S hr.hd e0 hl r C hns kp
  refine ks_wpAt_mono (ht.run [] _ _ H _ I hq) (fun fl s' hs => ?_) fun e s' hs => hs
  have fin : ∀ {σ' : L2.St} {H' : Hp} {v : V} {u : Value}, Inv (cxS CX P w K mg base N name qual params body scope cc cda f A outer s H E) [] σ' H' s' → L2.RelV v u → Q v H' → CE outer P w H s Q u s' :=
    fun {σ' H' v u} J rv q => ⟨v, H', J.os, J.bare, J.base, J.hok, rv, q⟩
  cases fl with
  | ret u =>
    obtain ⟨v, σ', H', J, rv, q⟩ := hs
    exact fin J rv q
  | next =>
    obtain ⟨σ', H', J, q⟩ := hs
    exact fin (v := V.non) (u := Value.none) J rfl q
  | brk =>
    obtain ⟨_, _, _, q⟩ := hs
    exact False.elim q
  | cont =>
    obtain ⟨_, _, _, q⟩ := hs
    exact False.elim q
end U
namespace Fx
open PySem PySem.Spec PyProof.Rows L2 U NdefX
noncomputable section
section
variable {G : Gm} {E : WX} {F : Fr} {Dd : Ends} {ι ω ι' : List Addr} {ρ : Ev} {S S' : Sto} {σ : L2.St} {H H' : Hp} {Q : VK}
def kSup (f : FIn) (ρ : Ev) (ds : List D) (S1 : Sto) : RSt := match ρ[0]? with
  | some (Sl.oob c es) => (match f c es ds S1 with
    | .ok es' S2 => .nx (ρ.set 0 (.oob c es')) S2
    | _ => .bad)
  | _ => .bad
def sSup (c0 : Nat) (f : FIn) (fa : FA) : FS := fun ρ S => match fa ρ S with
  | .ok ds true S1 => (match ρ[0]? with
    | some (Sl.oob c _) => if c = c0 then kSup f ρ ds S1 else .bad
    | _ => .bad)
  | _ => .bad
end
end
end Fx
namespace U
open PySem PySem.Spec PyProof.Rows L2 NdefX
structure PEnt (X : Cx) (m : Str) (n : Nat) (C : Addr) (sp : Sp) : Prop where
  ex : ∃ k f p fd ps, k ≤ n ∧ Cls X.K C ∧ PropOf X.K C m p f ∧ FnOk X.prog X.w X.K X.mg X.base CX0 k f fd ps sp ∧ Binds X.K fd ps []
inductive PTab (X : Cx) (m : Str) (n : Nat) : List (Addr × Sp) → Prop
  | nil : PTab X m n []
  | cons {C : Addr} {sp : Sp} {l : List (Addr × Sp)} : PEnt X m n C sp → PTab X m n l → PTab X m n ((C, sp) :: l)
theorem PTab.at' {X : Cx} {m : Str} {n : Nat} {C : Addr} {sp : Sp} : ∀ {l : List (Addr × Sp)}, PTab X m n l → (C, sp) ∈ l → PEnt X m n C sp
  | _, .cons h r, hm => by
    rcases List.mem_cons.mp hm with e | e
    · cases e; exact h
    · exact r.at' e
structure FunS (P : Program) (K : PySem.W.Frag) (x qual : Str) (st : Stmt) (dvs : List V) (f : Addr) (fd : FuncData) (D f2 : Addr) : Prop where
  ex : ∃ (oc : Value) (od : Option Addr) (dV kV doc pm : Value) (an : Option Addr) (cda cc : Addr) (ct : Value) (osl : Array (Option Value)),
    fd = PySem.W.ksFn x qual (defArgs st) (defBody st) (defScope st) dV kV doc pm an (.ref cda) ct cc ∧ K.lookup f = some ⟨oc, od, .func fd, osl⟩ ∧ PySem.W.codeIn K (.ref cda) qual = true ∧ DflV K dV dvs ∧ SupC P K D f2 cc cda
  kp : PySem.W.keepIn K (.ref f) = true
section
variable {P : Program} {w : World} {K : PySem.W.Frag} {mg : Str → Option Value} {base : Heap} {x qual : Str} {st : Stmt} {dvs : List V} {f D f2 : Addr} {fd : FuncData} {ps : List Str}
theorem FunS.ok {CX : CXT} {N : List Str} {k : Nat} {sp : Sp} (F : FunS P K x qual st dvs f fd D f2) (S : NScope N ps ["__class__"] (defScope st)) (len : ∀ vs H Q E, sp vs H Q E → vs.length = ps.length)
    (hbody : ∀ (cc cda : Addr) (A : Around) (outer : List Env) (s : Shared) (H : Hp) (vs : List V) (Q : VK) (E : XK), SupC P K D f2 cc cda → (∃ oc od fd osl, K.lookup f = some ⟨oc, od, .func fd, osl⟩ ∧ fd.params = defArgs st) → Room k (A.deeper (envS x qual (defArgs st) (defBody st) (defScope st) cc cda f s.heap.objs.size)) → sp vs H Q E →
      ∃ t, PSA (cxS CX P w K mg base N x qual (defArgs st) (defBody st) (defScope st) cc cda f A outer s H E) (.func (defBody st) (envS x qual (defArgs st) (defBody st) (defScope st) cc cda f s.heap.objs.size)) (defBody st) t ∧ t { nx := fun _ H' => Q .non H', rt := Q } (startF N vs [some (.ref D)]) H) :
    FnOk P w K mg base CX (k + 1) f fd ps sp := by
  obtain ⟨oc, od, dV, kV, doc, pm, an, cda, cc, ct, osl, rfl, lk, hcd, _, T⟩ := F.ex
  exact fn_ofS lk hcd S T.cell len fun A outer s H vs Q E hr h => hbody cc cda A outer s H vs Q E T ⟨oc, od, _, osl, lk, rfl⟩ hr h
theorem FunS.binds (F : FunS P K x qual st dvs f fd D f2) (h : ∀ (dV kV doc pm : Value) (an : Option Addr) (cdv ct : Value) (cc : Addr) (us : List Value), us.length = ps.length → bindArgs (PySem.W.ksFn x qual (defArgs st) (defBody st) (defScope st) dV kV doc pm an cdv ct cc) ⟨us, []⟩ = pure (ps.zip us)) : Binds K fd ps [] := by
  obtain ⟨oc, od, dV, kV, doc, pm, an, cda, cc, ct, osl, rfl, lk, hcd, _, T⟩ := F.ex
  exact .all fun us hl => h dV kV doc pm an (.ref cda) ct cc us hl
end
end U
namespace Fx
open PySem PySem.Spec PyProof.Rows L2 U
noncomputable section
section
variable {G : Gm} {E : WX}
def kCallT (tab : List (Nat × FF)) (fa : FA) (ρ : Ev) (d : D) (f : Fl) (S : Sto) : RE := match d with
  | .obj c es => if f.nop = true then (match lookF c tab with
    | some F => fCB (fun ds t S2 => if t = true then F (.obj c es :: ds) S2 else .bad) fa ρ S
    | none => .bad) else .bad
  | _ => .bad
def fCallT (tab : List (Nat × FF)) (fo : FE) (fa : FA) : FE := fun ρ S => bE (fo ρ S) (kCallT tab fa ρ)
def kPropT (tab : List (Nat × FF)) (d : D) (f : Fl) (S : Sto) : RE := match d with
  | .obj c es => if f.nop = true then (match lookF c tab with
    | some F => F [.obj c es] S
    | none => .bad) else .bad
  | _ => .bad
def fPropT (tab : List (Nat × FF)) (fo : FE) : FE := fun ρ S => bE (fo ρ S) (kPropT tab)
def dStrX (ds : List D) (_ : Bool) (S : Sto) : RE := match ds with
  | [.int i] => if i.natAbs.log2 < 1920 then .ok (.str (toString i)) .tr S else .bad
  | [.str z] => .ok (.str z) .tr S
  | _ => .bad
end
section
variable {ρ : Ev} {S S1 S2 : Sto} {d e : D} {f f1 f2 fl : Fl} {c : Nat} {fs es : List (Str × D)} {tab : List (Nat × FF)}
theorem v_callT {fo : FE} {fa : FA} : fCallT tab fo fa ρ S = bE (fo ρ S) (kCallT tab fa ρ) := rfl
theorem v_propT {fo : FE} : fPropT tab fo ρ S = bE (fo ρ S) (kPropT tab) := rfl
theorem d_strX_str {z : Str} {t : Bool} : dStrX [.str z] t S = .ok (.str z) .tr S := rfl
def kSupR (c0 : Nat) (g : FIn) (ρ : Ev) (r : RA) : RSt := match r with
  | .ok ds true S1 => (match ρ[0]? with
    | some (Sl.oob c _) => if c = c0 then kSup g ρ ds S1 else .bad
    | _ => .bad)
  | _ => .bad
theorem v_sup {c0 : Nat} {g : FIn} {fa : FA} : sSup c0 g fa ρ S = kSupR c0 g ρ (fa ρ S) := by unfold sSup kSupR; rfl
end
end
end Fx
namespace U
open PySem PySem.Spec PyProof.Rows L2
end U
namespace Fx
open PySem PySem.Spec PyProof.Rows L2 U
noncomputable section
section
variable {G : Gm} {E : WX} {F : Fr} {Dd : Ends} {ι ω : List Addr} {ρ : Ev} {S : Sto} {σ : L2.St} {H : Hp}
def intsOf : List D → Option (List Int)
  | [] => some []
  | .int b :: ds => (intsOf ds).map (b :: ·)
  | _ :: _ => none
def dSum (ds : List D) (_ : Bool) (S : Sto) : RE := match ds with
  | [d] => (match lsOf S d with
    | some es => (match intsOf es with
      | some ns => .ok (.int ns.sum) .tr S
      | none => .bad)
    | none => .bad)
  | _ => .bad
def sAsgNS (i j : Nat) (fi fe : FE) : FS := fun ρ S => eS (fe ρ S) ρ fun d f S1 => if f.nop = true then (match sqOf S1 d with
  | some [d1, d2] => (if hasL j (ρ.set i (.val d1)) S1 = true then eS (fi (ρ.set i (.val d1)) S1) (ρ.set i (.val d1)) fun e _ S2 => (match e with
    | .int k => putL j (ρ.set i (.val d1)) S2 (fun ds => (ixN ds.length k).map fun m => ds.set m d2)
    | _ => .bad) else .bad)
  | _ => .bad) else .bad
def sAppX (fo fe : FE) : FS := fun ρ S => eS (fo ρ S) ρ fun d _ S1 => (match d with
  | .cel k => (match S1[k]? with
    | some (.lst _) => eS (fe ρ S1) ρ fun v f S2 => if f.nop = true then (match S2[k]? with
      | some (.lst ds) => if ds.length < lim then .nx ρ (S2.set k (.lst (ds ++ [v]))) else .bad
      | _ => .bad) else .bad
    | _ => .bad)
  | _ => .bad)
end
section
variable {ρ : Ev} {S S1 S2 : Sto} {d e v : D} {f f1 f2 fl : Fl}
theorem at0 {α : Type} {c : α} {r : List α} : atI (c :: r) 0 = some c := by
  unfold atI ixN
  rw [if_pos (by decide), if_pos (by show (0 : Int) < ((c :: r).length : Int); rw [List.length_cons]; omega)]
  rfl
theorem at1 {α : Type} {b c : α} {r : List α} : atI (b :: c :: r) 1 = some c := by
  unfold atI ixN
  rw [if_pos (by decide), if_pos (by show (1 : Int) < ((b :: c :: r).length : Int); rw [List.length_cons, List.length_cons]; omega)]
  rfl
theorem at2 {α : Type} {a b c : α} {r : List α} : atI (a :: b :: c :: r) 2 = some c := by
  unfold atI ixN
  rw [if_pos (by decide), if_pos (by show (2 : Int) < ((a :: b :: c :: r).length : Int); rw [List.length_cons, List.length_cons, List.length_cons]; omega)]
  rfl
theorem d_ixl0 {a : D} {r : List D} : dIx (.lst (a :: r)) (.int 0) S = .ok a .tr S := d_ix_lst at0
theorem d_ixl1 {a b : D} {r : List D} : dIx (.lst (a :: b :: r)) (.int 1) S = .ok b .tr S := d_ix_lst at1
theorem d_ixl2 {a b c : D} {r : List D} : dIx (.lst (a :: b :: c :: r)) (.int 2) S = .ok c .tr S := d_ix_lst at2
theorem d_ixt0 {a : D} {r : List D} : dIx (.tup (a :: r)) (.int 0) S = .ok a .tr S := d_ix_tup at0
theorem d_ixt1 {a b : D} {r : List D} : dIx (.tup (a :: b :: r)) (.int 1) S = .ok b .tr S := d_ix_tup at1
theorem d_lst1 {a : D} : dLst [a] true S = .ok (.lst [a]) .fs S := d_lst (by show 1 ≤ lim; decide)
theorem d_lst2 {a b : D} : dLst [a, b] true S = .ok (.lst [a, b]) .fs S := d_lst (by show 2 ≤ lim; decide)
theorem d_lst0 : dLst [] true S = .ok (.lst []) .fs S := d_lst (by show 0 ≤ lim; decide)
theorem d_tup0 : dTup [] true S = .ok (.tup []) .tr S := d_tup (by show 0 ≤ lim; decide)
theorem d_tup1 {a : D} : dTup [a] true S = .ok (.tup [a]) .tr S := d_tup (by show 1 ≤ lim; decide)
theorem d_tup2 {a b : D} : dTup [a, b] true S = .ok (.tup [a, b]) .tr S := d_tup (by show 2 ≤ lim; decide)
theorem d_int_int {i : Int} {t : Bool} : dInt [.int i] t S = .ok (.int i) .tr S := rfl
theorem d_neg {i : Int} : dNeg (.int i) S = .ok (.int (-i)) .tr S := rfl
theorem v_gt2 {fs : FGs} {a b : D} : gT 2 fs (.tup [a, b]) ρ S = fs [a, b] ρ S := rfl
theorem v_gt1 {fs : FGs} {a : D} : gT 1 fs (.tup [a]) ρ S = fs [a] ρ S := rfl
theorem ints_map : ∀ (ns : List Int), intsOf (ns.map D.int) = some ns
  | [] => rfl
  | n :: ns => by show (intsOf (ns.map D.int)).map (n :: ·) = _; rw [ints_map ns]; rfl
theorem d_sum {ns : List Int} {t : Bool} : dSum [.lst (ns.map D.int)] t S = .ok (.int ns.sum) .tr S := by
  unfold dSum; show (match intsOf (ns.map D.int) with | some ns => RE.ok (.int ns.sum) .tr S | none => .bad) = _; rw [ints_map]
def kAsgNS (i j : Nat) (fi : FE) (ρ : Ev) (d : D) (f : Fl) (S1 : Sto) : RSt := if f.nop = true then (match sqOf S1 d with
  | some [d1, d2] => (if hasL j (ρ.set i (.val d1)) S1 = true then eS (fi (ρ.set i (.val d1)) S1) (ρ.set i (.val d1)) fun e _ S2 => (match e with
    | .int k => putL j (ρ.set i (.val d1)) S2 (fun ds => (ixN ds.length k).map fun m => ds.set m d2)
    | _ => .bad) else .bad)
  | _ => .bad) else .bad
theorem v_asgNS {i j : Nat} {fi fe : FE} : sAsgNS i j fi fe ρ S = eS (fe ρ S) ρ (kAsgNS i j fi ρ) := rfl
def kAppX (fe : FE) (ρ : Ev) (d : D) (_ : Fl) (S1 : Sto) : RSt := match d with
  | .cel k => (match S1[k]? with
    | some (.lst _) => eS (fe ρ S1) ρ fun v f S2 => if f.nop = true then (match S2[k]? with
      | some (.lst ds) => if ds.length < lim then .nx ρ (S2.set k (.lst (ds ++ [v]))) else .bad
      | _ => .bad) else .bad
    | _ => .bad)
  | _ => .bad
theorem v_appX {fo fe : FE} : sAppX fo fe ρ S = eS (fo ρ S) ρ (kAppX fe ρ) := rfl
end
end
end Fx
namespace Fx
open PySem PySem.Spec PyProof.Rows L2 U
theorem foldE {α : Type} {g : Gd} {step : StepC} {e : α → D} {f : α → List D} {S : Sto} (hg : gOk g S) : ∀ {l : List α} {acc : List D}, (∀ a ∈ l, ∀ acc : List D, acc.length < lim → step (e a) acc S = some (acc ++ f a, S)) → (∀ a ∈ l, (f a).length ≤ 1) → acc.length + l.length ≤ lim →
    foldC g step (l.map e) acc S = some (acc ++ l.flatMap f, S)
  | [], acc, _, _, _ => by rw [List.map_nil]; unfold foldC; rw [if_pos hg]; simp
  | d :: l, acc, h, h1, hl => by
    rw [List.length_cons] at hl
    rw [List.map_cons]
    unfold foldC
    rw [if_pos hg, h d List.mem_cons_self acc (by omega)]
    have := h1 d List.mem_cons_self
    dsimp only
    rw [foldE hg (fun e he => h e (List.mem_cons_of_mem _ he)) (fun e he => h1 e (List.mem_cons_of_mem _ he)) (by rw [List.length_append]; omega), List.append_assoc, List.flatMap_cons]
theorem flatE {α : Type} (c : α → Bool) (f : α → D) : ∀ l : List α, l.flatMap (fun a => if c a = true then [f a] else []) = (l.filter c).map f
  | [] => rfl
  | a :: l => by
    rw [List.flatMap_cons, flatE c f l]
    cases h : c a with
    | true => rw [if_pos rfl, List.filter_cons_of_pos h]; rfl
    | false => rw [if_neg (by decide), List.filter_cons_of_neg (by rw [h]; decide)]; rfl
theorem lc_flatE {α : Type} {it : FI} {set : FG} {tt te : FE} {vs : List Nat} {ρ : Ev} {S S1 : Sto} {l : List α} {e : α → D} {g : Gd} {c : α → Bool} {f : α → D} (hi : it ρ S = .ok (l.map e) g S1) (hg : gOk g S1) (hl : l.length ≤ lim)
    (h : ∀ a ∈ l, ∃ ρ1 f1, set (e a) (wipeE ρ vs) S1 = some ρ1 ∧ tt ρ1 S1 = .ok (.bl (c a)) f1 S1 ∧ (c a = true → ∃ f2, te ρ1 S1 = .ok (f a) f2 S1 ∧ f2.nop = true)) :
    fLc it set tt te vs ρ S = .ok (.lst ((l.filter c).map f)) .fs S1 := by
  unfold fLc fLcG
  rw [hi]
  try dsimp only
  rw [foldE (f := fun a => if c a = true then [f a] else []) hg (fun a ha acc hlt => by
    obtain ⟨ρ1, f1, e1, e2, e3⟩ := h a ha
    unfold step1
    rw [e1]; try dsimp only
    rw [e2]; try dsimp only
    cases hc : c a with
    | true =>
      obtain ⟨f2, e4, e5⟩ := e3 hc
      try dsimp only
      rw [e4]; try dsimp only
      rw [e5, decide_eq_true hlt]; rfl
    | false =>
      try dsimp only
      rw [if_neg (by decide), List.append_nil]) (fun a _ => by split <;> simp) (by simpa using hl)]
  rw [flatE, List.nil_append]
theorem lc_mapE {α : Type} {it : FI} {set : FG} {te : FE} {vs : List Nat} {ρ : Ev} {S S1 : Sto} {l : List α} {e : α → D} {g : Gd} {f : α → D} (hi : it ρ S = .ok (l.map e) g S1) (hg : gOk g S1) (hl : l.length ≤ lim)
    (h : ∀ a ∈ l, ∃ ρ1 f2, set (e a) (wipeE ρ vs) S1 = some ρ1 ∧ te ρ1 S1 = .ok (f a) f2 S1 ∧ f2.nop = true) :
    fLc it set (fC (.bl true)) te vs ρ S = .ok (.lst (l.map f)) .fs S1 := by
  have := lc_flatE (tt := fC (.bl true)) (te := te) (c := fun _ => true) (f := f) hi hg hl fun a ha => by
    obtain ⟨ρ1, f2, e1, e2, e3⟩ := h a ha
    exact ⟨ρ1, .tr, e1, rfl, fun _ => ⟨f2, e2, e3⟩⟩
  rw [this, List.filter_eq_self.mpr (fun _ _ => rfl)]
theorem at_last {α : Type} (us : List α) (x : α) : atI (us ++ [x]) (-1) = some x := at_neg (j := 0) rfl (-1) (by simp)
section
variable {S : Sto} {k : Nat} {ds : List D}
theorem d_len_cel {t : Bool} (h : S[k]? = some (.lst ds)) : dLen [.cel k] t S = .ok (.int ds.length) .tr S := d_len_sq (by unfold sqOf; simp [h])
theorem it_cel (h : S[k]? = some (.lst ds)) : itemsD S (.cel k) = some (ds, some (k, ds)) := by unfold itemsD; simp [h]
end
def nStr : D → Bool | .str _ => false | _ => true
def kZip2 (a b : Option (List D × Gd)) (S : Sto) : RI := match a, b with
  | some (xs, none), some (ys, g) => .ok (zipD xs ys) g S
  | some (xs, g), some (ys, none) => .ok (zipD xs ys) g S
  | _, _ => .bad
def kZip1 (r : RA) : RI := match r with
  | .ok [d1, d2] true S1 => if (nStr d1 && nStr d2) = true then kZip2 (itemsD S1 d1) (itemsD S1 d2) S1 else .bad
  | .xc c fs S1 => .xc c fs S1
  | _ => .bad
def fZipC (fa : FA) : FI := fun ρ S => kZip1 (fa ρ S)
theorem v_zipC {fa : FA} {ρ : Ev} {S : Sto} : fZipC fa ρ S = kZip1 (fa ρ S) := rfl
end Fx
namespace U
open PySem PySem.Spec PyProof.Rows L2
end U
namespace Fx
open PySem PySem.Spec PyProof.Rows L2 U
end Fx
namespace Fx
open PySem PySem.Spec PyProof.Rows L2 U
section
variable {G : Gm} {E : WX}
/-- a new dict that is a cell -/
def fDNewC : FE := fun _ S => .ok (.cel S.length) .tr (S ++ [.dK []])
end
section
variable {ρ : Ev} {S : Sto} {d e : D} {neg : Bool}
theorem v_dnewC : fDNewC ρ S = .ok (.cel S.length) .tr (S ++ [.dK []]) := rfl
end
end Fx
namespace U
open PySem PySem.Spec PyProof.Rows L2
end U
namespace Fx
open PySem PySem.Spec PyProof.Rows L2 U
def dAddT (d e : D) (S : Sto) : RE := match d, e with
  | .tup xs, .tup ys => if xs.length + ys.length ≤ lim then .ok (.tup (xs ++ ys)) .tr S else .bad
  | d, e => dAdd d e S
def dSlT (d : D) (lo hi : Option Int) (S : Sto) : RE := match d with
  | .tup ds => .ok (.tup (cutD ds lo hi)) .tr S
  | d => dSl d lo hi S
def fSlT (fe : FE) (lo hi : FO) : FE := fun ρ S => bE (fe ρ S) fun d _ S1 => bO (lo ρ S1) fun l S2 => bO (hi ρ S2) fun u S3 => dSlT d l u S3
section
variable {ρ : Ev} {S : Sto} {d : D} {f : Fl}
theorem d_addTi {a b : Int} : dAddT (.int a) (.int b) S = .ok (.int (a + b)) .tr S := rfl
theorem d_addTs {a b : Str} : dAddT (.str a) (.str b) S = dAdd (.str a) (.str b) S := rfl
theorem d_addTl {a b : List D} : dAddT (.lst a) (.lst b) S = dAdd (.lst a) (.lst b) S := rfl
def kSlT2 (d : D) (l u : Option Int) (S : Sto) : RE := dSlT d l u S
def kSlT1 (d : D) (hi : FO) (ρ : Ev) (l : Option Int) (S : Sto) : RE := bO (hi ρ S) (kSlT2 d l)
def kSlT (lo hi : FO) (ρ : Ev) (d : D) (_ : Fl) (S : Sto) : RE := bO (lo ρ S) (kSlT1 d hi ρ)
theorem v_slT {fe : FE} {lo hi : FO} : fSlT fe lo hi ρ S = bE (fe ρ S) (kSlT lo hi ρ) := rfl
theorem v_slT0 {lo hi : FO} : kSlT lo hi ρ d f S = bO (lo ρ S) (kSlT1 d hi ρ) := rfl
theorem v_slT1 {hi : FO} {l : Option Int} : kSlT1 d hi ρ l S = bO (hi ρ S) (kSlT2 d l) := rfl
theorem v_slT2 {l u : Option Int} : kSlT2 d l u S = dSlT d l u S := rfl
theorem d_slT {ds : List D} {lo hi : Option Int} : dSlT (.tup ds) lo hi S = .ok (.tup (cutD ds lo hi)) .tr S := rfl
theorem d_slTl {ds : List D} {lo hi : Option Int} : dSlT (.lst ds) lo hi S = .ok (.lst (cutD ds lo hi)) .fs S := rfl
end
end Fx
namespace PySem.SeqAt
open PySem PySem.Spec PyProof.Rows
end PySem.SeqAt
namespace Fx
open PySem PySem.Spec PyProof.Rows L2 U
end Fx
namespace U
open PySem PySem.Spec PyProof.Rows L2
end U
namespace Fx
open PySem PySem.Spec PyProof.Rows L2 U
end Fx
namespace PySem.W
open PySem PySem.Spec PySem.Calls PyProof.Rows
end PySem.W
namespace U
open PySem PySem.Spec PyProof.Rows L2
end U
namespace Fx
open PySem PySem.Spec PyProof.Rows L2 U
def kEqX2 (tab : List (Nat × FF)) (nq : Nat → Tg → Bool) (d : D) (f1 : Fl) (e : D) (f2 : Fl) (S2 : Sto) : RE := match d with
  | .obj c es => if (f1.nop && f2.nop) = true then (match lookF c tab, tgD S2 e with
    | some F, some g => if nq c g = true then bE (F [.obj c es, e] S2) kEqO3 else .bad
    | _, _ => .bad) else .bad
  | _ => .bad
def kEqX1 (tab : List (Nat × FF)) (nq : Nat → Tg → Bool) (fb : FE) (ρ : Ev) (d : D) (f1 : Fl) (S1 : Sto) : RE := bE (fb ρ S1) (kEqX2 tab nq d f1)
def fEqX (tab : List (Nat × FF)) (nq : Nat → Tg → Bool) (fa fb : FE) : FE := fun ρ S => bE (fa ρ S) (kEqX1 tab nq fb ρ)
def kNeO3 (r : D) (_ : Fl) (S3 : Sto) : RE := match r with
  | .bl k => .ok (.bl (!k)) .tr S3
  | _ => .bad
def kNeO2 (tab : List (Nat × FF)) (d : D) (f1 : Fl) (e : D) (f2 : Fl) (S2 : Sto) : RE := match d, e with
  | .obj c es, .obj c' es' => if (f1.nop && f2.nop && decide (c' = c)) = true then (match lookF c tab with
    | some F => bE (F [.obj c es, .obj c' es'] S2) kNeO3
    | none => .bad) else .bad
  | _, _ => .bad
def kNeO1 (tab : List (Nat × FF)) (fb : FE) (ρ : Ev) (d : D) (f1 : Fl) (S1 : Sto) : RE := bE (fb ρ S1) (kNeO2 tab d f1)
def fNeO (tab : List (Nat × FF)) (fa fb : FE) : FE := fun ρ S => bE (fa ρ S) (kNeO1 tab fb ρ)
section
variable {ρ : Ev} {S : Sto} {d e : D} {f f1 f2 : Fl} {c : Nat} {es fs : List (Str × D)} {tab : List (Nat × FF)}
theorem v_eqX {nq : Nat → Tg → Bool} {fa fb : FE} : fEqX tab nq fa fb ρ S = bE (fa ρ S) (kEqX1 tab nq fb ρ) := rfl
theorem v_eqX1 {nq : Nat → Tg → Bool} {fb : FE} : kEqX1 tab nq fb ρ d f S = bE (fb ρ S) (kEqX2 tab nq d f) := rfl
theorem v_neO {fa fb : FE} : fNeO tab fa fb ρ S = bE (fa ρ S) (kNeO1 tab fb ρ) := rfl
theorem v_neO1 {fb : FE} : kNeO1 tab fb ρ d f S = bE (fb ρ S) (kNeO2 tab d f) := rfl
theorem v_neO3 {k : Bool} : kNeO3 (.bl k) f S = .ok (.bl (!k)) .tr S := rfl
end
end Fx
namespace U
open PySem PySem.Spec PyProof.Rows L2
end U
namespace PySem.SeqAt
open AutoSeq1 (wpAny_loadPart')
open MeetsSeq
end PySem.SeqAt
namespace U
open PySem PySem.Spec PyProof.Rows L2
end U
namespace U
open PySem PySem.Spec PyProof.Rows L2
end U
namespace U
open PySem PySem.Spec PyProof.Rows L2
end U
namespace U
open PySem PySem.Spec PyProof.Rows L2
end U
namespace Fx
open PySem PySem.Spec PyProof.Rows L2 U
mutual
def ncD : D → Bool
  | .non => true
  | .bl _ => true
  | .int _ => true
  | .str _ => true
  | .lst ds => ncA ds
  | .tup ds => ncA ds
  | .obj _ fs => ncF fs
  | .fro _ _ => false
  | .dct _ => false
  | .cel _ => false
  | .cls _ => false
def ncA : List D → Bool
  | [] => true
  | d :: ds => ncD d && ncA ds
def ncF : List (Str × D) → Bool
  | [] => true
  | (_, d) :: fs => ncD d && ncF fs
end
section
variable {K : PySem.W.Frag} {ca : Nat → Addr} {ι B : List Addr} {H H' : Hp}
mutual
theorem RV.nc (g : ∀ a o, H a = some o → H' a = some o) : ∀ (d : D) {v : V}, ncD d = true → RV K ca ι B H v d → RV K ca [] [] H' v d
  | .non, _, _, h => by cases h; exact .non
  | .bl _, _, _, h => by cases h; exact .bl _
  | .int _, _, _, h => by cases h; exact .int _
  | .str _, _, _, h => by cases h; exact .str _
  | .lst ds, _, n, h => by
    unfold ncD at n
    cases h with
    | lst h1 h2 h3 h4 => exact .lst (List.not_mem_nil) (List.not_mem_nil) (g _ _ h3) (RAll.nc g ds n h4)
  | .tup ds, _, n, h => by
    unfold ncD at n
    cases h with
    | tup h1 h2 h3 h4 => exact .tup (List.not_mem_nil) (List.not_mem_nil) (g _ _ h3) (RAll.nc g ds n h4)
  | .obj c fs, _, n, h => by
    unfold ncD at n
    cases h with
    | obj h1 h2 h3 h4 => exact .obj (List.not_mem_nil) (List.not_mem_nil) (g _ _ h3) (RFs.nc g fs n h4)
  | .fro _ _, _, n, _ => by unfold ncD at n; cases n
  | .dct _, _, n, _ => by unfold ncD at n; cases n
  | .cel _, _, n, _ => by unfold ncD at n; cases n
  | .cls _, _, n, _ => by unfold ncD at n; cases n
theorem RAll.nc (g : ∀ a o, H a = some o → H' a = some o) : ∀ (ds : List D) {vs : List V}, ncA ds = true → RAll K ca ι B H vs ds → RAll K ca [] [] H' vs ds
  | [], _, _, h => by cases h; exact .nil
  | d :: ds, _, n, h => by
    unfold ncA at n
    rw [Bool.and_eq_true] at n
    cases h with
    | cons h1 h2 => exact .cons (RV.nc g d n.1 h1) (RAll.nc g ds n.2 h2)
theorem RFs.nc (g : ∀ a o, H a = some o → H' a = some o) : ∀ (fs : List (Str × D)) {vs : List (Str × V)}, ncF fs = true → RFs K ca ι B H vs fs → RFs K ca [] [] H' vs fs
  | [], _, _, h => by cases h; exact .nil
  | (k, d) :: fs, _, n, h => by
    unfold ncF at n
    rw [Bool.and_eq_true] at n
    cases h with
    | cons h1 h2 => exact .cons (RV.nc g d n.1 h1) (RFs.nc g fs n.2 h2)
end
end
end Fx
namespace Fx
open PySem PySem.Spec PyProof.Rows L2 U
end Fx
namespace U
open PySem PySem.Spec PyProof.Rows L2
end U
namespace Fx
open PySem PySem.Spec PyProof.Rows L2 U
end Fx
namespace U
open PySem PySem.Spec PyProof.Rows L2
end U
namespace Fx
open PySem PySem.Spec PyProof.Rows L2 U
end Fx
namespace U
open PySem PySem.Spec PyProof.Rows L2
end U
namespace Fx
open PySem PySem.Spec PyProof.Rows L2 U
end Fx
namespace U
open PySem PySem.Spec PyProof.Rows L2
end U
namespace Fx
open PySem PySem.Spec PyProof.Rows L2 U
end Fx
namespace PySem.SeqAt
open AutoSeq1 (wpAny_loadPart')
open MeetsSeq
end PySem.SeqAt
namespace U
open PySem PySem.Spec PyProof.Rows L2
end U
namespace U
open PySem PySem.Spec PyProof.Rows L2
end U
namespace Fx
open PySem PySem.Spec PyProof.Rows L2 U
end Fx
namespace Fx
open PySem PySem.Spec PyProof.Rows L2 U
end Fx
namespace Fx
open PySem PySem.Spec PyProof.Rows L2 U
end Fx
namespace U
open PySem PySem.Spec PyProof.Rows L2
end U
namespace Fx
open PySem PySem.Spec PyProof.Rows L2 U
end Fx
namespace PySem
end PySem
namespace U
open PySem PySem.Spec PyProof.Rows L2
end U
namespace Fx
open PySem PySem.Spec PyProof.Rows L2 U
end Fx
namespace U
open PySem PySem.Spec PyProof.Rows L2
end U
namespace Fx
open PySem PySem.Spec PyProof.Rows L2 U
end Fx
namespace GenX
open PySem
def stuckK : Resume → Sem PySem.Fin := fun _ => .unsupported "asleep"
def poison : GenState → GenState
  | .suspended _ l c p fs cl => .suspended stuckK l c p fs cl
  | y => y
def Stk (x : GenState) : Prop := ∃ l c p fs cl, x = .suspended stuckK l c p fs cl
def Cln : GenState → Prop
  | .suspended _ _ _ _ fs _ => splitAtGen fs = none
  | _ => True
def R1 (x y : GenState) : Prop := (x = y ∧ Cln y) ∨ (Stk x ∧ x = poison y)
structure RG (X G : Array GenState) : Prop where
  size : X.size = G.size
  at' : ∀ (i : Nat) (x y : GenState), X[i]? = some x → G[i]? = some y → R1 x y
def Stay (X G X' G' : Array GenState) : Prop := ∀ (i : Nat) (x : GenState), X[i]? = some x → Stk x → X'[i]? = some x ∧ G'[i]? = G[i]?
def EndOk : End → Prop
  | .ret _ => True
  | .susp _ _ _ _ _ _ fs => splitAtGen fs = none
theorem R1.seen {x y : GenState} (h : R1 x y) : x.seen = y.seen := by
  rcases h with ⟨rfl, _⟩ | ⟨_, rfl⟩
  · rfl
  · cases y <;> rfl
theorem R1.bare {x y : GenState} (h : R1 x y) : x.bare = y.bare := by
  rcases h with ⟨rfl, _⟩ | ⟨_, rfl⟩
  · rfl
  · cases y <;> rfl
theorem RG.get {X G : Array GenState} (h : RG X G) {i : Nat} {x : GenState} (e : X[i]? = some x) : ∃ y, G[i]? = some y ∧ R1 x y := by
  have hi := (Array.getElem?_eq_some_iff.mp e).1
  rw [h.size] at hi
  exact ⟨G[i], Array.getElem?_eq_getElem hi, h.at' i x _ e (Array.getElem?_eq_getElem hi)⟩
theorem RG.bare {X G : Array GenState} (h : RG X G) (b : ∀ x ∈ X, x.bare = true) : ∀ y ∈ G, y.bare = true := fun y hy => by
  obtain ⟨i, hi, e⟩ := Array.mem_iff_getElem.mp hy
  have hi' : i < X.size := by rw [h.size]; exact hi
  have := h.at' i _ y (Array.getElem?_eq_getElem hi') (by rw [Array.getElem?_eq_getElem hi, e])
  rw [← this.bare]
  exact b _ (Array.getElem_mem hi')
theorem RG.push {X G : Array GenState} (h : RG X G) {c : GenState} (hc : Cln c) : RG (X.push c) (G.push c) := by
  refine ⟨by rw [Array.size_push, Array.size_push, h.size], fun i x y e1 e2 => ?_⟩
  rw [Array.getElem?_push] at e1 e2
  rw [h.size] at e1
  split at e1
  · rename_i hi
    rw [if_pos hi] at e2
    cases e1; cases e2
    exact .inl ⟨rfl, hc⟩
  · rename_i hi
    rw [if_neg hi] at e2
    exact h.at' i x y e1 e2
theorem set_get {X : Array GenState} {g i : Nat} {a x : GenState} (e : (X.setIfInBounds g a)[i]? = some x) : (i = g ∧ x = a ∧ g < X.size) ∨ (i ≠ g ∧ X[i]? = some x) := by
  by_cases hi : i = g
  · subst hi
    rw [Array.getElem?_setIfInBounds_self] at e
    split at e
    · cases e; exact .inl ⟨rfl, rfl, by assumption⟩
    · cases e
  · rw [Array.getElem?_setIfInBounds_ne (Ne.symm hi)] at e
    exact .inr ⟨hi, e⟩
theorem RG.set {X G : Array GenState} (h : RG X G) {g : Nat} {a : GenState} (ha : Cln a) : RG (X.setIfInBounds g a) (G.setIfInBounds g a) := by
  refine ⟨by rw [Array.size_setIfInBounds, Array.size_setIfInBounds, h.size], fun i x y e1 e2 => ?_⟩
  rcases set_get e1 with ⟨h1, h2, _⟩ | ⟨h1, h2⟩
  · rcases set_get e2 with ⟨h3, h4, _⟩ | ⟨h3, h4⟩
    · exact .inl ⟨h2.trans h4.symm, by rw [h4]; exact ha⟩
    · exact absurd h1 h3
  · rcases set_get e2 with ⟨h3, h4, _⟩ | ⟨h3, h4⟩
    · exact absurd h3 h1
    · exact h.at' i x y h2 h4
theorem Stay.refl {X G : Array GenState} : Stay X G X G := fun _ _ e _ => ⟨e, rfl⟩
theorem Stay.trans {X G X1 G1 X2 G2 : Array GenState} (a : Stay X G X1 G1) (b : Stay X1 G1 X2 G2) : Stay X G X2 G2 := fun i x e k => by
  obtain ⟨h1, h2⟩ := a i x e k
  obtain ⟨h3, h4⟩ := b i x h1 k
  exact ⟨h3, h4.trans h2⟩
theorem Stay.push {X G : Array GenState} (h : RG X G) {c : GenState} : Stay X G (X.push c) (G.push c) := fun i x e _ => by
  have hi := (Array.getElem?_eq_some_iff.mp e).1
  have hi' := hi
  rw [h.size] at hi'
  rw [Array.getElem?_push, if_neg (by omega), Array.getElem?_push, if_neg (by omega)]
  exact ⟨e, rfl⟩
theorem Stay.set {X G : Array GenState} {g : Nat} {a : GenState} (hn : ∀ x, X[g]? = some x → ¬ Stk x) : Stay X G (X.setIfInBounds g a) (G.setIfInBounds g a) := fun i x e k => by
  have : i ≠ g := fun z => by subst z; exact hn x e k
  rw [Array.getElem?_setIfInBounds_ne (Ne.symm this), Array.getElem?_setIfInBounds_ne (Ne.symm this)]
  exact ⟨e, rfl⟩
theorem Stay.wake {X G X1 G1 : Array GenState} {g : Nat} {a : GenState} (hn : ∀ x, X[g]? = some x → ¬ Stk x) (b : Stay (X.setIfInBounds g .running) (G.setIfInBounds g .running) X1 G1) : Stay X G (X1.setIfInBounds g a) (G1.setIfInBounds g a) := fun i x e k => by
  have hi : i ≠ g := fun z => by subst z; exact hn x e k
  have := b i x (by rw [Array.getElem?_setIfInBounds_ne (Ne.symm hi)]; exact e) k
  rw [Array.getElem?_setIfInBounds_ne (Ne.symm hi)] at this
  rw [Array.getElem?_setIfInBounds_ne (Ne.symm hi), Array.getElem?_setIfInBounds_ne (Ne.symm hi)]
  exact this
theorem Cln.end' {e : End} (h : EndOk e) : Cln e.genState := by
  cases e with
  | ret _ => trivial
  | susp v g l k c p fs => exact h
theorem split_app {a b : List Frame} (ha : splitAtGen a = none) (hb : splitAtGen b = none) : splitAtGen (a ++ b) = none := by
  induction a with
  | nil => exact hb
  | cons F a ih =>
    cases F with
    | ret =>
      simp only [splitAtGen, Option.map_eq_none_iff] at ha
      simp only [List.cons_append, splitAtGen, ih ha, Option.map_none]
    | gen => simp only [splitAtGen] at ha; cases ha
theorem no_uns {M : Model} {Γ : Ctx} {p : Pos} {t : Sem PySem.Fin} {fs : List Frame} {s s' : Shared} {e : End} (h : Runs M Γ p t fs s e s') : ∀ w, t ≠ .unsupported w := by
  induction h <;> intro w z <;> cases z <;> exact absurd rfl ((by assumption : ∀ w_1 : String, (Sem.unsupported w : Sem PySem.Fin) ≠ Sem.unsupported w_1) w)
theorem nstk_fresh {c : Code} : ¬ Stk (.fresh c) := fun ⟨_, _, _, _, _, e⟩ => by cases e
theorem r1_fresh {c : Code} {y : GenState} (h : R1 (.fresh c) y) : y = .fresh c := by
  rcases h with ⟨e, _⟩ | ⟨k, _⟩
  · exact e.symm
  · exact absurd k nstk_fresh
theorem r1_run {y : GenState} (h : R1 .running y) : y = .running := by
  rcases h with ⟨e, _⟩ | ⟨⟨_, _, _, _, _, e⟩, _⟩
  · exact e.symm
  · cases e
theorem r1_fin {y : GenState} (h : R1 .finished y) : y = .finished := by
  rcases h with ⟨e, _⟩ | ⟨⟨_, _, _, _, _, e⟩, _⟩
  · exact e.symm
  · cases e
abbrev wg (s : Shared) (G : Array GenState) : Shared := { s with gens := G }
theorem swap {M : Model} {Γ : Ctx} {p : Pos} {t : Sem PySem.Fin} {fs : List Frame} {s s' : Shared} {e : End} (h : Runs M Γ p t fs s e s') :
    splitAtGen fs = none → ∀ G, RG s.gens G → ∃ G', RG s'.gens G' ∧ Stay s.gens G s'.gens G' ∧ EndOk e ∧ Runs M Γ p t fs (wg s G) e (wg s' G') := by
  induction h with
  | done => exact fun _ G r => ⟨G, r, .refl, trivial, .done⟩
  | raise => exact fun _ G r => ⟨G, r, .refl, trivial, .raise⟩
  | again hq _ ih => exact fun hf G r => let ⟨G', a, b, c, d⟩ := ih hf G r; ⟨G', a, b, c, .again hq d⟩
  | rule _ ih => exact fun hf G r => let ⟨G', a, b, c, d⟩ := ih hf G r; ⟨G', a, b, c, .rule d⟩
  | «at» _ ih => exact fun hf G r => let ⟨G', a, b, c, d⟩ := ih hf G r; ⟨G', a, b, c, .at d⟩
  | load ho _ ih => exact fun hf G r => let ⟨G', a, b, c, d⟩ := ih hf G r; ⟨G', a, b, c, .load ho d⟩
  | update ho _ ih => exact fun hf G r => let ⟨G', a, b, c, d⟩ := ih hf G r; ⟨G', a, b, c, .update ho d⟩
  | loadIfAlive _ ih => exact fun hf G r => let ⟨G', a, b, c, d⟩ := ih hf G r; ⟨G', a, b, c, .loadIfAlive d⟩
  | point _ ih => exact fun hf G r => let ⟨G', a, b, c, d⟩ := ih hf G r; ⟨G', a, b, c, .point d⟩
  | alloc _ ih => exact fun hf G r => let ⟨G', a, b, c, d⟩ := ih hf G r; ⟨G', a, b, c, .alloc d⟩
  | fresh _ ih => exact fun hf G r => let ⟨G', a, b, c, d⟩ := ih hf G r; ⟨G', a, b, c, .fresh d⟩
  | ask _ ih => exact fun hf G r => let ⟨G', a, b, c, d⟩ := ih hf G r; ⟨G', a, b, c, .ask d⟩
  | choose hn _ ih => exact fun hf G r => let ⟨G', a, b, c, d⟩ := ih hf G r; ⟨G', a, b, c, .choose hn d⟩
  | os _ ih => exact fun hf G r => let ⟨G', a, b, c, d⟩ := ih hf G r; ⟨G', a, b, c, .os d⟩
  | handled _ ih => exact fun hf G r => let ⟨G', a, b, c, d⟩ := ih hf G r; ⟨G', a, b, c, .handled d⟩
  | genState hg _ ih =>
    intro hf G r
    obtain ⟨y, hy, ry⟩ := r.get hg
    obtain ⟨G', a, b, c, d⟩ := ih hf G r
    rw [ry.seen] at d
    exact ⟨G', a, b, c, .genState hy d⟩
  | stack _ ih => exact fun hf G r => let ⟨G', a, b, c, d⟩ := ih hf G r; ⟨G', a, b, c, .stack d⟩
  | thread _ ih => exact fun hf G r => let ⟨G', a, b, c, d⟩ := ih hf G r; ⟨G', a, b, c, .thread d⟩
  | @newGen _ _ k s _ _ cc _ ih =>
    intro hf G r
    obtain ⟨G', a, b, c, d⟩ := ih hf (G.push (.fresh cc)) (r.push trivial)
    refine ⟨G', a, (Stay.push r).trans b, c, ?_⟩
    refine .newGen ?_
    show Runs M _ _ (k G.size) [] _ _ _
    rw [← r.size]
    exact d
  | call _ _ ih1 ih2 =>
    intro hf G r
    obtain ⟨G1, a1, b1, c1, d1⟩ := ih1 hf G r
    obtain ⟨G', a, b, c, d⟩ := ih2 hf G1 a1
    exact ⟨G', a, b1.trans b, c, .call d1 d⟩
  | callSusp _ ih =>
    intro hf G r
    obtain ⟨G', a, b, c, d⟩ := ih hf G r
    exact ⟨G', a, b, split_app c rfl, .callSusp d⟩
  | yield => exact fun _ G r => ⟨G, r, .refl, rfl, .yield⟩
  | resumeFresh hg _ hq _ ih1 ih2 =>
    intro hf G r
    obtain ⟨y, hy, ry⟩ := r.get hg
    have ey := r1_fresh ry
    subst ey
    obtain ⟨G1, a1, b1, c1, d1⟩ := ih1 rfl _ (r.set (a := .running) trivial)
    obtain ⟨G', a, b, c, d⟩ := ih2 hf _ (a1.set (Cln.end' c1))
    exact ⟨G', a, (Stay.wake (fun x e => by rw [hg] at e; cases e; exact nstk_fresh) b1).trans b, c, .resumeFresh hy d1 hq d⟩
  | @resumeSuspended _ _ _ _ _ _ _ k₀ l₀ c₀ p₀ fs₀ cl _ _ _ _ hg h1 hq _ ih1 ih2 =>
    intro hf G r
    obtain ⟨y, hy, ry⟩ := r.get hg
    rcases ry with ⟨e, k⟩ | ⟨⟨_, _, _, _, _, e⟩, _⟩
    · subst e
      by_cases hk : Stk (.suspended k₀ l₀ c₀ p₀ fs₀ cl)
      · obtain ⟨_, _, _, _, _, e⟩ := hk
        cases e
        exact absurd rfl (no_uns h1 "asleep")
      · obtain ⟨G1, a1, b1, c1, d1⟩ := ih1 k _ (r.set (a := .running) trivial)
        obtain ⟨G', a, b, c, d⟩ := ih2 hf _ (a1.set (Cln.end' c1))
        exact ⟨G', a, (Stay.wake (fun x e => by rw [hg] at e; cases e; exact hk) b1).trans b, c, .resumeSuspended hy d1 hq d⟩
    · cases e
      exact absurd rfl (no_uns h1 "asleep")
  | resumeJustStarted hg hv _ ih =>
    intro hf G r
    obtain ⟨y, hy, ry⟩ := r.get hg
    obtain ⟨G', a, b, c, d⟩ := ih hf G r
    exact ⟨G', a, b, c, .resumeJustStarted (by rw [hy, r1_fresh ry]) hv d⟩
  | resumeThrowFresh hg _ ih =>
    intro hf G r
    obtain ⟨y, hy, ry⟩ := r.get hg
    obtain ⟨G', a, b, c, d⟩ := ih hf _ (r.set (a := .finished) trivial)
    exact ⟨G', a, (Stay.set (fun x e => by rw [hg] at e; cases e; exact nstk_fresh)).trans b, c, .resumeThrowFresh (by show G[_]? = _; rw [hy, r1_fresh ry]) d⟩
  | resumeRunning hg _ ih =>
    intro hf G r
    obtain ⟨y, hy, ry⟩ := r.get hg
    obtain ⟨G', a, b, c, d⟩ := ih hf G r
    exact ⟨G', a, b, c, .resumeRunning (by rw [hy, r1_run ry]) d⟩
  | resumeFinished hg _ ih =>
    intro hf G r
    obtain ⟨y, hy, ry⟩ := r.get hg
    obtain ⟨G', a, b, c, d⟩ := ih hf G r
    exact ⟨G', a, b, c, .resumeFinished (by rw [hy, r1_fin ry]) d⟩
  | @segRet _ _ _ _ _ _ _ _ _ _ fs₀ _ _ _ _ _ _ _ ih1 ih2 =>
    intro hf G r
    have hf' : splitAtGen fs₀ = none := by
      simp only [splitAtGen, Option.map_eq_none_iff] at hf
      exact hf
    obtain ⟨G1, a1, b1, c1, d1⟩ := ih1 rfl G r
    obtain ⟨G', a, b, c, d⟩ := ih2 hf' G1 a1
    exact ⟨G', a, b1.trans b, c, .segRet d1 d⟩
  | segGen _ _ _ _ => intro hf; simp only [splitAtGen] at hf; cases hf
  | segSuspOut hs _ ih =>
    intro hf G r
    obtain ⟨G', a, b, c, d⟩ := ih rfl G r
    exact ⟨G', a, b, split_app c hs, .segSuspOut hs d⟩
  | segSuspGen hs _ _ _ _ _ => intro hf; rw [hf] at hs; cases hs
theorem wakes_swap {M : Model} {Γ : Ctx} {p : Pos} {g : Nat} {r : Resume} {s s' : Shared} {res : GenResult} (h : Wakes M Γ p g r s res s') {G : Array GenState} (R : RG s.gens G) :
    ∃ G', RG s'.gens G' ∧ Stay s.gens G s'.gens G' ∧ Wakes M Γ p g r (wg s G) res (wg s' G') := by
  unfold Wakes at h
  split at h
  · exact h.elim
  · rename_i c hg
    obtain ⟨y, hy, ry⟩ := R.get hg
    have ey := r1_fresh ry
    subst ey
    have hy' : (wg s G).gens[g]? = some (.fresh c) := hy
    split at h
    · obtain ⟨e₁, s₁, h1, hq, hr, rfl⟩ := h
      obtain ⟨G1, a1, b1, c1, d1⟩ := swap h1 rfl _ (R.set (a := .running) trivial)
      refine ⟨_, a1.set (g := g) (Cln.end' c1), Stay.wake (fun x e => by rw [hg] at e; cases e; exact nstk_fresh) b1, ?_⟩
      unfold Wakes
      rw [hy']
      exact ⟨e₁, wg s₁ G1, d1, hq, hr, rfl⟩
    · obtain ⟨hr, rfl⟩ := h
      refine ⟨G, R, .refl, ?_⟩
      unfold Wakes
      rw [hy']
      dsimp only
      split
      · exfalso; simp_all
      · exact ⟨hr, rfl⟩
      · rename_i z; cases z
    · obtain ⟨hr, rfl⟩ := h
      refine ⟨_, R.set (g := g) (a := .finished) trivial, Stay.set (fun x e => by rw [hg] at e; cases e; exact nstk_fresh), ?_⟩
      unfold Wakes
      rw [hy']
      exact ⟨hr, rfl⟩
  · rename_i k₀ l₀ c₀ p₀ fs cl hg
    obtain ⟨e₁, s₁, h1, hq, hr, rfl⟩ := h
    obtain ⟨y, hy, ry⟩ := R.get hg
    rcases ry with ⟨e, k⟩ | ⟨⟨_, _, _, _, _, e⟩, _⟩
    · subst e
      by_cases hk : Stk (.suspended k₀ l₀ c₀ p₀ fs cl)
      · obtain ⟨_, _, _, _, _, e⟩ := hk
        cases e
        exact absurd rfl (no_uns h1 "asleep")
      · obtain ⟨G1, a1, b1, c1, d1⟩ := swap h1 k _ (R.set (a := .running) trivial)
        refine ⟨_, a1.set (g := g) (Cln.end' c1), Stay.wake (fun x e => by rw [hg] at e; cases e; exact hk) b1, ?_⟩
        have hy' : (wg s G).gens[g]? = some (.suspended k₀ l₀ c₀ p₀ fs cl) := hy
        unfold Wakes
        rw [hy']
        exact ⟨e₁, wg s₁ G1, d1, hq, hr, rfl⟩
    · cases e
      exact absurd rfl (no_uns h1 "asleep")
  · rename_i hg
    obtain ⟨hr, rfl⟩ := h
    obtain ⟨y, hy, ry⟩ := R.get hg
    have hy' : (wg s' G).gens[g]? = some .running := by show G[g]? = _; rw [hy, r1_run ry]
    refine ⟨G, R, .refl, ?_⟩
    unfold Wakes
    rw [hy']
    exact ⟨hr, rfl⟩
  · rename_i hg
    obtain ⟨hr, rfl⟩ := h
    obtain ⟨y, hy, ry⟩ := R.get hg
    have hy' : (wg s' G).gens[g]? = some .finished := by show G[g]? = _; rw [hy, r1_fin ry]
    refine ⟨G, R, .refl, ?_⟩
    unfold Wakes
    rw [hy']
    exact ⟨hr, rfl⟩
/-- behind it: the same, and all that could not be woken sleeps on -/
def Sw {α : Type} (X G : Array GenState) (Q : α → Shared → Prop) (a : α) (s' : Shared) : Prop := ∃ X', RG X' s'.gens ∧ Stay X G X' s'.gens ∧ Q a (wg s' X')
theorem Sw.go {α : Type} {X G X1 G1 : Array GenState} {Q : α → Shared → Prop} {a : α} {s' : Shared} (st : Stay X G X1 G1) (h : Sw X1 G1 Q a s') : Sw X G Q a s' := by
  obtain ⟨X', h1, h2, h3⟩ := h
  exact ⟨X', h1, st.trans h2, h3⟩
open Sem (wp) in
theorem wp_swap {α : Type} (M : Model) (Γ : Ctx) (t : Sem α) : ∀ (Q : α → Pos → Shared → Prop) (E : Value → Pos → Shared → Prop) (p : Pos) (s : Shared) (G : Array GenState), RG s.gens G → wp M Γ t Q E p s →
    wp M Γ t (fun a p' s' => Sw s.gens G (fun a s => Q a p' s) a s') (fun e p' s' => Sw s.gens G (fun a s => E a p' s) e s') p (wg s G) := by
  induction t with
  | pure a => intro Q E p s G r h; exact ⟨s.gens, r, .refl, h⟩
  | raise e => intro Q E p s G r h; exact ⟨s.gens, r, .refl, h⟩
  | unsupported _ => intro Q E p s G _ h; exact h
  | finish _ => intro Q E p s G _ h; exact h
  | rule _ k ih => intro Q E p s G r h; exact ih () Q E p s G r h
  | «at» p' k ih => intro Q E p s G r h; exact ih () Q E p' s G r h
  | load a _ k ih => intro Q E p s G r h; obtain ⟨o, ho, h⟩ := h; exact ⟨o, ho, ih o Q E p s G r h⟩
  | update a _ f k ih => intro Q E p s G r h; exact ⟨h.1, ih () Q E p { s with heap := s.heap.update a f } G r h.2⟩
  | loadIfAlive a k ih => intro Q E p s G r h; exact ih _ Q E p s G r h
  | point _ k ih => intro Q E p s G r h; exact ih () Q E p s G r h
  | register _ _ => intro Q E p s G _ h; exact h
  | alloc o k ih => intro Q E p s G r h; exact ih _ Q E p { s with heap := s.heap.push o } G r h
  | fresh k ih => intro Q E p s G r h; exact ih _ Q E p { s with toks := s.toks + 1 } G r h
  | ask k ih => intro Q E p s G r h; exact ih _ Q E p s G r h
  | choose src m k ih => intro Q E p s G r h; exact ⟨h.1, ih _ Q E p { s with drawn := s.drawn.bump src } G r h.2⟩
  | os q _ k ih => intro Q E p s G r h; exact ih _ Q E p { s with os := (Os.step s.os q).1 } G r h
  | call c hd _ _ k ih =>
    intro Q E p s G r h
    obtain ⟨x, s', hr, h⟩ := h
    obtain ⟨G1, a1, b1, _, d1⟩ := swap hr rfl G r
    exact ⟨x, wg s' G1, d1, Sem.wp_mono M Γ _ (fun _ _ _ => Sw.go b1) (fun _ _ _ => Sw.go b1) p _ (ih x Q E p s' G1 a1 h)⟩
  | handled own k ih => intro Q E p s G r h; exact ih _ Q E p s G r h
  | genState g k ih =>
    intro Q E p s G r h
    obtain ⟨st, hs, h⟩ := h
    obtain ⟨y, hy, ry⟩ := r.get hs
    rw [ry.seen] at h
    exact ⟨y, hy, ih _ Q E p s G r h⟩
  | newGen c k ih =>
    intro Q E p s G r h
    have h' := ih _ Q E p { s with gens := s.gens.push (.fresh c) } (G.push (.fresh c)) (RG.push (c := .fresh c) r trivial) h
    show wp M Γ (k G.size) _ _ p _
    rw [← r.size]
    exact Sem.wp_mono M Γ _ (fun _ _ _ => Sw.go (Stay.push r)) (fun _ _ _ => Sw.go (Stay.push r)) p _ h'
  | resume g x _ k ih =>
    intro Q E p s G r h
    obtain ⟨res, s', hw, h⟩ := h
    obtain ⟨G1, a1, b1, d1⟩ := wakes_swap hw r
    exact ⟨res, wg s' G1, d1, Sem.wp_mono M Γ _ (fun _ _ _ => Sw.go b1) (fun _ _ _ => Sw.go b1) p _ (ih res Q E p s' G1 a1 h)⟩
  | yield _ _ _ _ => intro Q E p s G _ h; exact h
  | stack k ih => intro Q E p s G r h; exact ih _ Q E p s G r h
  | fork _ _ => intro Q E p s G _ h; exact h
  | thread k ih => intro Q E p s G r h; exact ih _ Q E p s G r h
  | await _ _ _ _ _ => intro Q E p s G _ h; exact h
theorem rg_poison (G : Array GenState) : RG (G.map poison) G := by
  refine ⟨by rw [Array.size_map], fun i x y e1 e2 => ?_⟩
  rw [Array.getElem?_map, e2] at e1
  cases e1
  cases y with
  | suspended k l c p fs cl => exact .inr ⟨⟨_, _, _, _, _, rfl⟩, rfl⟩
  | fresh c => exact .inl ⟨rfl, trivial⟩
  | running => exact .inl ⟨rfl, trivial⟩
  | finished => exact .inl ⟨rfl, trivial⟩
/-- what sleeps sleeps on -/
def Asleep (G G' : Array GenState) : Prop := ∀ (i : Nat) (x : GenState), G[i]? = some x → x.status = .suspended → G'[i]? = some x
theorem bare_poison {G : Array GenState} (h : ∀ x ∈ G, x.bare = true) : ∀ x ∈ G.map poison, x.bare = true := fun x hx => by
  obtain ⟨y, hy, rfl⟩ := Array.mem_map.mp hx
  have := h y hy
  cases y <;> exact this
/-- THE RULE: whatever runs where nothing that sleeps can be woken leaves it asleep -/
theorem wpAny_asleep {α : Type} {M : Model} {A : Around} {t : Sem α} {Q : α → Shared → Prop} {E : Value → Shared → Prop} {s : Shared} (h : wpAny M A t Q E (wg s (s.gens.map poison))) :
    wpAny M A t (fun a s' => ∃ X', RG X' s'.gens ∧ Asleep s.gens s'.gens ∧ Q a (wg s' X')) (fun e s' => ∃ X', RG X' s'.gens ∧ Asleep s.gens s'.gens ∧ E e (wg s' X')) s := by
  intro Γ p hΓ
  have key : ∀ X' (s' : Shared), Stay (s.gens.map poison) s.gens X' s'.gens → Asleep s.gens s'.gens := fun X' s' st i x e k => by
    cases x with
    | suspended k₀ l c p fs cl =>
      have := (st i (poison (.suspended k₀ l c p fs cl)) (by rw [Array.getElem?_map, e]; rfl) ⟨_, _, _, _, _, rfl⟩).2
      rw [this, e]
    | fresh c => cases k
    | running => cases k
    | finished => cases k
  exact Sem.wp_mono M Γ _ (fun _ _ s' ⟨X', a, b, c⟩ => ⟨X', a, key X' s' b, c⟩) (fun _ _ s' ⟨X', a, b, c⟩ => ⟨X', a, key X' s' b, c⟩) p _ (wp_swap M Γ t _ _ p (wg s (s.gens.map poison)) s.gens (rg_poison _) (h Γ p hΓ))
end GenX
namespace L2
open PySem PySem.Spec PyProof.Rows GenW GenX
def cut (h : Heap) (n : Nat) : Heap := ⟨h.objs.extract 0 n, h.life⟩
theorem cut_size {h : Heap} {n : Nat} : (cut h n).objs.size = min n h.objs.size := by
  unfold cut; simp
theorem cut_in {h : Heap} {n b : Nat} (hb : b < n) : (cut h n).get? b = h.get? b := by
  have : (h.objs.extract 0 n)[b]? = h.objs[b]? := by
    rw [Array.getElem?_extract]
    by_cases z : b < h.objs.size
    · rw [if_pos (by omega), Nat.zero_add]
    · rw [if_neg (by omega), Array.getElem?_eq_none (by omega)]
  unfold cut Heap.get?
  rw [this]
theorem cut_some {h : Heap} {n b : Nat} {o : Obj} (e : (cut h n).get? b = some o) : b < n ∧ h.get? b = some o := by
  have := Heap.lt_size e
  rw [cut_size] at this
  have hb : b < n := Nat.lt_of_lt_of_le this (Nat.min_le_left ..)
  exact ⟨hb, by rw [← cut_in hb]; exact e⟩
theorem cut_all (h : Heap) : cut h h.objs.size = h := by
  unfold cut
  cases h
  simp
/-- the context at a waking at (s, H) -/
abbrev rb (X : Cx) (s : Shared) (H : Hp) : Cx := { X with s_0 := { s with heap := cut s.heap X.env.locals }, H_0 := H, xe := fun _ _ => False }
structure GX (X : Cx) : Prop where
  ex : X.ex = []
  nocell : ∀ x, X.env.cells.lookup x = none
  old : ∀ b ∈ frs X.outer, b < X.env.locals
theorem Inv.wake {X : Cx} (g : GX X) {sj s1 s' : Shared} {Hj H1 H' : Hp} {pins pins' : List (Addr × Obj)} {σ : L2.St} {A0 : Around} (I : Inv (rb X sj Hj) pins σ H1 s1) (e0 : Env0 X.prog X.w X.K X.mg X.base A0 X.outer s' H')
    (hL : ∀ o, s1.heap.get? X.env.locals = some o → s'.heap.get? X.env.locals = some o) (hn : H' X.env.locals = none)
    (hp : ∀ p ∈ X.pn ++ pins', s'.heap.get? p.1 = some p.2 ∧ H' p.1 = none ∧ p.1 ≠ X.env.locals ∧ p.1 ∉ X.fs ∧ ∀ v, p.2.data ≠ .cell v) : Inv (rb X s' H') pins' σ H' s' := by
  have noc : ∀ {x : Str} {c : Addr}, X.env.cells.lookup x = some c → False := fun {x c} e => by rw [g.nocell x] at e; cases e
  have noe : ∀ {b : Addr}, b ∉ X.ex := fun {b} => by rw [g.ex]; exact List.not_mem_nil
  have ok := I.ok
  have bsz : X.base.objs.size ≤ X.env.locals := by
    have := ok.bsz
    have h2 : (cut sj.heap X.env.locals).objs.size ≤ X.env.locals := ok.above
    exact Nat.le_trans this h2
  have low : ∀ b o, X.base.get? b = some o → b < X.env.locals := fun b o e => Nat.lt_of_lt_of_le (Heap.lt_size e) bsz
  have funs : (cut s'.heap X.env.locals).FunFrames X.base X.outer := by
    have : ∀ l : List Env, (∀ b ∈ frs l, b < X.env.locals) → s'.heap.FunFrames X.base l → (cut s'.heap X.env.locals).FunFrames X.base l := by
      intro l
      induction l with
      | nil => intro _ _; trivial
      | cons env r ih =>
        intro hs hl
        obtain ⟨hk, ⟨L, o, hf, hn, ho, hd⟩, hr⟩ := hl
        have hL : L < X.env.locals := hs L (by unfold frs; rw [List.filterMap_cons, hf]; exact List.mem_cons_self)
        exact ⟨hk, ⟨L, o, hf, hn, by rw [cut_in hL]; exact ho, hd⟩, ih (fun b hb => hs b (by
          unfold frs at hb ⊢
          rw [List.filterMap_cons]
          split
          · exact hb
          · exact List.mem_cons_of_mem _ hb)) hr⟩
    exact this X.outer g.old e0.funs
  refine ⟨⟨ok.mod, ok.kind, ok.glob, ok.blt, ?_, ok.inj, ok.has, fun x c _ e => (noc e).elim, ok.hd, ok.frames, ok.stk, fun b hb => absurd hb noe, fun b o e => ⟨?_, (e0.bs b o e).2⟩, ?_, fun _ _ _ => noe, fun b hb => absurd hb noe, funs, e0.frf⟩, rfl, e0.bare,
    ⟨fun b o e n _ _ => (cut_some e).2, fun b o e n _ _ => ⟨o.slots, (cut_some e).2⟩, fun b o e n _ => n, fun b o e _ => ⟨o, (cut_some e).2⟩, fun _ _ e => e, fun _ _ _ e => e, fun b ps e => ⟨#[], by have e : H' b = some (.tbl ps) := e; rw [e]; simp⟩⟩,
    ?_, fun x c e => (noc e).elim, hn, fun x c e => (noc e).elim, hp, e0.hok, I.len⟩
  · show (cut s'.heap X.env.locals).objs.size ≤ X.env.locals
    rw [cut_size]; exact Nat.min_le_left ..
  · show (cut s'.heap X.env.locals).get? b = some o
    rw [cut_in (low b o e)]; exact (e0.bs b o e).1
  · show X.base.objs.size ≤ (cut s'.heap X.env.locals).objs.size
    rw [cut_size]
    exact Nat.le_min.mpr ⟨bsz, e0.bsz⟩
  · obtain ⟨m, ⟨o, es, ep, ho, r⟩, hl⟩ := I.loc
    refine ⟨m, ⟨o, es, ep, hL o ho, r⟩, fun i x v e1 e2 e3 => ?_⟩
    obtain ⟨u, r, l⟩ := hl i x v e1 e2 e3
    refine ⟨u, r, ?_⟩
    rcases l with l | ⟨_, c, e, _⟩
    · exact .inl l
    · exact (noc e).elim
/-- what a run of a generator from (sj, Hj) to (s1, H1) leaves of its consumer's state -/
theorem Inv.seen {X Xc : Cx} (g : GX X) (hs : X.outer = Xc.stack) (hP : X.prog = Xc.prog) (hw : X.w = Xc.w) {sj s1 : Shared} {Hj H1 : Hp} {pc pg : List (Addr × Obj)} {σc σg : L2.St} (Ic : Inv Xc pc σc Hj sj) (Ig : Inv (rb X sj Hj) pg σg H1 s1)
    (mine : ∀ b o, (b = Xc.env.locals ∨ (∃ x, Xc.env.cells.lookup x = some b) ∨ ∃ p ∈ Xc.pn ++ pc, p.1 = b) → sj.heap.get? b = some o → b < X.env.locals ∨ (b, o) ∈ pg) (hsz : Xc.s_0.heap.objs.size ≤ X.env.locals) : Inv Xc pc σc H1 s1 := by
  have noe : ∀ {b : Addr}, b ∉ X.ex := fun {b} => by rw [g.ex]; exact List.not_mem_nil
  have B := Ig.base
  -- an untracked object below, or pinned
  have any : ∀ b o, (b < X.env.locals ∨ (b, o) ∈ pg) → sj.heap.get? b = some o → Hj b = none → (∃ sl, s1.heap.get? b = some { o with slots := sl }) ∧ H1 b = none := fun b o h e n => by
    rcases h with h | h
    · have e' : (cut sj.heap X.env.locals).get? b = some o := by rw [cut_in h]; exact e
      exact ⟨B.any e' n noe, B.free b o e' n noe⟩
    · have := Ig.pin (b, o) (List.mem_append_right _ h)
      exact ⟨⟨o.slots, this.1⟩, this.2.1⟩
  have low : ∀ b o, Xc.s_0.heap.get? b = some o → b < X.env.locals := fun b o e => Nat.lt_of_lt_of_le (Heap.lt_size e) hsz
  have cin : ∀ {b o}, b < X.env.locals → sj.heap.get? b = some o → (cut sj.heap X.env.locals).get? b = some o := fun h e => by rw [cut_in h]; exact e
  have cellK : ∀ x c, Xc.env.cells.lookup x = some c → ∀ v, sj.heap.IsCell c v → s1.heap.IsCell c v := fun x c e v ⟨o, ho, hd⟩ => by
    obtain ⟨⟨sl, q⟩, _⟩ := any c o (mine c o (.inr (.inl ⟨x, e⟩)) ho) ho (Ic.freeC x c e)
    exact ⟨_, q, hd⟩
  have locE : ∃ o es ep, sj.heap.get? Xc.env.locals = some o ∧ o.data = .dict es ep := by
    obtain ⟨m, ⟨o, es, ep, ho, hd, _⟩, _⟩ := Ic.loc
    exact ⟨o, es, ep, ho, hd⟩
  obtain ⟨oL, _, _, eL, _⟩ := locE
  have keepL := any _ oL (mine _ oL (.inl rfl) eL) eL Ic.free
  refine ⟨Ic.ok, Ig.os.trans Ic.os, Ig.bare, ⟨fun b o e n hb hx => ?_, fun b o e n hb hx => ?_, fun b o e n hx => ?_, fun b o e hx => ?_, fun b xs e => B.tups b xs (Ic.base.tups b xs e), fun b o u e => B.frzs b o u (Ic.base.frzs b o u e), fun b ps e => ?_⟩, ?_, fun x c e => ?_, keepL.2, fun x c e => ?_, fun p hp => ?_, ?_, Ic.len⟩
  · have e1 := Ic.base.keep b o e n hb hx
    have n1 := Ic.base.free b o e n hx
    refine B.keep b o (cin (low b o e) e1) n1 (fun z => ?_) noe
    have z : b ∈ frs Xc.stack := by rw [← hs]; exact z
    rcases List.mem_cons.mp (Ic.stkSub b z) with z | z
    · have := Nat.lt_of_lt_of_le (Heap.lt_size e) Ic.ok.above
      rw [z] at this
      exact Nat.lt_irrefl _ this
    · exact hb z
  · obtain ⟨sl, e1⟩ := Ic.base.slot b o e n hb hx
    have n1 := Ic.base.free b o e n hx
    obtain ⟨sl', e2⟩ := B.any (cin (low b o e) e1) n1 noe
    exact ⟨sl', e2⟩
  · obtain ⟨o', e1⟩ := Ic.base.there b o e hx
    exact B.free b o' (cin (low b o e) e1) (Ic.base.free b o e n hx) noe
  · obtain ⟨o', e1⟩ := Ic.base.there b o e hx
    exact B.there b o' (cin (low b o e) e1) noe
  · obtain ⟨m1, e1⟩ := Ic.base.tbls b ps e
    obtain ⟨m2, e2⟩ := B.tbls b _ e1
    exact ⟨m1 ++ m2, by rw [e2, Array.append_assoc]⟩
  · obtain ⟨m, ⟨o, es, ep, ho, r⟩, hl⟩ := Ic.loc
    have eo : o = oL := by rw [eL] at ho; cases ho; rfl
    subst eo
    obtain ⟨sl, q⟩ := keepL.1
    refine ⟨m, ⟨_, es, ep, q, r⟩, fun i x v e1 e2 e3 => ?_⟩
    obtain ⟨u, r, l⟩ := hl i x v e1 e2 e3
    refine ⟨u, r, ?_⟩
    rcases l with l | ⟨k, c, e, z⟩
    · exact .inl l
    · exact .inr ⟨k, c, e, cellK x c e _ z⟩
  · obtain ⟨v, z⟩ := Ic.cell x c e
    exact ⟨v, cellK x c e v z⟩
  · obtain ⟨v, o, ho, hd⟩ := Ic.cell x c e
    exact (any c o (mine c o (.inr (.inl ⟨x, e⟩)) ho) ho (Ic.freeC x c e)).2
  · obtain ⟨e, n, ne, nf, d⟩ := Ic.pin p hp
    have hm := mine p.1 p.2 (.inr (.inr ⟨p, hp, rfl⟩)) e
    refine ⟨?_, (any p.1 p.2 hm e n).2, ne, nf, d⟩
    rcases hm with hm | hm
    · refine B.keep p.1 p.2 (cin hm e) n (fun z => ?_) noe
      have z : p.1 ∈ frs Xc.stack := by rw [← hs]; exact z
      rcases List.mem_cons.mp (Ic.stkSub p.1 z) with z | z
      · exact ne z
      · exact nf z
    · exact (Ig.pin (p.1, p.2) (List.mem_append_right _ hm)).1
  · have := Ig.hok
    rw [← hP, ← hw]
    exact this
end L2
namespace L2
open PySem PySem.Spec PyProof.Rows GenW GenX
/-- the pins that the consumer wants kept stand apart from the generator's own -/
def Apt (X : Cx) (ip ks : List (Addr × Obj)) : Prop := ∀ p ∈ ks, p.1 ≠ X.env.locals ∧ ∀ q ∈ X.pn ++ ip, p.1 ≠ q.1
abbrev CIT (Γ : Type) := Shared → Hp → List (Addr × Obj) → Γ → Prop
def GI1 {Γ : Type} (X : Cx) (CI : CIT Γ) (ip : List (Addr × Obj)) (σ : L2.St) (H : Hp) (s : Shared) (γ : Γ) : Prop := ∃ sj Hj ks, CI sj Hj ks γ ∧ Apt X ip ks ∧ X.env.locals ≤ sj.heap.objs.size ∧ Inv (rb X sj Hj) (ip ++ ks) σ H s
/-- it may be woken at (s', H') -/
structure Wk (X : Cx) (ip : List (Addr × Obj)) (s s' : Shared) (H' : Hp) (ks' : List (Addr × Obj)) : Prop where
  env : ∃ A0, Env0 X.prog X.w X.K X.mg X.base A0 X.outer s' H'
  loc : ∀ o, s.heap.get? X.env.locals = some o → s'.heap.get? X.env.locals = some o
  free : H' X.env.locals = none
  pin : ∀ p ∈ X.pn ++ (ip ++ ks'), s'.heap.get? p.1 = some p.2 ∧ H' p.1 = none ∧ p.1 ≠ X.env.locals ∧ p.1 ∉ X.fs ∧ ∀ v, p.2.data ≠ .cell v
  apt : Apt X ip ks'
theorem GI1.wake {Γ : Type} {X : Cx} (g : GX X) {CI : CIT Γ} {ip ks' : List (Addr × Obj)} {σ : L2.St} {H H' : Hp} {s s' : Shared} {γ γ' : Γ} (h : GI1 X CI ip σ H s γ) (w : Wk X ip s s' H' ks') (c : CI s' H' ks' γ') : GI1 X CI ip σ H' s' γ' := by
  obtain ⟨sj, Hj, ks, _, _, _, I⟩ := h
  obtain ⟨A0, e0⟩ := w.env
  have lt : X.env.locals < s'.heap.objs.size := by
    obtain ⟨m, ⟨o, es, ep, ho, _⟩, _⟩ := I.loc
    exact Heap.lt_size (w.loc o ho)
  exact ⟨s', H', ks', c, w.apt, Nat.le_of_lt lt, I.wake g e0 w.loc w.free w.pin⟩
/-- what is wanted behind a statement; n: how often it may still yield; γ: the consumer's own state -/
structure GEn (Γ : Type) where
  nx : Nat → L2.St → Hp → Γ → Prop
  rt : Nat → V → Hp → Γ → Prop
  bk : Nat → L2.St → Hp → Γ → Prop := fun _ _ _ _ => False
  ct : Nat → L2.St → Hp → Γ → Prop := fun _ _ _ _ => False
  yl : Nat → V → Hp → Γ → (Hp → Γ → Prop) → Prop
abbrev TGm (Γ : Type) := GEn Γ → Nat → L2.St → Hp → Γ → Prop
abbrev YLT (Γ : Type) := Nat → V → Hp → Γ → (Hp → Γ → Prop) → Prop
def GY1 {Γ : Type} (X : Cx) (CI : CIT Γ) (YL : YLT Γ) : Protocol := fun n s₀ v s kap =>
  ∃ ip σ H x γ κ, RelV x v ∧ GI1 X CI ip σ H s γ ∧ (∀ p ∈ ip, X.env.locals < p.1) ∧ YL n x H γ κ ∧ ∀ s' H' ks' γ', Wk X ip s s' H' ks' → CI s' H' ks' γ' → κ H' γ' → kap (.send .none) s' ∧ kap (.send (.bool true)) s'
def GSP1 {Γ : Type} (X : Cx) (CI : CIT Γ) (ip : List (Addr × Obj)) (D : GEn Γ) (n : Nat) (f : Flow) (s : Shared) : Prop :=
  match f with
  | .next => ∃ σ H γ, GI1 X CI ip σ H s γ ∧ D.nx n σ H γ
  | .brk => ∃ σ H γ, GI1 X CI ip σ H s γ ∧ D.bk n σ H γ
  | .cont => ∃ σ H γ, GI1 X CI ip σ H s γ ∧ D.ct n σ H γ
  | .ret u => ∃ v σ H γ, GI1 X CI ip σ H s γ ∧ RelV v u ∧ D.rt n v H γ
structure GC1 (X : Cx) (A : Around) (c : Code) (fs : List Frame) (gd : Bool → Bool) : Prop where
  over : A.over c fs = X.A
  split : splitAtGen fs = none
  guard : fs.any Frame.guarded = false
  gd : gd false = false
def GK1 {Γ : Type} (X : Cx) (A : Around) (R : GenEnd) (CI : CIT Γ) (ip : List (Addr × Obj)) (c : Code) (fs : List Frame) (K : Flow → Sem PySem.Fin) (D : GEn Γ) : Prop :=
  ∀ (n : Nat) (s₀ s : Shared) (f : Flow), GSP1 X CI ip D n f s → Seg (model X.prog X.w) A R (GY1 X CI D.yl) n s₀ c (K f) fs s
structure GS1 (Γ : Type) (X : Cx) (st : Stmt) (t : TGm Γ) : Prop where
  run : ∀ (A : Around) (R : GenEnd) (CI : CIT Γ) (ip : List (Addr × Obj)) (n : Nat) (s₀ : Shared) (c : Code) (fs : List Frame) (K : Flow → Sem PySem.Fin) (J : Value → Sem PySem.Fin) (gd : Bool → Bool) (lv : List Value → List Value) (s : Shared) (σ : L2.St) (H : Hp) (γ : Γ) (D : GEn Γ),
    GC1 X A c fs gd → (∀ p ∈ ip, X.env.locals < p.1) → GK1 X A R CI ip c fs K D → GI1 X CI ip σ H s γ → t D n σ H γ → Seg (model X.prog X.w) A R (GY1 X CI D.yl) n s₀ c ((exec st X.env).wrap K J gd lv) fs s
structure GSs1 (Γ : Type) (X : Cx) (st : List Stmt) (t : TGm Γ) : Prop where
  run : ∀ (A : Around) (R : GenEnd) (CI : CIT Γ) (ip : List (Addr × Obj)) (n : Nat) (s₀ : Shared) (c : Code) (fs : List Frame) (K : Flow → Sem PySem.Fin) (J : Value → Sem PySem.Fin) (gd : Bool → Bool) (lv : List Value → List Value) (s : Shared) (σ : L2.St) (H : Hp) (γ : Γ) (D : GEn Γ),
    GC1 X A c fs gd → (∀ p ∈ ip, X.env.locals < p.1) → GK1 X A R CI ip c fs K D → GI1 X CI ip σ H s γ → t D n σ H γ → Seg (model X.prog X.w) A R (GY1 X CI D.yl) n s₀ c ((execs st X.env).wrap K J gd lv) fs s
def GEn.at {Γ : Type} (D : GEn Γ) (n : Nat) (γ : Γ) : Ends := { nx := fun σ H => D.nx n σ H γ, rt := fun v H => D.rt n v H γ, bk := fun σ H => D.bk n σ H γ, ct := fun σ H => D.ct n σ H γ }
section
variable {Γ : Type} {X : Cx} {st : Stmt} {rest : List Stmt}
/-- a statement that hands out nothing -/
def tPl {Γ : Type} (t : TS) : TGm Γ := fun D n σ H γ => t (D.at n γ) σ H
theorem sp_gsp1 {CI : CIT Γ} {ip ks : List (Addr × Obj)} {sj : Shared} {Hj : Hp} {s : Shared} {D : GEn Γ} {n : Nat} {γ : Γ} {f : Flow} (c : CI sj Hj ks γ) (a : Apt X ip ks) (z : X.env.locals ≤ sj.heap.objs.size) (h : SP (rb X sj Hj) (ip ++ ks) (D.at n γ) f s) : GSP1 X CI ip D n f s := by
  cases f with
  | next => obtain ⟨σ, H, I, q⟩ := h; exact ⟨σ, H, γ, ⟨sj, Hj, ks, c, a, z, I⟩, q⟩
  | brk => obtain ⟨σ, H, I, q⟩ := h; exact ⟨σ, H, γ, ⟨sj, Hj, ks, c, a, z, I⟩, q⟩
  | cont => obtain ⟨σ, H, I, q⟩ := h; exact ⟨σ, H, γ, ⟨sj, Hj, ks, c, a, z, I⟩, q⟩
  | ret u => obtain ⟨v, σ, H, I, r, q⟩ := h; exact ⟨v, σ, H, γ, ⟨sj, Hj, ks, c, a, z, I⟩, r, q⟩
theorem gs1_ps {t : TS} (h : ∀ sj Hj, PS (rb X sj Hj) st t) : GS1 Γ X st (tPl t) := by
  refine ⟨fun A R CI ip n s₀ c fs K J gd lv s σ H γ D g hi k hI ht => ?_⟩
  obtain ⟨sj, Hj, ks, hc, ha, hz, I⟩ := hI
  refine seg_wrap ?_
  rw [g.over]
  exact wpAny_mono ((h sj Hj).run _ s σ H (D.at n γ) I ht) (fun f s' hs => k n s₀ s' f (sp_gsp1 hc ha hz hs)) fun x s' hx => hx.elim
def tG1 {Γ : Type} : TGm Γ := fun D n σ H γ => D.nx n σ H γ
theorem gss1_nil : GSs1 Γ X [] tG1 := by
  refine ⟨fun A R CI ip n s₀ c fs K J gd lv s σ H γ D g hi k hI ht => ?_⟩
  exact seg_execs_nil (k n s₀ s .next ⟨σ, H, γ, hI, ht⟩)
def tGSeq {Γ : Type} (t u : TGm Γ) : TGm Γ := fun D n σ H γ => t { D with nx := fun n' σ' H' γ' => u D n' σ' H' γ' } n σ H γ
theorem gss1_cons {t u : TGm Γ} (a : GS1 Γ X st t) (b : GSs1 Γ X rest u) : GSs1 Γ X (st :: rest) (tGSeq t u) := by
  refine ⟨fun A R CI ip n s₀ c fs K J gd lv s σ H γ D g hi k hI ht => ?_⟩
  refine seg_execs_cons ?_
  refine a.run A R CI ip n s₀ c fs _ J gd lv s σ H γ { D with nx := fun n' σ' H' γ' => u D n' σ' H' γ' } g hi (fun n' s₀' s' f hs => ?_) hI ht
  cases f with
  | next =>
    obtain ⟨σ', H', γ', I', q⟩ := hs
    exact b.run A R CI ip n' s₀' c fs K J gd lv s' σ' H' γ' D g hi k I' q
  | brk => exact k n' s₀' s' .brk hs
  | cont => exact k n' s₀' s' .cont hs
  | ret u => exact k n' s₀' s' (.ret u) hs
def tGIf {Γ : Type} (c : TT) (t u : TGm Γ) : TGm Γ := fun D n σ H γ => c σ H fun b H1 => if b = true then t D n σ H1 γ else u D n σ H1 γ
theorem gs1_if {test : Expr} {body orelse : List Stmt} {pos : Pos} {tc : TT} {t u : TGm Γ} (hc : ∀ sj Hj, PT (rb X sj Hj) test tc) (ha : GSs1 Γ X body t) (hb : GSs1 Γ X orelse u) : GS1 Γ X (.If test body orelse pos) (tGIf tc t u) := by
  refine ⟨fun A R CI ip n s₀ c fs K J gd lv s σ H γ D g hi k hI ht => ?_⟩
  obtain ⟨sj, Hj, ks, hci, hap, hz, I⟩ := hI
  rw [exec_If]
  show Seg _ _ _ _ _ _ _ (.at pos fun _ => ((isTrue test X.env (eval test X.env) >>= fun b => if b = true then execs body X.env else execs orelse X.env)).wrap K J gd lv) _ _
  refine seg_at (seg_bind_wrap ?_)
  rw [g.over]
  refine wpAny_mono ((hc sj Hj).run _ s σ H _ I ht) (fun b s1 hb1 => ?_) fun x s' hx => hx.elim
  obtain ⟨H1, I1, q⟩ := hb1
  cases b with
  | true =>
    rw [if_pos rfl] at q ⊢
    exact ha.run A R CI ip n s₀ c fs K J gd lv s1 σ H1 γ D g hi k ⟨sj, Hj, ks, hci, hap, hz, I1⟩ q
  | false =>
    rw [if_neg Bool.false_ne_true] at q ⊢
    exact hb.run A R CI ip n s₀ c fs K J gd lv s1 σ H1 γ D g hi k ⟨sj, Hj, ks, hci, hap, hz, I1⟩ q
def tGYd {Γ : Type} (te : TE) : TGm Γ := fun D n σ H γ => ∃ m, n = m + 1 ∧ te σ H fun x H1 => D.yl m x H1 γ fun H' γ' => D.nx m σ H' γ'
theorem gs1_yield {e : Expr} {yp pos : Pos} {te : TE} (G : GX X) (he : ∀ sj Hj, PE (rb X sj Hj) e te) (hco : X.env.scope.isCoroutine = false := by rfl) (hin : interactive X.env = false := by rfl) : GS1 Γ X (.Expr (.Yield (some e) yp) pos) (tGYd te) := by
  refine ⟨fun A R CI ip n s₀ c fs K J gd lv s σ H γ D g hi k hI ht => ?_⟩
  obtain ⟨m, rfl, ht⟩ := ht
  obtain ⟨sj, Hj, ks, hci, hap, hz, I⟩ := hI
  refine seg_Expr_Yield g.split g.gd g.guard ?_ hco hin
  rw [g.over]
  refine wpAny_mono ((he sj Hj).run _ s σ H _ I ht) (fun v s' hv => ?_) fun x s' hx => hx.elim
  obtain ⟨x, H1, I1, rv, q⟩ := hv
  have G1 : GI1 X CI ip σ H1 s' γ := ⟨sj, Hj, ks, hci, hap, hz, I1⟩
  intro kap hk
  refine ⟨ip, σ, H1, x, γ, _, rv, G1, hi, q, fun s'' H' ks' γ' w cc q' => ⟨hk .none s'' ?_, hk (.bool true) s'' ?_⟩⟩
  · exact k m s'' s'' .next ⟨σ, H', γ', G1.wake G w cc, q'⟩
  · exact k m s'' s'' .next ⟨σ, H', γ', G1.wake G w cc, q'⟩
end
end L2
namespace L2
open PySem PySem.Spec PyProof.Rows GenW GenX
section
variable {M : Model} {A : Around} {R : GenEnd} {Y : Protocol} {n : Nat} {s₀ : Shared} {c : Code} {fs : List Frame} {s : Shared}
theorem seg_bindOn {α : Type} {m : Sem α} {f : α → Sem PySem.Fin} {hd : Value → Sem Unit} (h : wpAny M (A.over c fs) m (fun a s' => Seg M A R Y n s₀ c ((f a).onRaise hd) fs s') (fun _ _ => False) s) : Seg M A R Y n s₀ c ((m >>= f).onRaise hd) fs s := by
  rw [Sem.onRaise_eq_wrap, Sem.bind_eq_wrap', Sem.wrap_wrap]
  refine seg_wrap (wpAny_mono h (fun a s' h' => ?_) fun _ _ z => z.elim)
  rw [← Sem.onRaise_eq_wrap]
  exact h'
end
theorem gc_loop1 {X : Cx} {A : Around} {c c' : Code} {fs : List Frame} {gd : Bool → Bool} {k : Result → Sem PySem.Fin} {l kp : List Value} {p : Pos} (g : GC1 X A c fs gd) (hw : c'.weight = 0) (hu : c'.cUnits = 0) : GC1 X A c' (.ret k none (gd false) l c p kp :: fs) id where
  over := (over_loop hw hu).trans g.over
  split := by
    show (splitAtGen fs).map _ = none
    rw [g.split]; rfl
  guard := by
    show (gd false || fs.any Frame.guarded) = false
    rw [g.gd, g.guard]; rfl
  gd := rfl
def tGFor {Γ : Type} (wi : TI) (g : TG) (tb : TGm Γ) : TGm Γ := fun D n σ H γ => wi σ H fun J H1 => ∃ W : Nat → Nat → Nat → L2.St → Hp → Γ → Prop, (∃ m, W 0 m n σ H1 γ) ∧ ∀ i m n σ H γ, W i m n σ H γ →
  (J.stop i H ∧ D.nx n σ H γ) ∨ (J.go i H ∧ ∃ N : Nat → L2.St → Hp → Γ → Prop, (∀ n' σ' H' γ', N n' σ' H' γ' → ∃ m', m' < m ∧ W (i + 1) m' n' σ' H' γ') ∧ ∀ x H', J.yld i H x H' → g x σ H' fun σ2 H2 => tb { D with nx := N, ct := N, bk := D.nx } n σ2 H2 γ)
section
variable {Γ : Type} {X : Cx}
/-- the loop, once its iterator has come -/
theorem seg_loop1 {tg : Expr} {body : List Stmt} {g : TG} {tb : TGm Γ} (G : GX X) (hcalm : X.calm = true) (hg : ∀ sj Hj, PG (rb X sj Hj) tg g) (hb : GSs1 Γ X body tb)
    {A : Around} {R : GenEnd} {CI : CIT Γ} {ip : List (Addr × Obj)} {c : Code} {fs : List Frame} {K : Flow → Sem PySem.Fin} {J : Value → Sem PySem.Fin} {gd : Bool → Bool} {lv : List Value → List Value} {D : GEn Γ}
    (gc : GC1 X A c fs gd) (hip : ∀ p ∈ ip, X.env.locals < p.1) (k : GK1 X A R CI ip c fs K D) {it : Addr} {fp : List Addr} {tn : Nat → Heap → Prop} {Jt : It} (T : Turn X.prog X.w X.K tg Jt fp it tn)
    (hfp : ∀ b ∈ fp, X.env.locals < b ∧ b ∉ X.fs ∧ ∀ p ∈ X.pn ++ ip, p.1 ≠ b) (p : Pos) {W : Nat → Nat → Nat → L2.St → Hp → Γ → Prop}
    (turn : ∀ i m n σ H γ, W i m n σ H γ → (Jt.stop i H ∧ D.nx n σ H γ) ∨ (Jt.go i H ∧ ∃ N : Nat → L2.St → Hp → Γ → Prop, (∀ n' σ' H' γ', N n' σ' H' γ' → ∃ m', m' < m ∧ W (i + 1) m' n' σ' H' γ') ∧ ∀ x H', Jt.yld i H x H' → g x σ H' fun σ2 H2 => tb { D with nx := N, ct := N, bk := D.nx } n σ2 H2 γ)) :
    ∀ (m i n : Nat) (s₀ s : Shared) (σ : L2.St) (H : Hp) (γ : Γ), W i m n σ H γ → (∃ sj Hj ks, CI sj Hj ks γ ∧ Apt X ip ks ∧ X.env.locals ≤ sj.heap.objs.size ∧ (∀ b ∈ fp, H b = none ∧ ∀ p ∈ ks, p.1 ≠ b) ∧ Inv (rb X sj Hj) (ip ++ ks) σ H s) → tn i s.heap →
      Seg (model X.prog X.w) A R (GY1 X CI D.yl) n s₀ (.forLoop tg (.ref it) body [] X.env) ((model X.prog X.w).den (.forLoop tg (.ref it) body [] X.env))
        (.ret (fun r => ((match r with | .ok f => (.pure f : Sem Flow) | .error e => .raise e).onRaise (cameBack X.env)).wrap K J gd lv) none (gd false) (lv []) c p [] :: fs) s := by
  have gl := fun (kk : Result → Sem PySem.Fin) => gc_loop1 (k := kk) (c' := .forLoop tg (.ref it) body [] X.env) (l := lv []) (kp := []) (p := p) gc rfl rfl
  have glb := fun (kk : Result → Sem PySem.Fin) => gc_loop1 (k := kk) (c' := .block [] X.env) (l := lv []) (kp := []) (p := p) gc rfl rfl
  intro m
  induction m using Nat.strongRecOn with
  | ind m ih =>
    intro i n s₀ s σ H γ w hI st
    obtain ⟨sj, Hj, ks, hci, hap, hz, hfn, I⟩ := hI
    have ok : ∀ b ∈ fp, FpOk (rb X sj Hj) (ip ++ ks) H b := fun b hb => by
      obtain ⟨f1, f2, f3⟩ := hfp b hb
      refine ⟨(hfn b hb).1, Nat.ne_of_gt f1, f2, .inr ?_, fun x c e => ?_, fun q hq => ?_⟩
      · show (cut sj.heap X.env.locals).objs.size ≤ b
        rw [cut_size]
        exact Nat.le_trans (Nat.min_le_left ..) (Nat.le_of_lt f1)
      · have := G.nocell x
        rw [show X.env.cells.lookup x = some c from e] at this
        cases this
      · rcases List.mem_append.mp hq with z | z
        · exact f3 q (List.mem_append_left _ z)
        · rcases List.mem_append.mp z with z | z
          · exact f3 q (List.mem_append_right _ z)
          · exact (hfn b hb).2 q z
    show Seg _ _ _ _ _ _ _ ((forTurn tg (.ref it) body [] X.env).onRaise (fun x => do noteFrame x X.env; theTreesLotGoes x)) _ _
    simp only [forTurn]
    refine seg_bindOn (wpAny_standAt ?_)
    refine seg_bindOn (wpAny_onRaise ?_)
    rw [(gl _).over]
    rcases turn i m n σ H γ w with ⟨stop, qn⟩ | ⟨go, N, hN, step⟩
    · refine wpAny_mono (T.done (rb X sj Hj) rfl rfl rfl hcalm i (ip ++ ks) s σ H (fun _ _ => False) I ok st stop) (fun r s1 hr => ?_) fun _ _ z => z.elim
      obtain ⟨rfl, I1⟩ := hr
      show Seg _ _ _ _ _ _ _ (.pure (.again (.block [] X.env))) _ _
      refine seg_again rfl ?_
      show Seg _ _ _ _ _ _ _ (.pure (.done .next)) _ _
      exact seg_leaf (.ok .next) (k n s₀ s1 .next ⟨σ, H, γ, ⟨sj, Hj, ks, hci, hap, hz, I1⟩, qn⟩)
    · refine wpAny_mono (T.item (rb X sj Hj) rfl rfl rfl hcalm i (ip ++ ks) s σ H (fun _ _ => False) I ok st go) (fun r s1 hr => ?_) fun _ _ z => z.elim
      obtain ⟨u, rfl, h1⟩ := hr
      refine seg_bindOn ?_
      rw [(gl _).over]
      refine wpAny_mono h1 (fun _ s2 h2 => ?_) fun _ _ z => z.elim
      obtain ⟨x, H2, I2, r2, y2, st2, fn2⟩ := h2
      have I2' : Inv (rb X sj Hj) ((ip ++ pinsAt fp s2.heap) ++ ks) σ H2 s2 := I2.pins_of fun q hq => by
        rcases List.mem_append.mp hq with z | z
        · rcases List.mem_append.mp z with z | z
          · exact I2.pin q (List.mem_append_right _ (List.mem_append_left _ z))
          · obtain ⟨hb, e⟩ := of_pinsAt z
            obtain ⟨o, e', d⟩ := T.obj _ _ st2 q.1 hb
            rw [e] at e'; cases e'
            obtain ⟨f1, f2, f3⟩ := hfp q.1 hb
            exact ⟨e, fn2 q.1 hb, Nat.ne_of_gt f1, f2, d⟩
        · exact I2.pin q (List.mem_append_right _ (List.mem_append_right _ z))
      refine seg_bindOn ?_
      rw [(gl _).over]
      refine wpAny_mono ((hg sj Hj).run _ s2 σ H2 x u _ I2' r2 (step x H2 y2)) (fun _ s3 h3 => ?_) fun _ _ z => z.elim
      obtain ⟨σ3, H3, I3, q3⟩ := h3
      rw [Sem.onRaise_eq_wrap, Sem.bind_eq_wrap', Sem.wrap_wrap]
      refine hb.run A R CI (ip ++ pinsAt fp s2.heap) n s₀ _ _ _ _ _ _ s3 σ3 H3 γ { D with nx := N, ct := N, bk := D.nx } ⟨(gl _).over, (gl _).split, (gl _).guard, rfl⟩ (fun q hq => ?_) (fun n' s₀' s4 f hs => ?_) ⟨sj, Hj, ks, hci, fun q hq => ⟨(hap q hq).1, fun r hr => ?_⟩, hz, I3⟩ q3
      · rcases List.mem_append.mp hq with z | z
        · exact hip q z
        · exact (hfp q.1 (of_pinsAt z).1).1
      · have again : ∀ σ4 H4 γ4, GI1 X CI (ip ++ pinsAt fp s2.heap) σ4 H4 s4 γ4 → N n' σ4 H4 γ4 → Seg (model X.prog X.w) A R (GY1 X CI D.yl) n' s₀' (.forLoop tg (.ref it) body [] X.env) (.pure (.again (.forLoop tg (.ref it) body [] X.env)))
            (.ret (fun r => ((match r with | .ok f => (.pure f : Sem Flow) | .error e => .raise e).onRaise (cameBack X.env)).wrap K J gd lv) none (gd false) (lv []) c p [] :: fs) s4 := fun σ4 H4 γ4 hI4 n4 => by
          obtain ⟨sj', Hj', ks', hci', hap', hz', I4⟩ := hI4
          obtain ⟨m', hm, w4⟩ := hN n' σ4 H4 γ4 n4
          have at' : ∀ b ∈ fp, ∀ o, s2.heap.get? b = some o → s4.heap.get? b = some o ∧ H4 b = none := fun b hb o e =>
            let z := I4.pin (b, o) (List.mem_append_right _ (List.mem_append_left _ (List.mem_append_right _ (mem_pinsAt hb e))))
            ⟨z.1, z.2.1⟩
          refine seg_again rfl (ih m' hm (i + 1) n' s₀' s4 σ4 H4 γ4 w4 ⟨sj', Hj', ks', hci', fun q hq => ⟨(hap' q hq).1, fun r hr => (hap' q hq).2 r ?_⟩, hz', fun b hb => ⟨?_, fun q hq => ?_⟩, I4.pins_of fun q hq => ?_⟩ (T.keep _ _ _ st2 fun b hb o e => (at' b hb o e).1))
          · rcases List.mem_append.mp hr with z | z
            · exact List.mem_append_left _ z
            · exact List.mem_append_right _ (List.mem_append_left _ z)
          · obtain ⟨o, e, _⟩ := T.obj _ _ st2 b hb
            exact (at' b hb o e).2
          · obtain ⟨o, e, _⟩ := T.obj _ _ st2 b hb
            exact (hap' q hq).2 (b, o) (List.mem_append_right _ (List.mem_append_right _ (mem_pinsAt hb e)))
          · rcases List.mem_append.mp hq with z | z
            · exact I4.pin q (List.mem_append_right _ (List.mem_append_left _ (List.mem_append_left _ z)))
            · exact I4.pin q (List.mem_append_right _ (List.mem_append_right _ z))
        have less : ∀ σ4 H4 γ4, GI1 X CI (ip ++ pinsAt fp s2.heap) σ4 H4 s4 γ4 → GI1 X CI ip σ4 H4 s4 γ4 := fun σ4 H4 γ4 hI4 => by
          obtain ⟨sj', Hj', ks', hci', hap', hz', I4⟩ := hI4
          refine ⟨sj', Hj', ks', hci', fun q hq => ⟨(hap' q hq).1, fun r hr => (hap' q hq).2 r ?_⟩, hz', I4.pins_of fun q hq => ?_⟩
          · rcases List.mem_append.mp hr with z | z
            · exact List.mem_append_left _ z
            · exact List.mem_append_right _ (List.mem_append_left _ z)
          · rcases List.mem_append.mp hq with z | z
            · exact I4.pin q (List.mem_append_right _ (List.mem_append_left _ (List.mem_append_left _ z)))
            · exact I4.pin q (List.mem_append_right _ (List.mem_append_right _ z))
        cases f with
        | next => obtain ⟨σ4, H4, γ4, I4, q4⟩ := hs; exact again σ4 H4 γ4 I4 q4
        | cont => obtain ⟨σ4, H4, γ4, I4, q4⟩ := hs; exact again σ4 H4 γ4 I4 q4
        | brk =>
          obtain ⟨σ4, H4, γ4, I4, q4⟩ := hs
          exact seg_leaf (.ok .next) (k n' s₀' s4 .next ⟨σ4, H4, γ4, less _ _ _ I4, q4⟩)
        | ret v =>
          obtain ⟨x4, σ4, H4, γ4, I4, r4, q4⟩ := hs
          exact seg_leaf (.ok (.ret v)) (k n' s₀' s4 (.ret v) ⟨x4, σ4, H4, γ4, less _ _ _ I4, r4, q4⟩)
      · rcases List.mem_append.mp hr with z | z
        · exact (hap q hq).2 r (List.mem_append_left _ z)
        · rcases List.mem_append.mp z with z | z
          · exact (hap q hq).2 r (List.mem_append_right _ z)
          · exact (hfn r.1 (of_pinsAt z).1).2 q hq
theorem gs1_for {tg iter : Expr} {body : List Stmt} {pos : Pos} {wi : TI} {g : TG} {tb : TGm Γ} (G : GX X) (hcalm : X.calm = true) (hi : ∀ sj Hj, PI (rb X sj Hj) tg iter wi) (hg : ∀ sj Hj, PG (rb X sj Hj) tg g) (hb : GSs1 Γ X body tb)
    (hs : ∀ x, foldedSetIterable iter X.env x = pure x := by intro _; rfl) : GS1 Γ X (.For tg iter body [] pos) (tGFor wi g tb) := by
  refine ⟨fun A R CI ip n s₀ c fs K J gd lv s σ H γ D gc hip k hI ht => ?_⟩
  obtain ⟨sj, Hj, ks, hci, hap, hz, I⟩ := hI
  rw [exec_For]
  show Seg _ _ _ _ _ _ _ (.at pos fun _ => ((eval iter X.env >>= fun v => (foldedSetIterable iter X.env v >>= fun x => (standAt iter.pos >>= fun _ => (holding [x] (pyIter x) >>= fun it => runOwn (.forLoop tg it body [] X.env) X.env)))).wrap K J gd lv)) _ _
  refine seg_at (seg_bind_wrap ?_)
  rw [gc.over]
  refine wpAny_mono ((hi sj Hj).run _ s σ H _ I ht) (fun v s1 h1 => ?_) fun x s' hx => hx.elim
  refine seg_bind_wrap (wpAny_of_eq (hs v) ?_)
  refine seg_bind_wrap (wpAny_standAt ?_)
  refine seg_bind_wrap (wpAny_holding ?_)
  rw [gc.over]
  refine wpAny_mono h1 (fun u s2 h2 => ?_) fun x s' hx => hx.elim
  obtain ⟨it, fp, tn, Jt, H2, rfl, I2, T, st2, f2, W, ⟨m0, w0⟩, turn⟩ := h2
  refine seg_call fun p => ?_
  have low : ∀ b ∈ fp, X.env.locals < b := fun b hb => by
    obtain ⟨_, f1, _, f3, _⟩ := f2 b hb
    rcases f3 with f3 | f3
    · have f3 : b ∈ X.ex := f3
      rw [G.ex] at f3; cases f3
    · have f3 : (cut sj.heap X.env.locals).objs.size ≤ b := f3
      rw [cut_size, Nat.min_eq_left hz] at f3
      exact Nat.lt_of_le_of_ne f3 (Ne.symm f1)
  refine seg_loop1 G hcalm hg hb gc hip k T (fun b hb => ⟨low b hb, (f2 b hb).2.2.1, fun q hq => (f2 b hb).2.2.2.2.2 q ?_⟩) p turn m0 0 n s₀ s2 σ H2 γ w0 ⟨sj, Hj, ks, hci, hap, hz, fun b hb => ⟨(f2 b hb).1, fun q hq => (f2 b hb).2.2.2.2.2 q (List.mem_append_right _ (List.mem_append_right _ hq))⟩, I2⟩ st2
  rcases List.mem_append.mp hq with z | z
  · exact List.mem_append_left _ z
  · exact List.mem_append_right _ (List.mem_append_left _ z)
end
end L2
namespace L2
open PySem PySem.Spec PyProof.Rows GenW GenX
section
variable {Γ : Type} {X : Cx} {pins : List (Addr × Obj)} {σ : L2.St} {H : Hp} {s : Shared}
theorem Inv.to_rb (hL : X.env.locals = X.s_0.heap.objs.size) (I : Inv X pins σ H s) : Inv (rb X X.s_0 X.H_0) pins σ H s := by
  have e : ({ X.s_0 with heap := cut X.s_0.heap X.env.locals } : Shared) = X.s_0 := by rw [hL, cut_all]
  have ok := I.ok
  show Inv { X with s_0 := { X.s_0 with heap := cut X.s_0.heap X.env.locals }, H_0 := X.H_0, xe := fun _ _ => False } pins σ H s
  rw [e]
  exact ⟨⟨ok.mod, ok.kind, ok.glob, ok.blt, ok.above, ok.inj, ok.has, ok.cab, ok.hd, ok.frames, ok.stk, ok.exf, ok.bs, ok.bsz, ok.noex, ok.exfs, ok.funs, ok.frf⟩, I.os, I.bare, I.base, I.loc, I.cell, I.free, I.freeC, I.pin, I.hok, I.len⟩
structure GB (Γ : Type) (X : Cx) (st : List Stmt) (t : TGm Γ) : Prop where
  run : ∀ (A : Around) (R : GenEnd) (CI : CIT Γ) (n : Nat) (s₀ : Shared) (c : Code) (fs : List Frame) (K : Flow → Sem PySem.Fin) (J : Value → Sem PySem.Fin) (gd : Bool → Bool) (lv : List Value → List Value) (s : Shared) (σ : L2.St) (H : Hp) (γ : Γ) (D : GEn Γ),
    GC1 X A c fs gd → X.env.locals = X.s_0.heap.objs.size → GK1 X A R CI [] c fs K D → (∀ (n : Nat) (s₀ : Shared) (e : Value) (s : Shared), X.xe e s → Seg (model X.prog X.w) A R (GY1 X CI D.yl) n s₀ c (J e) fs s) → CI X.s_0 X.H_0 [] γ → Inv X [] σ H s → t D n σ H γ →
    Seg (model X.prog X.w) A R (GY1 X CI D.yl) n s₀ c ((execs st X.env).wrap K J gd lv) fs s
end
end L2
namespace L2
open PySem PySem.Spec PyProof.Rows GenW GenX
/-- a generator's promise: the heap at the call, the consumer's state, what it does with an item, what it wants at the end, the exception -/
abbrev TGe := (Γ : Type) → Hp → Γ → YLT Γ → (Hp → Γ → Prop) → XK → Prop
abbrev SpGe := (Γ : Type) → List V → Hp → Γ → YLT Γ → (Hp → Γ → Prop) → XK → Prop
def RE1 {Γ : Type} (P : Program) (w : World) (outer : List Env) (H : Hp) (s : Shared) (X : Cx) (CI : CIT Γ) (EN : Hp → Γ → Prop) (E : XK) (a : Addr) (g : Nat) : GenEnd := fun n s₀ r s1 =>
  ((r = .ok (.ret .none) ∨ r = .ok .next) ∧ ∃ σ H' γ, GI1 X CI [] σ H' s1 γ ∧ EN H' γ) ∨ ∃ e, r = .error e ∧ CX P w outer H s E e s1 ∧ s1.heap.IsGen a g
structure GWk (P : Program) (w : World) (K : PySem.W.Frag) (mg : Str → Option Value) (base : Heap) (outer : List Env) (s : Shared) (a : Addr) (go : Obj) (X : Cx) : Prop where
  gx : GX X
  prog : X.prog = P
  w : X.w = w
  K : X.K = K
  mg : X.mg = mg
  base : X.base = base
  outer : X.outer = outer
  loc : X.env.locals = s.heap.objs.size
  pn : X.pn = [(a, go)]
def GMd (P : Program) (w : World) (K : PySem.W.Frag) (mg : Str → Option Value) (base : Heap) (k : Nat) (outer : List Env) (H : Hp) (s : Shared) (tg : TGe) (u : Value) (s' : Shared) : Prop :=
  ∃ (a : Addr) (g : Nat) (c : Code) (go : Obj), u = .ref a ∧ s.heap.objs.size < a ∧ a < s'.heap.objs.size ∧ s'.heap.get? a = some go ∧ (∀ h : Heap, h.get? a = some go → h.IsGen a g) ∧ go.cls = .type "generator" ∧ (∃ vs, go.data = .fields vs) ∧ s'.gens[g]? = some (.fresh c) ∧ s'.os = s.os ∧ AllBare s'.gens ∧ s'.heap.NoLimit ∧
    (∀ b o, s.heap.get? b = some o → s'.heap.get? b = some o) ∧
    ∀ (Γ : Type) (CI : CIT Γ) (YL : YLT Γ) (EN : Hp → Γ → Prop) (E : XK) (γ : Γ), tg Γ H γ YL EN E → ∀ (Aw : Around) (s2 : Shared), Room k Aw → Aw.frames = some outer → (∀ b o, s'.heap.get? b = some o → s2.heap.get? b = some o) → s2.os = s.os → AllBare s2.gens → CI s H [] γ →
      ∃ X, GWk P w K mg base outer s a go X ∧ ∃ N, Seg (model P w) Aw (RE1 P w outer H s X CI EN E a g) (GY1 X CI YL) N s2 c ((model P w).den c) [] s2
structure GFn1 (P : Program) (w : World) (K : PySem.W.Frag) (mg : Str → Option Value) (base : Heap) (k : Nat) (f : Addr) (fd : FuncData) (ps : List Str) (sp : SpGe) : Prop where
  len : ∀ Γ vs H γ YL EN E, sp Γ vs H γ YL EN E → vs.length = ps.length
  run : ∀ (A : Around) (outer : List Env) (s : Shared) (H : Hp) (args : Args) (us : List Value) (vs : List V), Room k A → Env0 P w K mg base A outer s H → BindsTo s fd args (ps.zip us) → Vals vs us → vs.length = ps.length →
    codeAny (model P w) A (.call (.ref f) args) (fun r s' => match r with | .ok (.ret u) => GMd P w K mg base k outer H s (fun Γ => sp Γ vs) u s' | _ => False) s
theorem no_cells : ∀ {names : List (Str × NameKind)} {n : Nat}, (∀ y ∈ names, y.2 ≠ .cell) → cellsFrom n names [] = []
  | [], n, _ => by simp [cellsFrom]
  | (x, kd) :: r, n, h => by
    have h1 := h (x, kd) List.mem_cons_self
    have ih := no_cells (names := r) (n := n) fun y hy => h y (List.mem_cons_of_mem _ hy)
    cases kd <;> first | exact absurd rfl h1 | (simp [cellsFrom]; exact ih) | (unfold cellsFrom; exact ih)
theorem gfn1_of {P : Program} {w : World} {K : PySem.W.Frag} {mg : Str → Option Value} {base : Heap} {k : Nat} {f : Addr} {name qual : Str} {params : Arguments} {body : List Stmt} {scope : Scope} {dV kV doc pm cdv ct oc : Value} {an od : Option Addr}
    {osl : Array (Option Value)} {N ps : List Str} {sp : SpGe} (lk : K.lookup f = some ⟨oc, od, .func (PySem.W.fnOf name qual params body scope dV kV doc pm an cdv ct), osl⟩) (hcd : PySem.W.codeIn K cdv qual = true) (S : GScope N ps scope) (hnc : ∀ y ∈ scope.names, y.2 ≠ .cell)
    (len : ∀ Γ vs H γ YL EN E, sp Γ vs H γ YL EN E → vs.length = ps.length)
    (hbody : ∀ (A : Around) (outer : List Env) (s : Shared) (H : Hp) (vs : List V) (Γ : Type) (γ : Γ) (YL : YLT Γ) (EN : Hp → Γ → Prop) (E : XK) (pn : List (Addr × Obj)), Room k (A.deeper (envOfC qual scope s.heap.objs.size f cdv)) → sp Γ vs H γ YL EN E → GX (gcxOf P w K mg base N qual scope f cdv A outer s H E pn) →
      ∃ t, GB Γ (gcxOf P w K mg base N qual scope f cdv A outer s H E pn) body t ∧ ∃ n, t { nx := fun _ _ H' γ' => EN H' γ', rt := fun _ v H' γ' => v = .non ∧ EN H' γ', yl := YL } n (start N vs) H γ) :
    GFn1 P w K mg base (k + 1) f (PySem.W.fnOf name qual params body scope dV kV doc pm an cdv ct) ps sp := by
  refine ⟨len, fun A outer s H args us vs hr e0 hb r hl => ?_⟩
  have KX : K.In s.heap := e0.mod.kin.keeps fun b o e => (e0.bs b o e).1
  have lim : s.heap.NoLimit := e0.mod.nolimit.keeps fun b o e => (e0.bs b o e).1
  have hkind : ∀ y ∈ ps.zip us, scope.names.lookup y.1 = some .local ∨ (scope.names.lookup y.1 = some .cell ∧ ((cellsFrom (s.heap.objs.size + 1) scope.names []).lookup y.1).isSome = true) := fun ⟨n, v⟩ hy => by
    rcases S.par n (List.of_mem_zip hy).1 with q | q
    · exact .inl q
    · exact .inr ⟨q, PySem.W.cellsFrom_some _ _ _ (.inl q)⟩
  refine codeAny_call_generator hr.depth (KX _ _ lk) rfl S.co S.gen rfl (PySem.W.codeRec_of KX hcd) (hb _ _ _ _ ?_)
  refine wpAny_newFunctionEnv_cells S.kind hkind fun env he s1 x => ?_
  subst he
  have lim1 : s1.heap.NoLimit := lim.keeps x.toInCall.keep
  refine ⟨lim1, ?_⟩
  obtain ⟨h1, tk, es1, hk1⟩ := x.done
  have os1 : s1.os = s.os := by rw [es1]
  have gen1 : s1.gens = s.gens := by rw [es1]
  have lt1 : s.heap.objs.size < s1.heap.objs.size := x.toInCall.ns.lt
  have kp1 : ∀ b o, s.heap.get? b = some o → s1.heap.get? b = some o := x.toInCall.keep
  have main : ∀ (go : Obj) (nm qn : Value) (tk2 : Nat), go.cls = .type "generator" → go.data = .fields #[.int s1.gens.size 0, nm, qn] → go.slots = #[] → (∀ h : Heap, (h.push go).get? h.objs.size = some go) →
      GMd P w K mg base (k + 1) outer H s (fun Γ => sp Γ vs) (.ref s1.heap.objs.size) { s1 with gens := s1.gens.push (.fresh (.func body (envOfC qual scope s.heap.objs.size f cdv))), toks := tk2, heap := s1.heap.push go } := by
    intro go nm qn tk2 hgc hgd0 hgs hgp
    have hgen : ∀ h : Heap, h.get? s1.heap.objs.size = some go → h.IsGen s1.heap.objs.size s1.gens.size := fun h e => ⟨go, nm, qn, e, hgc, hgd0, hgs⟩
    have hpushed : (s1.heap.push go).get? s1.heap.objs.size = some go := hgp _
    refine ⟨s1.heap.objs.size, s1.gens.size, _, go, rfl, lt1, ?_, hpushed, hgen, hgc, ⟨_, hgd0⟩, Array.getElem?_push_size .., os1, ?_, lim1.keeps fun b o e => Heap.get?_push_of_some _ e, fun b o e => Heap.get?_push_of_some _ (kp1 b o e), ?_⟩
    · show _ < (s1.heap.push _).objs.size
      rw [Heap.size_push]; exact Nat.lt_succ_self _
    · exact AllBare.push (by rw [gen1]; exact e0.bare) rfl
    intro Γ CI YL EN E γ hsp Aw s2 hrw hfr hk2 hos hba hci
    have e0w : Env0 P w K mg base Aw outer s H := ⟨hfr, e0.mod, e0.bs, e0.bsz, e0.funs, e0.frf, e0.hok, e0.bare⟩
    have G : GX (gcxOf P w K mg base N qual scope f cdv Aw outer s H E [(s1.heap.objs.size, go)]) := by
      refine ⟨rfl, fun y => ?_, fun b hb' => ?_⟩
      · show (cellsFrom (s.heap.objs.size + 1) scope.names []).lookup y = none
        rw [no_cells hnc]; rfl
      · obtain ⟨_, o, ho, _⟩ := e0.funs.mem hb'
        exact Heap.lt_size ho
    refine ⟨_, ⟨G, rfl, rfl, rfl, rfl, rfl, rfl, rfl, rfl⟩, ?_⟩
    obtain ⟨t, ht, n, hq⟩ := hbody Aw outer s H vs Γ γ YL EN E [(s1.heap.objs.size, go)] (hrw.deeper _) hsp G
    refine ⟨n, ?_⟩
    have I1 : Inv (gcxOf P w K mg base N qual scope f cdv Aw outer s H E []) [] (start N vs) H s1 := inv_startG S hrw.hd e0w hl r x
    have kp2 : ∀ b o, s1.heap.get? b = some o → s2.heap.get? b = some o := fun b o e => hk2 b o (Heap.get?_push_of_some _ e)
    have I2 : Inv (gcxOf P w K mg base N qual scope f cdv Aw outer s H E []) [] (start N vs) H s2 :=
      I1.call' (ch := []) (hos.trans os1.symm) (Un.kept kp2) (I1.hok.kept kp2) hba fun b z => by simp at z
    have hea : s2.heap.get? s1.heap.objs.size = some go := hk2 s1.heap.objs.size go hpushed
    have hgd : ∀ v, go.data ≠ .cell v := fun v q => by rw [hgd0] at q; cases q
    have I3 : Inv (gcxOf P w K mg base N qual scope f cdv Aw outer s H E [(s1.heap.objs.size, go)]) [] (start N vs) H s2 := Inv.pinnedG I2 fun p hp => by
      have z : p ∈ [(s1.heap.objs.size, go)] := by simpa using hp
      rw [List.mem_singleton.mp z]
      exact ⟨hea, I1.hok.fresh (Nat.le_refl _), Nat.ne_of_gt lt1, I1.nofs (Nat.le_refl _), hgd⟩
    refine seg_func ?_
    refine seg_imp (R := RE1 P w outer H s (gcxOf P w K mg base N qual scope f cdv Aw outer s H E [(s1.heap.objs.size, go)]) CI EN E s1.heap.objs.size s1.gens.size) (Y := GY1 (gcxOf P w K mg base N qual scope f cdv Aw outer s H E [(s1.heap.objs.size, go)]) CI YL) (fun _ _ _ _ z => z) (fun n s₀ v s kap kap' hkk hY => ?_) n ?_
    · obtain ⟨ip, σ, H', x', γ', κ, q1, q2, q3, q4, q5⟩ := hY
      exact ⟨ip, σ, H', x', γ', κ, q1, q2, q3, q4, fun s' H' ks' γ' w c z => ⟨hkk _ _ (q5 s' H' ks' γ' w c z).1, hkk _ _ (q5 s' H' ks' γ' w c z).2⟩⟩
    refine ht.run Aw _ CI n s2 _ [] _ _ id id s2 (start N vs) H γ _ ⟨over_func, rfl, rfl, rfl⟩ rfl (fun n s₀ s' fl hs => ?_) (fun n s₀ e s' hx => ?_) hci I3 hq
    · cases fl with
      | next =>
        obtain ⟨σ', H', γ', hI, hQ⟩ := hs
        exact seg_end (.ok (.ret .none)) (.inl ⟨.inl rfl, σ', H', γ', hI, hQ⟩)
      | brk => obtain ⟨_, _, _, _, q⟩ := hs; exact False.elim q
      | cont => obtain ⟨_, _, _, _, q⟩ := hs; exact False.elim q
      | ret u =>
        obtain ⟨v, σ', H', γ', hI, rv, ev, hQ⟩ := hs
        subst ev
        obtain rfl : u = Value.none := rv
        exact seg_end (.ok (.ret .none)) (.inl ⟨.inl rfl, σ', H', γ', hI, hQ⟩)
    · refine seg_wrap ?_
      rw [over_func]
      refine wpAny_mono (show wpAny (model P w) (Aw.deeper (envOfC qual scope s.heap.objs.size f cdv)) (leaving (envOfC qual scope s.heap.objs.size f cdv) e) (fun _ s'' => CX P w outer H s E e s'' ∧ ∀ p ∈ [(s1.heap.objs.size, go)], s''.heap.get? p.1 = some p.2) (fun _ _ => False) s' from hx) (fun _ s'' q => ?_) fun _ s'' q => q.elim
      exact seg_end (.error e) (.inr ⟨e, rfl, q.1, hgen _ (q.2 _ (List.mem_singleton.mpr rfl))⟩)
  exact main _ _ _ _ rfl rfl rfl fun h => Heap.get?_push_size _ rfl
end L2
namespace U
open PySem PySem.Spec PyProof.Rows GenW GenX L2
abbrev NoEnds : Ends := { nx := fun _ _ => False, rt := fun _ _ => False }
def tStop : TS := fun _ _ _ => False
structure GBr (X : Cx) (st : List Stmt) (t : TS) : Prop where
  run : ∀ (Γ : Type), GB Γ X st (fun _ _ σ H _ => t NoEnds σ H)
section
variable {X : Cx} {st : Stmt} {rest : List Stmt}
theorem gbr_stop : GBr X rest tStop := ⟨fun Γ => ⟨fun A R CI n s₀ c fs K J gd lv s σ H γ D gc hL k ke hc I ht => False.elim ht⟩⟩
theorem gbr_cons {t u : TS} (a : PS X st t) (b : GBr X rest u) : GBr X (st :: rest) (tSeq t u) := by
  refine ⟨fun Γ => ⟨fun A R CI n s₀ c fs K J gd lv s σ H γ D gc hL k ke hc I ht => ?_⟩⟩
  refine seg_execs_cons (seg_wrap ?_)
  rw [gc.over]
  refine wpAny_mono (a.run _ s σ H _ I ht) (fun f s' hs => ?_) fun x s' hx => ke n s₀ x s' hx
  cases f with
  | next =>
    obtain ⟨σ', H', I', q⟩ := hs
    exact (b.run Γ).run A R CI n s₀ c fs K J gd lv s' σ' H' γ D gc hL k ke hc I' q
  | brk => obtain ⟨_, _, _, q⟩ := hs; exact False.elim q
  | cont => obtain ⟨_, _, _, q⟩ := hs; exact False.elim q
  | ret u => obtain ⟨_, _, _, _, _, q⟩ := hs; exact False.elim q
end
def spGr (sp : Sp) : SpGe := fun _ vs H _ _ _ E => sp vs H (fun _ _ => False) E
section
variable {P : Program} {w : World} {K : PySem.W.Frag} {mg : Str → Option Value} {base : Heap}
theorem okGr {x qual : Str} {st : Stmt} {f : Addr} {fd : FuncData} {N ps : List Str} {k : Nat} {sp : Sp} (F : Fun K x qual st f fd) (S : GScope N ps (defScope st)) (hnc : ∀ y ∈ (defScope st).names, y.2 ≠ .cell) (len : ∀ vs H Q E, sp vs H Q E → vs.length = ps.length)
    (hbody : ∀ (cdv : Value) (A : Around) (outer : List Env) (s : Shared) (H : Hp) (vs : List V) (E : XK) (pn : List (Addr × Obj)), Room k (A.deeper (envOfC qual (defScope st) s.heap.objs.size f cdv)) → sp vs H (fun _ _ => False) E →
      ∃ t, GBr (gcxOf P w K mg base N qual (defScope st) f cdv A outer s H E pn) (defBody st) t ∧ t { nx := fun _ _ => False, rt := fun _ _ => False } (start N vs) H) : GFn1 P w K mg base (k + 1) f fd ps (spGr sp) := by
  obtain ⟨oc, od, kV, doc, pm, an, cdv, ct, osl, rfl, lk, hcd⟩ := F.ex
  refine gfn1_of lk hcd S hnc (fun Γ vs H γ YL EN E h => len _ _ _ _ h) fun A outer s H vs Γ γ YL EN E pn hr h _ => ?_
  obtain ⟨t, hb, q⟩ := hbody cdv A outer s H vs E pn hr h
  exact ⟨_, hb.run Γ, 0, q⟩
end
/-- an exception that ends no iteration -/
def NSt (K : PySem.W.Frag) (W : WX) : WX := fun cls d σ H => W cls d σ H ∧ PySem.W.subIn K cls (.type "StopIteration") = some false
theorem passNSt {X : Cx} {W : WX} (hx : ∀ σ, PassesAt (L2.CX X.prog X.w) X σ (WE W σ)) (σ : L2.St) : PassesAt (L2.CX X.prog X.w) X σ (WE (NSt X.K W) σ) := fun pins H s e s' I c => by
  obtain ⟨a, B, H', cls, d, h1, h2, h3, h4, h5, h6, h7, hW⟩ := c
  exact hx σ pins H s e s' I ⟨a, B, H', cls, d, h1, h2, h3, h4, h5, h6, h7, hW.1⟩
/-- an expression whose value is a generator that will raise at its first waking -/
structure PGr (X : Cx) (n : Nat) (e : Expr) (te : TE) : Prop where
  run : ∀ (pins : List (Addr × Obj)) (s : Shared) (σ : L2.St) (H : Hp), Inv X pins σ H s → te σ H (fun _ _ => False) → wpAny (model X.prog X.w) X.A (eval e X.env)
    (fun u s' => ∃ (H1 : Hp) (sc : Shared) (E1 : XK) (k : Nat) (sp : Sp) (vs : List V), k ≤ n ∧ NoStop X.K E1 ∧ PassesAt (L2.CX X.prog X.w) X σ E1 ∧ Inv X pins σ H1 sc ∧ sp vs H1 (fun _ _ => False) E1 ∧ GMd X.prog X.w X.K X.mg X.base k X.stack H1 sc (fun Γ => spGr sp Γ vs) u s') X.xe s
section
variable {X : Cx} {k n : Nat} {f C : Addr} {fd : FuncData} {ps : List Str} {sp : Sp} {W : WX} {x m : Str} {p pos apos : Pos} {o e : Expr} {es : List Expr} {ta : TE} {t : TA} {pl : Sem Bool}
theorem run_gr {pins : List (Addr × Obj)} {σ : L2.St} {H : Hp} {s : Shared} {us : List Value} {vs : List V} {E1 : Value → Shared → Prop} (F : GFn1 X.prog X.w X.K X.mg X.base k f fd ps (spGr sp)) (hb : Binds X.K fd ps []) (hk : k ≤ n) (hr : Room n X.A) (hx : ∀ σ, PassesAt (L2.CX X.prog X.w) X σ (WE W σ))
    (I : Inv X pins σ H s) (r : Vals vs us) (h : sp vs H (fun _ _ => False) (WE (NSt X.K W) σ)) :
    wpAny (model X.prog X.w) X.A (call (.ref f) us) (fun u s' => ∃ (H1 : Hp) (sc : Shared) (E1 : XK) (k : Nat) (sp : Sp) (vs : List V), k ≤ n ∧ NoStop X.K E1 ∧ PassesAt (L2.CX X.prog X.w) X σ E1 ∧ Inv X pins σ H1 sc ∧ sp vs H1 (fun _ _ => False) E1 ∧ GMd X.prog X.w X.K X.mg X.base k X.stack H1 sc (fun Γ => spGr sp Γ vs) u s') E1 s := by
  have hl : vs.length = ps.length := F.len Unit vs H () (fun _ _ _ _ _ => False) (fun _ _ => False) _ h
  have hbs := hb s us I.kIn (by rw [List.append_nil, ← r.length]; exact hl)
  rw [List.append_nil] at hbs
  refine wpAny_call (codeAny_mono (F.run X.A X.stack s H ⟨us, []⟩ us vs (hr.mono hk) I.env0 hbs r hl) fun r s' hq => ?_)
  cases r with
  | error e => exact False.elim hq
  | ok fl =>
    cases fl with
    | ret u => exact ⟨H, s, _, k, sp, vs, hk, fun cls d H' z => z.2, passNSt hx σ, I, h, hq⟩
    | next => exact False.elim hq
    | brk => exact False.elim hq
    | cont => exact False.elim hq
def tCallGr (sp : Sp) (W : WX) (t : TA) : TE := fun σ H Q => t σ H fun vs H1 => sp vs H1 Q (WE W σ)
theorem pgr_call (F : GFn1 X.prog X.w X.K X.mg X.base k f fd ps (spGr sp)) (hg : Gl X x) (hm : X.mg x = some (.ref f)) (hkp : PySem.W.keepIn X.K (.ref f) = true) (hb : Binds X.K fd ps []) (hk : k ≤ n) (hr : Room n X.A) (hx : ∀ σ, PassesAt (L2.CX X.prog X.w) X σ (WE W σ))
    (ha : PA X (e :: es) t) (hdb : (x == ("__debug__" : Str)) = false := by decide) (he : starEach (e :: es) X.env = (false, eval e X.env) :: starEach es X.env := by rfl) (hpl : (backTo pos (starEach es X.env)).any (·.1) = false := by rfl) :
    PGr X n (.Call (.Name x p) (e :: es) [] pos) (tCallGr sp (NSt X.K W) t) := by
  refine ⟨fun pins s σ H I h => ?_⟩
  refine wpAny_Call_Name_kw (ld_glob I hg hm ?_ hdb)
  refine PySem.W.callWith_K (h₀ := X.base) I.ok.mod.kin hkp (thn (ha.run pos pins s σ H _ I h) fun us s1 ⟨vs, H1, I1, r, q⟩ => ⟨I1.kIn, ?_⟩) he hpl
  exact run_gr F hb hk hr hx I1 r q
def tForGr (te : TE) : TS := fun _ σ H => te σ H fun _ _ => False
theorem CX.kin {e : Value} {pins : List (Addr × Obj)} {σ : L2.St} {H : Hp} {sc s' : Shared} {E : XK} (I1 : Inv X pins σ H sc) (hc : L2.CX X.prog X.w X.stack H sc E e s') : X.K.In s'.heap := by
  obtain ⟨a, B, H', cls, d, _, fl, _, ub, _⟩ := id hc
  refine I1.ok.mod.kin.keeps fun b o eb => fl.1 b o (ub.keep b o (I1.bs b o eb).1 (I1.bs b o eb).2 fun hm => ?_)
  rcases List.mem_cons.mp (I1.stkSub b hm) with z | z
  · have h1 := Heap.lt_size eb
    have h2 := Nat.le_trans I1.ok.bsz I1.ok.above
    rw [z] at h1
    exact absurd (Nat.lt_of_lt_of_le h1 h2) (Nat.lt_irrefl _)
  · exact I1.ok.nofr eb z
theorem ps_forGr {tg iter : Expr} {body : List Stmt} {te : TE} (hp : PassesOwn (model X.prog X.w) X.A X.env X.xe) (hr : Room (n + 1) X.A) (hi : PGr X n iter te)
    (hs : ∀ x, foldedSetIterable iter X.env x = pure x := by intro _; rfl) : PS X (.For tg iter body [] pos) (tForGr te) := by
  refine ⟨fun pins s σ H D I h => ?_⟩
  refine wpAny_For (thn (hi.run pins s σ H I h) fun v s1 ⟨H1, sc, E1, k, sp, vs, hk, hns, hx, I1, q, a, g, c, go, ev, h1, h2, ea, hgen, hcls, _, hgs, os1, hb1, lim1, kp1, wake⟩ => ?_) hs
  subst ev
  refine wpAny_pyIter_gen (hgen _ ea) ?_
  refine codeAny_forLoop_any (fun _ s' => s' = s1) ?_ 0 rfl
  intro _ s3 e3
  rw [e3]
  have hrA : Room k X.A.in1 := by
    refine ⟨hr.hd, ?_, ?_⟩
    · have := hr.dp
      show X.A.depth + 3 * k + 5 < _
      omega
    · have := hr.un
      show X.A.units + 1 + 16 * k + 200 < _
      omega
  obtain ⟨Xg, W, N, hseg⟩ := wake Unit (fun _ _ _ _ => True) (fun _ _ _ _ _ => False) (fun _ _ => False) E1 () q X.A.in1 (s1.setGen g .running) hrA I1.ok.frames (fun b o e => e) os1 (allBare_setGen hb1 rfl) trivial
  refine wpAny_passesOwn hp (next_genG (A := X.A) (n := N) (gs := .fresh c) (F := fun n s₀ s1 => ∃ σ H' γ, GI1 Xg (fun _ _ _ (_ : Unit) => True) [] σ H' s1 γ ∧ False) (Er := fun e s' => L2.CX X.prog X.w X.stack H1 sc E1 e s' ∧ s'.heap.IsGen a g) (Y := GY1 Xg (fun _ _ _ (_ : Unit) => True) (fun _ _ _ _ _ => False)) hr.hd lim1 (by have := hr.dp; omega) (hgen _ ea) hgs ⟨rfl, hseg⟩ (fun v s₁ gs' hb hv => ?_) (fun s₁ hq h' hk' => ?_) fun e s₁ hq => ?_)
  · obtain ⟨_, _, _, _, _, _, _, _, _, hF, _⟩ := hv
    exact False.elim hF
  · obtain ⟨_, _, _, _, hF⟩ := hq
    exact False.elim hF
  · obtain ⟨hc, hg1⟩ := hq
    refine ⟨hg1, notStop_of hns (CX.kin I1 hc) hc, hx pins H1 sc e _ I1 ?_⟩
    obtain ⟨a, B, H', cls, d, z1, fl, z2, ub, z3, z4, z5, z6⟩ := hc
    exact ⟨a, B, H', cls, d, z1, fl, z2, ub, z3, z4, allBare_setGen z5 rfl, z6⟩
end
end U
namespace Fx
open PySem PySem.Spec PyProof.Rows L2 U
noncomputable section
def sStop : FS := fun _ _ => .bad
def sForGr (cs : List Nat) (fe : FE) : FS := fun ρ S => match fe ρ S with
  | .xc c fs S' => if cs.elem c = true then .xc c fs ρ S' else .bad
  | _ => .bad
section
variable {G : Gm} {E : WX}
theorem ss_stop : SS G E tStop sStop := fun _ _ _ _ _ _ _ _ _ h => h
theorem ss_forGr {cs : List Nat} (hn : ∀ c ∈ cs, PySem.W.subIn G.K (.ref (G.ca c)) (.type "StopIteration") = some false) {te : TE} {fe : FE} (he : SE G (NSt G.K E) te fe) : SS G E (tForGr te) (sForGr cs fe) := by
  intro F D ι ω ρ S σ H rel h
  refine he F ι ω ρ S σ H _ rel ?_
  unfold sForGr at h
  cases e : fe ρ S with
  | ok d f S1 => rw [e] at h; exact False.elim h
  | bad => rw [e] at h; exact h
  | xc c fs S1 =>
    rw [e] at h
    dsimp only at h
    split at h
    · rename_i hc
      exact fun ι' dd fv H' e' rel' n1 n2 xd rf => ⟨h ι' ω σ dd fv H' e'.s rel' n1 n2 xd rf, hn c (List.elem_iff.mp hc)⟩
    · exact False.elim h
end
end
end Fx
namespace U
open PySem PySem.Spec PyProof.Rows GenW GenX L2
abbrev xq (X : Cx) : Cx := { X with xe := fun _ _ => False }
section
variable {X : Cx} {pins : List (Addr × Obj)} {σ : L2.St} {H : Hp} {s : Shared}
theorem Inv.q (I : Inv X pins σ H s) : Inv (xq X) pins σ H s := by
  have ok := I.ok
  exact ⟨⟨ok.mod, ok.kind, ok.glob, ok.blt, ok.above, ok.inj, ok.has, ok.cab, ok.hd, ok.frames, ok.stk, ok.exf, ok.bs, ok.bsz, ok.noex, ok.exfs, ok.funs, ok.frf⟩, I.os, I.bare, I.base, I.loc, I.cell, I.free, I.freeC, I.pin, I.hok, I.len⟩
theorem Inv.unq (I : Inv (xq X) pins σ H s) : Inv X pins σ H s := by
  have ok := I.ok
  exact ⟨⟨ok.mod, ok.kind, ok.glob, ok.blt, ok.above, ok.inj, ok.has, ok.cab, ok.hd, ok.frames, ok.stk, ok.exf, ok.bs, ok.bsz, ok.noex, ok.exfs, ok.funs, ok.frf⟩, I.os, I.bare, I.base, I.loc, I.cell, I.free, I.freeC, I.pin, I.hok, I.len⟩
theorem Inv.gens (I : Inv X pins σ H s) {G : Array GenState} (h : AllBare G) : Inv X pins σ H (wg s G) :=
  ⟨I.ok, I.os, h, I.base, I.loc, I.cell, I.free, I.freeC, I.pin, I.hok, I.len⟩
theorem allBare_poison {G : Array GenState} (h : AllBare G) : AllBare (G.map poison) := bare_poison h
theorem run_asleep {α : Type} {t : Sem α} {Q : α → Shared → Prop} (I : Inv X pins σ H s) (h : ∀ s', Inv (xq X) pins σ H s' → s' = wg s (s.gens.map poison) → wpAny (model X.prog X.w) X.A t Q (fun _ _ => False) s') {E : Value → Shared → Prop} :
    wpAny (model X.prog X.w) X.A t (fun a s' => ∃ X', RG X' s'.gens ∧ Asleep s.gens s'.gens ∧ Q a (wg s' X')) E s :=
  wpAny_mono (wpAny_asleep (h _ (Inv.q (Inv.gens I (allBare_poison I.bare))) rfl)) (fun _ _ z => z) fun _ _ z => by
    obtain ⟨_, _, _, z⟩ := z
    exact False.elim z
theorem Inv.back {s' : Shared} {G : Array GenState} (r : RG G s'.gens) (I : Inv (xq X) pins σ H (wg s' G)) : Inv X pins σ H s' := by
  have := Inv.gens (Inv.unq I) (RG.bare r I.bare)
  exact this
end
theorem Asleep.trans {a b c : Array GenState} (h1 : Asleep a b) (h2 : Asleep b c) : Asleep a c := fun i x e k => h2 i x (h1 i x e k) k
end U
namespace U
open PySem PySem.Spec PyProof.Rows GenW GenX L2
end U
namespace Fx
open PySem PySem.Spec PyProof.Rows L2 U
noncomputable section
theorem ni {α : Type} (a : α) : a ∉ ([] : List α) := by simp
section
variable {K : PySem.W.Frag} {ca : Nat → Addr} {ι B B' : List Addr} {H : Hp}
mutual
def noCel : D → Bool
  | .lst ds => noCels ds
  | .tup ds => noCels ds
  | .fro _ ds => noCels ds
  | .dct kvs => noCelK kvs
  | .cel _ => false
  | .obj _ fs => noCelF fs
  | _ => true
def noCels : List D → Bool
  | [] => true
  | d :: ds => noCel d && noCels ds
def noCelK : List (Key × D) → Bool
  | [] => true
  | (_, d) :: ds => noCel d && noCelK ds
def noCelF : List (Str × D) → Bool
  | [] => true
  | (_, d) :: ds => noCel d && noCelF ds
end
theorem nin {ι B : List Addr} {a : Addr} (h1 : a ∉ ι) (h2 : a ∉ B) : a ∉ ι ++ B := fun z => (List.mem_append.mp z).elim h1 h2
mutual
theorem RV.close : ∀ (d : D) {v : V}, noCel d = true → RV K ca ι B H v d → RV K ca [] (ι ++ B) H v d
  | .non, _, _, h => by cases h; exact .non
  | .bl _, _, _, h => by cases h; exact .bl _
  | .int _, _, _, h => by cases h; exact .int _
  | .str _, _, _, h => by cases h; exact .str _
  | .cls _, _, _, h => by cases h; exact .cls _
  | .cel _, _, n, _ => by simp [noCel] at n
  | .lst ds, _, n, h => by
    cases h with
    | lst h1 h2 h3 h4 => exact .lst (ni _) (nin h1 h2) h3 (RAll.close ds (by simpa [noCel] using n) h4)
  | .tup ds, _, n, h => by
    cases h with
    | tup h1 h2 h3 h4 => exact .tup (ni _) (nin h1 h2) h3 (RAll.close ds (by simpa [noCel] using n) h4)
  | .fro l ds, _, n, h => by
    cases h with
    | fro h1 h2 =>
      refine .fro ?_ (RAll.close ds (by simpa [noCel] using n) h2)
      cases l with
      | true =>
        rcases h1 with ⟨q1, q2, o, q3⟩ | q
        · exact .inl ⟨ni _, nin q1 q2, o, q3⟩
        · exact .inr q
      | false =>
        rcases h1 with ⟨q1, q2, o, q3⟩ | q
        · exact .inl ⟨ni _, nin q1 q2, o, q3⟩
        · exact .inr q
  | .dct es, _, n, h => by
    cases h with
    | dct h1 h2 h3 h4 => exact .dct (ni _) (nin h1 h2) h3 (RKv.close es (by simpa [noCel] using n) h4)
  | .obj c es, _, n, h => by
    cases h with
    | obj h1 h2 h3 h4 => exact .obj (ni _) (nin h1 h2) h3 (RFs.close es (by simpa [noCel] using n) h4)
theorem RAll.close : ∀ (ds : List D) {vs : List V}, noCels ds = true → RAll K ca ι B H vs ds → RAll K ca [] (ι ++ B) H vs ds
  | [], _, _, h => by cases h; exact .nil
  | d :: ds, _, n, h => by
    simp only [noCels, Bool.and_eq_true] at n
    cases h with
    | cons h1 h2 => exact .cons (RV.close d n.1 h1) (RAll.close ds n.2 h2)
theorem RKv.close : ∀ (ds : List (Key × D)) {vs : List (Key × V)}, noCelK ds = true → RKv K ca ι B H vs ds → RKv K ca [] (ι ++ B) H vs ds
  | [], _, _, h => by cases h; exact .nil
  | (k, d) :: ds, _, n, h => by
    simp only [noCelK, Bool.and_eq_true] at n
    cases h with
    | cons h1 h2 => exact .cons (RV.close d n.1 h1) (RKv.close ds n.2 h2)
theorem RFs.close : ∀ (ds : List (Str × D)) {vs : List (Str × V)}, noCelF ds = true → RFs K ca ι B H vs ds → RFs K ca [] (ι ++ B) H vs ds
  | [], _, _, h => by cases h; exact .nil
  | (k, d) :: ds, _, n, h => by
    simp only [noCelF, Bool.and_eq_true] at n
    cases h with
    | cons h1 h2 => exact .cons (RV.close d n.1 h1) (RFs.close ds n.2 h2)
end
/-- seen again from where the cells are known -/
theorem Per.open : Per [] (ι ++ B) H ι B H := ⟨fun a o h1 _ h3 => ⟨h1, fun z => h3 (List.mem_append_left _ z), fun z => h3 (List.mem_append_right _ z)⟩, fun k a z => (nomatch z)⟩
end
inductive RGt where
  | nx (ρ : Ev) | bk (ρ : Ev) | ct (ρ : Ev) | bad
/-- an item: a value, or (true) a new list that is given up -/
abbrev Yi := D × Bool
abbrev GnF := Ev → List Yi × RGt
def IV (K : PySem.W.Frag) (ca : Nat → Addr) (B : List Addr) (fr : Addr → Prop) (H : Hp) (x : V) : Yi → Prop
  | (d, false) => RV K ca [] B H x d
  | (d, true) => ∃ a xs ds, x = .ref a ∧ d = .lst ds ∧ a ∉ B ∧ fr a ∧ H a = some (.lst xs) ∧ RAll K ca [] (a :: B) H xs ds
/-- the address that is given up -/
def ad (x : V) (b : Bool) : List Addr := match x, b with
  | .ref a, true => [a]
  | _, _ => []
theorem IV.rv {K : PySem.W.Frag} {ca : Nat → Addr} {B : List Addr} {fr : Addr → Prop} {H : Hp} {x : V} {y : Yi} (h : IV K ca B fr H x y) : RV K ca [] B H x y.1 := by
  obtain ⟨d, b⟩ := y
  cases b with
  | false => exact h
  | true =>
    obtain ⟨a, xs, ds, rfl, rfl, h1, _, h2, h3⟩ := h
    exact .lst (ni _) h1 h2 (h3.per (Per.less fun a z => List.mem_cons_of_mem _ z))
theorem IV.mono {K : PySem.W.Frag} {ca : Nat → Addr} {B : List Addr} {fr fr' : Addr → Prop} {H : Hp} {x : V} {y : Yi} (h : IV K ca B fr H x y) (hf : ∀ a, fr a → fr' a) : IV K ca B fr' H x y := by
  obtain ⟨d, b⟩ := y
  cases b with
  | false => exact h
  | true =>
    obtain ⟨a, xs, ds, h1, h2, h3, h4, h5⟩ := h
    exact ⟨a, xs, ds, h1, h2, h3, hf a h4, h5⟩
theorem IV.fr {K : PySem.W.Frag} {ca : Nat → Addr} {B : List Addr} {fr : Addr → Prop} {H : Hp} {x : V} {y : Yi} (h : IV K ca B fr H x y) {a : Addr} (ha : a ∈ ad x y.2) : fr a := by
  obtain ⟨d, b⟩ := y
  cases b with
  | false => unfold ad at ha; split at ha <;> first | exact absurd ha (ni a) | (rename_i e; cases e)
  | true =>
    obtain ⟨a', xs, ds, rfl, _, _, h4, _⟩ := h
    have ha : a ∈ [a'] := ha
    rw [List.mem_singleton.mp ha]; exact h4
/-- what the consumer keeps of what stood -/
structure Kept (H : Hp) (B : List Addr) (H' : Hp) (B' : List Addr) : Prop where
  at' : ∀ a o, H a = some o → a ∉ B → H' a = some o ∧ a ∉ B'
  dom : ∀ b ∈ B', H' b ≠ none
def PostGn (G : Gm) {Γ : Type} (D : GEn Γ) : List Yi → RGt → Fr → List Addr → Hp → Nat → Γ → Prop
  | [], .nx ρ', F, ω, H, n, γ => ∀ ω' σ' H', ExtS [] ω H [] ω' H' → Rel G F [] ω' ρ' [] σ' H' → D.nx n σ' H' γ
  | [], .bk ρ', F, ω, H, n, γ => ∀ ω' σ' H', ExtS [] ω H [] ω' H' → Rel G F [] ω' ρ' [] σ' H' → D.bk n σ' H' γ
  | [], .ct ρ', F, ω, H, n, γ => ∀ ω' σ' H', ExtS [] ω H [] ω' H' → Rel G F [] ω' ρ' [] σ' H' → D.ct n σ' H' γ
  | [], .bad, _, _, _, _, _ => False
  | y :: ys, r, F, ω, H, n, γ => ∃ m, n = m + 1 ∧ ∀ x H' (κ : Hp → Γ → Prop), (∀ a o, H a = some o → a ∉ ω → H' a = some o) → (∀ a, H a ≠ none → H' a ≠ none) → IV G.K G.ca F.B0 (fun a => H a = none ∨ a ∈ ω) H' x y →
    (∀ H'' γ' B'', Kept H' (ad x y.2 ++ F.B0) H'' B'' → PostGn G D ys r ⟨H'', [], B''⟩ [] H'' m γ' → κ H'' γ') → D.yl m x H' γ κ
section
variable {G : Gm} {Γ : Type} {D : GEn Γ} {F : Fr} {ω ω1 : List Addr} {ρ : Ev} {σ : L2.St} {H H1 : Hp} {n : Nat} {γ : Γ}
theorem PostGn.ex {ys : List Yi} {r : RGt} (h : PostGn G D ys r F ω H n γ) (e : ExtS [] ω H [] ω1 H1) : PostGn G D ys r F ω1 H1 n γ := by
  cases ys with
  | nil =>
    cases r with
    | nx ρ' => exact fun ω' σ' H' e' rel => h ω' σ' H' (e.trans e') rel
    | bk ρ' => exact fun ω' σ' H' e' rel => h ω' σ' H' (e.trans e') rel
    | ct ρ' => exact fun ω' σ' H' e' rel => h ω' σ' H' (e.trans e') rel
    | bad => exact h
  | cons y ys =>
    obtain ⟨m, hm, hy⟩ := h
    refine ⟨m, hm, fun x H' κ k1 k2 rv hκ => ?_⟩
    have q1 : ∀ a o, H a = some o → a ∉ ω → H' a = some o := fun a o q1 q2 => by
      refine k1 a o (e.keep a o q1 (ni _) q2) fun z => ?_
      have := e.neww a z q2
      rw [q1] at this; cases this
    have q3 : ∀ a, (H1 a = none ∨ a ∈ ω1) → (H a = none ∨ a ∈ ω) := fun a z => by
      rcases z with z | z
      · exact .inl (none_of e.dom z)
      · by_cases hz : a ∈ ω
        · exact .inr hz
        · exact .inl (e.neww a z hz)
    exact hy x H' κ q1 (fun a q => k2 a (e.dom a q)) (rv.mono q3) hκ
/-- another end -/
theorem PostGn.map {D' : GEn Γ} {r r' : RGt} (hyl : D'.yl = D.yl) (I : Fr → List Addr → Hp → Prop) (hI : ∀ (F : Fr) (ω : List Addr) (H : Hp) (x : V) (y : Yi) (H' H'' : Hp) (B'' : List Addr), I F ω H → (∀ a o, H a = some o → a ∉ ω → H' a = some o) → IV G.K G.ca F.B0 (fun a => H a = none ∨ a ∈ ω) H' x y → Kept H' (ad x y.2 ++ F.B0) H'' B'' → I ⟨H'', [], B''⟩ [] H'') (zs : List Yi)
    (hend : ∀ F ω H n γ, I F ω H → PostGn G D zs r F ω H n γ → PostGn G D' [] r' F ω H n γ) : ∀ (ys : List Yi) (F : Fr) (ω : List Addr) (H : Hp) (n : Nat) (γ : Γ), I F ω H → PostGn G D (ys ++ zs) r F ω H n γ → PostGn G D' ys r' F ω H n γ
  | [], F, ω, H, n, γ, i, h => hend F ω H n γ i h
  | y :: ys, F, ω, H, n, γ, i, h => by
    obtain ⟨m, hm, hy⟩ := h
    refine ⟨m, hm, fun x H' κ k1 k2 rv hκ => ?_⟩
    rw [hyl]
    exact hy x H' κ k1 k2 rv fun H'' γ' B'' kk post => hκ H'' γ' B'' kk (PostGn.map hyl I hI zs hend ys _ _ _ m γ' (hI F ω H x y H' H'' B'' i k1 rv kk) post)
def noOwn (ρ : Ev) : Bool := ρ.all fun s => match s with
  | .val _ => true
  | .no => true
  | _ => false
theorem noOwn_at {i : Nat} {s : Sl} (h : noOwn ρ = true) (e : ρ[i]? = some s) : (∃ d, s = .val d) ∨ s = .no := by
  have := List.all_eq_true.mp h s (List.mem_of_getElem? e)
  cases s with
  | val d => exact .inl ⟨d, rfl⟩
  | no => exact .inr rfl
  | own ds => cases this
  | oob c fs => cases this
  | exn c fs => cases this
/-- the frame anew at a waking -/
theorem Rel.rebase (r : Rel G F [] ω ρ [] σ H) {ρ' : Ev} (hl : ρ'.length = ρ.length) (hs : ∀ (i : Nat) (s : Sl), ρ'[i]? = some s → s = Sl.no ∨ ρ[i]? = some s) (h : noOwn ρ' = true) (e : ∀ a o, H a = some o → a ∉ ω → H1 a = some o) {x : V} {y : Yi} (iv : IV G.K G.ca F.B0 (fun a => H a = none ∨ a ∈ ω) H1 x y) {H'' : Hp} {B'' : List Addr} (k : Kept H1 (ad x y.2 ++ F.B0) H'' B'') : Rel G ⟨H'', [], B''⟩ [] [] ρ' [] σ H'' := by
  have pp : Per [] (F.B0 ++ ω) H [] B'' H'' := ⟨fun a o h1 _ h3 => by
    rw [List.mem_append, not_or] at h3
    have := k.at' a o (e a o h1 h3.2) fun z => by
      rcases List.mem_append.mp z with z | z
      · rcases iv.fr z with q | q
        · rw [h1] at q; cases q
        · exact h3.2 q
      · exact h3.1 z
    exact ⟨this.1, ni _, this.2⟩, fun _ _ z => z⟩
  refine ⟨List.prefix_rfl, fun _ _ q _ => q, fun _ q => q, fun a q => absurd q (ni a), fun a q => absurd q (ni a), fun b hb => ⟨k.dom b hb, ni _⟩, List.nodup_nil, fun a q => absurd q (ni a), fun a q => absurd q (ni a), ⟨rfl, fun k a c q => (nomatch q)⟩, hl.trans r.len, fun i s o e1 e2 => ?_, fun i j a s s' hij e1 e2 e3 => ?_⟩
  · rcases noOwn_at h e1 with ⟨d, rfl⟩ | rfl
    · rcases hs i _ e1 with z | z
      · cases z
      · have q := r.env i _ o z e2
        cases q with
        | val q =>
          rw [show (Fr.mk H'' [] B'').B0 ++ [] = B'' from List.append_nil _]
          exact .val (q.per pp)
    · exact .no
  · rcases noOwn_at h e1 with ⟨d, rfl⟩ | rfl <;> cases e3
end
/-- a reading of a generator's statement and its function -/
def SGn (G : Gm) (t : (Γ : Type) → TGm Γ) (g : GnF) : Prop := ∀ (Γ : Type) (F : Fr) (D : GEn Γ) (n : Nat) (γ : Γ) (ω : List Addr) (ρ : Ev) (σ : L2.St) (H : Hp), F.i0 = [] → Rel G F [] ω ρ [] σ H → PostGn G D (g ρ).1 (g ρ).2 F ω H n γ → t Γ D n σ H γ
theorem nil_of {G : Gm} {F : Fr} {ι' ω : List Addr} {ρ : Ev} {σ : L2.St} {H : Hp} (r : Rel G F ι' ω ρ [] σ H) : ι' = [] := List.length_eq_zero_iff.mp r.sto.len
def gPl (f : FS) : GnF := fun ρ => match f ρ [] with
  | .nx ρ' [] => ([], .nx ρ')
  | .bk ρ' [] => ([], .bk ρ')
  | .ct ρ' [] => ([], .ct ρ')
  | _ => ([], .bad)
section
variable {G : Gm}
theorem sgn_pl {t : TS} {f : FS} (h : SS G NoE t f) : SGn G (fun Γ => tPl t) (gPl f) := by
  intro Γ F D n γ ω ρ σ H hi rel hp
  refine h F (D.at n γ) [] ω ρ [] σ H rel ?_
  unfold gPl at hp
  cases e : f ρ [] with
  | nx ρ' S' =>
    cases S' with
    | nil => rw [e] at hp; exact fun ι' ω' σ' H' ee rel' => by have := nil_of rel'; subst this; exact hp ω' σ' H' ee rel'
    | cons => rw [e] at hp; exact False.elim hp
  | bk ρ' S' =>
    cases S' with
    | nil => rw [e] at hp; exact fun ι' ω' σ' H' ee rel' => by have := nil_of rel'; subst this; exact hp ω' σ' H' ee rel'
    | cons => rw [e] at hp; exact False.elim hp
  | ct ρ' S' =>
    cases S' with
    | nil => rw [e] at hp; exact fun ι' ω' σ' H' ee rel' => by have := nil_of rel'; subst this; exact hp ω' σ' H' ee rel'
    | cons => rw [e] at hp; exact False.elim hp
  | rt d fl S' => rw [e] at hp; exact False.elim hp
  | xc c fs ρ' S' => rw [e] at hp; exact False.elim hp
  | bad => rw [e] at hp; exact False.elim hp
def gNil : GnF := fun ρ => ([], .nx ρ)
theorem sgn_nil : SGn G (fun Γ => tG1) gNil := fun Γ F D n γ ω ρ σ H hi rel hp => hp ω σ H ExtS.refl rel
def gSeq (g h : GnF) : GnF := fun ρ => match g ρ with
  | (ys, .nx ρ') => (ys ++ (h ρ').1, (h ρ').2)
  | r => r
theorem sgn_seq {t u : (Γ : Type) → TGm Γ} {g h : GnF} (ht : SGn G t g) (hu : SGn G u h) : SGn G (fun Γ => tGSeq (t Γ) (u Γ)) (gSeq g h) := by
  intro Γ F D n γ ω ρ σ H hi rel hp
  refine ht Γ F { D with nx := fun n' σ' H' γ' => u Γ D n' σ' H' γ' } n γ ω ρ σ H hi rel ?_
  unfold gSeq at hp
  cases e : g ρ with
  | mk ys r =>
    rw [e] at hp
    cases r with
    | nx ρ' => exact PostGn.map (D := D) (r := (h ρ').2) (r' := .nx ρ') (D' := { D with nx := fun n' σ' H' γ' => u Γ D n' σ' H' γ' }) rfl (fun F _ _ => F.i0 = []) (fun _ _ _ _ _ _ _ _ _ _ _ _ => rfl) (h ρ').1 (fun F ω H n γ i p => fun ω' σ' H' ee rel' => hu Γ F D n γ ω' ρ' σ' H' i rel' (p.ex ee)) ys F ω H n γ hi hp
    | bk ρ' => exact PostGn.map (D := D) (r := .bk ρ') (r' := .bk ρ') (D' := { D with nx := fun n' σ' H' γ' => u Γ D n' σ' H' γ' }) rfl (fun _ _ _ => True) (fun _ _ _ _ _ _ _ _ _ _ _ _ => trivial) [] (fun F ω H n γ i p => p) ys F ω H n γ trivial (by rw [List.append_nil]; exact hp)
    | ct ρ' => exact PostGn.map (D := D) (r := .ct ρ') (r' := .ct ρ') (D' := { D with nx := fun n' σ' H' γ' => u Γ D n' σ' H' γ' }) rfl (fun _ _ _ => True) (fun _ _ _ _ _ _ _ _ _ _ _ _ => trivial) [] (fun F ω H n γ i p => p) ys F ω H n γ trivial (by rw [List.append_nil]; exact hp)
    | bad => exact PostGn.map (D := D) (r := .bad) (r' := .bad) (D' := { D with nx := fun n' σ' H' γ' => u Γ D n' σ' H' γ' }) rfl (fun _ _ _ => True) (fun _ _ _ _ _ _ _ _ _ _ _ _ => trivial) [] (fun F ω H n γ i p => p) ys F ω H n γ trivial (by rw [List.append_nil]; exact hp)
def gIf (fc : FE) (ga gb : GnF) : GnF := fun ρ => match fc ρ [] with
  | .ok (.bl true) _ [] => ga ρ
  | .ok (.bl false) _ [] => gb ρ
  | _ => ([], .bad)
theorem sgn_if {c : TT} {t u : (Γ : Type) → TGm Γ} {fc : FE} {ga gb : GnF} (hc : ST G NoE c fc) (ht : SGn G t ga) (hu : SGn G u gb) : SGn G (fun Γ => tGIf c (t Γ) (u Γ)) (gIf fc ga gb) := by
  intro Γ F D n γ ω ρ σ H hi rel hp
  refine hc F [] ω ρ [] σ H _ rel ?_
  unfold gIf at hp
  cases e : fc ρ [] with
  | ok d fl S1 =>
    rw [e] at hp
    cases d with
    | bl b =>
      cases S1 with
      | nil =>
        intro ι1 v H1 e1 r1 rf
        have hn := nil_of r1
        subst hn
        rw [rf.rt.sBl]
        cases b with
        | true => exact ht Γ F D n γ ω ρ σ H1 hi r1 (PostGn.ex hp e1.s)
        | false => exact hu Γ F D n γ ω ρ σ H1 hi r1 (PostGn.ex hp e1.s)
      | cons => cases b <;> exact False.elim hp
    | _ => exact False.elim hp
  | xc c' fs S1 => rw [e] at hp; exact False.elim hp
  | bad => rw [e] at hp; exact False.elim hp
def mkY (d : D) (f : Fl) : Option Yi := match d, f with
  | .lst ds, .fs => some (.lst ds, true)
  | d, f => if f.nop = true then some (d, false) else none
theorem mkY_iv {K : PySem.W.Frag} {ca : Nat → Addr} {B0 ω : List Addr} {H0 H : Hp} {v : V} {d : D} {f : Fl} {y : Yi} (h : RF K ca [] (B0 ++ ω) H0 H [] v d f) (e : mkY d f = some y) : IV K ca B0 (fun a => H0 a = none ∨ a ∈ ω) H v y := by
  unfold mkY at e
  split at e
  · cases e
    have h : Fs _ _ _ _ _ _ _ _ _ := h
    cases h with
    | l h1 h2 h3 h4 h5 h6 =>
      exact ⟨_, _, _, rfl, rfl, fun z => h2 (List.mem_append_left _ z), .inl h3, h4, h5.per (Per.less fun a z => by
        rcases List.mem_cons.mp z with z | z
        · rw [z]; exact List.mem_cons_self
        · exact List.mem_cons_of_mem _ (List.mem_append_left _ z))⟩
  · split at e
    · rename_i hf
      cases e
      exact (h.rv (fun e => by rw [e] at hf; cases hf)).per (Per.less fun a z => List.mem_append_left _ z)
    · cases e
def gYd (fe : FE) : GnF := fun ρ => if noOwn ρ = true then (match fe ρ [] with
  | .ok d f [] => (match mkY d f with
    | some y => ([y], .nx ρ)
    | none => ([], .bad))
  | _ => ([], .bad)) else ([], .bad)
theorem sgn_yd {te : TE} {fe : FE} (he : SE G NoE te fe) : SGn G (fun Γ => tGYd te) (gYd fe) := by
  intro Γ F D n γ ω ρ σ H hi rel hp
  unfold gYd at hp
  split at hp
  · rename_i hno
    cases e : fe ρ [] with
    | ok d f S1 =>
      rw [e] at hp
      cases S1 with
      | nil =>
        dsimp only at hp
        split at hp
        · rename_i y hy'
          obtain ⟨m, hm, hy⟩ := hp
          refine ⟨m, hm, he F [] ω ρ [] σ H _ rel ?_⟩
          rw [e]
          intro ι1 v H1 e1 r1 rf
          have hn := nil_of r1
          subst hn
          have iv := mkY_iv rf hy'
          refine hy v H1 _ (fun a o q1 _ => e1.keep a o q1 (ni _)) e1.dom iv fun H'' γ' B'' kk post => ?_
          exact post [] σ H'' ExtS.refl (Rel.rebase rel rfl (fun i s z => .inr z) hno (fun a o q _ => e1.keep a o q (ni _)) iv kk)
        · exact False.elim hp
      | cons => exact False.elim hp
    | xc c fs S1 => rw [e] at hp; exact False.elim hp
    | bad => rw [e] at hp; exact False.elim hp
  · exact False.elim hp
/-- a list of one's own is given up -/
def gYdV (i : Nat) : GnF := fun ρ => match ρ[i]? with
  | some (.own ds) => if noOwn (ρ.set i .no) = true then ([(.lst ds, true)], .nx (ρ.set i .no)) else ([], .bad)
  | _ => gYd (fVar i) ρ
theorem sgn_ydV (i : Nat) : SGn G (fun Γ => tGYd (uVar i)) (gYdV i) := by
  intro Γ F D n γ ω ρ σ H hi rel hp
  unfold gYdV at hp
  split at hp
  · rename_i ds ei
    split at hp
    · rename_i hno
      obtain ⟨m, hm, hy⟩ := hp
      refine ⟨m, hm, ?_⟩
      have hi' : i < σ.length := by rw [← rel.len]; exact (List.getElem?_eq_some_iff.mp ei).1
      have q := rel.env i _ _ ei (List.getElem?_eq_getElem hi')
      cases hσ : σ[i] with
      | none => rw [hσ] at q; cases q
      | some v =>
        rw [hσ] at q
        cases q with
        | @own a xs ds h1 h2 h3 =>
          show match σ[i]? with | some (some v) => _ | _ => False
          rw [List.getElem?_eq_getElem hi', hσ]
          have iv : IV G.K G.ca F.B0 (fun a => H a = none ∨ a ∈ ω) H (.ref a) (.lst ds, true) := ⟨a, xs, ds, rfl, rfl, rel.offb0 h1, .inr h1, h2, h3.per (Per.less fun b z => by
            rcases List.mem_cons.mp z with z | z
            · rw [z]; exact List.mem_append_right _ h1
            · exact List.mem_append_left _ z)⟩
          refine hy (.ref a) H _ (fun _ _ q _ => q) (fun _ q => q) iv fun H'' γ' B'' kk post => ?_
          refine post [] σ H'' ExtS.refl (Rel.rebase rel (List.length_set ..) (fun k s z => ?_) hno (fun _ _ q _ => q) iv kk)
          by_cases hk : i = k
          · subst hk
            rw [List.getElem?_set_self (List.getElem?_eq_some_iff.mp ei).1] at z
            cases z
            exact .inl rfl
          · rw [List.getElem?_set_ne hk] at z
            exact .inr z
    · exact False.elim hp
  · exact sgn_yd (te := uVar i) (fe := fVar i) (se_var i) Γ F D n γ ω ρ σ H hi rel hp
def loopG (set : FG) (body : GnF) : List D → Ev → List Yi × RGt
  | [], ρ => ([], .nx ρ)
  | d :: ds, ρ => match set d ρ [] with
    | some ρ1 => (match body ρ1 with
      | (ys, .nx ρ2) => (ys ++ (loopG set body ds ρ2).1, (loopG set body ds ρ2).2)
      | (ys, .ct ρ2) => (ys ++ (loopG set body ds ρ2).1, (loopG set body ds ρ2).2)
      | (ys, .bk ρ2) => (ys, .nx ρ2)
      | (ys, .bad) => (ys, .bad))
    | none => ([], .bad)
def gFor (fi : FI) (set : FG) (body : GnF) : GnF := fun ρ => match fi ρ [] with
  | .ok ds none [] => loopG set body ds ρ
  | _ => ([], .bad)
theorem loop_sound {tg : TG} {fg : FG} {js : List Nat} {tb : (Γ : Type) → TGm Γ} {gb : GnF} (hg : SG G tg js fg) (hb : SGn G tb gb) {Γ : Type} {D : GEn Γ} {ds : List Fx.D} {J : It} {B1 : List Addr} {H1 : Hp} (wk : Wk G.K G.ca [] B1 H1 J ds none) {F0 : Fr} {ω0 : List Addr} {ρ0 : Ev} {σ0 : L2.St} {n0 : Nat} {γ0 : Γ}
    (hi : F0.i0 = []) (r0 : Rel G F0 [] ω0 ρ0 [] σ0 H1) (hB : B1 = F0.B0 ++ ω0) (p0 : PostGn G D (loopG fg gb ds ρ0).1 (loopG fg gb ds ρ0).2 F0 ω0 H1 n0 γ0) :
    ∃ W : Nat → Nat → Nat → L2.St → Hp → Γ → Prop, (∃ m, W 0 m n0 σ0 H1 γ0) ∧ ∀ i m n σ H γ, W i m n σ H γ →
      (J.stop i H ∧ D.nx n σ H γ) ∨ (J.go i H ∧ ∃ N : Nat → L2.St → Hp → Γ → Prop, (∀ n' σ' H' γ', N n' σ' H' γ' → ∃ m', m' < m ∧ W (i + 1) m' n' σ' H' γ') ∧ ∀ x H', J.yld i H x H' → tg x σ H' fun σ2 H2 => tb Γ { D with nx := N, ct := N, bk := D.nx } n σ2 H2 γ) := by
  refine ⟨fun i m n σ H γ => m = ds.length - i ∧ i ≤ ds.length ∧ ∃ F ω ρ, F.i0 = [] ∧ Rel G F [] ω ρ [] σ H ∧ Per [] B1 H1 [] (F.B0 ++ ω) H ∧ PostGn G D (loopG fg gb (ds.drop i) ρ).1 (loopG fg gb (ds.drop i) ρ).2 F ω H n γ,
    ⟨ds.length, by simp, Nat.zero_le _, F0, ω0, ρ0, hi, r0, by rw [hB]; exact Per.refl, by rw [List.drop_zero]; exact p0⟩, ?_⟩
  rintro i m n σ H γ ⟨rfl, hle, F, ω, ρ, hi', rel, pp, p⟩
  rcases Nat.lt_or_ge i ds.length with hlt | hge
  · rw [List.drop_eq_getElem_cons hlt] at p
    unfold loopG at p
    obtain ⟨N0, hN0⟩ : ∃ N0 : Nat → L2.St → Hp → Γ → Prop, ∀ n' σ' H' γ', N0 n' σ' H' γ' ↔ ∃ F' ω' ρ', F'.i0 = [] ∧ Rel G F' [] ω' ρ' [] σ' H' ∧ Per [] B1 H1 [] (F'.B0 ++ ω') H' ∧ PostGn G D (loopG fg gb (ds.drop (i + 1)) ρ').1 (loopG fg gb (ds.drop (i + 1)) ρ').2 F' ω' H' n' γ' := ⟨_, fun _ _ _ _ => Iff.rfl⟩
    refine .inr ⟨wk.go _ _ _ [] i pp rel.sto rel.bd trivial hlt, N0, fun n' σ' H' γ' q => ⟨ds.length - (i + 1), by omega, rfl, hlt, (hN0 _ _ _ _).mp q⟩, fun x H'' y => ?_⟩
    obtain ⟨gr, d, ed, rv⟩ := wk.yld _ _ _ [] i x H'' pp rel.sto rel.bd trivial hlt y
    rw [List.getElem?_eq_getElem hlt] at ed
    cases ed
    have r2 := rel.gr gr
    have x2 : ExtS [] ω H [] ω H'' := (Ext.gr gr).s
    refine hg F [] ω ρ [] σ H'' x _ _ r2 rv ?_
    cases eg : fg ds[i] ρ [] with
    | none => rw [eg] at p; exact False.elim p
    | some ρ1 =>
      rw [eg] at p
      dsimp only at p
      intro σ1 rel1 _
      have pp2 : Per [] B1 H1 [] (F.B0 ++ ω) H'' := pp.trans (Ext.gr gr).per
      refine hb Γ F _ n γ ω ρ1 σ1 H'' hi' rel1 ?_
      have hI : ∀ (F : Fr) (ω : List Addr) (H : Hp) (x : V) (y : Yi) (H' H'' : Hp) (B'' : List Addr), (F.i0 = [] ∧ Per [] B1 H1 [] (F.B0 ++ ω) H) → (∀ a o, H a = some o → a ∉ ω → H' a = some o) → IV G.K G.ca F.B0 (fun a => H a = none ∨ a ∈ ω) H' x y → Kept H' (ad x y.2 ++ F.B0) H'' B'' → ((Fr.mk H'' [] B'').i0 = [] ∧ Per [] B1 H1 [] ((Fr.mk H'' [] B'').B0 ++ []) H'') := fun F ω H x y H' H'' B'' i k1 iv kk => by
        refine ⟨rfl, fun a o q1 q2 q3 => ?_, fun k a z => (nomatch z)⟩
        obtain ⟨z1, z2, z3⟩ := i.2.at' a o q1 q2 q3
        rw [List.mem_append, not_or] at z3
        obtain ⟨y1, y2⟩ := kk.at' a o (k1 a o z1 z3.2) fun z => by
          rcases List.mem_append.mp z with z | z
          · rcases iv.fr z with w | w
            · rw [z1] at w; cases w
            · exact z3.2 w
          · exact z3.1 z
        exact ⟨y1, ni _, by rw [List.append_nil]; exact y2⟩
      have again : ∀ (ys : List Yi) (ρ2 : Ev) (r' : RGt), PostGn G D (ys ++ (loopG fg gb (ds.drop (i + 1)) ρ2).1) (loopG fg gb (ds.drop (i + 1)) ρ2).2 F ω H'' n γ →
          (∀ F ω H n γ, (∀ ω' σ' H', ExtS [] ω H [] ω' H' → Rel G F [] ω' ρ2 [] σ' H' → N0 n σ' H' γ) → PostGn G { D with nx := N0, ct := N0, bk := D.nx } [] r' F ω H n γ) → PostGn G { D with nx := N0, ct := N0, bk := D.nx } ys r' F ω H'' n γ := fun ys ρ2 r' hpost hend =>
        PostGn.map (D := D) (D' := { D with nx := N0, ct := N0, bk := D.nx }) rfl (fun F ω H => F.i0 = [] ∧ Per [] B1 H1 [] (F.B0 ++ ω) H) hI (loopG fg gb (ds.drop (i + 1)) ρ2).1 (fun F ω H n γ ii p => hend F ω H n γ fun ω' σ' H' ee rel' => (hN0 n σ' H' γ).mpr ⟨F, ω', ρ2, ii.1, rel', ii.2.trans ee.per, p.ex ee⟩) ys F ω H'' n γ ⟨hi', pp2⟩ hpost
      cases eb : gb ρ1 with
      | mk ys r =>
        rw [eb] at p
        have p2 := PostGn.ex p x2
        cases r with
        | nx ρ2 => exact again ys ρ2 (.nx ρ2) p2 fun F ω H n γ q => q
        | ct ρ2 => exact again ys ρ2 (.ct ρ2) p2 fun F ω H n γ q => q
        | bk ρ2 =>
          have p3 : PostGn G D (ys ++ []) (.nx ρ2) F ω H'' n γ := by rw [List.append_nil]; exact p2
          exact PostGn.map (D := D) (D' := { D with nx := N0, ct := N0, bk := D.nx }) (r := .nx ρ2) (r' := .bk ρ2) rfl (fun _ _ _ => True) (fun _ _ _ _ _ _ _ _ _ _ _ _ => trivial) [] (fun F ω H n γ _ q => q) ys F ω H'' n γ trivial p3
        | bad =>
          have p3 : PostGn G D (ys ++ []) .bad F ω H'' n γ := by rw [List.append_nil]; exact p2
          exact PostGn.map (D := D) (D' := { D with nx := N0, ct := N0, bk := D.nx }) (r := .bad) (r' := .bad) rfl (fun _ _ _ => True) (fun _ _ _ _ _ _ _ _ _ _ _ _ => trivial) [] (fun F ω H n γ _ q => q) ys F ω H'' n γ trivial p3
  · obtain rfl : i = ds.length := by omega
    rw [List.drop_length] at p
    exact .inl ⟨wk.stop _ _ _ [] pp rel.sto rel.bd trivial, p ω σ H ExtS.refl rel⟩
theorem sgn_for {wi : TI} {fi : FI} {tg : TG} {fg : FG} {js : List Nat} {tb : (Γ : Type) → TGm Γ} {gb : GnF} (hw : SI G NoE wi fi) (hg : SG G tg js fg) (hb : SGn G tb gb) : SGn G (fun Γ => tGFor wi tg (tb Γ)) (gFor fi fg gb) := by
  intro Γ F D n γ ω ρ σ H hi rel hp
  refine hw F [] ω ρ [] σ H _ rel ?_
  unfold gFor at hp
  cases e : fi ρ [] with
  | ok ds g S1 =>
    rw [e] at hp
    cases g with
    | none =>
      cases S1 with
      | nil =>
        intro ι1 J H1 e1 r1 wk
        have hn := nil_of r1
        subst hn
        exact loop_sound hg hb wk hi r1 rfl (PostGn.ex hp e1.s)
      | cons => exact False.elim hp
    | some => exact False.elim hp
  | xc c fs S1 => rw [e] at hp; exact False.elim hp
  | bad => rw [e] at hp; exact False.elim hp
end
end
end Fx
namespace Fx
open PySem PySem.Spec PyProof.Rows L2 U
noncomputable section
/-- the items, one after another; between two of them the consumer runs -/
def Chain (K : PySem.W.Frag) (ca : Nat → Addr) {Γ : Type} (YL : YLT Γ) (EN : Hp → Γ → Prop) : List Yi → List Addr → Hp → Γ → Prop
  | [], _, H, γ => ∀ H', (∀ a o, H a = some o → H' a = some o) → EN H' γ
  | y :: ys, B, H, γ => ∀ x H' (κ : Hp → Γ → Prop), (∀ a o, H a = some o → H' a = some o) → IV K ca B (fun a => H a = none) H' x y → (∀ H'' γ' B'', Kept H' (ad x y.2 ++ B) H'' B'' → Chain K ca YL EN ys B'' H'' γ' → κ H'' γ') → YL ys.length x H' γ κ
inductive RGn where
  | ok (ys : List Yi) | xc (c : Nat) (fs : List (Str × D)) | bad
abbrev FGf := List D → RGn
def PostGF (K : PySem.W.Frag) (ca : Nat → Addr) (B : List Addr) (H : Hp) {Γ : Type} (γ : Γ) (YL : YLT Γ) (EN : Hp → Γ → Prop) (E : XK) : RGn → Prop
  | .ok ys => Chain K ca YL EN ys B H γ
  | .xc c fs => ∀ dd fv H', Ext [] H [] H' → NI dd B → XD H' dd fv → RFs K ca [] B H' fv fs → E (.ref (ca c)) dd H'
  | .bad => False
inductive RGB where
  | go (ys : List Yi) (r : RGt) | xc (c : Nat) (fs : List (Str × D)) | bad
def PostGB (G : Gm) (E : WX) {Γ : Type} (D : GEn Γ) (F : Fr) (ω : List Addr) (H : Hp) (n : Nat) (γ : Γ) : RGB → Prop
  | .go ys r => PostGn G D ys r F ω H n γ
  | .xc c fs => ∀ ω' ρ' σ' dd fv H', ExtS [] ω H [] ω' H' → Rel G F [] ω' ρ' [] σ' H' → NI dd (F.B0 ++ ω') → XD H' dd fv → RFs G.K G.ca [] (F.B0 ++ ω') H' fv fs → E (.ref (G.ca c)) dd σ' H'
  | .bad => False
section
variable {G : Gm} {E : WX}
theorem PostGB.ex {Γ : Type} {D : GEn Γ} {F : Fr} {ω ω1 : List Addr} {H H1 : Hp} {n : Nat} {γ : Γ} {r : RGB} (h : PostGB G E D F ω H n γ r) (e : ExtS [] ω H [] ω1 H1) : PostGB G E D F ω1 H1 n γ r := by
  cases r with
  | go ys r => exact PostGn.ex h e
  | xc c fs => exact fun ω' ρ' σ' dd fv H' e' rel => h ω' ρ' σ' dd fv H' (e.trans e') rel
  | bad => exact h
end
section
variable {K : PySem.W.Frag} {ca : Nat → Addr}
theorem chain_post {G : Gm} {Γ : Type} {YL : YLT Γ} {EN : Hp → Γ → Prop} {ρ : Ev} : ∀ (ys : List Yi) (B : List Addr) (H : Hp) (γ : Γ), Chain G.K G.ca YL EN ys B H γ → PostGn G { nx := fun _ _ H' γ' => EN H' γ', rt := fun _ v H' γ' => v = .non ∧ EN H' γ', yl := YL } ys (.nx ρ) ⟨H, [], B⟩ [] H ys.length γ
  | [], B, H, γ, h => fun ω' σ' H' ee _ => h H' fun a o q => ee.keep a o q (ni a) (ni a)
  | y :: ys, B, H, γ, h => ⟨ys.length, rfl, fun x H' κ k1 _ rv hκ => h x H' κ (fun a o q => k1 a o q (ni a)) (rv.mono fun a z => z.elim id fun z => absurd z (ni a)) fun H'' γ' B'' kk ch => hκ H'' γ' B'' kk (chain_post ys B'' H'' γ' ch)⟩
end
end
end Fx
namespace U
open PySem PySem.Spec PyProof.Rows L2
end U
namespace Fx
open PySem PySem.Spec PyProof.Rows L2 U
end Fx
namespace U
open PySem PySem.Spec PyProof.Rows L2
end U
namespace Fx
open PySem PySem.Spec PyProof.Rows L2 U
end Fx
namespace DsS
open PySem PySem.Spec PyProof.Rows
def addN (σ : List Str) (z : Str) : List Str := if z ∈ σ then σ else σ ++ [z]
theorem addN_mem (σ : List Str) (z y : Str) : y ∈ addN σ z ↔ y ∈ σ ∨ y = z := by
  unfold addN
  split
  · rename_i h
    exact ⟨.inl, fun q => q.elim id fun e => e ▸ h⟩
  · simp
/-- the set at D holds these texts -/
abbrev HasS (prog : Program) (w : World) (h : Heap) (D : Addr) (σ : List Str) : Prop := h.SetOf (PySem.strKind prog w) D (fun y => decide (y ∈ σ)) σ.length
section
variable {prog : Program} {w : World} {A : Around} {R : Result → Shared → Prop} {J : Addr} {fp wr : List Addr} {G : Array GenState → Array GenState → Prop} {n : Nat} {P : Nat → Value → Prop} {St : Nat → Shared → Prop}
theorem HasS.add {h : Heap} {D : Addr} {σ : List Str} {z : Str} (x : h.SetOf (PySem.strKind prog w) D (fun y => decide (y ∈ σ) || decide (y = z)) (if decide (z ∈ σ) = true then σ.length else σ.length + 1)) : HasS prog w h D (addN σ z) :=
  SetOf_congr x (fun y => by rw [← Bool.decide_or]; exact decide_eq_decide.mpr (addN_mem σ z y).symm) (by
    unfold addN
    by_cases q : z ∈ σ
    · rw [if_pos (decide_eq_true q), if_pos q]
    · rw [if_neg (by simpa using q), if_neg q, List.length_append]; rfl)
end
end DsS
namespace U
open PySem PySem.Spec PyProof.Rows L2
end U
namespace Fx
open PySem PySem.Spec PyProof.Rows L2 U
end Fx
namespace Fx
open PySem PySem.Spec PyProof.Rows L2 U
end Fx
namespace L2
open PySem PySem.Spec PyProof.Rows GenW GenX
abbrev TGq := (Γ : Type) → Hp → Γ → YLT Γ → (Hp → Γ → Prop) → Prop
abbrev SpGq := (Γ : Type) → List V → Hp → Γ → YLT Γ → (Hp → Γ → Prop) → Prop
abbrev noX : XK := fun _ _ _ => False
def GMq (P : Program) (w : World) (K : PySem.W.Frag) (mg : Str → Option Value) (base : Heap) (k : Nat) (outer : List Env) (H : Hp) (s : Shared) (tg : TGq) (u : Value) (s' : Shared) : Prop :=
  ∃ (a : Addr) (g : Nat) (c : Code) (go : Obj), u = .ref a ∧ s.heap.objs.size < a ∧ a < s'.heap.objs.size ∧ s'.heap.get? a = some go ∧ (∀ h : Heap, h.get? a = some go → h.IsGen a g) ∧ go.cls = .type "generator" ∧ (∃ vs, go.data = .fields vs) ∧ s'.gens[g]? = some (.fresh c) ∧ s'.os = s.os ∧ AllBare s'.gens ∧ s'.heap.NoLimit ∧
    (∀ b o, s.heap.get? b = some o → s'.heap.get? b = some o) ∧
    ∀ (Γ : Type) (CI : CIT Γ) (YL : YLT Γ) (EN : Hp → Γ → Prop) (γ : Γ) (Aw : Around) (s2 : Shared) (H2 : Hp) (ks : List (Addr × Obj)), tg Γ H2 γ YL EN → Room k Aw → Aw.frames = some outer → Env0 P w K mg base Aw outer s2 H2 → (∀ b o, s'.heap.get? b = some o → s2.heap.get? b = some o) → H2 s.heap.objs.size = none →
      (∀ p ∈ (a, go) :: ks, s2.heap.get? p.1 = some p.2 ∧ H2 p.1 = none ∧ p.1 ≠ s.heap.objs.size ∧ p.1 ∉ frs outer ∧ ∀ v, p.2.data ≠ .cell v) → (∀ p ∈ ks, p.1 ≠ a) → CI s2 H2 ks γ →
      ∃ X, GWk P w K mg base outer s a go X ∧ ∃ N, Seg (model P w) Aw (RE1 P w outer H s X CI EN noX a g) (GY1 X CI YL) N s2 c ((model P w).den c) [] s2
structure GFnQ (P : Program) (w : World) (K : PySem.W.Frag) (mg : Str → Option Value) (base : Heap) (k : Nat) (f : Addr) (fd : FuncData) (ps : List Str) (sp : SpGq) : Prop where
  run : ∀ (A : Around) (outer : List Env) (s : Shared) (H : Hp) (args : Args) (us : List Value) (vs : List V), Room k A → Env0 P w K mg base A outer s H → BindsTo s fd args (ps.zip us) → Vals vs us → vs.length = ps.length →
    codeAny (model P w) A (.call (.ref f) args) (fun r s' => match r with | .ok (.ret u) => GMq P w K mg base k outer H s (fun Γ => sp Γ vs) u s' | _ => False) s
theorem gfnq_of {P : Program} {w : World} {K : PySem.W.Frag} {mg : Str → Option Value} {base : Heap} {k : Nat} {f : Addr} {name qual : Str} {params : Arguments} {body : List Stmt} {scope : Scope} {dV kV doc pm cdv ct oc : Value} {an od : Option Addr}
    {osl : Array (Option Value)} {N ps : List Str} {sp : SpGq} (lk : K.lookup f = some ⟨oc, od, .func (PySem.W.fnOf name qual params body scope dV kV doc pm an cdv ct), osl⟩) (hcd : PySem.W.codeIn K cdv qual = true) (S : GScope N ps scope) (hnc : ∀ y ∈ scope.names, y.2 ≠ .cell)
    (hbody : ∀ (A : Around) (outer : List Env) (s : Shared) (H H2 : Hp) (vs : List V) (Γ : Type) (γ : Γ) (YL : YLT Γ) (EN : Hp → Γ → Prop) (pn : List (Addr × Obj)), Room k (A.deeper (envOfC qual scope s.heap.objs.size f cdv)) → sp Γ vs H2 γ YL EN → GX (gcxOf P w K mg base N qual scope f cdv A outer s H noX pn) →
      ∃ t, GSs1 Γ (gcxOf P w K mg base N qual scope f cdv A outer s H noX pn) body t ∧ ∃ n, t { nx := fun _ _ H' γ' => EN H' γ', rt := fun _ v H' γ' => v = .non ∧ EN H' γ', yl := YL } n (start N vs) H2 γ) :
    GFnQ P w K mg base (k + 1) f (PySem.W.fnOf name qual params body scope dV kV doc pm an cdv ct) ps sp := by
  refine ⟨fun A outer s H args us vs hr e0 hb r hl => ?_⟩
  have KX : K.In s.heap := e0.mod.kin.keeps fun b o e => (e0.bs b o e).1
  have lim : s.heap.NoLimit := e0.mod.nolimit.keeps fun b o e => (e0.bs b o e).1
  have hkind : ∀ y ∈ ps.zip us, scope.names.lookup y.1 = some .local ∨ (scope.names.lookup y.1 = some .cell ∧ ((cellsFrom (s.heap.objs.size + 1) scope.names []).lookup y.1).isSome = true) := fun ⟨n, v⟩ hy => by
    rcases S.par n (List.of_mem_zip hy).1 with q | q
    · exact .inl q
    · exact .inr ⟨q, PySem.W.cellsFrom_some _ _ _ (.inl q)⟩
  refine codeAny_call_generator hr.depth (KX _ _ lk) rfl S.co S.gen rfl (PySem.W.codeRec_of KX hcd) (hb _ _ _ _ ?_)
  refine wpAny_newFunctionEnv_cells S.kind hkind fun env he s1 x => ?_
  subst he
  have lim1 : s1.heap.NoLimit := lim.keeps x.toInCall.keep
  refine ⟨lim1, ?_⟩
  obtain ⟨h1, tk, es1, hk1⟩ := x.done
  have os1 : s1.os = s.os := by rw [es1]
  have gen1 : s1.gens = s.gens := by rw [es1]
  have lt1 : s.heap.objs.size < s1.heap.objs.size := x.toInCall.ns.lt
  have kp1 : ∀ b o, s.heap.get? b = some o → s1.heap.get? b = some o := x.toInCall.keep
  have main : ∀ (go : Obj) (nm qn : Value) (tk2 : Nat), go.cls = .type "generator" → go.data = .fields #[.int s1.gens.size 0, nm, qn] → go.slots = #[] → (∀ h : Heap, (h.push go).get? h.objs.size = some go) →
      GMq P w K mg base (k + 1) outer H s (fun Γ => sp Γ vs) (.ref s1.heap.objs.size) { s1 with gens := s1.gens.push (.fresh (.func body (envOfC qual scope s.heap.objs.size f cdv))), toks := tk2, heap := s1.heap.push go } := by
    intro go nm qn tk2 hgc hgd0 hgs hgp
    have hgen : ∀ h : Heap, h.get? s1.heap.objs.size = some go → h.IsGen s1.heap.objs.size s1.gens.size := fun h e => ⟨go, nm, qn, e, hgc, hgd0, hgs⟩
    have hpushed : (s1.heap.push go).get? s1.heap.objs.size = some go := hgp _
    refine ⟨s1.heap.objs.size, s1.gens.size, _, go, rfl, lt1, ?_, hpushed, hgen, hgc, ⟨_, hgd0⟩, Array.getElem?_push_size .., os1, ?_, lim1.keeps fun b o e => Heap.get?_push_of_some _ e, fun b o e => Heap.get?_push_of_some _ (kp1 b o e), ?_⟩
    · show _ < (s1.heap.push _).objs.size
      rw [Heap.size_push]; exact Nat.lt_succ_self _
    · exact AllBare.push (by rw [gen1]; exact e0.bare) rfl
    intro Γ CI YL EN γ Aw s2 H2 ks hsp hrw hfr e02 hk2 hn2 hp2 hap hci
    have e0w : Env0 P w K mg base Aw outer s H := ⟨hfr, e0.mod, e0.bs, e0.bsz, e0.funs, e0.frf, e0.hok, e0.bare⟩
    have G : GX (gcxOf P w K mg base N qual scope f cdv Aw outer s H noX [(s1.heap.objs.size, go)]) := by
      refine ⟨rfl, fun y => ?_, fun b hb' => ?_⟩
      · show (cellsFrom (s.heap.objs.size + 1) scope.names []).lookup y = none
        rw [no_cells hnc]; rfl
      · obtain ⟨_, o, ho, _⟩ := e0.funs.mem hb'
        exact Heap.lt_size ho
    have G0 : GX (gcxOf P w K mg base N qual scope f cdv Aw outer s H noX []) := ⟨G.ex, G.nocell, G.old⟩
    refine ⟨_, ⟨G, rfl, rfl, rfl, rfl, rfl, rfl, rfl, rfl⟩, ?_⟩
    obtain ⟨t, ht, n, hq⟩ := hbody Aw outer s H H2 vs Γ γ YL EN [(s1.heap.objs.size, go)] (hrw.deeper _) hsp G
    refine ⟨n, ?_⟩
    have I1 : Inv (gcxOf P w K mg base N qual scope f cdv Aw outer s H noX []) [] (start N vs) H s1 := inv_startG S hrw.hd e0w hl r x
    have kp2 : ∀ b o, s1.heap.get? b = some o → s2.heap.get? b = some o := fun b o e => hk2 b o (Heap.get?_push_of_some _ e)
    have I2 := Inv.wake (pins' := (s1.heap.objs.size, go) :: ks) G0 (I1.to_rb rfl) e02 (fun o e => kp2 _ o e) hn2 (fun p hp => hp2 p hp)
    have I3 : GI1 (gcxOf P w K mg base N qual scope f cdv Aw outer s H noX [(s1.heap.objs.size, go)]) CI [] (start N vs) H2 s2 γ := by
      refine ⟨s2, H2, ks, hci, fun p hp => ⟨(hp2 p (List.mem_cons_of_mem _ hp)).2.2.1, fun q hq => ?_⟩, ?_, ?_⟩
      · have hq : q ∈ [(s1.heap.objs.size, go)] := by rw [List.append_nil] at hq; exact hq
        rw [List.mem_singleton.mp hq]
        exact hap p hp
      · have : s.heap.objs.size < s2.heap.objs.size := Nat.lt_trans lt1 (Heap.lt_size (hp2 _ List.mem_cons_self).1)
        exact Nat.le_of_lt this
      · have ok := I2.ok
        exact ⟨⟨ok.mod, ok.kind, ok.glob, ok.blt, ok.above, ok.inj, ok.has, ok.cab, ok.hd, ok.frames, ok.stk, ok.exf, ok.bs, ok.bsz, ok.noex, ok.exfs, ok.funs, ok.frf⟩, I2.os, I2.bare, I2.base, I2.loc, I2.cell, I2.free, I2.freeC, I2.pin, I2.hok, I2.len⟩
    refine seg_func ?_
    refine seg_imp (R := RE1 P w outer H s (gcxOf P w K mg base N qual scope f cdv Aw outer s H noX [(s1.heap.objs.size, go)]) CI EN noX s1.heap.objs.size s1.gens.size) (Y := GY1 (gcxOf P w K mg base N qual scope f cdv Aw outer s H noX [(s1.heap.objs.size, go)]) CI YL) (fun _ _ _ _ z => z) (fun n s₀ v s kap kap' hkk hY => ?_) n ?_
    · obtain ⟨ip, σ, H', x', γ', κ, q1, q2, q3, q4, q5⟩ := hY
      exact ⟨ip, σ, H', x', γ', κ, q1, q2, q3, q4, fun s' H' ks' γ' w c z => ⟨hkk _ _ (q5 s' H' ks' γ' w c z).1, hkk _ _ (q5 s' H' ks' γ' w c z).2⟩⟩
    refine ht.run Aw _ CI [] n s2 _ [] _ _ id id s2 (start N vs) H2 γ _ ⟨over_func, rfl, rfl, rfl⟩ (fun p hp => absurd hp (by simp)) (fun n s₀ s' fl hs => ?_) I3 hq
    cases fl with
    | next =>
      obtain ⟨σ', H', γ', hI, hQ⟩ := hs
      exact seg_end (.ok (.ret .none)) (.inl ⟨.inl rfl, σ', H', γ', hI, hQ⟩)
    | brk => obtain ⟨_, _, _, _, q⟩ := hs; exact False.elim q
    | cont => obtain ⟨_, _, _, _, q⟩ := hs; exact False.elim q
    | ret u =>
      obtain ⟨v, σ', H', γ', hI, rv, ev, hQ⟩ := hs
      subst ev
      obtain rfl : u = Value.none := rv
      exact seg_end (.ok (.ret .none)) (.inl ⟨.inl rfl, σ', H', γ', hI, hQ⟩)
  exact main _ _ _ _ rfl rfl rfl fun h => Heap.get?_push_size _ rfl
end L2
namespace U
open PySem PySem.Spec PyProof.Rows GenW GenX L2
/-- a context based at an earlier state -/
theorem Inv.rebase {X : Cx} {pins : List (Addr × Obj)} {σ : L2.St} {H : Hp} {s sc : Shared} {Hc : Hp} (I : Inv X pins σ H s) (hex : X.ex = []) (hos : X.s_0.os = sc.os) (u : Un X.fs [] Hc X.H_0 sc.heap X.s_0.heap) (hle : sc.heap.objs.size ≤ X.s_0.heap.objs.size)
    (bs : ∀ b o, X.base.get? b = some o → sc.heap.get? b = some o ∧ Hc b = none) (bsz : X.base.objs.size ≤ sc.heap.objs.size) (funs : sc.heap.FunFrames X.base X.outer) (frf : ∀ b ∈ X.fs, Hc b = none) : Inv { X with s_0 := sc, H_0 := Hc } pins σ H s := by
  have ok := I.ok
  have base := I.base
  rw [hex] at base
  refine ⟨⟨ok.mod, ok.kind, ok.glob, ok.blt, Nat.le_trans hle ok.above, ok.inj, ok.has, fun x c h e => Nat.le_trans hle (ok.cab x c h e), ok.hd, ok.frames, ok.stk, ok.exf, bs, bsz, ok.noex, ok.exfs, funs, frf⟩, I.os.trans hos, I.bare, ?_, I.loc, I.cell, I.free, I.freeC, I.pin, I.hok, I.len⟩
  show Un X.fs X.ex Hc H sc.heap s.heap
  rw [hex]
  exact u.trans base
abbrev TGy := L2.St → Hp → (Hp → TGq → Prop) → Prop
structure PGq (X : Cx) (n : Nat) (e : Expr) (t : TGy) : Prop where
  run : ∀ (pins : List (Addr × Obj)) (s : Shared) (σ : L2.St) (H : Hp) (C : Hp → TGq → Prop), Inv X pins σ H s → t σ H C → wpAny (model X.prog X.w) X.A (eval e X.env)
    (fun u s' => ∃ (H1 : Hp) (sc : Shared) (k : Nat) (tg : TGq), k ≤ n ∧ Inv X pins σ H1 sc ∧ C H1 tg ∧ GMq X.prog X.w X.K X.mg X.base k X.stack H1 sc tg u s') X.xe s
/-- what the comprehension does with an item -/
def ylC (g : TG) (te : TE) (σ : L2.St) (vs : List Nat) (D : Addr) : YLT Unit := fun _ x H γ κ => g x (wipe σ vs) H fun σ2 H2 => wipe σ2 vs = wipe σ vs ∧ te σ2 H2 fun y H4 => ∃ acc, H4 D = some (.lst acc) ∧ acc.length < sizeLine ∧ κ (upd H4 D (.lst (acc ++ [y]))) γ
def tLcQ (t : TGy) (g : TG) (te : TE) (vs : List Nat) : TE := fun σ H Q => t σ H fun H1 tg => ∀ D, H1 D = none → tg Unit (upd H1 D (.lst [])) () (ylC g te σ vs D) (fun H' _ => Q (.ref D) H')
def CIc (B : Cx) (σ : L2.St) (L : Addr) : CIT Unit := fun sj Hj ks _ => Inv B [] σ Hj sj ∧ ∃ oC, ks = [(L, oC)] ∧ sj.heap.get? L = some oC
theorem clo_none (cells : List (Str × Addr)) : ∀ (names : List (Str × NameKind)) (acc : List (Str × Addr)), (∀ y ∈ names, y.2 ≠ .free) → cloFrom cells names acc = acc
  | [], _, _ => rfl
  | (n, k) :: r, acc, h => by
    have hk := h (n, k) List.mem_cons_self
    have ih := clo_none cells r acc fun y hy => h y (List.mem_cons_of_mem _ hy)
    unfold cloFrom
    cases k <;> first | exact absurd rfl hk | exact ih
section
variable {X : Cx}
theorem pe_lcQ {elt tg iter : Expr} {scope : Scope} {own : List (Str × Nat)} {pos : Pos} {t : TGy} {g : TG} {te : TE} {n0 : Nat} (hc : X.calm = true) (hN : X.N.Nodup) (hr : Room (n0 + 1) X.A) (hi : PGq X n0 iter t) (ok : BlkOk X.N X.env.scope scope own) (hall : ∀ y ∈ scope.names, y.2 ≠ .cell ∧ y.2 ≠ .free)
    (hg : ∀ (s : Shared) (H : Hp) (C : Addr) (cl : List (Str × Addr)) (fp : List Addr), PG (X.blk s H scope (compEnvC scope cl C X.env) fp) tg g)
    (he : ∀ (s : Shared) (H : Hp) (C : Addr) (cl : List (Str × Addr)) (fp : List Addr), PE (X.blk s H scope (compEnvC scope cl C X.env) fp) elt te) (hs : ∀ x, foldedSetIterable iter X.env x = pure x := by intro _; rfl) :
    PE X (.ListComp elt [⟨tg, iter, [], 0⟩] scope pos) (tLcQ t g te (own.map (·.2))) := by
  refine ⟨fun pins s σ H Q I h => ?_⟩
  rw [eval_ListComp]
  have hfree : ∀ y ∈ scope.names, y.2 = .free → ∃ c, X.env.cells.lookup y.1 = some c := fun y hy e => absurd e (hall y hy).2
  refine wpAny_comprehension_free (use := none) rfl hs (closure_ok hfree) ok.kind (fun y hy e => by rw [ok.uniq y hy, e])
    (thn (hi.run pins s σ H _ I h) fun xv s1 ⟨H1, sc, k, tgp, hk, I1, q, a, gn, c, go, ev, h1, h2, ea, hgen, hcls, hdat, hgs, os1, hb1, lim1, kp1, wake⟩ => ?_)
  subst ev
  refine wpAny_pyIter_gen (hgen _ ea) ?_
  have hrA : Room k X.A.in1 := by
    refine ⟨hr.hd, ?_, ?_⟩
    · have := hr.dp
      show X.A.depth + 3 * k + 5 < _
      omega
    · have := hr.un
      show X.A.units + 1 + 16 * k + 200 < _
      omega
  have hroom : X.A.depth < recursionLimit := by have := hr.dp; omega
  have I2 : Inv X pins σ H1 s1 := I1.call' (ch := []) os1 (Un.kept kp1) (I1.hok.kept kp1) hb1 fun b z => by simp at z
  refine wpAny_newObj_type (newEnv_comp ?_) (by show 0 ≤ sizeLine; decide)
  generalize hD : s1.heap.objs.size = D
  have hDn : H1 D = none := I2.hok.fresh (Nat.le_of_eq hD)
  have hq := q D hDn
  generalize hs3 : ({ s1 with heap := s1.heap.push { cls := .type "list", data := .seq ([] : List Value).toArray } } : Shared) = s3
  have I3 : Inv X pins σ (upd H1 D (.lst [])) s3 := by
    rw [← hs3]
    refine I2.laid (t' := s1.toks) (fun b o e => Heap.get?_push_of_some _ e) (Nat.le_of_eq hD) ⟨Nat.zero_le _, [], 0, .nil, ?_⟩
    rw [← hD]
    exact Heap.get?_push_size _ rfl
  have h3 : s3.heap = s1.heap.push { cls := .type "list", data := .seq ([] : List Value).toArray } := by rw [← hs3]
  have g3 : s3.gens = s1.gens := by rw [← hs3]
  have o3 : s3.os = s1.os := by rw [← hs3]
  have I4 := block_start (fp := []) I3 ok hN (fun b hb => absurd hb (by simp))
  have pg := hg sc H1 s3.heap.objs.size (cellsFrom (s3.heap.objs.size + 1) scope.names (cloFrom X.env.cells scope.names [])) []
  have pe := he sc H1 s3.heap.objs.size (cellsFrom (s3.heap.objs.size + 1) scope.names (cloFrom X.env.cells scope.names [])) []
  show codeAny _ _ (.compStart (.ListComp elt [⟨tg, iter, [], 0⟩] scope pos) 0 (.ref a) (.ref D) (compEnvC scope (cellsFrom (s3.heap.objs.size + 1) scope.names (cloFrom X.env.cells scope.names [])) s3.heap.objs.size X.env)) (compPost (model X.prog X.w) X.A X.xe none (EP X pins σ Q) (.ref D) s3.heap.objs.size) { s3 with heap := pushCells (s3.heap.push { cls := .type "dict", data := .dict #[] }) scope.names }
  have kpc : ∀ b o, s3.heap.get? b = some o → (pushCells (s3.heap.push { cls := .type "dict", data := .dict #[] }) scope.names).get? b = some o := fun b o e => pushCells_keeps _ _ _ _ (Heap.get?_push_of_some _ e)
  generalize hVS : own.map (fun y => y.2) = VS at I4 hq
  generalize hce : compEnvC scope (cellsFrom (s3.heap.objs.size + 1) scope.names (cloFrom X.env.cells scope.names [])) s3.heap.objs.size X.env = ce at I4 pg pe ⊢
  have cL : ce.locals = s3.heap.objs.size := by subst hce; rfl
  have cC : ∀ x, ce.cells.lookup x = none := fun x => by
    subst hce
    show (cellsFrom (s3.heap.objs.size + 1) scope.names (cloFrom X.env.cells scope.names [])).lookup x = none
    rw [clo_none _ _ _ fun y hy => (hall y hy).2, no_cells fun y hy => (hall y hy).1]; rfl
  generalize hH3 : upd H1 D (.lst []) = H3 at I3 I4 hq
  generalize hs4 : ({ s3 with heap := pushCells (s3.heap.push { cls := .type "dict", data := .dict #[] }) scope.names } : Shared) = s4 at I4 ⊢
  have kp13 : ∀ b o, s1.heap.get? b = some o → s3.heap.get? b = some o := fun b o e => by rw [h3]; exact Heap.get?_push_of_some _ e
  have kp34 : ∀ b o, s3.heap.get? b = some o → s4.heap.get? b = some o := fun b o e => by rw [← hs4]; exact kpc b o e
  have kp14 : ∀ b o, s1.heap.get? b = some o → s4.heap.get? b = some o := fun b o e => kp34 b o (kp13 b o e)
  have g4 : s4.gens = s1.gens := by rw [← hs4]; exact g3
  have o4 : s4.os = s3.os := by rw [← hs4]
  have sz1 : sc.heap.objs.size < s1.heap.objs.size := Nat.lt_trans h1 h2
  have sz3 : s3.heap.objs.size = s1.heap.objs.size + 1 := by rw [h3]; exact Heap.size_push _ _
  have h2' : @LT.lt Nat instLTNat a s1.heap.objs.size := h2
  have aL : a ≠ ce.locals := by rw [cL, sz3]; exact Nat.ne_of_lt (Nat.lt_succ_of_lt h2')
  have e0c := I1.env0
  have IB : Inv (X.blk sc H1 scope ce []) [] (wipe σ VS) H3 s4 := by
    refine Inv.rebase I4 rfl (o3.trans os1) ?_ ?_ e0c.bs e0c.bsz e0c.funs e0c.frf
    · rw [← hH3]
      exact Un.laid (fun b o e => kp13 b o (kp1 b o e)) (by rw [← hD]; exact Nat.le_of_lt sz1) hDn
    · show sc.heap.objs.size ≤ s3.heap.objs.size
      omega
  have I4X : Inv X pins σ H3 s4 := I3.call' (ch := []) o4 (Un.kept kp34) (I3.hok.kept kp34) (by rw [g4]; exact hb1) fun b z => by simp at z
  have stk : ∀ b ∈ frs X.stack, b < sc.heap.objs.size := fun b hb => by
    obtain ⟨_, o, ho, _⟩ := e0c.funs.mem hb
    exact Heap.lt_size ho
  have sz4 : s1.heap.objs.size < s4.heap.objs.size := by
    obtain ⟨m, ⟨o, es, ep, ho, _⟩, _⟩ := IB.loc
    have := Heap.lt_size ho
    rw [show (X.blk sc H1 scope ce []).env.locals = ce.locals from rfl, cL] at this
    have : @LT.lt Nat instLTNat s3.heap.objs.size s4.heap.objs.size := this
    omega
  have ea4 : s4.heap.get? a = some go := kp14 a go ea
  have hn0 : H3 sc.heap.objs.size = none := by
    rw [← hH3, upd_ne (by rw [← hD]; exact Nat.ne_of_lt sz1)]
    exact I1.hok.fresh (Nat.le_refl _)
  have ha3 : H3 a = none := by
    rw [← hH3, upd_ne (by rw [← hD]; exact Nat.ne_of_lt h2)]
    exact I1.hok.fresh (Nat.le_of_lt h1)
  obtain ⟨vs, hvs⟩ := hdat
  have hgd : ∀ v, go.data ≠ .cell v := fun v z => by rw [hvs] at z; cases z
  -- the block's own dict
  have locO : ∀ {σ' : L2.St} {H' : Hp} {s' : Shared} {pp : List (Addr × Obj)}, Inv (X.blk sc H1 scope ce []) pp σ' H' s' → ∃ oC, s'.heap.get? ce.locals = some oC ∧ (∀ v, oC.data ≠ .cell v) ∧ H' ce.locals = none := fun {σ' H' s' pp} I' => by
    obtain ⟨m, ⟨o, es, ep, ho, hd, _⟩, _⟩ := I'.loc
    exact ⟨o, ho, (fun v z => by rw [hd] at z; cases z), I'.free⟩
  have lN : ce.locals ∉ frs X.stack := fun hb => by
    have := stk _ hb
    rw [cL] at this
    have : @LT.lt Nat instLTNat s3.heap.objs.size sc.heap.objs.size := this
    omega
  obtain ⟨oC, eC, dC, nC⟩ := locO IB
  have env4 : Env0 X.prog X.w X.K X.mg X.base X.A.in1 X.stack (s4.setGen gn .running) H3 := by
    have J4 : Inv X pins σ H3 (s4.setGen gn .running) := Inv.gens I4X (allBare_setGen I4X.bare rfl)
    have e := J4.env0
    exact ⟨I1.ok.frames, e.mod, e.bs, e.bsz, e.funs, e.frf, e.hok, e.bare⟩
  have IBr : Inv (X.blk sc H1 scope ce []) [] (wipe σ VS) H3 (s4.setGen gn .running) := Inv.gens IB (allBare_setGen IB.bare rfl)
  obtain ⟨Xg, W, N, hseg⟩ := wake Unit (CIc (X.blk sc H1 scope ce []) (wipe σ VS) ce.locals) (ylC g te σ VS D) (fun H' _ => Q (.ref D) H') () X.A.in1 (s4.setGen gn .running) H3 [(ce.locals, oC)] hq hrA I1.ok.frames env4 kp14 hn0
    (fun p hp => by
      rcases List.mem_cons.mp hp with rfl | hp
      · exact ⟨ea4, ha3, Nat.ne_of_gt h1, fun hb => absurd (stk _ hb) (by show ¬ @LT.lt Nat instLTNat a _; omega), hgd⟩
      · rw [List.mem_singleton.mp hp]
        exact ⟨eC, nC, by show ce.locals ≠ _; rw [cL]; show @Ne Nat _ _; omega, lN, dC⟩) (fun p hp => by rw [List.mem_singleton.mp hp]; exact aL.symm) ⟨IBr, oC, rfl, eC⟩
  have hloc : Xg.env.locals = sc.heap.objs.size := W.loc
  have loop : codeAny (model X.prog X.w) X.A (.compLoop (.ListComp elt [⟨tg, iter, [], 0⟩] scope pos) 0 (.ref a) (.ref D) ce) (compPost (model X.prog X.w) X.A X.xe none (EP X pins σ Q) (.ref D) s3.heap.objs.size) s4 := by
    refine compLoop_any (fun n s' => ∃ H' gs, Inv (X.blk sc H1 scope ce []) [] (wipe σ VS) H' s' ∧ s'.heap.get? a = some go ∧ H' a = none ∧ s'.gens[gn]? = some gs ∧ gs.Goes (model X.prog X.w) X.A.in1 (RE1 X.prog X.w X.stack H1 sc Xg (CIc (X.blk sc H1 scope ce []) (wipe σ VS) ce.locals) (fun H' _ => Q (.ref D) H') noX a gn) (GY1 Xg (CIc (X.blk sc H1 scope ce []) (wipe σ VS) ce.locals) (ylC g te σ VS D)) n (.send .none) (s'.setGen gn .running))
      ?_ N ⟨H3, .fresh c, IB, ea4, ha3, by rw [g4]; exact hgs, rfl, hseg⟩
    rintro n s5 ⟨H5, gs, I5, ea5, ha5, hgs5, hgo⟩
    have hgl : gn < s5.gens.size := (Array.getElem?_eq_some_iff.mp hgs5).1
    have lim5 : s5.heap.NoLimit := I5.ok.mod.nolimit.keeps fun b o e => (I5.bs b o e).1
    -- what the consumer has behind a stretch
    have seen : ∀ {ip : List (Addr × Obj)} {σg : L2.St} {Hg : Hp} {s₁ : Shared} {γ : Unit}, GI1 Xg (CIc (X.blk sc H1 scope ce []) (wipe σ VS) ce.locals) ip σg Hg s₁ γ → Inv (X.blk sc H1 scope ce []) [] (wipe σ VS) Hg s₁ ∧ ∃ sj Hj ks, (∀ p ∈ ks, ∀ q ∈ Xg.pn ++ ip, p.1 ≠ q.1) ∧ (∃ oC, ks = [(ce.locals, oC)]) ∧ Inv (rb Xg sj Hj) (ip ++ ks) σg Hg s₁ := fun {ip σg Hg s₁ γ} hG => by
      obtain ⟨sj, Hj, ks, ⟨Ic, oC', hks, eC'⟩, apt, hz, Ig⟩ := hG
      refine ⟨Inv.seen (Xc := X.blk sc H1 scope ce []) W.gx W.outer W.prog W.w Ic Ig (fun b o hbo eo => ?_) (Nat.le_of_eq hloc.symm), sj, Hj, ks, fun p hp => (apt p hp).2, ⟨oC', hks⟩, Ig⟩
      rcases hbo with rfl | ⟨x, e⟩ | ⟨p, hp', rfl⟩
      · refine .inr (List.mem_append_right _ ?_)
        have eo : sj.heap.get? ce.locals = some o := eo
        rw [eC'] at eo
        cases eo
        rw [hks]
        exact List.mem_singleton.mpr rfl
      · have e : ce.cells.lookup x = some b := e
        rw [cC x] at e; cases e
      · exact absurd hp' (by simp)
    refine wpAny_gsz (n := gn + 1) hgl (next_genG (A := X.A) (n := n) (gs := gs) (F := fun n s₀ s1 => ∃ (σ' : L2.St) (H' : Hp) (γ : Unit), GI1 Xg (CIc (X.blk sc H1 scope ce []) (wipe σ VS) ce.locals) [] σ' H' s1 γ ∧ Q (.ref D) H') (Er := fun e s' => L2.CX X.prog X.w X.stack H1 sc noX e s' ∧ s'.heap.IsGen a gn) (Y := GY1 Xg (CIc (X.blk sc H1 scope ce []) (wipe σ VS) ce.locals) (ylC g te σ VS D)) hr.hd lim5 hroom (hgen _ ea5) hgs5 hgo (fun v s₁ gs' hbare hv => ?_) (fun s₁ hq h' hk' => ?_) fun e s₁ hq => ?_)
    · intro hsz
      obtain ⟨ip, σg, Hg, x, γ, κ, rx, hG, hip, yl, hkap⟩ := hv
      obtain ⟨Ic, sj, Hj, ks, hap, ⟨oC1, hks⟩, Ig⟩ := seen hG
      have hsz1 : gn < s₁.gens.size := by
        have q1 : (s₁.setGen gn gs').gens.size = s₁.gens.size := setGen_size _ _ _
        have hsz' : gn + 1 ≤ (s₁.setGen gn gs').gens.size := hsz
        omega
      have I6 : Inv (X.blk sc H1 scope ce []) [] (wipe σ VS) Hg (s₁.setGen gn gs') := Inv.gens Ic (allBare_setGen Ic.bare hbare)
      have g6 : (s₁.setGen gn gs').gens[gn]? = some gs' := setGen_at hsz1
      obtain ⟨mm, ⟨oL, es, ep, eL, dL, _⟩, _⟩ := Ig.loc
      have pa : s₁.heap.get? a = some go ∧ Hg a = none ∧ a ≠ Xg.env.locals ∧ a ∉ Xg.fs ∧ ∀ v, go.data ≠ .cell v := Ig.pin (a, go) (List.mem_append_left _ (by show (a, go) ∈ Xg.pn; rw [W.pn]; exact List.mem_singleton.mpr rfl))
      have pinned : ∀ p ∈ ((a, go) :: (Xg.env.locals, oL) :: ip), s₁.heap.get? p.1 = some p.2 ∧ Hg p.1 = none ∧ sc.heap.objs.size ≤ p.1 ∧ (∀ v, p.2.data ≠ .cell v) ∧ p.1 ≠ ce.locals := fun p hp' => by
        have hne : ∀ q ∈ Xg.pn ++ ip, q.1 ≠ ce.locals := fun q hq z => hap (ce.locals, oC1) (by rw [hks]; exact List.mem_singleton.mpr rfl) q hq z.symm
        rcases List.mem_cons.mp hp' with rfl | hp'
        · exact ⟨pa.1, pa.2.1, Nat.le_of_lt h1, pa.2.2.2.2, aL⟩
        · rcases List.mem_cons.mp hp' with rfl | hp'
          · exact ⟨eL, Ig.free, by rw [hloc]; exact Nat.le_refl _, (fun v z => by rw [dL] at z; cases z), by show Xg.env.locals ≠ _; rw [hloc, cL]; show @Ne Nat _ _; omega⟩
          · have := Ig.pin p (List.mem_append_right _ (List.mem_append_left _ hp'))
            exact ⟨this.1, this.2.1, by rw [← hloc]; exact Nat.le_of_lt (hip p hp'), this.2.2.2.2, hne p (List.mem_append_right _ hp')⟩
      have I7 : Inv (X.blk sc H1 scope ce []) ((a, go) :: (Xg.env.locals, oL) :: ip) (wipe σ VS) Hg (s₁.setGen gn gs') := I6.pins_of fun p hp' => by
        obtain ⟨q1, q2, q3, q4, q5⟩ := pinned p hp'
        exact ⟨q1, q2, q5, fun e => absurd (stk _ e) (Nat.not_lt_of_le q3), q4⟩
      refine go_of (s := s₁.setGen gn gs') pa.1 hcls hvs (by decide) ?_
      have yl : g x (wipe σ VS) Hg fun σ2 H2 => wipe σ2 VS = wipe σ VS ∧ te σ2 H2 fun y H4 => ∃ acc, H4 D = some (.lst acc) ∧ acc.length < sizeLine ∧ κ (upd H4 D (.lst (acc ++ [y]))) γ := yl
      refine thnF (run_asleep (E := fun _ _ => False) I7 (fun s' I' _ => pg.run _ s' _ Hg x v _ I' rx yl)) fun _ s8 z => ?_
      obtain ⟨G8, r8, as8, σ8, H8, I8', hw8, q8⟩ := z
      have I8 := Inv.back (X := X.blk sc H1 scope ce []) r8 I8'
      refine wpAny_tests_nil ?_
      rw [if_pos rfl]
      refine thnF (run_asleep (E := fun _ _ => False) I8 (fun s' I' _ => pe.run _ s' σ8 H8 _ I' q8)) fun zv s9 z => ?_
      obtain ⟨G9, r9, as9, yv, H9, I9', ry, acc, hD9, hz9, qk⟩ := z
      have I9 := Inv.back (X := X.blk sc H1 scope ce []) r9 I9'
      refine thnF (run_asleep (E := fun _ _ => False) I9 (fun s' I' _ => app_ok I' hD9 hz9 ry (Q := fun _ s2 => Inv (xq (X.blk sc H1 scope ce [])) ((a, go) :: (Xg.env.locals, oL) :: ip) σ8 (upd H9 D (.lst (acc ++ [yv]))) s2) fun s2 I2 => I2)) fun _ s10 z => ?_
      obtain ⟨G10, r10, as10, I10'⟩ := z
      have I10 := Inv.back (X := X.blk sc H1 scope ce []) r10 I10'
      have hl : (wipe σ VS).length = σ8.length := by rw [← hw8, wipe_length]
      have I11 : Inv (X.blk sc H1 scope ce []) ((a, go) :: (Xg.env.locals, oL) :: ip) (wipe σ VS) (upd H9 D (.lst (acc ++ [yv]))) s10 := I10.weak hl fun j v e => by
        rw [← hw8] at e
        exact (wipe_some e).1
      have pin11 : ∀ p ∈ ((a, go) :: (Xg.env.locals, oL) :: ip), s10.heap.get? p.1 = some p.2 ∧ (upd H9 D (.lst (acc ++ [yv]))) p.1 = none := fun p hp' =>
        let z := I11.pin p (List.mem_append_right _ hp')
        ⟨z.1, z.2.1⟩
      generalize upd H9 D (.lst (acc ++ [yv])) = H11 at qk I11 pin11
      have I12 : Inv (X.blk sc H1 scope ce []) [] (wipe σ VS) H11 s10 := I11.pins_of fun p hp => absurd hp (by show p ∉ ([] : List (Addr × Obj)); simp)
      have I13 : Inv (X.blk sc H1 scope ce []) [] (wipe σ VS) H11 (s10.setGen gn .running) := Inv.gens I12 (allBare_setGen I12.bare rfl)
      have IX : Inv X pins σ H11 (s10.setGen gn .running) := I1.call' (ch := []) I13.os I13.base I13.hok I13.bare fun b z => by simp at z
      obtain ⟨oC2, eC2, dC2, nC2⟩ := locO I13
      have wk : Wk Xg ip s₁ (s10.setGen gn .running) H11 [(ce.locals, oC2)] := by
        refine ⟨⟨X.A, ?_⟩, fun o e => ?_, (pin11 (Xg.env.locals, oL) (by simp)).2, fun p hp' => ?_, fun p hp' => ?_⟩
        · rw [W.prog, W.w, W.K, W.mg, W.base, W.outer]
          exact IX.env0
        · rw [eL] at e
          cases e
          exact (pin11 (Xg.env.locals, oL) (by simp)).1
        · rcases List.mem_append.mp hp' with z | z
          · have q := Ig.pin p (List.mem_append_left _ z)
            have z : p ∈ Xg.pn := z
            rw [W.pn] at z
            have hm : p ∈ ((a, go) :: (Xg.env.locals, oL) :: ip) := by rw [List.mem_singleton.mp z]; exact List.mem_cons_self
            obtain ⟨q1, q2⟩ := pin11 p hm
            exact ⟨q1, q2, q.2.2.1, q.2.2.2.1, q.2.2.2.2⟩
          · rcases List.mem_append.mp z with z | z
            · have q := Ig.pin p (List.mem_append_right _ (List.mem_append_left _ z))
              obtain ⟨q1, q2⟩ := pin11 p (List.mem_cons_of_mem _ (List.mem_cons_of_mem _ z))
              exact ⟨q1, q2, q.2.2.1, q.2.2.2.1, q.2.2.2.2⟩
            · rw [List.mem_singleton.mp z]
              exact ⟨eC2, nC2, by show ce.locals ≠ _; rw [hloc, cL]; show @Ne Nat _ _; omega, by show ce.locals ∉ frs Xg.outer; rw [W.outer]; exact lN, dC2⟩
        · rw [List.mem_singleton.mp hp']
          exact ⟨by show ce.locals ≠ _; rw [hloc, cL]; show @Ne Nat _ _; omega, fun q hq => hap (ce.locals, oC1) (by rw [hks]; exact List.mem_singleton.mpr rfl) q hq⟩
      obtain ⟨k1, k2⟩ := hkap (s10.setGen gn .running) H11 [(ce.locals, oC2)] γ wk ⟨I13, oC2, rfl, eC2⟩ qk
      cases n with
      | zero => exact False.elim k1
      | succ m =>
        have hst : gs'.status = .suspended := by
          cases gs' with
          | suspended => rfl
          | fresh c => have := k2.1; cases this
          | running => exact False.elim k1
          | finished => exact False.elim k1
        exact ⟨m, Nat.lt_succ_self m, H11, gs', I12, (pin11 (a, go) (by simp)).1, (pin11 (a, go) (by simp)).2, (Asleep.trans (Asleep.trans as8 as9) as10) gn gs' g6 hst, k1⟩
    · intro _
      obtain ⟨σg, H', γ, hG, qn⟩ := hq
      obtain ⟨Ic, _⟩ := seen hG
      have J6 : Inv (X.blk sc H1 scope ce []) [] (wipe σ VS) H' (s₁.setGen gn .finished) := Inv.gens Ic (allBare_setGen Ic.bare rfl)
      have I6 : Inv (X.blk sc H1 scope ce []) [] (wipe σ VS) H' { s₁.setGen gn .finished with heap := h' } := J6.call' (s' := { s₁.setGen gn .finished with heap := h' }) (ch := []) rfl (Un.kept hk') (J6.hok.kept hk') J6.bare fun b z => by simp at z
      have IX : Inv X pins σ H' { s₁.setGen gn .finished with heap := h' } := I1.call' (ch := []) I6.os I6.base I6.hok I6.bare fun b z => by simp at z
      have nC' : H' s3.heap.objs.size = none := by
        have z : H' ce.locals = none := I6.free
        rw [cL] at z; exact z
      obtain ⟨m, hn, _⟩ := I6.loc
      have hn : Heap.Ns _ ce.locals m := hn
      rw [cL] at hn
      refine ⟨m, hn, fun h'' sb => ?_⟩
      obtain ⟨f0, f1, f2, f3, f4, f5⟩ := I3.fpOk (Nat.le_refl _) nC'
      exact ⟨.ref D, H', IX.turned (t' := _) (fun b o hb e => (sb.2 b hb).trans e) f0 f1 f3 f4 f5, rfl, qn⟩
    · obtain ⟨⟨_, _, _, _, _, _, _, _, _, _, _, _, z⟩, _⟩ := hq
      exact False.elim z
  exact codeAny_compStart_list loop (wpAny_pyIter_gen (hgen _ ea4) loop)
end
end U
namespace U
open PySem PySem.Spec PyProof.Rows GenW GenX L2
section
variable {X : Cx} {k n np : Nat} {f : Addr} {fd : FuncData} {ps : List Str} {sp : SpGq} {x : Str} {p pos : Pos} {e : Expr} {es : List Expr} {t : TA}
def tCallQ (np : Nat) (sp : SpGq) (t : TA) : TGy := fun σ H K1 => t σ H fun vs H1 => vs.length = np ∧ K1 H1 (fun Γ => sp Γ vs)
theorem pgq_call (F : GFnQ X.prog X.w X.K X.mg X.base k f fd ps sp) (hg : Gl X x) (hm : X.mg x = some (.ref f)) (hkp : PySem.W.keepIn X.K (.ref f) = true) (hb : Binds X.K fd ps []) (hk : k ≤ n) (hr : Room n X.A) (hnp : ps.length = np)
    (ha : PA X (e :: es) t) (hdb : (x == ("__debug__" : Str)) = false := by decide) (he : starEach (e :: es) X.env = (false, eval e X.env) :: starEach es X.env := by rfl) (hpl : (backTo pos (starEach es X.env)).any (·.1) = false := by rfl) :
    PGq X n (.Call (.Name x p) (e :: es) [] pos) (tCallQ np sp t) := by
  refine ⟨fun pins s σ H K1 I h => ?_⟩
  refine wpAny_Call_Name_kw (ld_glob I hg hm ?_ hdb)
  refine PySem.W.callWith_K (h₀ := X.base) I.ok.mod.kin hkp (thn (ha.run pos pins s σ H _ I h) fun us s1 ⟨vs, H1, I1, r, q, q2⟩ => ⟨I1.kIn, ?_⟩) he hpl
  have hl : vs.length = ps.length := q.trans hnp.symm
  have hbs := hb s1 us I1.kIn (by rw [List.append_nil, ← r.length]; exact hl)
  rw [List.append_nil] at hbs
  refine wpAny_call (codeAny_mono (F.run X.A X.stack s1 H1 ⟨us, []⟩ us vs (hr.mono hk) I1.env0 hbs r hl) fun r' s' hq => ?_)
  cases r' with
  | error e => exact False.elim hq
  | ok fl =>
    cases fl with
    | ret u => exact ⟨H1, s1, k, _, hk, I1, q2, hq⟩
    | next => exact False.elim hq
    | brk => exact False.elim hq
    | cont => exact False.elim hq
end
section
variable {P : Program} {w : World} {K : PySem.W.Frag} {mg : Str → Option Value} {base : Heap}
theorem okGq {x qual : Str} {st : Stmt} {f : Addr} {fd : FuncData} {N ps : List Str} {k : Nat} {sp : SpGq} (F : Fun K x qual st f fd) (S : GScope N ps (defScope st)) (hnc : ∀ y ∈ (defScope st).names, y.2 ≠ .cell)
    (hbody : ∀ (cdv : Value) (A : Around) (outer : List Env) (s : Shared) (H H2 : Hp) (vs : List V) (Γ : Type) (γ : Γ) (YL : YLT Γ) (EN : Hp → Γ → Prop) (pn : List (Addr × Obj)), Room k (A.deeper (envOfC qual (defScope st) s.heap.objs.size f cdv)) → sp Γ vs H2 γ YL EN → GX (gcxOf P w K mg base N qual (defScope st) f cdv A outer s H noX pn) →
      ∃ t, GSs1 Γ (gcxOf P w K mg base N qual (defScope st) f cdv A outer s H noX pn) (defBody st) t ∧ ∃ n, t { nx := fun _ _ H' γ' => EN H' γ', rt := fun _ v H' γ' => v = .non ∧ EN H' γ', yl := YL } n (start N vs) H2 γ) : GFnQ P w K mg base (k + 1) f fd ps sp := by
  obtain ⟨oc, od, kV, doc, pm, an, cdv, ct, osl, rfl, lk, hcd⟩ := F.ex
  exact gfnq_of lk hcd S hnc fun A outer s H H2 vs Γ γ YL EN pn hr h g => hbody cdv A outer s H H2 vs Γ γ YL EN pn hr h g
end
end U
namespace Fx
open PySem PySem.Spec PyProof.Rows L2 U
noncomputable section
def SpGQF (K : PySem.W.Frag) (ca : Nat → Addr) (f : FGf) : SpGq := fun _ vs H γ YL EN => ∃ B ds, (∀ b ∈ B, H b ≠ none) ∧ RAll K ca [] B H vs ds ∧ PostGF K ca B H γ YL EN noX (f ds)
/-- a def's body, all of it behind the first wakening -/
def runQ (n m : Nat) (b : GnF) : FGf := fun ds => if ds.length = m then (match b (ds.map .val ++ List.replicate (n - m) .no) with
  | (ys, .nx _) => .ok ys
  | _ => .bad) else .bad
section
variable {K : PySem.W.Frag} {ca : Nat → Addr}
theorem runQ_ok {N P : List Str} {t : (Γ : Type) → TGm Γ} {b : GnF} (hb : SGn ⟨K, ca, none, none⟩ t b) {Γ : Type} {vs : List V} {H : Hp} {γ : Γ} {YL : YLT Γ} {EN : Hp → Γ → Prop} (h : SpGQF K ca (runQ N.length P.length b) Γ vs H γ YL EN) :
    ∃ n, t Γ { nx := fun _ _ H' γ' => EN H' γ', rt := fun _ v H' γ' => v = .non ∧ EN H' γ', yl := YL } n (L2.start N vs) H γ := by
  obtain ⟨B, ds, h2, h4, h5⟩ := h
  unfold runQ at h5
  split at h5
  · rename_i el
    have rel : Rel ⟨K, ca, none, none⟩ ⟨H, [], B⟩ [] [] (ds.map .val ++ List.replicate (N.length - ds.length) .no) [] (L2.start N vs) H := start_rel (ι := []) List.nodup_nil (fun b hb => ⟨h2 b hb, ni b⟩) ⟨rfl, fun k a c q => (nomatch q)⟩ h4
    rw [el] at rel
    cases e : b (ds.map .val ++ List.replicate (N.length - P.length) .no) with
    | mk ys r =>
      rw [e] at h5
      cases r with
      | nx ρ' => exact ⟨ys.length, hb Γ ⟨H, [], B⟩ _ _ γ [] _ _ H rfl rel (by rw [e]; exact chain_post (G := ⟨K, ca, none, none⟩) ys B H γ h5)⟩
      | bk ρ' => exact False.elim h5
      | ct ρ' => exact False.elim h5
      | bad => exact False.elim h5
  · exact h5.elim
end
theorem runQ_ar {n m : Nat} {b : GnF} {ds : List D} (h : runQ n m b ds ≠ .bad) : ds.length = m := by
  unfold runQ at h
  split at h
  · rename_i e; exact e
  · exact absurd rfl h
/-- the items, adopted -/
def adoY : List Yi → List D → Sto → List D × Sto
  | [], acc, S => (acc, S)
  | (.lst ds, true) :: ys, acc, S => adoY ys (acc ++ [.cel S.length]) (S ++ [.lst ds])
  | (d, _) :: ys, acc, S => adoY ys (acc ++ [d]) S
def kLcQ (S : Sto) : RGn → RE
  | .ok ys => if ys.length ≤ lim then .ok (.lst (adoY ys [] S).1) .fs (adoY ys [] S).2 else .bad
  | _ => .bad
def fLcQ (i : Nat) (f : FGf) (fa : FA) : FE := fun ρ S => match fa ρ S with
  | .ok ds true S1 => if (noCels ds && decide (i < ρ.length)) = true then kLcQ S1 (f ds) else .bad
  | .xc c fs S1 => .xc c fs S1
  | _ => .bad
section
variable {G : Gm} {E : WX}
theorem RS.snoc {ι B : List Addr} {H H' : Hp} {S : Sto} {a : Addr} {c : Ce} (r : RS G.K G.ca ι B H S) (e : Ext ι H (ι ++ [a]) H') (keep : ∀ b ∈ ι, H' b = H b) (hc : RC G.K G.ca (ι ++ [a]) B H' a c) : RS G.K G.ca (ι ++ [a]) B H' (S ++ [c]) := by
  refine ⟨by rw [List.length_append, List.length_append, r.len]; rfl, fun k b c' h1 h2 => ?_⟩
  by_cases hk : k < ι.length
  · rw [List.getElem?_append_left hk] at h1
    rw [List.getElem?_append_left (by rw [← r.len]; exact hk)] at h2
    exact (r.at' k b c' h1 h2).per (keep b (List.mem_of_getElem? h1)) e.per
  · have hk' : k = ι.length := by
      have := (List.getElem?_eq_some_iff.mp h1).1
      rw [List.length_append, List.length_singleton] at this
      omega
    subst hk'
    rw [List.getElem?_append_right (Nat.le_refl _), Nat.sub_self] at h1
    rw [r.len, List.getElem?_append_right (Nat.le_refl _), Nat.sub_self] at h2
    cases h1; cases h2
    exact hc
theorem chainC {F : Fr} {ω : List Addr} {Dn : Addr} {ι0 : List Addr} {H0 : Hp} {ρ0 : Ev} {σ : L2.St} {i : Nat} {Q : VK} (hi : i < σ.length) (hD : H0 Dn = none) {accF : List D} {SF : Sto} (hQ : ∀ ι2 H2, Ci G F ω Dn ι0 H0 ρ0 (L2.wipe σ [i]) ι2 accF SF H2 → Q (.ref Dn) H2) :
    ∀ (ys : List Yi) (acc : List D) (S : Sto) (ι' : List Addr) (H : Hp), adoY ys acc S = (accF, SF) → acc.length + ys.length ≤ lim → Ci G F ω Dn ι0 H0 ρ0 (L2.wipe σ [i]) ι' acc S H → Chain G.K G.ca (ylC (gName i) (uVar i) σ [i] Dn) (fun H' _ => Q (.ref Dn) H') ys (ι' ++ (F.B0 ++ (Dn :: ω))) H ()
  | [], acc, S, ι', H, e, _, c => fun H' gr => by
    cases e
    exact hQ ι' H' (c.same (Ext.gr gr) c.rel.nd (c.rel.sto.gr gr))
  | y :: ys, acc, S, ι', H, e, hl, c => by
    rw [List.length_cons] at hl
    intro x H' κ gr iv hκ
    have hm : Dn ∈ Dn :: ω := List.mem_cons_self
    obtain ⟨xs, g1, g2⟩ := c.at'
    have hDi : Dn ∉ ι' := c.rel.dj Dn hm
    have k1 : H' Dn = some (.lst xs) := gr _ _ g1
    have c1 := c.same (Ext.gr gr) c.rel.nd (c.rel.sto.gr gr)
    have hB : ∀ b ∈ ι' ++ (F.B0 ++ (Dn :: ω)), H' b ≠ none := fun b hb => (List.mem_append.mp hb).elim (c1.rel.sto.here b) (c1.rel.bd b)
    have w1 : L2.wipe ((L2.wipe σ [i]).set i (some x)) [i] = L2.wipe σ [i] := by
      show ((σ.set i none).set i (some x)).set i none = σ.set i none
      rw [List.set_set, List.set_set]
    have at1 : ((L2.wipe σ [i]).set i (some x))[i]? = some (some x) := by
      rw [List.getElem?_set_self (by rw [wipe_length]; exact hi)]
    -- what is left to be shown of an item
    have fin : ∀ (ι2 : List Addr) (d : D) (S2 : Sto), Ci G F ω Dn ι0 H0 ρ0 (L2.wipe σ [i]) ι2 (acc ++ [d]) S2 (L2.upd H' Dn (.lst (xs ++ [x]))) → adoY ys (acc ++ [d]) S2 = (accF, SF) → (∀ b ∈ ι2 ++ (F.B0 ++ (Dn :: ω)), b ∈ ad x y.2 ++ (ι' ++ (F.B0 ++ (Dn :: ω)))) → (∀ b ∈ ι2, H' b ≠ none) → ylC (gName i) (uVar i) σ [i] Dn ys.length x H' () κ := fun ι2 d S2 c2 e2 hs hn => by
      show L2.wipe ((L2.wipe σ [i]).set i (some x)) [i] = L2.wipe σ [i] ∧ uVar i ((L2.wipe σ [i]).set i (some x)) H' _
      refine ⟨w1, ?_⟩
      unfold uVar
      rw [at1]
      refine ⟨xs, k1, by rw [g2.len]; exact lim_lt (by omega), hκ _ () (ι2 ++ (F.B0 ++ (Dn :: ω))) ⟨fun b o q1 q2 => ?_, fun b hb => ?_⟩ (chainC hi hD hQ ys (acc ++ [d]) S2 ι2 _ e2 (by rw [List.length_append, List.length_singleton]; omega) c2)⟩
      · have nb : b ∉ ι' ++ (F.B0 ++ (Dn :: ω)) := fun z => q2 (List.mem_append_right _ z)
        have nD : b ≠ Dn := fun z => nb (by rw [z]; exact List.mem_append_right _ (List.mem_append_right _ hm))
        exact ⟨by rw [upd_ne nD]; exact q1, fun z => q2 (hs b z)⟩
      · unfold L2.upd
        split
        · simp
        · rcases List.mem_append.mp hb with z | z
          · exact hn b z
          · exact hB b (List.mem_append_right _ z)
    obtain ⟨d, b⟩ := y
    have plain : RV G.K G.ca [] (ι' ++ (F.B0 ++ (Dn :: ω))) H' x d → adoY ys (acc ++ [d]) S = (accF, SF) → ylC (gName i) (uVar i) σ [i] Dn ys.length x H' () κ := fun rv e2 =>
      fin ι' d S (c1.push hD Ext.refl c1.rel.nd c1.rel.sto (rv.per Per.open) k1 (g2.ex (Ext.gr gr))) e2 (fun b hb => List.mem_append_right _ hb) (c1.rel.sto.here)
    cases b with
    | false =>
      refine plain iv ?_
      cases d <;> exact e
    | true =>
      obtain ⟨a, xs', ds', rfl, rfl, ha, hf, hH', ra⟩ := iv
      have ha1 : a ∉ ι' := fun z => ha (List.mem_append_left _ z)
      have ha2 : a ∉ F.B0 ++ (Dn :: ω) := fun z => ha (List.mem_append_right _ z)
      have hf : H a = none := hf
      have ex : Ext ι' H (ι' ++ [a]) H' := ⟨List.prefix_append _ _, fun b o q _ => gr b o q, fun b hb n => by
        rcases List.mem_append.mp hb with z | z
        · exact absurd z n
        · rw [List.mem_singleton.mp z]; exact hf, fun b q => (Ext.gr (ι := ι') gr).dom b q⟩
      have nd : (ι' ++ [a]).Nodup := by
        rw [List.nodup_append]
        exact ⟨c.rel.nd, by simp, fun p hp q hq z => by rw [List.mem_singleton] at hq; subst hq; subst z; exact ha1 hp⟩
      have kp : ∀ b ∈ ι', H' b = H b := fun b hb => by
        cases q : H b with
        | none => exact absurd q (c.rel.sto.here b hb)
        | some o => exact gr b o q
      have rs : RS G.K G.ca (ι' ++ [a]) (F.B0 ++ (Dn :: ω)) H' (S ++ [.lst ds']) := RS.snoc c.rel.sto ex kp (.lst hH' (ra.per ⟨fun b o q _ q3 => by
        simp only [List.mem_cons, List.mem_append, not_or] at q3
        refine ⟨q, fun z => ?_, fun z => ?_⟩
        · rcases List.mem_append.mp z with z | z
          · exact q3.2.1 z
          · exact q3.1 (List.mem_singleton.mp z)
        · rcases List.mem_append.mp z with z | z
          · exact q3.2.2.1 z
          · rcases List.mem_cons.mp z with z | z
            · exact q3.2.2.2.1 z
            · exact q3.2.2.2.2 z, fun k b z => (nomatch z)⟩))
      have rv : RV G.K G.ca (ι' ++ [a]) (F.B0 ++ (Dn :: ω)) H' (.ref a) (.cel S.length) := .cel (by
        rw [← c.rel.sto.len, List.getElem?_append_right (Nat.le_refl _), Nat.sub_self]; rfl)
      refine fin (ι' ++ [a]) (.cel S.length) (S ++ [.lst ds']) (c.push hD ex nd rs rv k1 (g2.ex ex)) (show adoY ys (acc ++ [.cel S.length]) (S ++ [.lst ds']) = (accF, SF) from e) (fun b hb => ?_) (rs.here)
      show b ∈ [a] ++ _
      rcases List.mem_append.mp hb with z | z
      · rcases List.mem_append.mp z with z | z
        · exact List.mem_append_right _ (List.mem_append_left _ z)
        · exact List.mem_append_left _ z
      · exact List.mem_append_right _ (List.mem_append_right _ z)
theorem se_lcQ {i np : Nat} {f : FGf} (hf : ∀ ds, f ds ≠ .bad → ds.length = np) {ta : TA} {fa : FA} (ha : SA G E ta fa) : SE G E (tLcQ (tCallQ np (SpGQF G.K G.ca f) ta) (gName i) (uVar i) [i]) (fLcQ i f fa) := by
  intro F ι ω ρ S σ H Q rel h
  refine ha F ι ω ρ S σ H _ rel ?_
  unfold fLcQ at h
  cases e : fa ρ S with
  | xc c fs S1 => rw [e] at h; exact h
  | bad => rw [e] at h; exact h
  | ok ds t S1 =>
    rw [e] at h
    cases t with
    | false => exact False.elim h
    | true =>
      dsimp only at h
      split at h
      · rename_i hc
        rw [Bool.and_eq_true, decide_eq_true_eq] at hc
        intro ι1 vs H1 e1 r1 ra
        cases eg : f ds with
        | ok ys =>
          rw [eg] at h
          unfold kLcQ at h
          dsimp only at h
          by_cases hl : ys.length ≤ lim
          · rw [if_pos hl] at h
            refine ⟨by rw [RAll.len ra]; exact hf ds (by rw [eg]; intro z; cases z), fun Dn hD => ?_⟩
            have st := Ci.start (vs := [i]) r1 hD
            have hi : i < σ.length := by rw [← rel.len]; exact hc.2
            have gr : ∀ a o, H1 a = some o → L2.upd H1 Dn (.lst []) a = some o := fun a o q => by rw [upd_ne (fun z => by subst z; rw [hD] at q; cases q)]; exact q
            refine ⟨ι1 ++ (F.B0 ++ (Dn :: ω)), ds, fun b hb => (List.mem_append.mp hb).elim (st.rel.sto.here b) (st.rel.bd b), ?_, ?_⟩
            · exact RAll.close ds hc.1 (ra.per (st.lat hD))
            · rw [eg]
              exact chainC hi hD (fun ι2 H2 c => Ci.fin rel e1 hD c h) ys [] S1 ι1 _ rfl (by rw [List.length_nil, Nat.zero_add]; exact hl) st
          · rw [if_neg hl] at h; exact False.elim h
        | xc c fs => rw [eg] at h; exact False.elim h
        | bad => rw [eg] at h; exact False.elim h
      · exact False.elim h
end
theorem v_lcQ {i : Nat} {f : FGf} {fa : FA} {ρ : Ev} {S S1 : Sto} {ds : List D} {ys : List Yi} (h : fa ρ S = .ok ds true S1) (hc : noCels ds = true) (hi : i < ρ.length) (e : f ds = .ok ys) (hl : ys.length ≤ lim) : fLcQ i f fa ρ S = .ok (.lst (adoY ys [] S1).1) .fs (adoY ys [] S1).2 := by
  unfold fLcQ
  rw [h]
  dsimp only
  rw [hc, decide_eq_true hi, Bool.and_self, if_pos rfl, e]
  unfold kLcQ
  exact if_pos hl
end
end Fx
namespace HotX
open PySem PySem.Spec PyProof.Rows
end HotX
namespace L2M
open PySem PySem.Spec PyProof.Rows L2
/-- the context that an exception bears: None, or an old exception whose context is None -/
def CtxB (B : Heap) (H : Hp) (a : Addr) (v : Option Value) : Prop := v = some .none ∨ ∃ (x : Addr) (o : Obj) (vs : Array Value), v = some (.ref x) ∧ x ≠ a ∧ B.get? x = some o ∧ H x = none ∧ o.data = .fields vs ∧ vs[2]? = some .none
def Zm (B : Heap) (H : Hp) (a : Addr) (cls : Value) (d : Option Addr) : Obj → Prop := fun o => o.cls = cls ∧ o.dict = d ∧ ∀ vs : Array Value, o.data = .fields vs → CtxB B H a vs[2]?
theorem steady_two {Pr : Option Value → Prop} : PXN.Steady1 (fun o => ∀ vs : Array Value, o.data = .fields vs → Pr vs[2]?) := fun o v h => by
  obtain ⟨c, d, dt, sl⟩ := o
  cases dt with
  | fields us =>
    intro vs e
    have e2 : us.setIfInBounds 1 v = vs := Data.fields.inj e
    have e3 : (us.setIfInBounds 1 v)[2]? = us[2]? := by simp [Array.getElem?_setIfInBounds]
    rw [← e2, e3]
    exact h us rfl
  | _ =>
    intro vs e
    cases e
theorem Zm.steady {B : Heap} {H : Hp} {a : Addr} {cls : Value} {d : Option Addr} : PXN.Steady1 (Zm B H a cls d) := fun o v h => ⟨PXN.steady_cls o v h.1, PXN.steady_dict o v h.2.1, steady_two o v h.2.2⟩
/-- behind a call that let an exception out: its context is told -/
def CX (P : Program) (w : World) (outer : List Env) (H : Hp) (s : Shared) (E : XK) (u : Value) (t : Shared) : Prop :=
  ∃ (a : Addr) (B : Heap) (H' : Hp) (cls : Value) (d : Option Addr), u = .ref a ∧ HandSPX.FlyingZ B outer a (Zm B H' a cls d) t.heap ∧ HOk P w H' B ∧ UB (frs outer) H H' s.heap B t.heap ∧ H' a = none ∧ t.os = s.os ∧ AllBare t.gens ∧ E cls d H'
/-- in the air of X -/
def XE (X : Cx) (W : WX) (u : Value) (t : Shared) : Prop :=
  ∃ (a : Addr) (B : Heap) (sI : Shared) (pins : List (Addr × Obj)) (σ : L2.St) (H : Hp) (cls : Value) (d : Option Addr), u = .ref a ∧ Inv X pins σ H sI ∧ (∀ b o, sI.heap.get? b = some o → b ∉ frs X.stack → B.get? b = some o) ∧
    sI.heap.UpToSlots t.heap ∧ Sky B X.stack a (Zm B H a cls d) X.env.locals t.heap ∧ H a = none ∧ t.os = sI.os ∧ AllBare t.gens ∧ W cls d σ H
section
variable {X : Cx} {pins : List (Addr × Obj)} {σ : L2.St} {H : Hp} {sI s t : Shared} {B : Heap} {W : WX} {E : XK}
/-- a new one is in our air -/
theorem XE.new {a : Addr} {oe : Obj} {vs : Array Value} {cls : Value} {d : Option Addr} (I : Inv X pins σ H sI) (k : ∀ b o, sI.heap.get? b = some o → t.heap.get? b = some o) (hne : sI.heap.get? a = none) (he : t.heap.get? a = some oe)
    (hz : Zm (PySem.W.hideAll sI.heap (frs X.stack)) H a cls d oe) (hd : oe.data = .fields vs) (h1 : vs[1]? = some .none) (na : H a = none) (os : t.os = sI.os) (ag : AllBare t.gens) (w : W cls d σ H) : XE X W (.ref a) t := by
  refine ⟨a, PySem.W.hideAll sI.heap (frs X.stack), sI, pins, σ, H, cls, d, rfl, I, fun b o e hb => PySem.W.hideAll_get _ e hb, Heap.UpToSlots.of_keeps k,
    .inl ⟨fun b o e => k b o (PySem.W.of_hideAll _ e), ?_, ?_, oe, vs, he, hz, hd, h1⟩, na, os, ag, w⟩
  · cases q : (PySem.W.hideAll sI.heap (frs X.stack)).get? a with
    | none => rfl
    | some o =>
      have z := PySem.W.of_hideAll _ q
      rw [hne] at z
      cases z
  · exact Heap.FunFrames.of_keeps (fun b o e _ => ⟨o, k b o e, rfl⟩) (funFrames_none I.stack fun b hb => PySem.W.hideAll_none _ hb)
end
end L2M
namespace U
open PySem PySem.Spec PyProof.Rows L2
end U
namespace Lw
open PySem PySem.Spec PyProof.Rows L2 U Fx
noncomputable section
def em_ : Nat → Nat → Option Bool
  | 3, 3 => some true
  | 3, 2 => some false
  | 1, 3 => some false
  | 1, 2 => some false
  | 2, 3 => some false
  | 2, 2 => some true
  | _, _ => none
def xf_ : Nat → Str → Bool
  | 1, f => decide (f = "value")
  | 2, f => decide (f = "value")
  | 3, f => decide (f = "value")
  | _, _ => false
def b_is_integer : FS := sRet (fAnd (fIsi .int (fVar 0)) (fAnd (fNot (fIsi .bl (fVar 0))) (fChain dLe dLe (fVar 1) (fVar 0) (fVar 2))))
def F_is_integer : FF := noxF (runF 3 3 b_is_integer)
def b_is_word : FS := sSeq (sIf (fOr (fNot (fIsi .str (fVar 0))) (fNot (fChain dLe dLe (fC (.int 1)) (fCB dLen (fCons (fVar 0) (fNil))) (fC (.int 30))))) (sRet (fC (.bl false))) (sNext)) (sRet (fCB dAll (fCons (fLc (fIter (fVar 0)) (gN 1) (fC (.bl true)) (fOp (dIn false) (fVar 1) (fC (.str "abcdefghijklmnopqrstuvwxyz"))) [1]) (fNil))))
def F_is_word : FF := noxF (runF 2 1 b_is_word)
def b_is_mark : FS := sSeq (sIf (fNot (fIsi .str (fVar 0))) (sRet (fC (.bl false))) (sNext)) (sRet (fOr (fOp (dEqv false) (fVar 0) (fC (.str " "))) (fAnd (fOp (dEqv false) (fCB dLen (fCons (fVar 0) (fNil))) (fC (.int 2))) (fAnd (fOp (dIn false) (fOp dIx (fVar 0) (fC (.int 0))) (fC (.str "#|/"))) (fOp (dIn false) (fOp dIx (fVar 0) (fC (.int 1))) (fC (.str "0123")))))))
def F_is_mark : FF := noxF (runF 1 1 b_is_mark)
def b__law_cell : FS := sSeq (sIf (fOp dLt (fVar 1) (fCB dLen (fCons (fVar 0) (fNil)))) (sRet (fOp dIx (fVar 0) (fVar 1))) (sNext)) (sRet (fOp dAdd (fOp dMul (fC (.int 7919)) (fVar 1)) (fC (.int 31))))
def F__law_cell : FF := noxF (runF 2 2 b__law_cell)
def b__law_purse : FS := sRet (fLst (fCons (fCB dMax (fCons (fC (.int 0)) (fCons (fOp dSub (fVar 0) (fOp dPow (fC (.int 10)) (fC (.int 18)))) (fNil)))) (fCons (fOp dMod (fVar 0) (fC (.int 2147483629))) (fCons (fC (.int 0)) (fNil)))))
def F__law_purse : FF := noxF (runF 1 1 b__law_purse)
def b__law_take : FS := sSeq (sIf (fOp dGt (fOp dIx (fVar 0) (fC (.int 0))) (fC (.int 0))) (sSeq (sAsg (fOp dMod (fOp dIx (fVar 0) (fC (.int 0))) (fVar 1)) (gN 2)) (sSeq (sSetI 0 (fC (.int 0)) (fOp dFdiv (fOp dIx (fVar 0) (fC (.int 0))) (fVar 1))) (sRetV 2))) (sNext)) (sSeq (sSetI 0 (fC (.int 2)) (fOp dAdd (fOp dIx (fVar 0) (fC (.int 2))) (fC (.int 1)))) (sSeq (sAsg (fOp dMod (fOp dPow (fOp dAdd (fOp dAdd (fOp dIx (fVar 0) (fC (.int 1))) (fOp dMul (fC (.int 7919)) (fOp dIx (fVar 0) (fC (.int 2))))) (fC (.int 112))) (fC (.int 5))) (fC (.int 2147483647))) (gN 3)) (sSeq (sAsg (fOp dMod (fOp dPow (fOp dAdd (fVar 3) (fOp dMul (fC (.int 104729)) (fOp dIx (fVar 0) (fC (.int 2))))) (fC (.int 3))) (fC (.int 2147483587))) (gN 3)) (sRet (fOp dMod (fOp dFdiv (fVar 3) (fC (.int 16))) (fVar 1))))))
def F__law_take : FF := noxF (runF 4 2 b__law_take)
def b__law_walked_2 : FS := sFrz 2 (sFrz 3 (sFrz 1 (sFrz 4 (sRet (fLst (fCons (fVar 1) (fCons (fVar 2) (fCons (fVar 3) (fCons (fVar 4) (fNil))))))))))
def b__law_walked_1 : FS := sSeq (sFor (fIter (fVar 0)) (gT 2 (gsCons (gN 5) (gsCons (gN 6) (gsNil)))) (sSeq (sIf (fOp (dEqv false) (fVar 5) (fC (.str " "))) (sSeq (sSetI 2 (fUn dNeg (fC (.int 1))) (fOp dAdd (fOp dAdd (fOp dIx (fVar 2) (fUn dNeg (fC (.int 1)))) (fC (.int 1))) (fCB dLen (fCons (fVar 6) (fNil))))) (sSetI 1 (fUn dNeg (fC (.int 1))) (fOp dAdd (fOp dIx (fVar 1) (fUn dNeg (fC (.int 1)))) (fLst (fCons (fTup (fCons (fVar 5) (fCons (fVar 6) (fNil)))) (fNil)))))) (sSeq (chk 2 (sApp 2 (fOp dAdd (fM1 dFind (fC (.str "0123")) (fOp dIx (fVar 5) (fC (.int 1)))) (fCB dLen (fCons (fVar 6) (fNil)))))) (chk 1 (sApp 1 (fLst (fCons (fTup (fCons (fVar 5) (fCons (fVar 6) (fNil)))) (fNil))))))) (sSeq (chk 3 (sApp 3 (fOp dIx (fVar 2) (fUn dNeg (fC (.int 1)))))) (chk 4 (sApp 4 (fTup (fCons (fOp dSub (fCB dLen (fCons (fVar 1) (fNil))) (fC (.int 1))) (fCons (fOp dSub (fCB dLen (fCons (fOp dIx (fVar 1) (fUn dNeg (fC (.int 1)))) (fNil))) (fC (.int 1))) (fNil))))))))) b__law_walked_2
def b__law_walked : FS := sSeq (sAsg (fTup (fCons (fAdo (fLst (fNil))) (fCons (fAdo (fLst (fNil))) (fCons (fAdo (fLst (fNil))) (fCons (fAdo (fLst (fNil))) (fNil)))))) (gT 4 (gsCons (gN 1) (gsCons (gN 2) (gsCons (gN 3) (gsCons (gN 4) (gsNil))))))) b__law_walked_1
def F__law_walked : FF := noxF (runF 7 1 b__law_walked)
def b_is_token : FS := sRet (fAnd (fIsi .tup (fVar 0)) (fAnd (fOp (dEqv false) (fCB dLen (fCons (fVar 0) (fNil))) (fC (.int 2))) (fAnd (fCall F_is_mark [] (fCons (fOp dIx (fVar 0) (fC (.int 0))) (fNil))) (fCall F_is_word [] (fCons (fOp dIx (fVar 0) (fC (.int 1))) (fNil))))))
def F_is_token : FF := noxF (runF 1 1 b_is_token)
def b__law_mark : FS := sSeq (sIf (fOp (dEqv false) (fCall F__law_take [] (fCons (fVar 0) (fCons (fC (.int 3)) (fNil)))) (fC (.int 0))) (sRet (fC (.str " "))) (sNext)) (sRet (fOp dAdd (fOp dIx (fC (.str "#|/")) (fCall F__law_take [] (fCons (fVar 0) (fCons (fC (.int 3)) (fNil))))) (fOp dIx (fC (.str "0123")) (fCall F__law_take [] (fCons (fVar 0) (fCons (fC (.int 4)) (fNil)))))))
def F__law_mark : FF := noxF (runF 1 1 b__law_mark)
def b__law_word : FS := sSeq (sAsg (fC (.str "abcdefghijklmnopqrstuvwxyz")) (gN 2)) (sRet (fM1 dJoin (fC (.str "")) (fLc (fRng1 (fCons (fOp dAdd (fC (.int 1)) (fCall F__law_take [] (fCons (fVar 0) (fCons (fVar 1) (fNil))))) (fNil))) (gN 3) (fC (.bl true)) (fOp dIx (fVar 2) (fCall F__law_take [] (fCons (fVar 0) (fCons (fC (.int 26)) (fNil))))) [3])))
def F__law_word : FF := noxF (runF 4 2 b__law_word)
def b_need_mark : FS := sIf (fNot (fCall F_is_mark [] (fCons (fVar 0) (fNil)))) (sRaise 1 "value" (fCons (fVar 0) (fNil))) (sNext)
def F_need_mark : FF := runF 1 1 b_need_mark
def b_is_text : FS := sSeq (sIf (fOr (fNot (fIsiT [.lst, .tup] (fVar 0))) (fNot (fCB dAll (fCons (fLc (fIter (fVar 0)) (gN 1) (fC (.bl true)) (fCall F_is_token [] (fCons (fVar 1) (fNil))) [1]) (fNil))))) (sRet (fC (.bl false))) (sNext)) (sRet (fOr (fOp (dEqv false) (fCB dLen (fCons (fVar 0) (fNil))) (fC (.int 0))) (fOp (dEqv false) (fOp dIx (fOp dIx (fOp dIx (fVar 0) (fC (.int 0))) (fC (.int 0))) (fC (.int 0))) (fC (.str "#")))))
def F_is_text : FF := noxF (runF 2 1 b_is_text)
def b__law_text : FS := sSeq (sOwn 3 (fLst (fNil))) (sSeq (sFor (fRng1 (fCons (fVar 1) (fNil))) (gN 4) (sSeq (sAsg (fIf (fOp dGt (fVar 4) (fC (.int 0))) (fCall F__law_mark [] (fCons (fVar 0) (fNil))) (fOp dAdd (fC (.str "#")) (fOp dIx (fC (.str "0123")) (fCall F__law_take [] (fCons (fVar 0) (fCons (fC (.int 4)) (fNil))))))) (gN 5)) (chk 3 (sApp 3 (fTup (fCons (fVar 5) (fCons (fCall F__law_word [] (fCons (fVar 0) (fCons (fVar 2) (fNil)))) (fNil)))))))) (sRetV 3))
def F__law_text : FF := noxF (runF 6 3 b__law_text)
def b_indent_of : FS := sSeq (sExpr (fCall F_need_mark [] (fCons (fVar 0) (fNil)))) (sRet (fIf (fOp (dEqv false) (fVar 0) (fC (.str " "))) (fC (.int 0)) (fCB dInt (fCons (fOp dIx (fVar 0) (fC (.int 1))) (fNil)))))
def F_indent_of : FF := runF 1 1 b_indent_of
def b_need_text : FS := sIf (fNot (fCall F_is_text [] (fCons (fVar 0) (fNil)))) (sRaise 2 "value" (fCons (fVar 0) (fNil))) (sNext)
def F_need_text : FF := runF 1 1 b_need_text
def b_lines : FS := sSeq (sExpr (fCall F_need_text [] (fCons (fVar 0) (fNil)))) (sSeq (sOwn 1 (fLst (fNil))) (sStop))
def bq_lines : GnF := gSeq (gPl (sExpr (fCall F_need_text [] (fCons (fVar 0) (fNil))))) (gSeq (gPl (sOwn 1 (fLst (fNil)))) (gSeq (gFor (fIter (fVar 0)) (gN 2) (gSeq (gIf (fAnd (fOp (dEqv true) (fOp dIx (fVar 2) (fC (.int 0))) (fC (.str " "))) (fOp dGt (fCB dLen (fCons (fVar 1) (fNil))) (fC (.int 0)))) (gSeq (gYdV 1) (gSeq (gPl (sOwn 1 (fLst (fNil)))) (gNil))) (gNil)) (gSeq (gPl (chk 1 (sApp 1 (fVar 2)))) (gNil)))) (gSeq (gIf (fOp dGt (fCB dLen (fCons (fVar 1) (fNil))) (fC (.int 0))) (gSeq (gYdV 1) (gNil)) (gNil)) (gNil))))
def Fq_lines : FGf := runQ 3 1 bq_lines
def F_lines : FF := runF 3 1 b_lines
def b_columns : FS := sSeq (sExpr (fCall F_need_text [] (fCons (fVar 0) (fNil)))) (sSeq (sOwn 1 (fLst (fNil))) (sSeq (sFor (fIter (fVar 0)) (gT 2 (gsCons (gN 2) (gsCons (gN 3) (gsNil)))) (sSeq (sAsg (fIf (fOp (dEqv false) (fVar 2) (fC (.str " "))) (fOp dAdd (fOp dIx (fVar 1) (fUn dNeg (fC (.int 1)))) (fC (.int 1))) (fCall F_indent_of [] (fCons (fVar 2) (fNil)))) (gN 4)) (chk 1 (sApp 1 (fOp dAdd (fVar 4) (fCB dLen (fCons (fVar 3) (fNil)))))))) (sRetV 1)))
def F_columns : FF := runF 5 1 b_columns
def b_place_of : FS := sSeq (sExpr (fCall F_need_text [] (fCons (fVar 0) (fNil)))) (sSeq (sIf (fNot (fCall F_is_integer [] (fCons (fVar 1) (fCons (fC (.int 0)) (fCons (fOp dSub (fCB dLen (fCons (fVar 0) (fNil))) (fC (.int 1))) (fNil)))))) (sRaise 3 "value" (fCons (fVar 1) (fNil))) (sNext)) (sSeq (sAsg (fLc (fEnum (fCons (fVar 0) (fNil))) (gT 2 (gsCons (gN 3) (gsCons (gN 4) (gsNil)))) (fAnd (fOp (dEqv true) (fOp dIx (fVar 4) (fC (.int 0))) (fC (.str " "))) (fOp dLe (fVar 3) (fVar 1))) (fVar 3) [3, 4]) (gN 2)) (sRet (fTup (fCons (fOp dSub (fCB dLen (fCons (fVar 2) (fNil))) (fC (.int 1))) (fCons (fOp dSub (fVar 1) (fOp dIx (fVar 2) (fUn dNeg (fC (.int 1))))) (fNil)))))))
def F_place_of : FF := runF 5 2 b_place_of
def b_widths : FS := sSeq (sAsg (fCall F_columns [] (fCons (fVar 0) (fNil))) (gN 1)) (sSeq (sAsg (fLc (fEnum (fCons (fVar 0) (fNil))) (gT 2 (gsCons (gN 3) (gsCons (gN 4) (gsNil)))) (fOr (fOp (dEqv false) (fOp dAdd (fVar 3) (fC (.int 1))) (fCB dLen (fCons (fVar 0) (fNil)))) (fOp (dEqv true) (fOp dIx (fOp dIx (fVar 0) (fOp dAdd (fVar 3) (fC (.int 1)))) (fC (.int 0))) (fC (.str " ")))) (fVar 3) [3, 4]) (gN 2)) (sRet (fLc (fIter (fVar 2)) (gN 3) (fC (.bl true)) (fOp dIx (fVar 1) (fVar 3)) [3])))
def F_widths : FF := runF 5 1 b_widths
def b__law_refused : FS := sSeq (sAsg (fLst (fNil)) (gN 3)) (sSeq (sTry em_ (sIf (fOp (dEqv false) (fVar 0) (fC (.int 0))) (sForGr [2] (fCall F_lines [] (fCons (fVar 1) (fNil)))) (sIf (fOp (dEqv false) (fVar 0) (fC (.int 1))) (sExpr (fCall F_widths [] (fCons (fVar 1) (fNil)))) (sIf (fOp (dEqv false) (fVar 0) (fC (.int 2))) (sExpr (fCall F_columns [] (fCons (fVar 1) (fNil)))) (sExpr (fCall F_place_of [] (fCons (fVar 1) (fCons (fVar 2) (fNil)))))))) [(2, some 5, sAsg (fOp dAdd (fVar 3) (fLst (fCons (fC (.str "text")) (fCons (fXf xf_ 5 "value") (fNil))))) (gN 3)), (3, some 5, sAsg (fLst (fCons (fC (.str "integer")) (fCons (fXf xf_ 5 "value") (fNil)))) (gN 3))]) (sRetV 3))
def F__law_refused : FF := noxF (runF 6 3 b__law_refused)
def b__law_right_14 : FS := sRet (fCB dAll (fCons (fLc (fRng1 (fCons (fC (.int 4)) (fNil))) (gN 12) (fC (.bl true)) (fOp (dEqv false) (fCB dRepr (fCons (fCall F__law_refused [] (fCons (fVar 12) (fCons (fVar 11) (fCons (fVar 9) (fNil))))) (fNil))) (fCB dRepr (fCons (fLst (fCons (fC (.str "text")) (fCons (fVar 11) (fNil)))) (fNil)))) [12]) (fNil)))
def b__law_right_13 : FS := sSeq (sAsg (fOp dIx (fVar 11) (fCall F__law_take [] (fCons (fVar 0) (fCons (fC (.int 10)) (fNil))))) (gN 11)) b__law_right_14
def b__law_right_12 : FS := sSeq (sAsg (fOp dAdd (fVar 11) (fLst (fCons (fOp dAdd (fOp dAdd (fSl (fVar 2) (fNoPart) (fPart (fVar 10))) (fLst (fCons (fTup (fCons (fC (.str " ")) (fCons (fC (.str "")) (fNil)))) (fNil)))) (fSl (fVar 2) (fPart (fVar 10)) (fNoPart))) (fCons (fOp dAdd (fOp dAdd (fSl (fVar 2) (fNoPart) (fPart (fVar 10))) (fLst (fCons (fTup (fCons (fC (.str "/4")) (fCons (fC (.str "a")) (fNil)))) (fNil)))) (fSl (fVar 2) (fPart (fVar 10)) (fNoPart))) (fNil))))) (gN 11)) b__law_right_13
def b__law_right_11 : FS := sSeq (sAsg (fLst (fCons (fOp dAdd (fVar 2) (fLst (fCons (fTup (fCons (fC (.str "#4")) (fCons (fC (.str "a")) (fNil)))) (fNil)))) (fCons (fOp dAdd (fLst (fCons (fTup (fCons (fC (.str "|0")) (fCons (fC (.str "a")) (fNil)))) (fNil))) (fVar 2)) (fCons (fOp dAdd (fVar 2) (fLst (fCons (fTup (fCons (fC (.str " ")) (fCons (fC (.str "A")) (fNil)))) (fNil)))) (fCons (fC (.str "a")) (fCons (fC .non) (fCons (fDNew) (fCons (fLst (fCons (fVar 2) (fNil))) (fCons (fLst (fCons (fLst (fCons (fC (.str "#0")) (fCons (fC (.str "a")) (fNil)))) (fNil))) (fNil)))))))))) (gN 11)) b__law_right_12
def b__law_right_10 : FS := sSeq (sAsg (fCall F__law_take [] (fCons (fVar 0) (fCons (fOp dAdd (fVar 1) (fC (.int 1))) (fNil)))) (gN 10)) b__law_right_11
def b__law_right_9 : FS := sSeq (sIf (fOp (dEqv true) (fCB dRepr (fCons (fCall F__law_refused [] (fCons (fC (.int 3)) (fCons (fVar 4) (fCons (fVar 9) (fNil))))) (fNil))) (fCB dRepr (fCons (fLst (fCons (fC (.str "integer")) (fCons (fVar 9) (fNil)))) (fNil)))) (sRet (fC (.bl false))) (sNext)) b__law_right_10
def b__law_right_8 : FS := sSeq (sAsg (fOp dIx (fLst (fCons (fC .non) (fCons (fC (.bl true)) (fCons (fC (.str "0")) (fCons (fUn dNeg (fC (.int 1))) (fCons (fVar 1) (fCons (fOp dAdd (fVar 1) (fOp dPow (fC (.int 10)) (fC (.int 20)))) (fCons (fUn dNeg (fOp dPow (fC (.int 10)) (fC (.int 20)))) (fCons (fTup (fCons (fC (.int 0)) (fNil))) (fCons (fLst (fNil)) (fCons (fC (.bl false)) (fNil)))))))))))) (fCall F__law_take [] (fCons (fVar 0) (fCons (fC (.int 10)) (fNil))))) (gN 9)) b__law_right_9
def b__law_right_7 : FS := sSeq (sFor (fRng1 (fCons (fC (.int 3)) (fNil))) (gN 5) (sIf (fOp dGt (fVar 1) (fC (.int 0))) (sSeq (sAsg (fCall F__law_take [] (fCons (fVar 0) (fCons (fVar 1) (fNil)))) (gN 8)) (sSeq (sAsg (fCall F_place_of [] (fCons (fVar 4) (fCons (fVar 8) (fNil)))) (gN 6)) (sIf (fOr (fOp (dEqv true) (fVar 6) (fOp dIx (fOp dIx (fVar 3) (fC (.int 3))) (fVar 8))) (fNot (fIsi .tup (fVar 6)))) (sRet (fC (.bl false))) (sNext)))) (sNext))) b__law_right_8
def b__law_right_6 : FS := sSeq (sFor (fRng1 (fCons (fC (.int 2)) (fNil))) (gN 5) (sSeq (sAsg (fLst (fCons (fAdo (fLcQ 15 Fq_lines (fCons (fVar 4) (fNil)))) (fCons (fAdo (fCall F_widths [] (fCons (fVar 4) (fNil)))) (fCons (fAdo (fCall F_columns [] (fCons (fVar 4) (fNil)))) (fNil))))) (gN 6)) (sSeq (sIf (fOr (fOp (dEqv true) (fVar 6) (fSl (fVar 3) (fNoPart) (fPart (fC (.int 3))))) (fNot (fCB dAll (fCons (fLc (fIter (fOp dIx (fVar 6) (fC (.int 0)))) (gN 15) (fC (.bl true)) (fIsi .lst (fVar 15)) [15]) (fNil))))) (sRet (fC (.bl false))) (sNext)) (sFor (fIter (fOp dAdd (fOp dIx (fVar 6) (fC (.int 0))) (fVar 6))) (gN 7) (chk 7 (sApp 7 (fC (.int 0)))))))) b__law_right_7
def b__law_right_5 : FS := sSeq (sAsg (fOp dIx (fLst (fCons (fVar 2) (fCons (fCB dTuple (fCons (fVar 2) (fNil))) (fNil)))) (fCall F__law_take [] (fCons (fVar 0) (fCons (fC (.int 2)) (fNil))))) (gN 4)) b__law_right_6
def b__law_right_4 : FS := sSeq (sAsg (fCall F__law_walked [] (fCons (fVar 2) (fNil))) (gN 3)) b__law_right_5
def b__law_right_3 : FS := sSeq (sIf (fOp (dEqv false) (fCall F__law_take [] (fCons (fVar 0) (fCons (fC (.int 4)) (fNil)))) (fC (.int 0))) (sAsg (fOp dAdd (fSl (fVar 2) (fNoPart) (fPart (fC (.int 1)))) (fLc (fIter (fSl (fVar 2) (fPart (fC (.int 1))) (fNoPart))) (gT 2 (gsCons (gN 14) (gsCons (gN 13) (gsNil)))) (fC (.bl true)) (fTup (fCons (fC (.str " ")) (fCons (fVar 13) (fNil)))) [14, 13])) (gN 2)) (sNext)) b__law_right_4
def b__law_right_2 : FS := sSeq (sAsg (fCall F__law_text [] (fCons (fVar 0) (fCons (fVar 1) (fCons (fOp dIx (fLst (fCons (fC (.int 4)) (fCons (fC (.int 30)) (fNil)))) (fCall F__law_take [] (fCons (fVar 0) (fCons (fC (.int 2)) (fNil))))) (fNil))))) (gN 2)) b__law_right_3
def b__law_right_1 : FS := sSeq (sIf (fOp (dEqv false) (fCall F__law_take [] (fCons (fVar 0) (fCons (fC (.int 8)) (fNil)))) (fC (.int 0))) (sAsg (fOp dAdd (fC (.int 40)) (fCall F__law_take [] (fCons (fVar 0) (fCons (fC (.int 250)) (fNil))))) (gN 1)) (sNext)) b__law_right_2
def b__law_right : FS := sSeq (sAsg (fCall F__law_take [] (fCons (fVar 0) (fCons (fC (.int 21)) (fNil)))) (gN 1)) b__law_right_1
def F__law_right : FF := noxF (runF 16 1 b__law_right)
def b_law : FS := sSeq (sFor (fRng1 (fCons (fCB dMax (fCons (fC (.int 2)) (fCons (fCB dMin (fCons (fC (.int 20)) (fCons (fCB dLen (fCons (fVar 0) (fNil))) (fNil)))) (fNil)))) (fNil))) (gN 1) (sIf (fNot (fCall F__law_right [] (fCons (fAdo (fCall F__law_purse [] (fCons (fCall F__law_cell [] (fCons (fVar 0) (fCons (fVar 1) (fNil)))) (fNil)))) (fNil)))) (sRet (fC (.bl false))) (sNext))) (sRet (fC (.bl true)))
def F_law : FF := noxF (runF 2 1 b_law)
end
def topS (i : Nat) : Stmt := PySem.Challenge.pw_reflows_k12_lines_and_widths.main.body.getD i (.Pass ⟨0, 0, 0, 0⟩)
abbrev s_is_integer : Stmt := topS 9
abbrev N_is_integer : List Str := ["value", "low", "high"]
abbrev P_is_integer : List Str := ["value", "low", "high"]
theorem sc_is_integer : FnScope N_is_integer P_is_integer (defScope s_is_integer) := ⟨rfl, rfl, rfl, by decide +kernel, rfl, by decide +kernel, by decide +kernel⟩
abbrev s_is_word : Stmt := topS 10
abbrev N_is_word : List Str := ["value", "sign"]
abbrev P_is_word : List Str := ["value"]
theorem sc_is_word : FnScope N_is_word P_is_word (defScope s_is_word) := ⟨rfl, rfl, rfl, by decide +kernel, rfl, by decide +kernel, by decide +kernel⟩
abbrev s_is_mark : Stmt := topS 11
abbrev N_is_mark : List Str := ["value"]
abbrev P_is_mark : List Str := ["value"]
theorem sc_is_mark : FnScope N_is_mark P_is_mark (defScope s_is_mark) := ⟨rfl, rfl, rfl, by decide +kernel, rfl, by decide +kernel, by decide +kernel⟩
abbrev s_is_token : Stmt := topS 12
abbrev N_is_token : List Str := ["value"]
abbrev P_is_token : List Str := ["value"]
theorem sc_is_token : FnScope N_is_token P_is_token (defScope s_is_token) := ⟨rfl, rfl, rfl, by decide +kernel, rfl, by decide +kernel, by decide +kernel⟩
abbrev s_need_mark : Stmt := topS 13
abbrev N_need_mark : List Str := ["mark"]
abbrev P_need_mark : List Str := ["mark"]
theorem sc_need_mark : FnScope N_need_mark P_need_mark (defScope s_need_mark) := ⟨rfl, rfl, rfl, by decide +kernel, rfl, by decide +kernel, by decide +kernel⟩
abbrev s_indent_of : Stmt := topS 14
abbrev N_indent_of : List Str := ["mark"]
abbrev P_indent_of : List Str := ["mark"]
theorem sc_indent_of : FnScope N_indent_of P_indent_of (defScope s_indent_of) := ⟨rfl, rfl, rfl, by decide +kernel, rfl, by decide +kernel, by decide +kernel⟩
abbrev s_is_text : Stmt := topS 16
abbrev N_is_text : List Str := ["value", "token"]
abbrev P_is_text : List Str := ["value"]
theorem sc_is_text : FnScope N_is_text P_is_text (defScope s_is_text) := ⟨rfl, rfl, rfl, by decide +kernel, rfl, by decide +kernel, by decide +kernel⟩
abbrev s_need_text : Stmt := topS 17
abbrev N_need_text : List Str := ["text"]
abbrev P_need_text : List Str := ["text"]
theorem sc_need_text : FnScope N_need_text P_need_text (defScope s_need_text) := ⟨rfl, rfl, rfl, by decide +kernel, rfl, by decide +kernel, by decide +kernel⟩
abbrev s_lines : Stmt := topS 18
abbrev N_lines : List Str := ["text", "line", "token"]
abbrev P_lines : List Str := ["text"]
abbrev lvK_lines : Nat := 5
theorem sc_lines : GScope N_lines P_lines (defScope s_lines) := ⟨rfl, rfl, rfl, by decide +kernel, rfl, by decide +kernel, by decide +kernel⟩
abbrev s_columns : Stmt := topS 19
abbrev N_columns : List Str := ["text", "found", "mark", "word", "ahead"]
abbrev P_columns : List Str := ["text"]
theorem sc_columns : FnScope N_columns P_columns (defScope s_columns) := ⟨rfl, rfl, rfl, by decide +kernel, rfl, by decide +kernel, by decide +kernel⟩
abbrev s_widths : Stmt := topS 20
abbrev N_widths : List Str := ["text", "spots", "ends", "index", "token"]
abbrev P_widths : List Str := ["text"]
theorem sc_widths : FnScope N_widths P_widths (defScope s_widths) := ⟨rfl, rfl, rfl, by decide +kernel, rfl, by decide +kernel, by decide +kernel⟩
abbrev s_place_of : Stmt := topS 21
abbrev N_place_of : List Str := ["text", "index", "begins", "spot", "token"]
abbrev P_place_of : List Str := ["text", "index"]
theorem sc_place_of : FnScope N_place_of P_place_of (defScope s_place_of) := ⟨rfl, rfl, rfl, by decide +kernel, rfl, by decide +kernel, by decide +kernel⟩
abbrev s__law_cell : Stmt := topS 23
abbrev N__law_cell : List Str := ["_law_script", "_law_k"]
abbrev P__law_cell : List Str := ["_law_script", "_law_k"]
theorem sc__law_cell : FnScope N__law_cell P__law_cell (defScope s__law_cell) := ⟨rfl, rfl, rfl, by decide +kernel, rfl, by decide +kernel, by decide +kernel⟩
abbrev s__law_purse : Stmt := topS 24
abbrev N__law_purse : List Str := ["_law_cell_here"]
abbrev P__law_purse : List Str := ["_law_cell_here"]
theorem sc__law_purse : FnScope N__law_purse P__law_purse (defScope s__law_purse) := ⟨rfl, rfl, rfl, by decide +kernel, rfl, by decide +kernel, by decide +kernel⟩
abbrev s__law_take : Stmt := topS 25
abbrev N__law_take : List Str := ["_law_purse_here", "_law_many", "_law_digit", "_law_number"]
abbrev P__law_take : List Str := ["_law_purse_here", "_law_many"]
theorem sc__law_take : FnScope N__law_take P__law_take (defScope s__law_take) := ⟨rfl, rfl, rfl, by decide +kernel, rfl, by decide +kernel, by decide +kernel⟩
abbrev s__law_mark : Stmt := topS 27
abbrev N__law_mark : List Str := ["_law_purse_here"]
abbrev P__law_mark : List Str := ["_law_purse_here"]
theorem sc__law_mark : FnScope N__law_mark P__law_mark (defScope s__law_mark) := ⟨rfl, rfl, rfl, by decide +kernel, rfl, by decide +kernel, by decide +kernel⟩
abbrev s__law_word : Stmt := topS 28
abbrev N__law_word : List Str := ["_law_purse_here", "_law_most", "_law_letters", "_law_k"]
abbrev P__law_word : List Str := ["_law_purse_here", "_law_most"]
theorem sc__law_word : FnScope N__law_word P__law_word (defScope s__law_word) := ⟨rfl, rfl, rfl, by decide +kernel, rfl, by decide +kernel, by decide +kernel⟩
abbrev s__law_text : Stmt := topS 29
abbrev N__law_text : List Str := ["_law_purse_here", "_law_many", "_law_most", "_law_text_here", "_law_k", "_law_mark_here"]
abbrev P__law_text : List Str := ["_law_purse_here", "_law_many", "_law_most"]
theorem sc__law_text : FnScope N__law_text P__law_text (defScope s__law_text) := ⟨rfl, rfl, rfl, by decide +kernel, rfl, by decide +kernel, by decide +kernel⟩
abbrev s__law_walked : Stmt := topS 30
abbrev N__law_walked : List Str := ["_law_text_here", "_law_rows", "_law_wide", "_law_spots", "_law_places", "_law_mark_here", "_law_word_here"]
abbrev P__law_walked : List Str := ["_law_text_here"]
theorem sc__law_walked : FnScope N__law_walked P__law_walked (defScope s__law_walked) := ⟨rfl, rfl, rfl, by decide +kernel, rfl, by decide +kernel, by decide +kernel⟩
abbrev s__law_refused : Stmt := topS 31
abbrev N__law_refused : List Str := ["_law_way", "_law_text_here", "_law_index", "_law_found", "_law_line", "e"]
abbrev P__law_refused : List Str := ["_law_way", "_law_text_here", "_law_index"]
theorem sc__law_refused : FnScope N__law_refused P__law_refused (defScope s__law_refused) := ⟨rfl, rfl, rfl, by decide +kernel, rfl, by decide +kernel, by decide +kernel⟩
abbrev s__law_right : Stmt := topS 32
abbrev N__law_right : List Str := ["_law_purse_here", "_law_many", "_law_text_here", "_law_due", "_law_value", "_law_turn", "_law_told", "_law_row", "_law_index", "_law_odd", "_law_at", "_law_bad", "_law_way", "_law_word_here", "_law_mark_here", "_law_line"]
abbrev P__law_right : List Str := ["_law_purse_here"]
theorem sc__law_right : FnScope N__law_right P__law_right (defScope s__law_right) := ⟨rfl, rfl, rfl, by decide +kernel, rfl, by decide +kernel, by decide +kernel⟩
abbrev s_law : Stmt := topS 33
abbrev N_law : List Str := ["_law_script", "_law_k"]
abbrev P_law : List Str := ["_law_script"]
theorem sc_law : FnScope N_law P_law (defScope s_law) := ⟨rfl, rfl, rfl, by decide +kernel, rfl, by decide +kernel, by decide +kernel⟩
abbrev sI_InvalidMark : Stmt := inClass (topS 2) 0
theorem scI_InvalidMark : FnScope ["self", "value"] ["self", "value"] (defScope sI_InvalidMark) := ⟨rfl, rfl, rfl, by decide +kernel, rfl, by decide +kernel, by decide +kernel⟩
abbrev sI_InvalidText : Stmt := inClass (topS 3) 0
theorem scI_InvalidText : FnScope ["self", "value"] ["self", "value"] (defScope sI_InvalidText) := ⟨rfl, rfl, rfl, by decide +kernel, rfl, by decide +kernel, by decide +kernel⟩
abbrev sI_InvalidInteger : Stmt := inClass (topS 4) 0
theorem scI_InvalidInteger : FnScope ["self", "value"] ["self", "value"] (defScope sI_InvalidInteger) := ⟨rfl, rfl, rfl, by decide +kernel, rfl, by decide +kernel, by decide +kernel⟩
def sp_is_integer (K : PySem.W.Frag) (ca : Nat → Addr) : Sp := SpF K ca F_is_integer
def sp_is_word (K : PySem.W.Frag) (ca : Nat → Addr) : Sp := SpF K ca F_is_word
def sp_is_mark (K : PySem.W.Frag) (ca : Nat → Addr) : Sp := SpF K ca F_is_mark
def sp_is_token (K : PySem.W.Frag) (ca : Nat → Addr) : Sp := SpF K ca F_is_token
def sp_need_mark (K : PySem.W.Frag) (ca : Nat → Addr) : Sp := SpF K ca F_need_mark
def sp_indent_of (K : PySem.W.Frag) (ca : Nat → Addr) : Sp := SpF K ca F_indent_of
def sp_is_text (K : PySem.W.Frag) (ca : Nat → Addr) : Sp := SpF K ca F_is_text
def sp_need_text (K : PySem.W.Frag) (ca : Nat → Addr) : Sp := SpF K ca F_need_text
def sp_lines (K : PySem.W.Frag) (ca : Nat → Addr) : Sp := SpF K ca F_lines
def sp_columns (K : PySem.W.Frag) (ca : Nat → Addr) : Sp := SpF K ca F_columns
def sp_widths (K : PySem.W.Frag) (ca : Nat → Addr) : Sp := SpF K ca F_widths
def sp_place_of (K : PySem.W.Frag) (ca : Nat → Addr) : Sp := SpF K ca F_place_of
def sp__law_cell (K : PySem.W.Frag) (ca : Nat → Addr) : Sp := SpF K ca F__law_cell
def sp__law_purse (K : PySem.W.Frag) (ca : Nat → Addr) : Sp := SpF K ca F__law_purse
def sp__law_take (K : PySem.W.Frag) (ca : Nat → Addr) : Sp := SpF K ca F__law_take
def sp__law_mark (K : PySem.W.Frag) (ca : Nat → Addr) : Sp := SpF K ca F__law_mark
def sp__law_word (K : PySem.W.Frag) (ca : Nat → Addr) : Sp := SpF K ca F__law_word
def sp__law_text (K : PySem.W.Frag) (ca : Nat → Addr) : Sp := SpF K ca F__law_text
def sp__law_walked (K : PySem.W.Frag) (ca : Nat → Addr) : Sp := SpF K ca F__law_walked
def sp__law_refused (K : PySem.W.Frag) (ca : Nat → Addr) : Sp := SpF K ca F__law_refused
def sp__law_right (K : PySem.W.Frag) (ca : Nat → Addr) : Sp := SpF K ca F__law_right
def sp_law (K : PySem.W.Frag) (ca : Nat → Addr) : Sp := SpF K ca F_law
def spq_lines (K : PySem.W.Frag) (ca : Nat → Addr) : SpGq := SpGQF K ca Fq_lines
def t_is_integer (K : PySem.W.Frag) (ca : Nat → Addr) : TS := tRet (uAndV (uIsi .int (uVar 0)) (uAndV (uNotV (uIsi .bl (uVar 0))) (uChain uLe uLe (uVar 1) (uVar 0) (uVar 2))))
def t_is_word (K : PySem.W.Frag) (ca : Nat → Addr) : TS := tSeq (uIfS (uOr (uNot (uT (uIsi .str (uVar 0)))) (uNot (uT (uChain uLe uLe (tC (.int 1)) (tCB (uLen K) (tCons (uVar 0) (tNil))) (tC (.int 30)))))) (tRet (tC (.bl false))) (tNext)) (tRet (tCB (uAll K) (tCons (tLc (uIter K (uVar 0)) (gName 1) (tYes) (tOp (uIn K false) (uVar 1) (tC (.str "abcdefghijklmnopqrstuvwxyz"))) [1]) (tNil))))
def t_is_mark (K : PySem.W.Frag) (ca : Nat → Addr) : TS := tSeq (uIfS (uNot (uT (uIsi .str (uVar 0)))) (tRet (tC (.bl false))) (tNext)) (tRet (uOrV (tOp (uEq2 K) (uVar 0) (tC (.str " "))) (uAndV (tOp (uEq2 K) (tCB (uLen K) (tCons (uVar 0) (tNil))) (tC (.int 2))) (uAndV (tOp (uIn K false) (tOp (uIx K) (uVar 0) (tC (.int 0))) (tC (.str "#|/"))) (tOp (uIn K false) (tOp (uIx K) (uVar 0) (tC (.int 1))) (tC (.str "0123")))))))
def t_is_token (K : PySem.W.Frag) (ca : Nat → Addr) : TS := tRet (uAndV (uIsi .tup (uVar 0)) (uAndV (tOp (uEq2 K) (tCB (uLen K) (tCons (uVar 0) (tNil))) (tC (.int 2))) (uAndV (tCall (sp_is_mark K ca) [] E0 (tCons (tOp (uIx K) (uVar 0) (tC (.int 0))) (tNil))) (tCall (sp_is_word K ca) [] E0 (tCons (tOp (uIx K) (uVar 0) (tC (.int 1))) (tNil))))))
def t_need_mark (K : PySem.W.Frag) (ca : Nat → Addr) (E : XK) : TS := uIfS (uNot (uT (tCall (sp_is_mark K ca) [] E0 (tCons (uVar 0) (tNil))))) (uRaise (ca 1) "value" E (tCons (uVar 0) (tNil))) (tNext)
def t_indent_of (K : PySem.W.Frag) (ca : Nat → Addr) (E : XK) : TS := tSeq (tDrop (tCall (sp_need_mark K ca) [] E (tCons (uVar 0) (tNil)))) (tRet (uIf (uT (tOp (uEq2 K) (uVar 0) (tC (.str " ")))) (tC (.int 0)) (tCB uInt (tCons (tOp (uIx K) (uVar 0) (tC (.int 1))) (tNil)))))
def t_is_text (K : PySem.W.Frag) (ca : Nat → Addr) : TS := tSeq (uIfS (uOr (uNot (uT (tCB (uIsiT [.lst, .tup]) (tCons (uVar 0) (tCons (tTup (tCons (tC (.ty "list")) (tCons (tC (.ty "tuple")) (tNil)))) tNil))))) (uNot (uT (tCB (uAll K) (tCons (tLc (uIter K (uVar 0)) (gName 1) (tYes) (tCall (sp_is_token K ca) [] E0 (tCons (uVar 1) (tNil))) [1]) (tNil)))))) (tRet (tC (.bl false))) (tNext)) (tRet (uOrV (tOp (uEq2 K) (tCB (uLen K) (tCons (uVar 0) (tNil))) (tC (.int 0))) (tOp (uEq2 K) (tOp (uIx K) (tOp (uIx K) (tOp (uIx K) (uVar 0) (tC (.int 0))) (tC (.int 0))) (tC (.int 0))) (tC (.str "#")))))
def t_need_text (K : PySem.W.Frag) (ca : Nat → Addr) (E : XK) : TS := uIfS (uNot (uT (tCall (sp_is_text K ca) [] E0 (tCons (uVar 0) (tNil))))) (uRaise (ca 2) "value" E (tCons (uVar 0) (tNil))) (tNext)
def t_lines (K : PySem.W.Frag) (ca : Nat → Addr) (E : XK) : TS := tSeq (tDrop (tCall (sp_need_text K ca) [] E (tCons (uVar 0) (tNil)))) (tSeq (tAsg (tLst (tNil)) (gName 1)) (tStop))
def t_columns (K : PySem.W.Frag) (ca : Nat → Addr) (E : XK) : TS := tSeq (tDrop (tCall (sp_need_text K ca) [] E (tCons (uVar 0) (tNil)))) (tSeq (tAsg (tLst (tNil)) (gName 1)) (tSeq (tFor (uIter K (uVar 0)) (gTs K 2 (gCons (gName 2) (gCons (gName 3) (gNil)))) (tSeq (tAsg (uIf (uT (tOp (uEq2 K) (uVar 2) (tC (.str " ")))) (tOp (uAdd K) (tOp (uIx K) (uVar 1) (tUn uNeg (tC (.int 1)))) (tC (.int 1))) (tCall (sp_indent_of K ca) [] E (tCons (uVar 2) (tNil)))) (gName 4)) (tDrop (tBM K "list" uAppend (uVar 1) (tCons (tOp (uAdd K) (uVar 4) (tCB (uLen K) (tCons (uVar 3) (tNil)))) (tNil)))))) (tRet (uVar 1))))
def t_widths (K : PySem.W.Frag) (ca : Nat → Addr) (E : XK) : TS := tSeq (tAsg (tCall (sp_columns K ca) [] E (tCons (uVar 0) (tNil))) (gName 1)) (tSeq (tAsg (tLc (uEnum K (tCons (uVar 0) (tNil))) (gTs K 2 (gCons (gName 3) (gCons (gName 4) (gNil)))) (uOr (uT (tOp (uEq2 K) (tOp (uAdd K) (uVar 3) (tC (.int 1))) (tCB (uLen K) (tCons (uVar 0) (tNil))))) (uT (tOp (uNe2 K) (tOp (uIx K) (tOp (uIx K) (uVar 0) (tOp (uAdd K) (uVar 3) (tC (.int 1)))) (tC (.int 0))) (tC (.str " "))))) (uVar 3) [3, 4]) (gName 2)) (tRet (tLc (uIter K (uVar 2)) (gName 3) (tYes) (tOp (uIx K) (uVar 1) (uVar 3)) [3])))
def t_place_of (K : PySem.W.Frag) (ca : Nat → Addr) (E : XK) : TS := tSeq (tDrop (tCall (sp_need_text K ca) [] E (tCons (uVar 0) (tNil)))) (tSeq (uIfS (uNot (uT (tCall (sp_is_integer K ca) [] E0 (tCons (uVar 1) (tCons (tC (.int 0)) (tCons (tOp uSub (tCB (uLen K) (tCons (uVar 0) (tNil))) (tC (.int 1))) (tNil))))))) (uRaise (ca 3) "value" E (tCons (uVar 1) (tNil))) (tNext)) (tSeq (tAsg (tLc (uEnum K (tCons (uVar 0) (tNil))) (gTs K 2 (gCons (gName 3) (gCons (gName 4) (gNil)))) (uAnd (uT (tOp (uNe2 K) (tOp (uIx K) (uVar 4) (tC (.int 0))) (tC (.str " ")))) (uT (tOp uLe (uVar 3) (uVar 1)))) (uVar 3) [3, 4]) (gName 2)) (tRet (tTup (tCons (tOp uSub (tCB (uLen K) (tCons (uVar 2) (tNil))) (tC (.int 1))) (tCons (tOp uSub (uVar 1) (tOp (uIx K) (uVar 2) (tUn uNeg (tC (.int 1))))) (tNil)))))))
def t__law_cell (K : PySem.W.Frag) (ca : Nat → Addr) : TS := tSeq (uIfS (uT (tOp uLt (uVar 1) (tCB (uLen K) (tCons (uVar 0) (tNil))))) (tRet (tOp (uIx K) (uVar 0) (uVar 1))) (tNext)) (tRet (tOp (uAdd K) (tOp uMul3 (tC (.int 7919)) (uVar 1)) (tC (.int 31))))
def t__law_purse (K : PySem.W.Frag) (ca : Nat → Addr) : TS := tRet (tLst (tCons (tCB uMax2 (tCons (tC (.int 0)) (tCons (tOp uSub (uVar 0) (tOp uPow (tC (.int 10)) (tC (.int 18)))) (tNil)))) (tCons (tOp uMod (uVar 0) (tC (.int 2147483629))) (tCons (tC (.int 0)) (tNil)))))
def t__law_take (K : PySem.W.Frag) (ca : Nat → Addr) : TS := tSeq (uIfS (uT (tOp uGt (tOp (uIx K) (uVar 0) (tC (.int 0))) (tC (.int 0)))) (tSeq (tAsg (tOp uMod (tOp (uIx K) (uVar 0) (tC (.int 0))) (uVar 1)) (gName 2)) (tSeq (tAsg (tOp uFdiv (tOp (uIx K) (uVar 0) (tC (.int 0))) (uVar 1)) (gSub (uVar 0) (tC (.int 0)) uSetL)) (tRet (uVar 2)))) (tNext)) (tSeq (tAsg (tOp (uAdd K) (tOp (uIx K) (uVar 0) (tC (.int 2))) (tC (.int 1))) (gSub (uVar 0) (tC (.int 2)) uSetL)) (tSeq (tAsg (tOp uMod (tOp uPow (tOp (uAdd K) (tOp (uAdd K) (tOp (uIx K) (uVar 0) (tC (.int 1))) (tOp uMul3 (tC (.int 7919)) (tOp (uIx K) (uVar 0) (tC (.int 2))))) (tC (.int 112))) (tC (.int 5))) (tC (.int 2147483647))) (gName 3)) (tSeq (tAsg (tOp uMod (tOp uPow (tOp (uAdd K) (uVar 3) (tOp uMul3 (tC (.int 104729)) (tOp (uIx K) (uVar 0) (tC (.int 2))))) (tC (.int 3))) (tC (.int 2147483587))) (gName 3)) (tRet (tOp uMod (tOp uFdiv (uVar 3) (tC (.int 16))) (uVar 1))))))
def t__law_mark (K : PySem.W.Frag) (ca : Nat → Addr) : TS := tSeq (uIfS (uT (tOp (uEq2 K) (tCall (sp__law_take K ca) [] E0 (tCons (uVar 0) (tCons (tC (.int 3)) (tNil)))) (tC (.int 0)))) (tRet (tC (.str " "))) (tNext)) (tRet (tOp (uAdd K) (tOp (uIx K) (tC (.str "#|/")) (tCall (sp__law_take K ca) [] E0 (tCons (uVar 0) (tCons (tC (.int 3)) (tNil))))) (tOp (uIx K) (tC (.str "0123")) (tCall (sp__law_take K ca) [] E0 (tCons (uVar 0) (tCons (tC (.int 4)) (tNil)))))))
def t__law_word (K : PySem.W.Frag) (ca : Nat → Addr) : TS := tSeq (tAsg (tC (.str "abcdefghijklmnopqrstuvwxyz")) (gName 2)) (tRet (tM1 (uJoin K) (tC (.str "")) (tLc (iRng1 (tCons (tOp (uAdd K) (tC (.int 1)) (tCall (sp__law_take K ca) [] E0 (tCons (uVar 0) (tCons (uVar 1) (tNil))))) (tNil))) (gName 3) (tYes) (tOp (uIx K) (uVar 2) (tCall (sp__law_take K ca) [] E0 (tCons (uVar 0) (tCons (tC (.int 26)) (tNil))))) [3])))
def t__law_text (K : PySem.W.Frag) (ca : Nat → Addr) : TS := tSeq (tAsg (tLst (tNil)) (gName 3)) (tSeq (tFor (iRng1 (tCons (uVar 1) (tNil))) (gName 4) (tSeq (tAsg (uIf (uT (tOp uGt (uVar 4) (tC (.int 0)))) (tCall (sp__law_mark K ca) [] E0 (tCons (uVar 0) (tNil))) (tOp (uAdd K) (tC (.str "#")) (tOp (uIx K) (tC (.str "0123")) (tCall (sp__law_take K ca) [] E0 (tCons (uVar 0) (tCons (tC (.int 4)) (tNil))))))) (gName 5)) (tDrop (tBM K "list" uAppend (uVar 3) (tCons (tTup (tCons (uVar 5) (tCons (tCall (sp__law_word K ca) [] E0 (tCons (uVar 0) (tCons (uVar 2) (tNil)))) (tNil)))) (tNil)))))) (tRet (uVar 3)))
def t__law_walked (K : PySem.W.Frag) (ca : Nat → Addr) : TS := tSeq (tAsg (tTup (tCons (tLst (tNil)) (tCons (tLst (tNil)) (tCons (tLst (tNil)) (tCons (tLst (tNil)) (tNil)))))) (gTs K 4 (gCons (gName 1) (gCons (gName 2) (gCons (gName 3) (gCons (gName 4) (gNil))))))) (tSeq (tFor (uIter K (uVar 0)) (gTs K 2 (gCons (gName 5) (gCons (gName 6) (gNil)))) (tSeq (uIfS (uT (tOp (uEq2 K) (uVar 5) (tC (.str " ")))) (tSeq (tAsg (tOp (uAdd K) (tOp (uAdd K) (tOp (uIx K) (uVar 2) (tUn uNeg (tC (.int 1)))) (tC (.int 1))) (tCB (uLen K) (tCons (uVar 6) (tNil)))) (gSub (uVar 2) (tUn uNeg (tC (.int 1))) uSetL)) (tAsg (tOp (uAdd K) (tOp (uIx K) (uVar 1) (tUn uNeg (tC (.int 1)))) (tLst (tCons (tTup (tCons (uVar 5) (tCons (uVar 6) (tNil)))) (tNil)))) (gSub (uVar 1) (tUn uNeg (tC (.int 1))) uSetL))) (tSeq (tDrop (tBM K "list" uAppend (uVar 2) (tCons (tOp (uAdd K) (tM1 uFind (tC (.str "0123")) (tOp (uIx K) (uVar 5) (tC (.int 1)))) (tCB (uLen K) (tCons (uVar 6) (tNil)))) (tNil)))) (tDrop (tBM K "list" uAppend (uVar 1) (tCons (tLst (tCons (tTup (tCons (uVar 5) (tCons (uVar 6) (tNil)))) (tNil))) (tNil)))))) (tSeq (tDrop (tBM K "list" uAppend (uVar 3) (tCons (tOp (uIx K) (uVar 2) (tUn uNeg (tC (.int 1)))) (tNil)))) (tDrop (tBM K "list" uAppend (uVar 4) (tCons (tTup (tCons (tOp uSub (tCB (uLen K) (tCons (uVar 1) (tNil))) (tC (.int 1))) (tCons (tOp uSub (tCB (uLen K) (tCons (tOp (uIx K) (uVar 1) (tUn uNeg (tC (.int 1)))) (tNil))) (tC (.int 1))) (tNil)))) (tNil))))))) (tRet (tLst (tCons (uVar 1) (tCons (uVar 2) (tCons (uVar 3) (tCons (uVar 4) (tNil))))))))
def t__law_refused (K : PySem.W.Frag) (ca : Nat → Addr) : TS := tSeq (tAsg (tLst (tNil)) (gName 3)) (tSeq (uTry K (fun _ _ _ _ => False) [⟨.ref (ca 2), some 5, fun a cls d => tAsg (tOp (uAdd K) (uVar 3) (tLst (tCons (tC (.str "text")) (tCons (uXf K a cls d 5 "value") (tNil))))) (gName 3)⟩, ⟨.ref (ca 3), some 5, fun a cls d => tAsg (tLst (tCons (tC (.str "integer")) (tCons (uXf K a cls d 5 "value") (tNil)))) (gName 3)⟩] (fun W => uIfS (uT (tOp (uEq2 K) (uVar 0) (tC (.int 0)))) (tForGr (tCallGr (sp_lines K ca) (NSt K W) (tCons (uVar 1) (tNil)))) (uIfS (uT (tOp (uEq2 K) (uVar 0) (tC (.int 1)))) (tDrop (tCallS (sp_widths K ca) (WE W) (tCons (uVar 1) (tNil)))) (uIfS (uT (tOp (uEq2 K) (uVar 0) (tC (.int 2)))) (tDrop (tCallS (sp_columns K ca) (WE W) (tCons (uVar 1) (tNil)))) (tDrop (tCallS (sp_place_of K ca) (WE W) (tCons (uVar 1) (tCons (uVar 2) (tNil))))))))) (tRet (uVar 3)))
def t__law_right (K : PySem.W.Frag) (ca : Nat → Addr) : TS := tSeq (tAsg (tCall (sp__law_take K ca) [] E0 (tCons (uVar 0) (tCons (tC (.int 21)) (tNil)))) (gName 1)) (tSeq (uIfS (uT (tOp (uEq2 K) (tCall (sp__law_take K ca) [] E0 (tCons (uVar 0) (tCons (tC (.int 8)) (tNil)))) (tC (.int 0)))) (tAsg (tOp (uAdd K) (tC (.int 40)) (tCall (sp__law_take K ca) [] E0 (tCons (uVar 0) (tCons (tC (.int 250)) (tNil))))) (gName 1)) (tNext)) (tSeq (tAsg (tCall (sp__law_text K ca) [] E0 (tCons (uVar 0) (tCons (uVar 1) (tCons (tOp (uIx K) (tLst (tCons (tC (.int 4)) (tCons (tC (.int 30)) (tNil)))) (tCall (sp__law_take K ca) [] E0 (tCons (uVar 0) (tCons (tC (.int 2)) (tNil))))) (tNil))))) (gName 2)) (tSeq (uIfS (uT (tOp (uEq2 K) (tCall (sp__law_take K ca) [] E0 (tCons (uVar 0) (tCons (tC (.int 4)) (tNil)))) (tC (.int 0)))) (tAsg (tOp (uAdd K) (L2.tSl (uSl K) (uVar 2) (tNoPart) (uPart (tC (.int 1)))) (tLc (uIter K (L2.tSl (uSl K) (uVar 2) (uPart (tC (.int 1))) (tNoPart))) (gTs K 2 (gCons (gName 14) (gCons (gName 13) (gNil)))) (tYes) (tTup (tCons (tC (.str " ")) (tCons (uVar 13) (tNil)))) [14, 13])) (gName 2)) (tNext)) (tSeq (tAsg (tCall (sp__law_walked K ca) [] E0 (tCons (uVar 2) (tNil))) (gName 3)) (tSeq (tAsg (tOp (uIx K) (tLst (tCons (uVar 2) (tCons (tCB (uTuple K) (tCons (uVar 2) (tNil))) (tNil)))) (tCall (sp__law_take K ca) [] E0 (tCons (uVar 0) (tCons (tC (.int 2)) (tNil))))) (gName 4)) (tSeq (tFor (iRng1 (tCons (tC (.int 2)) (tNil))) (gName 5) (tSeq (tAsg (tLst (tCons (tLcQ (tCallQ 1 (spq_lines K ca) (tCons (uVar 4) (tNil))) (gName 15) (uVar 15) [15]) (tCons (tCall (sp_widths K ca) [] E0 (tCons (uVar 4) (tNil))) (tCons (tCall (sp_columns K ca) [] E0 (tCons (uVar 4) (tNil))) (tNil))))) (gName 6)) (tSeq (uIfS (uOr (uT (tOp (uNe2 K) (uVar 6) (L2.tSl (uSl K) (uVar 3) (tNoPart) (uPart (tC (.int 3)))))) (uNot (uT (tCB (uAll K) (tCons (tLc (uIter K (tOp (uIx K) (uVar 6) (tC (.int 0)))) (gName 15) (tYes) (uIsi .lst (uVar 15)) [15]) (tNil)))))) (tRet (tC (.bl false))) (tNext)) (tFor (uIter K (tOp (uAdd K) (tOp (uIx K) (uVar 6) (tC (.int 0))) (uVar 6))) (gName 7) (tDrop (tBM K "list" uAppend (uVar 7) (tCons (tC (.int 0)) (tNil)))))))) (tSeq (tFor (iRng1 (tCons (tC (.int 3)) (tNil))) (gName 5) (uIfS (uT (tOp uGt (uVar 1) (tC (.int 0)))) (tSeq (tAsg (tCall (sp__law_take K ca) [] E0 (tCons (uVar 0) (tCons (uVar 1) (tNil)))) (gName 8)) (tSeq (tAsg (tCall (sp_place_of K ca) [] E0 (tCons (uVar 4) (tCons (uVar 8) (tNil)))) (gName 6)) (uIfS (uOr (uT (tOp (uNe2 K) (uVar 6) (tOp (uIx K) (tOp (uIx K) (uVar 3) (tC (.int 3))) (uVar 8)))) (uNot (uT (uIsi .tup (uVar 6))))) (tRet (tC (.bl false))) (tNext)))) (tNext))) (tSeq (tAsg (tOp (uIx K) (tLst (tCons (tC .non) (tCons (tC (.bl true)) (tCons (tC (.str "0")) (tCons (tUn uNeg (tC (.int 1))) (tCons (uVar 1) (tCons (tOp (uAdd K) (uVar 1) (tOp uPow (tC (.int 10)) (tC (.int 20)))) (tCons (tUn uNeg (tOp uPow (tC (.int 10)) (tC (.int 20)))) (tCons (tTup (tCons (tC (.int 0)) (tNil))) (tCons (tLst (tNil)) (tCons (tC (.bl false)) (tNil)))))))))))) (tCall (sp__law_take K ca) [] E0 (tCons (uVar 0) (tCons (tC (.int 10)) (tNil))))) (gName 9)) (tSeq (uIfS (uT (tOp (uNe2 K) (tCB (uRepr3 K) (tCons (tCall (sp__law_refused K ca) [] E0 (tCons (tC (.int 3)) (tCons (uVar 4) (tCons (uVar 9) (tNil))))) (tNil))) (tCB (uRepr3 K) (tCons (tLst (tCons (tC (.str "integer")) (tCons (uVar 9) (tNil)))) (tNil))))) (tRet (tC (.bl false))) (tNext)) (tSeq (tAsg (tCall (sp__law_take K ca) [] E0 (tCons (uVar 0) (tCons (tOp (uAdd K) (uVar 1) (tC (.int 1))) (tNil)))) (gName 10)) (tSeq (tAsg (tLst (tCons (tOp (uAdd K) (uVar 2) (tLst (tCons (tTup (tCons (tC (.str "#4")) (tCons (tC (.str "a")) (tNil)))) (tNil)))) (tCons (tOp (uAdd K) (tLst (tCons (tTup (tCons (tC (.str "|0")) (tCons (tC (.str "a")) (tNil)))) (tNil))) (uVar 2)) (tCons (tOp (uAdd K) (uVar 2) (tLst (tCons (tTup (tCons (tC (.str " ")) (tCons (tC (.str "A")) (tNil)))) (tNil)))) (tCons (tC (.str "a")) (tCons (tC .non) (tCons (tDNewK) (tCons (tLst (tCons (uVar 2) (tNil))) (tCons (tLst (tCons (tLst (tCons (tC (.str "#0")) (tCons (tC (.str "a")) (tNil)))) (tNil))) (tNil)))))))))) (gName 11)) (tSeq (tAsg (tOp (uAdd K) (uVar 11) (tLst (tCons (tOp (uAdd K) (tOp (uAdd K) (L2.tSl (uSl K) (uVar 2) (tNoPart) (uPart (uVar 10))) (tLst (tCons (tTup (tCons (tC (.str " ")) (tCons (tC (.str "")) (tNil)))) (tNil)))) (L2.tSl (uSl K) (uVar 2) (uPart (uVar 10)) (tNoPart))) (tCons (tOp (uAdd K) (tOp (uAdd K) (L2.tSl (uSl K) (uVar 2) (tNoPart) (uPart (uVar 10))) (tLst (tCons (tTup (tCons (tC (.str "/4")) (tCons (tC (.str "a")) (tNil)))) (tNil)))) (L2.tSl (uSl K) (uVar 2) (uPart (uVar 10)) (tNoPart))) (tNil))))) (gName 11)) (tSeq (tAsg (tOp (uIx K) (uVar 11) (tCall (sp__law_take K ca) [] E0 (tCons (uVar 0) (tCons (tC (.int 10)) (tNil))))) (gName 11)) (tRet (tCB (uAll K) (tCons (tLc (iRng1 (tCons (tC (.int 4)) (tNil))) (gName 12) (tYes) (tOp (uEq2 K) (tCB (uRepr3 K) (tCons (tCall (sp__law_refused K ca) [] E0 (tCons (uVar 12) (tCons (uVar 11) (tCons (uVar 9) (tNil))))) (tNil))) (tCB (uRepr3 K) (tCons (tLst (tCons (tC (.str "text")) (tCons (uVar 11) (tNil)))) (tNil)))) [12]) (tNil)))))))))))))))))
def t_law (K : PySem.W.Frag) (ca : Nat → Addr) : TS := tSeq (tFor (iRng1 (tCons (tCB uMax2 (tCons (tC (.int 2)) (tCons (tCB uMin2 (tCons (tC (.int 20)) (tCons (tCB (uLen K) (tCons (uVar 0) (tNil))) (tNil)))) (tNil)))) (tNil))) (gName 1) (uIfS (uNot (uT (tCall (sp__law_right K ca) [] E0 (tCons (tCall (sp__law_purse K ca) [] E0 (tCons (tCall (sp__law_cell K ca) [] E0 (tCons (uVar 0) (tCons (uVar 1) (tNil)))) (tNil))) (tNil))))) (tRet (tC (.bl false))) (tNext))) (tRet (tC (.bl true)))
def tq_lines (K : PySem.W.Frag) (ca : Nat → Addr) : (Γ : Type) → TGm Γ := fun Γ => tGSeq (tPl (tDrop (tCall (sp_need_text K ca) [] E0 (tCons (uVar 0) (tNil))))) (tGSeq (tPl (tAsg (tLst (tNil)) (gName 1))) (tGSeq (tGFor (uIter K (uVar 0)) (gName 2) (tGSeq (tGIf (uAnd (uT (tOp (uNe2 K) (tOp (uIx K) (uVar 2) (tC (.int 0))) (tC (.str " ")))) (uT (tOp uGt (tCB (uLen K) (tCons (uVar 1) (tNil))) (tC (.int 0))))) (tGSeq (tGYd (uVar 1)) (tGSeq (tPl (tAsg (tLst (tNil)) (gName 1))) (tG1))) (tG1)) (tGSeq (tPl (tDrop (tBM K "list" uAppend (uVar 1) (tCons (uVar 2) (tNil))))) (tG1)))) (tGSeq (tGIf (uT (tOp uGt (tCB (uLen K) (tCons (uVar 1) (tNil))) (tC (.int 0)))) (tGSeq (tGYd (uVar 1)) (tG1)) (tG1)) (tG1))))
structure Ct (K : PySem.W.Frag) (ca : Nat → Addr) : Prop where
  yes : True
  x_InvalidMark : XfC K (ca 1)
  n_InvalidMark : PySem.W.findIn K (.ref (ca 1)) "value" = some none
  x_InvalidText : XfC K (ca 2)
  n_InvalidText : PySem.W.findIn K (.ref (ca 2)) "value" = some none
  x_InvalidInteger : XfC K (ca 3)
  n_InvalidInteger : PySem.W.findIn K (.ref (ca 3)) "value" = some none
  e_InvalidInteger_InvalidInteger : PySem.W.exmOne K (.ref (ca 3)) (.ref (ca 3)) = some true
  e_InvalidInteger_InvalidText : PySem.W.exmOne K (.ref (ca 3)) (.ref (ca 2)) = some false
  e_InvalidMark_InvalidInteger : PySem.W.exmOne K (.ref (ca 1)) (.ref (ca 3)) = some false
  e_InvalidMark_InvalidText : PySem.W.exmOne K (.ref (ca 1)) (.ref (ca 2)) = some false
  e_InvalidText_InvalidInteger : PySem.W.exmOne K (.ref (ca 2)) (.ref (ca 3)) = some false
  e_InvalidText_InvalidText : PySem.W.exmOne K (.ref (ca 2)) (.ref (ca 2)) = some true
  ns_InvalidText : PySem.W.subIn K (.ref (ca 2)) (.type "StopIteration") = some false
structure Tx (P : Program) (K : PySem.W.Frag) (mg : Str → Option Value) (a : Nat → Addr) (d : Nat → FuncData) (ca : Nat → Addr) : Prop where
  ct : Ct K ca
  f_is_integer : Fun K "is_integer" "is_integer" s_is_integer (a 0) (d 0)
  b_is_integer : Binds K (d 0) P_is_integer []
  m_is_integer : mg "is_integer" = some (.ref (a 0))
  f_is_word : Fun K "is_word" "is_word" s_is_word (a 1) (d 1)
  b_is_word : Binds K (d 1) P_is_word []
  m_is_word : mg "is_word" = some (.ref (a 1))
  f_is_mark : Fun K "is_mark" "is_mark" s_is_mark (a 2) (d 2)
  b_is_mark : Binds K (d 2) P_is_mark []
  m_is_mark : mg "is_mark" = some (.ref (a 2))
  f_is_token : Fun K "is_token" "is_token" s_is_token (a 3) (d 3)
  b_is_token : Binds K (d 3) P_is_token []
  m_is_token : mg "is_token" = some (.ref (a 3))
  f_need_mark : Fun K "need_mark" "need_mark" s_need_mark (a 4) (d 4)
  b_need_mark : Binds K (d 4) P_need_mark []
  m_need_mark : mg "need_mark" = some (.ref (a 4))
  f_indent_of : Fun K "indent_of" "indent_of" s_indent_of (a 5) (d 5)
  b_indent_of : Binds K (d 5) P_indent_of []
  m_indent_of : mg "indent_of" = some (.ref (a 5))
  f_is_text : Fun K "is_text" "is_text" s_is_text (a 6) (d 6)
  b_is_text : Binds K (d 6) P_is_text []
  m_is_text : mg "is_text" = some (.ref (a 6))
  f_need_text : Fun K "need_text" "need_text" s_need_text (a 7) (d 7)
  b_need_text : Binds K (d 7) P_need_text []
  m_need_text : mg "need_text" = some (.ref (a 7))
  f_lines : Fun K "lines" "lines" s_lines (a 8) (d 8)
  b_lines : Binds K (d 8) P_lines []
  m_lines : mg "lines" = some (.ref (a 8))
  f_columns : Fun K "columns" "columns" s_columns (a 9) (d 9)
  b_columns : Binds K (d 9) P_columns []
  m_columns : mg "columns" = some (.ref (a 9))
  f_widths : Fun K "widths" "widths" s_widths (a 10) (d 10)
  b_widths : Binds K (d 10) P_widths []
  m_widths : mg "widths" = some (.ref (a 10))
  f_place_of : Fun K "place_of" "place_of" s_place_of (a 11) (d 11)
  b_place_of : Binds K (d 11) P_place_of []
  m_place_of : mg "place_of" = some (.ref (a 11))
  f__law_cell : Fun K "_law_cell" "_law_cell" s__law_cell (a 12) (d 12)
  b__law_cell : Binds K (d 12) P__law_cell []
  m__law_cell : mg "_law_cell" = some (.ref (a 12))
  f__law_purse : Fun K "_law_purse" "_law_purse" s__law_purse (a 13) (d 13)
  b__law_purse : Binds K (d 13) P__law_purse []
  m__law_purse : mg "_law_purse" = some (.ref (a 13))
  f__law_take : Fun K "_law_take" "_law_take" s__law_take (a 14) (d 14)
  b__law_take : Binds K (d 14) P__law_take []
  m__law_take : mg "_law_take" = some (.ref (a 14))
  f__law_mark : Fun K "_law_mark" "_law_mark" s__law_mark (a 15) (d 15)
  b__law_mark : Binds K (d 15) P__law_mark []
  m__law_mark : mg "_law_mark" = some (.ref (a 15))
  f__law_word : Fun K "_law_word" "_law_word" s__law_word (a 16) (d 16)
  b__law_word : Binds K (d 16) P__law_word []
  m__law_word : mg "_law_word" = some (.ref (a 16))
  f__law_text : Fun K "_law_text" "_law_text" s__law_text (a 17) (d 17)
  b__law_text : Binds K (d 17) P__law_text []
  m__law_text : mg "_law_text" = some (.ref (a 17))
  f__law_walked : Fun K "_law_walked" "_law_walked" s__law_walked (a 18) (d 18)
  b__law_walked : Binds K (d 18) P__law_walked []
  m__law_walked : mg "_law_walked" = some (.ref (a 18))
  f__law_refused : Fun K "_law_refused" "_law_refused" s__law_refused (a 19) (d 19)
  b__law_refused : Binds K (d 19) P__law_refused []
  m__law_refused : mg "_law_refused" = some (.ref (a 19))
  f__law_right : Fun K "_law_right" "_law_right" s__law_right (a 20) (d 20)
  b__law_right : Binds K (d 20) P__law_right []
  m__law_right : mg "_law_right" = some (.ref (a 20))
  f_law : Fun K "law" "law" s_law (a 21) (d 21)
  b_law : Binds K (d 21) P_law []
  m_law : mg "law" = some (.ref (a 21))
  x_InvalidMark : U.ExcC K mg "InvalidMark" "value" (ca 1) (a 22)
  F_InvalidMark : Fun K "__init__" "InvalidMark.__init__" sI_InvalidMark (a 22) (d 22)
  i_InvalidMark : Binds K (d 22) ["self", "value"] []
  m_InvalidMark : mg "InvalidMark" = some (.ref (ca 1))
  x_InvalidText : U.ExcC K mg "InvalidText" "value" (ca 2) (a 23)
  F_InvalidText : Fun K "__init__" "InvalidText.__init__" sI_InvalidText (a 23) (d 23)
  i_InvalidText : Binds K (d 23) ["self", "value"] []
  m_InvalidText : mg "InvalidText" = some (.ref (ca 2))
  x_InvalidInteger : U.ExcC K mg "InvalidInteger" "value" (ca 3) (a 24)
  F_InvalidInteger : Fun K "__init__" "InvalidInteger.__init__" sI_InvalidInteger (a 24) (d 24)
  i_InvalidInteger : Binds K (d 24) ["self", "value"] []
  m_InvalidInteger : mg "InvalidInteger" = some (.ref (ca 3))
  y_ReflowError : U.BaseC K (ca 0)
  w_ReflowError : mg "ReflowError" = some (.ref (ca 0))
  z_all : mg "all" = none
  z_bool : mg "bool" = none
  z_enumerate : mg "enumerate" = none
  z_int : mg "int" = none
  z_isinstance : mg "isinstance" = none
  z_len : mg "len" = none
  z_list : mg "list" = none
  z_max : mg "max" = none
  z_min : mg "min" = none
  z_range : mg "range" = none
  z_repr : mg "repr" = none
  z_str : mg "str" = none
  z_tuple : mg "tuple" = none
  c_KINDS : ∃ t, mg "KINDS" = some (.str "#|/" t)
  c_LETTERS : ∃ t, mg "LETTERS" = some (.str "abcdefghijklmnopqrstuvwxyz" t)
  c_MOST_LETTERS : ∃ t, mg "MOST_LETTERS" = some (.int (30) t)
section
variable {K : PySem.W.Frag} {ca : Nat → Addr}
theorem hem_ (T : Ct K ca) : ∀ c h b, em_ c h = some b → PySem.W.exmOne K (.ref (ca c)) (.ref (ca h)) = some b := by
  intro c h b e; unfold em_ at e; split at e
  · cases e; exact T.e_InvalidInteger_InvalidInteger
  · cases e; exact T.e_InvalidInteger_InvalidText
  · cases e; exact T.e_InvalidMark_InvalidInteger
  · cases e; exact T.e_InvalidMark_InvalidText
  · cases e; exact T.e_InvalidText_InvalidInteger
  · cases e; exact T.e_InvalidText_InvalidText
  · cases e
theorem hxf_ (T : Ct K ca) : ∀ c f, xf_ c f = true → XfC K (ca c) ∧ PySem.W.findIn K (.ref (ca c)) f = some none := by
  intro c f e; unfold xf_ at e; split at e
  · have e := of_decide_eq_true e; subst e; exact ⟨T.x_InvalidMark, T.n_InvalidMark⟩
  · have e := of_decide_eq_true e; subst e; exact ⟨T.x_InvalidText, T.n_InvalidText⟩
  · have e := of_decide_eq_true e; subst e; exact ⟨T.x_InvalidInteger, T.n_InvalidInteger⟩
  · cases e
theorem hns_lines (T : Ct K ca) : ∀ c ∈ ([2] : List Nat), PySem.W.subIn K (.ref (ca c)) (.type "StopIteration") = some false := by
  intro c hc; simp only [List.mem_cons, List.not_mem_nil, or_false] at hc
  subst hc
  · exact T.ns_InvalidText
theorem a_is_integer (T : Ct K ca) : SS ⟨K, ca, none, none⟩ NoE (t_is_integer K ca) b_is_integer :=
  ss_ret (se_and (se_isi .int (se_var 0)) (se_and (se_not (se_isi .bl (se_var 0))) (se_chain (sr_cmp _ _) (sr_cmp _ _) (se_var 1) (se_var 0) (se_var 2))))
theorem len_is_integer {vs : List V} {H : Hp} {Q : VK} {E : XK} (h : sp_is_integer K ca vs H Q E) : vs.length = P_is_integer.length := nox_len (N := N_is_integer) (P := P_is_integer) h
theorem p_is_integer (T : Ct K ca) {vs : List V} {H : Hp} {Q : VK} {E : XK} (h : sp_is_integer K ca vs H Q E) : t_is_integer K ca { nx := fun _ H' => Q .non H', rt := Q } (L2.start N_is_integer vs) H := nox_ok (N := N_is_integer) (P := P_is_integer) (a_is_integer T) h
theorem a_is_word (T : Ct K ca) : SS ⟨K, ca, none, none⟩ NoE (t_is_word K ca) b_is_word :=
  ss_seq (ss_if (st_or (st_not (st_val (se_isi .str (se_var 0)))) (st_not (st_val (se_chain (sr_cmp _ _) (sr_cmp _ _) (se_int _) (se_cb sc_len (sa_cons (se_var 0) (sa_nil))) (se_int _))))) (ss_ret (se_bl _)) (ss_next)) (ss_ret (se_cb sc_all (sa_cons (se_lc (si_iter (se_var 0)) (sg_name 1) (st_yes) (se_op (sr_in false) (se_var 1) (se_str _))) (sa_nil))))
theorem len_is_word {vs : List V} {H : Hp} {Q : VK} {E : XK} (h : sp_is_word K ca vs H Q E) : vs.length = P_is_word.length := nox_len (N := N_is_word) (P := P_is_word) h
theorem p_is_word (T : Ct K ca) {vs : List V} {H : Hp} {Q : VK} {E : XK} (h : sp_is_word K ca vs H Q E) : t_is_word K ca { nx := fun _ H' => Q .non H', rt := Q } (L2.start N_is_word vs) H := nox_ok (N := N_is_word) (P := P_is_word) (a_is_word T) h
theorem a_is_mark (T : Ct K ca) : SS ⟨K, ca, none, none⟩ NoE (t_is_mark K ca) b_is_mark :=
  ss_seq (ss_if (st_not (st_val (se_isi .str (se_var 0)))) (ss_ret (se_bl _)) (ss_next)) (ss_ret (se_or (se_op sr_eq (se_var 0) (se_str _)) (se_and (se_op sr_eq (se_cb sc_len (sa_cons (se_var 0) (sa_nil))) (se_int _)) (se_and (se_op (sr_in false) (se_op sr_ix (se_var 0) (se_int _)) (se_str _)) (se_op (sr_in false) (se_op sr_ix (se_var 0) (se_int _)) (se_str _))))))
theorem len_is_mark {vs : List V} {H : Hp} {Q : VK} {E : XK} (h : sp_is_mark K ca vs H Q E) : vs.length = P_is_mark.length := nox_len (N := N_is_mark) (P := P_is_mark) h
theorem p_is_mark (T : Ct K ca) {vs : List V} {H : Hp} {Q : VK} {E : XK} (h : sp_is_mark K ca vs H Q E) : t_is_mark K ca { nx := fun _ H' => Q .non H', rt := Q } (L2.start N_is_mark vs) H := nox_ok (N := N_is_mark) (P := P_is_mark) (a_is_mark T) h
theorem a_is_token (T : Ct K ca) : SS ⟨K, ca, none, none⟩ NoE (t_is_token K ca) b_is_token :=
  ss_ret (se_and (se_isi .tup (se_var 0)) (se_and (se_op sr_eq (se_cb sc_len (sa_cons (se_var 0) (sa_nil))) (se_int _)) (se_and (se_callN (nox_no _) (sa_cons (se_op sr_ix (se_var 0) (se_int _)) (sa_nil))) (se_callN (nox_no _) (sa_cons (se_op sr_ix (se_var 0) (se_int _)) (sa_nil))))))
theorem len_is_token {vs : List V} {H : Hp} {Q : VK} {E : XK} (h : sp_is_token K ca vs H Q E) : vs.length = P_is_token.length := nox_len (N := N_is_token) (P := P_is_token) h
theorem p_is_token (T : Ct K ca) {vs : List V} {H : Hp} {Q : VK} {E : XK} (h : sp_is_token K ca vs H Q E) : t_is_token K ca { nx := fun _ H' => Q .non H', rt := Q } (L2.start N_is_token vs) H := nox_ok (N := N_is_token) (P := P_is_token) (a_is_token T) h
theorem a_need_mark (T : Ct K ca) {E : XK} : SS ⟨K, ca, none, none⟩ (fun cls d _ H => E cls d H) (t_need_mark K ca E) b_need_mark :=
  ss_if (st_not (st_val (se_callN (nox_no _) (sa_cons (se_var 0) (sa_nil))))) (ss_raise (fun _ _ _ _ h => h) (sa_cons (se_var 0) (sa_nil))) (ss_next)
theorem len_need_mark {vs : List V} {H : Hp} {Q : VK} {E : XK} (h : sp_need_mark K ca vs H Q E) : vs.length = P_need_mark.length := run_len (N := N_need_mark) (P := P_need_mark) h
theorem p_need_mark (T : Ct K ca) {vs : List V} {H : Hp} {Q : VK} {E : XK} (h : sp_need_mark K ca vs H Q E) : t_need_mark K ca E { nx := fun _ H' => Q .non H', rt := Q } (L2.start N_need_mark vs) H := run_ok (N := N_need_mark) (P := P_need_mark) (a_need_mark T) h
theorem a_indent_of (T : Ct K ca) {E : XK} : SS ⟨K, ca, none, none⟩ (fun cls d _ H => E cls d H) (t_indent_of K ca E) b_indent_of :=
  ss_seq (ss_expr (se_call (fun _ _ _ _ h => h) (sa_cons (se_var 0) (sa_nil)))) (ss_ret (se_if (st_val (se_op sr_eq (se_var 0) (se_str _))) (se_int _) (se_cb sc_int (sa_cons (se_op sr_ix (se_var 0) (se_int _)) (sa_nil)))))
theorem len_indent_of {vs : List V} {H : Hp} {Q : VK} {E : XK} (h : sp_indent_of K ca vs H Q E) : vs.length = P_indent_of.length := run_len (N := N_indent_of) (P := P_indent_of) h
theorem p_indent_of (T : Ct K ca) {vs : List V} {H : Hp} {Q : VK} {E : XK} (h : sp_indent_of K ca vs H Q E) : t_indent_of K ca E { nx := fun _ H' => Q .non H', rt := Q } (L2.start N_indent_of vs) H := run_ok (N := N_indent_of) (P := P_indent_of) (a_indent_of T) h
theorem a_is_text (T : Ct K ca) : SS ⟨K, ca, none, none⟩ NoE (t_is_text K ca) b_is_text :=
  ss_seq (ss_if (st_or (st_not (st_val (se_isiT [.lst, .tup] (se_var 0)))) (st_not (st_val (se_cb sc_all (sa_cons (se_lc (si_iter (se_var 0)) (sg_name 1) (st_yes) (se_callN (nox_no _) (sa_cons (se_var 1) (sa_nil)))) (sa_nil)))))) (ss_ret (se_bl _)) (ss_next)) (ss_ret (se_or (se_op sr_eq (se_cb sc_len (sa_cons (se_var 0) (sa_nil))) (se_int _)) (se_op sr_eq (se_op sr_ix (se_op sr_ix (se_op sr_ix (se_var 0) (se_int _)) (se_int _)) (se_int _)) (se_str _))))
theorem len_is_text {vs : List V} {H : Hp} {Q : VK} {E : XK} (h : sp_is_text K ca vs H Q E) : vs.length = P_is_text.length := nox_len (N := N_is_text) (P := P_is_text) h
theorem p_is_text (T : Ct K ca) {vs : List V} {H : Hp} {Q : VK} {E : XK} (h : sp_is_text K ca vs H Q E) : t_is_text K ca { nx := fun _ H' => Q .non H', rt := Q } (L2.start N_is_text vs) H := nox_ok (N := N_is_text) (P := P_is_text) (a_is_text T) h
theorem a_need_text (T : Ct K ca) {E : XK} : SS ⟨K, ca, none, none⟩ (fun cls d _ H => E cls d H) (t_need_text K ca E) b_need_text :=
  ss_if (st_not (st_val (se_callN (nox_no _) (sa_cons (se_var 0) (sa_nil))))) (ss_raise (fun _ _ _ _ h => h) (sa_cons (se_var 0) (sa_nil))) (ss_next)
theorem len_need_text {vs : List V} {H : Hp} {Q : VK} {E : XK} (h : sp_need_text K ca vs H Q E) : vs.length = P_need_text.length := run_len (N := N_need_text) (P := P_need_text) h
theorem p_need_text (T : Ct K ca) {vs : List V} {H : Hp} {Q : VK} {E : XK} (h : sp_need_text K ca vs H Q E) : t_need_text K ca E { nx := fun _ H' => Q .non H', rt := Q } (L2.start N_need_text vs) H := run_ok (N := N_need_text) (P := P_need_text) (a_need_text T) h
theorem aq_lines (T : Ct K ca) : SGn ⟨K, ca, none, none⟩ (tq_lines K ca) bq_lines :=
  sgn_seq (sgn_pl (ss_expr (se_call (fun _ _ _ _ h => h) (sa_cons (se_var 0) (sa_nil))))) (sgn_seq (sgn_pl (ss_own (se_lst (sa_nil)))) (sgn_seq (sgn_for (si_iter (se_var 0)) (sg_name 2) (sgn_seq (sgn_if (st_and (st_val (se_op sr_ne (se_op sr_ix (se_var 2) (se_int _)) (se_str _))) (st_val (se_op (sr_cmp _ _) (se_cb sc_len (sa_cons (se_var 1) (sa_nil))) (se_int _)))) (sgn_seq (sgn_ydV 1) (sgn_seq (sgn_pl (ss_own (se_lst (sa_nil)))) (sgn_nil))) (sgn_nil)) (sgn_seq (sgn_pl (ss_app (se_var 2))) (sgn_nil)))) (sgn_seq (sgn_if (st_val (se_op (sr_cmp _ _) (se_cb sc_len (sa_cons (se_var 1) (sa_nil))) (se_int _))) (sgn_seq (sgn_ydV 1) (sgn_nil)) (sgn_nil)) (sgn_nil))))
theorem pq_lines (T : Ct K ca) {Γ : Type} {vs : List V} {H : Hp} {γ : Γ} {YL : YLT Γ} {EN : Hp → Γ → Prop} (h : spq_lines K ca Γ vs H γ YL EN) : ∃ n, tq_lines K ca Γ { nx := fun _ _ H' γ' => EN H' γ', rt := fun _ v H' γ' => v = .non ∧ EN H' γ', yl := YL } n (L2.start N_lines vs) H γ := runQ_ok (N := N_lines) (P := P_lines) (aq_lines T) h
theorem a_lines (T : Ct K ca) {E : XK} : SS ⟨K, ca, none, none⟩ (fun cls d _ H => E cls d H) (t_lines K ca E) b_lines :=
  ss_seq (ss_expr (se_call (fun _ _ _ _ h => h) (sa_cons (se_var 0) (sa_nil)))) (ss_seq (ss_own (se_lst (sa_nil))) (ss_stop))
theorem len_lines {vs : List V} {H : Hp} {Q : VK} {E : XK} (h : sp_lines K ca vs H Q E) : vs.length = P_lines.length := run_len (N := N_lines) (P := P_lines) h
theorem p_lines (T : Ct K ca) {vs : List V} {H : Hp} {Q : VK} {E : XK} (h : sp_lines K ca vs H Q E) : t_lines K ca E { nx := fun _ H' => Q .non H', rt := Q } (L2.start N_lines vs) H := run_ok (N := N_lines) (P := P_lines) (a_lines T) h
theorem a_columns (T : Ct K ca) {E : XK} : SS ⟨K, ca, none, none⟩ (fun cls d _ H => E cls d H) (t_columns K ca E) b_columns :=
  ss_seq (ss_expr (se_call (fun _ _ _ _ h => h) (sa_cons (se_var 0) (sa_nil)))) (ss_seq (ss_own (se_lst (sa_nil))) (ss_seq (ss_for (si_iter (se_var 0)) (sg_ts (sgs_cons (sg_name 2) (sgs_cons (sg_name 3) (sgs_nil)))) (ss_seq (ss_asg (se_if (st_val (se_op sr_eq (se_var 2) (se_str _))) (se_op sr_add (se_op sr_ix (se_var 1) (se_neg (se_int _))) (se_int _)) (se_call (fun _ _ _ _ h => h) (sa_cons (se_var 2) (sa_nil)))) (sg_name 4)) (ss_app (se_op sr_add (se_var 4) (se_cb sc_len (sa_cons (se_var 3) (sa_nil))))))) (ss_retV 1)))
theorem len_columns {vs : List V} {H : Hp} {Q : VK} {E : XK} (h : sp_columns K ca vs H Q E) : vs.length = P_columns.length := run_len (N := N_columns) (P := P_columns) h
theorem p_columns (T : Ct K ca) {vs : List V} {H : Hp} {Q : VK} {E : XK} (h : sp_columns K ca vs H Q E) : t_columns K ca E { nx := fun _ H' => Q .non H', rt := Q } (L2.start N_columns vs) H := run_ok (N := N_columns) (P := P_columns) (a_columns T) h
theorem a_widths (T : Ct K ca) {E : XK} : SS ⟨K, ca, none, none⟩ (fun cls d _ H => E cls d H) (t_widths K ca E) b_widths :=
  ss_seq (ss_asg (se_call (fun _ _ _ _ h => h) (sa_cons (se_var 0) (sa_nil))) (sg_name 1)) (ss_seq (ss_asg (se_lc (si_enum (sa_cons (se_var 0) (sa_nil))) (sg_ts (sgs_cons (sg_name 3) (sgs_cons (sg_name 4) (sgs_nil)))) (st_or (st_val (se_op sr_eq (se_op sr_add (se_var 3) (se_int _)) (se_cb sc_len (sa_cons (se_var 0) (sa_nil))))) (st_val (se_op sr_ne (se_op sr_ix (se_op sr_ix (se_var 0) (se_op sr_add (se_var 3) (se_int _))) (se_int _)) (se_str _)))) (se_var 3)) (sg_name 2)) (ss_ret (se_lc (si_iter (se_var 2)) (sg_name 3) (st_yes) (se_op sr_ix (se_var 1) (se_var 3)))))
theorem len_widths {vs : List V} {H : Hp} {Q : VK} {E : XK} (h : sp_widths K ca vs H Q E) : vs.length = P_widths.length := run_len (N := N_widths) (P := P_widths) h
theorem p_widths (T : Ct K ca) {vs : List V} {H : Hp} {Q : VK} {E : XK} (h : sp_widths K ca vs H Q E) : t_widths K ca E { nx := fun _ H' => Q .non H', rt := Q } (L2.start N_widths vs) H := run_ok (N := N_widths) (P := P_widths) (a_widths T) h
theorem a_place_of (T : Ct K ca) {E : XK} : SS ⟨K, ca, none, none⟩ (fun cls d _ H => E cls d H) (t_place_of K ca E) b_place_of :=
  ss_seq (ss_expr (se_call (fun _ _ _ _ h => h) (sa_cons (se_var 0) (sa_nil)))) (ss_seq (ss_if (st_not (st_val (se_callN (nox_no _) (sa_cons (se_var 1) (sa_cons (se_int _) (sa_cons (se_op sr_sub (se_cb sc_len (sa_cons (se_var 0) (sa_nil))) (se_int _)) (sa_nil))))))) (ss_raise (fun _ _ _ _ h => h) (sa_cons (se_var 1) (sa_nil))) (ss_next)) (ss_seq (ss_asg (se_lc (si_enum (sa_cons (se_var 0) (sa_nil))) (sg_ts (sgs_cons (sg_name 3) (sgs_cons (sg_name 4) (sgs_nil)))) (st_and (st_val (se_op sr_ne (se_op sr_ix (se_var 4) (se_int _)) (se_str _))) (st_val (se_op (sr_cmp _ _) (se_var 3) (se_var 1)))) (se_var 3)) (sg_name 2)) (ss_ret (se_tup (sa_cons (se_op sr_sub (se_cb sc_len (sa_cons (se_var 2) (sa_nil))) (se_int _)) (sa_cons (se_op sr_sub (se_var 1) (se_op sr_ix (se_var 2) (se_neg (se_int _)))) (sa_nil)))))))
theorem len_place_of {vs : List V} {H : Hp} {Q : VK} {E : XK} (h : sp_place_of K ca vs H Q E) : vs.length = P_place_of.length := run_len (N := N_place_of) (P := P_place_of) h
theorem p_place_of (T : Ct K ca) {vs : List V} {H : Hp} {Q : VK} {E : XK} (h : sp_place_of K ca vs H Q E) : t_place_of K ca E { nx := fun _ H' => Q .non H', rt := Q } (L2.start N_place_of vs) H := run_ok (N := N_place_of) (P := P_place_of) (a_place_of T) h
theorem a__law_cell (T : Ct K ca) : SS ⟨K, ca, none, none⟩ NoE (t__law_cell K ca) b__law_cell :=
  ss_seq (ss_if (st_val (se_op (sr_cmp _ _) (se_var 1) (se_cb sc_len (sa_cons (se_var 0) (sa_nil))))) (ss_ret (se_op sr_ix (se_var 0) (se_var 1))) (ss_next)) (ss_ret (se_op sr_add (se_op sr_mul (se_int _) (se_var 1)) (se_int _)))
theorem len__law_cell {vs : List V} {H : Hp} {Q : VK} {E : XK} (h : sp__law_cell K ca vs H Q E) : vs.length = P__law_cell.length := nox_len (N := N__law_cell) (P := P__law_cell) h
theorem p__law_cell (T : Ct K ca) {vs : List V} {H : Hp} {Q : VK} {E : XK} (h : sp__law_cell K ca vs H Q E) : t__law_cell K ca { nx := fun _ H' => Q .non H', rt := Q } (L2.start N__law_cell vs) H := nox_ok (N := N__law_cell) (P := P__law_cell) (a__law_cell T) h
theorem a__law_purse (T : Ct K ca) : SS ⟨K, ca, none, none⟩ NoE (t__law_purse K ca) b__law_purse :=
  ss_ret (se_lst (sa_cons (se_cb sc_max (sa_cons (se_int _) (sa_cons (se_op sr_sub (se_var 0) (se_op sr_pow (se_int _) (se_int _))) (sa_nil)))) (sa_cons (se_op sr_mod (se_var 0) (se_int _)) (sa_cons (se_int _) (sa_nil)))))
theorem len__law_purse {vs : List V} {H : Hp} {Q : VK} {E : XK} (h : sp__law_purse K ca vs H Q E) : vs.length = P__law_purse.length := nox_len (N := N__law_purse) (P := P__law_purse) h
theorem p__law_purse (T : Ct K ca) {vs : List V} {H : Hp} {Q : VK} {E : XK} (h : sp__law_purse K ca vs H Q E) : t__law_purse K ca { nx := fun _ H' => Q .non H', rt := Q } (L2.start N__law_purse vs) H := nox_ok (N := N__law_purse) (P := P__law_purse) (a__law_purse T) h
theorem a__law_take (T : Ct K ca) : SS ⟨K, ca, none, none⟩ NoE (t__law_take K ca) b__law_take :=
  ss_seq (ss_if (st_val (se_op (sr_cmp _ _) (se_op sr_ix (se_var 0) (se_int _)) (se_int _))) (ss_seq (ss_asg (se_op sr_mod (se_op sr_ix (se_var 0) (se_int _)) (se_var 1)) (sg_name 2)) (ss_seq (ss_setI (se_op sr_fdiv (se_op sr_ix (se_var 0) (se_int _)) (se_var 1)) (se_int _)) (ss_retV 2))) (ss_next)) (ss_seq (ss_setI (se_op sr_add (se_op sr_ix (se_var 0) (se_int _)) (se_int _)) (se_int _)) (ss_seq (ss_asg (se_op sr_mod (se_op sr_pow (se_op sr_add (se_op sr_add (se_op sr_ix (se_var 0) (se_int _)) (se_op sr_mul (se_int _) (se_op sr_ix (se_var 0) (se_int _)))) (se_int _)) (se_int _)) (se_int _)) (sg_name 3)) (ss_seq (ss_asg (se_op sr_mod (se_op sr_pow (se_op sr_add (se_var 3) (se_op sr_mul (se_int _) (se_op sr_ix (se_var 0) (se_int _)))) (se_int _)) (se_int _)) (sg_name 3)) (ss_ret (se_op sr_mod (se_op sr_fdiv (se_var 3) (se_int _)) (se_var 1))))))
theorem len__law_take {vs : List V} {H : Hp} {Q : VK} {E : XK} (h : sp__law_take K ca vs H Q E) : vs.length = P__law_take.length := nox_len (N := N__law_take) (P := P__law_take) h
theorem p__law_take (T : Ct K ca) {vs : List V} {H : Hp} {Q : VK} {E : XK} (h : sp__law_take K ca vs H Q E) : t__law_take K ca { nx := fun _ H' => Q .non H', rt := Q } (L2.start N__law_take vs) H := nox_ok (N := N__law_take) (P := P__law_take) (a__law_take T) h
theorem a__law_mark (T : Ct K ca) : SS ⟨K, ca, none, none⟩ NoE (t__law_mark K ca) b__law_mark :=
  ss_seq (ss_if (st_val (se_op sr_eq (se_callN (nox_no _) (sa_cons (se_var 0) (sa_cons (se_int _) (sa_nil)))) (se_int _))) (ss_ret (se_str _)) (ss_next)) (ss_ret (se_op sr_add (se_op sr_ix (se_str _) (se_callN (nox_no _) (sa_cons (se_var 0) (sa_cons (se_int _) (sa_nil))))) (se_op sr_ix (se_str _) (se_callN (nox_no _) (sa_cons (se_var 0) (sa_cons (se_int _) (sa_nil)))))))
theorem len__law_mark {vs : List V} {H : Hp} {Q : VK} {E : XK} (h : sp__law_mark K ca vs H Q E) : vs.length = P__law_mark.length := nox_len (N := N__law_mark) (P := P__law_mark) h
theorem p__law_mark (T : Ct K ca) {vs : List V} {H : Hp} {Q : VK} {E : XK} (h : sp__law_mark K ca vs H Q E) : t__law_mark K ca { nx := fun _ H' => Q .non H', rt := Q } (L2.start N__law_mark vs) H := nox_ok (N := N__law_mark) (P := P__law_mark) (a__law_mark T) h
theorem a__law_word (T : Ct K ca) : SS ⟨K, ca, none, none⟩ NoE (t__law_word K ca) b__law_word :=
  ss_seq (ss_asg (se_str _) (sg_name 2)) (ss_ret (se_m1 sm_join (se_str _) (se_lc (si_rng1 (sa_cons (se_op sr_add (se_int _) (se_callN (nox_no _) (sa_cons (se_var 0) (sa_cons (se_var 1) (sa_nil))))) (sa_nil))) (sg_name 3) (st_yes) (se_op sr_ix (se_var 2) (se_callN (nox_no _) (sa_cons (se_var 0) (sa_cons (se_int _) (sa_nil))))))))
theorem len__law_word {vs : List V} {H : Hp} {Q : VK} {E : XK} (h : sp__law_word K ca vs H Q E) : vs.length = P__law_word.length := nox_len (N := N__law_word) (P := P__law_word) h
theorem p__law_word (T : Ct K ca) {vs : List V} {H : Hp} {Q : VK} {E : XK} (h : sp__law_word K ca vs H Q E) : t__law_word K ca { nx := fun _ H' => Q .non H', rt := Q } (L2.start N__law_word vs) H := nox_ok (N := N__law_word) (P := P__law_word) (a__law_word T) h
theorem a__law_text (T : Ct K ca) : SS ⟨K, ca, none, none⟩ NoE (t__law_text K ca) b__law_text :=
  ss_seq (ss_own (se_lst (sa_nil))) (ss_seq (ss_for (si_rng1 (sa_cons (se_var 1) (sa_nil))) (sg_name 4) (ss_seq (ss_asg (se_if (st_val (se_op (sr_cmp _ _) (se_var 4) (se_int _))) (se_callN (nox_no _) (sa_cons (se_var 0) (sa_nil))) (se_op sr_add (se_str _) (se_op sr_ix (se_str _) (se_callN (nox_no _) (sa_cons (se_var 0) (sa_cons (se_int _) (sa_nil))))))) (sg_name 5)) (ss_app (se_tup (sa_cons (se_var 5) (sa_cons (se_callN (nox_no _) (sa_cons (se_var 0) (sa_cons (se_var 2) (sa_nil)))) (sa_nil))))))) (ss_retV 3))
theorem len__law_text {vs : List V} {H : Hp} {Q : VK} {E : XK} (h : sp__law_text K ca vs H Q E) : vs.length = P__law_text.length := nox_len (N := N__law_text) (P := P__law_text) h
theorem p__law_text (T : Ct K ca) {vs : List V} {H : Hp} {Q : VK} {E : XK} (h : sp__law_text K ca vs H Q E) : t__law_text K ca { nx := fun _ H' => Q .non H', rt := Q } (L2.start N__law_text vs) H := nox_ok (N := N__law_text) (P := P__law_text) (a__law_text T) h
theorem a__law_walked (T : Ct K ca) : SS ⟨K, ca, none, none⟩ NoE (t__law_walked K ca) b__law_walked :=
  ss_seq (ss_asg (se_tup (sa_cons (se_ado (se_lst (sa_nil))) (sa_cons (se_ado (se_lst (sa_nil))) (sa_cons (se_ado (se_lst (sa_nil))) (sa_cons (se_ado (se_lst (sa_nil))) (sa_nil)))))) (sg_ts (sgs_cons (sg_name 1) (sgs_cons (sg_name 2) (sgs_cons (sg_name 3) (sgs_cons (sg_name 4) (sgs_nil))))))) (ss_seq (ss_for (si_iter (se_var 0)) (sg_ts (sgs_cons (sg_name 5) (sgs_cons (sg_name 6) (sgs_nil)))) (ss_seq (ss_if (st_val (se_op sr_eq (se_var 5) (se_str _))) (ss_seq (ss_setI (se_op sr_add (se_op sr_add (se_op sr_ix (se_var 2) (se_neg (se_int _))) (se_int _)) (se_cb sc_len (sa_cons (se_var 6) (sa_nil)))) (se_neg (se_int _))) (ss_setI (se_op sr_add (se_op sr_ix (se_var 1) (se_neg (se_int _))) (se_lst (sa_cons (se_tup (sa_cons (se_var 5) (sa_cons (se_var 6) (sa_nil)))) (sa_nil)))) (se_neg (se_int _)))) (ss_seq (ss_app (se_op sr_add (se_m1 sm_find (se_str _) (se_op sr_ix (se_var 5) (se_int _))) (se_cb sc_len (sa_cons (se_var 6) (sa_nil))))) (ss_app (se_lst (sa_cons (se_tup (sa_cons (se_var 5) (sa_cons (se_var 6) (sa_nil)))) (sa_nil)))))) (ss_seq (ss_app (se_op sr_ix (se_var 2) (se_neg (se_int _)))) (ss_app (se_tup (sa_cons (se_op sr_sub (se_cb sc_len (sa_cons (se_var 1) (sa_nil))) (se_int _)) (sa_cons (se_op sr_sub (se_cb sc_len (sa_cons (se_op sr_ix (se_var 1) (se_neg (se_int _))) (sa_nil))) (se_int _)) (sa_nil)))))))) (ss_frz 2 (ss_frz 3 (ss_frz 1 (ss_frz 4 (ss_ret (se_lst (sa_cons (se_var 1) (sa_cons (se_var 2) (sa_cons (se_var 3) (sa_cons (se_var 4) (sa_nil))))))))))))
theorem len__law_walked {vs : List V} {H : Hp} {Q : VK} {E : XK} (h : sp__law_walked K ca vs H Q E) : vs.length = P__law_walked.length := nox_len (N := N__law_walked) (P := P__law_walked) h
theorem p__law_walked (T : Ct K ca) {vs : List V} {H : Hp} {Q : VK} {E : XK} (h : sp__law_walked K ca vs H Q E) : t__law_walked K ca { nx := fun _ H' => Q .non H', rt := Q } (L2.start N__law_walked vs) H := nox_ok (N := N__law_walked) (P := P__law_walked) (a__law_walked T) h
theorem a__law_refused (T : Ct K ca) : SS ⟨K, ca, none, none⟩ NoE (t__law_refused K ca) b__law_refused :=
  ss_seq (ss_asg (se_lst (sa_nil)) (sg_name 3)) (ss_seq (ss_try (hem_ T) (fun W => ss_if (st_val (se_op sr_eq (se_var 0) (se_int _))) (ss_forGr (hns_lines T) (se_callS (sa_cons (se_var 1) (sa_nil)))) (ss_if (st_val (se_op sr_eq (se_var 0) (se_int _))) (ss_expr (se_callS (sa_cons (se_var 1) (sa_nil)))) (ss_if (st_val (se_op sr_eq (se_var 0) (se_int _))) (ss_expr (se_callS (sa_cons (se_var 1) (sa_nil)))) (ss_expr (se_callS (sa_cons (se_var 1) (sa_cons (se_var 2) (sa_nil)))))))) (.cons rfl rfl (fun a dd c => ss_asg (se_op sr_add (se_var 3) (se_lst (sa_cons (se_str _) (sa_cons (se_xf 5 "value" rfl (hxf_ T)) (sa_nil))))) (sg_name 3)) (.cons rfl rfl (fun a dd c => ss_asg (se_lst (sa_cons (se_str _) (sa_cons (se_xf 5 "value" rfl (hxf_ T)) (sa_nil)))) (sg_name 3)) (.nil)))) (ss_retV 3))
theorem len__law_refused {vs : List V} {H : Hp} {Q : VK} {E : XK} (h : sp__law_refused K ca vs H Q E) : vs.length = P__law_refused.length := nox_len (N := N__law_refused) (P := P__law_refused) h
theorem p__law_refused (T : Ct K ca) {vs : List V} {H : Hp} {Q : VK} {E : XK} (h : sp__law_refused K ca vs H Q E) : t__law_refused K ca { nx := fun _ H' => Q .non H', rt := Q } (L2.start N__law_refused vs) H := nox_ok (N := N__law_refused) (P := P__law_refused) (a__law_refused T) h
theorem a__law_right (T : Ct K ca) : SS ⟨K, ca, none, none⟩ NoE (t__law_right K ca) b__law_right :=
  ss_seq (ss_asg (se_callN (nox_no _) (sa_cons (se_var 0) (sa_cons (se_int _) (sa_nil)))) (sg_name 1)) (ss_seq (ss_if (st_val (se_op sr_eq (se_callN (nox_no _) (sa_cons (se_var 0) (sa_cons (se_int _) (sa_nil)))) (se_int _))) (ss_asg (se_op sr_add (se_int _) (se_callN (nox_no _) (sa_cons (se_var 0) (sa_cons (se_int _) (sa_nil))))) (sg_name 1)) (ss_next)) (ss_seq (ss_asg (se_callN (nox_no _) (sa_cons (se_var 0) (sa_cons (se_var 1) (sa_cons (se_op sr_ix (se_lst (sa_cons (se_int _) (sa_cons (se_int _) (sa_nil)))) (se_callN (nox_no _) (sa_cons (se_var 0) (sa_cons (se_int _) (sa_nil))))) (sa_nil))))) (sg_name 2)) (ss_seq (ss_if (st_val (se_op sr_eq (se_callN (nox_no _) (sa_cons (se_var 0) (sa_cons (se_int _) (sa_nil)))) (se_int _))) (ss_asg (se_op sr_add (se_sl (se_var 2) (so_none) (so_some (se_int _))) (se_lc (si_iter (se_sl (se_var 2) (so_some (se_int _)) (so_none))) (sg_ts (sgs_cons (sg_name 14) (sgs_cons (sg_name 13) (sgs_nil)))) (st_yes) (se_tup (sa_cons (se_str _) (sa_cons (se_var 13) (sa_nil)))))) (sg_name 2)) (ss_next)) (ss_seq (ss_asg (se_callN (nox_no _) (sa_cons (se_var 2) (sa_nil))) (sg_name 3)) (ss_seq (ss_asg (se_op sr_ix (se_lst (sa_cons (se_var 2) (sa_cons (se_cb sc_tuple (sa_cons (se_var 2) (sa_nil))) (sa_nil)))) (se_callN (nox_no _) (sa_cons (se_var 0) (sa_cons (se_int _) (sa_nil))))) (sg_name 4)) (ss_seq (ss_for (si_rng1 (sa_cons (se_int _) (sa_nil))) (sg_name 5) (ss_seq (ss_asg (se_lst (sa_cons (se_ado (se_lcQ (fun ds h => runQ_ar h) (sa_cons (se_var 4) (sa_nil)))) (sa_cons (se_ado (se_call (fun _ _ _ _ h => h) (sa_cons (se_var 4) (sa_nil)))) (sa_cons (se_ado (se_call (fun _ _ _ _ h => h) (sa_cons (se_var 4) (sa_nil)))) (sa_nil))))) (sg_name 6)) (ss_seq (ss_if (st_or (st_val (se_op sr_ne (se_var 6) (se_sl (se_var 3) (so_none) (so_some (se_int _))))) (st_not (st_val (se_cb sc_all (sa_cons (se_lc (si_iter (se_op sr_ix (se_var 6) (se_int _))) (sg_name 15) (st_yes) (se_isi .lst (se_var 15))) (sa_nil)))))) (ss_ret (se_bl _)) (ss_next)) (ss_for (si_iter (se_op sr_add (se_op sr_ix (se_var 6) (se_int _)) (se_var 6))) (sg_name 7) (ss_app (se_int _)))))) (ss_seq (ss_for (si_rng1 (sa_cons (se_int _) (sa_nil))) (sg_name 5) (ss_if (st_val (se_op (sr_cmp _ _) (se_var 1) (se_int _))) (ss_seq (ss_asg (se_callN (nox_no _) (sa_cons (se_var 0) (sa_cons (se_var 1) (sa_nil)))) (sg_name 8)) (ss_seq (ss_asg (se_call (fun _ _ _ _ h => h) (sa_cons (se_var 4) (sa_cons (se_var 8) (sa_nil)))) (sg_name 6)) (ss_if (st_or (st_val (se_op sr_ne (se_var 6) (se_op sr_ix (se_op sr_ix (se_var 3) (se_int _)) (se_var 8)))) (st_not (st_val (se_isi .tup (se_var 6))))) (ss_ret (se_bl _)) (ss_next)))) (ss_next))) (ss_seq (ss_asg (se_op sr_ix (se_lst (sa_cons (se_non) (sa_cons (se_bl _) (sa_cons (se_str _) (sa_cons (se_neg (se_int _)) (sa_cons (se_var 1) (sa_cons (se_op sr_add (se_var 1) (se_op sr_pow (se_int _) (se_int _))) (sa_cons (se_neg (se_op sr_pow (se_int _) (se_int _))) (sa_cons (se_tup (sa_cons (se_int _) (sa_nil))) (sa_cons (se_lst (sa_nil)) (sa_cons (se_bl _) (sa_nil)))))))))))) (se_callN (nox_no _) (sa_cons (se_var 0) (sa_cons (se_int _) (sa_nil))))) (sg_name 9)) (ss_seq (ss_if (st_val (se_op sr_ne (se_cb sc_repr (sa_cons (se_callN (nox_no _) (sa_cons (se_int _) (sa_cons (se_var 4) (sa_cons (se_var 9) (sa_nil))))) (sa_nil))) (se_cb sc_repr (sa_cons (se_lst (sa_cons (se_str _) (sa_cons (se_var 9) (sa_nil)))) (sa_nil))))) (ss_ret (se_bl _)) (ss_next)) (ss_seq (ss_asg (se_callN (nox_no _) (sa_cons (se_var 0) (sa_cons (se_op sr_add (se_var 1) (se_int _)) (sa_nil)))) (sg_name 10)) (ss_seq (ss_asg (se_lst (sa_cons (se_op sr_add (se_var 2) (se_lst (sa_cons (se_tup (sa_cons (se_str _) (sa_cons (se_str _) (sa_nil)))) (sa_nil)))) (sa_cons (se_op sr_add (se_lst (sa_cons (se_tup (sa_cons (se_str _) (sa_cons (se_str _) (sa_nil)))) (sa_nil))) (se_var 2)) (sa_cons (se_op sr_add (se_var 2) (se_lst (sa_cons (se_tup (sa_cons (se_str _) (sa_cons (se_str _) (sa_nil)))) (sa_nil)))) (sa_cons (se_str _) (sa_cons (se_non) (sa_cons (se_dnew) (sa_cons (se_lst (sa_cons (se_var 2) (sa_nil))) (sa_cons (se_lst (sa_cons (se_lst (sa_cons (se_str _) (sa_cons (se_str _) (sa_nil)))) (sa_nil))) (sa_nil)))))))))) (sg_name 11)) (ss_seq (ss_asg (se_op sr_add (se_var 11) (se_lst (sa_cons (se_op sr_add (se_op sr_add (se_sl (se_var 2) (so_none) (so_some (se_var 10))) (se_lst (sa_cons (se_tup (sa_cons (se_str _) (sa_cons (se_str _) (sa_nil)))) (sa_nil)))) (se_sl (se_var 2) (so_some (se_var 10)) (so_none))) (sa_cons (se_op sr_add (se_op sr_add (se_sl (se_var 2) (so_none) (so_some (se_var 10))) (se_lst (sa_cons (se_tup (sa_cons (se_str _) (sa_cons (se_str _) (sa_nil)))) (sa_nil)))) (se_sl (se_var 2) (so_some (se_var 10)) (so_none))) (sa_nil))))) (sg_name 11)) (ss_seq (ss_asg (se_op sr_ix (se_var 11) (se_callN (nox_no _) (sa_cons (se_var 0) (sa_cons (se_int _) (sa_nil))))) (sg_name 11)) (ss_ret (se_cb sc_all (sa_cons (se_lc (si_rng1 (sa_cons (se_int _) (sa_nil))) (sg_name 12) (st_yes) (se_op sr_eq (se_cb sc_repr (sa_cons (se_callN (nox_no _) (sa_cons (se_var 12) (sa_cons (se_var 11) (sa_cons (se_var 9) (sa_nil))))) (sa_nil))) (se_cb sc_repr (sa_cons (se_lst (sa_cons (se_str _) (sa_cons (se_var 11) (sa_nil)))) (sa_nil))))) (sa_nil)))))))))))))))))
theorem len__law_right {vs : List V} {H : Hp} {Q : VK} {E : XK} (h : sp__law_right K ca vs H Q E) : vs.length = P__law_right.length := nox_len (N := N__law_right) (P := P__law_right) h
theorem p__law_right (T : Ct K ca) {vs : List V} {H : Hp} {Q : VK} {E : XK} (h : sp__law_right K ca vs H Q E) : t__law_right K ca { nx := fun _ H' => Q .non H', rt := Q } (L2.start N__law_right vs) H := nox_ok (N := N__law_right) (P := P__law_right) (a__law_right T) h
theorem a_law (T : Ct K ca) : SS ⟨K, ca, none, none⟩ NoE (t_law K ca) b_law :=
  ss_seq (ss_for (si_rng1 (sa_cons (se_cb sc_max (sa_cons (se_int _) (sa_cons (se_cb sc_min (sa_cons (se_int _) (sa_cons (se_cb sc_len (sa_cons (se_var 0) (sa_nil))) (sa_nil)))) (sa_nil)))) (sa_nil))) (sg_name 1) (ss_if (st_not (st_val (se_callN (nox_no _) (sa_cons (se_ado (se_callN (nox_no _) (sa_cons (se_callN (nox_no _) (sa_cons (se_var 0) (sa_cons (se_var 1) (sa_nil)))) (sa_nil)))) (sa_nil))))) (ss_ret (se_bl _)) (ss_next))) (ss_ret (se_bl _))
theorem len_law {vs : List V} {H : Hp} {Q : VK} {E : XK} (h : sp_law K ca vs H Q E) : vs.length = P_law.length := nox_len (N := N_law) (P := P_law) h
theorem p_law (T : Ct K ca) {vs : List V} {H : Hp} {Q : VK} {E : XK} (h : sp_law K ca vs H Q E) : t_law K ca { nx := fun _ H' => Q .non H', rt := Q } (L2.start N_law vs) H := nox_ok (N := N_law) (P := P_law) (a_law T) h
end
section
variable {P : Program} {w : World} {K : PySem.W.Frag} {mg : Str → Option Value} {base : Heap} {a : Nat → Addr} {d : Nat → FuncData} {ca : Nat → Addr}
theorem okI_InvalidMark (T : Tx P K mg a d ca) : FnOk P w K mg base CX0 1 (a 22) (d 22) ["self", "value"] (U.spI (ca 1) "value") :=
  T.F_InvalidMark.ok scI_InvalidMark (fun vs H Q E h => U.len_spI h) (fun cdv A outer s H vs Q E hr h => ⟨U.tI K "value" "not a mark", pss_cons (ps_expr (U.pe_binit T.y_ReflowError rfl T.w_ReflowError (pa_cons (U.pu 0) (pa_cons pe_str pa_nil)))) (pss_one (ps_ost (U.pu 0) (U.pu 1))), U.p_init T.x_InvalidMark h⟩)
theorem okI_InvalidText (T : Tx P K mg a d ca) : FnOk P w K mg base CX0 1 (a 23) (d 23) ["self", "value"] (U.spI (ca 2) "value") :=
  T.F_InvalidText.ok scI_InvalidText (fun vs H Q E h => U.len_spI h) (fun cdv A outer s H vs Q E hr h => ⟨U.tI K "value" "not a text, or not the writing of one", pss_cons (ps_expr (U.pe_binit T.y_ReflowError rfl T.w_ReflowError (pa_cons (U.pu 0) (pa_cons pe_str pa_nil)))) (pss_one (ps_ost (U.pu 0) (U.pu 1))), U.p_init T.x_InvalidText h⟩)
theorem okI_InvalidInteger (T : Tx P K mg a d ca) : FnOk P w K mg base CX0 1 (a 24) (d 24) ["self", "value"] (U.spI (ca 3) "value") :=
  T.F_InvalidInteger.ok scI_InvalidInteger (fun vs H Q E h => U.len_spI h) (fun cdv A outer s H vs Q E hr h => ⟨U.tI K "value" "not an integer that is asked for", pss_cons (ps_expr (U.pe_binit T.y_ReflowError rfl T.w_ReflowError (pa_cons (U.pu 0) (pa_cons pe_str pa_nil)))) (pss_one (ps_ost (U.pu 0) (U.pu 1))), U.p_init T.x_InvalidInteger h⟩)
theorem v_is_integer (T : Tx P K mg a d ca)       {fa : Addr} {cdv : Value} {A : Around} {outer : List Env} {s : Shared} {H : Hp} {E : XK} (hr : Room 0 (A.deeper (envOfC "is_integer" (defScope s_is_integer) s.heap.objs.size fa cdv))) :
    PSs ((cxOf CX0 P w K mg base N_is_integer "is_integer" (defScope s_is_integer) fa cdv A outer s H E).nox) (defBody s_is_integer) (t_is_integer K ca) :=
  pss_one (ps_ret (pue_and (pue_isi .int (pu 0) rfl T.z_isinstance rfl T.z_int (by decide +kernel)) (pue_and (pue_not (pue_isi .bl (pu 0) rfl T.z_isinstance rfl T.z_bool (by decide +kernel))) (pe_one (pue_chain ou_le ou_le (pu 1) (pu 0) (pu 2))))))
theorem v_is_word (T : Tx P K mg a d ca)       {fa : Addr} {cdv : Value} {A : Around} {outer : List Env} {s : Shared} {H : Hp} {E : XK} (hr : Room 0 (A.deeper (envOfC "is_word" (defScope s_is_word) s.heap.objs.size fa cdv))) :
    PSs ((cxOf CX0 P w K mg base N_is_word "is_word" (defScope s_is_word) fa cdv A outer s H E).nox) (defBody s_is_word) (t_is_word K ca) :=
  pss_cons (pus_if (PW.pt (puw_or (put_not (put_val (pue_isi .str (pu 0) rfl T.z_isinstance rfl T.z_str (by decide +kernel)))) (pw_or1 (put_not (put_chain ou_le ou_le (pe_int) (pe_callB cu_len (by rfl) T.z_len (by decide +kernel) (pa_cons (pu 0) (pa_nil))) (pe_glob rfl T.c_MOST_LETTERS.choose_spec ⟨_, rfl⟩)))))) (pss_one (ps_ret (pe_bl))) (pss_nil)) (pss_one (ps_ret (pe_callB (cu_all rfl) (by rfl) T.z_all (by decide +kernel) (pa_cons (pe_lc (own := [("sign", 1)]) (g := gName 1) (tt := tYes) (te := tOp (uIn K false) (uVar 1) (tC (.str "abcdefghijklmnopqrstuvwxyz"))) rfl sc_is_word.nd (piu (pu 0)) (blkOk_by (own := [("sign", 1)]) (N := N_is_word) (sc := defScope s_is_word) (by decide +kernel)) (fun _ _ _ _ _ => pg_name (i := 1) sc_is_word.nd rfl (Or.inl rfl)) (fun _ _ _ _ _ => pts_nil) (fun _ _ _ _ _ => pe_cmpR ou_in (pu 1) (pe_glob rfl T.c_LETTERS.choose_spec ⟨_, rfl⟩) (by rfl))) (pa_nil)))))
theorem v_is_mark (T : Tx P K mg a d ca)       {fa : Addr} {cdv : Value} {A : Around} {outer : List Env} {s : Shared} {H : Hp} {E : XK} (hr : Room 0 (A.deeper (envOfC "is_mark" (defScope s_is_mark) s.heap.objs.size fa cdv))) :
    PSs ((cxOf CX0 P w K mg base N_is_mark "is_mark" (defScope s_is_mark) fa cdv A outer s H E).nox) (defBody s_is_mark) (t_is_mark K ca) :=
  pss_cons (pus_if (put_not (put_val (pue_isi .str (pu 0) rfl T.z_isinstance rfl T.z_str (by decide +kernel)))) (pss_one (ps_ret (pe_bl))) (pss_nil)) (pss_one (ps_ret (pue_or (pe_cmpR (ou_eq2 hr.units) (pu 0) (pe_str) (nomark _)) (pe_one (pue_and (pe_cmpR (ou_eq2 hr.units) (pe_callB cu_len (by rfl) T.z_len (by decide +kernel) (pa_cons (pu 0) (pa_nil))) (pe_int) (nomark _)) (pue_and (pe_cmpR ou_in (pe_ix iu_ix (pu 0) (pe_int) (fun _ _ => rfl)) (pe_glob rfl T.c_KINDS.choose_spec ⟨_, rfl⟩) (by rfl)) (pe_one (pe_cmpR ou_in (pe_ix iu_ix (pu 0) (pe_int) (fun _ _ => rfl)) (pe_str) (by rfl)))))))))
theorem v_is_token (T : Tx P K mg a d ca) (G_is_word : FnOk P w K mg base CX0 1 (a 1) (d 1) P_is_word (sp_is_word K ca)) (G_is_mark : FnOk P w K mg base CX0 1 (a 2) (d 2) P_is_mark (sp_is_mark K ca))      {fa : Addr} {cdv : Value} {A : Around} {outer : List Env} {s : Shared} {H : Hp} {E : XK} (hr : Room 1 (A.deeper (envOfC "is_token" (defScope s_is_token) s.heap.objs.size fa cdv))) :
    PSs ((cxOf CX0 P w K mg base N_is_token "is_token" (defScope s_is_token) fa cdv A outer s H E).nox) (defBody s_is_token) (t_is_token K ca) :=
  pss_one (ps_ret (pue_and (pue_isi .tup (pu 0) rfl T.z_isinstance rfl T.z_tuple (by decide +kernel)) (pue_and (pe_cmpR (ou_eq2 hr.units) (pe_callB cu_len (by rfl) T.z_len (by decide +kernel) (pa_cons (pu 0) (pa_nil))) (pe_int) (nomark _)) (pue_and (pe_call G_is_mark (hr.mono (by decide)) rfl T.m_is_mark T.f_is_mark.kp T.b_is_mark .nil pass0 (pa_cons (pe_ix iu_ix (pu 0) (pe_int) (fun _ _ => rfl)) (pa_nil))) (pe_one (pe_call G_is_word (hr.mono (by decide)) rfl T.m_is_word T.f_is_word.kp T.b_is_word .nil pass0 (pa_cons (pe_ix iu_ix (pu 0) (pe_int) (fun _ _ => rfl)) (pa_nil))))))))
theorem v_need_mark (T : Tx P K mg a d ca) (G_is_mark : FnOk P w K mg base CX0 1 (a 2) (d 2) P_is_mark (sp_is_mark K ca))  (I_InvalidMark : FnOk P w K mg base CX0 1 (a 22) (d 22) ["self", "value"] (U.spI (ca 1) "value"))    {fa : Addr} {cdv : Value} {A : Around} {outer : List Env} {s : Shared} {H : Hp} {E : XK} (hr : Room 2 (A.deeper (envOfC "need_mark" (defScope s_need_mark) s.heap.objs.size fa cdv))) :
    PSs (cxOf (L2.CX P w) P w K mg base N_need_mark "need_mark" (defScope s_need_mark) fa cdv A outer s H E) (defBody s_need_mark) (t_need_mark K ca E) :=
  pss_one (pus_if (put_not (put_val (pe_call G_is_mark (hr.mono (by decide)) rfl T.m_is_mark T.f_is_mark.kp T.b_is_mark .nil pass0 (pa_cons (pu 0) (pa_nil))))) (pss_one (ps_raiseu rfl (takes_of rfl rfl rfl rfl) (pmku T.x_InvalidMark I_InvalidMark (hr.mono (by decide)) T.i_InvalidMark pass0 rfl (pa_cons (pu 0) (pa_nil))))) (pss_nil))
theorem v_indent_of (T : Tx P K mg a d ca) (G_need_mark : FnOk P w K mg base (L2.CX P w) 3 (a 4) (d 4) P_need_mark (sp_need_mark K ca))      {fa : Addr} {cdv : Value} {A : Around} {outer : List Env} {s : Shared} {H : Hp} {E : XK} (hr : Room 3 (A.deeper (envOfC "indent_of" (defScope s_indent_of) s.heap.objs.size fa cdv))) :
    PSs (cxOf (L2.CX P w) P w K mg base N_indent_of "indent_of" (defScope s_indent_of) fa cdv A outer s H E) (defBody s_indent_of) (t_indent_of K ca E) :=
  pss_cons (ps_expr (pe_call G_need_mark (hr.mono (by decide)) rfl T.m_need_mark T.f_need_mark.kp T.b_need_mark .nil (passes_call (takes_of rfl rfl rfl rfl) (fun _ _ _ _ h => h)) (pa_cons (pu 0) (pa_nil)))) (pss_one (ps_ret (pue_if (put_cmp (ou_eq2 hr.units) (pu 0) (pe_str) (nomark _)) (pe_int) (pe_callTy cu_int (by rfl) T.z_int (by decide +kernel) (pa_cons (pe_ix iu_ix (pu 0) (pe_int) (fun _ _ => rfl)) (pa_nil))))))
theorem v_is_text (T : Tx P K mg a d ca) (G_is_token : FnOk P w K mg base CX0 2 (a 3) (d 3) P_is_token (sp_is_token K ca))      {fa : Addr} {cdv : Value} {A : Around} {outer : List Env} {s : Shared} {H : Hp} {E : XK} (hr : Room 2 (A.deeper (envOfC "is_text" (defScope s_is_text) s.heap.objs.size fa cdv))) :
    PSs ((cxOf CX0 P w K mg base N_is_text "is_text" (defScope s_is_text) fa cdv A outer s H E).nox) (defBody s_is_text) (t_is_text K ca) :=
  pss_cons (pus_if (PW.pt (puw_or (put_not (put_val (pe_callB (cu_isiT [.lst, .tup]) rfl T.z_isinstance (by decide +kernel) (pa_cons (pu 0) (pa_cons (pe_tup (pa_cons (pe_bltn rfl T.z_list (by decide +kernel) rfl) (pa_cons (pe_bltn rfl T.z_tuple (by decide +kernel) rfl) (pa_nil)))) pa_nil))))) (pw_or1 (put_not (put_val (pe_callB (cu_all rfl) (by rfl) T.z_all (by decide +kernel) (pa_cons (pe_lc (own := [("token", 1)]) (g := gName 1) (tt := tYes) (te := tCall (sp_is_token K ca) [] E0 (tCons (uVar 1) (tNil))) rfl sc_is_text.nd (piu (pu 0)) (blkOk_by (own := [("token", 1)]) (N := N_is_text) (sc := defScope s_is_text) (by decide +kernel)) (fun _ _ _ _ _ => pg_name (i := 1) sc_is_text.nd rfl (Or.inl rfl)) (fun _ _ _ _ _ => pts_nil) (fun _ _ _ _ _ => pe_call G_is_token (hr.mono (by decide)) rfl T.m_is_token T.f_is_token.kp T.b_is_token .nil pass0 (pa_cons (pu 1) (pa_nil)))) (pa_nil)))))))) (pss_one (ps_ret (pe_bl))) (pss_nil)) (pss_one (ps_ret (pue_or (pe_cmpR (ou_eq2 hr.units) (pe_callB cu_len (by rfl) T.z_len (by decide +kernel) (pa_cons (pu 0) (pa_nil))) (pe_int) (nomark _)) (pe_one (pe_cmpR (ou_eq2 hr.units) (pe_ix iu_ix (pe_ix iu_ix (pe_ix iu_ix (pu 0) (pe_int) (fun _ _ => rfl)) (pe_int) (fun _ _ => rfl)) (pe_int) (fun _ _ => rfl)) (pe_str) (nomark _))))))
theorem v_need_text (T : Tx P K mg a d ca) (G_is_text : FnOk P w K mg base CX0 3 (a 6) (d 6) P_is_text (sp_is_text K ca))  (I_InvalidText : FnOk P w K mg base CX0 1 (a 23) (d 23) ["self", "value"] (U.spI (ca 2) "value"))    {fa : Addr} {cdv : Value} {A : Around} {outer : List Env} {s : Shared} {H : Hp} {E : XK} (hr : Room 3 (A.deeper (envOfC "need_text" (defScope s_need_text) s.heap.objs.size fa cdv))) :
    PSs (cxOf (L2.CX P w) P w K mg base N_need_text "need_text" (defScope s_need_text) fa cdv A outer s H E) (defBody s_need_text) (t_need_text K ca E) :=
  pss_one (pus_if (put_not (put_val (pe_call G_is_text (hr.mono (by decide)) rfl T.m_is_text T.f_is_text.kp T.b_is_text .nil pass0 (pa_cons (pu 0) (pa_nil))))) (pss_one (ps_raiseu rfl (takes_of rfl rfl rfl rfl) (pmku T.x_InvalidText I_InvalidText (hr.mono (by decide)) T.i_InvalidText pass0 rfl (pa_cons (pu 0) (pa_nil))))) (pss_nil))
theorem vq_lines (T : Tx P K mg a d ca) (G_need_text : FnOk P w K mg base (L2.CX P w) 4 (a 7) (d 7) P_need_text (sp_need_text K ca))      {fa : Addr} {cdv : Value} {A : Around} {outer : List Env} {s : Shared} {H : Hp} {pn : List (Addr × Obj)} {Γ : Type} (gx : GX (gcxOf P w K mg base N_lines "lines" (defScope s_lines) fa cdv A outer s H noX pn)) (hr : Room 4 (A.deeper (envOfC "lines" (defScope s_lines) s.heap.objs.size fa cdv))) :
    GSs1 Γ (gcxOf P w K mg base N_lines "lines" (defScope s_lines) fa cdv A outer s H noX pn) (defBody s_lines) (tq_lines K ca Γ) :=
  gss1_cons (gs1_ps (fun sj Hj => ps_expr (pe_call G_need_text (hr.mono (by decide)) rfl T.m_need_text T.f_need_text.kp T.b_need_text .nil passL (pa_cons (pu 0) (pa_nil))))) (gss1_cons (gs1_ps (fun sj Hj => ps_set (i := 1) sc_lines.nd rfl (Or.inl rfl) (pe_lst (pa_nil)))) (gss1_cons (gs1_for gx rfl (fun sj Hj => piu (pu 0)) (fun sj Hj => pg_name (i := 2) sc_lines.nd rfl (Or.inl rfl)) (gss1_cons (gs1_if (fun sj Hj => PW.pt (puw_and (put_cmp (ou_ne2 hr.units) (pe_ix iu_ix (pu 2) (pe_int) (fun _ _ => rfl)) (pe_str) (nomark _)) (pw_and1 (put_cmp ou_gt (pe_callB cu_len (by rfl) T.z_len (by decide +kernel) (pa_cons (pu 1) (pa_nil))) (pe_int) (nomark _))))) (gss1_cons (gs1_yield gx (fun sj Hj => pu 1)) (gss1_cons (gs1_ps (fun sj Hj => ps_set (i := 1) sc_lines.nd rfl (Or.inl rfl) (pe_lst (pa_nil)))) (gss1_nil))) (gss1_nil)) (gss1_cons (gs1_ps (fun sj Hj => ps_expr (pe_bm PySem.F.plainAttrs_list PySem.F.slot_list_append PySem.F.type_list_append mu_append (pu 1) (pa_cons (pu 2) (pa_nil))))) (gss1_nil)))) (gss1_cons (gs1_if (fun sj Hj => put_cmp ou_gt (pe_callB cu_len (by rfl) T.z_len (by decide +kernel) (pa_cons (pu 1) (pa_nil))) (pe_int) (nomark _)) (gss1_cons (gs1_yield gx (fun sj Hj => pu 1)) (gss1_nil)) (gss1_nil)) (gss1_nil))))
theorem v_lines (T : Tx P K mg a d ca) (G_need_text : FnOk P w K mg base (L2.CX P w) 4 (a 7) (d 7) P_need_text (sp_need_text K ca))      {fa : Addr} {cdv : Value} {A : Around} {outer : List Env} {s : Shared} {H : Hp} {E : XK} {pn : List (Addr × Obj)} (hr : Room 4 (A.deeper (envOfC "lines" (defScope s_lines) s.heap.objs.size fa cdv))) :
    GBr (gcxOf P w K mg base N_lines "lines" (defScope s_lines) fa cdv A outer s H E pn) (defBody s_lines) (t_lines K ca E) :=
  gbr_cons (ps_expr (pe_call G_need_text (hr.mono (by decide)) rfl T.m_need_text T.f_need_text.kp T.b_need_text .nil (passes_call takes_gcx (fun _ _ _ _ h => h)) (pa_cons (pu 0) (pa_nil)))) (gbr_cons (ps_set (i := 1) sc_lines.nd rfl (Or.inl rfl) (pe_lst (pa_nil))) (gbr_stop))
theorem v_columns (T : Tx P K mg a d ca) (G_indent_of : FnOk P w K mg base (L2.CX P w) 4 (a 5) (d 5) P_indent_of (sp_indent_of K ca)) (G_need_text : FnOk P w K mg base (L2.CX P w) 4 (a 7) (d 7) P_need_text (sp_need_text K ca))      {fa : Addr} {cdv : Value} {A : Around} {outer : List Env} {s : Shared} {H : Hp} {E : XK} (hr : Room 4 (A.deeper (envOfC "columns" (defScope s_columns) s.heap.objs.size fa cdv))) :
    PSs (cxOf (L2.CX P w) P w K mg base N_columns "columns" (defScope s_columns) fa cdv A outer s H E) (defBody s_columns) (t_columns K ca E) :=
  pss_cons (ps_expr (pe_call G_need_text (hr.mono (by decide)) rfl T.m_need_text T.f_need_text.kp T.b_need_text .nil (passes_call (takes_of rfl rfl rfl rfl) (fun _ _ _ _ h => h)) (pa_cons (pu 0) (pa_nil)))) (pss_cons (ps_set (i := 1) sc_columns.nd rfl (Or.inl rfl) (pe_lst (pa_nil))) (pss_cons (ps_for (passes_of rfl) rfl (piu (pu 0)) (pg_ts rfl (pgs_cons (pg_name (i := 2) sc_columns.nd rfl (Or.inl rfl)) (pgs_cons (pg_name (i := 3) sc_columns.nd rfl (Or.inl rfl)) (pgs_nil)))) (pss_cons (ps_set (i := 4) sc_columns.nd rfl (Or.inl rfl) (pue_if (put_cmp (ou_eq2 hr.units) (pu 2) (pe_str) (nomark _)) (pe_op ou_add (pe_ix iu_ix (pu 1) (pe_un ou_neg (pe_int)) (fun _ _ => rfl)) (pe_int)) (pe_call G_indent_of (hr.mono (by decide)) rfl T.m_indent_of T.f_indent_of.kp T.b_indent_of .nil (passes_call (takes_of rfl rfl rfl rfl) (fun _ _ _ _ h => h)) (pa_cons (pu 2) (pa_nil))))) (pss_one (ps_expr (pe_bm PySem.F.plainAttrs_list PySem.F.slot_list_append PySem.F.type_list_append mu_append (pu 1) (pa_cons (pe_op ou_add (pu 4) (pe_callB cu_len (by rfl) T.z_len (by decide +kernel) (pa_cons (pu 3) (pa_nil)))) (pa_nil))))))) (pss_one (ps_ret (pu 1)))))
theorem v_widths (T : Tx P K mg a d ca) (G_columns : FnOk P w K mg base (L2.CX P w) 5 (a 9) (d 9) P_columns (sp_columns K ca))      {fa : Addr} {cdv : Value} {A : Around} {outer : List Env} {s : Shared} {H : Hp} {E : XK} (hr : Room 5 (A.deeper (envOfC "widths" (defScope s_widths) s.heap.objs.size fa cdv))) :
    PSs (cxOf (L2.CX P w) P w K mg base N_widths "widths" (defScope s_widths) fa cdv A outer s H E) (defBody s_widths) (t_widths K ca E) :=
  pss_cons (ps_set (i := 1) sc_widths.nd rfl (Or.inr rfl) (pe_call G_columns (hr.mono (by decide)) rfl T.m_columns T.f_columns.kp T.b_columns .nil (passes_call (takes_of rfl rfl rfl rfl) (fun _ _ _ _ h => h)) (pa_cons (pu 0) (pa_nil)))) (pss_cons (ps_setLc (i := 2) (own := [("index", 3), ("token", 4)]) (g := gTs K 2 (gCons (gName 3) (gCons (gName 4) (gNil)))) (tt := uOr (uT (tOp (uEq2 K) (tOp (uAdd K) (uVar 3) (tC (.int 1))) (tCB (uLen K) (tCons (uVar 0) (tNil))))) (uT (tOp (uNe2 K) (tOp (uIx K) (tOp (uIx K) (uVar 0) (tOp (uAdd K) (uVar 3) (tC (.int 1)))) (tC (.int 0))) (tC (.str " "))))) (te := uVar 3) rfl sc_widths.nd rfl rfl (sw_true rfl rfl rfl (by decide +kernel)) (pi_enumU rfl T.z_enumerate (pa_cons (pu 0) (pa_nil))) (blkOk_by (own := [("index", 3), ("token", 4)]) (N := N_widths) (sc := defScope s_widths) (by decide +kernel)) (fun _ _ _ _ _ => pg_ts rfl (pgs_cons (pg_name (i := 3) sc_widths.nd rfl (Or.inl rfl)) (pgs_cons (pg_name (i := 4) sc_widths.nd rfl (Or.inl rfl)) (pgs_nil)))) (fun _ _ _ _ _ => pts_one (PW.pt (puw_or (put_cmp (ou_eq2 hr.units) (pe_op ou_add (pu 3) (pe_int)) (pe_callB cu_len (by rfl) T.z_len (by decide +kernel) (pa_cons (pu 0) (pa_nil))) (nomark _)) (pw_or1 (put_cmp (ou_ne2 hr.units) (pe_ix iu_ix (pe_ix iu_ix (pu 0) (pe_op ou_add (pu 3) (pe_int)) (fun _ _ => rfl)) (pe_int) (fun _ _ => rfl)) (pe_str) (nomark _)))))) (fun _ _ _ _ _ => pu 3)) (pss_one (ps_ret (pe_lc (own := [("index", 3)]) (g := gName 3) (tt := tYes) (te := tOp (uIx K) (uVar 1) (uVar 3)) rfl sc_widths.nd (piu (pu 2)) (blkOk_by (own := [("index", 3)]) (N := N_widths) (sc := defScope s_widths) (by decide +kernel)) (fun _ _ _ _ _ => pg_name (i := 3) sc_widths.nd rfl (Or.inl rfl)) (fun _ _ _ _ _ => pts_nil) (fun _ _ _ _ _ => pe_ix iu_ix (pu 1) (pu 3) (fun _ _ => rfl))))))
theorem v_place_of (T : Tx P K mg a d ca) (G_is_integer : FnOk P w K mg base CX0 1 (a 0) (d 0) P_is_integer (sp_is_integer K ca)) (G_need_text : FnOk P w K mg base (L2.CX P w) 4 (a 7) (d 7) P_need_text (sp_need_text K ca))  (I_InvalidInteger : FnOk P w K mg base CX0 1 (a 24) (d 24) ["self", "value"] (U.spI (ca 3) "value"))    {fa : Addr} {cdv : Value} {A : Around} {outer : List Env} {s : Shared} {H : Hp} {E : XK} (hr : Room 4 (A.deeper (envOfC "place_of" (defScope s_place_of) s.heap.objs.size fa cdv))) :
    PSs (cxOf (L2.CX P w) P w K mg base N_place_of "place_of" (defScope s_place_of) fa cdv A outer s H E) (defBody s_place_of) (t_place_of K ca E) :=
  pss_cons (ps_expr (pe_call G_need_text (hr.mono (by decide)) rfl T.m_need_text T.f_need_text.kp T.b_need_text .nil (passes_call (takes_of rfl rfl rfl rfl) (fun _ _ _ _ h => h)) (pa_cons (pu 0) (pa_nil)))) (pss_cons (pus_if (put_not (put_val (pe_call G_is_integer (hr.mono (by decide)) rfl T.m_is_integer T.f_is_integer.kp T.b_is_integer .nil pass0 (pa_cons (pu 1) (pa_cons (pe_int) (pa_cons (pe_op ou_sub (pe_callB cu_len (by rfl) T.z_len (by decide +kernel) (pa_cons (pu 0) (pa_nil))) (pe_int)) (pa_nil))))))) (pss_one (ps_raiseu rfl (takes_of rfl rfl rfl rfl) (pmku T.x_InvalidInteger I_InvalidInteger (hr.mono (by decide)) T.i_InvalidInteger pass0 rfl (pa_cons (pu 1) (pa_nil))))) (pss_nil)) (pss_cons (ps_setLc (i := 2) (own := [("spot", 3), ("token", 4)]) (g := gTs K 2 (gCons (gName 3) (gCons (gName 4) (gNil)))) (tt := uAnd (uT (tOp (uNe2 K) (tOp (uIx K) (uVar 4) (tC (.int 0))) (tC (.str " ")))) (uT (tOp uLe (uVar 3) (uVar 1)))) (te := uVar 3) rfl sc_place_of.nd rfl rfl (sw_true rfl rfl rfl (by decide +kernel)) (pi_enumU rfl T.z_enumerate (pa_cons (pu 0) (pa_nil))) (blkOk_by (own := [("spot", 3), ("token", 4)]) (N := N_place_of) (sc := defScope s_place_of) (by decide +kernel)) (fun _ _ _ _ _ => pg_ts rfl (pgs_cons (pg_name (i := 3) sc_place_of.nd rfl (Or.inl rfl)) (pgs_cons (pg_name (i := 4) sc_place_of.nd rfl (Or.inl rfl)) (pgs_nil)))) (fun _ _ _ _ _ => pts_one (PW.pt (puw_and (put_cmp (ou_ne2 hr.units) (pe_ix iu_ix (pu 4) (pe_int) (fun _ _ => rfl)) (pe_str) (nomark _)) (pw_and1 (put_cmp ou_le (pu 3) (pu 1) (nomark _)))))) (fun _ _ _ _ _ => pu 3)) (pss_one (ps_ret (pe_tup (pa_cons (pe_op ou_sub (pe_callB cu_len (by rfl) T.z_len (by decide +kernel) (pa_cons (pu 2) (pa_nil))) (pe_int)) (pa_cons (pe_op ou_sub (pu 1) (pe_ix iu_ix (pu 2) (pe_un ou_neg (pe_int)) (fun _ _ => rfl))) (pa_nil))))))))
theorem v__law_cell (T : Tx P K mg a d ca)       {fa : Addr} {cdv : Value} {A : Around} {outer : List Env} {s : Shared} {H : Hp} {E : XK} (hr : Room 0 (A.deeper (envOfC "_law_cell" (defScope s__law_cell) s.heap.objs.size fa cdv))) :
    PSs ((cxOf CX0 P w K mg base N__law_cell "_law_cell" (defScope s__law_cell) fa cdv A outer s H E).nox) (defBody s__law_cell) (t__law_cell K ca) :=
  pss_cons (pus_if (put_cmp ou_lt (pu 1) (pe_callB cu_len (by rfl) T.z_len (by decide +kernel) (pa_cons (pu 0) (pa_nil))) (nomark _)) (pss_one (ps_ret (pe_ix iu_ix (pu 0) (pu 1) (fun _ _ => rfl)))) (pss_nil)) (pss_one (ps_ret (pe_op ou_add (pe_op ou_mul3 (pe_int) (pu 1)) (pe_int))))
theorem v__law_purse (T : Tx P K mg a d ca)       {fa : Addr} {cdv : Value} {A : Around} {outer : List Env} {s : Shared} {H : Hp} {E : XK} (hr : Room 0 (A.deeper (envOfC "_law_purse" (defScope s__law_purse) s.heap.objs.size fa cdv))) :
    PSs ((cxOf CX0 P w K mg base N__law_purse "_law_purse" (defScope s__law_purse) fa cdv A outer s H E).nox) (defBody s__law_purse) (t__law_purse K ca) :=
  pss_one (ps_ret (pe_lst (pa_cons (pe_callB (cu_max rfl) (by rfl) T.z_max (by decide +kernel) (pa_cons (pe_int) (pa_cons (pe_op ou_sub (pu 0) (pe_op ou_pow (pe_int) (pe_int))) (pa_nil)))) (pa_cons (pe_op ou_mod (pu 0) (pe_int)) (pa_cons (pe_int) (pa_nil))))))
theorem v__law_take (T : Tx P K mg a d ca)       {fa : Addr} {cdv : Value} {A : Around} {outer : List Env} {s : Shared} {H : Hp} {E : XK} (hr : Room 0 (A.deeper (envOfC "_law_take" (defScope s__law_take) s.heap.objs.size fa cdv))) :
    PSs ((cxOf CX0 P w K mg base N__law_take "_law_take" (defScope s__law_take) fa cdv A outer s H E).nox) (defBody s__law_take) (t__law_take K ca) :=
  pss_cons (pus_if (put_cmp ou_gt (pe_ix iu_ix (pu 0) (pe_int) (fun _ _ => rfl)) (pe_int) (nomark _)) (pss_cons (ps_set (i := 2) sc__law_take.nd rfl (Or.inl rfl) (pe_op ou_mod (pe_ix iu_ix (pu 0) (pe_int) (fun _ _ => rfl)) (pu 1))) (pss_cons (ps_asg (pe_op ou_fdiv (pe_ix iu_ix (pu 0) (pe_int) (fun _ _ => rfl)) (pu 1)) (pg_sub (pu 0) (pe_int) setu)) (pss_one (ps_ret (pu 2))))) (pss_nil)) (pss_cons (ps_asg (pe_op ou_add (pe_ix iu_ix (pu 0) (pe_int) (fun _ _ => rfl)) (pe_int)) (pg_sub (pu 0) (pe_int) setu)) (pss_cons (ps_set (i := 3) sc__law_take.nd rfl (Or.inl rfl) (pe_op ou_mod (pe_op ou_pow (pe_op ou_add (pe_op ou_add (pe_ix iu_ix (pu 0) (pe_int) (fun _ _ => rfl)) (pe_op ou_mul3 (pe_int) (pe_ix iu_ix (pu 0) (pe_int) (fun _ _ => rfl)))) (pe_int)) (pe_int)) (pe_int))) (pss_cons (ps_set (i := 3) sc__law_take.nd rfl (Or.inl rfl) (pe_op ou_mod (pe_op ou_pow (pe_op ou_add (pu 3) (pe_op ou_mul3 (pe_int) (pe_ix iu_ix (pu 0) (pe_int) (fun _ _ => rfl)))) (pe_int)) (pe_int))) (pss_one (ps_ret (pe_op ou_mod (pe_op ou_fdiv (pu 3) (pe_int)) (pu 1)))))))
theorem v__law_mark (T : Tx P K mg a d ca) (G__law_take : FnOk P w K mg base CX0 1 (a 14) (d 14) P__law_take (sp__law_take K ca))      {fa : Addr} {cdv : Value} {A : Around} {outer : List Env} {s : Shared} {H : Hp} {E : XK} (hr : Room 1 (A.deeper (envOfC "_law_mark" (defScope s__law_mark) s.heap.objs.size fa cdv))) :
    PSs ((cxOf CX0 P w K mg base N__law_mark "_law_mark" (defScope s__law_mark) fa cdv A outer s H E).nox) (defBody s__law_mark) (t__law_mark K ca) :=
  pss_cons (pus_if (put_cmp (ou_eq2 hr.units) (pe_call G__law_take (hr.mono (by decide)) rfl T.m__law_take T.f__law_take.kp T.b__law_take .nil pass0 (pa_cons (pu 0) (pa_cons (pe_int) (pa_nil)))) (pe_int) (nomark _)) (pss_one (ps_ret (pe_str))) (pss_nil)) (pss_one (ps_ret (pe_op ou_add (pe_ix iu_ix (pe_str) (pe_call G__law_take (hr.mono (by decide)) rfl T.m__law_take T.f__law_take.kp T.b__law_take .nil pass0 (pa_cons (pu 0) (pa_cons (pe_int) (pa_nil)))) (fun _ _ => rfl)) (pe_ix iu_ix (pe_str) (pe_call G__law_take (hr.mono (by decide)) rfl T.m__law_take T.f__law_take.kp T.b__law_take .nil pass0 (pa_cons (pu 0) (pa_cons (pe_int) (pa_nil)))) (fun _ _ => rfl)))))
theorem v__law_word (T : Tx P K mg a d ca) (G__law_take : FnOk P w K mg base CX0 1 (a 14) (d 14) P__law_take (sp__law_take K ca))      {fa : Addr} {cdv : Value} {A : Around} {outer : List Env} {s : Shared} {H : Hp} {E : XK} (hr : Room 1 (A.deeper (envOfC "_law_word" (defScope s__law_word) s.heap.objs.size fa cdv))) :
    PSs ((cxOf CX0 P w K mg base N__law_word "_law_word" (defScope s__law_word) fa cdv A outer s H E).nox) (defBody s__law_word) (t__law_word K ca) :=
  pss_cons (ps_set (i := 2) sc__law_word.nd rfl (Or.inr rfl) (pe_str)) (pss_one (ps_ret (pe_m1 F.slot_str_join F.type_str_join mu_join (pe_str) (pe_lc (own := [("_law_k", 3)]) (g := gName 3) (tt := tYes) (te := tOp (uIx K) (uVar 2) (tCall (sp__law_take K ca) [] E0 (tCons (uVar 0) (tCons (tC (.int 26)) (tNil))))) rfl sc__law_word.nd (pi_range1 rfl T.z_range (pa_cons (pe_op ou_add (pe_int) (pe_call G__law_take (hr.mono (by decide)) rfl T.m__law_take T.f__law_take.kp T.b__law_take .nil pass0 (pa_cons (pu 0) (pa_cons (pu 1) (pa_nil))))) (pa_nil))) (blkOk_by (own := [("_law_k", 3)]) (N := N__law_word) (sc := defScope s__law_word) (by decide +kernel)) (fun _ _ _ _ _ => pg_name (i := 3) sc__law_word.nd rfl (Or.inl rfl)) (fun _ _ _ _ _ => pts_nil) (fun _ _ _ _ _ => pe_ix iu_ix (pu 2) (pe_call G__law_take (hr.mono (by decide)) rfl T.m__law_take T.f__law_take.kp T.b__law_take .nil pass0 (pa_cons (pu 0) (pa_cons (pe_int) (pa_nil)))) (fun _ _ => rfl))))))
theorem v__law_text (T : Tx P K mg a d ca) (G__law_take : FnOk P w K mg base CX0 1 (a 14) (d 14) P__law_take (sp__law_take K ca)) (G__law_mark : FnOk P w K mg base CX0 2 (a 15) (d 15) P__law_mark (sp__law_mark K ca)) (G__law_word : FnOk P w K mg base CX0 2 (a 16) (d 16) P__law_word (sp__law_word K ca))      {fa : Addr} {cdv : Value} {A : Around} {outer : List Env} {s : Shared} {H : Hp} {E : XK} (hr : Room 2 (A.deeper (envOfC "_law_text" (defScope s__law_text) s.heap.objs.size fa cdv))) :
    PSs ((cxOf CX0 P w K mg base N__law_text "_law_text" (defScope s__law_text) fa cdv A outer s H E).nox) (defBody s__law_text) (t__law_text K ca) :=
  pss_cons (ps_set (i := 3) sc__law_text.nd rfl (Or.inl rfl) (pe_lst (pa_nil))) (pss_cons (ps_for PassesOwn.never rfl (pi_range1 rfl T.z_range (pa_cons (pu 1) (pa_nil))) (pg_name (i := 4) sc__law_text.nd rfl (Or.inl rfl)) (pss_cons (ps_set (i := 5) sc__law_text.nd rfl (Or.inl rfl) (pue_if (put_cmp ou_gt (pu 4) (pe_int) (nomark _)) (pe_call G__law_mark (hr.mono (by decide)) rfl T.m__law_mark T.f__law_mark.kp T.b__law_mark .nil pass0 (pa_cons (pu 0) (pa_nil))) (pe_op ou_add (pe_str) (pe_ix iu_ix (pe_str) (pe_call G__law_take (hr.mono (by decide)) rfl T.m__law_take T.f__law_take.kp T.b__law_take .nil pass0 (pa_cons (pu 0) (pa_cons (pe_int) (pa_nil)))) (fun _ _ => rfl))))) (pss_one (ps_expr (pe_bm PySem.F.plainAttrs_list PySem.F.slot_list_append PySem.F.type_list_append mu_append (pu 3) (pa_cons (pe_tup (pa_cons (pu 5) (pa_cons (pe_call G__law_word (hr.mono (by decide)) rfl T.m__law_word T.f__law_word.kp T.b__law_word .nil pass0 (pa_cons (pu 0) (pa_cons (pu 2) (pa_nil)))) (pa_nil)))) (pa_nil))))))) (pss_one (ps_ret (pu 3))))
theorem v__law_walked (T : Tx P K mg a d ca)       {fa : Addr} {cdv : Value} {A : Around} {outer : List Env} {s : Shared} {H : Hp} {E : XK} (hr : Room 0 (A.deeper (envOfC "_law_walked" (defScope s__law_walked) s.heap.objs.size fa cdv))) :
    PSs ((cxOf CX0 P w K mg base N__law_walked "_law_walked" (defScope s__law_walked) fa cdv A outer s H E).nox) (defBody s__law_walked) (t__law_walked K ca) :=
  pss_cons (ps_asg (pe_tup (pa_cons (pe_lst (pa_nil)) (pa_cons (pe_lst (pa_nil)) (pa_cons (pe_lst (pa_nil)) (pa_cons (pe_lst (pa_nil)) (pa_nil)))))) (pg_ts rfl (pgs_cons (pg_name (i := 1) sc__law_walked.nd rfl (Or.inl rfl)) (pgs_cons (pg_name (i := 2) sc__law_walked.nd rfl (Or.inl rfl)) (pgs_cons (pg_name (i := 3) sc__law_walked.nd rfl (Or.inl rfl)) (pgs_cons (pg_name (i := 4) sc__law_walked.nd rfl (Or.inl rfl)) (pgs_nil))))))) (pss_cons (ps_for PassesOwn.never rfl (piu (pu 0)) (pg_ts rfl (pgs_cons (pg_name (i := 5) sc__law_walked.nd rfl (Or.inl rfl)) (pgs_cons (pg_name (i := 6) sc__law_walked.nd rfl (Or.inl rfl)) (pgs_nil)))) (pss_cons (pus_if (put_cmp (ou_eq2 hr.units) (pu 5) (pe_str) (nomark _)) (pss_cons (ps_asg (pe_op ou_add (pe_op ou_add (pe_ix iu_ix (pu 2) (pe_un ou_neg (pe_int)) (fun _ _ => rfl)) (pe_int)) (pe_callB cu_len (by rfl) T.z_len (by decide +kernel) (pa_cons (pu 6) (pa_nil)))) (pg_sub (pu 2) (pe_un ou_neg (pe_int)) setu)) (pss_one (ps_asg (pe_op ou_add (pe_ix iu_ix (pu 1) (pe_un ou_neg (pe_int)) (fun _ _ => rfl)) (pe_lst (pa_cons (pe_tup (pa_cons (pu 5) (pa_cons (pu 6) (pa_nil)))) (pa_nil)))) (pg_sub (pu 1) (pe_un ou_neg (pe_int)) setu)))) (pss_cons (ps_expr (pe_bm PySem.F.plainAttrs_list PySem.F.slot_list_append PySem.F.type_list_append mu_append (pu 2) (pa_cons (pe_op ou_add (pe_m1 F.slot_str_find F.type_str_find mu_find (pe_str) (pe_ix iu_ix (pu 5) (pe_int) (fun _ _ => rfl))) (pe_callB cu_len (by rfl) T.z_len (by decide +kernel) (pa_cons (pu 6) (pa_nil)))) (pa_nil)))) (pss_one (ps_expr (pe_bm PySem.F.plainAttrs_list PySem.F.slot_list_append PySem.F.type_list_append mu_append (pu 1) (pa_cons (pe_lst (pa_cons (pe_tup (pa_cons (pu 5) (pa_cons (pu 6) (pa_nil)))) (pa_nil))) (pa_nil))))))) (pss_cons (ps_expr (pe_bm PySem.F.plainAttrs_list PySem.F.slot_list_append PySem.F.type_list_append mu_append (pu 3) (pa_cons (pe_ix iu_ix (pu 2) (pe_un ou_neg (pe_int)) (fun _ _ => rfl)) (pa_nil)))) (pss_one (ps_expr (pe_bm PySem.F.plainAttrs_list PySem.F.slot_list_append PySem.F.type_list_append mu_append (pu 4) (pa_cons (pe_tup (pa_cons (pe_op ou_sub (pe_callB cu_len (by rfl) T.z_len (by decide +kernel) (pa_cons (pu 1) (pa_nil))) (pe_int)) (pa_cons (pe_op ou_sub (pe_callB cu_len (by rfl) T.z_len (by decide +kernel) (pa_cons (pe_ix iu_ix (pu 1) (pe_un ou_neg (pe_int)) (fun _ _ => rfl)) (pa_nil))) (pe_int)) (pa_nil)))) (pa_nil)))))))) (pss_one (ps_ret (pe_lst (pa_cons (pu 1) (pa_cons (pu 2) (pa_cons (pu 3) (pa_cons (pu 4) (pa_nil)))))))))
theorem v__law_refused (T : Tx P K mg a d ca) (G_lines : GFn1 P w K mg base 5 (a 8) (d 8) P_lines (spGr (sp_lines K ca))) (G_columns : FnOk P w K mg base (L2.CX P w) 5 (a 9) (d 9) P_columns (sp_columns K ca)) (G_widths : FnOk P w K mg base (L2.CX P w) 6 (a 10) (d 10) P_widths (sp_widths K ca)) (G_place_of : FnOk P w K mg base (L2.CX P w) 5 (a 11) (d 11) P_place_of (sp_place_of K ca))      {fa : Addr} {cdv : Value} {A : Around} {outer : List Env} {s : Shared} {H : Hp} {E : XK} (hr : Room 6 (A.deeper (envOfC "_law_refused" (defScope s__law_refused) s.heap.objs.size fa cdv))) :
    PSs ((cxOf CX0 P w K mg base N__law_refused "_law_refused" (defScope s__law_refused) fa cdv A outer s H E).nox) (defBody s__law_refused) (t__law_refused K ca) :=
  pss_cons (ps_set (i := 3) sc__law_refused.nd rfl (Or.inl rfl) (pe_lst (pa_nil))) (pss_cons (pus_try (W0 := (fun _ _ _ _ => False)) (tb := fun W => uIfS (uT (tOp (uEq2 K) (uVar 0) (tC (.int 0)))) (tForGr (tCallGr (sp_lines K ca) (NSt K W) (tCons (uVar 1) (tNil)))) (uIfS (uT (tOp (uEq2 K) (uVar 0) (tC (.int 1)))) (tDrop (tCallS (sp_widths K ca) (WE W) (tCons (uVar 1) (tNil)))) (uIfS (uT (tOp (uEq2 K) (uVar 0) (tC (.int 2)))) (tDrop (tCallS (sp_columns K ca) (WE W) (tCons (uVar 1) (tNil)))) (tDrop (tCallS (sp_place_of K ca) (WE W) (tCons (uVar 1) (tCons (uVar 2) (tNil)))))))) rfl rfl sc__law_refused.nd takes0 (fun W pn xe tk po => pss_one (pus_if (put_cmp (ou_eq2 hr.units) (pu 0) (pe_int) (nomark _)) (pss_one (ps_forGr (n := lvK_lines) po (hr.mono (by decide)) (pgr_call G_lines rfl T.m_lines T.f_lines.kp T.b_lines (by decide) (hr.mono (by decide)) (fun σ => passAt tk σ) (pa_cons (pu 1) (pa_nil))))) (pss_one (pus_if (put_cmp (ou_eq2 hr.units) (pu 0) (pe_int) (nomark _)) (pss_one (ps_expr (pe_callS G_widths (hr.mono (by decide)) rfl T.m_widths T.f_widths.kp T.b_widths (fun σ => passAt tk σ) (pa_cons (pu 1) (pa_nil))))) (pss_one (pus_if (put_cmp (ou_eq2 hr.units) (pu 0) (pe_int) (nomark _)) (pss_one (ps_expr (pe_callS G_columns (hr.mono (by decide)) rfl T.m_columns T.f_columns.kp T.b_columns (fun σ => passAt tk σ) (pa_cons (pu 1) (pa_nil))))) (pss_one (ps_expr (pe_callS G_place_of (hr.mono (by decide)) rfl T.m_place_of T.f_place_of.kp T.b_place_of (fun σ => passAt tk σ) (pa_cons (pu 1) (pa_cons (pu 2) (pa_nil)))))))))))) (.more (k := ⟨.ref (ca 2), some 5, fun a cls d => tAsg (tOp (uAdd K) (uVar 3) (tLst (tCons (tC (.str "text")) (tCons (uXf K a cls d 5 "value") (tNil))))) (gName 3)⟩) ⟨rfl, by decide, Or.inl T.m_InvalidText⟩ rfl rfl rfl (fun a oe cls d pn hz hf => pss_one (ps_set (i := 3) sc__law_refused.nd rfl (Or.inl rfl) (pe_op ou_add (pu 3) (pe_lst (pa_cons (pe_str) (pa_cons (pue_xf 5 hz hf) (pa_nil))))))) (.more (k := ⟨.ref (ca 3), some 5, fun a cls d => tAsg (tLst (tCons (tC (.str "integer")) (tCons (uXf K a cls d 5 "value") (tNil)))) (gName 3)⟩) ⟨rfl, by decide, Or.inl T.m_InvalidInteger⟩ rfl rfl rfl (fun a oe cls d pn hz hf => pss_one (ps_set (i := 3) sc__law_refused.nd rfl (Or.inl rfl) (pe_lst (pa_cons (pe_str) (pa_cons (pue_xf 5 hz hf) (pa_nil)))))) (.rest)))) (pss_one (ps_ret (pu 3))))
theorem v__law_right (T : Tx P K mg a d ca) (G_lines : GFn1 P w K mg base 5 (a 8) (d 8) P_lines (spGr (sp_lines K ca))) (G_columns : FnOk P w K mg base (L2.CX P w) 5 (a 9) (d 9) P_columns (sp_columns K ca)) (G_widths : FnOk P w K mg base (L2.CX P w) 6 (a 10) (d 10) P_widths (sp_widths K ca)) (G_place_of : FnOk P w K mg base (L2.CX P w) 5 (a 11) (d 11) P_place_of (sp_place_of K ca)) (G__law_take : FnOk P w K mg base CX0 1 (a 14) (d 14) P__law_take (sp__law_take K ca)) (G__law_text : FnOk P w K mg base CX0 3 (a 17) (d 17) P__law_text (sp__law_text K ca)) (G__law_walked : FnOk P w K mg base CX0 1 (a 18) (d 18) P__law_walked (sp__law_walked K ca)) (G__law_refused : FnOk P w K mg base CX0 7 (a 19) (d 19) P__law_refused (sp__law_refused K ca)) (GQ_lines : GFnQ P w K mg base 5 (a 8) (d 8) P_lines (spq_lines K ca))     {fa : Addr} {cdv : Value} {A : Around} {outer : List Env} {s : Shared} {H : Hp} {E : XK} (hgd : (A.deeper (envOfC "_law_right" (defScope s__law_right) s.heap.objs.size fa cdv)).guards = some []) (hr : Room 7 (A.deeper (envOfC "_law_right" (defScope s__law_right) s.heap.objs.size fa cdv))) :
    PSs ((cxOf CX0 P w K mg base N__law_right "_law_right" (defScope s__law_right) fa cdv A outer s H E).nox) (defBody s__law_right) (t__law_right K ca) :=
  pss_cons (ps_set (i := 1) sc__law_right.nd rfl (Or.inl rfl) (pe_call G__law_take (hr.mono (by decide)) rfl T.m__law_take T.f__law_take.kp T.b__law_take .nil pass0 (pa_cons (pu 0) (pa_cons (pe_int) (pa_nil))))) (pss_cons (pus_if (put_cmp (ou_eq2 hr.units) (pe_call G__law_take (hr.mono (by decide)) rfl T.m__law_take T.f__law_take.kp T.b__law_take .nil pass0 (pa_cons (pu 0) (pa_cons (pe_int) (pa_nil)))) (pe_int) (nomark _)) (pss_one (ps_set (i := 1) sc__law_right.nd rfl (Or.inl rfl) (pe_op ou_add (pe_int) (pe_call G__law_take (hr.mono (by decide)) rfl T.m__law_take T.f__law_take.kp T.b__law_take .nil pass0 (pa_cons (pu 0) (pa_cons (pe_int) (pa_nil))))))) (pss_nil)) (pss_cons (ps_set (i := 2) sc__law_right.nd rfl (Or.inl rfl) (pe_call G__law_text (hr.mono (by decide)) rfl T.m__law_text T.f__law_text.kp T.b__law_text .nil pass0 (pa_cons (pu 0) (pa_cons (pu 1) (pa_cons (pe_ix iu_ix (pe_lst (pa_cons (pe_int) (pa_cons (pe_int) (pa_nil)))) (pe_call G__law_take (hr.mono (by decide)) rfl T.m__law_take T.f__law_take.kp T.b__law_take .nil pass0 (pa_cons (pu 0) (pa_cons (pe_int) (pa_nil)))) (fun _ _ => rfl)) (pa_nil)))))) (pss_cons (pus_if (put_cmp (ou_eq2 hr.units) (pe_call G__law_take (hr.mono (by decide)) rfl T.m__law_take T.f__law_take.kp T.b__law_take .nil pass0 (pa_cons (pu 0) (pa_cons (pe_int) (pa_nil)))) (pe_int) (nomark _)) (pss_one (ps_set (i := 2) sc__law_right.nd rfl (Or.inl rfl) (pe_op ou_add (pe_slice su_sl (pu 2) (po_none) (pou_some (pe_int))) (pe_lc (own := [("_law_mark_here", 14), ("_law_word_here", 13)]) (g := gTs K 2 (gCons (gName 14) (gCons (gName 13) (gNil)))) (tt := tYes) (te := tTup (tCons (tC (.str " ")) (tCons (uVar 13) (tNil)))) rfl sc__law_right.nd (piu (pe_slice su_sl (pu 2) (pou_some (pe_int)) (po_none))) (blkOk_by (own := [("_law_mark_here", 14), ("_law_word_here", 13)]) (N := N__law_right) (sc := defScope s__law_right) (by decide +kernel)) (fun _ _ _ _ _ => pg_ts rfl (pgs_cons (pg_name (i := 14) sc__law_right.nd rfl (Or.inl rfl)) (pgs_cons (pg_name (i := 13) sc__law_right.nd rfl (Or.inl rfl)) (pgs_nil)))) (fun _ _ _ _ _ => pts_nil) (fun _ _ _ _ _ => pe_tup (pa_cons (pe_str) (pa_cons (pu 13) (pa_nil)))))))) (pss_nil)) (pss_cons (ps_set (i := 3) sc__law_right.nd rfl (Or.inl rfl) (pe_call G__law_walked (hr.mono (by decide)) rfl T.m__law_walked T.f__law_walked.kp T.b__law_walked .nil pass0 (pa_cons (pu 2) (pa_nil)))) (pss_cons (ps_set (i := 4) sc__law_right.nd rfl (Or.inl rfl) (pe_ix iu_ix (pe_lst (pa_cons (pu 2) (pa_cons (pe_callTy cu_tuple (by rfl) T.z_tuple (by decide +kernel) (pa_cons (pu 2) (pa_nil))) (pa_nil)))) (pe_call G__law_take (hr.mono (by decide)) rfl T.m__law_take T.f__law_take.kp T.b__law_take .nil pass0 (pa_cons (pu 0) (pa_cons (pe_int) (pa_nil)))) (fun _ _ => rfl))) (pss_cons (ps_for PassesOwn.never rfl (pi_range1 rfl T.z_range (pa_cons (pe_int) (pa_nil))) (pg_name (i := 5) sc__law_right.nd rfl (Or.inl rfl)) (pss_cons (ps_set (i := 6) sc__law_right.nd rfl (Or.inl rfl) (pe_lst (pa_cons (pe_lcQ (n0 := lvK_lines) (own := [("_law_line", 15)]) (g := gName 15) (te := uVar 15) rfl sc__law_right.nd (hr.mono (by decide)) (pgq_call GQ_lines rfl T.m_lines T.f_lines.kp T.b_lines (by decide) (hr.mono (by decide)) rfl (pa_cons (pu 4) (pa_nil))) (blkOk_by (own := [("_law_line", 15)]) (N := N__law_right) (sc := defScope s__law_right) (by decide +kernel)) (by decide +kernel) (fun _ _ _ _ _ => pg_name (i := 15) sc__law_right.nd rfl (Or.inl rfl)) (fun _ _ _ _ _ => pu 15)) (pa_cons (pe_call G_widths (hr.mono (by decide)) rfl T.m_widths T.f_widths.kp T.b_widths .nil passL (pa_cons (pu 4) (pa_nil))) (pa_cons (pe_call G_columns (hr.mono (by decide)) rfl T.m_columns T.f_columns.kp T.b_columns .nil passL (pa_cons (pu 4) (pa_nil))) (pa_nil)))))) (pss_cons (pus_if (PW.pt (puw_or (put_cmp (ou_ne2 hr.units) (pu 6) (pe_slice su_sl (pu 3) (po_none) (pou_some (pe_int))) (nomark _)) (pw_or1 (put_not (put_val (pe_callB (cu_all rfl) (by rfl) T.z_all (by decide +kernel) (pa_cons (pe_lc (own := [("_law_line", 15)]) (g := gName 15) (tt := tYes) (te := uIsi .lst (uVar 15)) rfl sc__law_right.nd (piu (pe_ix iu_ix (pu 6) (pe_int) (fun _ _ => rfl))) (blkOk_by (own := [("_law_line", 15)]) (N := N__law_right) (sc := defScope s__law_right) (by decide +kernel)) (fun _ _ _ _ _ => pg_name (i := 15) sc__law_right.nd rfl (Or.inl rfl)) (fun _ _ _ _ _ => pts_nil) (fun _ _ _ _ _ => pue_isi .lst (pu 15) rfl T.z_isinstance rfl T.z_list (by decide +kernel))) (pa_nil)))))))) (pss_one (ps_ret (pe_bl))) (pss_nil)) (pss_one (ps_for PassesOwn.never rfl (piu (pe_op ou_add (pe_ix iu_ix (pu 6) (pe_int) (fun _ _ => rfl)) (pu 6))) (pg_name (i := 7) sc__law_right.nd rfl (Or.inl rfl)) (pss_one (ps_expr (pe_bm PySem.F.plainAttrs_list PySem.F.slot_list_append PySem.F.type_list_append mu_append (pu 7) (pa_cons (pe_int) (pa_nil)))))))))) (pss_cons (ps_for PassesOwn.never rfl (pi_range1 rfl T.z_range (pa_cons (pe_int) (pa_nil))) (pg_name (i := 5) sc__law_right.nd rfl (Or.inl rfl)) (pss_one (pus_if (put_cmp ou_gt (pu 1) (pe_int) (nomark _)) (pss_cons (ps_set (i := 8) sc__law_right.nd rfl (Or.inl rfl) (pe_call G__law_take (hr.mono (by decide)) rfl T.m__law_take T.f__law_take.kp T.b__law_take .nil pass0 (pa_cons (pu 0) (pa_cons (pu 1) (pa_nil))))) (pss_cons (ps_set (i := 6) sc__law_right.nd rfl (Or.inl rfl) (pe_call G_place_of (hr.mono (by decide)) rfl T.m_place_of T.f_place_of.kp T.b_place_of .nil passL (pa_cons (pu 4) (pa_cons (pu 8) (pa_nil))))) (pss_one (pus_if (PW.pt (puw_or (put_cmp (ou_ne2 hr.units) (pu 6) (pe_ix iu_ix (pe_ix iu_ix (pu 3) (pe_int) (fun _ _ => rfl)) (pu 8) (fun _ _ => rfl)) (nomark _)) (pw_or1 (put_not (put_val (pue_isi .tup (pu 6) rfl T.z_isinstance rfl T.z_tuple (by decide +kernel))))))) (pss_one (ps_ret (pe_bl))) (pss_nil))))) (pss_nil)))) (pss_cons (ps_set (i := 9) sc__law_right.nd rfl (Or.inr rfl) (pe_ix iu_ix (pe_lst (pa_cons (pe_non) (pa_cons (pe_bl) (pa_cons (pe_str) (pa_cons (pe_un ou_neg (pe_int)) (pa_cons (pu 1) (pa_cons (pe_op ou_add (pu 1) (pe_op ou_pow (pe_int) (pe_int))) (pa_cons (pe_un ou_neg (pe_op ou_pow (pe_int) (pe_int))) (pa_cons (pe_tup (pa_cons (pe_int) (pa_nil))) (pa_cons (pe_lst (pa_nil)) (pa_cons (pe_bl) (pa_nil)))))))))))) (pe_call G__law_take (hr.mono (by decide)) rfl T.m__law_take T.f__law_take.kp T.b__law_take .nil pass0 (pa_cons (pu 0) (pa_cons (pe_int) (pa_nil)))) (fun _ _ => rfl))) (pss_cons (pus_if (put_cmp (ou_ne2 hr.units) (pe_callB (cu_repr3 hgd hr.units) (by rfl) T.z_repr (by decide +kernel) (pa_cons (pe_call G__law_refused (hr.mono (by decide)) rfl T.m__law_refused T.f__law_refused.kp T.b__law_refused .nil pass0 (pa_cons (pe_int) (pa_cons (pu 4) (pa_cons (pu 9) (pa_nil))))) (pa_nil))) (pe_callB (cu_repr3 hgd hr.units) (by rfl) T.z_repr (by decide +kernel) (pa_cons (pe_lst (pa_cons (pe_str) (pa_cons (pu 9) (pa_nil)))) (pa_nil))) (nomark _)) (pss_one (ps_ret (pe_bl))) (pss_nil)) (pss_cons (ps_set (i := 10) sc__law_right.nd rfl (Or.inl rfl) (pe_call G__law_take (hr.mono (by decide)) rfl T.m__law_take T.f__law_take.kp T.b__law_take .nil pass0 (pa_cons (pu 0) (pa_cons (pe_op ou_add (pu 1) (pe_int)) (pa_nil))))) (pss_cons (ps_set (i := 11) sc__law_right.nd rfl (Or.inr rfl) (pe_lst (pa_cons (pe_op ou_add (pu 2) (pe_lst (pa_cons (pe_tup (pa_cons (pe_str) (pa_cons (pe_str) (pa_nil)))) (pa_nil)))) (pa_cons (pe_op ou_add (pe_lst (pa_cons (pe_tup (pa_cons (pe_str) (pa_cons (pe_str) (pa_nil)))) (pa_nil))) (pu 2)) (pa_cons (pe_op ou_add (pu 2) (pe_lst (pa_cons (pe_tup (pa_cons (pe_str) (pa_cons (pe_str) (pa_nil)))) (pa_nil)))) (pa_cons (pe_str) (pa_cons (pe_non) (pa_cons (pe_dnewK) (pa_cons (pe_lst (pa_cons (pu 2) (pa_nil))) (pa_cons (pe_lst (pa_cons (pe_lst (pa_cons (pe_str) (pa_cons (pe_str) (pa_nil)))) (pa_nil))) (pa_nil))))))))))) (pss_cons (ps_set (i := 11) sc__law_right.nd rfl (Or.inr rfl) (pe_op ou_add (pu 11) (pe_lst (pa_cons (pe_op ou_add (pe_op ou_add (pe_slice su_sl (pu 2) (po_none) (pou_some (pu 10))) (pe_lst (pa_cons (pe_tup (pa_cons (pe_str) (pa_cons (pe_str) (pa_nil)))) (pa_nil)))) (pe_slice su_sl (pu 2) (pou_some (pu 10)) (po_none))) (pa_cons (pe_op ou_add (pe_op ou_add (pe_slice su_sl (pu 2) (po_none) (pou_some (pu 10))) (pe_lst (pa_cons (pe_tup (pa_cons (pe_str) (pa_cons (pe_str) (pa_nil)))) (pa_nil)))) (pe_slice su_sl (pu 2) (pou_some (pu 10)) (po_none))) (pa_nil)))))) (pss_cons (ps_set (i := 11) sc__law_right.nd rfl (Or.inr rfl) (pe_ix iu_ix (pu 11) (pe_call G__law_take (hr.mono (by decide)) rfl T.m__law_take T.f__law_take.kp T.b__law_take .nil pass0 (pa_cons (pu 0) (pa_cons (pe_int) (pa_nil)))) (fun _ _ => rfl))) (pss_one (ps_ret (pe_callB (cu_all rfl) (by rfl) T.z_all (by decide +kernel) (pa_cons (pe_lc (own := [("_law_way", 12)]) (g := gName 12) (tt := tYes) (te := tOp (uEq2 K) (tCB (uRepr3 K) (tCons (tCall (sp__law_refused K ca) [] E0 (tCons (uVar 12) (tCons (uVar 11) (tCons (uVar 9) (tNil))))) (tNil))) (tCB (uRepr3 K) (tCons (tLst (tCons (tC (.str "text")) (tCons (uVar 11) (tNil)))) (tNil)))) rfl sc__law_right.nd (pi_range1 rfl T.z_range (pa_cons (pe_int) (pa_nil))) (blkOk_by (own := [("_law_way", 12)]) (N := N__law_right) (sc := defScope s__law_right) (by decide +kernel)) (fun _ _ _ _ _ => pg_name (i := 12) sc__law_right.nd rfl (Or.inl rfl)) (fun _ _ _ _ _ => pts_nil) (fun _ _ _ _ _ => pe_cmpR (ou_eq2 hr.units) (pe_callB (cu_repr3 hgd hr.units) (by rfl) T.z_repr (by decide +kernel) (pa_cons (pe_call G__law_refused (hr.mono (by decide)) rfl T.m__law_refused T.f__law_refused.kp T.b__law_refused .nil pass0 (pa_cons (pu 12) (pa_cons (pu 11) (pa_cons (pu 9) (pa_nil))))) (pa_nil))) (pe_callB (cu_repr3 hgd hr.units) (by rfl) T.z_repr (by decide +kernel) (pa_cons (pe_lst (pa_cons (pe_str) (pa_cons (pu 11) (pa_nil)))) (pa_nil))) (nomark _))) (pa_nil))))))))))))))))))
theorem v_law (T : Tx P K mg a d ca) (G__law_cell : FnOk P w K mg base CX0 1 (a 12) (d 12) P__law_cell (sp__law_cell K ca)) (G__law_purse : FnOk P w K mg base CX0 1 (a 13) (d 13) P__law_purse (sp__law_purse K ca)) (G__law_right : U.FnG P w K mg base CX0 8 (a 20) (d 20) P__law_right (sp__law_right K ca))      {fa : Addr} {cdv : Value} {A : Around} {outer : List Env} {s : Shared} {H : Hp} {E : XK} (hgd : (A.deeper (envOfC "law" (defScope s_law) s.heap.objs.size fa cdv)).guards = some []) (hr : Room 8 (A.deeper (envOfC "law" (defScope s_law) s.heap.objs.size fa cdv))) :
    PSs ((cxOf CX0 P w K mg base N_law "law" (defScope s_law) fa cdv A outer s H E).nox) (defBody s_law) (t_law K ca) :=
  pss_cons (ps_for PassesOwn.never rfl (pi_range1 rfl T.z_range (pa_cons (pe_callB (cu_max rfl) (by rfl) T.z_max (by decide +kernel) (pa_cons (pe_int) (pa_cons (pe_callB (cu_min rfl) (by rfl) T.z_min (by decide +kernel) (pa_cons (pe_int) (pa_cons (pe_callB cu_len (by rfl) T.z_len (by decide +kernel) (pa_cons (pu 0) (pa_nil))) (pa_nil)))) (pa_nil)))) (pa_nil))) (pg_name (i := 1) sc_law.nd rfl (Or.inl rfl)) (pss_one (pus_if (put_not (put_val (pe_callG G__law_right hgd (hr.mono (by decide)) rfl T.m__law_right T.f__law_right.kp T.b__law_right pass0 (pa_cons (pe_call G__law_purse (hr.mono (by decide)) rfl T.m__law_purse T.f__law_purse.kp T.b__law_purse .nil pass0 (pa_cons (pe_call G__law_cell (hr.mono (by decide)) rfl T.m__law_cell T.f__law_cell.kp T.b__law_cell .nil pass0 (pa_cons (pu 0) (pa_cons (pu 1) (pa_nil)))) (pa_nil))) (pa_nil))))) (pss_one (ps_ret (pe_bl))) (pss_nil)))) (pss_one (ps_ret (pe_bl)))
end
section
variable {P : Program} {w : World} {K : PySem.W.Frag} {mg : Str → Option Value} {base : Heap} {a : Nat → Addr} {d : Nat → FuncData} {ca : Nat → Addr}
theorem ok_is_integer (T : Tx P K mg a d ca) : FnOk P w K mg base CX0 1 (a 0) (d 0) P_is_integer (sp_is_integer K ca) :=
  T.f_is_integer.ok sc_is_integer (fun vs H Q E h => len_is_integer h) (fun cdv A outer s H vs Q E hr h => ⟨t_is_integer K ca, v_is_integer T  hr, p_is_integer T.ct h⟩)
theorem ok_is_word (T : Tx P K mg a d ca) : FnOk P w K mg base CX0 1 (a 1) (d 1) P_is_word (sp_is_word K ca) :=
  T.f_is_word.ok sc_is_word (fun vs H Q E h => len_is_word h) (fun cdv A outer s H vs Q E hr h => ⟨t_is_word K ca, v_is_word T  hr, p_is_word T.ct h⟩)
theorem ok_is_mark (T : Tx P K mg a d ca) : FnOk P w K mg base CX0 1 (a 2) (d 2) P_is_mark (sp_is_mark K ca) :=
  T.f_is_mark.ok sc_is_mark (fun vs H Q E h => len_is_mark h) (fun cdv A outer s H vs Q E hr h => ⟨t_is_mark K ca, v_is_mark T  hr, p_is_mark T.ct h⟩)
theorem ok__law_cell (T : Tx P K mg a d ca) : FnOk P w K mg base CX0 1 (a 12) (d 12) P__law_cell (sp__law_cell K ca) :=
  T.f__law_cell.ok sc__law_cell (fun vs H Q E h => len__law_cell h) (fun cdv A outer s H vs Q E hr h => ⟨t__law_cell K ca, v__law_cell T  hr, p__law_cell T.ct h⟩)
theorem ok__law_purse (T : Tx P K mg a d ca) : FnOk P w K mg base CX0 1 (a 13) (d 13) P__law_purse (sp__law_purse K ca) :=
  T.f__law_purse.ok sc__law_purse (fun vs H Q E h => len__law_purse h) (fun cdv A outer s H vs Q E hr h => ⟨t__law_purse K ca, v__law_purse T  hr, p__law_purse T.ct h⟩)
theorem ok__law_take (T : Tx P K mg a d ca) : FnOk P w K mg base CX0 1 (a 14) (d 14) P__law_take (sp__law_take K ca) :=
  T.f__law_take.ok sc__law_take (fun vs H Q E h => len__law_take h) (fun cdv A outer s H vs Q E hr h => ⟨t__law_take K ca, v__law_take T  hr, p__law_take T.ct h⟩)
theorem ok__law_walked (T : Tx P K mg a d ca) : FnOk P w K mg base CX0 1 (a 18) (d 18) P__law_walked (sp__law_walked K ca) :=
  T.f__law_walked.ok sc__law_walked (fun vs H Q E h => len__law_walked h) (fun cdv A outer s H vs Q E hr h => ⟨t__law_walked K ca, v__law_walked T  hr, p__law_walked T.ct h⟩)
theorem ok_is_token (T : Tx P K mg a d ca) : FnOk P w K mg base CX0 2 (a 3) (d 3) P_is_token (sp_is_token K ca) :=
  T.f_is_token.ok sc_is_token (fun vs H Q E h => len_is_token h) (fun cdv A outer s H vs Q E hr h => ⟨t_is_token K ca, v_is_token T (ok_is_word T) (ok_is_mark T) hr, p_is_token T.ct h⟩)
theorem ok__law_mark (T : Tx P K mg a d ca) : FnOk P w K mg base CX0 2 (a 15) (d 15) P__law_mark (sp__law_mark K ca) :=
  T.f__law_mark.ok sc__law_mark (fun vs H Q E h => len__law_mark h) (fun cdv A outer s H vs Q E hr h => ⟨t__law_mark K ca, v__law_mark T (ok__law_take T) hr, p__law_mark T.ct h⟩)
theorem ok__law_word (T : Tx P K mg a d ca) : FnOk P w K mg base CX0 2 (a 16) (d 16) P__law_word (sp__law_word K ca) :=
  T.f__law_word.ok sc__law_word (fun vs H Q E h => len__law_word h) (fun cdv A outer s H vs Q E hr h => ⟨t__law_word K ca, v__law_word T (ok__law_take T) hr, p__law_word T.ct h⟩)
theorem ok_need_mark (T : Tx P K mg a d ca) : FnOk P w K mg base (L2.CX P w) 3 (a 4) (d 4) P_need_mark (sp_need_mark K ca) :=
  T.f_need_mark.okX sc_need_mark (fun vs H Q E h => len_need_mark h) (fun cdv A outer s H vs Q E hr h => ⟨t_need_mark K ca E, v_need_mark T (ok_is_mark T) (okI_InvalidMark T) hr, p_need_mark T.ct h⟩)
theorem ok_is_text (T : Tx P K mg a d ca) : FnOk P w K mg base CX0 3 (a 6) (d 6) P_is_text (sp_is_text K ca) :=
  T.f_is_text.ok sc_is_text (fun vs H Q E h => len_is_text h) (fun cdv A outer s H vs Q E hr h => ⟨t_is_text K ca, v_is_text T (ok_is_token T) hr, p_is_text T.ct h⟩)
theorem ok__law_text (T : Tx P K mg a d ca) : FnOk P w K mg base CX0 3 (a 17) (d 17) P__law_text (sp__law_text K ca) :=
  T.f__law_text.ok sc__law_text (fun vs H Q E h => len__law_text h) (fun cdv A outer s H vs Q E hr h => ⟨t__law_text K ca, v__law_text T (ok__law_take T) (ok__law_mark T) (ok__law_word T) hr, p__law_text T.ct h⟩)
theorem ok_indent_of (T : Tx P K mg a d ca) : FnOk P w K mg base (L2.CX P w) 4 (a 5) (d 5) P_indent_of (sp_indent_of K ca) :=
  T.f_indent_of.okX sc_indent_of (fun vs H Q E h => len_indent_of h) (fun cdv A outer s H vs Q E hr h => ⟨t_indent_of K ca E, v_indent_of T (ok_need_mark T) hr, p_indent_of T.ct h⟩)
theorem ok_need_text (T : Tx P K mg a d ca) : FnOk P w K mg base (L2.CX P w) 4 (a 7) (d 7) P_need_text (sp_need_text K ca) :=
  T.f_need_text.okX sc_need_text (fun vs H Q E h => len_need_text h) (fun cdv A outer s H vs Q E hr h => ⟨t_need_text K ca E, v_need_text T (ok_is_text T) (okI_InvalidText T) hr, p_need_text T.ct h⟩)
theorem okq_lines (T : Tx P K mg a d ca) : GFnQ P w K mg base 5 (a 8) (d 8) P_lines (spq_lines K ca) :=
  okGq T.f_lines sc_lines (by decide +kernel) (fun cdv A outer s H H2 vs Γ γ YL EN pn hr h gx => ⟨tq_lines K ca Γ, vq_lines T (ok_need_text T) gx hr, pq_lines T.ct h⟩)
theorem ok_lines (T : Tx P K mg a d ca) : GFn1 P w K mg base 5 (a 8) (d 8) P_lines (spGr (sp_lines K ca)) :=
  okGr T.f_lines sc_lines (by decide +kernel) (fun vs H Q E h => len_lines h) (fun cdv A outer s H vs E pn hr h => ⟨t_lines K ca E, v_lines T (ok_need_text T) hr, p_lines T.ct h⟩)
theorem ok_columns (T : Tx P K mg a d ca) : FnOk P w K mg base (L2.CX P w) 5 (a 9) (d 9) P_columns (sp_columns K ca) :=
  T.f_columns.okX sc_columns (fun vs H Q E h => len_columns h) (fun cdv A outer s H vs Q E hr h => ⟨t_columns K ca E, v_columns T (ok_indent_of T) (ok_need_text T) hr, p_columns T.ct h⟩)
theorem ok_place_of (T : Tx P K mg a d ca) : FnOk P w K mg base (L2.CX P w) 5 (a 11) (d 11) P_place_of (sp_place_of K ca) :=
  T.f_place_of.okX sc_place_of (fun vs H Q E h => len_place_of h) (fun cdv A outer s H vs Q E hr h => ⟨t_place_of K ca E, v_place_of T (ok_is_integer T) (ok_need_text T) (okI_InvalidInteger T) hr, p_place_of T.ct h⟩)
theorem ok_widths (T : Tx P K mg a d ca) : FnOk P w K mg base (L2.CX P w) 6 (a 10) (d 10) P_widths (sp_widths K ca) :=
  T.f_widths.okX sc_widths (fun vs H Q E h => len_widths h) (fun cdv A outer s H vs Q E hr h => ⟨t_widths K ca E, v_widths T (ok_columns T) hr, p_widths T.ct h⟩)
theorem ok__law_refused (T : Tx P K mg a d ca) : FnOk P w K mg base CX0 7 (a 19) (d 19) P__law_refused (sp__law_refused K ca) :=
  T.f__law_refused.ok sc__law_refused (fun vs H Q E h => len__law_refused h) (fun cdv A outer s H vs Q E hr h => ⟨t__law_refused K ca, v__law_refused T (ok_lines T) (ok_columns T) (ok_widths T) (ok_place_of T) hr, p__law_refused T.ct h⟩)
theorem ok__law_right (T : Tx P K mg a d ca) : U.FnG P w K mg base CX0 8 (a 20) (d 20) P__law_right (sp__law_right K ca) :=
  U.okG T.f__law_right sc__law_right (fun vs H Q E h => len__law_right h) (fun cdv A outer s H vs Q E hg hr h => ⟨t__law_right K ca, v__law_right T (ok_lines T) (ok_columns T) (ok_widths T) (ok_place_of T) (ok__law_take T) (ok__law_text T) (ok__law_walked T) (ok__law_refused T) (okq_lines T) hg hr, p__law_right T.ct h⟩)
theorem ok_law (T : Tx P K mg a d ca) : U.FnG P w K mg base CX0 9 (a 21) (d 21) P_law (sp_law K ca) :=
  U.okG T.f_law sc_law (fun vs H Q E h => len_law h) (fun cdv A outer s H vs Q E hg hr h => ⟨t_law K ca, v_law T (ok__law_cell T) (ok__law_purse T) (ok__law_right T) hg hr, p_law T.ct h⟩)
end
local macro_rules | `(tactic| walk_at "ev") => `(tactic| simp -implicitDefEqProofs only [Fx.v_slT, Fx.v_slT0, Fx.v_slT1, Fx.v_slT2, Fx.d_slT, Fx.d_slTl, Fx.d_addTi, Fx.d_addTs, Fx.d_addTl, Fx.v_dnewC, Fx.v_zipC, Fx.v_callT, Fx.v_propT, Fx.v_sup, Fx.v_asgNS, Fx.v_appX, Fx.d_strX_str, Fx.d_sum, Fx.v_isiX, Fx.v_binO, Fx.v_binO1, Fx.v_inO, Fx.v_inO1, Fx.v_inO3, Fx.v_eqO, Fx.v_eqO1, Fx.v_eqO3, Fx.v_augD, Fx.v_augD0, Fx.v_augD1, Fx.v_augD2, Fx.v_idxL, Fx.v_idxL1, Fx.v_idxL2, Fx.v_raise0, Fx.v_fld, Fx.v_setF, Fx.v_meth, Fx.v_methA, Fx.v_sp1, Fx.v_mk, Fx.v_mkK, Fx.v_mkK1, Fx.v_cmeth, Fx.v_runI1, Fx.v_runIx, Fx.v_fmt, Fx.v_js0, Fx.v_js, Fx.v_lrg, Fx.v_lrg1, Fx.v_callK, Fx.v_callK1, Fx.bE_ok, Fx.bE_xc, Fx.bS_nx, Fx.bS_rt, Fx.bS_bk, Fx.bS_ct, Fx.bS_xc, Fx.eS_ok, Fx.eS_xc, Fx.v_seq, Fx.v_next, Fx.v_break, Fx.v_cont, Fx.v_c, Fx.v_var, Fx.kVar_val, Fx.kVar_own, Fx.kVar_oob, Fx.v_op, Fx.v_op1, Fx.v_op2, Fx.v_un, Fx.v_un1, Fx.v_not, Fx.v_not1, Fx.v_and, Fx.v_andT, Fx.v_andF, Fx.v_or, Fx.v_orT, Fx.v_orF, Fx.v_if, Fx.v_ifT, Fx.v_ifF, Fx.v_chain, Fx.v_ch, Fx.v_ch0, Fx.v_ch1T, Fx.v_ch1F, Fx.v_ch2, Fx.v_isi, Fx.v_isiT, Fx.v_isi1, Fx.v_isi2, Fx.ty_non, Fx.ty_bl, Fx.ty_int, Fx.ty_str, Fx.ty_lst, Fx.ty_tup, Fx.ty_dct, Fx.v_cb, Fx.bA_ok, Fx.bA_xc, Fx.v_nil, Fx.v_cons, Fx.v_cons1, Fx.v_cons1x, Fx.v_cons2, Fx.v_cons2x, Fx.nop_tr, Fx.nop_fs, Fx.nop_pk, Fx.v_lst, Fx.v_tup, Fx.v_dnew, Fx.v_call, Fx.v_call1, Fx.v_m1, Fx.v_m1a, Fx.v_m1b, Fx.v_part, Fx.v_part1, Fx.v_nopart, Fx.v_sl, Fx.v_sl0, Fx.v_sl1, Fx.v_sl2, Fx.bO_ok, Fx.v_rev, Fx.v_expr, Fx.v_expr1, Fx.v_ifs, Fx.v_ifsT, Fx.v_ifsF, Fx.v_ret, Fx.v_retT, Fx.v_retS, Fx.v_retN, Fx.v_retV, Fx.v_retV1, Fx.v_retV2, Fx.v_asg, Fx.v_asgT, Fx.v_asgS, Fx.v_asg2, Fx.v_gn, Fx.v_gsNil, Fx.v_gsCons, Fx.v_gs, Fx.v_par, Fx.v_par1, Fx.v_aug, Fx.v_aug1, Fx.v_aug2, Fx.v_own, Fx.v_own1, Fx.v_frz, Fx.v_frz0, Fx.v_frz1, Fx.v_frz2, Fx.v_frz3, Fx.v_app, Fx.v_ado, Fx.v_ado1, Fx.v_xf, Fx.v_set, Fx.v_for, Fx.v_for1, Fx.v_forx, Fx.v_iter, Fx.v_iter1, Fx.v_iter1s, Fx.v_iter2, Fx.it_str, Fx.it_lst, Fx.it_tup, Fx.v_rng1, Fx.v_enum, Fx.v_enumL, Fx.v_enumT, Fx.v_raise, Fx.v_raise1, Fx.v_try, Fx.v_tryN, Fx.v_tryX, Fx.v_run1, Fx.v_run2, Fx.v_run3, Fx.v_r0, Fx.v_r1, Fx.v_r2, Fx.v_r3, Fx.v_r4, Fx.v_r5, Fx.v_nx, Fx.v_nx1, Fx.d_eq_str, Fx.d_eq_int, Fx.d_add_int, Fx.d_sub, Fx.d_cmp, Fx.d_len_lst, Fx.d_len_tup, Fx.d_len_fro, Fx.d_nil, Fx.d_max, Fx.d_min, Fx.d_sl_lst, Fx.d_list, Fx.d_listT, Fx.d_tuple, Fx.d_isN, Fx.d_isB, List.map_cons, List.map_nil, List.length_cons, List.length_nil, List.replicate, List.cons_append, List.nil_append, List.append_nil, List.getElem?_cons_zero, List.getElem?_cons_succ, List.set, Nat.reduceAdd, Nat.reduceSub, Nat.zero_add, if_true, if_false, reduceIte, Bool.not_true, Bool.not_false, Bool.and_true, Bool.true_and, Bool.and_self, Bool.false_xor, Bool.true_xor, Bool.false_eq_true, isT, Fx.tyd_non, Fx.tyd_bl, Fx.tyd_int, Fx.tyd_str, Fx.tyd_lst, Fx.tyd_tup, Fx.tyd_dct, reduceCtorEq, decide_true, decide_false, Bool.or_false, Bool.or_true, Bool.false_or, Bool.true_or, Bool.and_false, Bool.false_and, List.any_cons, List.any_nil])
theorem py_istr {S : Sto} {d : D} {z : Str} (h : Py S d (.str z)) : d = .str z := by
  rcases py_inv h with ⟨e, _⟩ | ⟨b, e, _⟩ | ⟨b, e, _⟩ | ⟨b, e, r⟩ | ⟨ps, ds, e, _⟩ | ⟨ps, ds, e, _⟩ | ⟨e, _⟩ <;> cases e
  exact r
theorem py_iint {S : Sto} {d : D} {z : Int} (h : Py S d (.int z)) : d = .int z := by
  rcases py_inv h with ⟨e, _⟩ | ⟨b, e, _⟩ | ⟨b, e, r⟩ | ⟨b, e, r⟩ | ⟨ps, ds, e, _⟩ | ⟨ps, ds, e, _⟩ | ⟨e, _⟩ <;> cases e
  exact r
theorem py_itup {S : Sto} {d : D} {ps : List PyData} (h : Py S d (.tuple ps)) : ∃ ds, d = .tup ds ∧ PyAll S ds ps := by
  rcases py_inv h with ⟨e, _⟩ | ⟨b, e, _⟩ | ⟨b, e, r⟩ | ⟨b, e, r⟩ | ⟨ps, ds, e, _⟩ | ⟨ps, ds, e, h1, h2⟩ | ⟨e, _⟩ <;> cases e
  exact ⟨ds, h2, h1⟩
theorem lim_of {n : Nat} (h : n ≤ 200000) : n ≤ lim := Nat.le_trans h (by decide)
theorem eq_str (z : Str) (a : String) {l : List Nat} (h : sl (Str.ofString a) = l) : decide (z = Str.ofString a) = decide (sl z = l) := by
  have := eq_fix z a h
  rw [← this]
  simp
theorem pick0 {α : Type} (c : α) (r : List α) : atI (c :: r) 0 = some c := by
  unfold atI ixN
  rw [if_pos (by decide), if_pos (by show (0 : Int) < ((c :: r).length : Int); rw [List.length_cons]; omega)]
  rfl
theorem pick1 {α : Type} (b c : α) (r : List α) : atI (b :: c :: r) 1 = some c := by
  unfold atI ixN
  rw [if_pos (by decide), if_pos (by show (1 : Int) < ((b :: c :: r).length : Int); rw [List.length_cons, List.length_cons]; omega)]
  rfl
theorem pick_at {α : Type} {r : List α} {i : Nat} {x : α} (h : r[i]? = some x) : atI r (i : Nat) = some x := by
  have hi := (List.getElem?_eq_some_iff.mp h).1
  unfold atI ixN
  rw [if_pos (by omega), if_pos (by omega)]
  exact h
theorem rng_len (lo : Int) (n : Nat) : (rngD lo n).length = n := by unfold rngD; rw [List.length_map, List.length_range]
theorem rng_at {lo : Int} {n i : Nat} (h : i < n) : (rngD lo n)[i]? = some (.int (lo + (i : Nat))) := by
  unfold rngD; rw [List.getElem?_map, List.getElem?_range h]; rfl
/-- a comprehension that changes the store: what holds of items and store, turn by turn -/
theorem fold_inv {g : Gd} {step : StepC} {ds : List D} (I : Nat → List D → Sto → Prop) (hg : ∀ i acc S, I i acc S → gOk g S)
    (hs : ∀ i d acc S, ds[i]? = some d → I i acc S → ∃ acc' S', step d acc S = some (acc', S') ∧ I (i + 1) acc' S') {acc : List D} {S : Sto} (h0 : I 0 acc S) : ∃ acc' S', foldC g step ds acc S = some (acc', S') ∧ I ds.length acc' S' := by
  have key : ∀ (n i : Nat) (acc : List D) (S : Sto), n = ds.length - i → i ≤ ds.length → I i acc S → ∃ acc' S', foldC g step (ds.drop i) acc S = some (acc', S') ∧ I ds.length acc' S' := by
    intro n
    induction n with
    | zero =>
      intro i acc S hn hi h
      obtain rfl : i = ds.length := by omega
      rw [List.drop_length]
      unfold foldC
      rw [if_pos (hg _ _ _ h)]
      exact ⟨acc, S, rfl, h⟩
    | succ n ih =>
      intro i acc S hn hi h
      have hlt : i < ds.length := by omega
      rw [List.drop_eq_getElem_cons hlt]
      obtain ⟨acc', S', e1, e2⟩ := hs i ds[i] acc S (List.getElem?_eq_getElem hlt) h
      unfold foldC
      rw [if_pos (hg _ _ _ h), e1]
      exact ih (i + 1) acc' S' (by omega) hlt e2
  have := key ds.length 0 acc S (by omega) (Nat.zero_le _) h0
  rwa [List.drop_zero] at this
theorem lc_inv {it : FI} {step : Ev → StepC} {vs : List Nat} {ρ : Ev} {S S1 : Sto} {ds : List D} {g : Gd} (hi : it ρ S = .ok ds g S1) (I : Nat → List D → Sto → Prop) (hg : ∀ i acc S, I i acc S → gOk g S)
    (hs : ∀ i d acc S, ds[i]? = some d → I i acc S → ∃ acc' S', step (wipeE ρ vs) d acc S = some (acc', S') ∧ I (i + 1) acc' S') (h0 : I 0 [] S1) : ∃ acc' S', fLcG it step vs ρ S = .ok (.lst acc') .fs S' ∧ I ds.length acc' S' := by
  obtain ⟨acc', S', e1, e2⟩ := fold_inv I hg hs h0
  refine ⟨acc', S', ?_, e2⟩
  unfold fLcG
  rw [hi]
  dsimp only
  rw [e1]
theorem step_one {set : FG} {te : FE} {ρ ρ1 : Ev} {d y : D} {acc : List D} {S S2 : Sto} {f : Fl} (h1 : set d ρ S = some ρ1) (h2 : te ρ1 S = .ok y f S2) (hf : f.nop = true) (hl : acc.length < lim) : step1 set (fC (.bl true)) te ρ d acc S = some (acc ++ [y], S2) := by
  unfold step1
  rw [h1]; dsimp only
  rw [v_c]; dsimp only
  rw [h2]; dsimp only
  rw [hf, decide_eq_true hl]; rfl
theorem strsD_map (zs : List Str) : strsD (zs.map D.str) = some zs := by
  induction zs with
  | nil => rfl
  | cons z zs ih => simp only [List.map_cons, strsD, ih, Option.map_some]
theorem bools_py {S : Sto} {f : PyData → Bool} : ∀ {ds : List D} {ps : List PyData}, PyAll S ds ps → bools (ds.map fun e => match toP S e with | some q => D.bl (f q) | none => .non) = some (ps.map f)
  | [], ps, h4 => by
    have := h4.len
    cases ps with
    | nil => rfl
    | cons => simp at this
  | x :: ds, ps, h4 => by
    have hl := h4.len
    cases ps with
    | nil => simp at hl
    | cons q ps =>
      unfold PyAll at h4
      simp only [treeAll] at h4
      split at h4
      · rename_i q' ps' e1 e2
        cases h4
        simp only [List.map_cons, bools]
        rw [show toP S x = some q from e1]
        simp only [bools]
        rw [bools_py (ds := ds) e2]
        rfl
      · cases h4
/-- [f(x) for x in v] where f looks at data -/
theorem lc_py {S : Sto} {d : D} {p : PyData} {ps : List PyData} {F : FF} {f : PyData → Bool} {ρ : Ev} {i j : Nat} (h : Py S d p) (hp : p = .list ps ∨ p = .tuple ps) (hw : PyData.weightAll ps ≤ 200000) (hF : ∀ e q, Py S e q → q.weight ≤ 200000 → F [e] S = .ok (.bl (f q)) .tr S)
    (hi : ρ[i]? = some (.val d)) (hj : ∀ e, ((wipeE ρ [j]).set j (.val e))[j]? = some (.val e)) : ∃ ds, sqOf S d = some ds ∧ PyAll S ds ps ∧ fLc (fIter (fVar i)) (gN j) (fC (.bl true)) (fCall F [] (fCons (fVar j) fNil)) [j] ρ S = .ok (.lst (ds.map fun e => match toP S e with | some q => D.bl (f q) | none => .non)) .fs S := by
  obtain ⟨ds, g, h1, h2, h3, h4⟩ := py_sq h hp
  refine ⟨ds, h1, h4, lc_map (S1 := S) (g := g) ?_ h3 (by rw [h4.len]; exact lim_of (Nat.le_trans (wt_len ps) hw)) fun e he => ?_⟩
  · rw [v_iter, Fx.v_var, hi, kVar_val, v_iter1, h2]; rfl
  · obtain ⟨q, hq, hp⟩ := h4.mem he
    refine ⟨_, .tr, rfl, ?_, rfl⟩
    rw [v_call, v_cons, Fx.v_var, hj e]
    walk_at "ev"
    rw [hF e q hp (by have := wt_mem hq; omega), show toP S e = some q from hp]
def tokV (t : Tk) : D := .tup [.str t.1, .str t.2]
theorem py_tok (S : Sto) (t : Tk) : Py S (tokV t) (tokD t) := py_tup (.cons (py_str S _) (.cons (py_str S _) .nil))
theorem py_toks (S : Sto) : ∀ ts : List Tk, PyAll S (ts.map tokV) (ts.map tokD)
  | [] => .nil
  | t :: ts => .cons (py_tok S t) (py_toks S ts)
theorem py_text (S : Sto) (ts : List Tk) : Py S (.lst (ts.map tokV)) (textD ts) := py_lst (py_toks S ts)
theorem py_textT (S : Sto) (ts : List Tk) : Py S (.tup (ts.map tokV)) (.tuple (ts.map tokD)) := py_tup (py_toks S ts)
theorem sign_pick {a : String} {l : List Nat} (hl : sl (Str.ofString a) = l) {r : Int} {S : Sto} (h0 : 0 ≤ r) (h1 : r < l.length) (hz : l.length ≤ 1000) : ∃ c, c ∈ l ∧ dIx (.str (Str.ofString a)) (.int r) S = .ok (.str ⟨#[c]⟩) .tr S := by
  obtain ⟨c, e, hm⟩ := pick (xs := sl (Str.ofString a)) h0 (by rw [hl]; exact h1)
  refine ⟨c, by rw [← hl]; exact hm, d_ix_str ?_ e⟩
  rw [sl_len, hl]; exact Nat.le_trans hz (by decide)
theorem two_mark {a b : Nat} (ha : a ∈ [35, 124, 47]) (hb : b ∈ [48, 49, 50, 51]) : isMark (⟨#[a]⟩ ++ ⟨#[b]⟩) = true := by
  have e : (⟨#[a]⟩ ++ ⟨#[b]⟩ : Str).cps.toList = [a, b] := sl_app ⟨#[a]⟩ ⟨#[b]⟩
  rw [isMark_two e, decide_eq_true ha, decide_eq_true hb]; rfl
theorem letters_word {zs : List Str} (h : ∀ z ∈ zs, ∃ c, z = ⟨#[c]⟩ ∧ letter c = true) (h1 : 1 ≤ zs.length) (h2 : zs.length ≤ 30) : isWord (Txt.join "" zs) = true ∧ (Txt.join "" zs).length = zs.length := by
  have hl : (Txt.join "" zs).length = zs.length := by
    rw [slen_join0]
    have : ∀ l : List Str, (∀ z ∈ l, ∃ c, z = ⟨#[c]⟩ ∧ letter c = true) → (l.map (·.length)).sum = l.length := by
      intro l
      induction l with
      | nil => intro _; rfl
      | cons z l ih =>
        intro h
        obtain ⟨c, rfl, _⟩ := h z List.mem_cons_self
        rw [List.map_cons, List.sum_cons, ih fun w hw => h w (List.mem_cons_of_mem _ hw), List.length_cons]
        show 1 + l.length = _
        omega
    exact this zs h
  refine ⟨?_, hl⟩
  unfold isWord
  rw [hl, decide_eq_true h1, decide_eq_true h2, Bool.true_and, Bool.true_and, List.all_eq_true]
  intro c hc
  have hc : c ∈ sl (Txt.join "" zs) := hc
  rw [sl_join] at hc
  have hc : c ∈ TL.joinL [] (zs.map sl) := hc
  rw [joinL_nil, List.mem_flatten] at hc
  obtain ⟨l, hl, hc⟩ := hc
  obtain ⟨p, hp, rfl⟩ := List.mem_map.mp hl
  obtain ⟨c', rfl, h'⟩ := h p hp
  have : c = c' := by simpa [sl] using hc
  rw [this]; exact h'
theorem good_snoc {ts : List Tk} {t : Tk} (h : GoodT ts) (hm : isMark t.1 = true) (hw : isWord t.2 = true) (h0 : ts = [] → (sl t.1).head? = some 35) : GoodT (ts ++ [t]) := by
  refine ⟨fun u hu => ?_, fun u hu => ?_⟩
  · rcases List.mem_append.mp hu with q | q
    · exact h.1 u q
    · rw [List.mem_singleton.mp q]; exact ⟨hm, hw⟩
  · cases ts with
    | nil => cases hu; exact h0 rfl
    | cons v vs => cases hu; exact h.2 _ rfl
def Box (S : Sto) (k n : Nat) : Prop := ∃ x y z : Int, S[k]? = some (.lst [.int x, .int y, .int z]) ∧ 0 ≤ x ∧ 0 ≤ y ∧ y < 2147483629 ∧ 0 ≤ z ∧ z ≤ n
/-- but for the cell k the store has grown -/
def Fk (k : Nat) (S S' : Sto) : Prop := S.length ≤ S'.length ∧ ∀ j c, j ≠ k → S[j]? = some c → S'[j]? = some c
theorem Fk.refl (k : Nat) (S : Sto) : Fk k S S := ⟨Nat.le_refl _, fun _ _ _ h => h⟩
theorem Fk.trans {k : Nat} {S S1 S2 : Sto} (a : Fk k S S1) (b : Fk k S1 S2) : Fk k S S2 := ⟨Nat.le_trans a.1 b.1, fun j c n h => b.2 j c n (a.2 j c n h)⟩
theorem Fk.set (k : Nat) (S : Sto) (c : Ce) : Fk k S (S.set k c) := ⟨by rw [List.length_set]; exact Nat.le_refl _, fun j e n h => by rw [List.getElem?_set_ne (Ne.symm n)]; exact h⟩
theorem Box.lt {S : Sto} {k n : Nat} (h : Box S k n) : k < S.length := by
  obtain ⟨x, y, z, e, _⟩ := h
  exact (List.getElem?_eq_some_iff.mp e).1
theorem Box.le {S : Sto} {k n m : Nat} (h : Box S k n) (e : n ≤ m) : Box S k m := by
  obtain ⟨x, y, z, h1, h2, h3, h4, h5, h6⟩ := h
  exact ⟨x, y, z, h1, h2, h3, h4, h5, by omega⟩
theorem f_is_mark {S : Sto} {d : D} {p : PyData} (h : Py S d p) (hw : p.weight ≤ 200000) : F_is_mark [d] S = .ok (.bl (markD p)) .tr S := by
  unfold F_is_mark b_is_mark
  walk_at "ev"
  rw [py_ty h]
  cases p with
  | str z =>
    cases py_istr h
    rw [wt_str] at hw
    walk_at "ev"
    show _ = RE.ok (.bl (isMark z)) _ _
    rw [eq_str z " " cps_blank]
    by_cases h1 : sl z = [32]
    · have e : isMark z = true := by unfold isMark; rw [show z.cps.toList = [32] from h1]; rfl
      rw [decide_eq_true h1, e]; walk_at "ev"
    · rw [decide_eq_false h1]
      walk_at "ev"
      rw [d_len_str (lim_of hw)]
      walk_at "ev"
      by_cases h2 : z.length = 2
      · have hl : (sl z).length = 2 := h2
        obtain ⟨a, b, hz⟩ : ∃ a b, sl z = [a, b] := by
          match hs : sl z, hl with
          | [a, b], _ => exact ⟨a, b, rfl⟩
        rw [decide_eq_true (show (z.length : Int) = 2 by omega)]
        walk_at "ev"
        rw [d_ix_str (lim_of hw) (show atI (sl z) 0 = some a by rw [hz]; exact pick0 _ _)]
        walk_at "ev"
        rw [d_in_str (c := a) rfl, isMark_two hz]
        walk_at "ev"
        rw [show sl (Str.ofString "#|/") = [35, 124, 47] from cps_kinds]
        by_cases h3 : a ∈ [35, 124, 47]
        · rw [decide_eq_true h3]
          walk_at "ev"
          rw [d_ix_str (lim_of hw) (show atI (sl z) 1 = some b by rw [hz]; exact pick1 _ _ _)]
          walk_at "ev"
          rw [d_in_str (c := b) rfl, show sl (Str.ofString "0123") = [48, 49, 50, 51] from cps_digits]
          walk_at "ev"
        · rw [decide_eq_false h3]
          walk_at "ev"
      · rw [decide_eq_false (show ¬ (z.length : Int) = 2 by omega), isMark_other h1 h2]
        walk_at "ev"
  | _ => walk_at "ev"; rfl
theorem f_is_word {S : Sto} {d : D} {p : PyData} (h : Py S d p) (hw : p.weight ≤ 200000) : F_is_word [d] S = .ok (.bl (wordD p)) .tr S := by
  unfold F_is_word b_is_word
  walk_at "ev"
  rw [py_ty h]
  cases p with
  | str z =>
    cases py_istr h
    rw [wt_str] at hw
    walk_at "ev"
    show _ = RE.ok (.bl (isWord z)) _ _
    unfold isWord
    rw [d_len_str (lim_of hw)]
    walk_at "ev"
    by_cases h1 : 1 ≤ z.length
    · rw [decide_eq_true (show (1 : Int) ≤ (z.length : Int) by omega), decide_eq_true h1]
      walk_at "ev"
      by_cases h2 : z.length ≤ 30
      · rw [decide_eq_true (show (z.length : Int) ≤ 30 by omega), decide_eq_true h2]
        walk_at "ev"
        have e := lc_map (it := fIter (fVar 0)) (set := gN 1) (te := fOp (dIn false) (fVar 1) (fC (.str "abcdefghijklmnopqrstuvwxyz"))) (vs := [1]) (ρ := [.val (.str z), .no]) (S := S) (S1 := S) (ds := charsD z) (g := none) (f := fun d => match d with | .str w => .bl ((sl w).all letter) | _ => .non)
          (by walk_at "ev") trivial (by unfold charsD; rw [List.length_map]; exact lim_of hw) (fun d hd => by
            unfold charsD at hd
            obtain ⟨c, hc, rfl⟩ := List.mem_map.mp hd
            refine ⟨[.val (.str z), .val (.str ⟨#[c]⟩)], .tr, rfl, ?_, rfl⟩
            walk_at "ev"
            rw [d_in_str (c := c) rfl, mem_letters]
            simp [sl])
        rw [e]
        walk_at "ev"
        rw [d_all (bs := (sl z).map letter) (by
          unfold charsD
          rw [List.map_map]
          have := bools_map letter (sl z)
          rw [← this]
          congr 1
          apply List.map_congr_left
          intro c _
          simp [sl])]
        walk_at "ev"
        rw [List.all_map]
        rfl
      · rw [decide_eq_false (show ¬ (z.length : Int) ≤ 30 by omega), decide_eq_false h2]
        walk_at "ev"
    · rw [decide_eq_false (show ¬ (1 : Int) ≤ (z.length : Int) by omega), decide_eq_false h1]
      walk_at "ev"
  | _ => walk_at "ev"; rfl
theorem f_is_token {S : Sto} {d : D} {p : PyData} (h : Py S d p) (hw : p.weight ≤ 200000) : F_is_token [d] S = .ok (.bl (tokenD p)) .tr S := by
  unfold F_is_token b_is_token
  walk_at "ev"
  rw [py_ty h]
  cases p with
  | tuple ps =>
    obtain ⟨ds, rfl, ha⟩ := py_itup h
    rw [wt_tup] at hw
    walk_at "ev"
    rw [ha.len]
    by_cases h1 : ps.length = 2
    · match ps, h1 with
      | [x, y], _ =>
        rw [PyData.weightAll, PyData.weightAll, PyData.weightAll] at hw
        have hl := ha.len
        match ds, hl with
        | [a, b], _ =>
          obtain ⟨x', q1, rx⟩ := ha.at (i := 0) rfl
          obtain ⟨y', q2, ry⟩ := ha.at (i := 1) rfl
          cases q1; cases q2
          rw [decide_eq_true (show (([x, y] : List PyData).length : Int) = 2 by rfl)]
          walk_at "ev"
          rw [d_ix_tup (pick0 _ _)]
          walk_at "ev"
          rw [f_is_mark rx (by omega)]
          walk_at "ev"
          show _ = RE.ok (.bl (markD x && wordD y)) _ _
          cases markD x with
          | false => walk_at "ev"
          | true =>
            walk_at "ev"
            rw [d_ix_tup (pick1 _ _ _)]
            walk_at "ev"
            rw [f_is_word ry (by omega)]
            walk_at "ev"
    · rw [decide_eq_false (show ¬ (ps.length : Int) = 2 by omega)]
      walk_at "ev"
      have : tokenD (.tuple ps) = false := by
        unfold tokenD; split
        · rename_i e; cases e; exact absurd rfl h1
        · rfl
      rw [this]
  | _ => walk_at "ev"; rfl
theorem f_is_text {S : Sto} {d : D} {p : PyData} (h : Py S d p) (hw : p.weight ≤ 200000) : F_is_text [d] S = .ok (.bl (isTextD p)) .tr S := by
  have row : ∀ ps, (p = .list ps ∨ p = .tuple ps) → PyData.weightAll ps ≤ 200000 → F_is_text [d] S = .ok (.bl (ps.all tokenD && firstD ps)) .tr S := fun ps hp hw => by
    unfold F_is_text b_is_text
    walk_at "ev"
    rw [py_ty h]
    obtain ⟨ds, h1, h4, e⟩ := lc_py (F := F_is_token) (f := tokenD) (ρ := [.val d, .no]) (i := 0) (j := 1) h hp hw (fun e q => f_is_token) rfl (fun _ => rfl)
    have ht : (decide (tyD p = Ty.lst) || decide (tyD p = Ty.tup)) = true := by rcases hp with rfl | rfl <;> rfl
    rw [v_isi2, ht]
    walk_at "ev"
    rw [e]
    walk_at "ev"
    rw [d_all (bools_py h4)]
    walk_at "ev"
    rw [List.all_map]
    cases ha : ps.all (id ∘ tokenD) with
    | false =>
      have : ps.all tokenD = false := ha
      rw [this]; walk_at "ev"
    | true =>
      have ha : ps.all tokenD = true := ha
      rw [ha]
      walk_at "ev"
      rw [d_len_sq h1]
      walk_at "ev"
      cases ps with
      | nil =>
        have := h4.len
        rw [decide_eq_true (show (ds.length : Int) = 0 by rw [this]; rfl)]
        walk_at "ev"
        rfl
      | cons q ps =>
        have hl := h4.len
        rw [decide_eq_false (show ¬ (ds.length : Int) = 0 by rw [hl, List.length_cons]; omega)]
        walk_at "ev"
        cases ds with
        | nil => simp at hl
        | cons x ds =>
          obtain ⟨q', e1, px⟩ := h4.at (i := 0) rfl
          cases e1
          rw [List.all_cons, Bool.and_eq_true] at ha
          obtain ⟨t, rfl, hm, hw'⟩ := tokenD_form ha.1
          obtain ⟨es, rfl, pa⟩ := py_itup px
          have hl2 := pa.len
          match es, hl2 with
          | [a, b], _ =>
            obtain ⟨a', e2, pa1⟩ := pa.at (i := 0) rfl
            cases e2
            cases py_istr pa1
            rw [d_ix_sq h1 (pick0 _ _)]
            walk_at "ev"
            rw [d_ix_tup (pick0 _ _)]
            walk_at "ev"
            have hml := mark_len hm
            have hz : ∃ c r, sl t.1 = c :: r := by
              rcases mark_forms hm with e | ⟨k, i, e, _⟩
              · exact ⟨_, _, e⟩
              · exact ⟨_, _, e⟩
            obtain ⟨c, r, hz⟩ := hz
            rw [d_ix_str (show t.1.length ≤ lim from Nat.le_trans hml (by decide)) (by rw [hz]; exact pick0 _ _)]
            walk_at "ev"
            rw [eq_str _ "#" (l := [35]) (by decide +kernel)]
            show _ = RE.ok (.bl (decide ((sl t.1).head? = some 35))) _ _
            rw [hz]
            congr 2
            rw [Bool.eq_iff_iff]
            simp [sl]
  cases p with
  | list ps => rw [wt_list] at hw; exact row ps (.inl rfl) hw
  | tuple ps => rw [wt_tup] at hw; exact row ps (.inr rfl) hw
  | _ => unfold F_is_text b_is_text; walk_at "ev"; rw [py_ty h]; walk_at "ev"; rfl
/-- the number of the class InvalidText -/
theorem f_need_text {S : Sto} {d : D} {p : PyData} (h : Py S d p) (hw : p.weight ≤ 200000) : F_need_text [d] S = if isTextD p = true then .ok .non .tr S else .xc 2 [("value", d)] S := by
  unfold F_need_text b_need_text
  walk_at "ev"
  rw [f_is_text h hw]
  walk_at "ev"
  cases isTextD p <;> (walk_at "ev"; try rfl)
theorem f_cell {ns : List Int} {k : Int} {S : Sto} (h0 : 0 ≤ k) (h1 : k ≤ 1000) : ∃ n, F__law_cell [.fro true (intsD ns), .int k] S = .ok (.int n) .tr S := by
  unfold F__law_cell b__law_cell
  walk_at "ev"
  by_cases hk : k < (intsD ns).length
  · rw [decide_eq_true hk]
    walk_at "ev"
    obtain ⟨v, e, hm⟩ := pick h0 hk
    unfold intsD at hm
    obtain ⟨n, _, rfl⟩ := List.mem_map.mp hm
    rw [d_ix_fro e]
    walk_at "ev"
    exact ⟨n, rfl⟩
  · rw [decide_eq_false hk]
    walk_at "ev"
    rw [d_mul (.inl ⟨by decide, by decide⟩)]
    walk_at "ev"
    exact ⟨_, rfl⟩
theorem f_purse {c : Int} {S : Sto} : ∃ ds, F__law_purse [.int c] S = .ok (.lst ds) .fs S ∧ ∃ x y : Int, ds = [.int x, .int y, .int 0] ∧ 0 ≤ x ∧ 0 ≤ y ∧ y < 2147483629 := by
  unfold F__law_purse b__law_purse
  walk_at "ev"
  rw [d_pow ⟨by decide, by decide, by decide⟩]
  walk_at "ev"
  rw [d_mod (by decide)]
  walk_at "ev"
  rw [d_lst (by show 3 ≤ lim; decide)]
  walk_at "ev"
  refine ⟨_, rfl, _, _, rfl, ?_, Int.emod_nonneg _ (by decide), Int.emod_lt_of_pos _ (by decide)⟩
  split <;> omega
theorem f_take {S : Sto} {k n : Nat} {m : Int} (hb : Box S k n) (hn : n ≤ 1000000) (hm : 0 < m) (hm2 : m ≤ 100000000) : ∃ r S', F__law_take [.cel k, .int m] S = .ok (.int r) .tr S' ∧ 0 ≤ r ∧ r < m ∧ Box S' k (n + 1) ∧ Fk k S S' := by
  obtain ⟨x, y, z, hs, h1, h2, h3, h4, h5⟩ := hb
  have hk : k < S.length := (List.getElem?_eq_some_iff.mp hs).1
  unfold F__law_take b__law_take
  walk_at "ev"
  rw [d_ix_cel hs (pick0 _ _)]
  walk_at "ev"
  by_cases hx : 0 < x
  · rw [decide_eq_true hx]
    walk_at "ev"
    rw [d_ix_cel hs (pick0 _ _)]
    walk_at "ev"
    rw [d_mod hm]
    walk_at "ev"
    rw [d_ix_cel hs (pick0 _ _)]
    walk_at "ev"
    rw [d_fdiv ⟨hm, by omega⟩]
    walk_at "ev"
    rw [v_setC rfl rfl hs]
    walk_at "ev"
    rw [v_setC2 (j := 0) rfl hs rfl]
    walk_at "ev"
    refine ⟨_, _, rfl, Int.emod_nonneg _ (by omega), Int.emod_lt_of_pos _ hm, ⟨x / m, y, z, by rw [List.getElem?_set_self hk], Int.ediv_nonneg h1 (by omega), h2, h3, h4, by omega⟩, Fk.set _ _ _⟩
  · rw [decide_eq_false hx]
    walk_at "ev"
    rw [d_ix_cel hs (show atI [D.int x, .int y, .int z] 2 = some (.int z) from rfl)]
    walk_at "ev"
    rw [v_setC rfl rfl hs]
    walk_at "ev"
    rw [v_setC2 (j := 2) rfl hs rfl]
    walk_at "ev"
    have hs' : (S.set k (.lst [.int x, .int y, .int (z + 1)]))[k]? = some (.lst [.int x, .int y, .int (z + 1)]) := by rw [List.getElem?_set_self hk]
    rw [d_ix_cel hs' (show atI [D.int x, .int y, .int (z + 1)] 1 = some (.int y) from rfl)]
    walk_at "ev"
    rw [d_ix_cel hs' (show atI [D.int x, .int y, .int (z + 1)] 2 = some (.int (z + 1)) from rfl)]
    walk_at "ev"
    rw [d_mul (.inl ⟨by decide, by decide⟩)]
    walk_at "ev"
    rw [d_pow ⟨by decide, by decide, by omega⟩]
    walk_at "ev"
    rw [d_mod (by decide)]
    walk_at "ev"
    rw [d_ix_cel hs' (show atI [D.int x, .int y, .int (z + 1)] 2 = some (.int (z + 1)) from rfl)]
    walk_at "ev"
    rw [d_mul (.inl ⟨by decide, by decide⟩)]
    walk_at "ev"
    have b1 := Int.emod_nonneg ((y + 7919 * (z + 1) + 112) ^ (5 : Int).toNat) (show (2147483647 : Int) ≠ 0 by decide)
    have b2 := Int.emod_lt_of_pos ((y + 7919 * (z + 1) + 112) ^ (5 : Int).toNat) (show (0 : Int) < 2147483647 by decide)
    rw [d_pow ⟨by decide, by decide, by omega⟩]
    walk_at "ev"
    rw [d_mod (by decide)]
    walk_at "ev"
    rw [d_fdiv ⟨by decide, by decide⟩]
    walk_at "ev"
    rw [d_mod hm]
    walk_at "ev"
    exact ⟨_, _, rfl, Int.emod_nonneg _ (by omega), Int.emod_lt_of_pos _ hm, ⟨x, y, z + 1, hs', h1, h2, h3, by omega, by omega⟩, Fk.set _ _ _⟩
theorem f_mark {S : Sto} {k n : Nat} (hb : Box S k n) (hn : n ≤ 900000) : ∃ z S', F__law_mark [.cel k] S = .ok (.str z) .tr S' ∧ isMark z = true ∧ Box S' k (n + 3) ∧ Fk k S S' := by
  unfold F__law_mark b__law_mark
  walk_at "ev"
  obtain ⟨r, S1, e1, r0, r1, b1, f1⟩ := f_take (m := 3) hb (by omega) (by decide) (by decide)
  rw [e1]
  walk_at "ev"
  by_cases hr : r = 0
  · rw [decide_eq_true hr]
    walk_at "ev"
    exact ⟨_, _, rfl, by decide +kernel, b1.le (by omega), f1⟩
  · rw [decide_eq_false hr]
    walk_at "ev"
    obtain ⟨r2, S2, e2, p0, p1, b2, f2⟩ := f_take (m := 3) b1 (by omega) (by decide) (by decide)
    rw [e2]
    walk_at "ev"
    obtain ⟨c, hc, ec⟩ := sign_pick (S := S2) cps_kinds p0 p1 (by decide)
    rw [ec]
    walk_at "ev"
    obtain ⟨r3, S3, e3, q0, q1, b3, f3⟩ := f_take (m := 4) b2 (by omega) (by decide) (by decide)
    rw [e3]
    walk_at "ev"
    obtain ⟨i, hi, ei⟩ := sign_pick (S := S3) cps_digits q0 q1 (by decide)
    rw [ei]
    walk_at "ev"
    rw [d_add_str (a := ⟨#[c]⟩) (b := ⟨#[i]⟩) (show 1 + 1 ≤ lim by decide)]
    walk_at "ev"
    exact ⟨_, _, rfl, two_mark hc hi, b3, (f1.trans f2).trans f3⟩
theorem f_word {S : Sto} {k n : Nat} {m : Int} (hb : Box S k n) (hn : n ≤ 900000) (hm : 0 < m) (hm2 : m ≤ 30) : ∃ z S', F__law_word [.cel k, .int m] S = .ok (.str z) .tr S' ∧ isWord z = true ∧ (z.length : Int) ≤ m ∧ Box S' k (n + 31) ∧ Fk k S S' := by
  unfold F__law_word b__law_word
  walk_at "ev"
  obtain ⟨r, S1, e1, r0, r1, b1, f1⟩ := f_take (m := m) hb (by omega) hm (by omega)
  have hit : fRng1 (fCons (fOp dAdd (fC (.int 1)) (fCall F__law_take [] (fCons (fVar 0) (fCons (fVar 1) fNil)))) fNil) [.val (.cel k), .val (.int m), .val (.str "abcdefghijklmnopqrstuvwxyz"), .no] S = .ok (rngD 0 (1 + r).toNat) none S1 := by
    walk_at "ev"
    rw [e1]
    walk_at "ev"
    rw [v_rng1a (by omega) (by omega)]
  obtain ⟨acc, S2, e2, zs, hacc, hz, hlen, b2, f2⟩ := lc_inv (vs := [3]) (step := step1 (gN 3) (fC (.bl true)) (fOp dIx (fVar 2) (fCall F__law_take [] (fCons (fVar 0) (fCons (fC (.int 26)) fNil))))) hit
    (fun i acc S' => ∃ zs : List Str, acc = zs.map D.str ∧ (∀ z ∈ zs, ∃ c, z = ⟨#[c]⟩ ∧ letter c = true) ∧ zs.length = i ∧ Box S' k (n + 1 + i) ∧ Fk k S S') (fun _ _ _ _ => trivial) (by
      rintro i d acc S' hd ⟨zs, rfl, hz, rfl, bz, fz⟩
      have hi := (List.getElem?_eq_some_iff.mp hd).1
      rw [rng_len] at hi
      obtain ⟨r2, S3, e3, p0, p1, b3, f3⟩ := f_take (m := 26) bz (by omega) (by decide) (by decide)
      obtain ⟨c, hc, ec⟩ := sign_pick (S := S3) cps_letters p0 p1 (by decide)
      refine ⟨_, S3, step_one rfl (f := .tr) ?_ rfl (by rw [List.length_map]; exact Nat.lt_of_lt_of_le (show zs.length < 100 by omega) (by decide)), zs ++ [⟨#[c]⟩], by rw [List.map_append]; rfl, ?_, by rw [List.length_append]; rfl, b3.le (by omega), fz.trans f3⟩
      · show fOp dIx (fVar 2) _ [.val (.cel k), .val (.int m), .val (.str "abcdefghijklmnopqrstuvwxyz"), .val d] S' = _
        walk_at "ev"
        rw [e3]
        walk_at "ev"
        exact ec
      · intro z hz'
        rcases List.mem_append.mp hz' with q | q
        · exact hz z q
        · rw [List.mem_singleton.mp q]
          refine ⟨c, rfl, ?_⟩
          rw [← mem_letters]
          exact decide_eq_true (by rw [cps_letters]; exact hc)) ⟨[], rfl, by simp, rfl, b1.le (by omega), f1⟩
  rw [rng_len] at hlen b2
  show ∃ z S', kNox (kRun (eS (bE (fLcG _ (step1 (gN 3) (fC (.bl true)) (fOp dIx (fVar 2) (fCall F__law_take [] (fCons (fVar 0) (fCons (fC (.int 26)) fNil))))) [3] _ S) _) _ _)) = _ ∧ _
  rw [e2]
  walk_at "ev"
  have hzl : zs.length ≤ 30 := by omega
  obtain ⟨hw, hl⟩ := letters_word hz (by omega) hzl
  rw [hacc, d_join (strsD_map zs) (by
    have := slen_join0 zs
    rw [hl] at this
    rw [← this]
    have : (Str.ofString "").length = 0 := by decide +kernel
    rw [this]
    exact Nat.le_trans (show zs.length + zs.length * 0 ≤ 30 by omega) (by decide))]
  walk_at "ev"
  exact ⟨_, _, rfl, hw, by rw [hl]; omega, b2.le (by omega), f2⟩
theorem f_text {S : Sto} {k n : Nat} {many most : Int} (hb : Box S k n) (hn : n ≤ 800000) (h0 : 0 ≤ many) (h1 : many ≤ 1000) (h2 : 0 < most) (h3 : most ≤ 30) :
    ∃ ts S', F__law_text [.cel k, .int many, .int most] S = .ok (.lst (ts.map tokV)) .fs S' ∧ GoodT ts ∧ (ts.length : Int) = many ∧ (∀ t ∈ ts, (t.2.length : Int) ≤ most) ∧ Box S' k (n + 40 * many.toNat) ∧ Fk k S S' := by
  unfold F__law_text b__law_text
  walk_at "ev"
  rw [d_lst (by decide)]
  walk_at "ev"
  rw [v_rng1a (by omega) (by omega)]
  walk_at "ev"
  obtain ⟨ρ', S', e, ts, s1, s2, rfl, hl, hg, hw, b', f'⟩ := loop_inv (g := none) (set := gN 4) (ds := rngD 0 many.toNat)
    (body := sSeq (sAsg (fIf (fOp dGt (fVar 4) (fC (.int 0))) (fCall F__law_mark [] (fCons (fVar 0) fNil)) (fOp dAdd (fC (.str "#")) (fOp dIx (fC (.str "0123")) (fCall F__law_take [] (fCons (fVar 0) (fCons (fC (.int 4)) fNil)))))) (gN 5)) (chk 3 (sApp 3 (fTup (fCons (fVar 5) (fCons (fCall F__law_word [] (fCons (fVar 0) (fCons (fVar 2) fNil))) fNil))))))
    (fun i ρ S' => ∃ ts s1 s2, ρ = [.val (.cel k), .val (.int many), .val (.int most), .own (ts.map tokV), s1, s2] ∧ ts.length = i ∧ GoodT ts ∧ (∀ t ∈ ts, (t.2.length : Int) ≤ most) ∧ Box S' k (n + 40 * i) ∧ Fk k S S') (fun _ _ _ _ => trivial) (by
      rintro i d ρ S1 hd ⟨ts, s1, s2, rfl, rfl, hg, hw, b1, f1⟩
      have hi := (List.getElem?_eq_some_iff.mp hd).1
      rw [rng_len] at hi
      rw [rng_at hi] at hd
      cases hd
      have mk : ∃ z S2, fIf (fOp dGt (fVar 4) (fC (.int 0))) (fCall F__law_mark [] (fCons (fVar 0) fNil)) (fOp dAdd (fC (.str "#")) (fOp dIx (fC (.str "0123")) (fCall F__law_take [] (fCons (fVar 0) (fCons (fC (.int 4)) fNil))))) [.val (.cel k), .val (.int many), .val (.int most), .own (ts.map tokV), .val (.int (0 + (ts.length : Nat))), s2] S1 = .ok (.str z) .tr S2 ∧ isMark z = true ∧ (ts = [] → (sl z).head? = some 35) ∧ Box S2 k (n + 40 * ts.length + 3) ∧ Fk k S1 S2 := by
        walk_at "ev"
        by_cases ht : ts = []
        · subst ht
          rw [decide_eq_false (by decide)]
          walk_at "ev"
          obtain ⟨r, S2, e2, p0, p1, b2, f2⟩ := f_take (m := 4) b1 (by omega) (by decide) (by decide)
          rw [e2]
          walk_at "ev"
          obtain ⟨c, hc, ec⟩ := sign_pick (S := S2) cps_digits p0 p1 (by decide)
          rw [ec]
          walk_at "ev"
          rw [d_add_str (a := Str.ofString "#") (b := ⟨#[c]⟩) (show 1 + 1 ≤ lim by decide)]
          refine ⟨_, _, rfl, two_mark (a := 35) (by decide) hc, fun _ => ?_, b2.le (by simp only [List.length_nil]; omega), f2⟩
          show (sl ((⟨#[35]⟩ : Str) ++ ⟨#[c]⟩)).head? = _
          rw [sl_app]; rfl
        · have : 0 < ts.length := by cases ts with | nil => exact absurd rfl ht | cons => simp
          rw [decide_eq_true (by omega)]
          walk_at "ev"
          obtain ⟨z, S2, e2, hm, b2, f2⟩ := f_mark b1 (by omega)
          rw [e2]
          exact ⟨z, S2, rfl, hm, fun q => absurd q ht, b2, f2⟩
      obtain ⟨z, S2, ez, hm, hh, b2, f2⟩ := mk
      obtain ⟨w, S3, ew, hw', hwl, b3, f3⟩ := f_word b2 (by omega) h2 h3
      refine ⟨_, _, S3, rfl, .inl ?_, ts ++ [(z, w)], .val (.int (0 + (ts.length : Nat))), .val (.str z), rfl, by rw [List.length_append]; rfl, good_snoc hg hm hw' hh, fun t ht => ?_, b3.le (by omega), (f1.trans f2).trans f3⟩
      · show sSeq _ _ [.val (.cel k), .val (.int many), .val (.int most), .own (ts.map tokV), .val (.int (0 + (ts.length : Nat))), s2] S1 = _
        rw [v_seq, v_asg, ez]
        walk_at "ev"
        rw [v_chk rfl]
        walk_at "ev"
        rw [ew]
        walk_at "ev"
        rw [d_tup (ds := [_, _]) (show 2 ≤ lim by decide)]
        walk_at "ev"
        rw [v_app1 (ds := ts.map tokV) rfl rfl (by rw [List.length_map]; exact Nat.lt_of_lt_of_le (show ts.length < 1000 by omega) (by decide)), List.map_append]
        rfl
      · rcases List.mem_append.mp ht with q | q
        · exact hw t q
        · rw [List.mem_singleton.mp q]; exact hwl) (ρ := [.val (.cel k), .val (.int many), .val (.int most), .own [], .no, .no]) (S := S) ⟨[], .no, .no, rfl, rfl, ⟨fun _ h => (nomatch h), fun _ h => (nomatch h)⟩, fun _ h => (nomatch h), hb.le (by omega), Fk.refl _ _⟩
  rw [rng_len] at hl b'
  rw [e]
  walk_at "ev"
  exact ⟨ts, S', rfl, hg, by omega, hw, b', f'⟩
theorem d_eq_pure {neg b : Bool} {S : Sto} {d e : D} {p q : PyData} (hd : Py S d p) (he : Py S e q) (pd : pureD p = true) (pe : pureD q = true) (sd : SeqAt.shaped p = true) (se : SeqAt.shaped q = true) (hb : b = true ↔ p = q) : dEqv neg d e S = .ok (.bl (neg ^^ b)) .tr S := by
  unfold dEqv
  rw [show toP S d = some p from hd, show toP S e = some q from he]
  dsimp only
  rw [if_pos (by rw [sd, se, pure_nodict p pd, pure_nodict q pe]; simp)]
  congr 3
  rw [Bool.eq_iff_iff, eqv_iff p q pd pe, hb]
theorem pure_ints (a : List Int) : pureD (.list (a.map PyData.int)) = true := by
  simp only [pureD]
  exact pureAll_of fun d hd => by obtain ⟨i, _, rfl⟩ := List.mem_map.mp hd; simp only [pureD]
local macro_rules | `(tactic| walk_at "ex") => `(tactic| simp -implicitDefEqProofs only [Fx.v_slT, Fx.v_slT0, Fx.v_slT1, Fx.v_slT2, Fx.d_slT, Fx.d_slTl, Fx.d_addTi, Fx.d_addTs, Fx.d_addTl, Fx.v_dnewC, Fx.v_zipC, Fx.d_ixl0, Fx.d_ixl1, Fx.d_ixl2, Fx.d_ixt0, Fx.d_ixt1, Fx.d_lst0, Fx.d_lst1, Fx.d_lst2, Fx.d_tup0, Fx.d_tup1, Fx.d_tup2, Fx.d_int_int, Fx.d_neg, Fx.v_gt2, Fx.v_gt1, Fx.v_callT, Fx.v_propT, Fx.v_sup, Fx.v_asgNS, Fx.v_appX, Fx.d_strX_str, Fx.d_sum, Fx.v_isiX, Fx.v_binO, Fx.v_binO1, Fx.v_inO, Fx.v_inO1, Fx.v_inO3, Fx.v_eqO, Fx.v_eqO1, Fx.v_eqO3, Fx.v_eqX, Fx.v_eqX1, Fx.v_neO, Fx.v_neO1, Fx.v_neO3, Fx.v_augD, Fx.v_augD0, Fx.v_augD1, Fx.v_augD2, Fx.v_idxL, Fx.v_idxL1, Fx.v_idxL2, Fx.v_raise0, Fx.v_fld, Fx.v_setF, Fx.v_meth, Fx.v_methA, Fx.v_sp1, Fx.v_mk, Fx.v_mkK, Fx.v_mkK1, Fx.v_cmeth, Fx.v_runI1, Fx.v_runIx, Fx.v_fmt, Fx.v_js0, Fx.v_js, Fx.v_lrg, Fx.v_lrg1, Fx.v_callK, Fx.v_callK1, Fx.bE_ok, Fx.bE_xc, Fx.bS_nx, Fx.bS_rt, Fx.bS_bk, Fx.bS_ct, Fx.bS_xc, Fx.eS_ok, Fx.eS_xc, Fx.v_seq, Fx.v_next, Fx.v_break, Fx.v_cont, Fx.v_c, Fx.v_var, Fx.kVar_val, Fx.kVar_own, Fx.kVar_oob, Fx.v_op, Fx.v_op1, Fx.v_op2, Fx.v_un, Fx.v_un1, Fx.v_not, Fx.v_not1, Fx.v_and, Fx.v_andT, Fx.v_andF, Fx.v_or, Fx.v_orT, Fx.v_orF, Fx.v_if, Fx.v_ifT, Fx.v_ifF, Fx.v_chain, Fx.v_ch, Fx.v_ch0, Fx.v_ch1T, Fx.v_ch1F, Fx.v_ch2, Fx.v_isi, Fx.v_isiT, Fx.v_isi1, Fx.v_isi2, Fx.ty_non, Fx.ty_bl, Fx.ty_int, Fx.ty_str, Fx.ty_lst, Fx.ty_tup, Fx.ty_dct, Fx.v_cb, Fx.bA_ok, Fx.bA_xc, Fx.v_nil, Fx.v_cons, Fx.v_cons1, Fx.v_cons1x, Fx.v_cons2, Fx.v_cons2x, Fx.nop_tr, Fx.nop_fs, Fx.nop_pk, Fx.v_lst, Fx.v_tup, Fx.v_dnew, Fx.v_call, Fx.v_call1, Fx.v_m1, Fx.v_m1a, Fx.v_m1b, Fx.v_part, Fx.v_part1, Fx.v_nopart, Fx.v_sl, Fx.v_sl0, Fx.v_sl1, Fx.v_sl2, Fx.bO_ok, Fx.v_rev, Fx.v_expr, Fx.v_expr1, Fx.v_ifs, Fx.v_ifsT, Fx.v_ifsF, Fx.v_ret, Fx.v_retT, Fx.v_retS, Fx.v_retN, Fx.v_retV, Fx.v_retV1, Fx.v_retV2, Fx.v_asg, Fx.v_asgT, Fx.v_asgS, Fx.v_asg2, Fx.v_gn, Fx.v_gsNil, Fx.v_gsCons, Fx.v_gs, Fx.v_par, Fx.v_par1, Fx.v_aug, Fx.v_aug1, Fx.v_aug2, Fx.v_own, Fx.v_own1, Fx.v_frz, Fx.v_frz0, Fx.v_frz1, Fx.v_frz2, Fx.v_frz3, Fx.v_app, Fx.v_ado, Fx.v_ado1, Fx.v_xf, Fx.v_set, Fx.v_for, Fx.v_for1, Fx.v_forx, Fx.v_iter, Fx.v_iter1, Fx.v_iter1s, Fx.v_iter2, Fx.it_str, Fx.it_lst, Fx.it_tup, Fx.v_rng1, Fx.v_enum, Fx.v_enumL, Fx.v_enumT, Fx.v_raise, Fx.v_raise1, Fx.v_try, Fx.v_tryN, Fx.v_tryX, Fx.v_run1, Fx.v_run2, Fx.v_run3, Fx.v_r0, Fx.v_r1, Fx.v_r2, Fx.v_r3, Fx.v_r4, Fx.v_r5, Fx.v_nx, Fx.v_nx1, Fx.d_eq_str, Fx.d_eq_int, Fx.d_add_int, Fx.d_sub, Fx.d_cmp, Fx.d_len_lst, Fx.d_len_tup, Fx.d_len_fro, Fx.d_nil, Fx.d_max, Fx.d_min, Fx.d_sl_lst, Fx.d_list, Fx.d_listT, Fx.d_tuple, Fx.d_isN, Fx.d_isB, List.map_cons, List.map_nil, List.length_cons, List.length_nil, List.replicate, List.cons_append, List.nil_append, List.append_nil, List.getElem?_cons_zero, List.getElem?_cons_succ, List.set, Nat.reduceAdd, Nat.reduceSub, Nat.zero_add, if_true, if_false, reduceIte, Bool.not_true, Bool.not_false, Bool.and_true, Bool.true_and, Bool.and_self, Bool.false_xor, Bool.true_xor, Bool.false_eq_true, isT, Fx.tyd_non, Fx.tyd_bl, Fx.tyd_int, Fx.tyd_str, Fx.tyd_lst, Fx.tyd_tup, Fx.tyd_dct, reduceCtorEq, decide_true, decide_false, Bool.or_false, Bool.or_true, Bool.false_or, Bool.true_or, Bool.and_false, Bool.false_and, List.any_cons, List.any_nil])
theorem mk_cases {z : Str} (h : isMark z = true) : z = Str.ofString " " ∨ ∃ k d : Nat, z = ⟨#[k, 48 + d]⟩ ∧ (k = 35 ∨ k = 124 ∨ k = 47) ∧ d ≤ 3 := by
  rcases mark_forms h with e | ⟨k, i, e, hk, hi⟩
  · exact .inl (sl_inj (by rw [show sl z = [32] from e]; exact cps_blank.symm))
  · refine .inr ⟨k, i - 48, sl_inj ?_, by simpa using hk, ?_⟩
    · rw [show sl z = [k, i] from e]
      show [k, i] = [k, 48 + (i - 48)]
      simp only [List.mem_cons, List.not_mem_nil, or_false] at hi
      rw [show 48 + (i - 48) = i by omega]
    · simp only [List.mem_cons, List.not_mem_nil, or_false] at hi
      omega
def isB (t : Tk) : Bool := decide (t.1 = Str.ofString " ")
def indT (z : Str) : Nat := (sl z).getD 1 48 - 48
theorem blank_ne {k d : Nat} : decide ((⟨#[k, 48 + d]⟩ : Str) = Str.ofString " ") = false := by
  rw [eq_str _ " " (l := [32]) (by decide +kernel)]
  exact decide_eq_false (by show ¬ [k, 48 + d] = [32]; simp)
theorem d_int_dig {d : Nat} (h : d ≤ 3) (t : Bool) (S : Sto) : dInt [.str ⟨#[48 + d]⟩] t S = .ok (.int ((d : Nat) : Int)) .tr S := by
  have : PySem.intText? ⟨#[48 + d]⟩ = some ((d : Nat) : Int) := by
    have key : ∀ d ≤ 3, PySem.intText? ⟨#[48 + d]⟩ = some ((d : Nat) : Int) := by decide +kernel
    exact key d h
  unfold dInt
  show (if (⟨#[48 + d]⟩ : Str).length ≤ 640 then _ else _) = _
  rw [if_pos (show (⟨#[48 + d]⟩ : Str).length ≤ 640 from by show 1 ≤ 640; decide), this]
theorem d_ix1 {k d : Nat} {S : Sto} : dIx (.str ⟨#[k, 48 + d]⟩) (.int 1) S = .ok (.str ⟨#[48 + d]⟩) .tr S := d_ix_str (by show 2 ≤ lim; decide) (pick1 _ _ _)
theorem find_dig {d : Nat} (h : d ≤ 3) (S : Sto) : dFind (Str.ofString "0123") (.str ⟨#[48 + d]⟩) S = .ok (.int ((d : Nat) : Int)) .tr S := by
  have key : ∀ d ≤ 3, Txt.find (Str.ofString "0123") ⟨#[48 + d]⟩ = ((d : Nat) : Int) := by decide +kernel
  show RE.ok (.int (Txt.find (Str.ofString "0123") ⟨#[48 + d]⟩)) _ _ = _
  rw [key d h]
theorem f_need_mark {z : Str} {S : Sto} (h : isMark z = true) : F_need_mark [.str z] S = .ok .non .tr S := by
  unfold F_need_mark b_need_mark
  walk_at "ev"
  rw [f_is_mark (py_str S z) (by rw [wt_str]; have := mark_len h; omega), show markD (.str z) = true from h]
  walk_at "ev"
theorem f_indent_of {k d : Nat} {S : Sto} (hk : k = 35 ∨ k = 124 ∨ k = 47) (h : d ≤ 3) : F_indent_of [.str ⟨#[k, 48 + d]⟩] S = .ok (.int ((d : Nat) : Int)) .tr S := by
  have hm : isMark ⟨#[k, 48 + d]⟩ = true := by
    show isMarkL [k, 48 + d] = true
    unfold isMarkL
    rcases hk with e | e | e <;> rw [e] <;> simp <;> omega
  unfold F_indent_of b_indent_of
  walk_at "ev"
  rw [f_need_mark hm]
  walk_at "ev"
  rw [blank_ne]
  walk_at "ev"
  rw [d_ix1]
  walk_at "ev"
  rw [d_int_dig h]
  walk_at "ev"
structure W where
  dn : List (List Tk)
  cu : List Tk
  wd : List Int
  w : Int
  sp : List Int
  pl : List (Nat × Nat)
def wid (t : Tk) : Int := ((indT t.1 : Nat) : Int) + ((t.2.length : Nat) : Int)
def st0 (t : Tk) : W := ⟨[], [t], [], wid t, [wid t], [(0, 0)]⟩
def stp (s : W) (t : Tk) : W := if isB t = true then ⟨s.dn, s.cu ++ [t], s.wd, s.w + 1 + ((t.2.length : Nat) : Int), s.sp ++ [s.w + 1 + ((t.2.length : Nat) : Int)], s.pl ++ [(s.dn.length, s.cu.length)]⟩
  else ⟨s.dn ++ [s.cu], [t], s.wd ++ [s.w], wid t, s.sp ++ [wid t], s.pl ++ [(s.dn.length + 1, 0)]⟩
def W.rows (s : W) : List (List Tk) := s.dn ++ [s.cu]
def W.wide (s : W) : List Int := s.wd ++ [s.w]
def run (ts : List Tk) : Option W := match ts with
  | [] => none
  | t :: us => some (us.foldl stp (st0 t))
def rowsT (ts : List Tk) : List (List Tk) := match run ts with | none => [] | some s => s.rows
def wideT (ts : List Tk) : List Int := match run ts with | none => [] | some s => s.wide
def spT (ts : List Tk) : List Int := match run ts with | none => [] | some s => s.sp
def plT (ts : List Tk) : List (Nat × Nat) := match run ts with | none => [] | some s => s.pl
def rowV (r : List Tk) : D := .lst (r.map tokV)
def plV (p : Nat × Nat) : D := .tup [.int ((p.1 : Nat) : Int), .int ((p.2 : Nat) : Int)]
/-- how much there is -/
structure Sz (s : W) (n : Nat) : Prop where
  a : s.dn.length + s.cu.length ≤ n
  b : s.wd.length + 1 ≤ n
  c : s.sp.length ≤ n
  d : s.pl.length ≤ n
theorem sz0 (t : Tk) : Sz (st0 t) 1 := ⟨Nat.le_refl _, Nat.le_refl _, Nat.le_refl _, Nat.le_refl _⟩
theorem szS {s : W} {n : Nat} (h : Sz s n) (t : Tk) (hc : s.cu ≠ []) : Sz (stp s t) (n + 1) := by
  obtain ⟨a, b, c, d⟩ := h
  have := List.length_pos_iff.mpr hc
  unfold stp
  split
  · refine ⟨?_, ?_, ?_, ?_⟩ <;> simp only [List.length_append, List.length_singleton] <;> omega
  · refine ⟨?_, ?_, ?_, ?_⟩ <;> simp only [List.length_append, List.length_singleton] <;> omega
theorem cuS (s : W) (t : Tk) : (stp s t).cu ≠ [] := by
  unfold stp
  split <;> simp
def cell4 (s : W) : List Ce := [.lst (s.rows.map rowV), .lst (s.wide.map D.int), .lst (s.sp.map D.int), .lst (s.pl.map plV)]
section
variable {S0 : Sto} {a b c d x : Ce}
theorem gx0 : (S0 ++ [a, b, c, d])[S0.length]? = some a := by rw [List.getElem?_append_right (Nat.le_refl _), Nat.sub_self]; rfl
theorem gx1 : (S0 ++ [a, b, c, d])[S0.length + 1]? = some b := by rw [List.getElem?_append_right (by omega), Nat.add_sub_cancel_left]; rfl
theorem gx2 : (S0 ++ [a, b, c, d])[S0.length + 2]? = some c := by rw [List.getElem?_append_right (by omega), Nat.add_sub_cancel_left]; rfl
theorem gx3 : (S0 ++ [a, b, c, d])[S0.length + 3]? = some d := by rw [List.getElem?_append_right (by omega), Nat.add_sub_cancel_left]; rfl
theorem sx0 : (S0 ++ [a, b, c, d]).set S0.length x = S0 ++ [x, b, c, d] := by rw [List.set_append_right _ _ (Nat.le_refl _), Nat.sub_self]; rfl
theorem sx1 : (S0 ++ [a, b, c, d]).set (S0.length + 1) x = S0 ++ [a, x, c, d] := by rw [List.set_append_right _ _ (by omega), Nat.add_sub_cancel_left]; rfl
theorem sx2 : (S0 ++ [a, b, c, d]).set (S0.length + 2) x = S0 ++ [a, b, x, d] := by rw [List.set_append_right _ _ (by omega), Nat.add_sub_cancel_left]; rfl
theorem sx3 : (S0 ++ [a, b, c, d]).set (S0.length + 3) x = S0 ++ [a, b, c, x] := by rw [List.set_append_right _ _ (by omega), Nat.add_sub_cancel_left]; rfl
end
theorem has_cel {i k : Nat} {ρ : Ev} {S : Sto} {ds : List D} (h : ρ[i]? = some (.val (.cel k))) (hs : S[k]? = some (.lst ds)) : hasL i ρ S = true := by
  unfold hasL
  rw [h]
  dsimp only
  rw [hs]
theorem ix_neg1 (n : Nat) (h : 0 < n) : ixN n (-1) = some (n - 1) := by
  unfold ixN
  rw [if_neg (by decide), if_pos (by omega)]
  congr 1
  omega
theorem set_last {α : Type} (l : List α) (x y : α) : (l ++ [x]).set ((l ++ [x]).length - 1) y = l ++ [y] := by
  rw [List.length_append, List.length_singleton, Nat.add_sub_cancel, List.set_append_right _ _ (Nat.le_refl _), Nat.sub_self]
  rfl
noncomputable def wk_2 : FS := chk 4 (sApp 4 (fTup (fCons (fOp dSub (fCB dLen (fCons (fVar 1) (fNil))) (fC (.int 1))) (fCons (fOp dSub (fCB dLen (fCons (fOp dIx (fVar 1) (fUn dNeg (fC (.int 1)))) (fNil))) (fC (.int 1))) (fNil)))))
noncomputable def wk_1 : FS := sSeq (chk 3 (sApp 3 (fOp dIx (fVar 2) (fUn dNeg (fC (.int 1)))))) wk_2
noncomputable def wk_0 : FS := sSeq (sIf (fOp (dEqv false) (fVar 5) (fC (.str " "))) (sSeq (sSetI 2 (fUn dNeg (fC (.int 1))) (fOp dAdd (fOp dAdd (fOp dIx (fVar 2) (fUn dNeg (fC (.int 1)))) (fC (.int 1))) (fCB dLen (fCons (fVar 6) (fNil))))) (sSetI 1 (fUn dNeg (fC (.int 1))) (fOp dAdd (fOp dIx (fVar 1) (fUn dNeg (fC (.int 1)))) (fLst (fCons (fTup (fCons (fVar 5) (fCons (fVar 6) (fNil)))) (fNil)))))) (sSeq (chk 2 (sApp 2 (fOp dAdd (fM1 dFind (fC (.str "0123")) (fOp dIx (fVar 5) (fC (.int 1)))) (fCB dLen (fCons (fVar 6) (fNil)))))) (chk 1 (sApp 1 (fLst (fCons (fTup (fCons (fVar 5) (fCons (fVar 6) (fNil)))) (fNil))))))) wk_1
section
variable {S0 : Sto}
abbrev wkE (v : D) (n : Nat) (a b : Sl) : Ev := [.val v, .val (.cel n), .val (.cel (n + 1)), .val (.cel (n + 2)), .val (.cel (n + 3)), a, b]
theorem wk_tail {v : D} {m w : Str} {rs : List (List Tk)} {r : List Tk} {ws : List Int} {x : Int} {sp : List Int} {pl : List (Nat × Nat)} (hne : r ≠ []) (h1 : sp.length ≤ 1000) (h2 : pl.length ≤ 1000) :
    wk_1 (wkE v S0.length (.val (.str m)) (.val (.str w))) (S0 ++ [.lst ((rs ++ [r]).map rowV), .lst ((ws ++ [x]).map D.int), .lst (sp.map D.int), .lst (pl.map plV)]) = .nx (wkE v S0.length (.val (.str m)) (.val (.str w))) (S0 ++ [.lst ((rs ++ [r]).map rowV), .lst ((ws ++ [x]).map D.int), .lst ((sp ++ [x]).map D.int), .lst ((pl ++ [(rs.length, r.length - 1)]).map plV)]) := by
  have e1 : ∀ S : Sto, S[S0.length + 1]? = some (.lst ((ws ++ [x]).map D.int)) → dIx (.cel (S0.length + 1)) (.int (-1)) S = .ok (.int x) .tr S := fun S h => d_ix_cel h (by rw [List.map_append]; exact at_last _ _)
  have e0 : ∀ S : Sto, S[S0.length]? = some (.lst ((rs ++ [r]).map rowV)) → dIx (.cel S0.length) (.int (-1)) S = .ok (rowV r) .tr S := fun S h => d_ix_cel h (by rw [List.map_append]; exact at_last _ _)
  have hr : ((rs ++ [r]).map rowV).length = rs.length + 1 := by rw [List.length_map, List.length_append]; rfl
  have eS : (sp ++ [x]).map D.int = sp.map D.int ++ [.int x] := by rw [List.map_append]; rfl
  have eP : (pl ++ [(rs.length, r.length - 1)]).map plV = pl.map plV ++ [plV (rs.length, r.length - 1)] := by rw [List.map_append]; rfl
  have hs : (sp.map D.int).length ≤ 1000 := by rw [List.length_map]; exact h1
  have hp : (pl.map plV).length ≤ 1000 := by rw [List.length_map]; exact h2
  rw [eS, eP]
  generalize (rs ++ [r]).map rowV = R at e0 hr ⊢
  generalize (ws ++ [x]).map D.int = Wd at e1 ⊢
  generalize sp.map D.int = Sp at hs ⊢
  generalize pl.map plV = Pl at hp ⊢
  have step1 : chk 3 (sApp 3 (fOp dIx (fVar 2) (fUn dNeg (fC (.int 1))))) (wkE v S0.length (.val (.str m)) (.val (.str w))) (S0 ++ [.lst R, .lst Wd, .lst Sp, .lst Pl]) = .nx (wkE v S0.length (.val (.str m)) (.val (.str w))) (S0 ++ [.lst R, .lst Wd, .lst (Sp ++ [.int x]), .lst Pl]) := by
    rw [v_chk (has_cel (k := S0.length + 2) (ds := Sp) rfl gx2)]
    walk_at "ex"
    rw [e1 _ gx1]
    walk_at "ex"
    rw [v_app2 (k := S0.length + 2) (ds := Sp) rfl rfl gx2 (Nat.lt_of_le_of_lt hs (by decide)), sx2]
  unfold wk_1
  rw [v_seq, step1, bS_nx]
  unfold wk_2
  rw [v_chk (has_cel (k := S0.length + 3) (ds := Pl) rfl gx3)]
  walk_at "ex"
  rw [d_len_cel gx0]
  walk_at "ex"
  rw [e0 _ gx0]
  unfold rowV
  walk_at "ex"
  rw [hr, List.length_map]
  rw [v_app2 (k := S0.length + 3) (ds := Pl) rfl rfl gx3 (Nat.lt_of_le_of_lt hp (by decide)), sx3]
  have := List.length_pos_iff.mpr hne
  rw [show (((rs.length + 1 : Nat) : Nat) : Int) - 1 = ((rs.length : Nat) : Int) by omega, show ((r.length : Nat) : Int) - 1 = ((r.length - 1 : Nat) : Int) by omega]
  rfl
theorem wk_blank {v : D} {t : Tk} {s : W} (hb : isB t = true) (hw : isWord t.2 = true) {n : Nat} (hn : n ≤ 900) (hs : Sz s n) (hc : s.cu ≠ []) : wk_0 (wkE v S0.length (.val (.str t.1)) (.val (.str t.2))) (S0 ++ cell4 s) = .nx (wkE v S0.length (.val (.str t.1)) (.val (.str t.2))) (S0 ++ cell4 (stp s t)) := by
  have hbb : t.1 = Str.ofString " " := of_decide_eq_true hb
  have hl := word_len hw
  have es : stp s t = ⟨s.dn, s.cu ++ [t], s.wd, s.w + 1 + ((t.2.length : Nat) : Int), s.sp ++ [s.w + 1 + ((t.2.length : Nat) : Int)], s.pl ++ [(s.dn.length, s.cu.length)]⟩ := by unfold stp; rw [if_pos hb]
  have tl := wk_tail (S0 := S0) (v := v) (m := t.1) (w := t.2) (rs := s.dn) (r := s.cu ++ [t]) (ws := s.wd) (x := s.w + 1 + ((t.2.length : Nat) : Int)) (sp := s.sp) (pl := s.pl) (by simp) (by have := hs.c; omega) (by have := hs.d; omega)
  rw [es]
  unfold cell4 W.rows W.wide
  dsimp only
  rw [List.length_append, List.length_singleton, Nat.add_sub_cancel] at tl
  rw [← tl]
  have e1 : ∀ S : Sto, S[S0.length + 1]? = some (.lst ((s.wd ++ [s.w]).map D.int)) → dIx (.cel (S0.length + 1)) (.int (-1)) S = .ok (.int s.w) .tr S := fun S h => d_ix_cel h (by rw [List.map_append]; exact at_last _ _)
  have e0 : ∀ S : Sto, S[S0.length]? = some (.lst ((s.dn ++ [s.cu]).map rowV)) → dIx (.cel S0.length) (.int (-1)) S = .ok (rowV s.cu) .tr S := fun S h => d_ix_cel h (by rw [List.map_append]; exact at_last _ _)
  have q1 : ((s.wd ++ [s.w]).map D.int).set (((s.wd ++ [s.w]).map D.int).length - 1) (.int (s.w + 1 + ((t.2.length : Nat) : Int))) = (s.wd ++ [s.w + 1 + ((t.2.length : Nat) : Int)]).map D.int := by
    rw [List.map_append, show [s.w].map D.int = [D.int s.w] from rfl, set_last, List.map_append]; rfl
  have q0 : ((s.dn ++ [s.cu]).map rowV).set (((s.dn ++ [s.cu]).map rowV).length - 1) (rowV (s.cu ++ [t])) = (s.dn ++ [s.cu ++ [t]]).map rowV := by
    rw [List.map_append, show [s.cu].map rowV = [rowV s.cu] from rfl, set_last, List.map_append]; rfl
  have er : rowV (s.cu ++ [t]) = .lst (s.cu.map tokV ++ [.tup [.str t.1, .str t.2]]) := by unfold rowV; rw [List.map_append]; rfl
  have lc : (s.cu.map tokV).length ≤ 900 := by rw [List.length_map]; have := hs.a; omega
  have p1 : 0 < ((s.wd ++ [s.w]).map D.int).length := by simp
  have p0 : 0 < ((s.dn ++ [s.cu]).map rowV).length := by simp
  rw [← q1, ← q0, er]
  generalize (s.dn ++ [s.cu]).map rowV = R at e0 p0 ⊢
  generalize (s.wd ++ [s.w]).map D.int = Wd at e1 p1 ⊢
  generalize s.sp.map D.int = Sp at ⊢
  generalize s.pl.map plV = Pl at ⊢
  unfold wk_0
  rw [v_seq, v_ifs]
  rw [show fOp (dEqv false) (fVar 5) (fC (.str " ")) (wkE v S0.length (.val (.str t.1)) (.val (.str t.2))) (S0 ++ [.lst R, .lst Wd, .lst Sp, .lst Pl]) = .ok (.bl true) .tr (S0 ++ [.lst R, .lst Wd, .lst Sp, .lst Pl]) by walk_at "ex"; rw [hbb, decide_eq_true rfl]]
  rw [eS_ok, v_ifsT, v_seq]
  have s1 : sSetI 2 (fUn dNeg (fC (.int 1))) (fOp dAdd (fOp dAdd (fOp dIx (fVar 2) (fUn dNeg (fC (.int 1)))) (fC (.int 1))) (fCB dLen (fCons (fVar 6) (fNil)))) (wkE v S0.length (.val (.str t.1)) (.val (.str t.2))) (S0 ++ [.lst R, .lst Wd, .lst Sp, .lst Pl]) = .nx (wkE v S0.length (.val (.str t.1)) (.val (.str t.2))) (S0 ++ [.lst R, .lst (Wd.set (Wd.length - 1) (.int (s.w + 1 + ((t.2.length : Nat) : Int)))), .lst Sp, .lst Pl]) := by
    walk_at "ex"
    rw [e1 _ gx1]
    walk_at "ex"
    rw [d_len_str (lim_of (Nat.le_trans hl.2 (by decide)))]
    walk_at "ex"
    rw [v_setC (k := S0.length + 1) rfl rfl gx1]
    walk_at "ex"
    rw [v_setC2 (j := Wd.length - 1) rfl gx1 (ix_neg1 _ p1), sx1]
  rw [s1, bS_nx]
  have s2 : ∀ Wd' : List D, sSetI 1 (fUn dNeg (fC (.int 1))) (fOp dAdd (fOp dIx (fVar 1) (fUn dNeg (fC (.int 1)))) (fLst (fCons (fTup (fCons (fVar 5) (fCons (fVar 6) (fNil)))) (fNil)))) (wkE v S0.length (.val (.str t.1)) (.val (.str t.2))) (S0 ++ [.lst R, .lst Wd', .lst Sp, .lst Pl]) = .nx (wkE v S0.length (.val (.str t.1)) (.val (.str t.2))) (S0 ++ [.lst (R.set (R.length - 1) (.lst (s.cu.map tokV ++ [.tup [.str t.1, .str t.2]]))), .lst Wd', .lst Sp, .lst Pl]) := fun Wd' => by
    walk_at "ex"
    rw [e0 _ gx0]
    unfold rowV
    walk_at "ex"
    rw [d_add_lst (by show _ + 1 ≤ lim; exact Nat.le_trans (show _ ≤ 1000 by omega) (by decide))]
    walk_at "ex"
    rw [v_setC (k := S0.length) rfl rfl gx0]
    walk_at "ex"
    rw [v_setC2 (j := R.length - 1) rfl gx0 (ix_neg1 _ p0), sx0]
  rw [s2, bS_nx]
theorem wk_new {v : D} {k d : Nat} {w : Str} (hk : k = 35 ∨ k = 124 ∨ k = 47) (hd : d ≤ 3) (hw : isWord w = true) {rs : List (List Tk)} {ws : List Int} {sp : List Int} {pl : List (Nat × Nat)} (h1 : sp.length ≤ 1000) (h2 : pl.length ≤ 1000) (h3 : rs.length ≤ 1000) (h4 : ws.length ≤ 1000) :
    wk_0 (wkE v S0.length (.val (.str ⟨#[k, 48 + d]⟩)) (.val (.str w))) (S0 ++ [.lst (rs.map rowV), .lst (ws.map D.int), .lst (sp.map D.int), .lst (pl.map plV)]) = .nx (wkE v S0.length (.val (.str ⟨#[k, 48 + d]⟩)) (.val (.str w))) (S0 ++ [.lst ((rs ++ [[((⟨#[k, 48 + d]⟩ : Str), w)]]).map rowV), .lst ((ws ++ [((d : Nat) : Int) + ((w.length : Nat) : Int)]).map D.int), .lst ((sp ++ [((d : Nat) : Int) + ((w.length : Nat) : Int)]).map D.int), .lst ((pl ++ [(rs.length, 0)]).map plV)]) := by
  have hl := word_len hw
  have tl := wk_tail (S0 := S0) (v := v) (m := ⟨#[k, 48 + d]⟩) (w := w) (rs := rs) (r := [(⟨#[k, 48 + d]⟩, w)]) (ws := ws) (x := ((d : Nat) : Int) + ((w.length : Nat) : Int)) (sp := sp) (pl := pl) (by simp) h1 h2
  rw [List.length_singleton] at tl
  rw [← tl]
  have eR : (rs ++ [[((⟨#[k, 48 + d]⟩ : Str), w)]]).map rowV = rs.map rowV ++ [.lst [.tup [.str ⟨#[k, 48 + d]⟩, .str w]]] := by rw [List.map_append]; rfl
  have eW : (ws ++ [((d : Nat) : Int) + ((w.length : Nat) : Int)]).map D.int = ws.map D.int ++ [.int (((d : Nat) : Int) + ((w.length : Nat) : Int))] := by rw [List.map_append]; rfl
  rw [eR, eW]
  have lr : (rs.map rowV).length ≤ 1000 := by rw [List.length_map]; exact h3
  have lw : (ws.map D.int).length ≤ 1000 := by rw [List.length_map]; exact h4
  generalize rs.map rowV = R at lr ⊢
  generalize ws.map D.int = Wd at lw ⊢
  generalize sp.map D.int = Sp at ⊢
  generalize pl.map plV = Pl at ⊢
  unfold wk_0
  rw [v_seq, v_ifs]
  rw [show fOp (dEqv false) (fVar 5) (fC (.str " ")) (wkE v S0.length (.val (.str ⟨#[k, 48 + d]⟩)) (.val (.str w))) (S0 ++ [.lst R, .lst Wd, .lst Sp, .lst Pl]) = .ok (.bl false) .tr (S0 ++ [.lst R, .lst Wd, .lst Sp, .lst Pl]) by walk_at "ex"; rw [blank_ne]]
  rw [eS_ok, v_ifsF, v_seq]
  have s1 : chk 2 (sApp 2 (fOp dAdd (fM1 dFind (fC (.str "0123")) (fOp dIx (fVar 5) (fC (.int 1)))) (fCB dLen (fCons (fVar 6) (fNil))))) (wkE v S0.length (.val (.str ⟨#[k, 48 + d]⟩)) (.val (.str w))) (S0 ++ [.lst R, .lst Wd, .lst Sp, .lst Pl]) = .nx (wkE v S0.length (.val (.str ⟨#[k, 48 + d]⟩)) (.val (.str w))) (S0 ++ [.lst R, .lst (Wd ++ [.int (((d : Nat) : Int) + ((w.length : Nat) : Int))]), .lst Sp, .lst Pl]) := by
    rw [v_chk (has_cel (k := S0.length + 1) (ds := Wd) rfl gx1)]
    walk_at "ex"
    rw [d_ix1]
    walk_at "ex"
    rw [find_dig hd]
    walk_at "ex"
    rw [d_len_str (lim_of (Nat.le_trans hl.2 (by decide)))]
    walk_at "ex"
    rw [v_app2 (k := S0.length + 1) (ds := Wd) rfl rfl gx1 (Nat.lt_of_le_of_lt lw (by decide)), sx1]
  rw [s1, bS_nx]
  have s2 : ∀ Wd' : List D, chk 1 (sApp 1 (fLst (fCons (fTup (fCons (fVar 5) (fCons (fVar 6) (fNil)))) (fNil)))) (wkE v S0.length (.val (.str ⟨#[k, 48 + d]⟩)) (.val (.str w))) (S0 ++ [.lst R, .lst Wd', .lst Sp, .lst Pl]) = .nx (wkE v S0.length (.val (.str ⟨#[k, 48 + d]⟩)) (.val (.str w))) (S0 ++ [.lst (R ++ [.lst [.tup [.str ⟨#[k, 48 + d]⟩, .str w]]]), .lst Wd', .lst Sp, .lst Pl]) := fun Wd' => by
    rw [v_chk (has_cel (k := S0.length) (ds := R) rfl gx0)]
    walk_at "ex"
    rw [v_app2 (k := S0.length) (ds := R) rfl rfl gx0 (Nat.lt_of_le_of_lt lr (by decide)), sx0]
  rw [s2, bS_nx]
theorem wid_eq {k d : Nat} {w : Str} : wid (⟨#[k, 48 + d]⟩, w) = ((d : Nat) : Int) + ((w.length : Nat) : Int) := by
  unfold wid indT
  show (((48 + d - 48 : Nat) : Nat) : Int) + _ = _
  rw [Nat.add_sub_cancel_left]
theorem wk_step {v : D} {t : Tk} {s : W} (ht : isMark t.1 = true ∧ isWord t.2 = true) {n : Nat} (hn : n ≤ 900) (hs : Sz s n) (hc : s.cu ≠ []) : wk_0 (wkE v S0.length (.val (.str t.1)) (.val (.str t.2))) (S0 ++ cell4 s) = .nx (wkE v S0.length (.val (.str t.1)) (.val (.str t.2))) (S0 ++ cell4 (stp s t)) := by
  obtain ⟨m, w⟩ := t
  rcases mk_cases ht.1 with e | ⟨k, d, e, hk, hd⟩
  · exact wk_blank (decide_eq_true e) ht.2 hn hs hc
  · have e : m = ⟨#[k, 48 + d]⟩ := e
    subst e
    have hb : isB (⟨#[k, 48 + d]⟩, w) = false := blank_ne
    have es : stp s (⟨#[k, 48 + d]⟩, w) = ⟨s.dn ++ [s.cu], [(⟨#[k, 48 + d]⟩, w)], s.wd ++ [s.w], ((d : Nat) : Int) + ((w.length : Nat) : Int), s.sp ++ [((d : Nat) : Int) + ((w.length : Nat) : Int)], s.pl ++ [(s.dn.length + 1, 0)]⟩ := by
      unfold stp
      rw [hb, if_neg (by decide), wid_eq]
    rw [es]
    have := List.length_pos_iff.mpr hc
    have nw := wk_new (S0 := S0) (v := v) hk hd ht.2 (rs := s.dn ++ [s.cu]) (ws := s.wd ++ [s.w]) (sp := s.sp) (pl := s.pl) (by have := hs.c; omega) (by have := hs.d; omega) (by have := hs.a; rw [List.length_append, List.length_singleton]; omega) (by have := hs.b; rw [List.length_append, List.length_singleton]; omega)
    rw [show (s.dn ++ [s.cu]).length = s.dn.length + 1 by rw [List.length_append]; rfl] at nw
    exact nw
noncomputable abbrev wkG : FG := gT 2 (gsCons (gN 5) (gsCons (gN 6) (gsNil)))
theorem wk_loop {v : D} : ∀ (us : List Tk) (s : W) (n : Nat) (a b : Sl), (∀ t ∈ us, isMark t.1 = true ∧ isWord t.2 = true) → Sz s n → s.cu ≠ [] → n + us.length ≤ 800 → ∃ a' b', loopS none wkG wk_0 (us.map tokV) (wkE v S0.length a b) (S0 ++ cell4 s) = .nx (wkE v S0.length a' b') (S0 ++ cell4 (us.foldl stp s))
  | [], s, n, a, b, _, _, _, _ => ⟨a, b, by rw [List.map_nil, loop_end (g := none) trivial]; rfl⟩
  | t :: us, s, n, a, b, hg, hs, hc, hl => by
    rw [List.length_cons] at hl
    obtain ⟨a', b', ih⟩ := wk_loop (v := v) us (stp s t) (n + 1) (.val (.str t.1)) (.val (.str t.2)) (fun u hu => hg u (List.mem_cons_of_mem _ hu)) (szS hs t hc) (cuS s t) (by omega)
    refine ⟨a', b', ?_⟩
    rw [List.map_cons, loop_step (g := none) (S2 := S0 ++ cell4 (stp s t)) (ρ1 := wkE v S0.length (.val (.str t.1)) (.val (.str t.2))) trivial rfl (wk_step (hg t List.mem_cons_self) (by omega) hs hc), ih]
    rfl
def due4 (ts : List Tk) : List Ce := [.lst ((rowsT ts).map rowV), .lst ((wideT ts).map D.int), .lst ((spT ts).map D.int), .lst ((plT ts).map plV)]
theorem not_blank {ts : List Tk} {t : Tk} {us : List Tk} (hg : GoodT ts) (e : ts = t :: us) : ∃ k d : Nat, t.1 = ⟨#[k, 48 + d]⟩ ∧ (k = 35 ∨ k = 124 ∨ k = 47) ∧ d ≤ 3 := by
  subst e
  rcases mk_cases (hg.1 t List.mem_cons_self).1 with h | ⟨k, d, h⟩
  · have := hg.2 t rfl
    rw [h, show sl (Str.ofString " ") = [32] from cps_blank] at this
    cases this
  · exact ⟨k, d, h⟩
theorem f_walked {ts : List Tk} (hg : GoodT ts) (hl : ts.length ≤ 400) : F__law_walked [.lst (ts.map tokV)] S0 = .ok (.lst [.cel S0.length, .cel (S0.length + 1), .cel (S0.length + 2), .cel (S0.length + 3)]) .fs (S0 ++ due4 ts) := by
  have key : ∃ a' b', loopS none wkG wk_0 (ts.map tokV) (wkE (.lst (ts.map tokV)) S0.length .no .no) (S0 ++ [.lst [], .lst [], .lst [], .lst []]) = .nx (wkE (.lst (ts.map tokV)) S0.length a' b') (S0 ++ due4 ts) := by
    cases e : ts with
    | nil => exact ⟨.no, .no, by rw [List.map_nil, loop_end (g := none) trivial]; rfl⟩
    | cons t us =>
      obtain ⟨k, d, em, hk, hd⟩ := not_blank hg e
      subst e
      obtain ⟨m, w⟩ := t
      have em : m = ⟨#[k, 48 + d]⟩ := em
      subst em
      have ht := hg.1 _ List.mem_cons_self
      rw [List.length_cons] at hl
      obtain ⟨a', b', ih⟩ := wk_loop (S0 := S0) (v := .lst ((((⟨#[k, 48 + d]⟩ : Str), w) :: us).map tokV)) us (st0 ((⟨#[k, 48 + d]⟩ : Str), w)) 1 (.val (.str ⟨#[k, 48 + d]⟩)) (.val (.str w)) (fun u hu => hg.1 u (List.mem_cons_of_mem _ hu)) (sz0 _) (by unfold st0; simp) (by omega)
      refine ⟨a', b', ?_⟩
      have nw := wk_new (S0 := S0) (v := .lst ((((⟨#[k, 48 + d]⟩ : Str), w) :: us).map tokV)) hk hd ht.2 (rs := []) (ws := []) (sp := []) (pl := []) (by decide) (by decide) (by decide) (by decide)
      have e1 : cell4 (st0 (⟨#[k, 48 + d]⟩, w)) = [.lst (([] ++ [[((⟨#[k, 48 + d]⟩ : Str), w)]]).map rowV), .lst (([] ++ [((d : Nat) : Int) + ((w.length : Nat) : Int)]).map D.int), .lst (([] ++ [((d : Nat) : Int) + ((w.length : Nat) : Int)]).map D.int), .lst (([] ++ [(([] : List (List Tk)).length, 0)]).map plV)] := by
        rw [← wid_eq (k := k)]; rfl
      rw [← e1] at nw
      refine Eq.trans ?_ ih
      rw [List.map_cons]
      exact loop_step (g := none) (ρ1 := wkE (.lst ((((⟨#[k, 48 + d]⟩ : Str), w) :: us).map tokV)) S0.length (.val (.str ⟨#[k, 48 + d]⟩)) (.val (.str w))) trivial rfl nw
  obtain ⟨a', b', e⟩ := key
  generalize ts.map tokV = T at e ⊢
  unfold F__law_walked b__law_walked
  walk_at "ex"
  simp only [List.append_assoc, List.length_append, List.length_singleton, List.cons_append, List.nil_append]
  rw [d_tup (ds := [_, _, _, _]) (show 4 ≤ lim by decide)]
  walk_at "ex"
  rw [show ∀ (a b c d : D) (g : FGs) (ρ : Ev) (S : Sto), gT 4 g (.tup [a, b, c, d]) ρ S = g [a, b, c, d] ρ S from fun _ _ _ _ _ _ _ => rfl]
  walk_at "ex"
  unfold b__law_walked_1
  walk_at "ex"
  refine Eq.trans (congrArg (fun r => kNox (kRun (bS r b__law_walked_2))) e) ?_
  walk_at "ex"
  unfold b__law_walked_2
  walk_at "ex"
  rw [d_lst (ds := [_, _, _, _]) (show 4 ≤ lim by decide)]
  walk_at "ex"
end
section
variable {S : Sto}
def IsT (v : D) (ts : List Tk) : Prop := v = .lst (ts.map tokV) ∨ v = .tup (ts.map tokV)
theorem wt_gd {ts : List Tk} (hg : GoodT ts) (hl : ts.length ≤ 1000) : (textD ts).weight ≤ 200000 ∧ (PyData.tuple (ts.map tokD)).weight ≤ 200000 := by
  have h1 : PyData.weightAll (ts.map tokD) ≤ 35 * ts.length := U.wt_good hg.1
  have h2 := wt_text ts
  have h3 : (PyData.tuple (ts.map tokD)).weight = (textD ts).weight := rfl
  omega
theorem IsT.need {v : D} {ts : List Tk} {S : Sto} (h : IsT v ts) (hg : GoodT ts) (hl : ts.length ≤ 1000) : F_need_text [v] S = .ok .non .tr S := by
  have hw := wt_gd hg hl
  rcases h with rfl | rfl
  · rw [f_need_text (py_text S ts) hw.1, if_pos (show isTextD (textD ts) = true from (good_list ts).mpr hg)]
  · rw [f_need_text (py_textT S ts) hw.2, if_pos ((good_tuple ts).mpr hg)]
theorem IsT.iter {v : D} {ts : List Tk} {ρ : Ev} {S : Sto} {i : Nat} (h : IsT v ts) (e : ρ[i]? = some (.val v)) : fIter (fVar i) ρ S = .ok (ts.map tokV) none S := by
  rw [v_iter, show fVar i ρ S = .ok v .tr S by unfold fVar; rw [e]]
  rcases h with rfl | rfl
  · walk_at "ex"
  · walk_at "ex"
theorem nc_toks : ∀ us : List Tk, noCels (us.map tokV) = true
  | [] => rfl
  | u :: us => by rw [List.map_cons]; unfold noCels; rw [nc_toks us]; rfl
theorem IsT.items {v : D} {ts : List Tk} {S : Sto} (h : IsT v ts) : itemsD S v = some (ts.map tokV, none) := by
  rcases h with rfl | rfl <;> rfl
theorem IsT.nc {v : D} {ts : List Tk} (h : IsT v ts) : noCel v = true := by
  rcases h with rfl | rfl <;> exact nc_toks ts
theorem IsT.len {v : D} {ts : List Tk} {S : Sto} {t : Bool} (h : IsT v ts) : dLen [v] t S = .ok (.int ((ts.length : Nat) : Int)) .tr S := by
  rcases h with rfl | rfl
  · rw [d_len_lst, List.length_map]
  · rw [d_len_tup, List.length_map]
theorem IsT.ix {v : D} {ts : List Tk} {S : Sto} (h : IsT v ts) {i : Nat} {t : Tk} (e : ts[i]? = some t) : dIx v (.int ((i : Nat) : Int)) S = .ok (tokV t) .tr S := by
  have q : atI (ts.map tokV) ((i : Nat) : Int) = some (tokV t) := pick_at (by rw [List.getElem?_map, e]; rfl)
  rcases h with rfl | rfl
  · exact d_ix_lst q
  · exact d_ix_tup q
def spL (s : W) : Prop := ∃ q, s.sp = q ++ [s.w]
theorem sp0 (t : Tk) : spL (st0 t) := ⟨[], rfl⟩
theorem spS (s : W) (t : Tk) : spL (stp s t) := by
  unfold stp spL
  split
  · exact ⟨_, rfl⟩
  · exact ⟨_, rfl⟩
noncomputable abbrev coB : FS := sSeq (sAsg (fIf (fOp (dEqv false) (fVar 2) (fC (.str " "))) (fOp dAdd (fOp dIx (fVar 1) (fUn dNeg (fC (.int 1)))) (fC (.int 1))) (fCall F_indent_of [] (fCons (fVar 2) (fNil)))) (gN 4)) (chk 1 (sApp 1 (fOp dAdd (fVar 4) (fCB dLen (fCons (fVar 3) (fNil))))))
noncomputable abbrev coG : FG := gT 2 (gsCons (gN 2) (gsCons (gN 3) (gsNil)))
theorem co_new {v : D} {k d : Nat} {w : Str} (hk : k = 35 ∨ k = 124 ∨ k = 47) (hd : d ≤ 3) (hw : isWord w = true) {sp : List Int} (h1 : sp.length ≤ 1000) {a : Sl} : coB [.val v, .own (sp.map D.int), .val (.str ⟨#[k, 48 + d]⟩), .val (.str w), a] S = .nx [.val v, .own ((sp ++ [((d : Nat) : Int) + ((w.length : Nat) : Int)]).map D.int), .val (.str ⟨#[k, 48 + d]⟩), .val (.str w), .val (.int ((d : Nat) : Int))] S := by
  have hl := word_len hw
  have lw : (sp.map D.int).length ≤ 1000 := by rw [List.length_map]; exact h1
  rw [show (sp ++ [((d : Nat) : Int) + ((w.length : Nat) : Int)]).map D.int = sp.map D.int ++ [.int (((d : Nat) : Int) + ((w.length : Nat) : Int))] by rw [List.map_append]; rfl]
  generalize sp.map D.int = Sp at lw ⊢
  unfold coB
  walk_at "ex"
  rw [blank_ne]
  walk_at "ex"
  rw [f_indent_of hk hd]
  walk_at "ex"
  rw [v_chk rfl]
  walk_at "ex"
  rw [d_len_str (lim_of (Nat.le_trans hl.2 (by decide)))]
  walk_at "ex"
  rw [v_app1 (ds := Sp) rfl rfl (Nat.lt_of_le_of_lt lw (by decide))]
  rfl
theorem co_blank {v : D} {t : Tk} {s : W} (hb : isB t = true) (hw : isWord t.2 = true) (hs : spL s) (h1 : s.sp.length ≤ 1000) {a : Sl} : ∃ a', coB [.val v, .own (s.sp.map D.int), .val (.str t.1), .val (.str t.2), a] S = .nx [.val v, .own ((s.sp ++ [s.w + 1 + ((t.2.length : Nat) : Int)]).map D.int), .val (.str t.1), .val (.str t.2), a'] S := by
  have hl := word_len hw
  have hbb : t.1 = Str.ofString " " := of_decide_eq_true hb
  have lw : (s.sp.map D.int).length ≤ 1000 := by rw [List.length_map]; exact h1
  have e1 : dIx (.lst (s.sp.map D.int)) (.int (-1)) S = .ok (.int s.w) .tr S := by
    obtain ⟨q, e⟩ := hs
    rw [e, List.map_append]
    exact d_ix_lst (at_last _ _)
  refine ⟨.val (.int (s.w + 1)), ?_⟩
  rw [show (s.sp ++ [s.w + 1 + ((t.2.length : Nat) : Int)]).map D.int = s.sp.map D.int ++ [.int (s.w + 1 + ((t.2.length : Nat) : Int))] by rw [List.map_append]; rfl]
  generalize s.sp.map D.int = Sp at lw e1 ⊢
  unfold coB
  walk_at "ex"
  rw [hbb, decide_eq_true rfl]
  walk_at "ex"
  rw [e1]
  walk_at "ex"
  rw [v_chk rfl]
  walk_at "ex"
  rw [d_len_str (lim_of (Nat.le_trans hl.2 (by decide)))]
  walk_at "ex"
  rw [v_app1 (ds := Sp) rfl rfl (Nat.lt_of_le_of_lt lw (by decide))]
  rfl
theorem co_step {v : D} {t : Tk} {s : W} (ht : isMark t.1 = true ∧ isWord t.2 = true) (hs : spL s) (h1 : s.sp.length ≤ 1000) {a : Sl} : ∃ a', coB [.val v, .own (s.sp.map D.int), .val (.str t.1), .val (.str t.2), a] S = .nx [.val v, .own ((stp s t).sp.map D.int), .val (.str t.1), .val (.str t.2), a'] S := by
  obtain ⟨m, w⟩ := t
  rcases mk_cases ht.1 with e | ⟨k, d, e, hk, hd⟩
  · have hb : isB (m, w) = true := decide_eq_true e
    obtain ⟨a', h⟩ := co_blank (S := S) (v := v) hb ht.2 hs h1 (a := a)
    refine ⟨a', ?_⟩
    rw [h]
    unfold stp
    rw [if_pos hb]
  · have e : m = ⟨#[k, 48 + d]⟩ := e
    subst e
    have hb : isB (⟨#[k, 48 + d]⟩, w) = false := blank_ne
    refine ⟨.val (.int ((d : Nat) : Int)), ?_⟩
    rw [co_new hk hd ht.2 h1]
    unfold stp
    rw [hb, if_neg (by decide), wid_eq]
theorem co_loop {v : D} : ∀ (us : List Tk) (s : W) (n : Nat) (a b c : Sl), (∀ t ∈ us, isMark t.1 = true ∧ isWord t.2 = true) → Sz s n → s.cu ≠ [] → spL s → n + us.length ≤ 800 → ∃ a' b' c', loopS none coG coB (us.map tokV) [.val v, .own (s.sp.map D.int), a, b, c] S = .nx [.val v, .own ((us.foldl stp s).sp.map D.int), a', b', c'] S
  | [], s, n, a, b, c, _, _, _, _, _ => ⟨a, b, c, by rw [List.map_nil, loop_end (g := none) trivial]; rfl⟩
  | t :: us, s, n, a, b, c, hg, hs, hc, hp, hl => by
    rw [List.length_cons] at hl
    obtain ⟨c1, e1⟩ := co_step (S := S) (v := v) (hg t List.mem_cons_self) hp (by have := hs.c; omega) (a := c)
    obtain ⟨a', b', c', ih⟩ := co_loop (v := v) us (stp s t) (n + 1) (.val (.str t.1)) (.val (.str t.2)) c1 (fun u hu => hg u (List.mem_cons_of_mem _ hu)) (szS hs t hc) (cuS s t) (spS s t) (by omega)
    refine ⟨a', b', c', ?_⟩
    rw [List.map_cons, loop_step (g := none) (S2 := S) (ρ1 := [.val v, .own (s.sp.map D.int), .val (.str t.1), .val (.str t.2), c]) trivial rfl e1, ih]
    rfl
theorem f_columns {v : D} {ts : List Tk} (h : IsT v ts) (hg : GoodT ts) (hl : ts.length ≤ 400) : F_columns [v] S = .ok (.lst ((spT ts).map D.int)) .fs S := by
  have key : ∃ a' b' c', loopS none coG coB (ts.map tokV) [.val v, .own [], .no, .no, .no] S = .nx [.val v, .own ((spT ts).map D.int), a', b', c'] S := by
    cases e : ts with
    | nil => exact ⟨.no, .no, .no, by rw [List.map_nil, loop_end (g := none) trivial]; rfl⟩
    | cons t us =>
      obtain ⟨k, d, em, hk, hd⟩ := not_blank hg e
      subst e
      obtain ⟨m, w⟩ := t
      have em : m = ⟨#[k, 48 + d]⟩ := em
      subst em
      have ht := hg.1 _ List.mem_cons_self
      rw [List.length_cons] at hl
      obtain ⟨a', b', c', ih⟩ := co_loop (S := S) (v := v) us (st0 ((⟨#[k, 48 + d]⟩ : Str), w)) 1 (.val (.str ⟨#[k, 48 + d]⟩)) (.val (.str w)) (.val (.int ((d : Nat) : Int))) (fun u hu => hg.1 u (List.mem_cons_of_mem _ hu)) (sz0 _) (by unfold st0; simp) (sp0 _) (by omega)
      refine ⟨a', b', c', ?_⟩
      have nw := co_new (S := S) (v := v) hk hd ht.2 (sp := []) (by decide) (a := .no)
      refine Eq.trans ?_ ih
      rw [List.map_cons]
      refine loop_step (g := none) (ρ1 := [.val v, .own [], .val (.str ⟨#[k, 48 + d]⟩), .val (.str w), .no]) trivial rfl ?_
      rw [show (st0 ((⟨#[k, 48 + d]⟩ : Str), w)).sp = [] ++ [((d : Nat) : Int) + ((w.length : Nat) : Int)] by rw [← wid_eq (k := k)]; rfl]
      exact nw
  obtain ⟨a', b', c', e⟩ := key
  unfold F_columns b_columns
  walk_at "ex"
  rw [h.need hg (by omega)]
  walk_at "ex"
  rw [h.items]
  walk_at "ex"
  rw [e]
  walk_at "ex"
def brkG : List Tk → List Tk → List (List Tk) × List Tk
  | cur, [] => ([], cur)
  | cur, t :: us => if isB t = true then brkG (cur ++ [t]) us else (cur :: (brkG [t] us).1, (brkG [t] us).2)
theorem brk_fold : ∀ (us : List Tk) (s : W), (us.foldl stp s).dn = s.dn ++ (brkG s.cu us).1 ∧ (us.foldl stp s).cu = (brkG s.cu us).2
  | [], s => ⟨(List.append_nil _).symm, rfl⟩
  | t :: us, s => by
    obtain ⟨h1, h2⟩ := brk_fold us (stp s t)
    have eb : brkG s.cu (t :: us) = if isB t = true then brkG (s.cu ++ [t]) us else (s.cu :: (brkG [t] us).1, (brkG [t] us).2) := by conv => lhs; unfold brkG
    rw [List.foldl_cons, h1, h2, eb]
    unfold stp
    cases hb : isB t with
    | true =>
      rw [if_pos rfl, if_pos rfl]
      exact ⟨rfl, rfl⟩
    | false =>
      rw [if_neg (by decide), if_neg (by decide)]
      refine ⟨?_, rfl⟩
      show (s.dn ++ [s.cu]) ++ _ = s.dn ++ (s.cu :: _)
      rw [List.append_assoc]; rfl
theorem brk_ne : ∀ (us cur : List Tk), cur ≠ [] → (brkG cur us).2 ≠ []
  | [], cur, h => h
  | t :: us, cur, h => by
    unfold brkG
    split
    · exact brk_ne us _ (by simp)
    · exact brk_ne us _ (by simp)
noncomputable abbrev lnB : GnF := gSeq (gIf (fAnd (fOp (dEqv true) (fOp dIx (fVar 2) (fC (.int 0))) (fC (.str " "))) (fOp dGt (fCB dLen (fCons (fVar 1) (fNil))) (fC (.int 0)))) (gSeq (gYdV 1) (gSeq (gPl (sOwn 1 (fLst (fNil)))) (Fx.gNil))) (Fx.gNil)) (gSeq (gPl (chk 1 (sApp 1 (fVar 2)))) (Fx.gNil))
theorem ln_app {v t : D} {cur : List D} (hl : cur.length ≤ 1000) : gPl (chk 1 (sApp 1 (fVar 2))) [.val v, .own cur, .val t] = ([], .nx [.val v, .own (cur ++ [t]), .val t]) := by
  have e : chk 1 (sApp 1 (fVar 2)) [.val v, .own cur, .val t] [] = .nx [.val v, .own (cur ++ [t]), .val t] [] := by
    rw [v_chk rfl]
    walk_at "ex"
    rw [v_app1 (ds := cur) rfl rfl (Nat.lt_of_le_of_lt hl (by decide))]
    rfl
  unfold gPl
  rw [e]
theorem ln_plain {v : D} {cur : List D} {t : Tk} (hl : cur.length ≤ 1000) (e : fAnd (fOp (dEqv true) (fOp dIx (fVar 2) (fC (.int 0))) (fC (.str " "))) (fOp dGt (fCB dLen (fCons (fVar 1) (fNil))) (fC (.int 0))) [.val v, .own cur, .val (tokV t)] [] = .ok (.bl false) .tr []) : lnB [.val v, .own cur, .val (tokV t)] = ([], .nx [.val v, .own (cur ++ [tokV t]), .val (tokV t)]) := by
  unfold lnB gSeq gIf
  rw [e]
  dsimp only
  rw [show Fx.gNil [.val v, .own cur, .val (tokV t)] = ([], .nx [.val v, .own cur, .val (tokV t)]) from rfl]
  dsimp only
  rw [ln_app hl]
  rfl
theorem ln_tok {v : D} {cur : List D} {t : Tk} (hl : cur.length ≤ 1000) (hc : cur ≠ []) : lnB [.val v, .own cur, .val (tokV t)] = if isB t = true then ([], .nx [.val v, .own (cur ++ [tokV t]), .val (tokV t)]) else ([(.lst cur, true)], .nx [.val v, .own [tokV t], .val (tokV t)]) := by
  cases hb : isB t with
  | true =>
    rw [if_pos rfl]
    have hbb : t.1 = Str.ofString " " := of_decide_eq_true hb
    refine ln_plain hl ?_
    unfold tokV
    rw [hbb]
    walk_at "ex"
  | false =>
    rw [if_neg (by decide)]
    have hbb : decide (t.1 = Str.ofString " ") = false := hb
    obtain ⟨c, cs, rfl⟩ : ∃ c cs, cur = c :: cs := by cases cur with | nil => exact absurd rfl hc | cons c cs => exact ⟨c, cs, rfl⟩
    have e : fAnd (fOp (dEqv true) (fOp dIx (fVar 2) (fC (.int 0))) (fC (.str " "))) (fOp dGt (fCB dLen (fCons (fVar 1) (fNil))) (fC (.int 0))) [.val v, .own (c :: cs), .val (tokV t)] [] = .ok (.bl true) .tr [] := by
      unfold tokV
      walk_at "ex"
      rw [hbb]
      walk_at "ex"
      rw [decide_eq_true (by omega)]
    have ey : gYdV 1 [.val v, .own (c :: cs), .val (tokV t)] = ([(.lst (c :: cs), true)], .nx [.val v, .no, .val (tokV t)]) := by
      unfold gYdV
      rfl
    have ep : gPl (sOwn 1 (fLst (fNil))) [.val v, .no, .val (tokV t)] = ([], .nx [.val v, .own [], .val (tokV t)]) := by
      have : sOwn 1 (fLst (fNil)) [.val v, .no, .val (tokV t)] [] = .nx [.val v, .own [], .val (tokV t)] [] := by walk_at "ex"
      unfold gPl
      rw [this]
    unfold lnB gSeq gIf
    rw [e]
    dsimp only
    rw [ey]
    dsimp only
    rw [ep]
    dsimp only
    rw [show Fx.gNil [.val v, .own [], .val (tokV t)] = ([], .nx [.val v, .own [], .val (tokV t)]) from rfl]
    dsimp only
    rw [ln_app (by simp)]
    rfl
def rowY (r : List Tk) : Yi := (rowV r, true)
theorem ln_loop {v : D} : ∀ (us cur : List Tk) (s2 : Sl), cur ≠ [] → cur.length + us.length ≤ 900 → (s2 = .no ∨ ∃ d, s2 = .val d) → ∃ s2', (s2' = .no ∨ ∃ d, s2' = .val d) ∧ loopG (gN 2) lnB (us.map tokV) [.val v, .own (cur.map tokV), s2] = ((brkG cur us).1.map rowY, .nx [.val v, .own ((brkG cur us).2.map tokV), s2'])
  | [], cur, s2, _, _, h => ⟨s2, h, rfl⟩
  | t :: us, cur, s2, hc, hl, h => by
    rw [List.length_cons] at hl
    have hd : lnB [.val v, .own (cur.map tokV), .val (tokV t)] = _ := ln_tok (by rw [List.length_map]; omega) (by simpa using hc)
    rw [List.map_cons]
    cases hb : isB t with
    | true =>
      obtain ⟨s2', q, ih⟩ := ln_loop (v := v) us (cur ++ [t]) (.val (tokV t)) (by simp) (by rw [List.length_append, List.length_singleton]; omega) (.inr ⟨_, rfl⟩)
      refine ⟨s2', q, ?_⟩
      rw [hb, if_pos rfl] at hd
      conv => lhs; unfold loopG
      rw [show gN 2 (tokV t) [.val v, .own (cur.map tokV), s2] [] = some [.val v, .own (cur.map tokV), .val (tokV t)] from rfl]
      dsimp only
      rw [hd]
      dsimp only
      rw [show cur.map tokV ++ [tokV t] = (cur ++ [t]).map tokV by rw [List.map_append]; rfl, ih]
      have eb : brkG cur (t :: us) = brkG (cur ++ [t]) us := by
        show (if isB t = true then _ else _) = _
        rw [hb, if_pos rfl]
      rw [eb]
      rfl
    | false =>
      obtain ⟨s2', q, ih⟩ := ln_loop (v := v) us [t] (.val (tokV t)) (by simp) (by rw [List.length_singleton]; have := List.length_pos_iff.mpr hc; omega) (.inr ⟨_, rfl⟩)
      refine ⟨s2', q, ?_⟩
      rw [hb, if_neg (by decide)] at hd
      conv => lhs; unfold loopG
      rw [show gN 2 (tokV t) [.val v, .own (cur.map tokV), s2] [] = some [.val v, .own (cur.map tokV), .val (tokV t)] from rfl]
      dsimp only
      rw [hd]
      dsimp only
      rw [show [tokV t] = [t].map tokV from rfl, ih]
      have eb : brkG cur (t :: us) = (cur :: (brkG [t] us).1, (brkG [t] us).2) := by
        show (if isB t = true then _ else _) = _
        rw [hb, if_neg (by decide)]
      rw [eb]
      rfl
theorem g_seq {g h : GnF} {ρ ρ' : Ev} {ys : List Yi} (e : g ρ = (ys, .nx ρ')) : gSeq g h ρ = (ys ++ (h ρ').1, (h ρ').2) := by unfold gSeq; rw [e]
theorem f_lines {v : D} {ts : List Tk} (h : IsT v ts) (hg : GoodT ts) (hl : ts.length ≤ 400) : Fq_lines [v] = .ok ((rowsT ts).map rowY) := by
  unfold Fq_lines runQ
  rw [if_pos (show [v].length = 1 from rfl)]
  show (match bq_lines [.val v, .no, .no] with | (ys, .nx _) => _ | _ => _) = _
  have e1 : gPl (sExpr (fCall F_need_text [] (fCons (fVar 0) (fNil)))) [.val v, .no, .no] = ([], .nx [.val v, .no, .no]) := by
    have : sExpr (fCall F_need_text [] (fCons (fVar 0) (fNil))) [.val v, .no, .no] [] = .nx [.val v, .no, .no] [] := by
      walk_at "ex"
      rw [h.need hg (by omega)]
      walk_at "ex"
    unfold gPl
    rw [this]
  have e2 : gPl (sOwn 1 (fLst (fNil))) [.val v, .no, .no] = ([], .nx [.val v, .own [], .no]) := by
    have : sOwn 1 (fLst (fNil)) [.val v, .no, .no] [] = .nx [.val v, .own [], .no] [] := by walk_at "ex"
    unfold gPl
    rw [this]
  have e3 : ∃ (cur : List Tk) (ys : List (List Tk)) (s2 : Sl), (s2 = .no ∨ ∃ d, s2 = .val d) ∧ gFor (fIter (fVar 0)) (gN 2) lnB [.val v, .own [], .no] = (ys.map rowY, .nx [.val v, .own (cur.map tokV), s2]) ∧ rowsT ts = ys ++ (if cur = [] then [] else [cur]) := by
    unfold gFor
    rw [h.iter rfl]
    dsimp only
    cases ts with
    | nil => exact ⟨[], [], .no, .inl rfl, rfl, rfl⟩
    | cons t us =>
      obtain ⟨k, d, em, _⟩ := not_blank hg rfl
      rw [List.length_cons] at hl
      obtain ⟨s2', q, e⟩ := ln_loop (v := v) us [t] (.val (tokV t)) (by simp) (by rw [List.length_singleton]; omega) (.inr ⟨_, rfl⟩)
      have hn := brk_ne us [t] (by simp)
      refine ⟨(brkG [t] us).2, (brkG [t] us).1, s2', q, ?_, ?_⟩
      · rw [List.map_cons]
        conv => lhs; unfold loopG
        rw [show gN 2 (tokV t) [.val v, .own [], .no] [] = some [.val v, .own [], .val (tokV t)] from rfl]
        dsimp only
        rw [ln_plain (cur := []) (by simp) (by
          unfold tokV
          rw [em]
          walk_at "ex"
          rw [blank_ne]
          walk_at "ex"
          rfl)]
        dsimp only
        rw [show ([] : List D) ++ [tokV t] = [t].map tokV from rfl, e]
        rfl
      · rw [if_neg hn]
        obtain ⟨h1, h2⟩ := brk_fold us (st0 t)
        show (us.foldl stp (st0 t)).dn ++ [(us.foldl stp (st0 t)).cu] = _
        rw [h1, h2]
        rfl
  obtain ⟨cur, ys, s2, q, e3, er⟩ := e3
  have e4 : ∃ ρ3, gSeq (gIf (fOp dGt (fCB dLen (fCons (fVar 1) (fNil))) (fC (.int 0))) (gSeq (gYdV 1) (Fx.gNil)) (Fx.gNil)) (Fx.gNil) [.val v, .own (cur.map tokV), s2] = ((if cur = [] then [] else [rowY cur]), .nx ρ3) := by
    cases cur with
    | nil =>
      have e4 : fOp dGt (fCB dLen (fCons (fVar 1) (fNil))) (fC (.int 0)) [.val v, .own (([] : List Tk).map tokV), s2] [] = .ok (.bl false) .tr [] := by
        walk_at "ex"
        rfl
      refine ⟨[.val v, .own (([] : List Tk).map tokV), s2], ?_⟩
      rw [g_seq (ys := []) (ρ' := [.val v, .own (([] : List Tk).map tokV), s2]) (by unfold gIf; rw [e4]; rfl)]
      rfl
    | cons c cs =>
      have e4 : fOp dGt (fCB dLen (fCons (fVar 1) (fNil))) (fC (.int 0)) [.val v, .own ((c :: cs).map tokV), s2] [] = .ok (.bl true) .tr [] := by
        walk_at "ex"
        rw [decide_eq_true (by omega)]
      have ey : gYdV 1 [.val v, .own ((c :: cs).map tokV), s2] = ([rowY (c :: cs)], .nx [.val v, .no, s2]) := by
        have hno : noOwn ([Sl.val v, .own ((c :: cs).map tokV), s2].set 1 .no) = true := by
          rcases q with rfl | ⟨d, rfl⟩ <;> rfl
        unfold gYdV
        show (if noOwn ([Sl.val v, .own ((c :: cs).map tokV), s2].set 1 .no) = true then _ else _) = _
        rw [if_pos hno]
        rfl
      refine ⟨[.val v, .no, s2], ?_⟩
      rw [g_seq (ys := [rowY (c :: cs)]) (ρ' := [.val v, .no, s2]) (by unfold gIf; rw [e4]; dsimp only; rw [g_seq ey]; rfl)]
      rfl
  obtain ⟨ρ3, e4⟩ := e4
  unfold bq_lines
  rw [g_seq e1, g_seq e2, g_seq e3, e4]
  show RGn.ok ([] ++ ([] ++ (ys.map rowY ++ _))) = _
  rw [er, List.nil_append, List.nil_append, List.map_append]
  congr 2
  split <;> rfl
end
abbrev tkd : Tk := (Str.empty, Str.empty)
abbrev brkAt (p : List Tk) (i : Nat) : Bool := !isB (p.getD i tkd)
abbrev endsL (p : List Tk) (n : Nat) : List Nat := (List.range n).filter fun i => brkAt p (i + 1)
abbrev bgs (p : List Tk) (i : Nat) : List Nat := (List.range (i + 1)).filter fun j => brkAt p j
theorem getD_app {p : List Tk} {t : Tk} {i : Nat} (h : i < p.length) : (p ++ [t]).getD i tkd = p.getD i tkd := by
  rw [List.getD_eq_getElem?_getD, List.getD_eq_getElem?_getD, List.getElem?_append_left h]
theorem getD_last {p : List Tk} {t : Tk} : (p ++ [t]).getD p.length tkd = t := by
  rw [List.getD_eq_getElem?_getD, List.getElem?_append_right (Nat.le_refl _), Nat.sub_self]; rfl
theorem ends_app {p : List Tk} {t : Tk} {n : Nat} (h : n + 1 ≤ p.length) : endsL (p ++ [t]) n = endsL p n := by
  refine List.filter_congr fun i hi => ?_
  have := List.mem_range.mp hi
  show (!isB _) = !isB _
  rw [getD_app (by omega)]
theorem bgs_app {p : List Tk} {t : Tk} {i : Nat} (h : i < p.length) : bgs (p ++ [t]) i = bgs p i := by
  refine List.filter_congr fun j hj => ?_
  have := List.mem_range.mp hj
  show (!isB _) = !isB _
  rw [getD_app (by omega)]
structure Wi (p : List Tk) (s : W) : Prop where
  pos : 0 < p.length
  sp : s.sp.length = p.length
  wd : s.wd = (endsL p (p.length - 1)).map fun i => s.sp.getD i 0
  w : s.sp.getD (p.length - 1) 0 = s.w
  pl : s.pl.length = p.length
  dn : s.dn.length + 1 = (bgs p (p.length - 1)).length
  cu : s.cu.length + (bgs p (p.length - 1)).getLastD 0 = p.length
  at' : ∀ i, i < p.length → s.pl.getD i (0, 0) = ((bgs p i).length - 1, i - (bgs p i).getLastD 0)
theorem wi0 {t : Tk} (h : isB t = false) : Wi [t] (st0 t) := by
  have hb : bgs [t] 0 = [0] := by
    show ([0] : List Nat).filter _ = [0]
    rw [List.filter_cons_of_pos (by show (!isB t) = true; rw [h]; rfl)]; rfl
  refine ⟨by simp, rfl, rfl, rfl, rfl, ?_, ?_, fun i hi => ?_⟩
  · show 0 + 1 = (bgs [t] 0).length
    rw [hb]; rfl
  · show 1 + (bgs [t] 0).getLastD 0 = 1
    rw [hb]; rfl
  · have : i = 0 := by rw [List.length_singleton] at hi; omega
    subst this
    rw [hb]; rfl
theorem getI_app {l : List Int} {x : Int} {i : Nat} (h : i < l.length) : (l ++ [x]).getD i 0 = l.getD i 0 := by
  rw [List.getD_eq_getElem?_getD, List.getD_eq_getElem?_getD, List.getElem?_append_left h]
theorem getI_last {l : List Int} {x : Int} : (l ++ [x]).getD l.length 0 = x := by
  rw [List.getD_eq_getElem?_getD, List.getElem?_append_right (Nat.le_refl _), Nat.sub_self]; rfl
theorem getP_app {l : List (Nat × Nat)} {x : Nat × Nat} {i : Nat} (h : i < l.length) : (l ++ [x]).getD i (0, 0) = l.getD i (0, 0) := by
  rw [List.getD_eq_getElem?_getD, List.getD_eq_getElem?_getD, List.getElem?_append_left h]
theorem getP_last {l : List (Nat × Nat)} {x : Nat × Nat} : (l ++ [x]).getD l.length (0, 0) = x := by
  rw [List.getD_eq_getElem?_getD, List.getElem?_append_right (Nat.le_refl _), Nat.sub_self]; rfl
theorem wiS {p : List Tk} {s : W} (h : Wi p s) (t : Tk) : Wi (p ++ [t]) (stp s t) := by
  obtain ⟨hp, h1, h2, h3, h4, h5, h6, h7⟩ := h
  have hl : (p ++ [t]).length = p.length + 1 := by rw [List.length_append]; rfl
  have e1 : p.length + 1 - 1 = p.length := by omega
  -- the ends
  have en : endsL (p ++ [t]) p.length = endsL p (p.length - 1) ++ (if isB t = true then [] else [p.length - 1]) := by
    have hr : List.range p.length = List.range (p.length - 1) ++ [p.length - 1] := by
      conv => lhs; rw [show p.length = (p.length - 1) + 1 by omega]
      rw [List.range_succ]
    show (List.range p.length).filter _ = _
    rw [hr, List.filter_append, show (List.range (p.length - 1)).filter (fun i => brkAt (p ++ [t]) (i + 1)) = endsL (p ++ [t]) (p.length - 1) from rfl, ends_app (by omega)]
    congr 1
    have : brkAt (p ++ [t]) (p.length - 1 + 1) = !isB t := by
      show (!isB _) = _
      rw [show p.length - 1 + 1 = p.length by omega, getD_last]
    cases hb : isB t with
    | true => rw [List.filter_cons_of_neg (by rw [this, hb]; decide)]; rfl
    | false => rw [List.filter_cons_of_pos (by rw [this, hb]; rfl)]; rfl
  -- the beginnings
  have bn : bgs (p ++ [t]) p.length = bgs p (p.length - 1) ++ (if isB t = true then [] else [p.length]) := by
    show (List.range (p.length + 1)).filter _ = _
    rw [List.range_succ, List.filter_append]
    have h0 : (List.range p.length).filter (fun j => brkAt (p ++ [t]) j) = bgs p (p.length - 1) := by
      rw [← bgs_app (t := t) (show p.length - 1 < p.length by omega)]
      show _ = (List.range (p.length - 1 + 1)).filter _
      rw [show p.length - 1 + 1 = p.length by omega]
    rw [h0]
    congr 1
    have : brkAt (p ++ [t]) p.length = !isB t := by
      show (!isB _) = _
      rw [getD_last]
    cases hb : isB t with
    | true => rw [List.filter_cons_of_neg (by rw [this, hb]; decide)]; rfl
    | false => rw [List.filter_cons_of_pos (by rw [this, hb]; rfl)]; rfl
  have old : ∀ i, i < p.length → ∀ (x : Nat × Nat), (s.pl ++ [x]).getD i (0, 0) = ((bgs (p ++ [t]) i).length - 1, i - (bgs (p ++ [t]) i).getLastD 0) := fun i hi x => by
    rw [getP_app (by rw [h4]; exact hi), bgs_app hi]; exact h7 i hi
  have keep : ∀ x : Int, (endsL p (p.length - 1)).map (fun i => s.sp.getD i 0) = (endsL p (p.length - 1)).map fun i => (s.sp ++ [x]).getD i 0 := fun x => by
    refine List.map_congr_left fun i hi => ?_
    have := List.mem_range.mp (List.mem_filter.mp hi).1
    rw [getI_app (by rw [h1]; omega)]
  cases hb : isB t with
  | true =>
    rw [hb, if_pos rfl, List.append_nil] at en bn
    have es : stp s t = ⟨s.dn, s.cu ++ [t], s.wd, s.w + 1 + ((t.2.length : Nat) : Int), s.sp ++ [s.w + 1 + ((t.2.length : Nat) : Int)], s.pl ++ [(s.dn.length, s.cu.length)]⟩ := by unfold stp; rw [if_pos hb]
    rw [es]
    refine ⟨by omega, by rw [hl]; show (s.sp ++ [_]).length = _; rw [List.length_append, h1]; rfl, ?_, ?_, by rw [hl]; show (s.pl ++ [_]).length = _; rw [List.length_append, h4]; rfl, ?_, ?_, fun i hi => ?_⟩
    · rw [hl, e1, en]
      show s.wd = _
      rw [h2]; exact keep _
    · rw [hl, e1, ← h1]; exact getI_last
    · rw [hl, e1, bn]; exact h5
    · rw [hl, e1, bn]
      show (s.cu ++ [t]).length + _ = _
      rw [List.length_append, List.length_singleton]; omega
    · rw [hl] at hi
      by_cases z : i < p.length
      · exact old i z _
      · have : i = p.length := by omega
        subst this
        show (s.pl ++ [_]).getD _ _ = _
        rw [bn]
        conv => lhs; rw [← h4]
        rw [getP_last]
        refine Prod.ext ?_ ?_
        · show s.dn.length = _; omega
        · show s.cu.length = _; omega
  | false =>
    rw [hb, if_neg (by decide)] at en bn
    have es : stp s t = ⟨s.dn ++ [s.cu], [t], s.wd ++ [s.w], wid t, s.sp ++ [wid t], s.pl ++ [(s.dn.length + 1, 0)]⟩ := by unfold stp; rw [hb, if_neg (by decide)]
    rw [es]
    have gl : (bgs p (p.length - 1) ++ [p.length]).getLastD 0 = p.length := by
      rw [List.getLastD_eq_getLast?, List.getLast?_append]; rfl
    refine ⟨by omega, by rw [hl]; show (s.sp ++ [_]).length = _; rw [List.length_append, h1]; rfl, ?_, ?_, by rw [hl]; show (s.pl ++ [_]).length = _; rw [List.length_append, h4]; rfl, ?_, ?_, fun i hi => ?_⟩
    · rw [hl, e1, en, List.map_append]
      show s.wd ++ [s.w] = _
      rw [h2, keep (wid t)]
      congr 1
      show [s.w] = [(s.sp ++ [wid t]).getD (p.length - 1) 0]
      rw [getI_app (by rw [h1]; omega), h3]
    · rw [hl, e1, ← h1]; exact getI_last
    · rw [hl, e1, bn]
      show (s.dn ++ [s.cu]).length + 1 = _
      rw [List.length_append, List.length_append, ← h5]; rfl
    · rw [hl, e1, bn, gl]
      show 1 + p.length = _
      omega
    · rw [hl] at hi
      by_cases z : i < p.length
      · exact old i z _
      · have : i = p.length := by omega
        subst this
        show (s.pl ++ [_]).getD _ _ = _
        rw [bn, gl]
        conv => lhs; rw [← h4]
        rw [getP_last]
        refine Prod.ext ?_ ?_
        · show s.dn.length + 1 = _
          rw [List.length_append, ← h5]; rfl
        · show 0 = _; omega
theorem wi_fold : ∀ (us p : List Tk) (s : W), Wi p s → Wi (p ++ us) (us.foldl stp s)
  | [], p, s, h => by rw [List.append_nil]; exact h
  | t :: us, p, s, h => by
    have := wi_fold us (p ++ [t]) (stp s t) (wiS h t)
    rw [List.append_assoc] at this
    exact this
theorem wi_run {ts : List Tk} {s : W} (hg : GoodT ts) (e : run ts = some s) : Wi ts s := by
  cases ts with
  | nil => cases e
  | cons t us =>
    cases e
    obtain ⟨k, d, em, _⟩ := not_blank hg rfl
    exact wi_fold us [t] (st0 t) (wi0 (by unfold isB; rw [em]; exact blank_ne))
theorem enum_toks (ts : List Tk) : enumD (ts.map tokV) = (List.range ts.length).map fun i => .tup [.int ((i : Nat) : Int), tokV (ts.getD i tkd)] := by
  refine List.ext_getElem? fun i => ?_
  unfold enumD
  rw [List.getElem?_mapIdx, List.getElem?_map, List.getElem?_map]
  by_cases hi : i < ts.length
  · rw [List.getElem?_eq_getElem hi, List.getElem?_range hi]
    show some (D.tup [.int ((i : Nat) : Int), tokV ts[i]]) = some (.tup [.int ((i : Nat) : Int), tokV (ts.getD i tkd)])
    rw [List.getD_eq_getElem?_getD, List.getElem?_eq_getElem hi]; rfl
  · rw [List.getElem?_eq_none (by omega), List.getElem?_eq_none (by rw [List.length_range]; omega)]; rfl
section
variable {S : Sto}
theorem d_ix_tok0 {t : Tk} : dIx (tokV t) (.int 0) S = .ok (.str t.1) .tr S := rfl
theorem wide_eq {ts : List Tk} (hg : GoodT ts) : (wideT ts) = ((List.range ts.length).filter fun i => decide (i + 1 = ts.length) || brkAt ts (i + 1)).map fun i => (spT ts).getD i 0 := by
  cases e : run ts with
  | none =>
    cases ts with
    | nil => rfl
    | cons t us => cases e
  | some s =>
    have h := wi_run hg e
    unfold wideT spT
    rw [e]
    dsimp only
    unfold W.wide
    have hp := h.pos
    have hr : List.range ts.length = List.range (ts.length - 1) ++ [ts.length - 1] := by
      conv => lhs; rw [show ts.length = (ts.length - 1) + 1 by omega]
      rw [List.range_succ]
    have h1 : (List.range (ts.length - 1)).filter (fun i => decide (i + 1 = ts.length) || brkAt ts (i + 1)) = endsL ts (ts.length - 1) := by
      refine List.filter_congr fun i hi => ?_
      have := List.mem_range.mp hi
      rw [decide_eq_false (show ¬ i + 1 = ts.length by omega), Bool.false_or]
    rw [hr, List.filter_append, h1, List.map_append, ← h.wd, List.filter_cons_of_pos (by rw [decide_eq_true (show ts.length - 1 + 1 = ts.length by omega)]; rfl)]
    show s.wd ++ [s.w] = s.wd ++ [s.sp.getD (ts.length - 1) 0]
    rw [h.w]
theorem sp_len {ts : List Tk} (hg : GoodT ts) : (spT ts).length = ts.length ∧ (plT ts).length = ts.length := by
  cases e : run ts with
  | none =>
    cases ts with
    | nil => exact ⟨rfl, rfl⟩
    | cons t us => cases e
  | some s =>
    have h := wi_run hg e
    unfold spT plT
    rw [e]
    exact ⟨h.sp, h.pl⟩
theorem f_widths {v : D} {ts : List Tk} (h : IsT v ts) (hg : GoodT ts) (hl : ts.length ≤ 400) : F_widths [v] S = .ok (.lst ((wideT ts).map D.int)) .fs S := by
  have hsp := (sp_len hg).1
  have ec := f_columns (S := S) h hg hl
  rw [wide_eq hg]
  unfold F_widths b_widths
  walk_at "ex"
  rw [ec]
  walk_at "ex"
  rw [lc_flatE (S1 := S) (l := List.range ts.length) (e := fun i => .tup [.int ((i : Nat) : Int), tokV (ts.getD i tkd)]) (g := none) (c := fun i => decide (i + 1 = ts.length) || brkAt ts (i + 1)) (f := fun i => .int ((i : Nat) : Int)) (by
    rw [← enum_toks]
    walk_at "ex"
    rcases h with rfl | rfl
    · rw [v_enumL]
    · rw [v_enumT]) trivial (by rw [List.length_range]; exact Nat.le_trans hl (by decide)) (fun i hi => by
    have hi := List.mem_range.mp hi
    refine ⟨[.val v, .val (.lst ((spT ts).map D.int)), .no, .val (.int ((i : Nat) : Int)), .val (tokV (ts.getD i tkd))], .tr, rfl, ?_, fun _ => ⟨.tr, rfl, rfl⟩⟩
    generalize (spT ts).map D.int = Sp
    walk_at "ex"
    rw [h.len]
    walk_at "ex"
    rw [show decide (((i : Nat) : Int) + 1 = ((ts.length : Nat) : Int)) = decide (i + 1 = ts.length) from decide_eq_decide.mpr (by omega)]
    by_cases hz : i + 1 = ts.length
    · rw [decide_eq_true hz]
      walk_at "ex"
    · rw [decide_eq_false hz]
      walk_at "ex"
      have hi2 : i + 1 < ts.length := by omega
      rw [show ((i : Nat) : Int) + 1 = ((i + 1 : Nat) : Int) by omega, h.ix (List.getElem?_eq_getElem hi2)]
      walk_at "ex"
      rw [d_ix_tok0]
      walk_at "ex"
      show _ = RE.ok (.bl (false || !decide ((ts.getD (i + 1) tkd).1 = Str.ofString " "))) _ _
      rw [List.getD_eq_getElem?_getD, List.getElem?_eq_getElem hi2]
      rfl)]
  walk_at "ex"
  rw [lc_mapE (S1 := S) (l := (List.range ts.length).filter fun i => decide (i + 1 = ts.length) || brkAt ts (i + 1)) (e := fun i => .int ((i : Nat) : Int)) (g := none) (f := fun i => .int ((spT ts).getD i 0)) (by walk_at "ex") trivial (by exact Nat.le_trans (List.length_filter_le _ _) (by rw [List.length_range]; exact Nat.le_trans hl (by decide))) (fun i hi => by
    have hi := List.mem_range.mp (List.mem_filter.mp hi).1
    have hx : dIx (.lst ((spT ts).map D.int)) (.int ((i : Nat) : Int)) S = .ok (.int ((spT ts).getD i 0)) .tr S := by
      refine d_ix_lst (pick_at ?_)
      rw [List.getElem?_map, List.getD_eq_getElem?_getD, List.getElem?_eq_getElem (by rw [hsp]; exact hi)]; rfl
    refine ⟨_, .tr, rfl, ?_, rfl⟩
    generalize (spT ts).map D.int = Sp at hx ⊢
    walk_at "ex"
    exact hx)]
  rw [List.map_map]
  walk_at "ex"
  rfl
end
theorem dd00 : decide ((0 : Int) = 0) = true := by decide
theorem dd01 : decide ((0 : Int) = 1) = false := by decide
theorem dd02 : decide ((0 : Int) = 2) = false := by decide
theorem dd10 : decide ((1 : Int) = 0) = false := by decide
theorem dd11 : decide ((1 : Int) = 1) = true := by decide
theorem dd12 : decide ((1 : Int) = 2) = false := by decide
theorem dd20 : decide ((2 : Int) = 0) = false := by decide
theorem dd21 : decide ((2 : Int) = 1) = false := by decide
theorem dd22 : decide ((2 : Int) = 2) = true := by decide
theorem dd30 : decide ((3 : Int) = 0) = false := by decide
theorem dd31 : decide ((3 : Int) = 1) = false := by decide
theorem dd32 : decide ((3 : Int) = 2) = false := by decide
local macro_rules | `(tactic| walk_at "ww") => `(tactic| simp -implicitDefEqProofs only [dd00, dd01, dd02, dd10, dd11, dd12, dd20, dd21, dd22, dd30, dd31, dd32, Fx.v_slT, Fx.v_slT0, Fx.v_slT1, Fx.v_slT2, Fx.d_slT, Fx.d_slTl, Fx.d_addTi, Fx.d_addTs, Fx.d_addTl, Fx.v_dnewC, Fx.v_zipC, Fx.d_ixl0, Fx.d_ixl1, Fx.d_ixl2, Fx.d_ixt0, Fx.d_ixt1, Fx.d_lst0, Fx.d_lst1, Fx.d_lst2, Fx.d_tup0, Fx.d_tup1, Fx.d_tup2, Fx.d_int_int, Fx.d_neg, Fx.v_gt2, Fx.v_gt1, Fx.v_callT, Fx.v_propT, Fx.v_sup, Fx.v_asgNS, Fx.v_appX, Fx.d_strX_str, Fx.d_sum, Fx.v_isiX, Fx.v_binO, Fx.v_binO1, Fx.v_inO, Fx.v_inO1, Fx.v_inO3, Fx.v_eqO, Fx.v_eqO1, Fx.v_eqO3, Fx.v_eqX, Fx.v_eqX1, Fx.v_neO, Fx.v_neO1, Fx.v_neO3, Fx.v_augD, Fx.v_augD0, Fx.v_augD1, Fx.v_augD2, Fx.v_idxL, Fx.v_idxL1, Fx.v_idxL2, Fx.v_raise0, Fx.v_fld, Fx.v_setF, Fx.v_meth, Fx.v_methA, Fx.v_sp1, Fx.v_mk, Fx.v_mkK, Fx.v_mkK1, Fx.v_cmeth, Fx.v_runI1, Fx.v_runIx, Fx.v_fmt, Fx.v_js0, Fx.v_js, Fx.v_lrg, Fx.v_lrg1, Fx.v_callK, Fx.v_callK1, Fx.bE_ok, Fx.bE_xc, Fx.bS_nx, Fx.bS_rt, Fx.bS_bk, Fx.bS_ct, Fx.bS_xc, Fx.eS_ok, Fx.eS_xc, Fx.v_seq, Fx.v_next, Fx.v_break, Fx.v_cont, Fx.v_c, Fx.v_var, Fx.kVar_val, Fx.kVar_own, Fx.kVar_oob, Fx.v_op, Fx.v_op1, Fx.v_op2, Fx.v_un, Fx.v_un1, Fx.v_not, Fx.v_not1, Fx.v_and, Fx.v_andT, Fx.v_andF, Fx.v_or, Fx.v_orT, Fx.v_orF, Fx.v_if, Fx.v_ifT, Fx.v_ifF, Fx.v_chain, Fx.v_ch, Fx.v_ch0, Fx.v_ch1T, Fx.v_ch1F, Fx.v_ch2, Fx.v_isi, Fx.v_isiT, Fx.v_isi1, Fx.v_isi2, Fx.ty_non, Fx.ty_bl, Fx.ty_int, Fx.ty_str, Fx.ty_lst, Fx.ty_tup, Fx.ty_dct, Fx.v_cb, Fx.bA_ok, Fx.bA_xc, Fx.v_nil, Fx.v_cons, Fx.v_cons1, Fx.v_cons1x, Fx.v_cons2, Fx.v_cons2x, Fx.nop_tr, Fx.nop_fs, Fx.nop_pk, Fx.v_lst, Fx.v_tup, Fx.v_dnew, Fx.v_call, Fx.v_call1, Fx.v_m1, Fx.v_m1a, Fx.v_m1b, Fx.v_part, Fx.v_part1, Fx.v_nopart, Fx.v_sl, Fx.v_sl0, Fx.v_sl1, Fx.v_sl2, Fx.bO_ok, Fx.v_rev, Fx.v_expr, Fx.v_expr1, Fx.v_ifs, Fx.v_ifsT, Fx.v_ifsF, Fx.v_ret, Fx.v_retT, Fx.v_retS, Fx.v_retN, Fx.v_retV, Fx.v_retV1, Fx.v_retV2, Fx.v_asg, Fx.v_asgT, Fx.v_asgS, Fx.v_asg2, Fx.v_gn, Fx.v_gsNil, Fx.v_gsCons, Fx.v_gs, Fx.v_par, Fx.v_par1, Fx.v_aug, Fx.v_aug1, Fx.v_aug2, Fx.v_own, Fx.v_own1, Fx.v_frz, Fx.v_frz0, Fx.v_frz1, Fx.v_frz2, Fx.v_frz3, Fx.v_app, Fx.v_ado, Fx.v_ado1, Fx.v_xf, Fx.v_set, Fx.v_for, Fx.v_for1, Fx.v_forx, Fx.v_iter, Fx.v_iter1, Fx.v_iter1s, Fx.v_iter2, Fx.it_str, Fx.it_lst, Fx.it_tup, Fx.v_rng1, Fx.v_enum, Fx.v_enumL, Fx.v_enumT, Fx.v_raise, Fx.v_raise1, Fx.v_try, Fx.v_tryN, Fx.v_tryX, Fx.v_run1, Fx.v_run2, Fx.v_run3, Fx.v_r0, Fx.v_r1, Fx.v_r2, Fx.v_r3, Fx.v_r4, Fx.v_r5, Fx.v_nx, Fx.v_nx1, Fx.d_eq_str, Fx.d_eq_int, Fx.d_add_int, Fx.d_sub, Fx.d_cmp, Fx.d_len_lst, Fx.d_len_tup, Fx.d_len_fro, Fx.d_nil, Fx.d_max, Fx.d_min, Fx.d_sl_lst, Fx.d_list, Fx.d_listT, Fx.d_tuple, Fx.d_isN, Fx.d_isB, List.map_cons, List.map_nil, List.length_cons, List.length_nil, List.replicate, List.cons_append, List.nil_append, List.append_nil, List.getElem?_cons_zero, List.getElem?_cons_succ, List.set, Nat.reduceAdd, Nat.reduceSub, Nat.zero_add, if_true, if_false, reduceIte, Bool.not_true, Bool.not_false, Bool.and_true, Bool.true_and, Bool.and_self, Bool.false_xor, Bool.true_xor, Bool.false_eq_true, isT, Fx.tyd_non, Fx.tyd_bl, Fx.tyd_int, Fx.tyd_str, Fx.tyd_lst, Fx.tyd_tup, Fx.tyd_dct, reduceCtorEq, decide_true, decide_false, Bool.or_false, Bool.or_true, Bool.false_or, Bool.true_or, Bool.and_false, Bool.false_and, List.any_cons, List.any_nil])
section
variable {S : Sto}
theorem f_is_integer {i lo hi : Int} : F_is_integer [.int i, .int lo, .int hi] S = .ok (.bl (decide (lo ≤ i) && decide (i ≤ hi))) .tr S := by
  unfold F_is_integer b_is_integer
  walk_at "ev"
  cases h : decide (lo ≤ i) with
  | false => walk_at "ev"
  | true => walk_at "ev"
def intP (p : PyData) (lo hi : Int) : Bool := match p with
  | .int i => decide (lo ≤ i) && decide (i ≤ hi)
  | _ => false
theorem f_is_int {d : D} {p : PyData} {lo hi : Int} (h : Py S d p) : F_is_integer [d, .int lo, .int hi] S = .ok (.bl (intP p lo hi)) .tr S := by
  cases p with
  | int i => cases py_iint h; exact f_is_integer
  | bool b => unfold F_is_integer b_is_integer; walk_at "ev"; rw [py_ty h]; walk_at "ev"; rw [py_ty h]; walk_at "ev"; rfl
  | _ => unfold F_is_integer b_is_integer; walk_at "ev"; rw [py_ty h]; walk_at "ev"; rfl
theorem range_le {n i : Nat} (h : i < n) (f : Nat → Bool) : (List.range n).filter (fun j => f j && decide (j ≤ i)) = (List.range (i + 1)).filter f := by
  have hr : List.range n = List.range (i + 1) ++ (List.range (n - (i + 1))).map (i + 1 + ·) := by
    rw [← List.range_add]; congr 1; omega
  rw [hr, List.filter_append]
  have h1 : (List.range (i + 1)).filter (fun j => f j && decide (j ≤ i)) = (List.range (i + 1)).filter f := List.filter_congr fun j hj => by
    have := List.mem_range.mp hj
    rw [decide_eq_true (show j ≤ i by omega), Bool.and_true]
  have h2 : ((List.range (n - (i + 1))).map (i + 1 + ·)).filter (fun j => f j && decide (j ≤ i)) = [] := by
    rw [List.filter_eq_nil_iff]
    intro j hj
    obtain ⟨x, _, rfl⟩ := List.mem_map.mp hj
    rw [decide_eq_false (show ¬ i + 1 + x ≤ i by omega), Bool.and_false]; decide
  rw [h1, h2, List.append_nil]
theorem f_place {v : D} {ts : List Tk} (h : IsT v ts) (hg : GoodT ts) (hl : ts.length ≤ 400) {i : Nat} (hi : i < ts.length) : F_place_of [v, .int ((i : Nat) : Int)] S = .ok (plV ((plT ts).getD i (0, 0))) .tr S := by
  obtain ⟨s, e⟩ : ∃ s, run ts = some s := by cases ts with | nil => simp at hi | cons t us => exact ⟨_, rfl⟩
  have wi := wi_run hg e
  have ep : plT ts = s.pl := by unfold plT; rw [e]
  rw [ep, wi.at' i hi]
  have hb0 : brkAt ts 0 = true := by
    cases ts with
    | nil => simp at hi
    | cons t us =>
      obtain ⟨k, d, em, _⟩ := not_blank hg rfl
      show (!isB t) = true
      unfold isB
      rw [em, blank_ne]; rfl
  have hne : bgs ts i ≠ [] := fun z => by
    have : 0 ∈ bgs ts i := List.mem_filter.mpr ⟨List.mem_range.mpr (by omega), hb0⟩
    rw [z] at this; cases this
  have hbl : (bgs ts i).length ≤ 401 := Nat.le_trans (List.length_filter_le _ _) (by rw [List.length_range]; omega)
  have hlast : (bgs ts i).getLastD 0 = (bgs ts i).getLast hne := by rw [List.getLastD_eq_getLast?, List.getLast?_eq_some_getLast hne]; rfl
  have hle : (bgs ts i).getLastD 0 ≤ i := by
    rw [hlast]
    have := List.mem_range.mp (List.mem_filter.mp (List.getLast_mem hne)).1
    omega
  unfold F_place_of b_place_of
  walk_at "ex"
  rw [h.need hg (by omega)]
  walk_at "ex"
  rw [h.len]
  walk_at "ex"
  rw [f_is_integer, decide_eq_true (show (0 : Int) ≤ ((i : Nat) : Int) by omega), decide_eq_true (show ((i : Nat) : Int) ≤ ((ts.length : Nat) : Int) - 1 by omega)]
  walk_at "ex"
  rw [lc_flatE (S1 := S) (l := List.range ts.length) (e := fun i => .tup [.int ((i : Nat) : Int), tokV (ts.getD i tkd)]) (g := none) (c := fun j => brkAt ts j && decide (j ≤ i)) (f := fun j => .int ((j : Nat) : Int)) (by
    rw [← enum_toks]
    walk_at "ex"
    rcases h with rfl | rfl
    · rw [v_enumL]
    · rw [v_enumT]) trivial (by rw [List.length_range]; exact Nat.le_trans hl (by decide)) (fun j hj => by
    have hj := List.mem_range.mp hj
    refine ⟨[.val v, .val (.int ((i : Nat) : Int)), .no, .val (.int ((j : Nat) : Int)), .val (tokV (ts.getD j tkd))], .tr, rfl, ?_, fun _ => ⟨.tr, rfl, rfl⟩⟩
    walk_at "ex"
    rw [d_ix_tok0]
    walk_at "ex"
    show _ = RE.ok (.bl (!decide ((ts.getD j tkd).1 = Str.ofString " ") && _)) _ _
    cases decide ((ts.getD j tkd).1 = Str.ofString " ") with
    | true => walk_at "ex"
    | false =>
      walk_at "ex"
      rw [show decide (((j : Nat) : Int) ≤ ((i : Nat) : Int)) = decide (j ≤ i) from decide_eq_decide.mpr (by omega)])]
  walk_at "ex"
  rw [range_le hi (brkAt ts), show (List.range (i + 1)).filter (brkAt ts) = bgs ts i from rfl]
  have e1 : dIx (.lst ((bgs ts i).map fun j => .int ((j : Nat) : Int))) (.int (-1)) S = .ok (.int (((bgs ts i).getLastD 0 : Nat) : Int)) .tr S := by
    refine d_ix_lst ?_
    rw [hlast]
    conv => lhs; rw [← List.dropLast_concat_getLast hne, List.map_append]
    exact at_last _ _
  have hlen : ((bgs ts i).map fun j => D.int ((j : Nat) : Int)).length = (bgs ts i).length := List.length_map _
  have hpos := List.length_pos_iff.mpr hne
  generalize (bgs ts i).map (fun j => D.int ((j : Nat) : Int)) = B at e1 hlen ⊢
  rw [hlen, e1]
  walk_at "ex"
  unfold plV
  rw [show (((bgs ts i).length : Nat) : Int) - 1 = (((bgs ts i).length - 1 : Nat) : Int) by omega, show ((i : Nat) : Int) - (((bgs ts i).getLastD 0 : Nat) : Int) = ((i - (bgs ts i).getLastD 0 : Nat) : Int) by omega]
theorem f_place_int {v d : D} {ts : List Tk} {p : PyData} (h : IsT v ts) (hg : GoodT ts) (hl : ts.length ≤ 400) (hp : Py S d p) (hn : intP p 0 (((ts.length : Nat) : Int) - 1) = false) : F_place_of [v, d] S = .xc 3 [("value", d)] S := by
  unfold F_place_of b_place_of
  walk_at "ex"
  rw [h.need hg (by omega)]
  walk_at "ex"
  rw [h.len]
  walk_at "ex"
  rw [f_is_int hp, hn]
  rfl
theorem f_refused_int {v d : D} {ts : List Tk} {p : PyData} (h : IsT v ts) (hg : GoodT ts) (hl : ts.length ≤ 400) (hp : Py S d p) (hn : intP p 0 (((ts.length : Nat) : Int) - 1) = false) : F__law_refused [.int 3, v, d] S = .ok (.lst [.str (Str.ofString "integer"), d]) .tr S := by
  unfold F__law_refused b__law_refused
  walk_at "ww"
  rw [f_place_int h hg hl hp hn]
  walk_at "ww"
  rw [v_handF rfl, v_handT (ρ2 := [.val (.int 3), .val v, .val d, .val (.lst [.str (Str.ofString "integer"), d]), .no, .exn 3 [("value", d)]]) (S2 := S) rfl rfl (by
    walk_at "ww"
    rw [v_xf1 (d := d) (by decide +kernel) rfl]
    walk_at "ww") rfl]
  walk_at "ww"
theorem f_refused_text {b d : D} {q : PyData} (hq : Py S b q) (hw : q.weight ≤ 200000) (hn : isTextD q = false) {w : Int} (h0 : 0 ≤ w) (h1 : w < 4) : F__law_refused [.int w, b, d] S = .ok (.lst [.str (Str.ofString "text"), b]) .tr S := by
  have need : F_need_text [b] S = .xc 2 [("value", b)] S := by rw [f_need_text hq hw, hn]; rfl
  have fin : ∀ w : Int, hand em_ 2 [("value", b)] [.val (.int w), .val b, .val d, .val (.lst []), .no, .no] S [(2, some 5, sAsg (fOp dAdd (fVar 3) (fLst (fCons (fC (.str "text")) (fCons (fXf xf_ 5 "value") (fNil))))) (gN 3)), (3, some 5, sAsg (fLst (fCons (fC (.str "integer")) (fCons (fXf xf_ 5 "value") (fNil)))) (gN 3))] = .nx [.val (.int w), .val b, .val d, .val (.lst [.str (Str.ofString "text"), b]), .no, .no] S := fun w => by
    rw [v_handT (ρ2 := [.val (.int w), .val b, .val d, .val (.lst [.str (Str.ofString "text"), b]), .no, .exn 2 [("value", b)]]) (S2 := S) rfl rfl (by
      walk_at "ww"
      rw [v_xf1 (d := b) (by decide +kernel) rfl]
      walk_at "ww"
      rw [d_add_lst (by show 0 + 2 ≤ lim; decide)]
      walk_at "ww") rfl]
    rfl
  have h4 : w = 0 ∨ w = 1 ∨ w = 2 ∨ w = 3 := by omega
  unfold F__law_refused b__law_refused
  rcases h4 with rfl | rfl | rfl | rfl
  · walk_at "ww"
    have : sForGr [2] (fCall F_lines [] (fCons (fVar 1) (fNil))) [.val (.int 0), .val b, .val d, .val (.lst []), .no, .no] S = .xc 2 [("value", b)] [.val (.int 0), .val b, .val d, .val (.lst []), .no, .no] S := by
      have e : fCall F_lines [] (fCons (fVar 1) (fNil)) [.val (.int 0), .val b, .val d, .val (.lst []), .no, .no] S = .xc 2 [("value", b)] S := by
        walk_at "ww"
        unfold F_lines b_lines
        walk_at "ww"
        rw [need]
        walk_at "ww"
      unfold sForGr
      rw [e]
      rfl
    rw [this]
    walk_at "ww"
    rw [fin]
    walk_at "ww"
  · walk_at "ww"
    unfold F_widths b_widths
    walk_at "ww"
    unfold F_columns b_columns
    walk_at "ww"
    rw [need]
    walk_at "ww"
    rw [fin]
    walk_at "ww"
  · walk_at "ww"
    unfold F_columns b_columns
    walk_at "ww"
    rw [need]
    walk_at "ww"
    rw [fin]
    walk_at "ww"
  · walk_at "ww"
    unfold F_place_of b_place_of
    walk_at "ww"
    rw [need]
    walk_at "ww"
    rw [fin]
    walk_at "ww"
end
def celsF : Nat → Nat → List D
  | _, 0 => []
  | b, n + 1 => .cel b :: celsF (b + 1) n
theorem cels_len : ∀ (n b : Nat), (celsF b n).length = n
  | 0, _ => rfl
  | n + 1, b => by show (celsF (b + 1) n).length + 1 = _; rw [cels_len n]
theorem cels_mem : ∀ (n b : Nat) (d : D), d ∈ celsF b n → ∃ i, i < n ∧ d = .cel (b + i)
  | n + 1, b, d, h => by
    rcases List.mem_cons.mp h with z | z
    · exact ⟨0, by omega, z⟩
    · obtain ⟨i, hi, e⟩ := cels_mem n (b + 1) d z
      exact ⟨i + 1, by omega, by rw [e]; congr 1; omega⟩
abbrev rowC (r : List Tk) : Ce := .lst (r.map tokV)
theorem ado_rows : ∀ (R : List (List Tk)) (acc : List D) (S : Sto), adoY (R.map rowY) acc S = (acc ++ celsF S.length R.length, S ++ R.map rowC)
  | [], acc, S => by show (acc, S) = _; rw [show celsF S.length ([] : List (List Tk)).length = [] from rfl, List.append_nil, List.map_nil, List.append_nil]
  | r :: R, acc, S => by
    rw [List.map_cons]
    show adoY (R.map rowY) (acc ++ [.cel S.length]) (S ++ [rowC r]) = _
    rw [ado_rows R, List.append_assoc, List.append_assoc, List.length_append]
    rfl
theorem tree_toks (c : Nat → Option PyData) : ∀ l : List Tk, treeAll c (l.map tokV) = some (l.map tokD)
  | [] => by simp only [List.map_nil, treeAll]
  | z :: l => by
    simp only [List.map_cons, treeAll, tree_toks c l]
    unfold tokV tokD
    simp only [tree, treeAll, Option.map_some]
theorem tree_rows (c : Nat → Option PyData) : ∀ R : List (List Tk), treeAll c (R.map rowV) = some (R.map textD)
  | [] => by simp only [List.map_nil, treeAll]
  | r :: R => by
    have : tree c (rowV r) = some (textD r) := by
      unfold rowV textD
      simp only [tree, tree_toks, Option.map_some]
    simp only [List.map_cons, treeAll, this, tree_rows c R]
theorem tree_cels (c : Nat → Option PyData) : ∀ (R : List (List Tk)) (b : Nat), (∀ i r, R[i]? = some r → c (b + i) = some (textD r)) → treeAll c (celsF b R.length) = some (R.map textD)
  | [], b, _ => by
    show treeAll c [] = _
    simp only [List.map_nil, treeAll]
  | r :: R, b, h => by
    have h0 : tree c (.cel b) = some (textD r) := by simp only [tree]; exact h 0 r rfl
    have ih := tree_cels c R (b + 1) fun i r' e => by rw [show b + 1 + i = b + (i + 1) by omega]; exact h (i + 1) r' (by simpa using e)
    show treeAll c (.cel b :: celsF (b + 1) R.length) = _
    simp only [List.map_cons, treeAll, h0, ih]
theorem cells_lst {S : Sto} {n k : Nat} {ds : List D} {ps : List PyData} (h : S[k]? = some (.lst ds)) (ht : treeAll (cells n S) ds = some ps) : cells (n + 1) S k = some (.list ps) := by
  unfold cells
  rw [h]
  dsimp only
  rw [ht]; rfl
theorem tree_ints (c : Nat → Option PyData) : ∀ l : List Int, treeAll c (l.map D.int) = some (l.map PyData.int)
  | [] => by simp only [List.map_nil, treeAll]
  | z :: l => by
    simp only [List.map_cons, treeAll, tree_ints c l, tree]
theorem py_cel {S : Sto} {k : Nat} {ds : List D} {ps : List PyData} (h : S[k]? = some (.lst ds)) (ht : treeAll (cells 3 S) ds = some ps) : Py S (.cel k) (.list ps) := by
  unfold Py toP
  simp only [tree]
  exact cells_lst h ht
/-- what is due stands in the cells from j -/
structure Due (S : Sto) (j : Nat) (ts : List Tk) : Prop where
  r : S[j]? = some (.lst ((rowsT ts).map rowV))
  w : S[j + 1]? = some (.lst ((wideT ts).map D.int))
  s : S[j + 2]? = some (.lst ((spT ts).map D.int))
  p : S[j + 3]? = some (.lst ((plT ts).map plV))
theorem Due.keep {S S' : Sto} {j n : Nat} {ts : List Tk} (h : Due S j ts) (k : ∀ i, i < n → S'[i]? = S[i]?) (hj : j + 3 < n) : Due S' j ts :=
  ⟨(k _ (by omega)).trans h.r, (k _ (by omega)).trans h.w, (k _ (by omega)).trans h.s, (k _ (by omega)).trans h.p⟩
abbrev threeD (ts : List Tk) : PyData := .list [.list ((rowsT ts).map textD), .list ((wideT ts).map PyData.int), .list ((spT ts).map PyData.int)]
theorem pure_three (ts : List Tk) : pureD (threeD ts) = true := by
  have h1 : pureD (.list ((rowsT ts).map textD)) = true := by
    simp only [pureD]
    exact pureAll_of fun d hd => by obtain ⟨r, _, rfl⟩ := List.mem_map.mp hd; exact pure_text r
  simp only [threeD, pureD]
  exact pureAll_of fun d hd => by
    simp only [List.mem_cons, List.not_mem_nil, or_false] at hd
    rcases hd with rfl | rfl | rfl
    · exact h1
    · exact pure_ints _
    · exact pure_ints _
theorem shaped_three {ts : List Tk} (h : ∀ r ∈ rowsT ts, SokT r) : SeqAt.shaped (threeD ts) = true := by
  have lw : ∀ (l : List Int) (n : Nat), PyData.canLay0 (.list (l.map PyData.int)) = true ∧ (PyData.list (l.map PyData.int)).depth ≤ n + 1 := fun l n => by
    have := lay_list (ds := l.map PyData.int) (n := 0) fun d hd => by obtain ⟨i, _, rfl⟩ := List.mem_map.mp hd; exact lay_int i
    exact ⟨this.1, Nat.le_trans this.2 (by omega)⟩
  refine shaped_of (lay_list (n := 3) fun d hd => ?_) (by decide)
  simp only [List.mem_cons, List.not_mem_nil, or_false] at hd
  rcases hd with rfl | rfl | rfl
  · exact lay_list (n := 2) fun d hd => by obtain ⟨r, hr, rfl⟩ := List.mem_map.mp hd; exact lay_text (h r hr)
  · exact lw _ 2
  · exact lw _ 2
theorem rows_mem {ts : List Tk} : ∀ r ∈ rowsT ts, ∀ t ∈ r, t ∈ ts := by
  have key : ∀ (us : List Tk) (s : W) (P : Tk → Prop), (∀ t ∈ us, P t) → (∀ r ∈ s.rows, ∀ t ∈ r, P t) → ∀ r ∈ (us.foldl stp s).rows, ∀ t ∈ r, P t := by
    intro us
    induction us with
    | nil => intro s P _ h; exact h
    | cons u us ih =>
      intro s P hu h
      refine ih (stp s u) P (fun t ht => hu t (List.mem_cons_of_mem _ ht)) fun r hr t ht => ?_
      have h0 := hu u List.mem_cons_self
      unfold stp W.rows at hr
      split at hr
      · dsimp only at hr
        rcases List.mem_append.mp hr with z | z
        · exact h r (List.mem_append_left _ z) t ht
        · rw [List.mem_singleton.mp z] at ht
          rcases List.mem_append.mp ht with q | q
          · exact h s.cu (List.mem_append_right _ (List.mem_singleton.mpr rfl)) t q
          · rw [List.mem_singleton.mp q]; exact h0
      · dsimp only at hr
        rcases List.mem_append.mp hr with z | z
        · exact h r z t ht
        · rw [List.mem_singleton.mp z] at ht
          rw [List.mem_singleton.mp ht]; exact h0
  intro r hr t ht
  cases ts with
  | nil => cases hr
  | cons u us =>
    refine key us (st0 u) (· ∈ u :: us) (fun t ht => List.mem_cons_of_mem _ ht) (fun r hr t ht => ?_) r hr t ht
    have hr : r ∈ ([[u]] : List (List Tk)) := hr
    rw [List.mem_singleton.mp hr] at ht
    rw [List.mem_singleton.mp ht]; exact List.mem_cons_self
theorem rows_sz {ts : List Tk} : (rowsT ts).length ≤ ts.length ∧ (∀ r ∈ rowsT ts, r.length ≤ ts.length) ∧ (wideT ts).length ≤ ts.length := by
  have key : ∀ (us : List Tk) (s : W) (n : Nat), Sz s n → s.cu ≠ [] → (∀ r ∈ s.rows, r.length ≤ n) → Sz (us.foldl stp s) (n + us.length) ∧ (us.foldl stp s).cu ≠ [] ∧ ∀ r ∈ (us.foldl stp s).rows, r.length ≤ n + us.length := by
    intro us
    induction us with
    | nil => intro s n h hc hr; exact ⟨h, hc, hr⟩
    | cons u us ih =>
      intro s n h hc hr
      have q := ih (stp s u) (n + 1) (szS h u hc) (cuS s u) fun r hr' => ?_
      · rw [List.length_cons, show n + (us.length + 1) = n + 1 + us.length by omega]; exact q
      · unfold stp W.rows at hr'
        split at hr'
        · dsimp only at hr'
          rcases List.mem_append.mp hr' with z | z
          · have := hr r (List.mem_append_left _ z); omega
          · rw [List.mem_singleton.mp z, List.length_append, List.length_singleton]
            have := hr s.cu (List.mem_append_right _ (List.mem_singleton.mpr rfl)); omega
        · dsimp only at hr'
          rcases List.mem_append.mp hr' with z | z
          · have := hr r z; omega
          · rw [List.mem_singleton.mp z, List.length_singleton]; omega
  cases ts with
  | nil => exact ⟨Nat.le_refl _, fun _ h => (nomatch h), Nat.le_refl _⟩
  | cons u us =>
    obtain ⟨h1, h2, h3⟩ := key us (st0 u) 1 (sz0 u) (by unfold st0; simp) fun r hr => by
      have hr : r ∈ ([[u]] : List (List Tk)) := hr
      rw [List.mem_singleton.mp hr]; exact Nat.le_refl _
    have hp := List.length_pos_iff.mpr h2
    rw [List.length_cons]
    refine ⟨?_, fun r hr => by have := h3 r hr; omega, ?_⟩
    · show ((us.foldl stp (st0 u)).dn ++ [_]).length ≤ _
      rw [List.length_append, List.length_singleton]
      have := h1.a; omega
    · show ((us.foldl stp (st0 u)).wd ++ [_]).length ≤ _
      rw [List.length_append, List.length_singleton]
      have := h1.b; omega
noncomputable def tu_2 : FS := sFor (fIter (fOp dAdd (fOp dIx (fVar 6) (fC (.int 0))) (fVar 6))) (gN 7) (chk 7 (sApp 7 (fC (.int 0))))
noncomputable def tu_1 : FS := sSeq (sIf (fOr (fOp (dEqv true) (fVar 6) (fSl (fVar 3) (fNoPart) (fPart (fC (.int 3))))) (fNot (fCB dAll (fCons (fLc (fIter (fOp dIx (fVar 6) (fC (.int 0)))) (gN 15) (fC (.bl true)) (fIsi .lst (fVar 15)) [15]) (fNil))))) (sRet (fC (.bl false))) (sNext)) tu_2
noncomputable def tu_0 : FS := sSeq (sAsg (fLst (fCons (fAdo (fLcQ 15 Fq_lines (fCons (fVar 4) (fNil)))) (fCons (fAdo (fCall F_widths [] (fCons (fVar 4) (fNil)))) (fCons (fAdo (fCall F_columns [] (fCons (fVar 4) (fNil)))) (fNil))))) (gN 6)) tu_1
noncomputable def pc_0 : FS := sIf (fOp dGt (fVar 1) (fC (.int 0))) (sSeq (sAsg (fCall F__law_take [] (fCons (fVar 0) (fCons (fVar 1) (fNil)))) (gN 8)) (sSeq (sAsg (fCall F_place_of [] (fCons (fVar 4) (fCons (fVar 8) (fNil)))) (gN 6)) (sIf (fOr (fOp (dEqv true) (fVar 6) (fOp dIx (fOp dIx (fVar 3) (fC (.int 3))) (fVar 8))) (fNot (fIsi .tup (fVar 6)))) (sRet (fC (.bl false))) (sNext)))) (sNext)
section
variable {S : Sto} {k j : Nat}
theorem d_lst3b {S : Sto} {a b c : D} : dLst [a, b, c] true S = .ok (.lst [a, b, c]) .fs S := d_lst (show 3 ≤ lim by decide)
abbrev dueV (j : Nat) : D := .lst [.cel j, .cel (j + 1), .cel (j + 2), .cel (j + 3)]
/-- the cells that a turn makes -/
abbrev newC (ts : List Tk) (b : Nat) : List Ce := (rowsT ts).map rowC ++ [.lst (celsF b (rowsT ts).length), .lst ((wideT ts).map D.int), .lst ((spT ts).map D.int)]
theorem new_at {S : Sto} {ts : List Tk} {i : Nat} {r : List Tk} (h : (rowsT ts)[i]? = some r) : (S ++ newC ts S.length)[S.length + i]? = some (rowC r) := by
  have hi := (List.getElem?_eq_some_iff.mp h).1
  rw [List.getElem?_append_right (by omega), Nat.add_sub_cancel_left, List.getElem?_append_left (by rw [List.length_map]; exact hi), List.getElem?_map, h]; rfl
theorem new_a (S : Sto) (ts : List Tk) (x : Nat) : (S ++ newC ts S.length)[S.length + (rowsT ts).length + x]? = ([.lst (celsF S.length (rowsT ts).length), .lst ((wideT ts).map D.int), .lst ((spT ts).map D.int)] : List Ce)[x]? := by
  rw [List.getElem?_append_right (by omega), show S.length + (rowsT ts).length + x - S.length = (rowsT ts).length + x by omega, List.getElem?_append_right (by rw [List.length_map]; omega), List.length_map, Nat.add_sub_cancel_left]
theorem told_py {ts : List Tk} : Py (S ++ newC ts S.length) (.lst [.cel (S.length + (rowsT ts).length), .cel (S.length + (rowsT ts).length + 1), .cel (S.length + (rowsT ts).length + 2)]) (threeD ts) := by
  refine py_lst (.cons (py_cel (new_a S ts 0) ?_) (.cons (py_cel (new_a S ts 1) (tree_ints _ _)) (.cons (py_cel (new_a S ts 2) (tree_ints _ _)) .nil)))
  refine tree_cels _ _ _ fun i r h => ?_
  exact cells_lst (new_at h) (tree_toks _ _)
theorem due_py {ts : List Tk} (h : Due S j ts) : Py S (.lst [.cel j, .cel (j + 1), .cel (j + 2)]) (threeD ts) :=
  py_lst (.cons (py_cel h.r (tree_rows _ _)) (.cons (py_cel h.w (tree_ints _ _)) (.cons (py_cel h.s (tree_ints _ _)) .nil)))
theorem tu_0_ok {v T m : D} {ts : List Tk} (h : IsT v ts) (hg : GoodT ts) (hl : ts.length ≤ 400) {a5 a6 a7 a8 a9 a10 a11 a12 a13 a14 a15 : Sl} :
    tu_0 [.val (.cel k), .val m, .val T, .val (dueV j), .val v, a5, a6, a7, a8, a9, a10, a11, a12, a13, a14, a15] S = tu_1 [.val (.cel k), .val m, .val T, .val (dueV j), .val v, a5, .val (.lst [.cel (S.length + (rowsT ts).length), .cel (S.length + (rowsT ts).length + 1), .cel (S.length + (rowsT ts).length + 2)]), a7, a8, a9, a10, a11, a12, a13, a14, a15] (S ++ newC ts S.length) := by
  have hz := rows_sz (ts := ts)
  have el : fLcQ 15 Fq_lines (fCons (fVar 4) fNil) [.val (.cel k), .val m, .val T, .val (dueV j), .val v, a5, a6, a7, a8, a9, a10, a11, a12, a13, a14, a15] S = .ok (.lst (celsF S.length (rowsT ts).length)) .fs (S ++ (rowsT ts).map rowC) := by
    rw [v_lcQ (ds := [v]) (S1 := S) (ys := (rowsT ts).map rowY) (by walk_at "ex") (by unfold noCels; rw [h.nc]; rfl) (by show 15 < 16; decide) (f_lines h hg hl) (by rw [List.length_map]; exact Nat.le_trans (show _ ≤ 400 by omega) (by decide)), ado_rows]
    rfl
  have ew := fun S => f_widths (S := S) h hg hl
  have ec := fun S => f_columns (S := S) h hg hl
  have en : newC ts S.length = (rowsT ts).map rowC ++ [.lst (celsF S.length (rowsT ts).length), .lst ((wideT ts).map D.int), .lst ((spT ts).map D.int)] := rfl
  have hR : ((rowsT ts).map rowC).length = (rowsT ts).length := List.length_map _
  rw [en]
  generalize celsF S.length (rowsT ts).length = C at el ⊢
  generalize (rowsT ts).map rowC = R at el hR ⊢
  generalize (wideT ts).map D.int = Wd at ew ⊢
  generalize (spT ts).map D.int = Sp at ec ⊢
  unfold tu_0
  rw [v_seq, v_asg, v_lst]
  have ea : fCons (fAdo (fLcQ 15 Fq_lines (fCons (fVar 4) (fNil)))) (fCons (fAdo (fCall F_widths [] (fCons (fVar 4) (fNil)))) (fCons (fAdo (fCall F_columns [] (fCons (fVar 4) (fNil)))) (fNil))) [.val (.cel k), .val m, .val T, .val (dueV j), .val v, a5, a6, a7, a8, a9, a10, a11, a12, a13, a14, a15] S = .ok [.cel (S.length + (rowsT ts).length), .cel (S.length + (rowsT ts).length + 1), .cel (S.length + (rowsT ts).length + 2)] true (S ++ (R ++ [.lst C, .lst Wd, .lst Sp])) := by
    walk_at "ex"
    rw [el]
    walk_at "ex"
    rw [ew]
    walk_at "ex"
    rw [ec]
    walk_at "ex"
    simp only [List.append_assoc, List.length_append, List.length_singleton, List.cons_append, List.nil_append, hR]
    simp only [Nat.add_assoc]
    rfl
  rw [ea, bA_ok, d_lst3b]
  walk_at "ex"
theorem tu_1_ok {v T m d5 : D} {ts : List Tk} (hg : GoodT ts) (hl : ts.length ≤ 400) (hd : Due S j ts) (hj : j + 3 < S.length) {a7 a8 a9 a10 a11 a12 a13 a14 : Sl} :
    tu_1 [.val (.cel k), .val m, .val T, .val (dueV j), .val v, .val d5, .val (.lst [.cel (S.length + (rowsT ts).length), .cel (S.length + (rowsT ts).length + 1), .cel (S.length + (rowsT ts).length + 2)]), a7, a8, a9, a10, a11, a12, a13, a14, .no] (S ++ newC ts S.length) = tu_2 [.val (.cel k), .val m, .val T, .val (dueV j), .val v, .val d5, .val (.lst [.cel (S.length + (rowsT ts).length), .cel (S.length + (rowsT ts).length + 1), .cel (S.length + (rowsT ts).length + 2)]), a7, a8, a9, a10, a11, a12, a13, a14, .no] (S ++ newC ts S.length) := by
  have hz := rows_sz (ts := ts)
  have hd2 : Due (S ++ newC ts S.length) j ts := hd.keep (n := S.length) (fun i hi => List.getElem?_append_left hi) hj
  have hs : ∀ r ∈ rowsT ts, SokT r := fun r hr t ht => hg.sok t (rows_mem r hr t ht)
  have eq : dEqv true (.lst [.cel (S.length + (rowsT ts).length), .cel (S.length + (rowsT ts).length + 1), .cel (S.length + (rowsT ts).length + 2)]) (.lst [.cel j, .cel (j + 1), .cel (j + 2)]) (S ++ newC ts S.length) = .ok (.bl false) .tr (S ++ newC ts S.length) :=
    d_eq_pure (b := true) told_py (due_py hd2) (pure_three ts) (pure_three ts) (shaped_three hs) (shaped_three hs) (iff_of_true rfl rfl)
  have e0 : (S ++ newC ts S.length)[S.length + (rowsT ts).length]? = some (.lst (celsF S.length (rowsT ts).length)) := new_a S ts 0
  have ty : ∀ d ∈ celsF S.length (rowsT ts).length, tyDf (S ++ newC ts S.length) d = some .lst := fun d hd => by
    obtain ⟨i, hi, rfl⟩ := cels_mem _ _ d hd
    show (match (S ++ newC ts S.length)[S.length + i]? with | some (.lst _) => some Ty.lst | some (.dK _) => some .dct | _ => none) = _
    rw [new_at (List.getElem?_eq_getElem hi)]
  have ec : Fx.cutD [.cel j, .cel (j + 1), .cel (j + 2), .cel (j + 3)] none (some 3) = [.cel j, .cel (j + 1), .cel (j + 2)] := by
    rw [show (3 : Int) = ((3 : Nat) : Int) from rfl, cutD_upto]; rfl
  have hcl : (celsF S.length (rowsT ts).length).length ≤ 400 := by rw [cels_len]; omega
  have lc : fLc (fIter (fOp dIx (fVar 6) (fC (.int 0)))) (gN 15) (fC (.bl true)) (fIsi .lst (fVar 15)) [15] [.val (.cel k), .val m, .val T, .val (dueV j), .val v, .val d5, .val (.lst [.cel (S.length + (rowsT ts).length), .cel (S.length + (rowsT ts).length + 1), .cel (S.length + (rowsT ts).length + 2)]), a7, a8, a9, a10, a11, a12, a13, a14, .no] (S ++ newC ts S.length) = .ok (.lst ((celsF S.length (rowsT ts).length).map fun _ => .bl true)) .fs (S ++ newC ts S.length) := by
    refine lc_map (S1 := S ++ newC ts S.length) (ds := celsF S.length (rowsT ts).length) (g := some (S.length + (rowsT ts).length, celsF S.length (rowsT ts).length)) (by
      walk_at "ex"
      rw [it_cel e0]
      walk_at "ex") e0 (Nat.le_trans hcl (by decide)) (fun d hd => ?_)
    refine ⟨[.val (.cel k), .val m, .val T, .val (dueV j), .val v, .val d5, .val (.lst [.cel (S.length + (rowsT ts).length), .cel (S.length + (rowsT ts).length + 1), .cel (S.length + (rowsT ts).length + 2)]), a7, a8, a9, a10, a11, a12, a13, a14, .val d], .tr, rfl, ?_, rfl⟩
    walk_at "ex"
    rw [ty d hd]
    walk_at "ex"
  have al : ∀ t, dAll [.lst ((celsF S.length (rowsT ts).length).map fun _ => .bl true)] t (S ++ newC ts S.length) = .ok (.bl true) .tr (S ++ newC ts S.length) := fun t => by
    rw [d_all (bs := (celsF S.length (rowsT ts).length).map fun _ => true) (bools_map (fun _ => true) _)]
    simp
  generalize ((celsF S.length (rowsT ts).length).map fun _ => D.bl true) = Y at lc al
  generalize S ++ newC ts S.length = S1 at eq lc al ⊢
  generalize S.length + (rowsT ts).length = A at eq lc al ⊢
  unfold tu_1
  rw [v_seq, v_ifs]
  have et : fOr (fOp (dEqv true) (fVar 6) (fSl (fVar 3) (fNoPart) (fPart (fC (.int 3))))) (fNot (fCB dAll (fCons (fLc (fIter (fOp dIx (fVar 6) (fC (.int 0)))) (gN 15) (fC (.bl true)) (fIsi .lst (fVar 15)) [15]) (fNil)))) [.val (.cel k), .val m, .val T, .val (dueV j), .val v, .val d5, .val (.lst [.cel A, .cel (A + 1), .cel (A + 2)]), a7, a8, a9, a10, a11, a12, a13, a14, .no] S1 = .ok (.bl false) .tr S1 := by
    walk_at "ex"
    rw [ec, eq]
    walk_at "ex"
    rw [lc]
    walk_at "ex"
    rw [al]
    walk_at "ex"
  rw [et]
  walk_at "ex"
/-- what a turn leaves: the cells below stay, those from b on are lists -/
structure Aft (b : Nat) (S S' : Sto) (n : Nat) : Prop where
  low : ∀ i, i < b → S'[i]? = S[i]?
  len : S'.length = S.length
  lst : ∀ i, b ≤ i → i < S.length → ∃ ds, S'[i]? = some (.lst ds) ∧ ds.length ≤ n
theorem tu_2_ok {v T m d5 : D} {ts : List Tk} (hg : GoodT ts) (hl : ts.length ≤ 400) {a7 a8 a9 a10 a11 a12 a13 a14 : Sl} : ∃ t7 S',
    tu_2 [.val (.cel k), .val m, .val T, .val (dueV j), .val v, .val d5, .val (.lst [.cel (S.length + (rowsT ts).length), .cel (S.length + (rowsT ts).length + 1), .cel (S.length + (rowsT ts).length + 2)]), a7, a8, a9, a10, a11, a12, a13, a14, .no] (S ++ newC ts S.length) = .nx [.val (.cel k), .val m, .val T, .val (dueV j), .val v, .val d5, .val (.lst [.cel (S.length + (rowsT ts).length), .cel (S.length + (rowsT ts).length + 1), .cel (S.length + (rowsT ts).length + 2)]), t7, a8, a9, a10, a11, a12, a13, a14, .no] S' ∧ (∀ i, i < S.length → S'[i]? = S[i]?) ∧ S.length ≤ S'.length := by
  have hz := rows_sz (ts := ts)
  have hsp := (sp_len hg).1
  have e0 : (S ++ newC ts S.length)[S.length + (rowsT ts).length]? = some (.lst (celsF S.length (rowsT ts).length)) := new_a S ts 0
  have hnl : (newC ts S.length).length = (rowsT ts).length + 3 := by unfold newC; rw [List.length_append, List.length_map]; rfl
  have hlen : (S ++ newC ts S.length).length = S.length + (rowsT ts).length + 3 := by rw [List.length_append, hnl]; omega
  have a0 : Aft S.length (S ++ newC ts S.length) (S ++ newC ts S.length) 400 := by
    refine ⟨fun _ _ => rfl, rfl, fun i h1 h2 => ?_⟩
    by_cases hi : i < S.length + (rowsT ts).length
    · obtain ⟨x, rfl⟩ : ∃ x, i = S.length + x := ⟨i - S.length, by omega⟩
      have hx : x < (rowsT ts).length := by omega
      refine ⟨_, new_at (List.getElem?_eq_getElem hx), ?_⟩
      rw [List.length_map]
      have := hz.2.1 _ (List.getElem_mem hx); omega
    · rw [hlen] at h2
      have h3 : i = S.length + (rowsT ts).length ∨ i = S.length + (rowsT ts).length + 1 ∨ i = S.length + (rowsT ts).length + 2 := by omega
      rcases h3 with rfl | rfl | rfl
      · exact ⟨_, new_a S ts 0, by rw [cels_len]; omega⟩
      · exact ⟨_, new_a S ts 1, by rw [List.length_map]; omega⟩
      · exact ⟨_, new_a S ts 2, by rw [List.length_map]; omega⟩
  have hmem : ∀ d ∈ celsF S.length (rowsT ts).length ++ [.cel (S.length + (rowsT ts).length), .cel (S.length + (rowsT ts).length + 1), .cel (S.length + (rowsT ts).length + 2)], ∃ i, d = .cel i ∧ S.length ≤ i ∧ i < S.length + (rowsT ts).length + 3 := fun d hd => by
    rcases List.mem_append.mp hd with z | z
    · obtain ⟨i, hi, e⟩ := cels_mem _ _ d z
      exact ⟨_, e, by omega, by omega⟩
    · simp only [List.mem_cons, List.not_mem_nil, or_false] at z
      rcases z with rfl | rfl | rfl
      · exact ⟨_, rfl, by omega, by omega⟩
      · exact ⟨_, rfl, by omega, by omega⟩
      · exact ⟨_, rfl, by omega, by omega⟩
  have hL : (celsF S.length (rowsT ts).length ++ [D.cel (S.length + (rowsT ts).length), .cel (S.length + (rowsT ts).length + 1), .cel (S.length + (rowsT ts).length + 2)]).length ≤ 403 := by
    rw [List.length_append, cels_len]
    show _ + 3 ≤ 403; omega
  have hc : lsOf (S ++ newC ts S.length) (.cel (S.length + (rowsT ts).length)) = some (celsF S.length (rowsT ts).length) := by
    unfold lsOf
    dsimp only
    rw [e0]
  have hlow : ∀ i, i < S.length → (S ++ newC ts S.length)[i]? = S[i]? := fun i hi => List.getElem?_append_left hi
  generalize hA : S.length + (rowsT ts).length = A at *
  generalize hL2 : celsF S.length (rowsT ts).length ++ [D.cel A, .cel (A + 1), .cel (A + 2)] = L at *
  have eadd : dAdd (.cel A) (.lst [.cel A, .cel (A + 1), .cel (A + 2)]) (S ++ newC ts S.length) = .ok (.lst L) .fs (S ++ newC ts S.length) := by
    unfold dAdd
    dsimp only
    rw [hc, show lsOf (S ++ newC ts S.length) (.lst [.cel A, .cel (A + 1), .cel (A + 2)]) = some [.cel A, .cel (A + 1), .cel (A + 2)] from rfl]
    dsimp only
    rw [← List.length_append, hL2, if_pos (Nat.le_trans hL (by decide))]
  generalize S ++ newC ts S.length = S1 at *
  obtain ⟨ρ', S', e, t7, rfl, af⟩ := loop_inv (g := none) (set := gN 7) (ds := L) (body := chk 7 (sApp 7 (fC (.int 0)))) (S := S1) (ρ := [.val (.cel k), .val m, .val T, .val (dueV j), .val v, .val d5, .val (.lst [.cel A, .cel (A + 1), .cel (A + 2)]), a7, a8, a9, a10, a11, a12, a13, a14, .no])
    (fun i ρ S' => ∃ t7, ρ = [.val (.cel k), .val m, .val T, .val (dueV j), .val v, .val d5, .val (.lst [.cel A, .cel (A + 1), .cel (A + 2)]), t7, a8, a9, a10, a11, a12, a13, a14, .no] ∧ Aft S.length S1 S' (400 + i)) (fun _ _ _ _ => trivial) (by
      rintro i d ρ S2 hd ⟨t7, rfl, af⟩
      have hi := (List.getElem?_eq_some_iff.mp hd).1
      obtain ⟨x, rfl, hx1, hx2⟩ := hmem d (List.mem_of_getElem? hd)
      obtain ⟨ds, eds, hds⟩ := af.lst x hx1 (by omega)
      refine ⟨[.val (.cel k), .val m, .val T, .val (dueV j), .val v, .val d5, .val (.lst [.cel A, .cel (A + 1), .cel (A + 2)]), .val (.cel x), a8, a9, a10, a11, a12, a13, a14, .no], [.val (.cel k), .val m, .val T, .val (dueV j), .val v, .val d5, .val (.lst [.cel A, .cel (A + 1), .cel (A + 2)]), .val (.cel x), a8, a9, a10, a11, a12, a13, a14, .no], S2.set x (.lst (ds ++ [.int 0])), rfl, .inl ?_, _, rfl, ?_⟩
      · rw [v_chk (has_cel (k := x) (ds := ds) rfl eds)]
        walk_at "ex"
        rw [v_app2 (k := x) (ds := ds) rfl rfl eds (Nat.lt_of_le_of_lt (show ds.length ≤ 1000 by omega) (by decide))]
      · refine ⟨fun y hy => by rw [List.getElem?_set_ne (by omega)]; exact af.low y hy, by rw [List.length_set]; exact af.len, fun y h1 h2 => ?_⟩
        by_cases hy : y = x
        · subst hy
          refine ⟨_, List.getElem?_set_self (by rw [af.len]; exact h2), ?_⟩
          rw [List.length_append, List.length_singleton]; omega
        · obtain ⟨es, q1, q2⟩ := af.lst y h1 h2
          exact ⟨es, by rw [List.getElem?_set_ne (Ne.symm hy)]; exact q1, by omega⟩) ⟨a7, rfl, a0⟩
  refine ⟨t7, S', ?_, fun i hi => ?_, by rw [af.len]; omega⟩
  · unfold tu_2
    rw [v_for]
    have ei : fIter (fOp dAdd (fOp dIx (fVar 6) (fC (.int 0))) (fVar 6)) [.val (.cel k), .val m, .val T, .val (dueV j), .val v, .val d5, .val (.lst [.cel A, .cel (A + 1), .cel (A + 2)]), a7, a8, a9, a10, a11, a12, a13, a14, .no] S1 = .ok L none S1 := by
      walk_at "ex"
      rw [eadd]
      walk_at "ex"
    rw [ei, v_for1, e]
  · rw [af.low i hi]; exact hlow i hi
end
local macro_rules | `(tactic| walk_at "kk") => `(tactic| simp -implicitDefEqProofs only [d_lst3b, Fx.v_slT, Fx.v_slT0, Fx.v_slT1, Fx.v_slT2, Fx.d_slT, Fx.d_slTl, Fx.d_addTi, Fx.d_addTs, Fx.d_addTl, Fx.v_dnewC, Fx.v_zipC, Fx.d_ixl0, Fx.d_ixl1, Fx.d_ixl2, Fx.d_ixt0, Fx.d_ixt1, Fx.d_lst0, Fx.d_lst1, Fx.d_lst2, Fx.d_tup0, Fx.d_tup1, Fx.d_tup2, Fx.d_int_int, Fx.d_neg, Fx.v_gt2, Fx.v_gt1, Fx.v_callT, Fx.v_propT, Fx.v_sup, Fx.v_asgNS, Fx.v_appX, Fx.d_strX_str, Fx.d_sum, Fx.v_isiX, Fx.v_binO, Fx.v_binO1, Fx.v_inO, Fx.v_inO1, Fx.v_inO3, Fx.v_eqO, Fx.v_eqO1, Fx.v_eqO3, Fx.v_eqX, Fx.v_eqX1, Fx.v_neO, Fx.v_neO1, Fx.v_neO3, Fx.v_augD, Fx.v_augD0, Fx.v_augD1, Fx.v_augD2, Fx.v_idxL, Fx.v_idxL1, Fx.v_idxL2, Fx.v_raise0, Fx.v_fld, Fx.v_setF, Fx.v_meth, Fx.v_methA, Fx.v_sp1, Fx.v_mk, Fx.v_mkK, Fx.v_mkK1, Fx.v_cmeth, Fx.v_runI1, Fx.v_runIx, Fx.v_fmt, Fx.v_js0, Fx.v_js, Fx.v_lrg, Fx.v_lrg1, Fx.v_callK, Fx.v_callK1, Fx.bE_ok, Fx.bE_xc, Fx.bS_nx, Fx.bS_rt, Fx.bS_bk, Fx.bS_ct, Fx.bS_xc, Fx.eS_ok, Fx.eS_xc, Fx.v_seq, Fx.v_next, Fx.v_break, Fx.v_cont, Fx.v_c, Fx.v_var, Fx.kVar_val, Fx.kVar_own, Fx.kVar_oob, Fx.v_op, Fx.v_op1, Fx.v_op2, Fx.v_un, Fx.v_un1, Fx.v_not, Fx.v_not1, Fx.v_and, Fx.v_andT, Fx.v_andF, Fx.v_or, Fx.v_orT, Fx.v_orF, Fx.v_if, Fx.v_ifT, Fx.v_ifF, Fx.v_chain, Fx.v_ch, Fx.v_ch0, Fx.v_ch1T, Fx.v_ch1F, Fx.v_ch2, Fx.v_isi, Fx.v_isiT, Fx.v_isi1, Fx.v_isi2, Fx.ty_non, Fx.ty_bl, Fx.ty_int, Fx.ty_str, Fx.ty_lst, Fx.ty_tup, Fx.ty_dct, Fx.v_cb, Fx.bA_ok, Fx.bA_xc, Fx.v_nil, Fx.v_cons, Fx.v_cons1, Fx.v_cons1x, Fx.v_cons2, Fx.v_cons2x, Fx.nop_tr, Fx.nop_fs, Fx.nop_pk, Fx.v_lst, Fx.v_tup, Fx.v_dnew, Fx.v_call, Fx.v_call1, Fx.v_m1, Fx.v_m1a, Fx.v_m1b, Fx.v_part, Fx.v_part1, Fx.v_nopart, Fx.v_sl, Fx.v_sl0, Fx.v_sl1, Fx.v_sl2, Fx.bO_ok, Fx.v_rev, Fx.v_expr, Fx.v_expr1, Fx.v_ifs, Fx.v_ifsT, Fx.v_ifsF, Fx.v_ret, Fx.v_retT, Fx.v_retS, Fx.v_retN, Fx.v_retV, Fx.v_retV1, Fx.v_retV2, Fx.v_asg, Fx.v_asgT, Fx.v_asgS, Fx.v_asg2, Fx.v_gn, Fx.v_gsNil, Fx.v_gsCons, Fx.v_gs, Fx.v_par, Fx.v_par1, Fx.v_aug, Fx.v_aug1, Fx.v_aug2, Fx.v_own, Fx.v_own1, Fx.v_frz, Fx.v_frz0, Fx.v_frz1, Fx.v_frz2, Fx.v_frz3, Fx.v_app, Fx.v_ado, Fx.v_ado1, Fx.v_xf, Fx.v_set, Fx.v_for, Fx.v_for1, Fx.v_forx, Fx.v_iter, Fx.v_iter1, Fx.v_iter1s, Fx.v_iter2, Fx.it_str, Fx.it_lst, Fx.it_tup, Fx.v_rng1, Fx.v_enum, Fx.v_enumL, Fx.v_enumT, Fx.v_raise, Fx.v_raise1, Fx.v_try, Fx.v_tryN, Fx.v_tryX, Fx.v_run1, Fx.v_run2, Fx.v_run3, Fx.v_r0, Fx.v_r1, Fx.v_r2, Fx.v_r3, Fx.v_r4, Fx.v_r5, Fx.v_nx, Fx.v_nx1, Fx.d_eq_str, Fx.d_eq_int, Fx.d_add_int, Fx.d_sub, Fx.d_cmp, Fx.d_len_lst, Fx.d_len_tup, Fx.d_len_fro, Fx.d_nil, Fx.d_max, Fx.d_min, Fx.d_sl_lst, Fx.d_list, Fx.d_listT, Fx.d_tuple, Fx.d_isN, Fx.d_isB, List.map_cons, List.map_nil, List.length_cons, List.length_nil, List.replicate, List.cons_append, List.nil_append, List.append_nil, List.getElem?_cons_zero, List.getElem?_cons_succ, List.set, Nat.reduceAdd, Nat.reduceSub, Nat.zero_add, if_true, if_false, reduceIte, Bool.not_true, Bool.not_false, Bool.and_true, Bool.true_and, Bool.and_self, Bool.false_xor, Bool.true_xor, Bool.false_eq_true, isT, Fx.tyd_non, Fx.tyd_bl, Fx.tyd_int, Fx.tyd_str, Fx.tyd_lst, Fx.tyd_tup, Fx.tyd_dct, reduceCtorEq, decide_true, decide_false, Bool.or_false, Bool.or_true, Bool.false_or, Bool.true_or, Bool.and_false, Bool.false_and, List.any_cons, List.any_nil])
section
variable {S : Sto} {k n j : Nat}
theorem box_low {S S' : Sto} (h : Box S k n) (kp : ∀ i, i < S.length → S'[i]? = S[i]?) : Box S' k n := by
  obtain ⟨x, y, z, e, r⟩ := h
  exact ⟨x, y, z, (kp _ (List.getElem?_eq_some_iff.mp e).1).trans e, r⟩
theorem tu_ok {v T m d5 : D} {ts : List Tk} (h : IsT v ts) (hg : GoodT ts) (hl : ts.length ≤ 400) (hd : Due S j ts) (hj : j + 3 < S.length) {a6 a7 a8 a9 a10 a11 a12 a13 a14 : Sl} : ∃ t6 t7 S', tu_0 [.val (.cel k), .val m, .val T, .val (dueV j), .val v, .val d5, a6, a7, a8, a9, a10, a11, a12, a13, a14, .no] S = .nx [.val (.cel k), .val m, .val T, .val (dueV j), .val v, .val d5, t6, t7, a8, a9, a10, a11, a12, a13, a14, .no] S' ∧ (∀ i, i < S.length → S'[i]? = S[i]?) ∧ S.length ≤ S'.length := by
  obtain ⟨t7, S', e, q⟩ := tu_2_ok (S := S) (k := k) (j := j) (v := v) (T := T) (m := m) (d5 := d5) hg hl (a7 := a7) (a8 := a8) (a9 := a9) (a10 := a10) (a11 := a11) (a12 := a12) (a13 := a13) (a14 := a14)
  exact ⟨_, t7, S', by rw [tu_0_ok h hg hl, tu_1_ok hg hl hd hj, e], q⟩
theorem py_pl (S : Sto) (p : Nat × Nat) : Py S (plV p) (.tuple [.int ((p.1 : Nat) : Int), .int ((p.2 : Nat) : Int)]) := py_tup (.cons (py_int S _) (.cons (py_int S _) .nil))
theorem ne_pl {S : Sto} (p : Nat × Nat) : dEqv true (plV p) (plV p) S = .ok (.bl false) .tr S := by
  have h1 : pureD (.tuple [.int ((p.1 : Nat) : Int), .int ((p.2 : Nat) : Int)]) = true := by
    simp only [pureD]
    exact pureAll_of fun d hd => by
      simp only [List.mem_cons, List.not_mem_nil, or_false] at hd
      rcases hd with rfl | rfl <;> simp only [pureD]
  have h2 : SeqAt.shaped (.tuple [.int ((p.1 : Nat) : Int), .int ((p.2 : Nat) : Int)]) = true := shaped_of (lay_tup (n := 0) fun d hd => by
    simp only [List.mem_cons, List.not_mem_nil, or_false] at hd
    rcases hd with rfl | rfl <;> exact lay_int _) (by decide)
  exact d_eq_pure (b := true) (py_pl S p) (py_pl S p) h1 h1 h2 h2 (iff_of_true rfl rfl)
theorem due_fk {S S' : Sto} {ts : List Tk} (h : Due S j ts) (f : Fk k S S') (hk : k < j ∨ j + 3 < k) : Due S' j ts :=
  ⟨f.2 _ _ (by omega) h.r, f.2 _ _ (by omega) h.w, f.2 _ _ (by omega) h.s, f.2 _ _ (by omega) h.p⟩
theorem pc_ok {v T d5 : D} {ts : List Tk} (h : IsT v ts) (hg : GoodT ts) (hl : ts.length ≤ 400) (hd : Due S j ts) (hb : Box S k n) (hn : n ≤ 800000) {a6 a7 a8 a9 a10 a11 a12 a13 a14 a15 : Sl} : ∃ t6 t8 S', pc_0 [.val (.cel k), .val (.int ((ts.length : Nat) : Int)), .val T, .val (dueV j), .val v, .val d5, a6, a7, a8, a9, a10, a11, a12, a13, a14, a15] S = .nx [.val (.cel k), .val (.int ((ts.length : Nat) : Int)), .val T, .val (dueV j), .val v, .val d5, t6, a7, t8, a9, a10, a11, a12, a13, a14, a15] S' ∧ Box S' k (n + 1) ∧ Fk k S S' ∧ S.length ≤ S'.length := by
  by_cases hp : 0 < ts.length
  · obtain ⟨r, S1, e1, r0, r1, b1, f1⟩ := f_take (m := ((ts.length : Nat) : Int)) hb (by omega) (by omega) (by omega)
    obtain ⟨i, rfl⟩ : ∃ i : Nat, r = (i : Int) := ⟨r.toNat, by omega⟩
    have hi : i < ts.length := by omega
    have ep := f_place (S := S1) h hg hl hi
    have hkj : Due S1 j ts ∨ True := .inr trivial
    refine ⟨.val (plV ((plT ts).getD i (0, 0))), .val (.int ((i : Nat) : Int)), S1, ?_, b1, f1, f1.1⟩
    have hpl : S1[j + 3]? = some (.lst ((plT ts).map plV)) := by
      have hne : j + 3 ≠ k := fun z => by
        obtain ⟨x, y, w, e, _⟩ := hb
        have := hd.p
        rw [z, e] at this
        injection this with this
        injection this with this
        have hl1 := congrArg List.length this
        cases hq : plT ts with
        | nil => rw [hq] at this; cases this
        | cons q r => rw [hq, List.map_cons] at this; injection this with q1 _; cases q1
      exact f1.2 _ _ hne hd.p
    have e3 : dIx (.cel (j + 3)) (.int ((i : Nat) : Int)) S1 = .ok (plV ((plT ts).getD i (0, 0))) .tr S1 := by
      refine d_ix_cel hpl (pick_at ?_)
      rw [List.getElem?_map, List.getD_eq_getElem?_getD, List.getElem?_eq_getElem (by rw [(sp_len hg).2]; exact hi)]; rfl
    have e2 : dIx (dueV j) (.int 3) S1 = .ok (.cel (j + 3)) .tr S1 := d_ix_lst (pick_at (i := 3) rfl)
    unfold pc_0
    walk_at "ex"
    rw [decide_eq_true (show ((ts.length : Nat) : Int) > 0 by omega)]
    walk_at "ex"
    rw [e1]
    walk_at "ex"
    rw [ep]
    walk_at "ex"
    rw [e2]
    walk_at "ex"
    rw [e3]
    walk_at "ex"
    rw [ne_pl]
    walk_at "ex"
    unfold plV
    walk_at "ex"
  · refine ⟨a6, a8, S, ?_, hb.le (by omega), Fk.refl _ _, Nat.le_refl _⟩
    unfold pc_0
    walk_at "ex"
    rw [decide_eq_false (show ¬ ((ts.length : Nat) : Int) > 0 by omega)]
    walk_at "ex"
structure OddI (N : Int) (o : D) (p : PyData) : Prop where
  py : ∀ S, Py S o p
  no : intP p 0 (N - 1) = false
  sh : Shp 2 p
  wt : p.weight ≤ 200
theorem odd_pick {N r : Int} (hN : 0 ≤ N) (hN2 : N ≤ 400) (h0 : 0 ≤ r) (h1 : r < 10) : ∃ o p, dIx (.lst [.non, .bl true, .str (Str.ofString "0"), .int (-1), .int N, .int (N + 10 ^ 20), .int (-10 ^ 20), .tup [.int 0], .lst [], .bl false]) (.int r) S = .ok o .tr S ∧ OddI N o p := by
  have hbig : (400 : Int) < 10 ^ 20 := by decide
  have hbig2 : (10 : Int) ^ 20 + 400 < 10 ^ 40 := by decide
  have hbig3 : (10 : Int) ^ 20 + 400 < 2 ^ 100 := by decide
  have sml : ∀ i : Int, -(10 ^ 20) ≤ i → i ≤ N + 10 ^ 20 → Shp 2 (.int i) ∧ (PyData.int i).weight ≤ 200 := fun i q1 q2 => by
    refine ⟨Shp.int (by omega) (by omega), ?_⟩
    rw [PyData.weight]
    split
    · decide
    · rename_i hz
      have hz : i.natAbs ≠ 0 := fun q => hz (by simpa using q)
      have : i.natAbs < 2 ^ 100 := by
        have e : ((2 ^ 100 : Nat) : Int) = 2 ^ 100 := by norm_cast
        omega
      have := (Nat.log2_lt hz).mpr this
      omega
  have h10 : r = 0 ∨ r = 1 ∨ r = 2 ∨ r = 3 ∨ r = 4 ∨ r = 5 ∨ r = 6 ∨ r = 7 ∨ r = 8 ∨ r = 9 := by omega
  have big_ : ∀ i : Int, i < 0 ∨ N ≤ i → -(10 ^ 20) ≤ i → i ≤ N + 10 ^ 20 → OddI N (.int i) (.int i) := fun i q q1 q2 => by
    refine ⟨fun S => py_int S _, ?_, (sml i q1 q2).1, (sml i q1 q2).2⟩
    show (decide (0 ≤ i) && decide (i ≤ N - 1)) = false
    rw [Bool.and_eq_false_iff, decide_eq_false_iff_not, decide_eq_false_iff_not]
    omega
  rcases h10 with rfl | rfl | rfl | rfl | rfl | rfl | rfl | rfl | rfl | rfl
  · exact ⟨_, _, rfl, fun S => py_non S, rfl, .non, by rw [wt_non]; decide⟩
  · exact ⟨_, _, rfl, fun S => py_bl S true, rfl, .bl true, by rw [wt_bl]; decide⟩
  · exact ⟨_, _, rfl, fun S => py_str S _, rfl, .str (sok_of _), by rw [wt_str]; decide +kernel⟩
  · exact ⟨_, _, rfl, big_ (-1) (.inl (by decide)) (by omega) (by omega)⟩
  · exact ⟨_, _, rfl, big_ N (.inr (Int.le_refl _)) (by omega) (by omega)⟩
  · exact ⟨_, _, rfl, big_ (N + 10 ^ 20) (.inr (by omega)) (by omega) (Int.le_refl _)⟩
  · exact ⟨_, _, rfl, big_ (-10 ^ 20) (.inl (by decide)) (by decide) (by omega)⟩
  · refine ⟨_, .tuple [.int 0], rfl, fun S => py_tup (.cons (py_int S 0) .nil), rfl, .tup (n := 1) fun d hd => ?_, ?_⟩
    · rw [List.mem_singleton.mp hd]; exact Shp.int (by decide) (by decide)
    · rw [wt_tup, wt_cons, wt_nil]; decide
  · exact ⟨_, _, rfl, fun S => py_lst .nil, rfl, .lst (n := 1) fun _ h => (nomatch h), by rw [wt_list, wt_nil]; decide⟩
  · exact ⟨_, _, rfl, fun S => py_bl S false, rfl, .bl false, by rw [wt_bl]; decide⟩
structure BadT (b : D) (q : PyData) : Prop where
  py : ∀ S, Py S b q
  no : isTextD q = false
  sh : Shp 8 q
  wt : q.weight ≤ 100000
theorem shp_toks {ts : List Tk} (hg : ∀ t ∈ ts, isMark t.1 = true ∧ isWord t.2 = true) {m : Nat} : ∀ d ∈ ts.map tokD, Shp (m + 1) d := fun d hd => by
  obtain ⟨t, ht, rfl⟩ := List.mem_map.mp hd
  exact (Shp.tok ⟨sok_mark (hg t ht).1, sok_word (hg t ht).2⟩).le (by omega)
/-- a row with a token that is none -/
theorem bad_mid {us vs : List Tk} (h1 : ∀ t ∈ us, isMark t.1 = true ∧ isWord t.2 = true) (h2 : ∀ t ∈ vs, isMark t.1 = true ∧ isWord t.2 = true) (hl : us.length + vs.length ≤ 400) (a b : String) (hn : tokenD (tokD (Str.ofString a, Str.ofString b)) = false) (hs : (Str.ofString a).length + (Str.ofString b).length ≤ 10) :
    BadT (.lst (us.map tokV ++ (tokV (Str.ofString a, Str.ofString b) :: vs.map tokV))) (.list (us.map tokD ++ (tokD (Str.ofString a, Str.ofString b) :: vs.map tokD))) := by
  refine ⟨fun S => py_lst ((py_toks S us).app (.cons (py_tok S _) (py_toks S vs))), ?_, .lst (n := 7) fun d hd => ?_, ?_⟩
  · show ((us.map tokD ++ (tokD (Str.ofString a, Str.ofString b) :: vs.map tokD)).all tokenD && _) = false
    rw [List.all_append, List.all_cons, hn]; simp
  · rcases List.mem_append.mp hd with z | z
    · exact shp_toks h1 d z
    · rcases List.mem_cons.mp z with z | z
      · rw [z]; exact (Shp.tok ⟨sok_of _, sok_of _⟩).le (by decide)
      · exact shp_toks h2 d z
  · have w1 := U.wt_good h1
    have w2 := U.wt_good h2
    have w3 : (tokD (Str.ofString a, Str.ofString b)).weight ≤ 12 := by rw [wt_tok]; show (Str.ofString a).length + (Str.ofString b).length + 2 ≤ 12; omega
    rw [wt_list, wt_app, wt_cons]; omega
theorem bad_pick {ts : List Tk} (hg : GoodT ts) (hl : ts.length ≤ 400) {a : Nat} {r : Int} (h0 : 0 ≤ r) (h1 : r < 10) : ∃ b q, dIx (.lst [.lst (ts.map tokV ++ [tokV (Str.ofString "#4", Str.ofString "a")]), .lst (tokV (Str.ofString "|0", Str.ofString "a") :: ts.map tokV), .lst (ts.map tokV ++ [tokV (Str.ofString " ", Str.ofString "A")]), .str (Str.ofString "a"), .non, .dct [], .lst [.lst (ts.map tokV)], .lst [.lst [.str (Str.ofString "#0"), .str (Str.ofString "a")]],
    .lst ((ts.take a).map tokV ++ (tokV (Str.ofString " ", Str.ofString "") :: (ts.drop a).map tokV)), .lst ((ts.take a).map tokV ++ (tokV (Str.ofString "/4", Str.ofString "a") :: (ts.drop a).map tokV))]) (.int r) S = .ok b .tr S ∧ BadT b q := by
  have ht : ∀ t ∈ ts.take a, isMark t.1 = true ∧ isWord t.2 = true := fun t h => hg.1 t (List.mem_of_mem_take h)
  have hd : ∀ t ∈ ts.drop a, isMark t.1 = true ∧ isWord t.2 = true := fun t h => hg.1 t (List.mem_of_mem_drop h)
  have hn : ∀ t ∈ ([] : List Tk), isMark t.1 = true ∧ isWord t.2 = true := fun _ h => (nomatch h)
  have hld : (ts.take a).length + (ts.drop a).length ≤ 400 := by rw [List.length_take, List.length_drop]; omega
  have h10 : r = 0 ∨ r = 1 ∨ r = 2 ∨ r = 3 ∨ r = 4 ∨ r = 5 ∨ r = 6 ∨ r = 7 ∨ r = 8 ∨ r = 9 := by omega
  rcases h10 with rfl | rfl | rfl | rfl | rfl | rfl | rfl | rfl | rfl | rfl
  · exact ⟨_, _, rfl, bad_mid (vs := []) hg.1 hn (by rw [List.length_nil]; omega) "#4" "a" (by decide +kernel) (by decide +kernel)⟩
  · have w1 := U.wt_good hg.1
    refine ⟨_, .list (tokD (Str.ofString "|0", Str.ofString "a") :: ts.map tokD), rfl, fun S => py_lst (.cons (py_tok S _) (py_toks S ts)), ?_, .lst (n := 7) fun d hd => ?_, ?_⟩
    · show (_ && firstD (tokD (Str.ofString "|0", Str.ofString "a") :: ts.map tokD)) = false
      rw [show firstD (tokD (Str.ofString "|0", Str.ofString "a") :: ts.map tokD) = false by
        show hashD (.tuple [.str (Str.ofString "|0"), .str (Str.ofString "a")]) = false
        unfold hashD
        decide +kernel, Bool.and_false]
    · rcases List.mem_cons.mp hd with z | z
      · rw [z]; exact (Shp.tok ⟨sok_of _, sok_of _⟩).le (by decide)
      · exact shp_toks hg.1 d z
    · have w3 : (tokD (Str.ofString "|0", Str.ofString "a")).weight ≤ 12 := by rw [wt_tok]; show (Str.ofString "|0").length + (Str.ofString "a").length + 2 ≤ 12; decide +kernel
      rw [wt_list, wt_cons]; omega
  · exact ⟨_, _, rfl, bad_mid (vs := []) hg.1 hn (by rw [List.length_nil]; omega) " " "A" (by decide +kernel) (by decide +kernel)⟩
  · exact ⟨_, _, rfl, fun S => py_str S _, rfl, .str (sok_of _), by rw [wt_str]; decide +kernel⟩
  · exact ⟨_, _, rfl, fun S => py_non S, rfl, .non, by rw [wt_non]; decide⟩
  · exact ⟨_, _, rfl, fun S => py_dct S, rfl, .dct, by rw [wt_dct]; decide⟩
  · have w1 := wt_gd hg (show ts.length ≤ 1000 by omega)
    have w2 := wt_text ts
    have w4 := U.wt_good hg.1
    refine ⟨_, .list [textD ts], rfl, fun S => py_lst (.cons (py_text S ts) .nil), rfl, .lst (n := 7) fun d hd => ?_, ?_⟩
    · rw [List.mem_singleton.mp hd]; exact (Shp.text hg.sok).le (by decide)
    · rw [wt_list, wt_cons, wt_nil]; omega
  · refine ⟨_, .list [.list [.str (Str.ofString "#0"), .str (Str.ofString "a")]], rfl, fun S => py_lst (.cons (py_lst (.cons (py_str S _) (.cons (py_str S _) .nil))) .nil), rfl, .lst (n := 7) fun d hd => ?_, ?_⟩
    · rw [List.mem_singleton.mp hd]
      refine .lst (n := 6) fun e he => ?_
      simp only [List.mem_cons, List.not_mem_nil, or_false] at he
      rcases he with rfl | rfl <;> exact .str (sok_of _)
    · rw [wt_list, wt_cons, wt_nil, wt_list, wt_cons, wt_cons, wt_nil, wt_str, wt_str, show (Str.ofString "#0").length = 2 by decide +kernel, show (Str.ofString "a").length = 1 by decide +kernel]; decide
  · exact ⟨_, _, rfl, bad_mid ht hd hld " " "" (by decide +kernel) (by decide +kernel)⟩
  · exact ⟨_, _, rfl, bad_mid ht hd hld "/4" "a" (by decide +kernel) (by decide +kernel)⟩
end
section
variable {S : Sto} {k n j : Nat}
theorem okd_two {tag : Str} {p : PyData} (ht : sok tag) (hl : tag.length ≤ 100) (h : Shp 8 p) (hw : p.weight ≤ 190000) : Okd (.list [.str tag, p]) := by
  refine Shp.okd (.lst (n := 8) (fun e he => ?_)) (by decide) ?_
  · simp only [List.mem_cons, List.not_mem_nil, or_false] at he
    rcases he with rfl | rfl
    · exact .str ht
    · exact h
  · rw [wt_list, wt_cons, wt_cons, wt_nil, wt_str]; omega
theorem py_two {tag : Str} {d : D} {p : PyData} (h : Py S d p) : Py S (.lst [.str tag, d]) (.list [.str tag, p]) := py_lst (.cons (py_str S _) (.cons h .nil))
theorem r_14 {b : D} {q : PyData} (h : BadT b q) {o v : D} {a0 a1 a2 a3 a5 a6 a7 a8 a10 a12 a13 a14 a15 : Sl} : b__law_right_14 [a0, a1, a2, a3, .val v, a5, a6, a7, a8, .val o, a10, .val b, a12, a13, a14, a15] S = .rt (.bl true) .tr S := by
  have lc : fLc (fRng1 (fCons (fC (.int 4)) (fNil))) (gN 12) (fC (.bl true)) (fOp (dEqv false) (fCB dRepr (fCons (fCall F__law_refused [] (fCons (fVar 12) (fCons (fVar 11) (fCons (fVar 9) (fNil))))) (fNil))) (fCB dRepr (fCons (fLst (fCons (fC (.str "text")) (fCons (fVar 11) (fNil)))) (fNil)))) [12] [a0, a1, a2, a3, .val v, a5, a6, a7, a8, .val o, a10, .val b, a12, a13, a14, a15] S = .ok (.lst ((rngD 0 4).map fun _ => .bl true)) .fs S := by
    refine lc_map (S1 := S) (ds := rngD 0 4) (g := none) (by
      walk_at "ex"
      rw [v_rng1a (by decide) (by decide)]
      rfl) trivial (by rw [rng_len]; decide) (fun d hd => ?_)
    obtain ⟨i, hi, hd⟩ := List.getElem_of_mem hd
    rw [rng_len] at hi
    have : d = .int ((i : Nat) : Int) := by
      have e := rng_at (lo := 0) hi
      rw [List.getElem?_eq_getElem (by rw [rng_len]; exact hi), hd] at e
      injection e with e
      rw [e, Int.zero_add]
    subst this
    refine ⟨[a0, a1, a2, a3, .val v, a5, a6, a7, a8, .val o, a10, .val b, .val (.int ((i : Nat) : Int)), a13, a14, a15], .tr, rfl, ?_, rfl⟩
    walk_at "ex"
    rw [f_refused_text (h.py S) (by have := h.wt; omega) h.no (by omega) (by omega)]
    have ok : Okd (.list [.str (Str.ofString "text"), q]) := okd_two (sok_of _) (by decide +kernel) h.sh (by have := h.wt; omega)
    walk_at "ex"
    rw [d_repr (py_two (h.py S)) ok]
    walk_at "ex"
    rw [d_repr (py_two (h.py S)) ok]
    walk_at "ex"
  have al : ∀ t, dAll [.lst ((rngD 0 4).map fun _ => .bl true)] t S = .ok (.bl true) .tr S := fun t => by
    rw [d_all (bs := (rngD 0 4).map fun _ => true) (bools_map (fun _ => true) _)]
    rfl
  generalize ((rngD 0 4).map fun _ => D.bl true) = Y at lc al
  unfold b__law_right_14
  walk_at "ex"
  rw [lc]
  walk_at "ex"
  rw [al]
  walk_at "ex"
theorem r_11 {ts : List Tk} (hg : GoodT ts) (hl : ts.length ≤ 400) {a : Nat} (hb : Box S k n) (hn : n ≤ 800000) {o v : D} {a1 a3 a5 a6 a7 a8 a11 a12 a13 a14 a15 : Sl} : ∃ S', b__law_right_11 [.val (.cel k), a1, .val (.lst (ts.map tokV)), a3, .val v, a5, a6, a7, a8, .val o, .val (.int ((a : Nat) : Int)), a11, a12, a13, a14, a15] S = .rt (.bl true) .tr S' := by
  obtain ⟨r, S1, e1, r0, r1, b1, f1⟩ := f_take (m := 10) hb (by omega) (by decide) (by decide)
  obtain ⟨b, q, e2, hB⟩ := bad_pick (S := S1) hg hl (a := a) r0 r1
  refine ⟨S1, ?_⟩
  have hlT : (ts.map tokV).length ≤ 400 := by rw [List.length_map]; exact hl
  rw [List.map_take, List.map_drop] at e2
  generalize ts.map tokV = T at e2 hlT ⊢
  have c1 : Fx.cutD T none (some ((a : Nat) : Int)) = T.take a := cutD_upto _ _
  have c2 : Fx.cutD T (some ((a : Nat) : Int)) none = T.drop a := cutD_from _ _
  have l1 : (T.take a).length ≤ 400 := by rw [List.length_take]; omega
  have l2 : (T.drop a).length ≤ 400 := by rw [List.length_drop]; omega
  have l3 : (T.take a).length + (T.drop a).length ≤ 400 := by rw [List.length_drop, List.length_take]; omega
  unfold b__law_right_11
  walk_at "ex"
  rw [d_add_lst (by show _ + 1 ≤ lim; exact Nat.le_trans (show _ ≤ 500 by omega) (by decide))]
  walk_at "ex"
  rw [d_add_lst (by show 1 + _ ≤ lim; exact Nat.le_trans (show _ ≤ 500 by omega) (by decide))]
  walk_at "ex"
  rw [d_add_lst (by show _ + 1 ≤ lim; exact Nat.le_trans (show _ ≤ 500 by omega) (by decide))]
  walk_at "ex"
  rw [d_lst (by show 8 ≤ lim; decide)]
  walk_at "ex"
  unfold b__law_right_12
  walk_at "ex"
  rw [c1, d_add_lst (by show _ + 1 ≤ lim; exact Nat.le_trans (show _ ≤ 500 by omega) (by decide))]
  walk_at "ex"
  rw [c2, d_add_lst (by rw [List.length_append]; exact Nat.le_trans (show _ + 1 + _ ≤ 500 by omega) (by decide))]
  walk_at "ex"
  rw [c1, d_add_lst (by show _ + 1 ≤ lim; exact Nat.le_trans (show _ ≤ 500 by omega) (by decide))]
  walk_at "ex"
  rw [c2, d_add_lst (by rw [List.length_append]; exact Nat.le_trans (show _ + 1 + _ ≤ 500 by omega) (by decide))]
  walk_at "ex"
  rw [d_add_lst (by show 8 + 2 ≤ lim; decide)]
  walk_at "ex"
  unfold b__law_right_13
  walk_at "ex"
  rw [e1]
  walk_at "ex"
  simp only [List.append_assoc, List.cons_append, List.nil_append]
  unfold tokV at e2
  rw [e2]
  walk_at "ex"
  exact r_14 hB
theorem r_8 {v : D} {ts : List Tk} (h : IsT v ts) (hg : GoodT ts) (hl : ts.length ≤ 400) (hb : Box S k n) (hn : n ≤ 700000) {a3 a5 a6 a7 a8 a9 a10 a11 a12 a13 a14 a15 : Sl} : ∃ S', b__law_right_8 [.val (.cel k), .val (.int ((ts.length : Nat) : Int)), .val (.lst (ts.map tokV)), a3, .val v, a5, a6, a7, a8, a9, a10, a11, a12, a13, a14, a15] S = .rt (.bl true) .tr S' := by
  obtain ⟨r, S1, e1, r0, r1, b1, f1⟩ := f_take (m := 10) hb (by omega) (by decide) (by decide)
  obtain ⟨o, p, e2, hO⟩ := odd_pick (S := S1) (N := ((ts.length : Nat) : Int)) (by omega) (by omega) r0 r1
  obtain ⟨q, S2, e3, q0, q1, b2, f2⟩ := f_take (m := ((ts.length : Nat) : Int) + 1) b1 (by omega) (by omega) (by omega)
  obtain ⟨a, rfl⟩ : ∃ a : Nat, q = (a : Int) := ⟨q.toNat, by omega⟩
  obtain ⟨S', e4⟩ := r_11 (v := v) (o := o) (a1 := .val (.int ((ts.length : Nat) : Int))) (a3 := a3) (a5 := a5) (a6 := a6) (a7 := a7) (a8 := a8) (a11 := a11) (a12 := a12) (a13 := a13) (a14 := a14) (a15 := a15) hg hl (a := a) b2 (by omega)
  refine ⟨S', ?_⟩
  have e5 := f_refused_int (S := S1) h hg hl (hO.py S1) hO.no
  have ok : Okd (.list [.str (Str.ofString "integer"), p]) := okd_two (sok_of _) (by decide +kernel) (hO.sh.le (by decide)) (by have := hO.wt; omega)
  generalize ts.map tokV = T at e4 ⊢
  have ep : ∀ S, dPow (.int 10) (.int 20) S = .ok (.int (10 ^ 20)) .tr S := fun S => d_pow ⟨by decide, by decide, by decide⟩
  unfold b__law_right_8
  walk_at "ex"
  rw [ep]
  walk_at "ex"
  rw [ep]
  walk_at "ex"
  rw [d_lst (by show 10 ≤ lim; decide)]
  walk_at "ex"
  rw [e1]
  walk_at "ex"
  rw [e2]
  walk_at "ex"
  unfold b__law_right_9
  walk_at "ex"
  rw [e5]
  walk_at "ex"
  rw [d_repr (py_two (hO.py S1)) ok]
  walk_at "ex"
  rw [d_repr (py_two (hO.py S1)) ok]
  walk_at "ex"
  unfold b__law_right_10
  walk_at "ex"
  rw [e3]
  walk_at "ex"
  exact e4
end
section
variable {S : Sto} {k n j : Nat}
theorem r_7 {v : D} {ts : List Tk} (h : IsT v ts) (hg : GoodT ts) (hl : ts.length ≤ 400) (hd : Due S j ts) (hk : k < j) (hb : Box S k n) (hn : n ≤ 600000) {a5 a6 a7 a8 a9 a10 a11 a12 a13 a14 a15 : Sl} : ∃ S', b__law_right_7 [.val (.cel k), .val (.int ((ts.length : Nat) : Int)), .val (.lst (ts.map tokV)), .val (dueV j), .val v, a5, a6, a7, a8, a9, a10, a11, a12, a13, a14, a15] S = .rt (.bl true) .tr S' := by
  obtain ⟨ρ', S', e, t5, t6, t8, rfl, b', d'⟩ := loop_inv (g := none) (set := gN 5) (ds := rngD 0 3) (body := pc_0)
    (fun i ρ S' => ∃ t5 t6 t8, ρ = [.val (.cel k), .val (.int ((ts.length : Nat) : Int)), .val (.lst (ts.map tokV)), .val (dueV j), .val v, t5, t6, a7, t8, a9, a10, a11, a12, a13, a14, a15] ∧ Box S' k (n + i) ∧ Due S' j ts) (fun _ _ _ _ => trivial) (by
      rintro i d ρ S1 hi ⟨t5, t6, t8, rfl, b1, d1⟩
      have hi := (List.getElem?_eq_some_iff.mp hi).1
      rw [rng_len] at hi
      obtain ⟨u6, u8, S2, e2, b2, f2, _⟩ := pc_ok (S := S1) (T := .lst (ts.map tokV)) (d5 := d) (a6 := t6) (a7 := a7) (a8 := t8) (a9 := a9) (a10 := a10) (a11 := a11) (a12 := a12) (a13 := a13) (a14 := a14) (a15 := a15) h hg hl d1 b1 (by omega)
      exact ⟨_, _, S2, rfl, .inl e2, _, _, _, rfl, b2, due_fk d1 f2 (.inl hk)⟩) (ρ := [.val (.cel k), .val (.int ((ts.length : Nat) : Int)), .val (.lst (ts.map tokV)), .val (dueV j), .val v, a5, a6, a7, a8, a9, a10, a11, a12, a13, a14, a15]) (S := S) ⟨_, _, _, rfl, hb, hd⟩
  rw [rng_len] at b'
  obtain ⟨S2, e8⟩ := r_8 (S := S') (a3 := .val (dueV j)) (a5 := t5) (a6 := t6) (a7 := a7) (a8 := t8) (a9 := a9) (a10 := a10) (a11 := a11) (a12 := a12) (a13 := a13) (a14 := a14) (a15 := a15) h hg hl b' (by omega)
  refine ⟨S2, ?_⟩
  generalize ts.map tokV = T at e e8 ⊢
  unfold b__law_right_7
  rw [v_seq, v_for, show fRng1 (fCons (fC (.int 3)) (fNil)) [.val (.cel k), .val (.int ((ts.length : Nat) : Int)), .val (.lst T), .val (dueV j), .val v, a5, a6, a7, a8, a9, a10, a11, a12, a13, a14, a15] S = .ok (rngD 0 3) none S by walk_at "ex"; rw [v_rng1a (by decide) (by decide)]; rfl, v_for1]
  refine Eq.trans (congrArg (fun r => bS r b__law_right_8) e) ?_
  exact e8
theorem r_6 {v : D} {ts : List Tk} (h : IsT v ts) (hg : GoodT ts) (hl : ts.length ≤ 400) (hd : Due S j ts) (hj : j + 3 < S.length) (hk : k < j) (hb : Box S k n) (hn : n ≤ 600000) {a5 a6 a7 a8 a9 a10 a11 a12 a13 a14 : Sl} : ∃ S', b__law_right_6 [.val (.cel k), .val (.int ((ts.length : Nat) : Int)), .val (.lst (ts.map tokV)), .val (dueV j), .val v, a5, a6, a7, a8, a9, a10, a11, a12, a13, a14, .no] S = .rt (.bl true) .tr S' := by
  obtain ⟨ρ', S', e, t5, t6, t7, rfl, b', d', _⟩ := loop_inv (g := none) (set := gN 5) (ds := rngD 0 2) (body := tu_0)
    (fun i ρ S' => ∃ t5 t6 t7, ρ = [.val (.cel k), .val (.int ((ts.length : Nat) : Int)), .val (.lst (ts.map tokV)), .val (dueV j), .val v, t5, t6, t7, a8, a9, a10, a11, a12, a13, a14, .no] ∧ Box S' k n ∧ Due S' j ts ∧ j + 3 < S'.length) (fun _ _ _ _ => trivial) (by
      rintro i d ρ S1 hi ⟨t5, t6, t7, rfl, b1, d1, j1⟩
      obtain ⟨u6, u7, S2, e2, f2, l2⟩ := tu_ok (S := S1) (k := k) (m := .int ((ts.length : Nat) : Int)) (T := .lst (ts.map tokV)) (d5 := d) (a6 := t6) (a7 := t7) (a8 := a8) (a9 := a9) (a10 := a10) (a11 := a11) (a12 := a12) (a13 := a13) (a14 := a14) h hg hl d1 j1
      exact ⟨_, _, S2, rfl, .inl e2, _, _, _, rfl, box_low b1 f2, d1.keep (n := S1.length) f2 j1, Nat.lt_of_lt_of_le j1 l2⟩) (ρ := [.val (.cel k), .val (.int ((ts.length : Nat) : Int)), .val (.lst (ts.map tokV)), .val (dueV j), .val v, a5, a6, a7, a8, a9, a10, a11, a12, a13, a14, .no]) (S := S) ⟨_, _, _, rfl, hb, hd, hj⟩
  obtain ⟨S2, e7⟩ := r_7 (S := S') (a5 := t5) (a6 := t6) (a7 := t7) (a8 := a8) (a9 := a9) (a10 := a10) (a11 := a11) (a12 := a12) (a13 := a13) (a14 := a14) (a15 := .no) h hg hl d' hk b' hn
  refine ⟨S2, ?_⟩
  generalize ts.map tokV = T at e e7 ⊢
  unfold b__law_right_6
  rw [v_seq, v_for, show fRng1 (fCons (fC (.int 2)) (fNil)) [.val (.cel k), .val (.int ((ts.length : Nat) : Int)), .val (.lst T), .val (dueV j), .val v, a5, a6, a7, a8, a9, a10, a11, a12, a13, a14, .no] S = .ok (rngD 0 2) none S by walk_at "ex"; rw [v_rng1a (by decide) (by decide)]; rfl, v_for1]
  refine Eq.trans (congrArg (fun r => bS r b__law_right_7) e) ?_
  exact e7
theorem due_new {ts : List Tk} : Due (S ++ due4 ts) S.length ts := ⟨gx0, gx1, gx2, gx3⟩
theorem box_app (hb : Box S k n) (T : List Ce) : Box (S ++ T) k n := box_low hb fun i hi => List.getElem?_append_left hi
theorem r_4 {ts : List Tk} (hg : GoodT ts) (hl : ts.length ≤ 400) (hb : Box S k n) (hn : n ≤ 500000) {a3 a4 a5 a6 a7 a8 a9 a10 a11 a12 a13 a14 : Sl} : ∃ S', b__law_right_4 [.val (.cel k), .val (.int ((ts.length : Nat) : Int)), .val (.lst (ts.map tokV)), a3, a4, a5, a6, a7, a8, a9, a10, a11, a12, a13, a14, .no] S = .rt (.bl true) .tr S' := by
  have ew := f_walked (S0 := S) hg hl
  have hk := hb.lt
  obtain ⟨r, S2, e2, r0, r1, b2, f2⟩ := f_take (m := 2) (box_app hb (due4 ts)) (by omega) (by decide) (by decide)
  obtain ⟨v, hv, ev⟩ : ∃ v, IsT v ts ∧ dIx (.lst [.lst (ts.map tokV), .tup (ts.map tokV)]) (.int r) S2 = .ok v .tr S2 := by
    have : r = 0 ∨ r = 1 := by omega
    rcases this with rfl | rfl
    · exact ⟨_, .inl rfl, d_ix_lst (pick_at (i := 0) rfl)⟩
    · exact ⟨_, .inr rfl, d_ix_lst (pick_at (i := 1) rfl)⟩
  obtain ⟨S', e6⟩ := r_6 (S := S2) (j := S.length) (a5 := a5) (a6 := a6) (a7 := a7) (a8 := a8) (a9 := a9) (a10 := a10) (a11 := a11) (a12 := a12) (a13 := a13) (a14 := a14) hv hg hl (due_fk due_new f2 (.inl hk)) (by have := f2.1; rw [List.length_append] at this; have h4 : (due4 ts).length = 4 := rfl; omega) hk b2 (by omega)
  refine ⟨S', ?_⟩
  have hlT : (ts.map tokV).length ≤ lim := by rw [List.length_map]; exact Nat.le_trans hl (by decide)
  generalize ts.map tokV = T at ew ev e6 hlT ⊢
  unfold b__law_right_4
  walk_at "kk"
  rw [ew]
  walk_at "kk"
  unfold b__law_right_5
  walk_at "kk"
  rw [e2]
  walk_at "kk"
  rw [ev]
  walk_at "kk"
  exact e6
end
section
variable {S : Sto} {k n : Nat}
abbrev blk (ts : List Tk) : List Tk := (ts.drop 1).map fun t => (Str.ofString " ", t.2)
theorem good_blk {ts : List Tk} (hg : GoodT ts) : GoodT (ts.take 1 ++ blk ts) := by
  refine ⟨fun t ht => ?_, fun t ht => ?_⟩
  · rcases List.mem_append.mp ht with z | z
    · exact hg.1 t (List.mem_of_mem_take z)
    · obtain ⟨u, hu, rfl⟩ := List.mem_map.mp z
      exact ⟨show isMark (Str.ofString " ") = true by decide +kernel, (hg.1 u (List.mem_of_mem_drop hu)).2⟩
  · cases ts with
    | nil => cases ht
    | cons a r => exact hg.2 t ht
theorem blk_len (ts : List Tk) : (ts.take 1 ++ blk ts).length = ts.length := by
  rw [List.length_append, List.length_map, List.length_take, List.length_drop]; omega
theorem r_3 {ts : List Tk} (hg : GoodT ts) (hl : ts.length ≤ 400) (hb : Box S k n) (hn : n ≤ 400000) : ∃ S', b__law_right_3 [.val (.cel k), .val (.int ((ts.length : Nat) : Int)), .val (.lst (ts.map tokV)), .no, .no, .no, .no, .no, .no, .no, .no, .no, .no, .no, .no, .no] S = .rt (.bl true) .tr S' := by
  obtain ⟨w, S4, e4, w0, w1, b4, f4⟩ := f_take (m := 4) hb (by omega) (by decide) (by decide)
  by_cases hw : w = 0
  · have hln := blk_len ts
    obtain ⟨S', e6⟩ := r_4 (S := S4) (a3 := .no) (a4 := .no) (a5 := .no) (a6 := .no) (a7 := .no) (a8 := .no) (a9 := .no) (a10 := .no) (a11 := .no) (a12 := .no) (a13 := .no) (a14 := .no) (good_blk hg) (by omega) b4 (by omega)
    rw [hln] at e6
    refine ⟨S', ?_⟩
    have hd1 : Fx.cutD (ts.map tokV) (some 1) none = (ts.drop 1).map tokV := by rw [show (1 : Int) = ((1 : Nat) : Int) from rfl, cutD_from, List.map_drop]
    have hd0 : Fx.cutD (ts.map tokV) none (some 1) ++ (blk ts).map tokV = (ts.take 1 ++ blk ts).map tokV := by rw [show (1 : Int) = ((1 : Nat) : Int) from rfl, cutD_upto, List.map_append, List.map_take]
    have hd2 : (Fx.cutD (ts.map tokV) none (some 1)).length + ((blk ts).map tokV).length ≤ lim := by
      rw [← List.length_append, hd0, List.length_map]; exact Nat.le_trans (show _ ≤ 400 by omega) (by decide)
    have e5 : fLc (fIter (fSl (fVar 2) (fPart (fC (.int 1))) (fNoPart))) (gT 2 (gsCons (gN 14) (gsCons (gN 13) (gsNil)))) (fC (.bl true)) (fTup (fCons (fC (.str " ")) (fCons (fVar 13) (fNil)))) [14, 13] [.val (.cel k), .val (.int ((ts.length : Nat) : Int)), .val (.lst (ts.map tokV)), .no, .no, .no, .no, .no, .no, .no, .no, .no, .no, .no, .no, .no] S4 = .ok (.lst ((blk ts).map tokV)) .fs S4 := by
      rw [List.map_map]
      refine lc_mapE (S1 := S4) (l := ts.drop 1) (e := tokV) (g := none) (by
        generalize ts.map tokV = T at hd1 ⊢
        walk_at "kk"
        rw [hd1]) trivial (by rw [List.length_drop]; exact Nat.le_trans (show _ ≤ 400 by omega) (by decide)) (fun t _ => ?_)
      refine ⟨[.val (.cel k), .val (.int ((ts.length : Nat) : Int)), .val (.lst (ts.map tokV)), .no, .no, .no, .no, .no, .no, .no, .no, .no, .no, .val (.str t.2), .val (.str t.1), .no], .tr, rfl, ?_, rfl⟩
      generalize ts.map tokV = T
      walk_at "kk"
      rfl
    rw [← hd0] at e6
    generalize ts.map tokV = T at e5 e6 hd2 ⊢
    generalize (blk ts).map tokV = U at e5 e6 hd2 ⊢
    unfold b__law_right_3
    walk_at "kk"
    rw [e4]
    walk_at "kk"
    rw [decide_eq_true hw]
    walk_at "kk"
    rw [e5]
    walk_at "kk"
    rw [d_add_lst hd2]
    walk_at "kk"
    exact e6
  · obtain ⟨S', e6⟩ := r_4 (S := S4) (a3 := .no) (a4 := .no) (a5 := .no) (a6 := .no) (a7 := .no) (a8 := .no) (a9 := .no) (a10 := .no) (a11 := .no) (a12 := .no) (a13 := .no) (a14 := .no) hg hl b4 (by omega)
    refine ⟨S', ?_⟩
    generalize ts.map tokV = T at e6 ⊢
    unfold b__law_right_3
    walk_at "kk"
    rw [e4]
    walk_at "kk"
    rw [decide_eq_false hw]
    walk_at "kk"
    exact e6
theorem r_2 {m : Int} (h0 : 0 ≤ m) (h1 : m ≤ 300) (hb : Box S k n) (hn : n ≤ 2000) : ∃ S', b__law_right_2 [.val (.cel k), .val (.int m), .no, .no, .no, .no, .no, .no, .no, .no, .no, .no, .no, .no, .no, .no] S = .rt (.bl true) .tr S' := by
  obtain ⟨q, S2, e2, q0, q1, b2, f2⟩ := f_take (m := 2) hb (by omega) (by decide) (by decide)
  obtain ⟨c, ec, hc⟩ : ∃ c : Int, dIx (.lst [.int 4, .int 30]) (.int q) S2 = .ok (.int c) .tr S2 ∧ 0 < c ∧ c ≤ 30 := by
    have : q = 0 ∨ q = 1 := by omega
    rcases this with rfl | rfl
    · exact ⟨_, d_ix_lst (pick_at (i := 0) rfl), by decide, by decide⟩
    · exact ⟨_, d_ix_lst (pick_at (i := 1) rfl), by decide, by decide⟩
  obtain ⟨ts, S3, e3, hg, hlen, _, b3, f3⟩ := f_text (many := m) (most := c) b2 (by omega) h0 (by omega) hc.1 hc.2
  obtain ⟨S', e4⟩ := r_3 hg (by omega) b3 (by omega)
  rw [hlen] at e4
  refine ⟨S', ?_⟩
  generalize ts.map tokV = T at e3 e4 ⊢
  unfold b__law_right_2
  walk_at "kk"
  rw [e2]
  walk_at "kk"
  rw [ec]
  walk_at "kk"
  rw [e3]
  walk_at "kk"
  exact e4
theorem f_right (hb : Box S k n) (hn : n ≤ 1000) : ∃ S', F__law_right [.cel k] S = .ok (.bl true) .tr S' := by
  obtain ⟨r, S1, e1, r0, r1, b1, f1⟩ := f_take (m := 21) hb (by omega) (by decide) (by decide)
  obtain ⟨q, S2, e2, q0, q1, b2, f2⟩ := f_take (m := 8) b1 (by omega) (by decide) (by decide)
  by_cases hq : q = 0
  · obtain ⟨m, S3, e3, m0, m1, b3, f3⟩ := f_take (m := 250) b2 (by omega) (by decide) (by decide)
    obtain ⟨S', e4⟩ := r_2 (m := 40 + m) (by omega) (by omega) b3 (by omega)
    refine ⟨S', ?_⟩
    unfold F__law_right b__law_right
    walk_at "kk"
    rw [e1]
    walk_at "kk"
    unfold b__law_right_1
    walk_at "kk"
    rw [e2]
    walk_at "kk"
    rw [decide_eq_true hq]
    walk_at "kk"
    rw [e3]
    walk_at "kk"
    rw [e4]
    walk_at "kk"
  · obtain ⟨S', e4⟩ := r_2 (m := r) (by omega) (by omega) b2 (by omega)
    refine ⟨S', ?_⟩
    unfold F__law_right b__law_right
    walk_at "kk"
    rw [e1]
    walk_at "kk"
    unfold b__law_right_1
    walk_at "kk"
    rw [e2]
    walk_at "kk"
    rw [decide_eq_false hq]
    walk_at "kk"
    rw [e4]
    walk_at "kk"
end
theorem law_true (ns : List Int) (hl : ns.length ≤ 63) : ∃ fl S', F_law [.fro true (intsD ns)] [] = .ok (.bl true) fl S' := by
  unfold F_law b_law
  walk_at "ev"
  have hil : (intsD ns).length ≤ 63 := by unfold intsD; rw [List.length_map]; exact hl
  generalize hN : (if (if ((intsD ns).length : Int) < 20 then ((intsD ns).length : Int) else 20) > 2 then (if ((intsD ns).length : Int) < 20 then ((intsD ns).length : Int) else 20) else 2) = N
  have hN' : 0 ≤ N ∧ N ≤ 32 := by rw [← hN]; split <;> split <;> omega
  rw [v_rng1a (by omega) (by omega)]
  walk_at "ev"
  obtain ⟨ρ', S', e, s1, rfl⟩ := loop_inv (g := none) (set := gN 1) (ds := rngD 0 N.toNat)
    (body := sIf (fNot (fCall F__law_right [] (fCons (fAdo (fCall F__law_purse [] (fCons (fCall F__law_cell [] (fCons (fVar 0) (fCons (fVar 1) (fNil)))) (fNil)))) (fNil)))) (sRet (fC (.bl false))) (sNext))
    (fun i ρ S' => ∃ s1, ρ = [.val (.fro true (intsD ns)), s1]) (fun _ _ _ _ => trivial) (by
      rintro i d ρ S1 hd ⟨s1, rfl⟩
      have hi := (List.getElem?_eq_some_iff.mp hd).1
      rw [rng_len] at hi
      rw [rng_at hi] at hd
      cases hd
      rw [Int.zero_add]
      obtain ⟨c, ec⟩ := f_cell (ns := ns) (k := ((i : Nat) : Int)) (S := S1) (by omega) (by omega)
      obtain ⟨ds, ep, x, y, rfl, hx, hy, hy2⟩ := f_purse (c := c) (S := S1)
      have hb : Box (S1 ++ [.lst [.int x, .int y, .int 0]]) S1.length 0 := ⟨x, y, 0, by rw [List.getElem?_append_right (Nat.le_refl _), Nat.sub_self]; rfl, hx, hy, hy2, by decide, by decide⟩
      obtain ⟨S2, e2⟩ := f_right hb (by decide)
      refine ⟨[.val (.fro true (intsD ns)), .val (.int ((i : Nat) : Int))], [.val (.fro true (intsD ns)), .val (.int ((i : Nat) : Int))], S2, rfl, .inl ?_, .val (.int ((i : Nat) : Int)), rfl⟩
      walk_at "ev"
      rw [ec]
      walk_at "ev"
      rw [ep]
      walk_at "ev"
      rw [e2]
      walk_at "ev") (ρ := [.val (.fro true (intsD ns)), .no]) (S := []) ⟨_, rfl⟩
  rw [e]
  walk_at "ev"
  exact ⟨_, _, rfl⟩
theorem all_mk {l : PySem.W.OpenLaw} {w : World} {K : PySem.W.Frag} {h : Heap} {mg : Str → Option Value} {fa : Addr} (X : K.In h) (G : h.Ns mainGlobals mg) (hfa : mg "law" = some (.ref fa))
    {C0 : Addr}
    {C1 : Addr}
    {C2 : Addr}
    {C3 : Addr}
    {f0 : Addr} {od0 an0 : Option Addr} {sl0 : Array (Option Value)} {oc0 dc0 pm0 cd0 ct0 : Value} {kV0 : Value}
    {f1 : Addr} {od1 an1 : Option Addr} {sl1 : Array (Option Value)} {oc1 dc1 pm1 cd1 ct1 : Value} {kV1 : Value}
    {f2 : Addr} {od2 an2 : Option Addr} {sl2 : Array (Option Value)} {oc2 dc2 pm2 cd2 ct2 : Value} {kV2 : Value}
    {f3 : Addr} {od3 an3 : Option Addr} {sl3 : Array (Option Value)} {oc3 dc3 pm3 cd3 ct3 : Value} {kV3 : Value}
    {f4 : Addr} {od4 an4 : Option Addr} {sl4 : Array (Option Value)} {oc4 dc4 pm4 cd4 ct4 : Value} {kV4 : Value}
    {f5 : Addr} {od5 an5 : Option Addr} {sl5 : Array (Option Value)} {oc5 dc5 pm5 cd5 ct5 : Value} {kV5 : Value}
    {f6 : Addr} {od6 an6 : Option Addr} {sl6 : Array (Option Value)} {oc6 dc6 pm6 cd6 ct6 : Value} {kV6 : Value}
    {f7 : Addr} {od7 an7 : Option Addr} {sl7 : Array (Option Value)} {oc7 dc7 pm7 cd7 ct7 : Value} {kV7 : Value}
    {f8 : Addr} {od8 an8 : Option Addr} {sl8 : Array (Option Value)} {oc8 dc8 pm8 cd8 ct8 : Value} {kV8 : Value}
    {f9 : Addr} {od9 an9 : Option Addr} {sl9 : Array (Option Value)} {oc9 dc9 pm9 cd9 ct9 : Value} {kV9 : Value}
    {f10 : Addr} {od10 an10 : Option Addr} {sl10 : Array (Option Value)} {oc10 dc10 pm10 cd10 ct10 : Value} {kV10 : Value}
    {f11 : Addr} {od11 an11 : Option Addr} {sl11 : Array (Option Value)} {oc11 dc11 pm11 cd11 ct11 : Value} {kV11 : Value}
    {f12 : Addr} {od12 an12 : Option Addr} {sl12 : Array (Option Value)} {oc12 dc12 pm12 cd12 ct12 : Value} {kV12 : Value}
    {f13 : Addr} {od13 an13 : Option Addr} {sl13 : Array (Option Value)} {oc13 dc13 pm13 cd13 ct13 : Value} {kV13 : Value}
    {f14 : Addr} {od14 an14 : Option Addr} {sl14 : Array (Option Value)} {oc14 dc14 pm14 cd14 ct14 : Value} {kV14 : Value}
    {f15 : Addr} {od15 an15 : Option Addr} {sl15 : Array (Option Value)} {oc15 dc15 pm15 cd15 ct15 : Value} {kV15 : Value}
    {f16 : Addr} {od16 an16 : Option Addr} {sl16 : Array (Option Value)} {oc16 dc16 pm16 cd16 ct16 : Value} {kV16 : Value}
    {f17 : Addr} {od17 an17 : Option Addr} {sl17 : Array (Option Value)} {oc17 dc17 pm17 cd17 ct17 : Value} {kV17 : Value}
    {f18 : Addr} {od18 an18 : Option Addr} {sl18 : Array (Option Value)} {oc18 dc18 pm18 cd18 ct18 : Value} {kV18 : Value}
    {f19 : Addr} {od19 an19 : Option Addr} {sl19 : Array (Option Value)} {oc19 dc19 pm19 cd19 ct19 : Value} {kV19 : Value}
    {f20 : Addr} {od20 an20 : Option Addr} {sl20 : Array (Option Value)} {oc20 dc20 pm20 cd20 ct20 : Value} {kV20 : Value}
    {f21 : Addr} {od21 an21 : Option Addr} {sl21 : Array (Option Value)} {oc21 dc21 pm21 cd21 ct21 : Value} {kV21 : Value}
    {nm1 q1 : Str} {NN1 : Addr} {bs1 : List Value} {sn1 : List Str} {sub1 : List Value} {ab1 : Bool} {col1 : Option Bool} {dd1 : Option Addr} {m01 m11 m21 m31 m51 : Option Value}
    {f22 : Addr} {od22 an22 : Option Addr} {sl22 : Array (Option Value)} {oc22 kV22 dc22 pm22 cd22 ct22 : Value}
    {nm2 q2 : Str} {NN2 : Addr} {bs2 : List Value} {sn2 : List Str} {sub2 : List Value} {ab2 : Bool} {col2 : Option Bool} {dd2 : Option Addr} {m02 m12 m22 m32 m52 : Option Value}
    {f23 : Addr} {od23 an23 : Option Addr} {sl23 : Array (Option Value)} {oc23 kV23 dc23 pm23 cd23 ct23 : Value}
    {nm3 q3 : Str} {NN3 : Addr} {bs3 : List Value} {sn3 : List Str} {sub3 : List Value} {ab3 : Bool} {col3 : Option Bool} {dd3 : Option Addr} {m03 m13 m23 m33 m53 : Option Value}
    {f24 : Addr} {od24 an24 : Option Addr} {sl24 : Array (Option Value)} {oc24 kV24 dc24 pm24 cd24 ct24 : Value}
    {tk0 : Tok}
    {tk1 : Tok}
    {tk2 : Tok}
    (gC0 : PySem.W.nsIn K mainGlobals "ReflowError" = some (some (.ref C0)))
    (gC1 : PySem.W.nsIn K mainGlobals "InvalidMark" = some (some (.ref C1)))
    (gC2 : PySem.W.nsIn K mainGlobals "InvalidText" = some (some (.ref C2)))
    (gC3 : PySem.W.nsIn K mainGlobals "InvalidInteger" = some (some (.ref C3)))
    (a0 : PySem.W.nsIn K mainGlobals "is_integer" = some (some (.ref f0)))
    (l0 : K.lookup f0 = some ⟨oc0, od0, .func (PySem.W.fnOf "is_integer" "is_integer" (defArgs s_is_integer) (defBody s_is_integer) (defScope s_is_integer) .none kV0 dc0 pm0 an0 cd0 ct0), sl0⟩)
    (c0 : PySem.W.codeIn K cd0 "is_integer" = true)
    (k0 : PySem.W.keepIn K (.ref f0) = true)
    (a1 : PySem.W.nsIn K mainGlobals "is_word" = some (some (.ref f1)))
    (l1 : K.lookup f1 = some ⟨oc1, od1, .func (PySem.W.fnOf "is_word" "is_word" (defArgs s_is_word) (defBody s_is_word) (defScope s_is_word) .none kV1 dc1 pm1 an1 cd1 ct1), sl1⟩)
    (c1 : PySem.W.codeIn K cd1 "is_word" = true)
    (k1 : PySem.W.keepIn K (.ref f1) = true)
    (a2 : PySem.W.nsIn K mainGlobals "is_mark" = some (some (.ref f2)))
    (l2 : K.lookup f2 = some ⟨oc2, od2, .func (PySem.W.fnOf "is_mark" "is_mark" (defArgs s_is_mark) (defBody s_is_mark) (defScope s_is_mark) .none kV2 dc2 pm2 an2 cd2 ct2), sl2⟩)
    (c2 : PySem.W.codeIn K cd2 "is_mark" = true)
    (k2 : PySem.W.keepIn K (.ref f2) = true)
    (a3 : PySem.W.nsIn K mainGlobals "is_token" = some (some (.ref f3)))
    (l3 : K.lookup f3 = some ⟨oc3, od3, .func (PySem.W.fnOf "is_token" "is_token" (defArgs s_is_token) (defBody s_is_token) (defScope s_is_token) .none kV3 dc3 pm3 an3 cd3 ct3), sl3⟩)
    (c3 : PySem.W.codeIn K cd3 "is_token" = true)
    (k3 : PySem.W.keepIn K (.ref f3) = true)
    (a4 : PySem.W.nsIn K mainGlobals "need_mark" = some (some (.ref f4)))
    (l4 : K.lookup f4 = some ⟨oc4, od4, .func (PySem.W.fnOf "need_mark" "need_mark" (defArgs s_need_mark) (defBody s_need_mark) (defScope s_need_mark) .none kV4 dc4 pm4 an4 cd4 ct4), sl4⟩)
    (c4 : PySem.W.codeIn K cd4 "need_mark" = true)
    (k4 : PySem.W.keepIn K (.ref f4) = true)
    (a5 : PySem.W.nsIn K mainGlobals "indent_of" = some (some (.ref f5)))
    (l5 : K.lookup f5 = some ⟨oc5, od5, .func (PySem.W.fnOf "indent_of" "indent_of" (defArgs s_indent_of) (defBody s_indent_of) (defScope s_indent_of) .none kV5 dc5 pm5 an5 cd5 ct5), sl5⟩)
    (c5 : PySem.W.codeIn K cd5 "indent_of" = true)
    (k5 : PySem.W.keepIn K (.ref f5) = true)
    (a6 : PySem.W.nsIn K mainGlobals "is_text" = some (some (.ref f6)))
    (l6 : K.lookup f6 = some ⟨oc6, od6, .func (PySem.W.fnOf "is_text" "is_text" (defArgs s_is_text) (defBody s_is_text) (defScope s_is_text) .none kV6 dc6 pm6 an6 cd6 ct6), sl6⟩)
    (c6 : PySem.W.codeIn K cd6 "is_text" = true)
    (k6 : PySem.W.keepIn K (.ref f6) = true)
    (a7 : PySem.W.nsIn K mainGlobals "need_text" = some (some (.ref f7)))
    (l7 : K.lookup f7 = some ⟨oc7, od7, .func (PySem.W.fnOf "need_text" "need_text" (defArgs s_need_text) (defBody s_need_text) (defScope s_need_text) .none kV7 dc7 pm7 an7 cd7 ct7), sl7⟩)
    (c7 : PySem.W.codeIn K cd7 "need_text" = true)
    (k7 : PySem.W.keepIn K (.ref f7) = true)
    (a8 : PySem.W.nsIn K mainGlobals "lines" = some (some (.ref f8)))
    (l8 : K.lookup f8 = some ⟨oc8, od8, .func (PySem.W.fnOf "lines" "lines" (defArgs s_lines) (defBody s_lines) (defScope s_lines) .none kV8 dc8 pm8 an8 cd8 ct8), sl8⟩)
    (c8 : PySem.W.codeIn K cd8 "lines" = true)
    (k8 : PySem.W.keepIn K (.ref f8) = true)
    (a9 : PySem.W.nsIn K mainGlobals "columns" = some (some (.ref f9)))
    (l9 : K.lookup f9 = some ⟨oc9, od9, .func (PySem.W.fnOf "columns" "columns" (defArgs s_columns) (defBody s_columns) (defScope s_columns) .none kV9 dc9 pm9 an9 cd9 ct9), sl9⟩)
    (c9 : PySem.W.codeIn K cd9 "columns" = true)
    (k9 : PySem.W.keepIn K (.ref f9) = true)
    (a10 : PySem.W.nsIn K mainGlobals "widths" = some (some (.ref f10)))
    (l10 : K.lookup f10 = some ⟨oc10, od10, .func (PySem.W.fnOf "widths" "widths" (defArgs s_widths) (defBody s_widths) (defScope s_widths) .none kV10 dc10 pm10 an10 cd10 ct10), sl10⟩)
    (c10 : PySem.W.codeIn K cd10 "widths" = true)
    (k10 : PySem.W.keepIn K (.ref f10) = true)
    (a11 : PySem.W.nsIn K mainGlobals "place_of" = some (some (.ref f11)))
    (l11 : K.lookup f11 = some ⟨oc11, od11, .func (PySem.W.fnOf "place_of" "place_of" (defArgs s_place_of) (defBody s_place_of) (defScope s_place_of) .none kV11 dc11 pm11 an11 cd11 ct11), sl11⟩)
    (c11 : PySem.W.codeIn K cd11 "place_of" = true)
    (k11 : PySem.W.keepIn K (.ref f11) = true)
    (a12 : PySem.W.nsIn K mainGlobals "_law_cell" = some (some (.ref f12)))
    (l12 : K.lookup f12 = some ⟨oc12, od12, .func (PySem.W.fnOf "_law_cell" "_law_cell" (defArgs s__law_cell) (defBody s__law_cell) (defScope s__law_cell) .none kV12 dc12 pm12 an12 cd12 ct12), sl12⟩)
    (c12 : PySem.W.codeIn K cd12 "_law_cell" = true)
    (k12 : PySem.W.keepIn K (.ref f12) = true)
    (a13 : PySem.W.nsIn K mainGlobals "_law_purse" = some (some (.ref f13)))
    (l13 : K.lookup f13 = some ⟨oc13, od13, .func (PySem.W.fnOf "_law_purse" "_law_purse" (defArgs s__law_purse) (defBody s__law_purse) (defScope s__law_purse) .none kV13 dc13 pm13 an13 cd13 ct13), sl13⟩)
    (c13 : PySem.W.codeIn K cd13 "_law_purse" = true)
    (k13 : PySem.W.keepIn K (.ref f13) = true)
    (a14 : PySem.W.nsIn K mainGlobals "_law_take" = some (some (.ref f14)))
    (l14 : K.lookup f14 = some ⟨oc14, od14, .func (PySem.W.fnOf "_law_take" "_law_take" (defArgs s__law_take) (defBody s__law_take) (defScope s__law_take) .none kV14 dc14 pm14 an14 cd14 ct14), sl14⟩)
    (c14 : PySem.W.codeIn K cd14 "_law_take" = true)
    (k14 : PySem.W.keepIn K (.ref f14) = true)
    (a15 : PySem.W.nsIn K mainGlobals "_law_mark" = some (some (.ref f15)))
    (l15 : K.lookup f15 = some ⟨oc15, od15, .func (PySem.W.fnOf "_law_mark" "_law_mark" (defArgs s__law_mark) (defBody s__law_mark) (defScope s__law_mark) .none kV15 dc15 pm15 an15 cd15 ct15), sl15⟩)
    (c15 : PySem.W.codeIn K cd15 "_law_mark" = true)
    (k15 : PySem.W.keepIn K (.ref f15) = true)
    (a16 : PySem.W.nsIn K mainGlobals "_law_word" = some (some (.ref f16)))
    (l16 : K.lookup f16 = some ⟨oc16, od16, .func (PySem.W.fnOf "_law_word" "_law_word" (defArgs s__law_word) (defBody s__law_word) (defScope s__law_word) .none kV16 dc16 pm16 an16 cd16 ct16), sl16⟩)
    (c16 : PySem.W.codeIn K cd16 "_law_word" = true)
    (k16 : PySem.W.keepIn K (.ref f16) = true)
    (a17 : PySem.W.nsIn K mainGlobals "_law_text" = some (some (.ref f17)))
    (l17 : K.lookup f17 = some ⟨oc17, od17, .func (PySem.W.fnOf "_law_text" "_law_text" (defArgs s__law_text) (defBody s__law_text) (defScope s__law_text) .none kV17 dc17 pm17 an17 cd17 ct17), sl17⟩)
    (c17 : PySem.W.codeIn K cd17 "_law_text" = true)
    (k17 : PySem.W.keepIn K (.ref f17) = true)
    (a18 : PySem.W.nsIn K mainGlobals "_law_walked" = some (some (.ref f18)))
    (l18 : K.lookup f18 = some ⟨oc18, od18, .func (PySem.W.fnOf "_law_walked" "_law_walked" (defArgs s__law_walked) (defBody s__law_walked) (defScope s__law_walked) .none kV18 dc18 pm18 an18 cd18 ct18), sl18⟩)
    (c18 : PySem.W.codeIn K cd18 "_law_walked" = true)
    (k18 : PySem.W.keepIn K (.ref f18) = true)
    (a19 : PySem.W.nsIn K mainGlobals "_law_refused" = some (some (.ref f19)))
    (l19 : K.lookup f19 = some ⟨oc19, od19, .func (PySem.W.fnOf "_law_refused" "_law_refused" (defArgs s__law_refused) (defBody s__law_refused) (defScope s__law_refused) .none kV19 dc19 pm19 an19 cd19 ct19), sl19⟩)
    (c19 : PySem.W.codeIn K cd19 "_law_refused" = true)
    (k19 : PySem.W.keepIn K (.ref f19) = true)
    (a20 : PySem.W.nsIn K mainGlobals "_law_right" = some (some (.ref f20)))
    (l20 : K.lookup f20 = some ⟨oc20, od20, .func (PySem.W.fnOf "_law_right" "_law_right" (defArgs s__law_right) (defBody s__law_right) (defScope s__law_right) .none kV20 dc20 pm20 an20 cd20 ct20), sl20⟩)
    (c20 : PySem.W.codeIn K cd20 "_law_right" = true)
    (k20 : PySem.W.keepIn K (.ref f20) = true)
    (a21 : PySem.W.nsIn K mainGlobals "law" = some (some (.ref f21)))
    (l21 : K.lookup f21 = some ⟨oc21, od21, .func (PySem.W.fnOf "law" "law" (defArgs s_law) (defBody s_law) (defScope s_law) .none kV21 dc21 pm21 an21 cd21 ct21), sl21⟩)
    (c21 : PySem.W.codeIn K cd21 "law" = true)
    (k21 : PySem.W.keepIn K (.ref f21) = true)
    (bg0 : PySem.W.specialIn K (.ref C0) "__getattribute__" = some (some (.builtin "type.__getattribute__")))
    (br0 : PySem.W.readsIn K C0 (.type "type") = true)
    (bf0 : PySem.W.findCls K (.ref C0) (.type "type") "__init__" = some (.val (.builtin "ValueError.__init__")))
    (xL1 : K.lookup C1 = some (excClassObj nm1 q1 C1 NN1 bs1 [.ref C0, .type "ValueError", .type "Exception", .type "BaseException", .type "object"] true sn1 sub1 ab1 col1 dd1 m01 m11 m21 m31 m51 "ValueError.__new__"))
    (sa1 : PySem.W.findIn K (.ref C1) "__setattr__" = some (some (.builtin "object.__setattr__")))
    (ga1 : PySem.W.findIn K (.ref C1) "__getattribute__" = some (some (.builtin "BaseException.__getattribute__")))
    (gg1 : PySem.W.findIn K (.ref C1) "__getattr__" = some none)
    (nb1 : PySem.W.findIn K (.ref C1) "value" = some none)
    (ai1 : PySem.W.findIn K (.ref C1) "__init__" = some (some (.ref f22)))
    (ti1 : PySem.W.typeIn K (.ref f22) = some (.type "function"))
    (l22 : K.lookup f22 = some ⟨oc22, od22, .func (PySem.W.fnOf "__init__" "InvalidMark.__init__" (defArgs sI_InvalidMark) (defBody sI_InvalidMark) (defScope sI_InvalidMark) .none kV22 dc22 pm22 an22 cd22 ct22), sl22⟩)
    (c22 : PySem.W.codeIn K cd22 "InvalidMark.__init__" = true)
    (k22 : PySem.W.keepIn K (.ref f22) = true)
    (kC1 : PySem.W.keepIn K (.ref C1) = true)
    (eC1 : PySem.W.subIn K (.ref C1) (.type "BaseException") = some true)
    (tC1 : PySem.W.typeIn K (.ref C1) = some (.type "type"))
    (hC1 : PySem.W.hasDictIn K C1 = true)
    (iC1 : PySem.W.isClsIn K C1 = true)
    (xL2 : K.lookup C2 = some (excClassObj nm2 q2 C2 NN2 bs2 [.ref C0, .type "ValueError", .type "Exception", .type "BaseException", .type "object"] true sn2 sub2 ab2 col2 dd2 m02 m12 m22 m32 m52 "ValueError.__new__"))
    (sa2 : PySem.W.findIn K (.ref C2) "__setattr__" = some (some (.builtin "object.__setattr__")))
    (ga2 : PySem.W.findIn K (.ref C2) "__getattribute__" = some (some (.builtin "BaseException.__getattribute__")))
    (gg2 : PySem.W.findIn K (.ref C2) "__getattr__" = some none)
    (nb2 : PySem.W.findIn K (.ref C2) "value" = some none)
    (ai2 : PySem.W.findIn K (.ref C2) "__init__" = some (some (.ref f23)))
    (ti2 : PySem.W.typeIn K (.ref f23) = some (.type "function"))
    (l23 : K.lookup f23 = some ⟨oc23, od23, .func (PySem.W.fnOf "__init__" "InvalidText.__init__" (defArgs sI_InvalidText) (defBody sI_InvalidText) (defScope sI_InvalidText) .none kV23 dc23 pm23 an23 cd23 ct23), sl23⟩)
    (c23 : PySem.W.codeIn K cd23 "InvalidText.__init__" = true)
    (k23 : PySem.W.keepIn K (.ref f23) = true)
    (kC2 : PySem.W.keepIn K (.ref C2) = true)
    (eC2 : PySem.W.subIn K (.ref C2) (.type "BaseException") = some true)
    (tC2 : PySem.W.typeIn K (.ref C2) = some (.type "type"))
    (hC2 : PySem.W.hasDictIn K C2 = true)
    (iC2 : PySem.W.isClsIn K C2 = true)
    (xL3 : K.lookup C3 = some (excClassObj nm3 q3 C3 NN3 bs3 [.ref C0, .type "ValueError", .type "Exception", .type "BaseException", .type "object"] true sn3 sub3 ab3 col3 dd3 m03 m13 m23 m33 m53 "ValueError.__new__"))
    (sa3 : PySem.W.findIn K (.ref C3) "__setattr__" = some (some (.builtin "object.__setattr__")))
    (ga3 : PySem.W.findIn K (.ref C3) "__getattribute__" = some (some (.builtin "BaseException.__getattribute__")))
    (gg3 : PySem.W.findIn K (.ref C3) "__getattr__" = some none)
    (nb3 : PySem.W.findIn K (.ref C3) "value" = some none)
    (ai3 : PySem.W.findIn K (.ref C3) "__init__" = some (some (.ref f24)))
    (ti3 : PySem.W.typeIn K (.ref f24) = some (.type "function"))
    (l24 : K.lookup f24 = some ⟨oc24, od24, .func (PySem.W.fnOf "__init__" "InvalidInteger.__init__" (defArgs sI_InvalidInteger) (defBody sI_InvalidInteger) (defScope sI_InvalidInteger) .none kV24 dc24 pm24 an24 cd24 ct24), sl24⟩)
    (c24 : PySem.W.codeIn K cd24 "InvalidInteger.__init__" = true)
    (k24 : PySem.W.keepIn K (.ref f24) = true)
    (kC3 : PySem.W.keepIn K (.ref C3) = true)
    (eC3 : PySem.W.subIn K (.ref C3) (.type "BaseException") = some true)
    (tC3 : PySem.W.typeIn K (.ref C3) = some (.type "type"))
    (hC3 : PySem.W.hasDictIn K C3 = true)
    (iC3 : PySem.W.isClsIn K C3 = true)
    (ns2 : PySem.W.subIn K (.ref C2) (.type "StopIteration") = some false)
    (s3_3 : PySem.W.subIn K (.ref C3) (.ref C3) = some true)
    (s3_2 : PySem.W.subIn K (.ref C3) (.ref C2) = some false)
    (s1_3 : PySem.W.subIn K (.ref C1) (.ref C3) = some false)
    (s1_2 : PySem.W.subIn K (.ref C1) (.ref C2) = some false)
    (s2_3 : PySem.W.subIn K (.ref C2) (.ref C3) = some false)
    (s2_2 : PySem.W.subIn K (.ref C2) (.ref C2) = some true)
    (z0 : PySem.W.nsIn K mainGlobals "all" = some none)
    (z1 : PySem.W.nsIn K mainGlobals "bool" = some none)
    (z2 : PySem.W.nsIn K mainGlobals "enumerate" = some none)
    (z3 : PySem.W.nsIn K mainGlobals "int" = some none)
    (z4 : PySem.W.nsIn K mainGlobals "isinstance" = some none)
    (z5 : PySem.W.nsIn K mainGlobals "len" = some none)
    (z6 : PySem.W.nsIn K mainGlobals "list" = some none)
    (z7 : PySem.W.nsIn K mainGlobals "max" = some none)
    (z8 : PySem.W.nsIn K mainGlobals "min" = some none)
    (z9 : PySem.W.nsIn K mainGlobals "range" = some none)
    (z10 : PySem.W.nsIn K mainGlobals "repr" = some none)
    (z11 : PySem.W.nsIn K mainGlobals "str" = some none)
    (z12 : PySem.W.nsIn K mainGlobals "tuple" = some none)
    (q_0 : PySem.W.nsIn K mainGlobals "KINDS" = some (some (.str "#|/" tk0)))
    (q_1 : PySem.W.nsIn K mainGlobals "LETTERS" = some (some (.str "abcdefghijklmnopqrstuvwxyz" tk1)))
    (q_2 : PySem.W.nsIn K mainGlobals "MOST_LETTERS" = some (some (.int (30) tk2)))
    : ∃ (ca : Nat → Addr) (fd : FuncData), (∀ (s : Shared) (v : Value), BindsTo s fd ⟨[v], []⟩ [("_law_script", v)]) ∧ ∀ base : Heap, K.In base → base.Ns mainGlobals mg → U.FnG l.prog w K mg base CX0 9 fa fd ["_law_script"] (sp_law K ca) := by
  have e := hfa.symm.trans (PySem.W.mg_of X G a21)
  cases e
  have F0 := fun_mk (st := s_is_integer) l0 c0 k0
  have b0 := F0.binds (ps := P_is_integer) fun _ _ _ _ _ _ us hl => match us, hl with | [_, _, _], _ => rfl
  have F1 := fun_mk (st := s_is_word) l1 c1 k1
  have b1 := F1.binds (ps := P_is_word) fun _ _ _ _ _ _ us hl => match us, hl with | [_], _ => rfl
  have F2 := fun_mk (st := s_is_mark) l2 c2 k2
  have b2 := F2.binds (ps := P_is_mark) fun _ _ _ _ _ _ us hl => match us, hl with | [_], _ => rfl
  have F3 := fun_mk (st := s_is_token) l3 c3 k3
  have b3 := F3.binds (ps := P_is_token) fun _ _ _ _ _ _ us hl => match us, hl with | [_], _ => rfl
  have F4 := fun_mk (st := s_need_mark) l4 c4 k4
  have b4 := F4.binds (ps := P_need_mark) fun _ _ _ _ _ _ us hl => match us, hl with | [_], _ => rfl
  have F5 := fun_mk (st := s_indent_of) l5 c5 k5
  have b5 := F5.binds (ps := P_indent_of) fun _ _ _ _ _ _ us hl => match us, hl with | [_], _ => rfl
  have F6 := fun_mk (st := s_is_text) l6 c6 k6
  have b6 := F6.binds (ps := P_is_text) fun _ _ _ _ _ _ us hl => match us, hl with | [_], _ => rfl
  have F7 := fun_mk (st := s_need_text) l7 c7 k7
  have b7 := F7.binds (ps := P_need_text) fun _ _ _ _ _ _ us hl => match us, hl with | [_], _ => rfl
  have F8 := fun_mk (st := s_lines) l8 c8 k8
  have b8 := F8.binds (ps := P_lines) fun _ _ _ _ _ _ us hl => match us, hl with | [_], _ => rfl
  have F9 := fun_mk (st := s_columns) l9 c9 k9
  have b9 := F9.binds (ps := P_columns) fun _ _ _ _ _ _ us hl => match us, hl with | [_], _ => rfl
  have F10 := fun_mk (st := s_widths) l10 c10 k10
  have b10 := F10.binds (ps := P_widths) fun _ _ _ _ _ _ us hl => match us, hl with | [_], _ => rfl
  have F11 := fun_mk (st := s_place_of) l11 c11 k11
  have b11 := F11.binds (ps := P_place_of) fun _ _ _ _ _ _ us hl => match us, hl with | [_, _], _ => rfl
  have F12 := fun_mk (st := s__law_cell) l12 c12 k12
  have b12 := F12.binds (ps := P__law_cell) fun _ _ _ _ _ _ us hl => match us, hl with | [_, _], _ => rfl
  have F13 := fun_mk (st := s__law_purse) l13 c13 k13
  have b13 := F13.binds (ps := P__law_purse) fun _ _ _ _ _ _ us hl => match us, hl with | [_], _ => rfl
  have F14 := fun_mk (st := s__law_take) l14 c14 k14
  have b14 := F14.binds (ps := P__law_take) fun _ _ _ _ _ _ us hl => match us, hl with | [_, _], _ => rfl
  have F15 := fun_mk (st := s__law_mark) l15 c15 k15
  have b15 := F15.binds (ps := P__law_mark) fun _ _ _ _ _ _ us hl => match us, hl with | [_], _ => rfl
  have F16 := fun_mk (st := s__law_word) l16 c16 k16
  have b16 := F16.binds (ps := P__law_word) fun _ _ _ _ _ _ us hl => match us, hl with | [_, _], _ => rfl
  have F17 := fun_mk (st := s__law_text) l17 c17 k17
  have b17 := F17.binds (ps := P__law_text) fun _ _ _ _ _ _ us hl => match us, hl with | [_, _, _], _ => rfl
  have F18 := fun_mk (st := s__law_walked) l18 c18 k18
  have b18 := F18.binds (ps := P__law_walked) fun _ _ _ _ _ _ us hl => match us, hl with | [_], _ => rfl
  have F19 := fun_mk (st := s__law_refused) l19 c19 k19
  have b19 := F19.binds (ps := P__law_refused) fun _ _ _ _ _ _ us hl => match us, hl with | [_, _, _], _ => rfl
  have F20 := fun_mk (st := s__law_right) l20 c20 k20
  have b20 := F20.binds (ps := P__law_right) fun _ _ _ _ _ _ us hl => match us, hl with | [_], _ => rfl
  have F21 := fun_mk (st := s_law) l21 c21 k21
  have b21 := F21.binds (ps := P_law) fun _ _ _ _ _ _ us hl => match us, hl with | [_], _ => rfl
  have F22 := fun_mk (st := sI_InvalidMark) l22 c22 k22
  have b22 := F22.binds (ps := ["self", "value"]) fun _ _ _ _ _ _ us hl => match us, hl with | [_, _], _ => rfl
  have F23 := fun_mk (st := sI_InvalidText) l23 c23 k23
  have b23 := F23.binds (ps := ["self", "value"]) fun _ _ _ _ _ _ us hl => match us, hl with | [_, _], _ => rfl
  have F24 := fun_mk (st := sI_InvalidInteger) l24 c24 k24
  have b24 := F24.binds (ps := ["self", "value"]) fun _ _ _ _ _ _ us hl => match us, hl with | [_, _], _ => rfl
  have T : Tx l.prog K mg (fun i => ([f0, f1, f2, f3, f4, f5, f6, f7, f8, f9, f10, f11, f12, f13, f14, f15, f16, f17, f18, f19, f20, fa, f22, f23, f24] : List Addr).getD i 0) (fun i => ([PySem.W.fnOf "is_integer" "is_integer" (defArgs s_is_integer) (defBody s_is_integer) (defScope s_is_integer) .none kV0 dc0 pm0 an0 cd0 ct0, PySem.W.fnOf "is_word" "is_word" (defArgs s_is_word) (defBody s_is_word) (defScope s_is_word) .none kV1 dc1 pm1 an1 cd1 ct1, PySem.W.fnOf "is_mark" "is_mark" (defArgs s_is_mark) (defBody s_is_mark) (defScope s_is_mark) .none kV2 dc2 pm2 an2 cd2 ct2, PySem.W.fnOf "is_token" "is_token" (defArgs s_is_token) (defBody s_is_token) (defScope s_is_token) .none kV3 dc3 pm3 an3 cd3 ct3, PySem.W.fnOf "need_mark" "need_mark" (defArgs s_need_mark) (defBody s_need_mark) (defScope s_need_mark) .none kV4 dc4 pm4 an4 cd4 ct4, PySem.W.fnOf "indent_of" "indent_of" (defArgs s_indent_of) (defBody s_indent_of) (defScope s_indent_of) .none kV5 dc5 pm5 an5 cd5 ct5, PySem.W.fnOf "is_text" "is_text" (defArgs s_is_text) (defBody s_is_text) (defScope s_is_text) .none kV6 dc6 pm6 an6 cd6 ct6, PySem.W.fnOf "need_text" "need_text" (defArgs s_need_text) (defBody s_need_text) (defScope s_need_text) .none kV7 dc7 pm7 an7 cd7 ct7, PySem.W.fnOf "lines" "lines" (defArgs s_lines) (defBody s_lines) (defScope s_lines) .none kV8 dc8 pm8 an8 cd8 ct8, PySem.W.fnOf "columns" "columns" (defArgs s_columns) (defBody s_columns) (defScope s_columns) .none kV9 dc9 pm9 an9 cd9 ct9, PySem.W.fnOf "widths" "widths" (defArgs s_widths) (defBody s_widths) (defScope s_widths) .none kV10 dc10 pm10 an10 cd10 ct10, PySem.W.fnOf "place_of" "place_of" (defArgs s_place_of) (defBody s_place_of) (defScope s_place_of) .none kV11 dc11 pm11 an11 cd11 ct11, PySem.W.fnOf "_law_cell" "_law_cell" (defArgs s__law_cell) (defBody s__law_cell) (defScope s__law_cell) .none kV12 dc12 pm12 an12 cd12 ct12, PySem.W.fnOf "_law_purse" "_law_purse" (defArgs s__law_purse) (defBody s__law_purse) (defScope s__law_purse) .none kV13 dc13 pm13 an13 cd13 ct13, PySem.W.fnOf "_law_take" "_law_take" (defArgs s__law_take) (defBody s__law_take) (defScope s__law_take) .none kV14 dc14 pm14 an14 cd14 ct14, PySem.W.fnOf "_law_mark" "_law_mark" (defArgs s__law_mark) (defBody s__law_mark) (defScope s__law_mark) .none kV15 dc15 pm15 an15 cd15 ct15, PySem.W.fnOf "_law_word" "_law_word" (defArgs s__law_word) (defBody s__law_word) (defScope s__law_word) .none kV16 dc16 pm16 an16 cd16 ct16, PySem.W.fnOf "_law_text" "_law_text" (defArgs s__law_text) (defBody s__law_text) (defScope s__law_text) .none kV17 dc17 pm17 an17 cd17 ct17, PySem.W.fnOf "_law_walked" "_law_walked" (defArgs s__law_walked) (defBody s__law_walked) (defScope s__law_walked) .none kV18 dc18 pm18 an18 cd18 ct18, PySem.W.fnOf "_law_refused" "_law_refused" (defArgs s__law_refused) (defBody s__law_refused) (defScope s__law_refused) .none kV19 dc19 pm19 an19 cd19 ct19, PySem.W.fnOf "_law_right" "_law_right" (defArgs s__law_right) (defBody s__law_right) (defScope s__law_right) .none kV20 dc20 pm20 an20 cd20 ct20, PySem.W.fnOf "law" "law" (defArgs s_law) (defBody s_law) (defScope s_law) .none kV21 dc21 pm21 an21 cd21 ct21, PySem.W.fnOf "__init__" "InvalidMark.__init__" (defArgs sI_InvalidMark) (defBody sI_InvalidMark) (defScope sI_InvalidMark) .none kV22 dc22 pm22 an22 cd22 ct22, PySem.W.fnOf "__init__" "InvalidText.__init__" (defArgs sI_InvalidText) (defBody sI_InvalidText) (defScope sI_InvalidText) .none kV23 dc23 pm23 an23 cd23 ct23, PySem.W.fnOf "__init__" "InvalidInteger.__init__" (defArgs sI_InvalidInteger) (defBody sI_InvalidInteger) (defScope sI_InvalidInteger) .none kV24 dc24 pm24 an24 cd24 ct24] : List FuncData).getD i (PySem.W.fnOf "law" "law" (defArgs s_law) (defBody s_law) (defScope s_law) .none kV21 dc21 pm21 an21 cd21 ct21)) (fun i => ([C0, C1, C2, C3] : List Addr).getD i 0) := {
    ct := { yes := trivial, x_InvalidMark := ⟨ga1, gg1, eC1, hC1⟩, n_InvalidMark := nb1, x_InvalidText := ⟨ga2, gg2, eC2, hC2⟩, n_InvalidText := nb2, x_InvalidInteger := ⟨ga3, gg3, eC3, hC3⟩, n_InvalidInteger := nb3, e_InvalidInteger_InvalidInteger := U.exm_of eC3 iC3 tC3 s3_3, e_InvalidInteger_InvalidText := U.exm_of eC2 iC2 tC2 s3_2, e_InvalidMark_InvalidInteger := U.exm_of eC3 iC3 tC3 s1_3, e_InvalidMark_InvalidText := U.exm_of eC2 iC2 tC2 s1_2, e_InvalidText_InvalidInteger := U.exm_of eC3 iC3 tC3 s2_3, e_InvalidText_InvalidText := U.exm_of eC2 iC2 tC2 s2_2, ns_InvalidText := ns2 },
    f_is_integer := F0, b_is_integer := b0, m_is_integer := PySem.W.mg_of X G a0,
    f_is_word := F1, b_is_word := b1, m_is_word := PySem.W.mg_of X G a1,
    f_is_mark := F2, b_is_mark := b2, m_is_mark := PySem.W.mg_of X G a2,
    f_is_token := F3, b_is_token := b3, m_is_token := PySem.W.mg_of X G a3,
    f_need_mark := F4, b_need_mark := b4, m_need_mark := PySem.W.mg_of X G a4,
    f_indent_of := F5, b_indent_of := b5, m_indent_of := PySem.W.mg_of X G a5,
    f_is_text := F6, b_is_text := b6, m_is_text := PySem.W.mg_of X G a6,
    f_need_text := F7, b_need_text := b7, m_need_text := PySem.W.mg_of X G a7,
    f_lines := F8, b_lines := b8, m_lines := PySem.W.mg_of X G a8,
    f_columns := F9, b_columns := b9, m_columns := PySem.W.mg_of X G a9,
    f_widths := F10, b_widths := b10, m_widths := PySem.W.mg_of X G a10,
    f_place_of := F11, b_place_of := b11, m_place_of := PySem.W.mg_of X G a11,
    f__law_cell := F12, b__law_cell := b12, m__law_cell := PySem.W.mg_of X G a12,
    f__law_purse := F13, b__law_purse := b13, m__law_purse := PySem.W.mg_of X G a13,
    f__law_take := F14, b__law_take := b14, m__law_take := PySem.W.mg_of X G a14,
    f__law_mark := F15, b__law_mark := b15, m__law_mark := PySem.W.mg_of X G a15,
    f__law_word := F16, b__law_word := b16, m__law_word := PySem.W.mg_of X G a16,
    f__law_text := F17, b__law_text := b17, m__law_text := PySem.W.mg_of X G a17,
    f__law_walked := F18, b__law_walked := b18, m__law_walked := PySem.W.mg_of X G a18,
    f__law_refused := F19, b__law_refused := b19, m__law_refused := PySem.W.mg_of X G a19,
    f__law_right := F20, b__law_right := b20, m__law_right := PySem.W.mg_of X G a20,
    f_law := F21, b_law := b21, m_law := PySem.W.mg_of X G a21,
    x_InvalidMark := ⟨PySem.W.mg_of X G gC1, ⟨⟨_, _, _, _, _, _, _, _, _, _, _, _, _, _, _, xL1, rfl⟩, sa1, eC1, tC1, kC1⟩, ai1, ti1, nb1, ⟨ga1, gg1, eC1, hC1⟩, iC1⟩,
    F_InvalidMark := F22, i_InvalidMark := b22, m_InvalidMark := PySem.W.mg_of X G gC1,
    x_InvalidText := ⟨PySem.W.mg_of X G gC2, ⟨⟨_, _, _, _, _, _, _, _, _, _, _, _, _, _, _, xL2, rfl⟩, sa2, eC2, tC2, kC2⟩, ai2, ti2, nb2, ⟨ga2, gg2, eC2, hC2⟩, iC2⟩,
    F_InvalidText := F23, i_InvalidText := b23, m_InvalidText := PySem.W.mg_of X G gC2,
    x_InvalidInteger := ⟨PySem.W.mg_of X G gC3, ⟨⟨_, _, _, _, _, _, _, _, _, _, _, _, _, _, _, xL3, rfl⟩, sa3, eC3, tC3, kC3⟩, ai3, ti3, nb3, ⟨ga3, gg3, eC3, hC3⟩, iC3⟩,
    F_InvalidInteger := F24, i_InvalidInteger := b24, m_InvalidInteger := PySem.W.mg_of X G gC3,
    y_ReflowError := ⟨bg0, _, br0, bf0⟩, w_ReflowError := PySem.W.mg_of X G gC0,
    z_all := PySem.W.mg_none_of X G z0,
    z_bool := PySem.W.mg_none_of X G z1,
    z_enumerate := PySem.W.mg_none_of X G z2,
    z_int := PySem.W.mg_none_of X G z3,
    z_isinstance := PySem.W.mg_none_of X G z4,
    z_len := PySem.W.mg_none_of X G z5,
    z_list := PySem.W.mg_none_of X G z6,
    z_max := PySem.W.mg_none_of X G z7,
    z_min := PySem.W.mg_none_of X G z8,
    z_range := PySem.W.mg_none_of X G z9,
    z_repr := PySem.W.mg_none_of X G z10,
    z_str := PySem.W.mg_none_of X G z11,
    z_tuple := PySem.W.mg_none_of X G z12,
    c_KINDS := ⟨_, PySem.W.mg_of X G q_0⟩,
    c_LETTERS := ⟨_, PySem.W.mg_of X G q_1⟩,
    c_MOST_LETTERS := ⟨_, PySem.W.mg_of X G q_2⟩ }
  exact ⟨_, _, fun s v => .of_eq rfl, fun base _ _ => ok_law T⟩
theorem walk {l : PySem.W.OpenLaw} {q : Program} {loose : List Str} {XP : (Str → Option Value) → Heap → Prop} {YP : World → Heap → Prop} {d : DefRec} {K : Params → PySem.W.Frag} (hn : l.most = some 63) (hdf : d.params.defaults = [])
    (hY : ∀ (w : World) (h : Heap), YP w h → (K w.params).In h)
    (F : ∀ (w : World) (mg : Str → Option Value) (fa : Addr) (h : Heap), (K w.params).In h → h.Ns mainGlobals mg → mg d.name = some (.ref fa) →
      ∃ (ca : Nat → Addr) (fd : FuncData), (∀ (s : Shared) (u : Value), BindsTo s fd ⟨[u], []⟩ [("_law_script", u)]) ∧ ∀ base : Heap, (K w.params).In base → base.Ns mainGlobals mg → U.FnG l.prog w (K w.params) mg base CX0 9 fa fd ["_law_script"] (sp_law (K w.params) ca)) :
    PySem.W.WalkO q loose XP YP l.row.toRowW d [] (fun f vs => PySem.call f vs) :=
  U.walk_ofG (n := 63) (k := 9) (x := "_law_script") (sp := fun w ca => sp_law (K w.params) ca) hn (by decide) hdf ⟨rfl, by decide, by decide⟩ hY F (fun _ _ _ a ns hl hO hS => law_sp hO hS (law_true ns hl))
end Lw
open Lean in
local macro_rules | `(tactic| kernel_rfl) => do
  if (← Macro.resolveGlobalName `seenIt).isEmpty then `(tactic| first | (refine Lw.joinH ?_ ?_ ?_; exact Lw.hdA _ _; exact Lw.hdB _ _; exact Lw.hdC _ _) | (open Lw.Mark in kernel_rfl)) else Macro.throwUnsupported
open PySem PySem.W PyProof.Rows
set_option maxRecDepth 100000 in
set_option maxHeartbeats 0 in
theorem PySem.Challenge.cw_reflows_k12_lines_and_widths_holds : PySem.Challenge.rw_reflows_k12_lines_and_widths.Holds := by
  w_on; o_law; k_headL; (case hw => w_witness2)
  k_fill
  refine Lw.walk (l := PySem.Challenge.rw_reflows_k12_lines_and_widths) rfl rfl (fun w h Y => PySem.W.kIn_of Y) ?F
  case F =>
    intro w mg fa h KX G hmg
    refine' Lw.all_mk KX G hmg ?gC0 ?gC1 ?gC2 ?gC3 ?a0 ?l0 ?c0 ?k0 ?a1 ?l1 ?c1 ?k1 ?a2 ?l2 ?c2 ?k2 ?a3 ?l3 ?c3 ?k3 ?a4 ?l4 ?c4 ?k4 ?a5 ?l5 ?c5 ?k5 ?a6 ?l6 ?c6 ?k6 ?a7 ?l7 ?c7 ?k7 ?a8 ?l8 ?c8 ?k8 ?a9 ?l9 ?c9 ?k9 ?a10 ?l10 ?c10 ?k10 ?a11 ?l11 ?c11 ?k11 ?a12 ?l12 ?c12 ?k12 ?a13 ?l13 ?c13 ?k13 ?a14 ?l14 ?c14 ?k14 ?a15 ?l15 ?c15 ?k15 ?a16 ?l16 ?c16 ?k16 ?a17 ?l17 ?c17 ?k17 ?a18 ?l18 ?c18 ?k18 ?a19 ?l19 ?c19 ?k19 ?a20 ?l20 ?c20 ?k20 ?a21 ?l21 ?c21 ?k21 ?bg0 ?br0 ?bf0 ?xL1 ?sa1 ?ga1 ?gg1 ?nb1 ?ai1 ?ti1 ?l22 ?c22 ?k22 ?kC1 ?eC1 ?tC1 ?hC1 ?iC1 ?xL2 ?sa2 ?ga2 ?gg2 ?nb2 ?ai2 ?ti2 ?l23 ?c23 ?k23 ?kC2 ?eC2 ?tC2 ?hC2 ?iC2 ?xL3 ?sa3 ?ga3 ?gg3 ?nb3 ?ai3 ?ti3 ?l24 ?c24 ?k24 ?kC3 ?eC3 ?tC3 ?hC3 ?iC3 ?ns2 ?s3_3 ?s3_2 ?s1_3 ?s1_2 ?s2_3 ?s2_2 ?z0 ?z1 ?z2 ?z3 ?z4 ?z5 ?z6 ?z7 ?z8 ?z9 ?z10 ?z11 ?z12 ?q_0 ?q_1 ?q_2
    (case gC0 => first | k_is | rfl)
    (case gC1 => first | k_is | rfl)
    (case gC2 => first | k_is | rfl)
    (case gC3 => first | k_is | rfl)
    (case a0 => first | k_is | rfl)
    (case l0 => first | k_is | rfl)
    (case c0 => first | k_is | rfl)
    (case k0 => first | k_is | rfl)
    (case a1 => first | k_is | rfl)
    (case l1 => first | k_is | rfl)
    (case c1 => first | k_is | rfl)
    (case k1 => first | k_is | rfl)
    (case a2 => first | k_is | rfl)
    (case l2 => first | k_is | rfl)
    (case c2 => first | k_is | rfl)
    (case k2 => first | k_is | rfl)
    (case a3 => first | k_is | rfl)
    (case l3 => first | k_is | rfl)
    (case c3 => first | k_is | rfl)
    (case k3 => first | k_is | rfl)
    (case a4 => first | k_is | rfl)
    (case l4 => first | k_is | rfl)
    (case c4 => first | k_is | rfl)
    (case k4 => first | k_is | rfl)
    (case a5 => first | k_is | rfl)
    (case l5 => first | k_is | rfl)
    (case c5 => first | k_is | rfl)
    (case k5 => first | k_is | rfl)
    (case a6 => first | k_is | rfl)
    (case l6 => first | k_is | rfl)
    (case c6 => first | k_is | rfl)
    (case k6 => first | k_is | rfl)
    (case a7 => first | k_is | rfl)
    (case l7 => first | k_is | rfl)
    (case c7 => first | k_is | rfl)
    (case k7 => first | k_is | rfl)
    (case a8 => first | k_is | rfl)
    (case l8 => first | k_is | rfl)
    (case c8 => first | k_is | rfl)
    (case k8 => first | k_is | rfl)
    (case a9 => first | k_is | rfl)
    (case l9 => first | k_is | rfl)
    (case c9 => first | k_is | rfl)
    (case k9 => first | k_is | rfl)
    (case a10 => first | k_is | rfl)
    (case l10 => first | k_is | rfl)
    (case c10 => first | k_is | rfl)
    (case k10 => first | k_is | rfl)
    (case a11 => first | k_is | rfl)
    (case l11 => first | k_is | rfl)
    (case c11 => first | k_is | rfl)
    (case k11 => first | k_is | rfl)
    (case a12 => first | k_is | rfl)
    (case l12 => first | k_is | rfl)
    (case c12 => first | k_is | rfl)
    (case k12 => first | k_is | rfl)
    (case a13 => first | k_is | rfl)
    (case l13 => first | k_is | rfl)
    (case c13 => first | k_is | rfl)
    (case k13 => first | k_is | rfl)
    (case a14 => first | k_is | rfl)
    (case l14 => first | k_is | rfl)
    (case c14 => first | k_is | rfl)
    (case k14 => first | k_is | rfl)
    (case a15 => first | k_is | rfl)
    (case l15 => first | k_is | rfl)
    (case c15 => first | k_is | rfl)
    (case k15 => first | k_is | rfl)
    (case a16 => first | k_is | rfl)
    (case l16 => first | k_is | rfl)
    (case c16 => first | k_is | rfl)
    (case k16 => first | k_is | rfl)
    (case a17 => first | k_is | rfl)
    (case l17 => first | k_is | rfl)
    (case c17 => first | k_is | rfl)
    (case k17 => first | k_is | rfl)
    (case a18 => first | k_is | rfl)
    (case l18 => first | k_is | rfl)
    (case c18 => first | k_is | rfl)
    (case k18 => first | k_is | rfl)
    (case a19 => first | k_is | rfl)
    (case l19 => first | k_is | rfl)
    (case c19 => first | k_is | rfl)
    (case k19 => first | k_is | rfl)
    (case a20 => first | k_is | rfl)
    (case l20 => first | k_is | rfl)
    (case c20 => first | k_is | rfl)
    (case k20 => first | k_is | rfl)
    (case a21 => first | k_is | rfl)
    (case l21 => first | k_is | rfl)
    (case c21 => first | k_is | rfl)
    (case k21 => first | k_is | rfl)
    (case bg0 => first | k_is | rfl)
    (case br0 => first | k_is | rfl)
    (case bf0 => first | k_is | rfl)
    (case xL1 => first | k_is | rfl)
    (case sa1 => first | k_is | rfl)
    (case ga1 => first | k_is | rfl)
    (case gg1 => first | k_is | rfl)
    (case nb1 => first | k_is | rfl)
    (case ai1 => first | k_is | rfl)
    (case ti1 => first | k_is | rfl)
    (case l22 => first | k_is | rfl)
    (case c22 => first | k_is | rfl)
    (case k22 => first | k_is | rfl)
    (case kC1 => first | k_is | rfl)
    (case eC1 => first | k_is | rfl)
    (case tC1 => first | k_is | rfl)
    (case hC1 => first | k_is | rfl)
    (case iC1 => first | k_is | rfl)
    (case xL2 => first | k_is | rfl)
    (case sa2 => first | k_is | rfl)
    (case ga2 => first | k_is | rfl)
    (case gg2 => first | k_is | rfl)
    (case nb2 => first | k_is | rfl)
    (case ai2 => first | k_is | rfl)
    (case ti2 => first | k_is | rfl)
    (case l23 => first | k_is | rfl)
    (case c23 => first | k_is | rfl)
    (case k23 => first | k_is | rfl)
    (case kC2 => first | k_is | rfl)
    (case eC2 => first | k_is | rfl)
    (case tC2 => first | k_is | rfl)
    (case hC2 => first | k_is | rfl)
    (case iC2 => first | k_is | rfl)
    (case xL3 => first | k_is | rfl)
    (case sa3 => first | k_is | rfl)
    (case ga3 => first | k_is | rfl)
    (case gg3 => first | k_is | rfl)
    (case nb3 => first | k_is | rfl)
    (case ai3 => first | k_is | rfl)
    (case ti3 => first | k_is | rfl)
    (case l24 => first | k_is | rfl)
    (case c24 => first | k_is | rfl)
    (case k24 => first | k_is | rfl)
    (case kC3 => first | k_is | rfl)
    (case eC3 => first | k_is | rfl)
    (case tC3 => first | k_is | rfl)
    (case hC3 => first | k_is | rfl)
    (case iC3 => first | k_is | rfl)
    (case ns2 => first | k_is | rfl)
    (case s3_3 => first | k_is | rfl)
    (case s3_2 => first | k_is | rfl)
    (case s1_3 => first | k_is | rfl)
    (case s1_2 => first | k_is | rfl)
    (case s2_3 => first | k_is | rfl)
    (case s2_2 => first | k_is | rfl)
    (case z0 => first | k_is | rfl)
    (case z1 => first | k_is | rfl)
    (case z2 => first | k_is | rfl)
    (case z3 => first | k_is | rfl)
    (case z4 => first | k_is | rfl)
    (case z5 => first | k_is | rfl)
    (case z6 => first | k_is | rfl)
    (case z7 => first | k_is | rfl)
    (case z8 => first | k_is | rfl)
    (case z9 => first | k_is | rfl)
    (case z10 => first | k_is | rfl)
    (case z11 => first | k_is | rfl)
    (case z12 => first | k_is | rfl)
    (case q_0 => first | k_is | rfl)
    (case q_1 => first | k_is | rfl)
    (case q_2 => first | k_is | rfl)
