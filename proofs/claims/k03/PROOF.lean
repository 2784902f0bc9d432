import PyProof.Rows.All
import Wide.All
import OpenK.AllK
import Wide.FinOn
import HandS.ForMost
import HandS.IsInst
import HandS.Walk
import HandS.Flow
import HandS.Zip
import PyProof.NeKinds
import HandS.Exc
import HandS.ExcOwn
import HandS.ExcInit
import HandS.ExcField
import HandS.WordsExc
import HandS.Defaults
import HandS.MakeKwOnly
import HandS.DeepEq
import HandS.Replace
import HandS.RaiseMore
import HandS.Text
import PyProof.ReprRoads
import PyProof.ReprLen
import HandS.Codes
import KE.IntTextLaws
import PyProof.ReprDict
import PyProof.StrBlock2
import HandS.NoneIn
import KE.GoesMore
import KE.GoesEnum
import HandS.GenList
import HandS.Deep
import HandS.Style
import HandS.Property
import HandS.ClsMeth
import HandS.Star
import HandS.FStr
import HandS.OwnEq
import HandS.Conv
import HandS.CallSlots
import KE.KCallOwn
import KE.KOpsOwn
import PyProof.ExcBaseAll.LookupError
import HandS.NestedK
import KE.KSuper
import HandS.TupAny
import HandS.TupMul
import KE.DataFind
import KE.KFmtOwn
import KE.KExcInit
import HandS.IterNext
import HandS.SuiteRaise
import HandS.RaiseFrom
import HandS.ExcInitHot
import KE.KTryMore
import PyProof.AutoSeq1
import PyProof.LongRange
import HandS.List
import HandS.Strs
import KE.KExcIs
import HandS.ExcValue
import KE.OsRunLaw
import PySem.Challenge.RW_reflows_k03_errors_and_their_fields
set_option Elab.async false
set_option linter.all false
set_option maxRecDepth 100000
set_option maxHeartbeats 0
namespace Lw
open PySem PySem.W PyProof.Rows
theorem joinH {σ α β γ : Type} {o : Option σ} {f : σ → α} {g : σ → β} {h : σ → γ} {a : α} {b : β} {c : γ} (x : o.map f = some a) (y : o.map g = some b) (z : o.map h = some c) : o.map (fun s => (f s, g s, h s)) = some (a, b, c) := by
  cases o with
  | none => cases x
  | some s => cases x; cases y; cases z; rfl
theorem Mark.seenIt : True := trivial
section
open Lean in
local macro_rules | `(tactic| o_headL $H:term) => `(tactic| exact $(mkIdent `f) ($H = $H) _)
theorem hd (f : ∀ (q p : Prop), p) : PySem.Challenge.rw_reflows_k03_errors_and_their_fields.Holds := by
  w_on; o_law; k_headL
end
section
open HeadRun
abbrev p0 : Program := PySem.Challenge.rw_reflows_k03_errors_and_their_fields.prog
def qv : Program := view p0 [1, 2, 3, 4, 5, 6, 7, 8, 9, 10, 11, 12, 13, 14, 15, 16, 17, 18, 19, 20, 21, 22, 23, 24, 25, 26, 27, 29, 30, 31, 32, 33, 34, 35, 36, 37, 38]
def xt0 (s : Shared) : Bool := xlAt qv [] s && recOk (RowW.records (OpenRow.toRowW PySem.Challenge.rw_reflows_k03_errors_and_their_fields.row)) s
theorem hdA (w : World) (os : OsState) : (endF (stepQ (denQ tabQ) p0 w) 13630 p0 w os).map (fun s => looksF p0 (boot_heap w.params) s.abs) = some true := by kernel_rfl
theorem hdB0 (w : World) (os : OsState) : (endF (stepQ (denQ tabQ) p0 w) 13630 p0 w os).map (fun s => (seenQ qv ([].map Str.ofString) (importedModules p0.main.body) xt0 s.abs).1) = some (expectedOf qv) := by kernel_rfl
theorem hdB1 (w : World) (os : OsState) : (endF (stepQ (denQ tabQ) p0 w) 13630 p0 w os).map (fun s => (seenQ qv ([].map Str.ofString) (importedModules p0.main.body) xt0 s.abs).2.2.1) = some true := by kernel_rfl
theorem hdB2 (w : World) (os : OsState) : (endF (stepQ (denQ tabQ) p0 w) 13630 p0 w os).map (fun s => ((seenQ qv ([].map Str.ofString) (importedModules p0.main.body) xt0 s.abs).2.1, (seenQ qv ([].map Str.ofString) (importedModules p0.main.body) xt0 s.abs).2.2.2)) = some (bltViewBooted, true, pinGoodD (drecsOf qv), plainGoodE qv (looseW qv ([].map Str.ofString)), plainGoodD qv ([].map Str.ofString), wideGood qv, clsGoodW qv ([].map Str.ofString)) := by kernel_rfl
theorem joinB {σ α β γ δ : Type} {o : Option σ} {f : σ → α × β × γ × δ} {a : α} {b : β} {c : γ} {d : δ} (x : o.map (fun s => (f s).1) = some a) (y : o.map (fun s => (f s).2.2.1) = some c) (z : o.map (fun s => ((f s).2.1, (f s).2.2.2)) = some (b, d)) : o.map f = some (a, b, c, d) := by
  cases o with
  | none => cases x
  | some s =>
    have e1 : (f s).1 = a := Option.some.inj x
    have e2 : (f s).2.2.1 = c := Option.some.inj y
    have e3 : ((f s).2.1, (f s).2.2.2) = (b, d) := Option.some.inj z
    show some (f s) = _
    rcases e : f s with ⟨p, q, r, t⟩
    rw [e] at e1 e2 e3
    cases e1; cases e2; cases e3; rfl
theorem hdB (w : World) (os : OsState) : (endF (stepQ (denQ tabQ) p0 w) 13630 p0 w os).map (fun s => seenQ qv ([].map Str.ofString) (importedModules p0.main.body) xt0 s.abs) = some (openGood qv ([].map Str.ofString)) := joinB (hdB0 w os) (hdB1 w os) (hdB2 w os)
theorem hdC (w : World) (os : OsState) : (endF (stepQ (denQ tabQ) p0 w) 13630 p0 w os).map (fun s => ([2, 3, 15, 22, 23, 24, 25, 28, 35, 36, 37, 38, 41, 48, 49, 50, 51, 54, 61, 63, 64, 66, 67, 68, 69, 70, 73, 80, 82, 83, 85, 86, 87, 88, 89, 92, 99, 101, 102, 104, 105, 106, 107, 108, 111, 118, 120, 121, 123, 124, 125, 126, 127, 130, 137, 139, 140, 142, 143, 144, 145, 146, 149, 156, 158, 159, 161, 162, 163, 164, 165, 168, 175, 177, 178, 180, 181, 182, 183, 184, 187, 194, 196, 197, 199, 200, 201, 202, 203, 206, 213, 215, 216, 218, 219, 220, 221, 222, 225, 232, 234, 235, 237, 238, 239, 240, 241, 244, 251, 253, 254, 256, 257, 258, 259, 260, 263, 270, 272, 273, 275, 276, 277, 278, 279, 282, 289, 291, 292, 294, 295, 296, 297, 298, 301, 308, 310, 311, 313, 314, 315, 316, 317, 320, 327, 329, 330, 332, 333, 334, 335, 336, 339, 346, 348, 349, 351, 352, 353, 354, 355, 358, 365, 367, 368, 370, 371, 372, 373, 374, 377, 384, 386, 387, 389, 390, 391, 392, 393, 396, 403, 405, 406, 408, 409, 410, 411, 412, 415, 422, 424, 425, 427, 428, 429, 430, 431, 434, 441, 443, 444, 446, 447, 448, 449, 450, 453, 460, 462, 463, 465, 466, 467, 468, 469, 472, 479, 481, 482, 484, 485, 486, 487, 488, 491, 498, 500, 501, 503, 504, 505, 506, 507, 510, 512, 513, 515, 516, 517, 519, 520, 522, 523, 524, 526, 527, 529, 530, 531, 533, 534, 536, 537, 538, 540, 541, 543, 544, 545, 547, 548, 550, 551, 552, 555, 556, 557, 559, 560, 562, 563, 564, 566, 567, 569, 570, 571, 574, 575] : List Addr).map (getT s)) = some ((Lw.hd.heap_39 w.params).map fun x => some x.2) := by kernel_rfl
end
end Lw
set_option Elab.async false
set_option linter.all false
set_option maxRecDepth 100000
set_option maxHeartbeats 4000000
namespace PySem.SeqAt
open AutoSeq1 (wpAny_loadPart')
open MeetsSeq
end PySem.SeqAt
namespace U
open PySem L2
section
variable {X : Cx}
theorem PEi {e : Expr} {t u : TE} (h : PE X e t) (i : ∀ σ H Q, u σ H Q → t σ H Q) : PE X e u := ⟨fun pins s σ H Q I k => h.run pins s σ H Q I (i σ H Q k)⟩
theorem OpRi {f : Value → Value → Sem Value} {r r' : R2} (h : OpR X f r) (i : ∀ x y H Q, r' x y H Q → r x y H Q) : OpR X f r' := fun pins s σ H x y v u Q I rx ry k => h pins s σ H x y v u Q I rx ry (i x y H Q k)
theorem CallRi {f : Value} {r r' : List V → Hp → VK → Prop} (h : CallR X f r) (i : ∀ xs H Q, r' xs H Q → r xs H Q) : CallR X f r' := fun pins s σ H xs us Q I r k => h pins s σ H xs us Q I r (i xs H Q k)
theorem IxRi {r r' : R2} (h : IxR X r) (i : ∀ x y H Q, r' x y H Q → r x y H Q) : IxR X r' := fun value slice pins s σ H x y v u Q I rx ry q hs => h value slice pins s σ H x y v u Q I rx ry (i x y H Q q) hs
theorem MtRi {id : String} {r r' : V → List V → Hp → VK → Prop} (h : MtR X id r) (i : ∀ x xs H Q, r' x xs H Q → r x xs H Q) : MtR X id r' := fun pins s σ H x xs v us Q I rx rs q => h pins s σ H x xs v us Q I rx rs (i x xs H Q q)
end
def bB (c : Bool) (A B : Prop) : Prop := match c with | true => A | false => B
def oK {α : Type} (o : Option α) (f : α → Prop) : Prop := match o with | some x => f x | none => False
section
variable {A B : Prop} {α : Type}
theorem oK_of {o : Option α} {f : α → Prop} {x : α} (h : o = some x) (k : f x) : oK o f := by subst h; exact k
theorem oK_ex {o : Option α} {f : α → Prop} (h : oK o f) : ∃ x, o = some x ∧ f x := by
  cases o with
  | none => exact h.elim
  | some x => exact ⟨x, rfl, h⟩
end
def uVar (i : Nat) : TE := fun σ H Q => match σ[i]? with | some (some v) => Q v H | _ => False
def uT (t : TE) : TT := fun σ H Q => t σ H fun x H1 => match x with | .bl k => Q k H1 | _ => False
def uOr (t u : TT) : TT := fun σ H Q => t σ H fun c H1 => bB c (Q true H1) (u σ H1 Q)
def uIf (t : TT) (ta tb : TE) : TE := fun σ H Q => t σ H fun c H1 => bB c (ta σ H1 Q) (tb σ H1 Q)
def uIfS (t : TT) (a b : TS) : TS := fun D σ H => t σ H fun c H1 => bB c (a D σ H1) (b D σ H1)
section
variable {X : Cx} {a b : Expr} {ta tb : TE} {pos : Pos} {tA tB' : TT} {rest : List Expr}
theorem pu (i : Nat) {x : Str} {pos : Pos} (hN : X.N[i]? = some x := by rfl) (hv : Vis X.env.scope x := by first | exact Or.inl rfl | exact Or.inr (Or.inl rfl) | exact Or.inr (Or.inr rfl)) (hd : (x == ("__debug__" : Str)) = false := by decide)
    (hcd : (x == ("__classdict__" : Str)) = false := by decide) : PE X (.Name x pos) (uVar i) := PEi (pe_var hN hv hd hcd) fun σ H Q h => by
  unfold uVar at h
  split at h
  · exact ⟨_, by assumption, h⟩
  · exact h.elim
end
theorem k_bl (Q : Bool → Hp → Prop) : (fun (x : V) (H1 : Hp) => match x with | .bl k => Q k H1 | _ => False) = (fun x H1 => ∃ c, x = V.bl c ∧ Q c H1) := by
  funext x H1
  cases x <;> simp
theorem k_b (f : Hp → Prop) (g : Hp → Prop) : (fun (c : Bool) (H1 : Hp) => bB c (f H1) (g H1)) = (fun c H1 => if c = true then f H1 else g H1) := by
  funext c H1
  unfold bB
  cases c <;> simp
section
variable {X : Cx} {a b : Expr} {ta tb : TE} {pos : Pos} {tA tB' : TT} {rest : List Expr}
theorem uT_eq (t : TE) : uT t = tB t := by funext σ H Q; unfold uT tB; rw [k_bl]
theorem uT_eq' (t : TE) : uT t = tTest t := by funext σ H Q; unfold uT tTest; rw [k_bl]
theorem uOr_eq (t u : TT) : uOr t u = tOr t u := by funext σ H Q; unfold uOr tOr; rw [k_b]
theorem uIf_eq (t : TT) (ta tb : TE) : uIf t ta tb = tIf t ta tb := by funext σ H Q; unfold uIf tIf; rw [k_b]
theorem uIfS_eq (t : TT) (a b : TS) : uIfS t a b = tIfS t a b := by funext D σ H; unfold uIfS tIfS; rw [k_b]
theorem put_val {e : Expr} {t : TE} (h : PE X e t) (he : ∀ whole, isTrue e X.env whole = (do let v ← whole; standAt e.pos; holding [v] (truthy v)) := by intro _; rfl) : PT X e (uT t) := by
  rw [uT_eq]; exact pt_val h he
theorem put_cmp {op : CmpOp} {r : R2} (ho : OpR X (compareOp op) r) (ha : PE X a ta) (hb : PE X b tb) (hm : behindInMarks op b = false) : PT X (.Compare a [op] [b] pos) (uT (tOp r ta tb)) := by
  rw [uT_eq']; exact pt_cmpR ho ha hb hm
theorem puw_or (ha : PT X a tA) (hb : PW X (.BoolOp .Or (b :: rest) pos) tB') : PW X (.BoolOp .Or (a :: b :: rest) pos) (uOr tA tB') := by rw [uOr_eq]; exact pw_or ha hb
theorem pue_if {c : Expr} (hc : PT X c tA) (ha : PE X a ta) (hb : PE X b tb) : PE X (.IfExp c a b pos) (uIf tA ta tb) := by rw [uIf_eq]; exact pe_ifExp hc ha hb
theorem pus_if {c : Expr} {p q : List Stmt} {t u : TS} (hc : PT X c tA) (ha : PSs X p t) (hb : PSs X q u) : PS X (.If c p q pos) (uIfS tA t u) := by rw [uIfS_eq]; exact ps_if hc ha hb
end
def uAdd (K : PySem.W.Frag) : R2 := fun x y H Q => match x, y with
  | .int i, .int j => Q (.int (i + j)) H
  | .str i, .str j => i.length + j.length ≤ sizeLine ∧ Q (.str (i ++ j)) H
  | .ref l, .ref b => ∃ xs zs, H l = some (.lst xs) ∧ H b = some (.lst zs) ∧ xs.length + zs.length ≤ sizeLine ∧ ∀ p, H p = none → Q (.ref p) (upd H p (.lst (xs ++ zs)))
  | _, _ => False
def uSub : R2 := fun x y H Q => match x, y with
  | .int i, .int j => Q (.int (i - j)) H
  | _, _ => False
def uFdiv : R2 := fun x y H Q => match x, y with
  | .int i, .int j => CDiv i j ∧ Q (.int (i / j)) H
  | _, _ => False
def uMod : R2 := fun x y H Q => match x, y with
  | .int i, .int j => 0 < j ∧ Q (.int (i % j)) H
  | _, _ => False
def uPow : R2 := fun x y H Q => match x, y with
  | .int i, .int j => CPow i j ∧ Q (.int (i ^ j.toNat)) H
  | _, _ => False
def uCmpI (p : Int → Int → Bool) (q : List Nat → List Nat → Bool) : R2 := fun x y H Q => match x, y with
  | .int i, .int j => Q (.bl (p i j)) H
  | .str i, .str j => Q (.bl (q i.cps.toList j.cps.toList)) H
  | _, _ => False
abbrev uLt : R2 := uCmpI (fun i j => decide (i < j)) (fun i j => decide (i < j))
abbrev uGt : R2 := uCmpI (fun i j => decide (j < i)) (fun i j => decide (j < i))
section
variable {X : Cx}
theorem ou_add : OpR X (binaryOp .Add) (uAdd X.K) := OpRi (op_add.or (op_add_str.or op_cat)) fun x y H Q h => by
  unfold uAdd at h
  split at h
  · exact .inl ⟨_, _, rfl, rfl, h⟩
  · exact .inr (.inl ⟨_, _, rfl, rfl, h⟩)
  · obtain ⟨xs, zs, h1, h2, h3, h4⟩ := h
    exact .inr (.inr ⟨_, _, xs, zs, rfl, rfl, h1, h2, h3, h4⟩)
  · exact h.elim
theorem ou_sub : OpR X (binaryOp .Sub) uSub := OpRi op_sub fun x y H Q h => by
  unfold uSub at h
  split at h
  · exact ⟨_, _, rfl, rfl, h⟩
  · exact h.elim
theorem ou_fdiv : OpR X (binaryOp .FloorDiv) uFdiv := OpRi op_fdiv fun x y H Q h => by
  unfold uFdiv at h
  split at h
  · exact ⟨_, _, rfl, rfl, h⟩
  · exact h.elim
theorem ou_mod : OpR X (binaryOp .Mod) uMod := OpRi op_mod fun x y H Q h => by
  unfold uMod at h
  split at h
  · exact ⟨_, _, rfl, rfl, h⟩
  · exact h.elim
theorem ou_pow : OpR X (binaryOp .Pow) uPow := OpRi op_pow fun x y H Q h => by
  unfold uPow at h
  split at h
  · exact ⟨_, _, rfl, rfl, h⟩
  · exact h.elim
theorem uCmp_or {p : Int → Int → Bool} {q : List Nat → List Nat → Bool} {f : Value → Value → Sem Value} (h1 : OpR X f (rI0 fun i j => .bl (p i j))) (h2 : OpR X f (fun x y H Q => ∃ i j, x = .str i ∧ y = .str j ∧ Q (.bl (q i.cps.toList j.cps.toList)) H)) : OpR X f (uCmpI p q) :=
  OpRi (h1.or h2) fun x y H Q h => by
  unfold uCmpI at h
  split at h
  · exact .inl ⟨_, _, rfl, rfl, h⟩
  · exact .inr ⟨_, _, rfl, rfl, h⟩
  · exact h.elim
theorem ou_lt : OpR X (compareOp .Lt) uLt := uCmp_or op_lt op_lt_str
theorem ou_gt : OpR X (compareOp .Gt) uGt := uCmp_or op_gt op_gt_str
end
def seqOf (c : String) (o : Obj) : Option (List V) := match o with
  | ⟨.type d, none, .seq its _, _⟩ => if c = d ∧ its.size ≤ sizeLine then its.toList.mapM absV else none
  | _ => none
def kS (K : PySem.W.Frag) (c : String) (a : Addr) : Option (List V) := match K.lookup a with
  | some o => seqOf c o
  | none => none
def rdL (K : PySem.W.Frag) (H : Hp) (a : Addr) : Option (List V) := match H a with
  | some (.lst xs) => some xs
  | some (.frz _ (.lst xs)) => some xs
  | some _ => none
  | none => kS K "list" a
def rdT (K : PySem.W.Frag) (H : Hp) (a : Addr) : Option (List V) := match H a with
  | some (.tup xs) => some xs
  | some (.frz _ (.tup xs)) => some xs
  | some _ => none
  | none => kS K "tuple" a
theorem mapM_vals : ∀ {us : List Value} {xs : List V}, us.mapM absV = some xs → Vals xs us := by
  intro us
  induction us with
  | nil => intro xs h; simp at h; subst h; exact .nil
  | cons u r ih =>
    intro xs h
    rw [List.mapM_cons] at h
    cases e1 : absV u with
    | none => rw [e1] at h; cases h
    | some x =>
      cases e2 : r.mapM absV with
      | none => rw [e1, e2] at h; cases h
      | some ys =>
        rw [e1, e2] at h
        cases h
        refine .cons ?_ (ih e2)
        cases u <;> simp [absV] at e1 <;> subst e1 <;> first | rfl | exact ⟨_, rfl⟩
theorem kS_spec {K : PySem.W.Frag} {c : String} {a : Addr} {xs : List V} (h : kS K c a = some xs) : ∃ (o : Obj) (its : Array Value) (n : Nat), K.lookup a = some o ∧ o.cls = .type c ∧ o.dict = none ∧ o.data = .seq its n ∧ its.size ≤ sizeLine ∧ Vals xs its.toList := by
  unfold kS at h
  split at h
  · rename_i o e
    unfold seqOf at h
    split at h
    · split at h
      · rename_i hc
        obtain ⟨rfl, hz⟩ := hc
        exact ⟨_, _, _, e, rfl, rfl, rfl, hz, mapM_vals h⟩
      · cases h
    · cases h
  · cases h
theorem rdL_sq {K : PySem.W.Frag} {H : Hp} {a : Addr} {xs : List V} (h : rdL K H a = some xs) : SqL K H a xs := by
  unfold rdL at h
  split at h
  · cases h; exact .inl (.inl (by assumption))
  · cases h; exact .inl (.inr ⟨_, by assumption⟩)
  · cases h
  · exact .inr (kS_spec h)
theorem rdT_sq {K : PySem.W.Frag} {H : Hp} {a : Addr} {xs : List V} (h : rdT K H a = some xs) : SqT K H a xs := by
  unfold rdT at h
  split at h
  · cases h; exact .inl (.inl (by assumption))
  · cases h; exact .inl (.inr ⟨_, by assumption⟩)
  · cases h
  · obtain ⟨o, its, n, h1, h2, h3, h4, h5, h6⟩ := kS_spec h
    exact .inr ⟨o, its, n, h1, h2, h4, h5, h6⟩
theorem rdL_of {K : PySem.W.Frag} {H : Hp} {a : Addr} {xs : List V} (h : H a = some (.lst xs)) : rdL K H a = some xs := by unfold rdL; rw [h]
theorem rdT_of {K : PySem.W.Frag} {H : Hp} {a : Addr} {xs : List V} (h : H a = some (.tup xs)) : rdT K H a = some xs := by unfold rdT; rw [h]
/-- a list or a tuple is read -/
def oS (K : PySem.W.Frag) (H : Hp) (p : Addr) (f : List V → Prop) : Prop := ∃ xs, (SqL K H p xs ∨ SqT K H p xs) ∧ f xs
abbrev Ex (H H' : Hp) : Prop := ∀ a o, H a = some o → H' a = some o
theorem Ex.trans {H H1 H2 : Hp} (a : Ex H H1) (b : Ex H1 H2) : Ex H H2 := fun x o h => b x o (a x o h)
theorem Ex.new {H : Hp} {p : Addr} {o : HO} (h : H p = none) : Ex H (upd H p o) := fun a u e => by
  rw [upd_ne (ne_of_none e h)]
  exact e
theorem Ex.mut {H H' : Hp} {p : Addr} {o : HO} (e : Ex H H') (h : H p = none) : Ex H (upd H' p o) := fun a u ha => by
  rw [upd_ne (ne_of_none ha h)]
  exact e a u ha
theorem Ex.free {H H' : Hp} (e : Ex H H') {p : Addr} (h : H' p = none) : H p = none := by
  cases h1 : H p with
  | none => rfl
  | some o => rw [e p o h1] at h; cases h
/-- all but b stays -/
def Fr (b : Addr) (H H' : Hp) : Prop := ∀ a o, H a = some o → a ≠ b → H' a = some o
theorem Fr.trans {b : Addr} {H H1 H2 : Hp} (x : Fr b H H1) (y : Fr b H1 H2) : Fr b H H2 := fun a o h n => y a o (x a o h n) n
theorem Fr.ex {b : Addr} {H H1 : Hp} (x : Ex H H1) : Fr b H H1 := fun a o h _ => x a o h
theorem Fr.new {b p : Addr} {H : Hp} {o : HO} (h : H p = none) : Fr b H (upd H p o) := Fr.ex (Ex.new h)
def uIx (K : PySem.W.Frag) : R2 := fun x y H Q => match x, y with
  | .str z, .int i => z.length ≤ sizeLine ∧ oK (atI z.cps.toList i) fun c => Q (.str ⟨#[c]⟩) H
  | .ref p, .int i => oS K H p fun xs => oK (atI xs i) fun v => Q v H
  | _, _ => False
theorem iu_ix {X : Cx} : IxR X (uIx X.K) := IxRi ix_seq fun x y H Q h => by
  unfold uIx at h
  split at h
  · obtain ⟨h1, h2⟩ := h
    obtain ⟨c, e, h2⟩ := oK_ex h2
    exact .inr (.inr ⟨_, _, _, rfl, rfl, h1, e, h2⟩)
  · obtain ⟨xs, e, h⟩ := h
    obtain ⟨v, e2, h⟩ := oK_ex h
    rcases e with q | q
    · exact .inl ⟨_, _, _, _, rfl, rfl, q, e2, h⟩
    · exact .inr (.inl ⟨_, _, _, _, rfl, rfl, q, e2, h⟩)
  · exact h.elim
def uLen (K : PySem.W.Frag) : List V → Hp → VK → Prop := fun xs H Q => match xs with
  | [.str z] => z.length ≤ sizeLine ∧ Q (.int z.length) H
  | [.ref p] => oS K H p fun ys => Q (.int ys.length) H
  | _ => False
def uMax2 : List V → Hp → VK → Prop := fun xs H Q => match xs with
  | [.int i, .int j] => Q (.int (if j > i then j else i)) H
  | _ => False
def uMin2 : List V → Hp → VK → Prop := fun xs H Q => match xs with
  | [.int i, .int j] => Q (.int (if j < i then j else i)) H
  | _ => False
section
variable {X : Cx}
theorem cu_len : CallR X (.builtin "len") (uLen X.K) := CallRi call_len fun xs H Q h => by
  unfold uLen at h
  split at h
  · exact ⟨_, _, rfl, ⟨h.1, rfl⟩, h.2⟩
  · obtain ⟨ys, e, h⟩ := h
    rcases e with q | q
    · exact ⟨_, _, rfl, .inl ⟨_, q, rfl⟩, h⟩
    · exact ⟨_, _, rfl, .inr ⟨_, q, rfl⟩, h⟩
  · exact h.elim
theorem cu_max (hc : X.calm = true) : CallR X (.builtin "max") uMax2 := CallRi (call_max2 hc) fun xs H Q h => by
  unfold uMax2 at h
  split at h
  · exact ⟨_, _, rfl, h⟩
  · exact h.elim
theorem cu_min (hc : X.calm = true) : CallR X (.builtin "min") uMin2 := CallRi (call_min2 hc) fun xs H Q h => by
  unfold uMin2 at h
  split at h
  · exact ⟨_, _, rfl, h⟩
  · exact h.elim
end
inductive Ty | non | bl | int | str | lst | tup | dct
  deriving DecidableEq
def Ty.nm : Ty → String | .non => "NoneType" | .bl => "bool" | .int => "int" | .str => "str" | .lst => "list" | .tup => "tuple" | .dct => "dict"
def tyO : HO → Option Ty
  | .lst _ => some .lst
  | .tup _ => some .tup
  | .dK _ => some .dct
  | .dT _ => some .dct
  | .frz _ (.lst _) => some .lst
  | .frz _ (.tup _) => some .tup
  | _ => none
def tyOf (H : Hp) : V → Option Ty
  | .non => some .non | .bl _ => some .bl | .int _ => some .int | .str _ => some .str
  | .ref a => (H a).bind tyO
  | _ => none
theorem tyOf_x {K : PySem.W.Frag} {H : Hp} {v : V} {t : Ty} (h : tyOf H v = some t) : TyX K H v (.type t.nm) := by
  cases v with
  | non => cases h; exact .base .non
  | bl b => cases h; exact .base (.bl b)
  | int i => cases h; exact .base (.int i)
  | str x => cases h; exact .base (.str x)
  | byt b => cases h
  | flt b => cases h
  | ty n => cases h
  | ref a =>
    have h : (H a).bind tyO = some t := h
    cases e : H a with
    | none => rw [e] at h; cases h
    | some o =>
      rw [e] at h
      have h : tyO o = some t := h
      unfold tyO at h
      split at h <;> first | (cases h; done) | (cases h; first | exact .base (.lst e) | exact .base (.tup e) | exact .base (.dK e) | exact .base (.dT e) | exact .base (.frz e) | exact .fTuple e)
/-- is a thing of the one kind a thing of the other -/
def isT (t c : Ty) : Bool := decide (t = c) || (decide (t = .bl) && decide (c = .int))
theorem isT_kit (t c : Ty) : kitB t.nm c.nm = some (isT t c) := by cases t <;> cases c <;> decide +kernel
def uIsi (c : Ty) (te : TE) : TE := fun σ H Q => te σ H fun x H1 => oK (tyOf H1 x) fun t => Q (.bl (isT t c)) H1
def rIsiC (c : Ty) : List V → Hp → VK → Prop := fun xs H Q => match xs with
  | [x, y] => y = .ty c.nm ∧ oK (tyOf H x) fun t => Q (.bl (isT t c)) H
  | _ => False
theorem uIsi_eq (c : Ty) (te : TE) : uIsi c te = tCB (rIsiC c) (tCons te (tCons (tC (.ty c.nm)) tNil)) := by
  funext σ H Q
  show te σ H _ = te σ H _
  congr 1; funext x H1
  show _ = (V.ty c.nm = V.ty c.nm ∧ _)
  simp
section
variable {X : Cx} {e : Expr} {te : TE} {p pos q : Pos}
theorem cu_isi (c : Ty) : CallR X (.builtin "isinstance") (rIsiC c) := CallRi call_isi fun xs H Q h => by
  unfold rIsiC at h
  split at h
  · obtain ⟨rfl, h⟩ := h
    obtain ⟨t, e, h⟩ := oK_ex h
    exact ⟨_, _, _, _, _, rfl, .ty _, tyOf_x e, kit_ty (isT_kit _ _), h⟩
  · exact h.elim
theorem pue_isi {n : Str} (c : Ty) (he : PE X e te) (hg : Gl X "isinstance") (hm : X.mg "isinstance" = none) (hn : Gl X n) (hmn : X.mg n = none) (hv : bootBuiltins n = some (.type c.nm)) (hnn : n ≠ "__name__" := by decide) (hnd : (n == ("__debug__" : Str)) = false := by decide)
    (hs1 : starEach [e, .Name n q] X.env = (false, eval e X.env) :: starEach [.Name n q] X.env := by rfl) (hs2 : starEach [.Name n q] X.env = (false, eval (.Name n q) X.env) :: starEach [] X.env := by rfl) (hs3 : ((backTo pos (starEach [.Name n q] X.env)).any fun x => x.fst) = false := by rfl) :
    PE X (.Call (.Name "isinstance" p) [e, .Name n q] [] pos) (uIsi c te) := by
  rw [uIsi_eq]
  have h2 : PE X (.Name n q) (tC (.ty c.nm)) := pe_bltn hn hmn hv rfl hnn hnd
  exact pe_callB (cu_isi c) hg hm (by decide +kernel) (pa_cons he (pa_cons h2 pa_nil hs2) hs1) (by decide) (by decide) hs1 hs3
end
def chars (z : Str) : List V := z.cps.toList.map fun c => V.str ⟨#[c]⟩
/-- the walk over x at H1 -/
def goIt (K : PySem.W.Frag) (x : V) (H1 : Hp) (R : It → Hp → Prop) : Prop := match x with
  | .str z => R (Its z) H1
  | .ref a => (match rdL K H1 a with
    | some _ => R (Itl K a) H1
    | none => (match rdT K H1 a with
      | some _ => R (Itt K a) H1
      | none => False))
  | _ => False
def uIter (K : PySem.W.Frag) (te : TE) : TI := fun σ H R => te σ H fun x H1 => goIt K x H1 R
theorem piu {X : Cx} {tg e : Expr} {te : TE} (he : PE X e te) : PI X tg e (uIter X.K te) := by
  refine ⟨fun pins s σ H R I h => ?_⟩
  refine thn (he.run pins s σ H _ I h) fun v s1 ⟨y, H1, I1, r1, q⟩ => ?_
  dsimp only at q
  unfold goIt at q
  split at q
  · rename_i x
    obtain ⟨t, rfl⟩ := r1
    cases ha : x.cps.all (· < 128)
    · exact wpAny_pyIter_wide ha (pi_one (tk := s1.toks) I1 _ (turn_str _ x t "str_iterator" (.inr rfl)) ⟨_, Heap.get?_push_size _ rfl, rfl, rfl⟩ q)
    · exact wpAny_pyIter_ascii ha (pi_one (tk := s1.toks) I1 _ (turn_str _ x t "str_ascii_iterator" (.inl rfl)) ⟨_, Heap.get?_push_size _ rfl, rfl, rfl⟩ q)
  · rename_i a
    split at q
    · rename_i xs hx
      have hq := rdL_sq hx
      cases r1
      obtain ⟨its, rv, p, hz⟩ := I1.list hq
      refine wpAny_pyIter_list p.isList ?_
      refine ⟨s1.heap.objs.size, [s1.heap.objs.size], _, _, H1, rfl, I1.kept (t' := s1.toks) fun b o e => Heap.get?_push_of_some _ e, turn_list a _, ⟨_, Heap.get?_push_size _ rfl, rfl, rfl⟩, fun b hb => ?_, q⟩
      have e : b = s1.heap.objs.size := by simpa using hb
      subst e
      exact I1.fpOk (Nat.le_refl _) (I1.hok.fresh (Nat.le_refl _))
    · split at q
      · rename_i xs hx
        have hq := rdT_sq hx
        cases r1
        obtain ⟨its, rv, p, hz⟩ := I1.tuple hq
        refine wpAny_pyIter_tuple (show s1.heap.IsTuple a its.toArray from p) ?_
        refine ⟨s1.heap.objs.size, [s1.heap.objs.size], _, _, H1, rfl, I1.kept (t' := s1.toks) fun b o e => Heap.get?_push_of_some _ e, turn_tuple a _, ⟨_, Heap.get?_push_size _ rfl, rfl, rfl⟩, fun b hb => ?_, q⟩
        have e : b = s1.heap.objs.size := by simpa using hb
        subst e
        exact I1.fpOk (Nat.le_refl _) (I1.hok.fresh (Nat.le_refl _))
      · exact q.elim
  · exact q.elim
theorem walk_chars {z : Str} : Walk (Its z) (chars z).length (fun _ => True) (YAt (chars z)) := by
  have hl : (chars z).length = z.cps.size := by unfold chars; simp
  rw [hl]
  refine ⟨fun _ _ hi _ => hi, fun _ _ => Nat.le_refl _, fun i H v H' hi _ y => ?_⟩
  obtain ⟨e, c, hc, rfl⟩ := y
  refine ⟨e, ?_⟩
  unfold chars
  rw [List.getElem?_map, Array.getElem?_toList, hc]
  rfl
/-- what is walked: the value, its items, what must stay -/
inductive Src (K : PySem.W.Frag) : V → It → List V → (Hp → Prop) → Prop
  | str (z : Str) : Src K (.str z) (Its z) (chars z) (fun _ => True)
  | lst (a : Addr) (xs : List V) : Src K (.ref a) (Itl K a) xs (fun H => rdL K H a = some xs)
  | tup (a : Addr) (xs : List V) : Src K (.ref a) (Itt K a) xs (fun H => rdL K H a = none ∧ rdT K H a = some xs)
theorem Src.walk {K : PySem.W.Frag} {x : V} {J : It} {xs : List V} {G : Hp → Prop} (S : Src K x J xs G) : Walk J xs.length G (YAt xs) := by
  cases S with
  | str z => exact walk_chars
  | lst a => exact walk_list.mono (fun _ g => rdL_sq g) fun _ _ _ _ _ _ y => y
  | tup a => exact walk_tup.mono (fun _ g => rdT_sq g.2) fun _ _ _ _ _ _ y => y
theorem Src.go {K : PySem.W.Frag} {x : V} {J : It} {xs : List V} {G : Hp → Prop} (S : Src K x J xs G) {H1 : Hp} (g : G H1) {R : It → Hp → Prop} (h : R J H1) : goIt K x H1 R := by
  cases S with
  | str z => exact h
  | lst a => show match rdL K H1 a with | some _ => _ | none => _; rw [show rdL K H1 a = some xs from g]; exact h
  | tup a =>
    show match rdL K H1 a with | some _ => _ | none => _
    rw [g.1]
    show match rdT K H1 a with | some _ => _ | none => _
    rw [g.2]; exact h
/-- a comprehension over it -/
theorem lc_src {K : PySem.W.Frag} {x : V} {J : It} {xs : List V} {G : Hp → Prop} (S : Src K x J xs G) {g : TG} {tt : TT} {te : TE} {vs : List Nat} {σ : St} {H1 : Hp} {Q : VK} (hG : G H1) (Pv : Addr → Nat → Hp → Prop)
    (h0 : ∀ D, H1 D = none → Pv D 0 (upd H1 D (.lst []))) (hst : ∀ D i H, i ≤ xs.length → Pv D i H → G H)
    (hs : ∀ D i y H, xs[i]? = some y → Pv D i H → g y (wipe σ vs) H fun σ2 H2 => wipe σ2 vs = wipe σ vs ∧ tt σ2 H2 fun b H3 =>
      if b = true then te σ2 H3 fun y H4 => ∃ acc, H4 D = some (.lst acc) ∧ acc.length < sizeLine ∧ Pv D (i + 1) (upd H4 D (.lst (acc ++ [y]))) else Pv D (i + 1) H3) (hd : ∀ D H, H1 D = none → Pv D xs.length H → Q (.ref D) H) :
    goIt K x H1 fun J H1 => ∀ D, H1 D = none → ∃ W : Nat → Nat → Hp → Prop, (∃ m, W 0 m (upd H1 D (.lst []))) ∧ ∀ i m H, W i m H →
      (J.stop i H ∧ Q (.ref D) H) ∨ (J.go i H ∧ ∃ Nx : Hp → Prop, (∀ H', Nx H' → ∃ m', m' < m ∧ W (i + 1) m' H') ∧ ∀ x H', J.yld i H x H' → g x (wipe σ vs) H' fun σ2 H2 => wipe σ2 vs = wipe σ vs ∧ tt σ2 H2 fun b H3 =>
        if b = true then te σ2 H3 fun y H4 => ∃ acc, H4 D = some (.lst acc) ∧ acc.length < sizeLine ∧ Nx (upd H4 D (.lst (acc ++ [y]))) else Nx H3) :=
  S.go hG fun D hD => lc_it S.walk (Pv D) (h0 D hD) (hst D) (fun i y H H' hi p q => by obtain ⟨e, hy⟩ := q; subst e; exact hs D i y _ hy p) fun H p => hd D H hD p
/-- .. whose items are flat: f x where c x -/
theorem take_map {α : Type} {c : V → Bool} {f : V → α} {xs : List V} {i : Nat} {y : V} (h : xs[i]? = some y) :
    (((xs.take (i + 1)).filter c).map f) = ((xs.take i).filter c).map f ++ (if c y then [f y] else []) := by
  rw [List.take_add_one, h, List.filter_append, List.map_append]
  show _ ++ List.map f (List.filter c [y]) = _
  rw [List.filter_cons]
  cases hc : c y <;> simp
theorem lc_flat {K : PySem.W.Frag} {x : V} {J : It} {xs : List V} {G : Hp → Prop} (S : Src K x J xs G) {j : Nat} {tt : TT} {te : TE} {vs : List Nat} {σ : St} {H1 : Hp} {Q : VK} (hG : G H1) (hGx : ∀ H', Ex H1 H' → G H') (c : V → Bool) (f : V → V) (hz : xs.length < sizeLine)
    (hw : ∀ y, wipe ((wipe σ vs).set j (some y)) vs = wipe σ vs)
    (ht : ∀ (i : Nat) y H', xs[i]? = some y → Ex H1 H' → ∀ R : Bool → Hp → Prop, (∀ H2, Ex H' H2 → R (c y) H2) → tt ((wipe σ vs).set j (some y)) H' R)
    (he : ∀ (i : Nat) y H', xs[i]? = some y → c y = true → Ex H1 H' → ∀ R : VK, (∀ H2, Ex H' H2 → R (f y) H2) → te ((wipe σ vs).set j (some y)) H' R)
    (hd : ∀ D H, H1 D = none → Ex H1 H → H D = some (.lst ((xs.filter c).map f)) → Q (.ref D) H) :
    goIt K x H1 fun J H1 => ∀ D, H1 D = none → ∃ W : Nat → Nat → Hp → Prop, (∃ m, W 0 m (upd H1 D (.lst []))) ∧ ∀ i m H, W i m H →
      (J.stop i H ∧ Q (.ref D) H) ∨ (J.go i H ∧ ∃ Nx : Hp → Prop, (∀ H', Nx H' → ∃ m', m' < m ∧ W (i + 1) m' H') ∧ ∀ x H', J.yld i H x H' → gName j x (wipe σ vs) H' fun σ2 H2 => wipe σ2 vs = wipe σ vs ∧ tt σ2 H2 fun b H3 =>
        if b = true then te σ2 H3 fun y H4 => ∃ acc, H4 D = some (.lst acc) ∧ acc.length < sizeLine ∧ Nx (upd H4 D (.lst (acc ++ [y]))) else Nx H3) := by
  refine lc_src S hG (fun D i H => H1 D = none ∧ Ex H1 H ∧ H D = some (.lst (((xs.take i).filter c).map f))) (fun D hD => ⟨hD, Ex.new hD, upd_same⟩) (fun D i H _ p => hGx H p.2.1) ?_ ?_
  · intro D i y H hy ⟨hD, e, hl⟩
    have hi : i < xs.length := (List.getElem?_eq_some_iff.mp hy).1
    refine ⟨hw y, ht i y H hy e _ fun H3 e3 => ?_⟩
    have tm := take_map (c := c) (f := f) hy
    cases hc : c y with
    | false =>
      rw [hc] at tm
      rw [if_neg (by decide)]
      refine ⟨hD, e.trans e3, ?_⟩
      rw [tm]; simp only [Bool.false_eq_true, if_false, List.append_nil]; exact e3 D _ hl
    | true =>
      rw [hc] at tm
      rw [if_pos rfl]
      refine he i y H3 hy hc (e.trans e3) _ fun H4 e4 => ⟨_, e4 D _ (e3 D _ hl), ?_, hD, Ex.mut ((e.trans e3).trans e4) hD, ?_⟩
      · rw [List.length_map]
        have := List.length_filter_le c (xs.take i)
        rw [List.length_take] at this
        omega
      · rw [tm]; simp only [if_true]; exact upd_same
  · intro D H hD ⟨_, e, hl⟩
    rw [List.take_length] at hl
    exact hd D H hD e hl
/-- a list that may be changed -/
def mutL (H : Hp) (l : Addr) : Option (List V) := match H l with
  | some (.lst xs) => some xs
  | _ => none
theorem mutL_of {H : Hp} {l : Addr} {xs : List V} (h : H l = some (.lst xs)) : mutL H l = some xs := by unfold mutL; rw [h]
theorem of_mutL {H : Hp} {l : Addr} {xs : List V} (h : mutL H l = some xs) : H l = some (.lst xs) := by
  unfold mutL at h
  split at h
  · cases h; assumption
  · cases h
def uAppend : V → List V → Hp → VK → Prop := fun x vs H Q => match x, vs with
  | .ref l, [y] => oK (mutL H l) fun xs => xs.length < sizeLine ∧ Q .non (upd H l (.lst (xs ++ [y])))
  | _, _ => False
def uSetL : V → V → V → Hp → (Hp → Prop) → Prop := fun o i v H Q => match o, i with
  | .ref p, .int k => oK (mutL H p) fun xs => oK (ixN xs.length k) fun j => Q (upd H p (.lst (xs.set j v)))
  | _, _ => False
def uNeg : V → Hp → VK → Prop := fun x H Q => match x with
  | .int i => Q (.int (-i)) H
  | _ => False
section
variable {X : Cx}
theorem mu_append : MtR X "list.append" uAppend := MtRi (r := rAppend) mt_append fun x xs H Q h => by
  unfold uAppend at h
  split at h
  · obtain ⟨xs, e, h1, h2⟩ := oK_ex h
    exact ⟨_, _, _, rfl, rfl, of_mutL e, h1, h2⟩
  · exact h.elim
theorem setu : PSet X uSetL := fun pins s σ H o i v ov iv u Q I ro ri rv h => set_list pins s σ H o i v ov iv u Q I ro ri rv (by
  unfold uSetL at h
  split at h
  · obtain ⟨xs, e, h⟩ := oK_ex h
    obtain ⟨j, e2, h⟩ := oK_ex h
    exact ⟨_, _, _, _, rfl, rfl, of_mutL e, e2, h⟩
  · exact h.elim)
theorem ou_neg : UnR X (unaryOp .USub) uNeg := fun pins s σ H x v Q I r h => un_neg pins s σ H x v Q I r (by
  unfold uNeg at h
  split at h
  · exact ⟨_, rfl, h⟩
  · exact h.elim)
end
abbrev sl (z : Str) : List Nat := z.cps.toList
/-- small sizes -/
theorem szl {n : Nat} (h : n ≤ 100000) : n ≤ sizeLine := Nat.le_trans h (by decide)
/-- an item of a list at a drawn place -/
theorem pick {α : Type} {xs : List α} {r : Int} (h0 : 0 ≤ r) (h1 : r < xs.length) : ∃ v, atI xs r = some v ∧ v ∈ xs := by
  have hj : r.toNat < xs.length := by omega
  refine ⟨xs[r.toNat], ?_, List.getElem_mem hj⟩
  unfold atI ixN
  rw [if_pos h0, if_pos h1]
  simp [hj]
def ScriptAt (K : PySem.W.Frag) (H : Hp) (a : Addr) (ns : List Int) : Prop :=
  (∃ o, H a = some (.frz o (.lst (ns.map V.int)))) ∨
    ∃ (o : Obj) (its : Array Value) (n : Nat), K.lookup a = some o ∧ o.cls = .type "list" ∧ o.dict = none ∧ o.data = .seq its n ∧ its.size ≤ sizeLine ∧ Vals (ns.map V.int) its.toList
theorem script_of {K : PySem.W.Frag} {H : Hp} {a : Addr} {ns : List Int} (hO : Only H) (hS : SqL K H a (ns.map V.int)) : ScriptAt K H a ns := by
  rcases hS with (h | ⟨o, h⟩) | h
  · rcases hO a with z | ⟨o, xs, z⟩
    · rw [h] at z; cases z
    · rw [h] at z; cases z
  · exact .inl ⟨o, h⟩
  · exact .inr h
theorem ScriptAt.sq {K : PySem.W.Frag} {H : Hp} {a : Addr} {ns : List Int} (h : ScriptAt K H a ns) : SqL K H a (ns.map V.int) := by
  rcases h with ⟨o, h⟩ | h
  · exact .inl (.inr ⟨o, h⟩)
  · exact .inr h
theorem ScriptAt.ex {K : PySem.W.Frag} {H H' : Hp} {a : Addr} {ns : List Int} (h : ScriptAt K H a ns) (e : Ex H H') : ScriptAt K H' a ns := by
  rcases h with ⟨o, h⟩ | h
  · exact .inl ⟨o, e _ _ h⟩
  · exact .inr h
/-- all signs are code points -/
def sok (z : Str) : Prop := ∀ c ∈ sl z, c < 1114112
instance (z : Str) : Decidable (sok z) := inferInstanceAs (Decidable (∀ c ∈ sl z, c < 1114112))
end U
namespace U
open PySem PySem.Spec PyProof.Rows L2
structure BaseC (K : PySem.W.Frag) (C0 : Addr) : Prop where
  ga : PySem.W.specialIn K (.ref C0) "__getattribute__" = some (some (.builtin "type.__getattribute__"))
  rd : ∃ mc, PySem.W.readsIn K C0 mc = true ∧ PySem.W.findCls K (.ref C0) mc "__init__" = some (.val (.builtin "ValueError.__init__"))
theorem pe_binit {X : Cx} {x : Str} {C0 : Addr} {e : Expr} {es : List Expr} {ta : TA} {p1 p2 pos : Pos} {pl : Sem Bool} (T0 : BaseC X.K C0) (hg : Gl X x) (hm : X.mg x = some (.ref C0)) (ha : PA X (e :: es) ta)
    (hc : eval (.Call (.Attribute (.Name x p1) "__init__" p2) (e :: es) [] pos) X.env = (do
      let ov ← eval (.Name x p1) X.env
      standAt p2.atName
      let (f, first) ← holding [ov] (getMethod ov "__init__" pl)
      callWith pos f first (backTo pos (starEach (e :: es) X.env)) (backToKw pos (keywordEach [] X.env))) := by rfl)
    (hdb : (x == ("__debug__" : Str)) = false := by decide) (he : starEach (e :: es) X.env = (false, eval e X.env) :: starEach es X.env := by rfl) (hpl : (backTo pos (starEach es X.env)).any (·.1) = false := by rfl) :
    PE X (.Call (.Attribute (.Name x p1) "__init__" p2) (e :: es) [] pos) (tVeI X.K ta) := by
  obtain ⟨mc, hrd, hf⟩ := T0.rd
  constructor
  intro pins s σ H Q I h
  refine PySem.W.methodCall_KW (ld_glob I hg hm ?_ hdb) hc
  refine PySem.W.method_cls I.kIn T0.ga (PySem.W.cls_value I.kIn hrd hf (by decide +kernel) ?_)
  refine PyProof.Rows.callWith_method1 (thn (ha.run pos pins _ σ H _ (I.tok _) h) ?_) he hpl
  rintro us s1 ⟨vs, H1, I1, r1, a, C, ws, rfl, hl, T, ea, q⟩
  match us, r1 with
  | _ :: ur, .cons ra rw' =>
    cases ra
    exact oinit_ok T I1 ea (by rw [← Paired.length rw']; exact szl (by omega)) fun s' J => ⟨.non, H1, J, rfl, q⟩
/-- what the text says of the class x at C with one field f, its __init__ at fI -/
structure ExcC (K : PySem.W.Frag) (mg : Str → Option Value) (x f : Str) (C fI : Addr) : Prop where
  g : mg x = some (.ref C)
  o : OexC K C
  i : PySem.W.findIn K (.ref C) "__init__" = some (some (.ref fI))
  t : PySem.W.typeIn K (.ref fI) = some (.type "function")
  n : PySem.W.findIn K (.ref C) f = some none
  xf : XfC K C
  cl : PySem.W.isClsIn K C = true
/-- the promise of such an __init__ -/
def spI (C : Addr) (f : Str) : Sp := fun vs H Q _ => ∃ (a : Addr) (v : V), vs = [.ref a, v] ∧ H a = some (exo a C none) ∧ ∀ dx, H dx = none → dx ≠ a → Q .non (upd (upd H dx (exd dx [(f, v)])) a (exo a C (some dx)))
theorem len_spI {C : Addr} {f : Str} {vs : List V} {H : Hp} {Q : VK} {E : XK} (h : spI C f vs H Q E) : vs.length = 2 := by
  obtain ⟨a, v, rfl, _⟩ := h; rfl
/-- its body: Base.__init__(self, text); self.f = value -/
def tI (K : PySem.W.Frag) (f : Str) (msg : Str) : TS := tSeq (tDrop (tVeI K (tCons (uVar 0) (tCons (tC (.str msg)) tNil)))) (tOst K f (uVar 0) (uVar 1))
theorem p_init {K : PySem.W.Frag} {mg : Str → Option Value} {x f msg p0 p1 : Str} {C fI : Addr} (T : ExcC K mg x f C fI) {vs : List V} {H : Hp} {Q : VK} {E : XK} (h : spI C f vs H Q E) :
    tI K f msg { nx := fun _ H' => Q .non H', rt := Q } (start [p0, p1] vs) H := by
  obtain ⟨a, v, rfl, ha, k⟩ := h
  refine ⟨a, C, [.str msg], rfl, by show 1 ≤ 1000; decide, T.o, ha, ?_⟩
  exact ⟨a, C, rfl, T.o, T.n, .inl ⟨ha, fun dx hd hne => k dx hd hne⟩⟩
/-- a reading closed under what follows: for rules whose own continuation is to be weakened -/
def mA (t : TA) : TA := fun σ H Q => ∃ R : List V → Hp → Prop, t σ H R ∧ ∀ vs H1, R vs H1 → Q vs H1
def gone (i : Nat) (D : Ends) : Ends := { nx := fun σ H => D.nx (σ.set i none) H, rt := D.rt, bk := fun σ H => D.bk (σ.set i none) H, ct := fun σ H => D.ct (σ.set i none) H }
end U
namespace U
open PySem PySem.Spec PyProof.Rows L2
structure FnG (P : Program) (w : World) (K : PySem.W.Frag) (mg : Str → Option Value) (base : Heap) (CX : CXT) (k : Nat) (f : Addr) (fd : FuncData) (ps : List Str) (sp : Sp) : Prop where
  len : ∀ vs H Q E, sp vs H Q E → vs.length = ps.length
  run : ∀ (A : Around) (outer : List Env) (s : Shared) (H : Hp) (args : Args) (us : List Value) (vs : List V) (Q : VK) (E : XK), A.guards = some [] → Room k A → Env0 P w K mg base A outer s H →
    BindsTo s fd args (ps.zip us) → Vals vs us → sp vs H Q E → codeAny (model P w) A (.call (.ref f) args) (CR CX outer P w H s Q E) s
section
variable {P : Program} {w : World} {K : PySem.W.Frag} {mg : Str → Option Value} {base : Heap}
theorem fn_ofG {CX : CXT} {k : Nat} {f : Addr} {x qual : Str} {st : Stmt} {fd : FuncData} {N ps : List Str} {sp : Sp} (F : Fun K x qual st f fd) (S : FnScope N ps (defScope st)) (len : ∀ vs H Q E, sp vs H Q E → vs.length = ps.length)
    (body : ∀ (cdv : Value) (A : Around) (outer : List Env) (s : Shared) (H : Hp) (vs : List V) (Q : VK) (E : XK), A.guards = some [] → Room k (A.deeper (envOfC qual (defScope st) s.heap.objs.size f cdv)) → sp vs H Q E →
      ∃ t, PSs (cxOf CX P w K mg base N qual (defScope st) f cdv A outer s H E) (defBody st) t ∧ t { nx := fun _ H' => Q .non H', rt := Q } (start N vs) H) : FnG P w K mg base CX (k + 1) f fd ps sp := by
  obtain ⟨oc, od, kV, doc, pm, an, cdv, ct, osl, rfl, lk, hcd⟩ := F.ex
  refine ⟨len, fun A outer s H args us vs Q E hg hr e0 hb rv h => ?_⟩
  have kin : K.In s.heap := e0.mod.kin.keeps fun b o z => (e0.bs b o z).1
  have nl : s.heap.NoLimit := e0.mod.nolimit.keeps fun b o z => (e0.bs b o z).1
  obtain ⟨t, ht, hq⟩ := body cdv A outer s H vs Q E hg (hr.deeper _) h
  refine codeAny_call_function hr.depth (kin _ _ lk) rfl S.co S.gen rfl (PySem.W.codeRec_of kin hcd) (hb _ _ _ _ (wpAny_newFunctionEnv_cells S.kind (fun ⟨n, v⟩ hy => ?_) fun env he s1 y => ?_))
  · rcases S.par n (List.of_mem_zip hy).1 with q | q
    · exact .inl q
    · exact .inr ⟨q, PySem.W.cellsFrom_some _ _ _ (.inl q)⟩
  subst he
  refine ⟨nl.keeps y.toInCall.keep, codeAny_func (wpAny_mono (ht.run [] s1 (start N vs) H _ (inv_start S hr.hd e0 (len _ _ _ _ h) rv y) hq) (fun fl s' q => ?_) fun _ _ q => q)⟩
  cases fl with
  | next =>
    obtain ⟨_, H', J, q⟩ := q
    exact ⟨V.non, H', J.os, J.bare, J.base, J.hok, rfl, q⟩
  | ret u =>
    obtain ⟨v, _, H', J, r, q⟩ := q
    exact ⟨v, H', J.os, J.bare, J.base, J.hok, r, q⟩
  | brk =>
    obtain ⟨_, _, _, q⟩ := q
    exact q.elim
  | cont =>
    obtain ⟨_, _, _, q⟩ := q
    exact q.elim
theorem okG {k : Nat} {f : Addr} {x qual : Str} {st : Stmt} {fd : FuncData} {N ps : List Str} {sp : Sp} (F : Fun K x qual st f fd) (S : FnScope N ps (defScope st)) (len : ∀ vs H Q E, sp vs H Q E → vs.length = ps.length)
    (body : ∀ (cdv : Value) (A : Around) (outer : List Env) (s : Shared) (H : Hp) (vs : List V) (Q : VK) (E : XK), A.guards = some [] → Room k (A.deeper (envOfC qual (defScope st) s.heap.objs.size f cdv)) → sp vs H Q E →
      ∃ t, PSs (cxOf CX0 P w K mg base N qual (defScope st) f cdv A outer s H E).nox (defBody st) t ∧ t { nx := fun _ H' => Q .non H', rt := Q } (start N vs) H) : FnG P w K mg base CX0 (k + 1) f fd ps sp :=
  fn_ofG F S len fun cdv A outer s H vs Q E hg hr h => by
    obtain ⟨t, h1, h2⟩ := body cdv A outer s H vs Q E hg hr h
    exact ⟨t, h1.nox, h2⟩
end
theorem law_callG {P : Program} {w : World} {K : PySem.W.Frag} {mg mb : Str → Option Value} {CX : CXT} {k : Nat} {fa a : Addr} {fd : FuncData} {x : Str} {sp : Sp} {s₁ : Shared} {vs : List Value} {ns : List Int}
    (KX : K.In s₁.heap) (hns : s₁.heap.Ns mainGlobals mg) (hb : s₁.heap.Ns builtinsNs mb) (hbb : ∀ x : Str, x ≠ "__name__" → mb x = bootBuiltins x) (nl : s₁.heap.NoLimit) (hg : s₁.gens = #[])
    (ha : s₁.heap.get? a = some { cls := .type "list", data := .seq vs.toArray }) (hi : IntsAre vs ns) (hl : ns.length ≤ sizeLine) (hr : Room k callerA)
    (F : ∀ base : Heap, K.In base → base.Ns mainGlobals mg → FnG P w K mg base CX k fa fd [x] sp) (bind : ∀ (s : Shared) (u : Value), BindsTo s fd ⟨[u], []⟩ [(x, u)])
    (hsp : ∀ H : Hp, Only H → SqL K H a (ns.map V.int) → sp [.ref a] H (fun v _ => v = .bl true) fun _ _ _ => False)
    (hCX : ∀ H e s', CX [] H s₁ (fun _ _ _ => False) e s' → False) :
    codeAny (model P w) callerA (.call (.ref fa) ⟨[.ref a], []⟩) (fun r s' => r = .ok (.ret (.bool true)) ∧ OldK s₁.heap s'.heap ∧ s'.os = s₁.os ∧ AllBare s'.gens) s₁ := by
  have start : ∀ H : Hp, Only H → SqL K H a (ns.map V.int) → HOk P w H s₁.heap → (∀ b, H b ≠ none → b = a) → (H a ≠ none → K.lookup a = none) →
      codeAny (model P w) callerA (.call (.ref fa) ⟨[.ref a], []⟩) (fun r s' => r = .ok (.ret (.bool true)) ∧ OldK s₁.heap s'.heap ∧ s'.os = s₁.os ∧ AllBare s'.gens) s₁ := fun H hO hS hok only free => by
    have atA : ∀ {b : Addr} {u : HO}, H b = some u → b = a := fun {b u} q => only b (by rw [q]; simp)
    have nsH : ∀ {b : Addr} {m : Str → Option Value}, s₁.heap.Ns b m → (hidT s₁.heap H).Ns b m := fun {b m} ⟨o, es, ep, e, d, r⟩ => ⟨o, es, ep, hidT_get e (by
      cases q : H b with
      | none => rfl
      | some u =>
        rw [atA q, ha] at e; cases e
        exact nomatch d), d, r⟩
    have kinH : K.In (hidT s₁.heap H) := fun b o e => hidT_get (KX b o e) (by
      cases q : H b with
      | none => rfl
      | some u =>
        have z := atA q
        subst z
        rw [free (by rw [q]; simp)] at e; cases e)
    have env : Env0 P w K mg (hidT s₁.heap H) callerA [] s₁ H := ⟨rfl, ⟨kinH, nsH hns, ⟨mb, nsH hb, hbb⟩, let ⟨mc, h1, h2⟩ := nl; ⟨mc, nsH h1, h2⟩⟩, fun b o e => of_hidT e, Nat.le_of_eq (hidT_size _ _), trivial,
      fun b hb => absurd (show b ∈ ([] : List Addr) from hb) (by simp), hok, .of_eq hg⟩
    refine codeAny_mono ((F _ kinH (nsH hns)).run callerA [] s₁ H ⟨[.ref a], []⟩ [.ref a] [.ref a] _ _ rfl hr env (bind s₁ (.ref a)) (.cons rfl .nil) (hsp H hO hS)) fun r s' h => ?_
    match r, h with
    | .error er, h => exact (hCX H er s' h).elim
    | .ok (.ret u), h =>
      obtain ⟨v, H', os, bare, un, hok', r', q⟩ := h
      obtain rfl : v = .bl true := q
      obtain rfl : u = Value.bool true := r'
      refine ⟨rfl, OldK.of_keep fun b o e => ?_, os, bare⟩
      cases q : H b with
      | none => exact un.keep b o e q (by intro z; exact absurd (show b ∈ ([] : List Addr) from z) (by simp)) (by simp)
      | some u =>
        rcases hO b with z | ⟨ob, xs, z⟩
        · rw [q] at z; cases z
        · obtain ⟨e1, _⟩ := hok b _ z
          obtain ⟨e2, _⟩ := hok' b _ (un.frzs b ob _ z)
          rw [e] at e1; cases e1
          exact e2
  cases hk : K.lookup a with
  | some o =>
    have e := KX a o hk
    rw [ha] at e
    cases e
    exact start (fun _ => none) (fun _ => .inl rfl) (.inr ⟨_, vs.toArray, _, hk, rfl, rfl, rfl, by rw [List.size_toArray, hi.length]; exact hl, by simpa using vals_ints hi⟩) (fun b u z => nomatch (show (none : Option HO) = some u from z)) (fun b z => absurd rfl z) fun z => absurd rfl z
  | none =>
    let ob : Obj := { cls := .type "list", data := .seq vs.toArray }
    refine start (fun b => if b = a then some (.frz ob (.lst (ns.map V.int))) else none) (fun b => ?_) (.inl (.inr ⟨ob, if_pos rfl⟩)) (fun b u z => ?_) (fun b z => ?_) fun _ => hk
    · by_cases hb : b = a
      · exact .inr ⟨_, _, if_pos hb⟩
      · exact .inl (if_neg hb)
    · by_cases hb : b = a
      · have y := (if_pos hb).symm.trans z
        cases y
        subst hb
        exact ⟨ha, by rw [List.length_map]; exact hl, vs, _, vals_ints hi, ha⟩
      · exact nomatch (if_neg hb).symm.trans z
    · by_cases hb : b = a
      · exact hb
      · exact absurd (if_neg hb) z
theorem walk_ofG {l : PySem.W.OpenLaw} {n k : Nat} {q : Program} {loose : List Str} {XP : (Str → Option Value) → Heap → Prop} {YP : World → Heap → Prop} {d : DefRec} {K : Params → PySem.W.Frag} {x : Str} {sp : World → (Nat → Addr) → Sp}
    (hn : l.most = some n) (hn2 : n ≤ sizeLine) (hdf : d.params.defaults = []) (hr : Room k callerA) (hY : ∀ (w : World) (h : Heap), YP w h → (K w.params).In h)
    (F : ∀ (w : World) (mg : Str → Option Value) (fa : Addr) (h : Heap), (K w.params).In h → h.Ns mainGlobals mg → mg d.name = some (.ref fa) →
      ∃ (ca : Nat → Addr) (fd : FuncData), (∀ (s : Shared) (u : Value), BindsTo s fd ⟨[u], []⟩ [(x, u)]) ∧ ∀ base : Heap, (K w.params).In base → base.Ns mainGlobals mg → FnG l.prog w (K w.params) mg base CX0 k fa fd [x] (sp w ca))
    (hsp : ∀ (w : World) (ca : Nat → Addr) (H : Hp) (a : Addr) (ns : List Int), ns.length ≤ n → Only H → SqL (K w.params) H a (ns.map V.int) → sp w ca [.ref a] H (fun v _ => v = .bl true) fun _ _ _ => False) :
    PySem.W.WalkO q loose XP YP l.row.toRowW d [] (fun f vs => PySem.call f vs) := by
  refine Att.attach_call hn hdf fun w s₀ s₁ mg mb fa o pm cd doc a vs ns G Y ho hd hcd hmg hobj hints hlen hg => ?_
  obtain ⟨ca, fd, hb, hF⟩ := F w mg fa _ (hY w _ Y) G.T.g hmg
  exact law_callG (hY w _ Y) G.T.g G.T.b G.T.builtins G.T.nolimit hg hobj hints (Nat.le_trans hlen hn2) hr hF hb (fun H hO hS => hsp w ca H a ns hlen hO hS) fun _ _ _ z => z
end U
namespace U
open PySem PySem.Spec PyProof.Rows L2
def Sm (K : PySem.W.Frag) (H : Hp) : Nat → V → V → Prop
  | 0 => fun _ _ => False
  | n + 1 => fun x y => (x = y ∧ flatB x = true) ∨ (∃ a, x = .ref a ∧ y = .ref a) ∨ ∃ a b xs ys, x = .ref a ∧ y = .ref b ∧ SqL K H a xs ∧ SqL K H b ys ∧ Paired (Sm K H n) xs ys
section
variable {X : Cx} {pins : List (Addr × Obj)} {σ : L2.St} {H : Hp} {s : Shared}
theorem sm_items {A : Around} {F : V → V → Prop} (ih : ∀ x y v u, F x y → RelV x v → RelV y u → SeqAt.EqAt A s v u true) : ∀ {xs ys : List V} {us ws : List Value}, Paired F xs ys → Vals xs us → Vals ys ws →
    us.length = ws.length ∧ ∀ j (h1 : j < us.length) (h2 : j < ws.length), SeqAt.EqAt A s us[j] ws[j] true
  | _, _, _, _, .nil, .nil, .nil => ⟨rfl, fun j h1 _ => absurd h1 (Nat.not_lt_zero j)⟩
  | _, _, _, _, .cons h t, .cons a1 b1, .cons a2 b2 => by
    obtain ⟨e, k⟩ := sm_items ih t b1 b2
    refine ⟨congrArg Nat.succ e, fun j h1 h2 => ?_⟩
    cases j with
    | zero => exact ih _ _ _ _ h a1 a2
    | succ j => exact k j (Nat.lt_of_succ_lt_succ h1) (Nat.lt_of_succ_lt_succ h2)
theorem sm_lists (I : Inv X pins σ H s) {A : Around} {F : V → V → Prop} (ih : ∀ x y v u, F x y → RelV x v → RelV y u → SeqAt.EqAt A s v u true) {a b : Addr} {xs ys : List V} (ha : SqL X.K H a xs) (hb : SqL X.K H b ys) (p : Paired F xs ys) :
    ∃ us ws : List Value, s.heap.IsList a us.toArray ∧ s.heap.IsList b ws.toArray ∧ us.toArray.size = ws.toArray.size ∧ ∀ j (h1 : j < us.toArray.size) (h2 : j < ws.toArray.size), SeqAt.EqAt A s us.toArray[j] ws.toArray[j] true := by
  obtain ⟨us, r1, p1, _⟩ := I.list ha
  obtain ⟨ws, r2, p2, _⟩ := I.list hb
  obtain ⟨e, k⟩ := sm_items ih p r1 r2
  exact ⟨us, ws, p1.isList, p2.isList, by simpa using e, fun j h1 h2 => by simpa using k j (by simpa using h1) (by simpa using h2)⟩
theorem allT (n : Nat) : ((List.range n).all fun _ => true) = true := List.all_eq_true.mpr fun _ _ => rfl
theorem sm_run (I : Inv X pins σ H s) : ∀ (n : Nat) (A : Around), A.units + n < cLine → ∀ (x y : V) (v u : Value), Sm X.K H n x y → RelV x v → RelV y u → SeqAt.EqAt A s v u true
  | 0, _, _, _, _, _, _, h, _, _ => (show False from h).elim
  | n + 1, A, hu, x, y, v, u, h, rx, ry => by
    rcases h with ⟨rfl, f⟩ | ⟨a, rfl, rfl⟩ | ⟨a, b, xs, ys, rfl, rfl, ha, hb, p⟩
    · exact eqAt_same rx ry f
    · cases (show v = Value.ref a from rx)
      cases (show u = Value.ref a from ry)
      exact SeqAt.EqAt.same _
    · cases (show v = Value.ref a from rx)
      cases (show u = Value.ref b from ry)
      by_cases e : a = b
      · subst e; exact SeqAt.EqAt.same _
      · obtain ⟨us, ws, p1, p2, hz, k⟩ := sm_lists I (A := A.in1) (sm_run I n A.in1 (by show A.units + 1 + n < cLine; omega)) ha hb p
        have r := SeqAt.RcAt.lists (A := A) (e := fun _ => true) p1 p2 hz (by omega) k
        rw [allT] at r
        exact SeqAt.EqAt.of_refs e r
/-- two lists of the same things -/
def SmL (K : PySem.W.Frag) (H : Hp) (x y : V) : Prop := ∃ a b xs ys, x = .ref a ∧ y = .ref b ∧ SqL K H a xs ∧ SqL K H b ys ∧ Paired (Sm K H 40) xs ys
theorem op_eqS (hu : X.A.units + 64 < cLine) : OpR X (compareOp .Eq) (fun x y H Q => SmL X.K H x y ∧ Q (.bl true) H) := fun pins s σ H x y v u Q I rx ry h => by
  obtain ⟨⟨a, b, xs, ys, rfl, rfl, ha, hb, p⟩, q⟩ := h
  cases (show v = Value.ref a from rx)
  cases (show u = Value.ref b from ry)
  obtain ⟨us, ws, p1, p2, hz, k⟩ := sm_lists I (A := X.A.in1) (sm_run I 40 X.A.in1 (by show X.A.units + 1 + 40 < cLine; omega)) ha hb p
  have r := SeqAt.RcAt.lists (A := X.A) (e := fun _ => true) p1 p2 hz (by omega) k
  rw [allT] at r
  exact r X.prog X.w _ _ ⟨.bl true, H, I, rfl, q⟩
theorem op_neS (hu : X.A.units + 64 < cLine) : OpR X (compareOp .NotEq) (fun x y H Q => SmL X.K H x y ∧ Q (.bl false) H) := fun pins s σ H x y v u Q I rx ry h => by
  obtain ⟨⟨a, b, xs, ys, rfl, rfl, ha, hb, p⟩, q⟩ := h
  cases (show v = Value.ref a from rx)
  cases (show u = Value.ref b from ry)
  obtain ⟨us, ws, p1, p2, hz, k⟩ := sm_lists I (A := X.A.in1) (sm_run I 40 X.A.in1 (by show X.A.units + 1 + 40 < cLine; omega)) ha hb p
  have r := SeqAt.RcNeAt.lists (A := X.A) (e := fun _ => true) p1 p2 hz (by omega) k
  rw [allT] at r
  exact r X.prog X.w _ _ ⟨.bl false, H, I, rfl, q⟩
end
def uEq2 (K : PySem.W.Frag) : R2 := fun x y H Q => match scal x y with
  | true => Q (.bl (decide (x = y))) H
  | false => (∃ d e, Dp K H x d ∧ Dp K H y e ∧ SeqAt.shaped d = true ∧ SeqAt.shaped e = true ∧ Q (.bl (PyData.eqv d e)) H) ∨ (SmL K H x y ∧ Q (.bl true) H)
def uNe2 (K : PySem.W.Frag) : R2 := fun x y H Q => match scal x y with
  | true => Q (.bl (!decide (x = y))) H
  | false => (∃ d e, Dp K H x d ∧ Dp K H y e ∧ SeqAt.shaped d = true ∧ SeqAt.shaped e = true ∧ Q (.bl (!PyData.eqv d e)) H) ∨ (SmL K H x y ∧ Q (.bl false) H)
section
variable {X : Cx}
theorem ou_eq2 (hu : X.A.units + 64 < cLine) : OpR X (compareOp .Eq) (uEq2 X.K) := OpRi (op_eq.or ((op_eqD hu).or (op_eqS hu))) fun x y H Q h => by
  unfold uEq2 at h
  split at h
  · exact .inl ⟨by assumption, h⟩
  · exact .inr h
theorem ou_ne2 (hu : X.A.units + 64 < cLine) : OpR X (compareOp .NotEq) (uNe2 X.K) := OpRi (op_ne.or ((op_neD hu).or (op_neS hu))) fun x y H Q h => by
  unfold uNe2 at h
  split at h
  · exact .inl ⟨by assumption, h⟩
  · exact .inr h
end
end U
namespace U
open PySem PySem.Spec PyProof.Rows L2
def small (v : V) : Prop := match v with | .str z => z.length ≤ 1000 | _ => True
/-- a value of a known kind, no long text -/
def Kn (H : Hp) (v : V) : Prop := (tyOf H v).isSome = true ∧ small v
def BoxAt (H : Hp) (b : Addr) (n : Nat) : Prop := ∃ x y z : Int, H b = some (.lst [.int x, .int y, .int z]) ∧ 0 ≤ x ∧ 0 ≤ y ∧ y < 2147483629 ∧ 0 ≤ z ∧ z ≤ n
theorem BoxAt.new {H : Hp} {b p : Addr} {n : Nat} {o : HO} (h : BoxAt H b n) (hp : H p = none) : BoxAt (upd H p o) b n := by
  obtain ⟨x, y, z, e, r⟩ := h
  exact ⟨x, y, z, by rw [upd_ne (ne_of_none e hp)]; exact e, r⟩
theorem BoxAt.ex {H H' : Hp} {b : Addr} {n : Nat} (h : BoxAt H b n) (e : Ex H H') : BoxAt H' b n := by
  obtain ⟨x, y, z, h, r⟩ := h
  exact ⟨x, y, z, e _ _ h, r⟩
/-- something else at an address that is no box -/
theorem BoxAt.off {H : Hp} {b p : Addr} {n : Nat} {o : HO} (h : BoxAt H b n) (hp : H p = some o) (ho : ∀ x y z, o ≠ .lst [.int x, .int y, .int z]) : p ≠ b := by
  obtain ⟨x, y, z, e, _⟩ := h
  exact ne_of hp e (ho x y z)
theorem tyOf_ex {H H' : Hp} {v : V} {t : Ty} (h : tyOf H v = some t) (e : Ex H H') : tyOf H' v = some t := by
  cases v with
  | ref a =>
    have h : (H a).bind tyO = some t := h
    cases q : H a with
    | none => rw [q] at h; cases h
    | some o =>
      rw [q] at h
      show (H' a).bind tyO = some t
      rw [e _ _ q]; exact h
  | _ => exact h
theorem Kn.ex {H H' : Hp} {v : V} (h : Kn H v) (e : Ex H H') : Kn H' v := by
  obtain ⟨h1, h2⟩ := h
  obtain ⟨t, ht⟩ := Option.isSome_iff_exists.mp h1
  exact ⟨by rw [tyOf_ex ht e]; rfl, h2⟩
theorem log_small {i : Int} (h1 : -(10 ^ 40) < i) (h2 : i < 10 ^ 40) : i.natAbs.log2 < 1920 := by
  by_cases h : i.natAbs = 0
  · rw [h]; decide
  · rw [Nat.log2_lt h]
    have : i.natAbs < 10 ^ 40 := by omega
    exact Nat.lt_of_lt_of_le this (by decide +kernel)
theorem len_small {i : Int} (h1 : -(10 ^ 40) < i) (h2 : i < 10 ^ 40) : (Str.ofString (toString i)).length ≤ 41 := by
  have h := int_text_length_le10 (a := i) (k := 40) (by decide) (by omega)
  rw [PySem.ofString_length]
  omega
end U
namespace U
open PySem PySem.Spec PyProof.Rows L2
mutual
inductive Dn (b : Addr) (H : Hp) : V → PyData → Prop
  | non : Dn b H .non .none
  | bl (k : Bool) : Dn b H (.bl k) (.bool k)
  | int (i : Int) : Dn b H (.int i) (.int i)
  | str (z : Str) : Dn b H (.str z) (.str z)
  | lst {a : Addr} {xs : List V} {ds : List PyData} : a ≠ b → H a = some (.lst xs) → DnAll b H xs ds → Dn b H (.ref a) (.list ds)
  | tup {a : Addr} {xs : List V} {ds : List PyData} : a ≠ b → H a = some (.tup xs) → DnAll b H xs ds → Dn b H (.ref a) (.tuple ds)
  | dct {a : Addr} : a ≠ b → H a = some (.dK []) → Dn b H (.ref a) (.dict [])
inductive DnAll (b : Addr) (H : Hp) : List V → List PyData → Prop
  | nil : DnAll b H [] []
  | cons {v : V} {vs : List V} {d : PyData} {ds : List PyData} : Dn b H v d → DnAll b H vs ds → DnAll b H (v :: vs) (d :: ds)
end
mutual
theorem Dn.fr {b : Addr} {H H' : Hp} (f : Fr b H H') : ∀ (d : PyData) {v : V}, Dn b H v d → Dn b H' v d
  | .none, _, h => by cases h; exact .non
  | .bool _, _, h => by cases h; exact .bl _
  | .int _, _, h => by cases h; exact .int _
  | .str _, _, h => by cases h; exact .str _
  | .list ds, _, h => by
    cases h with
    | lst h1 h2 h3 => exact .lst h1 (f _ _ h2 h1) (DnAll.fr f ds h3)
  | .tuple ds, _, h => by
    cases h with
    | tup h1 h2 h3 => exact .tup h1 (f _ _ h2 h1) (DnAll.fr f ds h3)
  | .dict _, _, h => by
    cases h with
    | dct h1 h2 => exact .dct h1 (f _ _ h2 h1)
theorem DnAll.fr {b : Addr} {H H' : Hp} (f : Fr b H H') : ∀ (ds : List PyData) {vs : List V}, DnAll b H vs ds → DnAll b H' vs ds
  | [], _, h => by cases h; exact .nil
  | d :: ds, _, h => by
    cases h with
    | cons h1 h2 => exact .cons (Dn.fr f d h1) (DnAll.fr f ds h2)
end
theorem Dn.go {b : Addr} {H H' : Hp} {d : PyData} {v : V} (h : Dn b H v d) (f : Fr b H H') : Dn b H' v d := Dn.fr f d h
theorem Dn.ex {b : Addr} {H H' : Hp} {d : PyData} {v : V} (h : Dn b H v d) (e : Ex H H') : Dn b H' v d := Dn.fr (Fr.ex e) d h
theorem DnAll.go {b : Addr} {H H' : Hp} {ds : List PyData} {vs : List V} (h : DnAll b H vs ds) (f : Fr b H H') : DnAll b H' vs ds := DnAll.fr f ds h
theorem DnAll.ex {b : Addr} {H H' : Hp} {ds : List PyData} {vs : List V} (h : DnAll b H vs ds) (e : Ex H H') : DnAll b H' vs ds := DnAll.fr (Fr.ex e) ds h
theorem DnAll.len {b : Addr} {H : Hp} : ∀ {vs : List V} {ds : List PyData}, DnAll b H vs ds → vs.length = ds.length
  | _, _, .nil => rfl
  | _, _, .cons _ h => by rw [List.length_cons, List.length_cons, h.len]
theorem DnAll.app {b : Addr} {H : Hp} : ∀ {vs ws : List V} {ds es : List PyData}, DnAll b H vs ds → DnAll b H ws es → DnAll b H (vs ++ ws) (ds ++ es)
  | _, _, _, _, .nil, h => h
  | _, _, _, _, .cons h1 h2, h => .cons h1 (h2.app h)
theorem DnAll.drop {b : Addr} {H : Hp} : ∀ (n : Nat) {vs : List V} {ds : List PyData}, DnAll b H vs ds → DnAll b H (vs.drop n) (ds.drop n)
  | 0, _, _, h => by simpa using h
  | n + 1, _, _, .nil => by simpa using DnAll.nil
  | n + 1, _, _, .cons _ h => by simpa using h.drop n
theorem DnAll.take {b : Addr} {H : Hp} : ∀ (n : Nat) {vs : List V} {ds : List PyData}, DnAll b H vs ds → DnAll b H (vs.take n) (ds.take n)
  | 0, _, _, h => by simpa using DnAll.nil
  | n + 1, _, _, .nil => by simpa using DnAll.nil
  | n + 1, _, _, .cons h1 h => by simpa using DnAll.cons h1 (h.take n)
theorem DnAll.at {b : Addr} {H : Hp} : ∀ {vs : List V} {ds : List PyData}, DnAll b H vs ds → ∀ (i : Nat) {v : V}, vs[i]? = some v → ∃ d, ds[i]? = some d ∧ Dn b H v d
  | _, _, .nil, i, v, e => by simp at e
  | _, _, .cons h1 h2, 0, v, e => by
    simp at e; subst e
    exact ⟨_, rfl, h1⟩
  | _, _, .cons h1 h2, i + 1, v, e => by
    obtain ⟨d, h3, h4⟩ := h2.at i (by simpa using e)
    exact ⟨d, by simpa using h3, h4⟩
mutual
theorem Dn.dp {b : Addr} {H : Hp} {K : PySem.W.Frag} : ∀ (d : PyData) {v : V}, Dn b H v d → d.hasDict = false → Dp K H v d
  | .none, _, h, _ => by cases h; exact .non
  | .bool _, _, h, _ => by cases h; exact .bl _
  | .int _, _, h, _ => by cases h; exact .int _
  | .str _, _, h, _ => by cases h; exact .str _
  | .list ds, _, h, g => by
    cases h with
    | lst h1 h2 h3 => exact .lst (.inl (.inl h2)) (DnAll.dp ds h3 (by simpa only [PyData.hasDict] using g))
  | .tuple ds, _, h, g => by
    cases h with
    | tup h1 h2 h3 => exact .tup (.inl (.inl h2)) (DnAll.dp ds h3 (by simpa only [PyData.hasDict] using g))
  | .dict _, _, _, g => by simp only [PyData.hasDict] at g; cases g
theorem DnAll.dp {b : Addr} {H : Hp} {K : PySem.W.Frag} : ∀ (ds : List PyData) {vs : List V}, DnAll b H vs ds → PyData.hasDictAll ds = false → DpAll K H vs ds
  | [], _, h, _ => by cases h; exact .nil
  | d :: ds, _, h, g => by
    cases h with
    | cons h1 h2 =>
      simp only [PyData.hasDictAll, Bool.or_eq_false_iff] at g
      exact .cons (Dn.dp d h1 g.1) (DnAll.dp ds h2 g.2)
end
section
variable {X : Cx} {pins : List (Addr × Obj)} {σ : L2.St} {H : Hp} {s : Shared} {b : Addr}
theorem dk_empty_at (I : Inv X pins σ H s) {a : Addr} (h : H a = some (.dK [])) : (a == sysModules) = false ∧ ∃ (o : Obj) (n : Nat), s.heap.get? a = some o ∧ o.cls = .type "dict" ∧ o.data = .dict #[] n := by
  obtain ⟨_, h2, vs, kv, o, es, ep, g1, g2, g3, _, g5, _⟩ := (show ObjOk X.prog X.w H s.heap a (.dK []) from I.hok a _ h)
  cases kv
  obtain ⟨l⟩ := es
  cases (show Pairs (mixKind X.prog X.w) l [] from g5)
  exact ⟨h2, o, ep, g1, g2.1, g3⟩
end
/-- data that repr takes -/
structure Okd (d : PyData) : Prop where
  sh : d.showable = true
  lv : d.leavesShort 41 = true
  dp : d.depth ≤ 20
  wt : d.weight ≤ 200000
theorem Okd.size {d : PyData} (h : Okd d) : d.shown.length ≤ sizeLine := by
  have := PyData.shown_le 41 (by decide) d h.lv
  have h2 := h.wt
  have h3 : 43 * d.weight ≤ 43 * 200000 := Nat.mul_le_mul_left _ h2
  rw [sizeLine_eq]; omega
end U
namespace U
open PySem PySem.Spec PyProof.Rows L2
def uMul3 : R2 := fun x y H Q => match x, y with
  | .int i, .int j => CMul i j ∧ Q (.int (i * j)) H
  | .str z, .int k => MulOk z k ∧ Q (.str (Txt.mul z k)) H
  | .ref l, .int k => oK (mutL H l) fun xs => -(2 ^ 63) ≤ k ∧ k < 2 ^ 63 ∧ xs.length * k.toNat ≤ sizeLine ∧ ∀ p, H p = none → Q (.ref p) (upd H p (.lst (List.replicate k.toNat xs).flatten))
  | _, _ => False
section
variable {X : Cx}
theorem op_mulS : OpR X (binaryOp .Mult) (fun x y H Q => ∃ z k, x = V.str z ∧ y = .int k ∧ MulOk z k ∧ Q (.str (Txt.mul z k)) H) := fun pins s σ H x y v u Q I rx ry h => by
  obtain ⟨z, k, rfl, rfl, h1, h2⟩ := h
  obtain ⟨t, rfl⟩ := rx
  obtain ⟨t', rfl⟩ := ry
  exact SB.mul h1 fun t2 k2 => ⟨.str _, H, I.tok k2, ⟨_, rfl⟩, h2⟩
theorem ou_mul3 : OpR X (binaryOp .Mult) uMul3 := OpRi (op_mul.or (op_mulS.or op_rep)) fun x y H Q h => by
  unfold uMul3 at h
  split at h
  · exact .inl ⟨_, _, rfl, rfl, h⟩
  · exact .inr (.inl ⟨_, _, rfl, rfl, h⟩)
  · obtain ⟨xs, e, h1, h2, h3, h4⟩ := oK_ex h
    exact .inr (.inr ⟨_, _, xs, rfl, rfl, of_mutL e, h1, h2, h3, h4⟩)
  · exact h.elim
end
def gTs (K : PySem.W.Frag) (n : Nat) (t : TGs) : TG := fun v σ H Q => match v with
  | .ref a => ∃ xs, (SqT K H a xs ∨ SqL K H a xs) ∧ xs.length = n ∧ t xs σ H Q
  | _ => False
theorem pg_ts {X : Cx} {pos : Pos} {es : List Expr} {k : Nat} {t : TGs} {n : Nat} (hc : X.calm = true) (h : PGs X es t)
    (hn : (assignEach es X.env).length = n := by rfl) (hst : (assignEach es X.env).findIdx? (·.1) = none := by rfl) : PG X (.Tuple es k pos) (gTs X.K n t) := ⟨fun pins s σ H v u Q I r hw => by
  cases v with
  | ref a =>
    obtain ⟨xs, h1, h2, h3⟩ := hw
    rcases h1 with h1 | h1
    · exact (pg_tup hc h hn hst).run pins s σ H _ u Q I r ⟨_, _, rfl, h1, h2, h3⟩
    · exact (pg_unl hc h hn hst).run pins s σ H _ u Q I r ⟨_, _, rfl, h1, h2, h3⟩
  | _ => exact hw.elim⟩
end U
namespace U
open PySem PySem.Spec PyProof.Rows L2
abbrev Tk := Str × Str
def tokD (t : Tk) : PyData := .tuple [.str t.1, .str t.2]
def textD (ts : List Tk) : PyData := .list (ts.map tokD)
def tyD : PyData → Ty
  | .none => .non | .bool _ => .bl | .int _ => .int | .str _ => .str | .list _ => .lst | .tuple _ => .tup | .dict _ => .dct
theorem Dn.ty {b : Addr} {H : Hp} {v : V} {d : PyData} (h : Dn b H v d) : tyOf H v = some (tyD d) := by
  cases h with
  | lst _ h _ => show (H _).bind tyO = _; rw [h]; rfl
  | tup _ h _ => show (H _).bind tyO = _; rw [h]; rfl
  | dct _ h => show (H _).bind tyO = _; rw [h]; rfl
  | _ => rfl
/-- a row of tokens in the heap -/
def ToksAt (b : Addr) (H : Hp) (vs : List V) (ts : List Tk) : Prop := DnAll b H vs (ts.map tokD)
theorem dn_tok {b : Addr} {H : Hp} {v : V} {t : Tk} (h : Dn b H v (tokD t)) : ∃ r, v = .ref r ∧ r ≠ b ∧ H r = some (.tup [.str t.1, .str t.2]) := by
  unfold tokD at h
  cases h with
  | @tup a xs _ h1 h2 h3 =>
    cases h3 with
    | cons g1 g2 =>
      cases g1
      cases g2 with
      | cons g3 g4 =>
        cases g3
        cases g4
        exact ⟨a, rfl, h1, h2⟩
theorem tok_dn {b : Addr} {H : Hp} {r : Addr} {t : Tk} (h1 : r ≠ b) (h : H r = some (.tup [.str t.1, .str t.2])) : Dn b H (.ref r) (tokD t) := .tup h1 h (.cons (.str _) (.cons (.str _) .nil))
theorem ToksAt.at {b : Addr} {H : Hp} {vs : List V} {ts : List Tk} (h : ToksAt b H vs ts) {i : Nat} {v : V} (e : vs[i]? = some v) : ∃ t r, ts[i]? = some t ∧ v = .ref r ∧ r ≠ b ∧ H r = some (.tup [.str t.1, .str t.2]) := by
  obtain ⟨d, h1, h2⟩ := DnAll.at h i e
  rw [List.getElem?_map] at h1
  cases e2 : ts[i]? with
  | none => rw [e2] at h1; cases h1
  | some t =>
    rw [e2] at h1; cases h1
    obtain ⟨r, h3, h4, h5⟩ := dn_tok h2
    exact ⟨t, r, rfl, h3, h4, h5⟩
theorem ToksAt.len {b : Addr} {H : Hp} {vs : List V} {ts : List Tk} (h : ToksAt b H vs ts) : vs.length = ts.length := by
  have := DnAll.len h
  rwa [List.length_map] at this
/-- a text lies at p -/
def TextAt (b : Addr) (H : Hp) (p : Addr) (ts : List Tk) : Prop := p ≠ b ∧ ∃ vs, H p = some (.lst vs) ∧ ToksAt b H vs ts
theorem TextAt.go {b : Addr} {H H' : Hp} {p : Addr} {ts : List Tk} (h : TextAt b H p ts) (f : Fr b H H') : TextAt b H' p ts := by
  obtain ⟨h1, vs, h2, h3⟩ := h
  exact ⟨h1, vs, f _ _ h2 h1, DnAll.go h3 f⟩
theorem ToksAt.go {b : Addr} {H H' : Hp} {vs : List V} {ts : List Tk} (h : ToksAt b H vs ts) (f : Fr b H H') : ToksAt b H' vs ts := DnAll.go h f
theorem ToksAt.ex {b : Addr} {H H' : Hp} {vs : List V} {ts : List Tk} (h : ToksAt b H vs ts) (f : Ex H H') : ToksAt b H' vs ts := DnAll.ex h f
/-- tokens stay where a list is changed -/
theorem ToksAt.set {b : Addr} {H : Hp} {p : Addr} {xs ys : List V} : ∀ {vs : List V} {ts : List Tk}, ToksAt b H vs ts → H p = some (.lst xs) → ToksAt b (upd H p (.lst ys)) vs ts
  | [], [], _, _ => .nil
  | [], t :: ts, h, _ => nomatch h
  | v :: vs, [], h, _ => nomatch h
  | v :: vs, t :: ts, h, hp => by
    cases h with
    | cons h1 h2 =>
      obtain ⟨r, rfl, hr, e⟩ := dn_tok h1
      refine .cons (tok_dn hr ?_) (ToksAt.set (ts := ts) h2 hp)
      rw [upd_ne (ne_of e hp (by intro z; cases z))]
      exact e
end U
namespace U
open PySem PySem.Spec PyProof.Rows L2
structure Shp (n : Nat) (d : PyData) : Prop where
  sh : d.showable = true
  lv : d.leavesShort 41 = true
  dp : d.depth ≤ n
theorem Shp.all {n : Nat} : ∀ {ds : List PyData}, (∀ d ∈ ds, Shp n d) → PyData.showableAll ds = true ∧ PyData.leavesShortAll 41 ds = true ∧ PyData.depthAll ds ≤ n
  | [], _ => ⟨by simp only [PyData.showableAll], by simp only [PyData.leavesShortAll], by simp only [PyData.depthAll]; omega⟩
  | d :: ds, h => by
    obtain ⟨h1, h2, h3⟩ := Shp.all fun e he => h e (List.mem_cons_of_mem _ he)
    have h0 := h d List.mem_cons_self
    refine ⟨?_, ?_, ?_⟩
    · simp only [PyData.showableAll, h0.sh, h1, Bool.and_self]
    · simp only [PyData.leavesShortAll, h0.lv, h2, Bool.and_self]
    · simp only [PyData.depthAll]; have := h0.dp; omega
theorem Shp.lst {n : Nat} {ds : List PyData} (h : ∀ d ∈ ds, Shp n d) : Shp (n + 1) (.list ds) := by
  obtain ⟨h1, h2, h3⟩ := Shp.all h
  exact ⟨by simp only [PyData.showable, h1], by simp only [PyData.leavesShort, h2], by simp only [PyData.depth]; omega⟩
theorem Shp.tup {n : Nat} {ds : List PyData} (h : ∀ d ∈ ds, Shp n d) : Shp (n + 1) (.tuple ds) := by
  obtain ⟨h1, h2, h3⟩ := Shp.all h
  exact ⟨by simp only [PyData.showable, h1], by simp only [PyData.leavesShort, h2], by simp only [PyData.depth]; omega⟩
theorem Shp.str {n : Nat} {z : Str} (h : sok z) : Shp n (.str z) := by
  refine ⟨by simp only [PyData.showable], ?_, by simp only [PyData.depth]; omega⟩
  simp only [PyData.leavesShort, List.all_eq_true, decide_eq_true_eq]
  intro c hc
  have := h c hc
  omega
theorem Shp.non {n : Nat} : Shp n .none := ⟨by simp only [PyData.showable], by simp only [PyData.leavesShort], by simp only [PyData.depth]; omega⟩
theorem Shp.bl {n : Nat} (b : Bool) : Shp n (.bool b) := ⟨by simp only [PyData.showable], by simp only [PyData.leavesShort], by simp only [PyData.depth]; omega⟩
theorem Shp.dct {n : Nat} : Shp (n + 1) (.dict []) := ⟨by simp only [PyData.showable, PyData.showableKv], by simp only [PyData.leavesShort, PyData.leavesShortKv], by simp only [PyData.depth, PyData.depthKv]; omega⟩
theorem Shp.int {n : Nat} {i : Int} (h1 : -(10 ^ 40) < i) (h2 : i < 10 ^ 40) : Shp n (.int i) := by
  refine ⟨?_, ?_, by simp only [PyData.depth]; omega⟩
  · simp only [PyData.showable, decide_eq_true_eq]; exact log_small h1 h2
  · simp only [PyData.leavesShort, decide_eq_true_eq]
    have e : PyData.shown (.int i) = Str.ofString (toString i) := by simp [PyData.shown]
    rw [e]; exact len_small h1 h2
def SokT (ts : List Tk) : Prop := ∀ t ∈ ts, sok t.1 ∧ sok t.2
theorem Shp.tok {t : Tk} (h : sok t.1 ∧ sok t.2) : Shp 1 (tokD t) := .tup (n := 0) (by
  intro d hd
  simp only [List.mem_cons, List.not_mem_nil, or_false] at hd
  rcases hd with rfl | rfl
  · exact .str h.1
  · exact .str h.2)
theorem Shp.text {ts : List Tk} (h : SokT ts) : Shp 2 (textD ts) := .lst (n := 1) (by
  intro d hd
  obtain ⟨t, ht, rfl⟩ := List.mem_map.mp hd
  exact .tok (h t ht))
end U
namespace PySem
open Sem (wp)
abbrev zipObj (f0 : Value) (f1 : Bool) (TI TO : Addr) : Obj := { cls := .type "zip", dict := none, data := .fields #[f0, .bool f1, .bool false, .ref TI, .ref TO], slots := #[] }
def ZipSt (h : Heap) (z TI TO : Addr) : Prop := ∃ (f0 : Value) (f1 : Bool), (f0 = .none ∨ ∃ a : Nat, f0 = rawInt a) ∧ h.get? z = some (zipObj f0 f1 TI TO)
end PySem
namespace U
open PySem PySem.Spec PyProof.Rows L2
/-- a list, a tuple, a text -/
inductive Kd | l (a : Addr) | t (a : Addr) | s (z : Str) (k : Tok)
def Kd.v : Kd → V | l a => .ref a | t a => .ref a | s z _ => .str z
def Kd.u : Kd → Value | l a => .ref a | t a => .ref a | s z k => .str z k
def Kd.sq (K : PySem.W.Frag) (H : Hp) : Kd → List V → Prop
  | l a, xs => SqL K H a xs
  | t a, xs => SqT K H a xs
  | s z _, xs => xs = chars z
def Kd.at (h : Heap) (it : Addr) (i : Nat) : Kd → Prop
  | l a => h.IsListIter it a i
  | t a => h.IsTupleIter it a i
  | s z k => h.IsStrIter it (strIterType z) z k i
def Kd.away (c : Addr) : Kd → Prop
  | l a => a ≠ c
  | t a => a ≠ c
  | s _ _ => True
def Kd.obj : Kd → Obj
  | l a => { cls := .type "list_iterator", data := .fields #[.ref a, .int 0 0] }
  | t a => { cls := .type "tuple_iterator", data := .fields #[.ref a, .int 0 0] }
  | s z k => { cls := .type (strIterType z), data := .fields #[.str z k, .int 0 0] }
theorem Kd.at_get {k : Kd} {h : Heap} {it : Addr} {i : Nat} (p : k.at h it i) : ∃ o, h.get? it = some o ∧ ∀ v, o.data ≠ .cell v := by
  cases k <;> (obtain ⟨o, ho, hc, hd⟩ := p; exact ⟨o, ho, fun v q => by rw [hd] at q; cases q⟩)
theorem Kd.at_keep {k : Kd} {h h' : Heap} {it : Addr} {i : Nat} (p : k.at h it i) (q : ∀ o, h.get? it = some o → h'.get? it = some o) : k.at h' it i := by
  cases k with
  | l a => exact Heap.IsListIter.at p q
  | t a => exact Heap.IsTupleIter.at p q
  | s z k => obtain ⟨o, ho, r⟩ := p; exact ⟨o, q o ho, r⟩
theorem Kd.sq_inj {X : Cx} {pins : List (Addr × Obj)} {σ : L2.St} {H : Hp} {s : Shared} (I : Inv X pins σ H s) {k : Kd} {xs ys : List V} (p : k.sq X.K H xs) (q : k.sq X.K H ys) : xs = ys := by
  cases k with
  | l a => exact I.list_inj p q
  | t a => exact I.tuple_inj p q
  | s z k => exact p.trans q.symm
theorem Kd.draws {X : Cx} {pins : List (Addr × Obj)} {σ : L2.St} {H : Hp} {s : Shared} (I : Inv X pins σ H s) {k : Kd} {xs : List V} {it : Addr} (hq : k.sq X.K H xs) (ha : k.away it) {A : Around} (hh : A.handled = none) :
    ∃ (fp : List Addr) (Pv : Nat → Value → Prop) (St : Nat → Heap → Prop), Draws X.prog X.w A it fp xs.length Pv St ∧ it ∈ fp ∧ (∀ c ∈ fp, c = it ∨ ¬ k.away c) ∧ (∀ i, k.at s.heap it i → St i s.heap) ∧ (∀ i h, St i h → k.at h it i) ∧ ∀ i u, Pv i u → ∃ x, xs[i]? = some x ∧ RelV x u := by
  cases k with
  | l a =>
    obtain ⟨its, rv, p, _⟩ := I.list hq
    have e : its.toArray.size = xs.length := by have := rv.length; simp; omega
    have D := Draws.list (prog := X.prog) (w := X.w) hh it a ha its.toArray
    rw [e] at D
    refine ⟨_, _, _, D, by simp, fun c hc => ?_, fun i q => ⟨q, p.isList⟩, fun i h q => q.1, fun i u q => ?_⟩
    · rcases (by simpa using hc : c = it ∨ c = a) with z | z
      · exact .inl z
      · exact .inr fun q => q z.symm
    · have hlt : i < xs.length := by
        have := (Array.getElem?_eq_some_iff.mp q).1
        omega
      obtain ⟨u', hu, ru⟩ := rv.get (show xs[i]? = some xs[i] by simp [hlt])
      rw [show its.toArray[i]? = some u' by simpa using hu] at q
      cases q
      exact ⟨_, by simp [hlt], ru⟩
  | t a =>
    obtain ⟨its, rv, p, _⟩ := I.tuple hq
    have e : its.toArray.size = xs.length := by have := rv.length; simp; omega
    have D := Draws.tuple (prog := X.prog) (w := X.w) hh it a ha its.toArray
    rw [e] at D
    refine ⟨_, _, _, D, by simp, fun c hc => ?_, fun i q => ⟨q, p⟩, fun i h q => q.1, fun i u q => ?_⟩
    · rcases (by simpa using hc : c = it ∨ c = a) with z | z
      · exact .inl z
      · exact .inr fun q => q z.symm
    · have hlt : i < xs.length := by
        have := (Array.getElem?_eq_some_iff.mp q).1
        omega
      obtain ⟨u', hu, ru⟩ := rv.get (show xs[i]? = some xs[i] by simp [hlt])
      rw [show its.toArray[i]? = some u' by simpa using hu] at q
      cases q
      exact ⟨_, by simp [hlt], ru⟩
  | s z k =>
    have D := Draws.text (prog := X.prog) (w := X.w) hh it z k
    have hl : (chars z).length = z.cps.size := by unfold chars; simp
    cases hq
    rw [← hl] at D
    refine ⟨_, _, _, D, by simp, fun c hc => .inl (by simpa using hc), fun i q => q, fun i h q => q, fun i u q => ?_⟩
    obtain ⟨c, t, hc, rfl⟩ := q
    refine ⟨.str ⟨#[c]⟩, ?_, ⟨t, rfl⟩⟩
    unfold chars
    rw [List.getElem?_map, Array.getElem?_toList, hc]
    rfl
theorem Kd.begins {X : Cx} {pins : List (Addr × Obj)} {σ : L2.St} {H : Hp} {s : Shared} (I : Inv X pins σ H s) {k : Kd} {xs : List V} (hq : k.sq X.K H xs) : ∃ Hp', Begins k.u k.obj Hp' ∧ Hp' s.heap := by
  cases k with
  | l a => obtain ⟨its, rv, p, _⟩ := I.list hq; exact ⟨_, begins_list a its.toArray, p.isList⟩
  | t a => obtain ⟨its, rv, p, _⟩ := I.tuple hq; exact ⟨_, begins_tuple a its.toArray, p⟩
  | s z k => exact ⟨_, begins_text z k, trivial⟩
theorem Kd.at0 {k : Kd} {h : Heap} {it : Addr} (q : h.get? it = some k.obj) : k.at h it 0 := by
  cases k <;> exact ⟨_, q, rfl, rfl⟩
theorem Kd.away_of {X : Cx} {pins : List (Addr × Obj)} {σ : L2.St} {H : Hp} {s : Shared} (I : Inv X pins σ H s) {k : Kd} {xs : List V} (hq : k.sq X.K H xs) {c : Addr} (hc : s.heap.objs.size ≤ c) : k.away c := by
  cases k with
  | l a => obtain ⟨its, rv, ⟨o, n, e, _⟩, _⟩ := I.list hq; exact fun z => absurd (Heap.lt_size e) (Nat.not_lt.mpr (by rw [z]; exact hc))
  | t a => obtain ⟨its, rv, ⟨o, e, _⟩, _⟩ := I.tuple hq; exact fun z => absurd (Heap.lt_size e) (Nat.not_lt.mpr (by rw [z]; exact hc))
  | s z k => trivial
/-- .. its next item, or the end -/
structure Inner (P : Program) (w : World) (K : PySem.W.Frag) (J : It) (fp : List Addr) (it : Addr) (tn : Nat → Heap → Prop) : Prop where
  mem : it ∈ fp
  obj : ∀ i h, tn i h → ∀ b ∈ fp, ∃ o, h.get? b = some o ∧ ∀ v, o.data ≠ .cell v
  keep : ∀ i h h', tn i h → (∀ b ∈ fp, ∀ o, h.get? b = some o → h'.get? b = some o) → tn i h'
  item : ∀ (X : Cx), X.prog = P → X.w = w → X.K = K → ∀ (A : Around), A.handled = none → ∀ (i : Nat) (pins : List (Addr × Obj)) (s : Shared) (σ : L2.St) (H : Hp) (E : Value → Shared → Prop), Inv X pins σ H s → (∀ b ∈ fp, FpOk X pins H b) → tn i s.heap → J.go i H →
    wpAny (model P w) A (Builtin.SmallTypes.nextOf (.ref it)) (fun u s2 => ∃ x H', Inv X pins σ H' s2 ∧ RelV x u ∧ J.yld i H x H' ∧ tn (i + 1) s2.heap ∧ ∀ b ∈ fp, H' b = none) E s
  done : ∀ (X : Cx), X.prog = P → X.w = w → X.K = K → ∀ (A : Around), A.handled = none → ∀ (i : Nat) (pins : List (Addr × Obj)) (s : Shared) (σ : L2.St) (H : Hp) (Q : Value → Shared → Prop), Inv X pins σ H s → (∀ b ∈ fp, FpOk X pins H b) → tn i s.heap → J.stop i H →
    wpAny (model P w) A (Builtin.SmallTypes.nextOf (.ref it)) Q (fun e s1 => (∃ b o, e = .ref b ∧ s1.heap.get? b = some o ∧ o.cls = .type "StopIteration") ∧ Inv X pins σ H s1) s
def JKd (K : PySem.W.Frag) (k : Kd) : It :=
  ⟨fun i H => ∃ (xs : List V) (x : V), k.sq K H xs ∧ xs[i]? = some x, fun i H v H' => H' = H ∧ ∀ xs, k.sq K H xs → xs[i]? = some v, fun i H => k.sq K H [] ∧ i = 0 ∨ ∃ xs, k.sq K H xs ∧ xs.length = i⟩
theorem inner_kd {P : Program} {w : World} {K : PySem.W.Frag} (k : Kd) (it : Addr) (ha : k.away it) : Inner P w K (JKd K k) [it] it (fun i h => k.at h it i) where
  mem := by simp
  obj := fun i h st b hb => by
    have e : b = it := by simpa using hb
    subst e; exact Kd.at_get st
  keep := fun i h h' st q => Kd.at_keep st fun o e => q it (by simp) o e
  item := by
    intro X hP hw hK A hh i pins s σ H E I hf st hg
    subst hP hw hK
    obtain ⟨xs, x, hq, hx⟩ := hg
    obtain ⟨fp, Pv, St, D, hm, _, h1, h2, h3⟩ := Kd.draws I hq ha hh
    have hlt : i < xs.length := (List.getElem?_eq_some_iff.mp hx).1
    refine D.item i s _ _ hlt (h1 i st) fun u h' tk hP st' sb => ?_
    obtain ⟨y, hy, ry⟩ := h3 i u hP
    obtain ⟨f0, f1, f2, f3, f4, f5⟩ := hf it (by simp)
    exact ⟨y, H, I.turned (fun b o hb e => sb.extBut b o hb e) f0 f1 f3 f4 f5, ry, ⟨rfl, fun l hl => by rw [Kd.sq_inj I hl hq]; exact hy⟩, h2 _ _ st', fun b hb => (hf b hb).1⟩
  done := by
    intro X hP hw hK A hh i pins s σ H Q I hf st hg
    subst hP hw hK
    obtain ⟨xs, hq, hx⟩ : ∃ xs, k.sq X.K H xs ∧ xs.length = i := by
      rcases hg with ⟨q, e⟩ | q
      · exact ⟨[], q, e.symm⟩
      · exact q
    obtain ⟨fp, Pv, St, D, hm, _, h1, h2, h3⟩ := Kd.draws I hq ha hh
    subst hx
    refine D.done s _ _ (h1 _ st) fun h' e eb he => ?_
    obtain ⟨o, ho, hc⟩ := he
    obtain ⟨f0, f1, f2, f3, f4, f5⟩ := hf it (by simp)
    exact ⟨⟨e, o, rfl, ho, hc⟩, I.turned (t' := s.toks) (fun b o hb q => eb b o hb q) f0 f1 f3 f4 f5⟩
def ZTn (z TI TO i1 i2 : Addr) (k1 k2 : Kd) (i : Nat) (h : Heap) : Prop := ZipSt h z TI TO ∧ IsTupOf2 h TI (.ref i1) (.ref i2) ∧ (∃ x y, IsTupOf2 h TO x y) ∧ k1.at h i1 i ∧ k2.at h i2 i
section
variable {z TI TO i1 i2 : Addr} {k1 k2 : Kd}
theorem ZTn.obj {i : Nat} {h : Heap} (st : ZTn z TI TO i1 i2 k1 k2 i h) (c : Addr) (hc : c ∈ [z, TI, TO, i1, i2]) : ∃ o, h.get? c = some o ∧ ∀ v, o.data ≠ .cell v := by
  obtain ⟨⟨f0, f1, _, hz⟩, hTI, ⟨x, y, hTO⟩, h1, h2⟩ := st
  have e' : c = z ∨ c = TI ∨ c = TO ∨ c = i1 ∨ c = i2 := by simpa using hc
  rcases e' with q | q | q | q | q
  · rw [q]; exact ⟨_, hz, fun v q => nomatch q⟩
  · rw [q]; exact ⟨_, hTI, fun v q => nomatch q⟩
  · rw [q]; exact ⟨_, hTO, fun v q => nomatch q⟩
  · rw [q]; exact Kd.at_get h1
  · rw [q]; exact Kd.at_get h2
theorem ZTn.keep {i : Nat} {h h' : Heap} (st : ZTn z TI TO i1 i2 k1 k2 i h) (k : ∀ b ∈ [z, TI, TO, i1, i2], ∀ o, h.get? b = some o → h'.get? b = some o) : ZTn z TI TO i1 i2 k1 k2 i h' := by
  obtain ⟨⟨f0, f1, h0, hz⟩, hTI, ⟨x, y, hTO⟩, h1, h2⟩ := st
  exact ⟨⟨f0, f1, h0, k z (by simp) _ hz⟩, k TI (by simp) _ hTI, ⟨x, y, k TO (by simp) _ hTO⟩, Kd.at_keep h1 fun o q => k i1 (by simp) o q, Kd.at_keep h2 fun o q => k i2 (by simp) o q⟩
end
def JEnum (J : It) : It := ⟨J.go, fun i H v H' => ∃ T x H1, v = .ref T ∧ J.yld i H x H1 ∧ H1 T = none ∧ H' = upd H1 T (.tup [.int (i : Nat), x]), J.stop⟩
theorem fpOk_pin {X : Cx} {pins : List (Addr × Obj)} {H : Hp} {b e : Addr} {o : Obj} (h : FpOk X pins H b) (hne : e ≠ b) : FpOk X ((e, o) :: pins) H b := by
  obtain ⟨f0, f1, f2, f3, f4, f5⟩ := h
  refine ⟨f0, f1, f2, f3, f4, fun p hp => ?_⟩
  rcases List.mem_append.mp hp with z | z
  · exact f5 p (List.mem_append_left _ z)
  · rcases List.mem_cons.mp z with z | z
    · rw [z]; exact hne
    · exact f5 p (List.mem_append_right _ z)
theorem turn_enumA {P : Program} {w : World} {K : PySem.W.Frag} {elts : List Expr} {kk : Nat} {tpos : Pos} {J : It} {fp : List Addr} {e it : Addr} {tn : Nat → Heap → Prop} (N : Inner P w K J fp it tn) (hef : e ∉ fp) :
    Turn P w K (.Tuple elts kk tpos) (JEnum J) (e :: fp) e (fun i h => (∃ old, IsEnum h e it ((i : Nat) : Int) old) ∧ tn i h) where
  mem := by simp
  obj := fun i h st b hb => by
    obtain ⟨⟨old, he⟩, st⟩ := st
    rcases List.mem_cons.mp hb with z | z
    · rw [z]; exact ⟨_, he, fun v q => nomatch q⟩
    · exact N.obj i h st b z
  keep := fun i h h' st k => let ⟨⟨old, he⟩, hi⟩ := st; ⟨⟨old, k e (by simp) _ he⟩, N.keep i h h' hi fun b hb o q => k b (List.mem_cons_of_mem _ hb) o q⟩
  item := by
    intro X hP hw hK hc i pins s σ H E I hf st hg
    obtain ⟨⟨old, he⟩, st⟩ := st
    have hT : s.TypeIs (.ref e) "enumerate" := ⟨_, he, rfl⟩
    have fe := hf e (by simp)
    have I0 : Inv X ((e, _) :: pins) σ H s := I.pins_of fun p hp => by
      rcases List.mem_cons.mp hp with z | z
      · rw [z]; exact ⟨he, fe.1, fe.2.1, fe.2.2.1, fun v q => nomatch q⟩
      · exact I.pin p (List.mem_append_right _ z)
    unfold pyNext
    refine wpAny_bind (wpAny_attempt (wpAny_callSpecial?_slot (name := Str.ofString "__next__") hT F.slot_enumerate_next
      (wpAny_call_entry F.slot_enumerate_next hT F.entry_enumerate_next ?_ (F.args_enumerate_next_1 _))))
    show wpAny _ _ (field (.ref e) 2 >>= _) _ _ _
    refine wpAny_bind (wpAny_field he rfl (x := .ref it) rfl ?_)
    refine wpAny_bind (wpAny_mono (N.item X hP hw hK X.A.in1 (I.ok.hd hc) i ((e, _) :: pins) s σ H (fun _ _ => False) I0 (fun b hb => fpOk_pin (hf b (List.mem_cons_of_mem _ hb)) fun q => hef (q ▸ hb)) st hg) ?_ fun _ _ q => q.elim)
    rintro u s1 ⟨x, H1, I1, rx, yx, st1, hn1⟩
    subst hP hw hK
    obtain ⟨h₁, g, d, tk, os⟩ := s1
    have he₁ : IsEnum h₁ e it ((i : Nat) : Int) old := (I1.pin (e, _) (List.mem_append_right _ List.mem_cons_self)).1
    show wpAny _ _ (field (.ref e) 3 >>= _) _ _ ⟨h₁, g, d, tk, os⟩
    refine wpAny_bind (wpAny_field he₁ rfl (x := rawInt i) rfl ?_)
    show wpAny _ _ (field (.ref e) 4 >>= _) _ _ ⟨h₁, g, d, tk, os⟩
    refine wpAny_bind (wpAny_field he₁ rfl (x := .none) rfl ?_)
    show wpAny _ _ (mkInt i >>= _) _ _ ⟨h₁, g, d, tk, os⟩
    refine wpAny_bind (wpAny_mkInt ?_)
    show wpAny _ _ (setField (.ref e) 3 (rawInt ((i : Int) + 1)) >>= _) _ _ ⟨h₁, g, d, tk + 1, os⟩
    refine wpAny_bind (wpAny_setField_rec he₁ (by simp) fun h₂ he₂ hs₂ => ?_)
    replace hs₂ : Heap.SameBut e h₁ h₂ := hs₂
    replace he₂ : IsEnum h₂ e it ((i : Int) + 1) old := he₂
    show wpAny _ _ (setField (.ref e) 4 .none >>= _) _ _ ⟨h₂, g, d, tk + 1, os⟩
    refine wpAny_bind (wpAny_setField_rec he₂ (by simp) fun h₃ he₃ hs₃ => ?_)
    replace hs₃ : Heap.SameBut e h₂ h₃ := hs₃
    replace he₃ : IsEnum h₃ e it ((i : Int) + 1) old := he₃
    show wpAny _ _ (newTuple [.int i tk, u] >>= _) _ _ ⟨h₃, g, d, tk + 1, os⟩
    refine wpAny_bind (wpAny_newTuple ?_)
    have he₄ : IsEnum (h₃.push { cls := .type "tuple", data := .seq #[.int i tk, u] }) e it ((i : Int) + 1) old := Heap.get?_push_of_some _ he₃
    generalize hh₄ : h₃.push { cls := .type "tuple", data := .seq #[.int i tk, u] } = h₄ at he₄
    have hsz : h₃.objs.size = h₁.objs.size := by rw [hs₃.1, hs₂.1]
    have hel : e < h₁.objs.size := Heap.lt_size he₁
    have ht₄ : h₄.get? h₁.objs.size = some { cls := .type "tuple", data := .seq #[.int i tk, u] } := by rw [← hh₄, ← hsz]; exact Heap.get?_push_size _ rfl
    have hk₄ : ∀ b o, b ≠ e → h₁.get? b = some o → h₄.get? b = some o := fun b o hbe hb => by
      rw [← hh₄]; exact Heap.get?_push_of_some _ (hs₃.extBut b o hbe (hs₂.extBut b o hbe hb))
    show wpAny _ _ (Builtin.SmallTypes.ownedTupleIsFree (.ref e) >>= _) _ _ ⟨h₄, g, d, tk + 1, os⟩
    rw [hsz]
    clear hh₄ he₃ hs₃ he₂ hs₂ hsz h₃ h₂
    refine wpAny_bind ?_
    unfold Builtin.SmallTypes.ownedTupleIsFree
    refine wpAny_bind (wpAny_field he₄ rfl (x := .none) rfl (wpAny_pure ?_))
    simp only [if_true]
    refine wpAny_bind (wpAny_rule ?_)
    refine wpAny_bind (wpAny_field he₄ rfl (x := old) rfl ?_)
    refine wpAny_bind (wpAny_setField_rec he₄ (by simp) fun h₅ he₅ hs₅ => ?_)
    replace hs₅ : Heap.SameBut e h₄ h₅ := hs₅
    replace he₅ : IsEnum h₅ e it ((i : Int) + 1) u := he₅
    show wpAny _ _ (Builtin.SmallTypes.ownedTupleHandOut (.ref e) (.ref h₁.objs.size) >>= _) _ _ ⟨h₅, g, d, tk + 1, os⟩
    refine wpAny_bind ?_
    unfold Builtin.SmallTypes.ownedTupleHandOut
    refine wpAny_bind (wpAny_setField_rec he₅ (by simp) fun h₆ he₆ hs₆ => ?_)
    replace hs₆ : Heap.SameBut e h₅ h₆ := hs₆
    replace he₆ : IsEnumOut h₆ e it ((i : Int) + 1) u h₁.objs.size := he₆
    refine wpAny_setField_rec he₆ (by simp) fun h₇ he₇ hs₇ => ?_
    replace hs₇ : Heap.SameBut e h₆ h₇ := hs₇
    replace he₇ : IsEnumOut h₇ e it ((i : Int) + 1) u h₁.objs.size := he₇
    refine wpAny_bind (wpAny_letGo (wpAny_pure ⟨_, rfl, wpAny_pure ?_⟩))
    refine ⟨_, rfl, wpAny_letOwnedTupleGo_enum (s := ⟨h₇, g, d, tk + 1, os⟩) he₇ fun h₈ he₈ hs₈ => ?_⟩
    replace hs₈ : Heap.SameBut e h₇ h₈ := hs₈
    have up : ∀ b o, b ≠ e → h₄.get? b = some o → h₈.get? b = some o := fun b o hbe y => hs₈.extBut b o hbe (hs₇.extBut b o hbe (hs₆.extBut b o hbe (hs₅.extBut b o hbe y)))
    have hT8 := up _ _ (Nat.ne_of_gt hel) ht₄
    have new : ObjOk X.prog X.w (upd H1 h₁.objs.size (.tup [.int (i : Nat), x])) h₈ h₁.objs.size (.tup [.int (i : Nat), x]) :=
      ⟨by show 2 ≤ sizeLine; decide, [.int i tk, u], .cons ⟨_, rfl⟩ (.cons rx .nil), ⟨_, hT8, rfl, _, rfl⟩⟩
    have I1' : Inv X pins σ H1 ⟨h₁, g, d, tk, os⟩ := I1.pins_of fun p hp => I1.pin p (List.mem_append_right _ (List.mem_cons_of_mem _ hp))
    have fe1 : FpOk X pins H1 e := ⟨(I1.pin (e, _) (List.mem_append_right _ List.mem_cons_self)).2.1, fe.2⟩
    have I2 := I1'.turnedNew (t' := tk + 1) (ch := [e]) (T := h₁.objs.size) (h' := h₈) (fun b o hb y => up b o (by simpa using hb) (hk₄ b o (by simpa using hb) y)) (fun b hb => by rw [List.mem_singleton.mp hb]; exact fe1) (Nat.le_refl _) new
    refine ⟨.ref h₁.objs.size, _, I2, rfl, ⟨_, x, H1, rfl, yx, I1.hok.fresh (Nat.le_refl _), rfl⟩, ⟨⟨u, ?_⟩, N.keep _ h₁ h₈ st1 fun b hb o y => ?_⟩, fun b hb => ?_⟩
    · have e1 : ((i + 1 : Nat) : Int) = (i : Int) + 1 := by omega
      rw [e1]; exact he₈
    · have hbe : b ≠ e := fun q => hef (q ▸ hb)
      exact up b o hbe (hk₄ b o hbe y)
    · rcases List.mem_cons.mp hb with z | z
      · rw [z, upd_ne (Nat.ne_of_lt hel)]; exact fe1.1
      · obtain ⟨o, ho, _⟩ := N.obj _ _ st1 b z
        rw [upd_ne (Nat.ne_of_lt (Heap.lt_size ho))]; exact hn1 b z
  done := by
    intro X hP hw hK hc i pins s σ H E I hf st hg
    obtain ⟨⟨old, he⟩, st⟩ := st
    have hT : s.TypeIs (.ref e) "enumerate" := ⟨_, he, rfl⟩
    unfold pyNext
    refine wpAny_bind (wpAny_attempt (wpAny_callSpecial?_slot (name := Str.ofString "__next__") hT F.slot_enumerate_next
      (wpAny_call_entry F.slot_enumerate_next hT F.entry_enumerate_next ?_ (F.args_enumerate_next_1 _))))
    show wpAny _ _ (field (.ref e) 2 >>= _) _ _ _
    refine wpAny_bind (wpAny_field he rfl (x := .ref it) rfl ?_)
    refine wpAny_bind (wpAny_mono (N.done X hP hw hK X.A.in1 (I.ok.hd hc) i pins s σ H (fun _ _ => False) I (fun b hb => hf b (List.mem_cons_of_mem _ hb)) st hg) (fun _ _ q => q.elim) fun v s1 q => ?_)
    obtain ⟨⟨b, o, rfl, ho, hc⟩, I1⟩ := q
    refine wpAny_bind (wpAny_isInstance (T := "StopIteration") (b := true) ⟨o, ho, hc⟩ isSubtype_stop ?_)
    exact wpAny_pure ⟨rfl, I1⟩
  self := fun A i s Q E st h => let ⟨⟨_, he⟩, _⟩ := st; wpAny_pyIter_enum he h
end U
namespace PySem
open Sem (wp)
theorem meets_enum_newG (v : Value) (C : Heap → Prop) (it : Heap → Addr) (nh : Heap → Heap)
    (hi : ∀ (prog : Program) (w : World) (A : Around) (E : Value → Shared → Prop) (s : Shared) (Q : Value → Shared → Prop), C s.heap → Q (.ref (it s.heap)) { s with heap := nh s.heap } → wpAny (model prog w) A (pyIter v) Q E s) :
    Meets (Builtin.«enumerate.__new__» ⟨[.type "enumerate", v], []⟩) (fun _ R s => C s.heap ∧
      R (.ok (.ret (.ref (nh s.heap).objs.size))) { s with heap := (nh s.heap).push { cls := .type "enumerate", data := .fields #[.none, .bool false, .ref (it s.heap), rawInt 0, .none, .none] } }) :=
  .of_wp fun prog w A R s h => by
    obtain ⟨hp, g, d, tk, os⟩ := s; obtain ⟨hl, h⟩ := h
    have hsub := sub_enumerate
    have hI : ∀ (A : Around) (E : Value → Shared → Prop) (Q : Value → Shared → Prop), Q (.ref (it hp)) ⟨nh hp, g, d, tk, os⟩ → wpAny (model prog w) A (pyIter v) Q E ⟨hp, g, d, tk, os⟩ := fun A E Q q => hi prog w A E ⟨hp, g, d, tk, os⟩ Q hl q
    wp_walk
    refine wpAny_stack_any fun st => wpAny_pure ?_
    split
    · rename_i c _ _ _ _ _
      cases (c == Value.type "enumerate")
      · wp_walk using hI
        exact ⟨_, rfl, h⟩
      · wp_walk using hI
        exact ⟨_, rfl, h⟩
    · wp_walk using hI
      exact ⟨_, rfl, h⟩
theorem call_enumG {prog : Program} {w : World} {A : Around} {E : Value → Shared → Prop} {s : Shared} {v : Value} {C : Heap → Prop} {it : Heap → Addr} {nh : Heap → Heap} {Q : Value → Shared → Prop}
    (hi : ∀ (prog : Program) (w : World) (A : Around) (E : Value → Shared → Prop) (s : Shared) (Q : Value → Shared → Prop), C s.heap → Q (.ref (it s.heap)) { s with heap := nh s.heap } → wpAny (model prog w) A (pyIter v) Q E s)
    (hC : C s.heap) (h : ∀ h', IsEnum h' (nh s.heap).objs.size (it s.heap) 0 .none → (∀ b o, (nh s.heap).get? b = some o → h'.get? b = some o) → Q (.ref (nh s.heap).objs.size) { s with heap := h' }) :
    wpAny (model prog w) A (call (.type "enumerate") [v]) Q E s := by
  refine callType_new F.called_enumerate (by decide) (F.typeCall_enumerate_1 _) (F.newCall_enumerate_1 _) (fun obj => F.args_object_init_2 obj _) F.entry_enumerate_new
    (meets_enum_newG v C it nh hi) ⟨hC, ?_⟩
  show _ ∧ _
  have he : IsEnum ((nh s.heap).push { cls := .type "enumerate", data := .fields #[.none, .bool false, .ref (it s.heap), rawInt 0, .none, .none] }) (nh s.heap).objs.size (it s.heap) 0 .none := Heap.get?_push_size _ rfl
  exact ⟨⟨_, he, rfl⟩, h _ he fun b o x => Heap.get?_push_of_some _ x⟩
end PySem
namespace U
open PySem PySem.Spec PyProof.Rows L2
def kdOf (K : PySem.W.Frag) (H : Hp) (a : Addr) : Option Kd := match rdL K H a with
  | some _ => some (.l a)
  | none => match rdT K H a with
    | some _ => some (.t a)
    | none => none
theorem kdOf_sq {K : PySem.W.Frag} {H : Hp} {a : Addr} {k : Kd} (h : kdOf K H a = some k) : k.u = .ref a ∧ k.v = .ref a ∧ ∃ xs, k.sq K H xs := by
  unfold kdOf at h
  split at h
  · rename_i xs e; cases h; exact ⟨rfl, rfl, xs, rdL_sq e⟩
  · split at h
    · rename_i xs e; cases h; exact ⟨rfl, rfl, xs, rdT_sq e⟩
    · cases h
def uEnum (K : PySem.W.Frag) (ta : TA) : TI := fun σ H R => ta σ H fun vs H1 => match vs with
  | [.ref a] => oK (kdOf K H1 a) fun k => R (JEnum (JKd K k)) H1
  | [.str z] => R (JEnum (JKd K (.s z 0))) H1
  | _ => False
theorem pi_enumU {X : Cx} {e : Expr} {ta : TA} {p pos tpos : Pos} {elts : List Expr} {kk : Nat} (hg : Gl X "enumerate") (hm : X.mg "enumerate" = none) (ha : PA X [e] ta) (hs : starEach [e] X.env = [(false, eval e X.env)] := by rfl) :
    PI X (.Tuple elts kk tpos) (.Call (.Name "enumerate" p) [e] [] pos) (uEnum X.K ta) := by
  refine ⟨fun pins s σ H R I h => ?_⟩
  refine Call_ (ld_blt I hg hm boot_enumerate (PyProof.Rows.callWith_type1 (thn (ha.run pos pins s σ H _ I h) fun us s1 ⟨vs, H1, I1, r1, q1⟩ => ?_) hs rfl))
  have main : ∀ (k : Kd) (xs : List V), k.sq X.K H1 xs → R (JEnum (JKd X.K k)) H1 → wpAny (model X.prog X.w) X.A (call (.type "enumerate") [k.u]) (fun v s1 => wpAny (model X.prog X.w) X.A (pyIter v) (PIE X pins σ (.Tuple elts kk tpos) R) X.xe s1) X.xe s1 := by
    intro k xs hq q
    obtain ⟨C, B, hC⟩ := Kd.begins I1 hq
    have hz : (s1.heap.push k.obj).objs.size = s1.heap.objs.size + 1 := Heap.size_push ..
    refine call_enumG (C := C) (it := fun h => h.objs.size) (nh := fun h => h.push k.obj) B.iter hC fun h' he hk => wpAny_pyIter_enum he ?_
    rw [hz] at he
    have hk' : ∀ b o, s1.heap.get? b = some o → h'.get? b = some o := fun b o y => hk b o (Heap.get?_push_of_some _ y)
    have fr : ∀ b, s1.heap.objs.size ≤ b → FpOk X pins H1 b := fun b hb => I1.fpOk hb (I1.hok.fresh hb)
    refine ⟨_, [s1.heap.objs.size + 1, s1.heap.objs.size], _, _, H1, by rw [hz], I1.kept (t' := s1.toks) hk', turn_enumA (e := s1.heap.objs.size + 1) (inner_kd k s1.heap.objs.size (Kd.away_of I1 hq (Nat.le_refl _))) (by simp), ⟨⟨.none, he⟩, Kd.at0 (hk _ _ (Heap.get?_push_size _ B.free))⟩, fun b hb => ?_, q⟩
    rcases List.mem_cons.mp hb with z | z
    · rw [z]; exact fr _ (Nat.le_add_right _ _)
    · rw [List.mem_singleton.mp z]; exact fr _ (Nat.le_refl _)
  dsimp only at q1
  split at q1
  · cases r1 with
    | cons r rr =>
      cases rr
      cases r
      obtain ⟨k, e1, q1⟩ := oK_ex q1
      obtain ⟨u1, _, xs, sq⟩ := kdOf_sq e1
      rw [← u1]
      exact main k xs sq q1
  · cases r1 with
    | cons r rr =>
      cases rr
      obtain ⟨t, rfl⟩ := r
      exact main (.s _ t) _ rfl q1
  · exact q1.elim
end U
namespace PySem.F
end PySem.F
namespace U
open PySem PySem.Spec PyProof.Rows L2
end U
namespace U
open PySem PySem.Spec PyProof.Rows L2
def revS (z : Str) : Str := ⟨z.cps.toList.reverse.toArray⟩
section
variable {K : PySem.W.Frag} {k k1 k2 : Kd} {xs ys : List V}
theorem walk_kd : Walk (JKd K k) xs.length (fun H => k.sq K H xs) (YAt xs) :=
  ⟨fun i _ hi q => ⟨xs, xs[i], q, by simp [hi]⟩, fun _ q => .inr ⟨xs, q, rfl⟩, fun _ _ _ _ _ q y => ⟨y.1, y.2 xs q⟩⟩
theorem walk_enumK : Walk (JEnum (JKd K k)) xs.length (fun H => k.sq K H xs) (YPair (fun i => some (.int (i : Nat))) (fun i => xs[i]?)) := by
  refine ⟨fun i H hi q => walk_kd.goes i H hi q, fun H q => walk_kd.stops H q, fun i H v H' hi q y => ?_⟩
  obtain ⟨T, x, H1, rfl, h1, h2, rfl⟩ := y
  obtain ⟨rfl, h3⟩ := h1
  exact ⟨T, _, x, rfl, h2, rfl, rfl, h3 xs q⟩
end
end U
namespace U
open PySem PySem.Spec PyProof.Rows L2
def LnL (K : PySem.W.Frag) (H : Hp) (x y : V) : Prop := ∃ a b xs ys, x = .ref a ∧ y = .ref b ∧ SqL K H a xs ∧ SqL K H b ys ∧ xs.length ≠ ys.length
def uNe3 (K : PySem.W.Frag) : R2 := fun x y H Q => match scal x y with
  | true => Q (.bl (!decide (x = y))) H
  | false => (∃ d e, Dp K H x d ∧ Dp K H y e ∧ SeqAt.shaped d = true ∧ SeqAt.shaped e = true ∧ Q (.bl (!PyData.eqv d e)) H) ∨ (SmL K H x y ∧ Q (.bl false) H) ∨ (LnL K H x y ∧ Q (.bl true) H)
section
variable {X : Cx}
theorem op_neLn (hu : X.A.units + 64 < cLine) : OpR X (compareOp .NotEq) (fun x y H Q => LnL X.K H x y ∧ Q (.bl true) H) := fun pins s σ H x y v u Q I rx ry h => by
  obtain ⟨⟨a, b, xs, ys, rfl, rfl, ha, hb, p⟩, q⟩ := h
  cases (show v = Value.ref a from rx)
  cases (show u = Value.ref b from ry)
  obtain ⟨us, r1, p1, _⟩ := I.list ha
  obtain ⟨ws, r2, p2, _⟩ := I.list hb
  have l1 := r1.length
  have l2 := r2.length
  exact SeqAt.RcNeAt.lists_lengths (A := X.A) p1.isList p2.isList (by simp; omega) (by omega) X.prog X.w _ _ ⟨.bl true, H, I, rfl, q⟩
theorem ou_ne3 (hu : X.A.units + 64 < cLine) : OpR X (compareOp .NotEq) (uNe3 X.K) := OpRi (op_ne.or ((op_neD hu).or ((op_neS hu).or (op_neLn hu)))) fun x y H Q h => by
  unfold uNe3 at h
  split at h
  · exact .inl ⟨by assumption, h⟩
  · exact .inr h
end
end U
namespace U
open PySem PySem.Spec PyProof.Rows L2
mutual
def pureD : PyData → Bool
  | .str _ => true
  | .int _ => true
  | .list ds => pureAll ds
  | .tuple ds => pureAll ds
  | _ => false
def pureAll : List PyData → Bool
  | [] => true
  | d :: ds => pureD d && pureAll ds
end
mutual
theorem eqv_iff : ∀ (d e : PyData), pureD d = true → pureD e = true → (PyData.eqv d e = true ↔ d = e)
  | .str x, .str y, _, _ => by simp [PyData.eqv]
  | .int x, .int y, _, _ => by simp [PyData.eqv]
  | .list xs, .list ys, h1, h2 => by
    rw [PyData.eqv, eqvAll_iff xs ys (by simpa only [pureD] using h1) (by simpa only [pureD] using h2)]; simp
  | .tuple xs, .tuple ys, h1, h2 => by
    rw [PyData.eqv, eqvAll_iff xs ys (by simpa only [pureD] using h1) (by simpa only [pureD] using h2)]; simp
  | .str _, .int _, _, _ => by simp [PyData.eqv]
  | .str _, .list _, _, _ => by simp [PyData.eqv]
  | .str _, .tuple _, _, _ => by simp [PyData.eqv]
  | .int _, .str _, _, _ => by simp [PyData.eqv]
  | .int _, .list _, _, _ => by simp [PyData.eqv]
  | .int _, .tuple _, _, _ => by simp [PyData.eqv]
  | .list _, .str _, _, _ => by simp [PyData.eqv]
  | .list _, .int _, _, _ => by simp [PyData.eqv]
  | .list _, .tuple _, _, _ => by simp [PyData.eqv]
  | .tuple _, .str _, _, _ => by simp [PyData.eqv]
  | .tuple _, .int _, _, _ => by simp [PyData.eqv]
  | .tuple _, .list _, _, _ => by simp [PyData.eqv]
  | .none, _, h, _ => by simp [pureD] at h
  | .bool _, _, h, _ => by simp [pureD] at h
  | .dict _, _, h, _ => by simp [pureD] at h
  | .str _, .none, _, h => by simp [pureD] at h
  | .str _, .bool _, _, h => by simp [pureD] at h
  | .str _, .dict _, _, h => by simp [pureD] at h
  | .int _, .none, _, h => by simp [pureD] at h
  | .int _, .bool _, _, h => by simp [pureD] at h
  | .int _, .dict _, _, h => by simp [pureD] at h
  | .list _, .none, _, h => by simp [pureD] at h
  | .list _, .bool _, _, h => by simp [pureD] at h
  | .list _, .dict _, _, h => by simp [pureD] at h
  | .tuple _, .none, _, h => by simp [pureD] at h
  | .tuple _, .bool _, _, h => by simp [pureD] at h
  | .tuple _, .dict _, _, h => by simp [pureD] at h
theorem eqvAll_iff : ∀ (xs ys : List PyData), pureAll xs = true → pureAll ys = true → (PyData.eqvAll xs ys = true ↔ xs = ys)
  | [], [], _, _ => by simp [PyData.eqvAll]
  | [], _ :: _, _, _ => by simp [PyData.eqvAll]
  | _ :: _, [], _, _ => by simp [PyData.eqvAll]
  | x :: xs, y :: ys, h1, h2 => by
    simp only [pureAll, Bool.and_eq_true] at h1 h2
    rw [PyData.eqvAll, Bool.and_eq_true, eqv_iff x y h1.1 h2.1, eqvAll_iff xs ys h1.2 h2.2]; simp
end
theorem lay_all : ∀ {ds : List PyData} {n : Nat}, (∀ d ∈ ds, PyData.canLay0 d = true ∧ d.depth ≤ n) → PyData.canLayAll0 ds = true ∧ PyData.depthAll ds ≤ n
  | [], n, _ => ⟨by simp only [PyData.canLayAll0], by simp only [PyData.depthAll]; omega⟩
  | d :: ds, n, h => by
    obtain ⟨h1, h2⟩ := lay_all (ds := ds) (n := n) fun e he => h e (List.mem_cons_of_mem _ he)
    have h0 := h d List.mem_cons_self
    exact ⟨by simp only [PyData.canLayAll0, h0.1, h1, Bool.and_self], by simp only [PyData.depthAll]; have := h0.2; omega⟩
theorem lay_list {ds : List PyData} {n : Nat} (h : ∀ d ∈ ds, PyData.canLay0 d = true ∧ d.depth ≤ n) : PyData.canLay0 (.list ds) = true ∧ (PyData.list ds).depth ≤ n + 1 := by
  obtain ⟨h1, h2⟩ := lay_all h
  exact ⟨by simp only [PyData.canLay0, h1], by simp only [PyData.depth]; omega⟩
theorem lay_int (i : Int) : PyData.canLay0 (.int i) = true ∧ (PyData.int i).depth ≤ 0 := ⟨by simp only [PyData.canLay0], by simp only [PyData.depth]; omega⟩
theorem shaped_of {d : PyData} {n : Nat} (h : PyData.canLay0 d = true ∧ d.depth ≤ n) (hn : n ≤ 64) : SeqAt.shaped d = true := by
  unfold SeqAt.shaped
  rw [h.1, decide_eq_true (Nat.le_trans h.2 hn)]; rfl
mutual
theorem pure_nodict : ∀ d : PyData, pureD d = true → d.hasDict = false
  | .str _, _ => by simp [PyData.hasDict]
  | .int _, _ => by simp [PyData.hasDict]
  | .list ds, h => by rw [PyData.hasDict]; exact pure_nodictAll ds (by simpa only [pureD] using h)
  | .tuple ds, h => by rw [PyData.hasDict]; exact pure_nodictAll ds (by simpa only [pureD] using h)
  | .none, h => by simp [pureD] at h
  | .bool _, h => by simp [pureD] at h
  | .dict _, h => by simp [pureD] at h
theorem pure_nodictAll : ∀ ds : List PyData, pureAll ds = true → PyData.hasDictAll ds = false
  | [], _ => by simp [PyData.hasDictAll]
  | d :: ds, h => by
    simp only [pureAll, Bool.and_eq_true] at h
    simp only [PyData.hasDictAll, pure_nodict d h.1, pure_nodictAll ds h.2, Bool.or_self]
end
theorem pureAll_of : ∀ {ds : List PyData}, (∀ d ∈ ds, pureD d = true) → pureAll ds = true
  | [], _ => by simp [pureAll]
  | d :: ds, h => by simp [pureAll, h d List.mem_cons_self, pureAll_of fun e he => h e (List.mem_cons_of_mem _ he)]
end U
namespace U
open PySem PySem.Spec PyProof.Rows L2
theorem sub_self {X : Cx} {k : Nat} (hr : Room k X.A) : Sub X k X.A := ⟨hr, rfl⟩
/-- one class of a table -/
structure MEnt (X : Cx) (m : Str) (E : L2.St → XK) (n : Nat) (C : Addr) (sp : Sp) : Prop where
  ex : ∃ CX k f, k ≤ n ∧ Cls X.K C ∧ Meth X.K C m f ∧ FnR X.prog X.w X.K X.mg X.base CX k f sp ∧ ∀ σ, PassesAt CX X σ (E σ)
inductive MTab (X : Cx) (m : Str) (E : L2.St → XK) (n : Nat) : List (Addr × Sp) → Prop
  | nil : MTab X m E n []
  | cons {C : Addr} {sp : Sp} {l : List (Addr × Sp)} : MEnt X m E n C sp → MTab X m E n l → MTab X m E n ((C, sp) :: l)
theorem MTab.at' {X : Cx} {m : Str} {E : L2.St → XK} {n : Nat} {C : Addr} {sp : Sp} : ∀ {l : List (Addr × Sp)}, MTab X m E n l → (C, sp) ∈ l → MEnt X m E n C sp
  | _, .cons h r, hm => by
    rcases List.mem_cons.mp hm with e | e
    · cases e; exact h
    · exact r.at' e
end U
namespace U
open PySem PySem.Spec PyProof.Rows L2
end U
namespace U
open PySem PySem.Spec PyProof.Rows L2
/-- a class whose instances can be looked at -/
structure InsF (K : PySem.W.Frag) (C : Addr) : Prop where
  cl : Cls K C
  ha : PySem.W.findIn K (.ref C) "__class__" = some (some (.builtin "object.__class__"))
  hn : PySem.W.specialIn K (.builtin "object.__class__") "__get__" = some (some (.builtin "getset_descriptor.__get__"))
  htk : PySem.W.takesIn K (.builtin "object.__class__") = some true
  hm : PySem.W.mroIn K C (.type "object") = some true
theorem InsF.ty {K : PySem.W.Frag} {C : Addr} (h : InsF K C) {H : Hp} {a dx : Addr} {fs : List (Str × V)} (e : H a = some (.ins C dx fs)) : TyX K H (.ref a) (.ref C) := .base (.ins e h.cl h.ha h.hn h.htk h.hm)
end U
namespace U
open PySem PySem.Spec PyProof.Rows L2
abbrev lkTail : List Value := [.type "LookupError", .type "Exception", .type "BaseException", .type "object"]
def refsLk : List Value → Bool
  | .ref _ :: r => refsLk r
  | l => l == lkTail
theorem refsLk_has (n : String) : ∀ l : List Value, refsLk l = true → l.contains (.type n) = lkTail.contains (.type n)
  | [], e => by cases e
  | v :: r, e => by
    cases v with
    | ref c => rw [List.contains_cons, refsLk_has n r e]; rfl
    | _ => rw [beq_iff_eq.mp (show (_ == lkTail) = true from e)]
structure Ex0C (K : PySem.W.Frag) (mg : Str → Option Value) (x : Str) (C fI : Addr) : Prop where
  g : mg x = some (.ref C)
  cls : ∃ nm q N bs bm sn sub ab col dd k0 k1 k2 k3 k5, K.lookup C = some (excClassObj nm q C N bs bm true sn sub ab col dd k0 k1 k2 k3 k5 "LookupError.__new__") ∧ refsLk bm = true
  exC : PySem.W.subIn K (.ref C) (.type "BaseException") = some true
  tyC : PySem.W.typeIn K (.ref C) = some (.type "type")
  kC : PySem.W.keepIn K (.ref C) = true
  i : PySem.W.findIn K (.ref C) "__init__" = some (some (.ref fI))
  t : PySem.W.typeIn K (.ref fI) = some (.type "function")
structure Base0 (K : PySem.W.Frag) (C0 : Addr) : Prop where
  ga : PySem.W.specialIn K (.ref C0) "__getattribute__" = some (some (.builtin "type.__getattribute__"))
  rd : ∃ mc, PySem.W.readsIn K C0 mc = true ∧ PySem.W.findCls K (.ref C0) mc "__init__" = some (.val (.builtin "LookupError.__init__"))
/-- the class of the exception that is being made -/
def IsLk (K : PySem.W.Frag) (C : Addr) : Prop := ∃ nm q N bs bm sn sub ab col dd k0 k1 k2 k3 k5, K.lookup C = some (excClassObj nm q C N bs bm true sn sub ab col dd k0 k1 k2 k3 k5 "LookupError.__new__") ∧ refsLk bm = true
theorem same_upd {H : Hp} {a : Addr} {o : HO} (h : H a = some o) : upd H a o = H := by
  funext b
  by_cases hb : b = a
  · rw [hb, upd_same, h]
  · rw [upd_ne hb]
def tLkI (K : PySem.W.Frag) (ta : TA) : TE := fun σ H Q => ta σ H fun vs H1 => ∃ (a C : Addr) (ws : List V), vs = .ref a :: ws ∧ ws.length ≤ 1000 ∧ IsLk K C ∧ H1 a = some (exo a C none) ∧ Q .non H1
section
variable {X : Cx} {x : Str} {C0 : Addr} {e : Expr} {es : List Expr} {ta : TA} {p1 p2 pos : Pos} {pl : Sem Bool}
theorem pe_binit0 (T0 : Base0 X.K C0) (hg : Gl X x) (hm : X.mg x = some (.ref C0)) (ha : PA X (e :: es) ta)
    (hc : eval (.Call (.Attribute (.Name x p1) "__init__" p2) (e :: es) [] pos) X.env = (do
      let ov ← eval (.Name x p1) X.env
      standAt p2.atName
      let (f, first) ← holding [ov] (getMethod ov "__init__" pl)
      callWith pos f first (backTo pos (starEach (e :: es) X.env)) (backToKw pos (keywordEach [] X.env))) := by rfl)
    (hdb : (x == ("__debug__" : Str)) = false := by decide) (he : starEach (e :: es) X.env = (false, eval e X.env) :: starEach es X.env := by rfl) (hpl : (backTo pos (starEach es X.env)).any (·.1) = false := by rfl) :
    PE X (.Call (.Attribute (.Name x p1) "__init__" p2) (e :: es) [] pos) (tLkI X.K ta) := by
  obtain ⟨mc, hrd, hf⟩ := T0.rd
  constructor
  intro pins s σ H Q I h
  refine PySem.W.methodCall_KW (ld_glob I hg hm ?_ hdb) hc
  refine PySem.W.method_cls I.kIn T0.ga (PySem.W.cls_value I.kIn hrd hf (by decide +kernel) ?_)
  refine PyProof.Rows.callWith_method1 (thn (ha.run pos pins _ σ H _ (I.tok _) h) ?_) he hpl
  rintro us s1 ⟨vs, H1, I1, r1, a, C, ws, rfl, hl, ⟨nm, q, N, bs, bm, sn, sub, ab, col, dd, k0, k1, k2, k3, k5, hC, hbm⟩, ea, q⟩
  match us, r1 with
  | _ :: ur, .cons ra rw' =>
    cases ra
    have hz : ur.length ≤ sizeLine := by rw [← Paired.length rw']; exact szl (by omega)
    obtain ⟨t1, ho⟩ := exo_at I1.hok ea
    obtain ⟨hp, g, d, t, os⟩ := s1
    refine wpAny_call (PySem.HandSPX.init_base F.excBase_LookupError (fun n => refsLk_has n bm hbm) (I1.kIn _ _ hC) ho hz fun h' t2 k hx => ?_)
    have J := I1.write (t' := t) (x := a) (e := a) (o := exo a C none) (by rw [ea]; exact True.intro) (.inl rfl) k ⟨_, hx⟩ (exo_ok hx)
    rw [same_upd ea] at J
    exact ⟨.non, H1, J, rfl, q⟩
end
def spI0 (C : Addr) : Sp := fun vs H Q _ => ∃ a : Addr, vs = [.ref a] ∧ H a = some (exo a C none) ∧ Q .non H
theorem len_spI0 {C : Addr} {vs : List V} {H : Hp} {Q : VK} {E : XK} (h : spI0 C vs H Q E) : vs.length = 1 := by
  obtain ⟨a, rfl, _⟩ := h; rfl
def tI0 (K : PySem.W.Frag) (msg : Str) : TS := tDrop (tLkI K (tCons (uVar 0) (tCons (tC (.str msg)) tNil)))
theorem p_init0 {K : PySem.W.Frag} {mg : Str → Option Value} {x msg p0 : Str} {C fI : Addr} (T : Ex0C K mg x C fI) {vs : List V} {H : Hp} {Q : VK} {E : XK} (h : spI0 C vs H Q E) :
    tI0 K msg { nx := fun _ H' => Q .non H', rt := Q } (start [p0] vs) H := by
  obtain ⟨a, rfl, ha, k⟩ := h
  exact ⟨a, C, [.str msg], rfl, by show 1 ≤ 1000; decide, T.cls, ha, k⟩
end U
namespace Fx
open PySem PySem.Spec PyProof.Rows L2 U
inductive D where
  | non | bl (b : Bool) | int (i : Int) | str (z : Str) | lst (ds : List D) | tup (ds : List D) | fro (l : Bool) (ds : List D) | dct (kvs : List (Key × D)) | cel (k : Nat) | obj (c : Nat) (fs : List (Str × D)) | cls (c : Nat) | exv (c : Nat) (fs : List (Str × D))
/-- what stands in a cell -/
inductive Ce where
  | lst (ds : List D) | dK (kvs : List (Key × D)) | ins (c : Nat) (fs : List (Str × D))
abbrev Sto := List Ce
/-- a slot: nothing known, a value, a list of one's own, an object that is being made, an exception that was caught -/
inductive Sl where
  | no | val (d : D) | own (ds : List D) | oob (c : Nat) (fs : List (Str × D)) | exn (c : Nat) (fs : List (Str × D))
/-- looked at only, a value, a new list or object -/
inductive Fl where
  | pk | tr | fs
inductive RE where
  | ok (d : D) (f : Fl) (S : Sto) | xc (c : Nat) (fs : List (Str × D)) (S : Sto) | bad
abbrev Ev := List Sl
abbrev FE := Ev → Sto → RE
/-- a list or tuple of the module's top, or the script: read only -/
def NoF (K : PySem.W.Frag) (ι B : List Addr) (H : Hp) (a : Addr) (xs : List V) : Bool → Prop
  | true => (a ∉ ι ∧ a ∉ B ∧ ∃ o, H a = some (.frz o (.lst xs))) ∨ SqL K (fun _ => none) a xs
  | false => (a ∉ ι ∧ a ∉ B ∧ ∃ o, H a = some (.frz o (.tup xs))) ∨ SqT K (fun _ => none) a xs
section
variable (K : PySem.W.Frag) (ca : Nat → Addr) (ι B : List Addr) (H : Hp)
mutual
inductive RV : V → D → Prop
  | non : RV .non .non
  | bl (b : Bool) : RV (.bl b) (.bl b)
  | int (i : Int) : RV (.int i) (.int i)
  | str (z : Str) : RV (.str z) (.str z)
  | lst {a : Addr} {xs : List V} {ds : List D} : a ∉ ι → a ∉ B → H a = some (.lst xs) → RAll xs ds → RV (.ref a) (.lst ds)
  | tup {a : Addr} {xs : List V} {ds : List D} : a ∉ ι → a ∉ B → H a = some (.tup xs) → RAll xs ds → RV (.ref a) (.tup ds)
  | fro {a : Addr} {l : Bool} {xs : List V} {ds : List D} : NoF K ι B H a xs l → RAll xs ds → RV (.ref a) (.fro l ds)
  | dct {a : Addr} {kvs : List (Key × V)} {es : List (Key × D)} : a ∉ ι → a ∉ B → H a = some (.dK kvs) → RKv kvs es → RV (.ref a) (.dct es)
  | cel {a : Addr} {k : Nat} : ι[k]? = some a → RV (.ref a) (.cel k)
  | obj {a dx : Addr} {c : Nat} {fs : List (Str × V)} {es : List (Str × D)} : a ∉ ι → a ∉ B → H a = some (.ins (ca c) dx fs) → RFs fs es → RV (.ref a) (.obj c es)
  | cls (c : Nat) : RV (.ref (ca c)) (.cls c)
  | exv {a dx : Addr} {c : Nat} {fs : List (Str × V)} {es : List (Str × D)} : a ∉ ι → a ∉ B → dx ∉ ι → dx ∉ B → H a = some (exo a (ca c) (some dx)) → H dx = some (exd dx fs) → RFs fs es → RV (.ref a) (.exv c es)
  | exw {a : Addr} {c : Nat} : a ∉ ι → a ∉ B → H a = some (exo a (ca c) none) → RV (.ref a) (.exv c [])
inductive RAll : List V → List D → Prop
  | nil : RAll [] []
  | cons {v : V} {d : D} {vs : List V} {ds : List D} : RV v d → RAll vs ds → RAll (v :: vs) (d :: ds)
inductive RKv : List (Key × V) → List (Key × D) → Prop
  | nil : RKv [] []
  | cons {k : Key} {v : V} {d : D} {vs : List (Key × V)} {ds : List (Key × D)} : RV v d → RKv vs ds → RKv ((k, v) :: vs) ((k, d) :: ds)
inductive RFs : List (Str × V) → List (Str × D) → Prop
  | nil : RFs [] []
  | cons {k : Str} {v : V} {d : D} {vs : List (Str × V)} {ds : List (Str × D)} : RV v d → RFs vs ds → RFs ((k, v) :: vs) ((k, d) :: ds)
end
end
/-- what stands at one time stands later -/
structure Per (ι B : List Addr) (H : Hp) (ι' B' : List Addr) (H' : Hp) : Prop where
  at' : ∀ (a : Addr) (o : HO), H a = some o → a ∉ ι → a ∉ B → H' a = some o ∧ a ∉ ι' ∧ a ∉ B'
  ix : ∀ (k : Nat) (a : Addr), ι[k]? = some a → ι'[k]? = some a
theorem Per.trans {ι B ι1 B1 ι2 B2 : List Addr} {H H1 H2 : Hp} (a : Per ι B H ι1 B1 H1) (b : Per ι1 B1 H1 ι2 B2 H2) : Per ι B H ι2 B2 H2 :=
  ⟨fun x o h1 h2 h3 => by
    obtain ⟨q1, q2, q3⟩ := a.at' x o h1 h2 h3
    exact b.at' x o q1 q2 q3, fun k x h => b.ix k x (a.ix k x h)⟩
section
variable {K : PySem.W.Frag} {ca : Nat → Addr} {ι B ι' B' : List Addr} {H H' : Hp}
theorem NoF.per {a : Addr} {xs : List V} {l : Bool} (h : NoF K ι B H a xs l) (p : Per ι B H ι' B' H') : NoF K ι' B' H' a xs l := by
  cases l with
  | true =>
    rcases h with ⟨h1, h2, o, h3⟩ | h
    · obtain ⟨q1, q2, q3⟩ := p.at' a _ h3 h1 h2
      exact .inl ⟨q2, q3, o, q1⟩
    · exact .inr h
  | false =>
    rcases h with ⟨h1, h2, o, h3⟩ | h
    · obtain ⟨q1, q2, q3⟩ := p.at' a _ h3 h1 h2
      exact .inl ⟨q2, q3, o, q1⟩
    · exact .inr h
theorem NoF.sq {a : Addr} {xs : List V} {l : Bool} (h : NoF K ι B H a xs l) : SqL K H a xs ∨ SqT K H a xs := by
  cases l with
  | true =>
    rcases h with ⟨_, _, o, h3⟩ | h
    · exact .inl (.inl (.inr ⟨o, h3⟩))
    · rcases h with (h | ⟨_, h⟩) | h
      · cases h
      · cases h
      · exact .inl (.inr h)
  | false =>
    rcases h with ⟨_, _, o, h3⟩ | h
    · exact .inr (.inl (.inr ⟨o, h3⟩))
    · rcases h with (h | ⟨_, h⟩) | h
      · cases h
      · cases h
      · exact .inr (.inr h)
mutual
theorem RV.pe (p : Per ι B H ι' B' H') : ∀ (d : D) {v : V}, RV K ca ι B H v d → RV K ca ι' B' H' v d
  | .non, _, h => by cases h; exact .non
  | .bl _, _, h => by cases h; exact .bl _
  | .int _, _, h => by cases h; exact .int _
  | .str _, _, h => by cases h; exact .str _
  | .lst ds, _, h => by
    cases h with
    | lst h1 h2 h3 h4 =>
      obtain ⟨q1, q2, q3⟩ := p.at' _ _ h3 h1 h2
      exact .lst q2 q3 q1 (RAll.pe p ds h4)
  | .tup ds, _, h => by
    cases h with
    | tup h1 h2 h3 h4 =>
      obtain ⟨q1, q2, q3⟩ := p.at' _ _ h3 h1 h2
      exact .tup q2 q3 q1 (RAll.pe p ds h4)
  | .fro l ds, _, h => by
    cases h with
    | fro h1 h2 => exact .fro (h1.per p) (RAll.pe p ds h2)
  | .dct es, _, h => by
    cases h with
    | dct h1 h2 h3 h4 =>
      obtain ⟨q1, q2, q3⟩ := p.at' _ _ h3 h1 h2
      exact .dct q2 q3 q1 (RKv.pe p es h4)
  | .cel k, _, h => by
    cases h with
    | cel h1 => exact .cel (p.ix _ _ h1)
  | .obj c es, _, h => by
    cases h with
    | obj h1 h2 h3 h4 =>
      obtain ⟨q1, q2, q3⟩ := p.at' _ _ h3 h1 h2
      exact .obj q2 q3 q1 (RFs.pe p es h4)
  | .cls _, _, h => by cases h; exact .cls _
  | .exv c es, _, h => by
    cases h with
    | exv h1 h2 h3 h4 h5 h6 h7 =>
      obtain ⟨q1, q2, q3⟩ := p.at' _ _ h5 h1 h2
      obtain ⟨r1, r2, r3⟩ := p.at' _ _ h6 h3 h4
      exact .exv q2 q3 r2 r3 q1 r1 (RFs.pe p es h7)
    | exw h1 h2 h3 =>
      obtain ⟨q1, q2, q3⟩ := p.at' _ _ h3 h1 h2
      exact .exw q2 q3 q1
theorem RAll.pe (p : Per ι B H ι' B' H') : ∀ (ds : List D) {vs : List V}, RAll K ca ι B H vs ds → RAll K ca ι' B' H' vs ds
  | [], _, h => by cases h; exact .nil
  | d :: ds, _, h => by
    cases h with
    | cons h1 h2 => exact .cons (RV.pe p d h1) (RAll.pe p ds h2)
theorem RKv.pe (p : Per ι B H ι' B' H') : ∀ (ds : List (Key × D)) {vs : List (Key × V)}, RKv K ca ι B H vs ds → RKv K ca ι' B' H' vs ds
  | [], _, h => by cases h; exact .nil
  | (k, d) :: ds, _, h => by
    cases h with
    | cons h1 h2 => exact .cons (RV.pe p d h1) (RKv.pe p ds h2)
theorem RFs.pe (p : Per ι B H ι' B' H') : ∀ (ds : List (Str × D)) {vs : List (Str × V)}, RFs K ca ι B H vs ds → RFs K ca ι' B' H' vs ds
  | [], _, h => by cases h; exact .nil
  | (k, d) :: ds, _, h => by
    cases h with
    | cons h1 h2 => exact .cons (RV.pe p d h1) (RFs.pe p ds h2)
end
theorem RV.per {d : D} {v : V} (h : RV K ca ι B H v d) (p : Per ι B H ι' B' H') : RV K ca ι' B' H' v d := RV.pe p d h
theorem RAll.per {d : List D} {v : List V} (h : RAll K ca ι B H v d) (p : Per ι B H ι' B' H') : RAll K ca ι' B' H' v d := RAll.pe p d h
theorem RKv.per {d : List (Key × D)} {v : List (Key × V)} (h : RKv K ca ι B H v d) (p : Per ι B H ι' B' H') : RKv K ca ι' B' H' v d := RKv.pe p d h
theorem RFs.per {d : List (Str × D)} {v : List (Str × V)} (h : RFs K ca ι B H v d) (p : Per ι B H ι' B' H') : RFs K ca ι' B' H' v d := RFs.pe p d h
theorem RAll.len : ∀ {ds : List D} {vs : List V}, RAll K ca ι B H vs ds → vs.length = ds.length
  | [], _, h => by cases h; rfl
  | d :: ds, _, h => by
    cases h with
    | cons h1 h2 => rw [List.length_cons, List.length_cons, RAll.len h2]
theorem RAll.app : ∀ {ds es : List D} {vs ws : List V}, RAll K ca ι B H vs ds → RAll K ca ι B H ws es → RAll K ca ι B H (vs ++ ws) (ds ++ es)
  | [], _, _, _, h, g => by cases h; exact g
  | d :: ds, _, _, _, h, g => by
    cases h with
    | cons h1 h2 => exact .cons h1 (RAll.app h2 g)
theorem RAll.drop : ∀ (n : Nat) {ds : List D} {vs : List V}, RAll K ca ι B H vs ds → RAll K ca ι B H (vs.drop n) (ds.drop n)
  | 0, _, _, h => h
  | n + 1, [], _, h => by cases h; exact .nil
  | n + 1, d :: ds, _, h => by
    cases h with
    | cons h1 h2 => exact RAll.drop n h2
theorem RAll.take : ∀ (n : Nat) {ds : List D} {vs : List V}, RAll K ca ι B H vs ds → RAll K ca ι B H (vs.take n) (ds.take n)
  | 0, _, _, h => .nil
  | n + 1, [], _, h => by cases h; exact .nil
  | n + 1, d :: ds, _, h => by
    cases h with
    | cons h1 h2 => exact .cons h1 (RAll.take n h2)
theorem RAll.at : ∀ {ds : List D} {vs : List V} (i : Nat) {d : D}, RAll K ca ι B H vs ds → ds[i]? = some d → ∃ v, vs[i]? = some v ∧ RV K ca ι B H v d
  | [], _, i, _, h, e => by simp at e
  | d :: ds, _, 0, _, h, e => by
    cases h with
    | cons h1 h2 => simp at e; subst e; exact ⟨_, rfl, h1⟩
  | d :: ds, _, i + 1, _, h, e => by
    cases h with
    | cons h1 h2 =>
      obtain ⟨v, q1, q2⟩ := RAll.at i h2 (by simpa using e)
      exact ⟨v, by simpa using q1, q2⟩
theorem RAll.atV : ∀ {ds : List D} {vs : List V} (i : Nat) {v : V}, RAll K ca ι B H vs ds → vs[i]? = some v → ∃ d, ds[i]? = some d ∧ RV K ca ι B H v d
  | [], _, i, _, h, e => by cases h; simp at e
  | d :: ds, _, 0, _, h, e => by
    cases h with
    | cons h1 h2 => simp at e; subst e; exact ⟨_, rfl, h1⟩
  | d :: ds, _, i + 1, _, h, e => by
    cases h with
    | cons h1 h2 =>
      obtain ⟨v, q1, q2⟩ := RAll.atV i h2 (by simpa using e)
      exact ⟨v, by simpa using q1, q2⟩
theorem RAll.set : ∀ {ds : List D} {vs : List V} (i : Nat) {d : D} {v : V}, RAll K ca ι B H vs ds → RV K ca ι B H v d → RAll K ca ι B H (vs.set i v) (ds.set i d)
  | [], _, i, _, _, h, g => by cases h; exact .nil
  | d :: ds, _, 0, _, _, h, g => by
    cases h with
    | cons h1 h2 => exact .cons g h2
  | d :: ds, _, i + 1, _, _, h, g => by
    cases h with
    | cons h1 h2 => exact .cons h1 (RAll.set i h2 g)
theorem RFs.look : ∀ {ds : List (Str × D)} {vs : List (Str × V)} {f : Str}, RFs K ca ι B H vs ds → (∃ d v, ds.lookup f = some d ∧ vs.lookup f = some v ∧ RV K ca ι B H v d) ∨ (ds.lookup f = none ∧ vs.lookup f = none)
  | [], _, f, h => by cases h; exact .inr ⟨rfl, rfl⟩
  | (k, d) :: ds, _, f, h => by
    cases h with
    | cons h1 h2 =>
      rw [List.lookup_cons, List.lookup_cons]
      cases e : f == k with
      | true => exact .inl ⟨d, _, rfl, rfl, h1⟩
      | false => exact RFs.look h2
end
/-- seen only, or a value -/
inductive RT (K : PySem.W.Frag) (ca : Nat → Addr) (ι B : List Addr) (H : Hp) : V → D → Prop
  | v {x : V} {d : D} : RV K ca ι B H x d → RT K ca ι B H x d
  | l {a : Addr} {xs : List V} {ds : List D} : a ∉ ι → H a = some (.lst xs) → RAll K ca ι B H xs ds → RT K ca ι B H (.ref a) (.lst ds)
  | o {a dx : Addr} {c : Nat} {fs : List (Str × V)} {es : List (Str × D)} : a ∉ ι → H a = some (.ins (ca c) dx fs) → RFs K ca ι B H fs es → RT K ca ι B H (.ref a) (.obj c es)
inductive RC (K : PySem.W.Frag) (ca : Nat → Addr) (ι B : List Addr) (H : Hp) (a : Addr) : Ce → Prop
  | lst {xs : List V} {ds : List D} : H a = some (.lst xs) → RAll K ca ι B H xs ds → RC K ca ι B H a (.lst ds)
  | dK {xs : List (Key × V)} {ds : List (Key × D)} : H a = some (.dK xs) → RKv K ca ι B H xs ds → RC K ca ι B H a (.dK ds)
  | ins {dx : Addr} {c : Nat} {fs : List (Str × V)} {es : List (Str × D)} : H a = some (.ins (ca c) dx fs) → RFs K ca ι B H fs es → RC K ca ι B H a (.ins c es)
structure RS (K : PySem.W.Frag) (ca : Nat → Addr) (ι B : List Addr) (H : Hp) (S : Sto) : Prop where
  len : ι.length = S.length
  at' : ∀ (k : Nat) (a : Addr) (c : Ce), ι[k]? = some a → S[k]? = some c → RC K ca ι B H a c
/-- a new one -/
inductive Fs (K : PySem.W.Frag) (ca : Nat → Addr) (ι B : List Addr) (H0 H : Hp) (S : Sto) : V → D → Prop
  | l {a : Addr} {xs : List V} {ds : List D} : a ∉ ι → a ∉ B → H0 a = none → H a = some (.lst xs) → RAll K ca ι (a :: B) H xs ds → RS K ca ι (a :: B) H S → Fs K ca ι B H0 H S (.ref a) (.lst ds)
  | o {a dx : Addr} {c : Nat} {fs : List (Str × V)} {es : List (Str × D)} : a ∉ ι → a ∉ B → H0 a = none → H a = some (.ins (ca c) dx fs) → RFs K ca ι (a :: B) H fs es → RS K ca ι (a :: B) H S → Fs K ca ι B H0 H S (.ref a) (.obj c es)
def RF (K : PySem.W.Frag) (ca : Nat → Addr) (ι B : List Addr) (H0 H : Hp) (S : Sto) (v : V) (d : D) : Fl → Prop
  | .pk => RT K ca ι B H v d
  | .tr => RV K ca ι B H v d
  | .fs => Fs K ca ι B H0 H S v d
section
variable {K : PySem.W.Frag} {ca : Nat → Addr} {ι B ι' B' : List Addr} {H0 H H' : Hp} {S : Sto} {v : V} {d : D}
theorem Per.less (h : ∀ a ∈ B', a ∈ B) : Per ι B H ι B' H := ⟨fun a o h1 h2 h3 => ⟨h1, h2, fun z => h3 (h a z)⟩, fun _ _ z => z⟩
theorem Fs.rv (h : Fs K ca ι B H0 H S v d) : RV K ca ι B H v d := by
  cases h with
  | l h1 h2 h3 h4 h5 h6 => exact .lst h1 h2 h4 (h5.per (Per.less fun a ha => List.mem_cons_of_mem _ ha))
  | o h1 h2 h3 h4 h5 h6 => exact .obj h1 h2 h4 (h5.per (Per.less fun a ha => List.mem_cons_of_mem _ ha))
theorem RF.rt {f : Fl} (h : RF K ca ι B H0 H S v d f) : RT K ca ι B H v d := by
  cases f with
  | pk => exact h
  | tr => exact .v h
  | fs => exact .v (Fs.rv h)
theorem RF.rv {f : Fl} (h : RF K ca ι B H0 H S v d f) (hf : f ≠ .pk) : RV K ca ι B H v d := by
  cases f with
  | pk => exact absurd rfl hf
  | tr => exact h
  | fs => exact Fs.rv h
theorem Fs.old {H1 : Hp} (h : Fs K ca ι B H0 H S v d) (g : ∀ a, H1 a ≠ none → H0 a ≠ none) : Fs K ca ι B H1 H S v d := by
  have e : ∀ a, H0 a = none → H1 a = none := fun a q => by
    cases z : H1 a with
    | none => rfl
    | some o => exact absurd q (g a (by rw [z]; simp))
  cases h with
  | l h1 h2 h3 h4 h5 h6 => exact .l h1 h2 (e _ h3) h4 h5 h6
  | o h1 h2 h3 h4 h5 h6 => exact .o h1 h2 (e _ h3) h4 h5 h6
theorem RF.old {f : Fl} {H1 : Hp} (h : RF K ca ι B H0 H S v d f) (g : ∀ a, H1 a ≠ none → H0 a ≠ none) : RF K ca ι B H1 H S v d f := by
  cases f with
  | pk => exact h
  | tr => exact h
  | fs => exact Fs.old h g
end
/-- the heap has grown, but for the cells -/
structure Ext (ι : List Addr) (H : Hp) (ι' : List Addr) (H' : Hp) : Prop where
  pre : ι <+: ι'
  keep : ∀ a o, H a = some o → a ∉ ι → H' a = some o
  new : ∀ a ∈ ι', a ∉ ι → H a = none
  dom : ∀ a, H a ≠ none → H' a ≠ none
theorem ix_pre {ι ι' : List Addr} (h : ι <+: ι') {k : Nat} {a : Addr} (e : ι[k]? = some a) : ι'[k]? = some a := by
  obtain ⟨t, rfl⟩ := h
  rw [List.getElem?_append_left (List.getElem?_eq_some_iff.mp e).1]; exact e
section
variable {ι ι1 ι2 B : List Addr} {H H1 H2 : Hp}
theorem Ext.refl : Ext ι H ι H := ⟨List.prefix_rfl, fun _ _ h _ => h, fun _ h n => absurd h n, fun _ h => h⟩
theorem Ext.trans (a : Ext ι H ι1 H1) (b : Ext ι1 H1 ι2 H2) : Ext ι H ι2 H2 := by
  refine ⟨a.pre.trans b.pre, fun x o h n => ?_, fun x h n => ?_, fun x h => b.dom x (a.dom x h)⟩
  · refine b.keep x o (a.keep x o h n) fun z => ?_
    have := a.new x z n
    rw [h] at this; cases this
  · by_cases hx : x ∈ ι1
    · exact a.new x hx n
    · have := b.new x h hx
      cases e : H x with
      | none => rfl
      | some o => exact absurd this (a.dom x (by rw [e]; simp))
theorem Ext.per (e : Ext ι H ι1 H1) : Per ι B H ι1 B H1 :=
  ⟨fun a o h1 h2 h3 => ⟨e.keep a o h1 h2, (fun z => by
    have := e.new a z h2
    rw [h1] at this; cases this), h3⟩, fun _ _ h => ix_pre e.pre h⟩
/-- a new thing at p -/
theorem Ext.new1 {p : Addr} {o : HO} (h : H p = none) : Ext ι H ι (upd H p o) := by
  refine ⟨List.prefix_rfl, fun a u e _ => ?_, fun _ h n => absurd h n, fun a e => ?_⟩
  · rw [upd_ne (ne_of_none e h)]; exact e
  · unfold upd; split
    · simp
    · exact e
theorem Ext.gr (g : ∀ a o, H a = some o → H1 a = some o) : Ext ι H ι H1 := by
  refine ⟨List.prefix_rfl, fun a u e _ => g a u e, fun _ h n => absurd h n, fun a e => ?_⟩
  cases z : H a with
  | none => exact absurd z e
  | some o => rw [g a o z]; simp
end
section
variable {K : PySem.W.Frag} {ca : Nat → Addr} {ι B ι' : List Addr} {H H' : Hp} {v : V} {d : D}
theorem RV.ex (h : RV K ca ι B H v d) (e : Ext ι H ι' H') : RV K ca ι' B H' v d := h.per e.per
theorem RAll.ex {vs : List V} {ds : List D} (h : RAll K ca ι B H vs ds) (e : Ext ι H ι' H') : RAll K ca ι' B H' vs ds := h.per e.per
theorem RFs.ex {vs : List (Str × V)} {ds : List (Str × D)} (h : RFs K ca ι B H vs ds) (e : Ext ι H ι' H') : RFs K ca ι' B H' vs ds := h.per e.per
theorem Ext.off (e : Ext ι H ι' H') {a : Addr} {o : HO} (h : H a = some o) (n : a ∉ ι) : a ∉ ι' := fun z => by
  have := e.new a z n
  rw [h] at this; cases this
theorem RT.ex (h : RT K ca ι B H v d) (e : Ext ι H ι' H') : RT K ca ι' B H' v d := by
  cases h with
  | v h => exact .v (h.ex e)
  | l h1 h2 h3 => exact .l (e.off h2 h1) (e.keep _ _ h2 h1) (h3.ex e)
  | o h1 h2 h3 => exact .o (e.off h2 h1) (e.keep _ _ h2 h1) (h3.ex e)
end
theorem RC.here {K : PySem.W.Frag} {ca : Nat → Addr} {ι B : List Addr} {H : Hp} {a : Addr} {c : Ce} (h : RC K ca ι B H a c) : H a ≠ none := by
  cases h with
  | lst h _ => rw [h]; simp
  | dK h _ => rw [h]; simp
  | ins h _ => rw [h]; simp
theorem RS.here {K : PySem.W.Frag} {ca : Nat → Addr} {ι B : List Addr} {H : Hp} {S : Sto} (h : RS K ca ι B H S) : ∀ a ∈ ι, H a ≠ none := fun a ha => by
  obtain ⟨k, hk, e⟩ := List.getElem_of_mem ha
  have e1 : ι[k]? = some a := by rw [List.getElem?_eq_getElem hk, e]
  have hk2 : k < S.length := by rw [← h.len]; exact hk
  exact (h.at' k a S[k] e1 (List.getElem?_eq_getElem hk2)).here
/-- cells whose own objects stay -/
theorem RC.per {K : PySem.W.Frag} {ca : Nat → Addr} {ι B ι' B' : List Addr} {H H' : Hp} {a : Addr} {c : Ce} (h : RC K ca ι B H a c) (e : H' a = H a) (p : Per ι B H ι' B' H') : RC K ca ι' B' H' a c := by
  cases h with
  | lst h r => exact .lst (e.trans h) (r.per p)
  | dK h r => exact .dK (e.trans h) (r.per p)
  | ins h r => exact .ins (e.trans h) (r.per p)
theorem RS.per {K : PySem.W.Frag} {ca : Nat → Addr} {ι B B' : List Addr} {H H' : Hp} {S : Sto} (h : RS K ca ι B H S) (e : ∀ a ∈ ι, H' a = H a) (p : Per ι B H ι B' H') : RS K ca ι B' H' S :=
  ⟨h.len, fun k a c h1 h2 => (h.at' k a c h1 h2).per (e a (List.mem_of_getElem? h1)) p⟩
theorem RS.gr {K : PySem.W.Frag} {ca : Nat → Addr} {ι B : List Addr} {H H' : Hp} {S : Sto} (h : RS K ca ι B H S) (g : ∀ a o, H a = some o → H' a = some o) : RS K ca ι B H' S :=
  h.per (fun a ha => by
    cases e : H a with
    | none => exact absurd e (h.here a ha)
    | some o => exact g a o e) (Ext.gr g).per
/-- the dict of an exception, if it has one -/
def NI (d : Option Addr) (l : List Addr) : Prop := ∀ a, d = some a → a ∉ l
def XD (H : Hp) (d : Option Addr) (fs : List (Str × V)) : Prop := match d with
  | some a => H a = some (.xd fs)
  | none => fs = []
theorem NI.less {d : Option Addr} {l m : List Addr} (h : NI d m) (s : ∀ a ∈ l, a ∈ m) : NI d l := fun a e z => h a e (s a z)
theorem XD.ex {ι ι' : List Addr} {H H' : Hp} {d : Option Addr} {fs : List (Str × V)} (h : XD H d fs) (n : NI d ι) (e : Ext ι H ι' H') : XD H' d fs := by
  cases d with
  | none => exact h
  | some a => exact e.keep _ _ h (n a rfl)
theorem NI.ex {ι ι' : List Addr} {H H' : Hp} {d : Option Addr} {fs : List (Str × V)} (h : XD H d fs) (n : NI d ι) (e : Ext ι H ι' H') : NI d ι' := fun a q => by
  subst q
  exact e.off h (n a rfl)
theorem XD.per {ι B ι' B' : List Addr} {H H' : Hp} {d : Option Addr} {fs : List (Str × V)} (h : XD H d fs) (n1 : NI d ι) (n2 : NI d B) (p : Per ι B H ι' B' H') : XD H' d fs ∧ NI d ι' ∧ NI d B' := by
  cases d with
  | none => exact ⟨h, (fun a z => nomatch z), (fun a z => nomatch z)⟩
  | some a =>
    obtain ⟨q1, q2, q3⟩ := p.at' a _ h (n1 a rfl) (n2 a rfl)
    exact ⟨q1, fun b z => by cases z; exact q2, fun b z => by cases z; exact q3⟩
structure Fr where
  H0 : Hp
  i0 : List Addr
  B0 : List Addr
structure Gm where
  K : PySem.W.Frag
  ca : Nat → Addr
  x : Option (Addr × Option Addr × Nat)
  me : Option Addr
inductive RSl (G : Gm) (ι B ω : List Addr) (H : Hp) : Sl → Option V → Prop
  | no {o : Option V} : RSl G ι B ω H .no o
  | val {v : V} {d : D} : RV G.K G.ca ι B H v d → RSl G ι B ω H (.val d) (some v)
  | own {a : Addr} {xs : List V} {ds : List D} : a ∈ ω → H a = some (.lst xs) → RAll G.K G.ca ι B H xs ds → RSl G ι B ω H (.own ds) (some (.ref a))
  | oob {a dx : Addr} {c : Nat} {fs : List (Str × V)} {es : List (Str × D)} : a ∈ ω → G.me = some a → H a = some (.ins (G.ca c) dx fs) → RFs G.K G.ca ι B H fs es → RSl G ι B ω H (.oob c es) (some (.ref a))
  | exn {a : Addr} {dd : Option Addr} {c : Nat} {fs : List (Str × V)} {es : List (Str × D)} : G.x = some (a, dd, c) → NI dd ι → NI dd B → XD H dd fs → RFs G.K G.ca ι B H fs es → RSl G ι B ω H (.exn c es) (some (.ref a))
def isOwn : Sl → Bool
  | .own _ => true
  | .oob _ _ => true
  | _ => false
structure Rel (G : Gm) (F : Fr) (ι ω : List Addr) (ρ : Ev) (S : Sto) (σ : L2.St) (H : Hp) : Prop where
  pre : F.i0 <+: ι
  old : ∀ a o, F.H0 a = some o → a ∉ F.i0 → H a = some o
  dom : ∀ a, F.H0 a ≠ none → H a ≠ none
  fri : ∀ a ∈ ι, a ∉ F.i0 → F.H0 a = none
  frw : ∀ a ∈ ω, F.H0 a = none
  b0 : ∀ a ∈ F.B0, F.H0 a ≠ none ∧ a ∉ F.i0
  nd : ι.Nodup
  dj : ∀ a ∈ ω, a ∉ ι
  dw : ∀ a ∈ ω, H a ≠ none
  sto : RS G.K G.ca ι (F.B0 ++ ω) H S
  len : ρ.length = σ.length
  env : ∀ (i : Nat) (s : Sl) (o : Option V), ρ[i]? = some s → σ[i]? = some o → RSl G ι (F.B0 ++ ω) ω H s o
  own : ∀ (i j : Nat) (a : Addr) (s s' : Sl), i ≠ j → ρ[i]? = some s → ρ[j]? = some s' → isOwn s = true → isOwn s' = true → σ[i]? = some (some (.ref a)) → σ[j]? = some (some (.ref a)) → False
section
variable {G : Gm} {F : Fr} {ι ω ι' : List Addr} {ρ : Ev} {S S' : Sto} {σ : L2.St} {H H' : Hp}
theorem RSl.ex {s : Sl} {o : Option V} (h : RSl G ι (F.B0 ++ ω) ω H s o) (dj : ∀ a ∈ ω, a ∉ ι) (e : Ext ι H ι' H') : RSl G ι' (F.B0 ++ ω) ω H' s o := by
  cases h with
  | no => exact .no
  | val h => exact .val (h.ex e)
  | own h1 h2 h3 => exact .own h1 (e.keep _ _ h2 (dj _ h1)) (h3.ex e)
  | oob h1 h0 h2 h3 => exact .oob h1 h0 (e.keep _ _ h2 (dj _ h1)) (h3.ex e)
  | exn h1 h2 h3 h4 h5 => exact .exn h1 (NI.ex h4 h2 e) h3 (h4.ex h2 e) (h5.ex e)
theorem Rel.bi (r : Rel G F ι ω ρ S σ H) : ∀ a ∈ F.B0 ++ ω, a ∉ ι := fun a ha z => by
  rcases List.mem_append.mp ha with h | h
  · obtain ⟨h1, h2⟩ := r.b0 a h
    exact h1 (r.fri a z h2)
  · exact r.dj a h z
theorem Rel.bd (r : Rel G F ι ω ρ S σ H) : ∀ a ∈ F.B0 ++ ω, H a ≠ none := fun a ha => by
  rcases List.mem_append.mp ha with h | h
  · exact r.dom a (r.b0 a h).1
  · exact r.dw a h
theorem Rel.ex (r : Rel G F ι ω ρ S σ H) (e : Ext ι H ι' H') (nd : ι'.Nodup) (s : RS G.K G.ca ι' (F.B0 ++ ω) H' S') : Rel G F ι' ω ρ S' σ H' := by
  have up : ∀ a o, F.H0 a = some o → a ∉ F.i0 → a ∉ ι := fun a o h n z => by
    have := r.fri a z n
    rw [h] at this; cases this
  refine ⟨r.pre.trans e.pre, fun a o h n => e.keep a o (r.old a o h n) (up a o h n), fun a h => e.dom a (r.dom a h), fun a h n => ?_, r.frw, r.b0, nd, fun a h z => ?_, fun a h => e.dom a (r.dw a h), s, r.len, fun i s o h1 h2 => (r.env i s o h1 h2).ex r.dj e, r.own⟩
  · by_cases hx : a ∈ ι
    · exact r.fri a hx n
    · have q := e.new a h hx
      cases z : F.H0 a with
      | none => rfl
      | some o => exact absurd q (r.dom a (by rw [z]; simp))
  · exact r.dw a h (e.new a z (r.dj a h))
/-- the heap alone has grown -/
theorem Rel.gr (r : Rel G F ι ω ρ S σ H) (g : ∀ a o, H a = some o → H' a = some o) : Rel G F ι ω ρ S σ H' := r.ex (Ext.gr g) r.nd (r.sto.gr g)
theorem Rel.new (r : Rel G F ι ω ρ S σ H) {p : Addr} {o : HO} (h : H p = none) : Rel G F ι ω ρ S σ (upd H p o) := r.gr fun a u e => by
  rw [upd_ne (ne_of_none e h)]; exact e
theorem Rel.offi (r : Rel G F ι ω ρ S σ H) {p : Addr} (h : H p = none) : p ∉ ι := fun z => r.sto.here p z h
theorem Rel.offb (r : Rel G F ι ω ρ S σ H) {p : Addr} (h : H p = none) : p ∉ F.B0 ++ ω := fun z => r.bd p z h
end
end Fx
namespace U
open PySem PySem.Spec PyProof.Rows L2
mutual
inductive Dq (K : PySem.W.Frag) (H : Hp) : V → PyData → Prop
  | non : Dq K H .non .none
  | bl (k : Bool) : Dq K H (.bl k) (.bool k)
  | int (i : Int) : Dq K H (.int i) (.int i)
  | str (z : Str) : Dq K H (.str z) (.str z)
  | lst {a : Addr} {xs : List V} {ds : List PyData} : SqL K H a xs → DqAll K H xs ds → Dq K H (.ref a) (.list ds)
  | tup {a : Addr} {xs : List V} {ds : List PyData} : SqT K H a xs → DqAll K H xs ds → Dq K H (.ref a) (.tuple ds)
  | dct {a : Addr} : H a = some (.dK []) → Dq K H (.ref a) (.dict [])
  | dct1 {a : Addr} {z : Str} {i : Int} : H a = some (.dK [(.inr z, .int i)]) → Dq K H (.ref a) (.dict [(.str z, .int i)])
  | dctk {a : Addr} {kvs : List (Key × V)} {ds : List (PyData × PyData)} : H a = some (.dK kvs) → DqKv K H kvs ds → Dq K H (.ref a) (.dict ds)
inductive DqKv (K : PySem.W.Frag) (H : Hp) : List (Key × V) → List (PyData × PyData) → Prop
  | nil : DqKv K H [] []
  | cons {z : Str} {v : V} {d : PyData} {kvs : List (Key × V)} {ds : List (PyData × PyData)} : Dq K H v d → DqKv K H kvs ds → DqKv K H ((.inr z, v) :: kvs) ((.str z, d) :: ds)
inductive DqAll (K : PySem.W.Frag) (H : Hp) : List V → List PyData → Prop
  | nil : DqAll K H [] []
  | cons {v : V} {vs : List V} {d : PyData} {ds : List PyData} : Dq K H v d → DqAll K H vs ds → DqAll K H (v :: vs) (d :: ds)
end
mutual
theorem Dq.dp {K : PySem.W.Frag} {H : Hp} : ∀ (d : PyData) {v : V}, Dq K H v d → d.hasDict = false → Dp K H v d
  | .none, _, h, _ => by cases h; exact .non
  | .bool _, _, h, _ => by cases h; exact .bl _
  | .int _, _, h, _ => by cases h; exact .int _
  | .str _, _, h, _ => by cases h; exact .str _
  | .list ds, _, h, g => by
    cases h with
    | lst h2 h3 => exact .lst h2 (DqAll.dp ds h3 (by simpa only [PyData.hasDict] using g))
  | .tuple ds, _, h, g => by
    cases h with
    | tup h2 h3 => exact .tup h2 (DqAll.dp ds h3 (by simpa only [PyData.hasDict] using g))
  | .dict _, _, _, g => by simp only [PyData.hasDict] at g; cases g
theorem DqAll.dp {K : PySem.W.Frag} {H : Hp} : ∀ (ds : List PyData) {vs : List V}, DqAll K H vs ds → PyData.hasDictAll ds = false → DpAll K H vs ds
  | [], _, h, _ => by cases h; exact .nil
  | d :: ds, _, h, g => by
    cases h with
    | cons h1 h2 =>
      simp only [PyData.hasDictAll, Bool.or_eq_false_iff] at g
      exact .cons (Dq.dp d h1 g.1) (DqAll.dp ds h2 g.2)
end
/-- the entries of a dict in the heap -/
inductive EntK : List (Key × V) → List DictEntry → Prop
  | nil : EntK [] []
  | cons {k : Key} {v : V} {kvs : List (Key × V)} {en : DictEntry} {es : List DictEntry} : keyIs k en.key = true → RelV v en.val → EntK kvs es → EntK ((k, v) :: kvs) (en :: es)
section
variable {X : Cx} {pins : List (Addr × Obj)} {σ : L2.St} {H : Hp} {s : Shared}
theorem entK_of : ∀ {kvs : List (Key × V)} {vs : List (Key × Value)} {l : List DictEntry}, KV kvs vs → Pairs (mixKind X.prog X.w) l vs → EntK kvs l
  | [], _, _, kv, p => by
    cases kv
    cases p
    exact .nil
  | (k, v) :: kvs, _, _, kv, p => by
    cases kv with
    | cons k1 k2 =>
      cases p with
      | cons p1 p2 p3 =>
        obtain ⟨e1, e2⟩ := k1
        refine .cons ?_ ?_ (entK_of k2 p3)
        · rw [show k = _ from e1]; exact p1
        · rw [p2]; exact e2
theorem dk_all_at (I : Inv X pins σ H s) {a : Addr} {kvs : List (Key × V)} (h : H a = some (.dK kvs)) : (a == sysModules) = false ∧ ∃ (o : Obj) (n : Nat) (es : Array DictEntry), s.heap.get? a = some o ∧ o.cls = .type "dict" ∧ o.data = .dict es n ∧ EntK kvs es.toList := by
  obtain ⟨_, h2, vs, kv, o, es, ep, g1, g2, g3, _, g5, _⟩ := (show ObjOk X.prog X.w H s.heap a (.dK kvs) from I.hok a _ h)
  exact ⟨h2, o, ep, es, g1, g2.1, g3, entK_of (X := X) kv g5⟩
theorem dk_one_at (I : Inv X pins σ H s) {a : Addr} {z : Str} {i : Int} (h : H a = some (.dK [(.inr z, .int i)])) : (a == sysModules) = false ∧ ∃ (o : Obj) (n : Nat) (en : DictEntry) (t t' : Tok), s.heap.get? a = some o ∧ o.cls = .type "dict" ∧ o.data = .dict #[en] n ∧ en.key = .str z t ∧ en.val = .int i t' := by
  obtain ⟨_, h2, vs, kv, o, es, ep, g1, g2, g3, _, g5, _⟩ := (show ObjOk X.prog X.w H s.heap a (.dK [(.inr z, .int i)]) from I.hok a _ h)
  obtain ⟨l⟩ := es
  match vs, kv with
  | [(kk, w)], .cons k1 .nil =>
    obtain ⟨e1, t', e2⟩ := k1
    cases (show Sum.inr z = kk from e1)
    have e2 : w = Value.int i t' := e2
    subst e2
    have g5 : Pairs (mixKind X.prog X.w) l [(Sum.inr z, Value.int i t')] := g5
    cases g5 with
    | @cons en _ _ _ p1 p2 p3 =>
      cases p3
      rcases keyIs_shape (show keyIs (Sum.inr z) en.key = true from p1) with ⟨j, t, q1, q2⟩ | ⟨x, t, q1, q2⟩
      · cases q1
      · cases q1
        exact ⟨h2, o, ep, en, t, t', g1, g2.1, g3, q2, p2⟩
mutual
theorem Dq.reads (I : Inv X pins σ H s) : ∀ (d : PyData) {v : V} {u : Value}, Dq X.K H v d → RelV v u → ∃ as, Reads s.heap u d as
  | .none, _, _, h, r => by cases h; cases r; exact ⟨_, .none⟩
  | .bool _, _, _, h, r => by cases h; cases r; exact ⟨_, .bool _⟩
  | .int _, _, _, h, r => by cases h; obtain ⟨t, rfl⟩ := r; exact ⟨_, .int _ t⟩
  | .str _, _, _, h, r => by cases h; obtain ⟨t, rfl⟩ := r; exact ⟨_, .str _ t⟩
  | .list ds, _, _, h, r => by
    cases h with
    | lst h2 h3 =>
      cases r
      obtain ⟨us, rv, ⟨o, n, e1, e2, _, e3⟩, _⟩ := I.list h2
      obtain ⟨as, q⟩ := DqAll.reads I ds h3 rv
      exact ⟨_, .list e1 e2 e3 q⟩
  | .tuple ds, _, _, h, r => by
    cases h with
    | tup h2 h3 =>
      cases r
      obtain ⟨us, rv, ⟨o, e1, e2, n, e3⟩, _⟩ := I.tuple h2
      obtain ⟨as, q⟩ := DqAll.reads I ds h3 rv
      exact ⟨_, .tuple e1 e2 e3 q⟩
  | .dict _, _, _, h, r => by
    cases h with
    | dct h2 =>
      cases r
      obtain ⟨_, o, n, e1, e2, e3⟩ := dk_empty_at I h2
      exact ⟨_, .dict e1 e2 e3 .nil .nil⟩
    | dct1 h2 =>
      cases r
      obtain ⟨_, o, n, en, t, t', e1, e2, e3, e4, e5⟩ := dk_one_at I h2
      exact ⟨_, .dict e1 e2 e3 (.cons (by dsimp only; rw [e4]; exact .str _ t) .nil) (.cons (by dsimp only; rw [e5]; exact .int _ t') .nil)⟩
    | dctk h2 h3 =>
      cases r
      obtain ⟨_, o, n, es, e1, e2, e3, e4⟩ := dk_all_at I h2
      obtain ⟨⟨as, q1⟩, bs, q2⟩ := DqKv.reads I _ h3 e4
      exact ⟨_, .dict e1 e2 e3 q1 q2⟩
theorem DqKv.reads (I : Inv X pins σ H s) : ∀ (ds : List (PyData × PyData)) {kvs : List (Key × V)} {es : List DictEntry}, DqKv X.K H kvs ds → EntK kvs es → (∃ as, ReadsAll s.heap (es.map (·.key)) (ds.map (·.1)) as) ∧ ∃ bs, ReadsAll s.heap (es.map (·.val)) (ds.map (·.2)) bs
  | [], _, _, h, r => by cases h; cases r; exact ⟨⟨_, .nil⟩, _, .nil⟩
  | (k, d) :: ds, _, _, h, r => by
    cases h with
    | cons h1 h2 =>
      cases r with
      | cons r1 r2 r3 =>
        obtain ⟨⟨as, q1⟩, bs, q2⟩ := DqKv.reads I ds h2 r3
        obtain ⟨cs, q3⟩ := Dq.reads I d h1 r2
        rcases keyIs_shape r1 with ⟨j, t, g1, g2⟩ | ⟨x, t, g1, g2⟩
        · cases g1
        · cases g1
          exact ⟨⟨_, .cons (by dsimp only; rw [g2]; exact .str _ t) q1⟩, _, .cons q3 q2⟩
theorem DqAll.reads (I : Inv X pins σ H s) : ∀ (ds : List PyData) {vs : List V} {us : List Value}, DqAll X.K H vs ds → Vals vs us → ∃ as, ReadsAll s.heap us ds as
  | [], _, _, h, r => by cases h; cases r; exact ⟨_, .nil⟩
  | d :: ds, _, _, h, r => by
    cases h with
    | cons h1 h2 =>
      cases r with
      | cons r1 r2 =>
        obtain ⟨as, q1⟩ := Dq.reads I d h1 r1
        obtain ⟨cs, q2⟩ := DqAll.reads I ds h2 r2
        exact ⟨_, .cons q1 q2⟩
end
theorem entries_more {P : Program} {w : World} {as as' : List Addr} {h0 : Heap} {d d' : Nat} (hsub : ∀ b ∈ as, b ∈ as') (hd : d ≤ d') : ∀ {es : List DictEntry} {ps : List Str}, ReprEntriesK P w as h0 d es ps → ReprEntriesK P w as' h0 d' es ps
  | _, _, .nil => .nil
  | _, _, .cons h1 h2 h3 => .cons ((h1.more hsub).level_le hd) ((h2.more hsub).level_le hd) (entries_more hsub hd h3)
mutual
theorem Dq.shows (I : Inv X pins σ H s) : ∀ (d : PyData) {v : V} {u : Value}, Dq X.K H v d → RelV v u → d.showable = true → d.shown.length ≤ sizeLine →
    ∃ bs, ReadAtMost s.heap d.depth bs ∧ ReprK X.prog X.w bs s.heap d.depth u d.shown
  | .none, _, _, h, r, _, _ => by
    cases h; cases r
    refine ⟨[], fun _ q => (nomatch q), ?_⟩
    simp only [PyData.shown]; exact .of_is ReprIs.none _ _ _
  | .bool k, _, _, h, r, _, _ => by
    cases h; cases r
    refine ⟨[], fun _ q => (nomatch q), ?_⟩
    simp only [PyData.shown]; exact .of_is (ReprIs.bool k) _ _ _
  | .int i, _, _, h, r, hs, _ => by
    cases h; obtain ⟨t, rfl⟩ := r
    refine ⟨[], fun _ q => (nomatch q), ?_⟩
    have g : i.natAbs.log2 < 1920 := by simpa [PyData.showable] using hs
    simp only [PyData.shown]; exact .of_is (ReprIs.int t g) _ _ _
  | .str z, _, _, h, r, _, hz => by
    cases h; obtain ⟨t, rfl⟩ := r
    refine ⟨[], fun _ q => (nomatch q), ?_⟩
    simp only [PyData.shown] at hz ⊢; exact .of_is (ReprIs.str z t hz) _ _ _
  | .list ds, _, u, h, r, hs, hz => by
    obtain ⟨as, rd⟩ := Dq.reads I (.list ds) h r
    cases h with
    | @lst a xs _ h2 h3 =>
      cases r
      obtain ⟨us, rv, ⟨o, n, e1, e2, _, e3⟩, _⟩ := I.list h2
      simp only [PyData.shown] at hz
      obtain ⟨bs, k1, k2⟩ := DqAll.shows I ds h3 rv (by simpa only [PyData.showable] using hs) (fun t ht => Nat.le_trans (listText_mem_le ht) hz)
      have no : a ∉ bs := not_mem_of_deeper rd (by simp only [PyData.depth]; omega) k1
      refine ⟨a :: bs, ReadAtMost.cons rd (by simp only [PyData.depth]; omega) k1, ?_⟩
      simp only [PyData.depth, PyData.shown]
      cases us with
      | nil =>
        cases rv
        cases h3
        simp only [PyData.shownAll, listText_nil]
        exact .listEmpty e1 e2 e3
      | cons x l => exact .list e1 e2 e3 no (by simpa using k2.length_eq) fun i y e => k2.item i y (by simpa using e)
  | .tuple ds, _, u, h, r, hs, hz => by
    obtain ⟨as, rd⟩ := Dq.reads I (.tuple ds) h r
    cases h with
    | @tup a xs _ h2 h3 =>
      cases r
      obtain ⟨us, rv, ⟨o, e1, e2, n, e3⟩, _⟩ := I.tuple h2
      simp only [PyData.shown] at hz
      obtain ⟨bs, k1, k2⟩ := DqAll.shows I ds h3 rv (by simpa only [PyData.showable] using hs) (fun t ht => Nat.le_trans (tupleText_mem_le ht) hz)
      have no : a ∉ bs := not_mem_of_deeper rd (by simp only [PyData.depth]; omega) k1
      refine ⟨a :: bs, ReadAtMost.cons rd (by simp only [PyData.depth]; omega) k1, ?_⟩
      simp only [PyData.depth, PyData.shown]
      exact .tuple e1 e2 e3 no (by simpa using k2)
  | .dict kvs, _, u, h, r, hs, hz => by
    obtain ⟨as, rd⟩ := Dq.reads I (.dict kvs) h r
    cases h with
    | @dct a h2 =>
      cases r
      obtain ⟨g, o, n, e1, e2, e3⟩ := dk_empty_at I h2
      refine ⟨[a], ReadAtMost.cons (n := 0) rd (Nat.zero_le _) (fun _ q => (nomatch q)), ?_⟩
      simp only [PyData.depth, PyData.shown, PyData.depthKv, PyData.shownKv]
      exact .dict (ps := []) e1 e2 e3 g (by simp) .nil
    | @dct1 a z i h2 =>
      cases r
      obtain ⟨g, o, n, en, t, t', e1, e2, e3, e4, e5⟩ := dk_one_at I h2
      refine ⟨[a], ReadAtMost.cons (n := 0) rd (Nat.zero_le _) (fun _ q => (nomatch q)), ?_⟩
      have hg : i.natAbs.log2 < 1920 := by simpa [PyData.showable, PyData.showableKv] using hs
      have hzz : (PyData.shown (.str z)).length ≤ sizeLine := by
        obtain ⟨p, hp, hl⟩ := PyData.shownKv_key_le [(.str z, .int i)] (PyData.shown (.str z)) (by simp [PyData.shownAll])
        simp only [PyData.shown] at hz
        exact Nat.le_trans hl (Nat.le_trans (dictText_mem_le hp) hz)
      simp only [PyData.depth, PyData.shown, PyData.depthKv, PyData.shownKv] at hzz ⊢
      exact .dict e1 e2 e3 g (by simp) (.cons (by rw [e4]; exact .of_is (ReprIs.str z t hzz) _ _ _) (by rw [e5]; exact .of_is (ReprIs.int t' hg) _ _ _) .nil)
    | @dctk a kw ds h2 h3 =>
      cases r
      obtain ⟨g, o, n, es, e1, e2, e3, e4⟩ := dk_all_at I h2
      simp only [PyData.shown] at hz
      obtain ⟨bs, k1, k2⟩ := DqKv.shows I kvs h3 e4 (by simpa only [PyData.showable] using hs) (fun p hp => Nat.le_trans (dictText_mem_le hp) hz)
      have no : a ∉ bs := not_mem_of_deeper rd (by simp only [PyData.depth]; omega) k1
      refine ⟨a :: bs, ReadAtMost.cons rd (by simp only [PyData.depth]; omega) k1, ?_⟩
      simp only [PyData.depth, PyData.shown]
      exact .dict e1 e2 e3 g no k2
theorem DqKv.shows (I : Inv X pins σ H s) : ∀ (ds : List (PyData × PyData)) {kvs : List (Key × V)} {es : List DictEntry}, DqKv X.K H kvs ds → EntK kvs es → PyData.showableKv ds = true → (∀ p ∈ PyData.shownKv ds, p.length ≤ sizeLine) →
    ∃ bs, ReadAtMost s.heap (PyData.depthKv ds) bs ∧ ReprEntriesK X.prog X.w bs s.heap (PyData.depthKv ds) es (PyData.shownKv ds)
  | [], _, _, h, r, _, _ => by
    cases h; cases r
    refine ⟨[], fun _ q => (nomatch q), ?_⟩
    simp only [PyData.shownKv]; exact .nil
  | (k, d) :: ds, _, _, h, r, hs, hz => by
    cases h with
    | @cons z _ _ _ _ h1 h2 =>
      cases r with
      | cons r1 r2 r3 =>
        simp only [PyData.showableKv, Bool.and_eq_true] at hs
        simp only [PyData.shownKv] at hz
        have h0 := hz _ List.mem_cons_self
        rw [strLen_append, strLen_append] at h0
        obtain ⟨b1, a1, k1⟩ := Dq.shows I d h1 r2 hs.1.2 (by omega)
        obtain ⟨b2, a2, k2⟩ := DqKv.shows I ds h2 r3 hs.2 fun t ht => hz t (List.mem_cons_of_mem _ ht)
        have hzz : (PyData.shown (.str z)).length ≤ sizeLine := by omega
        rcases keyIs_shape r1 with ⟨j, t, g1, g2⟩ | ⟨x, t, g1, g2⟩
        · cases g1
        · cases g1
          refine ⟨b1 ++ b2, ?_, ?_⟩
          · simp only [PyData.depthKv]
            exact (a1.mono (Nat.le_trans (Nat.le_max_right _ _) (Nat.le_max_left _ _))).append (a2.mono (Nat.le_max_right _ _))
          · simp only [PyData.depthKv, PyData.shownKv]
            refine .cons (by rw [g2]; simp only [PyData.shown] at hzz ⊢; exact .of_is (ReprIs.str z t hzz) _ _ _) ((k1.more fun c hc => List.mem_append_left _ hc).level_le (Nat.le_trans (Nat.le_max_right _ _) (Nat.le_max_left _ _))) ?_
            exact entries_more (fun c hc => List.mem_append_right _ hc) (Nat.le_max_right _ _) k2
theorem DqAll.shows (I : Inv X pins σ H s) : ∀ (ds : List PyData) {vs : List V} {us : List Value}, DqAll X.K H vs ds → Vals vs us → PyData.showableAll ds = true → (∀ t ∈ PyData.shownAll ds, t.length ≤ sizeLine) →
    ∃ bs, ReadAtMost s.heap (PyData.depthAll ds) bs ∧ ReprAllK X.prog X.w bs s.heap (PyData.depthAll ds) us (PyData.shownAll ds)
  | [], _, _, h, r, _, _ => by
    cases h; cases r
    refine ⟨[], fun _ q => (nomatch q), ?_⟩
    simp only [PyData.shownAll]; exact .nil
  | d :: ds, _, _, h, r, hs, hz => by
    cases h with
    | cons h1 h2 =>
      cases r with
      | cons r1 r2 =>
        simp only [PyData.showableAll, Bool.and_eq_true] at hs
        simp only [PyData.shownAll] at hz
        obtain ⟨b1, a1, k1⟩ := Dq.shows I d h1 r1 hs.1 (hz _ List.mem_cons_self)
        obtain ⟨b2, a2, k2⟩ := DqAll.shows I ds h2 r2 hs.2 fun t ht => hz t (List.mem_cons_of_mem _ ht)
        refine ⟨b1 ++ b2, ?_, ?_⟩
        · simp only [PyData.depthAll]
          exact (a1.mono (Nat.le_max_left _ _)).append (a2.mono (Nat.le_max_right _ _))
        · simp only [PyData.depthAll, PyData.shownAll]
          refine .cons ((k1.more fun c hc => List.mem_append_left _ hc).level_le (Nat.le_max_left _ _)) ?_
          exact k2.more_le (fun c hc => List.mem_append_right _ hc) (Nat.le_max_right _ _)
end
end
/-- data that repr takes, of any leaves -/
structure Okw (d : PyData) : Prop where
  sh : d.showable = true
  dp : d.depth ≤ 20
  sz : d.shown.length ≤ sizeLine
theorem Okd.w {d : PyData} (h : Okd d) : Okw d := ⟨h.sh, h.dp, h.size⟩
def uRepr3 (K : PySem.W.Frag) : List V → Hp → VK → Prop := fun xs H Q => match xs with
  | [v] => ∃ d, Dq K H v d ∧ Okw d ∧ Q (.str d.shown) H
  | _ => False
theorem cu_repr3 {X : Cx} (hg : X.A.guards = some []) (hu : X.A.units + 64 < cLine) : CallR X (.builtin "repr") (uRepr3 X.K) := fun pins s σ H xs us Q I r h => by
  match xs, h with
  | [v], h =>
    obtain ⟨d, hd, ok, q⟩ := h
    match us, r with
    | [u], .cons ru .nil =>
      have fin : ∀ h' tk u', (∀ b o, s.heap.get? b = some o → h'.get? b = some o) → EP X pins σ Q (.str d.shown u') { s with heap := h', toks := tk } := fun h' tk u' kp =>
        ⟨.str d.shown, H, I.un (Un.kept kp) (I.hok.kept kp), ⟨_, rfl⟩, q⟩
      have stay : ∀ tk u', EP X pins σ Q (.str d.shown u') { s with toks := tk } := fun tk u' => fin s.heap tk u' fun _ _ z => z
      obtain ⟨as, rd⟩ := Dq.reads I d hd ru
      have h2 := ok.sz
      have hdp := ok.dp
      cases hd with
      | non =>
        cases ru
        exact PySem.P.repr_of_none (by have e : PyData.shown .none = ("None" : Str) := by simp [PyData.shown]
                                       exact e ▸ stay _ _)
      | bl k =>
        cases ru
        exact PySem.P.repr_of_bool (by have e : PyData.shown (.bool k) = (if k then "True" else "False" : Str) := by simp [PyData.shown]
                                       exact e ▸ stay _ _)
      | int i =>
        obtain ⟨t, rfl⟩ := ru
        have g : i.natAbs.log2 < 1920 := by simpa [PyData.showable] using ok.sh
        exact PySem.P.repr_of_int g (by have e : PyData.shown (.int i) = (toString i : Str) := by simp [PyData.shown]
                                        exact e ▸ stay _ _)
      | str z =>
        obtain ⟨t, rfl⟩ := ru
        have e : PyData.shown (.str z) = reprText z := by simp [PyData.shown]
        exact PySem.P.repr_of_str (by exact e ▸ stay _ _) (e ▸ h2)
      | @lst a ys ds h2' h3 =>
        cases ru
        obtain ⟨us, rv, ⟨o, n, e1, e2, _, e3⟩, _⟩ := I.list h2'
        simp only [PyData.shown] at h2
        obtain ⟨bs, k1, k2⟩ := DqAll.shows I ds h3 rv (by simpa only [PyData.showable] using ok.sh) (fun t ht => Nat.le_trans (listText_mem_le ht) h2)
        have no : a ∉ bs := not_mem_of_deeper rd (by simp only [PyData.depth]; omega) k1
        simp only [PyData.depth] at hdp
        refine call_repr_slot (by omega) ⟨o, e1, e2⟩ F.slot_list_repr.toG ?_
        simp only [PyData.shown] at fin
        cases us with
        | nil =>
          cases rv
          cases h3
          simp only [PyData.shownAll, listText_nil] at fin
          exact call_list_repr_empty ⟨o, e1, e2⟩ e1 e3 ⟨_, _, rfl, fin s.heap _ _ fun _ _ z => z⟩
        | cons x l =>
          exact call_list_reprK e1 e2 e3 no (by simpa using k2.length_eq) (fun i y e => k2.item i y (by simpa using e)) (A := X.A.in1) hg (fun c _ => Clear.nil c) (by show X.A.units + 1 + _ < cLine; omega) (fun _ _ z => z) (fun h' u' tk kp => ⟨_, _, rfl, fin h' tk u' kp⟩) h2
      | @tup a ys ds h2' h3 =>
        cases ru
        obtain ⟨us, rv, ⟨o, e1, e2, n, e3⟩, _⟩ := I.tuple h2'
        simp only [PyData.shown] at h2
        obtain ⟨bs, k1, k2⟩ := DqAll.shows I ds h3 rv (by simpa only [PyData.showable] using ok.sh) (fun t ht => Nat.le_trans (tupleText_mem_le ht) h2)
        have no : a ∉ bs := not_mem_of_deeper rd (by simp only [PyData.depth]; omega) k1
        simp only [PyData.depth] at hdp
        refine call_repr_slot (by omega) ⟨o, e1, e2⟩ F.slot_tuple_repr ?_
        simp only [PyData.shown] at fin
        exact call_tuple_reprK e1 e2 e3 no (by simpa using k2) (A := X.A.in1) hg (fun c _ => Clear.nil c) (by show X.A.units + 1 + _ < cLine; omega) (fun _ _ z => z) (fun h' u' tk kp => ⟨_, _, rfl, fin h' tk u' kp⟩) h2
      | @dct a h2' =>
        cases ru
        obtain ⟨g, o, n, e1, e2, e3⟩ := dk_empty_at I h2'
        simp only [PyData.shown, PyData.shownKv] at h2 fin
        refine call_repr_slot (by omega) ⟨o, e1, e2⟩ F.slot_dict_repr ?_
        exact call_dict_reprK (as := []) (d := 0) (ps := []) e1 e2 e3 g (by simp) .nil (A := X.A.in1) hg (fun c _ => Clear.nil c) (by show X.A.units + 1 + _ < cLine; omega) (fun _ _ z => z) (fun h' u' tk kp => ⟨_, _, rfl, fin h' tk u' kp⟩) h2
      | @dct1 a z i h2' =>
        cases ru
        obtain ⟨g, o, n, en, t, t', e1, e2, e3, e4, e5⟩ := dk_one_at I h2'
        have hgi : i.natAbs.log2 < 1920 := by simpa [PyData.showable, PyData.showableKv] using ok.sh
        have hzz : (PyData.shown (.str z)).length ≤ sizeLine := by
          obtain ⟨p, hp, hl⟩ := PyData.shownKv_key_le [(.str z, .int i)] (PyData.shown (.str z)) (by simp [PyData.shownAll])
          simp only [PyData.shown] at h2
          exact Nat.le_trans hl (Nat.le_trans (dictText_mem_le hp) h2)
        simp only [PyData.shown, PyData.shownKv] at h2 fin hzz
        refine call_repr_slot (by omega) ⟨o, e1, e2⟩ F.slot_dict_repr ?_
        exact call_dict_reprK (as := []) (d := 0) (ps := [_]) e1 e2 e3 g (by simp) (.cons (by rw [e4]; exact .of_is (ReprIs.str z t hzz) _ _ _) (by rw [e5]; exact .of_is (ReprIs.int t' hgi) _ _ _) .nil) (A := X.A.in1) hg (fun c _ => Clear.nil c) (by show X.A.units + 1 + _ < cLine; omega) (fun _ _ z => z) (fun h' u' tk kp => ⟨_, _, rfl, fin h' tk u' kp⟩) h2
      | @dctk a kw ds h2' h3 =>
        cases ru
        obtain ⟨g, o, n, es, e1, e2, e3, e4⟩ := dk_all_at I h2'
        simp only [PyData.shown] at h2
        obtain ⟨bs, k1, k2⟩ := DqKv.shows I _ h3 e4 (by simpa only [PyData.showable] using ok.sh) (fun p hp => Nat.le_trans (dictText_mem_le hp) h2)
        have no : a ∉ bs := not_mem_of_deeper rd (by simp only [PyData.depth]; omega) k1
        simp only [PyData.depth] at hdp
        simp only [PyData.shown] at fin
        refine call_repr_slot (by omega) ⟨o, e1, e2⟩ F.slot_dict_repr ?_
        exact call_dict_reprK e1 e2 e3 g no k2 (A := X.A.in1) hg (fun c _ => Clear.nil c) (by show X.A.units + 1 + _ < cLine; omega) (fun _ _ z => z) (fun h' u' tk kp => ⟨_, _, rfl, fin h' tk u' kp⟩) h2
end U
namespace Fx
open PySem PySem.Spec PyProof.Rows L2 U
noncomputable section
def bE (r : RE) (k : D → Fl → Sto → RE) : RE := match r with
  | .ok d f S => k d f S
  | .xc c fs S => .xc c fs S
  | .bad => .bad
def PostE (G : Gm) (E : WX) (F : Fr) (ι ω : List Addr) (ρ : Ev) (σ : L2.St) (H : Hp) (Q : VK) : RE → Prop
  | .ok d f S' => ∀ ι' v H', Ext ι H ι' H' → Rel G F ι' ω ρ S' σ H' → RF G.K G.ca ι' (F.B0 ++ ω) H H' S' v d f → Q v H'
  | .xc c fs S' => ∀ ι' dd fv H', Ext ι H ι' H' → Rel G F ι' ω ρ S' σ H' → NI dd ι' → NI dd (F.B0 ++ ω) → XD H' dd fv → RFs G.K G.ca ι' (F.B0 ++ ω) H' fv fs → E (.ref (G.ca c)) dd σ H'
  | .bad => False
def SE (G : Gm) (E : WX) (t : TE) (f : FE) : Prop := ∀ F ι ω ρ S σ H Q, Rel G F ι ω ρ S σ H → PostE G E F ι ω ρ σ H Q (f ρ S) → t σ H Q
section
variable {G : Gm} {E : WX} {F : Fr} {ι ω ι1 : List Addr} {ρ : Ev} {S S1 : Sto} {σ : L2.St} {H H1 : Hp} {Q : VK}
theorem PostE.ex {r : RE} (h : PostE G E F ι ω ρ σ H Q r) (e : Ext ι H ι1 H1) : PostE G E F ι1 ω ρ σ H1 Q r := by
  cases r with
  | ok d f S' => exact fun ι' v H' e' r rf => h ι' v H' (e.trans e') r (rf.old e.dom)
  | xc c fs S' => exact fun ι' dd fv H' e' r n1 n2 h1 h2 => h ι' dd fv H' (e.trans e') r n1 n2 h1 h2
  | bad => exact h
theorem SE.bind {ta : TE} {fa : FE} (ha : SE G E ta fa) (r : Rel G F ι ω ρ S σ H) {k : D → Fl → Sto → RE} (h : PostE G E F ι ω ρ σ H Q (bE (fa ρ S) k)) {R : VK}
    (c : ∀ d f S1 ι1 v H1, Ext ι H ι1 H1 → Rel G F ι1 ω ρ S1 σ H1 → RF G.K G.ca ι1 (F.B0 ++ ω) H H1 S1 v d f → PostE G E F ι1 ω ρ σ H1 Q (k d f S1) → R v H1) : ta σ H R := by
  refine ha F ι ω ρ S σ H R r ?_
  cases e : fa ρ S with
  | ok d f S1 =>
    rw [e] at h
    exact fun ι1 v H1 e1 r1 rf => c d f S1 ι1 v H1 e1 r1 rf (PostE.ex h e1)
  | xc c' fs S1 => rw [e] at h; exact h
  | bad => rw [e] at h; exact h
/-- an answer that changes nothing -/
theorem PostE.now {d : D} {v : V} (h : PostE G E F ι ω ρ σ H Q (.ok d .tr S)) (r : Rel G F ι ω ρ S σ H) (rv : RV G.K G.ca ι (F.B0 ++ ω) H v d) : Q v H := h ι v H Ext.refl r rv
theorem Per.add {B : List Addr} {p : Addr} {o : HO} (hp : H p = none) : Per ι B H ι (p :: B) (upd H p o) :=
  ⟨fun a u h1 h2 h3 => ⟨by rw [upd_ne (ne_of_none h1 hp)]; exact h1, h2, fun z => by
    rcases List.mem_cons.mp z with z | z
    · exact ne_of_none h1 hp z
    · exact h3 z⟩, fun _ _ h => h⟩
theorem Per.new {B : List Addr} {p : Addr} {o : HO} (hp : H p = none) : Per ι B H ι B (upd H p o) := (Ext.new1 hp).per
theorem RS.add {K : PySem.W.Frag} {ca : Nat → Addr} {B : List Addr} {p : Addr} {o : HO} (h : RS K ca ι B H S) (hp : H p = none) : RS K ca ι (p :: B) (upd H p o) S :=
  h.per (fun a ha => upd_ne fun z => h.here a ha (by rw [z]; exact hp)) (Per.add hp)
/-- a new list -/
theorem PostE.newL {ds : List D} {xs : List V} (h : PostE G E F ι ω ρ σ H Q (.ok (.lst ds) .fs S)) (r : Rel G F ι ω ρ S σ H) (rv : RAll G.K G.ca ι (F.B0 ++ ω) H xs ds) (p : Addr) (hp : H p = none) : Q (.ref p) (upd H p (.lst xs)) :=
  h ι (.ref p) _ (Ext.new1 hp) (r.new hp) (.l (r.offi hp) (r.offb hp) hp upd_same (rv.per (Per.add hp)) (r.sto.add hp))
theorem PostE.newT {ds : List D} {xs : List V} (h : PostE G E F ι ω ρ σ H Q (.ok (.tup ds) .tr S)) (r : Rel G F ι ω ρ S σ H) (rv : RAll G.K G.ca ι (F.B0 ++ ω) H xs ds) (p : Addr) (hp : H p = none) : Q (.ref p) (upd H p (.tup xs)) :=
  h ι (.ref p) _ (Ext.new1 hp) (r.new hp) (.tup (r.offi hp) (r.offb hp) upd_same (rv.per (Per.new hp)))
end
def lsOf (S : Sto) : D → Option (List D)
  | .lst ds => some ds
  | .cel k => (match S[k]? with | some (.lst ds) => some ds | _ => none)
  | _ => none
def sqOf (S : Sto) : D → Option (List D)
  | .lst ds => some ds
  | .tup ds => some ds
  | .fro _ ds => some ds
  | .cel k => (match S[k]? with | some (.lst ds) => some ds | _ => none)
  | _ => none
section
variable {G : Gm} {E : WX} {F : Fr} {ι ω : List Addr} {ρ : Ev} {S : Sto} {σ : L2.St} {H : Hp} {v : V} {d : D} {ds : List D}
theorem cel_at (r : RS G.K G.ca ι (F.B0 ++ ω) H S) {k : Nat} {a : Addr} (h : ι[k]? = some a) (e : S[k]? = some (.lst ds)) : ∃ xs, H a = some (.lst xs) ∧ RAll G.K G.ca ι (F.B0 ++ ω) H xs ds := by
  cases r.at' k a _ h e with
  | lst h1 h2 => exact ⟨_, h1, h2⟩
theorem ls_at (r : RS G.K G.ca ι (F.B0 ++ ω) H S) (h : RT G.K G.ca ι (F.B0 ++ ω) H v d) (e : lsOf S d = some ds) : ∃ a xs, v = .ref a ∧ H a = some (.lst xs) ∧ RAll G.K G.ca ι (F.B0 ++ ω) H xs ds := by
  unfold lsOf at e
  split at e
  · cases e
    cases h with
    | v h => cases h with | lst h1 h2 h3 h4 => exact ⟨_, _, rfl, h3, h4⟩
    | l h1 h2 h3 => exact ⟨_, _, rfl, h2, h3⟩
  · split at e
    · cases e
      cases h with
      | v h => cases h with
        | cel h1 =>
          obtain ⟨xs, q1, q2⟩ := cel_at r h1 (by assumption)
          exact ⟨_, _, rfl, q1, q2⟩
    · cases e
  · cases e
theorem sq_at (r : RS G.K G.ca ι (F.B0 ++ ω) H S) (h : RT G.K G.ca ι (F.B0 ++ ω) H v d) (e : sqOf S d = some ds) : ∃ a xs, v = .ref a ∧ (SqL G.K H a xs ∨ SqT G.K H a xs) ∧ RAll G.K G.ca ι (F.B0 ++ ω) H xs ds := by
  unfold sqOf at e
  split at e
  · obtain ⟨a, xs, h1, h2, h3⟩ := ls_at r h (show lsOf S (.lst _) = some ds from e)
    exact ⟨a, xs, h1, .inl (.inl (.inl h2)), h3⟩
  · cases e
    cases h with
    | v h => cases h with | tup h1 h2 h3 h4 => exact ⟨_, _, rfl, .inr (.inl (.inl h3)), h4⟩
  · cases e
    cases h with
    | v h => cases h with | fro h1 h2 => exact ⟨_, _, rfl, h1.sq, h2⟩
  · rename_i k
    obtain ⟨a, xs, h1, h2, h3⟩ := ls_at r h (show lsOf S (.cel k) = some ds from e)
    exact ⟨a, xs, h1, .inl (.inl (.inl h2)), h3⟩
  · cases e
end
def fVar (i : Nat) : FE := fun ρ S => match ρ[i]? with
  | some (.val d) => .ok d .tr S
  | some (.own ds) => .ok (.lst ds) .pk S
  | some (.oob c fs) => .ok (.obj c fs) .pk S
  | _ => .bad
def fC (d : D) : FE := fun _ S => .ok d .tr S
section
variable {G : Gm} {E : WX}
theorem se_var (i : Nat) : SE G E (uVar i) (fVar i) := by
  intro F ι ω ρ S σ H Q r h
  unfold fVar at h
  unfold uVar
  cases e : ρ[i]? with
  | none => rw [e] at h; exact h.elim
  | some s =>
    rw [e] at h
    have hi : i < σ.length := by rw [← r.len]; exact (List.getElem?_eq_some_iff.mp e).1
    have q := r.env i s _ e (List.getElem?_eq_getElem hi)
    have e2 : σ[i]? = some σ[i] := List.getElem?_eq_getElem hi
    rw [e2]
    generalize σ[i] = o at q
    cases q with
    | no => exact h.elim
    | val rv => exact PostE.now h r rv
    | own h1 h2 h3 => exact h ι _ H Ext.refl r (.l (r.dj _ h1) h2 h3)
    | oob h1 h0 h2 h3 => exact h ι _ H Ext.refl r (.o (r.dj _ h1) h2 h3)
    | exn => exact h.elim
theorem se_non : SE G E (tC .non) (fC .non) := fun F ι ω ρ S σ H Q r h => PostE.now h r .non
theorem se_bl (b : Bool) : SE G E (tC (.bl b)) (fC (.bl b)) := fun F ι ω ρ S σ H Q r h => PostE.now h r (.bl b)
theorem se_int (i : Int) : SE G E (tC (.int i)) (fC (.int i)) := fun F ι ω ρ S σ H Q r h => PostE.now h r (.int i)
theorem se_str (z : Str) : SE G E (tC (.str z)) (fC (.str z)) := fun F ι ω ρ S σ H Q r h => PostE.now h r (.str z)
end
def lim : Nat := 1000000
theorem lim_le {n : Nat} (h : n ≤ lim) : n ≤ sizeLine := Nat.le_trans h (by decide)
theorem lim_lt {n : Nat} (h : n < lim) : n < sizeLine := Nat.lt_of_lt_of_le h (by decide)
def fOp (f : D → D → Sto → RE) (ea eb : FE) : FE := fun ρ S => bE (ea ρ S) fun d _ S1 => bE (eb ρ S1) fun e _ S2 => f d e S2
def fUn (f : D → Sto → RE) (ea : FE) : FE := fun ρ S => bE (ea ρ S) fun d _ S1 => f d S1
def SR (G : Gm) (E : WX) (r : R2) (f : D → D → Sto → RE) : Prop := ∀ F ι ω ρ S σ H Q x y d e, Rel G F ι ω ρ S σ H → RT G.K G.ca ι (F.B0 ++ ω) H x d → RT G.K G.ca ι (F.B0 ++ ω) H y e → PostE G E F ι ω ρ σ H Q (f d e S) → r x y H Q
section
variable {G : Gm} {E : WX}
theorem se_op {r : R2} {f : D → D → Sto → RE} {ta tb : TE} {fa fb : FE} (hr : SR G E r f) (ha : SE G E ta fa) (hb : SE G E tb fb) : SE G E (tOp r ta tb) (fOp f fa fb) := by
  intro F ι ω ρ S σ H Q rel h
  refine ha.bind rel h fun d fl S1 ι1 v H1 e1 r1 rf1 h1 => ?_
  refine hb.bind r1 h1 fun e fl2 S2 ι2 w H2 e2 r2 rf2 h2 => ?_
  exact hr F ι2 ω ρ S2 σ H2 Q v w d e r2 (rf1.rt.ex e2) rf2.rt h2
end
open Classical in
def dAdd (d e : D) (S : Sto) : RE := match d, e with
  | .int i, .int j => .ok (.int (i + j)) .tr S
  | .str a, .str b => if a.length + b.length ≤ lim then .ok (.str (a ++ b)) .tr S else .bad
  | d, e => (match lsOf S d, lsOf S e with
    | some a, some b => if a.length + b.length ≤ lim then .ok (.lst (a ++ b)) .fs S else .bad
    | _, _ => .bad)
def dSub (d e : D) (S : Sto) : RE := match d, e with
  | .int i, .int j => .ok (.int (i - j)) .tr S
  | _, _ => .bad
open Classical in
def dMul (d e : D) (S : Sto) : RE := match d, e with
  | .int i, .int j => if CMul i j then .ok (.int (i * j)) .tr S else .bad
  | .str z, .int k => if MulOk z k then .ok (.str (Txt.mul z k)) .tr S else .bad
  | d, .int k => (match lsOf S d with
    | some a => if -(2 ^ 63) ≤ k ∧ k < 2 ^ 63 ∧ a.length * k.toNat ≤ lim then .ok (.lst (List.replicate k.toNat a).flatten) .fs S else .bad
    | _ => .bad)
  | _, _ => .bad
open Classical in
def dFdiv (d e : D) (S : Sto) : RE := match d, e with
  | .int i, .int j => if CDiv i j then .ok (.int (i / j)) .tr S else .bad
  | _, _ => .bad
def dMod (d e : D) (S : Sto) : RE := match d, e with
  | .int i, .int j => if 0 < j then .ok (.int (i % j)) .tr S else .bad
  | _, _ => .bad
open Classical in
def dPow (d e : D) (S : Sto) : RE := match d, e with
  | .int i, .int j => if CPow i j then .ok (.int (i ^ j.toNat)) .tr S else .bad
  | _, _ => .bad
def dCmp (p : Int → Int → Bool) (q : List Nat → List Nat → Bool) (d e : D) (S : Sto) : RE := match d, e with
  | .int i, .int j => .ok (.bl (p i j)) .tr S
  | .str i, .str j => .ok (.bl (q (sl i) (sl j))) .tr S
  | _, _ => .bad
abbrev dLt := dCmp (fun i j => decide (i < j)) (fun i j => decide (i < j))
abbrev dGt := dCmp (fun i j => decide (j < i)) (fun i j => decide (j < i))
section
variable {G : Gm} {E : WX}
theorem RT.sInt {K : PySem.W.Frag} {ca : Nat → Addr} {ι B : List Addr} {H : Hp} {v : V} {i : Int} (h : RT K ca ι B H v (.int i)) : v = .int i := by cases h with | v h => cases h; rfl
theorem RT.sStr {K : PySem.W.Frag} {ca : Nat → Addr} {ι B : List Addr} {H : Hp} {v : V} {i : Str} (h : RT K ca ι B H v (.str i)) : v = .str i := by cases h with | v h => cases h; rfl
theorem RT.sBl {K : PySem.W.Frag} {ca : Nat → Addr} {ι B : List Addr} {H : Hp} {v : V} {i : Bool} (h : RT K ca ι B H v (.bl i)) : v = .bl i := by cases h with | v h => cases h; rfl
theorem sr_add : SR G E (uAdd G.K) dAdd := by
  intro F ι ω ρ S σ H Q x y d e rel hx hy h
  unfold dAdd at h
  split at h
  · rw [hx.sInt, hy.sInt]; exact PostE.now h rel (.int _)
  · rw [hx.sStr, hy.sStr]
    split at h
    · exact ⟨lim_le (by assumption), PostE.now h rel (.str _)⟩
    · exact h.elim
  · split at h
    · rename_i a b ea eb
      obtain ⟨p, xs, rfl, h1, h2⟩ := ls_at rel.sto hx ea
      obtain ⟨q, ys, rfl, h3, h4⟩ := ls_at rel.sto hy eb
      split at h
      · rename_i hl
        exact ⟨xs, ys, h1, h3, by rw [h2.len, h4.len]; exact lim_le hl, fun p' hp => PostE.newL h rel (h2.app h4) p' hp⟩
      · exact h.elim
    · exact h.elim
theorem sr_sub : SR G E uSub dSub := by
  intro F ι ω ρ S σ H Q x y d e rel hx hy h
  unfold dSub at h
  split at h
  · rw [hx.sInt, hy.sInt]; exact PostE.now h rel (.int _)
  · exact h.elim
theorem rep_all {K : PySem.W.Frag} {ca : Nat → Addr} {ι B : List Addr} {H : Hp} {xs : List V} {ds : List D} (h : RAll K ca ι B H xs ds) : ∀ n : Nat, RAll K ca ι B H (List.replicate n xs).flatten (List.replicate n ds).flatten
  | 0 => .nil
  | n + 1 => by
    rw [List.replicate_succ, List.replicate_succ, List.flatten_cons, List.flatten_cons]
    exact h.app (rep_all h n)
theorem sr_mul : SR G E uMul3 dMul := by
  intro F ι ω ρ S σ H Q x y d e rel hx hy h
  unfold dMul at h
  split at h
  · rw [hx.sInt, hy.sInt]
    split at h
    · exact ⟨by assumption, PostE.now h rel (.int _)⟩
    · exact h.elim
  · rw [hx.sStr, hy.sInt]
    split at h
    · exact ⟨by assumption, PostE.now h rel (.str _)⟩
    · exact h.elim
  · split at h
    · rename_i a ea
      obtain ⟨p, xs, rfl, h1, h2⟩ := ls_at rel.sto hx ea
      rw [hy.sInt]
      split at h
      · rename_i hl
        exact oK_of (mutL_of h1) ⟨hl.1, hl.2.1, by rw [h2.len]; exact lim_le hl.2.2, fun p' hp => PostE.newL h rel (rep_all h2 _) p' hp⟩
      · exact h.elim
    · exact h.elim
  · exact h.elim
theorem sr_fdiv : SR G E uFdiv dFdiv := by
  intro F ι ω ρ S σ H Q x y d e rel hx hy h
  unfold dFdiv at h
  split at h
  · rw [hx.sInt, hy.sInt]
    split at h
    · exact ⟨by assumption, PostE.now h rel (.int _)⟩
    · exact h.elim
  · exact h.elim
theorem sr_mod : SR G E uMod dMod := by
  intro F ι ω ρ S σ H Q x y d e rel hx hy h
  unfold dMod at h
  split at h
  · rw [hx.sInt, hy.sInt]
    split at h
    · exact ⟨by assumption, PostE.now h rel (.int _)⟩
    · exact h.elim
  · exact h.elim
theorem sr_pow : SR G E uPow dPow := by
  intro F ι ω ρ S σ H Q x y d e rel hx hy h
  unfold dPow at h
  split at h
  · rw [hx.sInt, hy.sInt]
    split at h
    · exact ⟨by assumption, PostE.now h rel (.int _)⟩
    · exact h.elim
  · exact h.elim
theorem sr_cmp (p : Int → Int → Bool) (q : List Nat → List Nat → Bool) : SR G E (uCmpI p q) (dCmp p q) := by
  intro F ι ω ρ S σ H Q x y d e rel hx hy h
  unfold dCmp at h
  split at h
  · rw [hx.sInt, hy.sInt]; exact PostE.now h rel (.bl _)
  · rw [hx.sStr, hy.sStr]; exact PostE.now h rel (.bl _)
  · exact h.elim
end
mutual
def tree (c : Nat → Option PyData) : D → Option PyData
  | .non => some .none
  | .bl b => some (.bool b)
  | .int i => some (.int i)
  | .str z => some (.str z)
  | .lst ds => (treeAll c ds).map .list
  | .tup ds => (treeAll c ds).map .tuple
  | .fro _ _ => none
  | .dct [] => some (.dict [])
  | .dct (_ :: _) => none
  | .cel k => c k
  | .obj _ _ => none
  | .cls _ => none
  | .exv _ _ => none
def treeAll (c : Nat → Option PyData) : List D → Option (List PyData)
  | [] => some []
  | d :: ds => (match tree c d, treeAll c ds with | some p, some ps => some (p :: ps) | _, _ => none)
end
def cells : Nat → Sto → Nat → Option PyData
  | 0, _, _ => none
  | n + 1, S, k => (match S[k]? with | some (.lst ds) => (treeAll (cells n S) ds).map .list | _ => none)
def toP (S : Sto) (d : D) : Option PyData := tree (cells 4 S) d
section
variable {K : PySem.W.Frag} {ca : Nat → Addr} {ι B : List Addr} {H : Hp} {c : Nat → Option PyData}
mutual
theorem tree_dq (hc : ∀ k a p, ι[k]? = some a → c k = some p → Dq K H (.ref a) p) : ∀ (d : D) {v : V} {p : PyData}, RV K ca ι B H v d → tree c d = some p → Dq K H v p
  | .non, _, _, h, e => by cases h; simp only [tree] at e; cases e; exact .non
  | .bl _, _, _, h, e => by cases h; simp only [tree] at e; cases e; exact .bl _
  | .int _, _, _, h, e => by cases h; simp only [tree] at e; cases e; exact .int _
  | .str _, _, _, h, e => by cases h; simp only [tree] at e; cases e; exact .str _
  | .lst ds, _, _, h, e => by
    cases h with
    | lst h1 h2 h3 h4 =>
      simp only [tree, Option.map_eq_some_iff] at e
      obtain ⟨ps, e1, rfl⟩ := e
      exact .lst (.inl (.inl h3)) (treeAll_dq hc ds h4 e1)
  | .tup ds, _, _, h, e => by
    cases h with
    | tup h1 h2 h3 h4 =>
      simp only [tree, Option.map_eq_some_iff] at e
      obtain ⟨ps, e1, rfl⟩ := e
      exact .tup (.inl (.inl h3)) (treeAll_dq hc ds h4 e1)
  | .fro _ _, _, _, h, e => by simp only [tree] at e; cases e
  | .dct [], _, _, h, e => by
    cases h with
    | dct h1 h2 h3 h4 =>
      cases h4
      simp only [tree] at e; cases e
      exact .dct h3
  | .dct (_ :: _), _, _, h, e => by simp only [tree] at e; cases e
  | .cel k, _, _, h, e => by
    cases h with
    | cel h1 => simp only [tree] at e; exact hc _ _ _ h1 e
  | .obj _ _, _, _, h, e => by simp only [tree] at e; cases e
  | .cls _, _, _, h, e => by simp only [tree] at e; cases e
  | .exv _ _, _, _, h, e => by simp only [tree] at e; cases e
theorem treeAll_dq (hc : ∀ k a p, ι[k]? = some a → c k = some p → Dq K H (.ref a) p) : ∀ (ds : List D) {vs : List V} {ps : List PyData}, RAll K ca ι B H vs ds → treeAll c ds = some ps → DqAll K H vs ps
  | [], _, _, h, e => by cases h; simp only [treeAll] at e; cases e; exact .nil
  | d :: ds, _, _, h, e => by
    cases h with
    | cons h1 h2 =>
      simp only [treeAll] at e
      split at e
      · cases e
        exact .cons (tree_dq hc d h1 (by assumption)) (treeAll_dq hc ds h2 (by assumption))
      · cases e
end
theorem cells_dq {S : Sto} (rs : RS K ca ι B H S) : ∀ (n : Nat) (k : Nat) (a : Addr) (p : PyData), ι[k]? = some a → cells n S k = some p → Dq K H (.ref a) p
  | 0, _, _, _, _, e => by unfold cells at e; cases e
  | n + 1, k, a, p, h, e => by
    unfold cells at e
    split at e
    · rename_i ds es
      rw [Option.map_eq_some_iff] at e
      obtain ⟨ps, e1, rfl⟩ := e
      cases rs.at' k a _ h es with
      | lst h1 h2 => exact .lst (.inl (.inl h1)) (treeAll_dq (cells_dq rs n) ds h2 e1)
    · cases e
theorem toP_dq {S : Sto} {v : V} {d : D} {p : PyData} (rs : RS K ca ι B H S) (h : RT K ca ι B H v d) (e : toP S d = some p) : Dq K H v p := by
  unfold toP at e
  cases h with
  | v h => exact tree_dq (cells_dq rs 4) d h e
  | l h1 h2 h3 =>
    simp only [tree, Option.map_eq_some_iff] at e
    obtain ⟨ps, e1, rfl⟩ := e
    exact .lst (.inl (.inl h2)) (treeAll_dq (cells_dq rs 4) _ h3 e1)
  | o => simp only [tree] at e; cases e
end
def scalP : PyData → PyData → Bool
  | .none, .none => true | .none, .int _ => true | .int _, .none => true | .none, .bool _ => true | .bool _, .none => true | .none, .str _ => true | .str _, .none => true
  | .int _, .int _ => true | .bool _, .bool _ => true | .str _, .str _ => true
  | .int _, .str _ => true | .str _, .int _ => true | .bool _, .str _ => true | .str _, .bool _ => true
  | _, _ => false
theorem scal_eqv {K : PySem.W.Frag} {H : Hp} {x y : V} {p q : PyData} (hx : Dq K H x p) (hy : Dq K H y q) (h : scal x y = true) : PyData.eqv p q = decide (x = y) := by
  cases hx <;> cases hy <;> first | (simp [scal] at h; done) | (simp [PyData.eqv]; done) | (simp [PyData.eqv]; rw [Bool.eq_iff_iff]; simp; done)
theorem scalP_scal {K : PySem.W.Frag} {H : Hp} {x y : V} {p q : PyData} (hx : Dq K H x p) (hy : Dq K H y q) : scal x y = scalP p q := by
  cases hx <;> cases hy <;> rfl
/-- == of data -/
def dEqv (neg : Bool) (d e : D) (S : Sto) : RE := match toP S d, toP S e with
  | some p, some q => if (scalP p q || (SeqAt.shaped p && SeqAt.shaped q && !p.hasDict && !q.hasDict)) = true then .ok (.bl (neg ^^ PyData.eqv p q)) .tr S else .bad
  | _, _ => .bad
section
variable {G : Gm} {E : WX}
theorem sr_eq : SR G E (uEq2 G.K) (dEqv false) := by
  intro F ι ω ρ S σ H Q x y d e rel hx hy h
  unfold dEqv at h
  split at h
  · rename_i p q ep eq
    have q1 := toP_dq rel.sto hx ep
    have q2 := toP_dq rel.sto hy eq
    split at h
    · rename_i hc
      unfold uEq2
      cases es : scal x y with
      | true =>
        rw [Bool.false_xor, scal_eqv q1 q2 es] at h
        exact PostE.now h rel (.bl _)
      | false =>
        rw [← scalP_scal q1 q2, es, Bool.false_or] at hc
        simp only [Bool.and_eq_true, Bool.not_eq_true'] at hc
        obtain ⟨⟨⟨h1, h2⟩, h3⟩, h4⟩ := hc
        exact .inl ⟨p, q, q1.dp p h3, q2.dp q h4, h1, h2, by rw [Bool.false_xor] at h; exact PostE.now h rel (.bl _)⟩
    · exact h.elim
  · exact h.elim
theorem sr_ne : SR G E (uNe2 G.K) (dEqv true) := by
  intro F ι ω ρ S σ H Q x y d e rel hx hy h
  unfold dEqv at h
  split at h
  · rename_i p q ep eq
    have q1 := toP_dq rel.sto hx ep
    have q2 := toP_dq rel.sto hy eq
    split at h
    · rename_i hc
      unfold uNe2
      cases es : scal x y with
      | true =>
        rw [Bool.true_xor, scal_eqv q1 q2 es] at h
        exact PostE.now h rel (.bl _)
      | false =>
        rw [← scalP_scal q1 q2, es, Bool.false_or] at hc
        simp only [Bool.and_eq_true, Bool.not_eq_true'] at hc
        obtain ⟨⟨⟨h1, h2⟩, h3⟩, h4⟩ := hc
        exact .inl ⟨p, q, q1.dp p h3, q2.dp q h4, h1, h2, by rw [Bool.true_xor] at h; exact PostE.now h rel (.bl _)⟩
    · exact h.elim
  · exact h.elim
end
end
end Fx
namespace Fx
open PySem PySem.Spec PyProof.Rows L2 U
noncomputable section
inductive RA where
  | ok (ds : List D) (t : Bool) (S : Sto) | xc (c : Nat) (fs : List (Str × D)) (S : Sto) | bad
abbrev FA := Ev → Sto → RA
def RAf (K : PySem.W.Frag) (ca : Nat → Addr) (ι B : List Addr) (H : Hp) (vs : List V) (ds : List D) : Bool → Prop
  | true => RAll K ca ι B H vs ds
  | false => Paired (RT K ca ι B H) vs ds
def PostA (G : Gm) (E : WX) (F : Fr) (ι ω : List Addr) (ρ : Ev) (σ : L2.St) (H : Hp) (Q : List V → Hp → Prop) : RA → Prop
  | .ok ds t S' => ∀ ι' vs H', Ext ι H ι' H' → Rel G F ι' ω ρ S' σ H' → RAf G.K G.ca ι' (F.B0 ++ ω) H' vs ds t → Q vs H'
  | .xc c fs S' => ∀ ι' dd fv H', Ext ι H ι' H' → Rel G F ι' ω ρ S' σ H' → NI dd ι' → NI dd (F.B0 ++ ω) → XD H' dd fv → RFs G.K G.ca ι' (F.B0 ++ ω) H' fv fs → E (.ref (G.ca c)) dd σ H'
  | .bad => False
def SA (G : Gm) (E : WX) (t : TA) (f : FA) : Prop := ∀ F ι ω ρ S σ H Q, Rel G F ι ω ρ S σ H → PostA G E F ι ω ρ σ H Q (f ρ S) → t σ H Q
def Fl.nop : Fl → Bool
  | .pk => false
  | _ => true
def fNil : FA := fun _ S => .ok [] true S
def fCons (fa : FE) (fr : FA) : FA := fun ρ S => match fa ρ S with
  | .ok d f S1 => (match fr ρ S1 with
    | .ok ds t S2 => .ok (d :: ds) (f.nop && t) S2
    | .xc c fs S2 => .xc c fs S2
    | .bad => .bad)
  | .xc c fs S1 => .xc c fs S1
  | .bad => .bad
section
variable {G : Gm} {E : WX} {F : Fr} {ι ω ι1 : List Addr} {ρ : Ev} {S S1 : Sto} {σ : L2.St} {H H1 : Hp} {Q : VK}
theorem PostE.bind {r : RE} {k : D → Fl → Sto → RE} (h : PostE G E F ι ω ρ σ H Q (bE r k)) {R : VK}
    (c : ∀ d f S1 ι1 v H1, Ext ι H ι1 H1 → Rel G F ι1 ω ρ S1 σ H1 → RF G.K G.ca ι1 (F.B0 ++ ω) H H1 S1 v d f → PostE G E F ι1 ω ρ σ H1 Q (k d f S1) → R v H1) : PostE G E F ι ω ρ σ H R r := by
  cases r with
  | ok d f S1 => exact fun ι1 v H1 e1 r1 rf => c d f S1 ι1 v H1 e1 r1 rf (PostE.ex h e1)
  | xc c' fs S1 => exact h
  | bad => exact h
theorem PostA.ex {r : RA} {Q : List V → Hp → Prop} (h : PostA G E F ι ω ρ σ H Q r) (e : Ext ι H ι1 H1) : PostA G E F ι1 ω ρ σ H1 Q r := by
  cases r with
  | ok d f S' => exact fun ι' v H' e' r rf => h ι' v H' (e.trans e') r rf
  | xc c fs S' => exact fun ι' dd fv H' e' r n1 n2 h1 h2 => h ι' dd fv H' (e.trans e') r n1 n2 h1 h2
  | bad => exact h
theorem rall_pair {K : PySem.W.Frag} {ca : Nat → Addr} {ι B : List Addr} {H : Hp} : ∀ {ds : List D} {vs : List V}, RAll K ca ι B H vs ds → Paired (RT K ca ι B H) vs ds
  | [], _, h => by cases h; exact .nil
  | d :: ds, _, h => by
    cases h with
    | cons h1 h2 => exact .cons (.v h1) (rall_pair h2)
theorem RAf.pair {K : PySem.W.Frag} {ca : Nat → Addr} {ι B : List Addr} {H : Hp} {ds : List D} {vs : List V} {t : Bool} (h : RAf K ca ι B H vs ds t) : Paired (RT K ca ι B H) vs ds := by
  cases t with
  | true => exact rall_pair h
  | false => exact h
theorem sa_nil : SA G E tNil fNil := fun F ι ω ρ S σ H Q r h => h ι [] H Ext.refl r .nil
theorem sa_cons {ta : TE} {tr : TA} {fa : FE} {fr : FA} (ha : SE G E ta fa) (hr : SA G E tr fr) : SA G E (tCons ta tr) (fCons fa fr) := by
  intro F ι ω ρ S σ H Q rel h
  refine ha F ι ω ρ S σ H _ rel ?_
  unfold fCons at h
  cases e : fa ρ S with
  | ok d f S1 =>
    rw [e] at h
    intro ι1 v H1 e1 r1 rf
    refine hr F ι1 ω ρ S1 σ H1 _ r1 ?_
    dsimp only at h
    cases e2 : fr ρ S1 with
    | ok ds t S2 =>
      rw [e2] at h
      intro ι2 vs H2 x2 r2 ra
      refine h ι2 (v :: vs) H2 (e1.trans x2) r2 ?_
      cases hf : f.nop && t with
      | true =>
        rw [Bool.and_eq_true] at hf
        obtain ⟨h1, rfl⟩ := hf
        exact .cons ((rf.rv (by intro z; subst z; cases h1)).ex x2) ra
      | false => exact .cons (rf.rt.ex x2) ra.pair
    | xc c fs S2 => rw [e2] at h; exact PostA.ex h e1
    | bad => rw [e2] at h; exact h
  | xc c fs S1 => rw [e] at h; exact h
  | bad => rw [e] at h; exact h
/-- a call of a built-in -/
def fCB (f : List D → Bool → Sto → RE) (fa : FA) : FE := fun ρ S => match fa ρ S with
  | .ok ds t S1 => f ds t S1
  | .xc c fs S1 => .xc c fs S1
  | .bad => .bad
def SC (G : Gm) (E : WX) (r : List V → Hp → VK → Prop) (f : List D → Bool → Sto → RE) : Prop := ∀ F ι ω ρ S σ H Q vs ds t, Rel G F ι ω ρ S σ H → RAf G.K G.ca ι (F.B0 ++ ω) H vs ds t → PostE G E F ι ω ρ σ H Q (f ds t S) → r vs H Q
theorem sa_then {ta : TA} {fa : FA} (ha : SA G E ta fa) (rel : Rel G F ι ω ρ S σ H) {f : List D → Bool → Sto → RE} (h : PostE G E F ι ω ρ σ H Q (fCB f fa ρ S)) {R : List V → Hp → Prop}
    (c : ∀ ds t S1 ι1 vs H1, Ext ι H ι1 H1 → Rel G F ι1 ω ρ S1 σ H1 → RAf G.K G.ca ι1 (F.B0 ++ ω) H1 vs ds t → PostE G E F ι1 ω ρ σ H1 Q (f ds t S1) → R vs H1) : ta σ H R := by
  refine ha F ι ω ρ S σ H R rel ?_
  unfold fCB at h
  cases e : fa ρ S with
  | ok ds t S1 =>
    rw [e] at h
    exact fun ι1 vs H1 e1 r1 ra => c ds t S1 ι1 vs H1 e1 r1 ra (PostE.ex h e1)
  | xc c fs S1 => rw [e] at h; exact h
  | bad => rw [e] at h; exact h
theorem se_cb {r : List V → Hp → VK → Prop} {f : List D → Bool → Sto → RE} {ta : TA} {fa : FA} (hr : SC G E r f) (ha : SA G E ta fa) : SE G E (tCB r ta) (fCB f fa) := by
  intro F ι ω ρ S σ H Q rel h
  exact sa_then ha rel h fun ds t S1 ι1 vs H1 e1 r1 ra h1 => hr F ι1 ω ρ S1 σ H1 Q vs ds t r1 ra h1
def dLst (ds : List D) (t : Bool) (S : Sto) : RE := if (t && decide (ds.length ≤ lim)) = true then .ok (.lst ds) .fs S else .bad
def dTup (ds : List D) (t : Bool) (S : Sto) : RE := if (t && decide (ds.length ≤ lim)) = true then .ok (.tup ds) .tr S else .bad
def fLst (fa : FA) : FE := fCB dLst fa
def fTup (fa : FA) : FE := fCB dTup fa
theorem se_lst {ta : TA} {fa : FA} (ha : SA G E ta fa) : SE G E (tLst ta) (fLst fa) := by
  intro F ι ω ρ S σ H Q rel h
  refine sa_then ha rel h fun ds t S1 ι1 vs H1 e1 r1 ra h1 => ?_
  unfold dLst at h1
  split at h1
  · rename_i hc
    rw [Bool.and_eq_true] at hc
    obtain ⟨rfl, hl⟩ := hc
    exact ⟨by rw [RAll.len ra]; exact lim_le (of_decide_eq_true hl), fun p hp => PostE.newL h1 r1 ra p hp⟩
  · exact h1.elim
theorem se_tup {ta : TA} {fa : FA} (ha : SA G E ta fa) : SE G E (tTup ta) (fTup fa) := by
  intro F ι ω ρ S σ H Q rel h
  refine sa_then ha rel h fun ds t S1 ι1 vs H1 e1 r1 ra h1 => ?_
  unfold dTup at h1
  split at h1
  · rename_i hc
    rw [Bool.and_eq_true] at hc
    obtain ⟨rfl, hl⟩ := hc
    exact ⟨by rw [RAll.len ra]; exact lim_le (of_decide_eq_true hl), fun p hp => PostE.newT h1 r1 ra p hp⟩
  · exact h1.elim
def fDNew : FE := fun _ S => .ok (.dct []) .tr S
def flat : D → Option V
  | .non => some .non
  | .bl b => some (.bl b)
  | .int i => some (.int i)
  | .str z => some (.str z)
  | _ => none
theorem at_rv {K : PySem.W.Frag} {ca : Nat → Addr} {ι B : List Addr} {H : Hp} {vs : List V} {ds : List D} (h : RAll K ca ι B H vs ds) {i : Int} {d : D} (e : atI ds i = some d) : ∃ v, atI vs i = some v ∧ RV K ca ι B H v d := by
  unfold atI at e ⊢
  rw [h.len]
  cases hj : ixN ds.length i with
  | none => rw [hj] at e; cases e
  | some j =>
    rw [hj] at e
    exact h.at j e
def dIx (d e : D) (S : Sto) : RE := match d, e with
  | .str z, .int i => if z.length ≤ lim then (match atI (sl z) i with
    | some c => .ok (.str ⟨#[c]⟩) .tr S
    | none => .bad) else .bad
  | d, .int i => (match sqOf S d with
    | some ds => (match atI ds i with
      | some x => .ok x .tr S
      | none => .bad)
    | none => .bad)
  | _, _ => .bad
theorem sr_ix : SR G E (uIx G.K) dIx := by
  intro F ι ω ρ S σ H Q x y d e rel hx hy h
  unfold dIx at h
  split at h
  · rw [hx.sStr, hy.sInt]
    split at h
    · rename_i hl
      split at h
      · rename_i c ec
        exact ⟨lim_le hl, oK_of ec (PostE.now h rel (.str _))⟩
      · exact h.elim
    · exact h.elim
  · rename_i i _
    rw [hy.sInt]
    split at h
    · rename_i ds e1
      split at h
      · rename_i x' e2
        obtain ⟨a, xs, rfl, q2, q3⟩ := sq_at rel.sto hx e1
        obtain ⟨v, q4, q5⟩ := at_rv q3 e2
        exact ⟨xs, q2, oK_of q4 (PostE.now h rel q5)⟩
      · exact h.elim
    · exact h.elim
  · exact h.elim
inductive RO where
  | ok (o : Option Int) (S : Sto) | xc (c : Nat) (fs : List (Str × D)) (S : Sto) | bad
abbrev FO := Ev → Sto → RO
def fNoPart : FO := fun _ S => .ok none S
def fPart (fe : FE) : FO := fun ρ S => match fe ρ S with
  | .ok (.int i) _ S1 => .ok (some i) S1
  | .ok _ _ _ => .bad
  | .xc c fs S1 => .xc c fs S1
  | .bad => .bad
def cutD (xs : List D) (lo hi : Option Int) : List D := (xs.drop (HT.sIx xs.length 0 lo)).take (HT.sIx xs.length xs.length hi - HT.sIx xs.length 0 lo)
def dSl (d : D) (lo hi : Option Int) (S : Sto) : RE := match d with
  | .str z => if z.length ≤ lim then .ok (.str (cutS z lo hi)) .tr S else .bad
  | .tup ds => if HT.sIx ds.length 0 lo = 0 ∧ HT.sIx ds.length ds.length hi = ds.length then .bad else .ok (.tup (cutD ds lo hi)) .tr S
  | d => (match lsOf S d with
    | some ds => .ok (.lst (cutD ds lo hi)) .fs S
    | none => .bad)
def bO (r : RO) (k : Option Int → Sto → RE) : RE := match r with
  | .ok o S => k o S
  | .xc c fs S => .xc c fs S
  | .bad => .bad
def fSl (fe : FE) (lo hi : FO) : FE := fun ρ S => bE (fe ρ S) fun d _ S1 => bO (lo ρ S1) fun l S2 => bO (hi ρ S2) fun u S3 => dSl d l u S3
def fRev (fe : FE) : FE := fun ρ S => bE (fe ρ S) fun d _ S1 => (match d with
  | .str z => if z.length ≤ lim then .ok (.str (revS z)) .tr S1 else .bad
  | d => (match lsOf S1 d with
    | some ds => .ok (.lst ds.reverse) .fs S1
    | none => .bad))
def tyDf (S : Sto) : D → Option Ty
  | .non => some .non
  | .bl _ => some .bl
  | .int _ => some .int
  | .str _ => some .str
  | .lst _ => some .lst
  | .tup _ => some .tup
  | .dct _ => some .dct
  | .cel k => (match S[k]? with | some (.lst _) => some .lst | some (.dK _) => some .dct | _ => none)
  | _ => none
theorem ty_at {v : V} {d : D} {t : Ty} (rs : RS G.K G.ca ι (F.B0 ++ ω) H S) (h : RT G.K G.ca ι (F.B0 ++ ω) H v d) (e : tyDf S d = some t) : tyOf H v = some t := by
  cases h with
  | v h =>
    cases h with
    | lst h1 h2 h3 h4 => show (H _).bind tyO = _; rw [h3]; exact e
    | tup h1 h2 h3 h4 => show (H _).bind tyO = _; rw [h3]; exact e
    | dct h1 h2 h3 h4 => show (H _).bind tyO = _; rw [h3]; exact e
    | @cel a k h1 =>
      unfold tyDf at e
      dsimp only at e
      split at e
      · rename_i es
        cases rs.at' k a _ h1 es with
        | lst q1 q2 => show (H _).bind tyO = _; rw [q1]; exact e
      · rename_i es
        cases rs.at' k a _ h1 es with
        | dK q1 q2 => show (H _).bind tyO = _; rw [q1]; exact e
      · cases e
    | fro => cases e
    | obj => cases e
    | cls => cases e
    | exv => cases e
    | exw => cases e
    | _ => exact e
  | l h1 h2 h3 => show (H _).bind tyO = _; rw [h2]; exact e
  | o => cases e
def fIsi (c : Ty) (fe : FE) : FE := fun ρ S => bE (fe ρ S) fun d _ S1 => (match tyDf S1 d with
  | some t => .ok (.bl (isT t c)) .tr S1
  | none => .bad)
theorem se_isi (c : Ty) {te : TE} {fe : FE} (he : SE G E te fe) : SE G E (uIsi c te) (fIsi c fe) := by
  intro F ι ω ρ S σ H Q rel h
  refine he.bind rel h fun d f S1 ι1 v H1 e1 r1 rf1 h1 => ?_
  split at h1
  · rename_i t et
    exact oK_of (ty_at r1.sto rf1.rt et) (PostE.now h1 r1 (.bl _))
  · exact h1.elim
def fIsiT (cs : List Ty) (fe : FE) : FE := fun ρ S => bE (fe ρ S) fun d _ S1 => (match tyDf S1 d with
  | some t => .ok (.bl (cs.any (isT t))) .tr S1
  | none => .bad)
end
end
end Fx
namespace Fx
open PySem PySem.Spec PyProof.Rows L2 U
noncomputable section
section
variable {G : Gm} {E : WX} {F : Fr} {ι ω ι1 : List Addr} {ρ : Ev} {S S1 : Sto} {σ : L2.St} {H H1 : Hp} {Q : VK}
theorem pair1 {α β : Type} {P : α → β → Prop} {xs : List α} {y : β} (h : Paired P xs [y]) : ∃ x, xs = [x] ∧ P x y := by
  cases h with
  | cons h1 h2 => cases h2; exact ⟨_, rfl, h1⟩
theorem pair2 {α β : Type} {P : α → β → Prop} {xs : List α} {y z : β} (h : Paired P xs [y, z]) : ∃ x w, xs = [x, w] ∧ P x y ∧ P w z := by
  cases h with
  | cons h1 h2 => obtain ⟨w, rfl, h3⟩ := pair1 h2; exact ⟨_, _, rfl, h1, h3⟩
def dLen (ds : List D) (_ : Bool) (S : Sto) : RE := match ds with
  | [.str z] => if z.length ≤ lim then .ok (.int z.length) .tr S else .bad
  | [d] => (match sqOf S d with
    | some es => .ok (.int es.length) .tr S
    | none => .bad)
  | _ => .bad
theorem sc_len : SC G E (uLen G.K) dLen := by
  intro F ι ω ρ S σ H Q vs ds t rel ha h
  have ha := ha.pair
  unfold dLen at h
  split at h
  · obtain ⟨v, rfl, q⟩ := pair1 ha
    rw [q.sStr]
    split at h
    · exact ⟨lim_le (by assumption), PostE.now h rel (.int _)⟩
    · exact h.elim
  · obtain ⟨v, rfl, q⟩ := pair1 ha
    split at h
    · rename_i es e
      obtain ⟨a, xs, rfl, q1, q2⟩ := sq_at rel.sto q e
      exact ⟨xs, q1, by show Q (.int xs.length) H; rw [q2.len]; exact PostE.now h rel (.int _)⟩
    · exact h.elim
  · exact h.elim
def dMax (ds : List D) (_ : Bool) (S : Sto) : RE := match ds with
  | [.int i, .int j] => .ok (.int (if j > i then j else i)) .tr S
  | _ => .bad
def dMin (ds : List D) (_ : Bool) (S : Sto) : RE := match ds with
  | [.int i, .int j] => .ok (.int (if j < i then j else i)) .tr S
  | _ => .bad
theorem sc_max : SC G E uMax2 dMax := by
  intro F ι ω ρ S σ H Q vs ds t rel ha h
  have ha := ha.pair
  unfold dMax at h
  split at h
  · obtain ⟨v, w, rfl, q1, q2⟩ := pair2 ha
    rw [q1.sInt, q2.sInt]; exact PostE.now h rel (.int _)
  · exact h.elim
theorem sc_min : SC G E uMin2 dMin := by
  intro F ι ω ρ S σ H Q vs ds t rel ha h
  have ha := ha.pair
  unfold dMin at h
  split at h
  · obtain ⟨v, w, rfl, q1, q2⟩ := pair2 ha
    rw [q1.sInt, q2.sInt]; exact PostE.now h rel (.int _)
  · exact h.elim
def dList (ds : List D) (_ : Bool) (S : Sto) : RE := match ds with
  | [d] => (match sqOf S d with
    | some es => .ok (.lst es) .fs S
    | none => .bad)
  | _ => .bad
def dTuple (ds : List D) (_ : Bool) (S : Sto) : RE := match ds with
  | [.tup es] => .ok (.tup es) .tr S
  | [d] => (match lsOf S d with
    | some es => .ok (.tup es) .tr S
    | none => .bad)
  | _ => .bad
def dInt (ds : List D) (_ : Bool) (S : Sto) : RE := match ds with
  | [.int i] => .ok (.int i) .tr S
  | [.bl k] => .ok (.int (if k then 1 else 0)) .tr S
  | [.str a] => if a.length ≤ 640 then (match PySem.intText? a with
    | some n => .ok (.int n) .tr S
    | none => .bad) else .bad
  | _ => .bad
def zipD : List D → List D → List D
  | x :: xs, y :: ys => .tup [x, y] :: zipD xs ys
  | _, _ => []
def fM1 (f : Str → D → Sto → RE) (fo fe : FE) : FE := fun ρ S => bE (fo ρ S) fun d _ S1 => (match d with
  | .str a => bE (fe ρ S1) fun e _ S2 => f a e S2
  | _ => .bad)
def fNot (fa : FE) : FE := fun ρ S => bE (fa ρ S) fun d _ S1 => (match d with
  | .bl b => .ok (.bl (!b)) .tr S1
  | _ => .bad)
def fAnd (fa fb : FE) : FE := fun ρ S => bE (fa ρ S) fun d _ S1 => (match d with
  | .bl true => fb ρ S1
  | .bl false => .ok (.bl false) .tr S1
  | _ => .bad)
def fOr (fa fb : FE) : FE := fun ρ S => bE (fa ρ S) fun d _ S1 => (match d with
  | .bl true => .ok (.bl true) .tr S1
  | .bl false => fb ρ S1
  | _ => .bad)
def fIf (fc fa fb : FE) : FE := fun ρ S => bE (fc ρ S) fun d _ S1 => (match d with
  | .bl true => fa ρ S1
  | .bl false => fb ρ S1
  | _ => .bad)
def kB (Q : Bool → Hp → Prop) : VK := fun v H1 => match v with
  | .bl b => Q b H1
  | _ => False
def ST (G : Gm) (E : WX) (t : TT) (f : FE) : Prop := ∀ F ι ω ρ S σ H Q, Rel G F ι ω ρ S σ H → PostE G E F ι ω ρ σ H (kB Q) (f ρ S) → t σ H Q
theorem st_val {t : TE} {f : FE} (h : SE G E t f) : ST G E (uT t) f := fun F ι ω ρ S σ H Q rel hp => h F ι ω ρ S σ H _ rel hp
theorem ST.bind {ta : TT} {fa : FE} (ha : ST G E ta fa) (r : Rel G F ι ω ρ S σ H) {k : D → Fl → Sto → RE} (h : PostE G E F ι ω ρ σ H Q (bE (fa ρ S) k)) {R : Bool → Hp → Prop}
    (hk : ∀ d f S1, (∀ b, d ≠ .bl b) → k d f S1 = .bad) (c : ∀ b f S1 ι1 H1, Ext ι H ι1 H1 → Rel G F ι1 ω ρ S1 σ H1 → PostE G E F ι1 ω ρ σ H1 Q (k (.bl b) f S1) → R b H1) : ta σ H R := by
  refine ha F ι ω ρ S σ H R r (PostE.bind h fun d f S1 ι1 v H1 e1 r1 rf1 h1 => ?_)
  cases d with
  | bl b => rw [rf1.rt.sBl]; exact c b f S1 ι1 H1 e1 r1 h1
  | _ => rw [hk _ _ _ (by intro b z; cases z)] at h1; exact h1.elim
theorem st_or {ta tb : TT} {fa fb : FE} (ha : ST G E ta fa) (hb : ST G E tb fb) : ST G E (uOr ta tb) (fOr fa fb) := by
  intro F ι ω ρ S σ H Q rel h
  refine ha.bind rel h (fun d f S1 hd => by cases d <;> first | rfl | exact absurd rfl (hd _)) fun b f S1 ι1 H1 e1 r1 h1 => ?_
  cases b with
  | true => exact PostE.now (Q := kB Q) h1 r1 (.bl _)
  | false => exact hb F ι1 ω ρ S1 σ H1 Q r1 h1
theorem se_if {tc : TT} {ta tb : TE} {fc fa fb : FE} (hc : ST G E tc fc) (ha : SE G E ta fa) (hb : SE G E tb fb) : SE G E (uIf tc ta tb) (fIf fc fa fb) := by
  intro F ι ω ρ S σ H Q rel h
  refine hc.bind rel h (fun d f S1 hd => by cases d <;> first | rfl | exact absurd rfl (hd _)) fun b f S1 ι1 H1 e1 r1 h1 => ?_
  cases b with
  | true => exact ha F ι1 ω ρ S1 σ H1 Q r1 h1
  | false => exact hb F ι1 ω ρ S1 σ H1 Q r1 h1
def fChain (f f' : D → D → Sto → RE) (ea eb ec : FE) : FE := fun ρ S => bE (ea ρ S) fun d _ S1 => bE (eb ρ S1) fun e _ S2 => bE (f d e S2) fun z _ S3 => (match z with
  | .bl true => bE (ec ρ S3) fun w _ S4 => f' e w S4
  | .bl false => .ok (.bl false) .tr S3
  | _ => .bad)
def isNon : D → Bool
  | .non => true
  | _ => false
def dIs (neg : Bool) (d e : D) (S : Sto) : RE := match e with
  | .non => .ok (.bl (if neg then !isNon d else isNon d)) .tr S
  | .bl k => (match d with
    | .bl j => .ok (.bl (if neg then !decide (j = k) else decide (j = k))) .tr S
    | _ => .bad)
  | _ => .bad
def dIsN (neg : Bool) (d e : D) (S : Sto) : RE := match e with
  | .non => .ok (.bl (if neg then !isNon d else isNon d)) .tr S
  | _ => .bad
def dNil (neg : Bool) (d e : D) (S : Sto) : RE := match lsOf S d, lsOf S e with
  | some a, some [] => .ok (.bl (neg ^^ a.isEmpty)) .tr S
  | _, _ => dEqv neg d e S
theorem shaped_nil : SeqAt.shaped (.list []) = true := by decide +kernel
theorem eqv_nil2 : PyData.eqv (.list []) (.list []) = true := by decide +kernel
theorem sr_ne3 : SR G E (uNe3 G.K) (dNil true) := by
  intro F ι ω ρ S σ H Q x y d e rel hx hy h
  unfold dNil at h
  split at h
  · rename_i a ea eb
    obtain ⟨p, xs, rfl, h1, h2⟩ := ls_at rel.sto hx ea
    obtain ⟨q, ys, rfl, h3, h4⟩ := ls_at rel.sto hy eb
    cases h4
    rw [Bool.true_xor] at h
    cases a with
    | nil =>
      cases h2
      exact .inl ⟨.list [], .list [], .lst (.inl (.inl h1)) .nil, .lst (.inl (.inl h3)) .nil, shaped_nil, shaped_nil, by rw [eqv_nil2]; exact PostE.now h rel (.bl _)⟩
    | cons a as =>
      cases h2 with
      | cons g1 g2 => exact .inr (.inr ⟨⟨p, q, _, _, rfl, rfl, .inl (.inl h1), .inl (.inl h3), by simp⟩, PostE.now h rel (.bl _)⟩)
  · have := sr_ne F ι ω ρ S σ H Q x y d e rel hx hy h
    unfold uNe2 at this
    unfold uNe3
    cases es : scal x y with
    | true => rw [es] at this; exact this
    | false =>
      rw [es] at this
      rcases this with q | q
      · exact .inl q
      · exact .inr (.inl q)
def dNeg (d : D) (S : Sto) : RE := match d with
  | .int i => .ok (.int (-i)) .tr S
  | _ => .bad
theorem se_neg {ta : TE} {fa : FE} (ha : SE G E ta fa) : SE G E (tUn uNeg ta) (fUn dNeg fa) := by
  intro F ι ω ρ S σ H Q rel h
  refine ha.bind rel h fun d f S1 ι1 v H1 e1 r1 rf1 h1 => ?_
  unfold dNeg at h1
  split at h1
  · rw [rf1.rt.sInt]; exact PostE.now h1 r1 (.int _)
  · exact h1.elim
end
abbrev FF := List D → Sto → RE
def PostF (K : PySem.W.Frag) (ca : Nat → Addr) (ι B : List Addr) (H : Hp) (Q : VK) (E : XK) : RE → Prop
  | .ok d f S' => ∀ ι' v H', Ext ι H ι' H' → ι'.Nodup → RS K ca ι' B H' S' → RF K ca ι' B H H' S' v d f → Q v H'
  | .xc c fs S' => ∀ ι' dd fv H', Ext ι H ι' H' → ι'.Nodup → RS K ca ι' B H' S' → NI dd ι' → NI dd (B) → XD H' dd fv → RFs K ca ι' B H' fv fs → E (.ref (ca c)) dd H'
  | .bad => False
def SpF (K : PySem.W.Frag) (ca : Nat → Addr) (f : FF) : Sp := fun vs H Q E => ∃ ι B S ds, ι.Nodup ∧ (∀ b ∈ B, H b ≠ none ∧ b ∉ ι) ∧ RS K ca ι B H S ∧ RAll K ca ι B H vs ds ∧ PostF K ca ι B H Q E (f ds S)
def fCall (f : FF) (dd : List D) (fa : FA) : FE := fCB (fun ds t S => if t = true then f (ds ++ dd) S else .bad) fa
section
variable {G : Gm} {E : WX} {F : Fr} {ι ω ι1 : List Addr} {ρ : Ev} {S S1 : Sto} {σ : L2.St} {H H1 : Hp} {Q : VK}
/-- scalars by default -/
def vOf : D → V
  | .bl b => .bl b
  | .int i => .int i
  | .str z => .str z
  | _ => .non
def scalD : D → Bool
  | .non => true
  | .bl _ => true
  | .int _ => true
  | .str _ => true
  | _ => false
theorem dflt_all {K : PySem.W.Frag} {ca : Nat → Addr} {ι B : List Addr} {H : Hp} : ∀ {dd : List D}, dd.all scalD = true → RAll K ca ι B H (dd.map vOf) dd
  | [], _ => .nil
  | d :: dd, h => by
    rw [List.all_cons, Bool.and_eq_true] at h
    refine .cons ?_ (dflt_all h.2)
    cases d with
    | non => exact .non
    | bl b => exact .bl b
    | int i => exact .int i
    | str z => exact .str z
    | _ => exact absurd h.1 (by simp [scalD])
end
end
end Fx
namespace Fx
open PySem PySem.Spec PyProof.Rows L2 U
noncomputable section
inductive RSt where
  | nx (ρ : Ev) (S : Sto) | rt (d : D) (f : Fl) (S : Sto) | bk (ρ : Ev) (S : Sto) | ct (ρ : Ev) (S : Sto) | xc (c : Nat) (fs : List (Str × D)) (ρ : Ev) (S : Sto) | bad
abbrev FS := Ev → Sto → RSt
structure ExtS (ι ω : List Addr) (H : Hp) (ι' ω' : List Addr) (H' : Hp) : Prop where
  pre : ι <+: ι'
  keep : ∀ a o, H a = some o → a ∉ ι → a ∉ ω → H' a = some o
  newi : ∀ a ∈ ι', a ∉ ι → H a = none
  neww : ∀ a ∈ ω', a ∉ ω → H a = none
  dom : ∀ a, H a ≠ none → H' a ≠ none
theorem nn {H : Hp} {a : Addr} {o : HO} (h : H a = some o) : H a ≠ none := by rw [h]; simp
theorem none_of {H H1 : Hp} {a : Addr} (d : ∀ a, H a ≠ none → H1 a ≠ none) (h : H1 a = none) : H a = none := by
  cases e : H a with
  | none => rfl
  | some o => exact absurd h (d a (nn e))
section
variable {ι ω ι1 ω1 ι2 ω2 : List Addr} {H H1 H2 : Hp}
theorem ExtS.refl : ExtS ι ω H ι ω H := ⟨List.prefix_rfl, fun _ _ h _ _ => h, fun _ h n => absurd h n, fun _ h n => absurd h n, fun _ h => h⟩
theorem ExtS.trans (a : ExtS ι ω H ι1 ω1 H1) (b : ExtS ι1 ω1 H1 ι2 ω2 H2) : ExtS ι ω H ι2 ω2 H2 := by
  refine ⟨a.pre.trans b.pre, fun x o h n1 n2 => ?_, fun x h n => ?_, fun x h n => ?_, fun x h => b.dom x (a.dom x h)⟩
  · refine b.keep x o (a.keep x o h n1 n2) (fun z => ?_) fun z => ?_
    · have := a.newi x z n1
      rw [h] at this; cases this
    · have := a.neww x z n2
      rw [h] at this; cases this
  · by_cases hx : x ∈ ι1
    · exact a.newi x hx n
    · exact none_of a.dom (b.newi x h hx)
  · by_cases hx : x ∈ ω1
    · exact a.neww x hx n
    · exact none_of a.dom (b.neww x h hx)
theorem Ext.s (e : Ext ι H ι1 H1) : ExtS ι ω H ι1 ω H1 := ⟨e.pre, fun a o h n _ => e.keep a o h n, e.new, fun _ h n => absurd h n, e.dom⟩
theorem ExtS.per {B : List Addr} (e : ExtS ι ω H ι1 ω1 H1) : Per ι (B ++ ω) H ι1 (B ++ ω1) H1 := by
  refine ⟨fun a o h1 h2 h3 => ?_, fun _ _ h => ix_pre e.pre h⟩
  rw [List.mem_append, not_or] at h3
  refine ⟨e.keep a o h1 h2 h3.2, fun z => ?_, fun z => ?_⟩
  · have := e.newi a z h2
    rw [h1] at this; cases this
  · rcases List.mem_append.mp z with z | z
    · exact h3.1 z
    · have := e.neww a z h3.2
      rw [h1] at this; cases this
end
def PostS (G : Gm) (E : WX) (F : Fr) (D : Ends) (ι ω : List Addr) (H : Hp) : RSt → Prop
  | .nx ρ' S' => ∀ ι' ω' σ' H', ExtS ι ω H ι' ω' H' → Rel G F ι' ω' ρ' S' σ' H' → D.nx σ' H'
  | .bk ρ' S' => ∀ ι' ω' σ' H', ExtS ι ω H ι' ω' H' → Rel G F ι' ω' ρ' S' σ' H' → D.bk σ' H'
  | .ct ρ' S' => ∀ ι' ω' σ' H', ExtS ι ω H ι' ω' H' → Rel G F ι' ω' ρ' S' σ' H' → D.ct σ' H'
  | .rt d f S' => ∀ ι' v H', Ext F.i0 F.H0 ι' H' → ι'.Nodup → RS G.K G.ca ι' F.B0 H' S' → RF G.K G.ca ι' F.B0 F.H0 H' S' v d f → D.rt v H'
  | .xc c fs ρ' S' => ∀ ι' ω' σ' dd fv H', ExtS ι ω H ι' ω' H' → Rel G F ι' ω' ρ' S' σ' H' → NI dd ι' → NI dd (F.B0 ++ ω') → XD H' dd fv → RFs G.K G.ca ι' (F.B0 ++ ω') H' fv fs → E (.ref (G.ca c)) dd σ' H'
  | .bad => False
def SS (G : Gm) (E : WX) (t : TS) (f : FS) : Prop := ∀ F D ι ω ρ S σ H, Rel G F ι ω ρ S σ H → PostS G E F D ι ω H (f ρ S) → t D σ H
def bS (r : RSt) (k : Ev → Sto → RSt) : RSt := match r with
  | .nx ρ S => k ρ S
  | r => r
/-- what an expression gives, in a statement -/
def eS (r : RE) (ρ : Ev) (k : D → Fl → Sto → RSt) : RSt := match r with
  | .ok d f S => k d f S
  | .xc c fs S => .xc c fs ρ S
  | .bad => .bad
section
variable {G : Gm} {E : WX} {F : Fr} {D : Ends} {ι ω ι1 ω1 : List Addr} {ρ : Ev} {S S1 : Sto} {σ : L2.St} {H H1 : Hp}
theorem PostS.ex {r : RSt} (h : PostS G E F D ι ω H r) (e : ExtS ι ω H ι1 ω1 H1) : PostS G E F D ι1 ω1 H1 r := by
  cases r with
  | nx ρ' S' => exact fun ι' ω' σ' H' e' rel => h ι' ω' σ' H' (e.trans e') rel
  | bk ρ' S' => exact fun ι' ω' σ' H' e' rel => h ι' ω' σ' H' (e.trans e') rel
  | ct ρ' S' => exact fun ι' ω' σ' H' e' rel => h ι' ω' σ' H' (e.trans e') rel
  | rt d f S' => exact h
  | xc c fs ρ' S' => exact fun ι' ω' σ' dd fv H' e' rel => h ι' ω' σ' dd fv H' (e.trans e') rel
  | bad => exact h
/-- what follows may be wider -/
theorem PostS.mono {D' : Ends} {r : RSt} (h : PostS G E F D ι ω H r) (h1 : ∀ σ H, D.nx σ H → D'.nx σ H) (h2 : ∀ σ H, D.bk σ H → D'.bk σ H) (h3 : ∀ σ H, D.ct σ H → D'.ct σ H) (h4 : ∀ v H, D.rt v H → D'.rt v H) : PostS G E F D' ι ω H r := by
  cases r with
  | nx ρ' S' => exact fun ι' ω' σ' H' e' rel => h1 _ _ (h ι' ω' σ' H' e' rel)
  | bk ρ' S' => exact fun ι' ω' σ' H' e' rel => h2 _ _ (h ι' ω' σ' H' e' rel)
  | ct ρ' S' => exact fun ι' ω' σ' H' e' rel => h3 _ _ (h ι' ω' σ' H' e' rel)
  | rt d f S' => exact fun ι' v H' e nd rs rf => h4 _ _ (h ι' v H' e nd rs rf)
  | xc c fs ρ' S' => exact h
  | bad => exact h
def sSeq (f g : FS) : FS := fun ρ S => bS (f ρ S) g
theorem ss_seq {t u : TS} {f g : FS} (ht : SS G E t f) (hu : SS G E u g) : SS G E (tSeq t u) (sSeq f g) := by
  intro F D ι ω ρ S σ H rel h
  refine ht F _ ι ω ρ S σ H rel ?_
  unfold sSeq at h
  cases e : f ρ S with
  | nx ρ' S' =>
    rw [e] at h
    exact fun ι' ω' σ' H' e' rel' => hu F D ι' ω' ρ' S' σ' H' rel' (PostS.ex h e')
  | bk ρ' S' => rw [e] at h; exact h
  | ct ρ' S' => rw [e] at h; exact h
  | rt d fl S' => rw [e] at h; exact h
  | xc c fs ρ' S' => rw [e] at h; exact h
  | bad => rw [e] at h; exact h
def sNext : FS := fun ρ S => .nx ρ S
def sBreak : FS := fun ρ S => .bk ρ S
def sCont : FS := fun ρ S => .ct ρ S
theorem ss_next : SS G E tNext sNext := fun F D ι ω ρ S σ H rel h => h ι ω σ H ExtS.refl rel
theorem SE.bindS {ta : TE} {fa : FE} (ha : SE G E ta fa) (r : Rel G F ι ω ρ S σ H) {k : Fx.D → Fl → Sto → RSt} (h : PostS G E F D ι ω H (eS (fa ρ S) ρ k)) {R : VK}
    (c : ∀ d f S1 ι1 v H1, Ext ι H ι1 H1 → Rel G F ι1 ω ρ S1 σ H1 → RF G.K G.ca ι1 (F.B0 ++ ω) H H1 S1 v d f → PostS G E F D ι1 ω H1 (k d f S1) → R v H1) : ta σ H R := by
  refine ha F ι ω ρ S σ H R r ?_
  cases e : fa ρ S with
  | ok d f S1 =>
    rw [e] at h
    exact fun ι1 v H1 e1 r1 rf => c d f S1 ι1 v H1 e1 r1 rf (PostS.ex h e1.s)
  | xc c' fs S1 =>
    rw [e] at h
    exact fun ι' dd fv H' x rel' n1 n2 h1 h2 => h ι' ω σ dd fv H' x.s rel' n1 n2 h1 h2
  | bad => rw [e] at h; exact h
theorem ST.bindS {ta : TT} {fa : FE} (ha : ST G E ta fa) (r : Rel G F ι ω ρ S σ H) {k : Fx.D → Fl → Sto → RSt} (h : PostS G E F D ι ω H (eS (fa ρ S) ρ k)) {R : Bool → Hp → Prop} (hk : ∀ d f S1, (∀ b, d ≠ .bl b) → k d f S1 = .bad)
    (c : ∀ b f S1 ι1 H1, Ext ι H ι1 H1 → Rel G F ι1 ω ρ S1 σ H1 → PostS G E F D ι1 ω H1 (k (.bl b) f S1) → R b H1) : ta σ H R := by
  refine ha F ι ω ρ S σ H R r ?_
  cases e : fa ρ S with
  | ok d f S1 =>
    rw [e] at h
    intro ι1 v H1 e1 r1 rf
    cases d with
    | bl b => rw [rf.rt.sBl]; exact c b f S1 ι1 H1 e1 r1 (PostS.ex h e1.s)
    | _ =>
      have h : PostS G E F D ι ω H (k _ f S1) := h
      rw [hk _ _ _ (by intro b z; cases z)] at h
      exact h.elim
  | xc c' fs S1 =>
    rw [e] at h
    exact fun ι' dd fv H' x rel' n1 n2 h1 h2 => h ι' ω σ dd fv H' x.s rel' n1 n2 h1 h2
  | bad => rw [e] at h; exact h
def sExpr (fe : FE) : FS := fun ρ S => eS (fe ρ S) ρ fun _ _ S1 => .nx ρ S1
def sIf (fc : FE) (fa fb : FS) : FS := fun ρ S => eS (fc ρ S) ρ fun d _ S1 => (match d with
  | .bl true => fa ρ S1
  | .bl false => fb ρ S1
  | _ => .bad)
theorem ss_if {tc : TT} {ta tb : TS} {fc : FE} {fa fb : FS} (hc : ST G E tc fc) (ha : SS G E ta fa) (hb : SS G E tb fb) : SS G E (uIfS tc ta tb) (sIf fc fa fb) := by
  intro F D ι ω ρ S σ H rel h
  refine hc.bindS rel h (fun d f S1 hd => by cases d <;> first | rfl | exact absurd rfl (hd _)) fun b f S1 ι1 H1 e1 r1 h1 => ?_
  cases b with
  | true => exact ha F D ι1 ω ρ S1 σ H1 r1 h1
  | false => exact hb F D ι1 ω ρ S1 σ H1 r1 h1
theorem Rel.ext0 (r : Rel G F ι ω ρ S σ H) : Ext F.i0 F.H0 ι H := ⟨r.pre, r.old, r.fri, r.dom⟩
theorem RS.less {K : PySem.W.Frag} {ca : Nat → Addr} {B B' : List Addr} (h : RS K ca ι B H S) (s : ∀ a ∈ B', a ∈ B) : RS K ca ι B' H S := h.per (fun _ _ => rfl) (Per.less s)
theorem Rel.offb0 (r : Rel G F ι ω ρ S σ H) {a : Addr} (h : a ∈ ω) : a ∉ F.B0 := fun z => (r.b0 a z).1 (r.frw a h)
theorem rf_out {d : Fx.D} {v : V} {f : Fl} {H0 : Hp} (r : Rel G F ι ω ρ S σ H) (rf : RF G.K G.ca ι (F.B0 ++ ω) H0 H S v d f) (h0 : ∀ a, F.H0 a ≠ none → H0 a ≠ none) (hf : f ≠ .pk) : RF G.K G.ca ι F.B0 F.H0 H S v d f := by
  have s : ∀ a ∈ F.B0, a ∈ F.B0 ++ ω := fun a h => List.mem_append_left _ h
  have s1 : ∀ p, ∀ a ∈ p :: F.B0, a ∈ p :: (F.B0 ++ ω) := fun p a h => by
    rcases List.mem_cons.mp h with h | h
    · subst h; exact List.mem_cons_self
    · exact List.mem_cons_of_mem _ (s a h)
  cases f with
  | pk => exact absurd rfl hf
  | tr => exact RV.per (show RV _ _ _ _ _ _ _ from rf) (Per.less s)
  | fs =>
    have rf : Fs _ _ _ _ _ _ _ _ _ := rf
    cases rf with
    | l h1 h2 h3 h4 h5 h6 => exact .l h1 (fun z => h2 (s _ z)) (none_of h0 h3) h4 (h5.per (Per.less (s1 _))) (h6.less (s1 _))
    | o h1 h2 h3 h4 h5 h6 => exact .o h1 (fun z => h2 (s _ z)) (none_of h0 h3) h4 (h5.per (Per.less (s1 _))) (h6.less (s1 _))
def sRet (fe : FE) : FS := fun ρ S => eS (fe ρ S) ρ fun d f S1 => if f.nop = true then .rt d f S1 else .bad
theorem ss_ret {te : TE} {fe : FE} (he : SE G E te fe) : SS G E (tRet te) (sRet fe) := by
  intro F D ι ω ρ S σ H rel h
  refine he.bindS rel h fun d f S1 ι1 v H1 e1 r1 rf h1 => ?_
  split at h1
  · rename_i hf
    refine h1 ι1 v H1 r1.ext0 r1.nd (r1.sto.less fun a z => List.mem_append_left _ z) (rf_out r1 rf rel.dom (by intro z; subst z; cases hf))
  · exact h1.elim
def sRetN : FS := fun _ S => .rt .non .tr S
/-- a name is returned, a list of one's own too -/
def sRetV (i : Nat) : FS := fun ρ S => match ρ[i]? with
  | some (.val d) => .rt d .tr S
  | some (.own ds) => .rt (.lst ds) .fs S
  | _ => .bad
theorem ss_retV (i : Nat) : SS G E (tRet (uVar i)) (sRetV i) := by
  intro F D ι ω ρ S σ H rel h
  unfold sRetV at h
  show uVar i σ H D.rt
  unfold uVar
  cases e : ρ[i]? with
  | none => rw [e] at h; exact h.elim
  | some s =>
    rw [e] at h
    have hi : i < σ.length := by rw [← rel.len]; exact (List.getElem?_eq_some_iff.mp e).1
    have q := rel.env i s _ e (List.getElem?_eq_getElem hi)
    have e2 : σ[i]? = some σ[i] := List.getElem?_eq_getElem hi
    rw [e2]
    generalize σ[i] = o at q
    have s0 : RS G.K G.ca ι F.B0 H S := rel.sto.less fun a z => List.mem_append_left _ z
    have s1 : ∀ p ∈ ω, ∀ a ∈ p :: F.B0, a ∈ F.B0 ++ ω := fun p hp a h => by
      rcases List.mem_cons.mp h with h | h
      · subst h; exact List.mem_append_right _ hp
      · exact List.mem_append_left _ h
    cases q with
    | no => exact h.elim
    | val rv => exact h ι _ H rel.ext0 rel.nd s0 (rv.per (Per.less fun a z => List.mem_append_left _ z))
    | own h1 h2 h3 => exact h ι _ H rel.ext0 rel.nd s0 (.l (rel.dj _ h1) (rel.offb0 h1) (rel.frw _ h1) h2 (h3.per (Per.less (s1 _ h1))) (rel.sto.less (s1 _ h1)))
    | oob h1 h2 h3 => exact h.elim
    | exn => exact h.elim
theorem Rel.set (r : Rel G F ι ω ρ S σ H) (i : Nat) {v : V} {d : Fx.D} (rv : RV G.K G.ca ι (F.B0 ++ ω) H v d) : Rel G F ι ω (ρ.set i (.val d)) S (σ.set i (some v)) H := by
  refine { r with len := by rw [List.length_set, List.length_set]; exact r.len, env := fun j s o h1 h2 => ?_, own := fun j k a s s' hjk h1 h2 h3 h4 h5 h6 => ?_ }
  · by_cases e : i = j
    · subst e
      have hi : i < ρ.length := by
        have := (List.getElem?_eq_some_iff.mp h1).1
        rwa [List.length_set] at this
      rw [List.getElem?_set_self hi] at h1
      rw [List.getElem?_set_self (by rw [← r.len]; exact hi)] at h2
      cases h1; cases h2
      exact .val rv
    · rw [List.getElem?_set_ne e] at h1 h2
      exact r.env j s o h1 h2
  · by_cases e : i = j
    · subst e
      have hi : i < ρ.length := by
        have := (List.getElem?_eq_some_iff.mp h1).1
        rwa [List.length_set] at this
      rw [List.getElem?_set_self hi] at h1
      cases h1; cases h3
    · by_cases e' : i = k
      · subst e'
        have hi : i < ρ.length := by
          have := (List.getElem?_eq_some_iff.mp h2).1
          rwa [List.length_set] at this
        rw [List.getElem?_set_self hi] at h2
        cases h2; cases h4
      · rw [List.getElem?_set_ne e] at h1 h5
        rw [List.getElem?_set_ne e'] at h2 h6
        exact r.own j k a s s' hjk h1 h2 h3 h4 h5 h6
/-- a slot is forgotten -/
theorem Rel.drop (r : Rel G F ι ω ρ S σ H) (i : Nat) (o : Option V) : Rel G F ι ω (ρ.set i .no) S (σ.set i o) H := by
  refine { r with len := by rw [List.length_set, List.length_set]; exact r.len, env := fun j s o h1 h2 => ?_, own := fun j k a s s' hjk h1 h2 h3 h4 h5 h6 => ?_ }
  · by_cases e : i = j
    · subst e
      have hi : i < ρ.length := by
        have := (List.getElem?_eq_some_iff.mp h1).1
        rwa [List.length_set] at this
      rw [List.getElem?_set_self hi] at h1
      cases h1
      exact .no
    · rw [List.getElem?_set_ne e] at h1 h2
      exact r.env j s o h1 h2
  · by_cases e : i = j
    · subst e
      have hi : i < ρ.length := by
        have := (List.getElem?_eq_some_iff.mp h1).1
        rwa [List.length_set] at this
      rw [List.getElem?_set_self hi] at h1
      cases h1; cases h3
    · by_cases e' : i = k
      · subst e'
        have hi : i < ρ.length := by
          have := (List.getElem?_eq_some_iff.mp h2).1
          rwa [List.length_set] at this
        rw [List.getElem?_set_self hi] at h2
        cases h2; cases h4
      · rw [List.getElem?_set_ne e] at h1 h5
        rw [List.getElem?_set_ne e'] at h2 h6
        exact r.own j k a s s' hjk h1 h2 h3 h4 h5 h6
abbrev FG := Fx.D → Ev → Sto → Option Ev
/-- but for some slots nothing is changed -/
def Wp (js : List Nat) (σ σ' : L2.St) : Prop := ∀ vs : List Nat, (∀ j ∈ js, j ∈ vs) → wipe σ' vs = wipe σ vs
theorem wipe_set : ∀ {vs : List Nat} {i : Nat} {σ : L2.St} {o : Option V}, i ∈ vs → wipe (σ.set i o) vs = wipe σ vs
  | v :: vs, i, σ, o, h => by
    by_cases e : i ∈ vs
    · show (wipe (σ.set i o) vs).set v none = (wipe σ vs).set v none
      rw [wipe_set e]
    · have hv : i = v := by
        rcases List.mem_cons.mp h with z | z
        · exact z
        · exact absurd z e
      subst hv
      have sw : ∀ (us : List Nat), i ∉ us → wipe (σ.set i o) us = (wipe σ us).set i o := by
        intro us
        induction us with
        | nil => intro _; rfl
        | cons u us ih =>
          intro hn
          simp only [List.mem_cons, not_or] at hn
          show (wipe (σ.set i o) us).set u none = ((wipe σ us).set u none).set i o
          rw [ih hn.2, List.set_comm _ _ hn.1]
      show (wipe (σ.set i o) vs).set i none = (wipe σ vs).set i none
      rw [sw vs e, List.set_set]
theorem Wp.name (i : Nat) (σ : L2.St) (o : Option V) : Wp [i] σ (σ.set i o) := fun vs h => wipe_set (h i List.mem_cons_self)
theorem Wp.refl (js : List Nat) (σ : L2.St) : Wp js σ σ := fun _ _ => rfl
theorem Wp.trans {js ks : List Nat} {σ σ1 σ2 : L2.St} (a : Wp js σ σ1) (b : Wp ks σ1 σ2) : Wp (js ++ ks) σ σ2 := fun vs h =>
  (b vs fun j hj => h j (List.mem_append_right _ hj)).trans (a vs fun j hj => h j (List.mem_append_left _ hj))
/-- and what is one's own stays so -/
structure Wq (js : List Nat) (ρ ρ' : Ev) (σ σ' : L2.St) : Prop where
  wp : Wp js σ σ'
  ow : ∀ (i : Nat) (s : Sl), ρ'[i]? = some s → isOwn s = true → ρ[i]? = some s ∧ σ'[i]? = σ[i]?
theorem Wq.trans {js ks : List Nat} {ρ ρ1 ρ2 : Ev} {σ σ1 σ2 : L2.St} (a : Wq js ρ ρ1 σ σ1) (b : Wq ks ρ1 ρ2 σ1 σ2) : Wq (js ++ ks) ρ ρ2 σ σ2 := ⟨a.wp.trans b.wp, fun i s h1 h2 => by
  obtain ⟨q1, q2⟩ := b.ow i s h1 h2
  obtain ⟨q3, q4⟩ := a.ow i s q1 h2
  exact ⟨q3, q2.trans q4⟩⟩
theorem Wq.name (i : Nat) (ρ : Ev) (σ : L2.St) (d : Fx.D) (o : Option V) : Wq [i] ρ (ρ.set i (.val d)) σ (σ.set i o) := ⟨Wp.name i σ o, fun j s h1 h2 => by
  by_cases e : i = j
  · subst e
    have hi : i < ρ.length := by
      have := (List.getElem?_eq_some_iff.mp h1).1
      rwa [List.length_set] at this
    rw [List.getElem?_set_self hi] at h1; cases h1; cases h2
  · rw [List.getElem?_set_ne e] at h1
    exact ⟨h1, List.getElem?_set_ne e⟩⟩
def SG (G : Gm) (g : TG) (js : List Nat) (f : FG) : Prop := ∀ F ι ω ρ S σ H v d Q, Rel G F ι ω ρ S σ H → RV G.K G.ca ι (F.B0 ++ ω) H v d → (match f d ρ S with
  | some ρ' => ∀ σ', Rel G F ι ω ρ' S σ' H → Wq js ρ ρ' σ σ' → Q σ' H
  | none => False) → g v σ H Q
abbrev FGs := List Fx.D → Ev → Sto → Option Ev
def SGs (G : Gm) (g : TGs) (js : List Nat) (f : FGs) : Prop := ∀ F ι ω ρ S σ H vs ds Q, Rel G F ι ω ρ S σ H → RAll G.K G.ca ι (F.B0 ++ ω) H vs ds → (match f ds ρ S with
  | some ρ' => ∀ σ', Rel G F ι ω ρ' S σ' H → Wq js ρ ρ' σ σ' → Q σ' H
  | none => False) → g vs σ H Q
def gN (i : Nat) : FG := fun d ρ _ => some (ρ.set i (.val d))
theorem sg_name (i : Nat) : SG G (gName i) [i] (gN i) := fun F ι ω ρ S σ H v d Q rel rv h => h _ (rel.set i rv) (Wq.name i ρ σ d _)
def gsNil : FGs := fun ds ρ _ => match ds with
  | [] => some ρ
  | _ => none
def gsCons (f : FG) (g : FGs) : FGs := fun ds ρ S => match ds with
  | d :: ds => (match f d ρ S with
    | some ρ1 => g ds ρ1 S
    | none => none)
  | [] => none
theorem sgs_nil : SGs G gNil [] gsNil := by
  intro F ι ω ρ S σ H vs ds Q rel ra h
  cases ds with
  | nil => cases ra; exact ⟨rfl, h σ rel ⟨Wp.refl _ _, fun i s h1 h2 => ⟨h1, rfl⟩⟩⟩
  | cons => exact h.elim
theorem sgs_cons {g : TG} {gs : TGs} {js ks : List Nat} {f : FG} {fs : FGs} (hg : SG G g js f) (hs : SGs G gs ks fs) : SGs G (gCons g gs) (js ++ ks) (gsCons f fs) := by
  intro F ι ω ρ S σ H vs ds Q rel ra h
  cases ds with
  | nil => exact h.elim
  | cons d ds =>
    cases ra with
    | cons r1 r2 =>
      refine ⟨_, _, rfl, hg F ι ω ρ S σ H _ d _ rel r1 ?_⟩
      unfold gsCons at h
      dsimp only at h
      cases e : f d ρ S with
      | none => rw [e] at h; exact h.elim
      | some ρ1 =>
        rw [e] at h
        intro σ' rel' w1
        refine hs F ι ω ρ1 S σ' H _ ds Q rel' r2 ?_
        dsimp only at h
        cases e2 : fs ds ρ1 S with
        | none => rw [e2] at h; exact h.elim
        | some ρ2 =>
          rw [e2] at h
          exact fun σ2 rel2 w2 => h σ2 rel2 (w1.trans w2)
def gT (n : Nat) (fs : FGs) : FG := fun d ρ S => match sqOf S d with
  | some ds => if ds.length = n then fs ds ρ S else none
  | none => none
theorem sg_ts {n : Nat} {gs : TGs} {js : List Nat} {fs : FGs} (hs : SGs G gs js fs) : SG G (gTs G.K n gs) js (gT n fs) := by
  intro F ι ω ρ S σ H v d Q rel rv h
  unfold gT at h
  cases e : sqOf S d with
  | none => rw [e] at h; exact h.elim
  | some ds =>
    rw [e] at h
    obtain ⟨a, xs, rfl, q1, q2⟩ := sq_at rel.sto (.v rv) e
    dsimp only at h
    by_cases hn : ds.length = n
    · rw [if_pos hn] at h
      exact ⟨xs, q1.symm, by rw [q2.len]; exact hn, hs F ι ω ρ S σ H xs ds Q rel q2 h⟩
    · rw [if_neg hn] at h; exact h.elim
def sAsg (fe : FE) (g : FG) : FS := fun ρ S => eS (fe ρ S) ρ fun d f S1 => if f.nop = true then (match g d ρ S1 with
  | some ρ' => .nx ρ' S1
  | none => .bad) else .bad
theorem ss_asg {te : TE} {fe : FE} {g : TG} {fg : FG} {js : List Nat} (he : SE G E te fe) (hg : SG G g js fg) : SS G E (tAsg te g) (sAsg fe fg) := by
  intro F D ι ω ρ S σ H rel h
  refine he.bindS rel h fun d f S1 ι1 v H1 e1 r1 rf h1 => ?_
  split at h1
  · rename_i hf
    refine hg F ι1 ω ρ S1 σ H1 v d _ r1 (rf.rv (by intro z; subst z; cases hf)) ?_
    split at h1
    · rename_i ρ' eg
      exact fun σ' rel' _ => h1 ι1 ω σ' H1 ExtS.refl rel'
    · exact h1.elim
  · exact h1.elim
def sPar (i j : Nat) (fa : FA) : FS := fun ρ S => match fa ρ S with
  | .ok [d, e] true S1 => .nx ((ρ.set i (.val d)).set j (.val e)) S1
  | .xc c fs S1 => .xc c fs ρ S1
  | _ => .bad
def sAug (i : Nat) (f : Int → Int → Int) (fe : FE) : FS := fun ρ S => match ρ[i]? with
  | some (.val (.int x)) => eS (fe ρ S) ρ fun d _ S1 => (match d with
    | .int y => .nx (ρ.set i (.val (.int (f x y)))) S1
    | _ => .bad)
  | _ => .bad
theorem slot_val (rel : Rel G F ι ω ρ S σ H) {i : Nat} {d : Fx.D} (e : ρ[i]? = some (.val d)) : ∃ v, σ[i]? = some (some v) ∧ RV G.K G.ca ι (F.B0 ++ ω) H v d := by
  have hi : i < σ.length := by rw [← rel.len]; exact (List.getElem?_eq_some_iff.mp e).1
  have q := rel.env i _ _ e (List.getElem?_eq_getElem hi)
  have e2 : σ[i]? = some σ[i] := List.getElem?_eq_getElem hi
  rw [e2]
  generalize σ[i] = o at q
  cases q with
  | val rv => exact ⟨_, rfl, rv⟩
def sOwn (i : Nat) (fe : FE) : FS := fun ρ S => eS (fe ρ S) ρ fun d f S1 => (match d, f with
  | .lst ds, .fs => .nx (ρ.set i (.own ds)) S1
  | _, _ => .bad)
end
end
end Fx
namespace Fx
open PySem PySem.Spec PyProof.Rows L2 U
noncomputable section
section
variable {G : Gm} {E : WX} {F : Fr} {Dd : Ends} {ι ω ι1 ω1 : List Addr} {ρ : Ev} {S S1 : Sto} {σ : L2.St} {H H1 : Hp}
theorem slot_own (rel : Rel G F ι ω ρ S σ H) {i : Nat} {ds : List D} (e : ρ[i]? = some (.own ds)) : ∃ a xs, σ[i]? = some (some (.ref a)) ∧ a ∈ ω ∧ H a = some (.lst xs) ∧ RAll G.K G.ca ι (F.B0 ++ ω) H xs ds := by
  have hi : i < σ.length := by rw [← rel.len]; exact (List.getElem?_eq_some_iff.mp e).1
  have q := rel.env i _ _ e (List.getElem?_eq_getElem hi)
  have e2 : σ[i]? = some σ[i] := List.getElem?_eq_getElem hi
  rw [e2]
  generalize σ[i] = o at q
  cases q with
  | own h1 h2 h3 => exact ⟨_, _, rfl, h1, h2, h3⟩
theorem Per.upd {B : List Addr} {a : Addr} {o : HO} (h : a ∈ ι ∨ a ∈ B) : Per ι B H ι B (upd H a o) :=
  ⟨fun b u h1 h2 h3 => ⟨by rw [upd_ne (fun z => by subst z; exact h.elim h2 h3)]; exact h1, h2, h3⟩, fun _ _ z => z⟩
/-- what lies at an address of one's own is changed, the slot with it -/
theorem Rel.mut (r : Rel G F ι ω ρ S σ H) {i : Nat} {a : Addr} {s s' : Sl} {o : HO} (e : ρ[i]? = some s) (hs : isOwn s = true) (ea : σ[i]? = some (some (.ref a))) (ha : a ∈ ω) (hs' : RSl G ι (F.B0 ++ ω) ω (upd H a o) s' (some (.ref a))) (io : isOwn s' = true) :
    Rel G F ι ω (ρ.set i s') S σ (upd H a o) := by
  have pp : Per ι (F.B0 ++ ω) H ι (F.B0 ++ ω) (L2.upd H a o) := Per.upd (.inr (List.mem_append_right _ ha))
  have hi : i < ρ.length := (List.getElem?_eq_some_iff.mp e).1
  refine ⟨r.pre, fun b u h n => ?_, fun b h => ?_, r.fri, r.frw, r.b0, r.nd, r.dj, fun b hb => ?_, r.sto.per (fun b hb => upd_ne fun z => r.dj a ha (by rw [← z]; exact hb)) pp, by rw [List.length_set]; exact r.len, fun j t o' h1 h2 => ?_, fun j k b s1 s2 hjk h1 h2 h3 h4 h5 h6 => ?_⟩
  · rw [upd_ne (fun z => by subst z; rw [r.frw _ ha] at h; cases h)]; exact r.old b u h n
  · unfold L2.upd; split
    · simp
    · exact r.dom b h
  · unfold L2.upd; split
    · simp
    · exact r.dw b hb
  · by_cases e' : i = j
    · subst e'
      rw [List.getElem?_set_self hi] at h1
      rw [ea] at h2
      cases h1; cases h2
      exact hs'
    · rw [List.getElem?_set_ne e'] at h1
      have q := r.env j t o' h1 h2
      have ne : isOwn t = true → ∀ b, o' = some (.ref b) → b ≠ a := fun ht b hb z => by
        subst z; subst hb
        exact r.own i j _ s t e' e h1 hs ht ea h2
      cases q with
      | no => exact .no
      | val h => exact .val (h.per pp)
      | own q1 q2 q3 => exact .own q1 (by rw [upd_ne (ne rfl _ rfl)]; exact q2) (q3.per pp)
      | oob q1 q0 q2 q3 => exact .oob q1 q0 (by rw [upd_ne (ne rfl _ rfl)]; exact q2) (q3.per pp)
      | exn q1 q2 q3 q4 q5 =>
        obtain ⟨g1, g2, g3⟩ := q4.per q2 q3 pp
        exact .exn q1 g2 g3 g1 (q5.per pp)
  · have go : ∀ (j : Nat) (t : Sl), (ρ.set i s')[j]? = some t → isOwn t = true → ∃ t', ρ[j]? = some t' ∧ isOwn t' = true := fun j t h1 h2 => by
      by_cases e' : i = j
      · subst e'; exact ⟨s, e, hs⟩
      · rw [List.getElem?_set_ne e'] at h1; exact ⟨t, h1, h2⟩
    obtain ⟨t1, q1, q2⟩ := go j s1 h1 h3
    obtain ⟨t2, q3, q4⟩ := go k s2 h2 h4
    exact r.own j k b t1 t2 hjk q1 q3 q2 q4 h5 h6
theorem ExtS.mut {a : Addr} {o : HO} (ha : a ∈ ω) : ExtS ι ω H ι ω (upd H a o) :=
  ⟨List.prefix_rfl, fun b u h _ n => by rw [upd_ne (fun z => by subst z; exact n ha)]; exact h, fun _ h n => absurd h n, fun _ h n => absurd h n, fun b h => by
    unfold L2.upd; split
    · simp
    · exact h⟩
theorem Rel.mutL (r : Rel G F ι ω ρ S σ H) {i : Nat} {a : Addr} {ds ds' : List D} {xs' : List V} (e : ρ[i]? = some (.own ds)) (ea : σ[i]? = some (some (.ref a))) (ha : a ∈ ω) (ra : RAll G.K G.ca ι (F.B0 ++ ω) H xs' ds') : Rel G F ι ω (ρ.set i (.own ds')) S σ (upd H a (.lst xs')) :=
  r.mut e rfl ea ha (.own ha upd_same (ra.per (Per.upd (.inr (List.mem_append_right _ ha))))) rfl
theorem RS.set {K : PySem.W.Frag} {ca : Nat → Addr} {B : List Addr} {k : Nat} {a : Addr} {o : HO} {c : Ce} (r : RS K ca ι B H S) (nd : ι.Nodup) (e : ι[k]? = some a) (hc : RC K ca ι B (upd H a o) a c) : RS K ca ι B (upd H a o) (S.set k c) := by
  have ha : a ∈ ι := List.mem_of_getElem? e
  have pp : Per ι B H ι B (L2.upd H a o) := Per.upd (.inl ha)
  refine ⟨by rw [List.length_set]; exact r.len, fun j b c' h1 h2 => ?_⟩
  by_cases ej : k = j
  · subst ej
    rw [e] at h1; cases h1
    have hk : k < S.length := by rw [← r.len]; exact (List.getElem?_eq_some_iff.mp e).1
    rw [List.getElem?_set_self hk] at h2; cases h2
    exact hc
  · rw [List.getElem?_set_ne ej] at h2
    refine (r.at' j b c' h1 h2).per (upd_ne fun z => ej ?_) pp
    subst z
    obtain ⟨l1, e1⟩ := List.getElem?_eq_some_iff.mp e
    obtain ⟨l2, e2⟩ := List.getElem?_eq_some_iff.mp h1
    have pw := List.pairwise_iff_getElem.mp nd
    rcases Nat.lt_trichotomy k j with z | z | z
    · exact absurd (e1.trans e2.symm) (pw k j l1 l2 z)
    · exact z
    · exact absurd (e2.trans e1.symm) (pw j k l2 l1 z)
theorem Ext.cel {a : Addr} {o : HO} (ha : a ∈ ι) : Ext ι H ι (upd H a o) :=
  ⟨List.prefix_rfl, fun b u h n => by rw [upd_ne (fun z => by subst z; exact n ha)]; exact h, fun _ h n => absurd h n, fun b h => by
    unfold L2.upd; split
    · simp
    · exact h⟩
theorem Rel.cel (r : Rel G F ι ω ρ S σ H) {k : Nat} {a : Addr} {ds' : List D} {xs' : List V} (e : ι[k]? = some a) (ra : RAll G.K G.ca ι (F.B0 ++ ω) H xs' ds') : Rel G F ι ω ρ (S.set k (.lst ds')) σ (upd H a (.lst xs')) := by
  have ha : a ∈ ι := List.mem_of_getElem? e
  exact r.ex (Ext.cel ha) r.nd (r.sto.set r.nd e (.lst upd_same (ra.per (Per.upd (.inl ha)))))
/-- the list in slot i becomes ds' -/
def putL (i : Nat) (ρ : Ev) (S : Sto) (f : List D → Option (List D)) : RSt := match ρ[i]? with
  | some (.own ds) => (match f ds with
    | some es => .nx (ρ.set i (.own es)) S
    | none => .bad)
  | some (.val (.cel k)) => (match S[k]? with
    | some (.lst ds) => (match f ds with
      | some es => .nx ρ (S.set k (.lst es))
      | none => .bad)
    | _ => .bad)
  | _ => .bad
/-- the list in slot i, and how it may be changed -/
theorem put_ok {i : Nat} {f : List D → Option (List D)} (rel : Rel G F ι ω ρ S σ H) (h : PostS G E F Dd ι ω H (putL i ρ S f)) : ∃ a xs ds es, σ[i]? = some (some (.ref a)) ∧ H a = some (.lst xs) ∧ RAll G.K G.ca ι (F.B0 ++ ω) H xs ds ∧ f ds = some es ∧
    ∀ ys, RAll G.K G.ca ι (F.B0 ++ ω) H ys es → Dd.nx σ (upd H a (.lst ys)) := by
  unfold putL at h
  split at h
  · rename_i ds e
    obtain ⟨a, xs, e1, ha, e2, ra⟩ := slot_own rel e
    split at h
    · rename_i es ef
      exact ⟨a, xs, ds, es, e1, e2, ra, ef, fun ys ry => h ι ω σ _ (ExtS.mut ha) (rel.mutL e e1 ha ry)⟩
    · exact h.elim
  · rename_i k e
    obtain ⟨v, e1, rv⟩ := slot_val rel e
    cases rv with
    | @cel a k hk =>
      split at h
      · rename_i ds es
        obtain ⟨xs, e2, ra⟩ := cel_at rel.sto hk es
        split at h
        · rename_i es' ef
          exact ⟨a, xs, ds, es', e1, e2, ra, ef, fun ys ry => h ι ω σ _ (Ext.cel (List.mem_of_getElem? hk)).s (rel.cel hk ry)⟩
        · exact h.elim
      · exact h.elim
  · exact h.elim
def sApp (i : Nat) (fe : FE) : FS := fun ρ S => eS (fe ρ S) ρ fun d f S1 => if f.nop = true then putL i ρ S1 (fun ds => if ds.length < lim then some (ds ++ [d]) else none) else .bad
/-- slot i holds a list -/
def hasL (i : Nat) (ρ : Ev) (S : Sto) : Bool := match ρ[i]? with
  | some (.own _) => true
  | some (.val (.cel k)) => (match S[k]? with | some (.lst _) => true | _ => false)
  | _ => false
theorem has_ok {i : Nat} (rel : Rel G F ι ω ρ S σ H) (h : hasL i ρ S = true) : ∃ a xs, σ[i]? = some (some (.ref a)) ∧ H a = some (.lst xs) := by
  unfold hasL at h
  split at h
  · rename_i ds e
    obtain ⟨a, xs, e1, ha, e2, ra⟩ := slot_own rel e
    exact ⟨a, xs, e1, e2⟩
  · rename_i k e
    obtain ⟨v, e1, rv⟩ := slot_val rel e
    cases rv with
    | @cel a k hk =>
      split at h
      · rename_i ds es
        obtain ⟨xs, e2, ra⟩ := cel_at rel.sto hk es
        exact ⟨a, xs, e1, e2⟩
      · cases h
  · cases h
/-- ahead of a change the slot is looked at -/
def chk (i : Nat) (f : FS) : FS := fun ρ S => if hasL i ρ S = true then f ρ S else .bad
theorem ss_app {i : Nat} {te : TE} {fe : FE} (he : SE G E te fe) : SS G E (tDrop (tBM G.K "list" uAppend (uVar i) (tCons te tNil))) (chk i (sApp i fe)) := by
  intro F D ι ω ρ S σ H rel h
  unfold chk at h
  split at h
  · rename_i hh
    obtain ⟨a, xs, e1, e2⟩ := has_ok rel hh
    show uVar i σ H fun x H1 => tyV G.K "list" x H1 ∧ tCons te tNil σ H1 fun xs H2 => uAppend x xs H2 fun _ H3 => D.nx σ H3
    unfold uVar
    rw [e1]
    refine ⟨.inl ⟨rfl, xs, .inl (.inl e2)⟩, ?_⟩
    refine he.bindS rel h fun d f S1 ι1 v H1 x1 r1 rf h1 => ?_
    split at h1
    · rename_i hf
      obtain ⟨a', xs', ds, es, q1, q2, q3, q4, q5⟩ := put_ok r1 h1
      rw [e1] at q1; cases q1
      split at q4
      · rename_i hl
        cases q4
        exact oK_of (mutL_of q2) ⟨by rw [q3.len]; exact lim_lt hl, q5 _ (q3.app (.cons (rf.rv (by intro z; subst z; cases hf)) .nil))⟩
      · cases q4
    · exact h1.elim
  · exact h.elim
def sSetI (i : Nat) (fi fe : FE) : FS := fun ρ S => eS (fe ρ S) ρ fun d f S1 => if f.nop = true then (if hasL i ρ S1 = true then eS (fi ρ S1) ρ fun e _ S2 => (match e with
  | .int k => putL i ρ S2 (fun ds => (ixN ds.length k).map fun j => ds.set j d)
  | _ => .bad) else .bad) else .bad
theorem ss_setI {i : Nat} {te ti : TE} {fe fi : FE} (he : SE G E te fe) (hi : SE G E ti fi) : SS G E (tAsg te (gSub (uVar i) ti uSetL)) (sSetI i fi fe) := by
  intro F D ι ω ρ S σ H rel h
  refine he.bindS rel h fun d f S1 ι1 v H1 x1 r1 rf h1 => ?_
  split at h1
  · rename_i hf
    split at h1
    · rename_i hh
      obtain ⟨a, xs, e1, e2⟩ := has_ok r1 hh
      show uVar i σ H1 _
      unfold uVar
      rw [e1]
      refine hi.bindS r1 h1 fun e f2 S2 ι2 w H2 x2 r2 rf2 h2 => ?_
      split at h2
      · rename_i k
        rw [rf2.rt.sInt]
        obtain ⟨a', xs', ds, es, q1, q2, q3, q4, q5⟩ := put_ok r2 h2
        rw [e1] at q1; cases q1
        rw [Option.map_eq_some_iff] at q4
        obtain ⟨j, q6, rfl⟩ := q4
        exact oK_of (mutL_of q2) (oK_of (by rw [q3.len]; exact q6) (q5 _ (q3.set j ((rf.rv (by intro z; subst z; cases hf)).ex x2))))
      · exact h2.elim
    · exact h1.elim
  · exact h1.elim
def frz (i : Nat) (ρ : Ev) : Ev := match ρ[i]? with
  | some (.own ds) => ρ.set i (.val (.lst ds))
  | _ => ρ
def sFrz (i : Nat) (f : FS) : FS := fun ρ S => f (frz i ρ) S
theorem Rel.less (r : Rel G F ι ω ρ S σ H) {i : Nat} {a : Addr} {s : Sl} {d : D} (e : ρ[i]? = some s) (hs : isOwn s = true) (ea : σ[i]? = some (some (.ref a))) (rv : RV G.K G.ca ι (F.B0 ++ ω.filter (· ≠ a)) H (.ref a) d) :
    Rel G F ι (ω.filter (· ≠ a)) (ρ.set i (.val d)) S σ H := by
  have sub : ∀ b ∈ ω.filter (· ≠ a), b ∈ ω := fun b hb => (List.mem_filter.mp hb).1
  have subB : ∀ b ∈ F.B0 ++ ω.filter (· ≠ a), b ∈ F.B0 ++ ω := fun b hb => by
    rcases List.mem_append.mp hb with z | z
    · exact List.mem_append_left _ z
    · exact List.mem_append_right _ (sub b z)
  have pp : Per ι (F.B0 ++ ω) H ι (F.B0 ++ ω.filter (· ≠ a)) H := Per.less subB
  have hi : i < ρ.length := (List.getElem?_eq_some_iff.mp e).1
  refine ⟨r.pre, r.old, r.dom, r.fri, fun b hb => r.frw b (sub b hb), r.b0, r.nd, fun b hb => r.dj b (sub b hb), fun b hb => r.dw b (sub b hb), r.sto.less subB, by rw [List.length_set]; exact r.len, fun j t o' h1 h2 => ?_, fun j k b s1 s2 hjk h1 h2 h3 h4 h5 h6 => ?_⟩
  · by_cases e' : i = j
    · subst e'
      rw [List.getElem?_set_self hi] at h1
      rw [ea] at h2
      cases h1; cases h2
      exact .val rv
    · rw [List.getElem?_set_ne e'] at h1
      have q := r.env j t o' h1 h2
      have ne : isOwn t = true → ∀ b, o' = some (.ref b) → b ≠ a := fun ht b hb z => by
        subst z; subst hb
        exact r.own i j _ s t e' e h1 hs ht ea h2
      cases q with
      | no => exact .no
      | val h => exact .val (h.per pp)
      | own q1 q2 q3 => exact .own (List.mem_filter.mpr ⟨q1, by simpa using ne rfl _ rfl⟩) q2 (q3.per pp)
      | oob q1 q0 q2 q3 => exact .oob (List.mem_filter.mpr ⟨q1, by simpa using ne rfl _ rfl⟩) q0 q2 (q3.per pp)
      | exn q1 q2 q3 q4 q5 => exact .exn q1 q2 (q3.less subB) q4 (q5.per pp)
  · have go : ∀ (j : Nat) (t : Sl), (ρ.set i (.val d))[j]? = some t → isOwn t = true → ρ[j]? = some t := fun j t h1 h2 => by
      by_cases e' : i = j
      · subst e'
        rw [List.getElem?_set_self hi] at h1; cases h1; cases h2
      · rw [List.getElem?_set_ne e'] at h1; exact h1
    exact r.own j k b s1 s2 hjk (go j s1 h1 h3) (go k s2 h2 h4) h3 h4 h5 h6
def fAdo (fe : FE) : FE := fun ρ S => bE (fe ρ S) fun d f S1 => (match d, f with
  | .lst ds, .fs => .ok (.cel S1.length) .tr (S1 ++ [.lst ds])
  | .lst _, _ => .bad
  | d, f => .ok d f S1)
theorem rs_grow {K : PySem.W.Frag} {ca : Nat → Addr} {B : List Addr} {a : Addr} {c : Ce} (r : RS K ca ι (a :: B) H S) (hc : RC K ca (ι ++ [a]) B H a c) : RS K ca (ι ++ [a]) B H (S ++ [c]) := by
  have pp : Per ι (a :: B) H (ι ++ [a]) B H := ⟨fun b o h1 h2 h3 => by
    simp only [List.mem_cons, not_or] at h3
    exact ⟨h1, by simp only [List.mem_append, List.mem_singleton, not_or]; exact ⟨h2, h3.1⟩, h3.2⟩, fun k b h => by
      rw [List.getElem?_append_left (List.getElem?_eq_some_iff.mp h).1]; exact h⟩
  refine ⟨by rw [List.length_append, List.length_append, r.len]; rfl, fun k b c' h1 h2 => ?_⟩
  by_cases hk : k < ι.length
  · rw [List.getElem?_append_left hk] at h1
    rw [List.getElem?_append_left (by rw [← r.len]; exact hk)] at h2
    exact (r.at' k b c' h1 h2).per rfl pp
  · rw [List.getElem?_append_right (by omega)] at h1
    rw [List.getElem?_append_right (by rw [← r.len]; omega)] at h2
    have e0 : k - ι.length = 0 := by
      by_cases z : k - ι.length = 0
      · exact z
      · rw [List.getElem?_eq_none (by simp; omega)] at h1; cases h1
    rw [e0] at h1
    rw [show k - S.length = 0 by rw [← r.len]; exact e0] at h2
    cases h1; cases h2
    exact hc
theorem se_ado {te : TE} {fe : FE} (he : SE G E te fe) : SE G E te (fAdo fe) := by
  intro F ι ω ρ S σ H Q rel h
  refine he F ι ω ρ S σ H Q rel ?_
  unfold fAdo at h
  cases e : fe ρ S with
  | ok d f S1 =>
    rw [e] at h
    dsimp only [bE] at h
    split at h
    · intro ι1 v H1 e1 r1 rf
      have rf : Fs _ _ _ _ _ _ _ _ _ := rf
      cases rf with
      | @l a xs ds h1 h2 h3 h4 h5 h6 =>
        have pp : Per ι1 (a :: (F.B0 ++ ω)) H1 (ι1 ++ [a]) (F.B0 ++ ω) H1 := ⟨fun b o h1 h2 h3 => by
          simp only [List.mem_cons, not_or] at h3
          exact ⟨h1, by simp only [List.mem_append, List.mem_singleton, not_or]; exact ⟨h2, h3.1⟩, h3.2⟩, fun k b h => by
            rw [List.getElem?_append_left (List.getElem?_eq_some_iff.mp h).1]; exact h⟩
        have x2 : Ext ι H (ι1 ++ [a]) H1 := ⟨e1.pre.trans (List.prefix_append _ _), e1.keep, fun b hb n => by
          rcases List.mem_append.mp hb with z | z
          · exact e1.new b z n
          · rw [List.mem_singleton.mp z]; exact h3, e1.dom⟩
        refine h (ι1 ++ [a]) (.ref a) H1 x2 (rel.ex x2 ?_ (rs_grow h6 (.lst h4 (h5.per pp)))) (.cel ?_)
        · rw [List.nodup_append]
          refine ⟨r1.nd, by simp, fun b hb c hc => ?_⟩
          rw [List.mem_singleton.mp hc]
          intro z; subst z; exact h1 hb
        · rw [List.getElem?_append_right (by rw [h6.len]; exact Nat.le_refl _), h6.len]; simp
    · exact h.elim
    · exact h
  | xc c' fs S1 => rw [e] at h; exact h
  | bad => rw [e] at h; exact h
def sRaise (c : Nat) (f : Str) (fa : FA) : FS := fun ρ S => match fa ρ S with
  | .ok [d] true S1 => .xc c [(f, d)] ρ S1
  | .xc c' fs S1 => .xc c' fs ρ S1
  | _ => .bad
def sRaise0 (c : Nat) : FS := fun ρ S => .xc c [] ρ S
def isExn : Sl → Bool
  | .exn _ _ => true
  | _ => false
def noExn (ρ : Ev) : Bool := ρ.all fun s => !isExn s
theorem Rel.gm {G' : Gm} (r : Rel G F ι ω ρ S σ H) (hn : noExn ρ = true) (hK : G'.K = G.K) (hc : G'.ca = G.ca) (hm : G'.me = G.me) : Rel G' F ι ω ρ S σ H := by
  obtain ⟨K, ca, x, me⟩ := G
  obtain ⟨K', ca', x', me'⟩ := G'
  cases hK; cases hc; cases hm
  refine ⟨r.pre, r.old, r.dom, r.fri, r.frw, r.b0, r.nd, r.dj, r.dw, r.sto, r.len, fun i s o h1 h2 => ?_, r.own⟩
  have q := r.env i s o h1 h2
  have ns := List.all_eq_true.mp hn s (List.mem_of_getElem? h1)
  cases q with
  | no => exact .no
  | val h => exact .val h
  | own q1 q2 q3 => exact .own q1 q2 q3
  | oob q1 q0 q2 q3 => exact .oob q1 q0 q2 q3
  | exn => cases ns
/-- the clauses -/
def hand (em : Nat → Nat → Option Bool) (c : Nat) (fs : List (Str × D)) (ρ : Ev) (S : Sto) : List (Nat × Option Nat × FS) → RSt
  | [] => .xc c fs ρ S
  | (h, some i, f) :: l => (match em c h with
    | some true => if noExn ρ = true then (match f (ρ.set i (.exn c fs)) S with
      | .nx ρ' S' => if noExn (ρ'.set i .no) = true then .nx (ρ'.set i .no) S' else .bad
      | .bk ρ' S' => if noExn (ρ'.set i .no) = true then .bk (ρ'.set i .no) S' else .bad
      | .ct ρ' S' => if noExn (ρ'.set i .no) = true then .ct (ρ'.set i .no) S' else .bad
      | .rt d fl S' => .rt d fl S'
      | _ => .bad) else .bad
    | some false => hand em c fs ρ S l
    | none => .bad)
  | (h, none, f) :: l => (match em c h with
    | some true => (match f ρ S with
      | .nx ρ' S' => .nx ρ' S'
      | .bk ρ' S' => .bk ρ' S'
      | .ct ρ' S' => .ct ρ' S'
      | .rt d fl S' => .rt d fl S'
      | _ => .bad)
    | some false => hand em c fs ρ S l
    | none => .bad)
def sTry (em : Nat → Nat → Option Bool) (fb : FS) (l : List (Nat × Option Nat × FS)) : FS := fun ρ S => match fb ρ S with
  | .xc c fs ρ' S' => hand em c fs ρ' S' l
  | r => r
theorem Rel.exn {a : Addr} {dd : Option Addr} {c i : Nat} {fv : List (Str × V)} {fs : List (Str × D)} (r : Rel G F ι ω ρ S σ H) (hn : noExn ρ = true) (n1 : NI dd ι) (n2 : NI dd (F.B0 ++ ω)) (h1 : XD H dd fv) (h2 : RFs G.K G.ca ι (F.B0 ++ ω) H fv fs) :
    Rel ⟨G.K, G.ca, some (a, dd, c), G.me⟩ F ι ω (ρ.set i (.exn c fs)) S (σ.set i (some (.ref a))) H := by
  have r' : Rel ⟨G.K, G.ca, some (a, dd, c), G.me⟩ F ι ω ρ S σ H := r.gm hn rfl rfl rfl
  refine { r' with len := by rw [List.length_set, List.length_set]; exact r.len, env := fun j s o q1 q2 => ?_, own := fun j k b s s' hjk q1 q2 q3 q4 q5 q6 => ?_ }
  · by_cases e : i = j
    · subst e
      have hi : i < ρ.length := by
        have := (List.getElem?_eq_some_iff.mp q1).1
        rwa [List.length_set] at this
      rw [List.getElem?_set_self hi] at q1
      rw [List.getElem?_set_self (by rw [← r.len]; exact hi)] at q2
      cases q1; cases q2
      exact .exn rfl n1 n2 h1 h2
    · rw [List.getElem?_set_ne e] at q1 q2
      exact r'.env j s o q1 q2
  · by_cases e : i = j
    · subst e
      have hi : i < ρ.length := by
        have := (List.getElem?_eq_some_iff.mp q1).1
        rwa [List.length_set] at this
      rw [List.getElem?_set_self hi] at q1
      cases q1; cases q3
    · by_cases e' : i = k
      · subst e'
        have hi : i < ρ.length := by
          have := (List.getElem?_eq_some_iff.mp q2).1
          rwa [List.length_set] at this
        rw [List.getElem?_set_self hi] at q2
        cases q2; cases q4
      · rw [List.getElem?_set_ne e] at q1 q5
        rw [List.getElem?_set_ne e'] at q2 q6
        exact r.own j k b s s' hjk q1 q2 q3 q4 q5 q6
def fXf (xf : Nat → Str → Bool) (i : Nat) (f : Str) : FE := fun ρ S => match ρ[i]? with
  | some (.exn c fs) => if xf c f = true then (match fs.lookup f with
    | some d => .ok d .tr S
    | none => .bad) else .bad
  | _ => .bad
end
def runF (n m : Nat) (b : FS) : FF := fun ds S => if ds.length = m then (match b (ds.map .val ++ List.replicate (n - m) .no) S with
  | .nx _ S' => .ok .non .tr S'
  | .rt d f S' => .ok d f S'
  | .xc c fs _ S' => .xc c fs S'
  | _ => .bad) else .bad
section
variable {K : PySem.W.Frag} {ca : Nat → Addr} {H : Hp} {Q : VK} {E : XK} {vs : List V}
theorem start_rel {ι B : List Addr} {S : Sto} {ds : List D} {N : List Str} (h1 : ι.Nodup) (h2 : ∀ b ∈ B, H b ≠ none ∧ b ∉ ι) (h3 : RS K ca ι B H S) (h4 : RAll K ca ι B H vs ds) :
    Rel ⟨K, ca, none, none⟩ ⟨H, ι, B⟩ ι [] (ds.map .val ++ List.replicate (N.length - ds.length) .no) S (L2.start N vs) H := by
  refine ⟨List.prefix_rfl, fun _ _ h _ => h, fun _ h => h, fun _ h n => absurd h n, fun _ h => (nomatch h), h2, h1, fun _ h => (nomatch h), fun _ h => (nomatch h), ?_, ?_, fun i s o e1 e2 => ?_, fun i j a s s' hij e1 e2 e3 => ?_⟩
  · rw [List.append_nil]; exact h3
  · unfold L2.start; rw [List.length_append, List.length_append, List.length_map, List.length_map, List.length_replicate, List.length_replicate, h4.len]
  · unfold L2.start at e2
    rw [List.append_nil]
    by_cases hi : i < ds.length
    · rw [List.getElem?_append_left (by rw [List.length_map]; exact hi), List.getElem?_map, List.getElem?_eq_getElem hi] at e1
      cases e1
      obtain ⟨v, q1, q2⟩ := h4.at i (List.getElem?_eq_getElem hi)
      rw [List.getElem?_append_left (by rw [List.length_map, h4.len]; exact hi), List.getElem?_map, q1] at e2
      cases e2
      exact .val q2
    · rw [List.getElem?_append_right (by rw [List.length_map]; omega), List.getElem?_replicate] at e1
      split at e1
      · cases e1; exact .no
      · cases e1
  · exfalso
    by_cases hi : i < ds.length
    · rw [List.getElem?_append_left (by rw [List.length_map]; exact hi), List.getElem?_map, List.getElem?_eq_getElem hi] at e1
      cases e1; cases e3
    · rw [List.getElem?_append_right (by rw [List.length_map]; omega), List.getElem?_replicate] at e1
      split at e1
      · cases e1; cases e3
      · cases e1
theorem run_ok {N P : List Str} {t : TS} {b : FS} (hb : SS ⟨K, ca, none, none⟩ (fun cls d _ H => E cls d H) t b) (h : SpF K ca (runF N.length P.length b) vs H Q E) : t { nx := fun _ H' => Q .non H', rt := Q } (L2.start N vs) H := by
  obtain ⟨ι, B, S, ds, h1, h2, h3, h4, h5⟩ := h
  unfold runF at h5
  split at h5
  · rename_i el
    refine hb ⟨H, ι, B⟩ _ ι [] _ S _ H (start_rel h1 h2 h3 h4) ?_
    rw [el]
    cases e : b (ds.map .val ++ List.replicate (N.length - P.length) .no) S with
    | nx ρ' S' =>
      rw [e] at h5
      exact fun ι' ω' σ' H' x r => h5 ι' .non H' r.ext0 r.nd (r.sto.less fun a z => List.mem_append_left _ z) .non
    | rt d f S' => rw [e] at h5; exact h5
    | xc c fs ρ' S' =>
      rw [e] at h5
      exact fun ι' ω' σ' dd fv H' x r n1 n2 g1 g2 => h5 ι' dd fv H' r.ext0 r.nd (r.sto.less fun a z => List.mem_append_left _ z) n1 (n2.less fun a z => List.mem_append_left _ z) g1 (g2.per (Per.less fun a z => List.mem_append_left _ z))
    | bk => rw [e] at h5; exact h5.elim
    | ct => rw [e] at h5; exact h5.elim
    | bad => rw [e] at h5; exact h5.elim
  · exact h5.elim
end
end
end Fx
namespace Fx
open PySem PySem.Spec PyProof.Rows L2 U
noncomputable section
abbrev Gd := Option (Nat × List D)
/-- the walked cell is as it was -/
def gOk : Gd → Sto → Prop
  | none, _ => True
  | some (k, ds), S => S[k]? = some (.lst ds)
structure Wk (K : PySem.W.Frag) (ca : Nat → Addr) (ι1 B1 : List Addr) (H1 : Hp) (J : It) (ds : List D) (g : Gd) : Prop where
  go : ∀ ι2 B2 H2 S2 i, Per ι1 B1 H1 ι2 B2 H2 → RS K ca ι2 B2 H2 S2 → (∀ a ∈ B2, H2 a ≠ none) → gOk g S2 → i < ds.length → J.go i H2
  stop : ∀ ι2 B2 H2 S2, Per ι1 B1 H1 ι2 B2 H2 → RS K ca ι2 B2 H2 S2 → (∀ a ∈ B2, H2 a ≠ none) → gOk g S2 → J.stop ds.length H2
  yld : ∀ ι2 B2 H2 S2 i x H', Per ι1 B1 H1 ι2 B2 H2 → RS K ca ι2 B2 H2 S2 → (∀ a ∈ B2, H2 a ≠ none) → gOk g S2 → i < ds.length → J.yld i H2 x H' → (∀ a o, H2 a = some o → H' a = some o) ∧ ∃ d, ds[i]? = some d ∧ RV K ca ι2 B2 H' x d
inductive RI where
  | ok (ds : List D) (g : Gd) (S : Sto) | xc (c : Nat) (fs : List (Str × D)) (S : Sto) | bad
abbrev FI := Ev → Sto → RI
def PostI (G : Gm) (E : WX) (F : Fr) (ι ω : List Addr) (ρ : Ev) (σ : L2.St) (H : Hp) (R : It → Hp → Prop) : RI → Prop
  | .ok ds g S' => ∀ ι' J H', Ext ι H ι' H' → Rel G F ι' ω ρ S' σ H' → Wk G.K G.ca ι' (F.B0 ++ ω) H' J ds g → R J H'
  | .xc c fs S' => ∀ ι' dd fv H', Ext ι H ι' H' → Rel G F ι' ω ρ S' σ H' → NI dd ι' → NI dd (F.B0 ++ ω) → XD H' dd fv → RFs G.K G.ca ι' (F.B0 ++ ω) H' fv fs → E (.ref (G.ca c)) dd σ H'
  | .bad => False
def SI (G : Gm) (E : WX) (t : TI) (f : FI) : Prop := ∀ F ι ω ρ S σ H R, Rel G F ι ω ρ S σ H → PostI G E F ι ω ρ σ H R (f ρ S) → t σ H R
/-- the items of a value that is walked -/
def charsD (z : Str) : List D := (sl z).map fun c => .str ⟨#[c]⟩
def itemsD (S : Sto) : D → Option (List D × Gd)
  | .str z => some (charsD z, none)
  | .lst ds => some (ds, none)
  | .tup ds => some (ds, none)
  | .cel k => (match S[k]? with | some (.lst ds) => some (ds, some (k, ds)) | _ => none)
  | _ => none
def fIter (fe : FE) : FI := fun ρ S => match fe ρ S with
  | .ok d f S1 => if f.nop = true then (match itemsD S1 d with
    | some (ds, g) => .ok ds g S1
    | none => .bad) else .bad
  | .xc c fs S1 => .xc c fs S1
  | .bad => .bad
theorem rall_chars {K : PySem.W.Frag} {ca : Nat → Addr} {ι B : List Addr} {H : Hp} (z : Str) : RAll K ca ι B H (chars z) (charsD z) := by
  unfold chars charsD
  show RAll K ca ι B H ((sl z).map _) _
  generalize sl z = l
  induction l with
  | nil => exact .nil
  | cons c l ih => exact .cons (.str _) ih
def JK (K : PySem.W.Frag) : Kd → It
  | .l a => Itl K a
  | .t a => Itt K a
  | .s z _ => Its z
/-- a value with its items, now and later -/
structure Sq (K : PySem.W.Frag) (ca : Nat → Addr) (ι1 B1 : List Addr) (H1 : Hp) (v : V) (k : Kd) (ds : List D) (g : Gd) : Prop where
  now : ∀ (R : It → Hp → Prop), R (JK K k) H1 → goIt K v H1 R
  later : ∀ ι2 B2 H2 S2, Per ι1 B1 H1 ι2 B2 H2 → RS K ca ι2 B2 H2 S2 → gOk g S2 → ∃ xs, k.sq K H2 xs ∧ RAll K ca ι2 B2 H2 xs ds
  kd : ∀ a, v = .ref a → kdOf K H1 a = some k
section
variable {G : Gm} {E : WX} {F : Fr} {Dd : Ends} {ι ω ι1 ω1 : List Addr} {ρ : Ev} {S S1 : Sto} {σ : L2.St} {H H1 : Hp}
theorem sq_of {v : V} {d : D} {ds : List D} {g : Gd} (rs : RS G.K G.ca ι (F.B0 ++ ω) H S) (h : RV G.K G.ca ι (F.B0 ++ ω) H v d) (e : itemsD S d = some (ds, g)) : ∃ k, Sq G.K G.ca ι (F.B0 ++ ω) H v k ds g := by
  unfold itemsD at e
  split at e
  · cases e
    cases h
    refine ⟨.s _ 0, fun R h => h, fun ι2 B2 H2 S2 p rs g => ⟨_, rfl, rall_chars _⟩, fun a z => by cases z⟩
  · cases e
    cases h with
    | @lst a xs ds h1 h2 h3 h4 =>
      refine ⟨.l a, fun R h => ?_, fun ι2 B2 H2 S2 p rs g => ⟨xs, .inl (.inl (p.at' _ _ h3 h1 h2).1), h4.per p⟩, fun b z => ?_⟩
      · show match rdL G.K H a with | some _ => _ | none => _
        rw [rdL_of h3]; exact h
      · cases z; unfold kdOf; rw [rdL_of h3]
  · cases e
    cases h with
    | @tup a xs ds h1 h2 h3 h4 =>
      have e1 : rdL G.K H a = none := by unfold rdL; rw [h3]
      refine ⟨.t a, fun R h => ?_, fun ι2 B2 H2 S2 p rs g => ⟨xs, .inl (.inl (p.at' _ _ h3 h1 h2).1), h4.per p⟩, fun b z => ?_⟩
      · show match rdL G.K H a with | some _ => _ | none => _
        rw [e1]
        show match rdT G.K H a with | some _ => _ | none => _
        rw [rdT_of h3]; exact h
      · cases z; unfold kdOf; rw [e1]; dsimp only; rw [rdT_of h3]
  · rename_i k
    split at e
    · rename_i ds' es
      cases e
      cases h with
      | @cel a k hk =>
        obtain ⟨xs, e2, ra⟩ := cel_at rs hk es
        refine ⟨.l a, fun R h => ?_, fun ι2 B2 H2 S2 p rs2 g => ?_, fun b z => ?_⟩
        · show match rdL G.K H a with | some _ => _ | none => _
          rw [rdL_of e2]; exact h
        · have g : S2[k]? = some (.lst ds) := g
          cases rs2.at' k a _ (p.ix _ _ hk) g with
          | lst q1 q2 => exact ⟨_, .inl (.inl q1), q2⟩
        · cases z; unfold kdOf; rw [rdL_of e2]
    · cases e
  · cases e
theorem Sq.wk {K : PySem.W.Frag} {ca : Nat → Addr} {B1 : List Addr} {v : V} {k : Kd} {ds : List D} {g : Gd} (q : Sq K ca ι1 B1 H1 v k ds g) : Wk K ca ι1 B1 H1 (JK K k) ds g := by
  have key : ∀ ι2 B2 H2 S2, Per ι1 B1 H1 ι2 B2 H2 → RS K ca ι2 B2 H2 S2 → gOk g S2 → ∃ xs, RAll K ca ι2 B2 H2 xs ds ∧ ∃ Gx : Hp → Prop, Gx H2 ∧ Walk (JK K k) xs.length Gx (YAt xs) := fun ι2 B2 H2 S2 p rs g => by
    obtain ⟨xs, h1, h2⟩ := q.later ι2 B2 H2 S2 p rs g
    refine ⟨xs, h2, ?_⟩
    cases k with
    | l a => exact ⟨_, h1, walk_list⟩
    | t a => exact ⟨_, h1, walk_tup⟩
    | s z t => exact ⟨fun _ => True, trivial, by rw [show xs = chars z from h1]; exact walk_chars⟩
  refine ⟨fun ι2 B2 H2 S2 i p rs hb g hi => ?_, fun ι2 B2 H2 S2 p rs hb g => ?_, fun ι2 B2 H2 S2 i x H' p rs hb g hi y => ?_⟩
  · obtain ⟨xs, h1, Gx, h2, w⟩ := key ι2 B2 H2 S2 p rs g
    exact w.goes i H2 (by rw [h1.len]; exact hi) h2
  · obtain ⟨xs, h1, Gx, h2, w⟩ := key ι2 B2 H2 S2 p rs g
    rw [← h1.len]; exact w.stops H2 h2
  · obtain ⟨xs, h1, Gx, h2, w⟩ := key ι2 B2 H2 S2 p rs g
    obtain ⟨rfl, h3⟩ := w.yields i H2 x H' (by rw [h1.len]; exact hi) h2 y
    exact ⟨fun _ _ z => z, h1.atV i h3⟩
theorem si_iter {te : TE} {fe : FE} (he : SE G E te fe) : SI G E (uIter G.K te) (fIter fe) := by
  intro F ι ω ρ S σ H R rel h
  refine he F ι ω ρ S σ H _ rel ?_
  unfold fIter at h
  cases e : fe ρ S with
  | ok d f S1 =>
    rw [e] at h
    intro ι1 v H1 e1 r1 rf
    dsimp only at h
    split at h
    · rename_i hf
      split at h
      · rename_i ds g ei
        obtain ⟨k, q⟩ := sq_of r1.sto (rf.rv (by intro z; subst z; cases hf)) ei
        exact q.now _ (h ι1 _ H1 e1 r1 q.wk)
      · exact h.elim
    · exact h.elim
  | xc c fs S1 => rw [e] at h; exact h
  | bad => rw [e] at h; exact h
def rngD (lo : Int) (n : Nat) : List D := (List.range n).map fun i => .int (lo + (i : Nat))
theorem wk_rng {K : PySem.W.Frag} {ca : Nat → Addr} {B1 : List Addr} (lo : Int) (n : Nat) : Wk K ca ι1 B1 H1 (Itr lo n) (rngD lo n) none := by
  have hl : (rngD lo n).length = n := by unfold rngD; rw [List.length_map, List.length_range]
  refine ⟨fun ι2 B2 H2 S2 i p rs hb g hi => ?_, fun ι2 B2 H2 S2 p rs hb g => ?_, fun ι2 B2 H2 S2 i x H' p rs hb g hi y => ?_⟩
  · rw [hl] at hi; exact hi
  · rw [hl]; exact Nat.le_refl n
  · rw [hl] at hi
    obtain ⟨rfl, rfl⟩ := (show H' = H2 ∧ x = .int (lo + (i : Nat)) from y)
    refine ⟨fun _ _ z => z, .int (lo + (i : Nat)), ?_, .int _⟩
    unfold rngD
    rw [List.getElem?_map, List.getElem?_range hi]; rfl
def fRng1 (fa : FA) : FI := fun ρ S => match fa ρ S with
  | .ok [.int j] _ S1 => if -(2 ^ 62) ≤ j ∧ j < 2 ^ 62 then .ok (rngD 0 j.toNat) none S1 else .bad
  | .xc c fs S1 => .xc c fs S1
  | _ => .bad
theorem si_rng1 {ta : TA} {fa : FA} (ha : SA G E ta fa) : SI G E (iRng1 ta) (fRng1 fa) := by
  intro F ι ω ρ S σ H R rel h
  refine ha F ι ω ρ S σ H _ rel ?_
  unfold fRng1 at h
  split at h
  · rename_i j t S1 e
    rw [e]
    intro ι1 vs H1 e1 r1 ra
    obtain ⟨v, rfl, q⟩ := pair1 ra.pair
    rw [q.sInt]
    split at h
    · rename_i hc
      exact ⟨j, rfl, hc.1, hc.2, h ι1 _ H1 e1 r1 (wk_rng 0 _)⟩
    · exact h.elim
  · rename_i e; rw [e]; exact h
  · exact h.elim
def enumD (ds : List D) : List D := ds.mapIdx fun i d => .tup [.int (i : Nat), d]
def fEnum (fa : FA) : FI := fun ρ S => match fa ρ S with
  | .ok [d] true S1 => (match d with
    | .str z => .ok (enumD (charsD z)) none S1
    | d => (match itemsD S1 d with
      | some (ds, g) => .ok (enumD ds) g S1
      | none => .bad))
  | .xc c fs S1 => .xc c fs S1
  | _ => .bad
theorem new_pair {K : PySem.W.Frag} {ca : Nat → Addr} {ι B : List Addr} {T : Addr} {xs : List V} {ds : List D} {S : Sto} (rs : RS K ca ι B H S) (hb : ∀ a ∈ B, H a ≠ none) (hT : H T = none) (ra : RAll K ca ι B H xs ds) : RV K ca ι B (upd H T (.tup xs)) (.ref T) (.tup ds) :=
  .tup (fun z => rs.here T z hT) (fun z => hb T z hT) upd_same (ra.per (Per.new hT))
theorem wk_enum {K : PySem.W.Frag} {ca : Nat → Addr} {B1 : List Addr} {k : Kd} {ds : List D} {g : Gd} (later : ∀ ι2 B2 H2 S2, Per ι1 B1 H1 ι2 B2 H2 → RS K ca ι2 B2 H2 S2 → gOk g S2 → ∃ xs, k.sq K H2 xs ∧ RAll K ca ι2 B2 H2 xs ds) : Wk K ca ι1 B1 H1 (JEnum (JKd K k)) (enumD ds) g := by
  have hl : (enumD ds).length = ds.length := by unfold enumD; simp
  refine ⟨fun ι2 B2 H2 S2 i p rs hb g hi => ?_, fun ι2 B2 H2 S2 p rs hb g => ?_, fun ι2 B2 H2 S2 i x H' p rs hb g hi y => ?_⟩
  · obtain ⟨xs, h1, h2⟩ := later ι2 B2 H2 S2 p rs g
    exact walk_enumK.goes i H2 (by rw [h2.len]; omega) h1
  · obtain ⟨xs, h1, h2⟩ := later ι2 B2 H2 S2 p rs g
    rw [hl, ← h2.len]; exact walk_enumK.stops H2 h1
  · obtain ⟨xs, h1, h2⟩ := later ι2 B2 H2 S2 p rs g
    obtain ⟨T, a, b, rfl, hT, rfl, e1, e2⟩ := walk_enumK.yields i H2 x H' (by rw [h2.len]; omega) h1 y
    cases e1
    obtain ⟨d, e3, rd⟩ := h2.atV i e2
    refine ⟨fun c o z => by rw [upd_ne (ne_of_none z hT)]; exact z, .tup [.int (i : Nat), d], ?_, new_pair rs hb hT (.cons (.int _) (.cons rd .nil))⟩
    unfold enumD
    rw [List.getElem?_mapIdx, e3]; rfl
theorem si_enum {ta : TA} {fa : FA} (ha : SA G E ta fa) : SI G E (uEnum G.K ta) (fEnum fa) := by
  intro F ι ω ρ S σ H R rel h
  refine ha F ι ω ρ S σ H _ rel ?_
  unfold fEnum at h
  split at h
  · rename_i d S1 e
    rw [e]
    intro ι1 vs H1 e1 r1 ra
    have ra : RAll G.K G.ca ι1 (F.B0 ++ ω) H1 vs [d] := ra
    cases ra with
    | cons rv r2 =>
      cases r2
      split at h
      · cases rv
        exact h ι1 _ H1 e1 r1 (wk_enum fun ι2 B2 H2 S2 p rs g => ⟨_, rfl, rall_chars _⟩)
      · rename_i hn
        split at h
        · rename_i ds g ei
          obtain ⟨k, q⟩ := sq_of r1.sto rv ei
          have hv : ∃ a, ‹V› = .ref a := by
            cases rv <;> first | exact ⟨_, rfl⟩ | (exact absurd rfl (hn _)) | (cases ei; done)
          obtain ⟨a, rfl⟩ := hv
          exact oK_of (q.kd a rfl) (h ι1 _ H1 e1 r1 (wk_enum q.later))
        · exact h.elim
  · rename_i e; rw [e]; exact h
  · exact h.elim
open Classical in
def loopS (g : Gd) (set : FG) (body : FS) : List D → Ev → Sto → RSt
  | [], ρ, S => if gOk g S then .nx ρ S else .bad
  | d :: ds, ρ, S => if gOk g S then (match set d ρ S with
    | some ρ1 => (match body ρ1 S with
      | .nx ρ2 S2 => loopS g set body ds ρ2 S2
      | .ct ρ2 S2 => loopS g set body ds ρ2 S2
      | .bk ρ2 S2 => .nx ρ2 S2
      | r => r)
    | none => .bad) else .bad
def sFor (it : FI) (set : FG) (body : FS) : FS := fun ρ S => match it ρ S with
  | .ok ds g S1 => loopS g set body ds ρ S1
  | .xc c fs S1 => .xc c fs ρ S1
  | .bad => .bad
theorem ss_for {wi : TI} {fi : FI} {tg : TG} {fg : FG} {js : List Nat} {tb : TS} {fb : FS} (hi : SI G E wi fi) (hg : SG G tg js fg) (hb : SS G E tb fb) : SS G E (tFor wi tg tb) (sFor fi fg fb) := by
  intro F D ι ω ρ S σ H rel h
  refine hi F ι ω ρ S σ H _ rel ?_
  unfold sFor at h
  cases e : fi ρ S with
  | xc c fs S1 =>
    rw [e] at h
    exact fun ι' dd fv H' x rel' n1 n2 h1 h2 => h ι' ω σ dd fv H' x.s rel' n1 n2 h1 h2
  | bad => rw [e] at h; exact h
  | ok ds g S1 =>
    rw [e] at h
    intro ι1 J H1 e1 r1 wk
    refine ⟨fun i m σ' H' => m = ds.length - i ∧ i ≤ ds.length ∧ ∃ ι' ω' ρ' S', Rel G F ι' ω' ρ' S' σ' H' ∧ ExtS ι1 ω H1 ι' ω' H' ∧ PostS G E F D ι' ω' H' (loopS g fg fb (ds.drop i) ρ' S'),
      ⟨ds.length, by simp, Nat.zero_le _, ι1, ω, ρ, S1, r1, ExtS.refl, by rw [List.drop_zero]; exact PostS.ex h e1.s⟩, ?_⟩
    rintro i m σ' H' ⟨rfl, hle, ι', ω', ρ', S', r', x', p'⟩
    have pp := x'.per (B := F.B0)
    rcases Nat.lt_or_ge i ds.length with hlt | hge
    · rw [List.drop_eq_getElem_cons hlt] at p'
      unfold loopS at p'
      split at p'
      · rename_i gk
        refine .inr ⟨wk.go _ _ _ _ i pp r'.sto r'.bd gk hlt, fun σ2 H2 => ∃ ι2 ω2 ρ2 S2, Rel G F ι2 ω2 ρ2 S2 σ2 H2 ∧ ExtS ι1 ω H1 ι2 ω2 H2 ∧ PostS G E F D ι2 ω2 H2 (loopS g fg fb (ds.drop (i + 1)) ρ2 S2), fun σ2 H2 q => ⟨ds.length - (i + 1), by omega, rfl, hlt, q⟩, fun x H'' y => ?_⟩
        obtain ⟨gr, d, ed, rv⟩ := wk.yld _ _ _ _ i x H'' pp r'.sto r'.bd gk hlt y
        rw [List.getElem?_eq_getElem hlt] at ed
        cases ed
        have r2 := r'.gr gr
        have x2 : ExtS ι' ω' H' ι' ω' H'' := (Ext.gr gr).s
        refine hg F ι' ω' ρ' S' σ' H'' x _ _ r2 rv ?_
        split at p'
        · rename_i ρ1 eg
          try rw [eg]
          intro σ1 rel1 _
          refine hb F _ ι' ω' ρ1 S' σ1 H'' rel1 ?_
          have p2 := PostS.ex p' x2
          cases eb : fb ρ1 S' with
          | nx ρ2 S2 =>
            rw [eb] at p2
            exact fun ι2 ω2 σ2 H2 z rel2 => ⟨ι2, ω2, ρ2, S2, rel2, (x'.trans x2).trans z, PostS.ex p2 z⟩
          | ct ρ2 S2 =>
            rw [eb] at p2
            exact fun ι2 ω2 σ2 H2 z rel2 => ⟨ι2, ω2, ρ2, S2, rel2, (x'.trans x2).trans z, PostS.ex p2 z⟩
          | bk ρ2 S2 => rw [eb] at p2; exact p2
          | rt d fl S2 => rw [eb] at p2; exact p2
          | xc c fs ρ2 S2 => rw [eb] at p2; exact p2
          | bad => rw [eb] at p2; exact p2
        · exact p'.elim
      · exact p'.elim
    · obtain rfl : i = ds.length := by omega
      rw [List.drop_length] at p'
      unfold loopS at p'
      split at p'
      · rename_i gk
        exact .inl ⟨wk.stop _ _ _ _ pp r'.sto r'.bd gk, p' ι' ω' σ' H' ExtS.refl r'⟩
      · exact p'.elim
end
end
end Fx
namespace Fx
open PySem PySem.Spec PyProof.Rows L2 U
noncomputable section
section
variable {G : Gm} {E : WX} {F : Fr} {Dd : Ends} {ι ω ι1 ω1 : List Addr} {ρ : Ev} {S S1 : Sto} {σ : L2.St} {H H1 : Hp}
def wipeE (ρ : Ev) : List Nat → Ev
  | [] => ρ
  | v :: vs => (wipeE ρ vs).set v .no
theorem Rel.wipe (r : Rel G F ι ω ρ S σ H) : ∀ vs : List Nat, Rel G F ι ω (wipeE ρ vs) S (L2.wipe σ vs) H
  | [] => r
  | v :: vs => (r.wipe vs).drop v none
theorem wipe_idem (σ : L2.St) : ∀ vs : List Nat, L2.wipe (L2.wipe σ vs) vs = L2.wipe σ vs := by
  intro vs
  have key : ∀ us : List Nat, (∀ u ∈ us, u ∈ vs) → L2.wipe (L2.wipe σ us) vs = L2.wipe σ vs := by
    intro us
    induction us with
    | nil => intro _; rfl
    | cons u us ih =>
      intro h
      show L2.wipe ((L2.wipe σ us).set u none) vs = _
      rw [wipe_set (h u List.mem_cons_self), ih fun w hw => h w (List.mem_cons_of_mem _ hw)]
  exact key vs fun _ h => h
/-- one turn of a comprehension: what is held, what is in the store -/
abbrev StepC := D → List D → Sto → Option (List D × Sto)
open Classical in
def foldC (g : Gd) (step : StepC) : List D → List D → Sto → Option (List D × Sto)
  | [], acc, S => if gOk g S then some (acc, S) else none
  | d :: ds, acc, S => if gOk g S then (match step d acc S with
    | some (acc', S') => foldC g step ds acc' S'
    | none => none) else none
def step1 (set : FG) (tt te : FE) (ρ0 : Ev) : StepC := fun d acc S => match set d ρ0 S with
  | some ρ1 => (match tt ρ1 S with
    | .ok (.bl true) _ S1 => (match te ρ1 S1 with
      | .ok y f S2 => if (f.nop && decide (acc.length < lim)) = true then some (acc ++ [y], S2) else none
      | _ => none)
    | .ok (.bl false) _ S1 => some (acc, S1)
    | _ => none)
  | none => none
def fLcG (it : FI) (step : Ev → StepC) (vs : List Nat) : FE := fun ρ S => match it ρ S with
  | .ok ds g S1 => (match foldC g (step (wipeE ρ vs)) ds [] S1 with
    | some (acc, S2) => .ok (.lst acc) .fs S2
    | none => .bad)
  | .xc c fs S1 => .xc c fs S1
  | .bad => .bad
def fLc (it : FI) (set : FG) (tt te : FE) (vs : List Nat) : FE := fLcG it (step1 set tt te) vs
/-- what holds at a turn: the new list at Dn, behind what stood at (ι1, H1) -/
structure Ci (G : Gm) (F : Fr) (ω : List Addr) (Dn : Addr) (ι1 : List Addr) (H1 : Hp) (ρ0 : Ev) (σ0 : L2.St) (ι' : List Addr) (acc : List D) (S : Sto) (H : Hp) : Prop where
  rel : Rel G F ι' (Dn :: ω) ρ0 S σ0 H
  ext : Ext ι1 H1 ι' H
  at' : ∃ xs, H Dn = some (.lst xs) ∧ RAll G.K G.ca ι' (F.B0 ++ (Dn :: ω)) H xs acc
  fre : ∀ (i : Nat) (s : Sl), ρ0[i]? = some s → isOwn s = true → σ0[i]? ≠ some (some (.ref Dn))
theorem Rel.mutD (r : Rel G F ι ω ρ S σ H) {a : Addr} {o : HO} (ha : a ∈ ω) (hn : ∀ (i : Nat) (s : Sl), ρ[i]? = some s → isOwn s = true → σ[i]? ≠ some (some (.ref a))) : Rel G F ι ω ρ S σ (upd H a o) := by
  have pp : Per ι (F.B0 ++ ω) H ι (F.B0 ++ ω) (L2.upd H a o) := Per.upd (.inr (List.mem_append_right _ ha))
  refine ⟨r.pre, fun b u h n => ?_, fun b h => ?_, r.fri, r.frw, r.b0, r.nd, r.dj, fun b hb => ?_, r.sto.per (fun b hb => upd_ne fun z => r.dj a ha (by rw [← z]; exact hb)) pp, r.len, fun j t o' h1 h2 => ?_, r.own⟩
  · rw [upd_ne (fun z => by subst z; rw [r.frw _ ha] at h; cases h)]; exact r.old b u h n
  · unfold L2.upd; split
    · simp
    · exact r.dom b h
  · unfold L2.upd; split
    · simp
    · exact r.dw b hb
  · have q := r.env j t o' h1 h2
    have ne : isOwn t = true → ∀ b, o' = some (.ref b) → b ≠ a := fun ht b hb z => by
      subst z; subst hb
      exact hn j t h1 ht h2
    cases q with
    | no => exact .no
    | val h => exact .val (h.per pp)
    | own q1 q2 q3 => exact .own q1 (by rw [upd_ne (ne rfl _ rfl)]; exact q2) (q3.per pp)
    | oob q1 q0 q2 q3 => exact .oob q1 q0 (by rw [upd_ne (ne rfl _ rfl)]; exact q2) (q3.per pp)
    | exn q1 q2 q3 q4 q5 =>
      obtain ⟨g1, g2, g3⟩ := q4.per q2 q3 pp
      exact .exn q1 g2 g3 g1 (q5.per pp)
/-- a walk with what is held -/
theorem fold_ok {K : PySem.W.Frag} {ca : Nat → Addr} {B1 : List Addr} {J : It} {ds : List D} {g : Gd} (wk : Wk K ca ι1 B1 H1 J ds g) {step : StepC} {accF : List D} {SF : Sto} {Qd : Hp → Prop} (Body : V → Hp → (Hp → Prop) → Prop)
    (Pv : List D → Sto → Hp → Prop) (hP : ∀ acc S H, Pv acc S H → ∃ ι2 B2, Per ι1 B1 H1 ι2 B2 H ∧ RS K ca ι2 B2 H S ∧ ∀ a ∈ B2, H a ≠ none)
    (hs : ∀ (i : Nat) d acc acc' S S' H x H', Pv acc S H → gOk g S → i < ds.length → ds[i]? = some d → J.yld i H x H' → step d acc S = some (acc', S') → ∀ Nx : Hp → Prop, (∀ H2, Pv acc' S' H2 → Nx H2) → Body x H' Nx)
    {acc0 : List D} {S0 : Sto} {H0 : Hp} (h0 : Pv acc0 S0 H0) (hf : foldC g step ds acc0 S0 = some (accF, SF)) (hd : ∀ H, Pv accF SF H → Qd H) :
    ∃ W : Nat → Nat → Hp → Prop, (∃ m, W 0 m H0) ∧ ∀ i m H, W i m H → (J.stop i H ∧ Qd H) ∨ (J.go i H ∧ ∃ Nx : Hp → Prop, (∀ H', Nx H' → ∃ m', m' < m ∧ W (i + 1) m' H') ∧ ∀ x H', J.yld i H x H' → Body x H' Nx) := by
  refine ⟨fun i m H => m = ds.length - i ∧ i ≤ ds.length ∧ ∃ acc S, Pv acc S H ∧ foldC g step (ds.drop i) acc S = some (accF, SF), ⟨ds.length, by simp, Nat.zero_le _, acc0, S0, h0, by rw [List.drop_zero]; exact hf⟩, ?_⟩
  rintro i m H ⟨rfl, hle, acc, S, pv, hf⟩
  obtain ⟨ι2, B2, pp, rs, hb⟩ := hP acc S H pv
  rcases Nat.lt_or_ge i ds.length with hlt | hge
  · rw [List.drop_eq_getElem_cons hlt] at hf
    unfold foldC at hf
    split at hf
    · rename_i gk
      split at hf
      · rename_i acc' S' es
        refine .inr ⟨wk.go _ _ _ _ i pp rs hb gk hlt, fun H' => ∃ acc S, Pv acc S H' ∧ foldC g step (ds.drop (i + 1)) acc S = some (accF, SF), fun H' q => ⟨ds.length - (i + 1), by omega, rfl, hlt, q⟩, fun x H' y => ?_⟩
        exact hs i _ acc acc' S S' H x H' pv gk hlt (List.getElem?_eq_getElem hlt) y es _ fun H2 p2 => ⟨acc', S', p2, hf⟩
      · cases hf
    · cases hf
  · obtain rfl : i = ds.length := by omega
    rw [List.drop_length] at hf
    unfold foldC at hf
    split at hf
    · rename_i gk
      cases hf
      exact .inl ⟨wk.stop _ _ _ _ pp rs hb gk, hd H pv⟩
    · cases hf
theorem Ci.lat {Dn : Addr} {ρ0 : Ev} {σ0 : L2.St} {ι' : List Addr} {acc : List D} {ι0 : List Addr} {H0 : Hp} (c : Ci G F ω Dn ι0 H0 ρ0 σ0 ι' acc S H) (hD : H0 Dn = none) : Per ι0 (F.B0 ++ ω) H0 ι' (F.B0 ++ (Dn :: ω)) H := by
  refine ⟨fun a o h1 h2 h3 => ?_, fun _ _ h => ix_pre c.ext.pre h⟩
  rw [List.mem_append, not_or] at h3
  refine ⟨c.ext.keep a o h1 h2, c.ext.off h1 h2, fun z => ?_⟩
  rcases List.mem_append.mp z with z | z
  · exact h3.1 z
  · rcases List.mem_cons.mp z with z | z
    · subst z; rw [hD] at h1; cases h1
    · exact h3.2 z
/-- the new list gets an item -/
theorem Ci.push {Dn : Addr} {ρ0 : Ev} {σ0 : L2.St} {ι' ι2 : List Addr} {acc : List D} {ι0 : List Addr} {H0 H2 : Hp} {S2 : Sto} {y : V} {d : D} (c : Ci G F ω Dn ι0 H0 ρ0 σ0 ι' acc S H) (hD : H0 Dn = none) (x : Ext ι' H ι2 H2) (nd : ι2.Nodup) (rs : RS G.K G.ca ι2 (F.B0 ++ (Dn :: ω)) H2 S2)
    (rv : RV G.K G.ca ι2 (F.B0 ++ (Dn :: ω)) H2 y d) {xs : List V} (hx : H2 Dn = some (.lst xs)) (ra : RAll G.K G.ca ι2 (F.B0 ++ (Dn :: ω)) H2 xs acc) : Ci G F ω Dn ι0 H0 ρ0 σ0 ι2 (acc ++ [d]) S2 (upd H2 Dn (.lst (xs ++ [y]))) := by
  have hm : Dn ∈ Dn :: ω := List.mem_cons_self
  have r2 := c.rel.ex x nd rs
  have e2 := c.ext.trans x
  refine ⟨r2.mutD hm c.fre, ⟨e2.pre, fun a o h n => ?_, e2.new, fun a h => ?_⟩, ⟨_, upd_same, (ra.app (.cons rv .nil)).per (Per.upd (.inr (List.mem_append_right _ hm)))⟩, c.fre⟩
  · rw [upd_ne (fun z => by subst z; rw [hD] at h; cases h)]; exact e2.keep a o h n
  · unfold L2.upd; split
    · simp
    · exact e2.dom a h
theorem Ci.same {Dn : Addr} {ρ0 : Ev} {σ0 : L2.St} {ι' ι2 : List Addr} {acc : List D} {ι0 : List Addr} {H0 H2 : Hp} {S2 : Sto} (c : Ci G F ω Dn ι0 H0 ρ0 σ0 ι' acc S H) (x : Ext ι' H ι2 H2) (nd : ι2.Nodup) (rs : RS G.K G.ca ι2 (F.B0 ++ (Dn :: ω)) H2 S2) : Ci G F ω Dn ι0 H0 ρ0 σ0 ι2 acc S2 H2 := by
  obtain ⟨xs, h1, h2⟩ := c.at'
  have hD : Dn ∉ ι' := c.rel.dj Dn List.mem_cons_self
  exact ⟨c.rel.ex x nd rs, c.ext.trans x, ⟨xs, x.keep _ _ h1 hD, h2.ex x⟩, c.fre⟩
abbrev NoE : WX := fun _ _ _ _ => False
/-- one turn of a comprehension with one clause -/
theorem step1_ok {tg : TG} {fg : FG} {js : List Nat} {tt : TT} {ft : FE} {te : TE} {fe : FE} {vs : List Nat} (hg : SG G tg js fg) (ht : ST G NoE tt ft) (he : SE G NoE te fe) (hj : ∀ j ∈ js, j ∈ vs) {Dn : Addr} {ρ0 : Ev} {σ0 : L2.St} {ι' : List Addr} {acc acc' : List D} {ι0 : List Addr} {H0 H' : Hp} {S S' : Sto} {x : V} {d : D}
    (c : Ci G F ω Dn ι0 H0 ρ0 σ0 ι' acc S H) (hD : H0 Dn = none) (gr : ∀ a o, H a = some o → H' a = some o) (rv : RV G.K G.ca ι' (F.B0 ++ (Dn :: ω)) H' x d) (es : step1 fg ft fe ρ0 d acc S = some (acc', S')) (hw : L2.wipe σ0 vs = σ0)
    {Nx : Hp → Prop} (hn : ∀ ι2 H2, Ci G F ω Dn ι0 H0 ρ0 σ0 ι2 acc' S' H2 → Nx H2) :
    tg x σ0 H' fun σ2 H2 => L2.wipe σ2 vs = σ0 ∧ tt σ2 H2 fun b H3 => if b = true then te σ2 H3 fun y H4 => ∃ acc, H4 Dn = some (.lst acc) ∧ acc.length < sizeLine ∧ Nx (upd H4 Dn (.lst (acc ++ [y]))) else Nx H3 := by
  have c1 := c.same (Ext.gr gr) c.rel.nd (c.rel.sto.gr gr)
  refine hg F ι' (Dn :: ω) ρ0 S σ0 H' x d _ c1.rel rv ?_
  unfold step1 at es
  split at es
  · rename_i ρ1 eg
    try rw [eg]
    intro σ1 rel1 w1
    refine ⟨(w1.wp vs hj).trans hw, ?_⟩
    refine ht F ι' (Dn :: ω) ρ1 S σ1 H' _ rel1 ?_
    split at es
    · rename_i f1 S1 e1
      rw [e1]
      intro ι3 v3 H3 x3 r3 rf3
      rw [rf3.rt.sBl]
      dsimp only [kB]
      rw [if_pos rfl]
      refine he F ι3 (Dn :: ω) ρ1 S1 σ1 H3 _ r3 ?_
      split at es
      · rename_i y f2 S2 e2
        rw [e2]
        intro ι4 v4 H4 x4 r4 rf4
        split at es
        · rename_i hc
          rw [Bool.and_eq_true] at hc
          cases es
          obtain ⟨xs, g1, g2⟩ := c1.at'
          have hDi : Dn ∉ ι' := c1.rel.dj Dn List.mem_cons_self
          have x34 := x3.trans x4
          have k1 : H4 Dn = some (.lst xs) := x34.keep _ _ g1 hDi
          refine ⟨xs, k1, by rw [g2.len]; exact lim_lt (of_decide_eq_true hc.2), hn ι4 _ (c1.push hD x34 r4.nd r4.sto (rf4.rv (by intro z; subst z; exact absurd hc.1 (by decide))) k1 (g2.ex x34))⟩
        · cases es
      · cases es
    · rename_i f1 S1 e1
      cases es
      rw [e1]
      intro ι3 v3 H3 x3 r3 rf3
      rw [rf3.rt.sBl]
      dsimp only [kB]
      rw [if_neg Bool.false_ne_true]
      exact hn ι3 H3 (c1.same x3 r3.nd r3.sto)
    · cases es
  · cases es
/-- the start: the new list -/
theorem Ci.start {Dn : Addr} {vs : List Nat} (r1 : Rel G F ι1 ω ρ S σ H1) (hD : H1 Dn = none) : Ci G F ω Dn ι1 H1 (wipeE ρ vs) (L2.wipe σ vs) ι1 [] S (upd H1 Dn (.lst [])) := by
  have rw' := r1.wipe vs
  have noa : ∀ (i : Nat) (s : Sl), (wipeE ρ vs)[i]? = some s → isOwn s = true → (L2.wipe σ vs)[i]? ≠ some (some (.ref Dn)) := fun i s h1 h2 h3 => by
    cases rw'.env i s _ h1 h3 with
    | no => cases h2
    | val => cases h2
    | own q1 q2 q3 => rw [hD] at q2; cases q2
    | oob q1 q0 q2 q3 => rw [hD] at q2; cases q2
    | exn => cases h2
  have pp : Per ι1 (F.B0 ++ ω) H1 ι1 (F.B0 ++ (Dn :: ω)) (L2.upd H1 Dn (.lst [])) := ⟨fun a o h1 h2 h3 => by
    rw [List.mem_append, not_or] at h3
    refine ⟨by rw [upd_ne (ne_of_none h1 hD)]; exact h1, h2, fun z => ?_⟩
    rcases List.mem_append.mp z with z | z
    · exact h3.1 z
    · rcases List.mem_cons.mp z with z | z
      · exact ne_of_none h1 hD z
      · exact h3.2 z, fun _ _ h => h⟩
  have r2 := rw'.new (o := .lst []) hD
  refine ⟨⟨r2.pre, r2.old, r2.dom, r2.fri, fun b hb => ?_, r2.b0, r2.nd, fun b hb => ?_, fun b hb => ?_, r1.sto.per (fun a ha => upd_ne fun z => r1.sto.here a ha (by rw [z]; exact hD)) pp, r2.len, fun j s o h1 h2 => ?_, r2.own⟩, Ext.new1 hD, ⟨[], upd_same, .nil⟩, noa⟩
  · rcases List.mem_cons.mp hb with z | z
    · subst z; exact none_of r1.dom hD
    · exact r2.frw b z
  · rcases List.mem_cons.mp hb with z | z
    · subst z; exact r1.offi hD
    · exact r2.dj b z
  · rcases List.mem_cons.mp hb with z | z
    · subst z; exact nn upd_same
    · exact r2.dw b z
  · have q := rw'.env j s o h1 h2
    cases q with
    | no => exact .no
    | val h => exact .val (h.per pp)
    | own q1 q2 q3 => exact .own (List.mem_cons_of_mem _ q1) (by rw [upd_ne (ne_of_none q2 hD)]; exact q2) (q3.per pp)
    | oob q1 q0 q2 q3 => exact .oob (List.mem_cons_of_mem _ q1) q0 (by rw [upd_ne (ne_of_none q2 hD)]; exact q2) (q3.per pp)
    | exn q1 q2 q3 q4 q5 =>
      obtain ⟨g1, g2, g3⟩ := q4.per q2 q3 pp
      exact .exn q1 g2 g3 g1 (q5.per pp)
/-- the end: the list is handed on -/
theorem Ci.fin {Dn : Addr} {ρ0 : Ev} {σ0 : L2.St} {ι' : List Addr} {acc : List D} {Q : VK} {S2 : Sto} {Hs : Hp} {ιs : List Addr} (rel : Rel G F ιs ω ρ S σ Hs) (e1 : Ext ιs Hs ι1 H1) (hD : H1 Dn = none) (c : Ci G F ω Dn ι1 H1 ρ0 σ0 ι' acc S2 H) (h : PostE G E F ιs ω ρ σ Hs Q (.ok (.lst acc) .fs S2)) : Q (.ref Dn) H := by
  obtain ⟨xs, h1, h2⟩ := c.at'
  have x := e1.trans c.ext
  have hm : Dn ∈ Dn :: ω := List.mem_cons_self
  have sub : ∀ b ∈ F.B0 ++ ω, b ∈ F.B0 ++ (Dn :: ω) := fun b hb => by
    rcases List.mem_append.mp hb with z | z
    · exact List.mem_append_left _ z
    · exact List.mem_append_right _ (List.mem_cons_of_mem _ z)
  have sub1 : ∀ b ∈ Dn :: (F.B0 ++ ω), b ∈ F.B0 ++ (Dn :: ω) := fun b hb => by
    rcases List.mem_cons.mp hb with z | z
    · subst z; exact List.mem_append_right _ hm
    · exact sub b z
  refine h ι' (.ref Dn) H x (rel.ex x c.rel.nd (c.rel.sto.less sub)) (.l (c.rel.dj Dn hm) (fun z => ?_) (none_of e1.dom hD) h1 (h2.per (Per.less sub1)) (c.rel.sto.less sub1))
  exact absurd (none_of e1.dom hD) (rel.bd Dn z)
theorem se_lcG {wi : TI} {fi : FI} {step : Ev → StepC} {vs : List Nat} {t : TE} {Body : L2.St → Addr → V → Hp → (Hp → Prop) → Prop} (hi : SI G E wi fi)
    (ht : ∀ σ H Q, (wi σ H fun J H1 => ∀ D, H1 D = none → ∃ W : Nat → Nat → Hp → Prop, (∃ m, W 0 m (upd H1 D (.lst []))) ∧ ∀ i m H, W i m H → (J.stop i H ∧ Q (.ref D) H) ∨ (J.go i H ∧ ∃ Nx : Hp → Prop, (∀ H', Nx H' → ∃ m', m' < m ∧ W (i + 1) m' H') ∧ ∀ x H', J.yld i H x H' → Body σ D x H' Nx)) → t σ H Q)
    (hs : ∀ {F : Fr} {ω : List Addr} {Dn : Addr} {ρ : Ev} {σ : L2.St} {ι' : List Addr} {acc acc' : List D} {ι0 : List Addr} {H0 H H' : Hp} {S S' : Sto} {x : V} {d : D}, Ci G F ω Dn ι0 H0 (wipeE ρ vs) (L2.wipe σ vs) ι' acc S H → H0 Dn = none → (∀ a o, H a = some o → H' a = some o) → RV G.K G.ca ι' (F.B0 ++ (Dn :: ω)) H' x d →
      step (wipeE ρ vs) d acc S = some (acc', S') → ∀ (Nx : Hp → Prop), (∀ ι2 H2, Ci G F ω Dn ι0 H0 (wipeE ρ vs) (L2.wipe σ vs) ι2 acc' S' H2 → Nx H2) → Body σ Dn x H' Nx) : SE G E t (fLcG fi step vs) := by
  intro F ι ω ρ S σ H Q rel h
  refine ht σ H Q (hi F ι ω ρ S σ H _ rel ?_)
  unfold fLcG at h
  cases e : fi ρ S with
  | xc c fs S1 => rw [e] at h; exact h
  | bad => rw [e] at h; exact h
  | ok ds g S1 =>
    rw [e] at h
    intro ι1 J H1 e1 r1 wk Dn hD
    dsimp only at h
    split at h
    · rename_i accF SF hf
      refine fold_ok wk (fun x H' Nx => Body σ Dn x H' Nx) (fun acc S H => ∃ ι', Ci G F ω Dn ι1 H1 (wipeE ρ vs) (L2.wipe σ vs) ι' acc S H) (fun acc S H ⟨ι', c⟩ => ⟨ι', F.B0 ++ (Dn :: ω), c.lat hD, c.rel.sto, c.rel.bd⟩) ?_ ⟨ι1, Ci.start r1 hD⟩ hf (fun H ⟨ι', c⟩ => c.fin rel e1 hD h)
      rintro i d acc acc' S2 S3 H2 x H' ⟨ι', c⟩ gk hlt ed y es Nx hN
      obtain ⟨gr, d', ed', rv⟩ := wk.yld _ _ _ _ i x H' (c.lat hD) c.rel.sto c.rel.bd gk hlt y
      rw [ed] at ed'; cases ed'
      exact hs c hD gr rv es _ fun ι2 H2 c2 => hN H2 ⟨ι2, c2⟩
    · exact h.elim
theorem se_lc {wi : TI} {fi : FI} {tg : TG} {fg : FG} {js : List Nat} {tt : TT} {ft : FE} {te : TE} {fe : FE} {vs : List Nat} (hi : SI G E wi fi) (hg : SG G tg js fg) (ht : ST G NoE tt ft) (he : SE G NoE te fe) (hj : ∀ j ∈ js, j ∈ vs := by decide) :
    SE G E (tLc wi tg tt te vs) (fLc fi fg ft fe vs) :=
  se_lcG (Body := fun σ D x H' Nx => tg x (L2.wipe σ vs) H' fun σ2 H2 => L2.wipe σ2 vs = L2.wipe σ vs ∧ tt σ2 H2 fun b H3 => if b = true then te σ2 H3 fun y H4 => ∃ acc, H4 D = some (.lst acc) ∧ acc.length < sizeLine ∧ Nx (upd H4 D (.lst (acc ++ [y]))) else Nx H3)
    hi (fun σ H Q h => h) fun c hD gr rv es _ hn => step1_ok hg ht he hj c hD gr rv es (wipe_idem _ _) hn
end
end
end Fx
namespace Fx
open PySem PySem.Spec PyProof.Rows L2 U
noncomputable section
def noxF (f : FF) : FF := fun ds S => match f ds S with
  | .xc _ _ _ => .bad
  | r => r
def NoX (f : FF) : Prop := ∀ ds S c fs S', f ds S ≠ .xc c fs S'
theorem nox_no (f : FF) : NoX (noxF f) := fun ds S c fs S' e => by
  unfold noxF at e
  split at e
  · cases e
  · rename_i hn; exact hn _ _ _ e
section
variable {K : PySem.W.Frag} {ca : Nat → Addr} {H : Hp} {Q : VK} {E : XK} {vs : List V}
theorem nox_len {N P : List Str} {b : FS} (h : SpF K ca (noxF (runF N.length P.length b)) vs H Q E) : vs.length = P.length := by
  obtain ⟨ι, B, S, ds, h1, h2, h3, h4, h5⟩ := h
  unfold noxF runF at h5
  by_cases e : ds.length = P.length
  · rw [h4.len]; exact e
  · simp only [if_neg e] at h5; exact h5.elim
theorem nox_ok {N P : List Str} {t : TS} {b : FS} (hb : SS ⟨K, ca, none, none⟩ NoE t b) (h : SpF K ca (noxF (runF N.length P.length b)) vs H Q E) : t { nx := fun _ H' => Q .non H', rt := Q } (L2.start N vs) H := by
  obtain ⟨ι, B, S, ds, h1, h2, h3, h4, h5⟩ := h
  refine run_ok (E := E0) (b := b) (P := P) hb ⟨ι, B, S, ds, h1, h2, h3, h4, ?_⟩
  unfold noxF at h5
  cases e : runF N.length P.length b ds S with
  | ok d f S' => rw [e] at h5; exact h5
  | xc c fs S' => rw [e] at h5; exact h5.elim
  | bad => rw [e] at h5; exact h5
end
section
variable {G : Gm} {E : WX}
theorem spf_nox {f : FF} {F : Fr} {ι ω : List Addr} {ρ : Ev} {S : Sto} {σ : L2.St} {H : Hp} {Q : VK} {vs : List V} {ds : List D} {E' : XK} (hf : NoX f) (rel : Rel G F ι ω ρ S σ H) (ra : RAll G.K G.ca ι (F.B0 ++ ω) H vs ds) (h : PostE G E F ι ω ρ σ H Q (f ds S)) : SpF G.K G.ca f vs H Q E' := by
  refine ⟨ι, F.B0 ++ ω, S, ds, rel.nd, fun b hb => ⟨rel.bd b hb, rel.bi b hb⟩, rel.sto, ra, ?_⟩
  cases e : f ds S with
  | ok d fl S' =>
    rw [e] at h
    exact fun ι' v H' x nd rs rf => h ι' v H' x (rel.ex x nd rs) rf
  | xc c fs S' => exact absurd e (hf _ _ _ _ _)
  | bad => rw [e] at h; exact h
theorem se_callN {f : FF} {dvs : List V} {dd : List D} {E' : XK} {ta : TA} {fa : FA} (hf : NoX f) (ha : SA G E ta fa) (hd : dvs = dd.map vOf := by rfl) (hs : dd.all scalD = true := by rfl) : SE G E (tCall (SpF G.K G.ca f) dvs E' ta) (fCall f dd fa) := by
  intro F ι ω ρ S σ H Q rel h
  refine sa_then ha rel h fun ds t S1 ι1 vs H1 e1 r1 ra h1 => ?_
  split at h1
  · rename_i ht
    subst ht hd
    exact spf_nox hf r1 (RAll.app ra (dflt_all hs)) h1
  · exact h1.elim
/-- f(a, k=b) -/
def fCallK (n m : Nat) (f : FF) (gD : List D → List D → List D) (fa fk : FA) : FE := fun ρ S => match fa ρ S with
  | .ok ds true S1 => (match fk ρ S1 with
    | .ok es true S2 => if ds.length = n ∧ es.length = m then f (gD ds es) S2 else .bad
    | .xc c fs S2 => .xc c fs S2
    | _ => .bad)
  | .xc c fs S1 => .xc c fs S1
  | _ => .bad
end
/-- the law at the script -/
def intsD (ns : List Int) : List D := ns.map .int
theorem rall_ints {K : PySem.W.Frag} {ca : Nat → Addr} {ι B : List Addr} {H : Hp} : ∀ ns : List Int, RAll K ca ι B H (ns.map V.int) (intsD ns)
  | [] => .nil
  | n :: ns => .cons (.int n) (rall_ints ns)
theorem law_sp {K : PySem.W.Frag} {ca : Nat → Addr} {f : FF} {H : Hp} {a : Addr} {ns : List Int} (hO : Only H) (hS : SqL K H a (ns.map V.int)) (h : ∃ fl S', f [.fro true (intsD ns)] [] = .ok (.bl true) fl S') : SpF K ca f [.ref a] H (fun v _ => v = .bl true) fun _ _ _ => False := by
  obtain ⟨fl, S', e⟩ := h
  refine ⟨[], [], [], [.fro true (intsD ns)], List.nodup_nil, fun _ h => (nomatch h), ⟨rfl, fun k a c h => (nomatch h)⟩, .cons (.fro ?_ (rall_ints ns)) .nil, ?_⟩
  · rcases script_of hO hS with ⟨o, h⟩ | h
    · exact .inl ⟨by simp, by simp, o, h⟩
    · exact .inr (.inr h)
  · rw [e]
    exact fun ι' v H' _ _ _ rf => rf.rt.sBl
end
end Fx
namespace Fx
open PySem PySem.Spec PyProof.Rows L2 U
theorem fold_flat {g : Gd} {step : StepC} {f : D → List D} {S : Sto} (hg : gOk g S) : ∀ {ds acc : List D}, (∀ d ∈ ds, ∀ acc : List D, acc.length < lim → step d acc S = some (acc ++ f d, S)) → (∀ d ∈ ds, (f d).length ≤ 1) → acc.length + ds.length ≤ lim →
    foldC g step ds acc S = some (acc ++ ds.flatMap f, S)
  | [], acc, _, _, _ => by unfold foldC; rw [if_pos hg]; simp
  | d :: ds, acc, h, h1, hl => by
    rw [List.length_cons] at hl
    unfold foldC
    rw [if_pos hg, h d List.mem_cons_self acc (by omega)]
    have := h1 d List.mem_cons_self
    dsimp only
    rw [fold_flat hg (fun e he => h e (List.mem_cons_of_mem _ he)) (fun e he => h1 e (List.mem_cons_of_mem _ he)) (by rw [List.length_append]; omega), List.append_assoc, List.flatMap_cons]
theorem lc_flat {it : FI} {set : FG} {tt te : FE} {vs : List Nat} {ρ : Ev} {S S1 : Sto} {ds : List D} {g : Gd} {c : D → Bool} {f : D → D} (hi : it ρ S = .ok ds g S1) (hg : gOk g S1) (hl : ds.length ≤ lim)
    (h : ∀ d ∈ ds, ∃ ρ1 f1, set d (wipeE ρ vs) S1 = some ρ1 ∧ tt ρ1 S1 = .ok (.bl (c d)) f1 S1 ∧ (c d = true → ∃ f2, te ρ1 S1 = .ok (f d) f2 S1 ∧ f2.nop = true)) :
    fLc it set tt te vs ρ S = .ok (.lst ((ds.filter c).map f)) .fs S1 := by
  have key : ds.flatMap (fun d => if c d = true then [f d] else []) = (ds.filter c).map f := by
    clear h hl hi
    induction ds with
    | nil => rfl
    | cons d ds ih =>
      rw [List.flatMap_cons, ih, List.filter_cons]
      cases c d <;> simp
  unfold fLc fLcG
  rw [hi]
  dsimp only
  rw [fold_flat (f := fun d => if c d = true then [f d] else []) hg (fun d hd acc ha => ?_) (fun d hd => by split <;> simp) (by simpa using hl), key, List.nil_append]
  obtain ⟨ρ1, f1, e1, e2, e3⟩ := h d hd
  unfold step1
  rw [e1]
  dsimp only
  rw [e2]
  cases hc : c d with
  | true =>
    obtain ⟨f2, e4, e5⟩ := e3 hc
    dsimp only
    rw [e4]
    dsimp only
    rw [e5, decide_eq_true ha]
    rfl
  | false => dsimp only; rw [if_neg Bool.false_ne_true, List.append_nil]
/-- a for without breaks: the state behind each item -/
theorem loop_step {g : Gd} {set : FG} {body : FS} {d : D} {ds : List D} {ρ ρ1 ρ2 : Ev} {S S2 : Sto} (hg : gOk g S) (h1 : set d ρ S = some ρ1) (h2 : body ρ1 S = .nx ρ2 S2) : loopS g set body (d :: ds) ρ S = loopS g set body ds ρ2 S2 := by
  conv => lhs; unfold loopS
  rw [if_pos hg, h1]
  dsimp only
  rw [h2]
theorem loop_cont {g : Gd} {set : FG} {body : FS} {d : D} {ds : List D} {ρ ρ1 ρ2 : Ev} {S S2 : Sto} (hg : gOk g S) (h1 : set d ρ S = some ρ1) (h2 : body ρ1 S = .ct ρ2 S2) : loopS g set body (d :: ds) ρ S = loopS g set body ds ρ2 S2 := by
  conv => lhs; unfold loopS
  rw [if_pos hg, h1]
  dsimp only
  rw [h2]
theorem loop_end {g : Gd} {set : FG} {body : FS} {ρ : Ev} {S : Sto} (hg : gOk g S) : loopS g set body [] ρ S = .nx ρ S := by
  unfold loopS; rw [if_pos hg]
/-- a for whose state keeps a form: I i ρ S ahead of item i -/
theorem loop_inv {g : Gd} {set : FG} {body : FS} (I : Nat → Ev → Sto → Prop) {ds : List D} (hg : ∀ i ρ S, I i ρ S → gOk g S)
    (hs : ∀ i d ρ S, ds[i]? = some d → I i ρ S → ∃ ρ1 ρ2 S2, set d ρ S = some ρ1 ∧ (body ρ1 S = .nx ρ2 S2 ∨ body ρ1 S = .ct ρ2 S2) ∧ I (i + 1) ρ2 S2) {ρ : Ev} {S : Sto} (h0 : I 0 ρ S) : ∃ ρ' S', loopS g set body ds ρ S = .nx ρ' S' ∧ I ds.length ρ' S' := by
  have key : ∀ (n i : Nat) (ρ : Ev) (S : Sto), n = ds.length - i → i ≤ ds.length → I i ρ S → ∃ ρ' S', loopS g set body (ds.drop i) ρ S = .nx ρ' S' ∧ I ds.length ρ' S' := by
    intro n
    induction n with
    | zero =>
      intro i ρ S hn hi h
      obtain rfl : i = ds.length := by omega
      rw [List.drop_length, loop_end (hg _ _ _ h)]
      exact ⟨ρ, S, rfl, h⟩
    | succ n ih =>
      intro i ρ S hn hi h
      have hlt : i < ds.length := by omega
      rw [List.drop_eq_getElem_cons hlt]
      obtain ⟨ρ1, ρ2, S2, e1, e2, e3⟩ := hs i ds[i] ρ S (List.getElem?_eq_getElem hlt) h
      rcases e2 with e2 | e2
      · rw [loop_step (hg _ _ _ h) e1 e2]; exact ih (i + 1) ρ2 S2 (by omega) hlt e3
      · rw [loop_cont (hg _ _ _ h) e1 e2]; exact ih (i + 1) ρ2 S2 (by omega) hlt e3
  have := key ds.length 0 ρ S (by omega) (Nat.zero_le _) h0
  rwa [List.drop_zero] at this
section
/-- d is the data p in the store -/
def Py (S : Sto) (d : D) (p : PyData) : Prop := toP S d = some p
def PyAll (S : Sto) (ds : List D) (ps : List PyData) : Prop := treeAll (cells 4 S) ds = some ps
theorem PyAll.len {S : Sto} : ∀ {ds : List D} {ps : List PyData}, PyAll S ds ps → ds.length = ps.length
  | [], _, h => by unfold PyAll at h; simp only [treeAll] at h; cases h; rfl
  | d :: ds, _, h => by
    unfold PyAll at h
    simp only [treeAll] at h
    split at h
    · rename_i p ps e1 e2
      cases h
      rw [List.length_cons, List.length_cons, PyAll.len e2]
    · cases h
theorem PyAll.at {S : Sto} : ∀ {ds : List D} {ps : List PyData} {i : Nat} {d : D}, PyAll S ds ps → ds[i]? = some d → ∃ p, ps[i]? = some p ∧ Py S d p
  | [], _, i, _, h, e => by simp at e
  | d :: ds, _, i, _, h, e => by
    unfold PyAll at h
    simp only [treeAll] at h
    split at h
    · rename_i p ps e1 e2
      cases h
      cases i with
      | zero => simp at e; subst e; exact ⟨p, rfl, e1⟩
      | succ i => obtain ⟨q, h1, h2⟩ := PyAll.at (ds := ds) e2 (by simpa using e); exact ⟨q, by simpa using h1, h2⟩
    · cases h
theorem PyAll.cons {S : Sto} {d : D} {ds : List D} {p : PyData} {ps : List PyData} (h1 : Py S d p) (h2 : PyAll S ds ps) : PyAll S (d :: ds) (p :: ps) := by
  unfold PyAll; unfold Py toP at h1; unfold PyAll at h2
  simp only [treeAll, h1, h2]
theorem PyAll.nil {S : Sto} : PyAll S [] [] := by unfold PyAll; simp only [treeAll]
theorem PyAll.app {S : Sto} : ∀ {ds es : List D} {ps qs : List PyData}, PyAll S ds ps → PyAll S es qs → PyAll S (ds ++ es) (ps ++ qs)
  | [], _, _, _, h, g => by unfold PyAll at h; simp only [treeAll] at h; cases h; exact g
  | d :: ds, _, _, _, h, g => by
    unfold PyAll at h
    simp only [treeAll] at h
    split at h
    · rename_i p ps e1 e2
      cases h
      exact PyAll.cons e1 (PyAll.app e2 g)
    · cases h
theorem py_lst {S : Sto} {ds : List D} {ps : List PyData} (h : PyAll S ds ps) : Py S (.lst ds) (.list ps) := by unfold Py toP; unfold PyAll at h; simp only [tree, h, Option.map_some]
theorem py_int (S : Sto) (z : Int) : Py S (.int z) (.int z) := by unfold Py toP; simp only [tree]
theorem py_bl (S : Sto) (z : Bool) : Py S (.bl z) (.bool z) := by unfold Py toP; simp only [tree]
end
end Fx
namespace Fx
open PySem PySem.Spec PyProof.Rows L2 U
noncomputable section
section
variable {d e : D} {f fl : Fl} {S S1 S2 : Sto} {ρ ρ1 : Ev} {c : Nat} {fs : List (Str × D)}
theorem bE_ok {k : D → Fl → Sto → RE} : bE (.ok d f S) k = k d f S := rfl
theorem bE_xc {k : D → Fl → Sto → RE} : bE (.xc c fs S) k = .xc c fs S := rfl
theorem bS_nx {k : Ev → Sto → RSt} : bS (.nx ρ S) k = k ρ S := rfl
theorem bS_rt {k : Ev → Sto → RSt} : bS (.rt d f S) k = .rt d f S := rfl
theorem bS_bk {k : Ev → Sto → RSt} : bS (.bk ρ S) k = .bk ρ S := rfl
theorem bS_ct {k : Ev → Sto → RSt} : bS (.ct ρ S) k = .ct ρ S := rfl
theorem bS_xc {k : Ev → Sto → RSt} : bS (.xc c fs ρ S) k = .xc c fs ρ S := rfl
theorem eS_ok {k : D → Fl → Sto → RSt} : eS (.ok d f S) ρ k = k d f S := rfl
theorem eS_xc {k : D → Fl → Sto → RSt} : eS (.xc c fs S) ρ k = .xc c fs ρ S := rfl
theorem v_seq {a b : FS} : sSeq a b ρ S = bS (a ρ S) b := rfl
theorem v_next : sNext ρ S = .nx ρ S := rfl
theorem v_break : sBreak ρ S = .bk ρ S := rfl
theorem v_cont : sCont ρ S = .ct ρ S := rfl
theorem v_c : fC d ρ S = .ok d .tr S := rfl
def kVar (s : Option Sl) (S : Sto) : RE := match s with
  | some (.val d) => .ok d .tr S
  | some (.own ds) => .ok (.lst ds) .pk S
  | some (.oob c fs) => .ok (.obj c fs) .pk S
  | _ => .bad
theorem v_var {i : Nat} : fVar i ρ S = kVar ρ[i]? S := by
  unfold fVar kVar; rfl
theorem kVar_val : kVar (some (.val d)) S = .ok d .tr S := rfl
theorem kVar_own {ds : List D} : kVar (some (.own ds)) S = .ok (.lst ds) .pk S := rfl
theorem kVar_oob : kVar (some (.oob c fs)) S = .ok (.obj c fs) .pk S := rfl
def kOp2 (g : D → D → Sto → RE) (d e : D) (_ : Fl) (S : Sto) : RE := g d e S
def kOp1 (g : D → D → Sto → RE) (eb : FE) (ρ : Ev) (d : D) (_ : Fl) (S : Sto) : RE := bE (eb ρ S) (kOp2 g d)
theorem v_op {g : D → D → Sto → RE} {ea eb : FE} : fOp g ea eb ρ S = bE (ea ρ S) (kOp1 g eb ρ) := rfl
theorem v_op1 {g : D → D → Sto → RE} {eb : FE} : kOp1 g eb ρ d f S = bE (eb ρ S) (kOp2 g d) := rfl
theorem v_op2 {g : D → D → Sto → RE} : kOp2 g d e f S = g d e S := rfl
def kUn (g : D → Sto → RE) (d : D) (_ : Fl) (S : Sto) : RE := g d S
theorem v_un {g : D → Sto → RE} {ea : FE} : fUn g ea ρ S = bE (ea ρ S) (kUn g) := rfl
theorem v_un1 {g : D → Sto → RE} : kUn g d f S = g d S := rfl
def kNot (d : D) (_ : Fl) (S : Sto) : RE := match d with
  | .bl b => .ok (.bl (!b)) .tr S
  | _ => .bad
theorem v_not {ea : FE} : fNot ea ρ S = bE (ea ρ S) kNot := rfl
theorem v_not1 {b : Bool} : kNot (.bl b) f S = .ok (.bl (!b)) .tr S := rfl
def kAnd (eb : FE) (ρ : Ev) (d : D) (_ : Fl) (S : Sto) : RE := match d with
  | .bl true => eb ρ S
  | .bl false => .ok (.bl false) .tr S
  | _ => .bad
theorem v_and {ea eb : FE} : fAnd ea eb ρ S = bE (ea ρ S) (kAnd eb ρ) := rfl
theorem v_andT {eb : FE} : kAnd eb ρ (.bl true) f S = eb ρ S := rfl
theorem v_andF {eb : FE} : kAnd eb ρ (.bl false) f S = .ok (.bl false) .tr S := rfl
def kOr (eb : FE) (ρ : Ev) (d : D) (_ : Fl) (S : Sto) : RE := match d with
  | .bl true => .ok (.bl true) .tr S
  | .bl false => eb ρ S
  | _ => .bad
theorem v_or {ea eb : FE} : fOr ea eb ρ S = bE (ea ρ S) (kOr eb ρ) := rfl
theorem v_orT {eb : FE} : kOr eb ρ (.bl true) f S = .ok (.bl true) .tr S := rfl
theorem v_orF {eb : FE} : kOr eb ρ (.bl false) f S = eb ρ S := rfl
def kIf (ea eb : FE) (ρ : Ev) (d : D) (_ : Fl) (S : Sto) : RE := match d with
  | .bl true => ea ρ S
  | .bl false => eb ρ S
  | _ => .bad
theorem v_if {ec ea eb : FE} : fIf ec ea eb ρ S = bE (ec ρ S) (kIf ea eb ρ) := rfl
theorem v_ifT {ea eb : FE} : kIf ea eb ρ (.bl true) f S = ea ρ S := rfl
theorem v_ifF {ea eb : FE} : kIf ea eb ρ (.bl false) f S = eb ρ S := rfl
def kCh2 (g' : D → D → Sto → RE) (e w : D) (_ : Fl) (S : Sto) : RE := g' e w S
def kCh1 (g' : D → D → Sto → RE) (ec : FE) (ρ : Ev) (e z : D) (_ : Fl) (S : Sto) : RE := match z with
  | .bl true => bE (ec ρ S) (kCh2 g' e)
  | .bl false => .ok (.bl false) .tr S
  | _ => .bad
def kCh0 (g g' : D → D → Sto → RE) (ec : FE) (ρ : Ev) (d e : D) (_ : Fl) (S : Sto) : RE := bE (g d e S) (kCh1 g' ec ρ e)
def kCh (g g' : D → D → Sto → RE) (eb ec : FE) (ρ : Ev) (d : D) (_ : Fl) (S : Sto) : RE := bE (eb ρ S) (kCh0 g g' ec ρ d)
theorem v_chain {g g' : D → D → Sto → RE} {ea eb ec : FE} : fChain g g' ea eb ec ρ S = bE (ea ρ S) (kCh g g' eb ec ρ) := rfl
theorem v_ch {g g' : D → D → Sto → RE} {eb ec : FE} : kCh g g' eb ec ρ d f S = bE (eb ρ S) (kCh0 g g' ec ρ d) := rfl
theorem v_ch0 {g g' : D → D → Sto → RE} {ec : FE} : kCh0 g g' ec ρ d e f S = bE (g d e S) (kCh1 g' ec ρ e) := rfl
theorem v_ch1T {g' : D → D → Sto → RE} {ec : FE} : kCh1 g' ec ρ e (.bl true) f S = bE (ec ρ S) (kCh2 g' e) := rfl
theorem v_ch1F {g' : D → D → Sto → RE} {ec : FE} : kCh1 g' ec ρ e (.bl false) f S = .ok (.bl false) .tr S := rfl
theorem v_ch2 {g' : D → D → Sto → RE} {w : D} : kCh2 g' e w f S = g' e w S := rfl
def rIsi (p : Ty → Bool) (t : Option Ty) (S : Sto) : RE := match t with
  | some t => .ok (.bl (p t)) .tr S
  | none => .bad
def kIsi (p : Ty → Bool) (d : D) (_ : Fl) (S : Sto) : RE := rIsi p (tyDf S d) S
theorem v_isi {t : Ty} {fe : FE} : fIsi t fe ρ S = bE (fe ρ S) (kIsi (fun x => isT x t)) := rfl
theorem v_isiT {cs : List Ty} {fe : FE} : fIsiT cs fe ρ S = bE (fe ρ S) (kIsi (fun x => cs.any (isT x))) := rfl
theorem v_isi1 {p : Ty → Bool} : kIsi p d f S = rIsi p (tyDf S d) S := rfl
theorem v_isi2 {p : Ty → Bool} {t : Ty} : rIsi p (some t) S = .ok (.bl (p t)) .tr S := rfl
theorem ty_non : tyDf S .non = some .non := rfl
theorem ty_bl {b : Bool} : tyDf S (.bl b) = some .bl := rfl
theorem ty_int {i : Int} : tyDf S (.int i) = some .int := rfl
theorem ty_str {z : Str} : tyDf S (.str z) = some .str := rfl
theorem ty_lst {ds : List D} : tyDf S (.lst ds) = some .lst := rfl
theorem ty_tup {ds : List D} : tyDf S (.tup ds) = some .tup := rfl
theorem ty_dct {ds : List (Key × D)} : tyDf S (.dct ds) = some .dct := rfl
theorem tyd_non : tyD .none = .non := rfl
theorem tyd_bl {b : Bool} : tyD (.bool b) = .bl := rfl
theorem tyd_int {i : Int} : tyD (.int i) = .int := rfl
theorem tyd_str {z : Str} : tyD (.str z) = .str := rfl
theorem tyd_lst {ps : List PyData} : tyD (.list ps) = .lst := rfl
theorem tyd_tup {ps : List PyData} : tyD (.tuple ps) = .tup := rfl
theorem tyd_dct {ps : List (PyData × PyData)} : tyD (.dict ps) = .dct := rfl
def bA (r : RA) (k : List D → Bool → Sto → RE) : RE := match r with
  | .ok ds t S1 => k ds t S1
  | .xc c fs S1 => .xc c fs S1
  | .bad => .bad
theorem v_cb {g : List D → Bool → Sto → RE} {fa : FA} : fCB g fa ρ S = bA (fa ρ S) g := rfl
theorem bA_ok {ds : List D} {t : Bool} {k : List D → Bool → Sto → RE} : bA (.ok ds t S) k = k ds t S := rfl
theorem bA_xc {k : List D → Bool → Sto → RE} : bA (.xc c fs S) k = .xc c fs S := rfl
def kCons2 (d : D) (f : Fl) (r : RA) : RA := match r with
  | .ok ds t S2 => .ok (d :: ds) (f.nop && t) S2
  | .xc c fs S2 => .xc c fs S2
  | .bad => .bad
def kCons1 (fr : FA) (ρ : Ev) (r : RE) : RA := match r with
  | .ok d f S1 => kCons2 d f (fr ρ S1)
  | .xc c fs S1 => .xc c fs S1
  | .bad => .bad
theorem v_nil : fNil ρ S = .ok [] true S := rfl
theorem v_cons {fa : FE} {fr : FA} : fCons fa fr ρ S = kCons1 fr ρ (fa ρ S) := by
  unfold fCons kCons1 kCons2
  rfl
theorem v_cons1 {fr : FA} : kCons1 fr ρ (.ok d f S) = kCons2 d f (fr ρ S) := rfl
theorem v_cons1x {fr : FA} : kCons1 fr ρ (.xc c fs S) = .xc c fs S := rfl
theorem v_cons2 {ds : List D} {t : Bool} : kCons2 d f (.ok ds t S) = .ok (d :: ds) (f.nop && t) S := rfl
theorem v_cons2x : kCons2 d f (.xc c fs S) = .xc c fs S := rfl
theorem nop_tr : Fl.nop .tr = true := rfl
theorem nop_fs : Fl.nop .fs = true := rfl
theorem nop_pk : Fl.nop .pk = false := rfl
theorem v_lst {fa : FA} : fLst fa ρ S = bA (fa ρ S) dLst := rfl
theorem v_tup {fa : FA} : fTup fa ρ S = bA (fa ρ S) dTup := rfl
theorem d_lst {ds : List D} (h : ds.length ≤ lim) : dLst ds true S = .ok (.lst ds) .fs S := by unfold dLst; simp [h]
theorem d_tup {ds : List D} (h : ds.length ≤ lim) : dTup ds true S = .ok (.tup ds) .tr S := by unfold dTup; simp [h]
theorem v_dnew : fDNew ρ S = .ok (.dct []) .tr S := rfl
def kCall (g : FF) (dd ds : List D) (t : Bool) (S : Sto) : RE := if t = true then g (ds ++ dd) S else .bad
theorem v_call {g : FF} {dd : List D} {fa : FA} : fCall g dd fa ρ S = bA (fa ρ S) (kCall g dd) := rfl
theorem v_call1 {g : FF} {dd ds : List D} : kCall g dd ds true S = g (ds ++ dd) S := rfl
def kM1b (g : Str → D → Sto → RE) (a : Str) (e : D) (_ : Fl) (S : Sto) : RE := g a e S
def kM1 (g : Str → D → Sto → RE) (fe : FE) (ρ : Ev) (d : D) (_ : Fl) (S : Sto) : RE := match d with
  | .str a => bE (fe ρ S) (kM1b g a)
  | _ => .bad
theorem v_m1 {g : Str → D → Sto → RE} {fo fe : FE} : fM1 g fo fe ρ S = bE (fo ρ S) (kM1 g fe ρ) := rfl
theorem v_m1a {g : Str → D → Sto → RE} {fe : FE} {a : Str} : kM1 g fe ρ (.str a) f S = bE (fe ρ S) (kM1b g a) := rfl
theorem v_m1b {g : Str → D → Sto → RE} {a : Str} : kM1b g a e f S = g a e S := rfl
def kPart (r : RE) : RO := match r with
  | .ok (.int i) _ S1 => .ok (some i) S1
  | .ok _ _ _ => .bad
  | .xc c fs S1 => .xc c fs S1
  | .bad => .bad
theorem v_part {fe : FE} : fPart fe ρ S = kPart (fe ρ S) := rfl
theorem v_part1 {i : Int} : kPart (.ok (.int i) f S) = .ok (some i) S := rfl
theorem v_nopart : fNoPart ρ S = .ok none S := rfl
def kSl2 (d : D) (l u : Option Int) (S : Sto) : RE := dSl d l u S
def kSl1 (d : D) (hi : FO) (ρ : Ev) (l : Option Int) (S : Sto) : RE := bO (hi ρ S) (kSl2 d l)
def kSl (lo hi : FO) (ρ : Ev) (d : D) (_ : Fl) (S : Sto) : RE := bO (lo ρ S) (kSl1 d hi ρ)
theorem v_sl {fe : FE} {lo hi : FO} : fSl fe lo hi ρ S = bE (fe ρ S) (kSl lo hi ρ) := rfl
theorem v_sl0 {lo hi : FO} : kSl lo hi ρ d f S = bO (lo ρ S) (kSl1 d hi ρ) := rfl
theorem v_sl1 {hi : FO} {l : Option Int} : kSl1 d hi ρ l S = bO (hi ρ S) (kSl2 d l) := rfl
theorem v_sl2 {l u : Option Int} : kSl2 d l u S = dSl d l u S := rfl
theorem bO_ok {o : Option Int} {k : Option Int → Sto → RE} : bO (.ok o S) k = k o S := rfl
def kRev (d : D) (_ : Fl) (S1 : Sto) : RE := match d with
  | .str z => if z.length ≤ lim then .ok (.str (revS z)) .tr S1 else .bad
  | d => (match lsOf S1 d with
    | some ds => .ok (.lst ds.reverse) .fs S1
    | none => .bad)
theorem v_rev {fe : FE} : fRev fe ρ S = bE (fe ρ S) kRev := rfl
def kExpr (ρ : Ev) (_ : D) (_ : Fl) (S : Sto) : RSt := .nx ρ S
theorem v_expr {fe : FE} : sExpr fe ρ S = eS (fe ρ S) ρ (kExpr ρ) := rfl
theorem v_expr1 : kExpr ρ d f S = .nx ρ S := rfl
def kIfS (fa fb : FS) (ρ : Ev) (d : D) (_ : Fl) (S : Sto) : RSt := match d with
  | .bl true => fa ρ S
  | .bl false => fb ρ S
  | _ => .bad
theorem v_ifs {fc : FE} {fa fb : FS} : sIf fc fa fb ρ S = eS (fc ρ S) ρ (kIfS fa fb ρ) := rfl
theorem v_ifsT {fa fb : FS} : kIfS fa fb ρ (.bl true) f S = fa ρ S := rfl
theorem v_ifsF {fa fb : FS} : kIfS fa fb ρ (.bl false) f S = fb ρ S := rfl
def kRet (d : D) (f : Fl) (S : Sto) : RSt := if f.nop = true then .rt d f S else .bad
theorem v_ret {fe : FE} : sRet fe ρ S = eS (fe ρ S) ρ kRet := rfl
theorem v_retT : kRet d .tr S = .rt d .tr S := rfl
theorem v_retS : kRet d .fs S = .rt d .fs S := rfl
theorem v_retN : sRetN ρ S = .rt .non .tr S := rfl
def kRetV (s : Option Sl) (S : Sto) : RSt := match s with
  | some (.val d) => .rt d .tr S
  | some (.own ds) => .rt (.lst ds) .fs S
  | _ => .bad
theorem v_retV {i : Nat} : sRetV i ρ S = kRetV ρ[i]? S := by unfold sRetV kRetV; rfl
theorem v_retV1 : kRetV (some (.val d)) S = .rt d .tr S := rfl
theorem v_retV2 {ds : List D} : kRetV (some (.own ds)) S = .rt (.lst ds) .fs S := rfl
def kAsg2 (r : Option Ev) (S : Sto) : RSt := match r with
  | some ρ' => .nx ρ' S
  | none => .bad
def kAsg (g : FG) (ρ : Ev) (d : D) (f : Fl) (S : Sto) : RSt := if f.nop = true then kAsg2 (g d ρ S) S else .bad
theorem v_asg {fe : FE} {g : FG} : sAsg fe g ρ S = eS (fe ρ S) ρ (kAsg g ρ) := rfl
theorem v_asgT {g : FG} : kAsg g ρ d .tr S = kAsg2 (g d ρ S) S := rfl
theorem v_asgS {g : FG} : kAsg g ρ d .fs S = kAsg2 (g d ρ S) S := rfl
theorem v_asg2 : kAsg2 (some ρ) S = .nx ρ S := rfl
theorem v_gn {i : Nat} : gN i d ρ S = some (ρ.set i (.val d)) := rfl
def kGs (g : FGs) (ds : List D) (S : Sto) (r : Option Ev) : Option Ev := match r with
  | some ρ1 => g ds ρ1 S
  | none => none
theorem v_gsNil : gsNil [] ρ S = some ρ := rfl
theorem v_gsCons {g : FG} {gs : FGs} {ds : List D} : gsCons g gs (d :: ds) ρ S = kGs gs ds S (g d ρ S) := by
  unfold gsCons kGs; rfl
theorem v_gs {g : FGs} {ds : List D} : kGs g ds S (some ρ) = g ds ρ S := rfl
def kPar (i j : Nat) (ρ : Ev) (r : RA) : RSt := match r with
  | .ok [d, e] true S1 => .nx ((ρ.set i (.val d)).set j (.val e)) S1
  | .xc c fs S1 => .xc c fs ρ S1
  | _ => .bad
theorem v_par {i j : Nat} {fa : FA} : sPar i j fa ρ S = kPar i j ρ (fa ρ S) := by unfold sPar kPar; rfl
theorem v_par1 {i j : Nat} : kPar i j ρ (.ok [d, e] true S) = .nx ((ρ.set i (.val d)).set j (.val e)) S := rfl
def kAug2 (i : Nat) (g : Int → Int → Int) (x : Int) (ρ : Ev) (d : D) (_ : Fl) (S1 : Sto) : RSt := match d with
  | .int y => .nx (ρ.set i (.val (.int (g x y)))) S1
  | _ => .bad
def kAug (i : Nat) (g : Int → Int → Int) (fe : FE) (ρ : Ev) (S : Sto) (s : Option Sl) : RSt := match s with
  | some (.val (.int x)) => eS (fe ρ S) ρ (kAug2 i g x ρ)
  | _ => .bad
theorem v_aug {i : Nat} {g : Int → Int → Int} {fe : FE} : sAug i g fe ρ S = kAug i g fe ρ S ρ[i]? := by unfold sAug kAug kAug2; rfl
theorem v_aug1 {i : Nat} {g : Int → Int → Int} {fe : FE} {x : Int} : kAug i g fe ρ S (some (.val (.int x))) = eS (fe ρ S) ρ (kAug2 i g x ρ) := rfl
theorem v_aug2 {i : Nat} {g : Int → Int → Int} {x y : Int} : kAug2 i g x ρ (.int y) f S = .nx (ρ.set i (.val (.int (g x y)))) S := rfl
def kOwn (i : Nat) (ρ : Ev) (d : D) (f : Fl) (S1 : Sto) : RSt := match d, f with
  | .lst ds, .fs => .nx (ρ.set i (.own ds)) S1
  | _, _ => .bad
theorem v_own {i : Nat} {fe : FE} : sOwn i fe ρ S = eS (fe ρ S) ρ (kOwn i ρ) := rfl
theorem v_own1 {i : Nat} {ds : List D} : kOwn i ρ (.lst ds) .fs S = .nx (ρ.set i (.own ds)) S := rfl
theorem v_frz {i : Nat} {g : FS} : sFrz i g ρ S = g (frz i ρ) S := rfl
def kFrz (i : Nat) (ρ : Ev) (s : Option Sl) : Ev := match s with
  | some (.own ds) => ρ.set i (.val (.lst ds))
  | _ => ρ
theorem v_frz0 {i : Nat} : frz i ρ = kFrz i ρ ρ[i]? := by unfold frz kFrz; rfl
theorem v_frz1 {i : Nat} {ds : List D} : kFrz i ρ (some (.own ds)) = ρ.set i (.val (.lst ds)) := rfl
theorem v_frz2 {i : Nat} : kFrz i ρ (some (.val d)) = ρ := rfl
theorem v_frz3 {i : Nat} : kFrz i ρ (some .no) = ρ := rfl
theorem v_chk {i : Nat} {g : FS} (h : hasL i ρ S = true) : chk i g ρ S = g ρ S := by unfold chk; rw [if_pos h]
def kApp (i : Nat) (ρ : Ev) (d : D) (f : Fl) (S1 : Sto) : RSt := if f.nop = true then putL i ρ S1 (fun ds => if ds.length < lim then some (ds ++ [d]) else none) else .bad
theorem v_app {i : Nat} {fe : FE} : sApp i fe ρ S = eS (fe ρ S) ρ (kApp i ρ) := rfl
theorem v_app2 {i k : Nat} {ds : List D} (hf : f.nop = true) (h : ρ[i]? = some (.val (.cel k))) (hs : S[k]? = some (.lst ds)) (hl : ds.length < lim) : kApp i ρ d f S = .nx ρ (S.set k (.lst (ds ++ [d]))) := by
  unfold kApp putL; rw [if_pos hf, h]; dsimp only; rw [hs]; simp [hl]
def kSet2 (i : Nat) (ρ : Ev) (d e : D) (_ : Fl) (S2 : Sto) : RSt := match e with
  | .int k => putL i ρ S2 (fun ds => (ixN ds.length k).map fun j => ds.set j d)
  | _ => .bad
def kSet (i : Nat) (fi : FE) (ρ : Ev) (d : D) (f : Fl) (S1 : Sto) : RSt := if f.nop = true then (if hasL i ρ S1 = true then eS (fi ρ S1) ρ (kSet2 i ρ d) else .bad) else .bad
theorem v_set {i : Nat} {fi fe : FE} : sSetI i fi fe ρ S = eS (fe ρ S) ρ (kSet i fi ρ) := rfl
theorem v_setC {i k : Nat} {fi : FE} {ds : List D} (hf : f.nop = true) (h : ρ[i]? = some (.val (.cel k))) (hs : S[k]? = some (.lst ds)) : kSet i fi ρ d f S = eS (fi ρ S) ρ (kSet2 i ρ d) := by
  unfold kSet hasL; rw [if_pos hf, h]; simp [hs]
theorem v_setC2 {i k j : Nat} {n : Int} {ds : List D} (h : ρ[i]? = some (.val (.cel k))) (hs : S[k]? = some (.lst ds)) (hj : ixN ds.length n = some j) : kSet2 i ρ d (.int n) f S = .nx ρ (S.set k (.lst (ds.set j d))) := by
  unfold kSet2 putL; simp only; rw [h]; simp [hs, hj]
def kAdo (d : D) (f : Fl) (S1 : Sto) : RE := match d, f with
  | .lst ds, .fs => .ok (.cel S1.length) .tr (S1 ++ [.lst ds])
  | .lst _, _ => .bad
  | d, f => .ok d f S1
theorem v_ado {fe : FE} : fAdo fe ρ S = bE (fe ρ S) kAdo := rfl
theorem v_ado1 {ds : List D} : kAdo (.lst ds) .fs S = .ok (.cel S.length) .tr (S ++ [.lst ds]) := rfl
def kXf (xf : Nat → Str → Bool) (n : Str) (s : Option Sl) (S : Sto) : RE := match s with
  | some (.exn c fs) => if xf c n = true then (match fs.lookup n with
    | some d => .ok d .tr S
    | none => .bad) else .bad
  | _ => .bad
theorem v_xf {xf : Nat → Str → Bool} {i : Nat} {n : Str} : fXf xf i n ρ S = kXf xf n ρ[i]? S := by unfold fXf kXf; rfl
def kLoop (g : FG) (b : FS) (ρ : Ev) (r : RI) : RSt := match r with
  | .ok ds gd S1 => loopS gd g b ds ρ S1
  | .xc c fs S1 => .xc c fs ρ S1
  | .bad => .bad
theorem v_for {it : FI} {g : FG} {b : FS} : sFor it g b ρ S = kLoop g b ρ (it ρ S) := rfl
theorem v_for1 {g : FG} {b : FS} {ds : List D} {gd : Gd} : kLoop g b ρ (.ok ds gd S) = loopS gd g b ds ρ S := rfl
theorem v_forx {g : FG} {b : FS} : kLoop g b ρ (.xc c fs S) = .xc c fs ρ S := rfl
def kIter2 (r : Option (List D × Gd)) (S : Sto) : RI := match r with
  | some (ds, g) => .ok ds g S
  | none => .bad
def kIter (r : RE) : RI := match r with
  | .ok d f S1 => if f.nop = true then kIter2 (itemsD S1 d) S1 else .bad
  | .xc c fs S1 => .xc c fs S1
  | .bad => .bad
theorem v_iter {fe : FE} : fIter fe ρ S = kIter (fe ρ S) := by unfold fIter kIter kIter2; rfl
theorem v_iter1 : kIter (.ok d .tr S) = kIter2 (itemsD S d) S := rfl
theorem v_iter1s : kIter (.ok d .fs S) = kIter2 (itemsD S d) S := rfl
theorem v_iter2 {ds : List D} {g : Gd} : kIter2 (some (ds, g)) S = .ok ds g S := rfl
theorem it_str {z : Str} : itemsD S (.str z) = some (charsD z, none) := rfl
theorem it_lst {ds : List D} : itemsD S (.lst ds) = some (ds, none) := rfl
theorem it_tup {ds : List D} : itemsD S (.tup ds) = some (ds, none) := rfl
def kRng1 (r : RA) : RI := match r with
  | .ok [.int j] _ S1 => if -(2 ^ 62) ≤ j ∧ j < 2 ^ 62 then .ok (rngD 0 j.toNat) none S1 else .bad
  | .xc c fs S1 => .xc c fs S1
  | _ => .bad
theorem v_rng1 {fa : FA} : fRng1 fa ρ S = kRng1 (fa ρ S) := by unfold fRng1 kRng1; rfl
theorem v_rng1a {j : Int} {t : Bool} (h1 : -(2 ^ 62) ≤ j) (h2 : j < 2 ^ 62) : kRng1 (.ok [.int j] t S) = .ok (rngD 0 j.toNat) none S := by unfold kRng1; exact if_pos ⟨h1, h2⟩
def kEnum (r : RA) : RI := match r with
  | .ok [d] true S1 => (match d with
    | .str z => .ok (enumD (charsD z)) none S1
    | d => (match itemsD S1 d with
      | some (ds, g) => .ok (enumD ds) g S1
      | none => .bad))
  | .xc c fs S1 => .xc c fs S1
  | _ => .bad
theorem v_enum {fa : FA} : fEnum fa ρ S = kEnum (fa ρ S) := by unfold fEnum kEnum; rfl
theorem v_enumL {ds : List D} : kEnum (.ok [.lst ds] true S) = .ok (enumD ds) none S := rfl
theorem v_enumT {ds : List D} : kEnum (.ok [.tup ds] true S) = .ok (enumD ds) none S := rfl
def kRaise (c : Nat) (n : Str) (ρ : Ev) (r : RA) : RSt := match r with
  | .ok [d] true S1 => .xc c [(n, d)] ρ S1
  | .xc c' fs S1 => .xc c' fs ρ S1
  | _ => .bad
theorem v_raise {n : Str} {fa : FA} : sRaise c n fa ρ S = kRaise c n ρ (fa ρ S) := by unfold sRaise kRaise; rfl
theorem v_raise0 : sRaise0 c ρ S = .xc c [] ρ S := rfl
theorem v_raise1 {n : Str} : kRaise c n ρ (.ok [d] true S) = .xc c [(n, d)] ρ S := rfl
def kTry (em : Nat → Nat → Option Bool) (l : List (Nat × Option Nat × FS)) (r : RSt) : RSt := match r with
  | .xc c fs ρ' S' => hand em c fs ρ' S' l
  | r => r
theorem v_try {em : Nat → Nat → Option Bool} {b : FS} {l : List (Nat × Option Nat × FS)} : sTry em b l ρ S = kTry em l (b ρ S) := by unfold sTry kTry; rfl
theorem v_tryN {em : Nat → Nat → Option Bool} {l : List (Nat × Option Nat × FS)} : kTry em l (.nx ρ S) = .nx ρ S := rfl
theorem v_tryX {em : Nat → Nat → Option Bool} {l : List (Nat × Option Nat × FS)} : kTry em l (.xc c fs ρ S) = hand em c fs ρ S l := rfl
def kRun (r : RSt) : RE := match r with
  | .nx _ S' => .ok .non .tr S'
  | .rt d f S' => .ok d f S'
  | .xc c fs _ S' => .xc c fs S'
  | _ => .bad
theorem v_r0 {n : Nat} {b : FS} : runF n 0 b [] S = kRun (b (List.replicate n .no) S) := rfl
theorem v_r1 {n : Nat} {b : FS} {x : D} : runF n 1 b [x] S = kRun (b (.val x :: List.replicate (n - 1) .no) S) := rfl
theorem v_r2 {n : Nat} {b : FS} {x y : D} : runF n 2 b [x, y] S = kRun (b (.val x :: .val y :: List.replicate (n - 2) .no) S) := rfl
theorem v_r3 {n : Nat} {b : FS} {x y z : D} : runF n 3 b [x, y, z] S = kRun (b (.val x :: .val y :: .val z :: List.replicate (n - 3) .no) S) := rfl
theorem v_r4 {n : Nat} {b : FS} {x y z w : D} : runF n 4 b [x, y, z, w] S = kRun (b (.val x :: .val y :: .val z :: .val w :: List.replicate (n - 4) .no) S) := rfl
theorem v_r5 {n : Nat} {b : FS} {x y z w u : D} : runF n 5 b [x, y, z, w, u] S = kRun (b (.val x :: .val y :: .val z :: .val w :: .val u :: List.replicate (n - 5) .no) S) := rfl
def kNox (r : RE) : RE := match r with
  | .xc _ _ _ => .bad
  | r => r
theorem v_nx {g : FF} {ds : List D} : noxF g ds S = kNox (g ds S) := rfl
theorem v_nx1 : kNox (.ok d f S) = .ok d f S := rfl
theorem v_run1 : kRun (.rt d f S) = .ok d f S := rfl
theorem v_run2 : kRun (.nx ρ S) = .ok .non .tr S := rfl
theorem v_run3 : kRun (.xc c fs ρ S) = .xc c fs S := rfl
end
section
variable {S : Sto}
theorem d_eq_str {neg : Bool} {a b : Str} : dEqv neg (.str a) (.str b) S = .ok (.bl (neg ^^ decide (a = b))) .tr S := by
  unfold dEqv toP; simp only [tree, scalP, Bool.true_or, if_true]
  have : PyData.eqv (.str a) (.str b) = decide (a = b) := by simp [PyData.eqv]; rw [Bool.eq_iff_iff]; simp
  rw [this]
theorem d_eq_int {neg : Bool} {a b : Int} : dEqv neg (.int a) (.int b) S = .ok (.bl (neg ^^ decide (a = b))) .tr S := by
  unfold dEqv toP; simp only [tree, scalP, Bool.true_or, if_true]
  have : PyData.eqv (.int a) (.int b) = decide (a = b) := by simp [PyData.eqv]; rw [Bool.eq_iff_iff]; simp
  rw [this]
theorem d_add_int {a b : Int} : dAdd (.int a) (.int b) S = .ok (.int (a + b)) .tr S := rfl
theorem d_add_lst {a b : List D} (h : a.length + b.length ≤ lim) : dAdd (.lst a) (.lst b) S = .ok (.lst (a ++ b)) .fs S := by unfold dAdd; simp [h, lsOf]
theorem d_sub {a b : Int} : dSub (.int a) (.int b) S = .ok (.int (a - b)) .tr S := rfl
theorem d_mul {a b : Int} (h : CMul a b) : dMul (.int a) (.int b) S = .ok (.int (a * b)) .tr S := by unfold dMul; simp [h]
theorem d_fdiv {a b : Int} (h : CDiv a b) : dFdiv (.int a) (.int b) S = .ok (.int (a / b)) .tr S := by unfold dFdiv; simp [h]
theorem d_mod {a b : Int} (h : 0 < b) : dMod (.int a) (.int b) S = .ok (.int (a % b)) .tr S := by unfold dMod; simp [h]
theorem d_pow {a b : Int} (h : CPow a b) : dPow (.int a) (.int b) S = .ok (.int (a ^ b.toNat)) .tr S := by unfold dPow; simp [h]
theorem d_cmp {p : Int → Int → Bool} {q : List Nat → List Nat → Bool} {a b : Int} : dCmp p q (.int a) (.int b) S = .ok (.bl (p a b)) .tr S := rfl
theorem d_len_lst {ds : List D} {t : Bool} : dLen [.lst ds] t S = .ok (.int ds.length) .tr S := rfl
theorem d_len_tup {ds : List D} {t : Bool} : dLen [.tup ds] t S = .ok (.int ds.length) .tr S := rfl
theorem d_len_fro {l : Bool} {ds : List D} {t : Bool} : dLen [.fro l ds] t S = .ok (.int ds.length) .tr S := rfl
theorem d_ix_tup {ds : List D} {i : Int} {x : D} (h : atI ds i = some x) : dIx (.tup ds) (.int i) S = .ok x .tr S := by unfold dIx; simp [sqOf, h]
theorem d_ix_lst {ds : List D} {i : Int} {x : D} (h : atI ds i = some x) : dIx (.lst ds) (.int i) S = .ok x .tr S := by unfold dIx; simp [sqOf, h]
theorem d_ix_fro {l : Bool} {ds : List D} {i : Int} {x : D} (h : atI ds i = some x) : dIx (.fro l ds) (.int i) S = .ok x .tr S := by unfold dIx; simp [sqOf, h]
theorem d_ix_cel {k : Nat} {ds : List D} {i : Int} {x : D} (hs : S[k]? = some (.lst ds)) (h : atI ds i = some x) : dIx (.cel k) (.int i) S = .ok x .tr S := by unfold dIx; simp [sqOf, hs, h]
theorem d_nil {neg : Bool} {ds : List D} : dNil neg (.lst ds) (.lst []) S = .ok (.bl (neg ^^ ds.isEmpty)) .tr S := rfl
theorem d_max {i j : Int} {t : Bool} : dMax [.int i, .int j] t S = .ok (.int (if j > i then j else i)) .tr S := rfl
theorem d_min {i j : Int} {t : Bool} : dMin [.int i, .int j] t S = .ok (.int (if j < i then j else i)) .tr S := rfl
theorem d_sl_lst {ds : List D} {lo hi : Option Int} : dSl (.lst ds) lo hi S = .ok (.lst (cutD ds lo hi)) .fs S := rfl
theorem d_list {ds : List D} {t : Bool} : dList [.lst ds] t S = .ok (.lst ds) .fs S := rfl
theorem d_listT {ds : List D} {t : Bool} : dList [.tup ds] t S = .ok (.lst ds) .fs S := rfl
theorem d_tuple {ds : List D} {t : Bool} : dTuple [.lst ds] t S = .ok (.tup ds) .tr S := rfl
theorem d_isN {neg : Bool} {d : D} : dIsN neg d .non S = .ok (.bl (if neg then !Fx.isNon d else Fx.isNon d)) .tr S := rfl
theorem d_isB {neg j k : Bool} : dIs neg (.bl j) (.bl k) S = .ok (.bl (if neg then !decide (j = k) else decide (j = k))) .tr S := rfl
end
end
end Fx
namespace Fx
open PySem PySem.Spec PyProof.Rows L2 U
noncomputable section
def putD (f : Str) (d : D) : List (Str × D) → List (Str × D)
  | [] => [(f, d)]
  | (g, x) :: r => if g = f then (g, d) :: r else (g, x) :: putD f d r
section
variable {K : PySem.W.Frag} {ca : Nat → Addr} {ι B : List Addr} {H : Hp}
theorem RFs.len : ∀ {es : List (Str × D)} {fs : List (Str × V)}, RFs K ca ι B H fs es → fs.length = es.length
  | [], _, h => by cases h; rfl
  | (g, x) :: es, _, h => by
    cases h with
    | cons h1 h2 => rw [List.length_cons, List.length_cons, RFs.len h2]
end
section
variable {G : Gm} {E : WX} {F : Fr} {Dd : Ends} {ι ω ι1 ω1 : List Addr} {ρ : Ev} {S S1 : Sto} {σ : L2.St} {H H1 : Hp} {Q : VK}
def fFld (cf : Nat → Str → Bool) (f : Str) (fe : FE) : FE := fun ρ S => bE (fe ρ S) fun d _ S1 => (match d with
  | .obj c es => if cf c f = true then (match es.lookup f with
    | some x => .ok x .tr S1
    | none => .bad) else .bad
  | _ => .bad)
def sSetF (cf : Nat → Str → Bool) (i : Nat) (f : Str) (fe : FE) : FS := fun ρ S => eS (fe ρ S) ρ fun d fl S1 => if fl.nop = true then (match ρ[i]? with
  | some (.oob c es) => if (cf c f && decide (es.length < 100)) = true then .nx (ρ.set i (.oob c (putD f d es))) S1 else .bad
  | _ => .bad) else .bad
end
def lookF {α : Type} (c : Nat) : List (Nat × α) → Option α
  | [] => none
  | (k, f) :: l => if k = c then some f else lookF c l
def kMeth (tab : List (Nat × FF)) (m : Str) (fa : FA) (ρ : Ev) (d : D) (f : Fl) (S : Sto) : RE := match d with
  | .obj c es => if (f.nop && (es.lookup m).isNone) = true then (match lookF c tab with
    | some F => fCB (fun ds t S2 => if t = true then F (.obj c es :: ds) S2 else .bad) fa ρ S
    | none => .bad) else .bad
  | _ => .bad
def fMeth (tab : List (Nat × FF)) (m : Str) (fo : FE) (fa : FA) : FE := fun ρ S => bE (fo ρ S) (kMeth tab m fa ρ)
def kSp1 (tab : List (Nat × FF)) (ok : D → Bool) (d : D) (f : Fl) (S : Sto) : RE := match d with
  | .obj c es => if f.nop = true then (match lookF c tab with
    | some F => bE (F [.obj c es] S) fun r fl S2 => if (ok r && fl.nop) = true then .ok r .tr S2 else .bad
    | none => .bad) else .bad
  | _ => .bad
def fSp1 (tab : List (Nat × FF)) (ok : D → Bool) (fo : FE) : FE := fun ρ S => bE (fo ρ S) (kSp1 tab ok)
inductive RIn where
  | ok (es : List (Str × D)) (S : Sto) | xc (c : Nat) (fs : List (Str × D)) (S : Sto) | bad
/-- class, fields so far, arguments behind self -/
abbrev FIn := Nat → List (Str × D) → List D → Sto → RIn
def kRunI (c : Nat) : RSt → RIn
  | .nx ρ' S' => (match ρ'[0]? with
    | some (Sl.oob c' es') => if c' = c then .ok es' S' else .bad
    | _ => .bad)
  | .xc c' fs _ S' => .xc c' fs S'
  | _ => .bad
/-- C(..) -/
def kMk (c : Nat) (f : FIn) (ds : List D) (S : Sto) : RE := match f c [] ds S with
  | .ok es S' => .ok (.obj c es) .fs S'
  | .xc c' fs S' => .xc c' fs S'
  | .bad => .bad
def fMk (c : Nat) (f : FIn) (dd : List D) (fa : FA) : FE := fCB (fun ds t S => if t = true then kMk c f (ds ++ dd) S else .bad) fa
section
variable {G : Gm} {E : WX} {F : Fr} {ι ω : List Addr} {ρ : Ev} {S : Sto} {σ : L2.St} {H : Hp} {Q : VK}
def fMkK (n m : Nat) (c : Nat) (f : FIn) (gD : List D → List D → List D) (fa fk : FA) : FE := fun ρ S => match fa ρ S with
  | .ok ds true S1 => (match fk ρ S1 with
    | .ok es true S2 => if ds.length = n ∧ es.length = m then kMk c f (gD ds es) S2 else .bad
    | .xc c fs S2 => .xc c fs S2
    | _ => .bad)
  | .xc c fs S1 => .xc c fs S1
  | _ => .bad
/-- C.m(..), m a classmethod -/
def fCMeth (c : Nat) (f : FF) (fa : FA) : FE := fCB (fun ds t S => if t = true then f (.cls c :: ds) S else .bad) fa
def fFmt (fe : FE) : FE := fun ρ S => bE (fe ρ S) fun d _ S1 => (match d with
  | .str z => if z.length ≤ lim then .ok (.str z) .tr S1 else .bad
  | .int i => if i.natAbs.log2 < 1920 then .ok (.str (toString i)) .tr S1 else .bad
  | _ => .bad)
def fJs : List FE → Str → FE
  | [], acc => fun _ S => .ok (.str acc) .tr S
  | fe :: fs, acc => fun ρ S => bE (fe ρ S) fun d _ S1 => (match d with
    | .str y => if (acc ++ y).length ≤ lim then fJs fs (acc ++ y) ρ S1 else .bad
    | _ => .bad)
def rgD (a b : Int) : List D := (List.range (b - a).toNat).map fun i => D.int (a + (i : Nat))
def rgOk (a b : Int) : Bool := decide (-1000000 ≤ a ∧ a ≤ 1000000 ∧ -1000000 ≤ b ∧ b ≤ 1000000)
def fLRg (fa fb : FE) : FE := fun ρ S => bE (fa ρ S) fun d _ S1 => (match d with
  | .int a => bE (fb ρ S1) fun e _ S2 => (match e with
    | .int b => if rgOk a b = true then .ok (.lst (rgD a b)) .fs S2 else .bad
    | _ => .bad)
  | _ => .bad)
end
end
end Fx
namespace Fx
open PySem PySem.Spec PyProof.Rows L2 U
noncomputable section
section
variable {ρ : Ev} {S S1 S2 : Sto} {d e : D} {f : Fl} {c : Nat} {fs es : List (Str × D)}
def kFld (cf : Nat → Str → Bool) (n : Str) (d : D) (_ : Fl) (S1 : Sto) : RE := match d with
  | .obj c es => if cf c n = true then (match es.lookup n with
    | some x => .ok x .tr S1
    | none => .bad) else .bad
  | _ => .bad
theorem v_fld {cf : Nat → Str → Bool} {n : Str} {fe : FE} : fFld cf n fe ρ S = bE (fe ρ S) (kFld cf n) := rfl
def kSetF (cf : Nat → Str → Bool) (i : Nat) (n : Str) (ρ : Ev) (d : D) (fl : Fl) (S1 : Sto) : RSt := if fl.nop = true then (match ρ[i]? with
  | some (.oob c es) => if (cf c n && decide (es.length < 100)) = true then .nx (ρ.set i (.oob c (putD n d es))) S1 else .bad
  | _ => .bad) else .bad
theorem v_setF {cf : Nat → Str → Bool} {i : Nat} {n : Str} {fe : FE} : sSetF cf i n fe ρ S = eS (fe ρ S) ρ (kSetF cf i n ρ) := rfl
theorem v_meth {tab : List (Nat × FF)} {m : Str} {fo : FE} {fa : FA} : fMeth tab m fo fa ρ S = bE (fo ρ S) (kMeth tab m fa ρ) := rfl
def kMethA (g : FF) (d : D) (ds : List D) (t : Bool) (S2 : Sto) : RE := if t = true then g (d :: ds) S2 else .bad
theorem v_methA {g : FF} {ds : List D} : kMethA g d ds true S = g (d :: ds) S := rfl
theorem v_sp1 {tab : List (Nat × FF)} {ok : D → Bool} {fo : FE} : fSp1 tab ok fo ρ S = bE (fo ρ S) (kSp1 tab ok) := rfl
theorem v_mk {g : FIn} {dd : List D} {fa : FA} : fMk c g dd fa ρ S = bA (fa ρ S) (fun ds t S => if t = true then kMk c g (ds ++ dd) S else .bad) := rfl
def kMkK2 (n m c : Nat) (g : FIn) (gD : List D → List D → List D) (ds : List D) (r : RA) : RE := match r with
  | .ok es true S2 => if ds.length = n ∧ es.length = m then kMk c g (gD ds es) S2 else .bad
  | .xc c fs S2 => .xc c fs S2
  | _ => .bad
def kMkK (n m c : Nat) (g : FIn) (gD : List D → List D → List D) (fk : FA) (ρ : Ev) (r : RA) : RE := match r with
  | .ok ds true S1 => kMkK2 n m c g gD ds (fk ρ S1)
  | .xc c fs S1 => .xc c fs S1
  | _ => .bad
theorem v_mkK {n m : Nat} {g : FIn} {gD : List D → List D → List D} {fa fk : FA} : fMkK n m c g gD fa fk ρ S = kMkK n m c g gD fk ρ (fa ρ S) := by unfold fMkK kMkK kMkK2; rfl
theorem v_mkK1 {n m : Nat} {g : FIn} {gD : List D → List D → List D} {fk : FA} {ds : List D} : kMkK n m c g gD fk ρ (.ok ds true S) = kMkK2 n m c g gD ds (fk ρ S) := rfl
theorem v_cmeth {g : FF} {fa : FA} : fCMeth c g fa ρ S = bA (fa ρ S) (kMethA g (.cls c)) := rfl
theorem v_runI1 {r : Ev} : kRunI c (.nx (.oob c es :: r) S) = .ok es S := by unfold kRunI; simp
theorem v_runIx {c' : Nat} : kRunI c (.xc c' fs ρ S) = .xc c' fs S := rfl
def kFmt (d : D) (_ : Fl) (S1 : Sto) : RE := match d with
  | .str z => if z.length ≤ lim then .ok (.str z) .tr S1 else .bad
  | .int i => if i.natAbs.log2 < 1920 then .ok (.str (toString i)) .tr S1 else .bad
  | _ => .bad
theorem v_fmt {fe : FE} : fFmt fe ρ S = bE (fe ρ S) kFmt := rfl
def kJs (fs : List FE) (acc : Str) (ρ : Ev) (d : D) (_ : Fl) (S1 : Sto) : RE := match d with
  | .str y => if (acc ++ y).length ≤ lim then fJs fs (acc ++ y) ρ S1 else .bad
  | _ => .bad
theorem v_js0 {acc : Str} : fJs [] acc ρ S = .ok (.str acc) .tr S := rfl
theorem v_js {fe : FE} {fs : List FE} {acc : Str} : fJs (fe :: fs) acc ρ S = bE (fe ρ S) (kJs fs acc ρ) := rfl
def kLRg2 (a : Int) (e : D) (_ : Fl) (S2 : Sto) : RE := match e with
  | .int b => if rgOk a b = true then .ok (.lst (rgD a b)) .fs S2 else .bad
  | _ => .bad
def kLRg (fb : FE) (ρ : Ev) (d : D) (_ : Fl) (S1 : Sto) : RE := match d with
  | .int a => bE (fb ρ S1) (kLRg2 a)
  | _ => .bad
theorem v_lrg {fa fb : FE} : fLRg fa fb ρ S = bE (fa ρ S) (kLRg fb ρ) := rfl
theorem v_lrg1 {fb : FE} {a : Int} : kLRg fb ρ (.int a) f S = bE (fb ρ S) (kLRg2 a) := rfl
/-- keyword calls -/
def kCallK2 (n m : Nat) (g : FF) (gD : List D → List D → List D) (ds : List D) (r : RA) : RE := match r with
  | .ok es true S2 => if ds.length = n ∧ es.length = m then g (gD ds es) S2 else .bad
  | .xc c fs S2 => .xc c fs S2
  | _ => .bad
def kCallK (n m : Nat) (g : FF) (gD : List D → List D → List D) (fk : FA) (ρ : Ev) (r : RA) : RE := match r with
  | .ok ds true S1 => kCallK2 n m g gD ds (fk ρ S1)
  | .xc c fs S1 => .xc c fs S1
  | _ => .bad
theorem v_callK {n m : Nat} {g : FF} {gD : List D → List D → List D} {fa fk : FA} : fCallK n m g gD fa fk ρ S = kCallK n m g gD fk ρ (fa ρ S) := by unfold fCallK kCallK kCallK2; rfl
theorem v_callK1 {n m : Nat} {g : FF} {gD : List D → List D → List D} {fk : FA} {ds : List D} : kCallK n m g gD fk ρ (.ok ds true S) = kCallK2 n m g gD ds (fk ρ S) := rfl
end
end
end Fx
namespace Fx
open PySem PySem.Spec PyProof.Rows L2 U
end Fx
namespace Fx
open PySem PySem.Spec PyProof.Rows L2 U
noncomputable section
/-- kinds of things -/
inductive Tg where
  | non | bl | int | str | lst | tup | dct | obj (c : Nat)
def tgD (S : Sto) : D → Option Tg
  | .non => some .non
  | .bl _ => some .bl
  | .int _ => some .int
  | .str _ => some .str
  | .lst _ => some .lst
  | .tup _ => some .tup
  | .dct _ => some .dct
  | .obj c _ => some (.obj c)
  | .cel k => (match S[k]? with
    | some (.lst _) => some .lst
    | some (.dK _) => some .dct
    | some (.ins c _) => some (.obj c)
    | none => none)
  | _ => none
def fIsiX (kt : Tg → Option Bool) (fe : FE) : FE := fun ρ S => bE (fe ρ S) fun d _ S1 => (match (tgD S1 d).bind kt with
  | some b => .ok (.bl b) .tr S1
  | none => .bad)
section
variable {G : Gm} {E : WX}
def fBinO (tab : List (Nat × FF)) (rg : Nat → Tg → Bool) (fa fb : FE) : FE := fun ρ S => bE (fa ρ S) fun d f1 S1 => bE (fb ρ S1) fun e f2 S2 => (match d with
  | .obj c es => if (f1.nop && f2.nop) = true then (match lookF c tab, tgD S2 e with
    | some F, some g => if rg c g = true then F [.obj c es, e] S2 else .bad
    | _, _ => .bad) else .bad
  | _ => .bad)
def fInO (neg : Bool) (tab : List (Nat × FF)) (fa fb : FE) : FE := fun ρ S => bE (fa ρ S) fun d f1 S1 => bE (fb ρ S1) fun e f2 S2 => (match e with
  | .obj c es => if (f1.nop && f2.nop) = true then (match lookF c tab with
    | some F => bE (F [.obj c es, d] S2) fun r _ S3 => (match r with
      | .bl k => .ok (.bl (k != neg)) .tr S3
      | _ => .bad)
    | none => .bad) else .bad
  | _ => .bad)
def fEqO (tab : List (Nat × FF)) (fa fb : FE) : FE := fun ρ S => bE (fa ρ S) fun d f1 S1 => bE (fb ρ S1) fun e f2 S2 => (match d, e with
  | .obj c es, .obj c' es' => if (f1.nop && f2.nop && decide (c' = c)) = true then (match lookF c tab with
    | some F => bE (F [.obj c es, .obj c' es'] S2) fun r _ S3 => (match r with
      | .bl k => .ok (.bl k) .tr S3
      | _ => .bad)
    | none => .bad) else .bad
  | _, _ => .bad)
end
section
variable {G : Gm} {E : WX}
def sAugD (i : Nat) (f : D → D → Sto → RE) (fe : FE) : FS := fun ρ S => match ρ[i]? with
  | some (.val x) => eS (fe ρ S) ρ fun d _ S1 => eS (f x d S1) ρ fun r fl S2 => if fl.nop = true then .nx (ρ.set i (.val r)) S2 else .bad
  | _ => .bad
end
def firstIdx (q : PyData) : List PyData → Nat → Option Nat
  | [], _ => none
  | p :: ps, i => if PyData.eqv p q = true then some i else firstIdx q ps (i + 1)
section
variable {G : Gm} {E : WX}
def isLs (S : Sto) : D → Bool
  | .lst _ => true
  | .cel k => (match S[k]? with | some (.lst _) => true | _ => false)
  | _ => false
def kIdxL (d e : D) (S : Sto) : RE := match toP S d, toP S e with
  | some (.list ps), some q => if (SeqAt.shaped (.list ps) && SeqAt.shaped q && !(PyData.list ps).hasDict && !q.hasDict) = true then (match firstIdx q ps 0 with
    | some j => .ok (.int (j : Nat)) .tr S
    | none => .bad) else .bad
  | _, _ => .bad
def fIdxL (fo fe : FE) : FE := fun ρ S => bE (fo ρ S) fun d _ S1 => if isLs S1 d = true then bE (fe ρ S1) fun e _ S2 => kIdxL d e S2 else .bad
end
section
variable {ρ : Ev} {S S1 S2 : Sto} {d e : D} {f f1 f2 fl : Fl} {c : Nat} {fs es : List (Str × D)} {tab : List (Nat × FF)}
def kIsiX (kt : Tg → Option Bool) (d : D) (_ : Fl) (S1 : Sto) : RE := match (tgD S1 d).bind kt with
  | some b => .ok (.bl b) .tr S1
  | none => .bad
theorem v_isiX {kt : Tg → Option Bool} {fe : FE} : fIsiX kt fe ρ S = bE (fe ρ S) (kIsiX kt) := rfl
def kBinO2 (tab : List (Nat × FF)) (rg : Nat → Tg → Bool) (d : D) (f1 : Fl) (e : D) (f2 : Fl) (S2 : Sto) : RE := match d with
  | .obj c es => if (f1.nop && f2.nop) = true then (match lookF c tab, tgD S2 e with
    | some F, some g => if rg c g = true then F [.obj c es, e] S2 else .bad
    | _, _ => .bad) else .bad
  | _ => .bad
def kBinO1 (tab : List (Nat × FF)) (rg : Nat → Tg → Bool) (fb : FE) (ρ : Ev) (d : D) (f1 : Fl) (S1 : Sto) : RE := bE (fb ρ S1) (kBinO2 tab rg d f1)
theorem v_binO {rg : Nat → Tg → Bool} {fa fb : FE} : fBinO tab rg fa fb ρ S = bE (fa ρ S) (kBinO1 tab rg fb ρ) := rfl
theorem v_binO1 {rg : Nat → Tg → Bool} {fb : FE} : kBinO1 tab rg fb ρ d f S = bE (fb ρ S) (kBinO2 tab rg d f) := rfl
def kInO3 (neg : Bool) (r : D) (_ : Fl) (S3 : Sto) : RE := match r with
  | .bl k => .ok (.bl (k != neg)) .tr S3
  | _ => .bad
def kInO2 (neg : Bool) (tab : List (Nat × FF)) (d : D) (f1 : Fl) (e : D) (f2 : Fl) (S2 : Sto) : RE := match e with
  | .obj c es => if (f1.nop && f2.nop) = true then (match lookF c tab with
    | some F => bE (F [.obj c es, d] S2) (kInO3 neg)
    | none => .bad) else .bad
  | _ => .bad
def kInO1 (neg : Bool) (tab : List (Nat × FF)) (fb : FE) (ρ : Ev) (d : D) (f1 : Fl) (S1 : Sto) : RE := bE (fb ρ S1) (kInO2 neg tab d f1)
theorem v_inO {neg : Bool} {fa fb : FE} : fInO neg tab fa fb ρ S = bE (fa ρ S) (kInO1 neg tab fb ρ) := rfl
theorem v_inO1 {neg : Bool} {fb : FE} : kInO1 neg tab fb ρ d f S = bE (fb ρ S) (kInO2 neg tab d f) := rfl
theorem v_inO3 {neg k : Bool} : kInO3 neg (.bl k) f S = .ok (.bl (k != neg)) .tr S := rfl
def kEqO3 (r : D) (_ : Fl) (S3 : Sto) : RE := match r with
  | .bl k => .ok (.bl k) .tr S3
  | _ => .bad
def kEqO2 (tab : List (Nat × FF)) (d : D) (f1 : Fl) (e : D) (f2 : Fl) (S2 : Sto) : RE := match d, e with
  | .obj c es, .obj c' es' => if (f1.nop && f2.nop && decide (c' = c)) = true then (match lookF c tab with
    | some F => bE (F [.obj c es, .obj c' es'] S2) kEqO3
    | none => .bad) else .bad
  | _, _ => .bad
def kEqO1 (tab : List (Nat × FF)) (fb : FE) (ρ : Ev) (d : D) (f1 : Fl) (S1 : Sto) : RE := bE (fb ρ S1) (kEqO2 tab d f1)
theorem v_eqO {fa fb : FE} : fEqO tab fa fb ρ S = bE (fa ρ S) (kEqO1 tab fb ρ) := rfl
theorem v_eqO1 {fb : FE} : kEqO1 tab fb ρ d f S = bE (fb ρ S) (kEqO2 tab d f) := rfl
theorem v_eqO3 {k : Bool} : kEqO3 (.bl k) f S = .ok (.bl k) .tr S := rfl
def kAugD2 (i : Nat) (ρ : Ev) (r : D) (fl : Fl) (S2 : Sto) : RSt := if fl.nop = true then .nx (ρ.set i (.val r)) S2 else .bad
def kAugD1 (i : Nat) (g : D → D → Sto → RE) (ρ : Ev) (x d : D) (_ : Fl) (S1 : Sto) : RSt := eS (g x d S1) ρ (kAugD2 i ρ)
def kAugD (i : Nat) (g : D → D → Sto → RE) (fe : FE) (ρ : Ev) (S : Sto) (s : Option Sl) : RSt := match s with
  | some (.val x) => eS (fe ρ S) ρ (kAugD1 i g ρ x)
  | _ => .bad
theorem v_augD {i : Nat} {g : D → D → Sto → RE} {fe : FE} : sAugD i g fe ρ S = kAugD i g fe ρ S ρ[i]? := by unfold sAugD kAugD kAugD1 kAugD2; rfl
theorem v_augD0 {i : Nat} {g : D → D → Sto → RE} {fe : FE} {x : D} : kAugD i g fe ρ S (some (.val x)) = eS (fe ρ S) ρ (kAugD1 i g ρ x) := rfl
theorem v_augD1 {i : Nat} {g : D → D → Sto → RE} {x : D} : kAugD1 i g ρ x d f S = eS (g x d S) ρ (kAugD2 i ρ) := rfl
theorem v_augD2 {i : Nat} : kAugD2 i ρ d .tr S = .nx (ρ.set i (.val d)) S := rfl
def kIdx2 (d e : D) (_ : Fl) (S : Sto) : RE := kIdxL d e S
def kIdx1 (fe : FE) (ρ : Ev) (d : D) (_ : Fl) (S1 : Sto) : RE := if isLs S1 d = true then bE (fe ρ S1) (kIdx2 d) else .bad
theorem v_idxL {fo fe : FE} : fIdxL fo fe ρ S = bE (fo ρ S) (kIdx1 fe ρ) := rfl
theorem v_idxL1 {fe : FE} {ds : List D} : kIdx1 fe ρ (.lst ds) f S = bE (fe ρ S) (kIdx2 (.lst ds)) := rfl
theorem v_idxL2 : kIdx2 d e f S = kIdxL d e S := rfl
end
end
end Fx
namespace U
open PySem PySem.Spec PyProof.Rows L2 NdefX
/-- statements of a def whose own code is known -/
structure PSA (X : Cx) (c : Code) (b : List Stmt) (t : TS) : Prop where
  run : ∀ (pins : List (Addr × Obj)) (s : Shared) (σ : L2.St) (H : Hp) (D : Ends), Inv X pins σ H s → t D σ H → _root_.PySem.wpAt (model X.prog X.w) X.A c (execs b X.env) (SP X pins D) X.xe s
/-- what the text says for super() in a method at f of the class at D, whose cell is cc and code object cda; f2 the method of the class above -/
structure SupC (P : Program) (K : PySem.W.Frag) (D f2 cc cda : Addr) : Prop where
  cell : ∃ cl cld csl, K.lookup cc = some ⟨cl, cld, .cell (some (.ref D)), csl⟩
  code : ∃ ccl cdd vs ccs file tf, K.lookup cda = some ⟨ccl, cdd, .fields vs, ccs⟩ ∧ vs[2]? = some (.str file tf) ∧ ((P.main.file : Str) == file) = true
  top : (P.main.scope.names.lookup ("super" : Str)).isSome = false
  cls : ∃ cd, PySem.W.clsIn K D = some cd ∧ PySem.W.alongIn K "__init__" ((cd.mro.dropWhile (· != .ref D)).drop 1) = some (some (.ref f2))
  sub : PySem.W.mroIn K D (.ref D) = some true
  opq : PySem.W.nsIn K cStatics "thirdparty.any" = some none
  ty : PySem.W.typeIn K (.ref f2) = some (.type "function")
  fi : PySem.W.fnIn K f2 = true
abbrev nfS (name qual : Str) (params : Arguments) (body : List Stmt) (scope : Scope) (cc cda : Addr) : NF := ⟨name, qual, params, body, scope, [("__class__", cc)], cda⟩
abbrev cxS (CX : CXT) (P : Program) (w : World) (K : PySem.W.Frag) (mg : Str → Option Value) (base : Heap) (N : List Str) (name qual : Str) (params : Arguments) (body : List Stmt) (scope : Scope) (cc cda f : Addr) (A : Around) (outer : List Env) (s : Shared) (H : Hp) (E : XK) : Cx :=
  ncx CX P w K mg base N (nfS name qual params body scope cc cda) f A outer s H E
abbrev envS (name qual : Str) (params : Arguments) (body : List Stmt) (scope : Scope) (cc cda f L : Addr) : Env := envF (nfS name qual params body scope cc cda) f L
theorem fn_ofS {CX : CXT} {P : Program} {w : World} {K : PySem.W.Frag} {mg : Str → Option Value} {base : Heap} {k : Nat} {f cc cda D : Addr} {name qual : Str} {params : Arguments} {body : List Stmt} {scope : Scope} {dV kV doc pm ct oc : Value} {an od : Option Addr}
    {osl : Array (Option Value)} {N ps : List Str} {sp : Sp} (lk : K.lookup f = some ⟨oc, od, .func (PySem.W.ksFn name qual params body scope dV kV doc pm an (.ref cda) ct cc), osl⟩) (hcd : PySem.W.codeIn K (.ref cda) qual = true) (S : NScope N ps ["__class__"] scope)
    (cell : ∃ cl cld csl, K.lookup cc = some ⟨cl, cld, .cell (some (.ref D)), csl⟩) (len : ∀ vs H Q E, sp vs H Q E → vs.length = ps.length)
    (hbody : ∀ (A : Around) (outer : List Env) (s : Shared) (H : Hp) (vs : List V) (Q : VK) (E : XK), Room k (A.deeper (envS name qual params body scope cc cda f s.heap.objs.size)) → sp vs H Q E →
      ∃ t, PSA (cxS CX P w K mg base N name qual params body scope cc cda f A outer s H E) (.func body (envS name qual params body scope cc cda f s.heap.objs.size)) body t ∧ t { nx := fun _ H' => Q .non H', rt := Q } (startF N vs [some (.ref D)]) H) :
    FnOk P w K mg base CX (k + 1) f (PySem.W.ksFn name qual params body scope dV kV doc pm an (.ref cda) ct cc) ps sp := by
  obtain ⟨cl, cld, csl, cell⟩ := cell
  refine ⟨len, fun A outer s H args us vs Q E hr e0 hb r hsp => ?_⟩
  have hl := len _ _ _ _ hsp
  have KX : K.In s.heap := e0.mod.kin.keeps fun b o e => (e0.bs b o e).1
  have lim : s.heap.NoLimit := e0.mod.nolimit.keeps fun b o e => (e0.bs b o e).1
  have C : CellsAt [(("__class__" : Str), cc)] ["__class__"] [some (.ref D)] s.heap H := by
    have one : ∀ {y c}, ([(("__class__" : Str), cc)] : List (Str × Addr)).lookup y = some c → y = "__class__" ∧ c = cc := fun {y c} h => by
      rw [List.lookup_cons] at h
      split at h
      · rename_i z; cases h; exact ⟨by simpa using z, rfl⟩
      · cases h
    refine ⟨rfl, fun y c h => ?_, fun x y c h1 h2 => (one h1).1.trans (one h2).1.symm, fun i y h => ?_⟩
    · obtain ⟨_, rfl⟩ := one h
      exact ⟨(e0.bs _ _ (e0.mod.kin _ _ cell)).2, _, _, KX _ _ cell, rfl⟩
    · cases i with
      | zero =>
        cases h
        exact ⟨cc, rfl, fun v hv => by cases hv; exact ⟨.ref D, rfl, _, KX _ _ cell, rfl⟩⟩
      | succ i => cases h
  refine ks_codeAny_call_defAt (fd := PySem.W.ksFn name qual params body scope dV kV doc pm an (.ref cda) ct cc) (body := body) (binds := ps.zip us) hr.depth (KX _ _ lk) rfl lim (PySem.W.codeRec_of KX hcd) rfl hb S.nocell (fun ⟨n, _⟩ hy => S.par n (List.of_mem_zip hy).1) (fun h₁ hns kp => ?_) S.co S.gen S.kind
  obtain ⟨t, ht, hq⟩ := hbody A outer s H vs Q E (hr.deeper _) hsp
  have I : Inv (cxS CX P w K mg base N name qual params body scope cc cda f A outer s H E) [] (startF N vs [some (.ref D)]) H { s with heap := h₁, toks := s.toks + (ps.zip us).length } := inv_startN S hr.hd e0 hl r C hns kp
  refine ks_wpAt_mono (ht.run [] _ _ H _ I hq) (fun fl s' hs => ?_) fun e s' hs => hs
  have fin : ∀ {σ' : L2.St} {H' : Hp} {v : V} {u : Value}, Inv (cxS CX P w K mg base N name qual params body scope cc cda f A outer s H E) [] σ' H' s' → L2.RelV v u → Q v H' → CE outer P w H s Q u s' :=
    fun {σ' H' v u} J rv q => ⟨v, H', J.os, J.bare, J.base, J.hok, rv, q⟩
  cases fl with
  | ret u =>
    obtain ⟨v, σ', H', J, rv, q⟩ := hs
    exact fin J rv q
  | next =>
    obtain ⟨σ', H', J, q⟩ := hs
    exact fin (v := V.non) (u := Value.none) J rfl q
  | brk =>
    obtain ⟨_, _, _, q⟩ := hs
    exact False.elim q
  | cont =>
    obtain ⟨_, _, _, q⟩ := hs
    exact False.elim q
end U
namespace Fx
open PySem PySem.Spec PyProof.Rows L2 U NdefX
noncomputable section
section
variable {G : Gm} {E : WX} {F : Fr} {Dd : Ends} {ι ω ι' : List Addr} {ρ : Ev} {S S' : Sto} {σ : L2.St} {H H' : Hp} {Q : VK}
def kSup (f : FIn) (ρ : Ev) (ds : List D) (S1 : Sto) : RSt := match ρ[0]? with
  | some (Sl.oob c es) => (match f c es ds S1 with
    | .ok es' S2 => .nx (ρ.set 0 (.oob c es')) S2
    | _ => .bad)
  | _ => .bad
def sSup (c0 : Nat) (f : FIn) (fa : FA) : FS := fun ρ S => match fa ρ S with
  | .ok ds true S1 => (match ρ[0]? with
    | some (Sl.oob c _) => if c = c0 then kSup f ρ ds S1 else .bad
    | _ => .bad)
  | _ => .bad
end
end
end Fx
namespace U
open PySem PySem.Spec PyProof.Rows L2 NdefX
structure PEnt (X : Cx) (m : Str) (n : Nat) (C : Addr) (sp : Sp) : Prop where
  ex : ∃ k f p fd ps, k ≤ n ∧ Cls X.K C ∧ PropOf X.K C m p f ∧ FnOk X.prog X.w X.K X.mg X.base CX0 k f fd ps sp ∧ Binds X.K fd ps []
inductive PTab (X : Cx) (m : Str) (n : Nat) : List (Addr × Sp) → Prop
  | nil : PTab X m n []
  | cons {C : Addr} {sp : Sp} {l : List (Addr × Sp)} : PEnt X m n C sp → PTab X m n l → PTab X m n ((C, sp) :: l)
theorem PTab.at' {X : Cx} {m : Str} {n : Nat} {C : Addr} {sp : Sp} : ∀ {l : List (Addr × Sp)}, PTab X m n l → (C, sp) ∈ l → PEnt X m n C sp
  | _, .cons h r, hm => by
    rcases List.mem_cons.mp hm with e | e
    · cases e; exact h
    · exact r.at' e
structure FunS (P : Program) (K : PySem.W.Frag) (x qual : Str) (st : Stmt) (dvs : List V) (f : Addr) (fd : FuncData) (D f2 : Addr) : Prop where
  ex : ∃ (oc : Value) (od : Option Addr) (dV kV doc pm : Value) (an : Option Addr) (cda cc : Addr) (ct : Value) (osl : Array (Option Value)),
    fd = PySem.W.ksFn x qual (defArgs st) (defBody st) (defScope st) dV kV doc pm an (.ref cda) ct cc ∧ K.lookup f = some ⟨oc, od, .func fd, osl⟩ ∧ PySem.W.codeIn K (.ref cda) qual = true ∧ DflV K dV dvs ∧ SupC P K D f2 cc cda
  kp : PySem.W.keepIn K (.ref f) = true
section
variable {P : Program} {w : World} {K : PySem.W.Frag} {mg : Str → Option Value} {base : Heap} {x qual : Str} {st : Stmt} {dvs : List V} {f D f2 : Addr} {fd : FuncData} {ps : List Str}
theorem FunS.ok {CX : CXT} {N : List Str} {k : Nat} {sp : Sp} (F : FunS P K x qual st dvs f fd D f2) (S : NScope N ps ["__class__"] (defScope st)) (len : ∀ vs H Q E, sp vs H Q E → vs.length = ps.length)
    (hbody : ∀ (cc cda : Addr) (A : Around) (outer : List Env) (s : Shared) (H : Hp) (vs : List V) (Q : VK) (E : XK), SupC P K D f2 cc cda → (∃ oc od fd osl, K.lookup f = some ⟨oc, od, .func fd, osl⟩ ∧ fd.params = defArgs st) → Room k (A.deeper (envS x qual (defArgs st) (defBody st) (defScope st) cc cda f s.heap.objs.size)) → sp vs H Q E →
      ∃ t, PSA (cxS CX P w K mg base N x qual (defArgs st) (defBody st) (defScope st) cc cda f A outer s H E) (.func (defBody st) (envS x qual (defArgs st) (defBody st) (defScope st) cc cda f s.heap.objs.size)) (defBody st) t ∧ t { nx := fun _ H' => Q .non H', rt := Q } (startF N vs [some (.ref D)]) H) :
    FnOk P w K mg base CX (k + 1) f fd ps sp := by
  obtain ⟨oc, od, dV, kV, doc, pm, an, cda, cc, ct, osl, rfl, lk, hcd, _, T⟩ := F.ex
  exact fn_ofS lk hcd S T.cell len fun A outer s H vs Q E hr h => hbody cc cda A outer s H vs Q E T ⟨oc, od, _, osl, lk, rfl⟩ hr h
theorem FunS.binds (F : FunS P K x qual st dvs f fd D f2) (h : ∀ (dV kV doc pm : Value) (an : Option Addr) (cdv ct : Value) (cc : Addr) (us : List Value), us.length = ps.length → bindArgs (PySem.W.ksFn x qual (defArgs st) (defBody st) (defScope st) dV kV doc pm an cdv ct cc) ⟨us, []⟩ = pure (ps.zip us)) : Binds K fd ps [] := by
  obtain ⟨oc, od, dV, kV, doc, pm, an, cda, cc, ct, osl, rfl, lk, hcd, _, T⟩ := F.ex
  exact .all fun us hl => h dV kV doc pm an (.ref cda) ct cc us hl
end
end U
namespace Fx
open PySem PySem.Spec PyProof.Rows L2 U
noncomputable section
section
variable {G : Gm} {E : WX}
def kCallT (tab : List (Nat × FF)) (fa : FA) (ρ : Ev) (d : D) (f : Fl) (S : Sto) : RE := match d with
  | .obj c es => if f.nop = true then (match lookF c tab with
    | some F => fCB (fun ds t S2 => if t = true then F (.obj c es :: ds) S2 else .bad) fa ρ S
    | none => .bad) else .bad
  | _ => .bad
def fCallT (tab : List (Nat × FF)) (fo : FE) (fa : FA) : FE := fun ρ S => bE (fo ρ S) (kCallT tab fa ρ)
def kPropT (tab : List (Nat × FF)) (d : D) (f : Fl) (S : Sto) : RE := match d with
  | .obj c es => if f.nop = true then (match lookF c tab with
    | some F => F [.obj c es] S
    | none => .bad) else .bad
  | _ => .bad
def fPropT (tab : List (Nat × FF)) (fo : FE) : FE := fun ρ S => bE (fo ρ S) (kPropT tab)
def dStrX (ds : List D) (_ : Bool) (S : Sto) : RE := match ds with
  | [.int i] => if i.natAbs.log2 < 1920 then .ok (.str (toString i)) .tr S else .bad
  | [.str z] => .ok (.str z) .tr S
  | _ => .bad
end
section
variable {ρ : Ev} {S S1 S2 : Sto} {d e : D} {f f1 f2 fl : Fl} {c : Nat} {fs es : List (Str × D)} {tab : List (Nat × FF)}
theorem v_callT {fo : FE} {fa : FA} : fCallT tab fo fa ρ S = bE (fo ρ S) (kCallT tab fa ρ) := rfl
theorem v_propT {fo : FE} : fPropT tab fo ρ S = bE (fo ρ S) (kPropT tab) := rfl
theorem d_strX_str {z : Str} {t : Bool} : dStrX [.str z] t S = .ok (.str z) .tr S := rfl
def kSupR (c0 : Nat) (g : FIn) (ρ : Ev) (r : RA) : RSt := match r with
  | .ok ds true S1 => (match ρ[0]? with
    | some (Sl.oob c _) => if c = c0 then kSup g ρ ds S1 else .bad
    | _ => .bad)
  | _ => .bad
theorem v_sup {c0 : Nat} {g : FIn} {fa : FA} : sSup c0 g fa ρ S = kSupR c0 g ρ (fa ρ S) := by unfold sSup kSupR; rfl
end
end
end Fx
namespace U
open PySem PySem.Spec PyProof.Rows L2
end U
namespace Fx
open PySem PySem.Spec PyProof.Rows L2 U
noncomputable section
section
variable {G : Gm} {E : WX} {F : Fr} {Dd : Ends} {ι ω : List Addr} {ρ : Ev} {S : Sto} {σ : L2.St} {H : Hp}
def intsOf : List D → Option (List Int)
  | [] => some []
  | .int b :: ds => (intsOf ds).map (b :: ·)
  | _ :: _ => none
def dSum (ds : List D) (_ : Bool) (S : Sto) : RE := match ds with
  | [d] => (match lsOf S d with
    | some es => (match intsOf es with
      | some ns => .ok (.int ns.sum) .tr S
      | none => .bad)
    | none => .bad)
  | _ => .bad
def sAsgNS (i j : Nat) (fi fe : FE) : FS := fun ρ S => eS (fe ρ S) ρ fun d f S1 => if f.nop = true then (match sqOf S1 d with
  | some [d1, d2] => (if hasL j (ρ.set i (.val d1)) S1 = true then eS (fi (ρ.set i (.val d1)) S1) (ρ.set i (.val d1)) fun e _ S2 => (match e with
    | .int k => putL j (ρ.set i (.val d1)) S2 (fun ds => (ixN ds.length k).map fun m => ds.set m d2)
    | _ => .bad) else .bad)
  | _ => .bad) else .bad
def sAppX (fo fe : FE) : FS := fun ρ S => eS (fo ρ S) ρ fun d _ S1 => (match d with
  | .cel k => (match S1[k]? with
    | some (.lst _) => eS (fe ρ S1) ρ fun v f S2 => if f.nop = true then (match S2[k]? with
      | some (.lst ds) => if ds.length < lim then .nx ρ (S2.set k (.lst (ds ++ [v]))) else .bad
      | _ => .bad) else .bad
    | _ => .bad)
  | _ => .bad)
end
section
variable {ρ : Ev} {S S1 S2 : Sto} {d e v : D} {f f1 f2 fl : Fl}
theorem at0 {α : Type} {c : α} {r : List α} : atI (c :: r) 0 = some c := by
  unfold atI ixN
  rw [if_pos (by decide), if_pos (by show (0 : Int) < ((c :: r).length : Int); rw [List.length_cons]; omega)]
  rfl
theorem at1 {α : Type} {b c : α} {r : List α} : atI (b :: c :: r) 1 = some c := by
  unfold atI ixN
  rw [if_pos (by decide), if_pos (by show (1 : Int) < ((b :: c :: r).length : Int); rw [List.length_cons, List.length_cons]; omega)]
  rfl
theorem at2 {α : Type} {a b c : α} {r : List α} : atI (a :: b :: c :: r) 2 = some c := by
  unfold atI ixN
  rw [if_pos (by decide), if_pos (by show (2 : Int) < ((a :: b :: c :: r).length : Int); rw [List.length_cons, List.length_cons, List.length_cons]; omega)]
  rfl
theorem d_ixl0 {a : D} {r : List D} : dIx (.lst (a :: r)) (.int 0) S = .ok a .tr S := d_ix_lst at0
theorem d_ixl1 {a b : D} {r : List D} : dIx (.lst (a :: b :: r)) (.int 1) S = .ok b .tr S := d_ix_lst at1
theorem d_ixl2 {a b c : D} {r : List D} : dIx (.lst (a :: b :: c :: r)) (.int 2) S = .ok c .tr S := d_ix_lst at2
theorem d_ixt0 {a : D} {r : List D} : dIx (.tup (a :: r)) (.int 0) S = .ok a .tr S := d_ix_tup at0
theorem d_ixt1 {a b : D} {r : List D} : dIx (.tup (a :: b :: r)) (.int 1) S = .ok b .tr S := d_ix_tup at1
theorem d_lst1 {a : D} : dLst [a] true S = .ok (.lst [a]) .fs S := d_lst (by show 1 ≤ lim; decide)
theorem d_lst2 {a b : D} : dLst [a, b] true S = .ok (.lst [a, b]) .fs S := d_lst (by show 2 ≤ lim; decide)
theorem d_lst0 : dLst [] true S = .ok (.lst []) .fs S := d_lst (by show 0 ≤ lim; decide)
theorem d_tup0 : dTup [] true S = .ok (.tup []) .tr S := d_tup (by show 0 ≤ lim; decide)
theorem d_tup1 {a : D} : dTup [a] true S = .ok (.tup [a]) .tr S := d_tup (by show 1 ≤ lim; decide)
theorem d_tup2 {a b : D} : dTup [a, b] true S = .ok (.tup [a, b]) .tr S := d_tup (by show 2 ≤ lim; decide)
theorem d_int_int {i : Int} {t : Bool} : dInt [.int i] t S = .ok (.int i) .tr S := rfl
theorem d_neg {i : Int} : dNeg (.int i) S = .ok (.int (-i)) .tr S := rfl
theorem v_gt2 {fs : FGs} {a b : D} : gT 2 fs (.tup [a, b]) ρ S = fs [a, b] ρ S := rfl
theorem v_gt1 {fs : FGs} {a : D} : gT 1 fs (.tup [a]) ρ S = fs [a] ρ S := rfl
theorem ints_map : ∀ (ns : List Int), intsOf (ns.map D.int) = some ns
  | [] => rfl
  | n :: ns => by show (intsOf (ns.map D.int)).map (n :: ·) = _; rw [ints_map ns]; rfl
theorem d_sum {ns : List Int} {t : Bool} : dSum [.lst (ns.map D.int)] t S = .ok (.int ns.sum) .tr S := by
  unfold dSum; show (match intsOf (ns.map D.int) with | some ns => RE.ok (.int ns.sum) .tr S | none => .bad) = _; rw [ints_map]
def kAsgNS (i j : Nat) (fi : FE) (ρ : Ev) (d : D) (f : Fl) (S1 : Sto) : RSt := if f.nop = true then (match sqOf S1 d with
  | some [d1, d2] => (if hasL j (ρ.set i (.val d1)) S1 = true then eS (fi (ρ.set i (.val d1)) S1) (ρ.set i (.val d1)) fun e _ S2 => (match e with
    | .int k => putL j (ρ.set i (.val d1)) S2 (fun ds => (ixN ds.length k).map fun m => ds.set m d2)
    | _ => .bad) else .bad)
  | _ => .bad) else .bad
theorem v_asgNS {i j : Nat} {fi fe : FE} : sAsgNS i j fi fe ρ S = eS (fe ρ S) ρ (kAsgNS i j fi ρ) := rfl
def kAppX (fe : FE) (ρ : Ev) (d : D) (_ : Fl) (S1 : Sto) : RSt := match d with
  | .cel k => (match S1[k]? with
    | some (.lst _) => eS (fe ρ S1) ρ fun v f S2 => if f.nop = true then (match S2[k]? with
      | some (.lst ds) => if ds.length < lim then .nx ρ (S2.set k (.lst (ds ++ [v]))) else .bad
      | _ => .bad) else .bad
    | _ => .bad)
  | _ => .bad
theorem v_appX {fo fe : FE} : sAppX fo fe ρ S = eS (fo ρ S) ρ (kAppX fe ρ) := rfl
end
end
end Fx
namespace Fx
open PySem PySem.Spec PyProof.Rows L2 U
def nStr : D → Bool | .str _ => false | _ => true
def kZip2 (a b : Option (List D × Gd)) (S : Sto) : RI := match a, b with
  | some (xs, none), some (ys, g) => .ok (zipD xs ys) g S
  | some (xs, g), some (ys, none) => .ok (zipD xs ys) g S
  | _, _ => .bad
def kZip1 (r : RA) : RI := match r with
  | .ok [d1, d2] true S1 => if (nStr d1 && nStr d2) = true then kZip2 (itemsD S1 d1) (itemsD S1 d2) S1 else .bad
  | .xc c fs S1 => .xc c fs S1
  | _ => .bad
def fZipC (fa : FA) : FI := fun ρ S => kZip1 (fa ρ S)
theorem v_zipC {fa : FA} {ρ : Ev} {S : Sto} : fZipC fa ρ S = kZip1 (fa ρ S) := rfl
end Fx
namespace U
open PySem PySem.Spec PyProof.Rows L2
end U
namespace Fx
open PySem PySem.Spec PyProof.Rows L2 U
def fPairs : List (Key × FE) → Ev → Sto → Option (List (Key × D) × Sto)
  | [], _, S => some ([], S)
  | (k, fv) :: r, ρ, S => match fv ρ S with
    | .ok d f S1 => if f.nop = true then (match fPairs r ρ S1 with
      | some (es, S2) => some ((k, d) :: es, S2)
      | none => none) else none
    | _ => none
inductive SPs (G : Gm) (E : WX) : List (TE × TE) → List (Key × FE) → Prop
  | nil : SPs G E [] []
  | cons {k : Key} {tv : TE} {fv : FE} {r : List (TE × TE)} {s : List (Key × FE)} : SE G E tv fv → SPs G E r s → SPs G E ((tC (kV k), tv) :: r) ((k, fv) :: s)
section
variable {G : Gm} {E : WX} {F : Fr} {ι ω : List Addr} {ρ : Ev} {S : Sto} {σ : L2.St} {H : Hp}
/-- something new that is held -/
theorem Rel.hold (r1 : Rel G F ι ω ρ S σ H) {p : Addr} {o : HO} (hD : H p = none) : Rel G F ι (p :: ω) ρ S σ (upd H p o) ∧ ∀ (i : Nat) (s : Sl), ρ[i]? = some s → isOwn s = true → σ[i]? ≠ some (some (.ref p)) := by
  have noa : ∀ (i : Nat) (s : Sl), ρ[i]? = some s → isOwn s = true → σ[i]? ≠ some (some (.ref p)) := fun i s h1 h2 h3 => by
    cases r1.env i s _ h1 h3 with
    | no => cases h2
    | val => cases h2
    | own q1 q2 q3 => rw [hD] at q2; cases q2
    | oob q1 q0 q2 q3 => rw [hD] at q2; cases q2
    | exn => cases h2
  have pp : Per ι (F.B0 ++ ω) H ι (F.B0 ++ (p :: ω)) (L2.upd H p o) := ⟨fun a o h1 h2 h3 => by
    rw [List.mem_append, not_or] at h3
    refine ⟨by rw [upd_ne (ne_of_none h1 hD)]; exact h1, h2, fun z => ?_⟩
    rcases List.mem_append.mp z with z | z
    · exact h3.1 z
    · rcases List.mem_cons.mp z with z | z
      · exact ne_of_none h1 hD z
      · exact h3.2 z, fun _ _ h => h⟩
  have r2 := r1.new (o := o) hD
  refine ⟨⟨r2.pre, r2.old, r2.dom, r2.fri, fun b hb => ?_, r2.b0, r2.nd, fun b hb => ?_, fun b hb => ?_, r1.sto.per (fun a ha => upd_ne fun z => r1.sto.here a ha (by rw [z]; exact hD)) pp, r2.len, fun j s o h1 h2 => ?_, r2.own⟩, noa⟩
  · rcases List.mem_cons.mp hb with z | z
    · subst z; exact none_of r1.dom hD
    · exact r2.frw b z
  · rcases List.mem_cons.mp hb with z | z
    · subst z; exact r1.offi hD
    · exact r2.dj b z
  · rcases List.mem_cons.mp hb with z | z
    · subst z; exact nn upd_same
    · exact r2.dw b z
  · have q := r1.env j s o h1 h2
    cases q with
    | no => exact .no
    | val h => exact .val (h.per pp)
    | own q1 q2 q3 => exact .own (List.mem_cons_of_mem _ q1) (by rw [upd_ne (ne_of_none q2 hD)]; exact q2) (q3.per pp)
    | oob q1 q0 q2 q3 => exact .oob (List.mem_cons_of_mem _ q1) q0 (by rw [upd_ne (ne_of_none q2 hD)]; exact q2) (q3.per pp)
    | exn q1 q2 q3 q4 q5 =>
      obtain ⟨g1, g2, g3⟩ := q4.per q2 q3 pp
      exact .exn q1 g2 g3 g1 (q5.per pp)
theorem pairs_ok {trs : List (TE × TE)} {kfs : List (Key × FE)} (h : SPs G E trs kfs) : ∀ {ι : List Addr} {S S' : Sto} {H : Hp} {es : List (Key × D)} {Q : List (V × V) → Hp → Prop}, Rel G F ι ω ρ S σ H → fPairs kfs ρ S = some (es, S') →
    (∀ ι' (vs : List (Key × V)) H', Ext ι H ι' H' → Rel G F ι' ω ρ S' σ H' → RKv G.K G.ca ι' (F.B0 ++ ω) H' vs es → Q (vs.map fun kv => (kV kv.1, kv.2)) H') → tPairs trs σ H Q := by
  induction h with
  | nil =>
    intro ι S S' H es Q rel e k
    cases e
    exact k ι [] H Ext.refl rel .nil
  | @cons key tv fv r s hv _ ih =>
    intro ι S S' H es Q rel e k
    unfold fPairs at e
    split at e
    · rename_i d f S1 e1
      split at e
      · rename_i hf
        split at e
        · rename_i es2 S2 e2
          cases e
          show tv σ H _
          refine hv F ι ω ρ S σ H _ rel ?_
          rw [e1]
          intro ι1 v H1 x1 r1 rf
          have rv := rf.rv (fun z => by rw [z] at hf; cases hf)
          refine ih r1 e2 fun ι2 vs H2 x2 r2 rk => ?_
          exact k ι2 ((key, v) :: vs) H2 (x1.trans x2) r2 (.cons (rv.ex x2) rk)
        · cases e
      · cases e
    · cases e
theorem put_new {k : Key} {v : V} {kvs : List (Key × V)} (h : k ∉ kvs.map (·.1)) : putK kvs k v = kvs ++ [(k, v)] := by
  unfold putK
  rw [if_neg]
  intro z
  rw [List.any_eq_true] at z
  obtain ⟨p, hp, e⟩ := z
  exact h (List.mem_map.mpr ⟨p, hp, of_decide_eq_true e⟩)
theorem merge_app : ∀ (more kvs : List (Key × V)), ((kvs ++ more).map (·.1)).Nodup → mergeK kvs more = kvs ++ more
  | [], kvs, _ => by rw [List.append_nil]; rfl
  | p :: r, kvs, h => by
    show mergeK (putK kvs p.1 p.2) r = _
    have hp : p.1 ∉ kvs.map (·.1) := by
      rw [List.map_append, List.nodup_append] at h
      intro z
      exact h.2.2 _ z p.1 (by simp) rfl
    rw [put_new hp, merge_app r _ (by rw [List.append_assoc]; exact h), List.append_assoc]
    rfl
theorem RKv.keys {K : PySem.W.Frag} {ca : Nat → Addr} {ι B : List Addr} {H : Hp} : ∀ {vs : List (Key × V)} {es : List (Key × D)}, RKv K ca ι B H vs es → vs.map (·.1) = es.map (·.1)
  | _, _, .nil => rfl
  | _, _, .cons _ r => by rw [List.map_cons, List.map_cons, r.keys]
theorem pairs_keys : ∀ {kfs : List (Key × FE)} {ρ : Ev} {S S' : Sto} {es : List (Key × D)}, fPairs kfs ρ S = some (es, S') → es.map (·.1) = kfs.map (·.1)
  | [], _, _, _, _, e => by cases e; rfl
  | (k, fv) :: r, ρ, S, S', es, e => by
    unfold fPairs at e
    split at e
    · split at e
      · split at e
        · rename_i e2
          cases e
          rw [List.map_cons, List.map_cons, pairs_keys e2]
        · cases e
      · cases e
    · cases e
end
end Fx
namespace Fx
open PySem PySem.Spec PyProof.Rows L2 U
section
variable {G : Gm} {E : WX}
/-- a new dict that is a cell -/
def fDNewC : FE := fun _ S => .ok (.cel S.length) .tr (S ++ [.dK []])
theorem se_dnewC : SE G E tDNewK fDNewC := by
  intro F ι ω ρ S σ H Q rel h p hp
  have r1 := rel.new (o := .dK []) hp
  have hpi := rel.offi hp
  have hpb := rel.offb hp
  have pp : Per ι (F.B0 ++ ω) H ι (p :: (F.B0 ++ ω)) (upd H p (.dK [])) := ⟨fun a o h1 h2 h3 => by
    refine ⟨by rw [upd_ne (ne_of_none h1 hp)]; exact h1, h2, fun z => ?_⟩
    rcases List.mem_cons.mp z with z | z
    · exact ne_of_none h1 hp z
    · exact h3 z, fun _ _ h => h⟩
  have rs : RS G.K G.ca ι (p :: (F.B0 ++ ω)) (upd H p (.dK [])) S := rel.sto.per (fun a ha => upd_ne fun z => hpi (by rw [← z]; exact ha)) pp
  have x0 : Ext ι H ι (upd H p (.dK [])) := Ext.new1 hp
  have x2 : Ext ι H (ι ++ [p]) (upd H p (.dK [])) := ⟨x0.pre.trans (List.prefix_append _ _), x0.keep, fun b hb n => by
    rcases List.mem_append.mp hb with z | z
    · exact x0.new b z n
    · rw [List.mem_singleton.mp z]; exact hp, x0.dom⟩
  refine h (ι ++ [p]) (.ref p) (upd H p (.dK [])) x2 (rel.ex x2 ?_ (rs_grow rs (.dK upd_same .nil))) (.cel ?_)
  · rw [List.nodup_append]
    refine ⟨r1.nd, by simp, fun b hb c hc => ?_⟩
    rw [List.mem_singleton.mp hc]
    intro z; subst z; exact hpi hb
  · rw [List.getElem?_append_right (by rw [rs.len]; exact Nat.le_refl _), rs.len]; simp
end
section
variable {ρ : Ev} {S : Sto} {d e : D} {neg : Bool}
theorem v_dnewC : fDNewC ρ S = .ok (.cel S.length) .tr (S ++ [.dK []]) := rfl
end
end Fx
namespace U
open PySem PySem.Spec PyProof.Rows L2
end U
namespace Fx
open PySem PySem.Spec PyProof.Rows L2 U
def dAddT (d e : D) (S : Sto) : RE := match d, e with
  | .tup xs, .tup ys => if xs.length + ys.length ≤ lim then .ok (.tup (xs ++ ys)) .tr S else .bad
  | d, e => dAdd d e S
def dSlT (d : D) (lo hi : Option Int) (S : Sto) : RE := match d with
  | .tup ds => .ok (.tup (cutD ds lo hi)) .tr S
  | d => dSl d lo hi S
def fSlT (fe : FE) (lo hi : FO) : FE := fun ρ S => bE (fe ρ S) fun d _ S1 => bO (lo ρ S1) fun l S2 => bO (hi ρ S2) fun u S3 => dSlT d l u S3
section
variable {ρ : Ev} {S : Sto} {d : D} {f : Fl}
theorem d_addTi {a b : Int} : dAddT (.int a) (.int b) S = .ok (.int (a + b)) .tr S := rfl
theorem d_addTs {a b : Str} : dAddT (.str a) (.str b) S = dAdd (.str a) (.str b) S := rfl
theorem d_addTl {a b : List D} : dAddT (.lst a) (.lst b) S = dAdd (.lst a) (.lst b) S := rfl
def kSlT2 (d : D) (l u : Option Int) (S : Sto) : RE := dSlT d l u S
def kSlT1 (d : D) (hi : FO) (ρ : Ev) (l : Option Int) (S : Sto) : RE := bO (hi ρ S) (kSlT2 d l)
def kSlT (lo hi : FO) (ρ : Ev) (d : D) (_ : Fl) (S : Sto) : RE := bO (lo ρ S) (kSlT1 d hi ρ)
theorem v_slT {fe : FE} {lo hi : FO} : fSlT fe lo hi ρ S = bE (fe ρ S) (kSlT lo hi ρ) := rfl
theorem v_slT0 {lo hi : FO} : kSlT lo hi ρ d f S = bO (lo ρ S) (kSlT1 d hi ρ) := rfl
theorem v_slT1 {hi : FO} {l : Option Int} : kSlT1 d hi ρ l S = bO (hi ρ S) (kSlT2 d l) := rfl
theorem v_slT2 {l u : Option Int} : kSlT2 d l u S = dSlT d l u S := rfl
theorem d_slT {ds : List D} {lo hi : Option Int} : dSlT (.tup ds) lo hi S = .ok (.tup (cutD ds lo hi)) .tr S := rfl
theorem d_slTl {ds : List D} {lo hi : Option Int} : dSlT (.lst ds) lo hi S = .ok (.lst (cutD ds lo hi)) .fs S := rfl
end
end Fx
namespace PySem.SeqAt
open PySem PySem.Spec PyProof.Rows
end PySem.SeqAt
namespace Fx
open PySem PySem.Spec PyProof.Rows L2 U
end Fx
namespace U
open PySem PySem.Spec PyProof.Rows L2
end U
namespace Fx
open PySem PySem.Spec PyProof.Rows L2 U
end Fx
namespace PySem.W
open PySem PySem.Spec PySem.Calls PyProof.Rows
end PySem.W
namespace U
open PySem PySem.Spec PyProof.Rows L2
end U
namespace Fx
open PySem PySem.Spec PyProof.Rows L2 U
def kEqX2 (tab : List (Nat × FF)) (nq : Nat → Tg → Bool) (d : D) (f1 : Fl) (e : D) (f2 : Fl) (S2 : Sto) : RE := match d with
  | .obj c es => if (f1.nop && f2.nop) = true then (match lookF c tab, tgD S2 e with
    | some F, some g => if nq c g = true then bE (F [.obj c es, e] S2) kEqO3 else .bad
    | _, _ => .bad) else .bad
  | _ => .bad
def kEqX1 (tab : List (Nat × FF)) (nq : Nat → Tg → Bool) (fb : FE) (ρ : Ev) (d : D) (f1 : Fl) (S1 : Sto) : RE := bE (fb ρ S1) (kEqX2 tab nq d f1)
def fEqX (tab : List (Nat × FF)) (nq : Nat → Tg → Bool) (fa fb : FE) : FE := fun ρ S => bE (fa ρ S) (kEqX1 tab nq fb ρ)
def kNeO3 (r : D) (_ : Fl) (S3 : Sto) : RE := match r with
  | .bl k => .ok (.bl (!k)) .tr S3
  | _ => .bad
def kNeO2 (tab : List (Nat × FF)) (d : D) (f1 : Fl) (e : D) (f2 : Fl) (S2 : Sto) : RE := match d, e with
  | .obj c es, .obj c' es' => if (f1.nop && f2.nop && decide (c' = c)) = true then (match lookF c tab with
    | some F => bE (F [.obj c es, .obj c' es'] S2) kNeO3
    | none => .bad) else .bad
  | _, _ => .bad
def kNeO1 (tab : List (Nat × FF)) (fb : FE) (ρ : Ev) (d : D) (f1 : Fl) (S1 : Sto) : RE := bE (fb ρ S1) (kNeO2 tab d f1)
def fNeO (tab : List (Nat × FF)) (fa fb : FE) : FE := fun ρ S => bE (fa ρ S) (kNeO1 tab fb ρ)
section
variable {ρ : Ev} {S : Sto} {d e : D} {f f1 f2 : Fl} {c : Nat} {es fs : List (Str × D)} {tab : List (Nat × FF)}
theorem v_eqX {nq : Nat → Tg → Bool} {fa fb : FE} : fEqX tab nq fa fb ρ S = bE (fa ρ S) (kEqX1 tab nq fb ρ) := rfl
theorem v_eqX1 {nq : Nat → Tg → Bool} {fb : FE} : kEqX1 tab nq fb ρ d f S = bE (fb ρ S) (kEqX2 tab nq d f) := rfl
theorem v_neO {fa fb : FE} : fNeO tab fa fb ρ S = bE (fa ρ S) (kNeO1 tab fb ρ) := rfl
theorem v_neO1 {fb : FE} : kNeO1 tab fb ρ d f S = bE (fb ρ S) (kNeO2 tab d f) := rfl
theorem v_neO3 {k : Bool} : kNeO3 (.bl k) f S = .ok (.bl (!k)) .tr S := rfl
end
end Fx
namespace U
open PySem PySem.Spec PyProof.Rows L2
end U
namespace PySem.SeqAt
open AutoSeq1 (wpAny_loadPart')
open MeetsSeq
end PySem.SeqAt
namespace U
open PySem PySem.Spec PyProof.Rows L2
end U
namespace U
open PySem PySem.Spec PyProof.Rows L2
abbrev keTail : List Value := [.type "KeyError", .type "LookupError", .type "Exception", .type "BaseException", .type "object"]
theorem store_KeyError : StoreFacts "KeyError" keTail "object.__setattr__" "object" where
  mro := by kernel_rfl
  slot := .of (owner := "object") (n := "__setattr__") (by rw [typeLookup_type, builtinLookup_eq_fast]; kernel_rfl) (by decide +kernel) (by decide +kernel) (by decide +kernel)
    (by first | exact .inl (by decide +kernel) | exact .inr (by decide +kernel)) (by rw [isSubtype_type]; kernel_rfl)
  entry := F.entry_object_sa
  kind := by decide +kernel
  split := by decide +kernel
  hasOwner := by decide +kernel
  args := fun a b c => by unfold argsOk; kernel_rfl
  passes := fun self => by kernel_rfl
/-- KeyError.__init__ -/
theorem ke_split : splitId "KeyError.__init__" = some ("KeyError", "__init__") := by kernel_rfl
theorem ke_kind : builtinKind "KeyError.__init__" = some .slot := by kernel_rfl
theorem ke_row : Manifest.signature? "KeyError.__init__" = some ⟨.positional, "*", "KeyError", .self, [⟨"args", .varPos, false⟩]⟩ := by kernel_rfl
theorem ke_entry : entryFor table "KeyError.__init__" = some Builtin.«BaseException.__init__» := entryFor_alias (id' := "BaseException.__init__") (by rw [fastTable_eq_tree]; kernel_rfl) (by first | rfl | decide +kernel) (by decide +kernel) (by rw [fastTable_eq_tree]; kernel_rfl)
theorem ke_star : ("KeyError" != "*") = true := by decide +kernel
theorem ke_init : Slot "KeyError" "__init__" "KeyError.__init__" :=
  .of (owner := "KeyError") (n := "__init__") (by rw [typeLookup_type, builtinLookup_eq_fast]; kernel_rfl) (by decide +kernel) (by decide +kernel) (by decide +kernel)
    (by first | exact .inl (by decide +kernel) | exact .inr (by decide +kernel)) (by rw [isSubtype_type]; kernel_rfl)
/-- own classes, then KeyError's mro: what the calls ask of it -/
structure KeM (bm : List Value) : Prop where
  k : bm.contains (.type "KeyError") = true
  l : bm.contains (.type "LookupError") = true
  a : bm.contains (.type "AttributeError") = false
  n : bm.contains (.type "NameError") = false
theorem keM_of {bm : List Value} (h : PySem.W.excTail keTail bm = true) : KeM bm :=
  ⟨(PySem.W.excTail_contains _ _ h).trans (by decide +kernel), (PySem.W.excTail_contains _ _ h).trans (by decide +kernel), (PySem.W.excTail_contains _ _ h).trans (by decide +kernel), (PySem.W.excTail_contains _ _ h).trans (by decide +kernel)⟩
section
open Builtin Builtin.ObjectAttr
open PySem.W PySem.Calls
variable {P : Program} {w : World} {A : Around} {E : Value → Shared → Prop} {R : Result → Shared → Prop} {hp : Heap} {gg : Array GenState} {dr : Drawn} {tt : Nat} {os : OsState}
variable {nm q : Str} {C N : Addr} {bs bm : List Value} {hdct : Bool} {sn : List Str} {sub : List Value} {ab : Bool} {col : Option Bool} {dd : Option Addr} {k0 k1 k2 k3 k5 : Option Value}
theorem ke_check_new {M : Model} (m : KeM bm) {vs : List Value} {Q : Unit → Shared → Prop} (hC : hp.get? C = some (excClassObj nm q C N bs bm hdct sn sub ab col dd k0 k1 k2 k3 k5 "LookupError.__new__")) (z : Q () ⟨hp, gg, dr, tt, os⟩) : wpAny M A (checkBuiltinCall "LookupError.__new__" ⟨.ref C :: vs, []⟩) Q E ⟨hp, gg, dr, tt, os⟩ := by
  have Fl := F.excBase_LookupError
  have c1 : (Value.ref C :: bm).contains (.type "LookupError") = true := by rw [List.contains_cons, m.l, Bool.or_true]
  have c2 := Fl.noStar
  simp only [checkBuiltinCall, Fl.newKind, Fl.newSplit, Fl.newRow]
  repeat (first | refine wpAny_loadPart_at hC ?_ | (refine wpAny_isSubtype_exc hC ?_; rw [c1]) | refine wpAny_staticBase_exc hC ?_ | refine wpAny_madeBy_exc hC ?_ | simp only [bne_self_eq_false, Bool.false_eq_true, if_false] | wp_step)
  exact z
theorem ke_check_init {M : Model} (m : KeM bm) {e : Addr} {oe : Obj} {vs : List Value} {Q : Unit → Shared → Prop} (hC : hp.get? C = some (excClassObj nm q C N bs bm hdct sn sub ab col dd k0 k1 k2 k3 k5 "LookupError.__new__")) (he : hp.get? e = some oe) (hc : oe.cls = .ref C) (z : Q () ⟨hp, gg, dr, tt, os⟩) :
    wpAny M A (checkBuiltinCall "KeyError.__init__" ⟨.ref e :: vs, []⟩) Q E ⟨hp, gg, dr, tt, os⟩ := by
  have c1 : (Value.ref C :: bm).contains (.type "KeyError") = true := by rw [List.contains_cons, m.k, Bool.or_true]
  have c2 := ke_star
  simp only [checkBuiltinCall, ke_kind, ke_split, ke_row]
  repeat (first | (with_reducible refine wpAny_loadPart_at he ?_; rw [hc]) | with_reducible refine wpAny_loadPart_at hC ?_ | (with_reducible refine wpAny_isSubtype_exc hC ?_; rw [c1]) | wp_step)
  refine wpAny_onRaise ?_
  rw [show ∀ (a b : String) (n : Nat), Bind.check ⟨.positional, "*", "KeyError", .self, [⟨"args", .varPos, false⟩]⟩ a b n (List.map (fun x => x.fst) ({ pos := Value.ref e :: vs } : Args).kw) = pure () from fun a b n => check_star_args _ _ _ _ _ _]
  exact wpAny_pure z
theorem ke_new (m : KeM bm) {vs : List Value} (hC : hp.get? C = some (excClassObj nm q C N bs bm hdct sn sub ab col dd k0 k1 k2 k3 k5 "LookupError.__new__"))
    (z : R (.ok (.ret (.ref (hp.objs.size + 1)))) ⟨(hp.push (kdv_tup vs)).push (PySem.HandSPX.excO C hp.objs.size), gg, dr, tt, os⟩) (hl : vs.length ≤ sizeLine) :
    codeAny (model P w) A (.builtin "LookupError.__new__" ⟨.ref C :: vs, []⟩) R ⟨hp, gg, dr, tt, os⟩ := by
  have Fl := F.excBase_LookupError
  have hends := Fl.ends
  have c1 : (Value.ref C :: bm).contains (.type "LookupError") = true := by rw [List.contains_cons, m.l, Bool.or_true]
  have c2 : (Value.ref C :: bm).contains (.type "AttributeError") = false := by rw [List.contains_cons, m.a]; rfl
  have c3 : (Value.ref C :: bm).contains (.type "NameError") = false := by rw [List.contains_cons, m.n]; rfl
  refine codeAny_builtinAt Fl.entry ?_
  unfold Builtin.«BaseException.__new__»
  refine PySem.wpAt_bind ?_
  show PySem.wpAt _ _ _ (stack >>= _) _ _ _
  refine PySem.wpAt_bind (PySem.wpAt_stack fun p below => PySem.wpAt_of_wpAny ?_)
  wp_walk
  refine PySem.wpAt_of_wpAny ?_
  rw [Fl.owner]
  repeat (first | with_reducible refine wpAny_madeHere_exc Fl.canon hC ?_ | with_reducible refine wpAny_loadPart_at hC ?_ | (with_reducible refine wpAny_isSubtype_exc hC ?_; first | rw [c1] | rw [c2] | rw [c3]) | wp_step)
  show R _ _
  rw [Heap.size_push]
  exact z
theorem ke_typecall (m : KeM bm) {vs : List Value} {iv : Value} {Q : Fin → Shared → Prop} (hC : hp.get? C = some (excClassObj nm q C N bs bm hdct sn sub ab col dd k0 k1 k2 k3 k5 "LookupError.__new__"))
    (i0 : Looks (model P w) hp (typeLookup (.ref C) "__init__") (some iv)) (b0 : ∀ self, Looks (model P w) hp (bindSpecial iv self) (iv, [self])) (hl : vs.length ≤ sizeLine)
    (z : codeAny (model P w) A (.call iv ⟨.ref (hp.objs.size + 1) :: vs, []⟩)
      (fun r s' => match r with | .ok (.ret v) => v = .none ∧ Q (.done (.ret (.ref (hp.objs.size + 1)))) s' | .ok _ => False | .error e => E e s') ⟨(hp.push (kdv_tup vs)).push (PySem.HandSPX.excO C hp.objs.size), gg, dr, tt, os⟩) :
    wpAny (model P w) A (Builtin.«type.__call__» ⟨.ref C :: vs, []⟩) Q E ⟨hp, gg, dr, tt, os⟩ := by
  have Fl := F.excBase_LookupError
  repeat (first | with_reducible refine wpAny_loadPart_at hC ?_ | with_reducible refine wpAny_madeBy_exc hC ?_ | wp_step)
  refine codeAny_call_builtin_code (Code.quiet_builtin _ Fl.quiet) (ke_check_new m hC ?_)
  refine ke_new m hC ?_ hl
  show wpAny _ _ _ _ _ _
  have kk : ∀ b o, hp.get? b = some o → ((hp.push (kdv_tup vs)).push (PySem.HandSPX.excO C hp.objs.size)).get? b = some o := fun b o e => Heap.get?_push_of_some _ (Heap.get?_push_of_some _ e)
  have h1 := kk _ _ hC
  have h2 : ((hp.push (kdv_tup vs)).push (PySem.HandSPX.excO C hp.objs.size)).get? (hp.objs.size + 1) = some (PySem.HandSPX.excO C hp.objs.size) := by heap_get
  have c0 : (Value.ref C :: bm).contains (.ref C) = true := by simp
  have i1 := i0.keeps kk
  have b1 := (b0 (.ref (hp.objs.size + 1))).keeps kk
  unfold isInstance
  repeat (first | with_reducible refine wpAny_loadPart_at h2 ?_ | (with_reducible refine wpAny_isSubtype_exc h1 ?_; rw [c0]) | wp_step)
  show wpAny _ _ (typeLookup (.ref C) _) _ _ _
  refine i1.at ?_
  refine wpAny_holding (wpAny_bind (b1.at ?_))
  refine wpAny_bind (wpAny_call (codeAny_mono z fun r s' y => ?_))
  rcases r with e | (v | _ | _ | _) <;> first | exact y | exact y.elim | skip
  obtain ⟨rfl, y⟩ := y
  first
    | exact wpAny_pure (wpAny_pure y)
    | (wp_walk; exact y)
theorem ke_call (m : KeM bm) {vs : List Value} {iv : Value} (hC : hp.get? C = some (excClassObj nm q C N bs bm hdct sn sub ab col dd k0 k1 k2 k3 k5 "LookupError.__new__"))
    (i0 : Looks (model P w) hp (typeLookup (.ref C) "__init__") (some iv)) (b0 : ∀ self, Looks (model P w) hp (bindSpecial iv self) (iv, [self])) (hl : vs.length ≤ sizeLine)
    (z : codeAny (model P w) (A.under (.builtin "type.__call__" ⟨.ref C :: vs, []⟩)) (.call iv ⟨.ref (hp.objs.size + 1) :: vs, []⟩) (InitBack (hp.objs.size + 1) R) ⟨(hp.push (kdv_tup vs)).push (PySem.HandSPX.excO C hp.objs.size), gg, dr, tt, os⟩) :
    codeAny (model P w) A (.call (.ref C) ⟨vs, []⟩) R ⟨hp, gg, dr, tt, os⟩ := by
  have f1 := tc_lookup
  have f2 := tc_bind (.ref C)
  have ht : (⟨hp, gg, dr, tt, os⟩ : Shared).TypeIs (.ref C) "type" := ⟨_, hC, rfl⟩
  refine codeAny_of_tree ?_
  show wpAny _ _ (callAny (.ref C) _) _ _ _
  repeat (any_goals (first | assumption | with_reducible refine wpAny_loadPart_at hC ?_ | wp_step))
  refine ⟨rfl, ?_⟩
  refine codeAny_call_builtin_at (Code.quiet_builtin _ (by decide +kernel)) entry_typeCall (wpAny_check_type_call_sub hC (ke_typecall m hC i0 b0 hl ?_))
  refine codeAny_mono z fun r s' y => ?_
  rcases r with e | (v | _ | _ | _) <;> exact y
theorem ke_binit (m : KeM bm) {e t0 : Addr} {vs : List Value} (hC : hp.get? C = some (excClassObj nm q C N bs bm hdct sn sub ab col dd k0 k1 k2 k3 k5 "LookupError.__new__")) (he : hp.get? e = some (PySem.HandSPX.excO C t0)) (hl : vs.length ≤ sizeLine)
    (z : ∀ h' t1, (∀ b o, b ≠ e → hp.get? b = some o → h'.get? b = some o) → h'.get? e = some (PySem.HandSPX.excO C t1) → R (.ok (.ret .none)) ⟨h', gg, dr, tt, os⟩) :
    codeAny (model P w) A (.call (.builtin "KeyError.__init__") ⟨.ref e :: vs, []⟩) R ⟨hp, gg, dr, tt, os⟩ := by
  refine codeAny_call_builtin ke_init.plain ke_entry (ke_check_init m hC he rfl ?_)
  wp_walk
  refine z _ hp.objs.size (fun b o hb ho => ?_) ?_
  · rw [Heap.get?_update_other _ _ (Ne.symm hb)]
    exact Heap.get?_push_of_some _ ho
  · rw [Heap.get?_update_self _ (Heap.get?_push_of_some _ he) rfl]
    rfl
/-- the first store -/
theorem ke_osa {K : Frag} {name : Str} {tk : Tok} {v : Value} {x : Addr} {fv : Array Value} {cd : ClassData} (X : K.In hp) (hx : hp.get? x = some { cls := .ref C, data := .fields fv }) (hcd : clsIn K C = some cd) (hm : excOver K C keTail = true) (hh : cd.hasDict = true) (ha : findIn K (.ref C) name = some none)
    (z : ∀ h' tk' dx, (∀ b o, b ≠ x → hp.get? b = some o → h'.get? b = some o) → hp.objs.size ≤ dx → dx ≠ x → h'.get? x = some { cls := .ref C, dict := some dx, data := .fields fv } →
      h'.Ns1 dx (fun y => if y = name then some v else none) → R (.ok (.ret .none)) ⟨h', gg, dr, tk', os⟩) :
    codeAny (model P w) A (.call (.builtin "object.__setattr__") ⟨[.ref x, .str name tk, v], []⟩) R ⟨hp, gg, dr, tt, os⟩ := by
  have I : InstAt hp x { cls := .ref C, data := .fields fv } C none := ⟨hx, rfl, rfl, trivial⟩
  have hxs : x ≠ hp.objs.size := Nat.ne_of_lt (Heap.lt_size hx)
  have hcls : Looks (model P w) hp (classData C) cd := looks_clsIn X hcd
  refine osa_openX (od := none) store_KeyError X I hm (by unfold takerIn; rw [ha]; rfl) fun b => ?_
  obtain ⟨nm, bs, mro, ns, qn, hd, sn, sb, ab, col, del⟩ := cd
  dsimp only at hh
  subst hh
  dsimp only
  unfold storeInOwnDict ownDictForStores
  repeat (first | with_reducible refine PySem.HandSPX.store_in_new ?_ ?_ | with_reducible refine wpAny_loadPart_at hx ?_ | with_reducible refine hcls.at ?_ | wp_step)
  · exact ⟨_, #[], _, (Heap.get?_update_ne _ _ _ _ hxs.symm).trans (Heap.get?_push_at rfl rfl), rfl, fun e he => absurd he (by simp), fun _ => rfl⟩
  · intro h' tk' hn' hs
    have hx₁ : (hp.push { cls := .type "dict", data := .dict #[] }).get? x = some { cls := .ref C, data := .fields fv } := Heap.get?_push_of_some _ hx
    refine z h' tk' hp.objs.size (fun b o hb ho => ?_) (Nat.le_refl _) hxs.symm ?_ hn'
    · exact (hs.2 b (Nat.ne_of_lt (Heap.lt_size ho))).trans ((Heap.get?_update_ne _ _ _ _ hb).trans (Heap.get?_push_of_some _ ho))
    · exact (hs.2 x hxs).trans (Heap.get?_update_self _ hx₁ rfl)
end
end U
namespace U
open PySem PySem.Spec PyProof.Rows L2
structure OexK (K : PySem.W.Frag) (C : Addr) : Prop where
  cls : ∃ nm q N bs bm sn sub ab col dd k0 k1 k2 k3 k5, K.lookup C = some (excClassObj nm q C N bs bm true sn sub ab col dd k0 k1 k2 k3 k5 "LookupError.__new__") ∧ PySem.W.excTail keTail bm = true
  sa : PySem.W.findIn K (.ref C) "__setattr__" = some (some (.builtin "object.__setattr__"))
  exC : PySem.W.subIn K (.ref C) (.type "BaseException") = some true
  tyC : PySem.W.typeIn K (.ref C) = some (.type "type")
  kC : PySem.W.keepIn K (.ref C) = true
section
variable {X : Cx} {pins : List (Addr × Obj)} {σ : L2.St} {H : Hp} {s : Shared} {a C : Addr} {f : Str} {y : V} {u : Value} {Q : Unit → Shared → Prop} {E : Value → Shared → Prop} {A : Around}
/-- self.f = y -/
theorem ostK (T : OexK X.K C) (I : Inv X pins σ H s) (e : H a = some (exo a C none)) (hno : PySem.W.findIn X.K (.ref C) f = some none) (ry : RelV y u)
    (h : ∀ dx s', H dx = none → dx ≠ a → Inv X pins σ (upd (upd H dx (exd dx [(f, y)])) a (exo a C (some dx))) s' → Q () s') : wpAny (model X.prog X.w) A (setAttr (.ref a) f u) Q E s := by
  obtain ⟨nm, q, N, bs, bm, sn, sub, ab, col, dd, k0, k1, k2, k3, k5, hC, hbm⟩ := T.cls
  have hcl : PySem.W.clsIn X.K C = some { name := nm, bases := bs, mro := .ref C :: bm, ns := N, qualname := q, hasDict := true, slotNames := sn, subclasses := sub, abstract := ab, collection := col, hasDel := false } := by unfold PySem.W.clsIn; rw [hC] <;> rfl
  have hov : PySem.W.excOver X.K C keTail = true := by
    unfold PySem.W.excOver
    rw [hcl]
    show (C == C && PySem.W.excTail keTail bm) = true
    rw [hbm, beq_self_eq_true]; rfl
  obtain ⟨t1, ho⟩ := exo_at I.hok e
  obtain ⟨hp, g, d, t, os⟩ := s
  refine PySem.W.set_plain I.kIn (ox := { cls := .ref C, dict := none, data := .fields #[.ref t1, .none, .none, .none, .bool false, .none] }) (od := none) ⟨ho, rfl, rfl, trivial⟩ T.sa ?_
  refine ke_osa I.kIn ho hcl hov rfl hno fun h' tk' dx k dn dne hx hn => ?_
  have nH : H dx = none := I.hok.fresh dn
  have n1 : ∀ {b : Addr} {o : Obj}, hp.get? b = some o → b ≠ dx := fun {b o} z => Nat.ne_of_lt (Nat.lt_of_lt_of_le (Heap.lt_size z) dn)
  have n2 : ∀ {b : Addr}, H b = none → b ≠ a := fun {b} n z => by
    subst z
    rw [e] at n; cases n
  have U1 : Un X.fs [] H (upd (upd H dx (exd dx [(f, y)])) a (exo a C (some dx))) hp h' := {
    keep := fun b o z n _ _ => k b o (n2 n) z
    slot := fun b o z n _ _ => ⟨o.slots, k b o (n2 n) z⟩
    free := fun b o z n _ => by rw [upd_ne (n2 n), upd_ne (n1 z)]; exact n
    there := fun b o z _ => by
      by_cases hb : b = a
      · exact ⟨_, by rw [hb]; exact hx⟩
      · exact ⟨o, k b o hb z⟩
    tups := fun b xs z => by rw [upd_ne (at_ne e z exo_tup), upd_ne (ne_of_none z nH)]; exact z
    frzs := fun b o v z => by rw [upd_ne (at_ne e z exo_frz), upd_ne (ne_of_none z nH)]; exact z
    tbls := fun b ps z => ⟨#[], by rw [upd_ne (at_ne e z exo_tbl), upd_ne (ne_of_none z nH), z]; simp⟩ }
  refine h dx _ nH dne (I.un (t' := tk') U1 fun b o z => ?_)
  by_cases hb : b = a
  · subst hb
    rw [upd_same] at z
    cases z
    exact exo_ok hx
  · rw [upd_ne hb] at z
    by_cases hd : b = dx
    · subst hd
      rw [upd_same] at z
      cases z
      exact exd_ok hn (relO_put (fs := []) ry fun g => True.intro)
    · rw [upd_ne hd] at z
      refine (I.hok b o z).stay (fun c v hc w => k c v ?_ w) (fun c hc => by rw [upd_ne (at_ne e hc exo_own), upd_ne (ne_of_none hc nH)]; exact hc) (fun c xs hc => by rw [upd_ne (at_ne e hc exo_tup), upd_ne (ne_of_none hc nH)]; exact hc)
      rcases hc with hc | hc
      · rw [hc]; exact hb
      · exact at_ne e hc exo_own
end
def tOstK (K : PySem.W.Frag) (f : Str) (to te : TE) : TS := fun D σ H => te σ H fun y H1 => to σ H1 fun x H2 => ∃ a C : Addr, x = .ref a ∧ OexK K C ∧ PySem.W.findIn K (.ref C) f = some none ∧
  H2 a = some (exo a C none) ∧ ∀ dx, H2 dx = none → dx ≠ a → D.nx σ (upd (upd H2 dx (exd dx [(f, y)])) a (exo a C (some dx)))
theorem ps_ostK {X : Cx} {o e : Expr} {to te : TE} {f : Str} {p' pos : Pos} (ho : PE X o to) (he : PE X e te) (hs : swapsWith e (some (.Attribute o f p')) pos.line X.env = pure false := by rfl) : PS X (.Assign [.Attribute o f p'] e pos) (tOstK X.K f to te) := by
  refine ⟨fun pins s σ H D I h => ?_⟩
  refine plainObj_wpAny_Assign_Attribute (thn (he.run pins s σ H _ I h) fun v s1 ⟨y, H1, I1, r1, q1⟩ => thn (ho.run pins s1 σ H1 _ I1 q1) fun u s2 ⟨x, H2, I2, r2, a, C, ex, T, hno, ea, q⟩ => ?_) hs
  subst ex
  obtain rfl : u = Value.ref a := r2
  exact ostK T I2 ea hno r1 fun dx s' n ne J => ⟨σ, _, J, q dx n ne⟩
structure BaseK (K : PySem.W.Frag) (C0 : Addr) : Prop where
  ga : PySem.W.specialIn K (.ref C0) "__getattribute__" = some (some (.builtin "type.__getattribute__"))
  rd : ∃ mc, PySem.W.readsIn K C0 mc = true ∧ PySem.W.findCls K (.ref C0) mc "__init__" = some (.val (.builtin "KeyError.__init__"))
def tKeI (K : PySem.W.Frag) (ta : TA) : TE := fun σ H Q => ta σ H fun vs H1 => ∃ (a C : Addr) (ws : List V), vs = .ref a :: ws ∧ ws.length ≤ 1000 ∧ OexK K C ∧ H1 a = some (exo a C none) ∧ Q .non H1
section
variable {X : Cx} {x : Str} {C0 : Addr} {e : Expr} {es : List Expr} {ta : TA} {p1 p2 pos : Pos} {pl : Sem Bool}
theorem pe_binitK (T0 : BaseK X.K C0) (hg : Gl X x) (hm : X.mg x = some (.ref C0)) (ha : PA X (e :: es) ta)
    (hc : eval (.Call (.Attribute (.Name x p1) "__init__" p2) (e :: es) [] pos) X.env = (do
      let ov ← eval (.Name x p1) X.env
      standAt p2.atName
      let (f, first) ← holding [ov] (getMethod ov "__init__" pl)
      callWith pos f first (backTo pos (starEach (e :: es) X.env)) (backToKw pos (keywordEach [] X.env))) := by rfl)
    (hdb : (x == ("__debug__" : Str)) = false := by decide) (he : starEach (e :: es) X.env = (false, eval e X.env) :: starEach es X.env := by rfl) (hpl : (backTo pos (starEach es X.env)).any (·.1) = false := by rfl) :
    PE X (.Call (.Attribute (.Name x p1) "__init__" p2) (e :: es) [] pos) (tKeI X.K ta) := by
  obtain ⟨mc, hrd, hf⟩ := T0.rd
  constructor
  intro pins s σ H Q I h
  refine PySem.W.methodCall_KW (ld_glob I hg hm ?_ hdb) hc
  refine PySem.W.method_cls I.kIn T0.ga (PySem.W.cls_value I.kIn hrd hf (by decide +kernel) ?_)
  refine PyProof.Rows.callWith_method1 (thn (ha.run pos pins _ σ H _ (I.tok _) h) ?_) he hpl
  rintro us s1 ⟨vs, H1, I1, r1, a, C, ws, rfl, hl, ⟨⟨nm, q, N, bs, bm, sn, sub, ab, col, dd, k0, k1, k2, k3, k5, hC, hbm⟩, _, _, _, _⟩, ea, q⟩
  match us, r1 with
  | _ :: ur, .cons ra rw' =>
    cases ra
    have hz : ur.length ≤ sizeLine := by rw [← Paired.length rw']; exact szl (by omega)
    obtain ⟨t1, ho⟩ := exo_at I1.hok ea
    obtain ⟨hp, g, d, t, os⟩ := s1
    refine wpAny_call (ke_binit (keM_of hbm) (I1.kIn _ _ hC) ho hz fun h' t2 k hx => ?_)
    have J := I1.write (t' := t) (x := a) (e := a) (o := exo a C none) (by rw [ea]; exact True.intro) (.inl rfl) k ⟨_, hx⟩ (exo_ok hx)
    rw [same_upd ea] at J
    exact ⟨.non, H1, J, rfl, q⟩
end
structure ExcK (K : PySem.W.Frag) (mg : Str → Option Value) (x f : Str) (C fI : Addr) : Prop where
  g : mg x = some (.ref C)
  o : OexK K C
  i : PySem.W.findIn K (.ref C) "__init__" = some (some (.ref fI))
  t : PySem.W.typeIn K (.ref fI) = some (.type "function")
  n : PySem.W.findIn K (.ref C) f = some none
  xf : XfC K C
  cl : PySem.W.isClsIn K C = true
def tIK (K : PySem.W.Frag) (f : Str) (msg : Str) : TS := tSeq (tDrop (tKeI K (tCons (uVar 0) (tCons (tC (.str msg)) tNil)))) (tOstK K f (uVar 0) (uVar 1))
theorem p_initK {K : PySem.W.Frag} {mg : Str → Option Value} {x f msg p0 p1 : Str} {C fI : Addr} (T : ExcK K mg x f C fI) {vs : List V} {H : Hp} {Q : VK} {E : XK} (h : spI C f vs H Q E) :
    tIK K f msg { nx := fun _ H' => Q .non H', rt := Q } (start [p0, p1] vs) H := by
  obtain ⟨a, v, rfl, ha, k⟩ := h
  refine ⟨a, C, [.str msg], rfl, by show 1 ≤ 1000; decide, T.o, ha, ?_⟩
  exact ⟨a, C, rfl, T.o, T.n, ha, fun dx hd hne => k dx hd hne⟩
end U
namespace U
open PySem PySem.Spec PyProof.Rows L2
end U
namespace Fx
open PySem PySem.Spec PyProof.Rows L2 U
end Fx
namespace Fx
open PySem PySem.Spec PyProof.Rows L2 U
end Fx
namespace U
open PySem PySem.Spec PyProof.Rows L2
end U
namespace Fx
open PySem PySem.Spec PyProof.Rows L2 U
end Fx
namespace U
open PySem PySem.Spec PyProof.Rows L2
end U
namespace Fx
open PySem PySem.Spec PyProof.Rows L2 U
end Fx
namespace U
open PySem PySem.Spec PyProof.Rows L2
end U
namespace Fx
open PySem PySem.Spec PyProof.Rows L2 U
end Fx
namespace U
open PySem PySem.Spec PyProof.Rows L2
end U
namespace Fx
open PySem PySem.Spec PyProof.Rows L2 U
end Fx
namespace PySem.SeqAt
open AutoSeq1 (wpAny_loadPart')
open MeetsSeq
end PySem.SeqAt
namespace U
open PySem PySem.Spec PyProof.Rows L2
end U
namespace U
open PySem PySem.Spec PyProof.Rows L2
end U
namespace Fx
open PySem PySem.Spec PyProof.Rows L2 U
end Fx
namespace Fx
open PySem PySem.Spec PyProof.Rows L2 U
end Fx
namespace Fx
open PySem PySem.Spec PyProof.Rows L2 U
end Fx
namespace U
open PySem PySem.Spec PyProof.Rows L2
end U
namespace Fx
open PySem PySem.Spec PyProof.Rows L2 U
end Fx
namespace PySem
end PySem
namespace U
open PySem PySem.Spec PyProof.Rows L2
end U
namespace Fx
open PySem PySem.Spec PyProof.Rows L2 U
end Fx
namespace U
open PySem PySem.Spec PyProof.Rows L2
end U
namespace Fx
open PySem PySem.Spec PyProof.Rows L2 U
end Fx
namespace GenX
open PySem
def stuckK : Resume → Sem PySem.Fin := fun _ => .unsupported "asleep"
def poison : GenState → GenState
  | .suspended _ l c p fs cl => .suspended stuckK l c p fs cl
  | y => y
def Stk (x : GenState) : Prop := ∃ l c p fs cl, x = .suspended stuckK l c p fs cl
def Cln : GenState → Prop
  | .suspended _ _ _ _ fs _ => splitAtGen fs = none
  | _ => True
def R1 (x y : GenState) : Prop := (x = y ∧ Cln y) ∨ (Stk x ∧ x = poison y)
structure RG (X G : Array GenState) : Prop where
  size : X.size = G.size
  at' : ∀ (i : Nat) (x y : GenState), X[i]? = some x → G[i]? = some y → R1 x y
def Stay (X G X' G' : Array GenState) : Prop := ∀ (i : Nat) (x : GenState), X[i]? = some x → Stk x → X'[i]? = some x ∧ G'[i]? = G[i]?
theorem R1.bare {x y : GenState} (h : R1 x y) : x.bare = y.bare := by
  rcases h with ⟨rfl, _⟩ | ⟨_, rfl⟩
  · rfl
  · cases y <;> rfl
theorem RG.get {X G : Array GenState} (h : RG X G) {i : Nat} {x : GenState} (e : X[i]? = some x) : ∃ y, G[i]? = some y ∧ R1 x y := by
  have hi := (Array.getElem?_eq_some_iff.mp e).1
  rw [h.size] at hi
  exact ⟨G[i], Array.getElem?_eq_getElem hi, h.at' i x _ e (Array.getElem?_eq_getElem hi)⟩
theorem RG.bare {X G : Array GenState} (h : RG X G) (b : ∀ x ∈ X, x.bare = true) : ∀ y ∈ G, y.bare = true := fun y hy => by
  obtain ⟨i, hi, e⟩ := Array.mem_iff_getElem.mp hy
  have hi' : i < X.size := by rw [h.size]; exact hi
  have := h.at' i _ y (Array.getElem?_eq_getElem hi') (by rw [Array.getElem?_eq_getElem hi, e])
  rw [← this.bare]
  exact b _ (Array.getElem_mem hi')
theorem RG.push {X G : Array GenState} (h : RG X G) {c : GenState} (hc : Cln c) : RG (X.push c) (G.push c) := by
  refine ⟨by rw [Array.size_push, Array.size_push, h.size], fun i x y e1 e2 => ?_⟩
  rw [Array.getElem?_push] at e1 e2
  rw [h.size] at e1
  split at e1
  · rename_i hi
    rw [if_pos hi] at e2
    cases e1; cases e2
    exact .inl ⟨rfl, hc⟩
  · rename_i hi
    rw [if_neg hi] at e2
    exact h.at' i x y e1 e2
theorem set_get {X : Array GenState} {g i : Nat} {a x : GenState} (e : (X.setIfInBounds g a)[i]? = some x) : (i = g ∧ x = a ∧ g < X.size) ∨ (i ≠ g ∧ X[i]? = some x) := by
  by_cases hi : i = g
  · subst hi
    rw [Array.getElem?_setIfInBounds_self] at e
    split at e
    · cases e; exact .inl ⟨rfl, rfl, by assumption⟩
    · cases e
  · rw [Array.getElem?_setIfInBounds_ne (Ne.symm hi)] at e
    exact .inr ⟨hi, e⟩
theorem RG.set {X G : Array GenState} (h : RG X G) {g : Nat} {a : GenState} (ha : Cln a) : RG (X.setIfInBounds g a) (G.setIfInBounds g a) := by
  refine ⟨by rw [Array.size_setIfInBounds, Array.size_setIfInBounds, h.size], fun i x y e1 e2 => ?_⟩
  rcases set_get e1 with ⟨h1, h2, _⟩ | ⟨h1, h2⟩
  · rcases set_get e2 with ⟨h3, h4, _⟩ | ⟨h3, h4⟩
    · exact .inl ⟨h2.trans h4.symm, by rw [h4]; exact ha⟩
    · exact absurd h1 h3
  · rcases set_get e2 with ⟨h3, h4, _⟩ | ⟨h3, h4⟩
    · exact absurd h3 h1
    · exact h.at' i x y h2 h4
theorem Stay.trans {X G X1 G1 X2 G2 : Array GenState} (a : Stay X G X1 G1) (b : Stay X1 G1 X2 G2) : Stay X G X2 G2 := fun i x e k => by
  obtain ⟨h1, h2⟩ := a i x e k
  obtain ⟨h3, h4⟩ := b i x h1 k
  exact ⟨h3, h4.trans h2⟩
theorem Stay.push {X G : Array GenState} (h : RG X G) {c : GenState} : Stay X G (X.push c) (G.push c) := fun i x e _ => by
  have hi := (Array.getElem?_eq_some_iff.mp e).1
  have hi' := hi
  rw [h.size] at hi'
  rw [Array.getElem?_push, if_neg (by omega), Array.getElem?_push, if_neg (by omega)]
  exact ⟨e, rfl⟩
theorem Stay.set {X G : Array GenState} {g : Nat} {a : GenState} (hn : ∀ x, X[g]? = some x → ¬ Stk x) : Stay X G (X.setIfInBounds g a) (G.setIfInBounds g a) := fun i x e k => by
  have : i ≠ g := fun z => by subst z; exact hn x e k
  rw [Array.getElem?_setIfInBounds_ne (Ne.symm this), Array.getElem?_setIfInBounds_ne (Ne.symm this)]
  exact ⟨e, rfl⟩
abbrev wg (s : Shared) (G : Array GenState) : Shared := { s with gens := G }
/-- behind it: the same, and all that could not be woken sleeps on -/
def Sw {α : Type} (X G : Array GenState) (Q : α → Shared → Prop) (a : α) (s' : Shared) : Prop := ∃ X', RG X' s'.gens ∧ Stay X G X' s'.gens ∧ Q a (wg s' X')
theorem Sw.go {α : Type} {X G X1 G1 : Array GenState} {Q : α → Shared → Prop} {a : α} {s' : Shared} (st : Stay X G X1 G1) (h : Sw X1 G1 Q a s') : Sw X G Q a s' := by
  obtain ⟨X', h1, h2, h3⟩ := h
  exact ⟨X', h1, st.trans h2, h3⟩
/-- what sleeps sleeps on -/
def Asleep (G G' : Array GenState) : Prop := ∀ (i : Nat) (x : GenState), G[i]? = some x → x.status = .suspended → G'[i]? = some x
end GenX
namespace L2
open PySem PySem.Spec PyProof.Rows GenW GenX
end L2
namespace L2
open PySem PySem.Spec PyProof.Rows GenW GenX
/-- the pins that the consumer wants kept stand apart from the generator's own -/
def Apt (X : Cx) (ip ks : List (Addr × Obj)) : Prop := ∀ p ∈ ks, p.1 ≠ X.env.locals ∧ ∀ q ∈ X.pn ++ ip, p.1 ≠ q.1
/-- it may be woken at (s', H') -/
structure Wk (X : Cx) (ip : List (Addr × Obj)) (s s' : Shared) (H' : Hp) (ks' : List (Addr × Obj)) : Prop where
  env : ∃ A0, Env0 X.prog X.w X.K X.mg X.base A0 X.outer s' H'
  loc : ∀ o, s.heap.get? X.env.locals = some o → s'.heap.get? X.env.locals = some o
  free : H' X.env.locals = none
  pin : ∀ p ∈ X.pn ++ (ip ++ ks'), s'.heap.get? p.1 = some p.2 ∧ H' p.1 = none ∧ p.1 ≠ X.env.locals ∧ p.1 ∉ X.fs ∧ ∀ v, p.2.data ≠ .cell v
  apt : Apt X ip ks'
/-- what is wanted behind a statement; n: how often it may still yield; γ: the consumer's own state -/
structure GEn (Γ : Type) where
  nx : Nat → L2.St → Hp → Γ → Prop
  rt : Nat → V → Hp → Γ → Prop
  bk : Nat → L2.St → Hp → Γ → Prop := fun _ _ _ _ => False
  ct : Nat → L2.St → Hp → Γ → Prop := fun _ _ _ _ => False
  yl : Nat → V → Hp → Γ → (Hp → Γ → Prop) → Prop
def GEn.at {Γ : Type} (D : GEn Γ) (n : Nat) (γ : Γ) : Ends := { nx := fun σ H => D.nx n σ H γ, rt := fun v H => D.rt n v H γ, bk := fun σ H => D.bk n σ H γ, ct := fun σ H => D.ct n σ H γ }
end L2
namespace L2
open PySem PySem.Spec PyProof.Rows GenW GenX
end L2
namespace L2
open PySem PySem.Spec PyProof.Rows GenW GenX
end L2
namespace L2
open PySem PySem.Spec PyProof.Rows GenW GenX
end L2
namespace U
open PySem PySem.Spec PyProof.Rows GenW GenX L2
section
variable {X : Cx} {k n : Nat} {f C : Addr} {fd : FuncData} {ps : List Str} {sp : Sp} {W : WX} {x m : Str} {p pos apos : Pos} {o e : Expr} {es : List Expr} {ta : TE} {t : TA} {pl : Sem Bool}
theorem CX.kin {e : Value} {pins : List (Addr × Obj)} {σ : L2.St} {H : Hp} {sc s' : Shared} {E : XK} (I1 : Inv X pins σ H sc) (hc : L2.CX X.prog X.w X.stack H sc E e s') : X.K.In s'.heap := by
  obtain ⟨a, B, H', cls, d, _, fl, _, ub, _⟩ := id hc
  refine I1.ok.mod.kin.keeps fun b o eb => fl.1 b o (ub.keep b o (I1.bs b o eb).1 (I1.bs b o eb).2 fun hm => ?_)
  rcases List.mem_cons.mp (I1.stkSub b hm) with z | z
  · have h1 := Heap.lt_size eb
    have h2 := Nat.le_trans I1.ok.bsz I1.ok.above
    rw [z] at h1
    exact absurd (Nat.lt_of_lt_of_le h1 h2) (Nat.lt_irrefl _)
  · exact I1.ok.nofr eb z
end
end U
namespace Fx
open PySem PySem.Spec PyProof.Rows L2 U
end Fx
namespace U
open PySem PySem.Spec PyProof.Rows GenW GenX L2
section
variable {X : Cx} {pins : List (Addr × Obj)} {σ : L2.St} {H : Hp} {s : Shared}
theorem Inv.gens (I : Inv X pins σ H s) {G : Array GenState} (h : AllBare G) : Inv X pins σ H (wg s G) :=
  ⟨I.ok, I.os, h, I.base, I.loc, I.cell, I.free, I.freeC, I.pin, I.hok, I.len⟩
end
theorem Asleep.trans {a b c : Array GenState} (h1 : Asleep a b) (h2 : Asleep b c) : Asleep a c := fun i x e k => h2 i x (h1 i x e k) k
end U
namespace U
open PySem PySem.Spec PyProof.Rows GenW GenX L2
end U
namespace Fx
open PySem PySem.Spec PyProof.Rows L2 U
noncomputable section
theorem ni {α : Type} (a : α) : a ∉ ([] : List α) := by simp
inductive RGt where
  | nx (ρ : Ev) | bk (ρ : Ev) | ct (ρ : Ev) | bad
/-- an item: a value, or (true) a new list that is given up -/
abbrev Yi := D × Bool
abbrev GnF := Ev → List Yi × RGt
def IV (K : PySem.W.Frag) (ca : Nat → Addr) (B : List Addr) (fr : Addr → Prop) (H : Hp) (x : V) : Yi → Prop
  | (d, false) => RV K ca [] B H x d
  | (d, true) => ∃ a xs ds, x = .ref a ∧ d = .lst ds ∧ a ∉ B ∧ fr a ∧ H a = some (.lst xs) ∧ RAll K ca [] (a :: B) H xs ds
/-- the address that is given up -/
def ad (x : V) (b : Bool) : List Addr := match x, b with
  | .ref a, true => [a]
  | _, _ => []
theorem IV.rv {K : PySem.W.Frag} {ca : Nat → Addr} {B : List Addr} {fr : Addr → Prop} {H : Hp} {x : V} {y : Yi} (h : IV K ca B fr H x y) : RV K ca [] B H x y.1 := by
  obtain ⟨d, b⟩ := y
  cases b with
  | false => exact h
  | true =>
    obtain ⟨a, xs, ds, rfl, rfl, h1, _, h2, h3⟩ := h
    exact .lst (ni _) h1 h2 (h3.per (Per.less fun a z => List.mem_cons_of_mem _ z))
theorem IV.mono {K : PySem.W.Frag} {ca : Nat → Addr} {B : List Addr} {fr fr' : Addr → Prop} {H : Hp} {x : V} {y : Yi} (h : IV K ca B fr H x y) (hf : ∀ a, fr a → fr' a) : IV K ca B fr' H x y := by
  obtain ⟨d, b⟩ := y
  cases b with
  | false => exact h
  | true =>
    obtain ⟨a, xs, ds, h1, h2, h3, h4, h5⟩ := h
    exact ⟨a, xs, ds, h1, h2, h3, hf a h4, h5⟩
theorem IV.fr {K : PySem.W.Frag} {ca : Nat → Addr} {B : List Addr} {fr : Addr → Prop} {H : Hp} {x : V} {y : Yi} (h : IV K ca B fr H x y) {a : Addr} (ha : a ∈ ad x y.2) : fr a := by
  obtain ⟨d, b⟩ := y
  cases b with
  | false => unfold ad at ha; split at ha <;> first | exact absurd ha (ni a) | (rename_i e; cases e)
  | true =>
    obtain ⟨a', xs, ds, rfl, _, _, h4, _⟩ := h
    have ha : a ∈ [a'] := ha
    rw [List.mem_singleton.mp ha]; exact h4
/-- what the consumer keeps of what stood -/
structure Kept (H : Hp) (B : List Addr) (H' : Hp) (B' : List Addr) : Prop where
  at' : ∀ a o, H a = some o → a ∉ B → H' a = some o ∧ a ∉ B'
  dom : ∀ b ∈ B', H' b ≠ none
def PostGn (G : Gm) {Γ : Type} (D : GEn Γ) : List Yi → RGt → Fr → List Addr → Hp → Nat → Γ → Prop
  | [], .nx ρ', F, ω, H, n, γ => ∀ ω' σ' H', ExtS [] ω H [] ω' H' → Rel G F [] ω' ρ' [] σ' H' → D.nx n σ' H' γ
  | [], .bk ρ', F, ω, H, n, γ => ∀ ω' σ' H', ExtS [] ω H [] ω' H' → Rel G F [] ω' ρ' [] σ' H' → D.bk n σ' H' γ
  | [], .ct ρ', F, ω, H, n, γ => ∀ ω' σ' H', ExtS [] ω H [] ω' H' → Rel G F [] ω' ρ' [] σ' H' → D.ct n σ' H' γ
  | [], .bad, _, _, _, _, _ => False
  | y :: ys, r, F, ω, H, n, γ => ∃ m, n = m + 1 ∧ ∀ x H' (κ : Hp → Γ → Prop), (∀ a o, H a = some o → a ∉ ω → H' a = some o) → (∀ a, H a ≠ none → H' a ≠ none) → IV G.K G.ca F.B0 (fun a => H a = none ∨ a ∈ ω) H' x y →
    (∀ H'' γ' B'', Kept H' (ad x y.2 ++ F.B0) H'' B'' → PostGn G D ys r ⟨H'', [], B''⟩ [] H'' m γ' → κ H'' γ') → D.yl m x H' γ κ
section
variable {G : Gm} {Γ : Type} {D : GEn Γ} {F : Fr} {ω ω1 : List Addr} {ρ : Ev} {σ : L2.St} {H H1 : Hp} {n : Nat} {γ : Γ}
theorem PostGn.ex {ys : List Yi} {r : RGt} (h : PostGn G D ys r F ω H n γ) (e : ExtS [] ω H [] ω1 H1) : PostGn G D ys r F ω1 H1 n γ := by
  cases ys with
  | nil =>
    cases r with
    | nx ρ' => exact fun ω' σ' H' e' rel => h ω' σ' H' (e.trans e') rel
    | bk ρ' => exact fun ω' σ' H' e' rel => h ω' σ' H' (e.trans e') rel
    | ct ρ' => exact fun ω' σ' H' e' rel => h ω' σ' H' (e.trans e') rel
    | bad => exact h
  | cons y ys =>
    obtain ⟨m, hm, hy⟩ := h
    refine ⟨m, hm, fun x H' κ k1 k2 rv hκ => ?_⟩
    have q1 : ∀ a o, H a = some o → a ∉ ω → H' a = some o := fun a o q1 q2 => by
      refine k1 a o (e.keep a o q1 (ni _) q2) fun z => ?_
      have := e.neww a z q2
      rw [q1] at this; cases this
    have q3 : ∀ a, (H1 a = none ∨ a ∈ ω1) → (H a = none ∨ a ∈ ω) := fun a z => by
      rcases z with z | z
      · exact .inl (none_of e.dom z)
      · by_cases hz : a ∈ ω
        · exact .inr hz
        · exact .inl (e.neww a z hz)
    exact hy x H' κ q1 (fun a q => k2 a (e.dom a q)) (rv.mono q3) hκ
/-- another end -/
theorem PostGn.map {D' : GEn Γ} {r r' : RGt} (hyl : D'.yl = D.yl) (I : Fr → List Addr → Hp → Prop) (hI : ∀ (F : Fr) (ω : List Addr) (H : Hp) (x : V) (y : Yi) (H' H'' : Hp) (B'' : List Addr), I F ω H → (∀ a o, H a = some o → a ∉ ω → H' a = some o) → IV G.K G.ca F.B0 (fun a => H a = none ∨ a ∈ ω) H' x y → Kept H' (ad x y.2 ++ F.B0) H'' B'' → I ⟨H'', [], B''⟩ [] H'') (zs : List Yi)
    (hend : ∀ F ω H n γ, I F ω H → PostGn G D zs r F ω H n γ → PostGn G D' [] r' F ω H n γ) : ∀ (ys : List Yi) (F : Fr) (ω : List Addr) (H : Hp) (n : Nat) (γ : Γ), I F ω H → PostGn G D (ys ++ zs) r F ω H n γ → PostGn G D' ys r' F ω H n γ
  | [], F, ω, H, n, γ, i, h => hend F ω H n γ i h
  | y :: ys, F, ω, H, n, γ, i, h => by
    obtain ⟨m, hm, hy⟩ := h
    refine ⟨m, hm, fun x H' κ k1 k2 rv hκ => ?_⟩
    rw [hyl]
    exact hy x H' κ k1 k2 rv fun H'' γ' B'' kk post => hκ H'' γ' B'' kk (PostGn.map hyl I hI zs hend ys _ _ _ m γ' (hI F ω H x y H' H'' B'' i k1 rv kk) post)
end
section
variable {G : Gm}
def gNil : GnF := fun ρ => ([], .nx ρ)
end
end
end Fx
namespace Fx
open PySem PySem.Spec PyProof.Rows L2 U
noncomputable section
inductive RGB where
  | go (ys : List Yi) (r : RGt) | xc (c : Nat) (fs : List (Str × D)) | bad
def PostGB (G : Gm) (E : WX) {Γ : Type} (D : GEn Γ) (F : Fr) (ω : List Addr) (H : Hp) (n : Nat) (γ : Γ) : RGB → Prop
  | .go ys r => PostGn G D ys r F ω H n γ
  | .xc c fs => ∀ ω' ρ' σ' dd fv H', ExtS [] ω H [] ω' H' → Rel G F [] ω' ρ' [] σ' H' → NI dd (F.B0 ++ ω') → XD H' dd fv → RFs G.K G.ca [] (F.B0 ++ ω') H' fv fs → E (.ref (G.ca c)) dd σ' H'
  | .bad => False
section
variable {G : Gm} {E : WX}
theorem PostGB.ex {Γ : Type} {D : GEn Γ} {F : Fr} {ω ω1 : List Addr} {H H1 : Hp} {n : Nat} {γ : Γ} {r : RGB} (h : PostGB G E D F ω H n γ r) (e : ExtS [] ω H [] ω1 H1) : PostGB G E D F ω1 H1 n γ r := by
  cases r with
  | go ys r => exact PostGn.ex h e
  | xc c fs => exact fun ω' ρ' σ' dd fv H' e' rel => h ω' ρ' σ' dd fv H' (e.trans e') rel
  | bad => exact h
end
end
end Fx
namespace U
open PySem PySem.Spec PyProof.Rows L2
end U
namespace Fx
open PySem PySem.Spec PyProof.Rows L2 U
end Fx
namespace U
open PySem PySem.Spec PyProof.Rows L2
end U
namespace Fx
open PySem PySem.Spec PyProof.Rows L2 U
end Fx
namespace DsS
open PySem PySem.Spec PyProof.Rows
def addN (σ : List Str) (z : Str) : List Str := if z ∈ σ then σ else σ ++ [z]
theorem addN_mem (σ : List Str) (z y : Str) : y ∈ addN σ z ↔ y ∈ σ ∨ y = z := by
  unfold addN
  split
  · rename_i h
    exact ⟨.inl, fun q => q.elim id fun e => e ▸ h⟩
  · simp
/-- the set at D holds these texts -/
abbrev HasS (prog : Program) (w : World) (h : Heap) (D : Addr) (σ : List Str) : Prop := h.SetOf (PySem.strKind prog w) D (fun y => decide (y ∈ σ)) σ.length
section
variable {prog : Program} {w : World} {A : Around} {R : Result → Shared → Prop} {J : Addr} {fp wr : List Addr} {G : Array GenState → Array GenState → Prop} {n : Nat} {P : Nat → Value → Prop} {St : Nat → Shared → Prop}
theorem HasS.add {h : Heap} {D : Addr} {σ : List Str} {z : Str} (x : h.SetOf (PySem.strKind prog w) D (fun y => decide (y ∈ σ) || decide (y = z)) (if decide (z ∈ σ) = true then σ.length else σ.length + 1)) : HasS prog w h D (addN σ z) :=
  SetOf_congr x (fun y => by rw [← Bool.decide_or]; exact decide_eq_decide.mpr (addN_mem σ z y).symm) (by
    unfold addN
    by_cases q : z ∈ σ
    · rw [if_pos (decide_eq_true q), if_pos q]
    · rw [if_neg (by simpa using q), if_neg q, List.length_append]; rfl)
end
end DsS
namespace U
open PySem PySem.Spec PyProof.Rows L2
end U
namespace Fx
open PySem PySem.Spec PyProof.Rows L2 U
end Fx
namespace Fx
open PySem PySem.Spec PyProof.Rows L2 U
end Fx
namespace L2
open PySem PySem.Spec PyProof.Rows GenW GenX
end L2
namespace U
open PySem PySem.Spec PyProof.Rows GenW GenX L2
end U
namespace U
open PySem PySem.Spec PyProof.Rows GenW GenX L2
end U
namespace Fx
open PySem PySem.Spec PyProof.Rows L2 U
end Fx
namespace U
open PySem PySem.Spec PyProof.Rows L2
/-- C(e), kept: at a the exception, at d its dict -/
def uMkV (C : Addr) (f : Str) (ta : TA) : TE := fun σ H Q => ta σ H fun vs H1 => match vs with
  | [v] => ∀ a d, H1 a = none → H1 d = none → d ≠ a → Q (.ref a) (upd (upd H1 d (exd d [(f, v)])) a (exo a C (some d)))
  | _ => False
theorem mkh {H : Hp} {a d : Addr} {o o' e : HO} (h : d ≠ a) : upd (upd (upd H a o) d e) a o' = upd (upd H d e) a o' := by
  funext b
  by_cases h1 : b = a
  · subst h1; rw [upd_same, upd_same]
  · by_cases h2 : b = d
    · subst h2; rw [upd_ne h1, upd_same, upd_ne h1, upd_same]
    · rw [upd_ne h1, upd_ne h2, upd_ne h1, upd_ne h1, upd_ne h2]
section
variable {X : Cx}
theorem pe_mkV {CX : CXT} {x f : Str} {C fI : Addr} {k : Nat} {fd : FuncData} {ps : List Str} {e : Expr} {ta : TA} {p pos : Pos} (T : ExcC X.K X.mg x f C fI) (F1 : FnOk X.prog X.w X.K X.mg X.base CX k fI fd ps (spI C f)) (hr : Room (k + 1) X.A) (hb : Binds X.K fd ps [])
    (hx : Passes CX X (fun _ _ _ => False)) (hg : Gl X x) (ha : PA X [e] ta)
    (hdb : (x == ("__debug__" : Str)) = false := by decide) (he : starEach (e :: []) X.env = (false, eval e X.env) :: starEach [] X.env := by rfl) (hpl : (backTo pos (starEach [] X.env)).any (·.1) = false := by rfl) :
    PE X (.Call (.Name x p) [e] [] pos) (uMkV C f ta) := by
  refine ⟨fun pins s σ H Q I h => ?_⟩
  obtain ⟨nm, q, N, bs, bm, sn, sub, ab, col, dd, k0, k1, k2, k3, k5, hC, hbm⟩ := T.o.cls
  refine wpAny_Call_Name_kw (ld_glob I hg T.g ?_ hdb)
  refine PySem.W.callWith_K (h₀ := X.base) I.ok.mod.kin T.o.kC (thn (ha.run pos pins s σ H _ I h) fun us s1 ⟨vs, H1, I1, r1, q1⟩ => ⟨I1.kIn, ?_⟩) he hpl
  show wpAny _ _ (call (.ref C) us) _ _ _
  match vs, r1, q1 with
  | [v], .cons (b := u) ru .nil, q1 =>
    obtain ⟨hp, g, dr, tk, os⟩ := s1
    have up1 : hp.objs.size ≤ hp.objs.size + 1 := Nat.le_succ _
    have n1 : H1 (hp.objs.size + 1) = none := I1.hok.fresh up1
    have kk : ∀ b o, hp.get? b = some o → ((hp.push (PySem.W.kdv_tup [u])).push (PySem.HandSPX.excO C hp.objs.size)).get? b = some o := fun b o z => Heap.get?_push_of_some _ (Heap.get?_push_of_some _ z)
    have here : ((hp.push (PySem.W.kdv_tup [u])).push (PySem.HandSPX.excO C hp.objs.size)).get? (hp.objs.size + 1) = some (PySem.HandSPX.excO C hp.objs.size) := by heap_get
    have I2 : Inv X pins σ (upd H1 (hp.objs.size + 1) (exo (hp.objs.size + 1) C none)) ⟨(hp.push (PySem.W.kdv_tup [u])).push (PySem.HandSPX.excO C hp.objs.size), g, dr, tk, os⟩ :=
      I1.laid (t' := tk) (a := hp.objs.size + 1) (o := exo (hp.objs.size + 1) C none) (h' := (hp.push (PySem.W.kdv_tup [u])).push (PySem.HandSPX.excO C hp.objs.size)) kk up1 (exo_ok here)
    have wish : spI C f [.ref (hp.objs.size + 1), v] (upd H1 (hp.objs.size + 1) (exo (hp.objs.size + 1) C none)) (fun w H2 => w = .non ∧ Q (.ref (hp.objs.size + 1)) H2) (fun _ _ _ => False) := by
      refine ⟨_, v, rfl, upd_same, fun dx hd hne => ⟨rfl, ?_⟩⟩
      rw [mkh hne]
      rw [upd_ne hne] at hd
      exact q1 _ dx n1 hd hne
    have hl : [Value.ref (hp.objs.size + 1), u].length = ps.length := by
      have z := F1.len _ _ _ _ wish
      exact z
    refine wpAny_call (PySem.HandSPX.call_own F.excBase_ValueError (fun Y => PySem.HandSPX.refsVE_contains Y bm hbm) (I1.kIn _ _ hC) (PySem.W.looks_findIn I1.kIn T.i) (fun self => PySem.W.bind_fn I1.kIn self T.t) (by show 1 ≤ sizeLine; exact szl (by decide))
      (codeAny_mono (F1.run _ X.stack _ _ ⟨[Value.ref (hp.objs.size + 1), u], []⟩ [Value.ref (hp.objs.size + 1), u] _ _ (fun _ _ _ => False) (hr.make C [u] []) (I2.env0.make C [u] []) (by simpa using hb _ [Value.ref (hp.objs.size + 1), u] I2.kIn (by simpa using hl)) (.cons (show RelV (.ref (hp.objs.size + 1)) (Value.ref (hp.objs.size + 1)) from rfl) (.cons ru .nil)) wish) fun r s' y => ?_))
    cases r with
    | error er => exact hx pins σ _ _ er s' I2 y
    | ok fl =>
      cases fl with
      | ret z =>
        obtain ⟨v2, H2, os2, bare2, un2, hok2, rv, ev, q2⟩ := y
        subst ev
        obtain ⟨h2, g2, d2, t2, os'⟩ := s'
        exact ⟨rv, .ref (hp.objs.size + 1), H2, I2.call' (ch := []) os2 un2 hok2 bare2 (fun b z => absurd z (by simp)), rfl, q2⟩
      | next => exact False.elim y
      | brk => exact False.elim y
      | cont => exact False.elim y
theorem pe_mkVK {CX : CXT} {x f : Str} {C fI : Addr} {k : Nat} {fd : FuncData} {ps : List Str} {e : Expr} {ta : TA} {p pos : Pos} (T : ExcK X.K X.mg x f C fI) (F1 : FnOk X.prog X.w X.K X.mg X.base CX k fI fd ps (spI C f)) (hr : Room (k + 1) X.A) (hb : Binds X.K fd ps [])
    (hx : Passes CX X (fun _ _ _ => False)) (hg : Gl X x) (ha : PA X [e] ta)
    (hdb : (x == ("__debug__" : Str)) = false := by decide) (he : starEach (e :: []) X.env = (false, eval e X.env) :: starEach [] X.env := by rfl) (hpl : (backTo pos (starEach [] X.env)).any (·.1) = false := by rfl) :
    PE X (.Call (.Name x p) [e] [] pos) (uMkV C f ta) := by
  refine ⟨fun pins s σ H Q I h => ?_⟩
  obtain ⟨nm, q, N, bs, bm, sn, sub, ab, col, dd, k0, k1, k2, k3, k5, hC, hbm⟩ := T.o.cls
  refine wpAny_Call_Name_kw (ld_glob I hg T.g ?_ hdb)
  refine PySem.W.callWith_K (h₀ := X.base) I.ok.mod.kin T.o.kC (thn (ha.run pos pins s σ H _ I h) fun us s1 ⟨vs, H1, I1, r1, q1⟩ => ⟨I1.kIn, ?_⟩) he hpl
  show wpAny _ _ (call (.ref C) us) _ _ _
  match vs, r1, q1 with
  | [v], .cons (b := u) ru .nil, q1 =>
    obtain ⟨hp, g, dr, tk, os⟩ := s1
    have up1 : hp.objs.size ≤ hp.objs.size + 1 := Nat.le_succ _
    have n1 : H1 (hp.objs.size + 1) = none := I1.hok.fresh up1
    have kk : ∀ b o, hp.get? b = some o → ((hp.push (PySem.W.kdv_tup [u])).push (PySem.HandSPX.excO C hp.objs.size)).get? b = some o := fun b o z => Heap.get?_push_of_some _ (Heap.get?_push_of_some _ z)
    have here : ((hp.push (PySem.W.kdv_tup [u])).push (PySem.HandSPX.excO C hp.objs.size)).get? (hp.objs.size + 1) = some (PySem.HandSPX.excO C hp.objs.size) := by heap_get
    have I2 : Inv X pins σ (upd H1 (hp.objs.size + 1) (exo (hp.objs.size + 1) C none)) ⟨(hp.push (PySem.W.kdv_tup [u])).push (PySem.HandSPX.excO C hp.objs.size), g, dr, tk, os⟩ :=
      I1.laid (t' := tk) (a := hp.objs.size + 1) (o := exo (hp.objs.size + 1) C none) (h' := (hp.push (PySem.W.kdv_tup [u])).push (PySem.HandSPX.excO C hp.objs.size)) kk up1 (exo_ok here)
    have wish : spI C f [.ref (hp.objs.size + 1), v] (upd H1 (hp.objs.size + 1) (exo (hp.objs.size + 1) C none)) (fun w H2 => w = .non ∧ Q (.ref (hp.objs.size + 1)) H2) (fun _ _ _ => False) := by
      refine ⟨_, v, rfl, upd_same, fun dx hd hne => ⟨rfl, ?_⟩⟩
      rw [mkh hne]
      rw [upd_ne hne] at hd
      exact q1 _ dx n1 hd hne
    have hl : [Value.ref (hp.objs.size + 1), u].length = ps.length := by
      have z := F1.len _ _ _ _ wish
      exact z
    refine wpAny_call (ke_call (keM_of hbm) (I1.kIn _ _ hC) (PySem.W.looks_findIn I1.kIn T.i) (fun self => PySem.W.bind_fn I1.kIn self T.t) (by show 1 ≤ sizeLine; exact szl (by decide))
      (codeAny_mono (F1.run _ X.stack _ _ ⟨[Value.ref (hp.objs.size + 1), u], []⟩ [Value.ref (hp.objs.size + 1), u] _ _ (fun _ _ _ => False) (hr.make C [u] []) (I2.env0.make C [u] []) (by simpa using hb _ [Value.ref (hp.objs.size + 1), u] I2.kIn (by simpa using hl)) (.cons (show RelV (.ref (hp.objs.size + 1)) (Value.ref (hp.objs.size + 1)) from rfl) (.cons ru .nil)) wish) fun r s' y => ?_))
    cases r with
    | error er => exact hx pins σ _ _ er s' I2 y
    | ok fl =>
      cases fl with
      | ret z =>
        obtain ⟨v2, H2, os2, bare2, un2, hok2, rv, ev, q2⟩ := y
        subst ev
        obtain ⟨h2, g2, d2, t2, os'⟩ := s'
        exact ⟨rv, .ref (hp.objs.size + 1), H2, I2.call' (ch := []) os2 un2 hok2 bare2 (fun b z => absurd z (by simp)), rfl, q2⟩
      | next => exact False.elim y
      | brk => exact False.elim y
      | cont => exact False.elim y
/-- C(), kept -/
def uMkV0 (C : Addr) : TE := fun _ H Q => ∀ a, H a = none → Q (.ref a) (upd H a (exo a C none))
theorem pe_mkV0 {CX : CXT} {x : Str} {C fI : Addr} {k : Nat} {fd : FuncData} {ps : List Str} {p pos : Pos} (T : Ex0C X.K X.mg x C fI) (F1 : FnOk X.prog X.w X.K X.mg X.base CX k fI fd ps (spI0 C)) (hr : Room (k + 1) X.A) (hb : Binds X.K fd ps [])
    (hx : Passes CX X (fun _ _ _ => False)) (hg : Gl X x) (hdb : (x == ("__debug__" : Str)) = false := by decide) : PE X (.Call (.Name x p) [] [] pos) (uMkV0 C) := by
  refine ⟨fun pins s σ H Q I h => ?_⟩
  obtain ⟨nm, q, N, bs, bm, sn, sub, ab, col, dd, k0, k1, k2, k3, k5, hC, hbm⟩ := T.cls
  refine wpAny_Call_Name_kw (ld_glob I hg T.g ?_ hdb)
  refine PySem.W.callWith_K0 I.kIn T.kC ?_
  obtain ⟨hp, g, dr, tk, os⟩ := s
  have up1 : hp.objs.size ≤ hp.objs.size + 1 := Nat.le_succ _
  have n1 : H (hp.objs.size + 1) = none := I.hok.fresh up1
  have kk : ∀ b o, hp.get? b = some o → ((hp.push (PySem.W.kdv_tup [])).push (PySem.HandSPX.excO C hp.objs.size)).get? b = some o := fun b o z => Heap.get?_push_of_some _ (Heap.get?_push_of_some _ z)
  have here : ((hp.push (PySem.W.kdv_tup [])).push (PySem.HandSPX.excO C hp.objs.size)).get? (hp.objs.size + 1) = some (PySem.HandSPX.excO C hp.objs.size) := by heap_get
  have I2 : Inv X pins σ (upd H (hp.objs.size + 1) (exo (hp.objs.size + 1) C none)) ⟨(hp.push (PySem.W.kdv_tup [])).push (PySem.HandSPX.excO C hp.objs.size), g, dr, tk, os⟩ :=
    I.laid (t' := tk) (a := hp.objs.size + 1) (o := exo (hp.objs.size + 1) C none) (h' := (hp.push (PySem.W.kdv_tup [])).push (PySem.HandSPX.excO C hp.objs.size)) kk up1 (exo_ok here)
  have wish : spI0 C [.ref (hp.objs.size + 1)] (upd H (hp.objs.size + 1) (exo (hp.objs.size + 1) C none)) (fun v H2 => v = .non ∧ Q (.ref (hp.objs.size + 1)) H2) (fun _ _ _ => False) := ⟨_, rfl, upd_same, rfl, h _ n1⟩
  have hl : [Value.ref (hp.objs.size + 1)].length = ps.length := by
    have z := F1.len _ _ _ _ wish
    exact z
  refine wpAny_call (PySem.HandSPX.call_own F.excBase_LookupError (fun n => refsLk_has n bm hbm) (I.kIn _ _ hC) (PySem.W.looks_findIn I.kIn T.i) (fun self => PySem.W.bind_fn I.kIn self T.t) (by show 0 ≤ sizeLine; exact Nat.zero_le _)
    (codeAny_mono (F1.run _ X.stack _ _ ⟨[Value.ref (hp.objs.size + 1)], []⟩ [Value.ref (hp.objs.size + 1)] _ _ (fun _ _ _ => False) (hr.make C [] []) (I2.env0.make C [] []) (by simpa using hb _ [Value.ref (hp.objs.size + 1)] I2.kIn (by simpa using hl)) (.cons (show RelV (.ref (hp.objs.size + 1)) (Value.ref (hp.objs.size + 1)) from rfl) .nil) wish) fun r s' y => ?_))
  cases r with
  | error er => exact hx pins σ _ _ er s' I2 y
  | ok fl =>
    cases fl with
    | ret u =>
      obtain ⟨v, H2, os2, bare2, un2, hok2, rv, ev, q2⟩ := y
      subst ev
      obtain ⟨h2, g2, d2, t2, os'⟩ := s'
      exact ⟨rv, .ref (hp.objs.size + 1), H2, I2.call' (ch := []) os2 un2 hok2 bare2 (fun b z => absurd z (by simp)), rfl, q2⟩
    | next => exact False.elim y
    | brk => exact False.elim y
    | cont => exact False.elim y
end
end U
namespace U
open PySem PySem.Spec PyProof.Rows L2
structure ExcI (K : PySem.W.Frag) (C : Addr) : Prop where
  cl : (PySem.W.clsIn K C).isSome = true
  ga : PySem.W.findIn K (.ref C) "__getattribute__" = some (some (.builtin "BaseException.__getattribute__"))
  gt : PySem.W.findIn K (.ref C) "__getattr__" = some none
  sb : PySem.W.subIn K (.ref C) (.type "BaseException") = some true
  ha : PySem.W.findIn K (.ref C) "__class__" = some (some (.builtin "object.__class__"))
  hn : PySem.W.specialIn K (.builtin "object.__class__") "__get__" = some (some (.builtin "getset_descriptor.__get__"))
  htk : PySem.W.takesIn K (.builtin "object.__class__") = some true
  hm : PySem.W.mroIn K C (.type "object") = some true
/-- at a: an exception of the class at C that is kept -/
def KeptX (H : Hp) (a C : Addr) : Prop := H a = some (exo a C none) ∨ ∃ d fs, H a = some (exo a C (some d)) ∧ H d = some (exd d fs)
def rIsE (K : PySem.W.Frag) (c : V) (u : Value) : List V → Hp → VK → Prop := fun xs H Q => match xs with
  | [x, y] => y = c ∧ ∃ a C b, x = .ref a ∧ KeptX H a C ∧ ExcI K C ∧ PySem.W.kitOne K (.ref C) u = some b ∧ Q (.bl b) H
  | _ => False
def uIsE (K : PySem.W.Frag) (u : Value) (te : TE) : TE := fun σ H Q => te σ H fun x H1 => ∃ a C b, x = .ref a ∧ KeptX H1 a C ∧ ExcI K C ∧ PySem.W.kitOne K (.ref C) u = some b ∧ Q (.bl b) H1
theorem uIsE_eq (K : PySem.W.Frag) (c : V) (u : Value) (te : TE) : uIsE K u te = tCB (rIsE K c u) (tCons te (tCons (tC c) tNil)) := by
  funext σ H Q
  show te σ H _ = te σ H _
  congr 1; funext x H1
  show _ = (c = c ∧ _)
  simp
section
variable {X : Cx} {e c : Expr} {te : TE} {p pos q : Pos} {u : Value} {v : V}
theorem cu_isE (k : ClsV v u) : CallR X (.builtin "isinstance") (rIsE X.K v u) := by
  intro pins s σ H xs us Q I r h
  match xs, us, r, h with
  | [x, y], [u1, u2], .cons rx (.cons rt .nil), h =>
    obtain ⟨rfl, a, C, b, rfl, hk, T, e, hq⟩ := h
    cases rx
    have ec := k.eq rt
    subst ec
    rcases hk with ha | ⟨d, fs, ha, hd⟩
    · obtain ⟨t1, ho⟩ := exo_at I.hok ha
      exact PySem.W.kia_one (PySem.W.kitx_exc (od := none) T.cl T.ga T.gt T.sb T.ha T.hn T.htk T.hm) I.kIn (x := .ref a) ⟨ho, rfl, rfl, trivial⟩ e (fun z => nomatch z) fun tk => ⟨.bl b, H, I.kept (t' := tk) fun _ _ z => z, rfl, hq⟩
    · obtain ⟨t1, ho⟩ := exo_at I.hok ha
      obtain ⟨mA, hns, _⟩ := exd_at I.hok hd
      obtain ⟨od, hod, _⟩ := lookIn_ns hns
      exact PySem.W.kia_one (PySem.W.kitx_exc (od := some od) T.cl T.ga T.gt T.sb T.ha T.hn T.htk T.hm) I.kIn (x := .ref a) ⟨ho, rfl, rfl, hod⟩ e (fun z => nomatch z) fun tk => ⟨.bl b, H, I.kept (t' := tk) fun _ _ z => z, rfl, hq⟩
theorem pe_isE (k : ClsV v u) (he : PE X e te) (hg : Gl X "isinstance") (hm : X.mg "isinstance" = none) (h2 : PE X c (tC v)) (hs1 : starEach [e, c] X.env = (false, eval e X.env) :: starEach [c] X.env := by rfl) (hs2 : starEach [c] X.env = (false, eval c X.env) :: starEach [] X.env := by rfl)
    (hs3 : (backTo pos (starEach [c] X.env)).any (·.1) = false := by rfl) : PE X (.Call (.Name "isinstance" p) [e, c] [] pos) (uIsE X.K u te) := by
  rw [uIsE_eq X.K v u te]
  exact pe_callB (cu_isE k) hg hm (by decide +kernel) (pa_cons he (pa_cons h2 pa_nil hs2) hs1) (by decide) (by decide) hs1 hs3
/-- e.f, e a kept exception -/
def uXv (K : PySem.W.Frag) (f : Str) (te : TE) : TE := fun σ H Q => te σ H fun x H1 => ∃ a C d fs v, x = .ref a ∧ H1 a = some (exo a C (some d)) ∧ H1 d = some (exd d fs) ∧ XfC K C ∧ PySem.W.findIn K (.ref C) f = some none ∧ fs.lookup f = some v ∧ Q v H1
theorem pe_xv {f : Str} (he : PE X e te) (hb : attributeBase e f X.env (eval e X.env) = eval e X.env := by rfl) : PE X (.Attribute e f pos) (uXv X.K f te) := by
  refine ⟨fun pins s σ H Q I h => ?_⟩
  refine attr_of hb (thn (he.run pins s σ H _ I h) fun u s1 hh => ?_)
  obtain ⟨x, H1, I1, rx, a, C, d, fs, v, rfl, ha, hd, T, hno, l, q⟩ := hh
  obtain rfl : u = Value.ref a := rx
  obtain ⟨t1, ho⟩ := exo_at I1.hok ha
  obtain ⟨mA, hns, hr⟩ := exd_at I1.hok hd
  obtain ⟨od, hod, hl⟩ := lookIn_ns hns
  obtain ⟨u, hu, ru⟩ := RelO.some_of (v := v) (o := mA f) (by rw [← l]; exact hr f)
  have J : PySem.W.InstAt s1.heap a _ C (some od) := ⟨ho, rfl, rfl, hod⟩
  exact HandSPX.exc_get I1.kIn J T.ga T.gg T.exC (PySem.W.findObj_own T.hdC hno rfl (by rw [hl, hu])) (handed_of ru) ⟨v, H1, I1.tok _, ru, q⟩
end
/-- C(e) by the base's own __init__, kept -/
def uMkB (C : Addr) (te : TE) : TE := fun σ H Q => te σ H fun _ H1 => ∀ a, H1 a = none → Q (.ref a) (upd H1 a (exo a C none))
section
variable {X : Cx}
theorem pe_mkB {C : Addr} {bmB : List Value} {B newId initId : String} {x : Str} {e : Expr} {te : TE} {p pos : Pos} (F : ExcBaseFacts B newId initId bmB) (q : PySem.W.excIn X.K C bmB newId = true) (gC : X.mg x = some (.ref C)) (kC : PySem.W.keepIn X.K (.ref C) = true) (hg : Gl X x)
    (he : PE X e te) (hs : starEach [e] X.env = (false, eval e X.env) :: starEach [] X.env := by rfl) (hdb : (x == ("__debug__" : Str)) = false := by decide) :
    PE X (.Call (.Name x p) [e] [] pos) (uMkB C te) := by
  refine ⟨fun pins s σ H Q I h => ?_⟩
  refine wpAny_Call_Name_kw (ld_glob I hg gC ?_ hdb)
  refine PySem.W.callWith_K (h₀ := X.base) I.ok.mod.kin kC ?_ hs (by rfl)
  rw [hs]
  refine Calls.spliced_cons (thn (he.run pins s σ H _ I h) fun u s1 ⟨v, H1, I1, r1, q1⟩ => ?_)
  refine Calls.spliced_nil ⟨I1.kIn, ?_⟩
  show wpAny _ _ (call (.ref C) [u]) _ _ _
  obtain ⟨bm, N, nm, qn, bs, hdct, sn, sub, ab, col, dd, k0, k1, k2, k3, k5, mN, hC, hN, hni, T⟩ := exc_obj I1.kIn q
  refine wpAny_call_exc_subT F T hC hN hni (fun h' a hm => ?_) (by show 1 ≤ sizeLine; exact szl (by decide))
  have hn : H1 a = none := I1.hok.gone hm.new
  obtain ⟨t, ht, _, _⟩ := hm.there
  exact ⟨.ref a, upd H1 a (exo a C none), I1.laidN hm.keeps hm.new hn (exo_ok ht), rfl, q1 a hn⟩
/-- what a class without an own __init__ over KeyError must have -/
structure BareK (K : PySem.W.Frag) (mg : Str → Option Value) (x : Str) (C : Addr) : Prop where
  g : mg x = some (.ref C)
  o : OexK K C
  i : PySem.W.findIn K (.ref C) "__init__" = some (some (.builtin "KeyError.__init__"))
theorem pe_mkBK {C : Addr} {x : Str} {e : Expr} {te : TE} {p pos : Pos} (T : BareK X.K X.mg x C) (hg : Gl X x)
    (he : PE X e te) (hs : starEach [e] X.env = (false, eval e X.env) :: starEach [] X.env := by rfl) (hdb : (x == ("__debug__" : Str)) = false := by decide) :
    PE X (.Call (.Name x p) [e] [] pos) (uMkB C te) := by
  refine ⟨fun pins s σ H Q I h => ?_⟩
  obtain ⟨nm, q, N, bs, bm, sn, sub, ab, col, dd, k0, k1, k2, k3, k5, hC, hbm⟩ := T.o.cls
  refine wpAny_Call_Name_kw (ld_glob I hg T.g ?_ hdb)
  refine PySem.W.callWith_K (h₀ := X.base) I.ok.mod.kin T.o.kC ?_ hs (by rfl)
  rw [hs]
  refine Calls.spliced_cons (thn (he.run pins s σ H _ I h) fun u s1 ⟨v, H1, I1, r1, q1⟩ => ?_)
  refine Calls.spliced_nil ⟨I1.kIn, ?_⟩
  show wpAny _ _ (call (.ref C) [u]) _ _ _
  obtain ⟨hp, g, dr, tk, os⟩ := s1
  have up1 : hp.objs.size ≤ hp.objs.size + 1 := Nat.le_succ _
  have n1 : H1 (hp.objs.size + 1) = none := I1.hok.fresh up1
  have kk : ∀ b o, hp.get? b = some o → ((hp.push (PySem.W.kdv_tup [u])).push (PySem.HandSPX.excO C hp.objs.size)).get? b = some o := fun b o z => Heap.get?_push_of_some _ (Heap.get?_push_of_some _ z)
  have here : ((hp.push (PySem.W.kdv_tup [u])).push (PySem.HandSPX.excO C hp.objs.size)).get? (hp.objs.size + 1) = some (PySem.HandSPX.excO C hp.objs.size) := by heap_get
  have I2 : Inv X pins σ (upd H1 (hp.objs.size + 1) (exo (hp.objs.size + 1) C none)) ⟨(hp.push (PySem.W.kdv_tup [u])).push (PySem.HandSPX.excO C hp.objs.size), g, dr, tk, os⟩ :=
    I1.laid (t' := tk) (a := hp.objs.size + 1) (o := exo (hp.objs.size + 1) C none) (h' := (hp.push (PySem.W.kdv_tup [u])).push (PySem.HandSPX.excO C hp.objs.size)) kk up1 (exo_ok here)
  refine wpAny_call (ke_call (keM_of hbm) (I1.kIn _ _ hC) (PySem.W.looks_findIn I1.kIn T.i) (fun self => PySem.W.Looks.of_pure (ke_init.bind self)) (by show 1 ≤ sizeLine; exact szl (by decide)) ?_)
  refine ke_binit (keM_of hbm) (I2.kIn _ _ hC) here (by show 1 ≤ sizeLine; exact szl (by decide)) fun h' t2 k hx => ?_
  have J := I2.write (t' := tk) (x := hp.objs.size + 1) (e := hp.objs.size + 1) (o := exo (hp.objs.size + 1) C none) (by rw [upd_same]; exact True.intro) (.inl rfl) k ⟨_, hx⟩ (exo_ok hx)
  rw [same_upd upd_same] at J
  exact ⟨rfl, .ref (hp.objs.size + 1), _, J, rfl, q1 _ n1⟩
end
end U
namespace Fx
open PySem PySem.Spec PyProof.Rows L2 U
section
variable {G : Gm} {E : WX}
/-- C(e), kept -/
def fMkX (c : Nat) (f : Str) (fa : FA) : FE := fun ρ S => match fa ρ S with
  | .ok [d] true S1 => .ok (.exv c [(f, d)]) .tr S1
  | .xc c' fs S1 => .xc c' fs S1
  | _ => .bad
theorem se_mkX {c : Nat} {f : Str} {ta : TA} {fa : FA} (ha : SA G E ta fa) : SE G E (uMkV (G.ca c) f ta) (fMkX c f fa) := by
  intro F ι ω ρ S σ H Q rel h
  refine ha F ι ω ρ S σ H _ rel ?_
  unfold fMkX at h
  split at h
  · rename_i d S1 ea
    rw [ea]
    intro ι1 vs H1 e1 r1 ra
    cases ra with
    | @cons v0 _ _ _ q1 q2 =>
      cases q2
      intro a dd ha hd hne
      have r2 : Rel G F ι1 ω ρ S1 σ (upd H1 dd (exd dd [(f, v0)])) := r1.new hd
      have ha2 : (upd H1 dd (exd dd [(f, v0)])) a = none := by rw [upd_ne (Ne.symm hne)]; exact ha
      refine h ι1 (.ref a) _ ((e1.trans (Ext.new1 hd)).trans (Ext.new1 ha2)) (r2.new ha2) ?_
      exact .exv (r1.offi ha) (r1.offb ha) (r1.offi hd) (r1.offb hd) upd_same (by rw [upd_ne hne, upd_same]) (.cons ((q1.per (Per.new hd)).per (Per.new ha2)) .nil)
  · rename_i c' fs S1 ea
    rw [ea]
    exact h
  · exact h.elim
/-- C(), kept -/
def fMkX0 (c : Nat) : FE := fun _ S => .ok (.exv c []) .tr S
theorem se_mkX0 {c : Nat} : SE G E (uMkV0 (G.ca c)) (fMkX0 c) := by
  intro F ι ω ρ S σ H Q rel h a ha
  exact h ι (.ref a) _ (Ext.new1 ha) (rel.new ha) (.exw (rel.offi ha) (rel.offb ha) upd_same)
/-- C(e) by the base's own __init__, kept -/
def fMkXB (c : Nat) (fe : FE) : FE := fun ρ S => bE (fe ρ S) fun _ _ S1 => .ok (.exv c []) .tr S1
theorem se_mkXB {c : Nat} {te : TE} {fe : FE} (he : SE G E te fe) : SE G E (uMkB (G.ca c) te) (fMkXB c fe) := by
  intro F ι ω ρ S σ H Q rel h
  refine he.bind rel h fun d fl S1 ι1 v H1 e1 r1 rf1 h1 a ha => ?_
  exact h1 ι1 (.ref a) _ (Ext.new1 ha) (r1.new ha) (.exw (r1.offi ha) (r1.offb ha) upd_same)
/-- answers of isinstance(kept exception, u), by its class -/
def KtE (K : PySem.W.Frag) (ca : Nat → Addr) (u : Value) (kt : Nat → Option Bool) : Prop := ∀ c b, kt c = some b → PySem.W.kitOne K (.ref (ca c)) u = some b ∧ ExcI K (ca c)
def kIsX (kt : Nat → Option Bool) (d : D) (_ : Fl) (S : Sto) : RE := match d with
  | .exv c _ => (match kt c with
    | some b => .ok (.bl b) .tr S
    | none => .bad)
  | _ => .bad
def fIsX (kt : Nat → Option Bool) (fe : FE) : FE := fun ρ S => bE (fe ρ S) (kIsX kt)
theorem exv_at {K : PySem.W.Frag} {ca : Nat → Addr} {ι B : List Addr} {H : Hp} {v : V} {c : Nat} {es : List (Str × D)} (h : RT K ca ι B H v (.exv c es)) : ∃ a, v = .ref a ∧ KeptX H a (ca c) ∧ (es ≠ [] → ∃ d fs, H a = some (exo a (ca c) (some d)) ∧ H d = some (exd d fs) ∧ RFs K ca ι B H fs es) := by
  cases h with
  | v h =>
    cases h with
    | exv h1 h2 h3 h4 h5 h6 h7 => exact ⟨_, rfl, .inr ⟨_, _, h5, h6⟩, fun _ => ⟨_, _, h5, h6, h7⟩⟩
    | exw h1 h2 h3 => exact ⟨_, rfl, .inl h3, fun z => absurd rfl z⟩
theorem se_isX {u : Value} {kt : Nat → Option Bool} (hk : KtE G.K G.ca u kt) {te : TE} {fe : FE} (he : SE G E te fe) : SE G E (uIsE G.K u te) (fIsX kt fe) := by
  intro F ι ω ρ S σ H Q rel h
  refine he.bind rel h fun d fl S1 ι1 v H1 e1 r1 rf1 h1 => ?_
  unfold kIsX at h1
  split at h1
  · rename_i c es
    split at h1
    · rename_i b eb
      obtain ⟨q1, q2⟩ := hk c b eb
      obtain ⟨a, rfl, hkp, _⟩ := exv_at rf1.rt
      exact ⟨a, _, b, rfl, hkp, q2, q1, PostE.now h1 r1 (.bl b)⟩
    · exact h1.elim
  · exact h1.elim
/-- e.f of a kept exception -/
def kFldX (xf : Nat → Str → Bool) (f : Str) (d : D) (_ : Fl) (S : Sto) : RE := match d with
  | .exv c es => if xf c f = true then (match es.lookup f with
    | some x => .ok x .tr S
    | none => .bad) else .bad
  | _ => .bad
def fFldX (xf : Nat → Str → Bool) (f : Str) (fe : FE) : FE := fun ρ S => bE (fe ρ S) (kFldX xf f)
theorem se_fldX {xf : Nat → Str → Bool} (hxf : ∀ c f, xf c f = true → XfC G.K (G.ca c) ∧ PySem.W.findIn G.K (.ref (G.ca c)) f = some none) {f : Str} {te : TE} {fe : FE} (he : SE G E te fe) : SE G E (uXv G.K f te) (fFldX xf f fe) := by
  intro F ι ω ρ S σ H Q rel h
  refine he.bind rel h fun d fl S1 ι1 v H1 e1 r1 rf1 h1 => ?_
  unfold kFldX at h1
  split at h1
  · rename_i c es
    split at h1
    · rename_i hc
      split at h1
      · rename_i x ex
        obtain ⟨a, rfl, _, hf⟩ := exv_at rf1.rt
        obtain ⟨dd, fs, q1, q2, q3⟩ := hf (fun z => by rw [z] at ex; cases ex)
        obtain ⟨x1, x2⟩ := hxf _ _ hc
        rcases q3.look (f := f) with ⟨d', w, g1, g2, g3⟩ | ⟨g1, g2⟩
        · rw [ex] at g1; cases g1
          exact ⟨a, _, dd, fs, w, rfl, q1, q2, x1, x2, g2, PostE.now h1 r1 g3⟩
        · rw [ex] at g1; cases g1
      · exact h1.elim
    · exact h1.elim
  · exact h1.elim
end
section
variable {ρ : Ev} {S : Sto} {d : D} {fl : Fl} {c : Nat} {f : Str}
theorem v_mkX0 : fMkX0 c ρ S = .ok (.exv c []) .tr S := rfl
theorem v_mkXB {fe : FE} : fMkXB c fe ρ S = bE (fe ρ S) (fun _ _ S1 => .ok (.exv c []) .tr S1) := rfl
theorem v_isX {kt : Nat → Option Bool} {fe : FE} : fIsX kt fe ρ S = bE (fe ρ S) (kIsX kt) := rfl
theorem v_isX1 {kt : Nat → Option Bool} {es : List (Str × D)} {b : Bool} (h : kt c = some b) : kIsX kt (.exv c es) fl S = .ok (.bl b) .tr S := by unfold kIsX; dsimp only; rw [h]
theorem v_fldX {xf : Nat → Str → Bool} {fe : FE} : fFldX xf f fe ρ S = bE (fe ρ S) (kFldX xf f) := rfl
theorem v_fldX1 {xf : Nat → Str → Bool} {es : List (Str × D)} {x : D} (h : xf c f = true) (e : es.lookup f = some x) : kFldX xf f (.exv c es) fl S = .ok x .tr S := by
  unfold kFldX
  dsimp only
  rw [if_pos h, e]
end
end Fx
namespace Fx
open PySem PySem.Spec PyProof.Rows L2 U
def fDispC (kfs : List (Key × FE)) : FE := fun ρ S => if (kfs.map (·.1)).Nodup ∧ kfs.length ≤ 15 then (match fPairs kfs ρ S with
  | some (es, S') => .ok (.cel S'.length) .tr (S' ++ [.dK es])
  | none => .bad) else .bad
def putKD (kvs : List (Key × D)) (k : Key) (d : D) : List (Key × D) := if (kvs.any fun kv => decide (kv.1 = k)) = true then kvs.map (fun kv => if kv.1 = k then (kv.1, d) else kv) else kvs ++ [(k, d)]
def sDSet (i : Nat) (z : Str) (fe : FE) : FS := fun ρ S => eS (fe ρ S) ρ fun d f S1 => (if f.nop = true then (match ρ[i]? with
  | some (.val (.cel k)) => (match S1[k]? with
    | some (.dK kvs) => if kvs.length < lim then .nx ρ (S1.set k (.dK (putKD kvs (.inr z) d))) else .bad
    | _ => .bad)
  | _ => .bad) else .bad)
section
variable {G : Gm} {E : WX} {F : Fr} {ι ω : List Addr} {ρ : Ev} {S : Sto} {σ : L2.St} {H : Hp}
theorem se_dispC {trs : List (TE × TE)} {kfs : List (Key × FE)} (hp : SPs G E trs kfs) : SE G E (tDisp trs) (fDispC kfs) := by
  intro F ι ω ρ S σ H Q rel h p hn
  unfold fDispC at h
  split at h
  · rename_i hc
    split at h
    · rename_i es S' e
      obtain ⟨r1, noa⟩ := rel.hold (o := .dK []) hn
      refine pairs_ok hp r1 e fun ι' vs H2 x r2 rk => ?_
      have e2 : H2 p = some (.dK []) := x.keep p _ upd_same (rel.offi hn)
      have hkeys : vs.map (·.1) = kfs.map (·.1) := by rw [rk.keys, pairs_keys e]
      refine ⟨e2, vs, rfl, ?_, ?_⟩
      · have := congrArg List.length hkeys
        rw [List.length_map, List.length_map] at this
        omega
      · rw [merge_app vs [] (by rw [List.nil_append, hkeys]; exact hc.1), List.nil_append]
        have hm : p ∈ p :: ω := List.mem_cons_self
        have r3 := r2.mutD (o := .dK vs) hm noa
        have sub : ∀ b ∈ p :: (F.B0 ++ ω), b ∈ F.B0 ++ (p :: ω) := fun b hb => by
          rcases List.mem_cons.mp hb with z | z
          · exact List.mem_append_right _ (by rw [z]; exact hm)
          · rcases List.mem_append.mp z with z | z
            · exact List.mem_append_left _ z
            · exact List.mem_append_right _ (List.mem_cons_of_mem _ z)
        have hpi : p ∉ ι' := r2.dj p hm
        have x1 : Ext ι H ι' (upd H2 p (.dK vs)) := by
          have x0 : Ext ι H ι (upd H p (.dK [])) := Ext.new1 hn
          have x2 := x0.trans x
          refine ⟨x2.pre, fun a o ha hi => ?_, x2.new, fun a ha => ?_⟩
          · rw [upd_ne (ne_of_none ha hn)]; exact x2.keep a o ha hi
          · unfold L2.upd; split
            · simp
            · exact x2.dom a ha
        have x3 : Ext ι H (ι' ++ [p]) (upd H2 p (.dK vs)) := ⟨x1.pre.trans (List.prefix_append _ _), x1.keep, fun b hb n => by
          rcases List.mem_append.mp hb with z | z
          · exact x1.new b z n
          · rw [List.mem_singleton.mp z]; exact hn, x1.dom⟩
        have rs : RS G.K G.ca ι' (p :: (F.B0 ++ ω)) (upd H2 p (.dK vs)) S' := r3.sto.less sub
        have rk2 : RKv G.K G.ca (ι' ++ [p]) (F.B0 ++ ω) (upd H2 p (.dK vs)) vs es := rk.per ⟨fun a o h1 h2 h3 => by
          have hne : a ≠ p := fun z => h3 (by rw [z]; exact List.mem_append_right _ hm)
          refine ⟨by rw [upd_ne hne]; exact h1, ?_, fun z => h3 (sub a (List.mem_cons_of_mem _ z))⟩
          simp only [List.mem_append, List.mem_singleton, not_or]
          exact ⟨h2, hne⟩, fun k b h => by rw [List.getElem?_append_left (List.getElem?_eq_some_iff.mp h).1]; exact h⟩
        refine h (ι' ++ [p]) (.ref p) _ x3 (rel.ex x3 ?_ (rs_grow rs (.dK upd_same rk2))) (.cel ?_)
        · rw [List.nodup_append]
          refine ⟨r3.nd, by simp, fun b hb c hc => ?_⟩
          rw [List.mem_singleton.mp hc]
          intro z; subst z; exact hpi hb
        · rw [List.getElem?_append_right (by rw [rs.len]; exact Nat.le_refl _), rs.len]; simp
    · exact h.elim
  · exact h.elim
theorem RKv.any {K : PySem.W.Frag} {ca : Nat → Addr} {B : List Addr} {k : Key} : ∀ {vs : List (Key × V)} {es : List (Key × D)}, RKv K ca ι B H vs es → (vs.any fun kv => decide (kv.1 = k)) = es.any fun kv => decide (kv.1 = k)
  | _, _, .nil => rfl
  | _, _, .cons _ r => by rw [List.any_cons, List.any_cons, RKv.any r]
theorem RKv.putM {K : PySem.W.Frag} {ca : Nat → Addr} {B : List Addr} {k : Key} {v : V} {d : D} (hv : RV K ca ι B H v d) : ∀ {vs : List (Key × V)} {es : List (Key × D)}, RKv K ca ι B H vs es → RKv K ca ι B H (vs.map fun kv => if kv.1 = k then (kv.1, v) else kv) (es.map fun kv => if kv.1 = k then (kv.1, d) else kv)
  | _, _, .nil => .nil
  | _, _, .cons (k := k') h r => by
    rw [List.map_cons, List.map_cons]
    dsimp only
    split
    · exact .cons hv (RKv.putM hv r)
    · exact .cons h (RKv.putM hv r)
theorem RKv.snoc {K : PySem.W.Frag} {ca : Nat → Addr} {B : List Addr} {k : Key} {v : V} {d : D} (hv : RV K ca ι B H v d) : ∀ {vs : List (Key × V)} {es : List (Key × D)}, RKv K ca ι B H vs es → RKv K ca ι B H (vs ++ [(k, v)]) (es ++ [(k, d)])
  | _, _, .nil => .cons hv .nil
  | _, _, .cons h r => .cons h (RKv.snoc hv r)
theorem RKv.put {K : PySem.W.Frag} {ca : Nat → Addr} {B : List Addr} {k : Key} {v : V} {d : D} {vs : List (Key × V)} {es : List (Key × D)} (hv : RV K ca ι B H v d) (h : RKv K ca ι B H vs es) : RKv K ca ι B H (putK vs k v) (putKD es k d) := by
  unfold putK putKD
  rw [RKv.any h]
  split
  · exact RKv.putM hv h
  · exact RKv.snoc hv h
theorem RKv.len {K : PySem.W.Frag} {ca : Nat → Addr} {B : List Addr} {vs : List (Key × V)} {es : List (Key × D)} (h : RKv K ca ι B H vs es) : vs.length = es.length := by
  have := congrArg List.length h.keys
  rwa [List.length_map, List.length_map] at this
theorem Rel.celD (r : Rel G F ι ω ρ S σ H) {k : Nat} {a : Addr} {ds' : List (Key × D)} {xs' : List (Key × V)} (e : ι[k]? = some a) (ra : RKv G.K G.ca ι (F.B0 ++ ω) H xs' ds') : Rel G F ι ω ρ (S.set k (.dK ds')) σ (upd H a (.dK xs')) := by
  have ha : a ∈ ι := List.mem_of_getElem? e
  exact r.ex (Ext.cel ha) r.nd (r.sto.set r.nd e (.dK upd_same (ra.per (Per.upd (.inl ha)))))
theorem ss_dset {i : Nat} {z : Str} {te : TE} {fe : FE} (he : SE G E te fe) : SS G E (sDPut (uVar i) (tC (.str z)) te) (sDSet i z fe) := by
  intro F D ι ω ρ S σ H rel h
  refine he.bindS rel h fun d f S1 ι1 v H1 e1 r1 rf1 h1 => ?_
  split at h1
  · rename_i hf
    split at h1
    · rename_i k ek
      split at h1
      · rename_i kvs es
        split at h1
        · rename_i hl
          obtain ⟨w, q1, rv⟩ := slot_val r1 ek
          cases rv with
          | @cel a k hk =>
            show uVar i σ H1 _
            unfold uVar
            rw [q1]
            have hv := rf1.rv (fun z => by rw [z] at hf; cases hf)
            cases r1.sto.at' k a _ hk es with
            | dK g1 g2 =>
              refine ⟨a, _, rfl, DPut.k (k := .inr z) g1 (by rw [RKv.len g2]; exact Nat.lt_of_lt_of_le hl (lim_le (Nat.le_refl _))), ?_⟩
              exact h1 ι1 ω σ _ (Ext.cel (List.mem_of_getElem? hk)).s (r1.celD hk (RKv.put hv g2))
        · exact h1.elim
      · exact h1.elim
    · exact h1.elim
  · exact h1.elim
end
mutual
def treeK (c : Nat → Option PyData) : D → Option PyData
  | .non => some .none
  | .bl b => some (.bool b)
  | .int i => some (.int i)
  | .str z => some (.str z)
  | .lst ds => (treeKA c ds).map .list
  | .tup ds => (treeKA c ds).map .tuple
  | .dct kvs => (treeKV c kvs).map .dict
  | .cel k => c k
  | .fro _ _ => none
  | .obj _ _ => none
  | .cls _ => none
  | .exv _ _ => none
def treeKA (c : Nat → Option PyData) : List D → Option (List PyData)
  | [] => some []
  | d :: ds => (match treeK c d, treeKA c ds with | some p, some ps => some (p :: ps) | _, _ => none)
def treeKV (c : Nat → Option PyData) : List (Key × D) → Option (List (PyData × PyData))
  | [] => some []
  | (k, d) :: ds => (match k, treeK c d, treeKV c ds with | .inr z, some p, some ps => some ((.str z, p) :: ps) | _, _, _ => none)
end
def cellsK : Nat → Sto → Nat → Option PyData
  | 0, _, _ => none
  | n + 1, S, k => (match S[k]? with
    | some (.lst ds) => (treeKA (cellsK n S) ds).map .list
    | some (.dK kvs) => (treeKV (cellsK n S) kvs).map .dict
    | _ => none)
def toK (S : Sto) (d : D) : Option PyData := treeK (cellsK 4 S) d
section
variable {K : PySem.W.Frag} {ca : Nat → Addr} {ι B : List Addr} {H : Hp} {c : Nat → Option PyData}
mutual
theorem treeK_dq (hc : ∀ k a p, ι[k]? = some a → c k = some p → Dq K H (.ref a) p) : ∀ (d : D) {v : V} {p : PyData}, RV K ca ι B H v d → treeK c d = some p → Dq K H v p
  | .non, _, _, h, e => by cases h; simp only [treeK] at e; cases e; exact .non
  | .bl _, _, _, h, e => by cases h; simp only [treeK] at e; cases e; exact .bl _
  | .int _, _, _, h, e => by cases h; simp only [treeK] at e; cases e; exact .int _
  | .str _, _, _, h, e => by cases h; simp only [treeK] at e; cases e; exact .str _
  | .lst ds, _, _, h, e => by
    cases h with
    | lst h1 h2 h3 h4 =>
      simp only [treeK, Option.map_eq_some_iff] at e
      obtain ⟨ps, e1, rfl⟩ := e
      exact .lst (.inl (.inl h3)) (treeKA_dq hc ds h4 e1)
  | .tup ds, _, _, h, e => by
    cases h with
    | tup h1 h2 h3 h4 =>
      simp only [treeK, Option.map_eq_some_iff] at e
      obtain ⟨ps, e1, rfl⟩ := e
      exact .tup (.inl (.inl h3)) (treeKA_dq hc ds h4 e1)
  | .dct kvs, _, _, h, e => by
    cases h with
    | dct h1 h2 h3 h4 =>
      simp only [treeK, Option.map_eq_some_iff] at e
      obtain ⟨ps, e1, rfl⟩ := e
      exact .dctk h3 (treeKV_dq hc kvs h4 e1)
  | .cel k, _, _, h, e => by
    cases h with
    | cel h1 =>
      simp only [treeK] at e
      exact hc _ _ _ h1 e
  | .fro _ _, _, _, h, e => by simp only [treeK] at e; cases e
  | .obj _ _, _, _, h, e => by simp only [treeK] at e; cases e
  | .cls _, _, _, h, e => by simp only [treeK] at e; cases e
  | .exv _ _, _, _, h, e => by simp only [treeK] at e; cases e
theorem treeKA_dq (hc : ∀ k a p, ι[k]? = some a → c k = some p → Dq K H (.ref a) p) : ∀ (ds : List D) {vs : List V} {ps : List PyData}, RAll K ca ι B H vs ds → treeKA c ds = some ps → DqAll K H vs ps
  | [], _, _, h, e => by cases h; simp only [treeKA] at e; cases e; exact .nil
  | d :: ds, _, _, h, e => by
    cases h with
    | cons h1 h2 =>
      simp only [treeKA] at e
      split at e
      · cases e
        exact .cons (treeK_dq hc d h1 (by assumption)) (treeKA_dq hc ds h2 (by assumption))
      · cases e
theorem treeKV_dq (hc : ∀ k a p, ι[k]? = some a → c k = some p → Dq K H (.ref a) p) : ∀ (kvs : List (Key × D)) {vs : List (Key × V)} {ps : List (PyData × PyData)}, RKv K ca ι B H vs kvs → treeKV c kvs = some ps → DqKv K H vs ps
  | [], _, _, h, e => by cases h; simp only [treeKV] at e; cases e; exact .nil
  | (k, d) :: ds, _, _, h, e => by
    cases h with
    | cons h1 h2 =>
      simp only [treeKV] at e
      split at e
      · cases e
        exact .cons (treeK_dq hc d h1 (by assumption)) (treeKV_dq hc ds h2 (by assumption))
      · cases e
end
theorem cellsK_dq {S : Sto} (rs : RS K ca ι B H S) : ∀ (n : Nat) (k : Nat) (a : Addr) (p : PyData), ι[k]? = some a → cellsK n S k = some p → Dq K H (.ref a) p
  | 0, _, _, _, _, e => by unfold cellsK at e; cases e
  | n + 1, k, a, p, h, e => by
    unfold cellsK at e
    split at e
    · rename_i ds es
      rw [Option.map_eq_some_iff] at e
      obtain ⟨ps, e1, rfl⟩ := e
      cases rs.at' k a _ h es with
      | lst h1 h2 => exact .lst (.inl (.inl h1)) (treeKA_dq (cellsK_dq rs n) ds h2 e1)
    · rename_i ds es
      rw [Option.map_eq_some_iff] at e
      obtain ⟨ps, e1, rfl⟩ := e
      cases rs.at' k a _ h es with
      | dK h1 h2 => exact .dctk h1 (treeKV_dq (cellsK_dq rs n) ds h2 e1)
    · cases e
theorem toK_dq {S : Sto} {v : V} {d : D} {p : PyData} (rs : RS K ca ι B H S) (h : RT K ca ι B H v d) (e : toK S d = some p) : Dq K H v p := by
  unfold toK at e
  cases h with
  | v h => exact treeK_dq (cellsK_dq rs 4) d h e
  | l h1 h2 h3 =>
    simp only [treeK, Option.map_eq_some_iff] at e
    obtain ⟨ps, e1, rfl⟩ := e
    exact .lst (.inl (.inl h2)) (treeKA_dq (cellsK_dq rs 4) _ h3 e1)
  | o => simp only [treeK] at e; cases e
end
open Classical in
noncomputable def dReprK (ds : List D) (_ : Bool) (S : Sto) : RE := match ds with
  | [d] => (match toK S d with
    | some p => if Okw p then .ok (.str p.shown) .tr S else .bad
    | none => .bad)
  | _ => .bad
theorem sc_reprK {G : Gm} {E : WX} : SC G E (uRepr3 G.K) dReprK := by
  intro F ι ω ρ S σ H Q vs ds t rel ha h
  have ha := ha.pair
  unfold dReprK at h
  split at h
  · obtain ⟨v, rfl, q⟩ := pair1 ha
    split at h
    · rename_i p ep
      split at h
      · rename_i ok
        exact ⟨p, toK_dq rel.sto q ep, ok, PostE.now h rel (.str _)⟩
      · exact h.elim
    · exact h.elim
  · exact h.elim
section
variable {ρ : Ev} {S S1 : Sto} {d : D} {f : Fl}
theorem d_reprK {p : PyData} {t : Bool} (h : toK S d = some p) (ok : Okw p) : dReprK [d] t S = .ok (.str p.shown) .tr S := by
  unfold dReprK
  dsimp only
  rw [h]
  exact if_pos ok
def kDSet (i : Nat) (z : Str) (ρ : Ev) (d : D) (f : Fl) (S1 : Sto) : RSt := if f.nop = true then (match ρ[i]? with
  | some (.val (.cel k)) => (match S1[k]? with
    | some (.dK kvs) => if kvs.length < lim then .nx ρ (S1.set k (.dK (putKD kvs (.inr z) d))) else .bad
    | _ => .bad)
  | _ => .bad) else .bad
theorem v_dset {i : Nat} {z : Str} {fe : FE} : sDSet i z fe ρ S = eS (fe ρ S) ρ (kDSet i z ρ) := rfl
theorem v_dset1 {i k : Nat} {z : Str} {kvs : List (Key × D)} (hf : f.nop = true) (h : ρ[i]? = some (.val (.cel k))) (hs : S[k]? = some (.dK kvs)) (hl : kvs.length < lim) : kDSet i z ρ d f S = .nx ρ (S.set k (.dK (putKD kvs (.inr z) d))) := by
  unfold kDSet
  rw [if_pos hf, h]
  dsimp only
  rw [hs]
  exact if_pos hl
theorem v_dispC {kfs : List (Key × FE)} : fDispC kfs ρ S = (if (kfs.map (·.1)).Nodup ∧ kfs.length ≤ 15 then (match fPairs kfs ρ S with
  | some (es, S') => .ok (.cel S'.length) .tr (S' ++ [.dK es])
  | none => .bad) else .bad) := rfl
end
end Fx
namespace U
open PySem PySem.Spec PyProof.Rows L2
def excIB (K : PySem.W.Frag) (C : Addr) : Bool := (PySem.W.clsIn K C).isSome && (decide (PySem.W.findIn K (.ref C) "__getattribute__" = some (some (.builtin "BaseException.__getattribute__"))) && (decide (PySem.W.findIn K (.ref C) "__getattr__" = some none) && (decide (PySem.W.subIn K (.ref C) (.type "BaseException") = some true) &&
  (decide (PySem.W.findIn K (.ref C) "__class__" = some (some (.builtin "object.__class__"))) && (decide (PySem.W.specialIn K (.builtin "object.__class__") "__get__" = some (some (.builtin "getset_descriptor.__get__"))) && (decide (PySem.W.takesIn K (.builtin "object.__class__") = some true) && decide (PySem.W.mroIn K C (.type "object") = some true)))))))
theorem excIB_ok {K : PySem.W.Frag} {C : Addr} (h : excIB K C = true) : ExcI K C := by
  unfold excIB at h
  simp only [Bool.and_eq_true, decide_eq_true_eq] at h
  obtain ⟨h1, h2, h3, h4, h5, h6, h7, h8⟩ := h
  exact ⟨h1, h2, h3, h4, h5, h6, h7, h8⟩
end U
namespace Fx
open PySem PySem.Spec PyProof.Rows L2 U
theorem ps_dputU {X : Cx} {o i value : Expr} {pos pos' : Pos} {td ty tv : TE} (hu : X.A.units + 64 < cLine) (ho : PE X o td) (hi : PE X i ty) (hv : PE X value tv) (hs : swapsWith value (some (.Subscript o i pos')) pos.line X.env = pure false) :
    PS X (.Assign [.Subscript o i pos'] value pos) (sDPut td ty tv) := ps_dput (by omega) ho hi hv hs
theorem look_mem {tbl : List (Nat × Bool)} {c : Nat} {b : Bool} (h : tbl.lookup c = some b) : (c, b) ∈ tbl := by
  induction tbl with
  | nil => cases h
  | cons p r ih =>
    obtain ⟨k, x⟩ := p
    rw [List.lookup_cons] at h
    cases e : c == k with
    | true =>
      rw [e] at h
      cases h
      rw [beq_iff_eq.mp e]
      exact List.mem_cons_self
    | false =>
      rw [e] at h
      exact List.mem_cons_of_mem _ (ih h)
theorem ktE_of {K : PySem.W.Frag} {ca : Nat → Addr} {u : Value} {tbl : List (Nat × Bool)} (h : (tbl.all fun p => decide (PySem.W.kitOne K (.ref (ca p.1)) u = some p.2)) = true) (hx : (tbl.all fun p => excIB K (ca p.1)) = true) : KtE K ca u (fun c => tbl.lookup c) := fun c b e => by
  have m := look_mem e
  have h1 := List.all_eq_true.mp h _ m
  have h2 := List.all_eq_true.mp hx _ m
  exact ⟨of_decide_eq_true h1, excIB_ok h2⟩
end Fx
namespace HotX
open PySem PySem.Spec PyProof.Rows
end HotX
namespace L2M
open PySem PySem.Spec PyProof.Rows L2
/-- the context that an exception bears: None, or an old exception whose context is None -/
def CtxB (B : Heap) (H : Hp) (a : Addr) (v : Option Value) : Prop := v = some .none ∨ ∃ (x : Addr) (o : Obj) (vs : Array Value), v = some (.ref x) ∧ x ≠ a ∧ B.get? x = some o ∧ H x = none ∧ o.data = .fields vs ∧ vs[2]? = some .none
def Zm (B : Heap) (H : Hp) (a : Addr) (cls : Value) (d : Option Addr) : Obj → Prop := fun o => o.cls = cls ∧ o.dict = d ∧ ∀ vs : Array Value, o.data = .fields vs → CtxB B H a vs[2]?
theorem Zm.of {B : Heap} {H : Hp} {a : Addr} {cls : Value} {d : Option Addr} {o : Obj} (h : L2N.Zn cls d o) : Zm B H a cls d o := ⟨h.1, h.2.1, fun vs e => .inl (h.2.2 vs e)⟩
/-- behind a call that let an exception out: its context is told -/
def CX (P : Program) (w : World) (outer : List Env) (H : Hp) (s : Shared) (E : XK) (u : Value) (t : Shared) : Prop :=
  ∃ (a : Addr) (B : Heap) (H' : Hp) (cls : Value) (d : Option Addr), u = .ref a ∧ HandSPX.FlyingZ B outer a (Zm B H' a cls d) t.heap ∧ HOk P w H' B ∧ UB (frs outer) H H' s.heap B t.heap ∧ H' a = none ∧ t.os = s.os ∧ AllBare t.gens ∧ E cls d H'
/-- in the air of X -/
def XE (X : Cx) (W : WX) (u : Value) (t : Shared) : Prop :=
  ∃ (a : Addr) (B : Heap) (sI : Shared) (pins : List (Addr × Obj)) (σ : L2.St) (H : Hp) (cls : Value) (d : Option Addr), u = .ref a ∧ Inv X pins σ H sI ∧ (∀ b o, sI.heap.get? b = some o → b ∉ frs X.stack → B.get? b = some o) ∧
    sI.heap.UpToSlots t.heap ∧ Sky B X.stack a (Zm B H a cls d) X.env.locals t.heap ∧ H a = none ∧ t.os = sI.os ∧ AllBare t.gens ∧ W cls d σ H
section
variable {X : Cx} {pins : List (Addr × Obj)} {σ : L2.St} {H : Hp} {sI s t : Shared} {B : Heap} {W : WX} {E : XK}
/-- a new one is in our air -/
theorem XE.new {a : Addr} {oe : Obj} {vs : Array Value} {cls : Value} {d : Option Addr} (I : Inv X pins σ H sI) (k : ∀ b o, sI.heap.get? b = some o → t.heap.get? b = some o) (hne : sI.heap.get? a = none) (he : t.heap.get? a = some oe)
    (hz : Zm (PySem.W.hideAll sI.heap (frs X.stack)) H a cls d oe) (hd : oe.data = .fields vs) (h1 : vs[1]? = some .none) (na : H a = none) (os : t.os = sI.os) (ag : AllBare t.gens) (w : W cls d σ H) : XE X W (.ref a) t := by
  refine ⟨a, PySem.W.hideAll sI.heap (frs X.stack), sI, pins, σ, H, cls, d, rfl, I, fun b o e hb => PySem.W.hideAll_get _ e hb, Heap.UpToSlots.of_keeps k,
    .inl ⟨fun b o e => k b o (PySem.W.of_hideAll _ e), ?_, ?_, oe, vs, he, hz, hd, h1⟩, na, os, ag, w⟩
  · cases q : (PySem.W.hideAll sI.heap (frs X.stack)).get? a with
    | none => rfl
    | some o =>
      have z := PySem.W.of_hideAll _ q
      rw [hne] at z
      cases z
  · exact Heap.FunFrames.of_keeps (fun b o e _ => ⟨o, k b o e, rfl⟩) (funFrames_none I.stack fun b hb => PySem.W.hideAll_none _ hb)
end
end L2M
namespace U
open PySem PySem.Spec PyProof.Rows L2
end U
namespace Lw
open PySem PySem.Spec PyProof.Rows L2 U Fx
noncomputable section
def xf_ : Nat → Str → Bool
  | 3, f => decide (f = "value")
  | 4, f => decide (f = "value")
  | 5, f => decide (f = "value")
  | 6, f => decide (f = "value")
  | 7, f => decide (f = "value")
  | 8, f => decide (f = "value")
  | 9, f => decide (f = "value")
  | 10, f => decide (f = "value")
  | 11, f => decide (f = "value")
  | 12, f => decide (f = "value")
  | 13, f => decide (f = "value")
  | 14, f => decide (f = "value")
  | 15, f => decide (f = "value")
  | 16, f => decide (f = "value")
  | 17, f => decide (f = "value")
  | 18, f => decide (f = "line")
  | 19, f => decide (f = "count")
  | 20, f => decide (f = "index")
  | 21, f => decide (f = "value")
  | 22, f => decide (f = "value")
  | 23, f => decide (f = "name")
  | _, _ => false
def kx_AbsentError : Nat → Option Bool := fun c => List.lookup c [(0, false), (1, true), (2, false), (3, false), (4, false), (5, false), (6, false), (7, false), (8, false), (9, false), (10, false), (11, false), (12, false), (13, false), (14, false), (15, false), (16, false), (17, false), (18, false), (19, false), (20, true), (21, true), (22, true), (23, true), (24, false), (25, false), (26, false)]
def kx_IndexError : Nat → Option Bool := fun c => List.lookup c [(0, false), (1, false), (2, false), (3, false), (4, false), (5, false), (6, false), (7, false), (8, false), (9, false), (10, false), (11, false), (12, false), (13, false), (14, false), (15, false), (16, false), (17, false), (18, false), (19, false), (20, false), (21, false), (22, false), (23, false), (24, false), (25, false), (26, false)]
def kx_InvalidChain : Nat → Option Bool := fun c => List.lookup c [(0, false), (1, false), (2, false), (3, false), (4, false), (5, false), (6, false), (7, false), (8, true), (9, false), (10, false), (11, false), (12, false), (13, false), (14, false), (15, false), (16, false), (17, false), (18, false), (19, false), (20, false), (21, false), (22, false), (23, false), (24, false), (25, false), (26, false)]
def kx_InvalidChange : Nat → Option Bool := fun c => List.lookup c [(0, false), (1, false), (2, false), (3, false), (4, false), (5, false), (6, false), (7, false), (8, false), (9, false), (10, false), (11, false), (12, false), (13, true), (14, false), (15, false), (16, false), (17, false), (18, false), (19, false), (20, false), (21, false), (22, false), (23, false), (24, false), (25, false), (26, false)]
def kx_InvalidInteger : Nat → Option Bool := fun c => List.lookup c [(0, false), (1, false), (2, false), (3, false), (4, false), (5, false), (6, false), (7, false), (8, false), (9, false), (10, true), (11, false), (12, false), (13, false), (14, false), (15, false), (16, false), (17, false), (18, false), (19, false), (20, false), (21, false), (22, false), (23, false), (24, false), (25, false), (26, false)]
def kx_InvalidLine : Nat → Option Bool := fun c => List.lookup c [(0, false), (1, false), (2, false), (3, false), (4, false), (5, false), (6, false), (7, false), (8, false), (9, false), (10, false), (11, false), (12, false), (13, false), (14, false), (15, true), (16, false), (17, false), (18, false), (19, false), (20, false), (21, false), (22, false), (23, false), (24, false), (25, false), (26, false)]
def kx_InvalidLines : Nat → Option Bool := fun c => List.lookup c [(0, false), (1, false), (2, false), (3, false), (4, false), (5, false), (6, false), (7, false), (8, false), (9, false), (10, false), (11, false), (12, false), (13, false), (14, false), (15, false), (16, true), (17, false), (18, false), (19, false), (20, false), (21, false), (22, false), (23, false), (24, false), (25, false), (26, false)]
def kx_InvalidMark : Nat → Option Bool := fun c => List.lookup c [(0, false), (1, false), (2, false), (3, true), (4, false), (5, false), (6, false), (7, false), (8, false), (9, false), (10, false), (11, false), (12, false), (13, false), (14, false), (15, false), (16, false), (17, false), (18, false), (19, false), (20, false), (21, false), (22, false), (23, false), (24, false), (25, false), (26, false)]
def kx_InvalidMarks : Nat → Option Bool := fun c => List.lookup c [(0, false), (1, false), (2, false), (3, false), (4, true), (5, false), (6, false), (7, false), (8, false), (9, false), (10, false), (11, false), (12, false), (13, false), (14, false), (15, false), (16, false), (17, false), (18, false), (19, false), (20, false), (21, false), (22, false), (23, false), (24, false), (25, false), (26, false)]
def kx_InvalidName : Nat → Option Bool := fun c => List.lookup c [(0, false), (1, false), (2, false), (3, false), (4, false), (5, false), (6, false), (7, false), (8, false), (9, false), (10, false), (11, false), (12, false), (13, false), (14, true), (15, false), (16, false), (17, false), (18, false), (19, false), (20, false), (21, false), (22, false), (23, false), (24, false), (25, false), (26, false)]
def kx_InvalidPage : Nat → Option Bool := fun c => List.lookup c [(0, false), (1, false), (2, false), (3, false), (4, false), (5, false), (6, false), (7, false), (8, false), (9, false), (10, false), (11, false), (12, false), (13, false), (14, false), (15, false), (16, false), (17, false), (18, true), (19, false), (20, false), (21, false), (22, false), (23, false), (24, false), (25, false), (26, false)]
def kx_InvalidRow : Nat → Option Bool := fun c => List.lookup c [(0, false), (1, false), (2, false), (3, false), (4, false), (5, false), (6, false), (7, false), (8, false), (9, false), (10, false), (11, false), (12, true), (13, false), (14, false), (15, false), (16, false), (17, false), (18, false), (19, false), (20, false), (21, false), (22, false), (23, false), (24, false), (25, false), (26, false)]
def kx_InvalidState : Nat → Option Bool := fun c => List.lookup c [(0, false), (1, false), (2, false), (3, false), (4, false), (5, false), (6, false), (7, false), (8, false), (9, false), (10, false), (11, true), (12, false), (13, false), (14, false), (15, false), (16, false), (17, false), (18, false), (19, false), (20, false), (21, false), (22, false), (23, false), (24, false), (25, false), (26, false)]
def kx_InvalidStep : Nat → Option Bool := fun c => List.lookup c [(0, false), (1, false), (2, false), (3, false), (4, false), (5, false), (6, false), (7, true), (8, false), (9, false), (10, false), (11, false), (12, false), (13, false), (14, false), (15, false), (16, false), (17, false), (18, false), (19, false), (20, false), (21, false), (22, false), (23, false), (24, false), (25, false), (26, false)]
def kx_InvalidStock : Nat → Option Bool := fun c => List.lookup c [(0, false), (1, false), (2, false), (3, false), (4, false), (5, false), (6, false), (7, false), (8, false), (9, true), (10, false), (11, false), (12, false), (13, false), (14, false), (15, false), (16, false), (17, false), (18, false), (19, false), (20, false), (21, false), (22, false), (23, false), (24, false), (25, false), (26, false)]
def kx_InvalidText : Nat → Option Bool := fun c => List.lookup c [(0, false), (1, false), (2, false), (3, false), (4, false), (5, false), (6, true), (7, false), (8, false), (9, false), (10, false), (11, false), (12, false), (13, false), (14, false), (15, false), (16, false), (17, false), (18, false), (19, false), (20, false), (21, false), (22, false), (23, false), (24, false), (25, false), (26, false)]
def kx_InvalidWords : Nat → Option Bool := fun c => List.lookup c [(0, false), (1, false), (2, false), (3, false), (4, false), (5, true), (6, false), (7, false), (8, false), (9, false), (10, false), (11, false), (12, false), (13, false), (14, false), (15, false), (16, false), (17, false), (18, false), (19, false), (20, false), (21, false), (22, false), (23, false), (24, false), (25, false), (26, false)]
def kx_KeyError : Nat → Option Bool := fun c => List.lookup c [(0, false), (1, true), (2, false), (3, false), (4, false), (5, false), (6, false), (7, false), (8, false), (9, false), (10, false), (11, false), (12, false), (13, false), (14, false), (15, false), (16, false), (17, false), (18, false), (19, false), (20, true), (21, true), (22, true), (23, true), (24, false), (25, false), (26, false)]
def kx_LookupError : Nat → Option Bool := fun c => List.lookup c [(0, false), (1, true), (2, true), (3, false), (4, false), (5, false), (6, false), (7, false), (8, false), (9, false), (10, false), (11, false), (12, false), (13, false), (14, false), (15, false), (16, false), (17, false), (18, false), (19, false), (20, true), (21, true), (22, true), (23, true), (24, true), (25, true), (26, true)]
def kx_NoChain : Nat → Option Bool := fun c => List.lookup c [(0, false), (1, false), (2, false), (3, false), (4, false), (5, false), (6, false), (7, false), (8, false), (9, false), (10, false), (11, false), (12, false), (13, false), (14, false), (15, false), (16, false), (17, false), (18, false), (19, false), (20, false), (21, false), (22, false), (23, true), (24, false), (25, false), (26, false)]
def kx_NoInput : Nat → Option Bool := fun c => List.lookup c [(0, false), (1, false), (2, false), (3, false), (4, false), (5, false), (6, false), (7, false), (8, false), (9, false), (10, false), (11, false), (12, false), (13, false), (14, false), (15, false), (16, false), (17, false), (18, false), (19, false), (20, false), (21, false), (22, true), (23, false), (24, false), (25, false), (26, false)]
def kx_NoLetter : Nat → Option Bool := fun c => List.lookup c [(0, false), (1, false), (2, false), (3, false), (4, false), (5, false), (6, false), (7, false), (8, false), (9, false), (10, false), (11, false), (12, false), (13, false), (14, false), (15, false), (16, false), (17, false), (18, false), (19, false), (20, false), (21, true), (22, false), (23, false), (24, false), (25, false), (26, false)]
def kx_NoStep : Nat → Option Bool := fun c => List.lookup c [(0, false), (1, false), (2, false), (3, false), (4, false), (5, false), (6, false), (7, false), (8, false), (9, false), (10, false), (11, false), (12, false), (13, false), (14, false), (15, false), (16, false), (17, false), (18, false), (19, false), (20, true), (21, false), (22, false), (23, false), (24, false), (25, false), (26, false)]
def kx_NoStock : Nat → Option Bool := fun c => List.lookup c [(0, false), (1, false), (2, false), (3, false), (4, false), (5, false), (6, false), (7, false), (8, false), (9, false), (10, false), (11, false), (12, false), (13, false), (14, false), (15, false), (16, false), (17, false), (18, false), (19, false), (20, false), (21, false), (22, false), (23, false), (24, true), (25, false), (26, false)]
def kx_NotOver : Nat → Option Bool := fun c => List.lookup c [(0, false), (1, false), (2, false), (3, false), (4, false), (5, false), (6, false), (7, false), (8, false), (9, false), (10, false), (11, false), (12, false), (13, false), (14, false), (15, false), (16, false), (17, true), (18, false), (19, false), (20, false), (21, false), (22, false), (23, false), (24, false), (25, false), (26, false)]
def kx_NothingToRedo : Nat → Option Bool := fun c => List.lookup c [(0, false), (1, false), (2, false), (3, false), (4, false), (5, false), (6, false), (7, false), (8, false), (9, false), (10, false), (11, false), (12, false), (13, false), (14, false), (15, false), (16, false), (17, false), (18, false), (19, false), (20, false), (21, false), (22, false), (23, false), (24, false), (25, false), (26, true)]
def kx_NothingToUndo : Nat → Option Bool := fun c => List.lookup c [(0, false), (1, false), (2, false), (3, false), (4, false), (5, false), (6, false), (7, false), (8, false), (9, false), (10, false), (11, false), (12, false), (13, false), (14, false), (15, false), (16, false), (17, false), (18, false), (19, false), (20, false), (21, false), (22, false), (23, false), (24, false), (25, true), (26, false)]
def kx_ReflowError : Nat → Option Bool := fun c => List.lookup c [(0, true), (1, false), (2, false), (3, true), (4, true), (5, true), (6, true), (7, true), (8, true), (9, true), (10, true), (11, true), (12, true), (13, true), (14, true), (15, true), (16, true), (17, true), (18, true), (19, true), (20, false), (21, false), (22, false), (23, false), (24, false), (25, false), (26, false)]
def kx_StateError : Nat → Option Bool := fun c => List.lookup c [(0, false), (1, false), (2, true), (3, false), (4, false), (5, false), (6, false), (7, false), (8, false), (9, false), (10, false), (11, false), (12, false), (13, false), (14, false), (15, false), (16, false), (17, false), (18, false), (19, false), (20, false), (21, false), (22, false), (23, false), (24, true), (25, true), (26, true)]
def kx_TooMany : Nat → Option Bool := fun c => List.lookup c [(0, false), (1, false), (2, false), (3, false), (4, false), (5, false), (6, false), (7, false), (8, false), (9, false), (10, false), (11, false), (12, false), (13, false), (14, false), (15, false), (16, false), (17, false), (18, false), (19, true), (20, false), (21, false), (22, false), (23, false), (24, false), (25, false), (26, false)]
def kx_ValueError : Nat → Option Bool := fun c => List.lookup c [(0, true), (1, false), (2, false), (3, true), (4, true), (5, true), (6, true), (7, true), (8, true), (9, true), (10, true), (11, true), (12, true), (13, true), (14, true), (15, true), (16, true), (17, true), (18, true), (19, true), (20, false), (21, false), (22, false), (23, false), (24, false), (25, false), (26, false)]
def b__law_cell : FS := sSeq (sIf (fOp dLt (fVar 1) (fCB dLen (fCons (fVar 0) (fNil)))) (sRet (fOp dIx (fVar 0) (fVar 1))) (sNext)) (sRet (fOp dAdd (fOp dMul (fC (.int 7919)) (fVar 1)) (fC (.int 131))))
def F__law_cell : FF := noxF (runF 2 2 b__law_cell)
def b__law_box : FS := sRet (fLst (fCons (fCB dMax (fCons (fC (.int 0)) (fCons (fOp dSub (fVar 0) (fOp dPow (fC (.int 10)) (fC (.int 18)))) (fNil)))) (fCons (fOp dMod (fVar 0) (fC (.int 2147483629))) (fCons (fC (.int 0)) (fNil)))))
def F__law_box : FF := noxF (runF 1 1 b__law_box)
def b__law_take : FS := sSeq (sIf (fOp dGt (fOp dIx (fVar 0) (fC (.int 0))) (fC (.int 0))) (sSeq (sAsg (fOp dMod (fOp dIx (fVar 0) (fC (.int 0))) (fVar 1)) (gN 2)) (sSeq (sSetI 0 (fC (.int 0)) (fOp dFdiv (fOp dIx (fVar 0) (fC (.int 0))) (fVar 1))) (sRetV 2))) (sNext)) (sSeq (sSetI 0 (fC (.int 2)) (fOp dAdd (fOp dIx (fVar 0) (fC (.int 2))) (fC (.int 1)))) (sSeq (sAsg (fOp dMod (fOp dPow (fOp dAdd (fOp dAdd (fOp dIx (fVar 0) (fC (.int 1))) (fOp dMul (fC (.int 7919)) (fOp dIx (fVar 0) (fC (.int 2))))) (fC (.int 43))) (fC (.int 5))) (fC (.int 2147483647))) (gN 3)) (sSeq (sAsg (fOp dMod (fOp dPow (fOp dAdd (fVar 3) (fOp dMul (fC (.int 104729)) (fOp dIx (fVar 0) (fC (.int 2))))) (fC (.int 3))) (fC (.int 2147483587))) (gN 3)) (sRet (fOp dMod (fOp dFdiv (fVar 3) (fC (.int 8))) (fVar 1))))))
def F__law_take : FF := noxF (runF 4 2 b__law_take)
def b__law_field : FS := sSeq (sIf (fOp (dEqv false) (fVar 1) (fC (.int 15))) (sRet (fFldX xf_ "line" (fVar 0))) (sNext)) (sSeq (sIf (fOp (dEqv false) (fVar 1) (fC (.int 16))) (sRet (fFldX xf_ "count" (fVar 0))) (sNext)) (sSeq (sIf (fOp (dEqv false) (fVar 1) (fC (.int 17))) (sRet (fFldX xf_ "index" (fVar 0))) (sNext)) (sRet (fIf (fOp (dEqv false) (fVar 1) (fC (.int 20))) (fFldX xf_ "name" (fVar 0)) (fFldX xf_ "value" (fVar 0))))))
def F__law_field : FF := noxF (runF 2 2 b__law_field)
def b__law_kinds_12 : FS := sRet (fLc (fRng1 (fCons (fCB dLen (fCons (fVar 1) (fNil))) (fNil))) (gN 2) (fOp dIx (fVar 1) (fVar 2)) (fVar 2) [2])
def b__law_kinds_11 : FS := sSeq (sAsg (fOp dAdd (fVar 1) (fLst (fCons (fIsX kx_NothingToUndo (fVar 0)) (fCons (fIsX kx_NothingToRedo (fVar 0)) (fNil))))) (gN 1)) b__law_kinds_12
def b__law_kinds_10 : FS := sSeq (sAsg (fOp dAdd (fVar 1) (fLst (fCons (fIsX kx_NoChain (fVar 0)) (fCons (fIsX kx_NoStock (fVar 0)) (fNil))))) (gN 1)) b__law_kinds_11
def b__law_kinds_9 : FS := sSeq (sAsg (fOp dAdd (fVar 1) (fLst (fCons (fIsX kx_NoLetter (fVar 0)) (fCons (fIsX kx_NoInput (fVar 0)) (fNil))))) (gN 1)) b__law_kinds_10
def b__law_kinds_8 : FS := sSeq (sAsg (fOp dAdd (fVar 1) (fLst (fCons (fIsX kx_TooMany (fVar 0)) (fCons (fIsX kx_NoStep (fVar 0)) (fNil))))) (gN 1)) b__law_kinds_9
def b__law_kinds_7 : FS := sSeq (sAsg (fOp dAdd (fVar 1) (fLst (fCons (fIsX kx_NotOver (fVar 0)) (fCons (fIsX kx_InvalidPage (fVar 0)) (fNil))))) (gN 1)) b__law_kinds_8
def b__law_kinds_6 : FS := sSeq (sAsg (fOp dAdd (fVar 1) (fLst (fCons (fIsX kx_InvalidLine (fVar 0)) (fCons (fIsX kx_InvalidLines (fVar 0)) (fNil))))) (gN 1)) b__law_kinds_7
def b__law_kinds_5 : FS := sSeq (sAsg (fOp dAdd (fVar 1) (fLst (fCons (fIsX kx_InvalidChange (fVar 0)) (fCons (fIsX kx_InvalidName (fVar 0)) (fNil))))) (gN 1)) b__law_kinds_6
def b__law_kinds_4 : FS := sSeq (sAsg (fOp dAdd (fVar 1) (fLst (fCons (fIsX kx_InvalidState (fVar 0)) (fCons (fIsX kx_InvalidRow (fVar 0)) (fNil))))) (gN 1)) b__law_kinds_5
def b__law_kinds_3 : FS := sSeq (sAsg (fOp dAdd (fVar 1) (fLst (fCons (fIsX kx_InvalidStock (fVar 0)) (fCons (fIsX kx_InvalidInteger (fVar 0)) (fNil))))) (gN 1)) b__law_kinds_4
def b__law_kinds_2 : FS := sSeq (sAsg (fOp dAdd (fVar 1) (fLst (fCons (fIsX kx_InvalidStep (fVar 0)) (fCons (fIsX kx_InvalidChain (fVar 0)) (fNil))))) (gN 1)) b__law_kinds_3
def b__law_kinds_1 : FS := sSeq (sAsg (fOp dAdd (fVar 1) (fLst (fCons (fIsX kx_InvalidWords (fVar 0)) (fCons (fIsX kx_InvalidText (fVar 0)) (fNil))))) (gN 1)) b__law_kinds_2
def b__law_kinds : FS := sSeq (sAsg (fLst (fCons (fIsX kx_InvalidMark (fVar 0)) (fCons (fIsX kx_InvalidMarks (fVar 0)) (fNil)))) (gN 1)) b__law_kinds_1
def F__law_kinds : FF := noxF (runF 3 1 b__law_kinds)
def b__law_bases : FS := sSeq (sAsg (fLst (fCons (fIsX kx_ReflowError (fVar 0)) (fCons (fIsX kx_AbsentError (fVar 0)) (fCons (fIsX kx_StateError (fVar 0)) (fNil))))) (gN 1)) (sSeq (sIf (fIsX kx_IndexError (fVar 0)) (sRet (fLst (fNil))) (sNext)) (sRet (fOp dAdd (fVar 1) (fLst (fCons (fIsX kx_ValueError (fVar 0)) (fCons (fIsX kx_KeyError (fVar 0)) (fCons (fIsX kx_LookupError (fVar 0)) (fNil))))))))
def F__law_bases : FF := noxF (runF 2 1 b__law_bases)
def b__law_due : FS := sSeq (sIf (fOp dLt (fVar 0) (fC (.int 17))) (sRet (fLst (fCons (fC (.bl true)) (fCons (fC (.bl false)) (fCons (fC (.bl false)) (fCons (fC (.bl true)) (fCons (fC (.bl false)) (fCons (fC (.bl false)) (fNil))))))))) (sNext)) (sSeq (sIf (fOp dLt (fVar 0) (fC (.int 21))) (sRet (fLst (fCons (fC (.bl false)) (fCons (fC (.bl true)) (fCons (fC (.bl false)) (fCons (fC (.bl false)) (fCons (fC (.bl true)) (fCons (fC (.bl true)) (fNil))))))))) (sNext)) (sRet (fLst (fCons (fC (.bl false)) (fCons (fC (.bl false)) (fCons (fC (.bl true)) (fCons (fC (.bl false)) (fCons (fC (.bl false)) (fCons (fC (.bl true)) (fNil))))))))))
def F__law_due : FF := noxF (runF 1 1 b__law_due)
def b__law_value : FS := sSeq (sAsg (fLst (fCons (fC .non) (fCons (fC (.bl true)) (fCons (fC (.bl false)) (fCons (fC (.int 0)) (fCons (fUn dNeg (fC (.int 1))) (fCons (fOp dPow (fC (.int 10)) (fC (.int 29))) (fCons (fC (.str "")) (fCons (fC (.str "a")) (fCons (fC (.str "#0")) (fCons (fAdo (fLst (fNil))) (fCons (fAdo (fLst (fCons (fC (.int 1)) (fCons (fLst (fCons (fC (.int 2)) (fNil))) (fNil))))) (fCons (fDNewC) (fCons (fDispC [(.inr "a", fLst (fCons (fC (.int 1)) (fNil)))]) (fCons (fTup (fNil)) (fCons (fTup (fCons (fC (.str "#0")) (fCons (fC (.str "a")) (fNil)))) (fCons (fAdo (fLst (fCons (fC (.str "a")) (fNil)))) (fNil)))))))))))))))))) (gN 1)) (sRet (fOp dIx (fVar 1) (fCall F__law_take [] (fCons (fVar 0) (fCons (fC (.int 16)) (fNil))))))
def F__law_value : FF := noxF (runF 2 1 b__law_value)
def b__law_made : FS := sSeq (sAsg (fLst (fCons (fMkX 3 "value" (fCons (fVar 0) (fNil))) (fCons (fMkX 4 "value" (fCons (fVar 0) (fNil))) (fCons (fMkX 5 "value" (fCons (fVar 0) (fNil))) (fCons (fMkX 6 "value" (fCons (fVar 0) (fNil))) (fNil)))))) (gN 1)) (sSeq (sAsg (fOp dAdd (fVar 1) (fLst (fCons (fMkX 7 "value" (fCons (fVar 0) (fNil))) (fCons (fMkX 8 "value" (fCons (fVar 0) (fNil))) (fCons (fMkX 9 "value" (fCons (fVar 0) (fNil))) (fCons (fMkX 10 "value" (fCons (fVar 0) (fNil))) (fNil))))))) (gN 1)) (sSeq (sAsg (fOp dAdd (fVar 1) (fLst (fCons (fMkX 11 "value" (fCons (fVar 0) (fNil))) (fCons (fMkX 12 "value" (fCons (fVar 0) (fNil))) (fCons (fMkX 13 "value" (fCons (fVar 0) (fNil))) (fCons (fMkX 14 "value" (fCons (fVar 0) (fNil))) (fNil))))))) (gN 1)) (sSeq (sAsg (fOp dAdd (fVar 1) (fLst (fCons (fMkX 15 "value" (fCons (fVar 0) (fNil))) (fCons (fMkX 16 "value" (fCons (fVar 0) (fNil))) (fCons (fMkX 17 "value" (fCons (fVar 0) (fNil))) (fCons (fMkX 18 "line" (fCons (fVar 0) (fNil))) (fNil))))))) (gN 1)) (sSeq (sAsg (fOp dAdd (fVar 1) (fLst (fCons (fMkX 19 "count" (fCons (fVar 0) (fNil))) (fCons (fMkX 20 "index" (fCons (fVar 0) (fNil))) (fCons (fMkX 21 "value" (fCons (fVar 0) (fNil))) (fCons (fMkX 22 "value" (fCons (fVar 0) (fNil))) (fNil))))))) (gN 1)) (sSeq (sAsg (fOp dAdd (fVar 1) (fLst (fCons (fMkX 23 "name" (fCons (fVar 0) (fNil))) (fNil)))) (gN 1)) (sRetV 1))))))
def F__law_made : FF := noxF (runF 2 1 b__law_made)
def b_law_3 : FS := sRet (fC (.bl true))
def b_law_2 : FS := sSeq (sFor (fEnum (fCons (fLst (fCons (fMkXB 0 (fC (.str "a"))) (fCons (fMkXB 1 (fC (.str "a"))) (fCons (fMkXB 2 (fC (.str "a"))) (fNil))))) (fNil))) (gT 2 (gsCons (gN 5) (gsCons (gN 6) (gsNil)))) (sIf (fOr (fOp (dNil true) (fCall F__law_kinds [] (fCons (fVar 6) (fNil))) (fLst (fNil))) (fOp (dEqv true) (fCall F__law_bases [] (fCons (fVar 6) (fNil))) (fCall F__law_due [] (fCons (fOp dIx (fLst (fCons (fC (.int 0)) (fCons (fC (.int 17)) (fCons (fC (.int 21)) (fNil))))) (fVar 5)) (fNil))))) (sRet (fC (.bl false))) (sNext))) b_law_3
def b_law_1 : FS := sSeq (sFor (fIter (fLst (fCons (fTup (fCons (fC (.int 21)) (fCons (fMkX0 24) (fNil)))) (fCons (fTup (fCons (fC (.int 22)) (fCons (fMkX0 25) (fNil)))) (fCons (fTup (fCons (fC (.int 23)) (fCons (fMkX0 26) (fNil)))) (fNil)))))) (gT 2 (gsCons (gN 5) (gsCons (gN 6) (gsNil)))) (sIf (fOr (fOp (dEqv true) (fCall F__law_kinds [] (fCons (fVar 6) (fNil))) (fLst (fCons (fVar 5) (fNil)))) (fOp (dEqv true) (fCall F__law_bases [] (fCons (fVar 6) (fNil))) (fCall F__law_due [] (fCons (fVar 5) (fNil))))) (sRet (fC (.bl false))) (sNext))) b_law_2
def b_law : FS := sSeq (sFor (fRng1 (fCons (fCB dMax (fCons (fC (.int 1)) (fCons (fCB dMin (fCons (fC (.int 12)) (fCons (fCB dLen (fCons (fVar 0) (fNil))) (fNil)))) (fNil)))) (fNil))) (gN 1) (sSeq (sAsg (fAdo (fCall F__law_box [] (fCons (fCall F__law_cell [] (fCons (fVar 0) (fCons (fVar 1) (fNil)))) (fNil)))) (gN 2)) (sSeq (sAsg (fCall F__law_value [] (fCons (fVar 2) (fNil))) (gN 3)) (sSeq (sAsg (fCall F__law_made [] (fCons (fVar 3) (fNil))) (gN 4)) (sSeq (sFor (fEnum (fCons (fVar 4) (fNil))) (gT 2 (gsCons (gN 5) (gsCons (gN 6) (gsNil)))) (sIf (fOr (fOp (dEqv true) (fCall F__law_kinds [] (fCons (fVar 6) (fNil))) (fLst (fCons (fVar 5) (fNil)))) (fOp (dEqv true) (fCall F__law_bases [] (fCons (fVar 6) (fNil))) (fCall F__law_due [] (fCons (fVar 5) (fNil))))) (sRet (fC (.bl false))) (sNext))) (sSeq (sIf (fIsi .lst (fVar 3)) (chk 3 (sApp 3 (fC (.str "late")))) (sNext)) (sSeq (sIf (fIsi .dct (fVar 3)) (sDSet 3 "late" (fC (.int 1))) (sNext)) (sIf (fOp (dNil true) (fLc (fEnum (fCons (fVar 4) (fNil))) (gT 2 (gsCons (gN 5) (gsCons (gN 6) (gsNil)))) (fOp (dEqv true) (fCB dReprK (fCons (fCall F__law_field [] (fCons (fVar 6) (fCons (fVar 5) (fNil)))) (fNil))) (fCB dReprK (fCons (fVar 3) (fNil)))) (fVar 5) [5, 6]) (fLst (fNil))) (sRet (fC (.bl false))) (sNext))))))))) b_law_1
def F_law : FF := noxF (runF 7 1 b_law)
end
def topS (i : Nat) : Stmt := PySem.Challenge.pw_reflows_k03_errors_and_their_fields.main.body.getD i (.Pass ⟨0, 0, 0, 0⟩)
abbrev s__law_cell : Stmt := topS 29
abbrev N__law_cell : List Str := ["_law_script", "_law_k"]
abbrev P__law_cell : List Str := ["_law_script", "_law_k"]
theorem sc__law_cell : FnScope N__law_cell P__law_cell (defScope s__law_cell) := ⟨rfl, rfl, rfl, by decide +kernel, rfl, by decide +kernel, by decide +kernel⟩
abbrev s__law_box : Stmt := topS 30
abbrev N__law_box : List Str := ["_law_cell_here"]
abbrev P__law_box : List Str := ["_law_cell_here"]
theorem sc__law_box : FnScope N__law_box P__law_box (defScope s__law_box) := ⟨rfl, rfl, rfl, by decide +kernel, rfl, by decide +kernel, by decide +kernel⟩
abbrev s__law_take : Stmt := topS 31
abbrev N__law_take : List Str := ["_law_box_here", "_law_many", "_law_digit", "_law_number"]
abbrev P__law_take : List Str := ["_law_box_here", "_law_many"]
theorem sc__law_take : FnScope N__law_take P__law_take (defScope s__law_take) := ⟨rfl, rfl, rfl, by decide +kernel, rfl, by decide +kernel, by decide +kernel⟩
abbrev s__law_value : Stmt := topS 32
abbrev N__law_value : List Str := ["_law_box_here", "_law_some"]
abbrev P__law_value : List Str := ["_law_box_here"]
theorem sc__law_value : FnScope N__law_value P__law_value (defScope s__law_value) := ⟨rfl, rfl, rfl, by decide +kernel, rfl, by decide +kernel, by decide +kernel⟩
abbrev s__law_made : Stmt := topS 33
abbrev N__law_made : List Str := ["_law_value_here", "_law_found"]
abbrev P__law_made : List Str := ["_law_value_here"]
theorem sc__law_made : FnScope N__law_made P__law_made (defScope s__law_made) := ⟨rfl, rfl, rfl, by decide +kernel, rfl, by decide +kernel, by decide +kernel⟩
abbrev s__law_field : Stmt := topS 34
abbrev N__law_field : List Str := ["_law_error", "_law_k"]
abbrev P__law_field : List Str := ["_law_error", "_law_k"]
theorem sc__law_field : FnScope N__law_field P__law_field (defScope s__law_field) := ⟨rfl, rfl, rfl, by decide +kernel, rfl, by decide +kernel, by decide +kernel⟩
abbrev s__law_kinds : Stmt := topS 35
abbrev N__law_kinds : List Str := ["_law_error", "_law_found", "_law_k"]
abbrev P__law_kinds : List Str := ["_law_error"]
theorem sc__law_kinds : FnScope N__law_kinds P__law_kinds (defScope s__law_kinds) := ⟨rfl, rfl, rfl, by decide +kernel, rfl, by decide +kernel, by decide +kernel⟩
abbrev s__law_bases : Stmt := topS 36
abbrev N__law_bases : List Str := ["_law_error", "_law_found"]
abbrev P__law_bases : List Str := ["_law_error"]
theorem sc__law_bases : FnScope N__law_bases P__law_bases (defScope s__law_bases) := ⟨rfl, rfl, rfl, by decide +kernel, rfl, by decide +kernel, by decide +kernel⟩
abbrev s__law_due : Stmt := topS 37
abbrev N__law_due : List Str := ["_law_k"]
abbrev P__law_due : List Str := ["_law_k"]
theorem sc__law_due : FnScope N__law_due P__law_due (defScope s__law_due) := ⟨rfl, rfl, rfl, by decide +kernel, rfl, by decide +kernel, by decide +kernel⟩
abbrev s_law : Stmt := topS 38
abbrev N_law : List Str := ["_law_script", "_law_k", "_law_box_here", "_law_value_here", "_law_errors", "_law_at", "_law_error"]
abbrev P_law : List Str := ["_law_script"]
theorem sc_law : FnScope N_law P_law (defScope s_law) := ⟨rfl, rfl, rfl, by decide +kernel, rfl, by decide +kernel, by decide +kernel⟩
abbrev sI_InvalidMark : Stmt := inClass (topS 4) 0
theorem scI_InvalidMark : FnScope ["self", "value"] ["self", "value"] (defScope sI_InvalidMark) := ⟨rfl, rfl, rfl, by decide +kernel, rfl, by decide +kernel, by decide +kernel⟩
abbrev sI_InvalidMarks : Stmt := inClass (topS 5) 0
theorem scI_InvalidMarks : FnScope ["self", "value"] ["self", "value"] (defScope sI_InvalidMarks) := ⟨rfl, rfl, rfl, by decide +kernel, rfl, by decide +kernel, by decide +kernel⟩
abbrev sI_InvalidWords : Stmt := inClass (topS 6) 0
theorem scI_InvalidWords : FnScope ["self", "value"] ["self", "value"] (defScope sI_InvalidWords) := ⟨rfl, rfl, rfl, by decide +kernel, rfl, by decide +kernel, by decide +kernel⟩
abbrev sI_InvalidText : Stmt := inClass (topS 7) 0
theorem scI_InvalidText : FnScope ["self", "value"] ["self", "value"] (defScope sI_InvalidText) := ⟨rfl, rfl, rfl, by decide +kernel, rfl, by decide +kernel, by decide +kernel⟩
abbrev sI_InvalidStep : Stmt := inClass (topS 8) 0
theorem scI_InvalidStep : FnScope ["self", "value"] ["self", "value"] (defScope sI_InvalidStep) := ⟨rfl, rfl, rfl, by decide +kernel, rfl, by decide +kernel, by decide +kernel⟩
abbrev sI_InvalidChain : Stmt := inClass (topS 9) 0
theorem scI_InvalidChain : FnScope ["self", "value"] ["self", "value"] (defScope sI_InvalidChain) := ⟨rfl, rfl, rfl, by decide +kernel, rfl, by decide +kernel, by decide +kernel⟩
abbrev sI_InvalidStock : Stmt := inClass (topS 10) 0
theorem scI_InvalidStock : FnScope ["self", "value"] ["self", "value"] (defScope sI_InvalidStock) := ⟨rfl, rfl, rfl, by decide +kernel, rfl, by decide +kernel, by decide +kernel⟩
abbrev sI_InvalidInteger : Stmt := inClass (topS 11) 0
theorem scI_InvalidInteger : FnScope ["self", "value"] ["self", "value"] (defScope sI_InvalidInteger) := ⟨rfl, rfl, rfl, by decide +kernel, rfl, by decide +kernel, by decide +kernel⟩
abbrev sI_InvalidState : Stmt := inClass (topS 12) 0
theorem scI_InvalidState : FnScope ["self", "value"] ["self", "value"] (defScope sI_InvalidState) := ⟨rfl, rfl, rfl, by decide +kernel, rfl, by decide +kernel, by decide +kernel⟩
abbrev sI_InvalidRow : Stmt := inClass (topS 13) 0
theorem scI_InvalidRow : FnScope ["self", "value"] ["self", "value"] (defScope sI_InvalidRow) := ⟨rfl, rfl, rfl, by decide +kernel, rfl, by decide +kernel, by decide +kernel⟩
abbrev sI_InvalidChange : Stmt := inClass (topS 14) 0
theorem scI_InvalidChange : FnScope ["self", "value"] ["self", "value"] (defScope sI_InvalidChange) := ⟨rfl, rfl, rfl, by decide +kernel, rfl, by decide +kernel, by decide +kernel⟩
abbrev sI_InvalidName : Stmt := inClass (topS 15) 0
theorem scI_InvalidName : FnScope ["self", "value"] ["self", "value"] (defScope sI_InvalidName) := ⟨rfl, rfl, rfl, by decide +kernel, rfl, by decide +kernel, by decide +kernel⟩
abbrev sI_InvalidLine : Stmt := inClass (topS 16) 0
theorem scI_InvalidLine : FnScope ["self", "value"] ["self", "value"] (defScope sI_InvalidLine) := ⟨rfl, rfl, rfl, by decide +kernel, rfl, by decide +kernel, by decide +kernel⟩
abbrev sI_InvalidLines : Stmt := inClass (topS 17) 0
theorem scI_InvalidLines : FnScope ["self", "value"] ["self", "value"] (defScope sI_InvalidLines) := ⟨rfl, rfl, rfl, by decide +kernel, rfl, by decide +kernel, by decide +kernel⟩
abbrev sI_NotOver : Stmt := inClass (topS 18) 0
theorem scI_NotOver : FnScope ["self", "value"] ["self", "value"] (defScope sI_NotOver) := ⟨rfl, rfl, rfl, by decide +kernel, rfl, by decide +kernel, by decide +kernel⟩
abbrev sI_InvalidPage : Stmt := inClass (topS 19) 0
theorem scI_InvalidPage : FnScope ["self", "line"] ["self", "line"] (defScope sI_InvalidPage) := ⟨rfl, rfl, rfl, by decide +kernel, rfl, by decide +kernel, by decide +kernel⟩
abbrev sI_TooMany : Stmt := inClass (topS 20) 0
theorem scI_TooMany : FnScope ["self", "count"] ["self", "count"] (defScope sI_TooMany) := ⟨rfl, rfl, rfl, by decide +kernel, rfl, by decide +kernel, by decide +kernel⟩
abbrev sI_NoStep : Stmt := inClass (topS 21) 0
theorem scI_NoStep : FnScope ["self", "index"] ["self", "index"] (defScope sI_NoStep) := ⟨rfl, rfl, rfl, by decide +kernel, rfl, by decide +kernel, by decide +kernel⟩
abbrev sI_NoLetter : Stmt := inClass (topS 22) 0
theorem scI_NoLetter : FnScope ["self", "value"] ["self", "value"] (defScope sI_NoLetter) := ⟨rfl, rfl, rfl, by decide +kernel, rfl, by decide +kernel, by decide +kernel⟩
abbrev sI_NoInput : Stmt := inClass (topS 23) 0
theorem scI_NoInput : FnScope ["self", "value"] ["self", "value"] (defScope sI_NoInput) := ⟨rfl, rfl, rfl, by decide +kernel, rfl, by decide +kernel, by decide +kernel⟩
abbrev sI_NoChain : Stmt := inClass (topS 24) 0
theorem scI_NoChain : FnScope ["self", "name"] ["self", "name"] (defScope sI_NoChain) := ⟨rfl, rfl, rfl, by decide +kernel, rfl, by decide +kernel, by decide +kernel⟩
abbrev sI_NoStock : Stmt := inClass (topS 25) 0
theorem scI_NoStock : FnScope ["self"] ["self"] (defScope sI_NoStock) := ⟨rfl, rfl, rfl, by decide +kernel, rfl, by decide +kernel, by decide +kernel⟩
abbrev sI_NothingToUndo : Stmt := inClass (topS 26) 0
theorem scI_NothingToUndo : FnScope ["self"] ["self"] (defScope sI_NothingToUndo) := ⟨rfl, rfl, rfl, by decide +kernel, rfl, by decide +kernel, by decide +kernel⟩
abbrev sI_NothingToRedo : Stmt := inClass (topS 27) 0
theorem scI_NothingToRedo : FnScope ["self"] ["self"] (defScope sI_NothingToRedo) := ⟨rfl, rfl, rfl, by decide +kernel, rfl, by decide +kernel, by decide +kernel⟩
def sp__law_cell (K : PySem.W.Frag) (ca : Nat → Addr) : Sp := SpF K ca F__law_cell
def sp__law_box (K : PySem.W.Frag) (ca : Nat → Addr) : Sp := SpF K ca F__law_box
def sp__law_take (K : PySem.W.Frag) (ca : Nat → Addr) : Sp := SpF K ca F__law_take
def sp__law_value (K : PySem.W.Frag) (ca : Nat → Addr) : Sp := SpF K ca F__law_value
def sp__law_made (K : PySem.W.Frag) (ca : Nat → Addr) : Sp := SpF K ca F__law_made
def sp__law_field (K : PySem.W.Frag) (ca : Nat → Addr) : Sp := SpF K ca F__law_field
def sp__law_kinds (K : PySem.W.Frag) (ca : Nat → Addr) : Sp := SpF K ca F__law_kinds
def sp__law_bases (K : PySem.W.Frag) (ca : Nat → Addr) : Sp := SpF K ca F__law_bases
def sp__law_due (K : PySem.W.Frag) (ca : Nat → Addr) : Sp := SpF K ca F__law_due
def sp_law (K : PySem.W.Frag) (ca : Nat → Addr) : Sp := SpF K ca F_law
def t__law_cell (K : PySem.W.Frag) (ca : Nat → Addr) : TS := tSeq (uIfS (uT (tOp uLt (uVar 1) (tCB (uLen K) (tCons (uVar 0) (tNil))))) (tRet (tOp (uIx K) (uVar 0) (uVar 1))) (tNext)) (tRet (tOp (uAdd K) (tOp uMul3 (tC (.int 7919)) (uVar 1)) (tC (.int 131))))
def t__law_box (K : PySem.W.Frag) (ca : Nat → Addr) : TS := tRet (tLst (tCons (tCB uMax2 (tCons (tC (.int 0)) (tCons (tOp uSub (uVar 0) (tOp uPow (tC (.int 10)) (tC (.int 18)))) (tNil)))) (tCons (tOp uMod (uVar 0) (tC (.int 2147483629))) (tCons (tC (.int 0)) (tNil)))))
def t__law_take (K : PySem.W.Frag) (ca : Nat → Addr) : TS := tSeq (uIfS (uT (tOp uGt (tOp (uIx K) (uVar 0) (tC (.int 0))) (tC (.int 0)))) (tSeq (tAsg (tOp uMod (tOp (uIx K) (uVar 0) (tC (.int 0))) (uVar 1)) (gName 2)) (tSeq (tAsg (tOp uFdiv (tOp (uIx K) (uVar 0) (tC (.int 0))) (uVar 1)) (gSub (uVar 0) (tC (.int 0)) uSetL)) (tRet (uVar 2)))) (tNext)) (tSeq (tAsg (tOp (uAdd K) (tOp (uIx K) (uVar 0) (tC (.int 2))) (tC (.int 1))) (gSub (uVar 0) (tC (.int 2)) uSetL)) (tSeq (tAsg (tOp uMod (tOp uPow (tOp (uAdd K) (tOp (uAdd K) (tOp (uIx K) (uVar 0) (tC (.int 1))) (tOp uMul3 (tC (.int 7919)) (tOp (uIx K) (uVar 0) (tC (.int 2))))) (tC (.int 43))) (tC (.int 5))) (tC (.int 2147483647))) (gName 3)) (tSeq (tAsg (tOp uMod (tOp uPow (tOp (uAdd K) (uVar 3) (tOp uMul3 (tC (.int 104729)) (tOp (uIx K) (uVar 0) (tC (.int 2))))) (tC (.int 3))) (tC (.int 2147483587))) (gName 3)) (tRet (tOp uMod (tOp uFdiv (uVar 3) (tC (.int 8))) (uVar 1))))))
def t__law_value (K : PySem.W.Frag) (ca : Nat → Addr) : TS := tSeq (tAsg (tLst (tCons (tC .non) (tCons (tC (.bl true)) (tCons (tC (.bl false)) (tCons (tC (.int 0)) (tCons (tUn uNeg (tC (.int 1))) (tCons (tOp uPow (tC (.int 10)) (tC (.int 29))) (tCons (tC (.str "")) (tCons (tC (.str "a")) (tCons (tC (.str "#0")) (tCons (tLst (tNil)) (tCons (tLst (tCons (tC (.int 1)) (tCons (tLst (tCons (tC (.int 2)) (tNil))) (tNil)))) (tCons (tDNewK) (tCons (tDisp [(tC (kV (.inr "a")), tLst (tCons (tC (.int 1)) (tNil)))]) (tCons (tTup (tNil)) (tCons (tTup (tCons (tC (.str "#0")) (tCons (tC (.str "a")) (tNil)))) (tCons (tLst (tCons (tC (.str "a")) (tNil))) (tNil)))))))))))))))))) (gName 1)) (tRet (tOp (uIx K) (uVar 1) (tCall (sp__law_take K ca) [] E0 (tCons (uVar 0) (tCons (tC (.int 16)) (tNil))))))
def t__law_made (K : PySem.W.Frag) (ca : Nat → Addr) : TS := tSeq (tAsg (tLst (tCons (uMkV (ca 3) "value" (tCons (uVar 0) (tNil))) (tCons (uMkV (ca 4) "value" (tCons (uVar 0) (tNil))) (tCons (uMkV (ca 5) "value" (tCons (uVar 0) (tNil))) (tCons (uMkV (ca 6) "value" (tCons (uVar 0) (tNil))) (tNil)))))) (gName 1)) (tSeq (tAsg (tOp (uAdd K) (uVar 1) (tLst (tCons (uMkV (ca 7) "value" (tCons (uVar 0) (tNil))) (tCons (uMkV (ca 8) "value" (tCons (uVar 0) (tNil))) (tCons (uMkV (ca 9) "value" (tCons (uVar 0) (tNil))) (tCons (uMkV (ca 10) "value" (tCons (uVar 0) (tNil))) (tNil))))))) (gName 1)) (tSeq (tAsg (tOp (uAdd K) (uVar 1) (tLst (tCons (uMkV (ca 11) "value" (tCons (uVar 0) (tNil))) (tCons (uMkV (ca 12) "value" (tCons (uVar 0) (tNil))) (tCons (uMkV (ca 13) "value" (tCons (uVar 0) (tNil))) (tCons (uMkV (ca 14) "value" (tCons (uVar 0) (tNil))) (tNil))))))) (gName 1)) (tSeq (tAsg (tOp (uAdd K) (uVar 1) (tLst (tCons (uMkV (ca 15) "value" (tCons (uVar 0) (tNil))) (tCons (uMkV (ca 16) "value" (tCons (uVar 0) (tNil))) (tCons (uMkV (ca 17) "value" (tCons (uVar 0) (tNil))) (tCons (uMkV (ca 18) "line" (tCons (uVar 0) (tNil))) (tNil))))))) (gName 1)) (tSeq (tAsg (tOp (uAdd K) (uVar 1) (tLst (tCons (uMkV (ca 19) "count" (tCons (uVar 0) (tNil))) (tCons (uMkV (ca 20) "index" (tCons (uVar 0) (tNil))) (tCons (uMkV (ca 21) "value" (tCons (uVar 0) (tNil))) (tCons (uMkV (ca 22) "value" (tCons (uVar 0) (tNil))) (tNil))))))) (gName 1)) (tSeq (tAsg (tOp (uAdd K) (uVar 1) (tLst (tCons (uMkV (ca 23) "name" (tCons (uVar 0) (tNil))) (tNil)))) (gName 1)) (tRet (uVar 1)))))))
def t__law_field (K : PySem.W.Frag) (ca : Nat → Addr) : TS := tSeq (uIfS (uT (tOp (uEq2 K) (uVar 1) (tC (.int 15)))) (tRet (uXv K "line" (uVar 0))) (tNext)) (tSeq (uIfS (uT (tOp (uEq2 K) (uVar 1) (tC (.int 16)))) (tRet (uXv K "count" (uVar 0))) (tNext)) (tSeq (uIfS (uT (tOp (uEq2 K) (uVar 1) (tC (.int 17)))) (tRet (uXv K "index" (uVar 0))) (tNext)) (tRet (uIf (uT (tOp (uEq2 K) (uVar 1) (tC (.int 20)))) (uXv K "name" (uVar 0)) (uXv K "value" (uVar 0))))))
def t__law_kinds (K : PySem.W.Frag) (ca : Nat → Addr) : TS := tSeq (tAsg (tLst (tCons (uIsE K (.ref (ca 3)) (uVar 0)) (tCons (uIsE K (.ref (ca 4)) (uVar 0)) (tNil)))) (gName 1)) (tSeq (tAsg (tOp (uAdd K) (uVar 1) (tLst (tCons (uIsE K (.ref (ca 5)) (uVar 0)) (tCons (uIsE K (.ref (ca 6)) (uVar 0)) (tNil))))) (gName 1)) (tSeq (tAsg (tOp (uAdd K) (uVar 1) (tLst (tCons (uIsE K (.ref (ca 7)) (uVar 0)) (tCons (uIsE K (.ref (ca 8)) (uVar 0)) (tNil))))) (gName 1)) (tSeq (tAsg (tOp (uAdd K) (uVar 1) (tLst (tCons (uIsE K (.ref (ca 9)) (uVar 0)) (tCons (uIsE K (.ref (ca 10)) (uVar 0)) (tNil))))) (gName 1)) (tSeq (tAsg (tOp (uAdd K) (uVar 1) (tLst (tCons (uIsE K (.ref (ca 11)) (uVar 0)) (tCons (uIsE K (.ref (ca 12)) (uVar 0)) (tNil))))) (gName 1)) (tSeq (tAsg (tOp (uAdd K) (uVar 1) (tLst (tCons (uIsE K (.ref (ca 13)) (uVar 0)) (tCons (uIsE K (.ref (ca 14)) (uVar 0)) (tNil))))) (gName 1)) (tSeq (tAsg (tOp (uAdd K) (uVar 1) (tLst (tCons (uIsE K (.ref (ca 15)) (uVar 0)) (tCons (uIsE K (.ref (ca 16)) (uVar 0)) (tNil))))) (gName 1)) (tSeq (tAsg (tOp (uAdd K) (uVar 1) (tLst (tCons (uIsE K (.ref (ca 17)) (uVar 0)) (tCons (uIsE K (.ref (ca 18)) (uVar 0)) (tNil))))) (gName 1)) (tSeq (tAsg (tOp (uAdd K) (uVar 1) (tLst (tCons (uIsE K (.ref (ca 19)) (uVar 0)) (tCons (uIsE K (.ref (ca 20)) (uVar 0)) (tNil))))) (gName 1)) (tSeq (tAsg (tOp (uAdd K) (uVar 1) (tLst (tCons (uIsE K (.ref (ca 21)) (uVar 0)) (tCons (uIsE K (.ref (ca 22)) (uVar 0)) (tNil))))) (gName 1)) (tSeq (tAsg (tOp (uAdd K) (uVar 1) (tLst (tCons (uIsE K (.ref (ca 23)) (uVar 0)) (tCons (uIsE K (.ref (ca 24)) (uVar 0)) (tNil))))) (gName 1)) (tSeq (tAsg (tOp (uAdd K) (uVar 1) (tLst (tCons (uIsE K (.ref (ca 25)) (uVar 0)) (tCons (uIsE K (.ref (ca 26)) (uVar 0)) (tNil))))) (gName 1)) (tRet (tLc (iRng1 (tCons (tCB (uLen K) (tCons (uVar 1) (tNil))) (tNil))) (gName 2) (uT (tOp (uIx K) (uVar 1) (uVar 2))) (uVar 2) [2])))))))))))))
def t__law_bases (K : PySem.W.Frag) (ca : Nat → Addr) : TS := tSeq (tAsg (tLst (tCons (uIsE K (.ref (ca 0)) (uVar 0)) (tCons (uIsE K (.ref (ca 1)) (uVar 0)) (tCons (uIsE K (.ref (ca 2)) (uVar 0)) (tNil))))) (gName 1)) (tSeq (uIfS (uT (uIsE K (.type "IndexError") (uVar 0))) (tRet (tLst (tNil))) (tNext)) (tRet (tOp (uAdd K) (uVar 1) (tLst (tCons (uIsE K (.type "ValueError") (uVar 0)) (tCons (uIsE K (.type "KeyError") (uVar 0)) (tCons (uIsE K (.type "LookupError") (uVar 0)) (tNil))))))))
def t__law_due (K : PySem.W.Frag) (ca : Nat → Addr) : TS := tSeq (uIfS (uT (tOp uLt (uVar 0) (tC (.int 17)))) (tRet (tLst (tCons (tC (.bl true)) (tCons (tC (.bl false)) (tCons (tC (.bl false)) (tCons (tC (.bl true)) (tCons (tC (.bl false)) (tCons (tC (.bl false)) (tNil))))))))) (tNext)) (tSeq (uIfS (uT (tOp uLt (uVar 0) (tC (.int 21)))) (tRet (tLst (tCons (tC (.bl false)) (tCons (tC (.bl true)) (tCons (tC (.bl false)) (tCons (tC (.bl false)) (tCons (tC (.bl true)) (tCons (tC (.bl true)) (tNil))))))))) (tNext)) (tRet (tLst (tCons (tC (.bl false)) (tCons (tC (.bl false)) (tCons (tC (.bl true)) (tCons (tC (.bl false)) (tCons (tC (.bl false)) (tCons (tC (.bl true)) (tNil))))))))))
def t_law (K : PySem.W.Frag) (ca : Nat → Addr) : TS := tSeq (tFor (iRng1 (tCons (tCB uMax2 (tCons (tC (.int 1)) (tCons (tCB uMin2 (tCons (tC (.int 12)) (tCons (tCB (uLen K) (tCons (uVar 0) (tNil))) (tNil)))) (tNil)))) (tNil))) (gName 1) (tSeq (tAsg (tCall (sp__law_box K ca) [] E0 (tCons (tCall (sp__law_cell K ca) [] E0 (tCons (uVar 0) (tCons (uVar 1) (tNil)))) (tNil))) (gName 2)) (tSeq (tAsg (tCall (sp__law_value K ca) [] E0 (tCons (uVar 2) (tNil))) (gName 3)) (tSeq (tAsg (tCall (sp__law_made K ca) [] E0 (tCons (uVar 3) (tNil))) (gName 4)) (tSeq (tFor (uEnum K (tCons (uVar 4) (tNil))) (gTs K 2 (gCons (gName 5) (gCons (gName 6) (gNil)))) (uIfS (uOr (uT (tOp (uNe2 K) (tCall (sp__law_kinds K ca) [] E0 (tCons (uVar 6) (tNil))) (tLst (tCons (uVar 5) (tNil))))) (uT (tOp (uNe2 K) (tCall (sp__law_bases K ca) [] E0 (tCons (uVar 6) (tNil))) (tCall (sp__law_due K ca) [] E0 (tCons (uVar 5) (tNil)))))) (tRet (tC (.bl false))) (tNext))) (tSeq (uIfS (uT (uIsi .lst (uVar 3))) (tDrop (tBM K "list" uAppend (uVar 3) (tCons (tC (.str "late")) (tNil)))) (tNext)) (tSeq (uIfS (uT (uIsi .dct (uVar 3))) (sDPut (uVar 3) (tC (.str "late")) (tC (.int 1))) (tNext)) (uIfS (uT (tOp (uNe3 K) (tLc (uEnum K (tCons (uVar 4) (tNil))) (gTs K 2 (gCons (gName 5) (gCons (gName 6) (gNil)))) (uT (tOp (uNe2 K) (tCB (uRepr3 K) (tCons (tCall (sp__law_field K ca) [] E0 (tCons (uVar 6) (tCons (uVar 5) (tNil)))) (tNil))) (tCB (uRepr3 K) (tCons (uVar 3) (tNil))))) (uVar 5) [5, 6]) (tLst (tNil)))) (tRet (tC (.bl false))) (tNext))))))))) (tSeq (tFor (uIter K (tLst (tCons (tTup (tCons (tC (.int 21)) (tCons (uMkV0 (ca 24)) (tNil)))) (tCons (tTup (tCons (tC (.int 22)) (tCons (uMkV0 (ca 25)) (tNil)))) (tCons (tTup (tCons (tC (.int 23)) (tCons (uMkV0 (ca 26)) (tNil)))) (tNil)))))) (gTs K 2 (gCons (gName 5) (gCons (gName 6) (gNil)))) (uIfS (uOr (uT (tOp (uNe2 K) (tCall (sp__law_kinds K ca) [] E0 (tCons (uVar 6) (tNil))) (tLst (tCons (uVar 5) (tNil))))) (uT (tOp (uNe2 K) (tCall (sp__law_bases K ca) [] E0 (tCons (uVar 6) (tNil))) (tCall (sp__law_due K ca) [] E0 (tCons (uVar 5) (tNil)))))) (tRet (tC (.bl false))) (tNext))) (tSeq (tFor (uEnum K (tCons (tLst (tCons (uMkB (ca 0) (tC (.str "a"))) (tCons (uMkB (ca 1) (tC (.str "a"))) (tCons (uMkB (ca 2) (tC (.str "a"))) (tNil))))) (tNil))) (gTs K 2 (gCons (gName 5) (gCons (gName 6) (gNil)))) (uIfS (uOr (uT (tOp (uNe3 K) (tCall (sp__law_kinds K ca) [] E0 (tCons (uVar 6) (tNil))) (tLst (tNil)))) (uT (tOp (uNe2 K) (tCall (sp__law_bases K ca) [] E0 (tCons (uVar 6) (tNil))) (tCall (sp__law_due K ca) [] E0 (tCons (tOp (uIx K) (tLst (tCons (tC (.int 0)) (tCons (tC (.int 17)) (tCons (tC (.int 21)) (tNil))))) (uVar 5)) (tNil)))))) (tRet (tC (.bl false))) (tNext))) (tRet (tC (.bl true)))))
structure Ct (K : PySem.W.Frag) (ca : Nat → Addr) : Prop where
  yes : True
  x_InvalidMark : XfC K (ca 3)
  n_InvalidMark : PySem.W.findIn K (.ref (ca 3)) "value" = some none
  x_InvalidMarks : XfC K (ca 4)
  n_InvalidMarks : PySem.W.findIn K (.ref (ca 4)) "value" = some none
  x_InvalidWords : XfC K (ca 5)
  n_InvalidWords : PySem.W.findIn K (.ref (ca 5)) "value" = some none
  x_InvalidText : XfC K (ca 6)
  n_InvalidText : PySem.W.findIn K (.ref (ca 6)) "value" = some none
  x_InvalidStep : XfC K (ca 7)
  n_InvalidStep : PySem.W.findIn K (.ref (ca 7)) "value" = some none
  x_InvalidChain : XfC K (ca 8)
  n_InvalidChain : PySem.W.findIn K (.ref (ca 8)) "value" = some none
  x_InvalidStock : XfC K (ca 9)
  n_InvalidStock : PySem.W.findIn K (.ref (ca 9)) "value" = some none
  x_InvalidInteger : XfC K (ca 10)
  n_InvalidInteger : PySem.W.findIn K (.ref (ca 10)) "value" = some none
  x_InvalidState : XfC K (ca 11)
  n_InvalidState : PySem.W.findIn K (.ref (ca 11)) "value" = some none
  x_InvalidRow : XfC K (ca 12)
  n_InvalidRow : PySem.W.findIn K (.ref (ca 12)) "value" = some none
  x_InvalidChange : XfC K (ca 13)
  n_InvalidChange : PySem.W.findIn K (.ref (ca 13)) "value" = some none
  x_InvalidName : XfC K (ca 14)
  n_InvalidName : PySem.W.findIn K (.ref (ca 14)) "value" = some none
  x_InvalidLine : XfC K (ca 15)
  n_InvalidLine : PySem.W.findIn K (.ref (ca 15)) "value" = some none
  x_InvalidLines : XfC K (ca 16)
  n_InvalidLines : PySem.W.findIn K (.ref (ca 16)) "value" = some none
  x_NotOver : XfC K (ca 17)
  n_NotOver : PySem.W.findIn K (.ref (ca 17)) "value" = some none
  x_InvalidPage : XfC K (ca 18)
  n_InvalidPage : PySem.W.findIn K (.ref (ca 18)) "line" = some none
  x_TooMany : XfC K (ca 19)
  n_TooMany : PySem.W.findIn K (.ref (ca 19)) "count" = some none
  x_NoStep : XfC K (ca 20)
  n_NoStep : PySem.W.findIn K (.ref (ca 20)) "index" = some none
  x_NoLetter : XfC K (ca 21)
  n_NoLetter : PySem.W.findIn K (.ref (ca 21)) "value" = some none
  x_NoInput : XfC K (ca 22)
  n_NoInput : PySem.W.findIn K (.ref (ca 22)) "value" = some none
  x_NoChain : XfC K (ca 23)
  n_NoChain : PySem.W.findIn K (.ref (ca 23)) "name" = some none
  kxc : (([(0, false), (1, false), (2, false), (3, false), (4, false), (5, false), (6, false), (7, false), (8, false), (9, false), (10, false), (11, false), (12, false), (13, false), (14, false), (15, false), (16, false), (17, false), (18, false), (19, false), (20, false), (21, false), (22, false), (23, false), (24, false), (25, false), (26, false)] : List (Nat × Bool)).all fun p => U.excIB K (ca p.1)) = true
  kx_AbsentError : (([(0, false), (1, true), (2, false), (3, false), (4, false), (5, false), (6, false), (7, false), (8, false), (9, false), (10, false), (11, false), (12, false), (13, false), (14, false), (15, false), (16, false), (17, false), (18, false), (19, false), (20, true), (21, true), (22, true), (23, true), (24, false), (25, false), (26, false)] : List (Nat × Bool)).all fun p => decide (PySem.W.kitOne K (.ref (ca p.1)) (.ref (ca 1)) = some p.2)) = true
  kx_IndexError : (([(0, false), (1, false), (2, false), (3, false), (4, false), (5, false), (6, false), (7, false), (8, false), (9, false), (10, false), (11, false), (12, false), (13, false), (14, false), (15, false), (16, false), (17, false), (18, false), (19, false), (20, false), (21, false), (22, false), (23, false), (24, false), (25, false), (26, false)] : List (Nat × Bool)).all fun p => decide (PySem.W.kitOne K (.ref (ca p.1)) (.type "IndexError") = some p.2)) = true
  kx_InvalidChain : (([(0, false), (1, false), (2, false), (3, false), (4, false), (5, false), (6, false), (7, false), (8, true), (9, false), (10, false), (11, false), (12, false), (13, false), (14, false), (15, false), (16, false), (17, false), (18, false), (19, false), (20, false), (21, false), (22, false), (23, false), (24, false), (25, false), (26, false)] : List (Nat × Bool)).all fun p => decide (PySem.W.kitOne K (.ref (ca p.1)) (.ref (ca 8)) = some p.2)) = true
  kx_InvalidChange : (([(0, false), (1, false), (2, false), (3, false), (4, false), (5, false), (6, false), (7, false), (8, false), (9, false), (10, false), (11, false), (12, false), (13, true), (14, false), (15, false), (16, false), (17, false), (18, false), (19, false), (20, false), (21, false), (22, false), (23, false), (24, false), (25, false), (26, false)] : List (Nat × Bool)).all fun p => decide (PySem.W.kitOne K (.ref (ca p.1)) (.ref (ca 13)) = some p.2)) = true
  kx_InvalidInteger : (([(0, false), (1, false), (2, false), (3, false), (4, false), (5, false), (6, false), (7, false), (8, false), (9, false), (10, true), (11, false), (12, false), (13, false), (14, false), (15, false), (16, false), (17, false), (18, false), (19, false), (20, false), (21, false), (22, false), (23, false), (24, false), (25, false), (26, false)] : List (Nat × Bool)).all fun p => decide (PySem.W.kitOne K (.ref (ca p.1)) (.ref (ca 10)) = some p.2)) = true
  kx_InvalidLine : (([(0, false), (1, false), (2, false), (3, false), (4, false), (5, false), (6, false), (7, false), (8, false), (9, false), (10, false), (11, false), (12, false), (13, false), (14, false), (15, true), (16, false), (17, false), (18, false), (19, false), (20, false), (21, false), (22, false), (23, false), (24, false), (25, false), (26, false)] : List (Nat × Bool)).all fun p => decide (PySem.W.kitOne K (.ref (ca p.1)) (.ref (ca 15)) = some p.2)) = true
  kx_InvalidLines : (([(0, false), (1, false), (2, false), (3, false), (4, false), (5, false), (6, false), (7, false), (8, false), (9, false), (10, false), (11, false), (12, false), (13, false), (14, false), (15, false), (16, true), (17, false), (18, false), (19, false), (20, false), (21, false), (22, false), (23, false), (24, false), (25, false), (26, false)] : List (Nat × Bool)).all fun p => decide (PySem.W.kitOne K (.ref (ca p.1)) (.ref (ca 16)) = some p.2)) = true
  kx_InvalidMark : (([(0, false), (1, false), (2, false), (3, true), (4, false), (5, false), (6, false), (7, false), (8, false), (9, false), (10, false), (11, false), (12, false), (13, false), (14, false), (15, false), (16, false), (17, false), (18, false), (19, false), (20, false), (21, false), (22, false), (23, false), (24, false), (25, false), (26, false)] : List (Nat × Bool)).all fun p => decide (PySem.W.kitOne K (.ref (ca p.1)) (.ref (ca 3)) = some p.2)) = true
  kx_InvalidMarks : (([(0, false), (1, false), (2, false), (3, false), (4, true), (5, false), (6, false), (7, false), (8, false), (9, false), (10, false), (11, false), (12, false), (13, false), (14, false), (15, false), (16, false), (17, false), (18, false), (19, false), (20, false), (21, false), (22, false), (23, false), (24, false), (25, false), (26, false)] : List (Nat × Bool)).all fun p => decide (PySem.W.kitOne K (.ref (ca p.1)) (.ref (ca 4)) = some p.2)) = true
  kx_InvalidName : (([(0, false), (1, false), (2, false), (3, false), (4, false), (5, false), (6, false), (7, false), (8, false), (9, false), (10, false), (11, false), (12, false), (13, false), (14, true), (15, false), (16, false), (17, false), (18, false), (19, false), (20, false), (21, false), (22, false), (23, false), (24, false), (25, false), (26, false)] : List (Nat × Bool)).all fun p => decide (PySem.W.kitOne K (.ref (ca p.1)) (.ref (ca 14)) = some p.2)) = true
  kx_InvalidPage : (([(0, false), (1, false), (2, false), (3, false), (4, false), (5, false), (6, false), (7, false), (8, false), (9, false), (10, false), (11, false), (12, false), (13, false), (14, false), (15, false), (16, false), (17, false), (18, true), (19, false), (20, false), (21, false), (22, false), (23, false), (24, false), (25, false), (26, false)] : List (Nat × Bool)).all fun p => decide (PySem.W.kitOne K (.ref (ca p.1)) (.ref (ca 18)) = some p.2)) = true
  kx_InvalidRow : (([(0, false), (1, false), (2, false), (3, false), (4, false), (5, false), (6, false), (7, false), (8, false), (9, false), (10, false), (11, false), (12, true), (13, false), (14, false), (15, false), (16, false), (17, false), (18, false), (19, false), (20, false), (21, false), (22, false), (23, false), (24, false), (25, false), (26, false)] : List (Nat × Bool)).all fun p => decide (PySem.W.kitOne K (.ref (ca p.1)) (.ref (ca 12)) = some p.2)) = true
  kx_InvalidState : (([(0, false), (1, false), (2, false), (3, false), (4, false), (5, false), (6, false), (7, false), (8, false), (9, false), (10, false), (11, true), (12, false), (13, false), (14, false), (15, false), (16, false), (17, false), (18, false), (19, false), (20, false), (21, false), (22, false), (23, false), (24, false), (25, false), (26, false)] : List (Nat × Bool)).all fun p => decide (PySem.W.kitOne K (.ref (ca p.1)) (.ref (ca 11)) = some p.2)) = true
  kx_InvalidStep : (([(0, false), (1, false), (2, false), (3, false), (4, false), (5, false), (6, false), (7, true), (8, false), (9, false), (10, false), (11, false), (12, false), (13, false), (14, false), (15, false), (16, false), (17, false), (18, false), (19, false), (20, false), (21, false), (22, false), (23, false), (24, false), (25, false), (26, false)] : List (Nat × Bool)).all fun p => decide (PySem.W.kitOne K (.ref (ca p.1)) (.ref (ca 7)) = some p.2)) = true
  kx_InvalidStock : (([(0, false), (1, false), (2, false), (3, false), (4, false), (5, false), (6, false), (7, false), (8, false), (9, true), (10, false), (11, false), (12, false), (13, false), (14, false), (15, false), (16, false), (17, false), (18, false), (19, false), (20, false), (21, false), (22, false), (23, false), (24, false), (25, false), (26, false)] : List (Nat × Bool)).all fun p => decide (PySem.W.kitOne K (.ref (ca p.1)) (.ref (ca 9)) = some p.2)) = true
  kx_InvalidText : (([(0, false), (1, false), (2, false), (3, false), (4, false), (5, false), (6, true), (7, false), (8, false), (9, false), (10, false), (11, false), (12, false), (13, false), (14, false), (15, false), (16, false), (17, false), (18, false), (19, false), (20, false), (21, false), (22, false), (23, false), (24, false), (25, false), (26, false)] : List (Nat × Bool)).all fun p => decide (PySem.W.kitOne K (.ref (ca p.1)) (.ref (ca 6)) = some p.2)) = true
  kx_InvalidWords : (([(0, false), (1, false), (2, false), (3, false), (4, false), (5, true), (6, false), (7, false), (8, false), (9, false), (10, false), (11, false), (12, false), (13, false), (14, false), (15, false), (16, false), (17, false), (18, false), (19, false), (20, false), (21, false), (22, false), (23, false), (24, false), (25, false), (26, false)] : List (Nat × Bool)).all fun p => decide (PySem.W.kitOne K (.ref (ca p.1)) (.ref (ca 5)) = some p.2)) = true
  kx_KeyError : (([(0, false), (1, true), (2, false), (3, false), (4, false), (5, false), (6, false), (7, false), (8, false), (9, false), (10, false), (11, false), (12, false), (13, false), (14, false), (15, false), (16, false), (17, false), (18, false), (19, false), (20, true), (21, true), (22, true), (23, true), (24, false), (25, false), (26, false)] : List (Nat × Bool)).all fun p => decide (PySem.W.kitOne K (.ref (ca p.1)) (.type "KeyError") = some p.2)) = true
  kx_LookupError : (([(0, false), (1, true), (2, true), (3, false), (4, false), (5, false), (6, false), (7, false), (8, false), (9, false), (10, false), (11, false), (12, false), (13, false), (14, false), (15, false), (16, false), (17, false), (18, false), (19, false), (20, true), (21, true), (22, true), (23, true), (24, true), (25, true), (26, true)] : List (Nat × Bool)).all fun p => decide (PySem.W.kitOne K (.ref (ca p.1)) (.type "LookupError") = some p.2)) = true
  kx_NoChain : (([(0, false), (1, false), (2, false), (3, false), (4, false), (5, false), (6, false), (7, false), (8, false), (9, false), (10, false), (11, false), (12, false), (13, false), (14, false), (15, false), (16, false), (17, false), (18, false), (19, false), (20, false), (21, false), (22, false), (23, true), (24, false), (25, false), (26, false)] : List (Nat × Bool)).all fun p => decide (PySem.W.kitOne K (.ref (ca p.1)) (.ref (ca 23)) = some p.2)) = true
  kx_NoInput : (([(0, false), (1, false), (2, false), (3, false), (4, false), (5, false), (6, false), (7, false), (8, false), (9, false), (10, false), (11, false), (12, false), (13, false), (14, false), (15, false), (16, false), (17, false), (18, false), (19, false), (20, false), (21, false), (22, true), (23, false), (24, false), (25, false), (26, false)] : List (Nat × Bool)).all fun p => decide (PySem.W.kitOne K (.ref (ca p.1)) (.ref (ca 22)) = some p.2)) = true
  kx_NoLetter : (([(0, false), (1, false), (2, false), (3, false), (4, false), (5, false), (6, false), (7, false), (8, false), (9, false), (10, false), (11, false), (12, false), (13, false), (14, false), (15, false), (16, false), (17, false), (18, false), (19, false), (20, false), (21, true), (22, false), (23, false), (24, false), (25, false), (26, false)] : List (Nat × Bool)).all fun p => decide (PySem.W.kitOne K (.ref (ca p.1)) (.ref (ca 21)) = some p.2)) = true
  kx_NoStep : (([(0, false), (1, false), (2, false), (3, false), (4, false), (5, false), (6, false), (7, false), (8, false), (9, false), (10, false), (11, false), (12, false), (13, false), (14, false), (15, false), (16, false), (17, false), (18, false), (19, false), (20, true), (21, false), (22, false), (23, false), (24, false), (25, false), (26, false)] : List (Nat × Bool)).all fun p => decide (PySem.W.kitOne K (.ref (ca p.1)) (.ref (ca 20)) = some p.2)) = true
  kx_NoStock : (([(0, false), (1, false), (2, false), (3, false), (4, false), (5, false), (6, false), (7, false), (8, false), (9, false), (10, false), (11, false), (12, false), (13, false), (14, false), (15, false), (16, false), (17, false), (18, false), (19, false), (20, false), (21, false), (22, false), (23, false), (24, true), (25, false), (26, false)] : List (Nat × Bool)).all fun p => decide (PySem.W.kitOne K (.ref (ca p.1)) (.ref (ca 24)) = some p.2)) = true
  kx_NotOver : (([(0, false), (1, false), (2, false), (3, false), (4, false), (5, false), (6, false), (7, false), (8, false), (9, false), (10, false), (11, false), (12, false), (13, false), (14, false), (15, false), (16, false), (17, true), (18, false), (19, false), (20, false), (21, false), (22, false), (23, false), (24, false), (25, false), (26, false)] : List (Nat × Bool)).all fun p => decide (PySem.W.kitOne K (.ref (ca p.1)) (.ref (ca 17)) = some p.2)) = true
  kx_NothingToRedo : (([(0, false), (1, false), (2, false), (3, false), (4, false), (5, false), (6, false), (7, false), (8, false), (9, false), (10, false), (11, false), (12, false), (13, false), (14, false), (15, false), (16, false), (17, false), (18, false), (19, false), (20, false), (21, false), (22, false), (23, false), (24, false), (25, false), (26, true)] : List (Nat × Bool)).all fun p => decide (PySem.W.kitOne K (.ref (ca p.1)) (.ref (ca 26)) = some p.2)) = true
  kx_NothingToUndo : (([(0, false), (1, false), (2, false), (3, false), (4, false), (5, false), (6, false), (7, false), (8, false), (9, false), (10, false), (11, false), (12, false), (13, false), (14, false), (15, false), (16, false), (17, false), (18, false), (19, false), (20, false), (21, false), (22, false), (23, false), (24, false), (25, true), (26, false)] : List (Nat × Bool)).all fun p => decide (PySem.W.kitOne K (.ref (ca p.1)) (.ref (ca 25)) = some p.2)) = true
  kx_ReflowError : (([(0, true), (1, false), (2, false), (3, true), (4, true), (5, true), (6, true), (7, true), (8, true), (9, true), (10, true), (11, true), (12, true), (13, true), (14, true), (15, true), (16, true), (17, true), (18, true), (19, true), (20, false), (21, false), (22, false), (23, false), (24, false), (25, false), (26, false)] : List (Nat × Bool)).all fun p => decide (PySem.W.kitOne K (.ref (ca p.1)) (.ref (ca 0)) = some p.2)) = true
  kx_StateError : (([(0, false), (1, false), (2, true), (3, false), (4, false), (5, false), (6, false), (7, false), (8, false), (9, false), (10, false), (11, false), (12, false), (13, false), (14, false), (15, false), (16, false), (17, false), (18, false), (19, false), (20, false), (21, false), (22, false), (23, false), (24, true), (25, true), (26, true)] : List (Nat × Bool)).all fun p => decide (PySem.W.kitOne K (.ref (ca p.1)) (.ref (ca 2)) = some p.2)) = true
  kx_TooMany : (([(0, false), (1, false), (2, false), (3, false), (4, false), (5, false), (6, false), (7, false), (8, false), (9, false), (10, false), (11, false), (12, false), (13, false), (14, false), (15, false), (16, false), (17, false), (18, false), (19, true), (20, false), (21, false), (22, false), (23, false), (24, false), (25, false), (26, false)] : List (Nat × Bool)).all fun p => decide (PySem.W.kitOne K (.ref (ca p.1)) (.ref (ca 19)) = some p.2)) = true
  kx_ValueError : (([(0, true), (1, false), (2, false), (3, true), (4, true), (5, true), (6, true), (7, true), (8, true), (9, true), (10, true), (11, true), (12, true), (13, true), (14, true), (15, true), (16, true), (17, true), (18, true), (19, true), (20, false), (21, false), (22, false), (23, false), (24, false), (25, false), (26, false)] : List (Nat × Bool)).all fun p => decide (PySem.W.kitOne K (.ref (ca p.1)) (.type "ValueError") = some p.2)) = true
structure Tx (P : Program) (K : PySem.W.Frag) (mg : Str → Option Value) (a : Nat → Addr) (d : Nat → FuncData) (ca : Nat → Addr) : Prop where
  ct : Ct K ca
  f__law_cell : Fun K "_law_cell" "_law_cell" s__law_cell (a 0) (d 0)
  b__law_cell : Binds K (d 0) P__law_cell []
  m__law_cell : mg "_law_cell" = some (.ref (a 0))
  f__law_box : Fun K "_law_box" "_law_box" s__law_box (a 1) (d 1)
  b__law_box : Binds K (d 1) P__law_box []
  m__law_box : mg "_law_box" = some (.ref (a 1))
  f__law_take : Fun K "_law_take" "_law_take" s__law_take (a 2) (d 2)
  b__law_take : Binds K (d 2) P__law_take []
  m__law_take : mg "_law_take" = some (.ref (a 2))
  f__law_value : Fun K "_law_value" "_law_value" s__law_value (a 3) (d 3)
  b__law_value : Binds K (d 3) P__law_value []
  m__law_value : mg "_law_value" = some (.ref (a 3))
  f__law_made : Fun K "_law_made" "_law_made" s__law_made (a 4) (d 4)
  b__law_made : Binds K (d 4) P__law_made []
  m__law_made : mg "_law_made" = some (.ref (a 4))
  f__law_field : Fun K "_law_field" "_law_field" s__law_field (a 5) (d 5)
  b__law_field : Binds K (d 5) P__law_field []
  m__law_field : mg "_law_field" = some (.ref (a 5))
  f__law_kinds : Fun K "_law_kinds" "_law_kinds" s__law_kinds (a 6) (d 6)
  b__law_kinds : Binds K (d 6) P__law_kinds []
  m__law_kinds : mg "_law_kinds" = some (.ref (a 6))
  f__law_bases : Fun K "_law_bases" "_law_bases" s__law_bases (a 7) (d 7)
  b__law_bases : Binds K (d 7) P__law_bases []
  m__law_bases : mg "_law_bases" = some (.ref (a 7))
  f__law_due : Fun K "_law_due" "_law_due" s__law_due (a 8) (d 8)
  b__law_due : Binds K (d 8) P__law_due []
  m__law_due : mg "_law_due" = some (.ref (a 8))
  f_law : Fun K "law" "law" s_law (a 9) (d 9)
  b_law : Binds K (d 9) P_law []
  m_law : mg "law" = some (.ref (a 9))
  x_InvalidMark : U.ExcC K mg "InvalidMark" "value" (ca 3) (a 10)
  F_InvalidMark : Fun K "__init__" "InvalidMark.__init__" sI_InvalidMark (a 10) (d 10)
  i_InvalidMark : Binds K (d 10) ["self", "value"] []
  m_InvalidMark : mg "InvalidMark" = some (.ref (ca 3))
  x_InvalidMarks : U.ExcC K mg "InvalidMarks" "value" (ca 4) (a 11)
  F_InvalidMarks : Fun K "__init__" "InvalidMarks.__init__" sI_InvalidMarks (a 11) (d 11)
  i_InvalidMarks : Binds K (d 11) ["self", "value"] []
  m_InvalidMarks : mg "InvalidMarks" = some (.ref (ca 4))
  x_InvalidWords : U.ExcC K mg "InvalidWords" "value" (ca 5) (a 12)
  F_InvalidWords : Fun K "__init__" "InvalidWords.__init__" sI_InvalidWords (a 12) (d 12)
  i_InvalidWords : Binds K (d 12) ["self", "value"] []
  m_InvalidWords : mg "InvalidWords" = some (.ref (ca 5))
  x_InvalidText : U.ExcC K mg "InvalidText" "value" (ca 6) (a 13)
  F_InvalidText : Fun K "__init__" "InvalidText.__init__" sI_InvalidText (a 13) (d 13)
  i_InvalidText : Binds K (d 13) ["self", "value"] []
  m_InvalidText : mg "InvalidText" = some (.ref (ca 6))
  x_InvalidStep : U.ExcC K mg "InvalidStep" "value" (ca 7) (a 14)
  F_InvalidStep : Fun K "__init__" "InvalidStep.__init__" sI_InvalidStep (a 14) (d 14)
  i_InvalidStep : Binds K (d 14) ["self", "value"] []
  m_InvalidStep : mg "InvalidStep" = some (.ref (ca 7))
  x_InvalidChain : U.ExcC K mg "InvalidChain" "value" (ca 8) (a 15)
  F_InvalidChain : Fun K "__init__" "InvalidChain.__init__" sI_InvalidChain (a 15) (d 15)
  i_InvalidChain : Binds K (d 15) ["self", "value"] []
  m_InvalidChain : mg "InvalidChain" = some (.ref (ca 8))
  x_InvalidStock : U.ExcC K mg "InvalidStock" "value" (ca 9) (a 16)
  F_InvalidStock : Fun K "__init__" "InvalidStock.__init__" sI_InvalidStock (a 16) (d 16)
  i_InvalidStock : Binds K (d 16) ["self", "value"] []
  m_InvalidStock : mg "InvalidStock" = some (.ref (ca 9))
  x_InvalidInteger : U.ExcC K mg "InvalidInteger" "value" (ca 10) (a 17)
  F_InvalidInteger : Fun K "__init__" "InvalidInteger.__init__" sI_InvalidInteger (a 17) (d 17)
  i_InvalidInteger : Binds K (d 17) ["self", "value"] []
  m_InvalidInteger : mg "InvalidInteger" = some (.ref (ca 10))
  x_InvalidState : U.ExcC K mg "InvalidState" "value" (ca 11) (a 18)
  F_InvalidState : Fun K "__init__" "InvalidState.__init__" sI_InvalidState (a 18) (d 18)
  i_InvalidState : Binds K (d 18) ["self", "value"] []
  m_InvalidState : mg "InvalidState" = some (.ref (ca 11))
  x_InvalidRow : U.ExcC K mg "InvalidRow" "value" (ca 12) (a 19)
  F_InvalidRow : Fun K "__init__" "InvalidRow.__init__" sI_InvalidRow (a 19) (d 19)
  i_InvalidRow : Binds K (d 19) ["self", "value"] []
  m_InvalidRow : mg "InvalidRow" = some (.ref (ca 12))
  x_InvalidChange : U.ExcC K mg "InvalidChange" "value" (ca 13) (a 20)
  F_InvalidChange : Fun K "__init__" "InvalidChange.__init__" sI_InvalidChange (a 20) (d 20)
  i_InvalidChange : Binds K (d 20) ["self", "value"] []
  m_InvalidChange : mg "InvalidChange" = some (.ref (ca 13))
  x_InvalidName : U.ExcC K mg "InvalidName" "value" (ca 14) (a 21)
  F_InvalidName : Fun K "__init__" "InvalidName.__init__" sI_InvalidName (a 21) (d 21)
  i_InvalidName : Binds K (d 21) ["self", "value"] []
  m_InvalidName : mg "InvalidName" = some (.ref (ca 14))
  x_InvalidLine : U.ExcC K mg "InvalidLine" "value" (ca 15) (a 22)
  F_InvalidLine : Fun K "__init__" "InvalidLine.__init__" sI_InvalidLine (a 22) (d 22)
  i_InvalidLine : Binds K (d 22) ["self", "value"] []
  m_InvalidLine : mg "InvalidLine" = some (.ref (ca 15))
  x_InvalidLines : U.ExcC K mg "InvalidLines" "value" (ca 16) (a 23)
  F_InvalidLines : Fun K "__init__" "InvalidLines.__init__" sI_InvalidLines (a 23) (d 23)
  i_InvalidLines : Binds K (d 23) ["self", "value"] []
  m_InvalidLines : mg "InvalidLines" = some (.ref (ca 16))
  x_NotOver : U.ExcC K mg "NotOver" "value" (ca 17) (a 24)
  F_NotOver : Fun K "__init__" "NotOver.__init__" sI_NotOver (a 24) (d 24)
  i_NotOver : Binds K (d 24) ["self", "value"] []
  m_NotOver : mg "NotOver" = some (.ref (ca 17))
  x_InvalidPage : U.ExcC K mg "InvalidPage" "line" (ca 18) (a 25)
  F_InvalidPage : Fun K "__init__" "InvalidPage.__init__" sI_InvalidPage (a 25) (d 25)
  i_InvalidPage : Binds K (d 25) ["self", "line"] []
  m_InvalidPage : mg "InvalidPage" = some (.ref (ca 18))
  x_TooMany : U.ExcC K mg "TooMany" "count" (ca 19) (a 26)
  F_TooMany : Fun K "__init__" "TooMany.__init__" sI_TooMany (a 26) (d 26)
  i_TooMany : Binds K (d 26) ["self", "count"] []
  m_TooMany : mg "TooMany" = some (.ref (ca 19))
  x_NoStep : U.ExcK K mg "NoStep" "index" (ca 20) (a 27)
  F_NoStep : Fun K "__init__" "NoStep.__init__" sI_NoStep (a 27) (d 27)
  i_NoStep : Binds K (d 27) ["self", "index"] []
  m_NoStep : mg "NoStep" = some (.ref (ca 20))
  x_NoLetter : U.ExcK K mg "NoLetter" "value" (ca 21) (a 28)
  F_NoLetter : Fun K "__init__" "NoLetter.__init__" sI_NoLetter (a 28) (d 28)
  i_NoLetter : Binds K (d 28) ["self", "value"] []
  m_NoLetter : mg "NoLetter" = some (.ref (ca 21))
  x_NoInput : U.ExcK K mg "NoInput" "value" (ca 22) (a 29)
  F_NoInput : Fun K "__init__" "NoInput.__init__" sI_NoInput (a 29) (d 29)
  i_NoInput : Binds K (d 29) ["self", "value"] []
  m_NoInput : mg "NoInput" = some (.ref (ca 22))
  x_NoChain : U.ExcK K mg "NoChain" "name" (ca 23) (a 30)
  F_NoChain : Fun K "__init__" "NoChain.__init__" sI_NoChain (a 30) (d 30)
  i_NoChain : Binds K (d 30) ["self", "name"] []
  m_NoChain : mg "NoChain" = some (.ref (ca 23))
  y_ReflowError : U.BaseC K (ca 0)
  w_ReflowError : mg "ReflowError" = some (.ref (ca 0))
  y_AbsentError : U.BaseK K (ca 1)
  w_AbsentError : mg "AbsentError" = some (.ref (ca 1))
  x0_NoStock : U.Ex0C K mg "NoStock" (ca 24) (a 31)
  F_NoStock : Fun K "__init__" "NoStock.__init__" sI_NoStock (a 31) (d 31)
  i_NoStock : Binds K (d 31) ["self"] []
  m_NoStock : mg "NoStock" = some (.ref (ca 24))
  x0_NothingToUndo : U.Ex0C K mg "NothingToUndo" (ca 25) (a 32)
  F_NothingToUndo : Fun K "__init__" "NothingToUndo.__init__" sI_NothingToUndo (a 32) (d 32)
  i_NothingToUndo : Binds K (d 32) ["self"] []
  m_NothingToUndo : mg "NothingToUndo" = some (.ref (ca 25))
  x0_NothingToRedo : U.Ex0C K mg "NothingToRedo" (ca 26) (a 33)
  F_NothingToRedo : Fun K "__init__" "NothingToRedo.__init__" sI_NothingToRedo (a 33) (d 33)
  i_NothingToRedo : Binds K (d 33) ["self"] []
  m_NothingToRedo : mg "NothingToRedo" = some (.ref (ca 26))
  y_StateError : U.Base0 K (ca 2)
  w_StateError : mg "StateError" = some (.ref (ca 2))
  bk_AbsentError : U.BareK K mg "AbsentError" (ca 1)
  bq_ReflowError : PySem.W.excIn K (ca 0) [.type "ValueError", .type "Exception", .type "BaseException", .type "object"] "ValueError.__new__" = true
  bm_ReflowError : mg "ReflowError" = some (.ref (ca 0))
  bk_ReflowError : PySem.W.keepIn K (.ref (ca 0)) = true
  bq_StateError : PySem.W.excIn K (ca 2) [.type "LookupError", .type "Exception", .type "BaseException", .type "object"] "LookupError.__new__" = true
  bm_StateError : mg "StateError" = some (.ref (ca 2))
  bk_StateError : PySem.W.keepIn K (.ref (ca 2)) = true
  mx_AbsentError : mg "AbsentError" = some (.ref (ca 1))
  mx_InvalidChain : mg "InvalidChain" = some (.ref (ca 8))
  mx_InvalidChange : mg "InvalidChange" = some (.ref (ca 13))
  mx_InvalidInteger : mg "InvalidInteger" = some (.ref (ca 10))
  mx_InvalidLine : mg "InvalidLine" = some (.ref (ca 15))
  mx_InvalidLines : mg "InvalidLines" = some (.ref (ca 16))
  mx_InvalidMark : mg "InvalidMark" = some (.ref (ca 3))
  mx_InvalidMarks : mg "InvalidMarks" = some (.ref (ca 4))
  mx_InvalidName : mg "InvalidName" = some (.ref (ca 14))
  mx_InvalidPage : mg "InvalidPage" = some (.ref (ca 18))
  mx_InvalidRow : mg "InvalidRow" = some (.ref (ca 12))
  mx_InvalidState : mg "InvalidState" = some (.ref (ca 11))
  mx_InvalidStep : mg "InvalidStep" = some (.ref (ca 7))
  mx_InvalidStock : mg "InvalidStock" = some (.ref (ca 9))
  mx_InvalidText : mg "InvalidText" = some (.ref (ca 6))
  mx_InvalidWords : mg "InvalidWords" = some (.ref (ca 5))
  mx_NoChain : mg "NoChain" = some (.ref (ca 23))
  mx_NoInput : mg "NoInput" = some (.ref (ca 22))
  mx_NoLetter : mg "NoLetter" = some (.ref (ca 21))
  mx_NoStep : mg "NoStep" = some (.ref (ca 20))
  mx_NoStock : mg "NoStock" = some (.ref (ca 24))
  mx_NotOver : mg "NotOver" = some (.ref (ca 17))
  mx_NothingToRedo : mg "NothingToRedo" = some (.ref (ca 26))
  mx_NothingToUndo : mg "NothingToUndo" = some (.ref (ca 25))
  mx_ReflowError : mg "ReflowError" = some (.ref (ca 0))
  mx_StateError : mg "StateError" = some (.ref (ca 2))
  mx_TooMany : mg "TooMany" = some (.ref (ca 19))
  z_IndexError : mg "IndexError" = none
  z_KeyError : mg "KeyError" = none
  z_LookupError : mg "LookupError" = none
  z_ValueError : mg "ValueError" = none
  z_dict : mg "dict" = none
  z_enumerate : mg "enumerate" = none
  z_isinstance : mg "isinstance" = none
  z_len : mg "len" = none
  z_list : mg "list" = none
  z_max : mg "max" = none
  z_min : mg "min" = none
  z_range : mg "range" = none
  z_repr : mg "repr" = none
section
variable {K : PySem.W.Frag} {ca : Nat → Addr}
theorem hxf_ (T : Ct K ca) : ∀ c f, xf_ c f = true → XfC K (ca c) ∧ PySem.W.findIn K (.ref (ca c)) f = some none := by
  intro c f e; unfold xf_ at e; split at e
  · have e := of_decide_eq_true e; subst e; exact ⟨T.x_InvalidMark, T.n_InvalidMark⟩
  · have e := of_decide_eq_true e; subst e; exact ⟨T.x_InvalidMarks, T.n_InvalidMarks⟩
  · have e := of_decide_eq_true e; subst e; exact ⟨T.x_InvalidWords, T.n_InvalidWords⟩
  · have e := of_decide_eq_true e; subst e; exact ⟨T.x_InvalidText, T.n_InvalidText⟩
  · have e := of_decide_eq_true e; subst e; exact ⟨T.x_InvalidStep, T.n_InvalidStep⟩
  · have e := of_decide_eq_true e; subst e; exact ⟨T.x_InvalidChain, T.n_InvalidChain⟩
  · have e := of_decide_eq_true e; subst e; exact ⟨T.x_InvalidStock, T.n_InvalidStock⟩
  · have e := of_decide_eq_true e; subst e; exact ⟨T.x_InvalidInteger, T.n_InvalidInteger⟩
  · have e := of_decide_eq_true e; subst e; exact ⟨T.x_InvalidState, T.n_InvalidState⟩
  · have e := of_decide_eq_true e; subst e; exact ⟨T.x_InvalidRow, T.n_InvalidRow⟩
  · have e := of_decide_eq_true e; subst e; exact ⟨T.x_InvalidChange, T.n_InvalidChange⟩
  · have e := of_decide_eq_true e; subst e; exact ⟨T.x_InvalidName, T.n_InvalidName⟩
  · have e := of_decide_eq_true e; subst e; exact ⟨T.x_InvalidLine, T.n_InvalidLine⟩
  · have e := of_decide_eq_true e; subst e; exact ⟨T.x_InvalidLines, T.n_InvalidLines⟩
  · have e := of_decide_eq_true e; subst e; exact ⟨T.x_NotOver, T.n_NotOver⟩
  · have e := of_decide_eq_true e; subst e; exact ⟨T.x_InvalidPage, T.n_InvalidPage⟩
  · have e := of_decide_eq_true e; subst e; exact ⟨T.x_TooMany, T.n_TooMany⟩
  · have e := of_decide_eq_true e; subst e; exact ⟨T.x_NoStep, T.n_NoStep⟩
  · have e := of_decide_eq_true e; subst e; exact ⟨T.x_NoLetter, T.n_NoLetter⟩
  · have e := of_decide_eq_true e; subst e; exact ⟨T.x_NoInput, T.n_NoInput⟩
  · have e := of_decide_eq_true e; subst e; exact ⟨T.x_NoChain, T.n_NoChain⟩
  · cases e
theorem hkx_AbsentError (T : Ct K ca) : KtE K ca (.ref (ca 1)) kx_AbsentError := ktE_of T.kx_AbsentError T.kxc
theorem hkx_IndexError (T : Ct K ca) : KtE K ca (.type "IndexError") kx_IndexError := ktE_of T.kx_IndexError T.kxc
theorem hkx_InvalidChain (T : Ct K ca) : KtE K ca (.ref (ca 8)) kx_InvalidChain := ktE_of T.kx_InvalidChain T.kxc
theorem hkx_InvalidChange (T : Ct K ca) : KtE K ca (.ref (ca 13)) kx_InvalidChange := ktE_of T.kx_InvalidChange T.kxc
theorem hkx_InvalidInteger (T : Ct K ca) : KtE K ca (.ref (ca 10)) kx_InvalidInteger := ktE_of T.kx_InvalidInteger T.kxc
theorem hkx_InvalidLine (T : Ct K ca) : KtE K ca (.ref (ca 15)) kx_InvalidLine := ktE_of T.kx_InvalidLine T.kxc
theorem hkx_InvalidLines (T : Ct K ca) : KtE K ca (.ref (ca 16)) kx_InvalidLines := ktE_of T.kx_InvalidLines T.kxc
theorem hkx_InvalidMark (T : Ct K ca) : KtE K ca (.ref (ca 3)) kx_InvalidMark := ktE_of T.kx_InvalidMark T.kxc
theorem hkx_InvalidMarks (T : Ct K ca) : KtE K ca (.ref (ca 4)) kx_InvalidMarks := ktE_of T.kx_InvalidMarks T.kxc
theorem hkx_InvalidName (T : Ct K ca) : KtE K ca (.ref (ca 14)) kx_InvalidName := ktE_of T.kx_InvalidName T.kxc
theorem hkx_InvalidPage (T : Ct K ca) : KtE K ca (.ref (ca 18)) kx_InvalidPage := ktE_of T.kx_InvalidPage T.kxc
theorem hkx_InvalidRow (T : Ct K ca) : KtE K ca (.ref (ca 12)) kx_InvalidRow := ktE_of T.kx_InvalidRow T.kxc
theorem hkx_InvalidState (T : Ct K ca) : KtE K ca (.ref (ca 11)) kx_InvalidState := ktE_of T.kx_InvalidState T.kxc
theorem hkx_InvalidStep (T : Ct K ca) : KtE K ca (.ref (ca 7)) kx_InvalidStep := ktE_of T.kx_InvalidStep T.kxc
theorem hkx_InvalidStock (T : Ct K ca) : KtE K ca (.ref (ca 9)) kx_InvalidStock := ktE_of T.kx_InvalidStock T.kxc
theorem hkx_InvalidText (T : Ct K ca) : KtE K ca (.ref (ca 6)) kx_InvalidText := ktE_of T.kx_InvalidText T.kxc
theorem hkx_InvalidWords (T : Ct K ca) : KtE K ca (.ref (ca 5)) kx_InvalidWords := ktE_of T.kx_InvalidWords T.kxc
theorem hkx_KeyError (T : Ct K ca) : KtE K ca (.type "KeyError") kx_KeyError := ktE_of T.kx_KeyError T.kxc
theorem hkx_LookupError (T : Ct K ca) : KtE K ca (.type "LookupError") kx_LookupError := ktE_of T.kx_LookupError T.kxc
theorem hkx_NoChain (T : Ct K ca) : KtE K ca (.ref (ca 23)) kx_NoChain := ktE_of T.kx_NoChain T.kxc
theorem hkx_NoInput (T : Ct K ca) : KtE K ca (.ref (ca 22)) kx_NoInput := ktE_of T.kx_NoInput T.kxc
theorem hkx_NoLetter (T : Ct K ca) : KtE K ca (.ref (ca 21)) kx_NoLetter := ktE_of T.kx_NoLetter T.kxc
theorem hkx_NoStep (T : Ct K ca) : KtE K ca (.ref (ca 20)) kx_NoStep := ktE_of T.kx_NoStep T.kxc
theorem hkx_NoStock (T : Ct K ca) : KtE K ca (.ref (ca 24)) kx_NoStock := ktE_of T.kx_NoStock T.kxc
theorem hkx_NotOver (T : Ct K ca) : KtE K ca (.ref (ca 17)) kx_NotOver := ktE_of T.kx_NotOver T.kxc
theorem hkx_NothingToRedo (T : Ct K ca) : KtE K ca (.ref (ca 26)) kx_NothingToRedo := ktE_of T.kx_NothingToRedo T.kxc
theorem hkx_NothingToUndo (T : Ct K ca) : KtE K ca (.ref (ca 25)) kx_NothingToUndo := ktE_of T.kx_NothingToUndo T.kxc
theorem hkx_ReflowError (T : Ct K ca) : KtE K ca (.ref (ca 0)) kx_ReflowError := ktE_of T.kx_ReflowError T.kxc
theorem hkx_StateError (T : Ct K ca) : KtE K ca (.ref (ca 2)) kx_StateError := ktE_of T.kx_StateError T.kxc
theorem hkx_TooMany (T : Ct K ca) : KtE K ca (.ref (ca 19)) kx_TooMany := ktE_of T.kx_TooMany T.kxc
theorem hkx_ValueError (T : Ct K ca) : KtE K ca (.type "ValueError") kx_ValueError := ktE_of T.kx_ValueError T.kxc
theorem a__law_cell (T : Ct K ca) : SS ⟨K, ca, none, none⟩ NoE (t__law_cell K ca) b__law_cell :=
  ss_seq (ss_if (st_val (se_op (sr_cmp _ _) (se_var 1) (se_cb sc_len (sa_cons (se_var 0) (sa_nil))))) (ss_ret (se_op sr_ix (se_var 0) (se_var 1))) (ss_next)) (ss_ret (se_op sr_add (se_op sr_mul (se_int _) (se_var 1)) (se_int _)))
theorem len__law_cell {vs : List V} {H : Hp} {Q : VK} {E : XK} (h : sp__law_cell K ca vs H Q E) : vs.length = P__law_cell.length := nox_len (N := N__law_cell) (P := P__law_cell) h
theorem p__law_cell (T : Ct K ca) {vs : List V} {H : Hp} {Q : VK} {E : XK} (h : sp__law_cell K ca vs H Q E) : t__law_cell K ca { nx := fun _ H' => Q .non H', rt := Q } (L2.start N__law_cell vs) H := nox_ok (N := N__law_cell) (P := P__law_cell) (a__law_cell T) h
theorem a__law_box (T : Ct K ca) : SS ⟨K, ca, none, none⟩ NoE (t__law_box K ca) b__law_box :=
  ss_ret (se_lst (sa_cons (se_cb sc_max (sa_cons (se_int _) (sa_cons (se_op sr_sub (se_var 0) (se_op sr_pow (se_int _) (se_int _))) (sa_nil)))) (sa_cons (se_op sr_mod (se_var 0) (se_int _)) (sa_cons (se_int _) (sa_nil)))))
theorem len__law_box {vs : List V} {H : Hp} {Q : VK} {E : XK} (h : sp__law_box K ca vs H Q E) : vs.length = P__law_box.length := nox_len (N := N__law_box) (P := P__law_box) h
theorem p__law_box (T : Ct K ca) {vs : List V} {H : Hp} {Q : VK} {E : XK} (h : sp__law_box K ca vs H Q E) : t__law_box K ca { nx := fun _ H' => Q .non H', rt := Q } (L2.start N__law_box vs) H := nox_ok (N := N__law_box) (P := P__law_box) (a__law_box T) h
theorem a__law_take (T : Ct K ca) : SS ⟨K, ca, none, none⟩ NoE (t__law_take K ca) b__law_take :=
  ss_seq (ss_if (st_val (se_op (sr_cmp _ _) (se_op sr_ix (se_var 0) (se_int _)) (se_int _))) (ss_seq (ss_asg (se_op sr_mod (se_op sr_ix (se_var 0) (se_int _)) (se_var 1)) (sg_name 2)) (ss_seq (ss_setI (se_op sr_fdiv (se_op sr_ix (se_var 0) (se_int _)) (se_var 1)) (se_int _)) (ss_retV 2))) (ss_next)) (ss_seq (ss_setI (se_op sr_add (se_op sr_ix (se_var 0) (se_int _)) (se_int _)) (se_int _)) (ss_seq (ss_asg (se_op sr_mod (se_op sr_pow (se_op sr_add (se_op sr_add (se_op sr_ix (se_var 0) (se_int _)) (se_op sr_mul (se_int _) (se_op sr_ix (se_var 0) (se_int _)))) (se_int _)) (se_int _)) (se_int _)) (sg_name 3)) (ss_seq (ss_asg (se_op sr_mod (se_op sr_pow (se_op sr_add (se_var 3) (se_op sr_mul (se_int _) (se_op sr_ix (se_var 0) (se_int _)))) (se_int _)) (se_int _)) (sg_name 3)) (ss_ret (se_op sr_mod (se_op sr_fdiv (se_var 3) (se_int _)) (se_var 1))))))
theorem len__law_take {vs : List V} {H : Hp} {Q : VK} {E : XK} (h : sp__law_take K ca vs H Q E) : vs.length = P__law_take.length := nox_len (N := N__law_take) (P := P__law_take) h
theorem p__law_take (T : Ct K ca) {vs : List V} {H : Hp} {Q : VK} {E : XK} (h : sp__law_take K ca vs H Q E) : t__law_take K ca { nx := fun _ H' => Q .non H', rt := Q } (L2.start N__law_take vs) H := nox_ok (N := N__law_take) (P := P__law_take) (a__law_take T) h
theorem a__law_value (T : Ct K ca) : SS ⟨K, ca, none, none⟩ NoE (t__law_value K ca) b__law_value :=
  ss_seq (ss_asg (se_lst (sa_cons (se_non) (sa_cons (se_bl _) (sa_cons (se_bl _) (sa_cons (se_int _) (sa_cons (se_neg (se_int _)) (sa_cons (se_op sr_pow (se_int _) (se_int _)) (sa_cons (se_str _) (sa_cons (se_str _) (sa_cons (se_str _) (sa_cons (se_ado (se_lst (sa_nil))) (sa_cons (se_ado (se_lst (sa_cons (se_int _) (sa_cons (se_lst (sa_cons (se_int _) (sa_nil))) (sa_nil))))) (sa_cons (se_dnewC) (sa_cons (se_dispC (.cons (k := .inr "a") (se_lst (sa_cons (se_int _) (sa_nil))) (.nil))) (sa_cons (se_tup (sa_nil)) (sa_cons (se_tup (sa_cons (se_str _) (sa_cons (se_str _) (sa_nil)))) (sa_cons (se_ado (se_lst (sa_cons (se_str _) (sa_nil)))) (sa_nil)))))))))))))))))) (sg_name 1)) (ss_ret (se_op sr_ix (se_var 1) (se_callN (nox_no _) (sa_cons (se_var 0) (sa_cons (se_int _) (sa_nil))))))
theorem len__law_value {vs : List V} {H : Hp} {Q : VK} {E : XK} (h : sp__law_value K ca vs H Q E) : vs.length = P__law_value.length := nox_len (N := N__law_value) (P := P__law_value) h
theorem p__law_value (T : Ct K ca) {vs : List V} {H : Hp} {Q : VK} {E : XK} (h : sp__law_value K ca vs H Q E) : t__law_value K ca { nx := fun _ H' => Q .non H', rt := Q } (L2.start N__law_value vs) H := nox_ok (N := N__law_value) (P := P__law_value) (a__law_value T) h
theorem a__law_made (T : Ct K ca) : SS ⟨K, ca, none, none⟩ NoE (t__law_made K ca) b__law_made :=
  ss_seq (ss_asg (se_lst (sa_cons (se_mkX (sa_cons (se_var 0) (sa_nil))) (sa_cons (se_mkX (sa_cons (se_var 0) (sa_nil))) (sa_cons (se_mkX (sa_cons (se_var 0) (sa_nil))) (sa_cons (se_mkX (sa_cons (se_var 0) (sa_nil))) (sa_nil)))))) (sg_name 1)) (ss_seq (ss_asg (se_op sr_add (se_var 1) (se_lst (sa_cons (se_mkX (sa_cons (se_var 0) (sa_nil))) (sa_cons (se_mkX (sa_cons (se_var 0) (sa_nil))) (sa_cons (se_mkX (sa_cons (se_var 0) (sa_nil))) (sa_cons (se_mkX (sa_cons (se_var 0) (sa_nil))) (sa_nil))))))) (sg_name 1)) (ss_seq (ss_asg (se_op sr_add (se_var 1) (se_lst (sa_cons (se_mkX (sa_cons (se_var 0) (sa_nil))) (sa_cons (se_mkX (sa_cons (se_var 0) (sa_nil))) (sa_cons (se_mkX (sa_cons (se_var 0) (sa_nil))) (sa_cons (se_mkX (sa_cons (se_var 0) (sa_nil))) (sa_nil))))))) (sg_name 1)) (ss_seq (ss_asg (se_op sr_add (se_var 1) (se_lst (sa_cons (se_mkX (sa_cons (se_var 0) (sa_nil))) (sa_cons (se_mkX (sa_cons (se_var 0) (sa_nil))) (sa_cons (se_mkX (sa_cons (se_var 0) (sa_nil))) (sa_cons (se_mkX (sa_cons (se_var 0) (sa_nil))) (sa_nil))))))) (sg_name 1)) (ss_seq (ss_asg (se_op sr_add (se_var 1) (se_lst (sa_cons (se_mkX (sa_cons (se_var 0) (sa_nil))) (sa_cons (se_mkX (sa_cons (se_var 0) (sa_nil))) (sa_cons (se_mkX (sa_cons (se_var 0) (sa_nil))) (sa_cons (se_mkX (sa_cons (se_var 0) (sa_nil))) (sa_nil))))))) (sg_name 1)) (ss_seq (ss_asg (se_op sr_add (se_var 1) (se_lst (sa_cons (se_mkX (sa_cons (se_var 0) (sa_nil))) (sa_nil)))) (sg_name 1)) (ss_retV 1))))))
theorem len__law_made {vs : List V} {H : Hp} {Q : VK} {E : XK} (h : sp__law_made K ca vs H Q E) : vs.length = P__law_made.length := nox_len (N := N__law_made) (P := P__law_made) h
theorem p__law_made (T : Ct K ca) {vs : List V} {H : Hp} {Q : VK} {E : XK} (h : sp__law_made K ca vs H Q E) : t__law_made K ca { nx := fun _ H' => Q .non H', rt := Q } (L2.start N__law_made vs) H := nox_ok (N := N__law_made) (P := P__law_made) (a__law_made T) h
theorem a__law_field (T : Ct K ca) : SS ⟨K, ca, none, none⟩ NoE (t__law_field K ca) b__law_field :=
  ss_seq (ss_if (st_val (se_op sr_eq (se_var 1) (se_int _))) (ss_ret (se_fldX (hxf_ T) (se_var 0))) (ss_next)) (ss_seq (ss_if (st_val (se_op sr_eq (se_var 1) (se_int _))) (ss_ret (se_fldX (hxf_ T) (se_var 0))) (ss_next)) (ss_seq (ss_if (st_val (se_op sr_eq (se_var 1) (se_int _))) (ss_ret (se_fldX (hxf_ T) (se_var 0))) (ss_next)) (ss_ret (se_if (st_val (se_op sr_eq (se_var 1) (se_int _))) (se_fldX (hxf_ T) (se_var 0)) (se_fldX (hxf_ T) (se_var 0))))))
theorem len__law_field {vs : List V} {H : Hp} {Q : VK} {E : XK} (h : sp__law_field K ca vs H Q E) : vs.length = P__law_field.length := nox_len (N := N__law_field) (P := P__law_field) h
theorem p__law_field (T : Ct K ca) {vs : List V} {H : Hp} {Q : VK} {E : XK} (h : sp__law_field K ca vs H Q E) : t__law_field K ca { nx := fun _ H' => Q .non H', rt := Q } (L2.start N__law_field vs) H := nox_ok (N := N__law_field) (P := P__law_field) (a__law_field T) h
theorem a__law_kinds (T : Ct K ca) : SS ⟨K, ca, none, none⟩ NoE (t__law_kinds K ca) b__law_kinds :=
  ss_seq (ss_asg (se_lst (sa_cons (se_isX (hkx_InvalidMark T) (se_var 0)) (sa_cons (se_isX (hkx_InvalidMarks T) (se_var 0)) (sa_nil)))) (sg_name 1)) (ss_seq (ss_asg (se_op sr_add (se_var 1) (se_lst (sa_cons (se_isX (hkx_InvalidWords T) (se_var 0)) (sa_cons (se_isX (hkx_InvalidText T) (se_var 0)) (sa_nil))))) (sg_name 1)) (ss_seq (ss_asg (se_op sr_add (se_var 1) (se_lst (sa_cons (se_isX (hkx_InvalidStep T) (se_var 0)) (sa_cons (se_isX (hkx_InvalidChain T) (se_var 0)) (sa_nil))))) (sg_name 1)) (ss_seq (ss_asg (se_op sr_add (se_var 1) (se_lst (sa_cons (se_isX (hkx_InvalidStock T) (se_var 0)) (sa_cons (se_isX (hkx_InvalidInteger T) (se_var 0)) (sa_nil))))) (sg_name 1)) (ss_seq (ss_asg (se_op sr_add (se_var 1) (se_lst (sa_cons (se_isX (hkx_InvalidState T) (se_var 0)) (sa_cons (se_isX (hkx_InvalidRow T) (se_var 0)) (sa_nil))))) (sg_name 1)) (ss_seq (ss_asg (se_op sr_add (se_var 1) (se_lst (sa_cons (se_isX (hkx_InvalidChange T) (se_var 0)) (sa_cons (se_isX (hkx_InvalidName T) (se_var 0)) (sa_nil))))) (sg_name 1)) (ss_seq (ss_asg (se_op sr_add (se_var 1) (se_lst (sa_cons (se_isX (hkx_InvalidLine T) (se_var 0)) (sa_cons (se_isX (hkx_InvalidLines T) (se_var 0)) (sa_nil))))) (sg_name 1)) (ss_seq (ss_asg (se_op sr_add (se_var 1) (se_lst (sa_cons (se_isX (hkx_NotOver T) (se_var 0)) (sa_cons (se_isX (hkx_InvalidPage T) (se_var 0)) (sa_nil))))) (sg_name 1)) (ss_seq (ss_asg (se_op sr_add (se_var 1) (se_lst (sa_cons (se_isX (hkx_TooMany T) (se_var 0)) (sa_cons (se_isX (hkx_NoStep T) (se_var 0)) (sa_nil))))) (sg_name 1)) (ss_seq (ss_asg (se_op sr_add (se_var 1) (se_lst (sa_cons (se_isX (hkx_NoLetter T) (se_var 0)) (sa_cons (se_isX (hkx_NoInput T) (se_var 0)) (sa_nil))))) (sg_name 1)) (ss_seq (ss_asg (se_op sr_add (se_var 1) (se_lst (sa_cons (se_isX (hkx_NoChain T) (se_var 0)) (sa_cons (se_isX (hkx_NoStock T) (se_var 0)) (sa_nil))))) (sg_name 1)) (ss_seq (ss_asg (se_op sr_add (se_var 1) (se_lst (sa_cons (se_isX (hkx_NothingToUndo T) (se_var 0)) (sa_cons (se_isX (hkx_NothingToRedo T) (se_var 0)) (sa_nil))))) (sg_name 1)) (ss_ret (se_lc (si_rng1 (sa_cons (se_cb sc_len (sa_cons (se_var 1) (sa_nil))) (sa_nil))) (sg_name 2) (st_val (se_op sr_ix (se_var 1) (se_var 2))) (se_var 2))))))))))))))
theorem len__law_kinds {vs : List V} {H : Hp} {Q : VK} {E : XK} (h : sp__law_kinds K ca vs H Q E) : vs.length = P__law_kinds.length := nox_len (N := N__law_kinds) (P := P__law_kinds) h
theorem p__law_kinds (T : Ct K ca) {vs : List V} {H : Hp} {Q : VK} {E : XK} (h : sp__law_kinds K ca vs H Q E) : t__law_kinds K ca { nx := fun _ H' => Q .non H', rt := Q } (L2.start N__law_kinds vs) H := nox_ok (N := N__law_kinds) (P := P__law_kinds) (a__law_kinds T) h
theorem a__law_bases (T : Ct K ca) : SS ⟨K, ca, none, none⟩ NoE (t__law_bases K ca) b__law_bases :=
  ss_seq (ss_asg (se_lst (sa_cons (se_isX (hkx_ReflowError T) (se_var 0)) (sa_cons (se_isX (hkx_AbsentError T) (se_var 0)) (sa_cons (se_isX (hkx_StateError T) (se_var 0)) (sa_nil))))) (sg_name 1)) (ss_seq (ss_if (st_val (se_isX (hkx_IndexError T) (se_var 0))) (ss_ret (se_lst (sa_nil))) (ss_next)) (ss_ret (se_op sr_add (se_var 1) (se_lst (sa_cons (se_isX (hkx_ValueError T) (se_var 0)) (sa_cons (se_isX (hkx_KeyError T) (se_var 0)) (sa_cons (se_isX (hkx_LookupError T) (se_var 0)) (sa_nil))))))))
theorem len__law_bases {vs : List V} {H : Hp} {Q : VK} {E : XK} (h : sp__law_bases K ca vs H Q E) : vs.length = P__law_bases.length := nox_len (N := N__law_bases) (P := P__law_bases) h
theorem p__law_bases (T : Ct K ca) {vs : List V} {H : Hp} {Q : VK} {E : XK} (h : sp__law_bases K ca vs H Q E) : t__law_bases K ca { nx := fun _ H' => Q .non H', rt := Q } (L2.start N__law_bases vs) H := nox_ok (N := N__law_bases) (P := P__law_bases) (a__law_bases T) h
theorem a__law_due (T : Ct K ca) : SS ⟨K, ca, none, none⟩ NoE (t__law_due K ca) b__law_due :=
  ss_seq (ss_if (st_val (se_op (sr_cmp _ _) (se_var 0) (se_int _))) (ss_ret (se_lst (sa_cons (se_bl _) (sa_cons (se_bl _) (sa_cons (se_bl _) (sa_cons (se_bl _) (sa_cons (se_bl _) (sa_cons (se_bl _) (sa_nil))))))))) (ss_next)) (ss_seq (ss_if (st_val (se_op (sr_cmp _ _) (se_var 0) (se_int _))) (ss_ret (se_lst (sa_cons (se_bl _) (sa_cons (se_bl _) (sa_cons (se_bl _) (sa_cons (se_bl _) (sa_cons (se_bl _) (sa_cons (se_bl _) (sa_nil))))))))) (ss_next)) (ss_ret (se_lst (sa_cons (se_bl _) (sa_cons (se_bl _) (sa_cons (se_bl _) (sa_cons (se_bl _) (sa_cons (se_bl _) (sa_cons (se_bl _) (sa_nil))))))))))
theorem len__law_due {vs : List V} {H : Hp} {Q : VK} {E : XK} (h : sp__law_due K ca vs H Q E) : vs.length = P__law_due.length := nox_len (N := N__law_due) (P := P__law_due) h
theorem p__law_due (T : Ct K ca) {vs : List V} {H : Hp} {Q : VK} {E : XK} (h : sp__law_due K ca vs H Q E) : t__law_due K ca { nx := fun _ H' => Q .non H', rt := Q } (L2.start N__law_due vs) H := nox_ok (N := N__law_due) (P := P__law_due) (a__law_due T) h
theorem a_law (T : Ct K ca) : SS ⟨K, ca, none, none⟩ NoE (t_law K ca) b_law :=
  ss_seq (ss_for (si_rng1 (sa_cons (se_cb sc_max (sa_cons (se_int _) (sa_cons (se_cb sc_min (sa_cons (se_int _) (sa_cons (se_cb sc_len (sa_cons (se_var 0) (sa_nil))) (sa_nil)))) (sa_nil)))) (sa_nil))) (sg_name 1) (ss_seq (ss_asg (se_ado (se_callN (nox_no _) (sa_cons (se_callN (nox_no _) (sa_cons (se_var 0) (sa_cons (se_var 1) (sa_nil)))) (sa_nil)))) (sg_name 2)) (ss_seq (ss_asg (se_callN (nox_no _) (sa_cons (se_var 2) (sa_nil))) (sg_name 3)) (ss_seq (ss_asg (se_callN (nox_no _) (sa_cons (se_var 3) (sa_nil))) (sg_name 4)) (ss_seq (ss_for (si_enum (sa_cons (se_var 4) (sa_nil))) (sg_ts (sgs_cons (sg_name 5) (sgs_cons (sg_name 6) (sgs_nil)))) (ss_if (st_or (st_val (se_op sr_ne (se_callN (nox_no _) (sa_cons (se_var 6) (sa_nil))) (se_lst (sa_cons (se_var 5) (sa_nil))))) (st_val (se_op sr_ne (se_callN (nox_no _) (sa_cons (se_var 6) (sa_nil))) (se_callN (nox_no _) (sa_cons (se_var 5) (sa_nil)))))) (ss_ret (se_bl _)) (ss_next))) (ss_seq (ss_if (st_val (se_isi .lst (se_var 3))) (ss_app (se_str _)) (ss_next)) (ss_seq (ss_if (st_val (se_isi .dct (se_var 3))) (ss_dset (se_int _)) (ss_next)) (ss_if (st_val (se_op sr_ne3 (se_lc (si_enum (sa_cons (se_var 4) (sa_nil))) (sg_ts (sgs_cons (sg_name 5) (sgs_cons (sg_name 6) (sgs_nil)))) (st_val (se_op sr_ne (se_cb sc_reprK (sa_cons (se_callN (nox_no _) (sa_cons (se_var 6) (sa_cons (se_var 5) (sa_nil)))) (sa_nil))) (se_cb sc_reprK (sa_cons (se_var 3) (sa_nil))))) (se_var 5)) (se_lst (sa_nil)))) (ss_ret (se_bl _)) (ss_next))))))))) (ss_seq (ss_for (si_iter (se_lst (sa_cons (se_tup (sa_cons (se_int _) (sa_cons (se_mkX0) (sa_nil)))) (sa_cons (se_tup (sa_cons (se_int _) (sa_cons (se_mkX0) (sa_nil)))) (sa_cons (se_tup (sa_cons (se_int _) (sa_cons (se_mkX0) (sa_nil)))) (sa_nil)))))) (sg_ts (sgs_cons (sg_name 5) (sgs_cons (sg_name 6) (sgs_nil)))) (ss_if (st_or (st_val (se_op sr_ne (se_callN (nox_no _) (sa_cons (se_var 6) (sa_nil))) (se_lst (sa_cons (se_var 5) (sa_nil))))) (st_val (se_op sr_ne (se_callN (nox_no _) (sa_cons (se_var 6) (sa_nil))) (se_callN (nox_no _) (sa_cons (se_var 5) (sa_nil)))))) (ss_ret (se_bl _)) (ss_next))) (ss_seq (ss_for (si_enum (sa_cons (se_lst (sa_cons (se_mkXB (se_str _)) (sa_cons (se_mkXB (se_str _)) (sa_cons (se_mkXB (se_str _)) (sa_nil))))) (sa_nil))) (sg_ts (sgs_cons (sg_name 5) (sgs_cons (sg_name 6) (sgs_nil)))) (ss_if (st_or (st_val (se_op sr_ne3 (se_callN (nox_no _) (sa_cons (se_var 6) (sa_nil))) (se_lst (sa_nil)))) (st_val (se_op sr_ne (se_callN (nox_no _) (sa_cons (se_var 6) (sa_nil))) (se_callN (nox_no _) (sa_cons (se_op sr_ix (se_lst (sa_cons (se_int _) (sa_cons (se_int _) (sa_cons (se_int _) (sa_nil))))) (se_var 5)) (sa_nil)))))) (ss_ret (se_bl _)) (ss_next))) (ss_ret (se_bl _))))
theorem len_law {vs : List V} {H : Hp} {Q : VK} {E : XK} (h : sp_law K ca vs H Q E) : vs.length = P_law.length := nox_len (N := N_law) (P := P_law) h
theorem p_law (T : Ct K ca) {vs : List V} {H : Hp} {Q : VK} {E : XK} (h : sp_law K ca vs H Q E) : t_law K ca { nx := fun _ H' => Q .non H', rt := Q } (L2.start N_law vs) H := nox_ok (N := N_law) (P := P_law) (a_law T) h
end
section
variable {P : Program} {w : World} {K : PySem.W.Frag} {mg : Str → Option Value} {base : Heap} {a : Nat → Addr} {d : Nat → FuncData} {ca : Nat → Addr}
theorem okI_InvalidMark (T : Tx P K mg a d ca) : FnOk P w K mg base CX0 1 (a 10) (d 10) ["self", "value"] (U.spI (ca 3) "value") :=
  T.F_InvalidMark.ok scI_InvalidMark (fun vs H Q E h => U.len_spI h) (fun cdv A outer s H vs Q E hr h => ⟨U.tI K "value" "not a mark", pss_cons (ps_expr (U.pe_binit T.y_ReflowError rfl T.w_ReflowError (pa_cons (U.pu 0) (pa_cons pe_str pa_nil)))) (pss_one (ps_ost (U.pu 0) (U.pu 1))), U.p_init T.x_InvalidMark h⟩)
theorem okI_InvalidMarks (T : Tx P K mg a d ca) : FnOk P w K mg base CX0 1 (a 11) (d 11) ["self", "value"] (U.spI (ca 4) "value") :=
  T.F_InvalidMarks.ok scI_InvalidMarks (fun vs H Q E h => U.len_spI h) (fun cdv A outer s H vs Q E hr h => ⟨U.tI K "value" "not a list of marks that is asked for", pss_cons (ps_expr (U.pe_binit T.y_ReflowError rfl T.w_ReflowError (pa_cons (U.pu 0) (pa_cons pe_str pa_nil)))) (pss_one (ps_ost (U.pu 0) (U.pu 1))), U.p_init T.x_InvalidMarks h⟩)
theorem okI_InvalidWords (T : Tx P K mg a d ca) : FnOk P w K mg base CX0 1 (a 12) (d 12) ["self", "value"] (U.spI (ca 5) "value") :=
  T.F_InvalidWords.ok scI_InvalidWords (fun vs H Q E h => U.len_spI h) (fun cdv A outer s H vs Q E hr h => ⟨U.tI K "value" "not a list of words that fits", pss_cons (ps_expr (U.pe_binit T.y_ReflowError rfl T.w_ReflowError (pa_cons (U.pu 0) (pa_cons pe_str pa_nil)))) (pss_one (ps_ost (U.pu 0) (U.pu 1))), U.p_init T.x_InvalidWords h⟩)
theorem okI_InvalidText (T : Tx P K mg a d ca) : FnOk P w K mg base CX0 1 (a 13) (d 13) ["self", "value"] (U.spI (ca 6) "value") :=
  T.F_InvalidText.ok scI_InvalidText (fun vs H Q E h => U.len_spI h) (fun cdv A outer s H vs Q E hr h => ⟨U.tI K "value" "not a text, or not the writing of one", pss_cons (ps_expr (U.pe_binit T.y_ReflowError rfl T.w_ReflowError (pa_cons (U.pu 0) (pa_cons pe_str pa_nil)))) (pss_one (ps_ost (U.pu 0) (U.pu 1))), U.p_init T.x_InvalidText h⟩)
theorem okI_InvalidStep (T : Tx P K mg a d ca) : FnOk P w K mg base CX0 1 (a 14) (d 14) ["self", "value"] (U.spI (ca 7) "value") :=
  T.F_InvalidStep.ok scI_InvalidStep (fun vs H Q E h => U.len_spI h) (fun cdv A outer s H vs Q E hr h => ⟨U.tI K "value" "not a step", pss_cons (ps_expr (U.pe_binit T.y_ReflowError rfl T.w_ReflowError (pa_cons (U.pu 0) (pa_cons pe_str pa_nil)))) (pss_one (ps_ost (U.pu 0) (U.pu 1))), U.p_init T.x_InvalidStep h⟩)
theorem okI_InvalidChain (T : Tx P K mg a d ca) : FnOk P w K mg base CX0 1 (a 15) (d 15) ["self", "value"] (U.spI (ca 8) "value") :=
  T.F_InvalidChain.ok scI_InvalidChain (fun vs H Q E h => U.len_spI h) (fun cdv A outer s H vs Q E hr h => ⟨U.tI K "value" "not a chain", pss_cons (ps_expr (U.pe_binit T.y_ReflowError rfl T.w_ReflowError (pa_cons (U.pu 0) (pa_cons pe_str pa_nil)))) (pss_one (ps_ost (U.pu 0) (U.pu 1))), U.p_init T.x_InvalidChain h⟩)
theorem okI_InvalidStock (T : Tx P K mg a d ca) : FnOk P w K mg base CX0 1 (a 16) (d 16) ["self", "value"] (U.spI (ca 9) "value") :=
  T.F_InvalidStock.ok scI_InvalidStock (fun vs H Q E h => U.len_spI h) (fun cdv A outer s H vs Q E hr h => ⟨U.tI K "value" "not a stock", pss_cons (ps_expr (U.pe_binit T.y_ReflowError rfl T.w_ReflowError (pa_cons (U.pu 0) (pa_cons pe_str pa_nil)))) (pss_one (ps_ost (U.pu 0) (U.pu 1))), U.p_init T.x_InvalidStock h⟩)
theorem okI_InvalidInteger (T : Tx P K mg a d ca) : FnOk P w K mg base CX0 1 (a 17) (d 17) ["self", "value"] (U.spI (ca 10) "value") :=
  T.F_InvalidInteger.ok scI_InvalidInteger (fun vs H Q E h => U.len_spI h) (fun cdv A outer s H vs Q E hr h => ⟨U.tI K "value" "not an integer that is asked for", pss_cons (ps_expr (U.pe_binit T.y_ReflowError rfl T.w_ReflowError (pa_cons (U.pu 0) (pa_cons pe_str pa_nil)))) (pss_one (ps_ost (U.pu 0) (U.pu 1))), U.p_init T.x_InvalidInteger h⟩)
theorem okI_InvalidState (T : Tx P K mg a d ca) : FnOk P w K mg base CX0 1 (a 18) (d 18) ["self", "value"] (U.spI (ca 11) "value") :=
  T.F_InvalidState.ok scI_InvalidState (fun vs H Q E h => U.len_spI h) (fun cdv A outer s H vs Q E hr h => ⟨U.tI K "value" "not a state", pss_cons (ps_expr (U.pe_binit T.y_ReflowError rfl T.w_ReflowError (pa_cons (U.pu 0) (pa_cons pe_str pa_nil)))) (pss_one (ps_ost (U.pu 0) (U.pu 1))), U.p_init T.x_InvalidState h⟩)
theorem okI_InvalidRow (T : Tx P K mg a d ca) : FnOk P w K mg base CX0 1 (a 19) (d 19) ["self", "value"] (U.spI (ca 12) "value") :=
  T.F_InvalidRow.ok scI_InvalidRow (fun vs H Q E h => U.len_spI h) (fun cdv A outer s H vs Q E hr h => ⟨U.tI K "value" "not a row that is asked for", pss_cons (ps_expr (U.pe_binit T.y_ReflowError rfl T.w_ReflowError (pa_cons (U.pu 0) (pa_cons pe_str pa_nil)))) (pss_one (ps_ost (U.pu 0) (U.pu 1))), U.p_init T.x_InvalidRow h⟩)
theorem okI_InvalidChange (T : Tx P K mg a d ca) : FnOk P w K mg base CX0 1 (a 20) (d 20) ["self", "value"] (U.spI (ca 13) "value") :=
  T.F_InvalidChange.ok scI_InvalidChange (fun vs H Q E h => U.len_spI h) (fun cdv A outer s H vs Q E hr h => ⟨U.tI K "value" "not a change", pss_cons (ps_expr (U.pe_binit T.y_ReflowError rfl T.w_ReflowError (pa_cons (U.pu 0) (pa_cons pe_str pa_nil)))) (pss_one (ps_ost (U.pu 0) (U.pu 1))), U.p_init T.x_InvalidChange h⟩)
theorem okI_InvalidName (T : Tx P K mg a d ca) : FnOk P w K mg base CX0 1 (a 21) (d 21) ["self", "value"] (U.spI (ca 14) "value") :=
  T.F_InvalidName.ok scI_InvalidName (fun vs H Q E h => U.len_spI h) (fun cdv A outer s H vs Q E hr h => ⟨U.tI K "value" "not a name", pss_cons (ps_expr (U.pe_binit T.y_ReflowError rfl T.w_ReflowError (pa_cons (U.pu 0) (pa_cons pe_str pa_nil)))) (pss_one (ps_ost (U.pu 0) (U.pu 1))), U.p_init T.x_InvalidName h⟩)
theorem okI_InvalidLine (T : Tx P K mg a d ca) : FnOk P w K mg base CX0 1 (a 22) (d 22) ["self", "value"] (U.spI (ca 15) "value") :=
  T.F_InvalidLine.ok scI_InvalidLine (fun vs H Q E h => U.len_spI h) (fun cdv A outer s H vs Q E hr h => ⟨U.tI K "value" "not a line that can be read", pss_cons (ps_expr (U.pe_binit T.y_ReflowError rfl T.w_ReflowError (pa_cons (U.pu 0) (pa_cons pe_str pa_nil)))) (pss_one (ps_ost (U.pu 0) (U.pu 1))), U.p_init T.x_InvalidLine h⟩)
theorem okI_InvalidLines (T : Tx P K mg a d ca) : FnOk P w K mg base CX0 1 (a 23) (d 23) ["self", "value"] (U.spI (ca 16) "value") :=
  T.F_InvalidLines.ok scI_InvalidLines (fun vs H Q E h => U.len_spI h) (fun cdv A outer s H vs Q E hr h => ⟨U.tI K "value" "not a list of lines", pss_cons (ps_expr (U.pe_binit T.y_ReflowError rfl T.w_ReflowError (pa_cons (U.pu 0) (pa_cons pe_str pa_nil)))) (pss_one (ps_ost (U.pu 0) (U.pu 1))), U.p_init T.x_InvalidLines h⟩)
theorem okI_NotOver (T : Tx P K mg a d ca) : FnOk P w K mg base CX0 1 (a 24) (d 24) ["self", "value"] (U.spI (ca 17) "value") :=
  T.F_NotOver.ok scI_NotOver (fun vs H Q E h => U.len_spI h) (fun cdv A outer s H vs Q E hr h => ⟨U.tI K "value" "not over a stock", pss_cons (ps_expr (U.pe_binit T.y_ReflowError rfl T.w_ReflowError (pa_cons (U.pu 0) (pa_cons pe_str pa_nil)))) (pss_one (ps_ost (U.pu 0) (U.pu 1))), U.p_init T.x_NotOver h⟩)
theorem okI_InvalidPage (T : Tx P K mg a d ca) : FnOk P w K mg base CX0 1 (a 25) (d 25) ["self", "line"] (U.spI (ca 18) "line") :=
  T.F_InvalidPage.ok scI_InvalidPage (fun vs H Q E h => U.len_spI h) (fun cdv A outer s H vs Q E hr h => ⟨U.tI K "line" "not a page", pss_cons (ps_expr (U.pe_binit T.y_ReflowError rfl T.w_ReflowError (pa_cons (U.pu 0) (pa_cons pe_str pa_nil)))) (pss_one (ps_ost (U.pu 0) (U.pu 1))), U.p_init T.x_InvalidPage h⟩)
theorem okI_TooMany (T : Tx P K mg a d ca) : FnOk P w K mg base CX0 1 (a 26) (d 26) ["self", "count"] (U.spI (ca 19) "count") :=
  T.F_TooMany.ok scI_TooMany (fun vs H Q E h => U.len_spI h) (fun cdv A outer s H vs Q E hr h => ⟨U.tI K "count" "more than allowed", pss_cons (ps_expr (U.pe_binit T.y_ReflowError rfl T.w_ReflowError (pa_cons (U.pu 0) (pa_cons pe_str pa_nil)))) (pss_one (ps_ost (U.pu 0) (U.pu 1))), U.p_init T.x_TooMany h⟩)
theorem okI_NoStep (T : Tx P K mg a d ca) : FnOk P w K mg base CX0 1 (a 27) (d 27) ["self", "index"] (U.spI (ca 20) "index") :=
  T.F_NoStep.ok scI_NoStep (fun vs H Q E h => U.len_spI h) (fun cdv A outer s H vs Q E hr h => ⟨U.tIK K "index" "no step at this index", pss_cons (ps_expr (U.pe_binitK T.y_AbsentError rfl T.w_AbsentError (pa_cons (U.pu 0) (pa_cons pe_str pa_nil)))) (pss_one (U.ps_ostK (U.pu 0) (U.pu 1))), U.p_initK T.x_NoStep h⟩)
theorem okI_NoLetter (T : Tx P K mg a d ca) : FnOk P w K mg base CX0 1 (a 28) (d 28) ["self", "value"] (U.spI (ca 21) "value") :=
  T.F_NoLetter.ok scI_NoLetter (fun vs H Q E h => U.len_spI h) (fun cdv A outer s H vs Q E hr h => ⟨U.tIK K "value" "no letter of a machine", pss_cons (ps_expr (U.pe_binitK T.y_AbsentError rfl T.w_AbsentError (pa_cons (U.pu 0) (pa_cons pe_str pa_nil)))) (pss_one (U.ps_ostK (U.pu 0) (U.pu 1))), U.p_initK T.x_NoLetter h⟩)
theorem okI_NoInput (T : Tx P K mg a d ca) : FnOk P w K mg base CX0 1 (a 29) (d 29) ["self", "value"] (U.spI (ca 22) "value") :=
  T.F_NoInput.ok scI_NoInput (fun vs H Q E h => U.len_spI h) (fun cdv A outer s H vs Q E hr h => ⟨U.tIK K "value" "made of no text over a stock", pss_cons (ps_expr (U.pe_binitK T.y_AbsentError rfl T.w_AbsentError (pa_cons (U.pu 0) (pa_cons pe_str pa_nil)))) (pss_one (U.ps_ostK (U.pu 0) (U.pu 1))), U.p_initK T.x_NoInput h⟩)
theorem okI_NoChain (T : Tx P K mg a d ca) : FnOk P w K mg base CX0 1 (a 30) (d 30) ["self", "name"] (U.spI (ca 23) "name") :=
  T.F_NoChain.ok scI_NoChain (fun vs H Q E h => U.len_spI h) (fun cdv A outer s H vs Q E hr h => ⟨U.tIK K "name" "no chain with this name", pss_cons (ps_expr (U.pe_binitK T.y_AbsentError rfl T.w_AbsentError (pa_cons (U.pu 0) (pa_cons pe_str pa_nil)))) (pss_one (U.ps_ostK (U.pu 0) (U.pu 1))), U.p_initK T.x_NoChain h⟩)
theorem okI_NoStock (T : Tx P K mg a d ca) : FnOk P w K mg base CX0 1 (a 31) (d 31) ["self"] (U.spI0 (ca 24)) :=
  T.F_NoStock.ok scI_NoStock (fun vs H Q E h => U.len_spI0 h) (fun cdv A outer s H vs Q E hr h => ⟨U.tI0 K "no stock has this", pss_one (ps_expr (U.pe_binit0 T.y_StateError rfl T.w_StateError (pa_cons (U.pu 0) (pa_cons pe_str pa_nil)))), U.p_init0 T.x0_NoStock h⟩)
theorem okI_NothingToUndo (T : Tx P K mg a d ca) : FnOk P w K mg base CX0 1 (a 32) (d 32) ["self"] (U.spI0 (ca 25)) :=
  T.F_NothingToUndo.ok scI_NothingToUndo (fun vs H Q E h => U.len_spI0 h) (fun cdv A outer s H vs Q E hr h => ⟨U.tI0 K "no edit to take back", pss_one (ps_expr (U.pe_binit0 T.y_StateError rfl T.w_StateError (pa_cons (U.pu 0) (pa_cons pe_str pa_nil)))), U.p_init0 T.x0_NothingToUndo h⟩)
theorem okI_NothingToRedo (T : Tx P K mg a d ca) : FnOk P w K mg base CX0 1 (a 33) (d 33) ["self"] (U.spI0 (ca 26)) :=
  T.F_NothingToRedo.ok scI_NothingToRedo (fun vs H Q E h => U.len_spI0 h) (fun cdv A outer s H vs Q E hr h => ⟨U.tI0 K "no edit to do again", pss_one (ps_expr (U.pe_binit0 T.y_StateError rfl T.w_StateError (pa_cons (U.pu 0) (pa_cons pe_str pa_nil)))), U.p_init0 T.x0_NothingToRedo h⟩)
theorem v__law_cell (T : Tx P K mg a d ca)       {fa : Addr} {cdv : Value} {A : Around} {outer : List Env} {s : Shared} {H : Hp} {E : XK} (hr : Room 0 (A.deeper (envOfC "_law_cell" (defScope s__law_cell) s.heap.objs.size fa cdv))) :
    PSs ((cxOf CX0 P w K mg base N__law_cell "_law_cell" (defScope s__law_cell) fa cdv A outer s H E).nox) (defBody s__law_cell) (t__law_cell K ca) :=
  pss_cons (pus_if (put_cmp ou_lt (pu 1) (pe_callB cu_len (by rfl) T.z_len (by decide +kernel) (pa_cons (pu 0) (pa_nil))) (nomark _)) (pss_one (ps_ret (pe_ix iu_ix (pu 0) (pu 1) (fun _ _ => rfl)))) (pss_nil)) (pss_one (ps_ret (pe_op ou_add (pe_op ou_mul3 (pe_int) (pu 1)) (pe_int))))
theorem v__law_box (T : Tx P K mg a d ca)       {fa : Addr} {cdv : Value} {A : Around} {outer : List Env} {s : Shared} {H : Hp} {E : XK} (hr : Room 0 (A.deeper (envOfC "_law_box" (defScope s__law_box) s.heap.objs.size fa cdv))) :
    PSs ((cxOf CX0 P w K mg base N__law_box "_law_box" (defScope s__law_box) fa cdv A outer s H E).nox) (defBody s__law_box) (t__law_box K ca) :=
  pss_one (ps_ret (pe_lst (pa_cons (pe_callB (cu_max rfl) (by rfl) T.z_max (by decide +kernel) (pa_cons (pe_int) (pa_cons (pe_op ou_sub (pu 0) (pe_op ou_pow (pe_int) (pe_int))) (pa_nil)))) (pa_cons (pe_op ou_mod (pu 0) (pe_int)) (pa_cons (pe_int) (pa_nil))))))
theorem v__law_take (T : Tx P K mg a d ca)       {fa : Addr} {cdv : Value} {A : Around} {outer : List Env} {s : Shared} {H : Hp} {E : XK} (hr : Room 0 (A.deeper (envOfC "_law_take" (defScope s__law_take) s.heap.objs.size fa cdv))) :
    PSs ((cxOf CX0 P w K mg base N__law_take "_law_take" (defScope s__law_take) fa cdv A outer s H E).nox) (defBody s__law_take) (t__law_take K ca) :=
  pss_cons (pus_if (put_cmp ou_gt (pe_ix iu_ix (pu 0) (pe_int) (fun _ _ => rfl)) (pe_int) (nomark _)) (pss_cons (ps_set (i := 2) sc__law_take.nd rfl (Or.inl rfl) (pe_op ou_mod (pe_ix iu_ix (pu 0) (pe_int) (fun _ _ => rfl)) (pu 1))) (pss_cons (ps_asg (pe_op ou_fdiv (pe_ix iu_ix (pu 0) (pe_int) (fun _ _ => rfl)) (pu 1)) (pg_sub (pu 0) (pe_int) setu)) (pss_one (ps_ret (pu 2))))) (pss_nil)) (pss_cons (ps_asg (pe_op ou_add (pe_ix iu_ix (pu 0) (pe_int) (fun _ _ => rfl)) (pe_int)) (pg_sub (pu 0) (pe_int) setu)) (pss_cons (ps_set (i := 3) sc__law_take.nd rfl (Or.inl rfl) (pe_op ou_mod (pe_op ou_pow (pe_op ou_add (pe_op ou_add (pe_ix iu_ix (pu 0) (pe_int) (fun _ _ => rfl)) (pe_op ou_mul3 (pe_int) (pe_ix iu_ix (pu 0) (pe_int) (fun _ _ => rfl)))) (pe_int)) (pe_int)) (pe_int))) (pss_cons (ps_set (i := 3) sc__law_take.nd rfl (Or.inl rfl) (pe_op ou_mod (pe_op ou_pow (pe_op ou_add (pu 3) (pe_op ou_mul3 (pe_int) (pe_ix iu_ix (pu 0) (pe_int) (fun _ _ => rfl)))) (pe_int)) (pe_int))) (pss_one (ps_ret (pe_op ou_mod (pe_op ou_fdiv (pu 3) (pe_int)) (pu 1)))))))
theorem v__law_value (T : Tx P K mg a d ca) (G__law_take : FnOk P w K mg base CX0 1 (a 2) (d 2) P__law_take (sp__law_take K ca))      {fa : Addr} {cdv : Value} {A : Around} {outer : List Env} {s : Shared} {H : Hp} {E : XK} (hr : Room 1 (A.deeper (envOfC "_law_value" (defScope s__law_value) s.heap.objs.size fa cdv))) :
    PSs ((cxOf CX0 P w K mg base N__law_value "_law_value" (defScope s__law_value) fa cdv A outer s H E).nox) (defBody s__law_value) (t__law_value K ca) :=
  pss_cons (ps_set (i := 1) sc__law_value.nd rfl (Or.inl rfl) (pe_lst (pa_cons (pe_non) (pa_cons (pe_bl) (pa_cons (pe_bl) (pa_cons (pe_int) (pa_cons (pe_un ou_neg (pe_int)) (pa_cons (pe_op ou_pow (pe_int) (pe_int)) (pa_cons (pe_str) (pa_cons (pe_str) (pa_cons (pe_str) (pa_cons (pe_lst (pa_nil)) (pa_cons (pe_lst (pa_cons (pe_int) (pa_cons (pe_lst (pa_cons (pe_int) (pa_nil))) (pa_nil)))) (pa_cons (pe_dnewK) (pa_cons (pe_disp (pps_cons (pe_str) (pe_lst (pa_cons (pe_int) (pa_nil))) (pps_nil)) (by rfl) (by rfl) (fun z => by cases z) (by decide)) (pa_cons (pe_tup (pa_nil)) (pa_cons (pe_tup (pa_cons (pe_str) (pa_cons (pe_str) (pa_nil)))) (pa_cons (pe_lst (pa_cons (pe_str) (pa_nil))) (pa_nil))))))))))))))))))) (pss_one (ps_ret (pe_ix iu_ix (pu 1) (pe_call G__law_take (hr.mono (by decide)) rfl T.m__law_take T.f__law_take.kp T.b__law_take .nil pass0 (pa_cons (pu 0) (pa_cons (pe_int) (pa_nil)))) (fun _ _ => rfl))))
theorem v__law_made (T : Tx P K mg a d ca)   (I_InvalidChain : FnOk P w K mg base CX0 1 (a 15) (d 15) ["self", "value"] (U.spI (ca 8) "value")) (I_InvalidChange : FnOk P w K mg base CX0 1 (a 20) (d 20) ["self", "value"] (U.spI (ca 13) "value")) (I_InvalidInteger : FnOk P w K mg base CX0 1 (a 17) (d 17) ["self", "value"] (U.spI (ca 10) "value")) (I_InvalidLine : FnOk P w K mg base CX0 1 (a 22) (d 22) ["self", "value"] (U.spI (ca 15) "value")) (I_InvalidLines : FnOk P w K mg base CX0 1 (a 23) (d 23) ["self", "value"] (U.spI (ca 16) "value")) (I_InvalidMark : FnOk P w K mg base CX0 1 (a 10) (d 10) ["self", "value"] (U.spI (ca 3) "value")) (I_InvalidMarks : FnOk P w K mg base CX0 1 (a 11) (d 11) ["self", "value"] (U.spI (ca 4) "value")) (I_InvalidName : FnOk P w K mg base CX0 1 (a 21) (d 21) ["self", "value"] (U.spI (ca 14) "value")) (I_InvalidPage : FnOk P w K mg base CX0 1 (a 25) (d 25) ["self", "line"] (U.spI (ca 18) "line")) (I_InvalidRow : FnOk P w K mg base CX0 1 (a 19) (d 19) ["self", "value"] (U.spI (ca 12) "value")) (I_InvalidState : FnOk P w K mg base CX0 1 (a 18) (d 18) ["self", "value"] (U.spI (ca 11) "value")) (I_InvalidStep : FnOk P w K mg base CX0 1 (a 14) (d 14) ["self", "value"] (U.spI (ca 7) "value")) (I_InvalidStock : FnOk P w K mg base CX0 1 (a 16) (d 16) ["self", "value"] (U.spI (ca 9) "value")) (I_InvalidText : FnOk P w K mg base CX0 1 (a 13) (d 13) ["self", "value"] (U.spI (ca 6) "value")) (I_InvalidWords : FnOk P w K mg base CX0 1 (a 12) (d 12) ["self", "value"] (U.spI (ca 5) "value")) (I_NoChain : FnOk P w K mg base CX0 1 (a 30) (d 30) ["self", "name"] (U.spI (ca 23) "name")) (I_NoInput : FnOk P w K mg base CX0 1 (a 29) (d 29) ["self", "value"] (U.spI (ca 22) "value")) (I_NoLetter : FnOk P w K mg base CX0 1 (a 28) (d 28) ["self", "value"] (U.spI (ca 21) "value")) (I_NoStep : FnOk P w K mg base CX0 1 (a 27) (d 27) ["self", "index"] (U.spI (ca 20) "index")) (I_NotOver : FnOk P w K mg base CX0 1 (a 24) (d 24) ["self", "value"] (U.spI (ca 17) "value")) (I_TooMany : FnOk P w K mg base CX0 1 (a 26) (d 26) ["self", "count"] (U.spI (ca 19) "count"))    {fa : Addr} {cdv : Value} {A : Around} {outer : List Env} {s : Shared} {H : Hp} {E : XK} (hr : Room 2 (A.deeper (envOfC "_law_made" (defScope s__law_made) s.heap.objs.size fa cdv))) :
    PSs ((cxOf CX0 P w K mg base N__law_made "_law_made" (defScope s__law_made) fa cdv A outer s H E).nox) (defBody s__law_made) (t__law_made K ca) :=
  pss_cons (ps_set (i := 1) sc__law_made.nd rfl (Or.inl rfl) (pe_lst (pa_cons (pe_mkV T.x_InvalidMark I_InvalidMark (hr.mono (by decide)) T.i_InvalidMark pass0 rfl (pa_cons (pu 0) (pa_nil))) (pa_cons (pe_mkV T.x_InvalidMarks I_InvalidMarks (hr.mono (by decide)) T.i_InvalidMarks pass0 rfl (pa_cons (pu 0) (pa_nil))) (pa_cons (pe_mkV T.x_InvalidWords I_InvalidWords (hr.mono (by decide)) T.i_InvalidWords pass0 rfl (pa_cons (pu 0) (pa_nil))) (pa_cons (pe_mkV T.x_InvalidText I_InvalidText (hr.mono (by decide)) T.i_InvalidText pass0 rfl (pa_cons (pu 0) (pa_nil))) (pa_nil))))))) (pss_cons (ps_set (i := 1) sc__law_made.nd rfl (Or.inl rfl) (pe_op ou_add (pu 1) (pe_lst (pa_cons (pe_mkV T.x_InvalidStep I_InvalidStep (hr.mono (by decide)) T.i_InvalidStep pass0 rfl (pa_cons (pu 0) (pa_nil))) (pa_cons (pe_mkV T.x_InvalidChain I_InvalidChain (hr.mono (by decide)) T.i_InvalidChain pass0 rfl (pa_cons (pu 0) (pa_nil))) (pa_cons (pe_mkV T.x_InvalidStock I_InvalidStock (hr.mono (by decide)) T.i_InvalidStock pass0 rfl (pa_cons (pu 0) (pa_nil))) (pa_cons (pe_mkV T.x_InvalidInteger I_InvalidInteger (hr.mono (by decide)) T.i_InvalidInteger pass0 rfl (pa_cons (pu 0) (pa_nil))) (pa_nil)))))))) (pss_cons (ps_set (i := 1) sc__law_made.nd rfl (Or.inl rfl) (pe_op ou_add (pu 1) (pe_lst (pa_cons (pe_mkV T.x_InvalidState I_InvalidState (hr.mono (by decide)) T.i_InvalidState pass0 rfl (pa_cons (pu 0) (pa_nil))) (pa_cons (pe_mkV T.x_InvalidRow I_InvalidRow (hr.mono (by decide)) T.i_InvalidRow pass0 rfl (pa_cons (pu 0) (pa_nil))) (pa_cons (pe_mkV T.x_InvalidChange I_InvalidChange (hr.mono (by decide)) T.i_InvalidChange pass0 rfl (pa_cons (pu 0) (pa_nil))) (pa_cons (pe_mkV T.x_InvalidName I_InvalidName (hr.mono (by decide)) T.i_InvalidName pass0 rfl (pa_cons (pu 0) (pa_nil))) (pa_nil)))))))) (pss_cons (ps_set (i := 1) sc__law_made.nd rfl (Or.inl rfl) (pe_op ou_add (pu 1) (pe_lst (pa_cons (pe_mkV T.x_InvalidLine I_InvalidLine (hr.mono (by decide)) T.i_InvalidLine pass0 rfl (pa_cons (pu 0) (pa_nil))) (pa_cons (pe_mkV T.x_InvalidLines I_InvalidLines (hr.mono (by decide)) T.i_InvalidLines pass0 rfl (pa_cons (pu 0) (pa_nil))) (pa_cons (pe_mkV T.x_NotOver I_NotOver (hr.mono (by decide)) T.i_NotOver pass0 rfl (pa_cons (pu 0) (pa_nil))) (pa_cons (pe_mkV T.x_InvalidPage I_InvalidPage (hr.mono (by decide)) T.i_InvalidPage pass0 rfl (pa_cons (pu 0) (pa_nil))) (pa_nil)))))))) (pss_cons (ps_set (i := 1) sc__law_made.nd rfl (Or.inl rfl) (pe_op ou_add (pu 1) (pe_lst (pa_cons (pe_mkV T.x_TooMany I_TooMany (hr.mono (by decide)) T.i_TooMany pass0 rfl (pa_cons (pu 0) (pa_nil))) (pa_cons (pe_mkVK T.x_NoStep I_NoStep (hr.mono (by decide)) T.i_NoStep pass0 rfl (pa_cons (pu 0) (pa_nil))) (pa_cons (pe_mkVK T.x_NoLetter I_NoLetter (hr.mono (by decide)) T.i_NoLetter pass0 rfl (pa_cons (pu 0) (pa_nil))) (pa_cons (pe_mkVK T.x_NoInput I_NoInput (hr.mono (by decide)) T.i_NoInput pass0 rfl (pa_cons (pu 0) (pa_nil))) (pa_nil)))))))) (pss_cons (ps_set (i := 1) sc__law_made.nd rfl (Or.inl rfl) (pe_op ou_add (pu 1) (pe_lst (pa_cons (pe_mkVK T.x_NoChain I_NoChain (hr.mono (by decide)) T.i_NoChain pass0 rfl (pa_cons (pu 0) (pa_nil))) (pa_nil))))) (pss_one (ps_ret (pu 1))))))))
theorem v__law_field (T : Tx P K mg a d ca)       {fa : Addr} {cdv : Value} {A : Around} {outer : List Env} {s : Shared} {H : Hp} {E : XK} (hr : Room 0 (A.deeper (envOfC "_law_field" (defScope s__law_field) s.heap.objs.size fa cdv))) :
    PSs ((cxOf CX0 P w K mg base N__law_field "_law_field" (defScope s__law_field) fa cdv A outer s H E).nox) (defBody s__law_field) (t__law_field K ca) :=
  pss_cons (pus_if (put_cmp (ou_eq2 hr.units) (pu 1) (pe_int) (nomark _)) (pss_one (ps_ret (pe_xv (pu 0) rfl))) (pss_nil)) (pss_cons (pus_if (put_cmp (ou_eq2 hr.units) (pu 1) (pe_int) (nomark _)) (pss_one (ps_ret (pe_xv (pu 0) rfl))) (pss_nil)) (pss_cons (pus_if (put_cmp (ou_eq2 hr.units) (pu 1) (pe_int) (nomark _)) (pss_one (ps_ret (pe_xv (pu 0) rfl))) (pss_nil)) (pss_one (ps_ret (pue_if (put_cmp (ou_eq2 hr.units) (pu 1) (pe_int) (nomark _)) (pe_xv (pu 0) rfl) (pe_xv (pu 0) rfl))))))
theorem v__law_kinds (T : Tx P K mg a d ca)       {fa : Addr} {cdv : Value} {A : Around} {outer : List Env} {s : Shared} {H : Hp} {E : XK} (hr : Room 0 (A.deeper (envOfC "_law_kinds" (defScope s__law_kinds) s.heap.objs.size fa cdv))) :
    PSs ((cxOf CX0 P w K mg base N__law_kinds "_law_kinds" (defScope s__law_kinds) fa cdv A outer s H E).nox) (defBody s__law_kinds) (t__law_kinds K ca) :=
  pss_cons (ps_set (i := 1) sc__law_kinds.nd rfl (Or.inr rfl) (pe_lst (pa_cons (pe_isE (.own (ca 3)) (pu 0) rfl T.z_isinstance (pe_glob rfl T.mx_InvalidMark rfl)) (pa_cons (pe_isE (.own (ca 4)) (pu 0) rfl T.z_isinstance (pe_glob rfl T.mx_InvalidMarks rfl)) (pa_nil))))) (pss_cons (ps_set (i := 1) sc__law_kinds.nd rfl (Or.inr rfl) (pe_op ou_add (pu 1) (pe_lst (pa_cons (pe_isE (.own (ca 5)) (pu 0) rfl T.z_isinstance (pe_glob rfl T.mx_InvalidWords rfl)) (pa_cons (pe_isE (.own (ca 6)) (pu 0) rfl T.z_isinstance (pe_glob rfl T.mx_InvalidText rfl)) (pa_nil)))))) (pss_cons (ps_set (i := 1) sc__law_kinds.nd rfl (Or.inr rfl) (pe_op ou_add (pu 1) (pe_lst (pa_cons (pe_isE (.own (ca 7)) (pu 0) rfl T.z_isinstance (pe_glob rfl T.mx_InvalidStep rfl)) (pa_cons (pe_isE (.own (ca 8)) (pu 0) rfl T.z_isinstance (pe_glob rfl T.mx_InvalidChain rfl)) (pa_nil)))))) (pss_cons (ps_set (i := 1) sc__law_kinds.nd rfl (Or.inr rfl) (pe_op ou_add (pu 1) (pe_lst (pa_cons (pe_isE (.own (ca 9)) (pu 0) rfl T.z_isinstance (pe_glob rfl T.mx_InvalidStock rfl)) (pa_cons (pe_isE (.own (ca 10)) (pu 0) rfl T.z_isinstance (pe_glob rfl T.mx_InvalidInteger rfl)) (pa_nil)))))) (pss_cons (ps_set (i := 1) sc__law_kinds.nd rfl (Or.inr rfl) (pe_op ou_add (pu 1) (pe_lst (pa_cons (pe_isE (.own (ca 11)) (pu 0) rfl T.z_isinstance (pe_glob rfl T.mx_InvalidState rfl)) (pa_cons (pe_isE (.own (ca 12)) (pu 0) rfl T.z_isinstance (pe_glob rfl T.mx_InvalidRow rfl)) (pa_nil)))))) (pss_cons (ps_set (i := 1) sc__law_kinds.nd rfl (Or.inr rfl) (pe_op ou_add (pu 1) (pe_lst (pa_cons (pe_isE (.own (ca 13)) (pu 0) rfl T.z_isinstance (pe_glob rfl T.mx_InvalidChange rfl)) (pa_cons (pe_isE (.own (ca 14)) (pu 0) rfl T.z_isinstance (pe_glob rfl T.mx_InvalidName rfl)) (pa_nil)))))) (pss_cons (ps_set (i := 1) sc__law_kinds.nd rfl (Or.inr rfl) (pe_op ou_add (pu 1) (pe_lst (pa_cons (pe_isE (.own (ca 15)) (pu 0) rfl T.z_isinstance (pe_glob rfl T.mx_InvalidLine rfl)) (pa_cons (pe_isE (.own (ca 16)) (pu 0) rfl T.z_isinstance (pe_glob rfl T.mx_InvalidLines rfl)) (pa_nil)))))) (pss_cons (ps_set (i := 1) sc__law_kinds.nd rfl (Or.inr rfl) (pe_op ou_add (pu 1) (pe_lst (pa_cons (pe_isE (.own (ca 17)) (pu 0) rfl T.z_isinstance (pe_glob rfl T.mx_NotOver rfl)) (pa_cons (pe_isE (.own (ca 18)) (pu 0) rfl T.z_isinstance (pe_glob rfl T.mx_InvalidPage rfl)) (pa_nil)))))) (pss_cons (ps_set (i := 1) sc__law_kinds.nd rfl (Or.inr rfl) (pe_op ou_add (pu 1) (pe_lst (pa_cons (pe_isE (.own (ca 19)) (pu 0) rfl T.z_isinstance (pe_glob rfl T.mx_TooMany rfl)) (pa_cons (pe_isE (.own (ca 20)) (pu 0) rfl T.z_isinstance (pe_glob rfl T.mx_NoStep rfl)) (pa_nil)))))) (pss_cons (ps_set (i := 1) sc__law_kinds.nd rfl (Or.inr rfl) (pe_op ou_add (pu 1) (pe_lst (pa_cons (pe_isE (.own (ca 21)) (pu 0) rfl T.z_isinstance (pe_glob rfl T.mx_NoLetter rfl)) (pa_cons (pe_isE (.own (ca 22)) (pu 0) rfl T.z_isinstance (pe_glob rfl T.mx_NoInput rfl)) (pa_nil)))))) (pss_cons (ps_set (i := 1) sc__law_kinds.nd rfl (Or.inr rfl) (pe_op ou_add (pu 1) (pe_lst (pa_cons (pe_isE (.own (ca 23)) (pu 0) rfl T.z_isinstance (pe_glob rfl T.mx_NoChain rfl)) (pa_cons (pe_isE (.own (ca 24)) (pu 0) rfl T.z_isinstance (pe_glob rfl T.mx_NoStock rfl)) (pa_nil)))))) (pss_cons (ps_set (i := 1) sc__law_kinds.nd rfl (Or.inr rfl) (pe_op ou_add (pu 1) (pe_lst (pa_cons (pe_isE (.own (ca 25)) (pu 0) rfl T.z_isinstance (pe_glob rfl T.mx_NothingToUndo rfl)) (pa_cons (pe_isE (.own (ca 26)) (pu 0) rfl T.z_isinstance (pe_glob rfl T.mx_NothingToRedo rfl)) (pa_nil)))))) (pss_one (ps_ret (pe_lc (own := [("_law_k", 2)]) (g := gName 2) (tt := uT (tOp (uIx K) (uVar 1) (uVar 2))) (te := uVar 2) rfl sc__law_kinds.nd (pi_range1 rfl T.z_range (pa_cons (pe_callB cu_len (by rfl) T.z_len (by decide +kernel) (pa_cons (pu 1) (pa_nil))) (pa_nil))) (blkOk_by (own := [("_law_k", 2)]) (N := N__law_kinds) (sc := defScope s__law_kinds) (by decide +kernel)) (fun _ _ _ _ _ => pg_name (i := 2) sc__law_kinds.nd rfl (Or.inl rfl)) (fun _ _ _ _ _ => pts_one (put_val (pe_ix iu_ix (pu 1) (pu 2) (fun _ _ => rfl)))) (fun _ _ _ _ _ => pu 2)))))))))))))))
theorem v__law_bases (T : Tx P K mg a d ca)       {fa : Addr} {cdv : Value} {A : Around} {outer : List Env} {s : Shared} {H : Hp} {E : XK} (hr : Room 0 (A.deeper (envOfC "_law_bases" (defScope s__law_bases) s.heap.objs.size fa cdv))) :
    PSs ((cxOf CX0 P w K mg base N__law_bases "_law_bases" (defScope s__law_bases) fa cdv A outer s H E).nox) (defBody s__law_bases) (t__law_bases K ca) :=
  pss_cons (ps_set (i := 1) sc__law_bases.nd rfl (Or.inl rfl) (pe_lst (pa_cons (pe_isE (.own (ca 0)) (pu 0) rfl T.z_isinstance (pe_glob rfl T.mx_ReflowError rfl)) (pa_cons (pe_isE (.own (ca 1)) (pu 0) rfl T.z_isinstance (pe_glob rfl T.mx_AbsentError rfl)) (pa_cons (pe_isE (.own (ca 2)) (pu 0) rfl T.z_isinstance (pe_glob rfl T.mx_StateError rfl)) (pa_nil)))))) (pss_cons (pus_if (put_val (pe_isE (.ty "IndexError") (pu 0) rfl T.z_isinstance (pe_bltn rfl T.z_IndexError rfl rfl (by decide) (by decide)))) (pss_one (ps_ret (pe_lst (pa_nil)))) (pss_nil)) (pss_one (ps_ret (pe_op ou_add (pu 1) (pe_lst (pa_cons (pe_isE (.ty "ValueError") (pu 0) rfl T.z_isinstance (pe_bltn rfl T.z_ValueError rfl rfl (by decide) (by decide))) (pa_cons (pe_isE (.ty "KeyError") (pu 0) rfl T.z_isinstance (pe_bltn rfl T.z_KeyError rfl rfl (by decide) (by decide))) (pa_cons (pe_isE (.ty "LookupError") (pu 0) rfl T.z_isinstance (pe_bltn rfl T.z_LookupError rfl rfl (by decide) (by decide))) (pa_nil)))))))))
theorem v__law_due (T : Tx P K mg a d ca)       {fa : Addr} {cdv : Value} {A : Around} {outer : List Env} {s : Shared} {H : Hp} {E : XK} (hr : Room 0 (A.deeper (envOfC "_law_due" (defScope s__law_due) s.heap.objs.size fa cdv))) :
    PSs ((cxOf CX0 P w K mg base N__law_due "_law_due" (defScope s__law_due) fa cdv A outer s H E).nox) (defBody s__law_due) (t__law_due K ca) :=
  pss_cons (pus_if (put_cmp ou_lt (pu 0) (pe_int) (nomark _)) (pss_one (ps_ret (pe_lst (pa_cons (pe_bl) (pa_cons (pe_bl) (pa_cons (pe_bl) (pa_cons (pe_bl) (pa_cons (pe_bl) (pa_cons (pe_bl) (pa_nil)))))))))) (pss_nil)) (pss_cons (pus_if (put_cmp ou_lt (pu 0) (pe_int) (nomark _)) (pss_one (ps_ret (pe_lst (pa_cons (pe_bl) (pa_cons (pe_bl) (pa_cons (pe_bl) (pa_cons (pe_bl) (pa_cons (pe_bl) (pa_cons (pe_bl) (pa_nil)))))))))) (pss_nil)) (pss_one (ps_ret (pe_lst (pa_cons (pe_bl) (pa_cons (pe_bl) (pa_cons (pe_bl) (pa_cons (pe_bl) (pa_cons (pe_bl) (pa_cons (pe_bl) (pa_nil)))))))))))
theorem v_law (T : Tx P K mg a d ca) (G__law_cell : FnOk P w K mg base CX0 1 (a 0) (d 0) P__law_cell (sp__law_cell K ca)) (G__law_box : FnOk P w K mg base CX0 1 (a 1) (d 1) P__law_box (sp__law_box K ca)) (G__law_value : FnOk P w K mg base CX0 2 (a 3) (d 3) P__law_value (sp__law_value K ca)) (G__law_made : FnOk P w K mg base CX0 3 (a 4) (d 4) P__law_made (sp__law_made K ca)) (G__law_field : FnOk P w K mg base CX0 1 (a 5) (d 5) P__law_field (sp__law_field K ca)) (G__law_kinds : FnOk P w K mg base CX0 1 (a 6) (d 6) P__law_kinds (sp__law_kinds K ca)) (G__law_bases : FnOk P w K mg base CX0 1 (a 7) (d 7) P__law_bases (sp__law_bases K ca)) (G__law_due : FnOk P w K mg base CX0 1 (a 8) (d 8) P__law_due (sp__law_due K ca))   (I_NoStock : FnOk P w K mg base CX0 1 (a 31) (d 31) ["self"] (U.spI0 (ca 24))) (I_NothingToRedo : FnOk P w K mg base CX0 1 (a 33) (d 33) ["self"] (U.spI0 (ca 26))) (I_NothingToUndo : FnOk P w K mg base CX0 1 (a 32) (d 32) ["self"] (U.spI0 (ca 25)))   {fa : Addr} {cdv : Value} {A : Around} {outer : List Env} {s : Shared} {H : Hp} {E : XK} (hgd : (A.deeper (envOfC "law" (defScope s_law) s.heap.objs.size fa cdv)).guards = some []) (hr : Room 3 (A.deeper (envOfC "law" (defScope s_law) s.heap.objs.size fa cdv))) :
    PSs ((cxOf CX0 P w K mg base N_law "law" (defScope s_law) fa cdv A outer s H E).nox) (defBody s_law) (t_law K ca) :=
  pss_cons (ps_for PassesOwn.never rfl (pi_range1 rfl T.z_range (pa_cons (pe_callB (cu_max rfl) (by rfl) T.z_max (by decide +kernel) (pa_cons (pe_int) (pa_cons (pe_callB (cu_min rfl) (by rfl) T.z_min (by decide +kernel) (pa_cons (pe_int) (pa_cons (pe_callB cu_len (by rfl) T.z_len (by decide +kernel) (pa_cons (pu 0) (pa_nil))) (pa_nil)))) (pa_nil)))) (pa_nil))) (pg_name (i := 1) sc_law.nd rfl (Or.inl rfl)) (pss_cons (ps_set (i := 2) sc_law.nd rfl (Or.inl rfl) (pe_call G__law_box (hr.mono (by decide)) rfl T.m__law_box T.f__law_box.kp T.b__law_box .nil pass0 (pa_cons (pe_call G__law_cell (hr.mono (by decide)) rfl T.m__law_cell T.f__law_cell.kp T.b__law_cell .nil pass0 (pa_cons (pu 0) (pa_cons (pu 1) (pa_nil)))) (pa_nil)))) (pss_cons (ps_set (i := 3) sc_law.nd rfl (Or.inr rfl) (pe_call G__law_value (hr.mono (by decide)) rfl T.m__law_value T.f__law_value.kp T.b__law_value .nil pass0 (pa_cons (pu 2) (pa_nil)))) (pss_cons (ps_set (i := 4) sc_law.nd rfl (Or.inl rfl) (pe_call G__law_made (hr.mono (by decide)) rfl T.m__law_made T.f__law_made.kp T.b__law_made .nil pass0 (pa_cons (pu 3) (pa_nil)))) (pss_cons (ps_for PassesOwn.never rfl (pi_enumU rfl T.z_enumerate (pa_cons (pu 4) (pa_nil))) (pg_ts rfl (pgs_cons (pg_name (i := 5) sc_law.nd rfl (Or.inl rfl)) (pgs_cons (pg_name (i := 6) sc_law.nd rfl (Or.inl rfl)) (pgs_nil)))) (pss_one (pus_if (PW.pt (puw_or (put_cmp (ou_ne2 hr.units) (pe_call G__law_kinds (hr.mono (by decide)) rfl T.m__law_kinds T.f__law_kinds.kp T.b__law_kinds .nil pass0 (pa_cons (pu 6) (pa_nil))) (pe_lst (pa_cons (pu 5) (pa_nil))) (nomark _)) (pw_or1 (put_cmp (ou_ne2 hr.units) (pe_call G__law_bases (hr.mono (by decide)) rfl T.m__law_bases T.f__law_bases.kp T.b__law_bases .nil pass0 (pa_cons (pu 6) (pa_nil))) (pe_call G__law_due (hr.mono (by decide)) rfl T.m__law_due T.f__law_due.kp T.b__law_due .nil pass0 (pa_cons (pu 5) (pa_nil))) (nomark _))))) (pss_one (ps_ret (pe_bl))) (pss_nil)))) (pss_cons (pus_if (put_val (pue_isi .lst (pu 3) rfl T.z_isinstance rfl T.z_list (by decide +kernel))) (pss_one (ps_expr (pe_bm PySem.F.plainAttrs_list PySem.F.slot_list_append PySem.F.type_list_append mu_append (pu 3) (pa_cons (pe_str) (pa_nil))))) (pss_nil)) (pss_cons (pus_if (put_val (pue_isi .dct (pu 3) rfl T.z_isinstance rfl T.z_dict (by decide +kernel))) (pss_one (ps_dputU hr.units (pu 3) (pe_str) (pe_int) rfl)) (pss_nil)) (pss_one (pus_if (put_cmp (ou_ne3 hr.units) (pe_lc (own := [("_law_at", 5), ("_law_error", 6)]) (g := gTs K 2 (gCons (gName 5) (gCons (gName 6) (gNil)))) (tt := uT (tOp (uNe2 K) (tCB (uRepr3 K) (tCons (tCall (sp__law_field K ca) [] E0 (tCons (uVar 6) (tCons (uVar 5) (tNil)))) (tNil))) (tCB (uRepr3 K) (tCons (uVar 3) (tNil))))) (te := uVar 5) rfl sc_law.nd (pi_enumU rfl T.z_enumerate (pa_cons (pu 4) (pa_nil))) (blkOk_by (own := [("_law_at", 5), ("_law_error", 6)]) (N := N_law) (sc := defScope s_law) (by decide +kernel)) (fun _ _ _ _ _ => pg_ts rfl (pgs_cons (pg_name (i := 5) sc_law.nd rfl (Or.inl rfl)) (pgs_cons (pg_name (i := 6) sc_law.nd rfl (Or.inl rfl)) (pgs_nil)))) (fun _ _ _ _ _ => pts_one (put_cmp (ou_ne2 hr.units) (pe_callB (cu_repr3 hgd hr.units) (by rfl) T.z_repr (by decide +kernel) (pa_cons (pe_call G__law_field (hr.mono (by decide)) rfl T.m__law_field T.f__law_field.kp T.b__law_field .nil pass0 (pa_cons (pu 6) (pa_cons (pu 5) (pa_nil)))) (pa_nil))) (pe_callB (cu_repr3 hgd hr.units) (by rfl) T.z_repr (by decide +kernel) (pa_cons (pu 3) (pa_nil))) (nomark _))) (fun _ _ _ _ _ => pu 5)) (pe_lst (pa_nil)) (nomark _)) (pss_one (ps_ret (pe_bl))) (pss_nil)))))))))) (pss_cons (ps_for PassesOwn.never rfl (piu (pe_lst (pa_cons (pe_tup (pa_cons (pe_int) (pa_cons (pe_mkV0 T.x0_NoStock I_NoStock (hr.mono (by decide)) T.i_NoStock pass0 rfl) (pa_nil)))) (pa_cons (pe_tup (pa_cons (pe_int) (pa_cons (pe_mkV0 T.x0_NothingToUndo I_NothingToUndo (hr.mono (by decide)) T.i_NothingToUndo pass0 rfl) (pa_nil)))) (pa_cons (pe_tup (pa_cons (pe_int) (pa_cons (pe_mkV0 T.x0_NothingToRedo I_NothingToRedo (hr.mono (by decide)) T.i_NothingToRedo pass0 rfl) (pa_nil)))) (pa_nil)))))) (pg_ts rfl (pgs_cons (pg_name (i := 5) sc_law.nd rfl (Or.inl rfl)) (pgs_cons (pg_name (i := 6) sc_law.nd rfl (Or.inl rfl)) (pgs_nil)))) (pss_one (pus_if (PW.pt (puw_or (put_cmp (ou_ne2 hr.units) (pe_call G__law_kinds (hr.mono (by decide)) rfl T.m__law_kinds T.f__law_kinds.kp T.b__law_kinds .nil pass0 (pa_cons (pu 6) (pa_nil))) (pe_lst (pa_cons (pu 5) (pa_nil))) (nomark _)) (pw_or1 (put_cmp (ou_ne2 hr.units) (pe_call G__law_bases (hr.mono (by decide)) rfl T.m__law_bases T.f__law_bases.kp T.b__law_bases .nil pass0 (pa_cons (pu 6) (pa_nil))) (pe_call G__law_due (hr.mono (by decide)) rfl T.m__law_due T.f__law_due.kp T.b__law_due .nil pass0 (pa_cons (pu 5) (pa_nil))) (nomark _))))) (pss_one (ps_ret (pe_bl))) (pss_nil)))) (pss_cons (ps_for PassesOwn.never rfl (pi_enumU rfl T.z_enumerate (pa_cons (pe_lst (pa_cons (pe_mkB F.excBase_ValueError T.bq_ReflowError T.bm_ReflowError T.bk_ReflowError rfl (pe_str)) (pa_cons (pe_mkBK T.bk_AbsentError rfl (pe_str)) (pa_cons (pe_mkB F.excBase_LookupError T.bq_StateError T.bm_StateError T.bk_StateError rfl (pe_str)) (pa_nil))))) (pa_nil))) (pg_ts rfl (pgs_cons (pg_name (i := 5) sc_law.nd rfl (Or.inl rfl)) (pgs_cons (pg_name (i := 6) sc_law.nd rfl (Or.inl rfl)) (pgs_nil)))) (pss_one (pus_if (PW.pt (puw_or (put_cmp (ou_ne3 hr.units) (pe_call G__law_kinds (hr.mono (by decide)) rfl T.m__law_kinds T.f__law_kinds.kp T.b__law_kinds .nil pass0 (pa_cons (pu 6) (pa_nil))) (pe_lst (pa_nil)) (nomark _)) (pw_or1 (put_cmp (ou_ne2 hr.units) (pe_call G__law_bases (hr.mono (by decide)) rfl T.m__law_bases T.f__law_bases.kp T.b__law_bases .nil pass0 (pa_cons (pu 6) (pa_nil))) (pe_call G__law_due (hr.mono (by decide)) rfl T.m__law_due T.f__law_due.kp T.b__law_due .nil pass0 (pa_cons (pe_ix iu_ix (pe_lst (pa_cons (pe_int) (pa_cons (pe_int) (pa_cons (pe_int) (pa_nil))))) (pu 5) (fun _ _ => rfl)) (pa_nil))) (nomark _))))) (pss_one (ps_ret (pe_bl))) (pss_nil)))) (pss_one (ps_ret (pe_bl)))))
end
section
variable {P : Program} {w : World} {K : PySem.W.Frag} {mg : Str → Option Value} {base : Heap} {a : Nat → Addr} {d : Nat → FuncData} {ca : Nat → Addr}
theorem ok__law_cell (T : Tx P K mg a d ca) : FnOk P w K mg base CX0 1 (a 0) (d 0) P__law_cell (sp__law_cell K ca) :=
  T.f__law_cell.ok sc__law_cell (fun vs H Q E h => len__law_cell h) (fun cdv A outer s H vs Q E hr h => ⟨t__law_cell K ca, v__law_cell T  hr, p__law_cell T.ct h⟩)
theorem ok__law_box (T : Tx P K mg a d ca) : FnOk P w K mg base CX0 1 (a 1) (d 1) P__law_box (sp__law_box K ca) :=
  T.f__law_box.ok sc__law_box (fun vs H Q E h => len__law_box h) (fun cdv A outer s H vs Q E hr h => ⟨t__law_box K ca, v__law_box T  hr, p__law_box T.ct h⟩)
theorem ok__law_take (T : Tx P K mg a d ca) : FnOk P w K mg base CX0 1 (a 2) (d 2) P__law_take (sp__law_take K ca) :=
  T.f__law_take.ok sc__law_take (fun vs H Q E h => len__law_take h) (fun cdv A outer s H vs Q E hr h => ⟨t__law_take K ca, v__law_take T  hr, p__law_take T.ct h⟩)
theorem ok__law_field (T : Tx P K mg a d ca) : FnOk P w K mg base CX0 1 (a 5) (d 5) P__law_field (sp__law_field K ca) :=
  T.f__law_field.ok sc__law_field (fun vs H Q E h => len__law_field h) (fun cdv A outer s H vs Q E hr h => ⟨t__law_field K ca, v__law_field T  hr, p__law_field T.ct h⟩)
theorem ok__law_kinds (T : Tx P K mg a d ca) : FnOk P w K mg base CX0 1 (a 6) (d 6) P__law_kinds (sp__law_kinds K ca) :=
  T.f__law_kinds.ok sc__law_kinds (fun vs H Q E h => len__law_kinds h) (fun cdv A outer s H vs Q E hr h => ⟨t__law_kinds K ca, v__law_kinds T  hr, p__law_kinds T.ct h⟩)
theorem ok__law_bases (T : Tx P K mg a d ca) : FnOk P w K mg base CX0 1 (a 7) (d 7) P__law_bases (sp__law_bases K ca) :=
  T.f__law_bases.ok sc__law_bases (fun vs H Q E h => len__law_bases h) (fun cdv A outer s H vs Q E hr h => ⟨t__law_bases K ca, v__law_bases T  hr, p__law_bases T.ct h⟩)
theorem ok__law_due (T : Tx P K mg a d ca) : FnOk P w K mg base CX0 1 (a 8) (d 8) P__law_due (sp__law_due K ca) :=
  T.f__law_due.ok sc__law_due (fun vs H Q E h => len__law_due h) (fun cdv A outer s H vs Q E hr h => ⟨t__law_due K ca, v__law_due T  hr, p__law_due T.ct h⟩)
theorem ok__law_value (T : Tx P K mg a d ca) : FnOk P w K mg base CX0 2 (a 3) (d 3) P__law_value (sp__law_value K ca) :=
  T.f__law_value.ok sc__law_value (fun vs H Q E h => len__law_value h) (fun cdv A outer s H vs Q E hr h => ⟨t__law_value K ca, v__law_value T (ok__law_take T) hr, p__law_value T.ct h⟩)
theorem ok__law_made (T : Tx P K mg a d ca) : FnOk P w K mg base CX0 3 (a 4) (d 4) P__law_made (sp__law_made K ca) :=
  T.f__law_made.ok sc__law_made (fun vs H Q E h => len__law_made h) (fun cdv A outer s H vs Q E hr h => ⟨t__law_made K ca, v__law_made T (okI_InvalidChain T) (okI_InvalidChange T) (okI_InvalidInteger T) (okI_InvalidLine T) (okI_InvalidLines T) (okI_InvalidMark T) (okI_InvalidMarks T) (okI_InvalidName T) (okI_InvalidPage T) (okI_InvalidRow T) (okI_InvalidState T) (okI_InvalidStep T) (okI_InvalidStock T) (okI_InvalidText T) (okI_InvalidWords T) (okI_NoChain T) (okI_NoInput T) (okI_NoLetter T) (okI_NoStep T) (okI_NotOver T) (okI_TooMany T) hr, p__law_made T.ct h⟩)
theorem ok_law (T : Tx P K mg a d ca) : U.FnG P w K mg base CX0 4 (a 9) (d 9) P_law (sp_law K ca) :=
  U.okG T.f_law sc_law (fun vs H Q E h => len_law h) (fun cdv A outer s H vs Q E hg hr h => ⟨t_law K ca, v_law T (ok__law_cell T) (ok__law_box T) (ok__law_value T) (ok__law_made T) (ok__law_field T) (ok__law_kinds T) (ok__law_bases T) (ok__law_due T) (okI_NoStock T) (okI_NothingToRedo T) (okI_NothingToUndo T) hg hr, p_law T.ct h⟩)
end
local macro_rules | `(tactic| walk_at "ev") => `(tactic| simp -implicitDefEqProofs only [Fx.v_slT, Fx.v_slT0, Fx.v_slT1, Fx.v_slT2, Fx.d_slT, Fx.d_slTl, Fx.d_addTi, Fx.d_addTs, Fx.d_addTl, Fx.v_dnewC, Fx.v_zipC, Fx.v_callT, Fx.v_propT, Fx.v_sup, Fx.v_asgNS, Fx.v_appX, Fx.d_strX_str, Fx.d_sum, Fx.v_isiX, Fx.v_binO, Fx.v_binO1, Fx.v_inO, Fx.v_inO1, Fx.v_inO3, Fx.v_eqO, Fx.v_eqO1, Fx.v_eqO3, Fx.v_augD, Fx.v_augD0, Fx.v_augD1, Fx.v_augD2, Fx.v_idxL, Fx.v_idxL1, Fx.v_idxL2, Fx.v_raise0, Fx.v_fld, Fx.v_setF, Fx.v_meth, Fx.v_methA, Fx.v_sp1, Fx.v_mk, Fx.v_mkK, Fx.v_mkK1, Fx.v_cmeth, Fx.v_runI1, Fx.v_runIx, Fx.v_fmt, Fx.v_js0, Fx.v_js, Fx.v_lrg, Fx.v_lrg1, Fx.v_callK, Fx.v_callK1, Fx.bE_ok, Fx.bE_xc, Fx.bS_nx, Fx.bS_rt, Fx.bS_bk, Fx.bS_ct, Fx.bS_xc, Fx.eS_ok, Fx.eS_xc, Fx.v_seq, Fx.v_next, Fx.v_break, Fx.v_cont, Fx.v_c, Fx.v_var, Fx.kVar_val, Fx.kVar_own, Fx.kVar_oob, Fx.v_op, Fx.v_op1, Fx.v_op2, Fx.v_un, Fx.v_un1, Fx.v_not, Fx.v_not1, Fx.v_and, Fx.v_andT, Fx.v_andF, Fx.v_or, Fx.v_orT, Fx.v_orF, Fx.v_if, Fx.v_ifT, Fx.v_ifF, Fx.v_chain, Fx.v_ch, Fx.v_ch0, Fx.v_ch1T, Fx.v_ch1F, Fx.v_ch2, Fx.v_isi, Fx.v_isiT, Fx.v_isi1, Fx.v_isi2, Fx.ty_non, Fx.ty_bl, Fx.ty_int, Fx.ty_str, Fx.ty_lst, Fx.ty_tup, Fx.ty_dct, Fx.v_cb, Fx.bA_ok, Fx.bA_xc, Fx.v_nil, Fx.v_cons, Fx.v_cons1, Fx.v_cons1x, Fx.v_cons2, Fx.v_cons2x, Fx.nop_tr, Fx.nop_fs, Fx.nop_pk, Fx.v_lst, Fx.v_tup, Fx.v_dnew, Fx.v_call, Fx.v_call1, Fx.v_m1, Fx.v_m1a, Fx.v_m1b, Fx.v_part, Fx.v_part1, Fx.v_nopart, Fx.v_sl, Fx.v_sl0, Fx.v_sl1, Fx.v_sl2, Fx.bO_ok, Fx.v_rev, Fx.v_expr, Fx.v_expr1, Fx.v_ifs, Fx.v_ifsT, Fx.v_ifsF, Fx.v_ret, Fx.v_retT, Fx.v_retS, Fx.v_retN, Fx.v_retV, Fx.v_retV1, Fx.v_retV2, Fx.v_asg, Fx.v_asgT, Fx.v_asgS, Fx.v_asg2, Fx.v_gn, Fx.v_gsNil, Fx.v_gsCons, Fx.v_gs, Fx.v_par, Fx.v_par1, Fx.v_aug, Fx.v_aug1, Fx.v_aug2, Fx.v_own, Fx.v_own1, Fx.v_frz, Fx.v_frz0, Fx.v_frz1, Fx.v_frz2, Fx.v_frz3, Fx.v_app, Fx.v_ado, Fx.v_ado1, Fx.v_xf, Fx.v_set, Fx.v_for, Fx.v_for1, Fx.v_forx, Fx.v_iter, Fx.v_iter1, Fx.v_iter1s, Fx.v_iter2, Fx.it_str, Fx.it_lst, Fx.it_tup, Fx.v_rng1, Fx.v_enum, Fx.v_enumL, Fx.v_enumT, Fx.v_raise, Fx.v_raise1, Fx.v_try, Fx.v_tryN, Fx.v_tryX, Fx.v_run1, Fx.v_run2, Fx.v_run3, Fx.v_r0, Fx.v_r1, Fx.v_r2, Fx.v_r3, Fx.v_r4, Fx.v_r5, Fx.v_nx, Fx.v_nx1, Fx.d_eq_str, Fx.d_eq_int, Fx.d_add_int, Fx.d_sub, Fx.d_cmp, Fx.d_len_lst, Fx.d_len_tup, Fx.d_len_fro, Fx.d_nil, Fx.d_max, Fx.d_min, Fx.d_sl_lst, Fx.d_list, Fx.d_listT, Fx.d_tuple, Fx.d_isN, Fx.d_isB, List.map_cons, List.map_nil, List.length_cons, List.length_nil, List.replicate, List.cons_append, List.nil_append, List.append_nil, List.getElem?_cons_zero, List.getElem?_cons_succ, List.set, Nat.reduceAdd, Nat.reduceSub, Nat.zero_add, if_true, if_false, reduceIte, Bool.not_true, Bool.not_false, Bool.and_true, Bool.true_and, Bool.and_self, Bool.false_xor, Bool.true_xor, Bool.false_eq_true, isT, Fx.tyd_non, Fx.tyd_bl, Fx.tyd_int, Fx.tyd_str, Fx.tyd_lst, Fx.tyd_tup, Fx.tyd_dct, reduceCtorEq, decide_true, decide_false, Bool.or_false, Bool.or_true, Bool.false_or, Bool.true_or, Bool.and_false, Bool.false_and, List.any_cons, List.any_nil])
theorem pick0 {α : Type} (c : α) (r : List α) : atI (c :: r) 0 = some c := by
  unfold atI ixN
  rw [if_pos (by decide), if_pos (by show (0 : Int) < ((c :: r).length : Int); rw [List.length_cons]; omega)]
  rfl
theorem pick_at {α : Type} {r : List α} {i : Nat} {x : α} (h : r[i]? = some x) : atI r (i : Nat) = some x := by
  have hi := (List.getElem?_eq_some_iff.mp h).1
  unfold atI ixN
  rw [if_pos (by omega), if_pos (by omega)]
  exact h
theorem rng_len (lo : Int) (n : Nat) : (rngD lo n).length = n := by unfold rngD; rw [List.length_map, List.length_range]
theorem rng_at {lo : Int} {n i : Nat} (h : i < n) : (rngD lo n)[i]? = some (.int (lo + (i : Nat))) := by
  unfold rngD; rw [List.getElem?_map, List.getElem?_range h]; rfl
def Box (S : Sto) (k n : Nat) : Prop := ∃ x y z : Int, S[k]? = some (.lst [.int x, .int y, .int z]) ∧ 0 ≤ x ∧ 0 ≤ y ∧ y < 2147483629 ∧ 0 ≤ z ∧ z ≤ n
/-- but for the cell k the store has grown -/
def Fk (k : Nat) (S S' : Sto) : Prop := S.length ≤ S'.length ∧ ∀ j c, j ≠ k → S[j]? = some c → S'[j]? = some c
theorem Fk.trans {k : Nat} {S S1 S2 : Sto} (a : Fk k S S1) (b : Fk k S1 S2) : Fk k S S2 := ⟨Nat.le_trans a.1 b.1, fun j c n h => b.2 j c n (a.2 j c n h)⟩
theorem Fk.set (k : Nat) (S : Sto) (c : Ce) : Fk k S (S.set k c) := ⟨by rw [List.length_set]; exact Nat.le_refl _, fun j e n h => by rw [List.getElem?_set_ne (Ne.symm n)]; exact h⟩
theorem Box.lt {S : Sto} {k n : Nat} (h : Box S k n) : k < S.length := by
  obtain ⟨x, y, z, e, _⟩ := h
  exact (List.getElem?_eq_some_iff.mp e).1
theorem f_cell {ns : List Int} {k : Int} {S : Sto} (h0 : 0 ≤ k) (h1 : k ≤ 1000) : ∃ n, F__law_cell [.fro true (intsD ns), .int k] S = .ok (.int n) .tr S := by
  unfold F__law_cell b__law_cell
  walk_at "ev"
  by_cases hk : k < (intsD ns).length
  · rw [decide_eq_true hk]
    walk_at "ev"
    obtain ⟨v, e, hm⟩ := pick h0 hk
    unfold intsD at hm
    obtain ⟨n, _, rfl⟩ := List.mem_map.mp hm
    rw [d_ix_fro e]
    walk_at "ev"
    exact ⟨n, rfl⟩
  · rw [decide_eq_false hk]
    walk_at "ev"
    rw [d_mul (.inl ⟨by decide, by decide⟩)]
    walk_at "ev"
    exact ⟨_, rfl⟩
theorem f_purse {c : Int} {S : Sto} : ∃ ds, F__law_box [.int c] S = .ok (.lst ds) .fs S ∧ ∃ x y : Int, ds = [.int x, .int y, .int 0] ∧ 0 ≤ x ∧ 0 ≤ y ∧ y < 2147483629 := by
  unfold F__law_box b__law_box
  walk_at "ev"
  rw [d_pow ⟨by decide, by decide, by decide⟩]
  walk_at "ev"
  rw [d_mod (by decide)]
  walk_at "ev"
  rw [d_lst (by show 3 ≤ lim; decide)]
  walk_at "ev"
  refine ⟨_, rfl, _, _, rfl, ?_, Int.emod_nonneg _ (by decide), Int.emod_lt_of_pos _ (by decide)⟩
  split <;> omega
theorem f_take {S : Sto} {k n : Nat} {m : Int} (hb : Box S k n) (hn : n ≤ 1000000) (hm : 0 < m) (hm2 : m ≤ 100000000) : ∃ r S', F__law_take [.cel k, .int m] S = .ok (.int r) .tr S' ∧ 0 ≤ r ∧ r < m ∧ Box S' k (n + 1) ∧ Fk k S S' := by
  obtain ⟨x, y, z, hs, h1, h2, h3, h4, h5⟩ := hb
  have hk : k < S.length := (List.getElem?_eq_some_iff.mp hs).1
  unfold F__law_take b__law_take
  walk_at "ev"
  rw [d_ix_cel hs (pick0 _ _)]
  walk_at "ev"
  by_cases hx : 0 < x
  · rw [decide_eq_true hx]
    walk_at "ev"
    rw [d_ix_cel hs (pick0 _ _)]
    walk_at "ev"
    rw [d_mod hm]
    walk_at "ev"
    rw [d_ix_cel hs (pick0 _ _)]
    walk_at "ev"
    rw [d_fdiv ⟨hm, by omega⟩]
    walk_at "ev"
    rw [v_setC rfl rfl hs]
    walk_at "ev"
    rw [v_setC2 (j := 0) rfl hs rfl]
    walk_at "ev"
    refine ⟨_, _, rfl, Int.emod_nonneg _ (by omega), Int.emod_lt_of_pos _ hm, ⟨x / m, y, z, by rw [List.getElem?_set_self hk], Int.ediv_nonneg h1 (by omega), h2, h3, h4, by omega⟩, Fk.set _ _ _⟩
  · rw [decide_eq_false hx]
    walk_at "ev"
    rw [d_ix_cel hs (show atI [D.int x, .int y, .int z] 2 = some (.int z) from rfl)]
    walk_at "ev"
    rw [v_setC rfl rfl hs]
    walk_at "ev"
    rw [v_setC2 (j := 2) rfl hs rfl]
    walk_at "ev"
    have hs' : (S.set k (.lst [.int x, .int y, .int (z + 1)]))[k]? = some (.lst [.int x, .int y, .int (z + 1)]) := by rw [List.getElem?_set_self hk]
    rw [d_ix_cel hs' (show atI [D.int x, .int y, .int (z + 1)] 1 = some (.int y) from rfl)]
    walk_at "ev"
    rw [d_ix_cel hs' (show atI [D.int x, .int y, .int (z + 1)] 2 = some (.int (z + 1)) from rfl)]
    walk_at "ev"
    rw [d_mul (.inl ⟨by decide, by decide⟩)]
    walk_at "ev"
    rw [d_pow ⟨by decide, by decide, by omega⟩]
    walk_at "ev"
    rw [d_mod (by decide)]
    walk_at "ev"
    rw [d_ix_cel hs' (show atI [D.int x, .int y, .int (z + 1)] 2 = some (.int (z + 1)) from rfl)]
    walk_at "ev"
    rw [d_mul (.inl ⟨by decide, by decide⟩)]
    walk_at "ev"
    have b1 := Int.emod_nonneg ((y + 7919 * (z + 1) + 43) ^ (5 : Int).toNat) (show (2147483647 : Int) ≠ 0 by decide)
    have b2 := Int.emod_lt_of_pos ((y + 7919 * (z + 1) + 43) ^ (5 : Int).toNat) (show (0 : Int) < 2147483647 by decide)
    rw [d_pow ⟨by decide, by decide, by omega⟩]
    walk_at "ev"
    rw [d_mod (by decide)]
    walk_at "ev"
    rw [d_fdiv ⟨by decide, by decide⟩]
    walk_at "ev"
    rw [d_mod hm]
    walk_at "ev"
    exact ⟨_, _, rfl, Int.emod_nonneg _ (by omega), Int.emod_lt_of_pos _ hm, ⟨x, y, z + 1, hs', h1, h2, h3, by omega, by omega⟩, Fk.set _ _ _⟩
theorem d_eq_pure {neg b : Bool} {S : Sto} {d e : D} {p q : PyData} (hd : Py S d p) (he : Py S e q) (pd : pureD p = true) (pe : pureD q = true) (sd : SeqAt.shaped p = true) (se : SeqAt.shaped q = true) (hb : b = true ↔ p = q) : dEqv neg d e S = .ok (.bl (neg ^^ b)) .tr S := by
  unfold dEqv
  rw [show toP S d = some p from hd, show toP S e = some q from he]
  dsimp only
  rw [if_pos (by rw [sd, se, pure_nodict p pd, pure_nodict q pe]; simp)]
  congr 3
  rw [Bool.eq_iff_iff, eqv_iff p q pd pe, hb]
theorem py_ints (S : Sto) : ∀ zs : List Int, PyAll S (zs.map D.int) (zs.map PyData.int)
  | [] => .nil
  | z :: zs => .cons (py_int S z) (py_ints S zs)
theorem map_inj {α β : Type} {f : α → β} (hf : ∀ a b, f a = f b → a = b) : ∀ {l m : List α}, l.map f = m.map f → l = m
  | [], [], _ => rfl
  | [], _ :: _, h => by cases h
  | _ :: _, [], h => by cases h
  | a :: l, b :: m, h => by
    rw [List.map_cons, List.map_cons] at h
    injection h with h1 h2
    rw [hf a b h1, map_inj hf h2]
theorem pure_ints (a : List Int) : pureD (.list (a.map PyData.int)) = true := by
  simp only [pureD]
  exact pureAll_of fun d hd => by obtain ⟨i, _, rfl⟩ := List.mem_map.mp hd; simp only [pureD]
theorem shaped_ints (a : List Int) : SeqAt.shaped (.list (a.map PyData.int)) = true := shaped_of (lay_list (n := 0) fun d hd => by obtain ⟨i, _, rfl⟩ := List.mem_map.mp hd; exact lay_int i) (by decide)
theorem d_eq_ints {neg : Bool} {S : Sto} (a b : List Int) : dEqv neg (.lst (a.map D.int)) (.lst (b.map D.int)) S = .ok (.bl (neg ^^ decide (a = b))) .tr S :=
  d_eq_pure (py_lst (py_ints S a)) (py_lst (py_ints S b)) (pure_ints a) (pure_ints b) (shaped_ints a) (shaped_ints b) (by
    rw [decide_eq_true_eq]
    exact ⟨fun h => by rw [h], fun h => map_inj (f := PyData.int) (fun _ _ e => by injection e) (by injection h)⟩)
local macro_rules | `(tactic| walk_at "ex") => `(tactic| simp -implicitDefEqProofs only [Fx.v_slT, Fx.v_slT0, Fx.v_slT1, Fx.v_slT2, Fx.d_slT, Fx.d_slTl, Fx.d_addTi, Fx.d_addTs, Fx.d_addTl, Fx.v_dnewC, Fx.v_zipC, Fx.d_ixl0, Fx.d_ixl1, Fx.d_ixl2, Fx.d_ixt0, Fx.d_ixt1, Fx.d_lst0, Fx.d_lst1, Fx.d_lst2, Fx.d_tup0, Fx.d_tup1, Fx.d_tup2, Fx.d_int_int, Fx.d_neg, Fx.v_gt2, Fx.v_gt1, Fx.v_callT, Fx.v_propT, Fx.v_sup, Fx.v_asgNS, Fx.v_appX, Fx.d_strX_str, Fx.d_sum, Fx.v_isiX, Fx.v_binO, Fx.v_binO1, Fx.v_inO, Fx.v_inO1, Fx.v_inO3, Fx.v_eqO, Fx.v_eqO1, Fx.v_eqO3, Fx.v_eqX, Fx.v_eqX1, Fx.v_neO, Fx.v_neO1, Fx.v_neO3, Fx.v_augD, Fx.v_augD0, Fx.v_augD1, Fx.v_augD2, Fx.v_idxL, Fx.v_idxL1, Fx.v_idxL2, Fx.v_raise0, Fx.v_fld, Fx.v_setF, Fx.v_meth, Fx.v_methA, Fx.v_sp1, Fx.v_mk, Fx.v_mkK, Fx.v_mkK1, Fx.v_cmeth, Fx.v_runI1, Fx.v_runIx, Fx.v_fmt, Fx.v_js0, Fx.v_js, Fx.v_lrg, Fx.v_lrg1, Fx.v_callK, Fx.v_callK1, Fx.bE_ok, Fx.bE_xc, Fx.bS_nx, Fx.bS_rt, Fx.bS_bk, Fx.bS_ct, Fx.bS_xc, Fx.eS_ok, Fx.eS_xc, Fx.v_seq, Fx.v_next, Fx.v_break, Fx.v_cont, Fx.v_c, Fx.v_var, Fx.kVar_val, Fx.kVar_own, Fx.kVar_oob, Fx.v_op, Fx.v_op1, Fx.v_op2, Fx.v_un, Fx.v_un1, Fx.v_not, Fx.v_not1, Fx.v_and, Fx.v_andT, Fx.v_andF, Fx.v_or, Fx.v_orT, Fx.v_orF, Fx.v_if, Fx.v_ifT, Fx.v_ifF, Fx.v_chain, Fx.v_ch, Fx.v_ch0, Fx.v_ch1T, Fx.v_ch1F, Fx.v_ch2, Fx.v_isi, Fx.v_isiT, Fx.v_isi1, Fx.v_isi2, Fx.ty_non, Fx.ty_bl, Fx.ty_int, Fx.ty_str, Fx.ty_lst, Fx.ty_tup, Fx.ty_dct, Fx.v_cb, Fx.bA_ok, Fx.bA_xc, Fx.v_nil, Fx.v_cons, Fx.v_cons1, Fx.v_cons1x, Fx.v_cons2, Fx.v_cons2x, Fx.nop_tr, Fx.nop_fs, Fx.nop_pk, Fx.v_lst, Fx.v_tup, Fx.v_dnew, Fx.v_call, Fx.v_call1, Fx.v_m1, Fx.v_m1a, Fx.v_m1b, Fx.v_part, Fx.v_part1, Fx.v_nopart, Fx.v_sl, Fx.v_sl0, Fx.v_sl1, Fx.v_sl2, Fx.bO_ok, Fx.v_rev, Fx.v_expr, Fx.v_expr1, Fx.v_ifs, Fx.v_ifsT, Fx.v_ifsF, Fx.v_ret, Fx.v_retT, Fx.v_retS, Fx.v_retN, Fx.v_retV, Fx.v_retV1, Fx.v_retV2, Fx.v_asg, Fx.v_asgT, Fx.v_asgS, Fx.v_asg2, Fx.v_gn, Fx.v_gsNil, Fx.v_gsCons, Fx.v_gs, Fx.v_par, Fx.v_par1, Fx.v_aug, Fx.v_aug1, Fx.v_aug2, Fx.v_own, Fx.v_own1, Fx.v_frz, Fx.v_frz0, Fx.v_frz1, Fx.v_frz2, Fx.v_frz3, Fx.v_app, Fx.v_ado, Fx.v_ado1, Fx.v_xf, Fx.v_set, Fx.v_for, Fx.v_for1, Fx.v_forx, Fx.v_iter, Fx.v_iter1, Fx.v_iter1s, Fx.v_iter2, Fx.it_str, Fx.it_lst, Fx.it_tup, Fx.v_rng1, Fx.v_enum, Fx.v_enumL, Fx.v_enumT, Fx.v_raise, Fx.v_raise1, Fx.v_try, Fx.v_tryN, Fx.v_tryX, Fx.v_run1, Fx.v_run2, Fx.v_run3, Fx.v_r0, Fx.v_r1, Fx.v_r2, Fx.v_r3, Fx.v_r4, Fx.v_r5, Fx.v_nx, Fx.v_nx1, Fx.d_eq_str, Fx.d_eq_int, Fx.d_add_int, Fx.d_sub, Fx.d_cmp, Fx.d_len_lst, Fx.d_len_tup, Fx.d_len_fro, Fx.d_nil, Fx.d_max, Fx.d_min, Fx.d_sl_lst, Fx.d_list, Fx.d_listT, Fx.d_tuple, Fx.d_isN, Fx.d_isB, List.map_cons, List.map_nil, List.length_cons, List.length_nil, List.replicate, List.cons_append, List.nil_append, List.append_nil, List.getElem?_cons_zero, List.getElem?_cons_succ, List.set, Nat.reduceAdd, Nat.reduceSub, Nat.zero_add, if_true, if_false, reduceIte, Bool.not_true, Bool.not_false, Bool.and_true, Bool.true_and, Bool.and_self, Bool.false_xor, Bool.true_xor, Bool.false_eq_true, isT, Fx.tyd_non, Fx.tyd_bl, Fx.tyd_int, Fx.tyd_str, Fx.tyd_lst, Fx.tyd_tup, Fx.tyd_dct, reduceCtorEq, decide_true, decide_false, Bool.or_false, Bool.or_true, Bool.false_or, Bool.true_or, Bool.and_false, Bool.false_and, List.any_cons, List.any_nil])
theorem mk_1 {c : Nat} {f : Str} {d : D} {ρ : Ev} {S : Sto} : fMkX c f (fCons (fVar 0) (fNil)) (.val d :: ρ) S = .ok (.exv c [(f, d)]) .tr S := rfl
theorem d_lst3c {S : Sto} {a b c : D} : dLst [a, b, c] true S = .ok (.lst [a, b, c]) .fs S := d_lst (show 3 ≤ lim by decide)
theorem d_lst4c {S : Sto} {a b c d : D} : dLst [a, b, c, d] true S = .ok (.lst [a, b, c, d]) .fs S := d_lst (show 4 ≤ lim by decide)
local macro_rules | `(tactic| walk_at "kk") => `(tactic| simp -implicitDefEqProofs only [v_isX, v_fldX, v_dset, v_mkX0, v_mkXB, v_dispC, mk_1, d_lst3c, d_lst4c, Fx.v_slT, Fx.v_slT0, Fx.v_slT1, Fx.v_slT2, Fx.d_slT, Fx.d_slTl, Fx.d_addTi, Fx.d_addTs, Fx.d_addTl, Fx.v_dnewC, Fx.v_zipC, Fx.d_ixl0, Fx.d_ixl1, Fx.d_ixl2, Fx.d_ixt0, Fx.d_ixt1, Fx.d_lst0, Fx.d_lst1, Fx.d_lst2, Fx.d_tup0, Fx.d_tup1, Fx.d_tup2, Fx.d_int_int, Fx.d_neg, Fx.v_gt2, Fx.v_gt1, Fx.v_callT, Fx.v_propT, Fx.v_sup, Fx.v_asgNS, Fx.v_appX, Fx.d_strX_str, Fx.d_sum, Fx.v_isiX, Fx.v_binO, Fx.v_binO1, Fx.v_inO, Fx.v_inO1, Fx.v_inO3, Fx.v_eqO, Fx.v_eqO1, Fx.v_eqO3, Fx.v_eqX, Fx.v_eqX1, Fx.v_neO, Fx.v_neO1, Fx.v_neO3, Fx.v_augD, Fx.v_augD0, Fx.v_augD1, Fx.v_augD2, Fx.v_idxL, Fx.v_idxL1, Fx.v_idxL2, Fx.v_raise0, Fx.v_fld, Fx.v_setF, Fx.v_meth, Fx.v_methA, Fx.v_sp1, Fx.v_mk, Fx.v_mkK, Fx.v_mkK1, Fx.v_cmeth, Fx.v_runI1, Fx.v_runIx, Fx.v_fmt, Fx.v_js0, Fx.v_js, Fx.v_lrg, Fx.v_lrg1, Fx.v_callK, Fx.v_callK1, Fx.bE_ok, Fx.bE_xc, Fx.bS_nx, Fx.bS_rt, Fx.bS_bk, Fx.bS_ct, Fx.bS_xc, Fx.eS_ok, Fx.eS_xc, Fx.v_seq, Fx.v_next, Fx.v_break, Fx.v_cont, Fx.v_c, Fx.v_var, Fx.kVar_val, Fx.kVar_own, Fx.kVar_oob, Fx.v_op, Fx.v_op1, Fx.v_op2, Fx.v_un, Fx.v_un1, Fx.v_not, Fx.v_not1, Fx.v_and, Fx.v_andT, Fx.v_andF, Fx.v_or, Fx.v_orT, Fx.v_orF, Fx.v_if, Fx.v_ifT, Fx.v_ifF, Fx.v_chain, Fx.v_ch, Fx.v_ch0, Fx.v_ch1T, Fx.v_ch1F, Fx.v_ch2, Fx.v_isi, Fx.v_isiT, Fx.v_isi1, Fx.v_isi2, Fx.ty_non, Fx.ty_bl, Fx.ty_int, Fx.ty_str, Fx.ty_lst, Fx.ty_tup, Fx.ty_dct, Fx.v_cb, Fx.bA_ok, Fx.bA_xc, Fx.v_nil, Fx.v_cons, Fx.v_cons1, Fx.v_cons1x, Fx.v_cons2, Fx.v_cons2x, Fx.nop_tr, Fx.nop_fs, Fx.nop_pk, Fx.v_lst, Fx.v_tup, Fx.v_dnew, Fx.v_call, Fx.v_call1, Fx.v_m1, Fx.v_m1a, Fx.v_m1b, Fx.v_part, Fx.v_part1, Fx.v_nopart, Fx.v_sl, Fx.v_sl0, Fx.v_sl1, Fx.v_sl2, Fx.bO_ok, Fx.v_rev, Fx.v_expr, Fx.v_expr1, Fx.v_ifs, Fx.v_ifsT, Fx.v_ifsF, Fx.v_ret, Fx.v_retT, Fx.v_retS, Fx.v_retN, Fx.v_retV, Fx.v_retV1, Fx.v_retV2, Fx.v_asg, Fx.v_asgT, Fx.v_asgS, Fx.v_asg2, Fx.v_gn, Fx.v_gsNil, Fx.v_gsCons, Fx.v_gs, Fx.v_par, Fx.v_par1, Fx.v_aug, Fx.v_aug1, Fx.v_aug2, Fx.v_own, Fx.v_own1, Fx.v_frz, Fx.v_frz0, Fx.v_frz1, Fx.v_frz2, Fx.v_frz3, Fx.v_app, Fx.v_ado, Fx.v_ado1, Fx.v_xf, Fx.v_set, Fx.v_for, Fx.v_for1, Fx.v_forx, Fx.v_iter, Fx.v_iter1, Fx.v_iter1s, Fx.v_iter2, Fx.it_str, Fx.it_lst, Fx.it_tup, Fx.v_rng1, Fx.v_enum, Fx.v_enumL, Fx.v_enumT, Fx.v_raise, Fx.v_raise1, Fx.v_try, Fx.v_tryN, Fx.v_tryX, Fx.v_run1, Fx.v_run2, Fx.v_run3, Fx.v_r0, Fx.v_r1, Fx.v_r2, Fx.v_r3, Fx.v_r4, Fx.v_r5, Fx.v_nx, Fx.v_nx1, Fx.d_eq_str, Fx.d_eq_int, Fx.d_add_int, Fx.d_sub, Fx.d_cmp, Fx.d_len_lst, Fx.d_len_tup, Fx.d_len_fro, Fx.d_nil, Fx.d_max, Fx.d_min, Fx.d_sl_lst, Fx.d_list, Fx.d_listT, Fx.d_tuple, Fx.d_isN, Fx.d_isB, List.map_cons, List.map_nil, List.length_cons, List.length_nil, List.replicate, List.cons_append, List.nil_append, List.append_nil, List.getElem?_cons_zero, List.getElem?_cons_succ, List.set, Nat.reduceAdd, Nat.reduceSub, Nat.zero_add, if_true, if_false, reduceIte, Bool.not_true, Bool.not_false, Bool.and_true, Bool.true_and, Bool.and_self, Bool.false_xor, Bool.true_xor, Bool.false_eq_true, isT, Fx.tyd_non, Fx.tyd_bl, Fx.tyd_int, Fx.tyd_str, Fx.tyd_lst, Fx.tyd_tup, Fx.tyd_dct, reduceCtorEq, decide_true, decide_false, Bool.or_false, Bool.or_true, Bool.false_or, Bool.true_or, Bool.and_false, Bool.false_and, List.any_cons, List.any_nil])
section
variable {S : Sto} {c : Nat} {es : List (Str × D)} {fl : Fl}
theorem kk_InvalidMark : ∀ c, c < 27 → kx_InvalidMark c = some (decide (c = 3)) := by decide
theorem is_InvalidMark (h : c < 27) : kIsX kx_InvalidMark (.exv c es) fl S = .ok (.bl (decide (c = 3))) .tr S := v_isX1 (kk_InvalidMark c h)
theorem kk_InvalidMarks : ∀ c, c < 27 → kx_InvalidMarks c = some (decide (c = 4)) := by decide
theorem is_InvalidMarks (h : c < 27) : kIsX kx_InvalidMarks (.exv c es) fl S = .ok (.bl (decide (c = 4))) .tr S := v_isX1 (kk_InvalidMarks c h)
theorem kk_InvalidWords : ∀ c, c < 27 → kx_InvalidWords c = some (decide (c = 5)) := by decide
theorem is_InvalidWords (h : c < 27) : kIsX kx_InvalidWords (.exv c es) fl S = .ok (.bl (decide (c = 5))) .tr S := v_isX1 (kk_InvalidWords c h)
theorem kk_InvalidText : ∀ c, c < 27 → kx_InvalidText c = some (decide (c = 6)) := by decide
theorem is_InvalidText (h : c < 27) : kIsX kx_InvalidText (.exv c es) fl S = .ok (.bl (decide (c = 6))) .tr S := v_isX1 (kk_InvalidText c h)
theorem kk_InvalidStep : ∀ c, c < 27 → kx_InvalidStep c = some (decide (c = 7)) := by decide
theorem is_InvalidStep (h : c < 27) : kIsX kx_InvalidStep (.exv c es) fl S = .ok (.bl (decide (c = 7))) .tr S := v_isX1 (kk_InvalidStep c h)
theorem kk_InvalidChain : ∀ c, c < 27 → kx_InvalidChain c = some (decide (c = 8)) := by decide
theorem is_InvalidChain (h : c < 27) : kIsX kx_InvalidChain (.exv c es) fl S = .ok (.bl (decide (c = 8))) .tr S := v_isX1 (kk_InvalidChain c h)
theorem kk_InvalidStock : ∀ c, c < 27 → kx_InvalidStock c = some (decide (c = 9)) := by decide
theorem is_InvalidStock (h : c < 27) : kIsX kx_InvalidStock (.exv c es) fl S = .ok (.bl (decide (c = 9))) .tr S := v_isX1 (kk_InvalidStock c h)
theorem kk_InvalidInteger : ∀ c, c < 27 → kx_InvalidInteger c = some (decide (c = 10)) := by decide
theorem is_InvalidInteger (h : c < 27) : kIsX kx_InvalidInteger (.exv c es) fl S = .ok (.bl (decide (c = 10))) .tr S := v_isX1 (kk_InvalidInteger c h)
theorem kk_InvalidState : ∀ c, c < 27 → kx_InvalidState c = some (decide (c = 11)) := by decide
theorem is_InvalidState (h : c < 27) : kIsX kx_InvalidState (.exv c es) fl S = .ok (.bl (decide (c = 11))) .tr S := v_isX1 (kk_InvalidState c h)
theorem kk_InvalidRow : ∀ c, c < 27 → kx_InvalidRow c = some (decide (c = 12)) := by decide
theorem is_InvalidRow (h : c < 27) : kIsX kx_InvalidRow (.exv c es) fl S = .ok (.bl (decide (c = 12))) .tr S := v_isX1 (kk_InvalidRow c h)
theorem kk_InvalidChange : ∀ c, c < 27 → kx_InvalidChange c = some (decide (c = 13)) := by decide
theorem is_InvalidChange (h : c < 27) : kIsX kx_InvalidChange (.exv c es) fl S = .ok (.bl (decide (c = 13))) .tr S := v_isX1 (kk_InvalidChange c h)
theorem kk_InvalidName : ∀ c, c < 27 → kx_InvalidName c = some (decide (c = 14)) := by decide
theorem is_InvalidName (h : c < 27) : kIsX kx_InvalidName (.exv c es) fl S = .ok (.bl (decide (c = 14))) .tr S := v_isX1 (kk_InvalidName c h)
theorem kk_InvalidLine : ∀ c, c < 27 → kx_InvalidLine c = some (decide (c = 15)) := by decide
theorem is_InvalidLine (h : c < 27) : kIsX kx_InvalidLine (.exv c es) fl S = .ok (.bl (decide (c = 15))) .tr S := v_isX1 (kk_InvalidLine c h)
theorem kk_InvalidLines : ∀ c, c < 27 → kx_InvalidLines c = some (decide (c = 16)) := by decide
theorem is_InvalidLines (h : c < 27) : kIsX kx_InvalidLines (.exv c es) fl S = .ok (.bl (decide (c = 16))) .tr S := v_isX1 (kk_InvalidLines c h)
theorem kk_NotOver : ∀ c, c < 27 → kx_NotOver c = some (decide (c = 17)) := by decide
theorem is_NotOver (h : c < 27) : kIsX kx_NotOver (.exv c es) fl S = .ok (.bl (decide (c = 17))) .tr S := v_isX1 (kk_NotOver c h)
theorem kk_InvalidPage : ∀ c, c < 27 → kx_InvalidPage c = some (decide (c = 18)) := by decide
theorem is_InvalidPage (h : c < 27) : kIsX kx_InvalidPage (.exv c es) fl S = .ok (.bl (decide (c = 18))) .tr S := v_isX1 (kk_InvalidPage c h)
theorem kk_TooMany : ∀ c, c < 27 → kx_TooMany c = some (decide (c = 19)) := by decide
theorem is_TooMany (h : c < 27) : kIsX kx_TooMany (.exv c es) fl S = .ok (.bl (decide (c = 19))) .tr S := v_isX1 (kk_TooMany c h)
theorem kk_NoStep : ∀ c, c < 27 → kx_NoStep c = some (decide (c = 20)) := by decide
theorem is_NoStep (h : c < 27) : kIsX kx_NoStep (.exv c es) fl S = .ok (.bl (decide (c = 20))) .tr S := v_isX1 (kk_NoStep c h)
theorem kk_NoLetter : ∀ c, c < 27 → kx_NoLetter c = some (decide (c = 21)) := by decide
theorem is_NoLetter (h : c < 27) : kIsX kx_NoLetter (.exv c es) fl S = .ok (.bl (decide (c = 21))) .tr S := v_isX1 (kk_NoLetter c h)
theorem kk_NoInput : ∀ c, c < 27 → kx_NoInput c = some (decide (c = 22)) := by decide
theorem is_NoInput (h : c < 27) : kIsX kx_NoInput (.exv c es) fl S = .ok (.bl (decide (c = 22))) .tr S := v_isX1 (kk_NoInput c h)
theorem kk_NoChain : ∀ c, c < 27 → kx_NoChain c = some (decide (c = 23)) := by decide
theorem is_NoChain (h : c < 27) : kIsX kx_NoChain (.exv c es) fl S = .ok (.bl (decide (c = 23))) .tr S := v_isX1 (kk_NoChain c h)
theorem kk_NoStock : ∀ c, c < 27 → kx_NoStock c = some (decide (c = 24)) := by decide
theorem is_NoStock (h : c < 27) : kIsX kx_NoStock (.exv c es) fl S = .ok (.bl (decide (c = 24))) .tr S := v_isX1 (kk_NoStock c h)
theorem kk_NothingToUndo : ∀ c, c < 27 → kx_NothingToUndo c = some (decide (c = 25)) := by decide
theorem is_NothingToUndo (h : c < 27) : kIsX kx_NothingToUndo (.exv c es) fl S = .ok (.bl (decide (c = 25))) .tr S := v_isX1 (kk_NothingToUndo c h)
theorem kk_NothingToRedo : ∀ c, c < 27 → kx_NothingToRedo c = some (decide (c = 26)) := by decide
theorem is_NothingToRedo (h : c < 27) : kIsX kx_NothingToRedo (.exv c es) fl S = .ok (.bl (decide (c = 26))) .tr S := v_isX1 (kk_NothingToRedo c h)
theorem kk_ReflowError : ∀ c, c < 27 → kx_ReflowError c = some (decide (c = 0) || (decide (3 ≤ c) && decide (c < 20))) := by decide
theorem is_ReflowError (h : c < 27) : kIsX kx_ReflowError (.exv c es) fl S = .ok (.bl (decide (c = 0) || (decide (3 ≤ c) && decide (c < 20)))) .tr S := v_isX1 (kk_ReflowError c h)
theorem kk_AbsentError : ∀ c, c < 27 → kx_AbsentError c = some (decide (c = 1) || (decide (20 ≤ c) && decide (c < 24))) := by decide
theorem is_AbsentError (h : c < 27) : kIsX kx_AbsentError (.exv c es) fl S = .ok (.bl (decide (c = 1) || (decide (20 ≤ c) && decide (c < 24)))) .tr S := v_isX1 (kk_AbsentError c h)
theorem kk_StateError : ∀ c, c < 27 → kx_StateError c = some (decide (c = 2) || decide (24 ≤ c)) := by decide
theorem is_StateError (h : c < 27) : kIsX kx_StateError (.exv c es) fl S = .ok (.bl (decide (c = 2) || decide (24 ≤ c))) .tr S := v_isX1 (kk_StateError c h)
theorem kk_ValueError : ∀ c, c < 27 → kx_ValueError c = some (decide (c = 0) || (decide (3 ≤ c) && decide (c < 20))) := by decide
theorem is_ValueError (h : c < 27) : kIsX kx_ValueError (.exv c es) fl S = .ok (.bl (decide (c = 0) || (decide (3 ≤ c) && decide (c < 20)))) .tr S := v_isX1 (kk_ValueError c h)
theorem kk_KeyError : ∀ c, c < 27 → kx_KeyError c = some (decide (c = 1) || (decide (20 ≤ c) && decide (c < 24))) := by decide
theorem is_KeyError (h : c < 27) : kIsX kx_KeyError (.exv c es) fl S = .ok (.bl (decide (c = 1) || (decide (20 ≤ c) && decide (c < 24)))) .tr S := v_isX1 (kk_KeyError c h)
theorem kk_LookupError : ∀ c, c < 27 → kx_LookupError c = some (!(decide (c = 0) || (decide (3 ≤ c) && decide (c < 20)))) := by decide
theorem is_LookupError (h : c < 27) : kIsX kx_LookupError (.exv c es) fl S = .ok (.bl (!(decide (c = 0) || (decide (3 ≤ c) && decide (c < 20))))) .tr S := v_isX1 (kk_LookupError c h)
theorem kk_IndexError : ∀ c, c < 27 → kx_IndexError c = some (false) := by decide
theorem is_IndexError (h : c < 27) : kIsX kx_IndexError (.exv c es) fl S = .ok (.bl (false)) .tr S := v_isX1 (kk_IndexError c h)
def kindsV (c : Nat) : List D := if 3 ≤ c then [.int ((c - 3 : Nat) : Int)] else []
def bitsV (c : Nat) : List D := (List.range 24).map fun i => .bl (decide (c = i + 3))
def hitD (c : Nat) (d : D) : Bool := match d with
  | .int i => decide (c = i.toNat + 3)
  | _ => false
theorem kinds_eq : ∀ c, c < 27 → ((rngD 0 24).filter (hitD c)).map id = kindsV c
  | 0, _ => rfl
  | 1, _ => rfl
  | 2, _ => rfl
  | 3, _ => rfl
  | 4, _ => rfl
  | 5, _ => rfl
  | 6, _ => rfl
  | 7, _ => rfl
  | 8, _ => rfl
  | 9, _ => rfl
  | 10, _ => rfl
  | 11, _ => rfl
  | 12, _ => rfl
  | 13, _ => rfl
  | 14, _ => rfl
  | 15, _ => rfl
  | 16, _ => rfl
  | 17, _ => rfl
  | 18, _ => rfl
  | 19, _ => rfl
  | 20, _ => rfl
  | 21, _ => rfl
  | 22, _ => rfl
  | 23, _ => rfl
  | 24, _ => rfl
  | 25, _ => rfl
  | 26, _ => rfl
  | n + 27, h => absurd h (by omega)
theorem f_kinds (h : c < 27) : F__law_kinds [.exv c es] S = .ok (.lst (kindsV c)) .fs S := by
  have lc : fLc (fRng1 (fCons (fCB dLen (fCons (fVar 1) (fNil))) (fNil))) (gN 2) (fOp dIx (fVar 1) (fVar 2)) (fVar 2) [2] [.val (.exv c es), .val (.lst (bitsV c)), .no] S = .ok (.lst (kindsV c)) .fs S := by
    rw [← kinds_eq c h]
    refine lc_flat (S1 := S) (ds := rngD 0 24) (g := none) (by
      walk_at "ex"
      rw [v_rng1a (by unfold bitsV; rw [List.length_map, List.length_range]; decide) (by unfold bitsV; rw [List.length_map, List.length_range]; decide)]
      unfold bitsV
      rw [List.length_map, List.length_range]
      rfl) trivial (by rw [rng_len]; decide) (fun d hd => ?_)
    obtain ⟨i, hi, hd⟩ := List.getElem_of_mem hd
    rw [rng_len] at hi
    have : d = .int ((i : Nat) : Int) := by
      have e := rng_at (lo := 0) hi
      rw [List.getElem?_eq_getElem (by rw [rng_len]; exact hi), hd] at e
      injection e with e
      rw [e, Int.zero_add]
    subst this
    refine ⟨[.val (.exv c es), .val (.lst (bitsV c)), .val (.int ((i : Nat) : Int))], .tr, rfl, ?_, fun _ => ⟨.tr, ?_, rfl⟩⟩
    · walk_at "ex"
      rw [d_ix_lst (pick_at (i := i) (x := .bl (decide (c = i + 3))) (by unfold bitsV; rw [List.getElem?_map, List.getElem?_range hi]; rfl))]
      rfl
    · walk_at "ex"
      rfl
  have hz : bitsV c = [.bl (decide (c = 3)), .bl (decide (c = 4)), .bl (decide (c = 5)), .bl (decide (c = 6)), .bl (decide (c = 7)), .bl (decide (c = 8)), .bl (decide (c = 9)), .bl (decide (c = 10)), .bl (decide (c = 11)), .bl (decide (c = 12)), .bl (decide (c = 13)), .bl (decide (c = 14)), .bl (decide (c = 15)), .bl (decide (c = 16)), .bl (decide (c = 17)), .bl (decide (c = 18)), .bl (decide (c = 19)), .bl (decide (c = 20)), .bl (decide (c = 21)), .bl (decide (c = 22)), .bl (decide (c = 23)), .bl (decide (c = 24)), .bl (decide (c = 25)), .bl (decide (c = 26))] := rfl
  rw [hz] at lc
  unfold F__law_kinds b__law_kinds
  walk_at "kk"
  rw [is_InvalidMark h]
  walk_at "kk"
  rw [is_InvalidMarks h]
  walk_at "kk"
  unfold b__law_kinds_1
  walk_at "kk"
  rw [is_InvalidWords h]
  walk_at "kk"
  rw [is_InvalidText h]
  walk_at "kk"
  rw [d_add_lst (by show 2 + 2 ≤ lim; decide)]
  walk_at "kk"
  unfold b__law_kinds_2
  walk_at "kk"
  rw [is_InvalidStep h]
  walk_at "kk"
  rw [is_InvalidChain h]
  walk_at "kk"
  rw [d_add_lst (by show 4 + 2 ≤ lim; decide)]
  walk_at "kk"
  unfold b__law_kinds_3
  walk_at "kk"
  rw [is_InvalidStock h]
  walk_at "kk"
  rw [is_InvalidInteger h]
  walk_at "kk"
  rw [d_add_lst (by show 6 + 2 ≤ lim; decide)]
  walk_at "kk"
  unfold b__law_kinds_4
  walk_at "kk"
  rw [is_InvalidState h]
  walk_at "kk"
  rw [is_InvalidRow h]
  walk_at "kk"
  rw [d_add_lst (by show 8 + 2 ≤ lim; decide)]
  walk_at "kk"
  unfold b__law_kinds_5
  walk_at "kk"
  rw [is_InvalidChange h]
  walk_at "kk"
  rw [is_InvalidName h]
  walk_at "kk"
  rw [d_add_lst (by show 10 + 2 ≤ lim; decide)]
  walk_at "kk"
  unfold b__law_kinds_6
  walk_at "kk"
  rw [is_InvalidLine h]
  walk_at "kk"
  rw [is_InvalidLines h]
  walk_at "kk"
  rw [d_add_lst (by show 12 + 2 ≤ lim; decide)]
  walk_at "kk"
  unfold b__law_kinds_7
  walk_at "kk"
  rw [is_NotOver h]
  walk_at "kk"
  rw [is_InvalidPage h]
  walk_at "kk"
  rw [d_add_lst (by show 14 + 2 ≤ lim; decide)]
  walk_at "kk"
  unfold b__law_kinds_8
  walk_at "kk"
  rw [is_TooMany h]
  walk_at "kk"
  rw [is_NoStep h]
  walk_at "kk"
  rw [d_add_lst (by show 16 + 2 ≤ lim; decide)]
  walk_at "kk"
  unfold b__law_kinds_9
  walk_at "kk"
  rw [is_NoLetter h]
  walk_at "kk"
  rw [is_NoInput h]
  walk_at "kk"
  rw [d_add_lst (by show 18 + 2 ≤ lim; decide)]
  walk_at "kk"
  unfold b__law_kinds_10
  walk_at "kk"
  rw [is_NoChain h]
  walk_at "kk"
  rw [is_NoStock h]
  walk_at "kk"
  rw [d_add_lst (by show 20 + 2 ≤ lim; decide)]
  walk_at "kk"
  unfold b__law_kinds_11
  walk_at "kk"
  rw [is_NothingToUndo h]
  walk_at "kk"
  rw [is_NothingToRedo h]
  walk_at "kk"
  rw [d_add_lst (by show 22 + 2 ≤ lim; decide)]
  walk_at "kk"
  unfold b__law_kinds_12
  walk_at "kk"
  rw [lc]
  walk_at "kk"
def basesV (c : Nat) : List D := if c = 0 ∨ 3 ≤ c ∧ c < 20 then [.bl true, .bl false, .bl false, .bl true, .bl false, .bl false] else if c = 1 ∨ 20 ≤ c ∧ c < 24 then [.bl false, .bl true, .bl false, .bl false, .bl true, .bl true] else [.bl false, .bl false, .bl true, .bl false, .bl false, .bl true]
theorem bases_eq : ∀ c, c < 27 → [D.bl (decide (c = 0) || (decide (3 ≤ c) && decide (c < 20))), .bl (decide (c = 1) || (decide (20 ≤ c) && decide (c < 24))), .bl (decide (c = 2) || decide (24 ≤ c))] ++ [.bl (decide (c = 0) || (decide (3 ≤ c) && decide (c < 20))), .bl (decide (c = 1) || (decide (20 ≤ c) && decide (c < 24))), .bl (!(decide (c = 0) || (decide (3 ≤ c) && decide (c < 20))))] = basesV c
  | 0, _ => rfl
  | 1, _ => rfl
  | 2, _ => rfl
  | 3, _ => rfl
  | 4, _ => rfl
  | 5, _ => rfl
  | 6, _ => rfl
  | 7, _ => rfl
  | 8, _ => rfl
  | 9, _ => rfl
  | 10, _ => rfl
  | 11, _ => rfl
  | 12, _ => rfl
  | 13, _ => rfl
  | 14, _ => rfl
  | 15, _ => rfl
  | 16, _ => rfl
  | 17, _ => rfl
  | 18, _ => rfl
  | 19, _ => rfl
  | 20, _ => rfl
  | 21, _ => rfl
  | 22, _ => rfl
  | 23, _ => rfl
  | 24, _ => rfl
  | 25, _ => rfl
  | 26, _ => rfl
  | n + 27, h => absurd h (by omega)
theorem f_bases (h : c < 27) : F__law_bases [.exv c es] S = .ok (.lst (basesV c)) .fs S := by
  rw [← bases_eq c h]
  unfold F__law_bases b__law_bases
  walk_at "kk"
  rw [is_ReflowError h]
  walk_at "kk"
  rw [is_AbsentError h]
  walk_at "kk"
  rw [is_StateError h]
  walk_at "kk"
  rw [is_IndexError h]
  walk_at "kk"
  rw [is_ValueError h]
  walk_at "kk"
  rw [is_KeyError h]
  walk_at "kk"
  rw [is_LookupError h]
  walk_at "kk"
  rw [d_add_lst (by show 3 + 3 ≤ lim; decide)]
  walk_at "kk"
def dueV (k : Int) : List D := if k < 17 then [.bl true, .bl false, .bl false, .bl true, .bl false, .bl false] else if k < 21 then [.bl false, .bl true, .bl false, .bl false, .bl true, .bl true] else [.bl false, .bl false, .bl true, .bl false, .bl false, .bl true]
theorem f_due {k : Int} : F__law_due [.int k] S = .ok (.lst (dueV k)) .fs S := by
  unfold F__law_due b__law_due dueV
  walk_at "kk"
  by_cases h1 : k < 17
  · rw [decide_eq_true h1, if_pos h1]
    walk_at "kk"
    rw [d_lst (by show 6 ≤ lim; decide)]
    walk_at "kk"
  · rw [decide_eq_false h1, if_neg h1]
    walk_at "kk"
    by_cases h2 : k < 21
    · rw [decide_eq_true h2, if_pos h2]
      walk_at "kk"
      rw [d_lst (by show 6 ≤ lim; decide)]
      walk_at "kk"
    · rw [decide_eq_false h2, if_neg h2]
      walk_at "kk"
      rw [d_lst (by show 6 ≤ lim; decide)]
      walk_at "kk"
def fldN (i : Nat) : Str := if i = 15 then "line" else if i = 16 then "count" else if i = 17 then "index" else if i = 20 then "name" else "value"
def errV (v : D) : List D := (List.range 21).map fun i => .exv (i + 3) [(fldN i, v)]
theorem f_made {v : D} : F__law_made [v] S = .ok (.lst (errV v)) .tr S := by
  have hz : errV v = [.exv 3 [("value", v)], .exv 4 [("value", v)], .exv 5 [("value", v)], .exv 6 [("value", v)], .exv 7 [("value", v)], .exv 8 [("value", v)], .exv 9 [("value", v)], .exv 10 [("value", v)], .exv 11 [("value", v)], .exv 12 [("value", v)], .exv 13 [("value", v)], .exv 14 [("value", v)], .exv 15 [("value", v)], .exv 16 [("value", v)], .exv 17 [("value", v)], .exv 18 [("line", v)], .exv 19 [("count", v)], .exv 20 [("index", v)], .exv 21 [("value", v)], .exv 22 [("value", v)], .exv 23 [("name", v)]] := rfl
  rw [hz]
  unfold F__law_made b__law_made
  walk_at "kk"
  rw [d_add_lst (by show 4 + 4 ≤ lim; decide)]
  walk_at "kk"
  rw [d_add_lst (by show 8 + 4 ≤ lim; decide)]
  walk_at "kk"
  rw [d_add_lst (by show 12 + 4 ≤ lim; decide)]
  walk_at "kk"
  rw [d_add_lst (by show 16 + 4 ≤ lim; decide)]
  walk_at "kk"
  rw [d_add_lst (by show 20 + 1 ≤ lim; decide)]
  walk_at "kk"
end
theorem disp_a {ρ : Ev} {S : Sto} : fDispC [(.inr "a", fLst (fCons (fC (.int 1)) (fNil)))] ρ S = .ok (.cel S.length) .tr (S ++ [.dK [(.inr "a", .lst [.int 1])]]) := by
  unfold fDispC
  rw [if_pos (by decide)]
  rfl
local macro_rules | `(tactic| walk_at "kk") => `(tactic| simp -implicitDefEqProofs only [v_isX, v_fldX, v_dset, v_mkX0, v_mkXB, mk_1, d_lst3c, d_lst4c, disp_a, Fx.v_slT, Fx.v_slT0, Fx.v_slT1, Fx.v_slT2, Fx.d_slT, Fx.d_slTl, Fx.d_addTi, Fx.d_addTs, Fx.d_addTl, Fx.v_dnewC, Fx.v_zipC, Fx.d_ixl0, Fx.d_ixl1, Fx.d_ixl2, Fx.d_ixt0, Fx.d_ixt1, Fx.d_lst0, Fx.d_lst1, Fx.d_lst2, Fx.d_tup0, Fx.d_tup1, Fx.d_tup2, Fx.d_int_int, Fx.d_neg, Fx.v_gt2, Fx.v_gt1, Fx.v_callT, Fx.v_propT, Fx.v_sup, Fx.v_asgNS, Fx.v_appX, Fx.d_strX_str, Fx.d_sum, Fx.v_isiX, Fx.v_binO, Fx.v_binO1, Fx.v_inO, Fx.v_inO1, Fx.v_inO3, Fx.v_eqO, Fx.v_eqO1, Fx.v_eqO3, Fx.v_eqX, Fx.v_eqX1, Fx.v_neO, Fx.v_neO1, Fx.v_neO3, Fx.v_augD, Fx.v_augD0, Fx.v_augD1, Fx.v_augD2, Fx.v_idxL, Fx.v_idxL1, Fx.v_idxL2, Fx.v_raise0, Fx.v_fld, Fx.v_setF, Fx.v_meth, Fx.v_methA, Fx.v_sp1, Fx.v_mk, Fx.v_mkK, Fx.v_mkK1, Fx.v_cmeth, Fx.v_runI1, Fx.v_runIx, Fx.v_fmt, Fx.v_js0, Fx.v_js, Fx.v_lrg, Fx.v_lrg1, Fx.v_callK, Fx.v_callK1, Fx.bE_ok, Fx.bE_xc, Fx.bS_nx, Fx.bS_rt, Fx.bS_bk, Fx.bS_ct, Fx.bS_xc, Fx.eS_ok, Fx.eS_xc, Fx.v_seq, Fx.v_next, Fx.v_break, Fx.v_cont, Fx.v_c, Fx.v_var, Fx.kVar_val, Fx.kVar_own, Fx.kVar_oob, Fx.v_op, Fx.v_op1, Fx.v_op2, Fx.v_un, Fx.v_un1, Fx.v_not, Fx.v_not1, Fx.v_and, Fx.v_andT, Fx.v_andF, Fx.v_or, Fx.v_orT, Fx.v_orF, Fx.v_if, Fx.v_ifT, Fx.v_ifF, Fx.v_chain, Fx.v_ch, Fx.v_ch0, Fx.v_ch1T, Fx.v_ch1F, Fx.v_ch2, Fx.v_isi, Fx.v_isiT, Fx.v_isi1, Fx.v_isi2, Fx.ty_non, Fx.ty_bl, Fx.ty_int, Fx.ty_str, Fx.ty_lst, Fx.ty_tup, Fx.ty_dct, Fx.v_cb, Fx.bA_ok, Fx.bA_xc, Fx.v_nil, Fx.v_cons, Fx.v_cons1, Fx.v_cons1x, Fx.v_cons2, Fx.v_cons2x, Fx.nop_tr, Fx.nop_fs, Fx.nop_pk, Fx.v_lst, Fx.v_tup, Fx.v_dnew, Fx.v_call, Fx.v_call1, Fx.v_m1, Fx.v_m1a, Fx.v_m1b, Fx.v_part, Fx.v_part1, Fx.v_nopart, Fx.v_sl, Fx.v_sl0, Fx.v_sl1, Fx.v_sl2, Fx.bO_ok, Fx.v_rev, Fx.v_expr, Fx.v_expr1, Fx.v_ifs, Fx.v_ifsT, Fx.v_ifsF, Fx.v_ret, Fx.v_retT, Fx.v_retS, Fx.v_retN, Fx.v_retV, Fx.v_retV1, Fx.v_retV2, Fx.v_asg, Fx.v_asgT, Fx.v_asgS, Fx.v_asg2, Fx.v_gn, Fx.v_gsNil, Fx.v_gsCons, Fx.v_gs, Fx.v_par, Fx.v_par1, Fx.v_aug, Fx.v_aug1, Fx.v_aug2, Fx.v_own, Fx.v_own1, Fx.v_frz, Fx.v_frz0, Fx.v_frz1, Fx.v_frz2, Fx.v_frz3, Fx.v_app, Fx.v_ado, Fx.v_ado1, Fx.v_xf, Fx.v_set, Fx.v_for, Fx.v_for1, Fx.v_forx, Fx.v_iter, Fx.v_iter1, Fx.v_iter1s, Fx.v_iter2, Fx.it_str, Fx.it_lst, Fx.it_tup, Fx.v_rng1, Fx.v_enum, Fx.v_enumL, Fx.v_enumT, Fx.v_raise, Fx.v_raise1, Fx.v_try, Fx.v_tryN, Fx.v_tryX, Fx.v_run1, Fx.v_run2, Fx.v_run3, Fx.v_r0, Fx.v_r1, Fx.v_r2, Fx.v_r3, Fx.v_r4, Fx.v_r5, Fx.v_nx, Fx.v_nx1, Fx.d_eq_str, Fx.d_eq_int, Fx.d_add_int, Fx.d_sub, Fx.d_cmp, Fx.d_len_lst, Fx.d_len_tup, Fx.d_len_fro, Fx.d_nil, Fx.d_max, Fx.d_min, Fx.d_sl_lst, Fx.d_list, Fx.d_listT, Fx.d_tuple, Fx.d_isN, Fx.d_isB, List.map_cons, List.map_nil, List.length_cons, List.length_nil, List.replicate, List.cons_append, List.nil_append, List.append_nil, List.getElem?_cons_zero, List.getElem?_cons_succ, List.set, Nat.reduceAdd, Nat.reduceSub, Nat.zero_add, if_true, if_false, reduceIte, Bool.not_true, Bool.not_false, Bool.and_true, Bool.true_and, Bool.and_self, Bool.false_xor, Bool.true_xor, Bool.false_eq_true, isT, Fx.tyd_non, Fx.tyd_bl, Fx.tyd_int, Fx.tyd_str, Fx.tyd_lst, Fx.tyd_tup, Fx.tyd_dct, reduceCtorEq, decide_true, decide_false, Bool.or_false, Bool.or_true, Bool.false_or, Bool.true_or, Bool.and_false, Bool.false_and, List.any_cons, List.any_nil])
section
variable {S : Sto} {k n : Nat}
theorem bd_eq : ∀ i, i < 24 → basesV (i + 3) = dueV ((i : Nat) : Int)
  | 0, _ => rfl
  | 1, _ => rfl
  | 2, _ => rfl
  | 3, _ => rfl
  | 4, _ => rfl
  | 5, _ => rfl
  | 6, _ => rfl
  | 7, _ => rfl
  | 8, _ => rfl
  | 9, _ => rfl
  | 10, _ => rfl
  | 11, _ => rfl
  | 12, _ => rfl
  | 13, _ => rfl
  | 14, _ => rfl
  | 15, _ => rfl
  | 16, _ => rfl
  | 17, _ => rfl
  | 18, _ => rfl
  | 19, _ => rfl
  | 20, _ => rfl
  | 21, _ => rfl
  | 22, _ => rfl
  | 23, _ => rfl
  | n + 24, h => absurd h (by omega)
theorem py_bls (S : Sto) : ∀ bs : List Bool, PyAll S (bs.map D.bl) (bs.map PyData.bool)
  | [] => .nil
  | b :: r => .cons (py_bl S b) (py_bls S r)
theorem ne_bls (bs : List Bool) (h3 : PyData.eqv (.list (bs.map PyData.bool)) (.list (bs.map PyData.bool)) = true) (h4 : (PyData.list (bs.map PyData.bool)).hasDict = false) : dEqv true (.lst (bs.map D.bl)) (.lst (bs.map D.bl)) S = .ok (.bl false) .tr S := by
  have h2 : SeqAt.shaped (.list (bs.map PyData.bool)) = true := shaped_of (lay_list (n := 0) fun d hd => by
    obtain ⟨b, _, rfl⟩ := List.mem_map.mp hd
    exact ⟨by simp only [PyData.canLay0], by simp only [PyData.depth]; omega⟩) (by decide)
  have e : toP S (.lst (bs.map D.bl)) = some (.list (bs.map PyData.bool)) := py_lst (py_bls S bs)
  unfold dEqv
  rw [e]
  dsimp only
  rw [if_pos (by rw [h2, h4]; cases scalP _ _ <;> rfl), h3]
  rfl
theorem ne_due (k : Int) : dEqv true (.lst (dueV k)) (.lst (dueV k)) S = .ok (.bl false) .tr S := by
  unfold dueV
  split
  · exact ne_bls [true, false, false, true, false, false] (by decide +kernel) (by decide +kernel)
  · split
    · exact ne_bls [false, true, false, false, true, true] (by decide +kernel) (by decide +kernel)
    · exact ne_bls [false, false, true, false, false, true] (by decide +kernel) (by decide +kernel)
theorem ne_one (i : Int) : dEqv true (.lst [.int i]) (.lst [.int i]) S = .ok (.bl false) .tr S := by
  have := d_eq_ints (neg := true) (S := S) [i] [i]
  rw [decide_eq_true rfl] at this
  exact this
theorem xf_fld : ∀ i, i < 21 → xf_ (i + 3) (fldN i) = true := by decide +kernel
theorem look_one (f : Str) (v : D) : ([(f, v)] : List (Str × D)).lookup f = some v := by simp [List.lookup]
theorem fld_n {i : Nat} (h15 : i ≠ 15) (h16 : i ≠ 16) (h17 : i ≠ 17) (h20 : i ≠ 20) : fldN i = Str.ofString "value" := by
  unfold fldN
  rw [if_neg h15, if_neg h16, if_neg h17, if_neg h20]
theorem f_field {i : Nat} (hi : i < 21) {v : D} : F__law_field [.exv (i + 3) [(fldN i, v)], .int ((i : Nat) : Int)] S = .ok v .tr S := by
  have hx := xf_fld i hi
  have c (j : Nat) : decide (((i : Nat) : Int) = (j : Int)) = decide (i = j) := by
    by_cases h : i = j
    · rw [decide_eq_true h, decide_eq_true (by omega)]
    · rw [decide_eq_false h, decide_eq_false (by omega)]
  unfold F__law_field b__law_field
  walk_at "kk"
  rw [show decide (((i : Nat) : Int) = 15) = decide (i = 15) from c 15]
  by_cases h15 : i = 15
  · subst h15
    rw [decide_eq_true rfl]
    walk_at "kk"
    rw [v_fldX1 (c := 18) (f := Str.ofString "line") (es := [(fldN 15, v)]) (x := v) hx (look_one _ _)]
    walk_at "kk"
  · rw [decide_eq_false h15]
    walk_at "kk"
    rw [show decide (((i : Nat) : Int) = 16) = decide (i = 16) from c 16]
    by_cases h16 : i = 16
    · subst h16
      rw [decide_eq_true rfl]
      walk_at "kk"
      rw [v_fldX1 (c := 19) (f := Str.ofString "count") (es := [(fldN 16, v)]) (x := v) hx (look_one _ _)]
      walk_at "kk"
    · rw [decide_eq_false h16]
      walk_at "kk"
      rw [show decide (((i : Nat) : Int) = 17) = decide (i = 17) from c 17]
      by_cases h17 : i = 17
      · subst h17
        rw [decide_eq_true rfl]
        walk_at "kk"
        rw [v_fldX1 (c := 20) (f := Str.ofString "index") (es := [(fldN 17, v)]) (x := v) hx (look_one _ _)]
        walk_at "kk"
      · rw [decide_eq_false h17]
        walk_at "kk"
        rw [show decide (((i : Nat) : Int) = 20) = decide (i = 20) from c 20]
        by_cases h20 : i = 20
        · subst h20
          rw [decide_eq_true rfl]
          walk_at "kk"
          rw [v_fldX1 (c := 23) (f := Str.ofString "name") (es := [(fldN 20, v)]) (x := v) hx (look_one _ _)]
          walk_at "kk"
        · rw [decide_eq_false h20]
          rw [fld_n h15 h16 h17 h20] at hx ⊢
          walk_at "kk"
          rw [v_fldX1 (x := v) hx (look_one _ _)]
          walk_at "kk"
inductive VK (S : Sto) (k : Nat) (d : D) : Prop
  | flat (t : Ty) (p : PyData) : (∀ S, toK S d = some p) → Okw p → (∀ S, tyDf S d = some t) → isT t .lst = false → isT t .dct = false → VK S k d
  | list (j : Nat) (ds : List D) (p : PyData) : d = .cel j → j ≠ k → S[j]? = some (.lst ds) → ds.length < 100 → (∀ S' : Sto, S'[j]? = some (.lst (ds ++ [.str (Str.ofString "late")])) → toK S' (.cel j) = some p) → Okw p → VK S k d
  | dict (j : Nat) (kvs : List (Key × D)) (p : PyData) : d = .cel j → j ≠ k → S[j]? = some (.dK kvs) → kvs.length < 100 → (∀ S' : Sto, S'[j]? = some (.dK (putKD kvs (.inr (Str.ofString "late")) (.int 1))) → toK S' (.cel j) = some p) → Okw p → VK S k d
theorem okw_of {p : PyData} (h1 : p.showable = true) (h2 : p.depth ≤ 20) (h3 : p.shown.length ≤ 1000) : Okw p := ⟨h1, h2, lim_le (Nat.le_trans h3 (by decide))⟩
theorem toK_lst {S : Sto} {j : Nat} {ds : List D} (h : S[j]? = some (.lst ds)) : toK S (.cel j) = (treeKA (cellsK 3 S) ds).map .list := by
  unfold toK
  simp only [treeK]
  rw [show cellsK 4 S j = _ from by unfold cellsK; rw [h]]
theorem toK_dct {S : Sto} {j : Nat} {kvs : List (Key × D)} (h : S[j]? = some (.dK kvs)) : toK S (.cel j) = (treeKV (cellsK 3 S) kvs).map .dict := by
  unfold toK
  simp only [treeK]
  rw [show cellsK 4 S j = _ from by unfold cellsK; rw [h]]
end
section
variable {S : Sto} {k n : Nat}
abbrev newV (S : Sto) : Sto := S ++ [.lst []] ++ [.lst [.int 1, .lst [.int 2]]] ++ [.dK []] ++ [.dK [(.inr "a", .lst [.int 1])]] ++ [.lst [.str "a"]]
theorem f_value (hb : Box S k n) (hn : n ≤ 900000) : ∃ d S', F__law_value [.cel k] S = .ok d .tr S' ∧ Box S' k (n + 1) ∧ VK S' k d := by
  have hk := hb.lt
  have hb2 : Box (newV S) k n := by
    obtain ⟨x, y, z, e, r⟩ := hb
    refine ⟨x, y, z, ?_, r⟩
    unfold newV
    simp only [List.append_assoc]
    rw [List.getElem?_append_left hk]; exact e
  obtain ⟨r, S1, e1, r0, r1, b1, f1⟩ := f_take (m := 16) hb2 (by omega) (by decide) (by decide)
  have at_ : ∀ (j : Nat) (c : Ce), (newV S)[S.length + j]? = some c → S1[S.length + j]? = some c := fun j c h => f1.2 _ _ (by omega) h
  have g (j : Nat) : (newV S)[S.length + j]? = ([.lst [], .lst [.int 1, .lst [.int 2]], .dK [], .dK [(.inr "a", .lst [.int 1])], .lst [.str "a"]] : List Ce)[j]? := by
    unfold newV
    simp only [List.append_assoc]
    rw [List.getElem?_append_right (by omega), Nat.add_sub_cancel_left]; rfl
  have fl : ∀ (d : D) (t : Ty) (p : PyData), (∀ S, toK S d = some p) → (∀ S, tyDf S d = some t) → p.showable = true → p.depth ≤ 20 → p.shown.length ≤ 1000 → isT t .lst = false → isT t .dct = false → VK S1 k d := fun d t p h1 h2 h3 h4 h5 h6 h7 => .flat t p h1 (okw_of h3 h4 h5) h2 h6 h7
  have key : ∃ d, dIx (.lst [.non, .bl true, .bl false, .int 0, .int (-1), .int (10 ^ 29), .str (Str.ofString ""), .str (Str.ofString "a"), .str (Str.ofString "#0"), .cel S.length, .cel (S.length + 1), .cel (S.length + 2), .cel (S.length + 3), .tup [], .tup [.str (Str.ofString "#0"), .str (Str.ofString "a")], .cel (S.length + 4)]) (.int r) S1 = .ok d .tr S1 ∧ VK S1 k d := by
    have h16 : r = 0 ∨ r = 1 ∨ r = 2 ∨ r = 3 ∨ r = 4 ∨ r = 5 ∨ r = 6 ∨ r = 7 ∨ r = 8 ∨ r = 9 ∨ r = 10 ∨ r = 11 ∨ r = 12 ∨ r = 13 ∨ r = 14 ∨ r = 15 := by omega
    rcases h16 with rfl | rfl | rfl | rfl | rfl | rfl | rfl | rfl | rfl | rfl | rfl | rfl | rfl | rfl | rfl | rfl
    · exact ⟨_, rfl, fl _ .non .none (fun _ => rfl) (fun _ => rfl) (by decide +kernel) (by decide +kernel) (by decide +kernel) rfl rfl⟩
    · exact ⟨_, rfl, fl _ .bl (.bool true) (fun _ => rfl) (fun _ => rfl) (by decide +kernel) (by decide +kernel) (by decide +kernel) rfl rfl⟩
    · exact ⟨_, rfl, fl _ .bl (.bool false) (fun _ => rfl) (fun _ => rfl) (by decide +kernel) (by decide +kernel) (by decide +kernel) rfl rfl⟩
    · exact ⟨_, rfl, fl _ .int (.int 0) (fun _ => rfl) (fun _ => rfl) (by decide +kernel) (by decide +kernel) (by decide +kernel) rfl rfl⟩
    · exact ⟨_, rfl, fl _ .int (.int (-1)) (fun _ => rfl) (fun _ => rfl) (by decide +kernel) (by decide +kernel) (by decide +kernel) rfl rfl⟩
    · exact ⟨_, rfl, fl _ .int (.int (10 ^ 29)) (fun _ => rfl) (fun _ => rfl) (by decide +kernel) (by decide +kernel) (by decide +kernel) rfl rfl⟩
    · exact ⟨_, rfl, fl _ .str (.str (Str.ofString "")) (fun _ => rfl) (fun _ => rfl) (by decide +kernel) (by decide +kernel) (by decide +kernel) rfl rfl⟩
    · exact ⟨_, rfl, fl _ .str (.str (Str.ofString "a")) (fun _ => rfl) (fun _ => rfl) (by decide +kernel) (by decide +kernel) (by decide +kernel) rfl rfl⟩
    · exact ⟨_, rfl, fl _ .str (.str (Str.ofString "#0")) (fun _ => rfl) (fun _ => rfl) (by decide +kernel) (by decide +kernel) (by decide +kernel) rfl rfl⟩
    · exact ⟨_, rfl, .list (S.length + 0) [] (.list [.str (Str.ofString "late")]) rfl (by omega) (at_ 0 _ (g 0)) (by decide) (fun S' h => by rw [toK_lst h]; rfl) (okw_of (by decide +kernel) (by decide +kernel) (by decide +kernel))⟩
    · exact ⟨_, rfl, .list (S.length + 1) [.int 1, .lst [.int 2]] (.list [.int 1, .list [.int 2], .str (Str.ofString "late")]) rfl (by omega) (at_ 1 _ (g 1)) (by decide) (fun S' h => by rw [toK_lst h]; rfl) (okw_of (by decide +kernel) (by decide +kernel) (by decide +kernel))⟩
    · exact ⟨_, rfl, .dict (S.length + 2) [] (.dict [(.str (Str.ofString "late"), .int 1)]) rfl (by omega) (at_ 2 _ (g 2)) (by decide) (fun S' h => by rw [toK_dct h]; rfl) (okw_of (by decide +kernel) (by decide +kernel) (by decide +kernel))⟩
    · exact ⟨_, rfl, .dict (S.length + 3) [(.inr "a", .lst [.int 1])] (.dict [(.str (Str.ofString "a"), .list [.int 1]), (.str (Str.ofString "late"), .int 1)]) rfl (by omega) (at_ 3 _ (g 3)) (by decide) (fun S' h => by rw [toK_dct h]; rfl) (okw_of (by decide +kernel) (by decide +kernel) (by decide +kernel))⟩
    · exact ⟨_, rfl, fl _ .tup (.tuple []) (fun _ => rfl) (fun _ => rfl) (by decide +kernel) (by decide +kernel) (by decide +kernel) rfl rfl⟩
    · exact ⟨_, rfl, fl _ .tup (.tuple [.str (Str.ofString "#0"), .str (Str.ofString "a")]) (fun _ => rfl) (fun _ => rfl) (by decide +kernel) (by decide +kernel) (by decide +kernel) rfl rfl⟩
    · exact ⟨_, rfl, .list (S.length + 4) [.str "a"] (.list [.str (Str.ofString "a"), .str (Str.ofString "late")]) rfl (by omega) (at_ 4 _ (g 4)) (by decide) (fun S' h => by rw [toK_lst h]; rfl) (okw_of (by decide +kernel) (by decide +kernel) (by decide +kernel))⟩
  obtain ⟨d, ed, hv⟩ := key
  refine ⟨d, S1, ?_, b1, hv⟩
  have ep : ∀ S, dPow (.int 10) (.int 29) S = .ok (.int (10 ^ 29)) .tr S := fun S => d_pow ⟨by decide, by decide, by decide⟩
  unfold F__law_value b__law_value
  walk_at "kk"
  rw [ep]
  walk_at "kk"
  rw [d_lst (by show 16 ≤ lim; decide)]
  walk_at "kk"
  unfold newV at e1
  simp only [List.append_assoc, List.length_append, List.length_singleton, List.cons_append, List.nil_append] at e1 ⊢
  rw [e1]
  walk_at "kk"
  rw [ed]
  walk_at "kk"
end
noncomputable def lw_6 : FS := sIf (fOp (dNil true) (fLc (fEnum (fCons (fVar 4) (fNil))) (gT 2 (gsCons (gN 5) (gsCons (gN 6) (gsNil)))) (fOp (dEqv true) (fCB dReprK (fCons (fCall F__law_field [] (fCons (fVar 6) (fCons (fVar 5) (fNil)))) (fNil))) (fCB dReprK (fCons (fVar 3) (fNil)))) (fVar 5) [5, 6]) (fLst (fNil))) (sRet (fC (.bl false))) (sNext)
noncomputable def lw_5 : FS := sSeq (sIf (fIsi .dct (fVar 3)) (sDSet 3 "late" (fC (.int 1))) (sNext)) lw_6
noncomputable def lw_4 : FS := sSeq (sIf (fIsi .lst (fVar 3)) (chk 3 (sApp 3 (fC (.str "late")))) (sNext)) lw_5
noncomputable def lw_3 : FS := sSeq (sFor (fEnum (fCons (fVar 4) (fNil))) (gT 2 (gsCons (gN 5) (gsCons (gN 6) (gsNil)))) (sIf (fOr (fOp (dEqv true) (fCall F__law_kinds [] (fCons (fVar 6) (fNil))) (fLst (fCons (fVar 5) (fNil)))) (fOp (dEqv true) (fCall F__law_bases [] (fCons (fVar 6) (fNil))) (fCall F__law_due [] (fCons (fVar 5) (fNil))))) (sRet (fC (.bl false))) (sNext))) lw_4
noncomputable def lw_2 : FS := sSeq (sAsg (fCall F__law_made [] (fCons (fVar 3) (fNil))) (gN 4)) lw_3
noncomputable def lw_1 : FS := sSeq (sAsg (fCall F__law_value [] (fCons (fVar 2) (fNil))) (gN 3)) lw_2
noncomputable def lw_0 : FS := sSeq (sAsg (fAdo (fCall F__law_box [] (fCons (fCall F__law_cell [] (fCons (fVar 0) (fCons (fVar 1) (fNil)))) (fNil)))) (gN 2)) lw_1
noncomputable def bodyA : FS := sIf (fOr (fOp (dEqv true) (fCall F__law_kinds [] (fCons (fVar 6) (fNil))) (fLst (fCons (fVar 5) (fNil)))) (fOp (dEqv true) (fCall F__law_bases [] (fCons (fVar 6) (fNil))) (fCall F__law_due [] (fCons (fVar 5) (fNil))))) (sRet (fC (.bl false))) (sNext)
section
variable {S : Sto} {k n : Nat}
theorem has_celk {a0 a1 a2 t4 t5 t6 : Sl} {j : Nat} {ds : List D} (h3 : S[j]? = some (.lst ds)) : hasL 3 [a0, a1, a2, .val (.cel j), t4, t5, t6] S = true := by
  unfold hasL
  show (match (some (Sl.val (.cel j))) with | some (.own _) => true | some (.val (.cel k)) => _ | _ => false) = true
  dsimp only
  rw [h3]
theorem bodyA_ok {i : Int} {c : Nat} {es : List (Str × D)} (hc : c < 27) (h1 : kindsV c = [.int i]) (h2 : basesV c = dueV i) {a0 a1 a2 a3 a4 : Sl} : bodyA [a0, a1, a2, a3, a4, .val (.int i), .val (.exv c es)] S = .nx [a0, a1, a2, a3, a4, .val (.int i), .val (.exv c es)] S := by
  unfold bodyA
  walk_at "kk"
  rw [f_kinds hc, h1]
  walk_at "kk"
  rw [ne_one]
  walk_at "kk"
  rw [f_bases hc, h2]
  walk_at "kk"
  rw [f_due]
  walk_at "kk"
  rw [ne_due]
  walk_at "kk"
theorem enum_at {v d : D} {i : Nat} (h : (enumD (errV v))[i]? = some d) : i < 21 ∧ d = .tup [.int ((i : Nat) : Int), .exv (i + 3) [(fldN i, v)]] := by
  have hi := (List.getElem?_eq_some_iff.mp h).1
  unfold enumD errV at hi
  rw [List.length_mapIdx, List.length_map, List.length_range] at hi
  refine ⟨hi, ?_⟩
  unfold enumD errV at h
  rw [List.getElem?_mapIdx, List.getElem?_map, List.getElem?_range hi] at h
  injection h with h
  exact h.symm
theorem loopA_ok {v : D} {a0 a1 a2 t5 t6 : Sl} : ∃ u5 u6, loopS none (gT 2 (gsCons (gN 5) (gsCons (gN 6) (gsNil)))) bodyA (enumD (errV v)) [a0, a1, a2, .val v, .val (.lst (errV v)), t5, t6] S = .nx [a0, a1, a2, .val v, .val (.lst (errV v)), u5, u6] S := by
  obtain ⟨ρ', S', e, u5, u6, rfl, rfl⟩ := loop_inv (g := none) (set := gT 2 (gsCons (gN 5) (gsCons (gN 6) (gsNil)))) (ds := enumD (errV v)) (body := bodyA)
    (fun i ρ S' => ∃ u5 u6, ρ = [a0, a1, a2, .val v, .val (.lst (errV v)), u5, u6] ∧ S' = S) (fun _ _ _ _ => trivial) (by
      rintro i d ρ S1 hd ⟨u5, u6, rfl, rfl⟩
      obtain ⟨hi, rfl⟩ := enum_at hd
      refine ⟨[a0, a1, a2, .val v, .val (.lst (errV v)), .val (.int ((i : Nat) : Int)), .val (.exv (i + 3) [(fldN i, v)])], _, S1, rfl, .inl (bodyA_ok (by omega) ?_ (bd_eq i (by omega))), _, _, rfl, rfl⟩
      unfold kindsV
      rw [if_pos (by omega), Nat.add_sub_cancel]) (ρ := [a0, a1, a2, .val v, .val (.lst (errV v)), t5, t6]) (S := S) ⟨_, _, rfl, rfl⟩
  exact ⟨u5, u6, e⟩
theorem enum_len (v : D) : (enumD (errV v)).length = 21 := by
  unfold enumD errV
  rw [List.length_mapIdx, List.length_map, List.length_range]
theorem r_6 {v : D} {p : PyData} (h : toK S v = some p) (ok : Okw p) {a0 a1 a2 t5 t6 : Sl} : lw_6 [a0, a1, a2, .val v, .val (.lst (errV v)), t5, t6] S = .nx [a0, a1, a2, .val v, .val (.lst (errV v)), t5, t6] S := by
  have lc : fLc (fEnum (fCons (fVar 4) (fNil))) (gT 2 (gsCons (gN 5) (gsCons (gN 6) (gsNil)))) (fOp (dEqv true) (fCB dReprK (fCons (fCall F__law_field [] (fCons (fVar 6) (fCons (fVar 5) (fNil)))) (fNil))) (fCB dReprK (fCons (fVar 3) (fNil)))) (fVar 5) [5, 6] [a0, a1, a2, .val v, .val (.lst (errV v)), t5, t6] S = .ok (.lst (((enumD (errV v)).filter fun _ => false).map id)) .fs S := by
    refine lc_flat (S1 := S) (ds := enumD (errV v)) (g := none) (by
      generalize errV v = L
      walk_at "kk") trivial (by rw [enum_len]; decide) (fun d hd => ?_)
    obtain ⟨i, hi, hd⟩ := List.getElem_of_mem hd
    obtain ⟨hi, rfl⟩ := enum_at (List.getElem?_eq_some_iff.mpr ⟨hi, hd⟩)
    refine ⟨[a0, a1, a2, .val v, .val (.lst (errV v)), .val (.int ((i : Nat) : Int)), .val (.exv (i + 3) [(fldN i, v)])], .tr, rfl, ?_, fun z => by cases z⟩
    have ef := f_field (S := S) hi (v := v)
    generalize errV v = L
    walk_at "kk"
    rw [ef]
    walk_at "kk"
    rw [d_reprK h ok]
    walk_at "kk"
    rw [d_reprK h ok]
    walk_at "kk"
  rw [show ((enumD (errV v)).filter fun _ => false).map id = [] by simp] at lc
  generalize errV v = L at lc ⊢
  unfold lw_6
  walk_at "kk"
  rw [lc]
  walk_at "kk"
  rw [show (!([] : List D).isEmpty) = false from rfl]
  walk_at "kk"
theorem r_4 {v : D} (h : VK S k v) {a0 a1 a2 t5 t6 : Sl} : ∃ S', lw_4 [a0, a1, a2, .val v, .val (.lst (errV v)), t5, t6] S = .nx [a0, a1, a2, .val v, .val (.lst (errV v)), t5, t6] S' := by
  cases h with
  | flat t p h1 h2 h3 h4 h5 =>
    refine ⟨S, ?_⟩
    have e6 := r_6 (h1 S) h2 (a0 := a0) (a1 := a1) (a2 := a2) (t5 := t5) (t6 := t6)
    generalize errV v = L at e6 ⊢
    unfold lw_4
    walk_at "kk"
    rw [h3 S]
    walk_at "kk"
    rw [decide_eq_false (show ¬ t = Ty.lst from fun z => by subst z; exact absurd h4 (by decide))]
    walk_at "kk"
    unfold lw_5
    walk_at "kk"
    rw [h3 S]
    walk_at "kk"
    rw [decide_eq_false (show ¬ t = Ty.dct from fun z => by subst z; exact absurd h5 (by decide))]
    walk_at "kk"
    exact e6
  | list j ds p h1 h2 h3 h4 h5 h6 =>
    subst h1
    have hs : (S.set j (.lst (ds ++ [.str (Str.ofString "late")])))[j]? = some (.lst (ds ++ [.str (Str.ofString "late")])) := by rw [List.getElem?_set_self (List.getElem?_eq_some_iff.mp h3).1]
    have e6 := r_6 (h5 _ hs) h6 (a0 := a0) (a1 := a1) (a2 := a2) (t5 := t5) (t6 := t6)
    refine ⟨S.set j (.lst (ds ++ [.str (Str.ofString "late")])), ?_⟩
    · generalize errV (.cel j) = L at e6 ⊢
      have ty1 : tyDf S (.cel j) = some .lst := by unfold tyDf; dsimp only; rw [h3]
      have ty2 : tyDf (S.set j (.lst (ds ++ [.str (Str.ofString "late")]))) (.cel j) = some .lst := by unfold tyDf; dsimp only; rw [hs]
      have hx : hasL 3 [a0, a1, a2, .val (.cel j), .val (.lst L), t5, t6] S = true := has_celk h3
      unfold lw_4
      walk_at "kk"
      rw [ty1]
      walk_at "kk"
      rw [v_chk hx]
      walk_at "kk"
      rw [v_app2 (ds := ds) rfl rfl h3 (Nat.lt_trans h4 (by decide))]
      walk_at "kk"
      unfold lw_5
      walk_at "kk"
      rw [ty2]
      walk_at "kk"
      exact e6
  | dict j kvs p h1 h2 h3 h4 h5 h6 =>
    subst h1
    have hs : (S.set j (.dK (putKD kvs (.inr (Str.ofString "late")) (.int 1))))[j]? = some (.dK (putKD kvs (.inr (Str.ofString "late")) (.int 1))) := by rw [List.getElem?_set_self (List.getElem?_eq_some_iff.mp h3).1]
    have e6 := r_6 (h5 _ hs) h6 (a0 := a0) (a1 := a1) (a2 := a2) (t5 := t5) (t6 := t6)
    refine ⟨S.set j (.dK (putKD kvs (.inr (Str.ofString "late")) (.int 1))), ?_⟩
    · generalize errV (.cel j) = L at e6 ⊢
      have ty1 : tyDf S (.cel j) = some .dct := by unfold tyDf; dsimp only; rw [h3]
      unfold lw_4
      walk_at "kk"
      rw [ty1]
      walk_at "kk"
      unfold lw_5
      walk_at "kk"
      rw [ty1]
      walk_at "kk"
      rw [v_dset1 (kvs := kvs) rfl rfl h3 (Nat.lt_trans h4 (by decide))]
      walk_at "kk"
      exact e6
end
noncomputable def bodyB : FS := sIf (fOr (fOp (dNil true) (fCall F__law_kinds [] (fCons (fVar 6) (fNil))) (fLst (fNil))) (fOp (dEqv true) (fCall F__law_bases [] (fCons (fVar 6) (fNil))) (fCall F__law_due [] (fCons (fOp dIx (fLst (fCons (fC (.int 0)) (fCons (fC (.int 17)) (fCons (fC (.int 21)) (fNil))))) (fVar 5)) (fNil))))) (sRet (fC (.bl false))) (sNext)
section
variable {S : Sto} {k n : Nat}
theorem bodyB_ok {i : Int} {c : Nat} {m : Int} {es : List (Str × D)} (hc : c < 27) (h1 : kindsV c = []) (h2 : basesV c = dueV m) (h3 : ∀ S, dIx (.lst [.int 0, .int 17, .int 21]) (.int i) S = .ok (.int m) .tr S) {a0 a1 a2 a3 a4 : Sl} : bodyB [a0, a1, a2, a3, a4, .val (.int i), .val (.exv c es)] S = .nx [a0, a1, a2, a3, a4, .val (.int i), .val (.exv c es)] S := by
  unfold bodyB
  walk_at "kk"
  rw [f_kinds hc, h1]
  walk_at "kk"
  rw [show (!([] : List D).isEmpty) = false from rfl]
  walk_at "kk"
  rw [f_bases hc, h2]
  walk_at "kk"
  rw [h3]
  walk_at "kk"
  rw [f_due]
  walk_at "kk"
  rw [ne_due]
  walk_at "kk"
abbrev g56 : FG := gT 2 (gsCons (gN 5) (gsCons (gN 6) (gsNil)))
theorem lp1 {a0 a1 a2 a3 a4 t5 t6 : Sl} : ∃ u5 u6, loopS none g56 bodyA [.tup [.int 21, .exv 24 []], .tup [.int 22, .exv 25 []], .tup [.int 23, .exv 26 []]] [a0, a1, a2, a3, a4, t5, t6] S = .nx [a0, a1, a2, a3, a4, u5, u6] S := by
  refine ⟨.val (.int 23), .val (.exv 26 []), (loop_step (g := none) (ρ1 := [a0, a1, a2, a3, a4, .val (.int 21), .val (.exv 24 [])]) trivial rfl (bodyA_ok (by decide) rfl (bd_eq 21 (by decide)))).trans ?_⟩
  refine (loop_step (g := none) (ρ1 := [a0, a1, a2, a3, a4, .val (.int 22), .val (.exv 25 [])]) trivial rfl (bodyA_ok (by decide) rfl (bd_eq 22 (by decide)))).trans ?_
  refine (loop_step (g := none) (ρ1 := [a0, a1, a2, a3, a4, .val (.int 23), .val (.exv 26 [])]) trivial rfl (bodyA_ok (by decide) rfl (bd_eq 23 (by decide)))).trans ?_
  exact loop_end (g := none) trivial
theorem lp2 {a0 a1 a2 a3 a4 t5 t6 : Sl} : ∃ u5 u6, loopS none g56 bodyB (enumD [.exv 0 [], .exv 1 [], .exv 2 []]) [a0, a1, a2, a3, a4, t5, t6] S = .nx [a0, a1, a2, a3, a4, u5, u6] S := by
  rw [show enumD [.exv 0 [], .exv 1 [], .exv 2 []] = [.tup [.int 0, .exv 0 []], .tup [.int 1, .exv 1 []], .tup [.int 2, .exv 2 []]] from rfl]
  refine ⟨.val (.int 2), .val (.exv 2 []), (loop_step (g := none) (ρ1 := [a0, a1, a2, a3, a4, .val (.int 0), .val (.exv 0 [])]) trivial rfl (bodyB_ok (m := 0) (by decide) rfl rfl fun S => d_ix_lst (pick_at (i := 0) rfl))).trans ?_⟩
  refine (loop_step (g := none) (ρ1 := [a0, a1, a2, a3, a4, .val (.int 1), .val (.exv 1 [])]) trivial rfl (bodyB_ok (m := 17) (by decide) rfl rfl fun S => d_ix_lst (pick_at (i := 1) rfl))).trans ?_
  refine (loop_step (g := none) (ρ1 := [a0, a1, a2, a3, a4, .val (.int 2), .val (.exv 2 [])]) trivial rfl (bodyB_ok (m := 21) (by decide) rfl rfl fun S => d_ix_lst (pick_at (i := 2) rfl))).trans ?_
  exact loop_end (g := none) trivial
theorem tail2 {a0 a1 a2 a3 a4 t5 t6 : Sl} : b_law_2 [a0, a1, a2, a3, a4, t5, t6] S = .rt (.bl true) .tr S := by
  obtain ⟨u5, u6, e⟩ := lp2 (S := S) (a0 := a0) (a1 := a1) (a2 := a2) (a3 := a3) (a4 := a4) (t5 := t5) (t6 := t6)
  unfold b_law_2
  walk_at "kk"
  refine Eq.trans (congrArg (fun r => bS r b_law_3) e) ?_
  walk_at "kk"
  unfold b_law_3
  walk_at "kk"
theorem tail1 {a0 a1 a2 a3 a4 t5 t6 : Sl} : b_law_1 [a0, a1, a2, a3, a4, t5, t6] S = .rt (.bl true) .tr S := by
  obtain ⟨u5, u6, e⟩ := lp1 (S := S) (a0 := a0) (a1 := a1) (a2 := a2) (a3 := a3) (a4 := a4) (t5 := t5) (t6 := t6)
  unfold b_law_1
  walk_at "kk"
  refine Eq.trans (congrArg (fun r => bS r b_law_2) e) ?_
  walk_at "kk"
  exact tail2
theorem turn_ok {ns : List Int} {i : Nat} (hi : i ≤ 100) {s1 s2 s3 s4 s5 s6 : Sl} : ∃ ρ' S', lw_0 [.val (.fro true (intsD ns)), .val (.int ((i : Nat) : Int)), s2, s3, s4, s5, s6] S = .nx ρ' S' ∧ ∃ t1 t2 t3 t4 t5 t6, ρ' = [.val (.fro true (intsD ns)), t1, t2, t3, t4, t5, t6] := by
  obtain ⟨c, ec⟩ := f_cell (ns := ns) (k := ((i : Nat) : Int)) (S := S) (by omega) (by omega)
  obtain ⟨ds, ep, x, y, rfl, hx, hy, hy2⟩ := f_purse (c := c) (S := S)
  have hb : Box (S ++ [.lst [.int x, .int y, .int 0]]) S.length 0 := ⟨x, y, 0, by rw [List.getElem?_append_right (Nat.le_refl _), Nat.sub_self]; rfl, hx, hy, hy2, by decide, by decide⟩
  obtain ⟨v, S2, e2, b2, hv⟩ := f_value hb (by decide)
  obtain ⟨u5, u6, e3⟩ := loopA_ok (S := S2) (v := v) (a0 := .val (.fro true (intsD ns))) (a1 := .val (.int ((i : Nat) : Int))) (a2 := .val (.cel S.length)) (t5 := s5) (t6 := s6)
  obtain ⟨S3, e4⟩ := r_4 hv (a0 := .val (.fro true (intsD ns))) (a1 := .val (.int ((i : Nat) : Int))) (a2 := .val (.cel S.length)) (t5 := u5) (t6 := u6)
  have em := f_made (S := S2) (v := v)
  refine ⟨[.val (.fro true (intsD ns)), .val (.int ((i : Nat) : Int)), .val (.cel S.length), .val v, .val (.lst (errV v)), u5, u6], S3, ?_, _, _, _, _, _, _, rfl⟩
  generalize errV v = L at e3 e4 em ⊢
  unfold lw_0
  walk_at "kk"
  rw [ec]
  walk_at "kk"
  rw [ep]
  walk_at "kk"
  unfold lw_1
  walk_at "kk"
  rw [e2]
  walk_at "kk"
  unfold lw_2
  walk_at "kk"
  rw [em]
  walk_at "kk"
  unfold lw_3
  walk_at "kk"
  refine Eq.trans (congrArg (fun r => bS r lw_4) e3) ?_
  walk_at "kk"
  exact e4
end
theorem law_true (ns : List Int) (hl : ns.length ≤ 63) : ∃ fl S', F_law [.fro true (intsD ns)] [] = .ok (.bl true) fl S' := by
  unfold F_law b_law
  walk_at "kk"
  have hil : (intsD ns).length ≤ 63 := by unfold intsD; rw [List.length_map]; exact hl
  generalize hN : (if (if ((intsD ns).length : Int) < 12 then ((intsD ns).length : Int) else 12) > 1 then (if ((intsD ns).length : Int) < 12 then ((intsD ns).length : Int) else 12) else 1) = N
  have hN' : 0 ≤ N ∧ N ≤ 32 := by rw [← hN]; split <;> split <;> omega
  rw [v_rng1a (by omega) (by omega)]
  walk_at "kk"
  obtain ⟨ρ', S', e, s1, s2, s3, s4, s5, s6, rfl⟩ := loop_inv (g := none) (set := gN 1) (ds := rngD 0 N.toNat) (body := lw_0)
    (fun i ρ S' => ∃ s1 s2 s3 s4 s5 s6, ρ = [.val (.fro true (intsD ns)), s1, s2, s3, s4, s5, s6]) (fun _ _ _ _ => trivial) (by
      rintro i d ρ S1 hd ⟨s1, s2, s3, s4, s5, s6, rfl⟩
      have hi := (List.getElem?_eq_some_iff.mp hd).1
      rw [rng_len] at hi
      rw [rng_at hi] at hd
      cases hd
      rw [Int.zero_add]
      obtain ⟨ρ2, S2, e2, h2⟩ := turn_ok (ns := ns) (i := i) (S := S1) (by omega) (s1 := s1) (s2 := s2) (s3 := s3) (s4 := s4) (s5 := s5) (s6 := s6)
      exact ⟨_, ρ2, S2, rfl, .inl e2, h2⟩) (ρ := [.val (.fro true (intsD ns)), .no, .no, .no, .no, .no, .no]) (S := []) ⟨_, _, _, _, _, _, rfl⟩
  refine ⟨.tr, S', ?_⟩
  refine Eq.trans (congrArg (fun r => kNox (kRun (bS r b_law_1))) e) ?_
  walk_at "kk"
  rw [tail1]
  walk_at "kk"
theorem all_mk {l : PySem.W.OpenLaw} {w : World} {K : PySem.W.Frag} {h : Heap} {mg : Str → Option Value} {fa : Addr} (X : K.In h) (G : h.Ns mainGlobals mg) (hfa : mg "law" = some (.ref fa))
    {C0 : Addr}
    {C1 : Addr}
    {C2 : Addr}
    {C3 : Addr}
    {C4 : Addr}
    {C5 : Addr}
    {C6 : Addr}
    {C7 : Addr}
    {C8 : Addr}
    {C9 : Addr}
    {C10 : Addr}
    {C11 : Addr}
    {C12 : Addr}
    {C13 : Addr}
    {C14 : Addr}
    {C15 : Addr}
    {C16 : Addr}
    {C17 : Addr}
    {C18 : Addr}
    {C19 : Addr}
    {C20 : Addr}
    {C21 : Addr}
    {C22 : Addr}
    {C23 : Addr}
    {C24 : Addr}
    {C25 : Addr}
    {C26 : Addr}
    {f0 : Addr} {od0 an0 : Option Addr} {sl0 : Array (Option Value)} {oc0 dc0 pm0 cd0 ct0 : Value} {kV0 : Value}
    {f1 : Addr} {od1 an1 : Option Addr} {sl1 : Array (Option Value)} {oc1 dc1 pm1 cd1 ct1 : Value} {kV1 : Value}
    {f2 : Addr} {od2 an2 : Option Addr} {sl2 : Array (Option Value)} {oc2 dc2 pm2 cd2 ct2 : Value} {kV2 : Value}
    {f3 : Addr} {od3 an3 : Option Addr} {sl3 : Array (Option Value)} {oc3 dc3 pm3 cd3 ct3 : Value} {kV3 : Value}
    {f4 : Addr} {od4 an4 : Option Addr} {sl4 : Array (Option Value)} {oc4 dc4 pm4 cd4 ct4 : Value} {kV4 : Value}
    {f5 : Addr} {od5 an5 : Option Addr} {sl5 : Array (Option Value)} {oc5 dc5 pm5 cd5 ct5 : Value} {kV5 : Value}
    {f6 : Addr} {od6 an6 : Option Addr} {sl6 : Array (Option Value)} {oc6 dc6 pm6 cd6 ct6 : Value} {kV6 : Value}
    {f7 : Addr} {od7 an7 : Option Addr} {sl7 : Array (Option Value)} {oc7 dc7 pm7 cd7 ct7 : Value} {kV7 : Value}
    {f8 : Addr} {od8 an8 : Option Addr} {sl8 : Array (Option Value)} {oc8 dc8 pm8 cd8 ct8 : Value} {kV8 : Value}
    {f9 : Addr} {od9 an9 : Option Addr} {sl9 : Array (Option Value)} {oc9 dc9 pm9 cd9 ct9 : Value} {kV9 : Value}
    {nm3 q3 : Str} {NN3 : Addr} {bs3 : List Value} {sn3 : List Str} {sub3 : List Value} {ab3 : Bool} {col3 : Option Bool} {dd3 : Option Addr} {m03 m13 m23 m33 m53 : Option Value}
    {f10 : Addr} {od10 an10 : Option Addr} {sl10 : Array (Option Value)} {oc10 kV10 dc10 pm10 cd10 ct10 : Value}
    {nm4 q4 : Str} {NN4 : Addr} {bs4 : List Value} {sn4 : List Str} {sub4 : List Value} {ab4 : Bool} {col4 : Option Bool} {dd4 : Option Addr} {m04 m14 m24 m34 m54 : Option Value}
    {f11 : Addr} {od11 an11 : Option Addr} {sl11 : Array (Option Value)} {oc11 kV11 dc11 pm11 cd11 ct11 : Value}
    {nm5 q5 : Str} {NN5 : Addr} {bs5 : List Value} {sn5 : List Str} {sub5 : List Value} {ab5 : Bool} {col5 : Option Bool} {dd5 : Option Addr} {m05 m15 m25 m35 m55 : Option Value}
    {f12 : Addr} {od12 an12 : Option Addr} {sl12 : Array (Option Value)} {oc12 kV12 dc12 pm12 cd12 ct12 : Value}
    {nm6 q6 : Str} {NN6 : Addr} {bs6 : List Value} {sn6 : List Str} {sub6 : List Value} {ab6 : Bool} {col6 : Option Bool} {dd6 : Option Addr} {m06 m16 m26 m36 m56 : Option Value}
    {f13 : Addr} {od13 an13 : Option Addr} {sl13 : Array (Option Value)} {oc13 kV13 dc13 pm13 cd13 ct13 : Value}
    {nm7 q7 : Str} {NN7 : Addr} {bs7 : List Value} {sn7 : List Str} {sub7 : List Value} {ab7 : Bool} {col7 : Option Bool} {dd7 : Option Addr} {m07 m17 m27 m37 m57 : Option Value}
    {f14 : Addr} {od14 an14 : Option Addr} {sl14 : Array (Option Value)} {oc14 kV14 dc14 pm14 cd14 ct14 : Value}
    {nm8 q8 : Str} {NN8 : Addr} {bs8 : List Value} {sn8 : List Str} {sub8 : List Value} {ab8 : Bool} {col8 : Option Bool} {dd8 : Option Addr} {m08 m18 m28 m38 m58 : Option Value}
    {f15 : Addr} {od15 an15 : Option Addr} {sl15 : Array (Option Value)} {oc15 kV15 dc15 pm15 cd15 ct15 : Value}
    {nm9 q9 : Str} {NN9 : Addr} {bs9 : List Value} {sn9 : List Str} {sub9 : List Value} {ab9 : Bool} {col9 : Option Bool} {dd9 : Option Addr} {m09 m19 m29 m39 m59 : Option Value}
    {f16 : Addr} {od16 an16 : Option Addr} {sl16 : Array (Option Value)} {oc16 kV16 dc16 pm16 cd16 ct16 : Value}
    {nm10 q10 : Str} {NN10 : Addr} {bs10 : List Value} {sn10 : List Str} {sub10 : List Value} {ab10 : Bool} {col10 : Option Bool} {dd10 : Option Addr} {m010 m110 m210 m310 m510 : Option Value}
    {f17 : Addr} {od17 an17 : Option Addr} {sl17 : Array (Option Value)} {oc17 kV17 dc17 pm17 cd17 ct17 : Value}
    {nm11 q11 : Str} {NN11 : Addr} {bs11 : List Value} {sn11 : List Str} {sub11 : List Value} {ab11 : Bool} {col11 : Option Bool} {dd11 : Option Addr} {m011 m111 m211 m311 m511 : Option Value}
    {f18 : Addr} {od18 an18 : Option Addr} {sl18 : Array (Option Value)} {oc18 kV18 dc18 pm18 cd18 ct18 : Value}
    {nm12 q12 : Str} {NN12 : Addr} {bs12 : List Value} {sn12 : List Str} {sub12 : List Value} {ab12 : Bool} {col12 : Option Bool} {dd12 : Option Addr} {m012 m112 m212 m312 m512 : Option Value}
    {f19 : Addr} {od19 an19 : Option Addr} {sl19 : Array (Option Value)} {oc19 kV19 dc19 pm19 cd19 ct19 : Value}
    {nm13 q13 : Str} {NN13 : Addr} {bs13 : List Value} {sn13 : List Str} {sub13 : List Value} {ab13 : Bool} {col13 : Option Bool} {dd13 : Option Addr} {m013 m113 m213 m313 m513 : Option Value}
    {f20 : Addr} {od20 an20 : Option Addr} {sl20 : Array (Option Value)} {oc20 kV20 dc20 pm20 cd20 ct20 : Value}
    {nm14 q14 : Str} {NN14 : Addr} {bs14 : List Value} {sn14 : List Str} {sub14 : List Value} {ab14 : Bool} {col14 : Option Bool} {dd14 : Option Addr} {m014 m114 m214 m314 m514 : Option Value}
    {f21 : Addr} {od21 an21 : Option Addr} {sl21 : Array (Option Value)} {oc21 kV21 dc21 pm21 cd21 ct21 : Value}
    {nm15 q15 : Str} {NN15 : Addr} {bs15 : List Value} {sn15 : List Str} {sub15 : List Value} {ab15 : Bool} {col15 : Option Bool} {dd15 : Option Addr} {m015 m115 m215 m315 m515 : Option Value}
    {f22 : Addr} {od22 an22 : Option Addr} {sl22 : Array (Option Value)} {oc22 kV22 dc22 pm22 cd22 ct22 : Value}
    {nm16 q16 : Str} {NN16 : Addr} {bs16 : List Value} {sn16 : List Str} {sub16 : List Value} {ab16 : Bool} {col16 : Option Bool} {dd16 : Option Addr} {m016 m116 m216 m316 m516 : Option Value}
    {f23 : Addr} {od23 an23 : Option Addr} {sl23 : Array (Option Value)} {oc23 kV23 dc23 pm23 cd23 ct23 : Value}
    {nm17 q17 : Str} {NN17 : Addr} {bs17 : List Value} {sn17 : List Str} {sub17 : List Value} {ab17 : Bool} {col17 : Option Bool} {dd17 : Option Addr} {m017 m117 m217 m317 m517 : Option Value}
    {f24 : Addr} {od24 an24 : Option Addr} {sl24 : Array (Option Value)} {oc24 kV24 dc24 pm24 cd24 ct24 : Value}
    {nm18 q18 : Str} {NN18 : Addr} {bs18 : List Value} {sn18 : List Str} {sub18 : List Value} {ab18 : Bool} {col18 : Option Bool} {dd18 : Option Addr} {m018 m118 m218 m318 m518 : Option Value}
    {f25 : Addr} {od25 an25 : Option Addr} {sl25 : Array (Option Value)} {oc25 kV25 dc25 pm25 cd25 ct25 : Value}
    {nm19 q19 : Str} {NN19 : Addr} {bs19 : List Value} {sn19 : List Str} {sub19 : List Value} {ab19 : Bool} {col19 : Option Bool} {dd19 : Option Addr} {m019 m119 m219 m319 m519 : Option Value}
    {f26 : Addr} {od26 an26 : Option Addr} {sl26 : Array (Option Value)} {oc26 kV26 dc26 pm26 cd26 ct26 : Value}
    {nm20 q20 : Str} {NN20 : Addr} {bs20 : List Value} {sn20 : List Str} {sub20 : List Value} {ab20 : Bool} {col20 : Option Bool} {dd20 : Option Addr} {m020 m120 m220 m320 m520 : Option Value}
    {f27 : Addr} {od27 an27 : Option Addr} {sl27 : Array (Option Value)} {oc27 kV27 dc27 pm27 cd27 ct27 : Value}
    {nm21 q21 : Str} {NN21 : Addr} {bs21 : List Value} {sn21 : List Str} {sub21 : List Value} {ab21 : Bool} {col21 : Option Bool} {dd21 : Option Addr} {m021 m121 m221 m321 m521 : Option Value}
    {f28 : Addr} {od28 an28 : Option Addr} {sl28 : Array (Option Value)} {oc28 kV28 dc28 pm28 cd28 ct28 : Value}
    {nm22 q22 : Str} {NN22 : Addr} {bs22 : List Value} {sn22 : List Str} {sub22 : List Value} {ab22 : Bool} {col22 : Option Bool} {dd22 : Option Addr} {m022 m122 m222 m322 m522 : Option Value}
    {f29 : Addr} {od29 an29 : Option Addr} {sl29 : Array (Option Value)} {oc29 kV29 dc29 pm29 cd29 ct29 : Value}
    {nm23 q23 : Str} {NN23 : Addr} {bs23 : List Value} {sn23 : List Str} {sub23 : List Value} {ab23 : Bool} {col23 : Option Bool} {dd23 : Option Addr} {m023 m123 m223 m323 m523 : Option Value}
    {f30 : Addr} {od30 an30 : Option Addr} {sl30 : Array (Option Value)} {oc30 kV30 dc30 pm30 cd30 ct30 : Value}
    {nm24 q24 : Str} {NN24 : Addr} {bs24 : List Value} {sn24 : List Str} {sub24 : List Value} {ab24 : Bool} {col24 : Option Bool} {dd24 : Option Addr} {m024 m124 m224 m324 m524 : Option Value}
    {f31 : Addr} {od31 an31 : Option Addr} {sl31 : Array (Option Value)} {oc31 kV31 dc31 pm31 cd31 ct31 : Value}
    {nm25 q25 : Str} {NN25 : Addr} {bs25 : List Value} {sn25 : List Str} {sub25 : List Value} {ab25 : Bool} {col25 : Option Bool} {dd25 : Option Addr} {m025 m125 m225 m325 m525 : Option Value}
    {f32 : Addr} {od32 an32 : Option Addr} {sl32 : Array (Option Value)} {oc32 kV32 dc32 pm32 cd32 ct32 : Value}
    {nm26 q26 : Str} {NN26 : Addr} {bs26 : List Value} {sn26 : List Str} {sub26 : List Value} {ab26 : Bool} {col26 : Option Bool} {dd26 : Option Addr} {m026 m126 m226 m326 m526 : Option Value}
    {f33 : Addr} {od33 an33 : Option Addr} {sl33 : Array (Option Value)} {oc33 kV33 dc33 pm33 cd33 ct33 : Value}
    {nm1 q1 : Str} {NN1 : Addr} {bs1 : List Value} {sn1 : List Str} {sub1 : List Value} {ab1 : Bool} {col1 : Option Bool} {dd1 : Option Addr} {m01 m11 m21 m31 m51 : Option Value}
    (gC0 : PySem.W.nsIn K mainGlobals "ReflowError" = some (some (.ref C0)))
    (gC1 : PySem.W.nsIn K mainGlobals "AbsentError" = some (some (.ref C1)))
    (gC2 : PySem.W.nsIn K mainGlobals "StateError" = some (some (.ref C2)))
    (gC3 : PySem.W.nsIn K mainGlobals "InvalidMark" = some (some (.ref C3)))
    (gC4 : PySem.W.nsIn K mainGlobals "InvalidMarks" = some (some (.ref C4)))
    (gC5 : PySem.W.nsIn K mainGlobals "InvalidWords" = some (some (.ref C5)))
    (gC6 : PySem.W.nsIn K mainGlobals "InvalidText" = some (some (.ref C6)))
    (gC7 : PySem.W.nsIn K mainGlobals "InvalidStep" = some (some (.ref C7)))
    (gC8 : PySem.W.nsIn K mainGlobals "InvalidChain" = some (some (.ref C8)))
    (gC9 : PySem.W.nsIn K mainGlobals "InvalidStock" = some (some (.ref C9)))
    (gC10 : PySem.W.nsIn K mainGlobals "InvalidInteger" = some (some (.ref C10)))
    (gC11 : PySem.W.nsIn K mainGlobals "InvalidState" = some (some (.ref C11)))
    (gC12 : PySem.W.nsIn K mainGlobals "InvalidRow" = some (some (.ref C12)))
    (gC13 : PySem.W.nsIn K mainGlobals "InvalidChange" = some (some (.ref C13)))
    (gC14 : PySem.W.nsIn K mainGlobals "InvalidName" = some (some (.ref C14)))
    (gC15 : PySem.W.nsIn K mainGlobals "InvalidLine" = some (some (.ref C15)))
    (gC16 : PySem.W.nsIn K mainGlobals "InvalidLines" = some (some (.ref C16)))
    (gC17 : PySem.W.nsIn K mainGlobals "NotOver" = some (some (.ref C17)))
    (gC18 : PySem.W.nsIn K mainGlobals "InvalidPage" = some (some (.ref C18)))
    (gC19 : PySem.W.nsIn K mainGlobals "TooMany" = some (some (.ref C19)))
    (gC20 : PySem.W.nsIn K mainGlobals "NoStep" = some (some (.ref C20)))
    (gC21 : PySem.W.nsIn K mainGlobals "NoLetter" = some (some (.ref C21)))
    (gC22 : PySem.W.nsIn K mainGlobals "NoInput" = some (some (.ref C22)))
    (gC23 : PySem.W.nsIn K mainGlobals "NoChain" = some (some (.ref C23)))
    (gC24 : PySem.W.nsIn K mainGlobals "NoStock" = some (some (.ref C24)))
    (gC25 : PySem.W.nsIn K mainGlobals "NothingToUndo" = some (some (.ref C25)))
    (gC26 : PySem.W.nsIn K mainGlobals "NothingToRedo" = some (some (.ref C26)))
    (a0 : PySem.W.nsIn K mainGlobals "_law_cell" = some (some (.ref f0)))
    (l0 : K.lookup f0 = some ⟨oc0, od0, .func (PySem.W.fnOf "_law_cell" "_law_cell" (defArgs s__law_cell) (defBody s__law_cell) (defScope s__law_cell) .none kV0 dc0 pm0 an0 cd0 ct0), sl0⟩)
    (c0 : PySem.W.codeIn K cd0 "_law_cell" = true)
    (k0 : PySem.W.keepIn K (.ref f0) = true)
    (a1 : PySem.W.nsIn K mainGlobals "_law_box" = some (some (.ref f1)))
    (l1 : K.lookup f1 = some ⟨oc1, od1, .func (PySem.W.fnOf "_law_box" "_law_box" (defArgs s__law_box) (defBody s__law_box) (defScope s__law_box) .none kV1 dc1 pm1 an1 cd1 ct1), sl1⟩)
    (c1 : PySem.W.codeIn K cd1 "_law_box" = true)
    (k1 : PySem.W.keepIn K (.ref f1) = true)
    (a2 : PySem.W.nsIn K mainGlobals "_law_take" = some (some (.ref f2)))
    (l2 : K.lookup f2 = some ⟨oc2, od2, .func (PySem.W.fnOf "_law_take" "_law_take" (defArgs s__law_take) (defBody s__law_take) (defScope s__law_take) .none kV2 dc2 pm2 an2 cd2 ct2), sl2⟩)
    (c2 : PySem.W.codeIn K cd2 "_law_take" = true)
    (k2 : PySem.W.keepIn K (.ref f2) = true)
    (a3 : PySem.W.nsIn K mainGlobals "_law_value" = some (some (.ref f3)))
    (l3 : K.lookup f3 = some ⟨oc3, od3, .func (PySem.W.fnOf "_law_value" "_law_value" (defArgs s__law_value) (defBody s__law_value) (defScope s__law_value) .none kV3 dc3 pm3 an3 cd3 ct3), sl3⟩)
    (c3 : PySem.W.codeIn K cd3 "_law_value" = true)
    (k3 : PySem.W.keepIn K (.ref f3) = true)
    (a4 : PySem.W.nsIn K mainGlobals "_law_made" = some (some (.ref f4)))
    (l4 : K.lookup f4 = some ⟨oc4, od4, .func (PySem.W.fnOf "_law_made" "_law_made" (defArgs s__law_made) (defBody s__law_made) (defScope s__law_made) .none kV4 dc4 pm4 an4 cd4 ct4), sl4⟩)
    (c4 : PySem.W.codeIn K cd4 "_law_made" = true)
    (k4 : PySem.W.keepIn K (.ref f4) = true)
    (a5 : PySem.W.nsIn K mainGlobals "_law_field" = some (some (.ref f5)))
    (l5 : K.lookup f5 = some ⟨oc5, od5, .func (PySem.W.fnOf "_law_field" "_law_field" (defArgs s__law_field) (defBody s__law_field) (defScope s__law_field) .none kV5 dc5 pm5 an5 cd5 ct5), sl5⟩)
    (c5 : PySem.W.codeIn K cd5 "_law_field" = true)
    (k5 : PySem.W.keepIn K (.ref f5) = true)
    (a6 : PySem.W.nsIn K mainGlobals "_law_kinds" = some (some (.ref f6)))
    (l6 : K.lookup f6 = some ⟨oc6, od6, .func (PySem.W.fnOf "_law_kinds" "_law_kinds" (defArgs s__law_kinds) (defBody s__law_kinds) (defScope s__law_kinds) .none kV6 dc6 pm6 an6 cd6 ct6), sl6⟩)
    (c6 : PySem.W.codeIn K cd6 "_law_kinds" = true)
    (k6 : PySem.W.keepIn K (.ref f6) = true)
    (a7 : PySem.W.nsIn K mainGlobals "_law_bases" = some (some (.ref f7)))
    (l7 : K.lookup f7 = some ⟨oc7, od7, .func (PySem.W.fnOf "_law_bases" "_law_bases" (defArgs s__law_bases) (defBody s__law_bases) (defScope s__law_bases) .none kV7 dc7 pm7 an7 cd7 ct7), sl7⟩)
    (c7 : PySem.W.codeIn K cd7 "_law_bases" = true)
    (k7 : PySem.W.keepIn K (.ref f7) = true)
    (a8 : PySem.W.nsIn K mainGlobals "_law_due" = some (some (.ref f8)))
    (l8 : K.lookup f8 = some ⟨oc8, od8, .func (PySem.W.fnOf "_law_due" "_law_due" (defArgs s__law_due) (defBody s__law_due) (defScope s__law_due) .none kV8 dc8 pm8 an8 cd8 ct8), sl8⟩)
    (c8 : PySem.W.codeIn K cd8 "_law_due" = true)
    (k8 : PySem.W.keepIn K (.ref f8) = true)
    (a9 : PySem.W.nsIn K mainGlobals "law" = some (some (.ref f9)))
    (l9 : K.lookup f9 = some ⟨oc9, od9, .func (PySem.W.fnOf "law" "law" (defArgs s_law) (defBody s_law) (defScope s_law) .none kV9 dc9 pm9 an9 cd9 ct9), sl9⟩)
    (c9 : PySem.W.codeIn K cd9 "law" = true)
    (k9 : PySem.W.keepIn K (.ref f9) = true)
    (bg0 : PySem.W.specialIn K (.ref C0) "__getattribute__" = some (some (.builtin "type.__getattribute__")))
    (br0 : PySem.W.readsIn K C0 (.type "type") = true)
    (bf0 : PySem.W.findCls K (.ref C0) (.type "type") "__init__" = some (.val (.builtin "ValueError.__init__")))
    (bg1 : PySem.W.specialIn K (.ref C1) "__getattribute__" = some (some (.builtin "type.__getattribute__")))
    (br1 : PySem.W.readsIn K C1 (.type "type") = true)
    (bf1 : PySem.W.findCls K (.ref C1) (.type "type") "__init__" = some (.val (.builtin "KeyError.__init__")))
    (xL3 : K.lookup C3 = some (excClassObj nm3 q3 C3 NN3 bs3 [.ref C0, .type "ValueError", .type "Exception", .type "BaseException", .type "object"] true sn3 sub3 ab3 col3 dd3 m03 m13 m23 m33 m53 "ValueError.__new__"))
    (sa3 : PySem.W.findIn K (.ref C3) "__setattr__" = some (some (.builtin "object.__setattr__")))
    (ga3 : PySem.W.findIn K (.ref C3) "__getattribute__" = some (some (.builtin "BaseException.__getattribute__")))
    (gg3 : PySem.W.findIn K (.ref C3) "__getattr__" = some none)
    (nb3 : PySem.W.findIn K (.ref C3) "value" = some none)
    (ai3 : PySem.W.findIn K (.ref C3) "__init__" = some (some (.ref f10)))
    (ti3 : PySem.W.typeIn K (.ref f10) = some (.type "function"))
    (l10 : K.lookup f10 = some ⟨oc10, od10, .func (PySem.W.fnOf "__init__" "InvalidMark.__init__" (defArgs sI_InvalidMark) (defBody sI_InvalidMark) (defScope sI_InvalidMark) .none kV10 dc10 pm10 an10 cd10 ct10), sl10⟩)
    (c10 : PySem.W.codeIn K cd10 "InvalidMark.__init__" = true)
    (k10 : PySem.W.keepIn K (.ref f10) = true)
    (kC3 : PySem.W.keepIn K (.ref C3) = true)
    (eC3 : PySem.W.subIn K (.ref C3) (.type "BaseException") = some true)
    (tC3 : PySem.W.typeIn K (.ref C3) = some (.type "type"))
    (hC3 : PySem.W.hasDictIn K C3 = true)
    (iC3 : PySem.W.isClsIn K C3 = true)
    (xL4 : K.lookup C4 = some (excClassObj nm4 q4 C4 NN4 bs4 [.ref C0, .type "ValueError", .type "Exception", .type "BaseException", .type "object"] true sn4 sub4 ab4 col4 dd4 m04 m14 m24 m34 m54 "ValueError.__new__"))
    (sa4 : PySem.W.findIn K (.ref C4) "__setattr__" = some (some (.builtin "object.__setattr__")))
    (ga4 : PySem.W.findIn K (.ref C4) "__getattribute__" = some (some (.builtin "BaseException.__getattribute__")))
    (gg4 : PySem.W.findIn K (.ref C4) "__getattr__" = some none)
    (nb4 : PySem.W.findIn K (.ref C4) "value" = some none)
    (ai4 : PySem.W.findIn K (.ref C4) "__init__" = some (some (.ref f11)))
    (ti4 : PySem.W.typeIn K (.ref f11) = some (.type "function"))
    (l11 : K.lookup f11 = some ⟨oc11, od11, .func (PySem.W.fnOf "__init__" "InvalidMarks.__init__" (defArgs sI_InvalidMarks) (defBody sI_InvalidMarks) (defScope sI_InvalidMarks) .none kV11 dc11 pm11 an11 cd11 ct11), sl11⟩)
    (c11 : PySem.W.codeIn K cd11 "InvalidMarks.__init__" = true)
    (k11 : PySem.W.keepIn K (.ref f11) = true)
    (kC4 : PySem.W.keepIn K (.ref C4) = true)
    (eC4 : PySem.W.subIn K (.ref C4) (.type "BaseException") = some true)
    (tC4 : PySem.W.typeIn K (.ref C4) = some (.type "type"))
    (hC4 : PySem.W.hasDictIn K C4 = true)
    (iC4 : PySem.W.isClsIn K C4 = true)
    (xL5 : K.lookup C5 = some (excClassObj nm5 q5 C5 NN5 bs5 [.ref C0, .type "ValueError", .type "Exception", .type "BaseException", .type "object"] true sn5 sub5 ab5 col5 dd5 m05 m15 m25 m35 m55 "ValueError.__new__"))
    (sa5 : PySem.W.findIn K (.ref C5) "__setattr__" = some (some (.builtin "object.__setattr__")))
    (ga5 : PySem.W.findIn K (.ref C5) "__getattribute__" = some (some (.builtin "BaseException.__getattribute__")))
    (gg5 : PySem.W.findIn K (.ref C5) "__getattr__" = some none)
    (nb5 : PySem.W.findIn K (.ref C5) "value" = some none)
    (ai5 : PySem.W.findIn K (.ref C5) "__init__" = some (some (.ref f12)))
    (ti5 : PySem.W.typeIn K (.ref f12) = some (.type "function"))
    (l12 : K.lookup f12 = some ⟨oc12, od12, .func (PySem.W.fnOf "__init__" "InvalidWords.__init__" (defArgs sI_InvalidWords) (defBody sI_InvalidWords) (defScope sI_InvalidWords) .none kV12 dc12 pm12 an12 cd12 ct12), sl12⟩)
    (c12 : PySem.W.codeIn K cd12 "InvalidWords.__init__" = true)
    (k12 : PySem.W.keepIn K (.ref f12) = true)
    (kC5 : PySem.W.keepIn K (.ref C5) = true)
    (eC5 : PySem.W.subIn K (.ref C5) (.type "BaseException") = some true)
    (tC5 : PySem.W.typeIn K (.ref C5) = some (.type "type"))
    (hC5 : PySem.W.hasDictIn K C5 = true)
    (iC5 : PySem.W.isClsIn K C5 = true)
    (xL6 : K.lookup C6 = some (excClassObj nm6 q6 C6 NN6 bs6 [.ref C0, .type "ValueError", .type "Exception", .type "BaseException", .type "object"] true sn6 sub6 ab6 col6 dd6 m06 m16 m26 m36 m56 "ValueError.__new__"))
    (sa6 : PySem.W.findIn K (.ref C6) "__setattr__" = some (some (.builtin "object.__setattr__")))
    (ga6 : PySem.W.findIn K (.ref C6) "__getattribute__" = some (some (.builtin "BaseException.__getattribute__")))
    (gg6 : PySem.W.findIn K (.ref C6) "__getattr__" = some none)
    (nb6 : PySem.W.findIn K (.ref C6) "value" = some none)
    (ai6 : PySem.W.findIn K (.ref C6) "__init__" = some (some (.ref f13)))
    (ti6 : PySem.W.typeIn K (.ref f13) = some (.type "function"))
    (l13 : K.lookup f13 = some ⟨oc13, od13, .func (PySem.W.fnOf "__init__" "InvalidText.__init__" (defArgs sI_InvalidText) (defBody sI_InvalidText) (defScope sI_InvalidText) .none kV13 dc13 pm13 an13 cd13 ct13), sl13⟩)
    (c13 : PySem.W.codeIn K cd13 "InvalidText.__init__" = true)
    (k13 : PySem.W.keepIn K (.ref f13) = true)
    (kC6 : PySem.W.keepIn K (.ref C6) = true)
    (eC6 : PySem.W.subIn K (.ref C6) (.type "BaseException") = some true)
    (tC6 : PySem.W.typeIn K (.ref C6) = some (.type "type"))
    (hC6 : PySem.W.hasDictIn K C6 = true)
    (iC6 : PySem.W.isClsIn K C6 = true)
    (xL7 : K.lookup C7 = some (excClassObj nm7 q7 C7 NN7 bs7 [.ref C0, .type "ValueError", .type "Exception", .type "BaseException", .type "object"] true sn7 sub7 ab7 col7 dd7 m07 m17 m27 m37 m57 "ValueError.__new__"))
    (sa7 : PySem.W.findIn K (.ref C7) "__setattr__" = some (some (.builtin "object.__setattr__")))
    (ga7 : PySem.W.findIn K (.ref C7) "__getattribute__" = some (some (.builtin "BaseException.__getattribute__")))
    (gg7 : PySem.W.findIn K (.ref C7) "__getattr__" = some none)
    (nb7 : PySem.W.findIn K (.ref C7) "value" = some none)
    (ai7 : PySem.W.findIn K (.ref C7) "__init__" = some (some (.ref f14)))
    (ti7 : PySem.W.typeIn K (.ref f14) = some (.type "function"))
    (l14 : K.lookup f14 = some ⟨oc14, od14, .func (PySem.W.fnOf "__init__" "InvalidStep.__init__" (defArgs sI_InvalidStep) (defBody sI_InvalidStep) (defScope sI_InvalidStep) .none kV14 dc14 pm14 an14 cd14 ct14), sl14⟩)
    (c14 : PySem.W.codeIn K cd14 "InvalidStep.__init__" = true)
    (k14 : PySem.W.keepIn K (.ref f14) = true)
    (kC7 : PySem.W.keepIn K (.ref C7) = true)
    (eC7 : PySem.W.subIn K (.ref C7) (.type "BaseException") = some true)
    (tC7 : PySem.W.typeIn K (.ref C7) = some (.type "type"))
    (hC7 : PySem.W.hasDictIn K C7 = true)
    (iC7 : PySem.W.isClsIn K C7 = true)
    (xL8 : K.lookup C8 = some (excClassObj nm8 q8 C8 NN8 bs8 [.ref C0, .type "ValueError", .type "Exception", .type "BaseException", .type "object"] true sn8 sub8 ab8 col8 dd8 m08 m18 m28 m38 m58 "ValueError.__new__"))
    (sa8 : PySem.W.findIn K (.ref C8) "__setattr__" = some (some (.builtin "object.__setattr__")))
    (ga8 : PySem.W.findIn K (.ref C8) "__getattribute__" = some (some (.builtin "BaseException.__getattribute__")))
    (gg8 : PySem.W.findIn K (.ref C8) "__getattr__" = some none)
    (nb8 : PySem.W.findIn K (.ref C8) "value" = some none)
    (ai8 : PySem.W.findIn K (.ref C8) "__init__" = some (some (.ref f15)))
    (ti8 : PySem.W.typeIn K (.ref f15) = some (.type "function"))
    (l15 : K.lookup f15 = some ⟨oc15, od15, .func (PySem.W.fnOf "__init__" "InvalidChain.__init__" (defArgs sI_InvalidChain) (defBody sI_InvalidChain) (defScope sI_InvalidChain) .none kV15 dc15 pm15 an15 cd15 ct15), sl15⟩)
    (c15 : PySem.W.codeIn K cd15 "InvalidChain.__init__" = true)
    (k15 : PySem.W.keepIn K (.ref f15) = true)
    (kC8 : PySem.W.keepIn K (.ref C8) = true)
    (eC8 : PySem.W.subIn K (.ref C8) (.type "BaseException") = some true)
    (tC8 : PySem.W.typeIn K (.ref C8) = some (.type "type"))
    (hC8 : PySem.W.hasDictIn K C8 = true)
    (iC8 : PySem.W.isClsIn K C8 = true)
    (xL9 : K.lookup C9 = some (excClassObj nm9 q9 C9 NN9 bs9 [.ref C0, .type "ValueError", .type "Exception", .type "BaseException", .type "object"] true sn9 sub9 ab9 col9 dd9 m09 m19 m29 m39 m59 "ValueError.__new__"))
    (sa9 : PySem.W.findIn K (.ref C9) "__setattr__" = some (some (.builtin "object.__setattr__")))
    (ga9 : PySem.W.findIn K (.ref C9) "__getattribute__" = some (some (.builtin "BaseException.__getattribute__")))
    (gg9 : PySem.W.findIn K (.ref C9) "__getattr__" = some none)
    (nb9 : PySem.W.findIn K (.ref C9) "value" = some none)
    (ai9 : PySem.W.findIn K (.ref C9) "__init__" = some (some (.ref f16)))
    (ti9 : PySem.W.typeIn K (.ref f16) = some (.type "function"))
    (l16 : K.lookup f16 = some ⟨oc16, od16, .func (PySem.W.fnOf "__init__" "InvalidStock.__init__" (defArgs sI_InvalidStock) (defBody sI_InvalidStock) (defScope sI_InvalidStock) .none kV16 dc16 pm16 an16 cd16 ct16), sl16⟩)
    (c16 : PySem.W.codeIn K cd16 "InvalidStock.__init__" = true)
    (k16 : PySem.W.keepIn K (.ref f16) = true)
    (kC9 : PySem.W.keepIn K (.ref C9) = true)
    (eC9 : PySem.W.subIn K (.ref C9) (.type "BaseException") = some true)
    (tC9 : PySem.W.typeIn K (.ref C9) = some (.type "type"))
    (hC9 : PySem.W.hasDictIn K C9 = true)
    (iC9 : PySem.W.isClsIn K C9 = true)
    (xL10 : K.lookup C10 = some (excClassObj nm10 q10 C10 NN10 bs10 [.ref C0, .type "ValueError", .type "Exception", .type "BaseException", .type "object"] true sn10 sub10 ab10 col10 dd10 m010 m110 m210 m310 m510 "ValueError.__new__"))
    (sa10 : PySem.W.findIn K (.ref C10) "__setattr__" = some (some (.builtin "object.__setattr__")))
    (ga10 : PySem.W.findIn K (.ref C10) "__getattribute__" = some (some (.builtin "BaseException.__getattribute__")))
    (gg10 : PySem.W.findIn K (.ref C10) "__getattr__" = some none)
    (nb10 : PySem.W.findIn K (.ref C10) "value" = some none)
    (ai10 : PySem.W.findIn K (.ref C10) "__init__" = some (some (.ref f17)))
    (ti10 : PySem.W.typeIn K (.ref f17) = some (.type "function"))
    (l17 : K.lookup f17 = some ⟨oc17, od17, .func (PySem.W.fnOf "__init__" "InvalidInteger.__init__" (defArgs sI_InvalidInteger) (defBody sI_InvalidInteger) (defScope sI_InvalidInteger) .none kV17 dc17 pm17 an17 cd17 ct17), sl17⟩)
    (c17 : PySem.W.codeIn K cd17 "InvalidInteger.__init__" = true)
    (k17 : PySem.W.keepIn K (.ref f17) = true)
    (kC10 : PySem.W.keepIn K (.ref C10) = true)
    (eC10 : PySem.W.subIn K (.ref C10) (.type "BaseException") = some true)
    (tC10 : PySem.W.typeIn K (.ref C10) = some (.type "type"))
    (hC10 : PySem.W.hasDictIn K C10 = true)
    (iC10 : PySem.W.isClsIn K C10 = true)
    (xL11 : K.lookup C11 = some (excClassObj nm11 q11 C11 NN11 bs11 [.ref C0, .type "ValueError", .type "Exception", .type "BaseException", .type "object"] true sn11 sub11 ab11 col11 dd11 m011 m111 m211 m311 m511 "ValueError.__new__"))
    (sa11 : PySem.W.findIn K (.ref C11) "__setattr__" = some (some (.builtin "object.__setattr__")))
    (ga11 : PySem.W.findIn K (.ref C11) "__getattribute__" = some (some (.builtin "BaseException.__getattribute__")))
    (gg11 : PySem.W.findIn K (.ref C11) "__getattr__" = some none)
    (nb11 : PySem.W.findIn K (.ref C11) "value" = some none)
    (ai11 : PySem.W.findIn K (.ref C11) "__init__" = some (some (.ref f18)))
    (ti11 : PySem.W.typeIn K (.ref f18) = some (.type "function"))
    (l18 : K.lookup f18 = some ⟨oc18, od18, .func (PySem.W.fnOf "__init__" "InvalidState.__init__" (defArgs sI_InvalidState) (defBody sI_InvalidState) (defScope sI_InvalidState) .none kV18 dc18 pm18 an18 cd18 ct18), sl18⟩)
    (c18 : PySem.W.codeIn K cd18 "InvalidState.__init__" = true)
    (k18 : PySem.W.keepIn K (.ref f18) = true)
    (kC11 : PySem.W.keepIn K (.ref C11) = true)
    (eC11 : PySem.W.subIn K (.ref C11) (.type "BaseException") = some true)
    (tC11 : PySem.W.typeIn K (.ref C11) = some (.type "type"))
    (hC11 : PySem.W.hasDictIn K C11 = true)
    (iC11 : PySem.W.isClsIn K C11 = true)
    (xL12 : K.lookup C12 = some (excClassObj nm12 q12 C12 NN12 bs12 [.ref C0, .type "ValueError", .type "Exception", .type "BaseException", .type "object"] true sn12 sub12 ab12 col12 dd12 m012 m112 m212 m312 m512 "ValueError.__new__"))
    (sa12 : PySem.W.findIn K (.ref C12) "__setattr__" = some (some (.builtin "object.__setattr__")))
    (ga12 : PySem.W.findIn K (.ref C12) "__getattribute__" = some (some (.builtin "BaseException.__getattribute__")))
    (gg12 : PySem.W.findIn K (.ref C12) "__getattr__" = some none)
    (nb12 : PySem.W.findIn K (.ref C12) "value" = some none)
    (ai12 : PySem.W.findIn K (.ref C12) "__init__" = some (some (.ref f19)))
    (ti12 : PySem.W.typeIn K (.ref f19) = some (.type "function"))
    (l19 : K.lookup f19 = some ⟨oc19, od19, .func (PySem.W.fnOf "__init__" "InvalidRow.__init__" (defArgs sI_InvalidRow) (defBody sI_InvalidRow) (defScope sI_InvalidRow) .none kV19 dc19 pm19 an19 cd19 ct19), sl19⟩)
    (c19 : PySem.W.codeIn K cd19 "InvalidRow.__init__" = true)
    (k19 : PySem.W.keepIn K (.ref f19) = true)
    (kC12 : PySem.W.keepIn K (.ref C12) = true)
    (eC12 : PySem.W.subIn K (.ref C12) (.type "BaseException") = some true)
    (tC12 : PySem.W.typeIn K (.ref C12) = some (.type "type"))
    (hC12 : PySem.W.hasDictIn K C12 = true)
    (iC12 : PySem.W.isClsIn K C12 = true)
    (xL13 : K.lookup C13 = some (excClassObj nm13 q13 C13 NN13 bs13 [.ref C0, .type "ValueError", .type "Exception", .type "BaseException", .type "object"] true sn13 sub13 ab13 col13 dd13 m013 m113 m213 m313 m513 "ValueError.__new__"))
    (sa13 : PySem.W.findIn K (.ref C13) "__setattr__" = some (some (.builtin "object.__setattr__")))
    (ga13 : PySem.W.findIn K (.ref C13) "__getattribute__" = some (some (.builtin "BaseException.__getattribute__")))
    (gg13 : PySem.W.findIn K (.ref C13) "__getattr__" = some none)
    (nb13 : PySem.W.findIn K (.ref C13) "value" = some none)
    (ai13 : PySem.W.findIn K (.ref C13) "__init__" = some (some (.ref f20)))
    (ti13 : PySem.W.typeIn K (.ref f20) = some (.type "function"))
    (l20 : K.lookup f20 = some ⟨oc20, od20, .func (PySem.W.fnOf "__init__" "InvalidChange.__init__" (defArgs sI_InvalidChange) (defBody sI_InvalidChange) (defScope sI_InvalidChange) .none kV20 dc20 pm20 an20 cd20 ct20), sl20⟩)
    (c20 : PySem.W.codeIn K cd20 "InvalidChange.__init__" = true)
    (k20 : PySem.W.keepIn K (.ref f20) = true)
    (kC13 : PySem.W.keepIn K (.ref C13) = true)
    (eC13 : PySem.W.subIn K (.ref C13) (.type "BaseException") = some true)
    (tC13 : PySem.W.typeIn K (.ref C13) = some (.type "type"))
    (hC13 : PySem.W.hasDictIn K C13 = true)
    (iC13 : PySem.W.isClsIn K C13 = true)
    (xL14 : K.lookup C14 = some (excClassObj nm14 q14 C14 NN14 bs14 [.ref C0, .type "ValueError", .type "Exception", .type "BaseException", .type "object"] true sn14 sub14 ab14 col14 dd14 m014 m114 m214 m314 m514 "ValueError.__new__"))
    (sa14 : PySem.W.findIn K (.ref C14) "__setattr__" = some (some (.builtin "object.__setattr__")))
    (ga14 : PySem.W.findIn K (.ref C14) "__getattribute__" = some (some (.builtin "BaseException.__getattribute__")))
    (gg14 : PySem.W.findIn K (.ref C14) "__getattr__" = some none)
    (nb14 : PySem.W.findIn K (.ref C14) "value" = some none)
    (ai14 : PySem.W.findIn K (.ref C14) "__init__" = some (some (.ref f21)))
    (ti14 : PySem.W.typeIn K (.ref f21) = some (.type "function"))
    (l21 : K.lookup f21 = some ⟨oc21, od21, .func (PySem.W.fnOf "__init__" "InvalidName.__init__" (defArgs sI_InvalidName) (defBody sI_InvalidName) (defScope sI_InvalidName) .none kV21 dc21 pm21 an21 cd21 ct21), sl21⟩)
    (c21 : PySem.W.codeIn K cd21 "InvalidName.__init__" = true)
    (k21 : PySem.W.keepIn K (.ref f21) = true)
    (kC14 : PySem.W.keepIn K (.ref C14) = true)
    (eC14 : PySem.W.subIn K (.ref C14) (.type "BaseException") = some true)
    (tC14 : PySem.W.typeIn K (.ref C14) = some (.type "type"))
    (hC14 : PySem.W.hasDictIn K C14 = true)
    (iC14 : PySem.W.isClsIn K C14 = true)
    (xL15 : K.lookup C15 = some (excClassObj nm15 q15 C15 NN15 bs15 [.ref C0, .type "ValueError", .type "Exception", .type "BaseException", .type "object"] true sn15 sub15 ab15 col15 dd15 m015 m115 m215 m315 m515 "ValueError.__new__"))
    (sa15 : PySem.W.findIn K (.ref C15) "__setattr__" = some (some (.builtin "object.__setattr__")))
    (ga15 : PySem.W.findIn K (.ref C15) "__getattribute__" = some (some (.builtin "BaseException.__getattribute__")))
    (gg15 : PySem.W.findIn K (.ref C15) "__getattr__" = some none)
    (nb15 : PySem.W.findIn K (.ref C15) "value" = some none)
    (ai15 : PySem.W.findIn K (.ref C15) "__init__" = some (some (.ref f22)))
    (ti15 : PySem.W.typeIn K (.ref f22) = some (.type "function"))
    (l22 : K.lookup f22 = some ⟨oc22, od22, .func (PySem.W.fnOf "__init__" "InvalidLine.__init__" (defArgs sI_InvalidLine) (defBody sI_InvalidLine) (defScope sI_InvalidLine) .none kV22 dc22 pm22 an22 cd22 ct22), sl22⟩)
    (c22 : PySem.W.codeIn K cd22 "InvalidLine.__init__" = true)
    (k22 : PySem.W.keepIn K (.ref f22) = true)
    (kC15 : PySem.W.keepIn K (.ref C15) = true)
    (eC15 : PySem.W.subIn K (.ref C15) (.type "BaseException") = some true)
    (tC15 : PySem.W.typeIn K (.ref C15) = some (.type "type"))
    (hC15 : PySem.W.hasDictIn K C15 = true)
    (iC15 : PySem.W.isClsIn K C15 = true)
    (xL16 : K.lookup C16 = some (excClassObj nm16 q16 C16 NN16 bs16 [.ref C0, .type "ValueError", .type "Exception", .type "BaseException", .type "object"] true sn16 sub16 ab16 col16 dd16 m016 m116 m216 m316 m516 "ValueError.__new__"))
    (sa16 : PySem.W.findIn K (.ref C16) "__setattr__" = some (some (.builtin "object.__setattr__")))
    (ga16 : PySem.W.findIn K (.ref C16) "__getattribute__" = some (some (.builtin "BaseException.__getattribute__")))
    (gg16 : PySem.W.findIn K (.ref C16) "__getattr__" = some none)
    (nb16 : PySem.W.findIn K (.ref C16) "value" = some none)
    (ai16 : PySem.W.findIn K (.ref C16) "__init__" = some (some (.ref f23)))
    (ti16 : PySem.W.typeIn K (.ref f23) = some (.type "function"))
    (l23 : K.lookup f23 = some ⟨oc23, od23, .func (PySem.W.fnOf "__init__" "InvalidLines.__init__" (defArgs sI_InvalidLines) (defBody sI_InvalidLines) (defScope sI_InvalidLines) .none kV23 dc23 pm23 an23 cd23 ct23), sl23⟩)
    (c23 : PySem.W.codeIn K cd23 "InvalidLines.__init__" = true)
    (k23 : PySem.W.keepIn K (.ref f23) = true)
    (kC16 : PySem.W.keepIn K (.ref C16) = true)
    (eC16 : PySem.W.subIn K (.ref C16) (.type "BaseException") = some true)
    (tC16 : PySem.W.typeIn K (.ref C16) = some (.type "type"))
    (hC16 : PySem.W.hasDictIn K C16 = true)
    (iC16 : PySem.W.isClsIn K C16 = true)
    (xL17 : K.lookup C17 = some (excClassObj nm17 q17 C17 NN17 bs17 [.ref C0, .type "ValueError", .type "Exception", .type "BaseException", .type "object"] true sn17 sub17 ab17 col17 dd17 m017 m117 m217 m317 m517 "ValueError.__new__"))
    (sa17 : PySem.W.findIn K (.ref C17) "__setattr__" = some (some (.builtin "object.__setattr__")))
    (ga17 : PySem.W.findIn K (.ref C17) "__getattribute__" = some (some (.builtin "BaseException.__getattribute__")))
    (gg17 : PySem.W.findIn K (.ref C17) "__getattr__" = some none)
    (nb17 : PySem.W.findIn K (.ref C17) "value" = some none)
    (ai17 : PySem.W.findIn K (.ref C17) "__init__" = some (some (.ref f24)))
    (ti17 : PySem.W.typeIn K (.ref f24) = some (.type "function"))
    (l24 : K.lookup f24 = some ⟨oc24, od24, .func (PySem.W.fnOf "__init__" "NotOver.__init__" (defArgs sI_NotOver) (defBody sI_NotOver) (defScope sI_NotOver) .none kV24 dc24 pm24 an24 cd24 ct24), sl24⟩)
    (c24 : PySem.W.codeIn K cd24 "NotOver.__init__" = true)
    (k24 : PySem.W.keepIn K (.ref f24) = true)
    (kC17 : PySem.W.keepIn K (.ref C17) = true)
    (eC17 : PySem.W.subIn K (.ref C17) (.type "BaseException") = some true)
    (tC17 : PySem.W.typeIn K (.ref C17) = some (.type "type"))
    (hC17 : PySem.W.hasDictIn K C17 = true)
    (iC17 : PySem.W.isClsIn K C17 = true)
    (xL18 : K.lookup C18 = some (excClassObj nm18 q18 C18 NN18 bs18 [.ref C0, .type "ValueError", .type "Exception", .type "BaseException", .type "object"] true sn18 sub18 ab18 col18 dd18 m018 m118 m218 m318 m518 "ValueError.__new__"))
    (sa18 : PySem.W.findIn K (.ref C18) "__setattr__" = some (some (.builtin "object.__setattr__")))
    (ga18 : PySem.W.findIn K (.ref C18) "__getattribute__" = some (some (.builtin "BaseException.__getattribute__")))
    (gg18 : PySem.W.findIn K (.ref C18) "__getattr__" = some none)
    (nb18 : PySem.W.findIn K (.ref C18) "line" = some none)
    (ai18 : PySem.W.findIn K (.ref C18) "__init__" = some (some (.ref f25)))
    (ti18 : PySem.W.typeIn K (.ref f25) = some (.type "function"))
    (l25 : K.lookup f25 = some ⟨oc25, od25, .func (PySem.W.fnOf "__init__" "InvalidPage.__init__" (defArgs sI_InvalidPage) (defBody sI_InvalidPage) (defScope sI_InvalidPage) .none kV25 dc25 pm25 an25 cd25 ct25), sl25⟩)
    (c25 : PySem.W.codeIn K cd25 "InvalidPage.__init__" = true)
    (k25 : PySem.W.keepIn K (.ref f25) = true)
    (kC18 : PySem.W.keepIn K (.ref C18) = true)
    (eC18 : PySem.W.subIn K (.ref C18) (.type "BaseException") = some true)
    (tC18 : PySem.W.typeIn K (.ref C18) = some (.type "type"))
    (hC18 : PySem.W.hasDictIn K C18 = true)
    (iC18 : PySem.W.isClsIn K C18 = true)
    (xL19 : K.lookup C19 = some (excClassObj nm19 q19 C19 NN19 bs19 [.ref C0, .type "ValueError", .type "Exception", .type "BaseException", .type "object"] true sn19 sub19 ab19 col19 dd19 m019 m119 m219 m319 m519 "ValueError.__new__"))
    (sa19 : PySem.W.findIn K (.ref C19) "__setattr__" = some (some (.builtin "object.__setattr__")))
    (ga19 : PySem.W.findIn K (.ref C19) "__getattribute__" = some (some (.builtin "BaseException.__getattribute__")))
    (gg19 : PySem.W.findIn K (.ref C19) "__getattr__" = some none)
    (nb19 : PySem.W.findIn K (.ref C19) "count" = some none)
    (ai19 : PySem.W.findIn K (.ref C19) "__init__" = some (some (.ref f26)))
    (ti19 : PySem.W.typeIn K (.ref f26) = some (.type "function"))
    (l26 : K.lookup f26 = some ⟨oc26, od26, .func (PySem.W.fnOf "__init__" "TooMany.__init__" (defArgs sI_TooMany) (defBody sI_TooMany) (defScope sI_TooMany) .none kV26 dc26 pm26 an26 cd26 ct26), sl26⟩)
    (c26 : PySem.W.codeIn K cd26 "TooMany.__init__" = true)
    (k26 : PySem.W.keepIn K (.ref f26) = true)
    (kC19 : PySem.W.keepIn K (.ref C19) = true)
    (eC19 : PySem.W.subIn K (.ref C19) (.type "BaseException") = some true)
    (tC19 : PySem.W.typeIn K (.ref C19) = some (.type "type"))
    (hC19 : PySem.W.hasDictIn K C19 = true)
    (iC19 : PySem.W.isClsIn K C19 = true)
    (xL20 : K.lookup C20 = some (excClassObj nm20 q20 C20 NN20 bs20 [.ref C1, .type "KeyError", .type "LookupError", .type "Exception", .type "BaseException", .type "object"] true sn20 sub20 ab20 col20 dd20 m020 m120 m220 m320 m520 "LookupError.__new__"))
    (sa20 : PySem.W.findIn K (.ref C20) "__setattr__" = some (some (.builtin "object.__setattr__")))
    (ga20 : PySem.W.findIn K (.ref C20) "__getattribute__" = some (some (.builtin "BaseException.__getattribute__")))
    (gg20 : PySem.W.findIn K (.ref C20) "__getattr__" = some none)
    (nb20 : PySem.W.findIn K (.ref C20) "index" = some none)
    (ai20 : PySem.W.findIn K (.ref C20) "__init__" = some (some (.ref f27)))
    (ti20 : PySem.W.typeIn K (.ref f27) = some (.type "function"))
    (l27 : K.lookup f27 = some ⟨oc27, od27, .func (PySem.W.fnOf "__init__" "NoStep.__init__" (defArgs sI_NoStep) (defBody sI_NoStep) (defScope sI_NoStep) .none kV27 dc27 pm27 an27 cd27 ct27), sl27⟩)
    (c27 : PySem.W.codeIn K cd27 "NoStep.__init__" = true)
    (k27 : PySem.W.keepIn K (.ref f27) = true)
    (kC20 : PySem.W.keepIn K (.ref C20) = true)
    (eC20 : PySem.W.subIn K (.ref C20) (.type "BaseException") = some true)
    (tC20 : PySem.W.typeIn K (.ref C20) = some (.type "type"))
    (hC20 : PySem.W.hasDictIn K C20 = true)
    (iC20 : PySem.W.isClsIn K C20 = true)
    (xL21 : K.lookup C21 = some (excClassObj nm21 q21 C21 NN21 bs21 [.ref C1, .type "KeyError", .type "LookupError", .type "Exception", .type "BaseException", .type "object"] true sn21 sub21 ab21 col21 dd21 m021 m121 m221 m321 m521 "LookupError.__new__"))
    (sa21 : PySem.W.findIn K (.ref C21) "__setattr__" = some (some (.builtin "object.__setattr__")))
    (ga21 : PySem.W.findIn K (.ref C21) "__getattribute__" = some (some (.builtin "BaseException.__getattribute__")))
    (gg21 : PySem.W.findIn K (.ref C21) "__getattr__" = some none)
    (nb21 : PySem.W.findIn K (.ref C21) "value" = some none)
    (ai21 : PySem.W.findIn K (.ref C21) "__init__" = some (some (.ref f28)))
    (ti21 : PySem.W.typeIn K (.ref f28) = some (.type "function"))
    (l28 : K.lookup f28 = some ⟨oc28, od28, .func (PySem.W.fnOf "__init__" "NoLetter.__init__" (defArgs sI_NoLetter) (defBody sI_NoLetter) (defScope sI_NoLetter) .none kV28 dc28 pm28 an28 cd28 ct28), sl28⟩)
    (c28 : PySem.W.codeIn K cd28 "NoLetter.__init__" = true)
    (k28 : PySem.W.keepIn K (.ref f28) = true)
    (kC21 : PySem.W.keepIn K (.ref C21) = true)
    (eC21 : PySem.W.subIn K (.ref C21) (.type "BaseException") = some true)
    (tC21 : PySem.W.typeIn K (.ref C21) = some (.type "type"))
    (hC21 : PySem.W.hasDictIn K C21 = true)
    (iC21 : PySem.W.isClsIn K C21 = true)
    (xL22 : K.lookup C22 = some (excClassObj nm22 q22 C22 NN22 bs22 [.ref C1, .type "KeyError", .type "LookupError", .type "Exception", .type "BaseException", .type "object"] true sn22 sub22 ab22 col22 dd22 m022 m122 m222 m322 m522 "LookupError.__new__"))
    (sa22 : PySem.W.findIn K (.ref C22) "__setattr__" = some (some (.builtin "object.__setattr__")))
    (ga22 : PySem.W.findIn K (.ref C22) "__getattribute__" = some (some (.builtin "BaseException.__getattribute__")))
    (gg22 : PySem.W.findIn K (.ref C22) "__getattr__" = some none)
    (nb22 : PySem.W.findIn K (.ref C22) "value" = some none)
    (ai22 : PySem.W.findIn K (.ref C22) "__init__" = some (some (.ref f29)))
    (ti22 : PySem.W.typeIn K (.ref f29) = some (.type "function"))
    (l29 : K.lookup f29 = some ⟨oc29, od29, .func (PySem.W.fnOf "__init__" "NoInput.__init__" (defArgs sI_NoInput) (defBody sI_NoInput) (defScope sI_NoInput) .none kV29 dc29 pm29 an29 cd29 ct29), sl29⟩)
    (c29 : PySem.W.codeIn K cd29 "NoInput.__init__" = true)
    (k29 : PySem.W.keepIn K (.ref f29) = true)
    (kC22 : PySem.W.keepIn K (.ref C22) = true)
    (eC22 : PySem.W.subIn K (.ref C22) (.type "BaseException") = some true)
    (tC22 : PySem.W.typeIn K (.ref C22) = some (.type "type"))
    (hC22 : PySem.W.hasDictIn K C22 = true)
    (iC22 : PySem.W.isClsIn K C22 = true)
    (xL23 : K.lookup C23 = some (excClassObj nm23 q23 C23 NN23 bs23 [.ref C1, .type "KeyError", .type "LookupError", .type "Exception", .type "BaseException", .type "object"] true sn23 sub23 ab23 col23 dd23 m023 m123 m223 m323 m523 "LookupError.__new__"))
    (sa23 : PySem.W.findIn K (.ref C23) "__setattr__" = some (some (.builtin "object.__setattr__")))
    (ga23 : PySem.W.findIn K (.ref C23) "__getattribute__" = some (some (.builtin "BaseException.__getattribute__")))
    (gg23 : PySem.W.findIn K (.ref C23) "__getattr__" = some none)
    (nb23 : PySem.W.findIn K (.ref C23) "name" = some none)
    (ai23 : PySem.W.findIn K (.ref C23) "__init__" = some (some (.ref f30)))
    (ti23 : PySem.W.typeIn K (.ref f30) = some (.type "function"))
    (l30 : K.lookup f30 = some ⟨oc30, od30, .func (PySem.W.fnOf "__init__" "NoChain.__init__" (defArgs sI_NoChain) (defBody sI_NoChain) (defScope sI_NoChain) .none kV30 dc30 pm30 an30 cd30 ct30), sl30⟩)
    (c30 : PySem.W.codeIn K cd30 "NoChain.__init__" = true)
    (k30 : PySem.W.keepIn K (.ref f30) = true)
    (kC23 : PySem.W.keepIn K (.ref C23) = true)
    (eC23 : PySem.W.subIn K (.ref C23) (.type "BaseException") = some true)
    (tC23 : PySem.W.typeIn K (.ref C23) = some (.type "type"))
    (hC23 : PySem.W.hasDictIn K C23 = true)
    (iC23 : PySem.W.isClsIn K C23 = true)
    (bg2 : PySem.W.specialIn K (.ref C2) "__getattribute__" = some (some (.builtin "type.__getattribute__")))
    (br2 : PySem.W.readsIn K C2 (.type "type") = true)
    (bf2 : PySem.W.findCls K (.ref C2) (.type "type") "__init__" = some (.val (.builtin "LookupError.__init__")))
    (xL24 : K.lookup C24 = some (excClassObj nm24 q24 C24 NN24 bs24 [.ref C2, .type "LookupError", .type "Exception", .type "BaseException", .type "object"] true sn24 sub24 ab24 col24 dd24 m024 m124 m224 m324 m524 "LookupError.__new__"))
    (ai24 : PySem.W.findIn K (.ref C24) "__init__" = some (some (.ref f31)))
    (ti24 : PySem.W.typeIn K (.ref f31) = some (.type "function"))
    (l31 : K.lookup f31 = some ⟨oc31, od31, .func (PySem.W.fnOf "__init__" "NoStock.__init__" (defArgs sI_NoStock) (defBody sI_NoStock) (defScope sI_NoStock) .none kV31 dc31 pm31 an31 cd31 ct31), sl31⟩)
    (c31 : PySem.W.codeIn K cd31 "NoStock.__init__" = true)
    (k31 : PySem.W.keepIn K (.ref f31) = true)
    (kC24 : PySem.W.keepIn K (.ref C24) = true)
    (eC24 : PySem.W.subIn K (.ref C24) (.type "BaseException") = some true)
    (tC24 : PySem.W.typeIn K (.ref C24) = some (.type "type"))
    (iC24 : PySem.W.isClsIn K C24 = true)
    (xL25 : K.lookup C25 = some (excClassObj nm25 q25 C25 NN25 bs25 [.ref C2, .type "LookupError", .type "Exception", .type "BaseException", .type "object"] true sn25 sub25 ab25 col25 dd25 m025 m125 m225 m325 m525 "LookupError.__new__"))
    (ai25 : PySem.W.findIn K (.ref C25) "__init__" = some (some (.ref f32)))
    (ti25 : PySem.W.typeIn K (.ref f32) = some (.type "function"))
    (l32 : K.lookup f32 = some ⟨oc32, od32, .func (PySem.W.fnOf "__init__" "NothingToUndo.__init__" (defArgs sI_NothingToUndo) (defBody sI_NothingToUndo) (defScope sI_NothingToUndo) .none kV32 dc32 pm32 an32 cd32 ct32), sl32⟩)
    (c32 : PySem.W.codeIn K cd32 "NothingToUndo.__init__" = true)
    (k32 : PySem.W.keepIn K (.ref f32) = true)
    (kC25 : PySem.W.keepIn K (.ref C25) = true)
    (eC25 : PySem.W.subIn K (.ref C25) (.type "BaseException") = some true)
    (tC25 : PySem.W.typeIn K (.ref C25) = some (.type "type"))
    (iC25 : PySem.W.isClsIn K C25 = true)
    (xL26 : K.lookup C26 = some (excClassObj nm26 q26 C26 NN26 bs26 [.ref C2, .type "LookupError", .type "Exception", .type "BaseException", .type "object"] true sn26 sub26 ab26 col26 dd26 m026 m126 m226 m326 m526 "LookupError.__new__"))
    (ai26 : PySem.W.findIn K (.ref C26) "__init__" = some (some (.ref f33)))
    (ti26 : PySem.W.typeIn K (.ref f33) = some (.type "function"))
    (l33 : K.lookup f33 = some ⟨oc33, od33, .func (PySem.W.fnOf "__init__" "NothingToRedo.__init__" (defArgs sI_NothingToRedo) (defBody sI_NothingToRedo) (defScope sI_NothingToRedo) .none kV33 dc33 pm33 an33 cd33 ct33), sl33⟩)
    (c33 : PySem.W.codeIn K cd33 "NothingToRedo.__init__" = true)
    (k33 : PySem.W.keepIn K (.ref f33) = true)
    (kC26 : PySem.W.keepIn K (.ref C26) = true)
    (eC26 : PySem.W.subIn K (.ref C26) (.type "BaseException") = some true)
    (tC26 : PySem.W.typeIn K (.ref C26) = some (.type "type"))
    (iC26 : PySem.W.isClsIn K C26 = true)
    (xL1 : K.lookup C1 = some (excClassObj nm1 q1 C1 NN1 bs1 [.type "KeyError", .type "LookupError", .type "Exception", .type "BaseException", .type "object"] true sn1 sub1 ab1 col1 dd1 m01 m11 m21 m31 m51 "LookupError.__new__"))
    (sa1 : PySem.W.findIn K (.ref C1) "__setattr__" = some (some (.builtin "object.__setattr__")))
    (eC1 : PySem.W.subIn K (.ref C1) (.type "BaseException") = some true)
    (tC1 : PySem.W.typeIn K (.ref C1) = some (.type "type"))
    (bi1 : PySem.W.findIn K (.ref C1) "__init__" = some (some (.builtin "KeyError.__init__")))
    (kC1 : PySem.W.keepIn K (.ref C1) = true)
    (bq0 : PySem.W.excIn K C0 [.type "ValueError", .type "Exception", .type "BaseException", .type "object"] "ValueError.__new__" = true)
    (kC0 : PySem.W.keepIn K (.ref C0) = true)
    (bq2 : PySem.W.excIn K C2 [.type "LookupError", .type "Exception", .type "BaseException", .type "object"] "LookupError.__new__" = true)
    (kC2 : PySem.W.keepIn K (.ref C2) = true)
    (kxc : (([(C0, false), (C1, false), (C2, false), (C3, false), (C4, false), (C5, false), (C6, false), (C7, false), (C8, false), (C9, false), (C10, false), (C11, false), (C12, false), (C13, false), (C14, false), (C15, false), (C16, false), (C17, false), (C18, false), (C19, false), (C20, false), (C21, false), (C22, false), (C23, false), (C24, false), (C25, false), (C26, false)] : List (Addr × Bool)).all fun p => U.excIB K p.1) = true)
    (kx_AbsentError : (([(C0, false), (C1, true), (C2, false), (C3, false), (C4, false), (C5, false), (C6, false), (C7, false), (C8, false), (C9, false), (C10, false), (C11, false), (C12, false), (C13, false), (C14, false), (C15, false), (C16, false), (C17, false), (C18, false), (C19, false), (C20, true), (C21, true), (C22, true), (C23, true), (C24, false), (C25, false), (C26, false)] : List (Addr × Bool)).all fun p => decide (PySem.W.kitOne K (.ref p.1) (.ref C1) = some p.2)) = true)
    (kx_IndexError : (([(C0, false), (C1, false), (C2, false), (C3, false), (C4, false), (C5, false), (C6, false), (C7, false), (C8, false), (C9, false), (C10, false), (C11, false), (C12, false), (C13, false), (C14, false), (C15, false), (C16, false), (C17, false), (C18, false), (C19, false), (C20, false), (C21, false), (C22, false), (C23, false), (C24, false), (C25, false), (C26, false)] : List (Addr × Bool)).all fun p => decide (PySem.W.kitOne K (.ref p.1) (.type "IndexError") = some p.2)) = true)
    (kx_InvalidChain : (([(C0, false), (C1, false), (C2, false), (C3, false), (C4, false), (C5, false), (C6, false), (C7, false), (C8, true), (C9, false), (C10, false), (C11, false), (C12, false), (C13, false), (C14, false), (C15, false), (C16, false), (C17, false), (C18, false), (C19, false), (C20, false), (C21, false), (C22, false), (C23, false), (C24, false), (C25, false), (C26, false)] : List (Addr × Bool)).all fun p => decide (PySem.W.kitOne K (.ref p.1) (.ref C8) = some p.2)) = true)
    (kx_InvalidChange : (([(C0, false), (C1, false), (C2, false), (C3, false), (C4, false), (C5, false), (C6, false), (C7, false), (C8, false), (C9, false), (C10, false), (C11, false), (C12, false), (C13, true), (C14, false), (C15, false), (C16, false), (C17, false), (C18, false), (C19, false), (C20, false), (C21, false), (C22, false), (C23, false), (C24, false), (C25, false), (C26, false)] : List (Addr × Bool)).all fun p => decide (PySem.W.kitOne K (.ref p.1) (.ref C13) = some p.2)) = true)
    (kx_InvalidInteger : (([(C0, false), (C1, false), (C2, false), (C3, false), (C4, false), (C5, false), (C6, false), (C7, false), (C8, false), (C9, false), (C10, true), (C11, false), (C12, false), (C13, false), (C14, false), (C15, false), (C16, false), (C17, false), (C18, false), (C19, false), (C20, false), (C21, false), (C22, false), (C23, false), (C24, false), (C25, false), (C26, false)] : List (Addr × Bool)).all fun p => decide (PySem.W.kitOne K (.ref p.1) (.ref C10) = some p.2)) = true)
    (kx_InvalidLine : (([(C0, false), (C1, false), (C2, false), (C3, false), (C4, false), (C5, false), (C6, false), (C7, false), (C8, false), (C9, false), (C10, false), (C11, false), (C12, false), (C13, false), (C14, false), (C15, true), (C16, false), (C17, false), (C18, false), (C19, false), (C20, false), (C21, false), (C22, false), (C23, false), (C24, false), (C25, false), (C26, false)] : List (Addr × Bool)).all fun p => decide (PySem.W.kitOne K (.ref p.1) (.ref C15) = some p.2)) = true)
    (kx_InvalidLines : (([(C0, false), (C1, false), (C2, false), (C3, false), (C4, false), (C5, false), (C6, false), (C7, false), (C8, false), (C9, false), (C10, false), (C11, false), (C12, false), (C13, false), (C14, false), (C15, false), (C16, true), (C17, false), (C18, false), (C19, false), (C20, false), (C21, false), (C22, false), (C23, false), (C24, false), (C25, false), (C26, false)] : List (Addr × Bool)).all fun p => decide (PySem.W.kitOne K (.ref p.1) (.ref C16) = some p.2)) = true)
    (kx_InvalidMark : (([(C0, false), (C1, false), (C2, false), (C3, true), (C4, false), (C5, false), (C6, false), (C7, false), (C8, false), (C9, false), (C10, false), (C11, false), (C12, false), (C13, false), (C14, false), (C15, false), (C16, false), (C17, false), (C18, false), (C19, false), (C20, false), (C21, false), (C22, false), (C23, false), (C24, false), (C25, false), (C26, false)] : List (Addr × Bool)).all fun p => decide (PySem.W.kitOne K (.ref p.1) (.ref C3) = some p.2)) = true)
    (kx_InvalidMarks : (([(C0, false), (C1, false), (C2, false), (C3, false), (C4, true), (C5, false), (C6, false), (C7, false), (C8, false), (C9, false), (C10, false), (C11, false), (C12, false), (C13, false), (C14, false), (C15, false), (C16, false), (C17, false), (C18, false), (C19, false), (C20, false), (C21, false), (C22, false), (C23, false), (C24, false), (C25, false), (C26, false)] : List (Addr × Bool)).all fun p => decide (PySem.W.kitOne K (.ref p.1) (.ref C4) = some p.2)) = true)
    (kx_InvalidName : (([(C0, false), (C1, false), (C2, false), (C3, false), (C4, false), (C5, false), (C6, false), (C7, false), (C8, false), (C9, false), (C10, false), (C11, false), (C12, false), (C13, false), (C14, true), (C15, false), (C16, false), (C17, false), (C18, false), (C19, false), (C20, false), (C21, false), (C22, false), (C23, false), (C24, false), (C25, false), (C26, false)] : List (Addr × Bool)).all fun p => decide (PySem.W.kitOne K (.ref p.1) (.ref C14) = some p.2)) = true)
    (kx_InvalidPage : (([(C0, false), (C1, false), (C2, false), (C3, false), (C4, false), (C5, false), (C6, false), (C7, false), (C8, false), (C9, false), (C10, false), (C11, false), (C12, false), (C13, false), (C14, false), (C15, false), (C16, false), (C17, false), (C18, true), (C19, false), (C20, false), (C21, false), (C22, false), (C23, false), (C24, false), (C25, false), (C26, false)] : List (Addr × Bool)).all fun p => decide (PySem.W.kitOne K (.ref p.1) (.ref C18) = some p.2)) = true)
    (kx_InvalidRow : (([(C0, false), (C1, false), (C2, false), (C3, false), (C4, false), (C5, false), (C6, false), (C7, false), (C8, false), (C9, false), (C10, false), (C11, false), (C12, true), (C13, false), (C14, false), (C15, false), (C16, false), (C17, false), (C18, false), (C19, false), (C20, false), (C21, false), (C22, false), (C23, false), (C24, false), (C25, false), (C26, false)] : List (Addr × Bool)).all fun p => decide (PySem.W.kitOne K (.ref p.1) (.ref C12) = some p.2)) = true)
    (kx_InvalidState : (([(C0, false), (C1, false), (C2, false), (C3, false), (C4, false), (C5, false), (C6, false), (C7, false), (C8, false), (C9, false), (C10, false), (C11, true), (C12, false), (C13, false), (C14, false), (C15, false), (C16, false), (C17, false), (C18, false), (C19, false), (C20, false), (C21, false), (C22, false), (C23, false), (C24, false), (C25, false), (C26, false)] : List (Addr × Bool)).all fun p => decide (PySem.W.kitOne K (.ref p.1) (.ref C11) = some p.2)) = true)
    (kx_InvalidStep : (([(C0, false), (C1, false), (C2, false), (C3, false), (C4, false), (C5, false), (C6, false), (C7, true), (C8, false), (C9, false), (C10, false), (C11, false), (C12, false), (C13, false), (C14, false), (C15, false), (C16, false), (C17, false), (C18, false), (C19, false), (C20, false), (C21, false), (C22, false), (C23, false), (C24, false), (C25, false), (C26, false)] : List (Addr × Bool)).all fun p => decide (PySem.W.kitOne K (.ref p.1) (.ref C7) = some p.2)) = true)
    (kx_InvalidStock : (([(C0, false), (C1, false), (C2, false), (C3, false), (C4, false), (C5, false), (C6, false), (C7, false), (C8, false), (C9, true), (C10, false), (C11, false), (C12, false), (C13, false), (C14, false), (C15, false), (C16, false), (C17, false), (C18, false), (C19, false), (C20, false), (C21, false), (C22, false), (C23, false), (C24, false), (C25, false), (C26, false)] : List (Addr × Bool)).all fun p => decide (PySem.W.kitOne K (.ref p.1) (.ref C9) = some p.2)) = true)
    (kx_InvalidText : (([(C0, false), (C1, false), (C2, false), (C3, false), (C4, false), (C5, false), (C6, true), (C7, false), (C8, false), (C9, false), (C10, false), (C11, false), (C12, false), (C13, false), (C14, false), (C15, false), (C16, false), (C17, false), (C18, false), (C19, false), (C20, false), (C21, false), (C22, false), (C23, false), (C24, false), (C25, false), (C26, false)] : List (Addr × Bool)).all fun p => decide (PySem.W.kitOne K (.ref p.1) (.ref C6) = some p.2)) = true)
    (kx_InvalidWords : (([(C0, false), (C1, false), (C2, false), (C3, false), (C4, false), (C5, true), (C6, false), (C7, false), (C8, false), (C9, false), (C10, false), (C11, false), (C12, false), (C13, false), (C14, false), (C15, false), (C16, false), (C17, false), (C18, false), (C19, false), (C20, false), (C21, false), (C22, false), (C23, false), (C24, false), (C25, false), (C26, false)] : List (Addr × Bool)).all fun p => decide (PySem.W.kitOne K (.ref p.1) (.ref C5) = some p.2)) = true)
    (kx_KeyError : (([(C0, false), (C1, true), (C2, false), (C3, false), (C4, false), (C5, false), (C6, false), (C7, false), (C8, false), (C9, false), (C10, false), (C11, false), (C12, false), (C13, false), (C14, false), (C15, false), (C16, false), (C17, false), (C18, false), (C19, false), (C20, true), (C21, true), (C22, true), (C23, true), (C24, false), (C25, false), (C26, false)] : List (Addr × Bool)).all fun p => decide (PySem.W.kitOne K (.ref p.1) (.type "KeyError") = some p.2)) = true)
    (kx_LookupError : (([(C0, false), (C1, true), (C2, true), (C3, false), (C4, false), (C5, false), (C6, false), (C7, false), (C8, false), (C9, false), (C10, false), (C11, false), (C12, false), (C13, false), (C14, false), (C15, false), (C16, false), (C17, false), (C18, false), (C19, false), (C20, true), (C21, true), (C22, true), (C23, true), (C24, true), (C25, true), (C26, true)] : List (Addr × Bool)).all fun p => decide (PySem.W.kitOne K (.ref p.1) (.type "LookupError") = some p.2)) = true)
    (kx_NoChain : (([(C0, false), (C1, false), (C2, false), (C3, false), (C4, false), (C5, false), (C6, false), (C7, false), (C8, false), (C9, false), (C10, false), (C11, false), (C12, false), (C13, false), (C14, false), (C15, false), (C16, false), (C17, false), (C18, false), (C19, false), (C20, false), (C21, false), (C22, false), (C23, true), (C24, false), (C25, false), (C26, false)] : List (Addr × Bool)).all fun p => decide (PySem.W.kitOne K (.ref p.1) (.ref C23) = some p.2)) = true)
    (kx_NoInput : (([(C0, false), (C1, false), (C2, false), (C3, false), (C4, false), (C5, false), (C6, false), (C7, false), (C8, false), (C9, false), (C10, false), (C11, false), (C12, false), (C13, false), (C14, false), (C15, false), (C16, false), (C17, false), (C18, false), (C19, false), (C20, false), (C21, false), (C22, true), (C23, false), (C24, false), (C25, false), (C26, false)] : List (Addr × Bool)).all fun p => decide (PySem.W.kitOne K (.ref p.1) (.ref C22) = some p.2)) = true)
    (kx_NoLetter : (([(C0, false), (C1, false), (C2, false), (C3, false), (C4, false), (C5, false), (C6, false), (C7, false), (C8, false), (C9, false), (C10, false), (C11, false), (C12, false), (C13, false), (C14, false), (C15, false), (C16, false), (C17, false), (C18, false), (C19, false), (C20, false), (C21, true), (C22, false), (C23, false), (C24, false), (C25, false), (C26, false)] : List (Addr × Bool)).all fun p => decide (PySem.W.kitOne K (.ref p.1) (.ref C21) = some p.2)) = true)
    (kx_NoStep : (([(C0, false), (C1, false), (C2, false), (C3, false), (C4, false), (C5, false), (C6, false), (C7, false), (C8, false), (C9, false), (C10, false), (C11, false), (C12, false), (C13, false), (C14, false), (C15, false), (C16, false), (C17, false), (C18, false), (C19, false), (C20, true), (C21, false), (C22, false), (C23, false), (C24, false), (C25, false), (C26, false)] : List (Addr × Bool)).all fun p => decide (PySem.W.kitOne K (.ref p.1) (.ref C20) = some p.2)) = true)
    (kx_NoStock : (([(C0, false), (C1, false), (C2, false), (C3, false), (C4, false), (C5, false), (C6, false), (C7, false), (C8, false), (C9, false), (C10, false), (C11, false), (C12, false), (C13, false), (C14, false), (C15, false), (C16, false), (C17, false), (C18, false), (C19, false), (C20, false), (C21, false), (C22, false), (C23, false), (C24, true), (C25, false), (C26, false)] : List (Addr × Bool)).all fun p => decide (PySem.W.kitOne K (.ref p.1) (.ref C24) = some p.2)) = true)
    (kx_NotOver : (([(C0, false), (C1, false), (C2, false), (C3, false), (C4, false), (C5, false), (C6, false), (C7, false), (C8, false), (C9, false), (C10, false), (C11, false), (C12, false), (C13, false), (C14, false), (C15, false), (C16, false), (C17, true), (C18, false), (C19, false), (C20, false), (C21, false), (C22, false), (C23, false), (C24, false), (C25, false), (C26, false)] : List (Addr × Bool)).all fun p => decide (PySem.W.kitOne K (.ref p.1) (.ref C17) = some p.2)) = true)
    (kx_NothingToRedo : (([(C0, false), (C1, false), (C2, false), (C3, false), (C4, false), (C5, false), (C6, false), (C7, false), (C8, false), (C9, false), (C10, false), (C11, false), (C12, false), (C13, false), (C14, false), (C15, false), (C16, false), (C17, false), (C18, false), (C19, false), (C20, false), (C21, false), (C22, false), (C23, false), (C24, false), (C25, false), (C26, true)] : List (Addr × Bool)).all fun p => decide (PySem.W.kitOne K (.ref p.1) (.ref C26) = some p.2)) = true)
    (kx_NothingToUndo : (([(C0, false), (C1, false), (C2, false), (C3, false), (C4, false), (C5, false), (C6, false), (C7, false), (C8, false), (C9, false), (C10, false), (C11, false), (C12, false), (C13, false), (C14, false), (C15, false), (C16, false), (C17, false), (C18, false), (C19, false), (C20, false), (C21, false), (C22, false), (C23, false), (C24, false), (C25, true), (C26, false)] : List (Addr × Bool)).all fun p => decide (PySem.W.kitOne K (.ref p.1) (.ref C25) = some p.2)) = true)
    (kx_ReflowError : (([(C0, true), (C1, false), (C2, false), (C3, true), (C4, true), (C5, true), (C6, true), (C7, true), (C8, true), (C9, true), (C10, true), (C11, true), (C12, true), (C13, true), (C14, true), (C15, true), (C16, true), (C17, true), (C18, true), (C19, true), (C20, false), (C21, false), (C22, false), (C23, false), (C24, false), (C25, false), (C26, false)] : List (Addr × Bool)).all fun p => decide (PySem.W.kitOne K (.ref p.1) (.ref C0) = some p.2)) = true)
    (kx_StateError : (([(C0, false), (C1, false), (C2, true), (C3, false), (C4, false), (C5, false), (C6, false), (C7, false), (C8, false), (C9, false), (C10, false), (C11, false), (C12, false), (C13, false), (C14, false), (C15, false), (C16, false), (C17, false), (C18, false), (C19, false), (C20, false), (C21, false), (C22, false), (C23, false), (C24, true), (C25, true), (C26, true)] : List (Addr × Bool)).all fun p => decide (PySem.W.kitOne K (.ref p.1) (.ref C2) = some p.2)) = true)
    (kx_TooMany : (([(C0, false), (C1, false), (C2, false), (C3, false), (C4, false), (C5, false), (C6, false), (C7, false), (C8, false), (C9, false), (C10, false), (C11, false), (C12, false), (C13, false), (C14, false), (C15, false), (C16, false), (C17, false), (C18, false), (C19, true), (C20, false), (C21, false), (C22, false), (C23, false), (C24, false), (C25, false), (C26, false)] : List (Addr × Bool)).all fun p => decide (PySem.W.kitOne K (.ref p.1) (.ref C19) = some p.2)) = true)
    (kx_ValueError : (([(C0, true), (C1, false), (C2, false), (C3, true), (C4, true), (C5, true), (C6, true), (C7, true), (C8, true), (C9, true), (C10, true), (C11, true), (C12, true), (C13, true), (C14, true), (C15, true), (C16, true), (C17, true), (C18, true), (C19, true), (C20, false), (C21, false), (C22, false), (C23, false), (C24, false), (C25, false), (C26, false)] : List (Addr × Bool)).all fun p => decide (PySem.W.kitOne K (.ref p.1) (.type "ValueError") = some p.2)) = true)
    (z0 : PySem.W.nsIn K mainGlobals "IndexError" = some none)
    (z1 : PySem.W.nsIn K mainGlobals "KeyError" = some none)
    (z2 : PySem.W.nsIn K mainGlobals "LookupError" = some none)
    (z3 : PySem.W.nsIn K mainGlobals "ValueError" = some none)
    (z4 : PySem.W.nsIn K mainGlobals "dict" = some none)
    (z5 : PySem.W.nsIn K mainGlobals "enumerate" = some none)
    (z6 : PySem.W.nsIn K mainGlobals "isinstance" = some none)
    (z7 : PySem.W.nsIn K mainGlobals "len" = some none)
    (z8 : PySem.W.nsIn K mainGlobals "list" = some none)
    (z9 : PySem.W.nsIn K mainGlobals "max" = some none)
    (z10 : PySem.W.nsIn K mainGlobals "min" = some none)
    (z11 : PySem.W.nsIn K mainGlobals "range" = some none)
    (z12 : PySem.W.nsIn K mainGlobals "repr" = some none)
    : ∃ (ca : Nat → Addr) (fd : FuncData), (∀ (s : Shared) (v : Value), BindsTo s fd ⟨[v], []⟩ [("_law_script", v)]) ∧ ∀ base : Heap, K.In base → base.Ns mainGlobals mg → U.FnG l.prog w K mg base CX0 4 fa fd ["_law_script"] (sp_law K ca) := by
  have e := hfa.symm.trans (PySem.W.mg_of X G a9)
  cases e
  have F0 := fun_mk (st := s__law_cell) l0 c0 k0
  have b0 := F0.binds (ps := P__law_cell) fun _ _ _ _ _ _ us hl => match us, hl with | [_, _], _ => rfl
  have F1 := fun_mk (st := s__law_box) l1 c1 k1
  have b1 := F1.binds (ps := P__law_box) fun _ _ _ _ _ _ us hl => match us, hl with | [_], _ => rfl
  have F2 := fun_mk (st := s__law_take) l2 c2 k2
  have b2 := F2.binds (ps := P__law_take) fun _ _ _ _ _ _ us hl => match us, hl with | [_, _], _ => rfl
  have F3 := fun_mk (st := s__law_value) l3 c3 k3
  have b3 := F3.binds (ps := P__law_value) fun _ _ _ _ _ _ us hl => match us, hl with | [_], _ => rfl
  have F4 := fun_mk (st := s__law_made) l4 c4 k4
  have b4 := F4.binds (ps := P__law_made) fun _ _ _ _ _ _ us hl => match us, hl with | [_], _ => rfl
  have F5 := fun_mk (st := s__law_field) l5 c5 k5
  have b5 := F5.binds (ps := P__law_field) fun _ _ _ _ _ _ us hl => match us, hl with | [_, _], _ => rfl
  have F6 := fun_mk (st := s__law_kinds) l6 c6 k6
  have b6 := F6.binds (ps := P__law_kinds) fun _ _ _ _ _ _ us hl => match us, hl with | [_], _ => rfl
  have F7 := fun_mk (st := s__law_bases) l7 c7 k7
  have b7 := F7.binds (ps := P__law_bases) fun _ _ _ _ _ _ us hl => match us, hl with | [_], _ => rfl
  have F8 := fun_mk (st := s__law_due) l8 c8 k8
  have b8 := F8.binds (ps := P__law_due) fun _ _ _ _ _ _ us hl => match us, hl with | [_], _ => rfl
  have F9 := fun_mk (st := s_law) l9 c9 k9
  have b9 := F9.binds (ps := P_law) fun _ _ _ _ _ _ us hl => match us, hl with | [_], _ => rfl
  have F10 := fun_mk (st := sI_InvalidMark) l10 c10 k10
  have b10 := F10.binds (ps := ["self", "value"]) fun _ _ _ _ _ _ us hl => match us, hl with | [_, _], _ => rfl
  have F11 := fun_mk (st := sI_InvalidMarks) l11 c11 k11
  have b11 := F11.binds (ps := ["self", "value"]) fun _ _ _ _ _ _ us hl => match us, hl with | [_, _], _ => rfl
  have F12 := fun_mk (st := sI_InvalidWords) l12 c12 k12
  have b12 := F12.binds (ps := ["self", "value"]) fun _ _ _ _ _ _ us hl => match us, hl with | [_, _], _ => rfl
  have F13 := fun_mk (st := sI_InvalidText) l13 c13 k13
  have b13 := F13.binds (ps := ["self", "value"]) fun _ _ _ _ _ _ us hl => match us, hl with | [_, _], _ => rfl
  have F14 := fun_mk (st := sI_InvalidStep) l14 c14 k14
  have b14 := F14.binds (ps := ["self", "value"]) fun _ _ _ _ _ _ us hl => match us, hl with | [_, _], _ => rfl
  have F15 := fun_mk (st := sI_InvalidChain) l15 c15 k15
  have b15 := F15.binds (ps := ["self", "value"]) fun _ _ _ _ _ _ us hl => match us, hl with | [_, _], _ => rfl
  have F16 := fun_mk (st := sI_InvalidStock) l16 c16 k16
  have b16 := F16.binds (ps := ["self", "value"]) fun _ _ _ _ _ _ us hl => match us, hl with | [_, _], _ => rfl
  have F17 := fun_mk (st := sI_InvalidInteger) l17 c17 k17
  have b17 := F17.binds (ps := ["self", "value"]) fun _ _ _ _ _ _ us hl => match us, hl with | [_, _], _ => rfl
  have F18 := fun_mk (st := sI_InvalidState) l18 c18 k18
  have b18 := F18.binds (ps := ["self", "value"]) fun _ _ _ _ _ _ us hl => match us, hl with | [_, _], _ => rfl
  have F19 := fun_mk (st := sI_InvalidRow) l19 c19 k19
  have b19 := F19.binds (ps := ["self", "value"]) fun _ _ _ _ _ _ us hl => match us, hl with | [_, _], _ => rfl
  have F20 := fun_mk (st := sI_InvalidChange) l20 c20 k20
  have b20 := F20.binds (ps := ["self", "value"]) fun _ _ _ _ _ _ us hl => match us, hl with | [_, _], _ => rfl
  have F21 := fun_mk (st := sI_InvalidName) l21 c21 k21
  have b21 := F21.binds (ps := ["self", "value"]) fun _ _ _ _ _ _ us hl => match us, hl with | [_, _], _ => rfl
  have F22 := fun_mk (st := sI_InvalidLine) l22 c22 k22
  have b22 := F22.binds (ps := ["self", "value"]) fun _ _ _ _ _ _ us hl => match us, hl with | [_, _], _ => rfl
  have F23 := fun_mk (st := sI_InvalidLines) l23 c23 k23
  have b23 := F23.binds (ps := ["self", "value"]) fun _ _ _ _ _ _ us hl => match us, hl with | [_, _], _ => rfl
  have F24 := fun_mk (st := sI_NotOver) l24 c24 k24
  have b24 := F24.binds (ps := ["self", "value"]) fun _ _ _ _ _ _ us hl => match us, hl with | [_, _], _ => rfl
  have F25 := fun_mk (st := sI_InvalidPage) l25 c25 k25
  have b25 := F25.binds (ps := ["self", "line"]) fun _ _ _ _ _ _ us hl => match us, hl with | [_, _], _ => rfl
  have F26 := fun_mk (st := sI_TooMany) l26 c26 k26
  have b26 := F26.binds (ps := ["self", "count"]) fun _ _ _ _ _ _ us hl => match us, hl with | [_, _], _ => rfl
  have F27 := fun_mk (st := sI_NoStep) l27 c27 k27
  have b27 := F27.binds (ps := ["self", "index"]) fun _ _ _ _ _ _ us hl => match us, hl with | [_, _], _ => rfl
  have F28 := fun_mk (st := sI_NoLetter) l28 c28 k28
  have b28 := F28.binds (ps := ["self", "value"]) fun _ _ _ _ _ _ us hl => match us, hl with | [_, _], _ => rfl
  have F29 := fun_mk (st := sI_NoInput) l29 c29 k29
  have b29 := F29.binds (ps := ["self", "value"]) fun _ _ _ _ _ _ us hl => match us, hl with | [_, _], _ => rfl
  have F30 := fun_mk (st := sI_NoChain) l30 c30 k30
  have b30 := F30.binds (ps := ["self", "name"]) fun _ _ _ _ _ _ us hl => match us, hl with | [_, _], _ => rfl
  have F31 := fun_mk (st := sI_NoStock) l31 c31 k31
  have b31 := F31.binds (ps := ["self"]) fun _ _ _ _ _ _ us hl => match us, hl with | [_], _ => rfl
  have F32 := fun_mk (st := sI_NothingToUndo) l32 c32 k32
  have b32 := F32.binds (ps := ["self"]) fun _ _ _ _ _ _ us hl => match us, hl with | [_], _ => rfl
  have F33 := fun_mk (st := sI_NothingToRedo) l33 c33 k33
  have b33 := F33.binds (ps := ["self"]) fun _ _ _ _ _ _ us hl => match us, hl with | [_], _ => rfl
  have T : Tx l.prog K mg (fun i => ([f0, f1, f2, f3, f4, f5, f6, f7, f8, fa, f10, f11, f12, f13, f14, f15, f16, f17, f18, f19, f20, f21, f22, f23, f24, f25, f26, f27, f28, f29, f30, f31, f32, f33] : List Addr).getD i 0) (fun i => ([PySem.W.fnOf "_law_cell" "_law_cell" (defArgs s__law_cell) (defBody s__law_cell) (defScope s__law_cell) .none kV0 dc0 pm0 an0 cd0 ct0, PySem.W.fnOf "_law_box" "_law_box" (defArgs s__law_box) (defBody s__law_box) (defScope s__law_box) .none kV1 dc1 pm1 an1 cd1 ct1, PySem.W.fnOf "_law_take" "_law_take" (defArgs s__law_take) (defBody s__law_take) (defScope s__law_take) .none kV2 dc2 pm2 an2 cd2 ct2, PySem.W.fnOf "_law_value" "_law_value" (defArgs s__law_value) (defBody s__law_value) (defScope s__law_value) .none kV3 dc3 pm3 an3 cd3 ct3, PySem.W.fnOf "_law_made" "_law_made" (defArgs s__law_made) (defBody s__law_made) (defScope s__law_made) .none kV4 dc4 pm4 an4 cd4 ct4, PySem.W.fnOf "_law_field" "_law_field" (defArgs s__law_field) (defBody s__law_field) (defScope s__law_field) .none kV5 dc5 pm5 an5 cd5 ct5, PySem.W.fnOf "_law_kinds" "_law_kinds" (defArgs s__law_kinds) (defBody s__law_kinds) (defScope s__law_kinds) .none kV6 dc6 pm6 an6 cd6 ct6, PySem.W.fnOf "_law_bases" "_law_bases" (defArgs s__law_bases) (defBody s__law_bases) (defScope s__law_bases) .none kV7 dc7 pm7 an7 cd7 ct7, PySem.W.fnOf "_law_due" "_law_due" (defArgs s__law_due) (defBody s__law_due) (defScope s__law_due) .none kV8 dc8 pm8 an8 cd8 ct8, PySem.W.fnOf "law" "law" (defArgs s_law) (defBody s_law) (defScope s_law) .none kV9 dc9 pm9 an9 cd9 ct9, PySem.W.fnOf "__init__" "InvalidMark.__init__" (defArgs sI_InvalidMark) (defBody sI_InvalidMark) (defScope sI_InvalidMark) .none kV10 dc10 pm10 an10 cd10 ct10, PySem.W.fnOf "__init__" "InvalidMarks.__init__" (defArgs sI_InvalidMarks) (defBody sI_InvalidMarks) (defScope sI_InvalidMarks) .none kV11 dc11 pm11 an11 cd11 ct11, PySem.W.fnOf "__init__" "InvalidWords.__init__" (defArgs sI_InvalidWords) (defBody sI_InvalidWords) (defScope sI_InvalidWords) .none kV12 dc12 pm12 an12 cd12 ct12, PySem.W.fnOf "__init__" "InvalidText.__init__" (defArgs sI_InvalidText) (defBody sI_InvalidText) (defScope sI_InvalidText) .none kV13 dc13 pm13 an13 cd13 ct13, PySem.W.fnOf "__init__" "InvalidStep.__init__" (defArgs sI_InvalidStep) (defBody sI_InvalidStep) (defScope sI_InvalidStep) .none kV14 dc14 pm14 an14 cd14 ct14, PySem.W.fnOf "__init__" "InvalidChain.__init__" (defArgs sI_InvalidChain) (defBody sI_InvalidChain) (defScope sI_InvalidChain) .none kV15 dc15 pm15 an15 cd15 ct15, PySem.W.fnOf "__init__" "InvalidStock.__init__" (defArgs sI_InvalidStock) (defBody sI_InvalidStock) (defScope sI_InvalidStock) .none kV16 dc16 pm16 an16 cd16 ct16, PySem.W.fnOf "__init__" "InvalidInteger.__init__" (defArgs sI_InvalidInteger) (defBody sI_InvalidInteger) (defScope sI_InvalidInteger) .none kV17 dc17 pm17 an17 cd17 ct17, PySem.W.fnOf "__init__" "InvalidState.__init__" (defArgs sI_InvalidState) (defBody sI_InvalidState) (defScope sI_InvalidState) .none kV18 dc18 pm18 an18 cd18 ct18, PySem.W.fnOf "__init__" "InvalidRow.__init__" (defArgs sI_InvalidRow) (defBody sI_InvalidRow) (defScope sI_InvalidRow) .none kV19 dc19 pm19 an19 cd19 ct19, PySem.W.fnOf "__init__" "InvalidChange.__init__" (defArgs sI_InvalidChange) (defBody sI_InvalidChange) (defScope sI_InvalidChange) .none kV20 dc20 pm20 an20 cd20 ct20, PySem.W.fnOf "__init__" "InvalidName.__init__" (defArgs sI_InvalidName) (defBody sI_InvalidName) (defScope sI_InvalidName) .none kV21 dc21 pm21 an21 cd21 ct21, PySem.W.fnOf "__init__" "InvalidLine.__init__" (defArgs sI_InvalidLine) (defBody sI_InvalidLine) (defScope sI_InvalidLine) .none kV22 dc22 pm22 an22 cd22 ct22, PySem.W.fnOf "__init__" "InvalidLines.__init__" (defArgs sI_InvalidLines) (defBody sI_InvalidLines) (defScope sI_InvalidLines) .none kV23 dc23 pm23 an23 cd23 ct23, PySem.W.fnOf "__init__" "NotOver.__init__" (defArgs sI_NotOver) (defBody sI_NotOver) (defScope sI_NotOver) .none kV24 dc24 pm24 an24 cd24 ct24, PySem.W.fnOf "__init__" "InvalidPage.__init__" (defArgs sI_InvalidPage) (defBody sI_InvalidPage) (defScope sI_InvalidPage) .none kV25 dc25 pm25 an25 cd25 ct25, PySem.W.fnOf "__init__" "TooMany.__init__" (defArgs sI_TooMany) (defBody sI_TooMany) (defScope sI_TooMany) .none kV26 dc26 pm26 an26 cd26 ct26, PySem.W.fnOf "__init__" "NoStep.__init__" (defArgs sI_NoStep) (defBody sI_NoStep) (defScope sI_NoStep) .none kV27 dc27 pm27 an27 cd27 ct27, PySem.W.fnOf "__init__" "NoLetter.__init__" (defArgs sI_NoLetter) (defBody sI_NoLetter) (defScope sI_NoLetter) .none kV28 dc28 pm28 an28 cd28 ct28, PySem.W.fnOf "__init__" "NoInput.__init__" (defArgs sI_NoInput) (defBody sI_NoInput) (defScope sI_NoInput) .none kV29 dc29 pm29 an29 cd29 ct29, PySem.W.fnOf "__init__" "NoChain.__init__" (defArgs sI_NoChain) (defBody sI_NoChain) (defScope sI_NoChain) .none kV30 dc30 pm30 an30 cd30 ct30, PySem.W.fnOf "__init__" "NoStock.__init__" (defArgs sI_NoStock) (defBody sI_NoStock) (defScope sI_NoStock) .none kV31 dc31 pm31 an31 cd31 ct31, PySem.W.fnOf "__init__" "NothingToUndo.__init__" (defArgs sI_NothingToUndo) (defBody sI_NothingToUndo) (defScope sI_NothingToUndo) .none kV32 dc32 pm32 an32 cd32 ct32, PySem.W.fnOf "__init__" "NothingToRedo.__init__" (defArgs sI_NothingToRedo) (defBody sI_NothingToRedo) (defScope sI_NothingToRedo) .none kV33 dc33 pm33 an33 cd33 ct33] : List FuncData).getD i (PySem.W.fnOf "law" "law" (defArgs s_law) (defBody s_law) (defScope s_law) .none kV9 dc9 pm9 an9 cd9 ct9)) (fun i => ([C0, C1, C2, C3, C4, C5, C6, C7, C8, C9, C10, C11, C12, C13, C14, C15, C16, C17, C18, C19, C20, C21, C22, C23, C24, C25, C26] : List Addr).getD i 0) := {
    ct := { yes := trivial, x_InvalidMark := ⟨ga3, gg3, eC3, hC3⟩, n_InvalidMark := nb3, x_InvalidMarks := ⟨ga4, gg4, eC4, hC4⟩, n_InvalidMarks := nb4, x_InvalidWords := ⟨ga5, gg5, eC5, hC5⟩, n_InvalidWords := nb5, x_InvalidText := ⟨ga6, gg6, eC6, hC6⟩, n_InvalidText := nb6, x_InvalidStep := ⟨ga7, gg7, eC7, hC7⟩, n_InvalidStep := nb7, x_InvalidChain := ⟨ga8, gg8, eC8, hC8⟩, n_InvalidChain := nb8, x_InvalidStock := ⟨ga9, gg9, eC9, hC9⟩, n_InvalidStock := nb9, x_InvalidInteger := ⟨ga10, gg10, eC10, hC10⟩, n_InvalidInteger := nb10, x_InvalidState := ⟨ga11, gg11, eC11, hC11⟩, n_InvalidState := nb11, x_InvalidRow := ⟨ga12, gg12, eC12, hC12⟩, n_InvalidRow := nb12, x_InvalidChange := ⟨ga13, gg13, eC13, hC13⟩, n_InvalidChange := nb13, x_InvalidName := ⟨ga14, gg14, eC14, hC14⟩, n_InvalidName := nb14, x_InvalidLine := ⟨ga15, gg15, eC15, hC15⟩, n_InvalidLine := nb15, x_InvalidLines := ⟨ga16, gg16, eC16, hC16⟩, n_InvalidLines := nb16, x_NotOver := ⟨ga17, gg17, eC17, hC17⟩, n_NotOver := nb17, x_InvalidPage := ⟨ga18, gg18, eC18, hC18⟩, n_InvalidPage := nb18, x_TooMany := ⟨ga19, gg19, eC19, hC19⟩, n_TooMany := nb19, x_NoStep := ⟨ga20, gg20, eC20, hC20⟩, n_NoStep := nb20, x_NoLetter := ⟨ga21, gg21, eC21, hC21⟩, n_NoLetter := nb21, x_NoInput := ⟨ga22, gg22, eC22, hC22⟩, n_NoInput := nb22, x_NoChain := ⟨ga23, gg23, eC23, hC23⟩, n_NoChain := nb23, kxc := kxc, kx_AbsentError := kx_AbsentError, kx_IndexError := kx_IndexError, kx_InvalidChain := kx_InvalidChain, kx_InvalidChange := kx_InvalidChange, kx_InvalidInteger := kx_InvalidInteger, kx_InvalidLine := kx_InvalidLine, kx_InvalidLines := kx_InvalidLines, kx_InvalidMark := kx_InvalidMark, kx_InvalidMarks := kx_InvalidMarks, kx_InvalidName := kx_InvalidName, kx_InvalidPage := kx_InvalidPage, kx_InvalidRow := kx_InvalidRow, kx_InvalidState := kx_InvalidState, kx_InvalidStep := kx_InvalidStep, kx_InvalidStock := kx_InvalidStock, kx_InvalidText := kx_InvalidText, kx_InvalidWords := kx_InvalidWords, kx_KeyError := kx_KeyError, kx_LookupError := kx_LookupError, kx_NoChain := kx_NoChain, kx_NoInput := kx_NoInput, kx_NoLetter := kx_NoLetter, kx_NoStep := kx_NoStep, kx_NoStock := kx_NoStock, kx_NotOver := kx_NotOver, kx_NothingToRedo := kx_NothingToRedo, kx_NothingToUndo := kx_NothingToUndo, kx_ReflowError := kx_ReflowError, kx_StateError := kx_StateError, kx_TooMany := kx_TooMany, kx_ValueError := kx_ValueError },
    f__law_cell := F0, b__law_cell := b0, m__law_cell := PySem.W.mg_of X G a0,
    f__law_box := F1, b__law_box := b1, m__law_box := PySem.W.mg_of X G a1,
    f__law_take := F2, b__law_take := b2, m__law_take := PySem.W.mg_of X G a2,
    f__law_value := F3, b__law_value := b3, m__law_value := PySem.W.mg_of X G a3,
    f__law_made := F4, b__law_made := b4, m__law_made := PySem.W.mg_of X G a4,
    f__law_field := F5, b__law_field := b5, m__law_field := PySem.W.mg_of X G a5,
    f__law_kinds := F6, b__law_kinds := b6, m__law_kinds := PySem.W.mg_of X G a6,
    f__law_bases := F7, b__law_bases := b7, m__law_bases := PySem.W.mg_of X G a7,
    f__law_due := F8, b__law_due := b8, m__law_due := PySem.W.mg_of X G a8,
    f_law := F9, b_law := b9, m_law := PySem.W.mg_of X G a9,
    bk_AbsentError := ⟨PySem.W.mg_of X G gC1, ⟨⟨_, _, _, _, _, _, _, _, _, _, _, _, _, _, _, xL1, rfl⟩, sa1, eC1, tC1, kC1⟩, bi1⟩,
    bq_ReflowError := bq0, bm_ReflowError := PySem.W.mg_of X G gC0, bk_ReflowError := kC0,
    bq_StateError := bq2, bm_StateError := PySem.W.mg_of X G gC2, bk_StateError := kC2,
    mx_AbsentError := PySem.W.mg_of X G gC1,
    mx_InvalidChain := PySem.W.mg_of X G gC8,
    mx_InvalidChange := PySem.W.mg_of X G gC13,
    mx_InvalidInteger := PySem.W.mg_of X G gC10,
    mx_InvalidLine := PySem.W.mg_of X G gC15,
    mx_InvalidLines := PySem.W.mg_of X G gC16,
    mx_InvalidMark := PySem.W.mg_of X G gC3,
    mx_InvalidMarks := PySem.W.mg_of X G gC4,
    mx_InvalidName := PySem.W.mg_of X G gC14,
    mx_InvalidPage := PySem.W.mg_of X G gC18,
    mx_InvalidRow := PySem.W.mg_of X G gC12,
    mx_InvalidState := PySem.W.mg_of X G gC11,
    mx_InvalidStep := PySem.W.mg_of X G gC7,
    mx_InvalidStock := PySem.W.mg_of X G gC9,
    mx_InvalidText := PySem.W.mg_of X G gC6,
    mx_InvalidWords := PySem.W.mg_of X G gC5,
    mx_NoChain := PySem.W.mg_of X G gC23,
    mx_NoInput := PySem.W.mg_of X G gC22,
    mx_NoLetter := PySem.W.mg_of X G gC21,
    mx_NoStep := PySem.W.mg_of X G gC20,
    mx_NoStock := PySem.W.mg_of X G gC24,
    mx_NotOver := PySem.W.mg_of X G gC17,
    mx_NothingToRedo := PySem.W.mg_of X G gC26,
    mx_NothingToUndo := PySem.W.mg_of X G gC25,
    mx_ReflowError := PySem.W.mg_of X G gC0,
    mx_StateError := PySem.W.mg_of X G gC2,
    mx_TooMany := PySem.W.mg_of X G gC19,
    x_InvalidMark := ⟨PySem.W.mg_of X G gC3, ⟨⟨_, _, _, _, _, _, _, _, _, _, _, _, _, _, _, xL3, rfl⟩, sa3, eC3, tC3, kC3⟩, ai3, ti3, nb3, ⟨ga3, gg3, eC3, hC3⟩, iC3⟩,
    F_InvalidMark := F10, i_InvalidMark := b10, m_InvalidMark := PySem.W.mg_of X G gC3,
    x_InvalidMarks := ⟨PySem.W.mg_of X G gC4, ⟨⟨_, _, _, _, _, _, _, _, _, _, _, _, _, _, _, xL4, rfl⟩, sa4, eC4, tC4, kC4⟩, ai4, ti4, nb4, ⟨ga4, gg4, eC4, hC4⟩, iC4⟩,
    F_InvalidMarks := F11, i_InvalidMarks := b11, m_InvalidMarks := PySem.W.mg_of X G gC4,
    x_InvalidWords := ⟨PySem.W.mg_of X G gC5, ⟨⟨_, _, _, _, _, _, _, _, _, _, _, _, _, _, _, xL5, rfl⟩, sa5, eC5, tC5, kC5⟩, ai5, ti5, nb5, ⟨ga5, gg5, eC5, hC5⟩, iC5⟩,
    F_InvalidWords := F12, i_InvalidWords := b12, m_InvalidWords := PySem.W.mg_of X G gC5,
    x_InvalidText := ⟨PySem.W.mg_of X G gC6, ⟨⟨_, _, _, _, _, _, _, _, _, _, _, _, _, _, _, xL6, rfl⟩, sa6, eC6, tC6, kC6⟩, ai6, ti6, nb6, ⟨ga6, gg6, eC6, hC6⟩, iC6⟩,
    F_InvalidText := F13, i_InvalidText := b13, m_InvalidText := PySem.W.mg_of X G gC6,
    x_InvalidStep := ⟨PySem.W.mg_of X G gC7, ⟨⟨_, _, _, _, _, _, _, _, _, _, _, _, _, _, _, xL7, rfl⟩, sa7, eC7, tC7, kC7⟩, ai7, ti7, nb7, ⟨ga7, gg7, eC7, hC7⟩, iC7⟩,
    F_InvalidStep := F14, i_InvalidStep := b14, m_InvalidStep := PySem.W.mg_of X G gC7,
    x_InvalidChain := ⟨PySem.W.mg_of X G gC8, ⟨⟨_, _, _, _, _, _, _, _, _, _, _, _, _, _, _, xL8, rfl⟩, sa8, eC8, tC8, kC8⟩, ai8, ti8, nb8, ⟨ga8, gg8, eC8, hC8⟩, iC8⟩,
    F_InvalidChain := F15, i_InvalidChain := b15, m_InvalidChain := PySem.W.mg_of X G gC8,
    x_InvalidStock := ⟨PySem.W.mg_of X G gC9, ⟨⟨_, _, _, _, _, _, _, _, _, _, _, _, _, _, _, xL9, rfl⟩, sa9, eC9, tC9, kC9⟩, ai9, ti9, nb9, ⟨ga9, gg9, eC9, hC9⟩, iC9⟩,
    F_InvalidStock := F16, i_InvalidStock := b16, m_InvalidStock := PySem.W.mg_of X G gC9,
    x_InvalidInteger := ⟨PySem.W.mg_of X G gC10, ⟨⟨_, _, _, _, _, _, _, _, _, _, _, _, _, _, _, xL10, rfl⟩, sa10, eC10, tC10, kC10⟩, ai10, ti10, nb10, ⟨ga10, gg10, eC10, hC10⟩, iC10⟩,
    F_InvalidInteger := F17, i_InvalidInteger := b17, m_InvalidInteger := PySem.W.mg_of X G gC10,
    x_InvalidState := ⟨PySem.W.mg_of X G gC11, ⟨⟨_, _, _, _, _, _, _, _, _, _, _, _, _, _, _, xL11, rfl⟩, sa11, eC11, tC11, kC11⟩, ai11, ti11, nb11, ⟨ga11, gg11, eC11, hC11⟩, iC11⟩,
    F_InvalidState := F18, i_InvalidState := b18, m_InvalidState := PySem.W.mg_of X G gC11,
    x_InvalidRow := ⟨PySem.W.mg_of X G gC12, ⟨⟨_, _, _, _, _, _, _, _, _, _, _, _, _, _, _, xL12, rfl⟩, sa12, eC12, tC12, kC12⟩, ai12, ti12, nb12, ⟨ga12, gg12, eC12, hC12⟩, iC12⟩,
    F_InvalidRow := F19, i_InvalidRow := b19, m_InvalidRow := PySem.W.mg_of X G gC12,
    x_InvalidChange := ⟨PySem.W.mg_of X G gC13, ⟨⟨_, _, _, _, _, _, _, _, _, _, _, _, _, _, _, xL13, rfl⟩, sa13, eC13, tC13, kC13⟩, ai13, ti13, nb13, ⟨ga13, gg13, eC13, hC13⟩, iC13⟩,
    F_InvalidChange := F20, i_InvalidChange := b20, m_InvalidChange := PySem.W.mg_of X G gC13,
    x_InvalidName := ⟨PySem.W.mg_of X G gC14, ⟨⟨_, _, _, _, _, _, _, _, _, _, _, _, _, _, _, xL14, rfl⟩, sa14, eC14, tC14, kC14⟩, ai14, ti14, nb14, ⟨ga14, gg14, eC14, hC14⟩, iC14⟩,
    F_InvalidName := F21, i_InvalidName := b21, m_InvalidName := PySem.W.mg_of X G gC14,
    x_InvalidLine := ⟨PySem.W.mg_of X G gC15, ⟨⟨_, _, _, _, _, _, _, _, _, _, _, _, _, _, _, xL15, rfl⟩, sa15, eC15, tC15, kC15⟩, ai15, ti15, nb15, ⟨ga15, gg15, eC15, hC15⟩, iC15⟩,
    F_InvalidLine := F22, i_InvalidLine := b22, m_InvalidLine := PySem.W.mg_of X G gC15,
    x_InvalidLines := ⟨PySem.W.mg_of X G gC16, ⟨⟨_, _, _, _, _, _, _, _, _, _, _, _, _, _, _, xL16, rfl⟩, sa16, eC16, tC16, kC16⟩, ai16, ti16, nb16, ⟨ga16, gg16, eC16, hC16⟩, iC16⟩,
    F_InvalidLines := F23, i_InvalidLines := b23, m_InvalidLines := PySem.W.mg_of X G gC16,
    x_NotOver := ⟨PySem.W.mg_of X G gC17, ⟨⟨_, _, _, _, _, _, _, _, _, _, _, _, _, _, _, xL17, rfl⟩, sa17, eC17, tC17, kC17⟩, ai17, ti17, nb17, ⟨ga17, gg17, eC17, hC17⟩, iC17⟩,
    F_NotOver := F24, i_NotOver := b24, m_NotOver := PySem.W.mg_of X G gC17,
    x_InvalidPage := ⟨PySem.W.mg_of X G gC18, ⟨⟨_, _, _, _, _, _, _, _, _, _, _, _, _, _, _, xL18, rfl⟩, sa18, eC18, tC18, kC18⟩, ai18, ti18, nb18, ⟨ga18, gg18, eC18, hC18⟩, iC18⟩,
    F_InvalidPage := F25, i_InvalidPage := b25, m_InvalidPage := PySem.W.mg_of X G gC18,
    x_TooMany := ⟨PySem.W.mg_of X G gC19, ⟨⟨_, _, _, _, _, _, _, _, _, _, _, _, _, _, _, xL19, rfl⟩, sa19, eC19, tC19, kC19⟩, ai19, ti19, nb19, ⟨ga19, gg19, eC19, hC19⟩, iC19⟩,
    F_TooMany := F26, i_TooMany := b26, m_TooMany := PySem.W.mg_of X G gC19,
    x_NoStep := ⟨PySem.W.mg_of X G gC20, ⟨⟨_, _, _, _, _, _, _, _, _, _, _, _, _, _, _, xL20, rfl⟩, sa20, eC20, tC20, kC20⟩, ai20, ti20, nb20, ⟨ga20, gg20, eC20, hC20⟩, iC20⟩,
    F_NoStep := F27, i_NoStep := b27, m_NoStep := PySem.W.mg_of X G gC20,
    x_NoLetter := ⟨PySem.W.mg_of X G gC21, ⟨⟨_, _, _, _, _, _, _, _, _, _, _, _, _, _, _, xL21, rfl⟩, sa21, eC21, tC21, kC21⟩, ai21, ti21, nb21, ⟨ga21, gg21, eC21, hC21⟩, iC21⟩,
    F_NoLetter := F28, i_NoLetter := b28, m_NoLetter := PySem.W.mg_of X G gC21,
    x_NoInput := ⟨PySem.W.mg_of X G gC22, ⟨⟨_, _, _, _, _, _, _, _, _, _, _, _, _, _, _, xL22, rfl⟩, sa22, eC22, tC22, kC22⟩, ai22, ti22, nb22, ⟨ga22, gg22, eC22, hC22⟩, iC22⟩,
    F_NoInput := F29, i_NoInput := b29, m_NoInput := PySem.W.mg_of X G gC22,
    x_NoChain := ⟨PySem.W.mg_of X G gC23, ⟨⟨_, _, _, _, _, _, _, _, _, _, _, _, _, _, _, xL23, rfl⟩, sa23, eC23, tC23, kC23⟩, ai23, ti23, nb23, ⟨ga23, gg23, eC23, hC23⟩, iC23⟩,
    F_NoChain := F30, i_NoChain := b30, m_NoChain := PySem.W.mg_of X G gC23,
    x0_NoStock := ⟨PySem.W.mg_of X G gC24, ⟨_, _, _, _, _, _, _, _, _, _, _, _, _, _, _, xL24, rfl⟩, eC24, tC24, kC24, ai24, ti24⟩,
    F_NoStock := F31, i_NoStock := b31, m_NoStock := PySem.W.mg_of X G gC24,
    x0_NothingToUndo := ⟨PySem.W.mg_of X G gC25, ⟨_, _, _, _, _, _, _, _, _, _, _, _, _, _, _, xL25, rfl⟩, eC25, tC25, kC25, ai25, ti25⟩,
    F_NothingToUndo := F32, i_NothingToUndo := b32, m_NothingToUndo := PySem.W.mg_of X G gC25,
    x0_NothingToRedo := ⟨PySem.W.mg_of X G gC26, ⟨_, _, _, _, _, _, _, _, _, _, _, _, _, _, _, xL26, rfl⟩, eC26, tC26, kC26, ai26, ti26⟩,
    F_NothingToRedo := F33, i_NothingToRedo := b33, m_NothingToRedo := PySem.W.mg_of X G gC26,
    y_StateError := ⟨bg2, _, br2, bf2⟩, w_StateError := PySem.W.mg_of X G gC2,
    y_ReflowError := ⟨bg0, _, br0, bf0⟩, w_ReflowError := PySem.W.mg_of X G gC0,
    y_AbsentError := ⟨bg1, _, br1, bf1⟩, w_AbsentError := PySem.W.mg_of X G gC1,
    z_IndexError := PySem.W.mg_none_of X G z0,
    z_KeyError := PySem.W.mg_none_of X G z1,
    z_LookupError := PySem.W.mg_none_of X G z2,
    z_ValueError := PySem.W.mg_none_of X G z3,
    z_dict := PySem.W.mg_none_of X G z4,
    z_enumerate := PySem.W.mg_none_of X G z5,
    z_isinstance := PySem.W.mg_none_of X G z6,
    z_len := PySem.W.mg_none_of X G z7,
    z_list := PySem.W.mg_none_of X G z8,
    z_max := PySem.W.mg_none_of X G z9,
    z_min := PySem.W.mg_none_of X G z10,
    z_range := PySem.W.mg_none_of X G z11,
    z_repr := PySem.W.mg_none_of X G z12 }
  exact ⟨_, _, fun s v => .of_eq rfl, fun base _ _ => ok_law T⟩
theorem walk {l : PySem.W.OpenLaw} {q : Program} {loose : List Str} {XP : (Str → Option Value) → Heap → Prop} {YP : World → Heap → Prop} {d : DefRec} {K : Params → PySem.W.Frag} (hn : l.most = some 63) (hdf : d.params.defaults = [])
    (hY : ∀ (w : World) (h : Heap), YP w h → (K w.params).In h)
    (F : ∀ (w : World) (mg : Str → Option Value) (fa : Addr) (h : Heap), (K w.params).In h → h.Ns mainGlobals mg → mg d.name = some (.ref fa) →
      ∃ (ca : Nat → Addr) (fd : FuncData), (∀ (s : Shared) (u : Value), BindsTo s fd ⟨[u], []⟩ [("_law_script", u)]) ∧ ∀ base : Heap, (K w.params).In base → base.Ns mainGlobals mg → U.FnG l.prog w (K w.params) mg base CX0 4 fa fd ["_law_script"] (sp_law (K w.params) ca)) :
    PySem.W.WalkO q loose XP YP l.row.toRowW d [] (fun f vs => PySem.call f vs) :=
  U.walk_ofG (n := 63) (k := 4) (x := "_law_script") (sp := fun w ca => sp_law (K w.params) ca) hn (by decide) hdf ⟨rfl, by decide, by decide⟩ hY F (fun _ _ _ a ns hl hO hS => law_sp hO hS (law_true ns hl))
end Lw
open Lean in
local macro_rules | `(tactic| kernel_rfl) => do
  if (← Macro.resolveGlobalName `seenIt).isEmpty then `(tactic| first | (refine Lw.joinH ?_ ?_ ?_; exact Lw.hdA _ _; exact Lw.hdB _ _; exact Lw.hdC _ _) | (open Lw.Mark in kernel_rfl)) else Macro.throwUnsupported
open PySem PySem.W PyProof.Rows
set_option maxRecDepth 100000 in
set_option maxHeartbeats 0 in
theorem PySem.Challenge.cw_reflows_k03_errors_and_their_fields_holds : PySem.Challenge.rw_reflows_k03_errors_and_their_fields.Holds := by
  w_on; o_law; k_headL; (case hw => w_witness2)
  k_fill
  refine Lw.walk (l := PySem.Challenge.rw_reflows_k03_errors_and_their_fields) rfl rfl (fun w h Y => PySem.W.kIn_of Y) ?F
  case F =>
    intro w mg fa h KX G hmg
    refine' Lw.all_mk KX G hmg ?gC0 ?gC1 ?gC2 ?gC3 ?gC4 ?gC5 ?gC6 ?gC7 ?gC8 ?gC9 ?gC10 ?gC11 ?gC12 ?gC13 ?gC14 ?gC15 ?gC16 ?gC17 ?gC18 ?gC19 ?gC20 ?gC21 ?gC22 ?gC23 ?gC24 ?gC25 ?gC26 ?a0 ?l0 ?c0 ?k0 ?a1 ?l1 ?c1 ?k1 ?a2 ?l2 ?c2 ?k2 ?a3 ?l3 ?c3 ?k3 ?a4 ?l4 ?c4 ?k4 ?a5 ?l5 ?c5 ?k5 ?a6 ?l6 ?c6 ?k6 ?a7 ?l7 ?c7 ?k7 ?a8 ?l8 ?c8 ?k8 ?a9 ?l9 ?c9 ?k9 ?bg0 ?br0 ?bf0 ?bg1 ?br1 ?bf1 ?xL3 ?sa3 ?ga3 ?gg3 ?nb3 ?ai3 ?ti3 ?l10 ?c10 ?k10 ?kC3 ?eC3 ?tC3 ?hC3 ?iC3 ?xL4 ?sa4 ?ga4 ?gg4 ?nb4 ?ai4 ?ti4 ?l11 ?c11 ?k11 ?kC4 ?eC4 ?tC4 ?hC4 ?iC4 ?xL5 ?sa5 ?ga5 ?gg5 ?nb5 ?ai5 ?ti5 ?l12 ?c12 ?k12 ?kC5 ?eC5 ?tC5 ?hC5 ?iC5 ?xL6 ?sa6 ?ga6 ?gg6 ?nb6 ?ai6 ?ti6 ?l13 ?c13 ?k13 ?kC6 ?eC6 ?tC6 ?hC6 ?iC6 ?xL7 ?sa7 ?ga7 ?gg7 ?nb7 ?ai7 ?ti7 ?l14 ?c14 ?k14 ?kC7 ?eC7 ?tC7 ?hC7 ?iC7 ?xL8 ?sa8 ?ga8 ?gg8 ?nb8 ?ai8 ?ti8 ?l15 ?c15 ?k15 ?kC8 ?eC8 ?tC8 ?hC8 ?iC8 ?xL9 ?sa9 ?ga9 ?gg9 ?nb9 ?ai9 ?ti9 ?l16 ?c16 ?k16 ?kC9 ?eC9 ?tC9 ?hC9 ?iC9 ?xL10 ?sa10 ?ga10 ?gg10 ?nb10 ?ai10 ?ti10 ?l17 ?c17 ?k17 ?kC10 ?eC10 ?tC10 ?hC10 ?iC10 ?xL11 ?sa11 ?ga11 ?gg11 ?nb11 ?ai11 ?ti11 ?l18 ?c18 ?k18 ?kC11 ?eC11 ?tC11 ?hC11 ?iC11 ?xL12 ?sa12 ?ga12 ?gg12 ?nb12 ?ai12 ?ti12 ?l19 ?c19 ?k19 ?kC12 ?eC12 ?tC12 ?hC12 ?iC12 ?xL13 ?sa13 ?ga13 ?gg13 ?nb13 ?ai13 ?ti13 ?l20 ?c20 ?k20 ?kC13 ?eC13 ?tC13 ?hC13 ?iC13 ?xL14 ?sa14 ?ga14 ?gg14 ?nb14 ?ai14 ?ti14 ?l21 ?c21 ?k21 ?kC14 ?eC14 ?tC14 ?hC14 ?iC14 ?xL15 ?sa15 ?ga15 ?gg15 ?nb15 ?ai15 ?ti15 ?l22 ?c22 ?k22 ?kC15 ?eC15 ?tC15 ?hC15 ?iC15 ?xL16 ?sa16 ?ga16 ?gg16 ?nb16 ?ai16 ?ti16 ?l23 ?c23 ?k23 ?kC16 ?eC16 ?tC16 ?hC16 ?iC16 ?xL17 ?sa17 ?ga17 ?gg17 ?nb17 ?ai17 ?ti17 ?l24 ?c24 ?k24 ?kC17 ?eC17 ?tC17 ?hC17 ?iC17 ?xL18 ?sa18 ?ga18 ?gg18 ?nb18 ?ai18 ?ti18 ?l25 ?c25 ?k25 ?kC18 ?eC18 ?tC18 ?hC18 ?iC18 ?xL19 ?sa19 ?ga19 ?gg19 ?nb19 ?ai19 ?ti19 ?l26 ?c26 ?k26 ?kC19 ?eC19 ?tC19 ?hC19 ?iC19 ?xL20 ?sa20 ?ga20 ?gg20 ?nb20 ?ai20 ?ti20 ?l27 ?c27 ?k27 ?kC20 ?eC20 ?tC20 ?hC20 ?iC20 ?xL21 ?sa21 ?ga21 ?gg21 ?nb21 ?ai21 ?ti21 ?l28 ?c28 ?k28 ?kC21 ?eC21 ?tC21 ?hC21 ?iC21 ?xL22 ?sa22 ?ga22 ?gg22 ?nb22 ?ai22 ?ti22 ?l29 ?c29 ?k29 ?kC22 ?eC22 ?tC22 ?hC22 ?iC22 ?xL23 ?sa23 ?ga23 ?gg23 ?nb23 ?ai23 ?ti23 ?l30 ?c30 ?k30 ?kC23 ?eC23 ?tC23 ?hC23 ?iC23 ?bg2 ?br2 ?bf2 ?xL24 ?ai24 ?ti24 ?l31 ?c31 ?k31 ?kC24 ?eC24 ?tC24 ?iC24 ?xL25 ?ai25 ?ti25 ?l32 ?c32 ?k32 ?kC25 ?eC25 ?tC25 ?iC25 ?xL26 ?ai26 ?ti26 ?l33 ?c33 ?k33 ?kC26 ?eC26 ?tC26 ?iC26 ?xL1 ?sa1 ?eC1 ?tC1 ?bi1 ?kC1 ?bq0 ?kC0 ?bq2 ?kC2 ?kxc ?kx_AbsentError ?kx_IndexError ?kx_InvalidChain ?kx_InvalidChange ?kx_InvalidInteger ?kx_InvalidLine ?kx_InvalidLines ?kx_InvalidMark ?kx_InvalidMarks ?kx_InvalidName ?kx_InvalidPage ?kx_InvalidRow ?kx_InvalidState ?kx_InvalidStep ?kx_InvalidStock ?kx_InvalidText ?kx_InvalidWords ?kx_KeyError ?kx_LookupError ?kx_NoChain ?kx_NoInput ?kx_NoLetter ?kx_NoStep ?kx_NoStock ?kx_NotOver ?kx_NothingToRedo ?kx_NothingToUndo ?kx_ReflowError ?kx_StateError ?kx_TooMany ?kx_ValueError ?z0 ?z1 ?z2 ?z3 ?z4 ?z5 ?z6 ?z7 ?z8 ?z9 ?z10 ?z11 ?z12
    (case gC0 => first | k_is | rfl)
    (case gC1 => first | k_is | rfl)
    (case gC2 => first | k_is | rfl)
    (case gC3 => first | k_is | rfl)
    (case gC4 => first | k_is | rfl)
    (case gC5 => first | k_is | rfl)
    (case gC6 => first | k_is | rfl)
    (case gC7 => first | k_is | rfl)
    (case gC8 => first | k_is | rfl)
    (case gC9 => first | k_is | rfl)
    (case gC10 => first | k_is | rfl)
    (case gC11 => first | k_is | rfl)
    (case gC12 => first | k_is | rfl)
    (case gC13 => first | k_is | rfl)
    (case gC14 => first | k_is | rfl)
    (case gC15 => first | k_is | rfl)
    (case gC16 => first | k_is | rfl)
    (case gC17 => first | k_is | rfl)
    (case gC18 => first | k_is | rfl)
    (case gC19 => first | k_is | rfl)
    (case gC20 => first | k_is | rfl)
    (case gC21 => first | k_is | rfl)
    (case gC22 => first | k_is | rfl)
    (case gC23 => first | k_is | rfl)
    (case gC24 => first | k_is | rfl)
    (case gC25 => first | k_is | rfl)
    (case gC26 => first | k_is | rfl)
    (case a0 => first | k_is | rfl)
    (case l0 => first | k_is | rfl)
    (case c0 => first | k_is | rfl)
    (case k0 => first | k_is | rfl)
    (case a1 => first | k_is | rfl)
    (case l1 => first | k_is | rfl)
    (case c1 => first | k_is | rfl)
    (case k1 => first | k_is | rfl)
    (case a2 => first | k_is | rfl)
    (case l2 => first | k_is | rfl)
    (case c2 => first | k_is | rfl)
    (case k2 => first | k_is | rfl)
    (case a3 => first | k_is | rfl)
    (case l3 => first | k_is | rfl)
    (case c3 => first | k_is | rfl)
    (case k3 => first | k_is | rfl)
    (case a4 => first | k_is | rfl)
    (case l4 => first | k_is | rfl)
    (case c4 => first | k_is | rfl)
    (case k4 => first | k_is | rfl)
    (case a5 => first | k_is | rfl)
    (case l5 => first | k_is | rfl)
    (case c5 => first | k_is | rfl)
    (case k5 => first | k_is | rfl)
    (case a6 => first | k_is | rfl)
    (case l6 => first | k_is | rfl)
    (case c6 => first | k_is | rfl)
    (case k6 => first | k_is | rfl)
    (case a7 => first | k_is | rfl)
    (case l7 => first | k_is | rfl)
    (case c7 => first | k_is | rfl)
    (case k7 => first | k_is | rfl)
    (case a8 => first | k_is | rfl)
    (case l8 => first | k_is | rfl)
    (case c8 => first | k_is | rfl)
    (case k8 => first | k_is | rfl)
    (case a9 => first | k_is | rfl)
    (case l9 => first | k_is | rfl)
    (case c9 => first | k_is | rfl)
    (case k9 => first | k_is | rfl)
    (case bg0 => first | k_is | rfl)
    (case br0 => first | k_is | rfl)
    (case bf0 => first | k_is | rfl)
    (case bg1 => first | k_is | rfl)
    (case br1 => first | k_is | rfl)
    (case bf1 => first | k_is | rfl)
    (case xL3 => first | k_is | rfl)
    (case sa3 => first | k_is | rfl)
    (case ga3 => first | k_is | rfl)
    (case gg3 => first | k_is | rfl)
    (case nb3 => first | k_is | rfl)
    (case ai3 => first | k_is | rfl)
    (case ti3 => first | k_is | rfl)
    (case l10 => first | k_is | rfl)
    (case c10 => first | k_is | rfl)
    (case k10 => first | k_is | rfl)
    (case kC3 => first | k_is | rfl)
    (case eC3 => first | k_is | rfl)
    (case tC3 => first | k_is | rfl)
    (case hC3 => first | k_is | rfl)
    (case iC3 => first | k_is | rfl)
    (case xL4 => first | k_is | rfl)
    (case sa4 => first | k_is | rfl)
    (case ga4 => first | k_is | rfl)
    (case gg4 => first | k_is | rfl)
    (case nb4 => first | k_is | rfl)
    (case ai4 => first | k_is | rfl)
    (case ti4 => first | k_is | rfl)
    (case l11 => first | k_is | rfl)
    (case c11 => first | k_is | rfl)
    (case k11 => first | k_is | rfl)
    (case kC4 => first | k_is | rfl)
    (case eC4 => first | k_is | rfl)
    (case tC4 => first | k_is | rfl)
    (case hC4 => first | k_is | rfl)
    (case iC4 => first | k_is | rfl)
    (case xL5 => first | k_is | rfl)
    (case sa5 => first | k_is | rfl)
    (case ga5 => first | k_is | rfl)
    (case gg5 => first | k_is | rfl)
    (case nb5 => first | k_is | rfl)
    (case ai5 => first | k_is | rfl)
    (case ti5 => first | k_is | rfl)
    (case l12 => first | k_is | rfl)
    (case c12 => first | k_is | rfl)
    (case k12 => first | k_is | rfl)
    (case kC5 => first | k_is | rfl)
    (case eC5 => first | k_is | rfl)
    (case tC5 => first | k_is | rfl)
    (case hC5 => first | k_is | rfl)
    (case iC5 => first | k_is | rfl)
    (case xL6 => first | k_is | rfl)
    (case sa6 => first | k_is | rfl)
    (case ga6 => first | k_is | rfl)
    (case gg6 => first | k_is | rfl)
    (case nb6 => first | k_is | rfl)
    (case ai6 => first | k_is | rfl)
    (case ti6 => first | k_is | rfl)
    (case l13 => first | k_is | rfl)
    (case c13 => first | k_is | rfl)
    (case k13 => first | k_is | rfl)
    (case kC6 => first | k_is | rfl)
    (case eC6 => first | k_is | rfl)
    (case tC6 => first | k_is | rfl)
    (case hC6 => first | k_is | rfl)
    (case iC6 => first | k_is | rfl)
    (case xL7 => first | k_is | rfl)
    (case sa7 => first | k_is | rfl)
    (case ga7 => first | k_is | rfl)
    (case gg7 => first | k_is | rfl)
    (case nb7 => first | k_is | rfl)
    (case ai7 => first | k_is | rfl)
    (case ti7 => first | k_is | rfl)
    (case l14 => first | k_is | rfl)
    (case c14 => first | k_is | rfl)
    (case k14 => first | k_is | rfl)
    (case kC7 => first | k_is | rfl)
    (case eC7 => first | k_is | rfl)
    (case tC7 => first | k_is | rfl)
    (case hC7 => first | k_is | rfl)
    (case iC7 => first | k_is | rfl)
    (case xL8 => first | k_is | rfl)
    (case sa8 => first | k_is | rfl)
    (case ga8 => first | k_is | rfl)
    (case gg8 => first | k_is | rfl)
    (case nb8 => first | k_is | rfl)
    (case ai8 => first | k_is | rfl)
    (case ti8 => first | k_is | rfl)
    (case l15 => first | k_is | rfl)
    (case c15 => first | k_is | rfl)
    (case k15 => first | k_is | rfl)
    (case kC8 => first | k_is | rfl)
    (case eC8 => first | k_is | rfl)
    (case tC8 => first | k_is | rfl)
    (case hC8 => first | k_is | rfl)
    (case iC8 => first | k_is | rfl)
    (case xL9 => first | k_is | rfl)
    (case sa9 => first | k_is | rfl)
    (case ga9 => first | k_is | rfl)
    (case gg9 => first | k_is | rfl)
    (case nb9 => first | k_is | rfl)
    (case ai9 => first | k_is | rfl)
    (case ti9 => first | k_is | rfl)
    (case l16 => first | k_is | rfl)
    (case c16 => first | k_is | rfl)
    (case k16 => first | k_is | rfl)
    (case kC9 => first | k_is | rfl)
    (case eC9 => first | k_is | rfl)
    (case tC9 => first | k_is | rfl)
    (case hC9 => first | k_is | rfl)
    (case iC9 => first | k_is | rfl)
    (case xL10 => first | k_is | rfl)
    (case sa10 => first | k_is | rfl)
    (case ga10 => first | k_is | rfl)
    (case gg10 => first | k_is | rfl)
    (case nb10 => first | k_is | rfl)
    (case ai10 => first | k_is | rfl)
    (case ti10 => first | k_is | rfl)
    (case l17 => first | k_is | rfl)
    (case c17 => first | k_is | rfl)
    (case k17 => first | k_is | rfl)
    (case kC10 => first | k_is | rfl)
    (case eC10 => first | k_is | rfl)
    (case tC10 => first | k_is | rfl)
    (case hC10 => first | k_is | rfl)
    (case iC10 => first | k_is | rfl)
    (case xL11 => first | k_is | rfl)
    (case sa11 => first | k_is | rfl)
    (case ga11 => first | k_is | rfl)
    (case gg11 => first | k_is | rfl)
    (case nb11 => first | k_is | rfl)
    (case ai11 => first | k_is | rfl)
    (case ti11 => first | k_is | rfl)
    (case l18 => first | k_is | rfl)
    (case c18 => first | k_is | rfl)
    (case k18 => first | k_is | rfl)
    (case kC11 => first | k_is | rfl)
    (case eC11 => first | k_is | rfl)
    (case tC11 => first | k_is | rfl)
    (case hC11 => first | k_is | rfl)
    (case iC11 => first | k_is | rfl)
    (case xL12 => first | k_is | rfl)
    (case sa12 => first | k_is | rfl)
    (case ga12 => first | k_is | rfl)
    (case gg12 => first | k_is | rfl)
    (case nb12 => first | k_is | rfl)
    (case ai12 => first | k_is | rfl)
    (case ti12 => first | k_is | rfl)
    (case l19 => first | k_is | rfl)
    (case c19 => first | k_is | rfl)
    (case k19 => first | k_is | rfl)
    (case kC12 => first | k_is | rfl)
    (case eC12 => first | k_is | rfl)
    (case tC12 => first | k_is | rfl)
    (case hC12 => first | k_is | rfl)
    (case iC12 => first | k_is | rfl)
    (case xL13 => first | k_is | rfl)
    (case sa13 => first | k_is | rfl)
    (case ga13 => first | k_is | rfl)
    (case gg13 => first | k_is | rfl)
    (case nb13 => first | k_is | rfl)
    (case ai13 => first | k_is | rfl)
    (case ti13 => first | k_is | rfl)
    (case l20 => first | k_is | rfl)
    (case c20 => first | k_is | rfl)
    (case k20 => first | k_is | rfl)
    (case kC13 => first | k_is | rfl)
    (case eC13 => first | k_is | rfl)
    (case tC13 => first | k_is | rfl)
    (case hC13 => first | k_is | rfl)
    (case iC13 => first | k_is | rfl)
    (case xL14 => first | k_is | rfl)
    (case sa14 => first | k_is | rfl)
    (case ga14 => first | k_is | rfl)
    (case gg14 => first | k_is | rfl)
    (case nb14 => first | k_is | rfl)
    (case ai14 => first | k_is | rfl)
    (case ti14 => first | k_is | rfl)
    (case l21 => first | k_is | rfl)
    (case c21 => first | k_is | rfl)
    (case k21 => first | k_is | rfl)
    (case kC14 => first | k_is | rfl)
    (case eC14 => first | k_is | rfl)
    (case tC14 => first | k_is | rfl)
    (case hC14 => first | k_is | rfl)
    (case iC14 => first | k_is | rfl)
    (case xL15 => first | k_is | rfl)
    (case sa15 => first | k_is | rfl)
    (case ga15 => first | k_is | rfl)
    (case gg15 => first | k_is | rfl)
    (case nb15 => first | k_is | rfl)
    (case ai15 => first | k_is | rfl)
    (case ti15 => first | k_is | rfl)
    (case l22 => first | k_is | rfl)
    (case c22 => first | k_is | rfl)
    (case k22 => first | k_is | rfl)
    (case kC15 => first | k_is | rfl)
    (case eC15 => first | k_is | rfl)
    (case tC15 => first | k_is | rfl)
    (case hC15 => first | k_is | rfl)
    (case iC15 => first | k_is | rfl)
    (case xL16 => first | k_is | rfl)
    (case sa16 => first | k_is | rfl)
    (case ga16 => first | k_is | rfl)
    (case gg16 => first | k_is | rfl)
    (case nb16 => first | k_is | rfl)
    (case ai16 => first | k_is | rfl)
    (case ti16 => first | k_is | rfl)
    (case l23 => first | k_is | rfl)
    (case c23 => first | k_is | rfl)
    (case k23 => first | k_is | rfl)
    (case kC16 => first | k_is | rfl)
    (case eC16 => first | k_is | rfl)
    (case tC16 => first | k_is | rfl)
    (case hC16 => first | k_is | rfl)
    (case iC16 => first | k_is | rfl)
    (case xL17 => first | k_is | rfl)
    (case sa17 => first | k_is | rfl)
    (case ga17 => first | k_is | rfl)
    (case gg17 => first | k_is | rfl)
    (case nb17 => first | k_is | rfl)
    (case ai17 => first | k_is | rfl)
    (case ti17 => first | k_is | rfl)
    (case l24 => first | k_is | rfl)
    (case c24 => first | k_is | rfl)
    (case k24 => first | k_is | rfl)
    (case kC17 => first | k_is | rfl)
    (case eC17 => first | k_is | rfl)
    (case tC17 => first | k_is | rfl)
    (case hC17 => first | k_is | rfl)
    (case iC17 => first | k_is | rfl)
    (case xL18 => first | k_is | rfl)
    (case sa18 => first | k_is | rfl)
    (case ga18 => first | k_is | rfl)
    (case gg18 => first | k_is | rfl)
    (case nb18 => first | k_is | rfl)
    (case ai18 => first | k_is | rfl)
    (case ti18 => first | k_is | rfl)
    (case l25 => first | k_is | rfl)
    (case c25 => first | k_is | rfl)
    (case k25 => first | k_is | rfl)
    (case kC18 => first | k_is | rfl)
    (case eC18 => first | k_is | rfl)
    (case tC18 => first | k_is | rfl)
    (case hC18 => first | k_is | rfl)
    (case iC18 => first | k_is | rfl)
    (case xL19 => first | k_is | rfl)
    (case sa19 => first | k_is | rfl)
    (case ga19 => first | k_is | rfl)
    (case gg19 => first | k_is | rfl)
    (case nb19 => first | k_is | rfl)
    (case ai19 => first | k_is | rfl)
    (case ti19 => first | k_is | rfl)
    (case l26 => first | k_is | rfl)
    (case c26 => first | k_is | rfl)
    (case k26 => first | k_is | rfl)
    (case kC19 => first | k_is | rfl)
    (case eC19 => first | k_is | rfl)
    (case tC19 => first | k_is | rfl)
    (case hC19 => first | k_is | rfl)
    (case iC19 => first | k_is | rfl)
    (case xL20 => first | k_is | rfl)
    (case sa20 => first | k_is | rfl)
    (case ga20 => first | k_is | rfl)
    (case gg20 => first | k_is | rfl)
    (case nb20 => first | k_is | rfl)
    (case ai20 => first | k_is | rfl)
    (case ti20 => first | k_is | rfl)
    (case l27 => first | k_is | rfl)
    (case c27 => first | k_is | rfl)
    (case k27 => first | k_is | rfl)
    (case kC20 => first | k_is | rfl)
    (case eC20 => first | k_is | rfl)
    (case tC20 => first | k_is | rfl)
    (case hC20 => first | k_is | rfl)
    (case iC20 => first | k_is | rfl)
    (case xL21 => first | k_is | rfl)
    (case sa21 => first | k_is | rfl)
    (case ga21 => first | k_is | rfl)
    (case gg21 => first | k_is | rfl)
    (case nb21 => first | k_is | rfl)
    (case ai21 => first | k_is | rfl)
    (case ti21 => first | k_is | rfl)
    (case l28 => first | k_is | rfl)
    (case c28 => first | k_is | rfl)
    (case k28 => first | k_is | rfl)
    (case kC21 => first | k_is | rfl)
    (case eC21 => first | k_is | rfl)
    (case tC21 => first | k_is | rfl)
    (case hC21 => first | k_is | rfl)
    (case iC21 => first | k_is | rfl)
    (case xL22 => first | k_is | rfl)
    (case sa22 => first | k_is | rfl)
    (case ga22 => first | k_is | rfl)
    (case gg22 => first | k_is | rfl)
    (case nb22 => first | k_is | rfl)
    (case ai22 => first | k_is | rfl)
    (case ti22 => first | k_is | rfl)
    (case l29 => first | k_is | rfl)
    (case c29 => first | k_is | rfl)
    (case k29 => first | k_is | rfl)
    (case kC22 => first | k_is | rfl)
    (case eC22 => first | k_is | rfl)
    (case tC22 => first | k_is | rfl)
    (case hC22 => first | k_is | rfl)
    (case iC22 => first | k_is | rfl)
    (case xL23 => first | k_is | rfl)
    (case sa23 => first | k_is | rfl)
    (case ga23 => first | k_is | rfl)
    (case gg23 => first | k_is | rfl)
    (case nb23 => first | k_is | rfl)
    (case ai23 => first | k_is | rfl)
    (case ti23 => first | k_is | rfl)
    (case l30 => first | k_is | rfl)
    (case c30 => first | k_is | rfl)
    (case k30 => first | k_is | rfl)
    (case kC23 => first | k_is | rfl)
    (case eC23 => first | k_is | rfl)
    (case tC23 => first | k_is | rfl)
    (case hC23 => first | k_is | rfl)
    (case iC23 => first | k_is | rfl)
    (case bg2 => first | k_is | rfl)
    (case br2 => first | k_is | rfl)
    (case bf2 => first | k_is | rfl)
    (case xL24 => first | k_is | rfl)
    (case ai24 => first | k_is | rfl)
    (case ti24 => first | k_is | rfl)
    (case l31 => first | k_is | rfl)
    (case c31 => first | k_is | rfl)
    (case k31 => first | k_is | rfl)
    (case kC24 => first | k_is | rfl)
    (case eC24 => first | k_is | rfl)
    (case tC24 => first | k_is | rfl)
    (case iC24 => first | k_is | rfl)
    (case xL25 => first | k_is | rfl)
    (case ai25 => first | k_is | rfl)
    (case ti25 => first | k_is | rfl)
    (case l32 => first | k_is | rfl)
    (case c32 => first | k_is | rfl)
    (case k32 => first | k_is | rfl)
    (case kC25 => first | k_is | rfl)
    (case eC25 => first | k_is | rfl)
    (case tC25 => first | k_is | rfl)
    (case iC25 => first | k_is | rfl)
    (case xL26 => first | k_is | rfl)
    (case ai26 => first | k_is | rfl)
    (case ti26 => first | k_is | rfl)
    (case l33 => first | k_is | rfl)
    (case c33 => first | k_is | rfl)
    (case k33 => first | k_is | rfl)
    (case kC26 => first | k_is | rfl)
    (case eC26 => first | k_is | rfl)
    (case tC26 => first | k_is | rfl)
    (case iC26 => first | k_is | rfl)
    (case xL1 => first | k_is | rfl)
    (case sa1 => first | k_is | rfl)
    (case eC1 => first | k_is | rfl)
    (case tC1 => first | k_is | rfl)
    (case bi1 => first | k_is | rfl)
    (case kC1 => first | k_is | rfl)
    (case bq0 => first | k_is | kernel_rfl)
    (case kC0 => first | k_is | rfl)
    (case bq2 => first | k_is | kernel_rfl)
    (case kC2 => first | k_is | rfl)
    (case kxc => first | k_is | rfl)
    (case kx_AbsentError => first | k_is | rfl)
    (case kx_IndexError => first | k_is | rfl)
    (case kx_InvalidChain => first | k_is | rfl)
    (case kx_InvalidChange => first | k_is | rfl)
    (case kx_InvalidInteger => first | k_is | rfl)
    (case kx_InvalidLine => first | k_is | rfl)
    (case kx_InvalidLines => first | k_is | rfl)
    (case kx_InvalidMark => first | k_is | rfl)
    (case kx_InvalidMarks => first | k_is | rfl)
    (case kx_InvalidName => first | k_is | rfl)
    (case kx_InvalidPage => first | k_is | rfl)
    (case kx_InvalidRow => first | k_is | rfl)
    (case kx_InvalidState => first | k_is | rfl)
    (case kx_InvalidStep => first | k_is | rfl)
    (case kx_InvalidStock => first | k_is | rfl)
    (case kx_InvalidText => first | k_is | rfl)
    (case kx_InvalidWords => first | k_is | rfl)
    (case kx_KeyError => first | k_is | rfl)
    (case kx_LookupError => first | k_is | rfl)
    (case kx_NoChain => first | k_is | rfl)
    (case kx_NoInput => first | k_is | rfl)
    (case kx_NoLetter => first | k_is | rfl)
    (case kx_NoStep => first | k_is | rfl)
    (case kx_NoStock => first | k_is | rfl)
    (case kx_NotOver => first | k_is | rfl)
    (case kx_NothingToRedo => first | k_is | rfl)
    (case kx_NothingToUndo => first | k_is | rfl)
    (case kx_ReflowError => first | k_is | rfl)
    (case kx_StateError => first | k_is | rfl)
    (case kx_TooMany => first | k_is | rfl)
    (case kx_ValueError => first | k_is | rfl)
    (case z0 => first | k_is | rfl)
    (case z1 => first | k_is | rfl)
    (case z2 => first | k_is | rfl)
    (case z3 => first | k_is | rfl)
    (case z4 => first | k_is | rfl)
    (case z5 => first | k_is | rfl)
    (case z6 => first | k_is | rfl)
    (case z7 => first | k_is | rfl)
    (case z8 => first | k_is | rfl)
    (case z9 => first | k_is | rfl)
    (case z10 => first | k_is | rfl)
    (case z11 => first | k_is | rfl)
    (case z12 => first | k_is | rfl)
